import PyProof.Rows.All
import Wide.All
import OpenK.AllK
import Wide.FinOn
import HandS.ForMost
import HandS.Exc
import HandS.TryOnly
import HandS.ExcOwn
import HandS.CallSlots
import HandS.Deep
import HandS.Conv
import HandS.Zip
import HandS.IsInst
import HandS.Text
import HandS.Codes
import KE.SortData
import KE.DataEq
import KE.DataCmp
import KE.DataMinMax
import KE.KDictKeyed
import KE.KDictLaw
import HandS.Style
import HandS.TupMul
import HandS.TupAny
import HandS.Flow
import KE.KTupSum
import HandS.TupLe
import KE.KSortTup
import KE.KDictSum
import KE.KDictCopyH
import HandS.TupSets
import PyProof.WalksMore
import KE.GoesEnum
import HandS.Iter
import HandS.ExcIs
import KE.KRevSl
import HandS.DictComp
import KE.DataFind
import PyProof.DictStraight
import PyProof.SeqIndex
import PyProof.EqAt
import PyProof.RulesAssignMore
import HandS.TryMany
import PySem.Challenge.RW_cubewright_k08_whole_needed_cubes
set_option Elab.async false
set_option linter.all false
/-! The evaluator: a small language of pure values, its meaning. -/
namespace Q
open PySem PySem.W

abbrev D := PyData
/-- what an evaluation comes to -/
inductive R (α : Type) where
  | ok (a : α)
  | exc (c : Nat)
  | bad
namespace R
def bind {α β : Type} (x : R α) (f : α → R β) : R β :=
  match x with
  | .ok a => f a
  | .exc c => .exc c
  | .bad => .bad
instance : Monad R where
  pure := .ok
  bind := bind
end R

/-- the kinds that isinstance may ask for -/
inductive Ty where
  | int | bool | str | tuple | list | dict
  deriving DecidableEq
/-- operations on values -/
inductive Op where
  | add | sub | mul | fdiv | mod | pow | neg | band | bor | inv | shl | shr
  | lt | le | gt | ge | eq | ne | isin | notin | isN | isNN | isB | isNB
  | ix | slc (lo hi : Bool) | rev
  | len | tuple | list | int | sorted | sset | lset | isi (t : Ty) | isx (c : Nat) | all | any | min | max | min2 | max2 | sum | abs
  | index | count | get | getd | lrng (n : Nat) | trng (n : Nat)
  | tup | lst | not
  | join (x : PySem.Str) | split (x : PySem.Str)
  deriving DecidableEq

mutual
/-- expressions -/
inductive E where
  | v (i : Nat)
  | c (d : D)
  | g (i : Nat)
  | op (o : Op) (es : Es)
  | call (f : Nat) (es : Es)
  | and (a b : E)
  | or (a b : E)
  | ite (t : T) (a b : E)
  | chn (o o' : Op) (a b c : E)
  | comp (elt : E) (tg : Tg) (it : I) (t : Option T)
  | comp2 (elt : E) (tg : Tg) (it : I) (t : Option T) (tg' : Tg) (it' : I) (t' : Option T)
  | dcomp (k v : E) (tg : Tg) (it : I) (t : Option T)
inductive Es where
  | nil
  | cons (e : E) (es : Es)
/-- tests -/
inductive T where
  | e (a : E)
  | cmp (o : Op) (a b : E)
  | chn (o o' : Op) (a b c : E)
  | not (t : T)
  | and (t u : T)
  | or (t u : T)
  | one (t : T)
/-- what is walked -/
inductive I where
  | e (a : E)
  | rng (es : Es)
  | zip (es : Es)
  | enum (a : E)
  | vals (a : E)
  | items (a : E)
/-- targets -/
inductive Tg where
  | n (i : Nat)
  | t (l : Tgs)
inductive Tgs where
  | nil
  | cons (a : Tg) (l : Tgs)
end

/-- what an except suite does: it returns something written, perhaps by the class of what was raised -/
inductive HB where
  | ret (d : D)
  | sel (c : Nat) (a b : D)
  | isx (c : Nat)
abbrev Hs := List (Nat × HB)
mutual
inductive S where
  | asg (tg : Tg) (e : E)
  | par (is : List Nat) (es : Es)
  | expr (e : E)
  | app (i : Nat) (e : E)
  | ext (i : Nat) (e : E)
  | pop (i : Nat)
  | popv (tg : Tg) (i : Nat)
  | seti (i : Nat) (k e : E)
  | dpop (i : Nat) (k : E)
  | sort (i : Nat)
  | rem (i : Nat) (e : E)
  | aug (i : Nat) (o : Op) (e : E)
  | ret (e : E)
  | retn
  | ifs (t : T) (a b : Ss)
  | for (tg : Tg) (it : I) (body : Ss) (w : List Nat)
  | while (t : T) (body : Ss) (w : List Nat)
  | raise (c : Nat)
  | try (body : Ss) (hs : Hs)
  | frz (is : List Nat)
  | mov (i j : Nat)
  | brk | cont | pass
  | halt
  | augi (i : Nat) (k : E) (o : Op) (e : E)
  | asgd (i : Nat) (e : E)
  | ifd (t : T) (a b : Ss)
  | augd (i : Nat) (a k : E) (o : Op) (e : E)
inductive Ss where
  | nil
  | cons (s : S) (l : Ss)
end

/-! ### values -/
abbrev LIM : Nat := 16777216
def isMut : D → Bool
  | .list _ => true
  | .dict _ => true
  | _ => false
mutual
/-- no list and no dict in it -/
def imm : D → Bool
  | .tuple xs => immAll xs
  | .list _ => false
  | .dict _ => false
  | _ => true
def immAll : List D → Bool
  | [] => true
  | x :: xs => imm x && immAll xs
end
/-- its items are such -/
def immIn : D → Bool
  | .list xs => immAll xs
  | .dict kvs => immAll (kvs.map (·.1)) && immAll (kvs.map (·.2))
  | d => imm d
/-- it may be compared, looked for -/
def dOk (d : D) : Bool := d.plain && decide (d.depth ≤ 100)
def allOk : List D → Bool
  | [] => true
  | x :: xs => dOk x && allOk xs
def tyIs : Ty → D → Bool
  | .int, .int _ => true
  | .int, .bool _ => true
  | .bool, .bool _ => true
  | .str, .str _ => true
  | .tuple, .tuple _ => true
  | .list, .list _ => true
  | .dict, .dict _ => true
  | _, _ => false
def truth : D → R Bool
  | .none => .ok false
  | .bool b => .ok b
  | .int i => .ok (i != 0)
  | .str x => if x.length ≤ LIM then .ok ((x.length : Int) != 0) else .bad
  | .list xs => .ok (!xs.isEmpty)
  | .tuple xs => .ok (!xs.isEmpty)
  | .dict _ => .bad
def itemAt (xs : List D) (i : Int) : Option D := L2.atI xs i
def cut {α : Type} (xs : List α) (lo hi : Option Int) : List α := (xs.drop (HT.sIx xs.length 0 lo)).take (HT.sIx xs.length xs.length hi - HT.sIx xs.length 0 lo)
def dget (kvs : List (D × D)) (k : D) : Option D :=
  match kvs with
  | [] => none
  | p :: r => if PyData.eqv p.1 k then some p.2 else dget r k
def dput (kvs : List (D × D)) (k v : D) : List (D × D) :=
  match kvs with
  | [] => [(k, v)]
  | p :: r => if PyData.eqv p.1 k then (p.1, v) :: r else p :: dput r k v
def ddel (kvs : List (D × D)) (k : D) : List (D × D) :=
  match kvs with
  | [] => []
  | p :: r => if PyData.eqv p.1 k then r else p :: ddel r k
/-- lists in order -/
def ins {α : Type} (le : α → α → Bool) (x : α) : List α → List α
  | [] => [x]
  | y :: r => if le x y then x :: y :: r else y :: ins le x r
def isort {α : Type} (le : α → α → Bool) : List α → List α
  | [] => []
  | x :: r => ins le x (isort le r)
def dle (a b : D) : Bool := !dataLt b a
def alikeTo (x : D) : List D → Bool
  | [] => true
  | y :: r => alike x y && alikeTo x r
def alikes : List D → List D → Bool
  | [], _ => true
  | x :: r, l => alikeTo x l && alikes r l
def srtOne : D → Bool
  | .none => false
  | .tuple [] => false
  | _ => true
def isTupD : D → Bool
  | .tuple _ => true
  | _ => false
/-- tuples, the first of them () -/
def tup0 : List D → Bool
  | .tuple [] :: r => r.all isTupD
  | _ => false
/-- data that may be sorted: alike, none of them None; () among them only as the first -/
def srtOk (xs : List D) : Bool := alikes xs xs && (xs.all srtOne || tup0 xs) && allOk xs
def dedup : List D → List D
  | [] => []
  | x :: r => x :: (dedup r).filter fun y => !PyData.eqv y x
def bools : List D → Option (List Bool)
  | [] => some []
  | .bool b :: r => (bools r).map (b :: ·)
  | _ => none
def intsOf : List D → Option (List Int)
  | [] => some []
  | .int i :: r => (intsOf r).map (i :: ·)
  | _ => none
def seqOf : D → Option (List D)
  | .list xs => some xs
  | .tuple xs => some xs
  | _ => none
def memb (x : D) : List D → Bool
  | [] => false
  | y :: r => PyData.eqv y x || memb x r
def placeOf (x : D) : List D → Option Nat
  | [] => none
  | y :: r => if PyData.eqv y x then some 0 else (placeOf x r).map (· + 1)
def cnt (x : D) : List D → Nat
  | [] => 0
  | y :: r => (if PyData.eqv y x then 1 else 0) + cnt x r

def isStrD : D → Bool
  | .str _ => true
  | _ => false
/-- a tuple that may be a key -/
def keyT (d : D) : Bool := isTupD d && imm d && decide (d.depth ≤ 8)
/-- all keys are such tuples -/
def keysT : List (D × D) → Bool
  | [] => true
  | p :: r => keyT p.1 && keysT r
/-- the key is of the kind of the dict's keys -/
def keyOk (kvs : List (D × D)) : D → Bool
  | .str _ => !kvs.isEmpty && kvs.all fun p => isStrD p.1
  | .tuple xs => keyT (.tuple xs) && keysT kvs
  | _ => false
/-! ### operations -/
def sAdd : List D → R D
  | [.int i, .int j] => .ok (.int (i + j))
  | [.str x, .str y] => if x.length + y.length ≤ LIM then .ok (.str (x ++ y)) else .bad
  | [.list xs, .list ys] => if xs.length + ys.length ≤ LIM then .ok (.list (xs ++ ys)) else .bad
  | [.tuple xs, .tuple ys] => if xs.length + ys.length ≤ LIM then .ok (.tuple (xs ++ ys)) else .bad
  | _ => .bad
def sSub : List D → R D
  | [.int i, .int j] => .ok (.int (i - j))
  | _ => .bad
def mulOk (i j : Int) : Bool := (decide (-(2 ^ 64) < i) && decide (i < 2 ^ 64)) || (decide (-(2 ^ 64) < j) && decide (j < 2 ^ 64))
def rep (n : Nat) (xs : List D) : List D :=
  match n with
  | 0 => []
  | n + 1 => xs ++ rep n xs
def sMul : List D → R D
  | [.int i, .int j] => if mulOk i j then .ok (.int (i * j)) else .bad
  | [.list xs, .int j] => if j < 2 ^ 62 && -(2 ^ 62) < j && decide (xs.length * j.toNat ≤ LIM) then .ok (.list (rep j.toNat xs)) else .bad
  | [.tuple xs, .int j] => if decide (2 ≤ j) && decide (j ≤ 1000) && !xs.isEmpty && decide (xs.length ≤ 1000) then .ok (.tuple (rep j.toNat xs)) else .bad
  | _ => .bad
def sDiv : List D → R D
  | [.int i, .int j] => if 0 < j && j < 1073741824 then .ok (.int (i / j)) else .bad
  | _ => .bad
def sMod : List D → R D
  | [.int i, .int j] => if 0 < j then .ok (.int (i % j)) else .bad
  | _ => .bad
def sPow : List D → R D
  | [.int i, .int j] => if 0 ≤ j && j ≤ 1000000 && decide (i.natAbs < 2 ^ 64) then .ok (.int (i ^ j.toNat)) else .bad
  | _ => .bad
def sNeg : List D → R D
  | [.int i] => .ok (.int (-i))
  | _ => .bad
def sInt2 (f : Int → Int → Int) : List D → R D
  | [.int i, .int j] => .ok (.int (f i j))
  | _ => .bad
def sInv : List D → R D
  | [.int i] => .ok (.int (Builtin.bitNot i))
  | _ => .bad
def sShl : List D → R D
  | [.int i, .int j] => if 0 ≤ j && j ≤ 1000000 && decide (i.natAbs < 2 ^ 64) then .ok (.int (i * 2 ^ j.toNat)) else .bad
  | _ => .bad
def sShr : List D → R D
  | [.int i, .int j] => if 0 ≤ j then .ok (.int (i / 2 ^ j.toNat)) else .bad
  | _ => .bad
/-- an order: intsOf, or other data that is alike -/
def sOrd (f : Int → Int → Bool) (g : D → D → Bool) : List D → R D
  | [.int i, .int j] => .ok (.bool (f i j))
  | [a, b] => if alike a b && srtOne a && srtOne b && dOk a && dOk b then .ok (.bool (g a b)) else .bad
  | _ => .bad
def sEq (n : Bool) : List D → R D
  | [a, b] => if dOk a && dOk b then .ok (.bool (n != PyData.eqv a b)) else .bad
  | _ => .bad
def sIn (n : Bool) : List D → R D
  | [x, .list xs] => if dOk x && allOk xs then .ok (.bool (n != memb x xs)) else .bad
  | [x, .tuple xs] => if dOk x && allOk xs then .ok (.bool (n != memb x xs)) else .bad
  | [x, .dict kvs] => if keyOk kvs x then .ok (.bool (n != (dget kvs x).isSome)) else .bad
  | _ => .bad
def isNone : D → Bool
  | .none => true
  | _ => false
def sIsN (n : Bool) : List D → R D
  | [x, .none] => .ok (.bool (n != isNone x))
  | _ => .bad
def sIsB (n : Bool) : List D → R D
  | [.bool a, .bool b] => .ok (.bool (n != (a == b)))
  | _ => .bad
def opt : Option D → R D
  | some d => .ok d
  | none => .bad
def charAt (x : PySem.Str) (i : Int) : Option D := (L2.atI x.cps.toList i).map fun c => .str ⟨#[c]⟩
def sIx : List D → R D
  | [.str x, .int i] => if x.length ≤ LIM then opt (charAt x i) else .bad
  | [.list xs, .int i] => opt (itemAt xs i)
  | [.tuple xs, .int i] => opt (itemAt xs i)
  | [.dict kvs, k] => if keyOk kvs k then opt (dget kvs k) else .bad
  | _ => .bad
def sCut (lo hi : Option Int) : D → R D
  | .list xs => .ok (.list (cut xs lo hi))
  | .tuple xs => .ok (.tuple (cut xs lo hi))
  | .str x => if x.length ≤ LIM then .ok (.str (L2.cutS x lo hi)) else .bad
  | _ => .bad
def sSlc (l h : Bool) (ds : List D) : R D :=
  match l, h, ds with
  | false, false, [a] => sCut none none a
  | true, false, [a, .int i] => sCut (some i) none a
  | false, true, [a, .int j] => sCut none (some j) a
  | true, true, [a, .int i, .int j] => sCut (some i) (some j) a
  | _, _, _ => .bad
def revS (x : PySem.Str) : PySem.Str := ⟨x.cps.toList.reverse.toArray⟩
def sRev : List D → R D
  | [.str x] => if x.length ≤ LIM then .ok (.str (revS x)) else .bad
  | [.list xs] => .ok (.list xs.reverse)
  | [.tuple xs] => .ok (.tuple xs.reverse)
  | _ => .bad
def sLen : List D → R D
  | [.list xs] => .ok (.int xs.length)
  | [.tuple xs] => .ok (.int xs.length)
  | [.str x] => if x.length ≤ LIM then .ok (.int x.length) else .bad
  | _ => .bad
def sTuple : List D → R D
  | [.list xs] => .ok (.tuple xs)
  | [.tuple xs] => .ok (.tuple xs)
  | _ => .bad
def sList : List D → R D
  | [.list xs] => .ok (.list xs)
  | [.tuple xs] => .ok (.list xs)
  | _ => .bad
def sInt : List D → R D
  | [.int i] => .ok (.int i)
  | [.bool b] => .ok (.int (if b then 1 else 0))
  | _ => .bad
def sortD (xs : List D) : R D := if srtOk xs then .ok (.list (isort dle xs)) else .bad
def sSorted : List D → R D
  | [.list xs] => sortD xs
  | [.tuple xs] => sortD xs
  | [.dict kvs] => if keysT kvs then sortD (kvs.map (·.1)) else .bad
  | _ => .bad
/-- tuples of whole numbers, of one length, that may be put into a set -/
def intT : D → Option (List Int)
  | .tuple xs => intsOf xs
  | _ => none
def ssOne (d : Nat) (x : D) : Bool :=
  match intT x with
  | some ns => decide (ns.length = d) && ns.all fun n => decide (0 ≤ n) && decide (n < 1000000)
  | none => false
def ssOk (xs : List D) : Bool :=
  decide (xs.length < 64) && match xs with
  | [] => true
  | x :: r => match intT x with
    | some ns => decide (1 ≤ ns.length) && (x :: r).all (ssOne ns.length)
    | none => false
def sSset : List D → R D
  | [.list xs] => if ssOk xs then sortD (dedup xs) else .bad
  | [.tuple xs] => if ssOk xs then sortD (dedup xs) else .bad
  | _ => .bad
def sLset : List D → R D
  | [.list xs] => if ssOk xs then .ok (.int (dedup xs).length) else .bad
  | _ => .bad
def sIsi (t : Ty) : List D → R D
  | [.dict _] => .bad
  | [x] => .ok (.bool (tyIs t x))
  | _ => .bad
def sAll (k : Bool) : List D → R D
  | [.list xs] => match bools xs with
    | some bs => .ok (.bool (if k then bs.all id else bs.any id))
    | none => .bad
  | _ => .bad
def least (f : D → List D → D) : List D → R D
  | [] => .bad
  | x :: r => if srtOk (x :: r) then .ok (f x r) else .bad
def sLeast (f : D → List D → D) : List D → R D
  | [.list xs] => least f xs
  | [.tuple xs] => least f xs
  | _ => .bad
def sMin2 (k : Bool) : List D → R D
  | [.int i, .int j] => .ok (.int (if k then (if j < i then j else i) else (if j > i then j else i)))
  | _ => .bad
def sSum : List D → R D
  | [.list xs] => match intsOf xs with
    | some ns => .ok (.int ns.sum)
    | none => .bad
  | [.tuple xs] => match intsOf xs with
    | some ns => .ok (.int ns.sum)
    | none => .bad
  | _ => .bad
def sAbs : List D → R D
  | [.int i] => .ok (.int (if i < 0 then -i else i))
  | _ => .bad
def sIndex : List D → R D
  | [a, x] => match seqOf a with
    | some xs => if dOk x && allOk xs then (match placeOf x xs with
      | some j => .ok (.int j)
      | none => .bad) else .bad
    | none => .bad
  | _ => .bad
def sCount : List D → R D
  | [.list xs, x] => if dOk x && allOk xs then .ok (.int (cnt x xs)) else .bad
  | _ => .bad
def okImm (d : D) : R D := if isMut d then .bad else .ok d
def sGet : List D → R D
  | [.dict kvs, k, x] => if keyT k && keysT kvs then okImm ((dget kvs k).getD x) else .bad
  | _ => .bad
def rngL (lo : Int) : Nat → List D
  | 0 => []
  | n + 1 => .int lo :: rngL (lo + 1) n
def rngS (lo st : Int) : Nat → List D
  | 0 => []
  | n + 1 => .int lo :: rngS (lo + st) st n
def small (i : Int) : Bool := decide (-(2 ^ 62) ≤ i) && decide (i < 2 ^ 62)
/-- the number of turns from i to j by steps of k, k not 0 -/
def turnsOf (i j k : Int) : Nat := if 0 < k then ((j - i + k - 1) / k).toNat else ((i - j - k - 1) / (-k)).toNat
def rangeD : List D → R (List D)
  | [.int j] => if small j then .ok (rngL 0 j.toNat) else .bad
  | [.int i, .int j] => if small i && small j then .ok (rngL i (j - i).toNat) else .bad
  | [.int i, .int j, .int k] => if small i && small j && decide (k ≠ 0) && decide (k.natAbs < 1073741824) then .ok (rngS i k (turnsOf i j k)) else .bad
  | _ => .bad
def sRng (f : List D → D) (ds : List D) : R D := rangeD ds >>= fun l => if l.length ≤ LIM then .ok (f l) else .bad
def sNot : List D → R D
  | [d] => truth d >>= fun b => .ok (.bool (!b))
  | _ => .bad

def strsOf : List D → Option (List PySem.Str)
  | [] => some []
  | .str x :: r => (strsOf r).map (x :: ·)
  | _ => none
def sJoin (a : PySem.Str) : List D → R D
  | [.list ys] => match strsOf ys with
    | some zs => if (zs.map (·.length)).sum + zs.length * a.length ≤ LIM then .ok (.str (PySem.Txt.join a zs)) else .bad
    | none => .bad
  | _ => .bad
def sSplit (b : PySem.Str) : List D → R D
  | [.str a] => if b.length != 0 && decide (a.length + 2 ≤ LIM) then .ok (.list ((PySem.Txt.split a b).map .str)) else .bad
  | _ => .bad
def sem (o : Op) (ds : List D) : R D :=
  match o with
  | .add => sAdd ds | .sub => sSub ds | .mul => sMul ds | .fdiv => sDiv ds | .mod => sMod ds | .pow => sPow ds
  | .neg => sNeg ds | .band => sInt2 Builtin.bitAnd ds | .bor => sInt2 Builtin.bitOr ds | .inv => sInv ds | .shl => sShl ds | .shr => sShr ds
  | .lt => sOrd (fun i j => decide (i < j)) (fun a b => dataLt a b) ds
  | .le => sOrd (fun i j => decide (i ≤ j)) (fun a b => !dataLt b a) ds
  | .gt => sOrd (fun i j => decide (j < i)) (fun a b => dataLt b a) ds
  | .ge => sOrd (fun i j => decide (j ≤ i)) (fun a b => !dataLt a b) ds
  | .eq => sEq false ds | .ne => sEq true ds | .isin => sIn false ds | .notin => sIn true ds
  | .isN => sIsN false ds | .isNN => sIsN true ds | .isB => sIsB false ds | .isNB => sIsB true ds
  | .ix => sIx ds | .slc l h => sSlc l h ds | .rev => sRev ds
  | .len => sLen ds | .tuple => sTuple ds | .list => sList ds | .int => sInt ds
  | .sorted => sSorted ds | .sset => sSset ds | .lset => sLset ds | .isi t => sIsi t ds | .isx _ => .bad
  | .all => sAll true ds | .any => sAll false ds
  | .min => sLeast minD ds | .max => sLeast maxD ds | .min2 => sMin2 true ds | .max2 => sMin2 false ds
  | .sum => sSum ds | .abs => sAbs ds | .index => sIndex ds | .count => sCount ds | .get => sGet ds | .getd => sGet ds
  | .lrng _ => sRng .list ds | .trng _ => sRng .tuple ds
  | .tup => if ds.length ≤ LIM then .ok (.tuple ds) else .bad
  | .lst => if ds.length ≤ LIM then .ok (.list ds) else .bad
  | .not => sNot ds | .join a => sJoin a ds | .split b => sSplit b ds
def semI (o : Op) (x y : D) : R D :=
  match x, y with
  | .int i, .int j => sem o [.int i, .int j]
  | _, _ => .bad
/-- what comes of it is a new list, where it is a list -/
def Op.fresh : Op → Bool
  | .add | .mul | .slc _ _ | .rev | .list | .sorted | .sset | .lrng _ | .lst | .split _ => true
  | _ => false
/-- its parts go into what comes of it -/
def Op.keeps : Op → Bool
  | .tup | .lst | .min2 | .max2 => true
  | _ => false

/-! ### the evaluator -/
abbrev Sl := Option (D × Nat)
abbrev Env := List Sl
def slot : Env → Nat → Sl
  | [], _ => none
  | x :: _, 0 => x
  | _ :: r, i + 1 => slot r i
def put : Env → Nat → Sl → Env
  | [], _, _ => []
  | _ :: r, 0, x => x :: r
  | y :: r, i + 1, x => y :: put r i x
def wipe (ρ : Env) : List Nat → Env
  | [] => ρ
  | i :: l => wipe (put ρ i none) l
structure Ctx where
  call : Nat → List D → R (D × Bool)
  gl : Nat → Option D
  fr : Nat → Bool
  sf : Nat → Bool
  sub : Nat → Nat → Bool

mutual
def Tg.bind : Tg → D → Env → R Env
  | .n i, d, ρ => .ok (put ρ i (some (d, 0)))
  | .t l, .tuple xs, ρ => Tgs.bind l xs ρ
  | .t l, .list xs, ρ => Tgs.bind l xs ρ
  | .t _, _, _ => .bad
def Tgs.bind : Tgs → List D → Env → R Env
  | .nil, [], ρ => .ok ρ
  | .cons t l, x :: xs, ρ => Tg.bind t x ρ >>= fun ρ' => Tgs.bind l xs ρ'
  | _, _, _ => .bad
end
mutual
def Tg.slots : Tg → List Nat
  | .n i => [i]
  | .t l => Tgs.slots l
def Tgs.slots : Tgs → List Nat
  | .nil => []
  | .cons t l => Tg.slots t ++ Tgs.slots l
end
/-- nothing may be raised within a comprehension -/
def quiet {α : Type} : R α → R α
  | .ok a => .ok a
  | _ => .bad
def compM {α β : Type} (f : α → R (Option β)) : List α → R (List β)
  | [] => .ok []
  | x :: xs => quiet (f x) >>= fun o => compM f xs >>= fun r => .ok (match o with | some y => y :: r | none => r)
def compM2 {α β : Type} (f : α → R (List β)) : List α → R (List β)
  | [] => .ok []
  | x :: xs => quiet (f x) >>= fun o => compM2 f xs >>= fun r => .ok (o ++ r)
def foldDict (f : D → R (Option (D × D))) : List D → List (D × D) → R (List (D × D))
  | [], acc => .ok acc
  | x :: xs, acc => quiet (f x) >>= fun o => match o with
    | some p => if keyT p.1 && decide (acc.length < LIM) then foldDict f xs (dput acc p.1 p.2) else .bad
    | none => foldDict f xs acc
def zip2 : List D → List D → List D
  | x :: xs, y :: ys => .tuple [x, y] :: zip2 xs ys
  | _, _ => []
def zipD : List D → R (List D)
  | [.list xs, .list ys] => .ok (zip2 xs ys)
  | [.tuple xs, .tuple ys] => .ok (zip2 xs ys)
  | [.tuple xs, .list ys] => .ok (zip2 xs ys)
  | _ => .bad
def enumD (i : Int) : List D → List D
  | [] => []
  | x :: r => .tuple [.int i, x] :: enumD (i + 1) r
def enumOf : D → R (List D)
  | .list xs => .ok (enumD 0 xs)
  | .tuple xs => .ok (enumD 0 xs)
  | _ => .bad
def walked : D → R (List D)
  | .list xs => .ok xs
  | .tuple xs => .ok xs
  | _ => .bad

def E.fresh (fr : Nat → Bool) : E → Bool
  | .op o _ => o.fresh
  | .call f _ => fr f
  | .ite _ a b => E.fresh fr a && E.fresh fr b
  | .comp .. => true
  | .comp2 .. => true
  | .dcomp .. => true
  | _ => false

mutual
/-- m: the value may be an owned one (it is looked at, and not kept) -/
def evE (c : Ctx) : E → Bool → Env → R D
  | .v i, m, ρ => match slot ρ i with
    | some (d, o) => if o == 0 || (m && o == 1) then .ok d else .bad
    | none => .bad
  | .c d, _, _ => .ok d
  | .g i, _, _ => match c.gl i with
    | some d => .ok d
    | none => .bad
  | .op o es, _, ρ => evEs c es (!o.keeps) ρ >>= fun ds => sem o ds
  | .call f .nil, _, ρ => quiet (c.call f []) >>= fun r => .ok r.1
  | .call f es, _, ρ => evEs c es (c.sf f) ρ >>= fun ds => c.call f ds >>= fun r => .ok r.1
  | .and a b, m, ρ => evE c a false ρ >>= fun x => match x with
    | .bool true => evE c b m ρ
    | .bool false => .ok (.bool false)
    | _ => .bad
  | .or a b, m, ρ => evE c a false ρ >>= fun x => match x with
    | .bool true => .ok (.bool true)
    | .bool false => evE c b m ρ
    | _ => .bad
  | .chn o o' a b d, _, ρ => evE c a true ρ >>= fun x => evE c b true ρ >>= fun y => sem o [x, y] >>= fun k => truth k >>= fun k => if k then evE c d true ρ >>= fun z => sem o' [y, z] else .ok (.bool false)
  | .ite t a b, m, ρ => evT c t ρ >>= fun k => if k then evE c a m ρ else evE c b m ρ
  | .comp elt tg it t, _, ρ => evI c it true ρ >>= fun xs => compM (fun d => tg.bind d (wipe ρ tg.slots) >>= fun ρ' => evTo c t ρ' >>= fun k => if k then evE c elt false ρ' >>= fun y => .ok (some y) else .ok none) xs >>= fun ys => if ys.length ≤ LIM then .ok (.list ys) else .bad
  | .comp2 elt tg it t tg' it' t', _, ρ => evI c it true ρ >>= fun xs => compM2 (fun d => tg.bind d (wipe ρ (tg.slots ++ tg'.slots)) >>= fun ρ' => evTo c t ρ' >>= fun k =>
      if k then evI c it' false ρ' >>= fun xs' => compM (fun d' => tg'.bind d' (wipe ρ' tg'.slots) >>= fun ρ'' => evTo c t' ρ'' >>= fun k' => if k' then evE c elt false ρ'' >>= fun y => .ok (some y) else .ok none) xs' else .ok []) xs >>= fun ys => if ys.length ≤ LIM then .ok (.list ys) else .bad
  | .dcomp k v tg it t, _, ρ => evI c it true ρ >>= fun xs => foldDict (fun d => tg.bind d (wipe ρ tg.slots) >>= fun ρ' => evTo c t ρ' >>= fun b => if b then evE c k false ρ' >>= fun x => evE c v false ρ' >>= fun y => .ok (some (x, y)) else .ok none) xs [] >>= fun kvs => .ok (.dict kvs)
def evEs (c : Ctx) : Es → Bool → Env → R (List D)
  | .nil, _, _ => .ok []
  | .cons e es, m, ρ => evE c e m ρ >>= fun d => evEs c es m ρ >>= fun ds => .ok (d :: ds)
def evT (c : Ctx) : T → Env → R Bool
  | .e a, ρ => evE c a true ρ >>= fun d => truth d
  | .cmp o a b, ρ => evE c a true ρ >>= fun x => evE c b true ρ >>= fun y => sem o [x, y] >>= fun d => truth d
  | .chn o o' a b d, ρ => evE c a true ρ >>= fun x => evE c b true ρ >>= fun y => sem o [x, y] >>= fun k => truth k >>= fun k => if k then evE c d true ρ >>= fun z => sem o' [y, z] >>= fun d => truth d else .ok false
  | .not t, ρ => evT c t ρ >>= fun k => .ok (!k)
  | .and t u, ρ => evT c t ρ >>= fun k => if k then evT c u ρ else .ok false
  | .or t u, ρ => evT c t ρ >>= fun k => if k then .ok true else evT c u ρ
  | .one t, ρ => evT c t ρ
def evTo (c : Ctx) : Option T → Env → R Bool
  | none, _ => .ok true
  | some t, ρ => evT c t ρ
def evI (c : Ctx) : I → Bool → Env → R (List D)
  | .e a, m, ρ => evE c a m ρ >>= fun d => walked d
  | .rng es, m, ρ => evEs c es true ρ >>= fun ds => rangeD ds
  | .zip es, m, ρ => evEs c es m ρ >>= fun ds => zipD ds
  | .enum a, m, ρ => evE c a m ρ >>= fun d => enumOf d
  | .vals a, m, ρ => evE c a m ρ >>= fun d => match d with
    | .dict kvs => .ok (kvs.map (·.2))
    | _ => .bad
  | .items a, m, ρ => evE c a m ρ >>= fun d => match d with
    | .dict kvs => .ok (kvs.map fun p => .tuple [p.1, p.2])
    | _ => .bad
end
/-- what a statement comes to -/
inductive F where
  | nx (ρ : Env)
  | rt (d : D) (o : Bool)
  | bk (ρ : Env)
  | ct (ρ : Env)
  | ex (c : Nat) (ρ : Env)
  | bad
def toF {α : Type} (ρ : Env) (x : R α) (f : α → F) : F :=
  match x with
  | .ok a => f a
  | .exc c => .ex c ρ
  | .bad => .bad
def forL (step : D → Env → F) (w : List Nat) : List D → Env → F
  | [], ρ => .nx (wipe ρ w)
  | d :: ds, ρ => match step d (wipe ρ w) with
    | .nx ρ' => forL step w ds ρ'
    | .ct ρ' => forL step w ds ρ'
    | .bk ρ' => .nx (wipe ρ' w)
    | r => r
def whileL (t : Env → R Bool) (step : Env → F) (w : List Nat) : Nat → Env → F
  | 0, _ => .bad
  | n + 1, ρ => toF (wipe ρ w) (t (wipe ρ w)) fun k => if k then (match step (wipe ρ w) with
    | .nx ρ' => whileL t step w n ρ'
    | .ct ρ' => whileL t step w n ρ'
    | .bk ρ' => .nx (wipe ρ' w)
    | r => r) else .nx (wipe ρ w)
abbrev FUEL : Nat := 1048576
/-- an owned list, dict -/
def owned (ρ : Env) (i : Nat) : Option D :=
  match slot ρ i with
  | some (d, 1) => some d
  | _ => none
def freeze (ρ : Env) : List Nat → Env
  | [] => ρ
  | i :: l => freeze (match slot ρ i with | some (d, o) => if o == 2 then put ρ i none else put ρ i (some (d, 0)) | none => ρ) l
def puts (ρ : Env) : List Nat → List Sl → Env
  | i :: l, x :: r => puts (put ρ i x) l r
  | _, _ => ρ
def flag (b : Bool) (d : D) : Nat := if b && isMut d then 1 else 0
def Es.flags (fr : Nat → Bool) : Es → List D → List Sl
  | .cons e es, d :: ds => some (d, flag (e.fresh fr) d) :: Es.flags fr es ds
  | _, _ => []
/-- the value of an expression that is kept, with whether it is owned; a name alone is handed over -/
def evR (c : Ctx) (e : E) (ρ : Env) : R (D × Bool) :=
  match e with
  | .v i => match slot ρ i with
    | some (d, o) => if o == 2 then .bad else .ok (d, o != 0)
    | none => .bad
  | e => evE c e false ρ >>= fun d => .ok (d, e.fresh c.fr && isMut d)
def evH (sub : Nat → Nat → Bool) (x : Nat) : HB → D
  | .ret d => d
  | .sel c a b => if sub x c then a else b
  | .isx c => .bool (sub x c)
def evHs (sub : Nat → Nat → Bool) : Hs → Nat → Env → F
  | [], x, ρ => .ex x ρ
  | (h, b) :: l, x, ρ => if sub x h then .rt (evH sub x b) false else evHs sub l x ρ
def augiF (xs : List D) (x : D) (f : D → Nat → F) : F :=
  match x with
  | .int j => if 0 ≤ j then match xs[j.toNat]? with
    | some old => f old j.toNat
    | none => .bad else .bad
  | _ => .bad
/-- no slot is deeply owned -/
def noDeep : Env → Bool
  | [] => true
  | some (_, 2) :: _ => false
  | _ :: r => noDeep r
/-- what is deeply owned is looked at -/
def view : Env → Env
  | [] => []
  | some (d, 2) :: r => some (d, 0) :: view r
  | x :: r => x :: view r
def isDictD : D → Bool
  | .dict _ => true
  | _ => false
/-- a comprehension whose items are new things, each -/
def newItems (fr : Nat → Bool) : E → Bool
  | .comp (.call f (.cons _ _)) _ _ none => fr f
  | _ => false
def augdF (ds : List D) (x : D) (f : List (D × D) → Nat → F) : F :=
  match x with
  | .int j => if 0 ≤ j then match ds[j.toNat]? with
    | some (.dict kvs) => f kvs j.toNat
    | _ => .bad else .bad
  | _ => .bad
mutual
def evS (c : Ctx) : S → Env → F
  | .asg (.n i) e, ρ => toF ρ (evE c e false ρ) fun d => .nx (put ρ i (some (d, flag (e.fresh c.fr) d)))
  | .asg tg e, ρ => toF ρ (evE c e false ρ) fun d => toF ρ (tg.bind d ρ) fun ρ' => .nx ρ'
  | .par is es, ρ => toF ρ (evEs c es false ρ) fun ds => .nx (puts ρ is (Es.flags c.fr es ds))
  | .expr e, ρ => toF ρ (evE c e true ρ) fun _ => .nx ρ
  | .app i e, ρ => match owned ρ i with
    | some (.list xs) => toF ρ (evE c e false ρ) fun d => if xs.length < LIM then .nx (put ρ i (some (.list (xs ++ [d]), 1))) else .bad
    | _ => .bad
  | .ext i e, ρ => match owned ρ i with
    | some (.list xs) => toF ρ (evE c e false ρ) fun d => match e.fresh c.fr, d with
      | true, .list ys => if xs.length + ys.length ≤ LIM then .nx (put ρ i (some (.list (xs ++ ys), 1))) else .bad
      | _, _ => .bad
    | _ => .bad
  | .pop i, ρ => match owned ρ i with
    | some (.list xs) => match xs.getLast? with
      | some _ => .nx (put ρ i (some (.list xs.dropLast, 1)))
      | none => .bad
    | _ => .bad
  | .popv tg i, ρ => match owned ρ i with
    | some (.list xs) => match xs.getLast? with
      | some d => toF ρ (tg.bind d (put ρ i (some (.list xs.dropLast, 1)))) fun ρ' => .nx ρ'
      | none => .bad
    | _ => .bad
  | .seti i k e, ρ => match owned ρ i with
    | some o => toF ρ (evE c e false ρ) fun d => toF ρ (evE c k false ρ) fun x => match o, x with
      | .list xs, .int j => match L2.ixN xs.length j with
        | some n => .nx (put ρ i (some (.list (xs.set n d), 1)))
        | none => .bad
      | .dict kvs, x => if keyT x && keysT kvs && decide (kvs.length < LIM) then .nx (put ρ i (some (.dict (dput kvs x d), 1))) else .bad
      | _, _ => .bad
    | none => .bad
  | .dpop i k, ρ => match owned ρ i with
    | some (.dict kvs) => toF ρ (evE c k false ρ) fun x => if keyT x && keysT kvs && (dget kvs x).isSome then .nx (put ρ i (some (.dict (ddel kvs x), 1))) else .bad
    | _ => .bad
  | .sort i, ρ => match owned ρ i with
    | some (.list xs) => toF ρ (sortD xs) fun d => .nx (put ρ i (some (d, 1)))
    | _ => .bad
  | .rem i e, ρ => toF ρ (evE c e false ρ) fun x => match owned ρ i with
    | some (.list xs) => if dOk x && allOk xs then (match placeOf x xs with
      | some j => .nx (put ρ i (some (.list (xs.eraseIdx j), 1)))
      | none => .bad) else .bad
    | _ => .bad
  | .aug i o e, ρ => toF ρ (evE c (.v i) false ρ) fun x => toF ρ (evE c e false ρ) fun y => toF ρ (semI o x y) fun d => .nx (put ρ i (some (d, 0)))
  | .ret e, ρ => toF ρ (evR c e ρ) fun r => .rt r.1 r.2
  | .retn, _ => .rt .none false
  | .ifs t a b, ρ => toF ρ (evT c t ρ) fun k => if k then evSs c a ρ else evSs c b ρ
  | .for tg it body w, ρ => toF ρ (evI c it false ρ) fun xs => forL (fun d ρ => toF ρ (tg.bind d ρ) fun ρ' => evSs c body ρ') w xs ρ
  | .while t body w, ρ => whileL (fun ρ => evT c t ρ) (fun ρ => evSs c body ρ) w FUEL ρ
  | .raise x, ρ => .ex x ρ
  | .try body hs, ρ => match evSs c body ρ with
    | .ex x ρ' => if c.sub x x then evHs c.sub hs x ρ' else .bad
    | r => r
  | .frz is, ρ => .nx (freeze ρ is)
  | .mov i j, ρ => match slot ρ j with
    | some (d, 0) => .nx (put (put ρ j none) i (some (d, 0)))
    | some (d, 1) => .nx (put (put ρ j none) i (some (d, 1)))
    | _ => .bad
  | .brk, ρ => .bk ρ
  | .cont, ρ => .ct ρ
  | .pass, ρ => .nx ρ
  | .halt, _ => .bad
  | .augi i k o e, ρ => match owned ρ i with
    | some (.list xs) => toF ρ (evE c k true ρ) fun x => augiF xs x fun old n => toF ρ (evE c e true ρ) fun y => toF ρ (semI o old y) fun d => .nx (put ρ i (some (.list (xs.set n d), 1)))
    | _ => .bad
  | .asgd i e, ρ => if newItems c.fr e && noDeep ρ then toF ρ (evE c e false ρ) fun d => match d with
    | .list ds => if ds.all isDictD then .nx (put ρ i (some (d, 2))) else .bad
    | _ => .bad else .bad
  | .ifd t a b, ρ => toF ρ (evT c t (view ρ)) fun k => if k then evSs c a ρ else evSs c b ρ
  | .augd i a k o e, ρ => match slot ρ i with
    | some (.list ds, 2) => toF ρ (evE c a true ρ) fun x => augdF ds x fun kvs n => toF ρ (evE c k false ρ) fun y => if keyT y && keysT kvs && decide (kvs.length < LIM) then (match dget kvs y with
      | some (.int old) => toF ρ (evE c e true ρ) fun z => toF ρ (semI o (.int old) z) fun w => .nx (put ρ i (some (.list (ds.set n (.dict (dput kvs y w))), 2)))
      | _ => .bad) else .bad
    | _ => .bad
def evSs (c : Ctx) : Ss → Env → F
  | .nil, ρ => .nx ρ
  | .cons s l, ρ => match evS c s ρ with
    | .nx ρ' => evSs c l ρ'
    | r => r
end
structure Fn where
  np : Nat
  ns : Nat
  fr : Bool
  sf : Bool
  body : Ss
/-- which class stands under which, as a table -/
def subOf (t : List (List Nat)) (a b : Nat) : Bool :=
  match t[a]? with
  | some l => l.contains b
  | none => false
structure Tab where
  fns : List Fn
  gls : List D
  sub : Nat → Nat → Bool
def Tab.fn (t : Tab) (f : Nat) : Option Fn := t.fns[f]?
def fits (fn : Fn) (d : D) (o : Bool) : R (D × Bool) := if (fn.fr && isMut d && !o) || (fn.sf && !(imm d || (o && immIn d))) then .bad else .ok (d, o)
def entry (n : Nat) (ds : List D) : Env := ds.map (fun d => some (d, 0)) ++ List.replicate (n - ds.length) none
def run (c : Ctx) (fn : Fn) (ds : List D) : R (D × Bool) :=
  if ds.length = fn.np then (match evSs c fn.body (entry fn.ns ds) with
    | .rt d o => fits fn d o
    | .nx _ => fits fn .none false
    | .ex x _ => .exc x
    | _ => .bad) else .bad
def Tab.ctx (t : Tab) (call : Nat → List D → R (D × Bool)) : Ctx where
  call := call
  gl := fun i => t.gls[i]?
  fr := fun f => match t.fn f with | some fn => fn.fr | none => false
  sf := fun f => match t.fn f with | some fn => fn.sf | none => false
  sub := t.sub
def callF (t : Tab) : Nat → Nat → List D → R (D × Bool)
  | 0, _, _ => .bad
  | k + 1, f, ds => match t.fn f with
    | some fn => run (t.ctx (callF t k)) fn ds
    | none => .bad
end Q
set_option Elab.async false
set_option linter.all false
set_option maxRecDepth 100000
/-! What represents what; the frame of the heap; the readings of expressions. -/
namespace Q
open PySem PySem.W PySem.Spec L2
open PyProof.Rows hiding St

/-- the module's objects, with the program and the world in which they stand -/
structure Frag where
  k : PySem.W.Frag
  P : Program
  w : World
instance : Coe Frag PySem.W.Frag := ⟨Frag.k⟩
abbrev _root_.L2.Cx.kw (X : L2.Cx) : Frag := ⟨X.K, X.prog, X.w⟩
mutual
/-- the key that a piece of data is -/
def nk : D → NestedKey
  | .none => .none
  | .bool b => .num (if b = true then 1 else 0)
  | .int i => .num i
  | .str x => .text x
  | .tuple xs => .tup (nks xs)
  | .list _ => .none
  | .dict _ => .none
def nks : List D → List NestedKey
  | [] => []
  | x :: xs => nk x :: nks xs
end
/-- a dict whose keys are tuples: its entries -/
def DXO (P : Program) (w : World) (a : Addr) (xs : List (NestedKey × Addr × Value)) : HO := .ext fun h => xs.length ≤ sizeLine ∧ (a == sysModules) = false ∧
  ∃ o es ep, h.get? a = some o ∧ o.ExactDict ∧ o.data = .dict es ep ∧ es.toList = xs.map (entryOfKey (nestedKind P w)) ∧ (xs.map (·.1)).Nodup

/-- the pairs of a dict -/
def mkKv (ks ds : List D) : List (D × D) := ks.zip ds
/-- written entries, text keys -/
def KEnt : List DictEntry → List Str → List V → Prop
  | [], [], [] => True
  | e :: es, x :: ks, v :: vs => (∃ t, e.key = .str x t) ∧ L2.RelV v e.val ∧ KEnt es ks vs
  | _, _, _ => False
mutual
/-- v is, in the abstract heap H, the data d -/
inductive Rp (K : Frag) (H : Hp) : V → D → Prop
  | non : Rp K H .non .none
  | bl (b : Bool) : Rp K H (.bl b) (.bool b)
  | int (i : Int) : Rp K H (.int i) (.int i)
  | str (x : Str) : Rp K H (.str x) (.str x)
  | lst {a : Addr} {xs : List V} {ds : List D} : Rd H a (.lst xs) → RpAll K H xs ds → Rp K H (.ref a) (.list ds)
  | tup {a : Addr} {xs : List V} {ds : List D} : SqT K H a xs → RpAll K H xs ds → Rp K H (.ref a) (.tuple ds)
  | kdc {a : Addr} {es : Array DictEntry} {n : Nat} {ks : List Str} {vs : List V} {ds : List D} : K.k.lookup a = some ⟨.type "dict", none, .dict es n, #[]⟩ → KEnt es.toList ks vs → ks ≠ [] → RpAll K H vs ds → Rp K H (.ref a) (.dict (mkKv (ks.map .str) ds))
  | dct {a : Addr} {xs : List (NestedKey × Addr × Value)} {kvs : List (D × D)} : Rd H a (DXO K.P K.w a xs) → RpEnt K H xs kvs → Rp K H (.ref a) (.dict kvs)
inductive RpAll (K : Frag) (H : Hp) : List V → List D → Prop
  | nil : RpAll K H [] []
  | cons {v : V} {vs : List V} {d : D} {ds : List D} : Rp K H v d → RpAll K H vs ds → RpAll K H (v :: vs) (d :: ds)
/-- entries, tuple keys -/
inductive RpEnt (K : Frag) (H : Hp) : List (NestedKey × Addr × Value) → List (D × D) → Prop
  | nil : RpEnt K H [] []
  | cons {b : Addr} {u : Value} {v : V} {xs : List (NestedKey × Addr × Value)} {dk dv : D} {kvs : List (D × D)} : Rp K H (.ref b) dk → keyT dk = true → L2.RelV v u → Rp K H v dv → RpEnt K H xs kvs → RpEnt K H ((nk dk, b, u) :: xs) ((dk, dv) :: kvs)
end

section
variable {K : Frag} {H H' Hf Hf' Hf2 H2 : Hp} {v : V} {d : D} {vs ws : List V} {ds es : List D}
theorem rd_mono (s : Same H H') {a : Addr} {o : HO} (h : Rd H a o) : Rd H' a o := by
  rcases h with h | ⟨u, h⟩
  · exact .inl (s _ _ h)
  · exact .inr ⟨u, s _ _ h⟩
theorem sqT_mono (s : Same H H') {a : Addr} {xs : List V} (h : SqT K H a xs) : SqT K H' a xs := by
  rcases h with (h | ⟨o, h⟩) | h
  · exact .inl (.inl (s _ _ h))
  · exact .inl (.inr ⟨o, s _ _ h⟩)
  · exact .inr h
mutual
theorem Rp.mono (s : Same H H') : ∀ {v : V} {d : D}, Rp K H v d → Rp K H' v d
  | _, _, .non => .non
  | _, _, .bl b => .bl b
  | _, _, .int i => .int i
  | _, _, .str x => .str x
  | _, _, .lst h r => .lst (rd_mono s h) (RpAll.mono s r)
  | _, _, .tup h r => .tup (sqT_mono s h) (RpAll.mono s r)
  | _, _, .kdc h e n r => .kdc h e n (RpAll.mono s r)
  | _, _, .dct h r => .dct (rd_mono s h) (RpEnt.mono s r)
theorem RpAll.mono (s : Same H H') : ∀ {vs : List V} {ds : List D}, RpAll K H vs ds → RpAll K H' vs ds
  | _, _, .nil => .nil
  | _, _, .cons r t => .cons (Rp.mono s r) (RpAll.mono s t)
theorem RpEnt.mono (s : Same H H') : ∀ {xs : List (NestedKey × Addr × Value)} {kvs : List (D × D)}, RpEnt K H xs kvs → RpEnt K H' xs kvs
  | _, _, .nil => .nil
  | _, _, .cons k t e v r => .cons (Rp.mono s k) t e (Rp.mono s v) (RpEnt.mono s r)
end
theorem RpAll.len (h : RpAll K H vs ds) : vs.length = ds.length := by
  induction ds generalizing vs with
  | nil => cases h; rfl
  | cons d ds ih => cases h with | cons r t => simp [ih t]
theorem RpAll.app (h : RpAll K H vs ds) (g : RpAll K H ws es) : RpAll K H (vs ++ ws) (ds ++ es) := by
  induction ds generalizing vs with
  | nil => cases h; exact g
  | cons d ds ih => cases h with | cons r t => exact .cons r (ih t)
theorem RpAll.get (h : RpAll K H vs ds) {i : Nat} {d : D} (e : ds[i]? = some d) : ∃ v, vs[i]? = some v ∧ Rp K H v d := by
  induction ds generalizing vs i with
  | nil => simp at e
  | cons x ds ih =>
    cases h with
    | cons r t =>
      cases i with
      | zero => simp at e; subst e; exact ⟨_, rfl, r⟩
      | succ i => obtain ⟨v, h1, h2⟩ := ih t (by simpa using e); exact ⟨v, by simpa using h1, h2⟩
theorem RpAll.get' (h : RpAll K H vs ds) {i : Nat} {v : V} (e : vs[i]? = some v) : ∃ d, ds[i]? = some d ∧ Rp K H v d := by
  induction ds generalizing vs i with
  | nil => cases h; simp at e
  | cons x ds ih =>
    cases h with
    | cons r t =>
      cases i with
      | zero => simp at e; subst e; exact ⟨_, rfl, r⟩
      | succ i => obtain ⟨v, h1, h2⟩ := ih t (by simpa using e); exact ⟨v, by simpa using h1, h2⟩
theorem RpAll.drop (h : RpAll K H vs ds) (n : Nat) : RpAll K H (vs.drop n) (ds.drop n) := by
  induction n generalizing vs ds with
  | zero => simpa using h
  | succ n ih => cases h with
    | nil => simpa using (RpAll.nil (K := K) (H := H))
    | cons r t => simpa using ih t
theorem RpAll.take (h : RpAll K H vs ds) (n : Nat) : RpAll K H (vs.take n) (ds.take n) := by
  induction n generalizing vs ds with
  | zero => simpa using (RpAll.nil (K := K) (H := H))
  | succ n ih => cases h with
    | nil => simpa using (RpAll.nil (K := K) (H := H))
    | cons r t => simpa using RpAll.cons r (ih t)
theorem RpAll.set (h : RpAll K H vs ds) (r : Rp K H v d) (n : Nat) : RpAll K H (vs.set n v) (ds.set n d) := by
  induction n generalizing vs ds with
  | zero => cases h with
    | nil => simpa using (RpAll.nil (K := K) (H := H))
    | cons r' t => simpa using RpAll.cons r t
  | succ n ih => cases h with
    | nil => simpa using (RpAll.nil (K := K) (H := H))
    | cons r' t => simpa using RpAll.cons r' (ih t)
theorem RpAll.rev (h : RpAll K H vs ds) : RpAll K H vs.reverse ds.reverse := by
  induction ds generalizing vs with
  | nil => cases h; exact .nil
  | cons d ds ih => cases h with | cons r t => simp only [List.reverse_cons]; exact (ih t).app (.cons r .nil)
theorem RpAll.erase (h : RpAll K H vs ds) (n : Nat) : RpAll K H (vs.eraseIdx n) (ds.eraseIdx n) := by
  induction n generalizing vs ds with
  | zero => cases h with
    | nil => simpa using (RpAll.nil (K := K) (H := H))
    | cons r t => simpa using t
  | succ n ih => cases h with
    | nil => simpa using (RpAll.nil (K := K) (H := H))
    | cons r t => simpa using RpAll.cons r (ih t)

mutual
/-- data without dicts, as the library's own relation -/
theorem Rp.dp : ∀ {v : V} {d : D}, d.plain = true → Rp K H v d → Dp K H v d
  | _, _, _, .non => .non
  | _, _, _, .bl b => .bl b
  | _, _, _, .int i => .int i
  | _, _, _, .str x => .str x
  | _, _, p, .lst h r => .lst (.inl h) (RpAll.dp (by simpa [PyData.plain] using p) r)
  | _, _, p, .tup h r => .tup h (RpAll.dp (by simpa [PyData.plain] using p) r)
  | _, _, p, .kdc _ _ _ _ => absurd p (by simp [PyData.plain])
  | _, _, p, .dct _ _ => absurd p (by simp [PyData.plain])
theorem RpAll.dp : ∀ {vs : List V} {ds : List D}, PyData.plainAll ds = true → RpAll K H vs ds → DpAll K H vs ds
  | _, _, _, .nil => .nil
  | _, _, p, .cons r t => .cons (Rp.dp (by simp only [PyData.plainAll, Bool.and_eq_true] at p; exact p.1) r) (RpAll.dp (by simp only [PyData.plainAll, Bool.and_eq_true] at p; exact p.2) t)
end

/-- what stands at an owned address -/
inductive Con (K : Frag) (Hf : Hp) (a : Addr) : HO → D → Prop
  | lst {xs : List V} {ds : List D} : RpAll K Hf xs ds → Con K Hf a (.lst xs) (.list ds)
  | dct {xs : List (NestedKey × Addr × Value)} {kvs : List (D × D)} : RpEnt K Hf xs kvs → Con K Hf a (DXO K.P K.w a xs) (.dict kvs)
theorem Con.mono (s : Same H H') {a : Addr} {o : HO} (h : Con K H a o d) : Con K H' a o d := by
  cases h with
  | lst r => exact .lst (r.mono s)
  | dct r => exact .dct (r.mono s)
/-- an owned thing is data where it is held still -/
theorem Con.rp {o : HO} {p : Addr} (h : Con K Hf p o d) (s : Same Hf H) (e : H p = some o) : Rp K H (.ref p) d := by
  cases h with
  | lst r => exact .lst (.inl e) (r.mono s)
  | dct r => exact .dct (.inl e) (r.mono s)

/-- a thing that may be owned -/
def ownO : HO → Bool
  | .lst _ => true
  | .dK _ => true
  | .dT _ => true
  | .ext _ => true
  | _ => false
/-- the frame: Hf, what is held still; H, all that is tracked -/
structure Ext (Hf H Hf' H' : Hp) : Prop where
  s1 : Same Hf Hf'
  s2 : Same H H'
  sub : Same Hf' H'
  hid : ∀ a o, H a = some o → ownO o = true → Hf a = none → Hf' a = none
theorem Con.own {o : HO} {p : Addr} (h : Con K Hf p o d) : ownO o = true := by
  cases h <;> rfl
theorem Ext.refl (s : Same Hf H) : Ext Hf H Hf H := ⟨Same.refl _, Same.refl _, s, fun _ _ _ _ h => h⟩
theorem Ext.trans (a : Ext Hf H Hf' H') (b : Ext Hf' H' Hf2 H2) : Ext Hf H Hf2 H2 :=
  ⟨a.s1.trans b.s1, a.s2.trans b.s2, b.sub, fun c o h1 ho h2 => b.hid c o (a.s2 c o h1) ho (a.hid c o h1 ho h2)⟩
theorem same_upd {p : Addr} {o : HO} (h : H p = none) : Same H (upd H p o) := fun b x e => by
  rw [upd_ne (ne_of_none e h)]
  exact e
theorem none_sub (s : Same Hf H) {p : Addr} (h : H p = none) : Hf p = none := s.free h
/-- a new thing, held still -/
theorem Ext.new (s : Same Hf H) {p : Addr} {o : HO} (h : H p = none) : Ext Hf H (upd Hf p o) (upd H p o) :=
  ⟨same_upd (none_sub s h), same_upd h, fun a x e => by
    by_cases ha : a = p
    · subst ha; rw [upd_same] at e ⊢; exact e
    · rw [upd_ne ha] at e ⊢; exact s a x e, fun a u h1 _ h2 => by
    have ha : a ≠ p := ne_of_none h1 h
    rw [upd_ne ha]; exact h2⟩
/-- a new thing, owned -/
theorem Ext.own (s : Same Hf H) {p : Addr} {o : HO} (h : H p = none) : Ext Hf H Hf (upd H p o) :=
  ⟨Same.refl _, same_upd h, s.trans (same_upd h), fun _ _ _ _ h2 => h2⟩
/-- an owned new thing is held still from here on -/
theorem Ext.keep (x : Ext Hf H Hf' H') {p : Addr} {o : HO} (h0 : H p = none) (hf : Hf' p = none) (h : H' p = some o) : Ext Hf H (upd Hf' p o) H' :=
  ⟨x.s1.trans (same_upd hf), x.s2, fun a u e => by
    by_cases ha : a = p
    · subst ha; rw [upd_same] at e; cases e; exact h
    · rw [upd_ne ha] at e; exact x.sub a u e, fun a u h1 ho h2 => by
    have ha : a ≠ p := ne_of_none h1 h0
    rw [upd_ne ha]; exact x.hid a u h1 ho h2⟩

/-- what comes of an expression whose value is looked at -/
def RA (K : Frag) (Hf H : Hp) (v : V) (d : D) : Prop := Rp K Hf v d ∨ ∃ p o, v = .ref p ∧ Hf p = none ∧ H p = some o ∧ Con K Hf p o d
/-- .. is kept: an owned thing is new behind H0 -/
def RV (K : Frag) (H0 Hf H : Hp) (v : V) (d : D) : Prop := Rp K Hf v d ∨ ∃ p o, v = .ref p ∧ H0 p = none ∧ Hf p = none ∧ H p = some o ∧ Con K Hf p o d
/-- .. is new, if it is a list -/
def RN (K : Frag) (H0 Hf H : Hp) (v : V) (d : D) : Prop := if isMut d then ∃ p o, v = .ref p ∧ H0 p = none ∧ Hf p = none ∧ H p = some o ∧ Con K Hf p o d else Rp K Hf v d
theorem RV.ra {H0 : Hp} (h : RV K H0 Hf H v d) : RA K Hf H v d := by
  rcases h with h | ⟨p, o, e, _, b, c, q⟩
  · exact .inl h
  · exact .inr ⟨p, o, e, b, c, q⟩
theorem RN.rv {H0 : Hp} (h : RN K H0 Hf H v d) : RV K H0 Hf H v d := by
  unfold RN at h
  split at h
  · exact .inr h
  · exact .inl h
theorem RA.ext (h : RA K Hf H v d) (x : Ext Hf H Hf' H') : RA K Hf' H' v d := by
  rcases h with h | ⟨p, o, e, b, c, q⟩
  · exact .inl (h.mono x.s1)
  · exact .inr ⟨p, o, e, x.hid p o c q.own b, x.s2 _ _ c, q.mono x.s1⟩
theorem RV.ext {H0 : Hp} (h : RV K H0 Hf H v d) (x : Ext Hf H Hf' H') : RV K H0 Hf' H' v d := by
  rcases h with h | ⟨p, o, e, a, b, c, q⟩
  · exact .inl (h.mono x.s1)
  · exact .inr ⟨p, o, e, a, x.hid p o c q.own b, x.s2 _ _ c, q.mono x.s1⟩
theorem RN.ext {H0 : Hp} (h : RN K H0 Hf H v d) (x : Ext Hf H Hf' H') : RN K H0 Hf' H' v d := by
  unfold RN at h ⊢
  split
  · rename_i hm
    rw [if_pos hm] at h
    obtain ⟨p, o, e, a, b, c, q⟩ := h
    exact ⟨p, o, e, a, x.hid p o c q.own b, x.s2 _ _ c, q.mono x.s1⟩
  · rename_i hm
    rw [if_neg hm] at h
    exact h.mono x.s1
theorem RV.back {H0 H1 : Hp} (h : RV K H1 Hf H v d) (s : Same H0 H1) : RV K H0 Hf H v d := by
  rcases h with h | ⟨p, o, e, a, b, c, q⟩
  · exact .inl h
  · exact .inr ⟨p, o, e, none_sub s a, b, c, q⟩
theorem RN.back {H0 H1 : Hp} (h : RN K H1 Hf H v d) (s : Same H0 H1) : RN K H0 Hf H v d := by
  unfold RN at h ⊢
  split
  · rename_i hm
    rw [if_pos hm] at h
    obtain ⟨p, o, e, a, b, c, q⟩ := h
    exact ⟨p, o, e, none_sub s a, b, c, q⟩
  · rename_i hm
    rw [if_neg hm] at h
    exact h
/-- it is held still from here on -/
theorem RV.hold {H0 Hf0 : Hp} (h : RV K H0 Hf H v d) (x : Ext Hf0 H0 Hf H) : ∃ Hf', Ext Hf0 H0 Hf' H ∧ Same Hf Hf' ∧ Rp K Hf' v d := by
  rcases h with h | ⟨p, o, rfl, a, b, c, q⟩
  · exact ⟨Hf, x, Same.refl _, h⟩
  · exact ⟨upd Hf p o, x.keep a b c, same_upd b, q.rp (same_upd b) upd_same⟩
/-- by the mode -/
def RM (K : Frag) (m n : Bool) (H0 Hf H : Hp) (v : V) (d : D) : Prop := if n then RN K H0 Hf H v d else if m then RA K Hf H v d else RV K H0 Hf H v d
theorem RM.ra {m n : Bool} {H0 : Hp} (h : RM K m n H0 Hf H v d) : RA K Hf H v d := by
  unfold RM at h
  cases n <;> cases m <;> first | exact h.ra | exact h.rv.ra | exact h
theorem RM.rv {n : Bool} {H0 : Hp} (h : RM K false n H0 Hf H v d) : RV K H0 Hf H v d := by
  unfold RM at h
  cases n <;> first | exact h.rv | exact h
theorem RM.of_rn {m n : Bool} {H0 : Hp} (h : RN K H0 Hf H v d) : RM K m n H0 Hf H v d := by
  unfold RM
  cases n <;> cases m <;> first | exact h | exact h.rv.ra | exact h.rv
theorem RM.of_rp {m : Bool} {H0 : Hp} (h : Rp K Hf v d) : RM K m false H0 Hf H v d := by
  unfold RM
  cases m
  · exact .inl h
  · exact .inl h
theorem RM.imm {m n : Bool} {H0 : Hp} (h : Rp K Hf v d) (hd : isMut d = false) : RM K m n H0 Hf H v d :=
  RM.of_rn (by unfold RN; rw [hd]; exact h)
theorem RM.ext {m n : Bool} {H0 : Hp} (h : RM K m n H0 Hf H v d) (x : Ext Hf H Hf' H') : RM K m n H0 Hf' H' v d := by
  unfold RM at h ⊢
  cases n <;> cases m <;> first | exact RN.ext h x | exact RA.ext h x | exact RV.ext h x
theorem RM.back {m n : Bool} {H0 H1 : Hp} (h : RM K m n H1 Hf H v d) (s : Same H0 H1) : RM K m n H0 Hf H v d := by
  unfold RM at h ⊢
  cases n <;> cases m <;> first | exact RN.back h s | exact RV.back h s | exact h
theorem RA.list {xs : List D} (h : RA K Hf H v (.list xs)) (s : Same Hf H) : ∃ p vs, v = .ref p ∧ Rd H p (.lst vs) ∧ RpAll K Hf vs xs := by
  rcases h with h | ⟨p, o, rfl, a, b, q⟩
  · cases h with
    | lst h1 h2 => exact ⟨_, _, rfl, rd_mono s h1, h2⟩
  · cases q with
    | lst r => exact ⟨p, _, rfl, .inl b, r⟩
theorem RA.tuple {xs : List D} (h : RA K Hf H v (.tuple xs)) (s : Same Hf H) : ∃ p vs, v = .ref p ∧ SqT K H p vs ∧ SqT K Hf p vs ∧ RpAll K Hf vs xs := by
  rcases h with h | ⟨p, o, rfl, a, b, q⟩
  · cases h with
    | tup h1 h2 => exact ⟨_, _, rfl, sqT_mono s h1, h1, h2⟩
  · cases q
theorem RA.rp (h : RA K Hf H v d) (hd : isMut d = false) : Rp K Hf v d := by
  rcases h with h | ⟨p, o, rfl, a, b, q⟩
  · exact h
  · cases q <;> cases hd
theorem RA.int {i : Int} (h : RA K Hf H v (.int i)) : v = .int i := by
  have := h.rp rfl
  cases this; rfl
theorem RA.bool {b : Bool} (h : RA K Hf H v (.bool b)) : v = .bl b := by
  have := h.rp rfl
  cases this; rfl
theorem RA.str {x : Str} (h : RA K Hf H v (.str x)) : v = .str x := by
  have := h.rp rfl
  cases this; rfl
theorem RA.non (h : RA K Hf H v .none) : v = .non := by
  have := h.rp rfl
  cases this; rfl
theorem RA.here (h : RA K Hf H v d) (s : Same Hf H) : Rp K H v d := by
  rcases h with h | ⟨p, o, rfl, a, b, q⟩
  · exact h.mono s
  · exact q.rp s b
end

/-- the slots -/
structure SR (K : Frag) (Hf H : Hp) (σ : St) (ρ : Env) : Prop where
  len : σ.length = ρ.length
  sub : Same Hf H
  at_ : ∀ i d o, slot ρ i = some (d, o) → o ≠ 2 → ∃ v, σ[i]? = some (some v) ∧ (if o = 0 then Rp K Hf v d else ∃ p ob, v = .ref p ∧ Hf p = none ∧ H p = some ob ∧ Con K Hf p ob d)
  sep : ∀ i j d d' o o', slot ρ i = some (d, o) → o ≠ 0 → o ≠ 2 → slot ρ j = some (d', o') → o' ≠ 0 → o' ≠ 2 → σ[i]? = σ[j]? → i = j
section
variable {K : Frag} {Hf H Hf' H' : Hp} {σ : St} {ρ : Env}
theorem SR.ext (s : SR K Hf H σ ρ) (x : Ext Hf H Hf' H') : SR K Hf' H' σ ρ := by
  refine ⟨s.len, x.sub, fun i d o e n2 => ?_, s.sep⟩
  obtain ⟨v, h1, h2⟩ := s.at_ i d o e n2
  refine ⟨v, h1, ?_⟩
  split
  · rename_i h0
    rw [if_pos h0] at h2
    exact h2.mono x.s1
  · rename_i h0
    rw [if_neg h0] at h2
    obtain ⟨p, ob, e1, e2, e3, q⟩ := h2
    exact ⟨p, ob, e1, x.hid p ob e3 q.own e2, x.s2 _ _ e3, q.mono x.s1⟩
theorem SR.ra (s : SR K Hf H σ ρ) {i : Nat} {d : D} {o : Nat} (e : slot ρ i = some (d, o)) (n2 : o ≠ 2) : ∃ v, σ[i]? = some (some v) ∧ RA K Hf H v d := by
  obtain ⟨v, h1, h2⟩ := s.at_ i d o e n2
  refine ⟨v, h1, ?_⟩
  split at h2
  · exact .inl h2
  · obtain ⟨p, ob, e1, e2, e3, q⟩ := h2
    exact .inr ⟨p, ob, e1, e2, e3, q⟩
theorem SR.rp (s : SR K Hf H σ ρ) {i : Nat} {d : D} (e : slot ρ i = some (d, 0)) : ∃ v, σ[i]? = some (some v) ∧ Rp K Hf v d := by
  obtain ⟨v, h1, h2⟩ := s.at_ i d 0 e (by decide)
  rw [if_pos rfl] at h2
  exact ⟨v, h1, h2⟩
end
theorem slot_put (ρ : Env) (i j : Nat) (x : Sl) : slot (put ρ i x) j = if i = j ∧ i < ρ.length then x else slot ρ j := by
  induction ρ generalizing i j with
  | nil => simp [put, slot]
  | cons y r ih =>
    cases i with
    | zero => cases j with
      | zero => simp [put, slot]
      | succ j => simp [put, slot]
    | succ i => cases j with
      | zero => simp [put, slot]
      | succ j => simp [put, slot, ih]
theorem put_len (ρ : Env) (i : Nat) (x : Sl) : (put ρ i x).length = ρ.length := by
  induction ρ generalizing i with
  | nil => rfl
  | cons y r ih => cases i with
    | zero => rfl
    | succ i => simp [put, ih]
theorem slot_lt {ρ : Env} {i : Nat} {x : D × Nat} (h : slot ρ i = some x) : i < ρ.length := by
  induction ρ generalizing i with
  | nil => simp [slot] at h
  | cons y r ih => cases i with
    | zero => simp
    | succ i => simp [slot] at h; have := ih h; simp; omega
theorem wipe_len (ρ : Env) (l : List Nat) : (wipe ρ l).length = ρ.length := by
  induction l generalizing ρ with
  | nil => rfl
  | cons i l ih => rw [wipe, ih, put_len]
section
variable {K : Frag} {Hf H Hf' H' : Hp} {σ : St} {ρ : Env}
/-- a slot is set -/
theorem SR.set (s : SR K Hf H σ ρ) (i : Nat) {v : V} {d : D} (r : Rp K Hf v d) : SR K Hf H (σ.set i (some v)) (put ρ i (some (d, 0))) := by
  refine ⟨by rw [put_len, List.length_set]; exact s.len, s.sub, fun j d' o e n2 => ?_, fun j k d1 d2 o o' e1 h1 n1 e2 h2 n2 e3 => ?_⟩
  · rw [slot_put] at e
    split at e
    · rename_i h
      obtain ⟨rfl, hl⟩ := h
      cases e
      exact ⟨v, by rw [List.getElem?_set_self (by rw [s.len]; exact hl)], by rw [if_pos rfl]; exact r⟩
    · rename_i h
      have hij : i ≠ j := fun e' => h ⟨e', by subst e'; exact slot_lt e⟩
      rw [List.getElem?_set_ne hij]
      exact s.at_ j d' o e n2
  · rw [slot_put] at e1 e2
    split at e1
    · cases e1; exact absurd rfl h1
    split at e2
    · cases e2; exact absurd rfl h2
    rename_i ha hb
    have hj : i ≠ j := fun e' => ha ⟨e', by subst e'; exact slot_lt e1⟩
    have hk : i ≠ k := fun e' => hb ⟨e', by subst e'; exact slot_lt e2⟩
    rw [List.getElem?_set_ne hj, List.getElem?_set_ne hk] at e3
    exact s.sep j k _ _ _ _ e1 h1 n1 e2 h2 n2 e3
/-- a slot comes to own what no other one owns -/
theorem SR.own (s : SR K Hf H σ ρ) (i : Nat) {p : Addr} {ob : HO} {d : D} (f : Hf p = none) (e : H p = some ob) (q : Con K Hf p ob d) (no : ∀ j d' o, slot ρ j = some (d', o) → o ≠ 0 → o ≠ 2 → j ≠ i → σ[j]? ≠ some (some (.ref p))) :
    SR K Hf H (σ.set i (some (.ref p))) (put ρ i (some (d, 1))) := by
  refine ⟨by rw [put_len, List.length_set]; exact s.len, s.sub, fun j d' o e' n2 => ?_, fun j k d1 d2 o o' e1 h1 n1 e2 h2 n2 e3 => ?_⟩
  · rw [slot_put] at e'
    split at e'
    · rename_i h
      obtain ⟨rfl, hl⟩ := h
      cases e'
      exact ⟨.ref p, by rw [List.getElem?_set_self (by rw [s.len]; exact hl)], by rw [if_neg (by decide)]; exact ⟨p, ob, rfl, f, e, q⟩⟩
    · rename_i h
      have hij : i ≠ j := fun e'' => h ⟨e'', by subst e''; exact slot_lt e'⟩
      rw [List.getElem?_set_ne hij]
      exact s.at_ j d' o e' n2
  · rw [slot_put] at e1 e2
    split at e1
    · rename_i ha
      obtain ⟨rfl, hl⟩ := ha
      split at e2
      · rename_i hb; exact hb.1
      · rename_i hb
        have hk : i ≠ k := fun e' => hb ⟨e', by subst e'; exact slot_lt e2⟩
        rw [List.getElem?_set_self (by rw [s.len]; exact hl), List.getElem?_set_ne hk] at e3
        exact absurd e3.symm (no k _ _ e2 h2 n2 (Ne.symm hk))
    · rename_i ha
      have hj : i ≠ j := fun e' => ha ⟨e', by subst e'; exact slot_lt e1⟩
      split at e2
      · rename_i hb
        obtain ⟨rfl, hl⟩ := hb
        rw [List.getElem?_set_self (by rw [s.len]; exact hl), List.getElem?_set_ne hj] at e3
        exact absurd e3 (no j _ _ e1 h1 n1 (Ne.symm hj))
      · rename_i hb
        have hk : i ≠ k := fun e' => hb ⟨e', by subst e'; exact slot_lt e2⟩
        rw [List.getElem?_set_ne hj, List.getElem?_set_ne hk] at e3
        exact s.sep j k _ _ _ _ e1 h1 n1 e2 h2 n2 e3
/-- less is known -/
theorem SR.less (s : SR K Hf H σ ρ) {σ' : St} {ρ' : Env} (hl : σ'.length = ρ'.length) (h : ∀ i x, slot ρ' i = some x → slot ρ i = some x ∧ σ'[i]? = σ[i]?) : SR K Hf H σ' ρ' := by
  refine ⟨hl, s.sub, fun i d o e n2 => ?_, fun i j d d' o o' e1 h1 n1 e2 h2 n2 e3 => ?_⟩
  · obtain ⟨a, b⟩ := h i _ e
    rw [b]
    exact s.at_ i d o a n2
  · obtain ⟨a, b⟩ := h i _ e1
    obtain ⟨a', b'⟩ := h j _ e2
    rw [b, b'] at e3
    exact s.sep i j _ _ _ _ a h1 n1 a' h2 n2 e3
theorem SR.forget (s : SR K Hf H σ ρ) (i : Nat) (x : Option V) : SR K Hf H (σ.set i x) (put ρ i none) := by
  refine s.less (by rw [put_len, List.length_set]; exact s.len) fun j y e => ?_
  rw [slot_put] at e
  split at e
  · cases e
  · rename_i h
    have hij : i ≠ j := fun e' => h ⟨e', by subst e'; exact slot_lt e⟩
    exact ⟨e, List.getElem?_set_ne hij⟩
theorem SR.drop (s : SR K Hf H σ ρ) (i : Nat) : SR K Hf H σ (put ρ i none) := by
  refine s.less (by rw [put_len]; exact s.len) fun j y e => ?_
  rw [slot_put] at e
  split at e
  · cases e
  · exact ⟨e, rfl⟩
theorem SR.wipe (s : SR K Hf H σ ρ) (l : List Nat) : SR K Hf H σ (wipe ρ l) := by
  induction l generalizing ρ with
  | nil => exact s
  | cons i l ih => exact ih (s.drop i)
end
end Q
set_option Elab.async false
set_option linter.all false
set_option maxRecDepth 100000
/-! Readings by the evaluator; what of the text an expression is. -/
namespace Q
open PySem PySem.W PySem.Spec L2
open PyProof.Rows hiding St

/-- behind an evaluation -/
def After {α : Type} (r : R α) (xc : Nat → Value) (W : WX) (σ : L2.St) (Hf H : Hp) (k : α → Hp → Hp → Prop) : Prop :=
  match r with
  | .ok a => ∀ Hf' H', Ext Hf H Hf' H' → k a Hf' H'
  | .exc x => ∀ Hf' H', Ext Hf H Hf' H' → W (xc x) none σ H'
  | .bad => False
section
variable {α β : Type} {r : R α} {f : α → R β} {xc : Nat → Value} {W : WX} {σ : L2.St} {Hf H Hf' H' : Hp} {k k' : α → Hp → Hp → Prop} {l : β → Hp → Hp → Prop}
theorem After.ext (h : After r xc W σ Hf H k) (x : Ext Hf H Hf' H') : After r xc W σ Hf' H' k := by
  cases r with
  | ok a => exact fun A B y => h A B (x.trans y)
  | exc c => exact fun A B y => h A B (x.trans y)
  | bad => exact h
theorem After.imp (h : After r xc W σ Hf H k) (g : ∀ a Hf' H', Ext Hf H Hf' H' → k a Hf' H' → k' a Hf' H') : After r xc W σ Hf H k' := by
  cases r with
  | ok a => exact fun A B y => g a A B y (h A B y)
  | exc c => exact h
  | bad => exact h
theorem After.bind (h : After (r >>= f) xc W σ Hf H l) : After r xc W σ Hf H fun a Hf' H' => After (f a) xc W σ Hf' H' l := by
  cases r with
  | ok a => exact fun A B y => After.ext (show After (f a) xc W σ Hf H l from h) y
  | exc c => exact h
  | bad => exact h
theorem After.ok {a : α} (h : After (R.ok a) xc W σ Hf H k) (s : Same Hf H) : k a Hf H := h _ _ (Ext.refl s)
end
def RAs (K : Frag) (Hf H : Hp) : List V → List D → Prop
  | [], [] => True
  | v :: vs, d :: ds => RA K Hf H v d ∧ RAs K Hf H vs ds
  | _, _ => False
theorem RAs.ext {K : Frag} {Hf H Hf' H' : Hp} (x : Ext Hf H Hf' H') : ∀ {vs : List V} {ds : List D}, RAs K Hf H vs ds → RAs K Hf' H' vs ds
  | [], [], _ => trivial
  | _ :: _, _ :: _, h => ⟨h.1.ext x, RAs.ext x h.2⟩
  | [], _ :: _, h => h.elim
  | _ :: _, [], h => h.elim
theorem RAs.len {K : Frag} {Hf H : Hp} : ∀ {vs : List V} {ds : List D}, RAs K Hf H vs ds → vs.length = ds.length
  | [], [], _ => rfl
  | _ :: _, _ :: _, h => by simp [RAs.len h.2]
  | [], _ :: _, h => h.elim
  | _ :: _, [], h => h.elim
theorem RAs.here {K : Frag} {Hf H : Hp} (s : Same Hf H) : ∀ {vs : List V} {ds : List D}, RAs K Hf H vs ds → RpAll K H vs ds
  | [], [], _ => .nil
  | _ :: _, _ :: _, h => .cons (h.1.here s) (RAs.here s h.2)
  | [], _ :: _, h => h.elim
  | _ :: _, [], h => h.elim

/-- an expression's reading -/
def tE (c : Ctx) (xc : Nat → Value) (W : WX) (K : Frag) (e : E) (m : Bool) : TE := fun σ H Q => ∃ ρ Hf, SR K Hf H σ ρ ∧ After (evE c e m ρ) xc W σ Hf H fun d Hf' H' => ∀ v, RM K m (e.fresh c.fr) H Hf' H' v d → Q v H'
/-- a test's -/
def tT (c : Ctx) (xc : Nat → Value) (W : WX) (K : Frag) (t : T) : TT := fun σ H Q => ∃ ρ Hf, SR K Hf H σ ρ ∧ After (evT c t ρ) xc W σ Hf H fun b Hf' H' => Q b H'
/-- an argument list's, its values looked at -/
def tEs (c : Ctx) (xc : Nat → Value) (W : WX) (K : Frag) (es : Es) (m : Bool) : TA := fun σ H Q => ∃ ρ Hf, SR K Hf H σ ρ ∧ After (evEs c es m ρ) xc W σ Hf H fun ds Hf' H' => ∀ vs, RAs K Hf' H' vs ds → Q vs H'
theorem impE {X : Cx} {e : Expr} {t t' : TE} (h : PE X e t) (g : ∀ σ H Q, t' σ H Q → t σ H Q) : PE X e t' := ⟨fun pins s σ H Q I hw => h.run pins s σ H Q I (g σ H Q hw)⟩
theorem impT {X : Cx} {e : Expr} {t t' : TT} (h : PT X e t) (g : ∀ σ H Q, t' σ H Q → t σ H Q) : PT X e t' := ⟨fun pins s σ H Q I hw => h.run pins s σ H Q I (g σ H Q hw)⟩
theorem impW {X : Cx} {e : Expr} {t t' : TT} (h : PW X e t) (g : ∀ σ H Q, t' σ H Q → t σ H Q) : PW X e t' := ⟨fun wh pins s σ H Q I hw => h.run wh pins s σ H Q I (g σ H Q hw)⟩

/-- the expressions of a list, each by its reading -/
inductive PEs (X : Cx) (c : Ctx) (xc : Nat → Value) (W : WX) (m : Bool) : List Expr → Es → Prop
  | nil : PEs X c xc W m [] .nil
  | cons {e : Expr} {ir : E} {l : List Expr} {es : Es} : PE X e (tE c xc W X.kw ir m) → PEs X c xc W m l es → PEs X c xc W m (e :: l) (.cons ir es)
def notStar : Expr → Bool
  | .Starred _ _ => false
  | _ => true
theorem star_cons {e : Expr} {es : List Expr} {env : PySem.Env} (h : notStar e = true) : starEach (e :: es) env = (false, eval e env) :: starEach es env := by
  cases e <;> first | rfl | exact absurd h Bool.false_ne_true
theorem star_plain {env : PySem.Env} {pos : Pos} : ∀ {es : List Expr}, es.all notStar = true → (backTo pos (starEach es env)).any (·.1) = false
  | [], _ => rfl
  | e :: es, h => by
    simp only [List.all_cons, Bool.and_eq_true] at h
    rw [star_cons h.1]
    show (false || (backTo pos (starEach es env)).any (·.1)) = false
    rw [star_plain h.2]
    rfl
section
variable {X : Cx} {c : Ctx} {xc : Nat → Value} {W : WX} {m : Bool}
theorem tEs_nil {σ : L2.St} {H : Hp} {Q : List V → Hp → Prop} (h : tEs c xc W X.kw .nil m σ H Q) : tNil σ H Q := by
  obtain ⟨ρ, Hf, s, a⟩ := h
  exact a _ _ (Ext.refl s.sub) [] trivial
theorem tEs_cons {e : E} {es : Es} {σ : L2.St} {H : Hp} {Q : List V → Hp → Prop} (h : tEs c xc W X.kw (.cons e es) m σ H Q) : tCons (tE c xc W X.kw e m) (tEs c xc W X.kw es m) σ H Q := by
  obtain ⟨ρ, Hf, s, a⟩ := h
  refine ⟨ρ, Hf, s, (After.bind (f := fun d => evEs c es m ρ >>= fun ds => R.ok (d :: ds)) a).imp fun d H1f H1 x1 a1 v rv => ?_⟩
  refine ⟨ρ, H1f, s.ext x1, a1.bind.imp fun ds H2f H2 x2 a2 vs rvs => ?_⟩
  exact a2.ok x2.sub (v :: vs) ⟨rv.ra.ext x2, rvs⟩
theorem pa_of : ∀ {l : List Expr} {es : Es}, l.all notStar = true → PEs X c xc W m l es → PA X l (tEs c xc W X.kw es m)
  | [], _, _, .nil => ⟨fun pos pins s σ H Q I h => pa_nil.run pos pins s σ H Q I (tEs_nil h)⟩
  | e :: l, _, hs, .cons h t => by
    simp only [List.all_cons, Bool.and_eq_true] at hs
    exact ⟨fun pos pins s σ H Q I hw => (pa_cons h (pa_of hs.2 t) (star_cons hs.1)).run pos pins s σ H Q I (tEs_cons hw)⟩
end

/-! ### operations by values -/
/-- by the data of the arguments -/
def rS (K : Frag) (o : Op) (m : Bool) (vs : List V) (H : Hp) (Q : VK) : Prop := ∃ Hf ds, Same Hf H ∧ RAs K Hf H vs ds ∧ ∃ d, sem o ds = .ok d ∧ ∀ v Hf' H', Ext Hf H Hf' H' → RM K m o.fresh H Hf' H' v d → Q v H'
theorem sem_noexc : ∀ (o : Op) (ds : List D) (x : Nat), sem o ds ≠ .exc x := by
  intro o ds x h
  have opt1 : ∀ z : Option D, opt z ≠ .exc x := fun z e => by cases z <;> cases e
  have srt : ∀ l, sortD l ≠ .exc x := fun l e => by unfold sortD at e; split at e <;> cases e
  have cutE : ∀ a b z, sCut a b z ≠ .exc x := fun a b z e => by unfold sCut at e; (repeat' split at e) <;> cases e
  have rg : ∀ l, rangeD l ≠ .exc x := fun l e => by unfold rangeD at e; (repeat' split at e) <;> cases e
  have lst : ∀ f l, least f l ≠ .exc x := fun f l e => by unfold least at e; (repeat' split at e) <;> cases e
  have tr : ∀ z, truth z ≠ .exc x := fun z e => by unfold truth at e; (repeat' split at e) <;> cases e
  have rgs : ∀ f l, sRng f l ≠ .exc x := fun f l e => by
    unfold sRng at e
    cases q : rangeD l with
    | ok a => rw [q] at e; change (if a.length ≤ LIM then R.ok (f a) else R.bad) = _ at e; split at e <;> cases e
    | exc y => rw [q] at e; cases e; exact rg _ q
    | bad => rw [q] at e; cases e
  have nt : ∀ l, sNot l ≠ .exc x := fun l e => by
    unfold sNot at e
    split at e
    · rename_i d
      cases q : truth d with
      | ok a => rw [q] at e; cases e
      | exc y => rw [q] at e; cases e; exact tr _ q
      | bad => rw [q] at e; cases e
    · cases e
  cases o <;> simp only [sem] at h <;> first
    | cases h
    | exact rgs _ _ h
    | exact nt _ h
    | (unfold sAdd at h; (repeat' split at h) <;> cases h)
    | (unfold sSub at h; (repeat' split at h) <;> cases h)
    | (unfold sMul at h; (repeat' split at h) <;> cases h)
    | (unfold sDiv at h; (repeat' split at h) <;> cases h)
    | (unfold sMod at h; (repeat' split at h) <;> cases h)
    | (unfold sPow at h; (repeat' split at h) <;> cases h)
    | (unfold sNeg at h; (repeat' split at h) <;> cases h)
    | (unfold sInt2 at h; (repeat' split at h) <;> cases h)
    | (unfold sInv at h; (repeat' split at h) <;> cases h)
    | (unfold sShl at h; (repeat' split at h) <;> cases h)
    | (unfold sShr at h; (repeat' split at h) <;> cases h)
    | (unfold sOrd at h; (repeat' split at h) <;> cases h)
    | (unfold sEq at h; (repeat' split at h) <;> cases h)
    | (unfold sIn at h; (repeat' split at h) <;> cases h)
    | (unfold sIsN at h; (repeat' split at h) <;> cases h)
    | (unfold sIsB at h; (repeat' split at h) <;> cases h)
    | (unfold sIx at h; (repeat' split at h) <;> first | exact opt1 _ h | cases h)
    | (unfold sJoin at h; (repeat' split at h) <;> cases h)
    | (unfold sSplit at h; (repeat' split at h) <;> cases h)
    | (unfold sSlc at h; (repeat' split at h) <;> first | exact cutE _ _ _ h | cases h)
    | (unfold sRev at h; (repeat' split at h) <;> cases h)
    | (unfold sLen at h; (repeat' split at h) <;> cases h)
    | (unfold sTuple at h; (repeat' split at h) <;> cases h)
    | (unfold sList at h; (repeat' split at h) <;> cases h)
    | (unfold sInt at h; (repeat' split at h) <;> cases h)
    | (unfold sSorted at h; (repeat' split at h) <;> first | exact srt _ h | cases h)
    | (unfold sSset at h; (repeat' split at h) <;> first | exact srt _ h | cases h)
    | (unfold sLset at h; (repeat' split at h) <;> cases h)
    | (unfold sIsi at h; (repeat' split at h) <;> cases h)
    | (unfold sAll at h; (repeat' split at h) <;> cases h)
    | (unfold sLeast at h; (repeat' split at h) <;> first | exact lst _ _ h | cases h)
    | (unfold sMin2 at h; (repeat' split at h) <;> cases h)
    | (unfold sSum at h; (repeat' split at h) <;> cases h)
    | (unfold sAbs at h; (repeat' split at h) <;> cases h)
    | (unfold sIndex at h; (repeat' split at h) <;> cases h)
    | (unfold sCount at h; (repeat' split at h) <;> cases h)
    | (unfold sGet okImm at h; (repeat' split at h) <;> cases h)
    | (split at h <;> cases h)
theorem rS_of {K : Frag} {o : Op} {m n : Bool} {ds : List D} {xc : Nat → Value} {W : WX} {σ : L2.St} {Hf H H0 : Hp} {vs : List V} {Q : VK} (s : Same Hf H) (s0 : Same H0 H) (ra : RAs K Hf H vs ds) (hn : n = o.fresh)
    (a : After (sem o ds) xc W σ Hf H fun d Hf' H' => ∀ v, RM K m n H0 Hf' H' v d → Q v H') : rS K o m vs H Q := by
  subst hn
  cases e : sem o ds with
  | ok d =>
    rw [e] at a
    exact ⟨Hf, ds, s, ra, d, e, fun v Hf' H' x r => a Hf' H' x v (r.back s0)⟩
  | exc x => exact absurd e (sem_noexc o ds x)
  | bad => rw [e] at a; exact a.elim
section
variable {X : Cx} {c : Ctx} {xc : Nat → Value} {W : WX} {m k : Bool} {o : Op} {a b : Expr} {ia ib : E} {pos : Pos}
theorem two_args {σ : L2.St} {H : Hp} {Q : VK} (h : tE c xc W X.kw (.op o (.cons ia (.cons ib .nil))) m σ H Q) :
    tOp (fun x y H Q => rS X.kw o m [x, y] H Q) (tE c xc W X.kw ia (!o.keeps)) (tE c xc W X.kw ib (!o.keeps)) σ H Q := by
  obtain ⟨ρ, Hf, s, a0⟩ := h
  have a1 : After (evE c ia (!o.keeps) ρ >>= fun d => evE c ib (!o.keeps) ρ >>= fun d' => sem o [d, d']) xc W σ Hf H (fun d Hf' H' => ∀ v, RM X.kw m o.fresh H Hf' H' v d → Q v H') := by
    have e : evE c (.op o (.cons ia (.cons ib .nil))) m ρ = (evE c ia (!o.keeps) ρ >>= fun d => evE c ib (!o.keeps) ρ >>= fun d' => sem o [d, d']) := by
      simp only [evE, evEs]
      cases evE c ia (!o.keeps) ρ with
      | ok x => cases evE c ib (!o.keeps) ρ <;> rfl
      | exc x => rfl
      | bad => rfl
    rw [← e]; exact a0
  refine ⟨ρ, Hf, s, a1.bind.imp fun d H1f H1 x1 a2 v rv => ⟨ρ, H1f, s.ext x1, a2.bind.imp fun d' H2f H2 x2 a3 v' rv' => ?_⟩⟩
  exact rS_of (ds := [d, d']) x2.sub (x1.s2.trans x2.s2) ⟨rv.ra.ext x2, rv'.ra, trivial⟩ rfl a3
theorem one_arg {σ : L2.St} {H : Hp} {Q : VK} (h : tE c xc W X.kw (.op o (.cons ia .nil)) m σ H Q) :
    tUn (fun x H Q => rS X.kw o m [x] H Q) (tE c xc W X.kw ia (!o.keeps)) σ H Q := by
  obtain ⟨ρ, Hf, s, a0⟩ := h
  have a1 : After (evE c ia (!o.keeps) ρ >>= fun d => sem o [d]) xc W σ Hf H (fun d Hf' H' => ∀ v, RM X.kw m o.fresh H Hf' H' v d → Q v H') := by
    have e : evE c (.op o (.cons ia .nil)) m ρ = (evE c ia (!o.keeps) ρ >>= fun d => sem o [d]) := by
      simp only [evE, evEs]
      cases evE c ia (!o.keeps) ρ <;> rfl
    rw [← e]; exact a0
  refine ⟨ρ, Hf, s, a1.bind.imp fun d H1f H1 x1 a2 v rv => ?_⟩
  exact rS_of (ds := [d]) x1.sub x1.s2 ⟨rv.ra, trivial⟩ rfl a2
theorem many_args {es : Es} {σ : L2.St} {H : Hp} {Q : VK} (h : tE c xc W X.kw (.op o es) m σ H Q) :
    tEs c xc W X.kw es (!o.keeps) σ H fun vs H1 => rS X.kw o m vs H1 Q := by
  obtain ⟨ρ, Hf, s, a0⟩ := h
  have a1 : After (evEs c es (!o.keeps) ρ >>= fun ds => sem o ds) xc W σ Hf H (fun d Hf' H' => ∀ v, RM X.kw m o.fresh H Hf' H' v d → Q v H') := by
    have e : evE c (.op o es) m ρ = (evEs c es (!o.keeps) ρ >>= fun ds => sem o ds) := by simp only [evE]
    rw [← e]; exact a0
  refine ⟨ρ, Hf, s, a1.bind.imp fun d H1f H1 x1 a2 vs rv => ?_⟩
  exact rS_of x1.sub x1.s2 rv rfl a2
theorem pe_bin {bop : Operator} (ho : OpR X (binaryOp bop) fun x y H Q => rS X.kw o m [x, y] H Q) (ha : PE X a (tE c xc W X.kw ia (!o.keeps))) (hb : PE X b (tE c xc W X.kw ib (!o.keeps))) :
    PE X (.BinOp a bop b pos) (tE c xc W X.kw (.op o (.cons ia (.cons ib .nil))) m) := impE (pe_op ho ha hb) fun _ _ _ h => two_args h
theorem pe_cmp2 {cop : CmpOp} (ho : OpR X (compareOp cop) fun x y H Q => rS X.kw o m [x, y] H Q) (ha : PE X a (tE c xc W X.kw ia (!o.keeps))) (hb : PE X b (tE c xc W X.kw ib (!o.keeps))) (hm : behindInMarks cop b = false) :
    PE X (.Compare a [cop] [b] pos) (tE c xc W X.kw (.op o (.cons ia (.cons ib .nil))) m) := impE (pe_cmpR ho ha hb hm) fun _ _ _ h => two_args h
theorem pe_unary {uop : UnaryOp} (ho : UnR X (unaryOp uop) fun x H Q => rS X.kw o m [x] H Q) (ha : PE X a (tE c xc W X.kw ia (!o.keeps))) :
    PE X (.UnaryOp uop a pos) (tE c xc W X.kw (.op o (.cons ia .nil)) m) := impE (pe_un ho ha) fun _ _ _ h => one_arg h
theorem pe_sub {b : Expr} (hr : IxR X fun x y H Q => rS X.kw o m [x, y] H Q) (ha : PE X a (tE c xc W X.kw ia (!o.keeps))) (hb : PE X b (tE c xc W X.kw ib (!o.keeps))) (hs : PlainIx b) :
    PE X (.Subscript a b pos) (tE c xc W X.kw (.op o (.cons ia (.cons ib .nil))) m) := impE (pe_ix hr ha hb hs) fun _ _ _ h => two_args h
theorem pe_blt {id : String} {x : Str} {p : Pos} {es : Es} {l : List Expr} (hc : CallR X (.builtin id) fun vs H Q => rS X.kw o m vs H Q) (hg : Gl X x) (hm : X.mg x = none) (hv : bootBuiltins x = some (.builtin id)) (hn : x ≠ "__name__") (hd : (x == ("__debug__" : Str)) = false)
    (hs : (a :: l).all notStar = true) (ha : PEs X c xc W (!o.keeps) (a :: l) es) : PE X (.Call (.Name x p) (a :: l) [] pos) (tE c xc W X.kw (.op o es) m) := by
  have hs' := hs
  simp only [List.all_cons, Bool.and_eq_true] at hs'
  exact impE (pe_callB hc hg hm hv (pa_of hs ha) hn hd (star_cons hs'.1) (star_plain hs'.2)) fun _ _ _ h => many_args h
theorem pe_bty {id : String} {x : Str} {p : Pos} {es : Es} {l : List Expr} (hc : CallR X (.type id) fun vs H Q => rS X.kw o m vs H Q) (hg : Gl X x) (hm : X.mg x = none) (hv : bootBuiltins x = some (.type id)) (hn : x ≠ "__name__") (hd : (x == ("__debug__" : Str)) = false)
    (hs : (a :: l).all notStar = true) (ha : PEs X c xc W (!o.keeps) (a :: l) es) : PE X (.Call (.Name x p) (a :: l) [] pos) (tE c xc W X.kw (.op o es) m) := by
  have hs' := hs
  simp only [List.all_cons, Bool.and_eq_true] at hs'
  exact impE (pe_callTy hc hg hm hv (pa_of hs ha) hn hd (star_cons hs'.1) (star_plain hs'.2)) fun _ _ _ h => many_args h
end
end Q
set_option Elab.async false
set_option linter.all false
set_option maxRecDepth 100000
/-! Dicts whose keys are tuples: what they read as. -/
namespace Q
open PySem PySem.W PySem.Spec L2
open PyProof.Rows hiding St

mutual
theorem nk_beq : ∀ (x y : D), imm x = true → imm y = true → NestedKey.beq (nk x) (nk y) = PyData.eqv x y
  | .tuple xs, y, hx, hy => by
    cases y with
    | tuple ys => rw [nk, nk, NestedKey.beq, PyData.eqv]; exact nks_beq xs ys (by simpa [imm] using hx) (by simpa [imm] using hy)
    | _ => first | (simp [imm] at hy; done) | simp [nk, NestedKey.beq, PyData.eqv]
  | .none, y, hx, hy => by cases y <;> first | (simp [imm] at hy; done) | simp [nk, NestedKey.beq, PyData.eqv]
  | .bool a, y, hx, hy => by
    cases y with
    | bool b => cases a <;> cases b <;> simp [nk, NestedKey.beq, PyData.eqv]
    | int b => rw [nk, nk, NestedKey.beq, PyData.eqv]; exact Bool.eq_iff_iff.mpr (by rw [decide_eq_true_iff, beq_iff_eq])
    | _ => first | (simp [imm] at hy; done) | simp [nk, NestedKey.beq, PyData.eqv]
  | .int a, y, hx, hy => by
    cases y with
    | bool b => rw [nk, nk, NestedKey.beq, PyData.eqv]; exact Bool.eq_iff_iff.mpr (by rw [decide_eq_true_iff, beq_iff_eq])
    | int b => rw [nk, nk, NestedKey.beq, PyData.eqv]; exact Bool.eq_iff_iff.mpr (by rw [decide_eq_true_iff, beq_iff_eq])
    | _ => first | (simp [imm] at hy; done) | simp [nk, NestedKey.beq, PyData.eqv]
  | .str a, y, hx, hy => by
    cases y with
    | str b => rw [nk, nk, NestedKey.beq, PyData.eqv]; exact Bool.eq_iff_iff.mpr (by rw [decide_eq_true_iff, beq_iff_eq])
    | _ => first | (simp [imm] at hy; done) | simp [nk, NestedKey.beq, PyData.eqv]
  | .list xs, y, hx, hy => by simp [imm] at hx
  | .dict xs, y, hx, hy => by simp [imm] at hx
theorem nks_beq : ∀ (xs ys : List D), immAll xs = true → immAll ys = true → NestedKey.beqAll (nks xs) (nks ys) = PyData.eqvAll xs ys
  | [], ys, hx, hy => by cases ys <;> simp [nks, NestedKey.beqAll, PyData.eqvAll]
  | x :: xs, ys, hx, hy => by
    cases ys with
    | nil => simp [nks, NestedKey.beqAll, PyData.eqvAll]
    | cons y ys =>
      simp only [immAll, Bool.and_eq_true] at hx hy
      rw [nks, nks, NestedKey.beqAll, PyData.eqvAll, nk_beq x y hx.1 hy.1, nks_beq xs ys hx.2 hy.2]
end
theorem keyT_of {d : D} (h : keyT d = true) : (∃ xs, d = .tuple xs) ∧ imm d = true ∧ d.depth ≤ 8 := by
  unfold keyT at h
  simp only [Bool.and_eq_true, decide_eq_true_eq] at h
  refine ⟨?_, h.1.2, h.2⟩
  cases d <;> first | exact ⟨_, rfl⟩ | exact absurd h.1.1 Bool.false_ne_true
theorem nk_eq {x y : D} (hx : keyT x = true) (hy : keyT y = true) : nk x = nk y ↔ PyData.eqv x y = true := by
  rw [← nk_beq x y (keyT_of hx).2.1 (keyT_of hy).2.1]
  exact ⟨fun e => by rw [e]; exact NestedKey.beq_self _, NestedKey.eq_of_beq _ _⟩
mutual
theorem nk_depth : ∀ (x : D), (nk x).depth ≤ x.depth
  | .none => by simp [nk, NestedKey.depth]
  | .bool _ => by simp [nk, NestedKey.depth]
  | .int _ => by simp [nk, NestedKey.depth]
  | .str _ => by simp [nk, NestedKey.depth]
  | .list _ => by simp [nk, NestedKey.depth]
  | .dict _ => by simp [nk, NestedKey.depth]
  | .tuple xs => by
    have := nks_depth xs
    rw [nk, NestedKey.depth, PyData.depth]
    omega
theorem nks_depth : ∀ (xs : List D), NestedKey.depthAll (nks xs) ≤ PyData.depthAll xs
  | [] => by simp [nks, NestedKey.depthAll]
  | x :: xs => by
    have := nks_depth xs
    have := nk_depth x
    rw [nks, NestedKey.depthAll, PyData.depthAll]
    omega
end
mutual
theorem imm_plain : ∀ (x : D), imm x = true → x.plain = true
  | .none, _ => rfl
  | .bool _, _ => rfl
  | .int _, _ => rfl
  | .str _, _ => rfl
  | .list _, h => by simp [imm] at h
  | .dict _, h => by simp [imm] at h
  | .tuple xs, h => by rw [PyData.plain]; exact immAll_plain xs (by simpa [imm] using h)
theorem immAll_plain : ∀ (xs : List D), immAll xs = true → PyData.plainAll xs = true
  | [], _ => rfl
  | x :: xs, h => by
    simp only [immAll, Bool.and_eq_true] at h
    rw [PyData.plainAll, imm_plain x h.1, immAll_plain xs h.2]
    rfl
end
mutual
theorem nested_of {h : Heap} : ∀ (d : D) (v : Value) (as : List Addr), imm d = true → Reads h v d as → NestedIs h (nk d) v
  | .none, _, _, _, r => by cases r; exact .none
  | .bool b, _, _, _, r => by cases r; exact .bool rfl
  | .int _, _, _, _, r => by cases r; exact .int _ _
  | .str _, _, _, _, r => by cases r; exact .text _ _
  | .list _, _, _, h, _ => by simp [imm] at h
  | .dict _, _, _, h, _ => by simp [imm] at h
  | .tuple xs, _, _, hi, r => by
    cases r with
    | tuple h1 h2 h3 h4 => exact .tup h1 h2 h3 (nested_all xs _ _ (by simpa [imm] using hi) h4)
theorem nested_all {h : Heap} : ∀ (ds : List D) (vs : List Value) (as : List Addr), immAll ds = true → ReadsAll h vs ds as → NestedAll h (nks ds) vs
  | [], _, _, _, r => by cases r; exact .nil
  | d :: ds, _, _, hi, r => by
    simp only [immAll, Bool.and_eq_true] at hi
    cases r with
    | cons r t => exact .cons (nested_of d _ _ hi.1 r) (nested_all ds _ _ hi.2 t)
end
section
variable {X : Cx} {Hf H : Hp} {K : Frag}
/-- the key's tuple stands in the heap -/
theorem key_at {pins : List (Addr × Obj)} {σ : L2.St} {s : Shared} (I : L2.Inv X pins σ H s) {b : Addr} {dk : D} (r : Rp K H (.ref b) dk) (hK : K = X.kw) (ht : keyT dk = true) : (nestedKind X.prog X.w).is s.heap (nk dk) b := by
  subst hK
  obtain ⟨_, h2, h3⟩ := keyT_of ht
  obtain ⟨as, rd⟩ := Dp.reads I dk _ (.ref b) (Rp.dp (imm_plain _ h2) r) rfl
  exact ⟨nested_of _ _ _ h2 rd, Nat.le_trans (nk_depth dk) h3⟩
theorem RpEnt.len {xs : List (NestedKey × Addr × Value)} {kvs : List (D × D)} (r : RpEnt K H xs kvs) : xs.length = kvs.length := by
  induction kvs generalizing xs with
  | nil => cases r; rfl
  | cons p kvs ih => cases r with | cons _ _ _ _ t => simp [ih t]
theorem keys_is {pins : List (Addr × Obj)} {σ : L2.St} {s : Shared} (I : L2.Inv X pins σ H s) {xs : List (NestedKey × Addr × Value)} {kvs : List (D × D)} (r : RpEnt X.kw H xs kvs) : ∀ x ∈ xs, (nestedKind X.prog X.w).is s.heap x.1 x.2.1 := by
  induction kvs generalizing xs with
  | nil => cases r; exact fun x h => absurd h List.not_mem_nil
  | cons p kvs ih =>
    cases r with
    | cons k t e v rest =>
      intro x hx
      rcases List.mem_cons.mp hx with rfl | hx
      · exact key_at I k rfl t
      · exact ih rest x hx
/-- the dict in the heap -/
theorem dx_at {pins : List (Addr × Obj)} {σ : L2.St} {s : Shared} (I : L2.Inv X pins σ H s) {a : Addr} {xs : List (NestedKey × Addr × Value)} {kvs : List (D × D)} (h : Rd H a (DXO X.prog X.w a xs)) (r : RpEnt X.kw H xs kvs) : xs.length ≤ sizeLine ∧ (a == sysModules) = false ∧ s.heap.DictOfH (nestedKind X.prog X.w) a xs := by
  obtain ⟨⟨z, hs, o, es, ep, h1, h2, h3, h4, h5⟩, _⟩ := (show ObjOk X.prog X.w H s.heap a (DXO X.prog X.w a xs) from h.ok I.hok)
  exact ⟨z, hs, o, es, ep, h1, h2, h3, h4, keys_is I r, h5⟩
theorem dx_nodup {pins : List (Addr × Obj)} {σ : L2.St} {s : Shared} (I : L2.Inv X pins σ H s) {a : Addr} {xs : List (NestedKey × Addr × Value)} (h : Rd H a (DXO X.prog X.w a xs)) : (xs.map (·.1)).Nodup := by
  obtain ⟨⟨z, hs, o, es, ep, h1, h2, h3, h4, h5⟩, _⟩ := (show ObjOk X.prog X.w H s.heap a (DXO X.prog X.w a xs) from h.ok I.hok)
  exact h5
theorem keysT_of {kvs : List (D × D)} (h : keysT kvs = true) : ∀ p ∈ kvs, keyT p.1 = true := by
  induction kvs with
  | nil => exact fun p hp => absurd hp List.not_mem_nil
  | cons q kvs ih =>
    simp only [keysT, Bool.and_eq_true] at h
    intro p hp
    rcases List.mem_cons.mp hp with rfl | hp
    · exact h.1
    · exact ih h.2 p hp
/-- what is found -/
theorem ent_find {xs : List (NestedKey × Addr × Value)} {kvs : List (D × D)} (r : RpEnt K Hf xs kvs) {k : D} (hk : keyT k = true) : match dget kvs k with
    | some dv => ∃ u v, valueAt (pairsH xs) (nk k) = some u ∧ L2.RelV v u ∧ Rp K Hf v dv
    | none => valueAt (pairsH xs) (nk k) = none := by
  induction kvs generalizing xs with
  | nil => cases r; rfl
  | cons p kvs ih =>
    cases r with
    | @cons b u v xs dk dv _ kr t e vr rest =>
      show (match (if PyData.eqv dk k = true then some dv else dget kvs k) with | some dv => _ | none => _)
      by_cases h : PyData.eqv dk k = true
      · rw [if_pos h]
        have e1 : nk dk = nk k := (nk_eq t hk).mpr h
        exact ⟨u, v, by simp [pairsH, valueAt, e1], e, vr⟩
      · rw [if_neg h]
        have e1 : nk dk ≠ nk k := fun z => h ((nk_eq t hk).mp z)
        have e2 : valueAt (pairsH ((nk dk, b, u) :: xs)) (nk k) = valueAt (pairsH xs) (nk k) := by simp [pairsH, valueAt, e1]
        have := ih rest
        split at this <;> (rw [e2]; exact this)
theorem atKey_cons {K : Type} [DecidableEq K] (x : K × Addr × Value) (xs : List (K × Addr × Value)) (k : K) : atKey (x :: xs) k = if x.1 = k then some x.2 else atKey xs k := by
  unfold atKey
  rw [List.find?_cons]
  by_cases h : x.1 = k
  · simp [h]
  · simp [h]
theorem mapPut_id {K : Type} [DecidableEq K] {xs : List (K × Addr × Value)} {k : K} {v : Value} (h : k ∉ xs.map (·.1)) : xs.map (putAt k v) = xs := by
  induction xs with
  | nil => rfl
  | cons x xs ih =>
    simp only [List.map_cons, List.mem_cons, not_or] at h
    rw [List.map_cons, ih h.2]
    unfold putAt
    rw [if_neg (fun e => h.1 e.symm)]
theorem storedH_cons {K : Type} [DecidableEq K] {x : K × Addr × Value} {xs : List (K × Addr × Value)} {k : K} {a : Addr} {v : Value} (nd : ((x :: xs).map (·.1)).Nodup) : storedH (x :: xs) k a v = if x.1 = k then (x.1, x.2.1, v) :: xs else x :: storedH xs k a v := by
  rw [List.map_cons, List.nodup_cons] at nd
  unfold storedH
  rw [atKey_cons]
  by_cases h : x.1 = k
  · rw [if_pos h, if_pos h]
    have hn : k ∉ xs.map (·.1) := h ▸ nd.1
    simp only [Option.isSome_some, if_true, List.map_cons]
    rw [mapPut_id hn]
    unfold putAt
    rw [if_pos h]
  · rw [if_neg h, if_neg h]
    split
    · rw [List.map_cons]
      unfold putAt
      rw [if_neg h]
    · rfl
/-- a store -/
theorem ent_put {xs : List (NestedKey × Addr × Value)} {kvs : List (D × D)} (r : RpEnt K Hf xs kvs) (nd : (xs.map (·.1)).Nodup) {k dv : D} {b : Addr} {u : Value} {v : V} (kr : Rp K Hf (.ref b) k) (hk : keyT k = true) (e : L2.RelV v u) (vr : Rp K Hf v dv) : RpEnt K Hf (storedH xs (nk k) b u) (dput kvs k dv) := by
  induction kvs generalizing xs with
  | nil => cases r; exact .cons kr hk e vr .nil
  | cons p kvs ih =>
    cases r with
    | @cons b' u' v' xs dk' dv' _ kr' t' e' vr' rest =>
      rw [storedH_cons nd]
      show RpEnt K Hf _ (if PyData.eqv dk' k = true then (dk', dv) :: kvs else (dk', dv') :: dput kvs k dv)
      by_cases h : PyData.eqv dk' k = true
      · rw [if_pos h, if_pos ((nk_eq t' hk).mpr h)]
        exact .cons kr' t' e vr rest
      · rw [if_neg h, if_neg (fun z => h ((nk_eq t' hk).mp z))]
        rw [List.map_cons, List.nodup_cons] at nd
        exact .cons kr' t' e' vr' (ih rest nd.2)
theorem withoutH_cons {K : Type} [DecidableEq K] {x : K × Addr × Value} {xs : List (K × Addr × Value)} {k : K} (nd : ((x :: xs).map (·.1)).Nodup) : withoutH (x :: xs) k = if x.1 = k then xs else x :: withoutH xs k := by
  rw [List.map_cons, List.nodup_cons] at nd
  unfold withoutH
  rw [List.filter_cons]
  by_cases h : x.1 = k
  · rw [if_pos h, if_neg (by simp [h])]
    exact List.filter_eq_self.mpr fun y hy => by
      have : y.1 ≠ k := fun e => nd.1 (h.trans e.symm ▸ List.mem_map_of_mem hy)
      simp [this]
  · rw [if_neg h, if_pos (by simp [h])]
/-- a key goes -/
theorem ent_del {xs : List (NestedKey × Addr × Value)} {kvs : List (D × D)} (r : RpEnt K Hf xs kvs) (nd : (xs.map (·.1)).Nodup) {k : D} (hk : keyT k = true) : RpEnt K Hf (withoutH xs (nk k)) (ddel kvs k) := by
  induction kvs generalizing xs with
  | nil => cases r; exact .nil
  | cons p kvs ih =>
    cases r with
    | @cons b' u' v' xs dk' dv' _ kr' t' e' vr' rest =>
      rw [withoutH_cons nd]
      show RpEnt K Hf _ (if PyData.eqv dk' k = true then kvs else (dk', dv') :: ddel kvs k)
      by_cases h : PyData.eqv dk' k = true
      · rw [if_pos h, if_pos ((nk_eq t' hk).mpr h)]
        exact rest
      · rw [if_neg h, if_neg (fun z => h ((nk_eq t' hk).mp z))]
        rw [List.map_cons, List.nodup_cons] at nd
        exact .cons kr' t' e' vr' (ih rest nd.2)
/-- its keys, in a row -/
theorem ent_keys {xs : List (NestedKey × Addr × Value)} {kvs : List (D × D)} (r : RpEnt K Hf xs kvs) : RpAll K Hf (xs.map fun x => V.ref x.2.1) (kvs.map (·.1)) := by
  induction kvs generalizing xs with
  | nil => cases r; exact .nil
  | cons p kvs ih => cases r with | cons k _ _ _ t => exact .cons k (ih t)
/-- the object of such a dict -/
theorem dxo_ok {P : Program} {w : World} {h : Heap} {a : Addr} {xs : List (NestedKey × Addr × Value)} (z : xs.length ≤ sizeLine) (hs : (a == sysModules) = false) (d : h.DictOfH (nestedKind P w) a xs) : ObjOk P w H h a (DXO P w a xs) := by
  obtain ⟨o, es, ep, h1, h2, h3, h4, _, h5⟩ := d
  refine ⟨⟨z, hs, o, es, ep, h1, h2, h3, h4, h5⟩, ⟨o, h1⟩, fun g1 g2 ⟨a1, a2, o', es', ep', b1, b2⟩ st => ⟨a1, a2, o', es', ep', st _ b1, b2⟩⟩
theorem RA.dict {kvs : List (D × D)} {v : V} (h : RA K Hf H v (.dict kvs)) (s : Same Hf H) (hk : kvs = [] ∨ ∃ p r, kvs = p :: r ∧ keyT p.1 = true) : ∃ a xs, v = .ref a ∧ Rd H a (DXO K.P K.w a xs) ∧ RpEnt K Hf xs kvs := by
  rcases h with h | ⟨p, o, rfl, a, b, q⟩
  · cases h with
    | @kdc a es n ks vs ds h1 h2 h3 h4 =>
      exfalso
      cases ks with
      | nil => exact h3 rfl
      | cons z ks =>
        cases h4 with
        | nil => cases es using Array.rec with | mk l => cases l <;> simp [KEnt] at h2
        | @cons _ vs _ ds r t =>
          rcases hk with hk | ⟨p, r', hk, ht⟩
          · simp [mkKv] at hk
          · simp only [mkKv, List.map_cons, List.zip_cons_cons] at hk
            cases hk
            simp [keyT, isTupD] at ht
    | dct h1 h2 => exact ⟨_, _, rfl, rd_mono s h1, h2⟩
  · cases q with
    | dct r => exact ⟨p, _, rfl, .inl b, r⟩
theorem keysT_or {kvs : List (D × D)} (h : keysT kvs = true) : kvs = [] ∨ ∃ p r, kvs = p :: r ∧ keyT p.1 = true := by
  cases kvs with
  | nil => exact .inl rfl
  | cons p r => simp only [keysT, Bool.and_eq_true] at h; exact .inr ⟨p, r, rfl, h.1⟩
end
end Q
set_option Elab.async false
set_option linter.all false
set_option maxRecDepth 100000
/-! The operations are what the evaluator says. -/
namespace Q
open PySem PySem.W PySem.Spec L2
open PyProof.Rows hiding St

section
variable {X : Cx} {m : Bool} {Hf H : Hp} {Q : VK} {K : Frag} {o : Op}
theorem RAs.one {v : V} {ds : List D} (h : RAs K Hf H [v] ds) : ∃ d, ds = [d] ∧ RA K Hf H v d := by
  match ds, h with
  | [d], h => exact ⟨d, rfl, h.1⟩
theorem RAs.two {v w : V} {ds : List D} (h : RAs K Hf H [v, w] ds) : ∃ d e, ds = [d, e] ∧ RA K Hf H v d ∧ RA K Hf H w e := by
  match ds, h with
  | [d, e], h => exact ⟨d, e, rfl, h.1, h.2.1⟩
/-- what is wanted of a value -/
abbrev Want (K : Frag) (o : Op) (m : Bool) (Hf H : Hp) (Q : VK) (d : D) : Prop := ∀ v Hf' H', Ext Hf H Hf' H' → RM K m o.fresh H Hf' H' v d → Q v H'
theorem Want.int {i : Int} (s : Same Hf H) (q : Want K o m Hf H Q (.int i)) : Q (.int i) H := q _ _ _ (Ext.refl s) (RM.imm (.int i) rfl)
theorem Want.bool {b : Bool} (s : Same Hf H) (q : Want K o m Hf H Q (.bool b)) : Q (.bl b) H := q _ _ _ (Ext.refl s) (RM.imm (.bl b) rfl)
theorem Want.str {x : Str} (s : Same Hf H) (q : Want K o m Hf H Q (.str x)) : Q (.str x) H := q _ _ _ (Ext.refl s) (RM.imm (.str x) rfl)
theorem Want.lst {vs : List V} {ds : List D} (s : Same Hf H) (q : Want K o m Hf H Q (.list ds)) (r : RpAll K Hf vs ds) : ∀ p, H p = none → Q (.ref p) (upd H p (.lst vs)) := fun p hp =>
  q _ Hf _ (Ext.own s hp) (RM.of_rn (by unfold RN; exact ⟨p, _, rfl, hp, none_sub s hp, upd_same, .lst r⟩))
theorem Want.tup {vs : List V} {ds : List D} (s : Same Hf H) (q : Want K o m Hf H Q (.tuple ds)) (r : RpAll K Hf vs ds) : ∀ p, H p = none → Q (.ref p) (upd H p (.tup vs)) := fun p hp =>
  q _ _ _ (Ext.new s hp) (RM.imm (.tup (SqT.of upd_same) (r.mono (same_upd (none_sub s hp)))) rfl)
theorem Want.rp {v : V} {d : D} (s : Same Hf H) (q : Want K o m Hf H Q d) (r : Rp K Hf v d) (h : o.fresh = false ∨ isMut d = false) : Q v H := by
  refine q _ _ _ (Ext.refl s) ?_
  rcases h with h | h
  · rw [h]; exact RM.of_rp r
  · exact RM.imm r h

/-! ### arithmetic -/
theorem LIM_eq : LIM = sizeLine := by rw [sizeLine_eq]
/-- the list's own object -/
theorem lstObj {pins : List (Addr × Obj)} {σ : L2.St} {s : Shared} {p : Addr} {xs : List V} (I : L2.Inv X pins σ H s) (h : Rd H p (.lst xs)) :
    xs.length ≤ sizeLine ∧ ∃ (its : List Value) (n : Nat), Vals xs its ∧ s.heap.get? p = some { cls := .type "list", data := .seq its.toArray n } := h.ok I.hok
theorem newLst {pins : List (Addr × Obj)} {σ : L2.St} {s : Shared} {vs : List V} {its : List Value} {ds : List D} (I : L2.Inv X pins σ H s) (sb : Same Hf H) (q : Want X.kw o m Hf H Q (.list ds)) (r : RpAll X.kw Hf vs ds) (e : Vals vs its) (hz : vs.length ≤ sizeLine) (tk : Nat) :
    EP X pins σ Q (.ref s.heap.objs.size) { s with heap := s.heap.push { cls := .type "list", data := .seq its.toArray }, toks := tk } :=
  ⟨.ref _, _, I.laid (t' := tk) (o := .lst vs) (fun b ob q => Heap.get?_push_of_some _ q) (Nat.le_refl _) ⟨hz, _, 0, e, Heap.get?_push_size _ rfl⟩, rfl, q.lst sb r _ (I.hok.fresh (Nat.le_refl _))⟩
theorem newTup {pins : List (Addr × Obj)} {σ : L2.St} {s : Shared} {vs : List V} {its : List Value} {ds : List D} (I : L2.Inv X pins σ H s) (sb : Same Hf H) (q : Want X.kw o m Hf H Q (.tuple ds)) (r : RpAll X.kw Hf vs ds) (e : Vals vs its) (hz : vs.length ≤ sizeLine) (tk : Nat) :
    EP X pins σ Q (.ref s.heap.objs.size) { s with heap := s.heap.push { cls := .type "tuple", data := .seq its.toArray }, toks := tk } :=
  ⟨.ref _, _, I.laid (t' := tk) (o := .tup vs) (fun b ob q => Heap.get?_push_of_some _ q) (Nat.le_refl _) ⟨hz, _, e, IsTup.new _ _⟩, rfl, q.tup sb r _ (I.hok.fresh (Nat.le_refl _))⟩
theorem o_add : OpR X (binaryOp .Add) fun x y H Q => rS X.kw .add m [x, y] H Q := by
  rintro pins s σ H x y v u Q I rx ry ⟨Hf, ds, sb, ras, d, e, q⟩
  obtain ⟨a, b, rfl, ra, rb⟩ := ras.two
  simp only [sem] at e
  unfold sAdd at e
  split at e
  · rename_i i j h
    cases h; cases e
    have e1 := ra.int
    have e2 := rb.int
    subst e1 e2
    exact op_add pins s σ H _ _ v u Q I rx ry ⟨i, j, rfl, rfl, Want.int sb q⟩
  · rename_i z w h
    cases h
    split at e
    · rename_i hz
      cases e
      have e1 := ra.str
      have e2 := rb.str
      subst e1 e2
      exact op_add_str pins s σ H _ _ v u Q I rx ry ⟨z, w, rfl, rfl, by rw [← LIM_eq]; exact hz, Want.str sb q⟩
    · cases e
  · rename_i xs ys h
    cases h
    split at e
    · rename_i hz
      cases e
      obtain ⟨p, vs, rfl, h1, a1⟩ := ra.list sb
      obtain ⟨p', vs', rfl, h2, a2⟩ := rb.list sb
      cases rx
      cases ry
      obtain ⟨z1, its, n1, e1, g1⟩ := lstObj I h1
      obtain ⟨z2, its', n2, e2, g2⟩ := lstObj I h2
      have l1 := e1.length
      have l2 := e2.length
      have l3 := a1.len
      have l4 := a2.len
      have lz : its.length + its'.length ≤ sizeLine := by rw [← LIM_eq]; omega
      refine PySem.P.add_list g1 g2 ?_ (by rw [List.size_toArray, List.size_toArray]; omega)
      rw [show its.toArray ++ its'.toArray = (its ++ its').toArray by simp]
      exact newLst I sb q (a1.app a2) (e1.append e2) (by rw [List.length_append]; omega) s.toks
    · cases e
  · rename_i xs ys h
    cases h
    split at e
    · rename_i hz
      cases e
      obtain ⟨p, vs, rfl, h1, g1, a1⟩ := ra.tuple sb
      obtain ⟨p', vs', rfl, h2, g2, a2⟩ := rb.tuple sb
      have l3 := a1.len
      have l4 := a2.len
      refine op_catA pins s σ H _ _ v u Q I rx ry ⟨p, p', vs, vs', rfl, rfl, h1, h2, by rw [← LIM_eq, l3, l4]; exact hz, fun h0 => ?_, fun _ h0 => ?_, fun _ _ => Want.tup sb q (a1.app a2)⟩
      · subst h0
        have : xs = [] := List.eq_nil_of_length_eq_zero (by rw [← l3]; rfl)
        subst this
        exact Want.rp sb q (.tup g2 a2) (.inr rfl)
      · subst h0
        have : ys = [] := List.eq_nil_of_length_eq_zero (by rw [← l4]; rfl)
        subst this
        rw [List.append_nil] at q
        exact Want.rp sb q (.tup g1 a1) (.inr rfl)
    · cases e
  · cases e
theorem o_sub : OpR X (binaryOp .Sub) fun x y H Q => rS X.kw .sub m [x, y] H Q := by
  rintro pins s σ H x y v u Q I rx ry ⟨Hf, ds, sb, ras, d, e, q⟩
  obtain ⟨a, b, rfl, ra, rb⟩ := ras.two
  simp only [sem] at e
  unfold sSub at e
  split at e
  · rename_i i j h
    cases h; cases e
    have e1 := ra.int
    have e2 := rb.int
    subst e1 e2
    exact op_sub pins s σ H _ _ v u Q I rx ry ⟨i, j, rfl, rfl, Want.int sb q⟩
  · cases e
theorem rep_eq (n : Nat) (xs : List D) : rep n xs = (List.replicate n xs).flatten := by
  induction n with
  | zero => rfl
  | succ n ih => rw [rep, ih, List.replicate_succ, List.flatten_cons]
theorem RpAll.rep {vs : List V} {ds : List D} (h : RpAll K Hf vs ds) (n : Nat) : RpAll K Hf (List.replicate n vs).flatten (_root_.Q.rep n ds) := by
  induction n with
  | zero => exact .nil
  | succ n ih => rw [List.replicate_succ, List.flatten_cons, _root_.Q.rep]; exact h.app ih
theorem fold_rep (its : List Value) (n : Nat) : (List.foldl (fun x1 x2 => x1 ++ x2) #[] (List.replicate n its.toArray)) = (List.replicate n its).flatten.toArray := size_rep its n
theorem Vals.rep' {vs : List V} {us : List Value} (h : Vals vs us) (n : Nat) : Vals (List.replicate n vs).flatten (List.replicate n us).flatten := by
  induction n with
  | zero => exact .nil
  | succ n ih => rw [List.replicate_succ, List.flatten_cons, List.replicate_succ, List.flatten_cons]; exact h.append ih
theorem o_mul : OpR X (binaryOp .Mult) fun x y H Q => rS X.kw .mul m [x, y] H Q := by
  rintro pins s σ H x y v u Q I rx ry ⟨Hf, ds, sb, ras, d, e, q⟩
  obtain ⟨a, b, rfl, ra, rb⟩ := ras.two
  simp only [sem] at e
  unfold sMul at e
  split at e
  · rename_i i j h
    cases h
    split at e
    · rename_i hm
      cases e
      have e1 := ra.int
      have e2 := rb.int
      subst e1 e2
      refine op_mul pins s σ H _ _ v u Q I rx ry ⟨i, j, rfl, rfl, ?_, Want.int sb q⟩
      simp only [mulOk, Bool.or_eq_true, Bool.and_eq_true, decide_eq_true_eq] at hm
      exact hm
    · cases e
  · rename_i xs k h
    cases h
    split at e
    · rename_i hm
      cases e
      simp only [Bool.and_eq_true, decide_eq_true_eq] at hm
      obtain ⟨⟨k1, k2⟩, k3⟩ := hm
      obtain ⟨p, vs, rfl, h1, a1⟩ := ra.list sb
      have e2 := rb.int
      subst e2
      cases rx
      obtain ⟨t, rfl⟩ := ry
      obtain ⟨z1, its, n1, e1, g1⟩ := lstObj I h1
      have l1 := e1.length
      have l3 := a1.len
      have hlen : its.toArray.size * k.toNat ≤ sizeLine := by rw [List.size_toArray, ← l1, l3, ← LIM_eq]; exact k3
      have hcap : ¬ its.toArray.size * k.toNat > (2 ^ 63 - 1) / 8 := by
        have : (sizeLine : Nat) ≤ (2 ^ 63 - 1) / 8 := by decide
        omega
      have hfit : ¬ (!Builtin.List.listFitsIndex k) = true := by
        rw [fitsIndex_both (by omega) (by omega)]
        exact Bool.false_ne_true
      have hlong : ¬ Builtin.List.listTooLong (its.toArray.size * k.toNat) = true := by
        rw [notLongL hlen]
        exact Bool.false_ne_true
      refine wpAny_binaryOp_repeat_ref (T := "list") (U := "int") (by decide) ⟨_, g1, rfl⟩ (fun s' => typeIs_int s' k t) noFill_list_mul F.fills_int_mul F.slot_int_rmul repeat_list F.slot_int_index.lookup
        (call_meets F.slot_int_rmul (typeIs_int s k t) F.entry_int_rmul (F.args_int_rmul_2 _ _) (int___rmul___int_list k t p its.toArray n1)
          ⟨g1, rfl, ⟨_, g1, rfl⟩, call_meets F.slot_list_mul ⟨_, g1, rfl⟩ F.entry_list_mul (F.args_list_mul_2 _ _) (AutoListH.list___mul___list_int_3 p its.toArray n1 k t hfit hcap hlong) ⟨g1, ?_⟩⟩)
      have hnew : List.foldl (fun x1 x2 => x1 ++ x2) #[] (List.replicate (if its.toArray.isEmpty = true then 0 else k.toNat) its.toArray) = (List.replicate k.toNat its).flatten.toArray := by
        cases its with
        | nil => simp
        | cons a r' => rw [if_neg (by simp), fold_rep]
      rw [hnew]
      exact newLst I sb q (a1.rep k.toNat) (Vals.rep' e1 k.toNat) (by rw [PyProof.Rows.lm_len_rep_flat, Nat.mul_comm, l3, ← LIM_eq]; exact k3) s.toks
    · cases e
  · rename_i xs k h
    cases h
    split at e
    · rename_i hm
      cases e
      simp only [Bool.and_eq_true, decide_eq_true_eq] at hm
      obtain ⟨⟨⟨k1, k2⟩, k3⟩, k4⟩ := hm
      obtain ⟨p, vs, rfl, h1, g1, a1⟩ := ra.tuple sb
      have e2 := rb.int
      subst e2
      have l3 := a1.len
      refine op_repT pins s σ H _ _ v u Q I rx ry ⟨p, k, vs, rfl, rfl, h1, fun z => ?_, k1, k2, by rw [l3]; exact k4, Want.tup sb q (a1.rep k.toNat)⟩
      subst z
      have : xs = [] := List.eq_nil_of_length_eq_zero (by rw [← l3]; rfl)
      subst this
      simp at k3
    · cases e
  · cases e
/-! ints alone -/
theorem two_ints {f : Value → Value → Sem Value} {o : Op} {r : R2} (ho : OpR X f r) (g : List D → R D) (hs : ∀ ds, sem o ds = g ds) (h : ∀ (i j : Int) (d : D) (Hf H : Hp) (Q : VK), g [.int i, .int j] = .ok d → Same Hf H → Want X.kw o m Hf H Q d → r (.int i) (.int j) H Q)
    (hi : ∀ a b d, g [a, b] = .ok d → ∃ i j, a = .int i ∧ b = .int j) : OpR X f fun x y H Q => rS X.kw o m [x, y] H Q := by
  rintro pins s σ H x y v u Q I rx ry ⟨Hf, ds, sb, ras, d, e, q⟩
  obtain ⟨a, b, rfl, ra, rb⟩ := ras.two
  rw [hs] at e
  obtain ⟨i, j, rfl, rfl⟩ := hi a b d e
  have e1 := ra.int
  have e2 := rb.int
  subst e1 e2
  exact ho pins s σ H _ _ v u Q I rx ry (h i j d Hf H Q e sb q)
theorem o_fdiv : OpR X (binaryOp .FloorDiv) fun x y H Q => rS X.kw .fdiv m [x, y] H Q :=
  two_ints op_fdiv sDiv (fun _ => rfl) (fun i j d Hf H Q e sb q => by
    unfold sDiv at e
    simp only at e
    split at e
    · rename_i h
      cases e
      simp only [Bool.and_eq_true, decide_eq_true_eq] at h
      exact ⟨i, j, rfl, rfl, h, Want.int sb q⟩
    · cases e) fun a b d e => by
    unfold sDiv at e
    split at e
    · rename_i i j h; cases h; exact ⟨i, j, rfl, rfl⟩
    · cases e
theorem o_mod : OpR X (binaryOp .Mod) fun x y H Q => rS X.kw .mod m [x, y] H Q :=
  two_ints op_mod sMod (fun _ => rfl) (fun i j d Hf H Q e sb q => by
    unfold sMod at e
    simp only at e
    split at e
    · rename_i h
      cases e
      exact ⟨i, j, rfl, rfl, by simpa using h, Want.int sb q⟩
    · cases e) fun a b d e => by
    unfold sMod at e
    split at e
    · rename_i i j h; cases h; exact ⟨i, j, rfl, rfl⟩
    · cases e
theorem o_pow : OpR X (binaryOp .Pow) fun x y H Q => rS X.kw .pow m [x, y] H Q :=
  two_ints op_pow sPow (fun _ => rfl) (fun i j d Hf H Q e sb q => by
    unfold sPow at e
    simp only at e
    split at e
    · rename_i h
      cases e
      simp only [Bool.and_eq_true, decide_eq_true_eq] at h
      exact ⟨i, j, rfl, rfl, ⟨h.1.1, h.1.2, h.2⟩, Want.int sb q⟩
    · cases e) fun a b d e => by
    unfold sPow at e
    split at e
    · rename_i i j h; cases h; exact ⟨i, j, rfl, rfl⟩
    · cases e
theorem int2_inv {f : Int → Int → Int} (a b d : D) (e : sInt2 f [a, b] = .ok d) : ∃ i j, a = .int i ∧ b = .int j := by
  unfold sInt2 at e
  split at e
  · rename_i i j h; cases h; exact ⟨i, j, rfl, rfl⟩
  · cases e
theorem o_band : OpR X (binaryOp .BitAnd) fun x y H Q => rS X.kw .band m [x, y] H Q :=
  two_ints op_and (sInt2 Builtin.bitAnd) (fun _ => rfl) (fun i j d Hf H Q e sb q => by
    cases e; exact ⟨i, j, rfl, rfl, Want.int sb q⟩) int2_inv
theorem o_bor : OpR X (binaryOp .BitOr) fun x y H Q => rS X.kw .bor m [x, y] H Q :=
  two_ints op_or (sInt2 Builtin.bitOr) (fun _ => rfl) (fun i j d Hf H Q e sb q => by
    cases e; exact ⟨i, j, rfl, rfl, Want.int sb q⟩) int2_inv
theorem o_shl : OpR X (binaryOp .LShift) fun x y H Q => rS X.kw .shl m [x, y] H Q :=
  two_ints op_shl sShl (fun _ => rfl) (fun i j d Hf H Q e sb q => by
    unfold sShl at e
    simp only at e
    split at e
    · rename_i h
      cases e
      simp only [Bool.and_eq_true, decide_eq_true_eq] at h
      exact ⟨i, j, rfl, rfl, ⟨h.1.1, h.1.2, h.2⟩, Want.int sb q⟩
    · cases e) fun a b d e => by
    unfold sShl at e
    split at e
    · rename_i i j h; cases h; exact ⟨i, j, rfl, rfl⟩
    · cases e
theorem o_shr : OpR X (binaryOp .RShift) fun x y H Q => rS X.kw .shr m [x, y] H Q :=
  two_ints op_shr sShr (fun _ => rfl) (fun i j d Hf H Q e sb q => by
    unfold sShr at e
    simp only at e
    split at e
    · rename_i h
      cases e
      exact ⟨i, j, rfl, rfl, by simpa using h, Want.int sb q⟩
    · cases e) fun a b d e => by
    unfold sShr at e
    split at e
    · rename_i i j h; cases h; exact ⟨i, j, rfl, rfl⟩
    · cases e
theorem o_neg : UnR X (unaryOp .USub) fun x H Q => rS X.kw .neg m [x] H Q := by
  rintro pins s σ H x v Q I rx ⟨Hf, ds, sb, ras, d, e, q⟩
  obtain ⟨a, rfl, ra⟩ := ras.one
  simp only [sem] at e
  unfold sNeg at e
  split at e
  · rename_i i h
    cases h; cases e
    have e1 := ra.int
    subst e1
    exact un_neg pins s σ H _ v Q I rx ⟨i, rfl, Want.int sb q⟩
  · cases e
theorem o_inv : UnR X (unaryOp .Invert) fun x H Q => rS X.kw .inv m [x] H Q := by
  rintro pins s σ H x v Q I rx ⟨Hf, ds, sb, ras, d, e, q⟩
  obtain ⟨a, rfl, ra⟩ := ras.one
  simp only [sem] at e
  unfold sInv at e
  split at e
  · rename_i i h
    cases h; cases e
    have e1 := ra.int
    subst e1
    exact un_inv pins s σ H _ v Q I rx ⟨i, rfl, Want.int sb q⟩
  · cases e

/-! ### comparisons of data -/
theorem rdsV {pins : List (Addr × Obj)} {σ : L2.St} {s : Shared} {v : V} {u : Value} {d : D} (I : L2.Inv X pins σ H s) (sb : Same Hf H) (r : RA X.kw Hf H v d) (rv : RelV v u) (hp : d.plain = true) : ∃ as, Reads s.heap u d as :=
  Dp.reads I d v u (Rp.dp hp (r.here sb)) rv
theorem dOk_plain {d : D} (h : dOk d = true) : d.plain = true ∧ d.depth ≤ 100 := by
  unfold dOk at h
  simp only [Bool.and_eq_true, decide_eq_true_eq] at h
  exact h
theorem allOk_plain : ∀ {l : List D}, allOk l = true → PyData.plainAll l = true ∧ PyData.depthAll l ≤ 100
  | [], _ => ⟨rfl, by simp [PyData.depthAll]⟩
  | d :: l, h => by
    simp only [allOk, Bool.and_eq_true] at h
    obtain ⟨h1, h2⟩ := h
    obtain ⟨a1, a2⟩ := dOk_plain h1
    obtain ⟨b1, b2⟩ := allOk_plain h2
    exact ⟨by simp only [PyData.plainAll, a1, b1]; rfl, by simp only [PyData.depthAll]; omega⟩
theorem o_eq (hr : X.A.units + 200 < cLine) : OpR X (compareOp .Eq) fun x y H Q => rS X.kw .eq m [x, y] H Q := by
  rintro pins s σ H x y v u Q I rx ry ⟨Hf, ds, sb, ras, d, e, q⟩
  obtain ⟨a, b, rfl, ra, rb⟩ := ras.two
  simp only [sem, sEq] at e
  split at e
  · rename_i h
    simp only [Bool.and_eq_true] at h
    cases e
    obtain ⟨p1, p2⟩ := dOk_plain h.1
    obtain ⟨p3, p4⟩ := dOk_plain h.2
    obtain ⟨as, r1⟩ := rdsV I sb ra rx p1
    obtain ⟨bs, r2⟩ := rdsV I sb rb ry p3
    exact SeqAt.eq_plain r1 r2 p1 p3 (by omega) ⟨.bl _, H, I, rfl, Want.bool sb (by simpa using q)⟩
  · cases e
theorem o_ne (hr : X.A.units + 200 < cLine) : OpR X (compareOp .NotEq) fun x y H Q => rS X.kw .ne m [x, y] H Q := by
  rintro pins s σ H x y v u Q I rx ry ⟨Hf, ds, sb, ras, d, e, q⟩
  obtain ⟨a, b, rfl, ra, rb⟩ := ras.two
  simp only [sem, sEq] at e
  split at e
  · rename_i h
    simp only [Bool.and_eq_true] at h
    cases e
    obtain ⟨p1, p2⟩ := dOk_plain h.1
    obtain ⟨p3, p4⟩ := dOk_plain h.2
    obtain ⟨as, r1⟩ := rdsV I sb ra rx p1
    obtain ⟨bs, r2⟩ := rdsV I sb rb ry p3
    have : (true != PyData.eqv a b) = !PyData.eqv a b := by cases PyData.eqv a b <;> rfl
    rw [this] at q
    exact SeqAt.ne_plain r1 r2 p1 p3 (by omega) ⟨.bl _, H, I, rfl, Want.bool sb q⟩
  · cases e
theorem memb_any (x : D) (xs : List D) : memb x xs = xs.any fun y => PyData.eqv y x := by
  induction xs with
  | nil => rfl
  | cons y r ih => rw [memb, ih, List.any_cons]
/-- the module's dicts with text keys, written there -/
def TupND (K : PySem.W.Frag) : Prop := ∀ (a : Addr) (o : Obj), K.lookup a = some o → o.cls = .type "tuple" → o.dict = none
def KLit (K : PySem.W.Frag) (w : World) : Prop := (∀ (a : Addr) (es : Array DictEntry) (n : Nat) (ks : List Str) (vs : List V), K.lookup a = some ⟨.type "dict", none, .dict es n, #[]⟩ → KEnt es.toList ks vs → PySem.W.KeysLit w.params es.toList ∧ (a == sysModules) = false) ∧ TupND K
theorem kent_find {K : Frag} {Hf : Hp} {z : Str} : ∀ {l : List DictEntry} {ks : List Str} {vs : List V} {ds : List D}, KEnt l ks vs → RpAll K Hf vs ds → match dget (mkKv (ks.map .str) ds) (.str z) with
    | some d => ∃ e v, l.find? (fun e => Value.isStrOf z e.key) = some e ∧ RelV v e.val ∧ Rp K Hf v d
    | none => l.find? (fun e => Value.isStrOf z e.key) = none
  | [], [], [], _, _, .nil => rfl
  | e :: l, x :: ks, v :: vs, d :: ds, h, .cons r t => by
    obtain ⟨⟨tk, h1⟩, h2, h3⟩ := h
    have hz : Value.isStrOf z e.key = (x == z) := by rw [h1]; rfl
    have he : PyData.eqv (.str x) (.str z) = (x == z) := by simp [PyData.eqv]
    show (match (if PyData.eqv (.str x) (.str z) then some d else dget (mkKv (ks.map .str) ds) (.str z)) with | some d => _ | none => _)
    rw [he, List.find?_cons, hz]
    cases hb : (x == z) with
    | true => exact ⟨e, v, rfl, h2, r⟩
    | false => exact kent_find (z := z) h3 t
  | [], _ :: _, _, _, h, _ => h.elim
  | [], [], _ :: _, _, h, _ => h.elim
  | _ :: _, [], _, _, h, _ => h.elim
  | _ :: _, _ :: _, [], _, h, _ => h.elim
theorem find_by {z : Str} {es : Array DictEntry} : findBy Value.isStrOf es z = (es.toList.find? fun e => Value.isStrOf z e.key).map (·.val) := by
  obtain ⟨l⟩ := es
  unfold findBy
  rw [List.find?_toArray]
theorem str_keys {kvs : List (D × D)} {z : Str} {xs : List (NestedKey × Addr × Value)} {K : Frag} {H : Hp} (r : RpEnt K H xs kvs) (h : keyOk kvs (.str z) = true) : False := by
  unfold keyOk at h
  simp only [Bool.and_eq_true] at h
  obtain ⟨h1, h2⟩ := h
  cases r with
  | nil => simp at h1
  | cons k t e v r =>
    obtain ⟨⟨ys, rfl⟩, _⟩ := keyT_of t
    simp [isStrD] at h2
theorem kdc_of {K : Frag} {Hf H : Hp} {v : V} {kvs : List (D × D)} {z : Str} (sb : Same Hf H) (r : RA K Hf H v (.dict kvs)) (h : keyOk kvs (.str z) = true) : ∃ a es n ks vs ds, v = .ref a ∧ kvs = mkKv (ks.map .str) ds ∧ K.k.lookup a = some ⟨.type "dict", none, .dict es n, #[]⟩ ∧ KEnt es.toList ks vs ∧ RpAll K Hf vs ds := by
  rcases r with r | ⟨_, _, _, _, _, r⟩
  · cases r with
    | kdc h1 h2 h3 h4 => exact ⟨_, _, _, _, _, _, rfl, rfl, h1, h2, h4⟩
    | dct h1 h2 => exact (str_keys h2 h).elim
  · cases r with
    | dct h1 => exact (str_keys h1 h).elim
theorem keyOk_or {kvs : List (D × D)} {k : D} (h : keyOk kvs k = true) : (∃ z, k = .str z) ∨ (keyT k = true ∧ keysT kvs = true) := by
  cases k with
  | str z => exact .inl ⟨z, rfl⟩
  | tuple xs => unfold keyOk at h; simp only [Bool.and_eq_true] at h; exact .inr h
  | _ => exact absurd h Bool.false_ne_true
theorem keyT_ref {K : Frag} {H : Hp} {v : V} {k : D} (r : Rp K H v k) (h : keyT k = true) : ∃ b, v = .ref b := by
  obtain ⟨⟨ys, rfl⟩, _⟩ := keyT_of h
  cases r with
  | tup h1 h2 => exact ⟨_, rfl⟩
theorem keyT_mut {k : D} (h : keyT k = true) : isMut k = false := by
  obtain ⟨⟨ys, rfl⟩, _⟩ := keyT_of h
  rfl
theorem isin_of {n : Bool} {cop : CmpOp} {o : Op} (hk : KLit X.K X.w) (rd : ∀ (s : Shared) (z : Str) (t : Tok) (a : Addr) (es : Array DictEntry) (m : Nat) (Q : Value → Shared → Prop), X.K.In s.heap → X.K.lookup a = some ⟨.type "dict", none, .dict es m, #[]⟩ → PySem.W.KeysLit X.w.params es.toList → (a == sysModules) = false → Q (.bool (n != (findBy Value.isStrOf es z).isSome)) { s with toks := s.toks + 1 } → wpAny (model X.prog X.w) X.A (compareOp cop (.str z t) (.ref a)) Q X.xe s) (hr : X.A.units + 200 < cLine) (ho : ∀ ds, sem o ds = sIn n ds)
    (rk : ∀ (s : Shared) (a b : Addr) (k : NestedKey) (kvs : List (NestedKey × Value)) (Q : Value → Shared → Prop), (nestedKind X.prog X.w).is s.heap k b → (a == sysModules) = false → s.heap.DictKeyed (nestedKind X.prog X.w) a kvs → Q (.bool (n != (valueAt kvs k).isSome)) { s with toks := s.toks + (nestedKind X.prog X.w).draws k } → wpAny (model X.prog X.w) X.A (compareOp cop (.ref b) (.ref a)) Q X.xe s)
    (rl : ∀ (s : Shared) (cv xv : Value) (xs : List D) (d : D) (as bs : List Addr) (Q : Value → Shared → Prop), Reads s.heap cv (.list xs) as → Reads s.heap xv d bs → PyData.plainAll xs = true → d.plain = true → X.A.units + 1 + min (PyData.depthAll xs) d.depth < cLine → Q (.bool (n != xs.any fun y => PyData.eqv y d)) s → wpAny (model X.prog X.w) X.A (compareOp cop xv cv) Q X.xe s)
    (rt : ∀ (s : Shared) (cv xv : Value) (xs : List D) (d : D) (as bs : List Addr) (Q : Value → Shared → Prop), Reads s.heap cv (.tuple xs) as → Reads s.heap xv d bs → PyData.plainAll xs = true → d.plain = true → X.A.units + 1 + min (PyData.depthAll xs) d.depth < cLine → Q (.bool (n != xs.any fun y => PyData.eqv y d)) s → wpAny (model X.prog X.w) X.A (compareOp cop xv cv) Q X.xe s) :
    OpR X (compareOp cop) fun x y H Q => rS X.kw o m [x, y] H Q := by
  rintro pins s σ H x y v u Q I rx ry ⟨Hf, ds, sb, ras, d, e, q⟩
  obtain ⟨a, b, rfl, ra, rb⟩ := ras.two
  rw [ho] at e
  unfold sIn at e
  split at e
  · rename_i z xs h
    cases h
    split at e
    · rename_i h
      simp only [Bool.and_eq_true] at h
      cases e
      obtain ⟨p1, p2⟩ := dOk_plain h.1
      obtain ⟨p3, p4⟩ := allOk_plain h.2
      obtain ⟨as, r1⟩ := rdsV I sb ra rx p1
      obtain ⟨bs, r2⟩ := rdsV I sb rb ry (by simpa [PyData.plain] using p3)
      exact rl s u v xs a _ _ _ r2 r1 p3 p1 (by omega) ⟨.bl _, H, I, rfl, Want.bool sb (by rw [← memb_any]; exact q)⟩
    · cases e
  · rename_i z xs h
    cases h
    split at e
    · rename_i h
      simp only [Bool.and_eq_true] at h
      cases e
      obtain ⟨p1, p2⟩ := dOk_plain h.1
      obtain ⟨p3, p4⟩ := allOk_plain h.2
      obtain ⟨as, r1⟩ := rdsV I sb ra rx p1
      obtain ⟨bs, r2⟩ := rdsV I sb rb ry (by simpa [PyData.plain] using p3)
      exact rt s u v xs a _ _ _ r2 r1 p3 p1 (by omega) ⟨.bl _, H, I, rfl, Want.bool sb (by rw [← memb_any]; exact q)⟩
    · cases e
  · rename_i z kvs h
    cases h
    split at e
    · rename_i h
      cases e
      rcases keyOk_or h with ⟨zz, rfl⟩ | ⟨hk1, hk2⟩
      · obtain ⟨a, es, m, ks, vs, ds, rfl, rfl, h1, h2, h3⟩ := kdc_of sb rb h
        obtain ⟨g1, g2⟩ := hk.1 a es m ks vs h1 h2
        have := ra.str
        subst this
        obtain ⟨t, rfl⟩ := (show ∃ t, v = Value.str zz t from rx)
        cases (show u = Value.ref a from ry)
        have kf := kent_find (z := zz) h2 h3
        have hb : (dget (mkKv (ks.map .str) ds) (.str zz)).isSome = (findBy Value.isStrOf es zz).isSome := by
          rw [find_by]
          split at kf
          · rename_i d hd
            obtain ⟨e, v, q1, _, _⟩ := kf
            rw [q1, hd]
            rfl
          · rename_i hd
            rw [kf, hd]
            rfl
        rw [hb] at q
        exact rd s zz t a es m _ I.kIn h1 g1 g2 ⟨.bl _, H, I.tok _, rfl, Want.bool sb q⟩
      · have rz := ra.rp (keyT_mut hk1)
        obtain ⟨b, rfl⟩ := keyT_ref rz hk1
        obtain ⟨a', xs, rfl, h1, h2⟩ := rb.dict sb (keysT_or hk2)
        cases (show v = Value.ref b from rx)
        cases (show u = Value.ref a' from ry)
        obtain ⟨_, g1, g2⟩ := dx_at I h1 (h2.mono sb)
        have hb : (dget kvs a).isSome = (valueAt (pairsH xs) (nk a)).isSome := by
          have := ent_find h2 hk1
          split at this
          · rename_i d hd
            obtain ⟨u, v, e1, _, _⟩ := this
            rw [hd, e1]
            rfl
          · rename_i hd
            rw [hd, this]
            rfl
        rw [hb] at q
        exact rk s a' b (nk a) (pairsH xs) _ (key_at I (rz.mono sb) rfl hk1) g1 ⟨xs, g2, rfl⟩ ⟨.bl _, H, I.tok _, rfl, Want.bool sb q⟩
    · cases e
  · cases e
theorem nroom {A : Around} (hu : A.units + 200 < cLine) : (nestedKind X.prog X.w).room A.in1 := by show A.units + 1 + 8 < cLine; omega
theorem o_isin (hk : KLit X.K X.w) (hr : X.A.units + 200 < cLine) : OpR X (compareOp .In) fun x y H Q => rS X.kw .isin m [x, y] H Q :=
  isin_of (n := false) hk (fun s z t a es m Q ki h1 h2 h3 h => wpAny_in_of (strKind_is X.prog X.w z t) h3 (PySem.W.mapOf_K ki h1 h2) (by simpa using h)) hr (fun _ => rfl) (fun s a b k kvs Q h1 h2 h3 h => in_keyed (nroom hr) h1 h2 h3 (by simpa using h)) (fun s cv xv xs d as bs Q r1 r2 p1 p2 hu h => SeqAt.in_list_data r1 r2 p1 p2 hu (by simpa using h)) fun s cv xv xs d as bs Q r1 r2 p1 p2 hu h => SeqAt.in_tuple_data r1 r2 p1 p2 hu (by simpa using h)
theorem o_notin (hk : KLit X.K X.w) (hr : X.A.units + 200 < cLine) : OpR X (compareOp .NotIn) fun x y H Q => rS X.kw .notin m [x, y] H Q :=
  isin_of (n := true) hk (fun s z t a es m Q ki h1 h2 h3 h => wpAny_notIn_of (strKind_is X.prog X.w z t) h3 (PySem.W.mapOf_K ki h1 h2) (by simpa using h)) hr (fun _ => rfl) (fun s a b k kvs Q h1 h2 h3 h => notIn_keyed (nroom hr) h1 h2 h3 (by simpa using h)) (fun s cv xv xs d as bs Q r1 r2 p1 p2 hu h => SeqAt.notIn_list_data r1 r2 p1 p2 hu (by simpa using h)) fun s cv xv xs d as bs Q r1 r2 p1 p2 hu h => SeqAt.notIn_tuple_data r1 r2 p1 p2 hu (by simpa using h)
theorem ord_of {cop : CmpOp} {o : Op} {f : Int → Int → Bool} {g : D → D → Bool} (hr : X.A.units + 200 < cLine) (ho : ∀ ds, sem o ds = sOrd f g ds) (hi : OpR X (compareOp cop) (rI0 fun i j => .bl (f i j)))
    (hd : ∀ (s : Shared) (a b : Value) (da db : D) (as bs : List Addr) (Q : Value → Shared → Prop), Reads s.heap a da as → Reads s.heap b db bs → alike da db = true → da ≠ .none → X.A.units + min da.depth db.depth < cLine → Q (.bool (g da db)) s → wpAny (model X.prog X.w) X.A (compareOp cop a b) Q X.xe s) :
    OpR X (compareOp cop) fun x y H Q => rS X.kw o m [x, y] H Q := by
  rintro pins s σ H x y v u Q I rx ry ⟨Hf, ds, sb, ras, d, e, q⟩
  obtain ⟨a, b, rfl, ra, rb⟩ := ras.two
  rw [ho] at e
  unfold sOrd at e
  split at e
  · rename_i i j h
    cases h; cases e
    have e1 := ra.int
    have e2 := rb.int
    subst e1 e2
    exact hi pins s σ H _ _ v u Q I rx ry ⟨i, j, rfl, rfl, Want.bool sb q⟩
  · rename_i z w hno h
    cases h
    split at e
    · rename_i h
      cases e
      simp only [Bool.and_eq_true] at h
      obtain ⟨⟨⟨⟨h1, h2⟩, h3⟩, h4⟩, h5⟩ := h
      obtain ⟨p1, p2⟩ := dOk_plain h4
      obtain ⟨as, r1⟩ := rdsV I sb ra rx p1
      obtain ⟨bs, r2⟩ := rdsV I sb rb ry (dOk_plain h5).1
      refine hd s v u _ _ _ _ _ r1 r2 h1 (fun z => by subst z; cases h2) (by omega) ⟨.bl _, H, I, rfl, Want.bool sb q⟩
    · cases e
  · cases e
theorem o_lt (hr : X.A.units + 200 < cLine) : OpR X (compareOp .Lt) fun x y H Q => rS X.kw .lt m [x, y] H Q := ord_of hr (fun _ => rfl) op_lt fun s a b da db as bs Q r1 r2 h1 h2 h3 h => lt_data r1 r2 h1 h2 h3 h
theorem o_le (hr : X.A.units + 200 < cLine) : OpR X (compareOp .LtE) fun x y H Q => rS X.kw .le m [x, y] H Q := ord_of hr (fun _ => rfl) op_le fun s a b da db as bs Q r1 r2 h1 h2 h3 h => le_data r1 r2 h1 h2 h3 h
theorem o_gt (hr : X.A.units + 200 < cLine) : OpR X (compareOp .Gt) fun x y H Q => rS X.kw .gt m [x, y] H Q := ord_of hr (fun _ => rfl) op_gt fun s a b da db as bs Q r1 r2 h1 h2 h3 h => gt_data r1 r2 h1 h2 h3 h
theorem o_ge (hr : X.A.units + 200 < cLine) : OpR X (compareOp .GtE) fun x y H Q => rS X.kw .ge m [x, y] H Q := ord_of hr (fun _ => rfl) op_ge fun s a b da db as bs Q r1 r2 h1 h2 h3 h => ge_data r1 r2 h1 h2 h3 h
theorem rp_none {v : V} {d : D} (h : Rp K Hf v d) : decide (v = .non) = isNone d := by
  cases h <;> rfl
theorem ra_none {v : V} {d : D} (h : RA K Hf H v d) : decide (v = .non) = isNone d := by
  rcases h with h | ⟨p, o, rfl, _, _, q⟩
  · exact rp_none h
  · cases q <;> rfl
theorem o_isN : OpR X (compareOp .Is) fun x y H Q => rS X.kw .isN m [x, y] H Q := by
  rintro pins s σ H x y v u Q I rx ry ⟨Hf, ds, sb, ras, d, e, q⟩
  obtain ⟨a, b, rfl, ra, rb⟩ := ras.two
  simp only [sem] at e
  unfold sIsN at e
  split at e
  · rename_i z h
    cases h; cases e
    have e2 := rb.non
    subst e2
    refine op_isN pins s σ H _ _ v u Q I rx ry ⟨rfl, ?_⟩
    rw [ra_none ra]
    exact Want.bool sb (by simpa using q)
  · cases e
theorem o_isNN : OpR X (compareOp .IsNot) fun x y H Q => rS X.kw .isNN m [x, y] H Q := by
  rintro pins s σ H x y v u Q I rx ry ⟨Hf, ds, sb, ras, d, e, q⟩
  obtain ⟨a, b, rfl, ra, rb⟩ := ras.two
  simp only [sem] at e
  unfold sIsN at e
  split at e
  · rename_i z h
    cases h; cases e
    have e2 := rb.non
    subst e2
    refine op_notN pins s σ H _ _ v u Q I rx ry ⟨rfl, ?_⟩
    rw [ra_none ra]
    exact Want.bool sb (by simpa using q)
  · cases e
end
end Q
set_option Elab.async false
set_option linter.all false
set_option maxRecDepth 100000
/-! More operations: items, slices, lengths, sequences, sorted, isinstance, all, any, min, max, sums. -/
namespace Q
open PySem PySem.W PySem.Spec L2
open PyProof.Rows hiding St
section
variable {X : Cx} {m : Bool} {Hf H : Hp} {Q : VK} {K : Frag} {o : Op}
theorem o_isB : OpR X (compareOp .Is) fun x y H Q => rS X.kw .isB m [x, y] H Q := by
  rintro pins s σ H x y v u Q I rx ry ⟨Hf, ds, sb, ras, d, e, q⟩
  obtain ⟨a, b, rfl, ra, rb⟩ := ras.two
  simp only [sem] at e
  unfold sIsB at e
  split at e
  · rename_i k l h
    cases h; cases e
    have e1 := ra.bool
    have e2 := rb.bool
    subst e1 e2
    refine op_is_bl pins s σ H _ _ v u Q I rx ry ⟨k, l, rfl, rfl, ?_⟩
    rw [show decide (k = l) = (false != (k == l)) by cases k <;> cases l <;> rfl]
    exact Want.bool sb q
  · cases e
theorem o_isNB : OpR X (compareOp .IsNot) fun x y H Q => rS X.kw .isNB m [x, y] H Q := by
  rintro pins s σ H x y v u Q I rx ry ⟨Hf, ds, sb, ras, d, e, q⟩
  obtain ⟨a, b, rfl, ra, rb⟩ := ras.two
  simp only [sem] at e
  unfold sIsB at e
  split at e
  · rename_i k l h
    cases h; cases e
    have e1 := ra.bool
    have e2 := rb.bool
    subst e1 e2
    refine op_isnot_bl pins s σ H _ _ v u Q I rx ry ⟨k, l, rfl, rfl, ?_⟩
    rw [show (!decide (k = l)) = (true != (k == l)) by cases k <;> cases l <;> rfl]
    exact Want.bool sb q
  · cases e
/-! items -/
theorem at_get {vs : List V} {xs : List D} (r : RpAll K Hf vs xs) {i : Int} {d : D} (h : itemAt xs i = some d) : ∃ v, atI vs i = some v ∧ Rp K Hf v d := by
  unfold itemAt atI at h
  unfold atI
  rw [r.len]
  cases e : ixN xs.length i with
  | none => rw [e] at h; cases h
  | some j =>
    rw [e] at h
    obtain ⟨v, h1, h2⟩ := r.get (i := j) h
    exact ⟨v, h1, h2⟩
theorem opt_ok {z : Option D} {d : D} (h : opt z = .ok d) : z = some d := by
  cases z with
  | none => cases h
  | some x => cases h; rfl
theorem o_ix (hk : KLit X.K X.w) (hr : X.A.units + 200 < cLine) : IxR X fun x y H Q => rS X.kw .ix m [x, y] H Q := by
  rintro value slice pins s σ H x y v u Q I rx ry ⟨Hf, ds, sb, ras, d, e, q⟩ hs
  obtain ⟨a, b, rfl, ra, rb⟩ := ras.two
  simp only [sem] at e
  unfold sIx at e
  split at e
  · rename_i z i h
    cases h
    split at e
    · rename_i hz
      have e1 := ra.str
      have e2 := rb.int
      subst e1 e2
      have eo := opt_ok e
      unfold charAt at eo
      obtain ⟨c, hc, rfl⟩ := Option.map_eq_some_iff.mp eo
      exact ix_str value slice pins s σ H _ _ v u Q I rx ry ⟨z, i, c, rfl, rfl, by rw [← LIM_eq]; exact hz, hc, Want.str sb q⟩ hs
    · cases e
  · rename_i xs i h
    cases h
    obtain ⟨p, vs, rfl, h1, a1⟩ := ra.list sb
    have e2 := rb.int
    subst e2
    obtain ⟨w, g1, g2⟩ := at_get a1 (opt_ok e)
    exact ix_list value slice pins s σ H _ _ v u Q I rx ry ⟨p, vs, i, w, rfl, rfl, .inl h1, g1, Want.rp sb q g2 (.inl rfl)⟩ hs
  · rename_i xs i h
    cases h
    obtain ⟨p, vs, rfl, h1, h2, a1⟩ := ra.tuple sb
    have e2 := rb.int
    subst e2
    obtain ⟨w, g1, g2⟩ := at_get a1 (opt_ok e)
    exact ix_tup value slice pins s σ H _ _ v u Q I rx ry ⟨p, vs, i, w, rfl, rfl, h1, g1, Want.rp sb q g2 (.inl rfl)⟩ hs
  · rename_i kvs k hno h
    cases h
    split at e
    · rename_i h
      rcases keyOk_or h with ⟨zz, rfl⟩ | ⟨hk1, hk2⟩
      · obtain ⟨a, es, m, ks, vs, ds, rfl, rfl, h1, h2, h3⟩ := kdc_of sb ra h
        obtain ⟨g1, g2⟩ := hk.1 a es m ks vs h1 h2
        have := rb.str
        subst this
        have kf := kent_find (z := zz) h2 h3
        have eo := opt_ok e
        rw [eo] at kf
        obtain ⟨en, w, q1, q2, q3⟩ := kf
        cases (show v = Value.ref a from rx)
        obtain ⟨t, rfl⟩ := (show ∃ t, u = Value.str zz t from ry)
        have hm := PySem.W.mapOf_K (prog := X.prog) (w := X.w) I.kIn h1 g1
        refine tail_any hm.typeIs slot_dict_getitem.lookup (wpAny_getItem_of (strKind_is X.prog X.w zz t) hm (by rw [find_by, q1]; rfl) ⟨w, H, I.tok _, q2, ?_⟩) hs
        exact Want.rp sb q q3 (.inl rfl)
      · have rz := rb.rp (keyT_mut hk1)
        obtain ⟨b, rfl⟩ := keyT_ref rz hk1
        obtain ⟨a, xs, rfl, h1, h2⟩ := ra.dict sb (keysT_or hk2)
        cases (show v = Value.ref a from rx)
        cases (show u = Value.ref b from ry)
        obtain ⟨_, g1, g2⟩ := dx_at I h1 (h2.mono sb)
        have kf := ent_find h2 hk1
        rw [opt_ok e] at kf
        obtain ⟨un, w, q1, q2, q3⟩ := kf
        refine tail_any g2.typeIs slot_dict_getitem.lookup (getItem_keyed (nroom hr) (key_at I (rz.mono sb) rfl hk1) ⟨xs, g2, rfl⟩ q1 ⟨w, H, I.tok _, q2, ?_⟩) hs
        exact Want.rp sb q q3 (.inl rfl)
    · cases e
  · cases e
/-! slices -/
theorem cut_rp {vs : List V} {xs : List D} (r : RpAll K Hf vs xs) (lo hi : Option Int) : RpAll K Hf (cutV vs lo hi) (cut xs lo hi) := by
  unfold cutV cut
  rw [r.len]
  exact (r.drop _).take _
theorem cut_all {α : Type} {xs : List α} {lo hi : Option Int} (h : HT.sIx xs.length 0 lo = 0 ∧ HT.sIx xs.length xs.length hi = xs.length) : cut xs lo hi = xs := by
  unfold cut
  rw [h.1, h.2]
  simp
theorem o_cut {o : Op} {lo hi : Option Int} {d d' : D} {x : V} {pins : List (Addr × Obj)} {σ : L2.St} {s : Shared} {v vl vu : Value} {sl : Addr} (I : L2.Inv X pins σ H s) (rx : L2.RelV x v) (hs : s.heap.IsSliceOf sl vl vu .none) (pl : IsPart vl lo) (pu : IsPart vu hi)
    (sb : Same Hf H) (ra : RA X.kw Hf H x d) (e : sCut lo hi d = .ok d') (q : Want X.kw o m Hf H Q d') :
    ∃ T id, typeLookup (.type T) "__getitem__" = pure (some (.builtin id)) ∧ s.TypeIs v T ∧ wpAny (model X.prog X.w) X.A (getItem v (.ref sl)) (EP X pins σ Q) X.xe s := by
  unfold sCut at e
  split at e
  · rename_i xs
    cases e
    obtain ⟨p, vs, rfl, h1, a1⟩ := ra.list sb
    exact sl_list pins s σ H _ v vl vu lo hi sl Q I rx hs pl pu ⟨p, vs, rfl, .inl h1, Want.lst sb q (cut_rp a1 lo hi)⟩
  · rename_i xs
    cases e
    obtain ⟨p, vs, rfl, h1, h2, a1⟩ := ra.tuple sb
    refine sl_tupA pins s σ H _ v vl vu lo hi sl Q I rx hs pl pu ⟨p, vs, rfl, h1, fun hw => ?_, fun _ => Want.tup sb q (cut_rp a1 lo hi)⟩
    rw [a1.len] at hw
    rw [cut_all hw] at q
    exact Want.rp sb q (.tup h2 a1) (.inr rfl)
  · rename_i z
    split at e
    · rename_i hz
      cases e
      have e1 := ra.str
      subst e1
      exact sl_str pins s σ H _ v vl vu lo hi sl Q I rx hs pl pu ⟨z, rfl, by rw [← LIM_eq]; exact hz, Want.str sb q⟩
    · cases e
  · cases e
/-! lengths, conversions -/
theorem o_len : CallR X (.builtin "len") fun vs H Q => rS X.kw .len m vs H Q := by
  rintro pins s σ H vs us Q I r ⟨Hf, ds, sb, ras, d, e, q⟩
  simp only [sem] at e
  unfold sLen at e
  have hl := ras.len
  split at e
  · rename_i xs
    cases e
    obtain ⟨v, rfl⟩ : ∃ v, vs = [v] := by match vs, hl with | [v], _ => exact ⟨v, rfl⟩
    obtain ⟨p, ws, rfl, h1, a1⟩ := ras.1.list sb
    exact call_len pins s σ H _ us Q I r ⟨_, ws.length, rfl, .inl ⟨ws, .inl h1, rfl⟩, by rw [a1.len]; exact Want.int sb q⟩
  · rename_i xs
    cases e
    obtain ⟨v, rfl⟩ : ∃ v, vs = [v] := by match vs, hl with | [v], _ => exact ⟨v, rfl⟩
    obtain ⟨p, ws, rfl, h1, h2, a1⟩ := ras.1.tuple sb
    exact call_len pins s σ H _ us Q I r ⟨_, ws.length, rfl, .inr ⟨ws, h1, rfl⟩, by rw [a1.len]; exact Want.int sb q⟩
  · rename_i z
    obtain ⟨v, rfl⟩ : ∃ v, vs = [v] := by match vs, hl with | [v], _ => exact ⟨v, rfl⟩
    split at e
    · rename_i hz
      cases e
      have e1 := ras.1.str
      subst e1
      exact call_len pins s σ H _ us Q I r ⟨_, z.length, rfl, ⟨by rw [← LIM_eq]; exact hz, rfl⟩, Want.int sb q⟩
    · cases e
  · cases e
theorem o_tuple : CallR X (.type "tuple") fun vs H Q => rS X.kw .tuple m vs H Q := by
  rintro pins s σ H vs us Q I r ⟨Hf, ds, sb, ras, d, e, q⟩
  simp only [sem] at e
  unfold sTuple at e
  have hl := ras.len
  split at e
  · rename_i xs
    cases e
    obtain ⟨v, rfl⟩ : ∃ v, vs = [v] := by match vs, hl with | [v], _ => exact ⟨v, rfl⟩
    obtain ⟨p, ws, rfl, h1, a1⟩ := ras.1.list sb
    exact call_tuple_of pins s σ H _ us Q I r ⟨p, ws, rfl, .inl ⟨.inl h1, Want.tup sb q a1⟩⟩
  · rename_i xs
    cases e
    obtain ⟨v, rfl⟩ : ∃ v, vs = [v] := by match vs, hl with | [v], _ => exact ⟨v, rfl⟩
    obtain ⟨p, ws, rfl, h1, h2, a1⟩ := ras.1.tuple sb
    exact call_tuple_of pins s σ H _ us Q I r ⟨p, ws, rfl, .inr ⟨h1, Want.rp sb q (.tup h2 a1) (.inr rfl)⟩⟩
  · cases e
theorem o_list : CallR X (.type "list") fun vs H Q => rS X.kw .list m vs H Q := by
  rintro pins s σ H vs us Q I r ⟨Hf, ds, sb, ras, d, e, q⟩
  simp only [sem] at e
  unfold sList at e
  have hl := ras.len
  split at e
  · rename_i xs
    cases e
    obtain ⟨v, rfl⟩ : ∃ v, vs = [v] := by match vs, hl with | [v], _ => exact ⟨v, rfl⟩
    obtain ⟨p, ws, rfl, h1, a1⟩ := ras.1.list sb
    exact call_list_of pins s σ H _ us Q I r ⟨p, ws, rfl, .inl (.inl h1), Want.lst sb q a1⟩
  · rename_i xs
    cases e
    obtain ⟨v, rfl⟩ : ∃ v, vs = [v] := by match vs, hl with | [v], _ => exact ⟨v, rfl⟩
    obtain ⟨p, ws, rfl, h1, h2, a1⟩ := ras.1.tuple sb
    exact call_list_of pins s σ H _ us Q I r ⟨p, ws, rfl, .inr h1, Want.lst sb q a1⟩
  · cases e
theorem o_int : CallR X (.type "int") fun vs H Q => rS X.kw .int m vs H Q := by
  rintro pins s σ H vs us Q I r ⟨Hf, ds, sb, ras, d, e, q⟩
  simp only [sem] at e
  unfold sInt at e
  have hl := ras.len
  split at e
  · rename_i i
    cases e
    obtain ⟨v, rfl⟩ : ∃ v, vs = [v] := by match vs, hl with | [v], _ => exact ⟨v, rfl⟩
    have e1 := ras.1.int
    subst e1
    exact call_int1 pins s σ H _ us Q I r (.inl ⟨i, rfl, Want.int sb q⟩)
  · rename_i b
    cases e
    obtain ⟨v, rfl⟩ : ∃ v, vs = [v] := by match vs, hl with | [v], _ => exact ⟨v, rfl⟩
    have e1 := ras.1.bool
    subst e1
    exact call_int1 pins s σ H _ us Q I r (.inr ⟨b, rfl, Want.int sb q⟩)
  · cases e
theorem o_abs : CallR X (.builtin "abs") fun vs H Q => rS X.kw .abs m vs H Q := by
  rintro pins s σ H vs us Q I r ⟨Hf, ds, sb, ras, d, e, q⟩
  simp only [sem] at e
  unfold sAbs at e
  have hl := ras.len
  split at e
  · rename_i i
    cases e
    obtain ⟨v, rfl⟩ : ∃ v, vs = [v] := by match vs, hl with | [v], _ => exact ⟨v, rfl⟩
    have e1 := ras.1.int
    subst e1
    exact call_abs pins s σ H _ us Q I r ⟨i, rfl, Want.int sb q⟩
  · cases e
theorem o_min2 (hc : X.calm = true) : CallR X (.builtin "min") fun vs H Q => rS X.kw .min2 m vs H Q := by
  rintro pins s σ H vs us Q I r ⟨Hf, ds, sb, ras, d, e, q⟩
  simp only [sem] at e
  unfold sMin2 at e
  have hl := ras.len
  split at e
  · rename_i i j
    cases e
    obtain ⟨v, w, rfl⟩ : ∃ v w, vs = [v, w] := by match vs, hl with | [v, w], _ => exact ⟨v, w, rfl⟩
    have e1 := ras.1.int
    have e2 := ras.2.1.int
    subst e1 e2
    exact call_min2 hc pins s σ H _ us Q I r ⟨i, j, rfl, Want.int sb q⟩
  · cases e
theorem o_max2 (hc : X.calm = true) : CallR X (.builtin "max") fun vs H Q => rS X.kw .max2 m vs H Q := by
  rintro pins s σ H vs us Q I r ⟨Hf, ds, sb, ras, d, e, q⟩
  simp only [sem] at e
  unfold sMin2 at e
  have hl := ras.len
  split at e
  · rename_i i j
    cases e
    obtain ⟨v, w, rfl⟩ : ∃ v w, vs = [v, w] := by match vs, hl with | [v, w], _ => exact ⟨v, w, rfl⟩
    have e1 := ras.1.int
    have e2 := ras.2.1.int
    subst e1 e2
    exact call_max2 hc pins s σ H _ us Q I r ⟨i, j, rfl, Want.int sb q⟩
  · cases e
theorem bools_rp : ∀ {xs : List D} {vs : List V} {bs : List Bool}, RpAll K Hf vs xs → bools xs = some bs → vs = bs.map V.bl
  | [], _, bs, h, e => by cases h; cases e; rfl
  | x :: xs, _, bs, h, e => by
    cases h with
    | cons r t =>
      cases r with
      | bl b =>
        simp only [bools] at e
        cases q : bools xs with
        | none => rw [q] at e; cases e
        | some cs => rw [q] at e; cases e; rw [bools_rp t q]; rfl
      | _ => simp [bools] at e
theorem ints_rp : ∀ {xs : List D} {vs : List V} {bs : List Int}, RpAll K Hf vs xs → intsOf xs = some bs → vs = bs.map V.int
  | [], _, bs, h, e => by cases h; cases e; rfl
  | x :: xs, _, bs, h, e => by
    cases h with
    | cons r t =>
      cases r with
      | int b =>
        simp only [intsOf] at e
        cases q : intsOf xs with
        | none => rw [q] at e; cases e
        | some cs => rw [q] at e; cases e; rw [ints_rp t q]; rfl
      | _ => simp [intsOf] at e
theorem o_all (hc : X.calm = true) : CallR X (.builtin "all") fun vs H Q => rS X.kw .all m vs H Q := by
  rintro pins s σ H vs us Q I r ⟨Hf, ds, sb, ras, d, e, q⟩
  simp only [sem] at e
  unfold sAll at e
  have hl := ras.len
  split at e
  · rename_i xs
    split at e
    · rename_i bs hb
      cases e
      obtain ⟨v, rfl⟩ : ∃ v, vs = [v] := by match vs, hl with | [v], _ => exact ⟨v, rfl⟩
      obtain ⟨p, ws, rfl, h1, a1⟩ := ras.1.list sb
      have := bools_rp a1 hb
      subst this
      exact cr_all hc pins s σ H _ us Q I r ⟨p, bs, rfl, .inl h1, Want.bool sb q⟩
    · cases e
  · cases e
theorem o_any (hc : X.calm = true) : CallR X (.builtin "any") fun vs H Q => rS X.kw .any m vs H Q := by
  rintro pins s σ H vs us Q I r ⟨Hf, ds, sb, ras, d, e, q⟩
  simp only [sem] at e
  unfold sAll at e
  have hl := ras.len
  split at e
  · rename_i xs
    split at e
    · rename_i bs hb
      cases e
      obtain ⟨v, rfl⟩ : ∃ v, vs = [v] := by match vs, hl with | [v], _ => exact ⟨v, rfl⟩
      obtain ⟨p, ws, rfl, h1, a1⟩ := ras.1.list sb
      have := bools_rp a1 hb
      subst this
      exact cr_any hc pins s σ H _ us Q I r ⟨p, bs, rfl, .inl h1, Want.bool sb q⟩
    · cases e
  · cases e
/-- sum of a tuple of ints -/
theorem sum_tupQ (hc : X.calm = true) {pins : List (Addr × Obj)} {σ : L2.St} {s : Shared} {H : Hp} {us : List Value} {Q : VK} {p : Addr} {ns : List Int} (I : L2.Inv X pins σ H s) (r : Vals [V.ref p] us) (ht : SqT X.K H p (ns.map V.int)) (q : Q (.int ns.sum) H) :
    wpAny (model X.prog X.w) X.A (call (.builtin "sum") us) (EP X pins σ Q) X.xe s := by
  obtain ⟨its, rv, pl, _⟩ := I.tuple ht
  rw [Vals.ref1 r]
  have hT : s.heap.IsTuple p its.toArray := let ⟨o, a, b, c⟩ := pl; ⟨o, a, b, c⟩
  have hI := rv.ints
  obtain ⟨xs, e⟩ := hI.allInts.items
  have e2 : numsOf its.toArray.toList = ns := hI.numsOf
  rw [e] at hT e2
  rw [nums_intItems] at e2
  refine ktm_sumG (I.ok.hd hc) hT fun h' tk t' hk => ⟨.int ns.sum, H, I.kept hk, ⟨t', ?_⟩, q⟩
  rw [preSum_eq, e2, List.take_of_length_le (by rw [← e2]; simp)]
theorem o_sum (hc : X.calm = true) : CallR X (.builtin "sum") fun vs H Q => rS X.kw .sum m vs H Q := by
  rintro pins s σ H vs us Q I r ⟨Hf, ds, sb, ras, d, e, q⟩
  simp only [sem] at e
  unfold sSum at e
  have hl := ras.len
  split at e
  · rename_i xs
    split at e
    · rename_i bs hb
      cases e
      obtain ⟨v, rfl⟩ : ∃ v, vs = [v] := by match vs, hl with | [v], _ => exact ⟨v, rfl⟩
      obtain ⟨p, ws, rfl, h1, a1⟩ := ras.1.list sb
      have := ints_rp a1 hb
      subst this
      exact cr_sum hc pins s σ H _ us Q I r ⟨p, bs, rfl, .inl h1, Want.int sb q⟩
    · cases e
  · rename_i xs
    split at e
    · rename_i bs hb
      cases e
      obtain ⟨v, rfl⟩ : ∃ v, vs = [v] := by match vs, hl with | [v], _ => exact ⟨v, rfl⟩
      obtain ⟨p, ws, rfl, h1, _, a1⟩ := ras.1.tuple sb
      have := ints_rp a1 hb
      subst this
      exact sum_tupQ hc I r h1 (Want.int sb q)
    · cases e
  · cases e
/-! isinstance -/
def tyName : Ty → String
  | .int => "int"
  | .bool => "bool"
  | .str => "str"
  | .tuple => "tuple"
  | .list => "list"
  | .dict => "dict"
def dName : D → String
  | .none => "NoneType"
  | .bool _ => "bool"
  | .int _ => "int"
  | .str _ => "str"
  | .list _ => "list"
  | .tuple _ => "tuple"
  | .dict _ => "dict"
theorem ty_kit (K : Frag) (t : Ty) (d : D) : PySem.W.kitOne K (.type (dName d)) (.type (tyName t)) = some (tyIs t d) := by
  cases d <;> cases t <;> (simp only [dName, tyName, tyIs]; exact kit_ty (by decide +kernel))
theorem isi_ok {pins : List (Addr × Obj)} {σ : L2.St} {s : Shared} {v : V} {u : Value} {d : D} {t : Ty} {P : Value → Shared → Prop} (I : L2.Inv X pins σ H s) (r : Rp X.kw H v d) (rv : L2.RelV v u) (nd : ∀ kvs, d ≠ .dict kvs) (h : ∀ tk, P (.bool (tyIs t d)) { s with toks := tk }) :
    wpAny (model X.prog X.w) X.A (call (.builtin "isinstance") [u, .type (tyName t)]) P X.xe s := by
  have k := ty_kit X.kw t d
  cases r with
  | non => exact isinst_ok I rv .non k h
  | bl b => exact isinst_ok I rv (.bl b) k h
  | int i => exact isinst_ok I rv (.int i) k h
  | str x => exact isinst_ok I rv (.str x) k h
  | lst h1 r =>
    rcases h1 with h1 | ⟨ob, h1⟩
    · exact isinst_ok I rv (.lst h1) k h
    · exact isinst_ok I rv (.frz h1) k h
  | tup h1 r =>
    obtain ⟨its, e1, ⟨ob, g1, g2, g3⟩, z⟩ := I.tuple h1
    cases rv
    exact kia_one kitx_tuple I.kIn ⟨ob, g1, g2⟩ k (fun z => nomatch z) h
  | kdc _ _ _ _ => exact absurd rfl (nd _)
  | dct _ _ => exact absurd rfl (nd _)
end
end Q
set_option Elab.async false
set_option linter.all false
set_option maxRecDepth 100000
/-! sorted of tuples among which () is the first. -/
namespace PySem.SeqAt
open AutoSeq1 (wpAny_loadPart')
theorem q_call_tuple_lt {prog : Program} {w : World} {A : Around} {s : Shared} {E : Value → Shared → Prop} {Q : Value → Shared → Prop} {l b : Addr} {xs ys : Array Value} {e r : Nat → Bool} (hl : s.heap.IsTuple l xs) (hb : s.heap.IsTuple b ys)
    (he : ∀ j (h1 : j < xs.size) (h2 : j < ys.size), EqAt A.in1 s xs[j] ys[j] (e j)) (hr : ∀ j (h1 : j < xs.size) (h2 : j < ys.size), e j = false → RcLt A.in1 s xs[j] ys[j] (r j))
    (h : Q (.bool (firstLt e r (decide (xs.size < ys.size)) (List.range (min xs.size ys.size)))) s) : wpAny (model prog w) A (call (.builtin "tuple.__lt__") [.ref l, .ref b]) Q E s := by
  obtain ⟨⟨c1, d1, t1, s1⟩, o1, k1, n1, q1⟩ := id hl
  obtain ⟨⟨c2, d2, t2, s2⟩, o2, k2, n2, q2⟩ := id hb
  simp only at k1 q1 k2 q2
  subst k1 q1 k2 q2
  exact call_meets F.slot_tuple_lt ⟨_, o1, rfl⟩ F.entry_tuple_lt (F.args_tuple_lt_2 _ _) (tuple_ltAt l b xs ys n1 n2 d1 d2 s1 s2 e r) ⟨o1, o2, he, hr, h⟩
end PySem.SeqAt
namespace PySem.W
open PySem PySem.Calls PyProof.Rows PySem.SeqAt
section
variable {prog : Program} {w : World} {A : Around} {E : Value → Shared → Prop} {s : Shared}
theorem q_oneLt_tup {xs ys : List PyData} {a b : Value} {as bs : List Addr} {Q : Bool → Shared → Prop} (ra : Reads s.heap a (.tuple xs) as) (rb : Reads s.heap b (.tuple ys) bs) (h : alike (.tuple xs) (.tuple ys) = true)
    (hu : A.units + min (PyData.tuple xs).depth (PyData.tuple ys).depth < cLine) (hq : Q (dataLt (.tuple xs) (.tuple ys)) s) : wpAny (model prog w) A (oneLt' true a b) Q E s := by
  have hal : alikeAll xs ys = true := by simpa [alike] using h
  cases ra with
  | @tuple l o vs n _ as₁ h1 h2 h3 h4 =>
    cases rb with
    | @tuple l' o' vs' n' _ bs₁ k1 k2 k3 k4 =>
      have n1 : vs.size = xs.length := by simpa using ReadsAll.length _ _ _ h4
      have n2 : vs'.size = ys.length := by simpa using ReadsAll.length _ _ _ k4
      rw [dataLt_tuple, ← firstLt_toks xs ys hal, ← n1, ← n2] at hq
      rw [oneLt'_eq]
      simp only [if_true]
      refine wpAny_bind (wpAny_cRoomFor (room_here hu) ?_)
      refine wpAny_bind (wpAny_callSpecialIfBound?_slot (T := "tuple") ⟨_, h1, h2⟩ F.slot_tuple_lt (q_call_tuple_lt (e := pairEq xs ys) (r := fun j => dataLt (xs.getD j .none) (ys.getD j .none)) ⟨_, h1, h2, _, h3⟩ ⟨_, k1, k2, _, k3⟩ (fun j j1 j2 => ?_) (fun j j1 j2 hj => ?_) (wpAny_truthy_bool hq)))
      · have g := eqAt_alikeAll xs ys A.in1 s vs.toList vs'.toList _ _ h4 k4 hal (room_in hu) j (by simpa using j1) (by simpa using j2)
        simp only [Array.getElem_toList] at g
        exact g
      · have g := rcLt_alikeAll xs ys A.in1 s vs.toList vs'.toList _ _ h4 k4 hal (room_in hu) j (by simpa using j1) (by simpa using j2) hj
        simp only [Array.getElem_toList] at g
        exact g
end
/-- all are tuples, the first of them () -/
def Sort0 (ds : List PyData) : Prop := (∃ r, ds = .tuple [] :: r) ∧ ∀ d ∈ ds, ∃ ys, d = .tuple ys
section
variable {prog : Program} {w : World} {A : Around} {E : Value → Shared → Prop} {s : Shared}
theorem q_firsts : ∀ {vs : List Value} {ds : List PyData} {Q : List (Option Value) → Shared → Prop}, EachIs (fun v d => ∃ as, Reads s.heap v d as) vs ds → (∀ d ∈ ds, ∃ ys, d = .tuple ys) → (∀ gs, gs.length = vs.length → ((∃ r, ds = .tuple [] :: r) → gs[0]? = some none) → Q gs s) → wpAny (model prog w) A (vs.mapM firstOfTuple') Q E s
  | [], _, Q, .nil, _, h => by rw [List.mapM_nil]; exact wpAny_pure (h [] rfl fun ⟨_, e⟩ => nomatch e)
  | v :: vs, d :: ds, Q, .cons ⟨as, r⟩ t, ht, h => by
    obtain ⟨ys, rfl⟩ := ht d List.mem_cons_self
    rw [List.mapM_cons]
    refine wpAny_bind ?_
    rw [kas_first_eq]
    cases r with
    | @tuple a o xs n _ _ ho hc hd hr =>
      refine wpAny_bind (Looks.here (show Looks _ s.heap (typeOf (.ref a)) o.cls from (Looks.ld ho).andThen .now) ?_)
      rw [hc, if_neg (by first | decide | simp)]
      refine wpAny_bind (listItems_at ho hd (wpAny_pure (wpAny_bind (q_firsts t (fun d hd => ht d (List.mem_cons_of_mem _ hd)) fun gs g1 g2 => wpAny_pure (h _ (by rw [List.length_cons, List.length_cons, g1]) fun ⟨r, e⟩ => ?_)))))
      have e1 : ys = [] := by cases e; rfl
      subst e1
      have : xs.toList = [] := by
        cases q : xs.toList with
        | nil => rfl
        | cons z zr => rw [q] at hr; cases hr
      have x0 : xs = #[] := by simpa using this
      subst x0
      rfl
theorem q_kind0 {vs : List Value} {ds : List PyData} {Q : SortKind → Shared → Prop} (e : EachIs (fun v d => ∃ as, Reads s.heap v d as) vs ds) (h0 : Sort0 ds) (hq : Q oneType' s) : wpAny (model prog w) A (keyKind' vs.toArray) Q E s := by
  obtain ⟨⟨r, hr⟩, ht⟩ := h0
  rw [keyKind'_eq, List.mapM_toArray, map_eq_pure_bind]
  refine wpAny_bind (wpAny_bind (q_firsts e ht fun gs g1 g2 => wpAny_pure ?_))
  have g0 := g2 ⟨r, hr⟩
  have hne : gs ≠ [] := fun z => by subst z; cases g0
  obtain ⟨g, gr, rfl⟩ := List.exists_cons_of_ne_nil hne
  cases g0
  rw [if_neg (by simp), if_neg (by simp)]
  have hT : ∀ v ∈ vs, Looks (model prog w) s.heap (typeOf v) (.type "tuple") := fun v hv => by
    obtain ⟨d, hd, as, rd⟩ := e.left v hv
    obtain ⟨ys, rfl⟩ := ht d hd
    exact looks_reads rd
  obtain ⟨v1, vr, rfl⟩ : ∃ v1 vr, vs = v1 :: vr := by
    subst hr
    cases e with
    | cons _ _ => exact ⟨_, _, rfl⟩
  rw [oneTypeOnly'_eq, List.mapM_toArray, map_eq_pure_bind]
  refine wpAny_bind (wpAny_bind (wpAny_bind (kas_mapM (r := Value.type "tuple") _ (fun v hv Q' hq => (hT v hv).here hq) (wpAny_pure ?_))))
  have all1 : ((List.map (fun _ => Value.type "tuple") (v1 :: vr)).toArray.all fun x => x == Value.type "tuple") = true := by
    simp only [List.all_toArray, List.all_map, List.all_eq_true]
    exact fun _ _ => beq_self_eq_true _
  rw [show (List.map (fun _ => Value.type "tuple") (v1 :: vr)).toArray[0]? = some (Value.type "tuple") by simp]
  simp only [all1, if_true]
  exact wpAny_pure (wpAny_pure hq)
theorem q_sortsAt0 {vs : List Value} {ds : List PyData} (e : EachIs (fun v d => ∃ as, Reads s.heap v d as) vs ds) (hal : AllAlike ds) (h0 : Sort0 ds) (hu : ∀ d, d ∈ ds → A.units + d.depth < cLine) : SortsAt prog w A s (dataKind s.heap ds) vs := by
  refine ⟨fun v hv => ?_, oneType', fun E x y a b Q ha hb hq => ?_, fun h2 E Q hq => q_kind0 e h0 hq⟩
  · obtain ⟨d, hd, as, r⟩ := e.left v hv
    exact ⟨_, dataKind_some hal hd r⟩
  · obtain ⟨d, as, hd, ra, rfl⟩ := dataKind_inv ha
    obtain ⟨d', as', hd', rb, rfl⟩ := dataKind_inv hb
    obtain ⟨xs, rfl⟩ := h0.2 d hd
    obtain ⟨ys, rfl⟩ := h0.2 d' hd'
    rw [keyLt'_oneType]
    exact q_oneLt_tup ra rb (hal _ hd _ hd') (Nat.lt_of_le_of_lt (Nat.add_le_add_left (Nat.min_le_left _ _) _) (hu _ hd)) hq
theorem q_sorted0 {β : Type} {vs : List Value} {bs : List β} {enc : β → PyData} {R : Value → β → Prop} {l : Addr} {Q : Value → Shared → Prop} (hl : s.heap.IsList l vs.toArray) (e : EachIs R vs bs) (er : EachIs (fun v b => ∃ as, Reads s.heap v (enc b) as) vs bs) (hal : AllAlike (bs.map enc)) (hk : Sortable (bs.map enc) ∨ Sort0 (bs.map enc)) (hL : bs.length ≤ sizeLine)
    (hu : ∀ b, b ∈ bs → A.units + 2 + (enc b).depth < cLine) (h : ∀ out, out.length = bs.length → EachIs R out (bs.mergeSort (dataLe false enc)) → Q (.ref (s.heap.objs.size + 1)) { s with heap := sortedAll s.heap vs (List.toArray out) }) :
    wpAny (model prog w) A (call (.builtin "sorted") [.ref l]) Q E s := by
  rcases hk with hk | hk
  · exact sorted_data hl e er hal hk hL hu h
  · have er2 : EachIs (fun v b => ∃ as, Reads (sortingHeap (copyHeap s.heap vs) (s.heap.objs.size + 1) vs) v (enc b) as) vs bs := er.mono fun _ _ ⟨as, r⟩ => ⟨as, PyProof.Rows.Reads.keeps (fun _ _ => sorting_copy_old) r⟩
    refine sorted_vals hl (q_sortsAt0 (prog := prog) (w := w) (A := A.in1.in1) (s := { s with heap := sortingHeap (copyHeap s.heap vs) (s.heap.objs.size + 1) vs }) (each_map (R := fun v d => ∃ as, Reads (sortingHeap (copyHeap s.heap vs) (s.heap.objs.size + 1) vs) v d as) enc er2) hal hk (bound_map hu)) (e.length.symm ▸ hL) ?_
    refine h _ ?_ (sortVals_data false e er2 hal)
    rw [sortVals_length false rfl]
    exact e.length
/-- sorted of a list or a tuple, data -/
theorem q_sortedTup0 {Tn : String} {r : Addr} {o : Obj} {vs : List Value} {m : Nat} (hT : Tn = "list" ∨ Tn = "tuple") (ho : s.heap.get? r = some o) (hc : o.cls = .type Tn) (hd : o.data = .seq vs.toArray m) {Q : Value → Shared → Prop} {β : Type} {bs : List β} {enc : β → PyData} {R : Value → β → Prop} (hn : vs.length ≤ sizeLine)
    (e : EachIs R vs bs) (er : EachIs (fun v b => ∃ as, Reads s.heap v (enc b) as) vs bs) (hal : AllAlike (bs.map enc)) (hk : Sortable (bs.map enc) ∨ Sort0 (bs.map enc))
    (hu : ∀ b, b ∈ bs → A.units + 2 + (enc b).depth < cLine)
    (h : ∀ (out : List Value) (h' h2 : Heap) (tk e : Nat), out.length = bs.length → EachIs R out (bs.mergeSort (dataLe false enc)) → (∀ b o, s.heap.get? b = some o → h'.get? b = some o) → (∀ b o, h'.get? b = some o → h2.get? b = some o) → h2.get? h'.objs.size = some (seqObj "list" out.toArray e) → Q (.ref h'.objs.size) { s with heap := h2, toks := tk }) :
    wpAny (model prog w) A (call (.builtin "sorted") [.ref r]) Q E s := by
  refine Calls.call_function_entry PyProof.Rows.kind_sorted PyProof.Rows.plain_sorted PyProof.Rows.entry_sorted (PyProof.Rows.args_sorted1 _) ?_
  unfold Builtin.«sorted»
  refine wpAny_bind (m := checkCount "sorted" 1 1 _) (wpAny_pure ?_)
  refine wpAny_bind (wpAny_collect_seq r hT ho hc hd (fun h' hk1 => ?_) (by rw [List.size_toArray]; exact hn))
  refine wpAny_bind (wpAny_newList ?_ (by simpa using hn))
  have hoL : (h'.push (seqObj "list" vs.toArray 0)).get? h'.objs.size = some (seqObj "list" vs.toArray 0) := Heap.get?_push_size _ rfl
  have body : ∀ E' : Value → Shared → Prop, wpAny (model prog w) A.in1.in1 (Builtin.«list.sort» ⟨[.ref h'.objs.size], []⟩) (fun f s' => f = .done (.ret .none) ∧ Q (.ref h'.objs.size) s') E' { s with heap := h'.push (seqObj "list" vs.toArray 0) } := fun E' => by
    have old : ∀ (b : Addr) (o : Obj), s.heap.get? b = some o → b ≠ h'.objs.size ∧ (h'.push (seqObj "list" vs.toArray 0)).get? b = some o := fun b o q => ⟨Nat.ne_of_lt (Heap.lt_size (hk1 b o q)), Heap.get?_push_of_some _ (hk1 b o q)⟩
    have er2 : EachIs (fun v b => ∃ as, Reads (sortingHeap (h'.push (seqObj "list" vs.toArray 0)) h'.objs.size vs) v (enc b) as) vs bs := er.mono fun _ _ ⟨as, r⟩ => ⟨as, PyProof.Rows.Reads.keeps (fun b o q => sortingHeap_old (old b o q).1 (old b o q).2) r⟩
    have S : SortsAt prog w A.in1.in1 { s with heap := sortingHeap (h'.push (seqObj "list" vs.toArray 0)) h'.objs.size vs } (dataKind (sortingHeap (h'.push (seqObj "list" vs.toArray 0)) h'.objs.size vs) (bs.map enc)) vs := by
      have em := each_map (R := fun v d => ∃ as, Reads (sortingHeap (h'.push (seqObj "list" vs.toArray 0)) h'.objs.size vs) v d as) enc er2
      rcases hk with hk | hk
      · exact SortsAt.data (s := { s with heap := sortingHeap (h'.push (seqObj "list" vs.toArray 0)) h'.objs.size vs }) em hal hk (bound_map hu)
      · exact q_sortsAt0 (s := { s with heap := sortingHeap (h'.push (seqObj "list" vs.toArray 0)) h'.objs.size vs }) em hal hk (bound_map hu)
    refine list_sort_vals (s := { s with heap := h'.push (seqObj "list" vs.toArray 0) }) hoL S hn ⟨rfl, ?_⟩
    obtain ⟨ep, he'⟩ := PyProof.Rows.sortedHeap_at (vs := vs) (out := (sortVals (dataKind (sortingHeap (h'.push (seqObj "list" vs.toArray 0)) h'.objs.size vs) (bs.map enc)) false vs vs).toArray) hoL
    refine h _ h' _ s.toks ep (by rw [sortVals_length false rfl]; exact e.length) (sortVals_data false e er2 hal) hk1 (fun b o q => ?_) he'
    have q2 : (h'.push (seqObj "list" vs.toArray 0)).get? b = some o := Heap.get?_push_of_some _ q
    rw [PyProof.Rows.sortedHeap_old (Nat.ne_of_lt (Heap.lt_size q)) (Heap.lt_size q2)]
    exact q2
  show wpAny _ _ _ _ _ { s with heap := h'.push (seqObj "list" vs.toArray 0) }
  refine wpAny_bind (wpAny_holding (wpAny_call_entry PyProof.Rows.slot_list_sort ⟨_, hoL, rfl⟩ PyProof.Rows.entry_list_sort (wpAny_mono (body _) (fun f s' hf => ?_) fun _ _ e => e) (PyProof.Rows.args_list_sort _)))
  obtain ⟨rfl, hq⟩ := hf
  exact ⟨_, rfl, wpAny_pure ⟨_, rfl, hq⟩⟩
/-- sorted of what is walked -/
theorem q_sortedSrc {T : String} {r d : Addr} {n : Nat} {P : Nat → Value → Prop} {OK : Heap → Prop} {Q : Value → Shared → Prop} (K : KdlSrc prog w T r d n P OK) (hh : A.handled = none) (hok : OK s.heap) (hn : n ≤ sizeLine)
    (h : ∀ (h' : Heap) (tk : Nat) (acc : List Value) (E' : Value → Shared → Prop), (∀ b o, s.heap.get? b = some o → h'.get? b = some o) → acc.length = n → (∀ (j : Nat) (v : Value), acc[j]? = some v → P j v) →
      wpAny (model prog w) A.in1.in1 (Builtin.«list.sort» ⟨[.ref h'.objs.size], []⟩) (fun f s' => f = .done (.ret .none) ∧ Q (.ref h'.objs.size) s') E' { s with heap := h'.push (seqObj "list" acc.toArray 0), toks := tk }) :
    wpAny (model prog w) A (call (.builtin "sorted") [.ref r]) Q E s := by
  refine Calls.call_function_entry PyProof.Rows.kind_sorted PyProof.Rows.plain_sorted PyProof.Rows.entry_sorted (PyProof.Rows.args_sorted1 _) ?_
  unfold Builtin.«sorted»
  refine wpAny_bind (m := checkCount "sorted" 1 1 _) (wpAny_pure ?_)
  refine wpAny_bind (PySem.W.kdu_collect (A := A.in1) K hh hok hn fun h' tk acc hk hacc => ?_)
  have hal : acc.toList.length = n := by rw [Array.length_toList, hacc.1]
  refine wpAny_bind (wpAny_newList ?_ (by rw [hal]; exact hn))
  have hoL : (h'.push (seqObj "list" acc.toList.toArray 0)).get? h'.objs.size = some (seqObj "list" acc.toList.toArray 0) := Heap.get?_push_size _ rfl
  show wpAny _ _ _ _ _ { s with heap := h'.push (seqObj "list" acc.toList.toArray 0), toks := tk }
  refine wpAny_bind (wpAny_holding (wpAny_call_entry PyProof.Rows.slot_list_sort ⟨_, hoL, rfl⟩ PyProof.Rows.entry_list_sort (wpAny_mono (h h' tk acc.toList _ hk hal fun j v e => hacc.2 j v (by rw [← Array.getElem?_toList]; exact e)) (fun f s' hf => ?_) fun _ _ e => e) (PyProof.Rows.args_list_sort _)))
  obtain ⟨rfl, hq⟩ := hf
  exact ⟨_, rfl, wpAny_pure ⟨_, rfl, hq⟩⟩
/-- sorted of such, data -/
theorem q_sortedSrc0 {T : String} {r d : Addr} {n : Nat} {P : Nat → Value → Prop} {OK : Heap → Prop} {Q : Value → Shared → Prop} {β : Type} {bs : List β} {enc : β → PyData} {R : Value → β → Prop} (K : KdlSrc prog w T r d n P OK) (hh : A.handled = none) (hok : OK s.heap) (hn : n ≤ sizeLine)
    (hb : ∀ acc : List Value, acc.length = n → (∀ (j : Nat) (v : Value), acc[j]? = some v → P j v) → EachIs R acc bs ∧ EachIs (fun v b => ∃ as, Reads s.heap v (enc b) as) acc bs) (hal : AllAlike (bs.map enc)) (hk : Sortable (bs.map enc) ∨ Sort0 (bs.map enc))
    (hu : ∀ b, b ∈ bs → A.units + 2 + (enc b).depth < cLine)
    (h : ∀ (out : List Value) (h' h2 : Heap) (tk e : Nat), out.length = bs.length → EachIs R out (bs.mergeSort (dataLe false enc)) → (∀ b o, s.heap.get? b = some o → h'.get? b = some o) → (∀ b o, h'.get? b = some o → h2.get? b = some o) → h2.get? h'.objs.size = some (seqObj "list" out.toArray e) → Q (.ref h'.objs.size) { s with heap := h2, toks := tk }) :
    wpAny (model prog w) A (call (.builtin "sorted") [.ref r]) Q E s := by
  refine q_sortedSrc K hh hok hn fun h' tk acc E' hk1 hl hp => ?_
  obtain ⟨e, er⟩ := hb acc hl hp
  have old : ∀ (b : Addr) (o : Obj), s.heap.get? b = some o → b ≠ h'.objs.size ∧ (h'.push (seqObj "list" acc.toArray 0)).get? b = some o := fun b o q => ⟨Nat.ne_of_lt (Heap.lt_size (hk1 b o q)), Heap.get?_push_of_some _ (hk1 b o q)⟩
  have er2 : EachIs (fun v b => ∃ as, Reads (sortingHeap (h'.push (seqObj "list" acc.toArray 0)) h'.objs.size acc) v (enc b) as) acc bs := er.mono fun _ _ ⟨as, r⟩ => ⟨as, PyProof.Rows.Reads.keeps (fun b o q => sortingHeap_old (old b o q).1 (old b o q).2) r⟩
  have hoL : (h'.push (seqObj "list" acc.toArray 0)).get? h'.objs.size = some (seqObj "list" acc.toArray 0) := Heap.get?_push_size _ rfl
  have S : SortsAt prog w A.in1.in1 { s with heap := sortingHeap (h'.push (seqObj "list" acc.toArray 0)) h'.objs.size acc, toks := tk } (dataKind (sortingHeap (h'.push (seqObj "list" acc.toArray 0)) h'.objs.size acc) (bs.map enc)) acc := by
    have em := each_map (R := fun v d => ∃ as, Reads (sortingHeap (h'.push (seqObj "list" acc.toArray 0)) h'.objs.size acc) v d as) enc er2
    rcases hk with hk | hk
    · exact SortsAt.data (s := { s with heap := sortingHeap (h'.push (seqObj "list" acc.toArray 0)) h'.objs.size acc, toks := tk }) em hal hk (bound_map hu)
    · exact q_sortsAt0 (s := { s with heap := sortingHeap (h'.push (seqObj "list" acc.toArray 0)) h'.objs.size acc, toks := tk }) em hal hk (bound_map hu)
  refine list_sort_vals (s := { s with heap := h'.push (seqObj "list" acc.toArray 0), toks := tk }) hoL S (by rw [hl]; exact hn) ⟨rfl, ?_⟩
  obtain ⟨ep, he'⟩ := PyProof.Rows.sortedHeap_at (vs := acc) (out := (sortVals (dataKind (sortingHeap (h'.push (seqObj "list" acc.toArray 0)) h'.objs.size acc) (bs.map enc)) false acc acc).toArray) hoL
  refine h _ h' _ tk ep (by rw [sortVals_length false rfl]; exact e.length) (sortVals_data false e er2 hal) hk1 (fun b o q => ?_) he'
  have q2 : (h'.push (seqObj "list" acc.toArray 0)).get? b = some o := Heap.get?_push_of_some _ q
  rw [PyProof.Rows.sortedHeap_old (Nat.ne_of_lt (Heap.lt_size q)) (Heap.lt_size q2)]
  exact q2
end
end PySem.W
set_option Elab.async false
set_option linter.all false
set_option maxRecDepth 100000
/-! sorted, min, max. -/
namespace Q
open PySem PySem.W PySem.Spec L2
open PyProof.Rows hiding St
/-! ### the order -/
theorem dle_eq (a b : D) : dataLe false id a b = dle a b := rfl
theorem dle_total : TotalLe dle := sortLe_total (listOrd itemOrd) false keyToks
section
variable {α : Type} {le : α → α → Bool}
theorem ins_mem {x y : α} {l : List α} : y ∈ ins le x l ↔ y = x ∨ y ∈ l := by
  induction l with
  | nil => simp [ins]
  | cons z r ih =>
    rw [ins]
    split
    · simp
    · simp only [List.mem_cons, ih]
      constructor
      · rintro (h | h | h)
        · exact .inr (.inl h)
        · exact .inl h
        · exact .inr (.inr h)
      · rintro (h | h | h)
        · exact .inr (.inl h)
        · exact .inl h
        · exact .inr (.inr h)
theorem isort_mem {y : α} {l : List α} : y ∈ isort le l ↔ y ∈ l := by
  induction l with
  | nil => simp [isort]
  | cons x r ih => rw [isort, ins_mem, ih, List.mem_cons]
theorem ins_pair (t : TotalLe le) {x : α} {l : List α} (h : l.Pairwise fun a b => le a b = true) : (ins le x l).Pairwise fun a b => le a b = true := by
  induction l with
  | nil => simp [ins]
  | cons z r ih =>
    rw [ins]
    obtain ⟨h1, h2⟩ := List.pairwise_cons.mp h
    split
    · rename_i hx
      refine List.pairwise_cons.mpr ⟨fun y hy => ?_, h⟩
      rcases List.mem_cons.mp hy with rfl | hy
      · exact hx
      · exact t.trans _ _ _ hx (h1 y hy)
    · rename_i hx
      refine List.pairwise_cons.mpr ⟨fun y hy => ?_, ih h2⟩
      rcases ins_mem.mp hy with rfl | hy
      · exact (t.total _ _).resolve_right hx
      · exact h1 y hy
theorem isort_pair (t : TotalLe le) (l : List α) : (isort le l).Pairwise fun a b => le a b = true := by
  induction l with
  | nil => simp [isort]
  | cons x r ih => exact ins_pair t ih
theorem ins_filter (t : TotalLe le) (c : α) (x : α) (l : List α) : (ins le x l).filter (sameRank le c) = (x :: l).filter (sameRank le c) := by
  induction l with
  | nil => simp [ins]
  | cons z r ih =>
    rw [ins]
    split
    · rfl
    · rename_i hx
      rw [List.filter_cons, ih]
      by_cases hcx : sameRank le c x = true
      · have hz : sameRank le c z = false := by
          cases hz : sameRank le c z with
          | false => rfl
          | true =>
            unfold sameRank at hz hcx
            simp only [Bool.and_eq_true] at hz hcx
            exact absurd (t.trans _ _ _ hcx.2 hz.1) hx
        simp [List.filter_cons, hcx, hz]
      · simp [List.filter_cons, hcx]
theorem isort_filter (t : TotalLe le) (c : α) (l : List α) : (isort le l).filter (sameRank le c) = l.filter (sameRank le c) := by
  induction l with
  | nil => rfl
  | cons x r ih => rw [isort, ins_filter t, List.filter_cons, ih, List.filter_cons]
theorem isort_eq (t : TotalLe le) (l : List α) : isort le l = l.mergeSort le := sort_unique t (isort_pair t l) fun c => isort_filter t c l
theorem isort_len (l : List α) : (isort le l).length = l.length := by
  have h : ∀ (x : α) (l : List α), (ins le x l).length = l.length + 1 := fun x l => by
    induction l with
    | nil => rfl
    | cons z r ih => rw [ins]; split <;> simp [ih]
  induction l with
  | nil => rfl
  | cons x r ih => rw [isort, h, ih, List.length_cons]
end
theorem alikeTo_ok : ∀ {x : D} {l : List D}, alikeTo x l = true → ∀ y ∈ l, alike x y = true
  | _, [], _, y, hy => absurd hy List.not_mem_nil
  | x, z :: l, h, y, hy => by
    simp only [alikeTo, Bool.and_eq_true] at h
    rcases List.mem_cons.mp hy with rfl | hy
    · exact h.1
    · exact alikeTo_ok h.2 y hy
theorem alikes_ok : ∀ {l m : List D}, alikes l m = true → ∀ x ∈ l, ∀ y ∈ m, alike x y = true
  | [], _, _, x, hx => absurd hx List.not_mem_nil
  | z :: l, m, h, x, hx => by
    simp only [alikes, Bool.and_eq_true] at h
    rcases List.mem_cons.mp hx with rfl | hx
    · exact alikeTo_ok h.1
    · exact alikes_ok h.2 x hx
theorem srt_ok {xs : List D} (h : srtOk xs = true) : AllAlike xs ∧ (Sortable xs ∨ Sort0 xs) ∧ (∀ x ∈ xs, x.depth ≤ 100) ∧ AlikeAll xs ∧ PyData.depthAll xs ≤ 100 := by
  unfold srtOk at h
  simp only [Bool.and_eq_true, Bool.or_eq_true] at h
  obtain ⟨⟨h1, h2⟩, h3⟩ := h
  have al : AllAlike xs := fun d hd d' hd' => alikes_ok h1 d hd d' hd'
  have dp : ∀ {l : List D}, allOk l = true → ∀ x ∈ l, x.depth ≤ 100 := fun {l} => by
    induction l with
    | nil => exact fun _ x hx => absurd hx List.not_mem_nil
    | cons z l ih =>
      intro h x hx
      simp only [allOk, Bool.and_eq_true] at h
      rcases List.mem_cons.mp hx with rfl | hx
      · exact (dOk_plain h.1).2
      · exact ih h.2 x hx
  rcases h2 with h2 | h2
  · rw [List.all_eq_true] at h2
    have nn : ∀ x ∈ xs, x ≠ .none := fun x hx e => by
      have := h2 x hx
      subst e
      cases this
    refine ⟨al, .inl ?_, dp h3, ⟨al, nn⟩, (allOk_plain h3).2⟩
    by_cases ht : ∃ x ∈ xs, ∃ ys, x = .tuple ys
    · left
      obtain ⟨x, hx, ys, rfl⟩ := ht
      intro d hd
      have ha := al _ hx _ hd
      cases d with
      | tuple zs =>
        cases zs with
        | nil => exact absurd (h2 _ hd) Bool.false_ne_true
        | cons z r => exact ⟨z, r, rfl⟩
      | _ => simp [alike] at ha
    · right
      exact fun d hd => ⟨nn d hd, fun ys e => ht ⟨d, hd, ys, e⟩⟩
  · have ht : Sort0 xs := by
      unfold tup0 at h2
      split at h2
      · rename_i r
        refine ⟨⟨r, rfl⟩, fun d hd => ?_⟩
        rcases List.mem_cons.mp hd with rfl | hd
        · exact ⟨[], rfl⟩
        · rw [List.all_eq_true] at h2
          have := h2 d hd
          cases d <;> first | exact ⟨_, rfl⟩ | cases this
      · cases h2
    refine ⟨al, .inr ht, dp h3, ⟨al, fun x hx e => ?_⟩, (allOk_plain h3).2⟩
    obtain ⟨ys, hy⟩ := ht.2 x hx
    rw [e] at hy
    cases hy
section
variable {X : Cx} {m : Bool} {Hf H : Hp} {Q : VK} {K : Frag} {o : Op}
theorem each_rp {vs : List V} {ds : List D} {its : List Value} (r : RpAll K Hf vs ds) (e : Vals vs its) : EachIs (fun (u : Value) (d : D) => ∃ v, L2.RelV v u ∧ Rp K Hf v d) its ds := by
  induction ds generalizing vs its with
  | nil => cases r; cases e; exact .nil
  | cons d ds ih =>
    cases r with
    | cons r t =>
      cases e with
      | cons e1 e2 => exact .cons ⟨_, e1, r⟩ (ih t e2)
theorem rp_each {ds : List D} {its : List Value} (h : EachIs (fun (u : Value) (d : D) => ∃ v, L2.RelV v u ∧ Rp K Hf v d) its ds) : ∃ vs, Vals vs its ∧ RpAll K Hf vs ds := by
  induction h with
  | nil => exact ⟨[], .nil, .nil⟩
  | cons h t ih =>
    obtain ⟨v, h1, h2⟩ := h
    obtain ⟨vs, g1, g2⟩ := ih
    exact ⟨v :: vs, .cons h1 g1, .cons h2 g2⟩
theorem srt_plain {xs : List D} (h : srtOk xs = true) : PyData.plainAll xs = true := by
  unfold srtOk at h
  simp only [Bool.and_eq_true] at h
  exact (allOk_plain h.2).1
theorem each_reads {pins : List (Addr × Obj)} {σ : L2.St} {s : Shared} (I : L2.Inv X pins σ H s) (sb : Same Hf H) {vs : List V} {ds : List D} {its : List Value} (r : RpAll X.kw Hf vs ds) (e : Vals vs its) (hp : PyData.plainAll ds = true) : EachIs (fun u d => ∃ as, Reads s.heap u (id d) as) its ds ∧ ∃ as, ReadsAll s.heap its ds as := by
  induction ds generalizing vs its with
  | nil => cases r; cases e; exact ⟨.nil, _, .nil⟩
  | cons d ds ih =>
    cases r with
    | cons r t =>
      cases e with
      | cons e1 e2 =>
        simp only [PyData.plainAll, Bool.and_eq_true] at hp
        obtain ⟨a1, as, a2⟩ := ih t e2 hp.2
        obtain ⟨bs, b1⟩ := rdsV I sb (.inl r) e1 hp.1
        exact ⟨.cons ⟨bs, b1⟩ a1, _, .cons b1 a2⟩
theorem refs_vals {α : Type} (f : α → Addr) : ∀ l : List α, Vals (l.map fun x => V.ref (f x)) (l.map fun x => Value.ref (f x))
  | [] => .nil
  | x :: l => .cons rfl (refs_vals f l)
theorem o_sorted (hc : X.calm = true) (hu : X.A.units + 200 < cLine) : CallR X (.builtin "sorted") fun vs H Q => rS X.kw .sorted m vs H Q := by
  rintro pins s σ H vs us Q I r ⟨Hf, ds, sb, ras, d, e, q⟩
  simp only [sem] at e
  unfold sSorted at e
  have hl := ras.len
  split at e
  · rename_i xs
    unfold sortD at e
    split at e
    · rename_i hok
      cases e
      obtain ⟨v, rfl⟩ : ∃ v, vs = [v] := by match vs, hl with | [v], _ => exact ⟨v, rfl⟩
      obtain ⟨p, ws, rfl, h1, a1⟩ := ras.1.list sb
      obtain ⟨z1, its, n1, e1, g1⟩ := lstObj I h1
      obtain ⟨k1, k2, k3, _, _⟩ := srt_ok hok
      cases r with
      | cons rv rt =>
        cases rt
        cases rv
        obtain ⟨er, _⟩ := each_reads I sb a1 e1 (srt_plain hok)
        have l3 := a1.len
        refine q_sorted0 (bs := xs) (enc := id) (R := fun (u : Value) (d : D) => ∃ v, L2.RelV v u ∧ Rp X.kw Hf v d) ⟨_, g1, rfl, n1, rfl⟩ (each_rp a1 e1) er (by rw [List.map_id]; exact k1) (by rw [List.map_id]; exact k2) (by rw [← l3]; exact z1) (fun b hb => by have := k3 b hb; show _ + b.depth < _; omega) fun out hlen ho => ?_
        have hs : xs.mergeSort (dataLe false id) = isort dle xs := (isort_eq dle_total xs).symm
        rw [hs] at ho
        obtain ⟨ws', f1, f2⟩ := rp_each ho
        obtain ⟨ep, g2⟩ := sortedAll_at s.heap its out.toArray
        refine ⟨.ref _, _, I.laid (t' := s.toks) (o := .lst ws') (a := s.heap.objs.size + 1) (fun b ob q => sortedAll_old q) (Nat.le_succ _) ⟨by rw [f2.len, isort_len, ← l3]; exact z1, out, ep, f1, g2⟩, rfl, Want.lst sb q f2 _ (I.hok.fresh (Nat.le_succ _))⟩
    · cases e
  · rename_i xs
    unfold sortD at e
    split at e
    · rename_i hok
      cases e
      obtain ⟨v, rfl⟩ : ∃ v, vs = [v] := by match vs, hl with | [v], _ => exact ⟨v, rfl⟩
      obtain ⟨p, ws, rfl, h1, h2, a1⟩ := ras.1.tuple sb
      obtain ⟨k1, k2, k3, _, _⟩ := srt_ok hok
      cases r with
      | cons rv rt =>
        cases rt
        cases rv
        obtain ⟨its, e1, pl, z1⟩ := I.tuple h1
        obtain ⟨er, _⟩ := each_reads I sb a1 e1 (srt_plain hok)
        have l3 := a1.len
        have l4 := e1.length
        obtain ⟨o', ho', hc', n', hd'⟩ := id pl
        refine q_sortedTup0 (.inr rfl) ho' hc' hd' (bs := xs) (enc := id) (R := fun (u : Value) (d : D) => ∃ v, L2.RelV v u ∧ Rp X.kw Hf v d) (by omega) (each_rp a1 e1) er (by rw [List.map_id]; exact k1) (by rw [List.map_id]; exact k2) (fun b hb => by have := k3 b hb; show _ + b.depth < _; omega) fun out h' h2 tk ee hlen ho hk1 hk2 hat => ?_
        have hs : xs.mergeSort (dataLe false id) = isort dle xs := (isort_eq dle_total xs).symm
        rw [hs] at ho
        obtain ⟨ws', f1, f2⟩ := rp_each ho
        have I1 := I.kept (t' := s.toks) hk1
        refine ⟨.ref _, _, I1.laid (t' := tk) (o := .lst ws') (a := h'.objs.size) hk2 (Nat.le_refl _) ⟨by rw [f2.len, isort_len, ← l3]; omega, out, ee, f1, hat⟩, rfl, Want.lst sb q f2 _ (I1.hok.fresh (Nat.le_refl _))⟩
    · cases e
  · rename_i kvs
    split at e
    · rename_i hkt
      unfold sortD at e
      split at e
      · rename_i hok
        cases e
        obtain ⟨v, rfl⟩ : ∃ v, vs = [v] := by match vs, hl with | [v], _ => exact ⟨v, rfl⟩
        obtain ⟨p, xs, rfl, h1, r1⟩ := ras.1.dict sb (keysT_or hkt)
        obtain ⟨z1, hsm, hd⟩ := dx_at I h1 (r1.mono sb)
        obtain ⟨es, ep, hr, hsz, he⟩ := hd.raw
        obtain ⟨k1, k2, k3, _, _⟩ := srt_ok hok
        have a1 := ent_keys r1
        have l3 := a1.len
        rw [List.length_map] at l3
        cases r with
        | cons rv rt =>
          cases rt
          cases rv
          refine q_sortedSrc0 (bs := kvs.map (·.1)) (enc := id) (R := fun (u : Value) (d : D) => ∃ v, L2.RelV v u ∧ Rp X.kw Hf v d) (KdlSrc.rawDict hsm) (I.ok.hd hc) hr (by rw [hsz]; exact z1) (fun acc hl hp => ?_) (by rw [List.map_id]; exact k1) (by rw [List.map_id]; exact k2) (fun b hb => by have := k3 b hb; show _ + b.depth < _; omega) fun out h' h2 tk ee hlen ho hk1 hk2 hat => ?_
          · have e1 : Vals (xs.map fun x => V.ref x.2.1) acc := by
              have : acc = xs.map fun x => Value.ref x.2.1 := by
                refine List.ext_getElem (by rw [hl, hsz, List.length_map]) fun i q1 q2 => ?_
                obtain ⟨hi, e2⟩ := hp i acc[i] (List.getElem?_eq_getElem q1)
                obtain ⟨y, hy, e3, _⟩ := he i hi
                rw [List.length_map] at q2
                rw [List.getElem_map, e2, e3]
                rw [List.getElem?_eq_getElem q2] at hy
                cases hy
                rfl
              rw [this]
              exact refs_vals (·.2.1) xs
            exact ⟨each_rp a1 e1, (each_reads I sb a1 e1 (srt_plain hok)).1⟩
          · have hs : (kvs.map (·.1)).mergeSort (dataLe false id) = isort dle (kvs.map (·.1)) := (isort_eq dle_total _).symm
            rw [hs] at ho
            obtain ⟨ws', f1, f2⟩ := rp_each ho
            have I1 := I.kept (t' := s.toks) hk1
            refine ⟨.ref _, _, I1.laid (t' := tk) (o := .lst ws') (a := h'.objs.size) hk2 (Nat.le_refl _) ⟨by rw [f2.len, isort_len, ← l3]; simpa using z1, out, ee, f1, hat⟩, rfl, Want.lst sb q f2 _ (I1.hok.fresh (Nat.le_refl _))⟩
      · cases e
    · cases e
  · cases e
theorem least_run {pins : List (Addr × Obj)} {σ : L2.St} {s : Shared} {ws : List V} {its : List Value} {xs : List D} {h' : Heap} {v : Value} {dm : D} {bs : List Addr} {i tk : Nat} (I : L2.Inv X pins σ H s) (sb : Same Hf H) (a1 : RpAll X.kw Hf ws xs) (e1 : Vals ws its) (hp : PyData.plainAll xs = true) (q : Want X.kw o m Hf H Q dm) (ho : o.fresh = false)
    (h1 : its.toArray[i]? = some v) (h2 : Reads h' v dm bs) (h3 : ∀ (b : Addr) (o : Obj), s.heap.get? b = some o → h'.get? b = some o) : EP X pins σ Q v { heap := h', gens := s.gens, drawn := s.drawn, toks := tk, os := s.os } := by
  have g : ∀ {ws : List V} {its : List Value} {xs : List D} {i : Nat}, RpAll X.kw Hf ws xs → Vals ws its → PyData.plainAll xs = true → its[i]? = some v → ∃ w d, L2.RelV w v ∧ Rp X.kw Hf w d ∧ d.plain = true := fun {ws its xs i} r e hp hi => by
    induction xs generalizing ws its i with
    | nil => cases r; cases e; simp at hi
    | cons d ds ih =>
      cases r with
      | cons r t =>
        cases e with
        | cons e1 e2 =>
          cases i with
          | zero => cases hi; simp only [PyData.plainAll, Bool.and_eq_true] at hp; exact ⟨_, _, e1, r, hp.1⟩
          | succ i => simp only [PyData.plainAll, Bool.and_eq_true] at hp; exact ih t e2 hp.2 (by simpa using hi)
  obtain ⟨w, d, rw', rp, pd⟩ := g a1 e1 hp (by simpa using h1)
  obtain ⟨as, rd⟩ := rdsV I sb (.inl rp) rw' pd
  obtain ⟨e2, _⟩ := reads_det (fun b ob hb _ => h3 b ob hb) rd h2
  subst e2
  exact ⟨w, H, I.kept h3, rw', Want.rp sb q rp (.inl ho)⟩
theorem o_least {id : String} {o : Op} {f : D → List D → D} (ho : ∀ ds, sem o ds = sLeast f ds) (hfr : o.fresh = false) (hu : X.A.units + 200 < cLine)
    (hl : ∀ (s : Shared) (l : Addr) (vs : Array Value) (x : D) (xs : List D) (as : List Addr) (Q : Value → Shared → Prop), s.heap.IsList l vs → ReadsAll s.heap vs.toList (x :: xs) as → AlikeAll (x :: xs) → X.A.units + 1 + PyData.depthAll (x :: xs) < cLine → (∀ (i : Nat) (v : Value) (h' : Heap) (tk : Nat) (bs : List Addr), vs[i]? = some v → Reads h' v (f x xs) bs → (∀ (b : Addr) (o : Obj), s.heap.get? b = some o → h'.get? b = some o) → Q v { heap := h', gens := s.gens, drawn := s.drawn, toks := tk, os := s.os }) → wpAny (model X.prog X.w) X.A (call (.builtin id) [.ref l]) Q X.xe s)
    (ht : ∀ (s : Shared) (l : Addr) (vs : Array Value) (x : D) (xs : List D) (as : List Addr) (Q : Value → Shared → Prop), s.heap.IsTuple l vs → ReadsAll s.heap vs.toList (x :: xs) as → AlikeAll (x :: xs) → X.A.units + 1 + PyData.depthAll (x :: xs) < cLine → (∀ (i : Nat) (v : Value) (h' : Heap) (tk : Nat) (bs : List Addr), vs[i]? = some v → Reads h' v (f x xs) bs → (∀ (b : Addr) (o : Obj), s.heap.get? b = some o → h'.get? b = some o) → Q v { heap := h', gens := s.gens, drawn := s.drawn, toks := tk, os := s.os }) → wpAny (model X.prog X.w) X.A (call (.builtin id) [.ref l]) Q X.xe s) :
    CallR X (.builtin id) fun vs H Q => rS X.kw o m vs H Q := by
  rintro pins s σ H vs us Q I r ⟨Hf, ds, sb, ras, d, e, q⟩
  rw [ho] at e
  unfold sLeast at e
  have hlen := ras.len
  split at e
  · rename_i xs
    unfold least at e
    split at e
    · cases e
    · rename_i x xs
      split at e
      · rename_i hok
        cases e
        obtain ⟨v, rfl⟩ : ∃ v, vs = [v] := by match vs, hlen with | [v], _ => exact ⟨v, rfl⟩
        obtain ⟨p, ws, rfl, h1, a1⟩ := ras.1.list sb
        obtain ⟨z1, its, n1, e1, g1⟩ := lstObj I h1
        obtain ⟨_, _, _, k4, k5⟩ := srt_ok hok
        cases r with
        | cons rv rt =>
          cases rt
          cases rv
          obtain ⟨_, as, er⟩ := each_reads I sb a1 e1 (srt_plain hok)
          exact hl s p its.toArray x xs as _ ⟨_, g1, rfl, n1, rfl⟩ er k4 (by omega) fun i v h' tk bs q1 q2 q3 => least_run I sb a1 e1 (srt_plain hok) q hfr q1 q2 q3
      · cases e
  · rename_i xs
    unfold least at e
    split at e
    · cases e
    · rename_i x xs
      split at e
      · rename_i hok
        cases e
        obtain ⟨v, rfl⟩ : ∃ v, vs = [v] := by match vs, hlen with | [v], _ => exact ⟨v, rfl⟩
        obtain ⟨p, ws, rfl, h1, _, a1⟩ := ras.1.tuple sb
        obtain ⟨its, e1, ⟨ob, g1, g2, g3⟩, z⟩ := I.tuple h1
        obtain ⟨_, _, _, k4, k5⟩ := srt_ok hok
        cases r with
        | cons rv rt =>
          cases rt
          cases rv
          obtain ⟨_, as, er⟩ := each_reads I sb a1 e1 (srt_plain hok)
          exact ht s p its.toArray x xs as _ ⟨ob, g1, g2, g3⟩ er k4 (by omega) fun i v h' tk bs q1 q2 q3 => least_run I sb a1 e1 (srt_plain hok) q hfr q1 q2 q3
      · cases e
  · cases e
theorem o_min (hd : X.A.handled = none) (hu : X.A.units + 200 < cLine) : CallR X (.builtin "min") fun vs H Q => rS X.kw .min m vs H Q :=
  o_least (fun _ => rfl) rfl hu (fun s l vs x xs as Q h1 h2 h3 h4 h5 => min_list_data hd h1 h2 h3 h4 h5) fun s l vs x xs as Q h1 h2 h3 h4 h5 => min_tuple_data hd h1 h2 h3 h4 h5
theorem o_max (hd : X.A.handled = none) (hu : X.A.units + 200 < cLine) : CallR X (.builtin "max") fun vs H Q => rS X.kw .max m vs H Q :=
  o_least (fun _ => rfl) rfl hu (fun s l vs x xs as Q h1 h2 h3 h4 h5 => max_list_data hd h1 h2 h3 h4 h5) fun s l vs x xs as Q h1 h2 h3 h4 h5 => max_tuple_data hd h1 h2 h3 h4 h5
end
end Q
set_option Elab.async false
set_option linter.all false
set_option maxRecDepth 100000
/-! set(xs), xs a tuple of tuples of whole numbers (as HandS.TupSets has it of a list). -/
namespace L2
open PySem PySem.Spec PyProof.Rows
section
variable {P : Program} {w : World} {A : Around} {E : Value → Shared → Prop} {s : Shared}
set_option maxHeartbeats 3200000 in
theorem q_set_tuple {l : Addr} {items : Array Value} (ks : List (Addr × List Int)) {Q : Value → Shared → Prop} (hh : A.handled = none) (hl : s.heap.IsTuple l items) (hit : items.toList = ks.map fun p => Value.ref p.1)
    (hk : ∀ p ∈ ks, IsT P w s.heap p.2 p.1) (hfew : ks.length < 64) (hu : A.units + 3 < cLine)
    (h : ∀ (h' : Heap) (tk : Nat) L es ep t, SetTR P w h' s.heap.objs.size L es ep t → Got ks ks.length L → (∀ b o, s.heap.get? b = some o → h'.get? b = some o) → Q (.ref s.heap.objs.size) { s with heap := h', toks := tk }) :
    wpAny (model P w) A (call (.type "set") [.ref l]) Q E s := by
  have hisz : items.size = ks.length := by
    have q := congrArg List.length hit
    simpa using q
  generalize hob : ({ cls := .type "set", dict := none, data := .set #[] 0 (.fresh 0 0 (!w.params.followText "set-order")) } : Obj) = ob0
  obtain ⟨c, tl, hmro⟩ := F.called_set.mro
  have hmade := F.called_set.made
  have hsub := F.called_set.sub
  have h1 := F.called_set.notType
  have h2 := F.called_set.canCreate
  have hct := F.typeCall_set_1 (.ref l)
  refine wpAny_call (codeAny_of_tree ?_)
  show wpAny _ _ (callAny (.type "set") _) _ _ _
  refine wpAny_pure ⟨Code.quiet_builtin _ (by decide +kernel), codeAny_builtin F.entry_type_call ?_⟩
  rw [Around.under_plain (weight_type_call_type "set" [.ref l] []) rfl]
  repeat (any_goals (first | assumption | wp_step))
  refine codeAny_mono (code_set_led1 (.ref l) (E := E) (Q₁ := fun obj s₁ => obj = .ref s.heap.objs.size ∧ s₁ = { s with heap := s.heap.push ob0 }) ⟨rfl, by rw [← hob]⟩) fun r s₁ hr => ?_
  match r, hr with
  | .error e, hr => exact hr
  | .ok (.ret obj), hr =>
    obtain ⟨rfl, rfl⟩ := hr
    have hS : (s.heap.push ob0).get? s.heap.objs.size = some ob0 := Heap.get?_push_size _ (by rw [← hob]; rfl)
    have hT : Shared.TypeIs { s with heap := s.heap.push ob0 } (.ref s.heap.objs.size) "set" := ⟨_, hS, by rw [← hob]⟩
    have hli := F.called_set.init.lookup
    have hbi := F.called_set.init.bind (.ref s.heap.objs.size)
    repeat (any_goals (first | assumption | wp_step))
    refine codeAny_mono (codeAny_call_builtin (R := wants (fun r s₂ => r = .none ∧ ∃ h' tk L es ep t, s₂ = { s with heap := h', toks := tk } ∧ SetTR P w h' s.heap.objs.size L es ep t ∧ Got ks ks.length L ∧
        (∀ b o, s.heap.get? b = some o → h'.get? b = some o)) E) F.called_set.init.plain F.entry_set_init (check_set_init_1 hT ?_)) fun r₂ s₂ hr₂ => ?_
    · subst hob
      have hl1 : (s.heap.push { cls := .type "set", dict := none, data := .set #[] 0 (.fresh 0 0 (!w.params.followText "set-order")) }).IsTuple l items := hl.push _
      obtain ⟨⟨ocls, odict, odata, oslots⟩, hol, hcl, nl, hdl⟩ := hl
      simp only at hcl hdl
      subst hcl; subst hdl
      have hol' : (s.heap.push { cls := .type "set", dict := none, data := .set #[] 0 (.fresh 0 0 (!w.params.followText "set-order")) }).get? l = some { cls := .type "tuple", data := .seq items nl, dict := odict, slots := oslots } := Heap.get?_push_of_some _ hol
      have hsls := F.sub_tuple_set
      have hslf := F.sub_tuple_frozenset
      have hne : (Value.type "tuple" == Value.type "dict") = false := by decide
      unfold Builtin.«set.__init__» noKeywords Builtin.Frozenset.updateFrom
      generalize hPI : pyIter = PI
      wp_walk
      subst hPI
      have hlS : l < s.heap.objs.size := Heap.lt_size hol
      have hz1 : (s.heap.push { cls := .type "set", dict := none, data := .set #[] 0 (.fresh 0 0 (!w.params.followText "set-order")) }).objs.size = s.heap.objs.size + 1 := Heap.size_push ..
      have none_of : ∀ b, s.heap.objs.size ≤ b → s.heap.get? b = none := fun b hb => by
        cases q : s.heap.get? b with
        | none => rfl
        | some o => exact absurd (Nat.lt_of_lt_of_le (Heap.lt_size q) hb) (Nat.lt_irrefl _)
      refine wpAny_pyIter_tuple hl1 ?_
      refine wpAny_bind (wpAny_runValue ?_)
      refine set_update_tups ((Walks.tuple (by simp [hh]) _ l (by rw [Heap.size_push]; exact Nat.ne_of_lt (Nat.lt_succ_of_lt hlS)) items).toS) s.heap.objs.size
        (by rw [Heap.size_push]; simp only [List.mem_cons, List.not_mem_nil, or_false, not_or]; exact ⟨Nat.ne_of_lt (Nat.lt_succ_self _), Nat.ne_of_gt hlS⟩) ks hisz hfew (fun i v hv => ?_) s.heap hk (none_of _ (Nat.le_refl _)) (fun b hb => none_of b (by
          rw [List.mem_singleton.mp hb, hz1]
          omega)) hu (items.size - 0) 0 _ (by omega) (Nat.zero_le _)
        ⟨⟨_, Heap.get?_push_size _ rfl, rfl, rfl⟩, (hl1.push _)⟩ (fun b o e => Heap.get?_push_of_some _ (Heap.get?_push_of_some _ e)) ?hS0 ?hR
      · have q : items.toList[i]? = some v := by rw [Array.getElem?_toList]; exact hv
        rw [hit, List.getElem?_map] at q
        obtain ⟨p, e1, e2⟩ := Option.map_eq_some_iff.mp q
        exact ⟨p, e1, e2.symm⟩
      case hS0 => exact ⟨[], #[], 0, _, setTR_fresh (Heap.get?_push_of_some _ hS), Got.zero ks⟩
      case hR =>
        intro s' L es ep t hm hS' g' hkp
        obtain ⟨h', g2, d', tk', os'⟩ := s'
        obtain rfl : g2 = s.gens := hm.gens
        obtain rfl : d' = s.drawn := hm.drawn
        obtain rfl : os' = s.os := hm.os
        rw [hisz] at g'
        refine wpAny_pure ?_
        show wpAny _ _ (ret Value.none) _ _ _
        exact wpAny_pure ⟨rfl, h', tk', L, es, ep, t, rfl, hS', g', hkp⟩
    · match r₂, hr₂ with
      | .error e, hr₂ => exact hr₂
      | .ok (.ret r), hr₂ =>
        obtain ⟨rfl, h', tk, L, es, ep, t, rfl, hS', g', hk'⟩ := hr₂
        repeat (any_goals (first | assumption | wp_step))
        exact h _ _ _ _ _ _ hS' g' hk'
  | .ok .next, hr => exact hr.elim
end
section
variable {X : Cx}
/-- set(xs), xs a list or a tuple of tuples of ints -/
def rSetOfU (K : PySem.W.Frag) (P : Program) (w : World) : List V → Hp → VK → Prop := fun xs H Q => ∃ (l : Addr) (ks : List (Addr × List Int)), xs = [V.ref l] ∧ (SqL K H l (ks.map fun p => V.ref p.1) ∨ SqT K H l (ks.map fun p => V.ref p.1)) ∧ (∀ p ∈ ks, SqT K H p.1 (p.2.map V.int)) ∧ ks.length < 64 ∧
  ∀ a L, H a = none → (∀ p ∈ L, p ∈ ks) → (∀ p ∈ ks, p.2 ∈ L.map (·.2)) → Q (.ref a) (upd H a (SetTO P w a L))
theorem cr_setOfU (hc : X.calm = true) (hu : X.A.units + 64 < cLine) : CallR X (.type "set") (rSetOfU X.K X.prog X.w) := by
  intro pins s σ H xs us Q I r h
  obtain ⟨l, ks, e, hl, hk, hf, q⟩ := h
  rcases hl with hl | hl
  · exact cr_setOfT hc hu pins s σ H xs us Q I r ⟨l, ks, e, hl, hk, hf, q⟩
  · subst e
    rw [Vals.ref1 r]
    obtain ⟨its, rv, pl, hz⟩ := I.tuple hl
    have hn : H s.heap.objs.size = none := I.hok.fresh (Nat.le_refl _)
    refine q_set_tuple (P := X.prog) (w := X.w) ks (I.ok.hd hc) (let ⟨o, a, b, c⟩ := pl; ⟨o, a, b, c⟩) (by simpa using refs_of_vals rv) (fun p hp => I.isT (hk p hp)) hf (by omega) fun h' tk L es ep t R g k => ?_
    refine ⟨.ref s.heap.objs.size, upd H s.heap.objs.size (SetTO X.prog X.w s.heap.objs.size L), I.laid (t' := tk) k (Nat.le_refl _) (setTO_new R.t0), rfl, q _ L hn (fun p hp => List.mem_of_mem_take (g.sub p hp)) fun p hp => g.all p (by rw [List.take_length]; exact hp)⟩
end
end L2
set_option Elab.async false
set_option linter.all false
set_option maxRecDepth 100000
/-! The judgements of expressions, tests, targets, sources. -/
namespace Q
open PySem PySem.W PySem.Spec L2
open PyProof.Rows hiding St

section
variable {α β : Type} {r : R α} {f : α → R β} {xc : Nat → Value} {W : WX} {σ : L2.St} {Hf H Hf' H' : Hp} {k k' : α → Hp → Hp → Prop} {l : β → Hp → Hp → Prop}
/-- .. with the choice of the frame -/
theorem After.imp' (h : After r xc W σ Hf H k) (g : ∀ a Hf' H', Ext Hf H Hf' H' → (∀ Hf'', Ext Hf H Hf'' H' → k a Hf'' H') → k' a Hf' H') : After r xc W σ Hf H k' := by
  cases r with
  | ok a => exact fun A B y => g a A B y fun C z => h C B z
  | exc c => exact h
  | bad => exact h
theorem After.of_eq {r' : R α} (h : After r xc W σ Hf H k) (e : r = r') : After r' xc W σ Hf H k := e ▸ h
end
section
variable {K : Frag} {Hf H H0 Hf' H' : Hp} {v : V} {d : D} {m n n' : Bool}
theorem RM.weak (h : RM K m n H0 Hf H v d) (g : n' = true → n = true) : RM K m n' H0 Hf H v d := by
  cases n with
  | true =>
    have h' : RN K H0 Hf H v d := h
    exact RM.of_rn h'
  | false =>
    cases n' with
    | true => exact absurd (g rfl) Bool.false_ne_true
    | false => exact h
end
/-- arguments that are kept -/
def tEk (c : Ctx) (xc : Nat → Value) (W : WX) (K : Frag) (es : Es) : TA := fun σ H Q => ∃ ρ Hf, SR K Hf H σ ρ ∧ After (evEs c es false ρ) xc W σ Hf H fun ds Hf' H' => ∀ vs, RpAll K Hf' vs ds → Q vs H'
section
variable {X : Cx} {c : Ctx} {xc : Nat → Value} {W : WX} {m : Bool}
theorem pa_kept : ∀ {l : List Expr} {es : Es}, l.all notStar = true → PEs X c xc W false l es → PA X l (tEk c xc W X.kw es)
  | [], _, _, .nil => ⟨fun pos pins s σ H Q I h => pa_nil.run pos pins s σ H Q I (by
      obtain ⟨ρ, Hf, s, a⟩ := h
      exact a _ _ (Ext.refl s.sub) [] .nil)⟩
  | e :: l, _, hs, .cons (ir := ir) (es := es) h t => by
    simp only [List.all_cons, Bool.and_eq_true] at hs
    refine ⟨fun pos pins s σ H Q I hw => (pa_cons h (pa_kept hs.2 t) (star_cons hs.1)).run pos pins s σ H Q I ?_⟩
    obtain ⟨ρ, Hf, s, a⟩ := hw
    refine ⟨ρ, Hf, s, (After.bind (f := fun d => evEs c es false ρ >>= fun ds => R.ok (d :: ds)) a).imp' fun d H1f H1 x1 hk v rv => ?_⟩
    obtain ⟨Hg, y1, sg, rp⟩ := rv.rv.hold x1
    refine ⟨ρ, Hg, s.ext y1, ((hk Hg y1).bind).imp fun ds H2f H2 x2 a2 vs rvs => ?_⟩
    exact a2.ok x2.sub (v :: vs) (.cons (rp.mono x2.s1) rvs)
/-! ### leaves -/
theorem pe_vQ {i : Nat} {x : Str} {pos : Pos} (hN : X.N[i]? = some x) (hv : Vis X.env.scope x) (h1 : (x == ("__debug__" : Str)) = false) (h2 : (x == ("__classdict__" : Str)) = false) : PE X (.Name x pos) (tE c xc W X.kw (.v i) m) :=
  impE (pe_var hN hv h1 h2) fun σ H Q h => by
    obtain ⟨ρ, Hf, s, a⟩ := h
    simp only [evE] at a
    cases e : slot ρ i with
    | none => rw [e] at a; exact a.elim
    | some z =>
      obtain ⟨d, o⟩ := z
      rw [e] at a
      simp only at a
      split at a
      · rename_i ho
        have n2 : o ≠ 2 := fun e2 => by subst e2; cases m <;> simp at ho
        obtain ⟨v, h3, h4⟩ := s.at_ i d o e n2
        refine ⟨v, h3, a.ok s.sub v ?_⟩
        show RM X.kw m false H Hf H v d
        by_cases h0 : o = 0
        · rw [if_pos h0] at h4
          exact RM.of_rp h4
        · have hm : m = true := by
            cases m with
            | true => rfl
            | false => simp [h0] at ho
          subst hm
          rw [if_neg h0] at h4
          obtain ⟨p, ob, h5, h6, h7, h8⟩ := h4
          exact .inr ⟨p, ob, h5, h6, h7, h8⟩
      · exact a.elim
def conD : Const → Option (D × V)
  | .int i => some (.int i, .int i)
  | .bool b => some (.bool b, .bl b)
  | .none => some (.none, .non)
  | .str x => some (.str x, .str x)
  | _ => none
theorem pe_cQ {k : Const} {j : Nat} {pos : Pos} {d : D} {v : V} (h : conD k = some (d, v)) : PE X (.Constant k j pos) (tE c xc W X.kw (.c d) m) := by
  have go : ∀ {d : D} {v : V}, (∀ H, Rp X.kw H v d) → PE X (.Constant k j pos) (tC v) → PE X (.Constant k j pos) (tE c xc W X.kw (.c d) m) := fun r p => impE p fun σ H Q h => by
    obtain ⟨ρ, Hf, s, a⟩ := h
    exact a.ok s.sub _ (RM.of_rp (r _))
  unfold conD at h
  split at h <;> first | cases h | skip
  · exact go (fun _ => .int _) pe_int
  · exact go (fun _ => .bl _) pe_bl
  · exact go (fun _ => .non) pe_non
  · exact go (fun _ => .str _) pe_str
theorem pe_gQ {i : Nat} {x : Str} {pos : Pos} {u : Value} {v : V} {d : D} (hg : Gl X x) (hm : X.mg x = some u) (r : L2.RelV v u) (hd : (x == ("__debug__" : Str)) = false) (hc : c.gl i = some d) (rp : ∀ H, Rp X.kw H v d) : PE X (.Name x pos) (tE c xc W X.kw (.g i) m) :=
  impE (pe_glob hg hm r hd) fun σ H Q h => by
    obtain ⟨ρ, Hf, s, a⟩ := h
    simp only [evE, hc] at a
    exact a.ok s.sub _ (RM.of_rp (rp _))
/-! ### displays -/
theorem pe_tupQ {l : List Expr} {es : Es} {k : Nat} {pos : Pos} (hs : l.all notStar = true) (h : PEs X c xc W false l es) : PE X (.Tuple l k pos) (tE c xc W X.kw (.op .tup es) m) :=
  impE (pe_tup (pa_kept hs h)) fun σ H Q h => by
    obtain ⟨ρ, Hf, s, a⟩ := h
    refine ⟨ρ, Hf, s, (After.bind (f := fun ds => sem .tup ds) a).imp fun ds H1f H1 x1 a2 vs rvs => ?_⟩
    simp only [sem] at a2
    split at a2
    · rename_i hl
      refine ⟨by rw [rvs.len, ← LIM_eq]; exact hl, fun p hp => ?_⟩
      exact a2 _ _ (Ext.new x1.sub hp) _ (RM.imm (.tup (SqT.of upd_same) (rvs.mono (same_upd (none_sub x1.sub hp)))) rfl)
    · exact a2.elim
theorem pe_lstQ {l : List Expr} {es : Es} {pos : Pos} (hs : l.all notStar = true) (h : PEs X c xc W false l es) : PE X (.List l pos) (tE c xc W X.kw (.op .lst es) m) :=
  impE (pe_lst (pa_kept hs h)) fun σ H Q h => by
    obtain ⟨ρ, Hf, s, a⟩ := h
    refine ⟨ρ, Hf, s, (After.bind (f := fun ds => sem .lst ds) a).imp fun ds H1f H1 x1 a2 vs rvs => ?_⟩
    simp only [sem] at a2
    split at a2
    · rename_i hl
      refine ⟨by rw [rvs.len, ← LIM_eq]; exact hl, fun p hp => ?_⟩
      exact a2 _ _ (Ext.own x1.sub hp) _ (RM.of_rn (by unfold RN; exact ⟨p, _, rfl, none_sub x1.s2 hp, none_sub x1.sub hp, upd_same, .lst rvs⟩))
    · exact a2.elim
/-! ### and, or, choice -/
theorem pe_andQ {a b : Expr} {rest : List Expr} {pos : Pos} {ia ib : E} (ha : PE X a (tE c xc W X.kw ia false)) (hb : PE X (.BoolOp .And (b :: rest) pos) (tE c xc W X.kw ib m)) : PE X (.BoolOp .And (a :: b :: rest) pos) (tE c xc W X.kw (.and ia ib) m) :=
  impE (pe_and ha hb) fun σ H Q h => by
    obtain ⟨ρ, Hf, s, a0⟩ := h
    refine ⟨ρ, Hf, s, (After.bind (f := fun x => match x with
      | .bool true => evE c ib m ρ
      | .bool false => R.ok (.bool false)
      | _ => R.bad) a0).imp fun d H1f H1 x1 a2 v rv => ?_⟩
    split at a2
    · have := rv.ra.bool; subst this
      exact ⟨true, rfl, ρ, H1f, s.ext x1, a2.imp fun d' H2f H2 x2 hk v' rv' => hk v' ((rv'.back x1.s2).weak (fun h => nomatch h))⟩
    · have := rv.ra.bool; subst this
      exact ⟨false, rfl, a2.ok x1.sub _ (RM.of_rp (.bl false))⟩
    · exact a2.elim
theorem pe_orQ {a b : Expr} {rest : List Expr} {pos : Pos} {ia ib : E} (ha : PE X a (tE c xc W X.kw ia false)) (hb : PE X (.BoolOp .Or (b :: rest) pos) (tE c xc W X.kw ib m)) : PE X (.BoolOp .Or (a :: b :: rest) pos) (tE c xc W X.kw (.or ia ib) m) :=
  impE (pe_or ha hb) fun σ H Q h => by
    obtain ⟨ρ, Hf, s, a0⟩ := h
    refine ⟨ρ, Hf, s, (After.bind (f := fun x => match x with
      | .bool true => R.ok (.bool true)
      | .bool false => evE c ib m ρ
      | _ => R.bad) a0).imp fun d H1f H1 x1 a2 v rv => ?_⟩
    split at a2
    · have := rv.ra.bool; subst this
      exact ⟨true, rfl, a2.ok x1.sub _ (RM.of_rp (.bl true))⟩
    · have := rv.ra.bool; subst this
      exact ⟨false, rfl, ρ, H1f, s.ext x1, a2.imp fun d' H2f H2 x2 hk v' rv' => hk v' ((rv'.back x1.s2).weak (fun h => nomatch h))⟩
    · exact a2.elim
theorem pe_iteQ {t a b : Expr} {pos : Pos} {it : T} {ia ib : E} (ht : PT X t (tT c xc W X.kw it)) (ha : PE X a (tE c xc W X.kw ia m)) (hb : PE X b (tE c xc W X.kw ib m)) : PE X (.IfExp t a b pos) (tE c xc W X.kw (.ite it ia ib) m) :=
  impE (pe_ifExp ht ha hb) fun σ H Q h => by
    obtain ⟨ρ, Hf, s, a0⟩ := h
    refine ⟨ρ, Hf, s, (After.bind (f := fun k => if k then evE c ia m ρ else evE c ib m ρ) a0).imp fun k H1f H1 x1 a2 => ?_⟩
    cases k with
    | true => exact ⟨ρ, H1f, s.ext x1, a2.imp fun d' H2f H2 x2 hk v' rv' => hk v' ((rv'.back x1.s2).weak (fun h => by simp only [E.fresh, Bool.and_eq_true] at h; exact h.1))⟩
    | false => exact ⟨ρ, H1f, s.ext x1, a2.imp fun d' H2f H2 x2 hk v' rv' => hk v' ((rv'.back x1.s2).weak (fun h => by simp only [E.fresh, Bool.and_eq_true] at h; exact h.2))⟩
/-! ### truth -/
theorem tru_rp {K : Frag} {H : Hp} {v : V} {d : D} {b : Bool} (r : Rp K H v d) (h : truth d = .ok b) : TruV K v H b := by
  cases r with
  | non => cases h; rfl
  | bl b => cases h; rfl
  | int i => cases h; rfl
  | str x =>
    simp only [truth] at h
    split at h
    · rename_i hl; cases h; exact ⟨by rw [← LIM_eq]; exact hl, rfl⟩
    · cases h
  | lst h1 r =>
    rename_i a xs ds
    cases h
    refine .inl ⟨xs, .inl h1, ?_⟩
    have := r.len
    cases xs <;> cases ds <;> simp_all
  | tup h1 r =>
    rename_i a xs ds
    cases h
    refine .inr (.inl ⟨xs, h1, ?_⟩)
    have := r.len
    cases xs <;> cases ds <;> simp_all
  | kdc _ _ _ _ => cases h
  | dct _ _ => cases h
theorem pe_notQ {a : Expr} {pos : Pos} {ia : E} (ha : PE X a (tE c xc W X.kw ia true)) : PE X (.UnaryOp .Not a pos) (tE c xc W X.kw (.op .not (.cons ia .nil)) m) :=
  impE (pe_notT ha) fun σ H Q h => by
    have h' := one_arg h
    obtain ⟨ρ, Hf, s, a0⟩ := h'
    refine ⟨ρ, Hf, s, a0.imp fun d H1f H1 x1 hk v rv => ?_⟩
    obtain ⟨Hg, ds, sb, ras, d2, e, q⟩ := hk v rv
    obtain ⟨a, rfl, ra⟩ := ras.one
    simp only [sem, sNot] at e
    cases ht : truth a with
    | ok k =>
      rw [ht] at e
      cases e
      exact ⟨k, tru_rp (ra.here sb) ht, Want.bool sb q⟩
    | exc y => rw [ht] at e; cases e
    | bad => rw [ht] at e; cases e
def simple : Expr → Bool
  | .Name _ _ => true
  | .Call _ _ _ _ => true
  | .Subscript _ _ _ => true
  | .BinOp _ _ _ _ => true
  | .Constant _ _ _ => true
  | _ => false
theorem isTrue_simple {a : Expr} (h : simple a = true) (env : PySem.Env) (whole : Sem Value) : PySem.isTrue a env whole = (do let v ← whole; standAt a.pos; holding [v] (truthy v)) := by
  cases a <;> first | rfl | exact absurd h Bool.false_ne_true
theorem pt_eQ {a : Expr} {ia : E} (hs : simple a = true) (ha : PE X a (tE c xc W X.kw ia true)) : PT X a (tT c xc W X.kw (.e ia)) :=
  impT (pt_truth ha (isTrue_simple hs X.env)) fun σ H Q h => by
    obtain ⟨ρ, Hf, s, a0⟩ := h
    refine ⟨ρ, Hf, s, (After.bind (f := fun d => truth d) a0).imp fun d H1f H1 x1 a2 v rv => ?_⟩
    cases ht : truth d with
    | ok k =>
      rw [ht] at a2
      exact ⟨k, tru_rp (rv.ra.here x1.sub) ht, a2.ok x1.sub⟩
    | exc y =>
      exfalso
      unfold truth at ht
      (repeat' split at ht) <;> cases ht
    | bad => rw [ht] at a2; exact a2.elim
theorem pt_notQ {a : Expr} {pos : Pos} {t : T} (ha : PT X a (tT c xc W X.kw t)) : PT X (.UnaryOp .Not a pos) (tT c xc W X.kw (.not t)) :=
  impT (pt_not ha) fun σ H Q h => by
    obtain ⟨ρ, Hf, s, a0⟩ := h
    exact ⟨ρ, Hf, s, (After.bind (f := fun k => R.ok (!k)) a0).imp fun k H1f H1 x1 a2 => a2.ok x1.sub⟩
theorem pt_cmpQ {a b : Expr} {pos : Pos} {ia ib : E} {o : Op} {cop : CmpOp} (ho : OpR X (compareOp cop) fun x y H Q => rS X.kw o true [x, y] H Q) (hb' : ∀ x y d, sem o [x, y] = .ok d → ∃ k, d = .bool k) (ha : PE X a (tE c xc W X.kw ia true)) (hb : PE X b (tE c xc W X.kw ib true)) (hm : behindInMarks cop b = false) : PT X (.Compare a [cop] [b] pos) (tT c xc W X.kw (.cmp o ia ib)) :=
  impT (pt_cmpR ho ha hb hm) fun σ H Q h => by
    obtain ⟨ρ, Hf, s, a0⟩ := h
    refine ⟨ρ, Hf, s, (After.bind (f := fun x => evE c ib true ρ >>= fun y => sem o [x, y] >>= fun d => truth d) a0).imp fun d H1f H1 x1 a2 v rv => ⟨ρ, H1f, s.ext x1, a2.bind.imp fun d' H2f H2 x2 a3 v' rv' => ?_⟩⟩
    refine rS_of (xc := xc) (W := W) (σ := σ) (ds := [d, d']) x2.sub (x1.s2.trans x2.s2) ⟨rv.ra.ext x2, rv'.ra, trivial⟩ rfl ?_
    cases e : sem o [d, d'] with
    | ok z =>
      rw [e] at a3
      obtain ⟨k, rfl⟩ := hb' _ _ _ e
      have a4 : After (R.ok k) xc W σ H2f H2 _ := a3
      intro H3f H3 x3 v3 rv3
      have := rv3.ra.bool
      exact ⟨k, this, a4 _ _ x3⟩
    | exc y => exact absurd e (sem_noexc _ _ _)
    | bad => rw [e] at a3; exact a3.elim
theorem pt_chnQ {a b d : Expr} {pos : Pos} {ia ib id : E} {o o' : Op} {cop cop' : CmpOp} (ho : OpR X (compareOp cop) fun x y H Q => rS X.kw o true [x, y] H Q) (hb' : ∀ x y d, sem o [x, y] = .ok d → ∃ k, d = .bool k)
    (ho' : OpR X (compareOp cop') fun x y H Q => rS X.kw o' true [x, y] H Q) (hb'' : ∀ x y d, sem o' [x, y] = .ok d → ∃ k, d = .bool k) (ha : PE X a (tE c xc W X.kw ia true)) (hb : PE X b (tE c xc W X.kw ib true)) (hd : PE X d (tE c xc W X.kw id true)) (hm : lastMarks [cop, cop'] [b, d] = false) : PT X (.Compare a [cop, cop'] [b, d] pos) (tT c xc W X.kw (.chn o o' ia ib id)) :=
  impT (pt_chain ho ho' ha hb hd hm) fun σ H Q h => by
    obtain ⟨ρ, Hf, s, a0⟩ := h
    refine ⟨ρ, Hf, s, (After.bind (f := fun x => evE c ib true ρ >>= fun y => sem o [x, y] >>= fun k => truth k >>= fun k => if k then evE c id true ρ >>= fun z => sem o' [y, z] >>= fun d => truth d else .ok false) a0).imp fun d H1f H1 x1 a2 v rv => ⟨ρ, H1f, s.ext x1, a2.bind.imp fun d' H2f H2 x2 a3 v' rv' => ?_⟩⟩
    refine rS_of (xc := xc) (W := W) (σ := σ) (ds := [d, d']) x2.sub (x1.s2.trans x2.s2) ⟨rv.ra.ext x2, rv'.ra, trivial⟩ rfl ?_
    cases e : sem o [d, d'] with
    | ok z =>
      rw [e] at a3
      obtain ⟨k, rfl⟩ := hb' _ _ _ e
      have a4 : After (if k then evE c id true ρ >>= fun z => sem o' [d', z] >>= fun d => truth d else .ok false) xc W σ H2f H2 _ := a3
      intro H3f H3 x3 v3 rv3
      have := rv3.ra.bool
      refine ⟨k, this, ?_⟩
      cases k with
      | true =>
        rw [if_pos rfl]
        refine ⟨ρ, H3f, (s.ext x1).ext (x2.trans x3), ((a4.ext x3).bind).imp fun z H4f H4 x4 a5 v4 rv4 => ?_⟩
        refine rS_of (xc := xc) (W := W) (σ := σ) (ds := [d', z]) x4.sub x4.s2 ⟨(rv'.ra.ext x3).ext x4, rv4.ra, trivial⟩ rfl ?_
        cases e' : sem o' [d', z] with
        | ok z' =>
          rw [e'] at a5
          obtain ⟨k', rfl⟩ := hb'' _ _ _ e'
          have a6 : After (R.ok k') xc W σ H4f H4 _ := a5
          intro H5f H5 x5 v5 rv5
          have := rv5.ra.bool
          exact ⟨k', this, a6 _ _ x5⟩
        | exc y => exact absurd e' (sem_noexc _ _ _)
        | bad => rw [e'] at a5; exact a5.elim
      | false =>
        rw [if_neg Bool.false_ne_true]
        exact ⟨false, rfl, a4 _ _ x3⟩
    | exc y => exact absurd e (sem_noexc _ _ _)
    | bad => rw [e] at a3; exact a3.elim
theorem pe_chnQ {a b d : Expr} {pos : Pos} {ia ib id : E} {o o' : Op} {cop cop' : CmpOp} (ho : OpR X (compareOp cop) fun x y H Q => rS X.kw o true [x, y] H Q) (hb' : ∀ x y d, sem o [x, y] = .ok d → ∃ k, d = .bool k)
    (ho' : OpR X (compareOp cop') fun x y H Q => rS X.kw o' true [x, y] H Q) (hb'' : ∀ x y d, sem o' [x, y] = .ok d → ∃ k, d = .bool k) (ha : PE X a (tE c xc W X.kw ia true)) (hb : PE X b (tE c xc W X.kw ib true)) (hd : PE X d (tE c xc W X.kw id true)) (hm : lastMarks [cop, cop'] [b, d] = false) : PE X (.Compare a [cop, cop'] [b, d] pos) (tE c xc W X.kw (.chn o o' ia ib id) m) :=
  impE (pe_chain ho ho' ha hb hd hm) fun σ H Q h => by
    obtain ⟨ρ, Hf, s, a0⟩ := h
    refine ⟨ρ, Hf, s, (After.bind (f := fun x => evE c ib true ρ >>= fun y => sem o [x, y] >>= fun k => truth k >>= fun k => if k then evE c id true ρ >>= fun z => sem o' [y, z] else .ok (.bool false)) a0).imp fun d H1f H1 x1 a2 v rv => ⟨ρ, H1f, s.ext x1, a2.bind.imp fun d' H2f H2 x2 a3 v' rv' => ?_⟩⟩
    refine rS_of (xc := xc) (W := W) (σ := σ) (ds := [d, d']) x2.sub (x1.s2.trans x2.s2) ⟨rv.ra.ext x2, rv'.ra, trivial⟩ rfl ?_
    cases e : sem o [d, d'] with
    | ok z =>
      rw [e] at a3
      obtain ⟨k, rfl⟩ := hb' _ _ _ e
      have a4 : After (if k then evE c id true ρ >>= fun z => sem o' [d', z] else .ok (.bool false)) xc W σ H2f H2 _ := a3
      intro H3f H3 x3 v3 rv3
      have := rv3.ra.bool
      refine ⟨k, this, ?_⟩
      cases k with
      | true =>
        rw [if_pos rfl]
        refine ⟨ρ, H3f, (s.ext x1).ext (x2.trans x3), ((a4.ext x3).bind).imp fun z H4f H4 x4 a5 v4 rv4 => ?_⟩
        refine rS_of (xc := xc) (W := W) (σ := σ) (ds := [d', z]) x4.sub x4.s2 ⟨(rv'.ra.ext x3).ext x4, rv4.ra, trivial⟩ rfl ?_
        cases e' : sem o' [d', z] with
        | ok z' =>
          rw [e'] at a5
          obtain ⟨k', rfl⟩ := hb'' _ _ _ e'
          intro H5f H5 x5 v5 rv5
          have e6 := rv5.ra.bool
          exact a5 _ _ x5 v5 (RM.imm (by rw [e6]; exact .bl k') rfl)
        | exc y => exact absurd e' (sem_noexc _ _ _)
        | bad => rw [e'] at a5; exact a5.elim
      | false =>
        rw [if_neg Bool.false_ne_true]
        exact a4 _ _ x3 _ (RM.of_rp (.bl false))
    | exc y => exact absurd e (sem_noexc _ _ _)
    | bad => rw [e] at a3; exact a3.elim
theorem pw_andQ {a b : Expr} {rest : List Expr} {pos : Pos} {t u : T} (ha : PT X a (tT c xc W X.kw t)) (hb : PW X (.BoolOp .And (b :: rest) pos) (tT c xc W X.kw u)) : PW X (.BoolOp .And (a :: b :: rest) pos) (tT c xc W X.kw (.and t u)) :=
  impW (pw_and ha hb) fun σ H Q h => by
    obtain ⟨ρ, Hf, s, a0⟩ := h
    refine ⟨ρ, Hf, s, (After.bind (f := fun k => if k then evT c u ρ else .ok false) a0).imp fun k H1f H1 x1 a2 => ?_⟩
    cases k with
    | true => exact ⟨ρ, H1f, s.ext x1, a2⟩
    | false => exact a2.ok x1.sub
theorem pw_orQ {a b : Expr} {rest : List Expr} {pos : Pos} {t u : T} (ha : PT X a (tT c xc W X.kw t)) (hb : PW X (.BoolOp .Or (b :: rest) pos) (tT c xc W X.kw u)) : PW X (.BoolOp .Or (a :: b :: rest) pos) (tT c xc W X.kw (.or t u)) :=
  impW (pw_or ha hb) fun σ H Q h => by
    obtain ⟨ρ, Hf, s, a0⟩ := h
    refine ⟨ρ, Hf, s, (After.bind (f := fun k => if k then .ok true else evT c u ρ) a0).imp fun k H1f H1 x1 a2 => ?_⟩
    cases k with
    | true => exact a2.ok x1.sub
    | false => exact ⟨ρ, H1f, s.ext x1, a2⟩
theorem pw_oneQ {a : Expr} {pos : Pos} {t : T} {op : BoolOp} (ha : PT X a (tT c xc W X.kw t)) : PW X (.BoolOp op [a] pos) (tT c xc W X.kw (.one t)) := by
  have g : ∀ σ H Q, tT c xc W X.kw (.one t) σ H Q → tT c xc W X.kw t σ H Q := fun σ H Q h => by
    obtain ⟨ρ, Hf, s, a0⟩ := h
    exact ⟨ρ, Hf, s, by simpa only [evT] using a0⟩
  cases op
  · exact impW (pw_and1 ha) g
  · exact impW (pw_or1 ha) g
end
end Q
set_option Elab.async false
set_option linter.all false
set_option maxRecDepth 100000
/-! enumerate of a tuple. -/
namespace PySem
open Sem (wp)
open AutoSeq1 (wpAny_loadPart')
theorem q_meets_enumT (l : Addr) (items : Array Value) (n : Nat) (dct : Option Addr) (sl : Array (Option Value)) :
    Meets (Builtin.«enumerate.__new__» ⟨[.type "enumerate", .ref l], []⟩) (fun _ R s => s.heap.get? l = some ⟨.type "tuple", dct, .seq items n, sl⟩ ∧
      R (.ok (.ret (.ref (s.heap.push ⟨.type "tuple_iterator", none, .fields #[.ref l, .int 0 0], #[]⟩).objs.size)))
        { s with heap := (s.heap.push ⟨.type "tuple_iterator", none, .fields #[.ref l, .int 0 0], #[]⟩).push ⟨.type "enumerate", none, .fields #[.none, .bool false, .ref s.heap.objs.size, rawInt 0, .none, .none], #[]⟩ }) :=
  .of_wp fun prog w A R s h => by
    obtain ⟨hp, g, d, tk, os⟩ := s
    obtain ⟨hl, h⟩ := h
    have hsub := sub_enumerate
    have hT : Heap.IsTuple (Shared.heap ⟨hp, g, d, tk, os⟩) l items := ⟨_, hl, rfl, n, rfl⟩
    wp_walk using wpAny_loadPart' hl
    refine wpAny_stack_any fun st => wpAny_pure ?_
    split
    · rename_i c _ _ _ _ _
      cases (c == Value.type "enumerate") <;> (wp_walk using wpAny_loadPart' hl, wpAny_pyIter_tuple hT; exact ⟨_, rfl, h⟩)
    · wp_walk using wpAny_loadPart' hl, wpAny_pyIter_tuple hT
      exact ⟨_, rfl, h⟩
theorem q_call_enumT {prog : Program} {w : World} {A : Around} {E : Value → Shared → Prop} {s : Shared} {l : Addr} {items : Array Value} {Q : Value → Shared → Prop} (hL : s.heap.IsTuple l items)
    (h : ∀ g, IsEnum g (s.heap.objs.size + 1) s.heap.objs.size 0 .none → g.IsTupleIter s.heap.objs.size l 0 → (∀ b o, s.heap.get? b = some o → g.get? b = some o) → Q (.ref (s.heap.objs.size + 1)) { s with heap := g }) :
    wpAny (model prog w) A (call (.type "enumerate") [.ref l]) Q E s := by
  obtain ⟨⟨c, dct, dt, sl⟩, hl, hc, n, hd⟩ := hL
  replace hc : c = .type "tuple" := hc
  replace hd : dt = .seq items n := hd
  subst hc hd
  refine callType_new F.called_enumerate (by decide) (F.typeCall_enumerate_1 _) (F.newCall_enumerate_1 _) (fun obj => F.args_object_init_2 obj _) F.entry_enumerate_new (q_meets_enumT l items n dct sl) ⟨hl, ?_⟩
  generalize hg1 : s.heap.push ⟨.type "tuple_iterator", none, .fields #[.ref l, .int 0 0], #[]⟩ = g1
  have z1 : g1.objs.size = s.heap.objs.size + 1 := hg1 ▸ Heap.size_push ..
  show _ ∧ _
  rw [z1]
  have k1 := Heap.get?_push_size g1 (o := ⟨.type "enumerate", none, .fields #[.none, .bool false, .ref s.heap.objs.size, rawInt 0, .none, .none], #[]⟩) rfl
  rw [z1] at k1
  refine ⟨⟨_, k1, rfl⟩, h _ k1 ⟨_, Heap.get?_push_of_some _ (hg1 ▸ Heap.get?_push_size _ rfl), rfl, rfl⟩ fun b o x => Heap.get?_push_of_some _ (hg1 ▸ Heap.get?_push_of_some _ x)⟩
end PySem
namespace Q
open PySem PySem.W PySem.Spec L2
open PyProof.Rows hiding St
/-- the tuple at a, each item in a new pair with its number -/
def IteT (K : PySem.W.Frag) (a : Addr) : It :=
  ⟨fun i H => ∃ (xs : List V) (x : V), SqT K H a xs ∧ xs[i]? = some x, fun i H v H' => ∃ T x, v = .ref T ∧ H T = none ∧ H' = upd H T (.tup [.int (i : Nat), x]) ∧ ∀ xs, SqT K H a xs → xs[i]? = some x, fun i H => ∃ xs : List V, SqT K H a xs ∧ xs.length ≤ i⟩
/-- the iterator of a tuple at its end -/
theorem draws_end {prog : Program} {w : World} {A : Around} (hh : A.handled = none) (it t : Addr) (items : Array Value) (i : Nat) (hi : items[i]? = none) :
    Draws prog w A it [it, t] i (fun _ _ => True) (fun j h => j = i ∧ h.IsTupleIter it t j ∧ h.IsTuple t items) where
  live := fun _ _ st => let ⟨_, ⟨o, ho, _⟩, _⟩ := st; ⟨o, ho⟩
  frame := fun _ _ _ st hk => ⟨st.1, st.2.1.at fun o e => hk it (by simp) o e, st.2.2.at fun o e => hk t (by simp) o e⟩
  item := fun j s Q E hj st hQ => absurd hj (by rw [st.1]; exact Nat.lt_irrefl _)
  done := fun s Q E st hE => wpAny_nextOf_tuple_end hh st.2.1 st.2.2 hi hE
theorem turn_enumT {P : Program} {w : World} {K : PySem.W.Frag} {elts : List Expr} {kk : Nat} {tpos : Pos} (a e it : Addr) :
    Turn P w K (.Tuple elts kk tpos) (IteT K a) [e, it] e (fun i h => (∃ old, IsEnum h e it ((i : Nat) : Int) old) ∧ h.IsTupleIter it a i ∧ e ≠ it) where
  mem := by simp
  obj := fun i h st b hb => by
    obtain ⟨⟨old, he⟩, ⟨o, ho, hc, hd⟩, _⟩ := st
    rcases (show b = e ∨ b = it by simpa using hb) with rfl | rfl
    · exact ⟨_, he, fun v q => nomatch q⟩
    · exact ⟨o, ho, fun v q => by rw [hd] at q; cases q⟩
  keep := fun i h h' st k => let ⟨⟨old, he⟩, hi, hne⟩ := st; ⟨⟨old, k e (by simp) _ he⟩, hi.at fun o q => k it (by simp) o q, hne⟩
  item := by
    intro X hP hw hK hc i pins s σ H E I hf st hg
    subst hP hw hK
    obtain ⟨⟨old, he⟩, hit, hne⟩ := st
    obtain ⟨xs, x, hq, hx⟩ := hg
    obtain ⟨its, rv, p, hz⟩ := I.tuple hq
    have p' : s.heap.IsTuple a its.toArray := p
    obtain ⟨u, hu, ru⟩ := rv.get hx
    have hel : e < s.heap.objs.size := Heap.lt_size he
    have hil : it < s.heap.objs.size := by obtain ⟨_, q, _⟩ := hit; exact Heap.lt_size q
    have ne1 : a ≠ it := fun z => by
      subst z
      obtain ⟨o1, q1, c1, _⟩ := hit
      obtain ⟨o2, q2, c2, _⟩ := p'
      rw [q1] at q2; cases q2
      rw [c1] at c2
      exact absurd (Value.type.inj c2) (by decide)
    have ne2 : e ≠ a := fun z => by
      subst z
      obtain ⟨o2, q2, c2, _⟩ := p'
      rw [show s.heap.get? e = some _ from he] at q2; cases q2
      exact absurd (Value.type.inj c2) (by decide)
    have lt : i < its.toArray.size := by
      have := (List.getElem?_eq_some_iff.mp hu).1
      simpa using this
    refine wpAny_pyNext_enum_itemD (Draws.tuple (A := X.A.in1) (I.ok.hd hc) it a ne1 its.toArray) he ⟨hit, p'⟩ lt hne (by simp [hne, ne2]) fun y h' tk hy ho hst hT hsz hk => ?_
    obtain ⟨hit', hp2⟩ := hst
    have hu' : its.toArray[i]? = some u := by simpa using hu
    have ey : y = u := Option.some.inj ((hy : its.toArray[i]? = some y).symm.trans hu')
    subst ey
    refine ⟨_, rfl, wpAny_letOwnedTupleGo_enum (s := { s with heap := h', toks := tk + 1 }) ho fun h'' he' sb => ?_⟩
    have hT2 : h''.get? s.heap.objs.size = some ⟨.type "tuple", none, .seq #[.int i tk, y], #[]⟩ := (sb.2 _ (Nat.ne_of_gt hel)).trans hT
    have new : ObjOk X.prog X.w (upd H s.heap.objs.size (.tup [.int (i : Nat), x])) h'' s.heap.objs.size (.tup [.int (i : Nat), x]) :=
      ⟨by show 2 ≤ sizeLine; decide, [.int i tk, y], .cons ⟨_, rfl⟩ (.cons ru .nil), ⟨_, hT2, rfl, _, rfl⟩⟩
    have I1 : Inv X pins σ (upd H s.heap.objs.size (.tup [.int (i : Nat), x])) { s with heap := h'', toks := tk + 1 } :=
      I.turnedNew (ch := [e, it]) (fun b ob hb q => (sb.2 b (fun z => hb (by simp [z]))).trans (hk b ob (fun z => hb (by simp [z])) (fun z => hb (by simp [z])) q)) hf (Nat.le_refl _) new
    refine ⟨.ref s.heap.objs.size, _, I1, rfl, ⟨_, x, rfl, I.hok.fresh (Nat.le_refl _), rfl, fun ys hy => by rw [I.tuple_inj hy hq]; exact hx⟩, ⟨⟨y, ?_⟩, hit'.at fun o q => (sb.2 it (Ne.symm hne)).trans q, hne⟩, fun b hb => ?_⟩
    · rw [show ((i + 1 : Nat) : Int) = (i : Int) + 1 by omega]; exact he'
    · have hb' : b < s.heap.objs.size := by
        rcases (show b = e ∨ b = it by simpa using hb) with z | z <;> rw [z] <;> assumption
      rw [upd_ne (Nat.ne_of_lt hb')]
      exact (hf b hb).1
  done := by
    intro X hP hw hK hc i pins s σ H E I hf st hg
    subst hP hw hK
    obtain ⟨⟨old, he⟩, hit, hne⟩ := st
    obtain ⟨xs, hq, hx⟩ := hg
    obtain ⟨its, rv, p, hz⟩ := I.tuple hq
    have p' : s.heap.IsTuple a its.toArray := p
    obtain ⟨f0, f1, f2, f3, f4, f5⟩ := hf it (by simp)
    have hl := rv.length
    exact wpAny_pyNext_enum_endD (draws_end (A := X.A.in1) (I.ok.hd hc) it a its.toArray i (by simp; omega)) he ⟨rfl, hit, p'⟩ fun h' eb => ⟨rfl, I.turned (t' := s.toks) (fun b o hb q => eb b o hb q) f0 f1 f3 f4 f5⟩
  self := fun A i s Q E st h => let ⟨⟨_, he⟩, _⟩ := st; wpAny_pyIter_enum he h
/-- enumerate of a list or a tuple -/
def iEnum2 (K : PySem.W.Frag) (ta : TA) : TI := fun σ H R => ta σ H fun vs H1 => ∃ a, vs = [.ref a] ∧ ((∃ xs, SqL K H1 a xs ∧ R (Ite K a) H1) ∨ ∃ xs, SqT K H1 a xs ∧ R (IteT K a) H1)
theorem pi_enum2 {X : Cx} {e : Expr} {ta : TA} {p pos tpos : Pos} {elts : List Expr} {kk : Nat} (hg : Gl X "enumerate") (hm : X.mg "enumerate" = none) (ha : PA X [e] ta) (hs : starEach [e] X.env = [(false, eval e X.env)]) :
    PI X (.Tuple elts kk tpos) (.Call (.Name "enumerate" p) [e] [] pos) (iEnum2 X.K ta) := by
  constructor
  intro pins s σ H R I h
  refine Call_ (ld_blt I hg hm boot_enumerate (PyProof.Rows.callWith_type1 (thn (ha.run pos pins s σ H _ I h) fun us s1 ⟨vs, H1, I1, r1, q1⟩ => ?_) hs rfl))
  obtain ⟨a, ex, q1⟩ := q1
  subst ex
  have here : ∀ b ∈ [s1.heap.objs.size + 1, s1.heap.objs.size], FpOk X pins H1 b := fun b hb => by
    have hle : s1.heap.objs.size ≤ b := by
      rcases (show b = s1.heap.objs.size + 1 ∨ b = s1.heap.objs.size by simpa using hb) with z | z <;> omega
    exact I1.fpOk hle (I1.hok.fresh hle)
  cases r1 with
  | cons r rr =>
    cases rr
    cases r
    rcases q1 with ⟨xs, hq, q⟩ | ⟨xs, hq, q⟩
    · obtain ⟨its, rv, p', hz⟩ := I1.list hq
      exact call_enumerate_list p'.isList fun g he hit hsz hk => wpAny_pyIter_enum he ⟨_, [s1.heap.objs.size + 1, s1.heap.objs.size], _, _, H1, rfl, I1.kept (t' := s1.toks) hk, turn_enum a (s1.heap.objs.size + 1) s1.heap.objs.size, ⟨⟨.none, he⟩, hit, Nat.succ_ne_self _⟩, here, q⟩
    · obtain ⟨its, rv, p', hz⟩ := I1.tuple hq
      exact q_call_enumT (items := its.toArray) p' fun g he hit hk => wpAny_pyIter_enum he ⟨_, [s1.heap.objs.size + 1, s1.heap.objs.size], _, _, H1, rfl, I1.kept (t' := s1.toks) hk, turn_enumT a (s1.heap.objs.size + 1) s1.heap.objs.size, ⟨⟨.none, he⟩, hit, Nat.succ_ne_self _⟩, here, q⟩
end Q
set_option Elab.async false
set_option linter.all false
set_option maxRecDepth 100000
/-! sorted(set(..)) of tuples of whole numbers. -/
namespace Q
open PySem PySem.W PySem.Spec L2
open PyProof.Rows hiding St
def tupI (ns : List Int) : D := .tuple (ns.map .int)
theorem map_int_inj : ∀ {a b : List Int}, a.map PyData.int = b.map PyData.int → a = b
  | [], [], _ => rfl
  | [], _ :: _, h => nomatch h
  | _ :: _, [], h => nomatch h
  | x :: a, y :: b, h => by
    simp only [List.map_cons, List.cons.injEq, PyData.int.injEq] at h
    rw [h.1, map_int_inj h.2]
theorem tupI_inj {a b : List Int} (h : tupI a = tupI b) : a = b := map_int_inj (PyData.tuple.inj h)
theorem dle_tupI (a b : List Int) : dle (tupI a) (tupI b) = !decide (b < a) := by
  unfold dle tupI
  rw [dataLt_tuple]
  exact congrArg (fun z => !z) (dataLt_ints b a)
theorem eqv_ints (a b : List Int) : PyData.eqvAll (a.map .int) (b.map .int) = decide (a = b) := by
  induction a generalizing b with
  | nil => cases b <;> simp [PyData.eqvAll]
  | cons x a ih => cases b with
    | nil => simp [PyData.eqvAll]
    | cons y b => 
      simp only [List.map_cons, PyData.eqvAll, PyData.eqv, ih]
      by_cases h : x = y <;> simp [h]
theorem eqv_tupI (a b : List Int) : PyData.eqv (tupI a) (tupI b) = decide (a = b) := by
  unfold tupI
  rw [show PyData.eqv (.tuple (a.map .int)) (.tuple (b.map .int)) = PyData.eqvAll (a.map .int) (b.map .int) by simp [PyData.eqv]]
  exact eqv_ints a b
theorem code_mono {B : Int} : ∀ {a b : List Int}, a.length = b.length → TS.Bd B a → TS.Bd B b → b < a → TS.code B b < TS.code B a
  | [], b, hl, _, _, h => by
    cases b with
    | nil => exact absurd h (List.lt_irrefl _)
    | cons y b => cases hl
  | x :: a, [], hl, _, _, h => by cases hl
  | x :: a, y :: b, hl, ha, hb, h => by
    have hl' : b.length = a.length := by simpa using hl.symm
    have ha' : TS.Bd B a := fun m hm => ha m (List.mem_cons_of_mem _ hm)
    have hb' : TS.Bd B b := fun m hm => hb m (List.mem_cons_of_mem _ hm)
    rw [List.cons_lt_cons_iff] at h
    rcases h with h | ⟨rfl, h⟩
    · exact TS.code_lt hl' hb' ha' h
    · exact (TS.code_same hl').mpr (code_mono hl'.symm ha' hb' h)
theorem intsOf_map : ∀ {xs : List D} {ns : List Int}, intsOf xs = some ns → xs = ns.map .int
  | [], ns, h => by cases h; rfl
  | x :: xs, ns, h => by
    cases x with
    | int i =>
      simp only [intsOf] at h
      cases e : intsOf xs with
      | none => rw [e] at h; cases h
      | some ms => rw [e] at h; cases h; rw [intsOf_map e]; rfl
    | _ => simp [intsOf] at h
theorem intT_eq {x : D} {ns : List Int} (h : intT x = some ns) : x = tupI ns := by
  unfold intT at h
  split at h
  · rw [intsOf_map h]; rfl
  · cases h
theorem ssOk_ok {xs : List D} (h : ssOk xs = true) : xs.length < 64 ∧ ∃ d, 1 ≤ d ∧ ∀ x ∈ xs, ∃ ns : List Int, x = tupI ns ∧ ns.length = d ∧ TS.Bd 1000000 ns := by
  unfold ssOk at h
  simp only [Bool.and_eq_true, decide_eq_true_eq] at h
  refine ⟨h.1, ?_⟩
  have h2 := h.2
  split at h2
  · exact ⟨1, Nat.le_refl _, fun x hx => absurd hx List.not_mem_nil⟩
  · split at h2
    · rename_i x r ns hn
      simp only [Bool.and_eq_true, decide_eq_true_eq, List.all_eq_true] at h2
      refine ⟨ns.length, h2.1, fun y hy => ?_⟩
      have := h2.2 y hy
      unfold ssOne at this
      split at this
      · rename_i ms hm
        simp only [Bool.and_eq_true, decide_eq_true_eq, List.all_eq_true] at this
        exact ⟨ms, intT_eq hm, this.1, fun m hm => this.2 m hm⟩
      · cases this
    · cases h2
/-! what is in a list once -/
theorem dedup_mem {xs : List D} (h : ∀ x ∈ xs, ∃ ns, x = tupI ns) : (∀ y, y ∈ dedup xs ↔ y ∈ xs) ∧ (dedup xs).Nodup := by
  induction xs with
  | nil => exact ⟨fun y => Iff.rfl, List.nodup_nil⟩
  | cons x r ih =>
    obtain ⟨h1, h2⟩ := ih fun z hz => h z (List.mem_cons_of_mem _ hz)
    obtain ⟨ns, rfl⟩ := h x List.mem_cons_self
    have key : ∀ y, y ∈ r → (PyData.eqv y (tupI ns) = true ↔ y = tupI ns) := fun y hy => by
      obtain ⟨ms, rfl⟩ := h y (List.mem_cons_of_mem _ hy)
      rw [eqv_tupI]
      constructor
      · intro e; rw [of_decide_eq_true e]
      · intro e; exact decide_eq_true (tupI_inj e)
    refine ⟨fun y => ?_, ?_⟩
    · rw [dedup, List.mem_cons, List.mem_filter, List.mem_cons, h1]
      constructor
      · rintro (e | ⟨e, _⟩)
        · exact .inl e
        · exact .inr e
      · rintro (e | e)
        · exact .inl e
        · by_cases hy : y = tupI ns
          · exact .inl hy
          · refine .inr ⟨e, ?_⟩
            cases hv : PyData.eqv y (tupI ns) with
            | false => rfl
            | true => exact absurd ((key y e).mp hv) hy
    · rw [dedup, List.nodup_cons]
      refine ⟨fun hm => ?_, List.Pairwise.filter _ h2⟩
      rw [List.mem_filter] at hm
      have := (key _ ((h1 _).mp hm.1)).mpr rfl
      rw [this] at hm
      exact absurd hm.2 (by decide)
theorem isort_perm {α : Type} {le : α → α → Bool} (t : TotalLe le) (l : List α) : (isort le l).Perm l := by
  rw [isort_eq t]; exact List.mergeSort_perm l le
theorem set_sorted {xs : List D} {d : Nat} {L : List (Addr × List Int)} (hx : ∀ x ∈ xs, ∃ ns : List Int, x = tupI ns) (hm : ∀ x, x ∈ L.map (fun p => tupI p.2) ↔ x ∈ xs) (hd : ∀ p ∈ L, p.2.length = d ∧ TS.Bd 1000000 p.2) (nd : (L.map fun p => p.2).Nodup) (pw : L.Pairwise fun q r => TS.code 1000000 q.2 ≤ TS.code 1000000 r.2) : L.map (fun p => tupI p.2) = isort dle (dedup xs) := by
  obtain ⟨d1, d2⟩ := dedup_mem hx
  have hT : ∀ x ∈ isort dle (dedup xs), ∃ ns, x = tupI ns := fun x h => hx x ((d1 x).mp (isort_mem.mp h))
  refine List.Perm.eq_of_pairwise (le := fun a b => dle a b = true) (fun a b ha hb h1 h2 => ?_) ?_ (isort_pair dle_total _) ?_
  · obtain ⟨p, hp, rfl⟩ := List.mem_map.mp ha
    obtain ⟨ns, rfl⟩ := hT b hb
    rw [dle_tupI] at h1 h2
    have e1 : ¬ ns < p.2 := by simpa using h1
    have e2 : ¬ p.2 < ns := by simpa using h2
    rw [List.le_antisymm (as := p.2) (bs := ns) e1 e2]
  · rw [List.pairwise_map]
    refine List.Pairwise.imp_of_mem ?_ pw
    intro q r hq hr hc
    rw [dle_tupI]
    simp only [Bool.not_eq_true', decide_eq_false_iff_not]
    intro hlt
    have := code_mono ((hd q hq).1.trans (hd r hr).1.symm) (hd q hq).2 (hd r hr).2 hlt
    omega
  · have n1 : (L.map fun p => tupI p.2).Nodup := by
      rw [List.nodup_iff_pairwise_ne, List.pairwise_map] at nd ⊢
      exact nd.imp fun h e => h (tupI_inj e)
    have n2 : (isort dle (dedup xs)).Nodup := (isort_perm dle_total _).nodup_iff.mpr d2
    rw [List.perm_ext_iff_of_nodup n1 n2]
    intro x
    rw [hm, isort_mem, d1]
section
variable {X : Cx} {c : Ctx} {xc : Nat → Value} {W : WX} {m : Bool} {K : Frag} {Hf H : Hp}
theorem ks_of : ∀ {ws : List V} {xs : List D}, RpAll K Hf ws xs → (∀ x ∈ xs, ∃ ns : List Int, x = tupI ns) → ∃ ks : List (Addr × List Int), ws = ks.map (fun p => V.ref p.1) ∧ xs = ks.map (fun p => tupI p.2) ∧ ∀ p ∈ ks, SqT K Hf p.1 (p.2.map V.int)
  | _, _, .nil, _ => ⟨[], rfl, rfl, fun p hp => absurd hp List.not_mem_nil⟩
  | v :: ws, x :: xs, .cons r t, h => by
    obtain ⟨ks, h1, h2, h3⟩ := ks_of t fun y hy => h y (List.mem_cons_of_mem _ hy)
    obtain ⟨ns, rfl⟩ := h x List.mem_cons_self
    unfold tupI at r
    cases r with
    | tup g1 g2 =>
      rename_i a us
      have e : us = ns.map V.int := by
        have gen : ∀ {us : List V} {ns : List Int}, RpAll K Hf us (ns.map .int) → us = ns.map V.int := fun {us ns} => by
          induction ns generalizing us with
          | nil => intro h; cases h; rfl
          | cons n ns ih =>
            intro h
            cases h with
            | cons r t => cases r; rw [ih t]; rfl
        exact gen g2
      subst e
      exact ⟨(a, ns) :: ks, by rw [h1]; rfl, by rw [h2]; rfl, fun p hp => by
        rcases List.mem_cons.mp hp with rfl | hp
        · exact g1
        · exact h3 p hp⟩
theorem rp_tupI {a : Addr} {ns : List Int} (h : SqT K Hf a (ns.map V.int)) : Rp K Hf (.ref a) (tupI ns) := by
  refine .tup h ?_
  induction ns with
  | nil => exact .nil
  | cons n ns ih =>
    clear h
    have gen : ∀ ns : List Int, RpAll K Hf (ns.map V.int) (ns.map .int) := fun ns => by
      induction ns with
      | nil => exact .nil
      | cons n ns ih => exact .cons (.int n) ih
    exact gen (n :: ns)
theorem all_tupI : ∀ (ks : List (Addr × List Int)), (∀ p ∈ ks, SqT K Hf p.1 (p.2.map V.int)) → RpAll K Hf (ks.map fun p => V.ref p.1) (ks.map fun p => tupI p.2)
  | [], _ => .nil
  | p :: ks, h => .cons (rp_tupI (h p List.mem_cons_self)) (all_tupI ks fun q hq => h q (List.mem_cons_of_mem _ hq))
theorem pe_ssetQ {a : Expr} {ia : E} {p1 p2 p3 p4 : Pos} (hc : X.calm = true) (hu : X.A.units + 200 < cLine) (g1 : Gl X "sorted") (m1 : X.mg "sorted" = none) (g2 : Gl X "set") (m2 : X.mg "set" = none) (hs : notStar a = true) (ha : PE X a (tE c xc W X.kw ia true)) :
    PE X (.Call (.Name "sorted" p1) [.Call (.Name "set" p2) [a] [] p3] [] p4) (tE c xc W X.kw (.op .sset (.cons ia .nil)) m) := by
  refine impE (pe_callB (cr_sortedT hc) g1 m1 (by decide +kernel) (pa_cons (pe_callTy (cr_setOfU hc (by omega)) g2 m2 (by decide +kernel) (pa_cons ha pa_nil (star_cons hs)) (by decide +kernel) (by decide +kernel) (star_cons hs) rfl) pa_nil (star_cons rfl)) (by decide +kernel) (by decide +kernel) (star_cons rfl) rfl) fun σ H Q h => ?_
  have h' := one_arg h
  obtain ⟨ρ, Hf, s, a0⟩ := h'
  refine ⟨ρ, Hf, s, a0.imp fun d H1f H1 x1 hk v rv => ?_⟩
  obtain ⟨Hg, ds, sb, ras, d2, e, q⟩ := hk v rv
  obtain ⟨dd, rfl, ra⟩ := ras.one
  simp only [sem] at e
  unfold sSset at e
  have key : ∃ xs p ws, v = .ref p ∧ (SqL X.K H1 p ws ∨ SqT X.K H1 p ws) ∧ RpAll X.kw Hg ws xs ∧ (if ssOk xs then sortD (dedup xs) else .bad) = R.ok d2 := by
    split at e
    · rename_i xs h
      cases h
      obtain ⟨p, ws, e1, k1, k2⟩ := ra.list sb
      exact ⟨xs, p, ws, e1, .inl (.inl k1), k2, e⟩
    · rename_i xs h
      cases h
      obtain ⟨p, ws, e1, k1, _, k2⟩ := ra.tuple sb
      exact ⟨xs, p, ws, e1, .inr k1, k2, e⟩
    · cases e
  clear e
  obtain ⟨xs, p, ws, rfl, k1, k2, e⟩ := key
  split at e
  · rename_i hok
    unfold sortD at e
    split at e
    · rename_i hok2
      cases e
      obtain ⟨hlen, d, hd1, hd2⟩ := ssOk_ok hok
      obtain ⟨ks, rfl, rfl, k3⟩ := ks_of k2 fun x hx => (hd2 x hx).imp fun ns h => h.1
      have kb : ∀ p ∈ ks, p.2.length = d ∧ TS.Bd 1000000 p.2 := fun p hp => by
        obtain ⟨ns, e1, e2⟩ := hd2 _ (List.mem_map.mpr ⟨p, hp, rfl⟩)
        rw [tupI_inj e1]; exact e2
      refine ⟨p, ks, rfl, k1, fun q hq => sqT_mono sb (k3 q hq), by simpa using hlen, fun b L hb hL1 hL2 => ?_⟩
      have s2 : Same H1 (upd H1 b (SetTO X.prog X.w b L)) := same_upd hb
      refine ⟨b, L, d, 1000000, rfl, upd_same, fun q hq => sqT_mono (sb.trans s2) (k3 q (hL1 q hq)), hd1, fun q hq => kb q (hL1 q hq), fun L' p' perm nd hl' pw hp' => ?_⟩
      have hb' : H1 p' = none := none_sub s2 hp'
      have hm : ∀ x, x ∈ L'.map (fun p => tupI p.2) ↔ x ∈ ks.map fun p => tupI p.2 := fun x => by
        constructor
        · intro hx
          obtain ⟨r, hr, rfl⟩ := List.mem_map.mp hx
          exact List.mem_map.mpr ⟨r, hL1 r (perm.mem_iff.mp hr), rfl⟩
        · intro hx
          obtain ⟨r, hr, rfl⟩ := List.mem_map.mp hx
          obtain ⟨r', hr', e⟩ := List.mem_map.mp (hL2 r hr)
          exact List.mem_map.mpr ⟨r', perm.mem_iff.mpr hr', by rw [e]⟩
      have es : L'.map (fun p => tupI p.2) = isort dle (dedup (ks.map fun p => tupI p.2)) :=
        set_sorted (d := d) (fun x hx => (hd2 x hx).imp fun ns h => h.1) hm (fun r hr => kb r (hL1 r (perm.mem_iff.mp hr))) nd pw
      refine q _ Hg _ ((Ext.own sb hb).trans (Ext.own (sb.trans s2) hp')) (RM.of_rn ?_)
      unfold RN
      rw [if_pos (show isMut (.list _) = true from rfl)]
      refine ⟨p', _, rfl, hb', none_sub sb hb', upd_same, .lst ?_⟩
      rw [← es]
      exact all_tupI L' fun r hr => k3 r (hL1 r (perm.mem_iff.mp hr))
    · cases e
  · cases e
end
end Q
set_option Elab.async false
set_option linter.all false
set_option maxRecDepth 100000
set_option maxHeartbeats 1000000
/-! zip of a tuple and a list: the two walks as sources of any kind. -/
namespace Q2
open PySem RZ
open PySem.Sem (wp)
/-- a walk i over the row at l -/
structure Src (P : Heap → Nat → Prop) (i l : Addr) (xs : Array Value) : Prop where
  item : ∀ {prog : Program} {w : World} {A : Around} {E : Value → Shared → Prop} {s : Shared} {k : Nat} {x : Value} {Q : Value → Shared → Prop}, P s.heap k → xs[k]? = some x →
    (∀ h', P h' (k + 1) → Heap.SameBut i s.heap h' → Q x { s with heap := h' }) → wpAny (model prog w) A (Builtin.SmallTypes.nextOf (.ref i)) Q E s
  fin : ∀ {prog : Program} {w : World} {A : Around} {E : Value → Shared → Prop} {s : Shared} {k : Nat} {Q : Value → Shared → Prop}, A.handled = none → P s.heap k → xs[k]? = none →
    (∀ h' e, Heap.ExtBut i s.heap h' → (∃ o, h'.get? e = some o ∧ o.cls = .type "StopIteration") → E (.ref e) { s with heap := h' }) → wpAny (model prog w) A (Builtin.SmallTypes.nextOf (.ref i)) Q E s
  far : ∀ {h h' : Heap} {b : Addr} {k : Nat}, P h k → Heap.ExtBut b h h' → i ≠ b → l ≠ b → P h' k
theorem src_tup {i l : Addr} {xs : Array Value} (hne : l ≠ i) : Src (fun h k => h.IsTupleIter i l k ∧ h.IsTuple l xs) i l xs :=
  ⟨fun p hx hQ => nextOf_tuple_item p.1 p.2 hx fun h' a b => hQ h' ⟨a, p.2.extBut b.extBut hne⟩ b, fun hh p hx hE => nextOf_tuple_end hh p.1 p.2 hx hE,
    fun p e h1 h2 => ⟨p.1.extBut e h1, p.2.extBut e h2⟩⟩
theorem src_lst {i l : Addr} {xs : Array Value} (hne : l ≠ i) : Src (fun h k => h.IsListIter i l k ∧ h.IsList l xs) i l xs :=
  ⟨fun p hx hQ => wpAny_nextOf_list_item p.1 p.2 hx fun h' a b => hQ h' ⟨a, p.2.extBut b.extBut hne⟩ b, fun hh p hx hE => wpAny_nextOf_list_end hh p.1 p.2 hx hE,
    fun p e h1 h2 => ⟨p.1.extBut e h1, p.2.extBut e h2⟩⟩
section
variable {prog : Program} {w : World} {A : Around} {E : Value → Shared → Prop} {s : Shared}
variable {P1 P2 : Heap → Nat → Prop} {z TI TO i1 i2 l1 l2 : Addr} {k1 k2 : Nat} {xs ys : Array Value} {x y a b : Value}
theorem zip_item {Q : Value → Shared → Prop} (S1 : Src P1 i1 l1 xs) (S2 : Src P2 i2 l2 ys) (D : ZipApart z TI TO i1 i2 l1 l2)
    (hz : IsZip s.heap z TI TO .none) (hTI : IsPair s.heap TI (.ref i1) (.ref i2)) (hTO : IsPair s.heap TO a b)
    (h1 : P1 s.heap k1) (h2 : P2 s.heap k2) (hx : xs[k1]? = some x) (hy : ys[k2]? = some y)
    (hQ : ∀ h', IsZip h' z TI TO (rawInt s.heap.objs.size) → IsPair h' TO x y → P1 h' (k1 + 1) → P2 h' (k2 + 1) → IsPair h' s.heap.objs.size x y → h'.objs.size = s.heap.objs.size + 1 →
      (∀ c o, c ≠ z → c ≠ TO → c ≠ i1 → c ≠ i2 → s.heap.get? c = some o → h'.get? c = some o) → Q (.ref s.heap.objs.size) { s with heap := h' }) (hb1 : i1 < s.heap.objs.size ∧ l1 < s.heap.objs.size) (hb2 : i2 < s.heap.objs.size ∧ l2 < s.heap.objs.size) :
    wpAny (model prog w) A (Builtin.«zip.__next__» ⟨[.ref z], []⟩) (fun fin s' => ∃ v, fin = .done (.ret v) ∧ Q v s') E s := by
  show wpAny _ _ (field (.ref z) 2 >>= _) _ _ _
  refine wpAny_bind (wpAny_field hz rfl (x := .bool false) rfl ?_)
  show wpAny _ _ (field (.ref z) 3 >>= _) _ _ _
  refine wpAny_bind (wpAny_field hz rfl (x := .ref TI) rfl (wpAny_bind (wpAny_seqItems hTI rfl ?_)))
  show wpAny _ _ (Builtin.SmallTypes.ownedTupleIsFree (.ref z) >>= _) _ _ _
  refine wpAny_bind ?_
  unfold Builtin.SmallTypes.ownedTupleIsFree
  refine wpAny_bind (wpAny_field hz rfl (x := .none) rfl (wpAny_pure ?_))
  simp only [if_true]
  refine wpAny_bind (wpAny_rule (wpAny_bind (wpAny_field hz rfl (x := .ref TO) rfl (wpAny_bind (wpAny_setField_rec hz (by simp) fun g1 hz1 s1 => ?_)))))
  have hz1 : IsZip g1 z TI TO .ellipsis := hz1
  refine wpAny_bind ?_
  simp only [List.zipIdx_cons, List.zipIdx_nil, List.forIn_cons, List.forIn_nil]
  refine wpAny_bind (wpAny_bind (wpAny_onRaise ?_))
  show wpAny _ _ (Builtin.SmallTypes.nextOf (.ref i1) >>= _) _ _ _
  refine wpAny_bind (S1.item (S1.far h1 s1.extBut D.i1z D.l1z) hx fun g2 p1 s2 => wpAny_pure ?_)
  have t2 : IsPair g2 TO a b := s2.extBut _ _ D.TOi1 (s1.extBut _ _ D.TOz hTO)
  refine wpAny_bind (wpAny_seqItems t2 rfl (wpAny_bind (wpAny_updateSeq_pair t2 fun g3 t3 s3 => wpAny_bind (wpAny_letGo (wpAny_pure ?_)))))
  have t3 : IsPair g3 TO x b := t3
  refine wpAny_bind (wpAny_bind (wpAny_onRaise ?_))
  show wpAny _ _ (Builtin.SmallTypes.nextOf (.ref i2) >>= _) _ _ _
  have q2 := S2.far (S2.far (S2.far h2 s1.extBut D.i2z D.l2z) s2.extBut D.i12.symm D.l2i1) s3.extBut D.TOi2.symm D.l2TO
  refine wpAny_bind (S2.item q2 hy fun g4 p2 s4 => wpAny_pure ?_)
  have t4 : IsPair g4 TO x b := s4.extBut _ _ D.TOi2 t3
  refine wpAny_bind (wpAny_seqItems t4 rfl (wpAny_bind (wpAny_updateSeq_pair t4 fun g5 t5 s5 => wpAny_bind (wpAny_letGo (wpAny_pure (wpAny_pure ?_))))))
  have t5 : IsPair g5 TO x y := t5
  refine wpAny_bind (wpAny_seqItems t5 rfl (wpAny_bind (wpAny_newTuple ?_)))
  have size5 : g5.objs.size = s.heap.objs.size := by rw [s5.1, s4.1, s3.1, s2.1, s1.1]
  have z5 : IsZip g5 z TI TO .ellipsis := s5.extBut _ _ D.TOz.symm (s4.extBut _ _ D.i2z.symm (s3.extBut _ _ D.TOz.symm (s2.extBut _ _ D.i1z.symm hz1)))
  have w1 : P1 g5 (k1 + 1) := S1.far (S1.far (S1.far p1 s3.extBut D.TOi1.symm D.l1TO) s4.extBut D.i12 D.l1i2) s5.extBut D.TOi1.symm D.l1TO
  have w2 : P2 g5 (k2 + 1) := S2.far p2 s5.extBut D.TOi2.symm D.l2TO
  have zlt : z < g5.objs.size := Heap.lt_size z5
  show wpAny _ _ (Builtin.SmallTypes.ownedTupleHandOut (.ref z) (.ref g5.objs.size) >>= _) _ _ _
  refine wpAny_bind ?_
  unfold Builtin.SmallTypes.ownedTupleHandOut
  have e6 : Heap.ExtBut g5.objs.size g5 (g5.push { cls := .type "tuple", data := .seq #[x, y] }) := fun c o _ e => Heap.get?_push_of_some _ e
  have z6 : IsZip (g5.push { cls := .type "tuple", data := .seq #[x, y] }) z TI TO .ellipsis := Heap.get?_push_of_some _ z5
  refine wpAny_bind (wpAny_setField_rec z6 (by simp) fun g7 z7 s7 => ?_)
  have z7 : IsZip g7 z TI TO (rawInt g5.objs.size) := z7
  refine wpAny_setField_rec z7 (by simp) fun g8 z8 s8 => ?_
  have z8 : IsZip g8 z TI TO (rawInt g5.objs.size) := z8
  have up : ∀ c o, c ≠ z → g5.get? c = some o → g8.get? c = some o := fun c o c1 e => s8.extBut _ _ c1 (s7.extBut _ _ c1 (Heap.get?_push_of_some _ e))
  have new8 : IsPair g8 g5.objs.size x y := s8.extBut _ _ (Nat.ne_of_gt zlt) (s7.extBut _ _ (Nat.ne_of_gt zlt) (Heap.get?_push_size _ rfl))
  have size8 : g8.objs.size = g5.objs.size + 1 := by rw [s8.1, s7.1, Heap.size_push]
  have ne : ∀ c, c < s.heap.objs.size → c ≠ g5.objs.size := fun c h e => by rw [size5] at e; exact Nat.ne_of_lt h e
  have v1 : P1 g8 (k1 + 1) := S1.far (S1.far (S1.far w1 e6 (ne _ hb1.1) (ne _ hb1.2)) s7.extBut D.i1z D.l1z) s8.extBut D.i1z D.l1z
  have v2 : P2 g8 (k2 + 1) := S2.far (S2.far (S2.far w2 e6 (ne _ hb2.1) (ne _ hb2.2)) s7.extBut D.i2z D.l2z) s8.extBut D.i2z D.l2z
  refine wpAny_pure ⟨_, rfl, ?_⟩
  show Q (.ref g5.objs.size) _
  rw [size5] at z8 new8 size8 ⊢
  exact hQ g8 z8 (up _ _ D.TOz t5) v1 v2 new8 size8 fun c o c1 c2 c3 c4 e => up c o c1 (s5.extBut _ _ c2 (s4.extBut _ _ c4 (s3.extBut _ _ c2 (s2.extBut _ _ c3 (s1.extBut _ _ c1 e)))))
theorem zip_fin {Q : Fin → Shared → Prop} (hh : A.handled = none) (S1 : Src P1 i1 l1 xs) (S2 : Src P2 i2 l2 ys) (D : ZipApart z TI TO i1 i2 l1 l2)
    (hz : IsZip s.heap z TI TO .none) (hTI : IsPair s.heap TI (.ref i1) (.ref i2)) (hTO : IsPair s.heap TO a b)
    (h1 : P1 s.heap k1) (h2 : P2 s.heap k2) (hend : xs[k1]? = none ∨ ys[k2]? = none)
    (hE : ∀ h' e, (∀ c o, c ≠ z → c ≠ TO → c ≠ i1 → c ≠ i2 → s.heap.get? c = some o → h'.get? c = some o) → (∃ o, h'.get? e = some o ∧ o.cls = .type "StopIteration") → E (.ref e) { s with heap := h' }) :
    wpAny (model prog w) A (Builtin.«zip.__next__» ⟨[.ref z], []⟩) Q E s := by
  show wpAny _ _ (field (.ref z) 2 >>= _) _ _ _
  refine wpAny_bind (wpAny_field hz rfl (x := .bool false) rfl ?_)
  show wpAny _ _ (field (.ref z) 3 >>= _) _ _ _
  refine wpAny_bind (wpAny_field hz rfl (x := .ref TI) rfl (wpAny_bind (wpAny_seqItems hTI rfl ?_)))
  show wpAny _ _ (Builtin.SmallTypes.ownedTupleIsFree (.ref z) >>= _) _ _ _
  refine wpAny_bind ?_
  unfold Builtin.SmallTypes.ownedTupleIsFree
  refine wpAny_bind (wpAny_field hz rfl (x := .none) rfl (wpAny_pure ?_))
  simp only [if_true]
  refine wpAny_bind (wpAny_rule (wpAny_bind (wpAny_field hz rfl (x := .ref TO) rfl (wpAny_bind (wpAny_setField_rec hz (by simp) fun g1 hz1 s1 => ?_)))))
  have hz1 : IsZip g1 z TI TO .ellipsis := hz1
  refine wpAny_bind ?_
  simp only [List.zipIdx_cons, List.zipIdx_nil, List.forIn_cons, List.forIn_nil]
  refine wpAny_bind (wpAny_bind (wpAny_onRaise ?_))
  show wpAny _ _ (Builtin.SmallTypes.nextOf (.ref i1) >>= _) _ _ _
  have q1 := S1.far h1 s1.extBut D.i1z D.l1z
  cases hx : xs[k1]? with
  | none =>
    refine wpAny_bind (S1.fin hh q1 hx fun g2 e s2 he => ?_)
    obtain ⟨oe, hoe, hce⟩ := he
    have z2 : IsZip g2 z TI TO .ellipsis := s2 _ _ D.i1z.symm hz1
    have hez : e ≠ z := fun x => by subst x; rw [z2] at hoe; cases hoe; simp at hce
    exact wpAny_setField_rec z2 (by simp) fun g3 _ s3 => hE g3 e (fun c o c1 _ c3 _ x => s3.extBut _ _ c1 (s2 _ _ c3 (s1.extBut _ _ c1 x))) ⟨oe, s3.extBut _ _ hez hoe, hce⟩
  | some x =>
    have hy : ys[k2]? = none := by
      rcases hend with h | h
      · rw [hx] at h; cases h
      · exact h
    refine wpAny_bind (S1.item q1 hx fun g2 p1 s2 => wpAny_pure ?_)
    have t2 : IsPair g2 TO a b := s2.extBut _ _ D.TOi1 (s1.extBut _ _ D.TOz hTO)
    refine wpAny_bind (wpAny_seqItems t2 rfl (wpAny_bind (wpAny_updateSeq_pair t2 fun g3 t3 s3 => wpAny_bind (wpAny_letGo (wpAny_pure ?_)))))
    refine wpAny_bind (wpAny_bind (wpAny_onRaise ?_))
    show wpAny _ _ (Builtin.SmallTypes.nextOf (.ref i2) >>= _) _ _ _
    have q2 := S2.far (S2.far (S2.far h2 s1.extBut D.i2z D.l2z) s2.extBut D.i12.symm D.l2i1) s3.extBut D.TOi2.symm D.l2TO
    refine wpAny_bind (S2.fin hh q2 hy fun g4 e s4 he => ?_)
    obtain ⟨oe, hoe, hce⟩ := he
    have z4 : IsZip g4 z TI TO .ellipsis := s4 _ _ D.i2z.symm (s3.extBut _ _ D.TOz.symm (s2.extBut _ _ D.i1z.symm hz1))
    have hez : e ≠ z := fun x => by subst x; rw [z4] at hoe; cases hoe; simp at hce
    exact wpAny_setField_rec z4 (by simp) fun g5 _ s5 => hE g5 e (fun c o c1 c2 c3 c4 x => s5.extBut _ _ c1 (s4 _ _ c4 (s3.extBut _ _ c2 (s2.extBut _ _ c3 (s1.extBut _ _ c1 x))))) ⟨oe, s5.extBut _ _ hez hoe, hce⟩
theorem next_item {Q : Option Value → Shared → Prop} (S1 : Src P1 i1 l1 xs) (S2 : Src P2 i2 l2 ys) (D : ZipApart z TI TO i1 i2 l1 l2)
    (hz : IsZip s.heap z TI TO .none) (hTI : IsPair s.heap TI (.ref i1) (.ref i2)) (hTO : IsPair s.heap TO a b)
    (h1 : P1 s.heap k1) (h2 : P2 s.heap k2) (hx : xs[k1]? = some x) (hy : ys[k2]? = some y) (hb1 : i1 < s.heap.objs.size ∧ l1 < s.heap.objs.size) (hb2 : i2 < s.heap.objs.size ∧ l2 < s.heap.objs.size)
    (hQ : ∀ h', IsZip h' z TI TO (rawInt s.heap.objs.size) → IsPair h' TO x y → P1 h' (k1 + 1) → P2 h' (k2 + 1) → IsPair h' s.heap.objs.size x y → h'.objs.size = s.heap.objs.size + 1 →
      (∀ c o, c ≠ z → c ≠ TO → c ≠ i1 → c ≠ i2 → s.heap.get? c = some o → h'.get? c = some o) → Q (some (.ref s.heap.objs.size)) { s with heap := h' }) :
    wpAny (model prog w) A (pyNext (.ref z)) Q E s := by
  have hT : s.TypeIs (.ref z) "zip" := ⟨_, hz, rfl⟩
  unfold pyNext
  exact wpAny_bind (wpAny_attempt (wpAny_callSpecial?_slot (name := Str.ofString "__next__") hT F.slot_zip_next (wpAny_call_entry F.slot_zip_next hT F.entry_zip_next
    (zip_item S1 S2 D hz hTI hTO h1 h2 hx hy (fun h' a1 a2 a3 a4 a5 a6 a7 => wpAny_pure (hQ h' a1 a2 a3 a4 a5 a6 a7)) hb1 hb2) (F.args_zip_next_1 _))))
theorem next_fin {Q : Option Value → Shared → Prop} (hh : A.handled = none) (S1 : Src P1 i1 l1 xs) (S2 : Src P2 i2 l2 ys) (D : ZipApart z TI TO i1 i2 l1 l2)
    (hz : IsZip s.heap z TI TO .none) (hTI : IsPair s.heap TI (.ref i1) (.ref i2)) (hTO : IsPair s.heap TO a b)
    (h1 : P1 s.heap k1) (h2 : P2 s.heap k2) (hend : xs[k1]? = none ∨ ys[k2]? = none)
    (hQ : ∀ h', (∀ c o, c ≠ z → c ≠ TO → c ≠ i1 → c ≠ i2 → s.heap.get? c = some o → h'.get? c = some o) → Q none { s with heap := h' }) : wpAny (model prog w) A (pyNext (.ref z)) Q E s := by
  have hT : s.TypeIs (.ref z) "zip" := ⟨_, hz, rfl⟩
  unfold pyNext
  refine wpAny_bind (wpAny_attempt (wpAny_callSpecial?_slot (name := Str.ofString "__next__") hT F.slot_zip_next (wpAny_call_entry F.slot_zip_next hT F.entry_zip_next
    (zip_fin hh S1 S2 D hz hTI hTO h1 h2 hend fun h' e hk he => ?_) (F.args_zip_next_1 _))))
  obtain ⟨o, ho, hc⟩ := he
  exact wpAny_bind (wpAny_isInstance (T := "StopIteration") (b := true) ⟨o, ho, hc⟩ isSubtype_stop (wpAny_pure (hQ _ hk)))
end
/-! zip(tuple, list) is made -/
abbrev mh1 (h : Heap) (l1 : Addr) : Heap := h.push { cls := .type "tuple_iterator", data := .fields #[.ref l1, .int 0 0] }
abbrev mh2 (h : Heap) (l1 l2 : Addr) : Heap := (mh1 h l1).push { cls := .type "list_iterator", data := .fields #[.ref l2, .int 0 0] }
abbrev mh3 (h : Heap) (l1 l2 : Addr) : Heap := (mh2 h l1 l2).push { cls := .type "tuple", data := .seq #[.ref h.objs.size, .ref (mh1 h l1).objs.size] }
abbrev mh4 (h : Heap) (l1 l2 : Addr) : Heap := (mh3 h l1 l2).push { cls := .type "tuple", data := .seq #[.none, .none] }
abbrev mh5 (h : Heap) (l1 l2 : Addr) : Heap := (mh4 h l1 l2).push { cls := .type "zip", data := .fields #[.none, .bool false, .bool false, .ref (mh2 h l1 l2).objs.size, .ref (mh3 h l1 l2).objs.size] }
theorem new_mixed (l1 l2 : Addr) (xs ys : Array Value) :
    Meets (Builtin.«zip.__new__» ⟨[.type "zip", .ref l1, .ref l2], []⟩) (fun _ R s => s.heap.IsTuple l1 xs ∧ s.heap.IsList l2 ys ∧
      R (.ok (.ret (.ref (mh4 s.heap l1 l2).objs.size))) { s with heap := mh5 s.heap l1 l2 }) :=
  .of_wp fun prog w A R s h => by
    obtain ⟨hp, g, d, tk, os⟩ := s; obtain ⟨hl1, hl2, h⟩ := h
    have hsub := sub_zip
    have hL1 : Heap.IsTuple (Shared.heap ⟨hp, g, d, tk, os⟩) l1 xs := hl1
    have hL2 : Heap.IsList (Shared.heap ⟨hp.push { cls := .type "tuple_iterator", data := .fields #[.ref l1, .int 0 0] }, g, d, tk, os⟩) l2 ys := Heap.IsList.push hl2 _
    wp_walk using wpAny_pyIter_tuple hL1, wpAny_pyIter_list hL2
    exact ⟨_, rfl, h⟩
section
variable {prog : Program} {w : World} {A : Around} {E : Value → Shared → Prop} {s : Shared}
theorem call_mixed {l1 l2 : Addr} {xs ys : Array Value} {Q : Value → Shared → Prop} (hl1 : s.heap.IsTuple l1 xs) (hl2 : s.heap.IsList l2 ys)
    (h : ∀ h', IsZip h' (s.heap.objs.size + 4) (s.heap.objs.size + 2) (s.heap.objs.size + 3) .none → IsPair h' (s.heap.objs.size + 2) (.ref s.heap.objs.size) (.ref (s.heap.objs.size + 1)) →
      IsPair h' (s.heap.objs.size + 3) .none .none → h'.IsTupleIter s.heap.objs.size l1 0 → h'.IsListIter (s.heap.objs.size + 1) l2 0 → h'.objs.size = s.heap.objs.size + 5 →
      (∀ c o, s.heap.get? c = some o → h'.get? c = some o) → Q (.ref (s.heap.objs.size + 4)) { s with heap := h' }) :
    wpAny (model prog w) A (call (.type "zip") [.ref l1, .ref l2]) Q E s := by
  refine callType_new F.called_zip (by decide) (F.typeCall_zip_2 _ _) (F.newCall_zip_2 _ _) (fun obj => F.args_object_init_3 obj _ _) F.entry_zip_new (new_mixed l1 l2 xs ys) ⟨hl1, hl2, ?_⟩
  have n1 : (mh1 s.heap l1).objs.size = s.heap.objs.size + 1 := Heap.size_push ..
  have n2 : (mh2 s.heap l1 l2).objs.size = s.heap.objs.size + 2 := by rw [Heap.size_push, n1]
  have n3 : (mh3 s.heap l1 l2).objs.size = s.heap.objs.size + 3 := by rw [Heap.size_push, n2]
  have n4 : (mh4 s.heap l1 l2).objs.size = s.heap.objs.size + 4 := by rw [Heap.size_push, n3]
  have n5 : (mh5 s.heap l1 l2).objs.size = s.heap.objs.size + 5 := by rw [Heap.size_push, n4]
  have up : ∀ {h : Heap} {o : Obj} {c : Addr} {q : Obj}, h.get? c = some q → (h.push o).get? c = some q := fun e => Heap.get?_push_of_some _ e
  have g5 : (mh5 s.heap l1 l2).get? (mh4 s.heap l1 l2).objs.size = some _ := Heap.get?_push_size _ rfl
  have g4 : (mh5 s.heap l1 l2).get? (mh3 s.heap l1 l2).objs.size = some _ := up (Heap.get?_push_size _ rfl)
  have g3 : (mh5 s.heap l1 l2).get? (mh2 s.heap l1 l2).objs.size = some _ := up (up (Heap.get?_push_size _ rfl))
  have g2 : (mh5 s.heap l1 l2).get? (mh1 s.heap l1).objs.size = some _ := up (up (up (Heap.get?_push_size _ rfl)))
  have g1 : (mh5 s.heap l1 l2).get? s.heap.objs.size = some _ := up (up (up (up (Heap.get?_push_size _ rfl))))
  show _ ∧ _
  rw [n2, n3, n4] at g5
  rw [n1, n2] at g3
  rw [n3] at g4
  rw [n1] at g2
  rw [n4]
  exact ⟨⟨_, g5, rfl⟩, h _ g5 g3 g4 ⟨_, g1, rfl, rfl⟩ ⟨_, g2, rfl, rfl⟩ n5 fun c o x => up (up (up (up (up x))))⟩
end
end Q2
set_option Elab.async false
set_option linter.all false
set_option maxRecDepth 100000
/-! for .. in zip(tuple, list), and of two lists, of two tuples. -/
namespace Q2
open PySem PySem.Spec PyProof.Rows L2 RZ
/-- a tuple at a and a list at b as they stand at each turn, the items in new pairs -/
def ItzM (K : PySem.W.Frag) (a b : Addr) : It :=
  ⟨fun i H => ∃ (xs ys : List V) (x y : V), SqT K H a xs ∧ SqL K H b ys ∧ xs[i]? = some x ∧ ys[i]? = some y,
    fun i H v H' => ∃ T x y, v = .ref T ∧ H T = none ∧ H' = upd H T (.tup [x, y]) ∧ (∀ xs, SqT K H a xs → xs[i]? = some x) ∧ ∀ ys, SqL K H b ys → ys[i]? = some y,
    fun i H => ∃ xs ys : List V, SqT K H a xs ∧ SqL K H b ys ∧ (xs.length ≤ i ∨ ys.length ≤ i)⟩
theorem turn_mixed {P : Program} {w : World} {K : PySem.W.Frag} {elts : List Expr} {kk : Nat} {tpos : Pos} {a b z TI TO i1 i2 : Addr} (D : ZipApart z TI TO i1 i2 a b) :
    Turn P w K (.Tuple elts kk tpos) (ItzM K a b) [z, TI, TO, i1, i2] z (fun i h => IsZip h z TI TO .none ∧ IsPair h TI (.ref i1) (.ref i2) ∧ (∃ x y, IsPair h TO x y) ∧ h.IsTupleIter i1 a i ∧ h.IsListIter i2 b i) where
  mem := by simp
  obj := fun i h st c hc => by
    obtain ⟨hz, hTI, ⟨x, y, hTO⟩, ⟨o1, e1, _, d1⟩, ⟨o2, e2, _, d2⟩⟩ := st
    have e' : c = z ∨ c = TI ∨ c = TO ∨ c = i1 ∨ c = i2 := by simpa using hc
    rcases e' with rfl | rfl | rfl | rfl | rfl
    · exact ⟨_, hz, fun v q => nomatch q⟩
    · exact ⟨_, hTI, fun v q => nomatch q⟩
    · exact ⟨_, hTO, fun v q => nomatch q⟩
    · exact ⟨o1, e1, fun v q => by rw [d1] at q; cases q⟩
    · exact ⟨o2, e2, fun v q => by rw [d2] at q; cases q⟩
  keep := fun i h h' st k => by
    obtain ⟨hz, hTI, ⟨x, y, hTO⟩, h1, h2⟩ := st
    exact ⟨k z (by simp) _ hz, k TI (by simp) _ hTI, ⟨x, y, k TO (by simp) _ hTO⟩, h1.at fun o q => k i1 (by simp) o q, h2.at fun o q => k i2 (by simp) o q⟩
  item := by
    intro X hP hw hK hc i pins s σ H E I hf st hg
    subst hP hw hK
    obtain ⟨hz, hTI, ⟨x0, y0, hTO⟩, h1, h2⟩ := st
    obtain ⟨xs, ys, x, y, hqx, hqy, hx, hy⟩ := hg
    obtain ⟨its, rv, p, _⟩ := I.tuple hqx
    obtain ⟨its2, rv2, p2, _⟩ := I.list hqy
    obtain ⟨u, hu, ru⟩ := rv.get hx
    obtain ⟨u2, hu2, ru2⟩ := rv2.get hy
    have hzl : z < s.heap.objs.size := Heap.lt_size hz
    have b1 : i1 < s.heap.objs.size ∧ a < s.heap.objs.size := by
      obtain ⟨_, e1, _⟩ := id h1
      obtain ⟨_, e2, _⟩ := id p
      exact ⟨Heap.lt_size e1, Heap.lt_size e2⟩
    have b2 : i2 < s.heap.objs.size ∧ b < s.heap.objs.size := by
      obtain ⟨_, e1, _⟩ := id h2
      exact ⟨Heap.lt_size e1, p2.lt⟩
    refine next_item (src_tup (xs := its.toArray) D.l1i1) (src_lst (xs := its2.toArray) D.l2i2) D hz hTI hTO ⟨h1, p⟩ ⟨h2, p2.isList⟩ (x := u) (y := u2) (by simpa using hu) (by simpa using hu2) b1 b2 fun h' z' TO' h1' h2' hT hsz hk => ?_
    refine ⟨_, rfl, wpAny_letOwnedTupleGo_zip (s := { s with heap := h' }) z' fun h'' z'' sb => ?_⟩
    have hT2 : h''.get? s.heap.objs.size = some { cls := .type "tuple", data := .seq #[u, u2] } := (sb.2 _ (Nat.ne_of_gt hzl)).trans hT
    have new : ObjOk X.prog X.w (upd H s.heap.objs.size (.tup [x, y])) h'' s.heap.objs.size (.tup [x, y]) :=
      ⟨by show 2 ≤ sizeLine; decide, [u, u2], .cons ru (.cons ru2 .nil), ⟨_, hT2, rfl, _, rfl⟩⟩
    have I1 : Inv X pins σ (upd H s.heap.objs.size (.tup [x, y])) { s with heap := h'' } :=
      I.turnedNew (t' := s.toks) (ch := [z, TI, TO, i1, i2]) (fun c o hb q => (sb.2 c (fun q' => hb (by simp [q']))).trans (hk c o (fun q' => hb (by simp [q'])) (fun q' => hb (by simp [q'])) (fun q' => hb (by simp [q'])) (fun q' => hb (by simp [q'])) q)) hf (Nat.le_refl _) new
    refine ⟨.ref s.heap.objs.size, _, I1, rfl, ⟨_, x, y, rfl, I.hok.fresh (Nat.le_refl _), rfl, fun l hl => by rw [I.tuple_inj hl hqx]; exact hx, fun l hl => by rw [I.list_inj hl hqy]; exact hy⟩, ⟨z'', ?_, ⟨u, u2, ?_⟩, ?_, ?_⟩, fun c hcm => ?_⟩
    · exact (sb.2 _ D.TIz).trans (hk _ _ D.TIz D.TITO D.TIi1 D.TIi2 hTI)
    · exact (sb.2 _ D.TOz).trans TO'
    · exact h1'.1.at fun o q => (sb.2 _ D.i1z).trans q
    · exact h2'.1.at fun o q => (sb.2 _ D.i2z).trans q
    · have hlt : c < s.heap.objs.size := by
        have e' : c = z ∨ c = TI ∨ c = TO ∨ c = i1 ∨ c = i2 := by simpa using hcm
        rcases e' with rfl | rfl | rfl | rfl | rfl
        · exact hzl
        · exact Heap.lt_size hTI
        · exact Heap.lt_size hTO
        · exact b1.1
        · exact b2.1
      rw [upd_ne (Nat.ne_of_lt hlt)]
      exact (hf c hcm).1
  done := by
    intro X hP hw hK hc i pins s σ H E I hf st hg
    subst hP hw hK
    obtain ⟨hz, hTI, ⟨x0, y0, hTO⟩, h1, h2⟩ := st
    obtain ⟨xs, ys, hqx, hqy, hend⟩ := hg
    obtain ⟨its, rv, p, _⟩ := I.tuple hqx
    obtain ⟨its2, rv2, p2, _⟩ := I.list hqy
    have l1 := rv.length
    have l2 := rv2.length
    have he : its.toArray[i]? = none ∨ its2.toArray[i]? = none := by
      rcases hend with q | q
      · exact .inl (by simp; omega)
      · exact .inr (by simp; omega)
    exact next_fin (I.ok.hd hc) (src_tup (xs := its.toArray) D.l1i1) (src_lst (xs := its2.toArray) D.l2i2) D hz hTI hTO ⟨h1, p⟩ ⟨h2, p2.isList⟩ he fun h' hk => ⟨rfl, I.turnedL (t' := s.toks) (ch := [z, TI, TO, i1, i2]) (fun c o hb q =>
      hk c o (fun q' => hb (by simp [q'])) (fun q' => hb (by simp [q'])) (fun q' => hb (by simp [q'])) (fun q' => hb (by simp [q'])) q) hf⟩
  self := fun A i s Q E st h => wpAny_pyIter_zip st.1 h
def iZipB (K : PySem.W.Frag) (ta : TA) : TI := fun σ H R => ta σ H fun vs H1 => ∃ a b xs ys, vs = [.ref a, .ref b] ∧ ((SqL K H1 a xs ∧ SqL K H1 b ys ∧ R (Itz K a b) H1) ∨ (SqT K H1 a xs ∧ SqT K H1 b ys ∧ R (ItzT K a b) H1) ∨ (SqT K H1 a xs ∧ SqL K H1 b ys ∧ R (ItzM K a b) H1))
theorem pi_zipB {X : Cx} {e e2 : Expr} {ta : TA} {p pos tpos : Pos} {elts : List Expr} {kk : Nat} (hg : Gl X "zip") (hm : X.mg "zip" = none) (ha : PA X [e, e2] ta)
    (hs : starEach [e, e2] X.env = (false, eval e X.env) :: starEach [e2] X.env := by rfl) (hpl : (backTo pos (starEach [e2] X.env)).any (·.1) = false := by rfl) :
    PI X (.Tuple elts kk tpos) (.Call (.Name "zip" p) [e, e2] [] pos) (iZipB X.K ta) := by
  refine ⟨fun pins s σ H R I h => ?_⟩
  refine Call_ (ld_blt I hg hm PyProof.Rows.boot_zip (PyProof.Rows.callWith_type1 (thn (ha.run pos pins s σ H _ I h) fun us s1 ⟨vs, H1, I1, r1, q1⟩ => ?_) hs hpl))
  obtain ⟨a, b, xs, ys, rfl, q1⟩ := q1
  cases r1 with
  | cons r rr =>
    cases rr with
    | cons r' rr =>
      cases rr
      cases r
      cases r'
      have new : ∀ c, c ∈ [s1.heap.objs.size + 4, s1.heap.objs.size + 2, s1.heap.objs.size + 3, s1.heap.objs.size, s1.heap.objs.size + 1] → FpOk X pins H1 c := fun c hcm => by
        have hle : s1.heap.objs.size ≤ c := by
          simp only [List.mem_cons, List.not_mem_nil, or_false] at hcm
          rcases hcm with z | z | z | z | z <;> rw [z] <;> first | exact Nat.le_refl _ | exact Nat.le_add_right _ _
        exact I1.fpOk hle (I1.hok.fresh hle)
      rcases q1 with ⟨hqx, hqy, q⟩ | ⟨hqx, hqy, q⟩ | ⟨hqx, hqy, q⟩
      · obtain ⟨its, rv, p1, _⟩ := I1.list hqx
        obtain ⟨its2, rv2, p2, _⟩ := I1.list hqy
        refine call_zip_2 p1.isList p2.isList fun h' hz hTI hTO h1 h2 hsz hk => wpAny_pyIter_zip hz ?_
        exact ⟨_, _, _, _, H1, rfl, I1.kept (t' := s1.toks) hk, turn_zip (PySem.W.ktu_apart s1.heap.objs.size a b p1.lt p2.lt), ⟨hz, hTI, ⟨_, _, hTO⟩, h1, h2⟩, new, q⟩
      · obtain ⟨its, rv, p1, _⟩ := I1.tuple hqx
        obtain ⟨its2, rv2, p2, _⟩ := I1.tuple hqy
        obtain ⟨o1, ho1, _⟩ := id p1
        obtain ⟨o2, ho2, _⟩ := id p2
        refine call_zipT (show s1.heap.IsTuple a its.toArray from p1) (show s1.heap.IsTuple b its2.toArray from p2) fun h' hz hTI hTO h1 h2 hsz hk => wpAny_pyIter_zip hz ?_
        exact ⟨_, _, _, _, H1, rfl, I1.kept (t' := s1.toks) hk, turn_zipT (PySem.W.ktu_apart s1.heap.objs.size a b (Heap.lt_size ho1) (Heap.lt_size ho2)), ⟨hz, hTI, ⟨_, _, hTO⟩, h1, h2⟩, new, q⟩
      · obtain ⟨its, rv, p1, _⟩ := I1.tuple hqx
        obtain ⟨its2, rv2, p2, _⟩ := I1.list hqy
        obtain ⟨o1, ho1, _⟩ := id p1
        refine call_mixed (show s1.heap.IsTuple a its.toArray from p1) p2.isList fun h' hz hTI hTO h1 h2 hsz hk => wpAny_pyIter_zip hz ?_
        exact ⟨_, _, _, _, H1, rfl, I1.kept (t' := s1.toks) hk, turn_mixed (PySem.W.ktu_apart s1.heap.objs.size a b (Heap.lt_size ho1) p2.lt), ⟨hz, hTI, ⟨_, _, hTO⟩, h1, h2⟩, new, q⟩
end Q2
set_option Elab.async false
set_option linter.all false
set_option maxRecDepth 100000
/-! Targets, sources, comprehensions. -/
namespace Q
open PySem PySem.W PySem.Spec L2
open PyProof.Rows hiding St

theorem bind_ok {α β : Type} {x : R α} {f : α → R β} {b : β} (h : (x >>= f) = .ok b) : ∃ a, x = .ok a ∧ f a = .ok b := by
  cases x with
  | ok a => exact ⟨a, rfl, h⟩
  | exc c => cases h
  | bad => cases h
/-! ### targets -/
structure Bd (l : List Nat) (ρ ρ' : Env) (σ σ' : L2.St) : Prop where
  len : σ'.length = σ.length
  off : ∀ i, i ∉ l → σ'[i]? = σ[i]? ∧ slot ρ' i = slot ρ i
  on : ∀ i, i ∈ l → ∀ d o, slot ρ' i = some (d, o) → o = 0
def gT (K : Frag) (tg : Tg) : TG := fun v σ H Q => ∃ ρ Hf d ρ', SR K Hf H σ ρ ∧ Rp K Hf v d ∧ tg.bind d ρ = .ok ρ' ∧ ∀ σ', SR K Hf H σ' ρ' → Bd tg.slots ρ ρ' σ σ' → Q σ' H
def gTs (K : Frag) (l : Tgs) : TGs := fun vs σ H Q => ∃ ρ Hf ds ρ', SR K Hf H σ ρ ∧ RpAll K Hf vs ds ∧ l.bind ds ρ = .ok ρ' ∧ ∀ σ', SR K Hf H σ' ρ' → Bd l.slots ρ ρ' σ σ' → Q σ' H
theorem impG {X : Cx} {e : Expr} {t t' : TG} (h : PG X e t) (g : ∀ v σ H Q, t' v σ H Q → t v σ H Q) : PG X e t' := ⟨fun pins s σ H v u Q I r hw => h.run pins s σ H v u Q I r (g v σ H Q hw)⟩
theorem impGs {X : Cx} {e : List Expr} {t t' : TGs} (h : PGs X e t) (g : ∀ v σ H Q, t' v σ H Q → t v σ H Q) : PGs X e t' := ⟨fun pins s σ H vs us Q I r hw => h.run pins s σ H vs us Q I r (g vs σ H Q hw)⟩
theorem assign_cons {e : Expr} {es : List Expr} {env : PySem.Env} (h : notStar e = true) : assignEach (e :: es) env = (false, assign e env) :: assignEach es env := by
  cases e <;> first | rfl | exact absurd h Bool.false_ne_true
theorem assign_len {env : PySem.Env} : ∀ {es : List Expr}, es.all notStar = true → (assignEach es env).length = es.length ∧ List.findIdx? (fun x => x.fst) (assignEach es env) = none
  | [], _ => ⟨rfl, rfl⟩
  | e :: es, h => by
    simp only [List.all_cons, Bool.and_eq_true] at h
    rw [assign_cons h.1]
    obtain ⟨a, b⟩ := assign_len (env := env) h.2
    refine ⟨by rw [List.length_cons, a, List.length_cons], ?_⟩
    rw [List.findIdx?_cons]
    simp [b]
section
variable {X : Cx} {K : Frag} {Hf H Hf' H' : Hp} {σ σ' : L2.St} {ρ ρ' : Env}
theorem pg_nQ {i : Nat} {x : Str} {pos : Pos} (hN : X.N.Nodup) (hi : X.N[i]? = some x) (hx : Loc X.env.scope x) (hl : X.fn x = true ∨ X.env.scope.names.lookup x = some .local) : PG X (.Name x pos) (gT X.kw (.n i)) :=
  impG (pg_name hN hi hx hl) fun v σ H Q h => by
    obtain ⟨ρ, Hf, d, ρ', s, r, e, q⟩ := h
    cases e
    refine q _ (s.set i r) ⟨List.length_set, fun j hj => ?_, fun j hj d' o e => ?_⟩
    · have : i ≠ j := fun e => hj (by subst e; exact List.mem_singleton.mpr rfl)
      exact ⟨List.getElem?_set_ne this, by rw [slot_put, if_neg (fun e => this e.1)]⟩
    · have : j = i := List.mem_singleton.mp hj
      subst this
      rw [slot_put] at e
      split at e
      · cases e; rfl
      · rename_i hn
        exact absurd ⟨rfl, slot_lt e⟩ hn
theorem pgs_nQ : PGs X [] (gTs X.kw .nil) :=
  impGs pgs_nil fun vs σ H Q h => by
    obtain ⟨ρ, Hf, ds, ρ', s, r, e, q⟩ := h
    cases ds with
    | nil =>
      cases e
      cases r
      exact ⟨rfl, q σ s ⟨rfl, fun _ _ => ⟨rfl, rfl⟩, fun i hi => absurd hi List.not_mem_nil⟩⟩
    | cons d ds => cases e
theorem Bd.trans {l l' : List Nat} {ρ'' : Env} {σ'' : L2.St} (a : Bd l ρ ρ' σ σ') (b : Bd l' ρ' ρ'' σ' σ'') : Bd (l ++ l') ρ ρ'' σ σ'' := by
  refine ⟨b.len.trans a.len, fun i hi => ?_, fun i hi d o e => ?_⟩
  · rw [List.mem_append, not_or] at hi
    obtain ⟨x1, x2⟩ := a.off i hi.1
    obtain ⟨y1, y2⟩ := b.off i hi.2
    exact ⟨y1.trans x1, y2.trans x2⟩
  · by_cases h : i ∈ l'
    · exact b.on i h d o e
    · rw [(b.off i h).2] at e
      exact a.on i ((List.mem_append.mp hi).resolve_right h) d o e
theorem pgs_cQ {e : Expr} {es : List Expr} {t : Tg} {l : Tgs} (hs : notStar e = true) (h : PG X e (gT X.kw t)) (hl : PGs X es (gTs X.kw l)) : PGs X (e :: es) (gTs X.kw (.cons t l)) :=
  impGs (pgs_cons h hl (by rw [assign_cons hs]; rfl)) fun vs σ H Q hh => by
    obtain ⟨ρ, Hf, ds, ρ', s, r, e, q⟩ := hh
    cases ds with
    | nil => cases e
    | cons d ds =>
      cases r with
      | cons r rs =>
        obtain ⟨ρ1, e1, e2⟩ := bind_ok e
        exact ⟨_, _, rfl, ρ, Hf, d, ρ1, s, r, e1, fun σ1 s1 b1 => ⟨ρ1, Hf, ds, ρ', s1, rs, e2, fun σ2 s2 b2 => q σ2 s2 (b1.trans b2)⟩⟩
theorem pg_tQ {es : List Expr} {k : Nat} {pos : Pos} {l : Tgs} (hc : X.calm = true) (hs : es.all notStar = true) (hl : PGs X es (gTs X.kw l)) (hn : ∀ ds ρ ρ', l.bind ds ρ = .ok ρ' → ds.length = es.length) : PG X (.Tuple es k pos) (gT X.kw (.t l)) := by
  refine ⟨fun pins s σ H v u Q I r hw => ?_⟩
  obtain ⟨ρ, Hf, d, ρ', sr, rp, e, q⟩ := hw
  have al := assign_len (env := X.env) hs
  cases d with
  | tuple xs =>
    cases rp with
    | tup h1 h2 =>
      refine (pg_tup (n := es.length) hc hl al.1 al.2).run pins s σ H _ u Q I r ⟨_, _, rfl, sqT_mono sr.sub h1, by rw [h2.len]; exact hn _ _ _ e, ρ, Hf, xs, ρ', sr, h2, e, q⟩
  | list xs =>
    cases rp with
    | lst h1 h2 =>
      refine (pg_lst (n := es.length) hc hl al.1 al.2).run pins s σ H _ u Q I r ⟨_, _, rfl, .inl (rd_mono sr.sub h1), by rw [h2.len]; exact hn _ _ _ e, ρ, Hf, xs, ρ', sr, h2, e, q⟩
  | _ => cases e
end
/-! ### sources -/
def Wk (K : Frag) (m : Bool) (Hf H : Hp) (J : It) (ds : List D) : Prop := ∀ Hf' H', (if m then Ext Hf H Hf' H' else Same Hf Hf' ∧ Same Hf' H') → ∀ i, (ds.length ≤ i → J.stop i H') ∧ ∀ d, ds[i]? = some d → J.go i H' ∧ ∀ x H'', J.yld i H' x H'' → ∃ Hf'', Ext Hf' H' Hf'' H'' ∧ Rp K Hf'' x d
def tI (c : Ctx) (xc : Nat → Value) (W : WX) (K : Frag) (it : I) (m : Bool) : TI := fun σ H R => ∃ ρ Hf, SR K Hf H σ ρ ∧ After (evI c it m ρ) xc W σ Hf H fun ds Hf' H' => ∀ J, Wk K m Hf' H' J ds → R J H'
section
variable {X : Cx} {c : Ctx} {xc : Nat → Value} {W : WX} {K : Frag} {m : Bool} {Hf H Hf' H' : Hp}
theorem cond_s1 (h : if m then Ext Hf H Hf' H' else Same Hf Hf' ∧ Same Hf' H') : Same Hf Hf' ∧ Same Hf' H' := by
  cases m with
  | true => exact ⟨h.s1, h.sub⟩
  | false => exact h
/-- something that is read as that list, here and later -/
def Hd (K : Frag) (m : Bool) (Hf H : Hp) (P : Hp → Prop) : Prop := ∀ Hf' H', (if m then Ext Hf H Hf' H' else Same Hf Hf' ∧ Same Hf' H') → P H'
theorem wk_list {p : Addr} {vs : List V} {ds : List D} (h : Hd K m Hf H fun H' => Rd H' p (.lst vs)) (sb : Same Hf H) (r : RpAll K Hf vs ds) : Wk K m Hf H (Itl K p) ds := fun Hf' H' x i => by
  have g := h Hf' H' x
  have s := cond_s1 x
  refine ⟨fun hl => ⟨vs, .inl g, by rw [r.len]; exact hl⟩, fun d e => ?_⟩
  obtain ⟨v, e1, rv⟩ := r.get e
  refine ⟨⟨vs, v, .inl g, e1⟩, fun y H'' hy => ?_⟩
  obtain ⟨rfl, hy2⟩ := hy
  have := hy2 vs (.inl g)
  rw [e1] at this
  cases this
  exact ⟨Hf', Ext.refl s.2, rv.mono s.1⟩
theorem wk_tup {p : Addr} {vs : List V} {ds : List D} (h : Hd K m Hf H fun H' => SqT K H' p vs) (sb : Same Hf H) (r : RpAll K Hf vs ds) : Wk K m Hf H (Itt K p) ds := fun Hf' H' x i => by
  have g := h Hf' H' x
  have s := cond_s1 x
  refine ⟨fun hl => ⟨vs, g, by rw [r.len]; exact hl⟩, fun d e => ?_⟩
  obtain ⟨v, e1, rv⟩ := r.get e
  refine ⟨⟨vs, v, g, e1⟩, fun y H'' hy => ?_⟩
  obtain ⟨rfl, hy2⟩ := hy
  have := hy2 vs g
  rw [e1] at this
  cases this
  exact ⟨Hf', Ext.refl s.2, rv.mono s.1⟩
theorem zip2_get : ∀ {xs ys : List D} {i : Nat} {d : D}, (zip2 xs ys)[i]? = some d → ∃ x y, xs[i]? = some x ∧ ys[i]? = some y ∧ d = .tuple [x, y]
  | x :: xs, y :: ys, 0, d, h => ⟨x, y, rfl, rfl, (Option.some.inj h).symm⟩
  | x :: xs, y :: ys, i + 1, d, h => by
    obtain ⟨a, b, h1, h2, h3⟩ := zip2_get (xs := xs) (ys := ys) (i := i) (d := d) (by simpa [zip2] using h)
    exact ⟨a, b, by simpa using h1, by simpa using h2, h3⟩
  | [], _, _, _, h => by simp [zip2] at h
  | _ :: _, [], _, _, h => by simp [zip2] at h
theorem zip2_len : ∀ (xs ys : List D), (zip2 xs ys).length = min xs.length ys.length
  | x :: xs, y :: ys => by simp [zip2, zip2_len xs ys] <;> omega
  | [], _ => by simp [zip2]
  | _ :: _, [] => by simp [zip2]
theorem new_pair {vx vy : V} {x y : D} (s : Same Hf H) (rx : Rp K Hf vx x) (ry : Rp K Hf vy y) {T : Addr} (hT : H T = none) : ∃ Hf'', Ext Hf H Hf'' (upd H T (.tup [vx, vy])) ∧ Rp K Hf'' (.ref T) (.tuple [x, y]) := by
  have sm := same_upd (o := HO.tup [vx, vy]) (none_sub s hT)
  exact ⟨_, Ext.new s hT, .tup (SqT.of upd_same) (.cons (rx.mono sm) (.cons (ry.mono sm) .nil))⟩
theorem wk_zip {p q : Addr} {vs ws : List V} {xs ys : List D} (h : Hd K m Hf H fun H' => Rd H' p (.lst vs) ∧ Rd H' q (.lst ws)) (r : RpAll K Hf vs xs) (r' : RpAll K Hf ws ys) : Wk K m Hf H (Itz K p q) (zip2 xs ys) := fun Hf' H' x i => by
  obtain ⟨g, g'⟩ := h Hf' H' x
  have s := cond_s1 x
  refine ⟨fun hl => ⟨vs, ws, .inl g, .inl g', ?_⟩, fun d e => ?_⟩
  · rw [zip2_len] at hl
    rw [r.len, r'.len]
    omega
  obtain ⟨a, b, e1, e2, rfl⟩ := zip2_get e
  obtain ⟨v, f1, rv⟩ := r.get e1
  obtain ⟨w, f2, rw'⟩ := r'.get e2
  refine ⟨⟨vs, ws, v, w, .inl g, .inl g', f1, f2⟩, fun y H'' hy => ?_⟩
  obtain ⟨T, y1, y2, rfl, hT, rfl, k1, k2⟩ := hy
  have z1 := k1 vs (.inl g)
  have z2 := k2 ws (.inl g')
  rw [f1] at z1
  rw [f2] at z2
  cases z1
  cases z2
  exact new_pair s.2 (rv.mono s.1) (rw'.mono s.1) hT
theorem wk_zipT {p q : Addr} {vs ws : List V} {xs ys : List D} (h : Hd K m Hf H fun H' => SqT K H' p vs ∧ SqT K H' q ws) (r : RpAll K Hf vs xs) (r' : RpAll K Hf ws ys) : Wk K m Hf H (RZ.ItzT K p q) (zip2 xs ys) := fun Hf' H' x i => by
  obtain ⟨g, g'⟩ := h Hf' H' x
  have s := cond_s1 x
  refine ⟨fun hl => ⟨vs, ws, g, g', ?_⟩, fun d e => ?_⟩
  · rw [zip2_len] at hl
    rw [r.len, r'.len]
    omega
  obtain ⟨a, b, e1, e2, rfl⟩ := zip2_get e
  obtain ⟨v, f1, rv⟩ := r.get e1
  obtain ⟨w, f2, rw'⟩ := r'.get e2
  refine ⟨⟨vs, ws, v, w, g, g', f1, f2⟩, fun y H'' hy => ?_⟩
  obtain ⟨T, y1, y2, rfl, hT, rfl, k1, k2⟩ := hy
  have z1 := k1 vs g
  have z2 := k2 ws g'
  rw [f1] at z1
  rw [f2] at z2
  cases z1
  cases z2
  exact new_pair s.2 (rv.mono s.1) (rw'.mono s.1) hT
theorem wk_zipM {p q : Addr} {vs ws : List V} {xs ys : List D} (h : Hd K m Hf H fun H' => SqT K H' p vs ∧ SqL K H' q ws) (r : RpAll K Hf vs xs) (r' : RpAll K Hf ws ys) : Wk K m Hf H (Q2.ItzM K p q) (zip2 xs ys) := fun Hf' H' x i => by
  obtain ⟨g, g'⟩ := h Hf' H' x
  have s := cond_s1 x
  refine ⟨fun hl => ⟨vs, ws, g, g', ?_⟩, fun d e => ?_⟩
  · rw [zip2_len] at hl
    rw [r.len, r'.len]
    omega
  obtain ⟨a, b, e1, e2, rfl⟩ := zip2_get e
  obtain ⟨v, f1, rv⟩ := r.get e1
  obtain ⟨w, f2, rw'⟩ := r'.get e2
  refine ⟨⟨vs, ws, v, w, g, g', f1, f2⟩, fun y H'' hy => ?_⟩
  obtain ⟨T, y1, y2, rfl, hT, rfl, k1, k2⟩ := hy
  have z1 := k1 vs g
  have z2 := k2 ws g'
  rw [f1] at z1
  rw [f2] at z2
  cases z1
  cases z2
  exact new_pair s.2 (rv.mono s.1) (rw'.mono s.1) hT
theorem enumD_get : ∀ {xs : List D} {k : Int} {i : Nat} {d : D}, (enumD k xs)[i]? = some d → ∃ x, xs[i]? = some x ∧ d = .tuple [.int (k + i), x]
  | [], _, _, _, h => by simp [enumD] at h
  | x :: xs, k, 0, d, h => ⟨x, rfl, by have := Option.some.inj h; rw [← this]; simp⟩
  | x :: xs, k, i + 1, d, h => by
    obtain ⟨a, h1, h2⟩ := enumD_get (xs := xs) (k := k + 1) (i := i) (d := d) (by simpa [enumD] using h)
    exact ⟨a, by simpa using h1, by rw [h2, show k + 1 + (i : Int) = k + ((i + 1 : Nat) : Int) by push_cast; omega]⟩
theorem enumD_len : ∀ (k : Int) (xs : List D), (enumD k xs).length = xs.length
  | _, [] => rfl
  | k, x :: xs => by simp [enumD, enumD_len (k + 1) xs]
theorem wk_enum {p : Addr} {vs : List V} {xs : List D} (h : Hd K m Hf H fun H' => Rd H' p (.lst vs)) (r : RpAll K Hf vs xs) : Wk K m Hf H (Ite K p) (enumD 0 xs) := fun Hf' H' x i => by
  have g := h Hf' H' x
  have s := cond_s1 x
  refine ⟨fun hl => ⟨vs, .inl g, by rw [enumD_len] at hl; rw [r.len]; exact hl⟩, fun d e => ?_⟩
  obtain ⟨a, e1, rfl⟩ := enumD_get e
  obtain ⟨v, f1, rv⟩ := r.get e1
  refine ⟨⟨vs, v, .inl g, f1⟩, fun y H'' hy => ?_⟩
  obtain ⟨T, y1, rfl, hT, rfl, k1⟩ := hy
  have z1 := k1 vs (.inl g)
  rw [f1] at z1
  cases z1
  rw [show (0 : Int) + (i : Int) = (i : Int) by omega]
  exact new_pair s.2 (.int _) (rv.mono s.1) hT
theorem wk_enumT {p : Addr} {vs : List V} {xs : List D} (h : Hd K m Hf H fun H' => SqT K H' p vs) (r : RpAll K Hf vs xs) : Wk K m Hf H (IteT K p) (enumD 0 xs) := fun Hf' H' x i => by
  have g := h Hf' H' x
  have s := cond_s1 x
  refine ⟨fun hl => ⟨vs, g, by rw [enumD_len] at hl; rw [r.len]; exact hl⟩, fun d e => ?_⟩
  obtain ⟨a, e1, rfl⟩ := enumD_get e
  obtain ⟨v, f1, rv⟩ := r.get e1
  refine ⟨⟨vs, v, g, f1⟩, fun y H'' hy => ?_⟩
  obtain ⟨T, y1, rfl, hT, rfl, k1⟩ := hy
  have z1 := k1 vs (g)
  rw [f1] at z1
  cases z1
  rw [show (0 : Int) + (i : Int) = (i : Int) by omega]
  exact new_pair s.2 (.int _) (rv.mono s.1) hT
theorem rngL_len (lo : Int) (n : Nat) : (rngL lo n).length = n := by
  induction n generalizing lo with
  | zero => rfl
  | succ n ih => simp [rngL, ih]
theorem rngL_get {lo : Int} {n i : Nat} {d : D} (h : (rngL lo n)[i]? = some d) : i < n ∧ d = .int (lo + i) := by
  induction n generalizing lo i with
  | zero => simp [rngL] at h
  | succ n ih =>
    cases i with
    | zero => have := Option.some.inj h; exact ⟨by omega, by rw [← this]; simp⟩
    | succ i =>
      obtain ⟨a, b⟩ := ih (lo := lo + 1) (i := i) (by simpa [rngL] using h)
      exact ⟨by omega, by rw [b]; congr 1; push_cast; omega⟩
theorem wk_rng {lo : Int} {n : Nat} : Wk K m Hf H (Itr lo n) (rngL lo n) := fun Hf' H' x i => by
  have s := cond_s1 x
  refine ⟨fun hl => by rw [rngL_len] at hl; exact hl, fun d e => ?_⟩
  obtain ⟨h1, rfl⟩ := rngL_get e
  refine ⟨h1, fun y H'' hy => ?_⟩
  obtain ⟨rfl, rfl⟩ := hy
  exact ⟨Hf', Ext.refl s.2, .int _⟩
theorem hd_of {P : Hp → Prop} (m : Bool) (h : ∀ H', Same Hf H' → P H') : Hd K m Hf H P := fun Hf' H' x => h H' ((cond_s1 x).1.trans (cond_s1 x).2)
theorem hd_ext {P : Hp → Prop} (h : ∀ H', Same H H' → P H') : Hd K true Hf H P := fun Hf' H' x => h H' x.s2
/-! ### for, in -/
theorem pi_eQ {tg l : Expr} {il : E} (h : PE X l (tE c xc W X.kw il m)) : PI X tg l (tI c xc W X.kw (.e il) m) := by
  refine ⟨fun pins s σ H R I hw => ?_⟩
  obtain ⟨ρ, Hf, sr, a⟩ := hw
  have a1 : After (evE c il m ρ >>= fun d => walked d) xc W σ Hf H _ := a
  cases e : evE c il m ρ with
  | ok d =>
    cases d with
    | list xs =>
      refine (pi_list h).run pins s σ H R I ⟨ρ, Hf, sr, ?_⟩
      rw [e] at a1 ⊢
      have a2 : After (_root_.Q.R.ok xs) xc W σ Hf H _ := a1
      intro H1f H1 x1 v rv
      cases m with
      | true =>
        obtain ⟨p, vs, rfl, h1, h2⟩ := rv.ra.list x1.sub
        exact ⟨p, rfl, ⟨vs, .inl h1⟩, a2 _ _ x1 _ (wk_list (hd_ext fun H' s => rd_mono s h1) x1.sub h2)⟩
      | false =>
        obtain ⟨Hg, y1, sg, rp⟩ := rv.rv.hold x1
        cases rp with
        | lst h1 h2 => exact ⟨_, rfl, ⟨_, .inl (rd_mono y1.sub h1)⟩, a2 _ _ y1 _ (wk_list (hd_of false fun H' s => rd_mono s h1) y1.sub h2)⟩
    | tuple xs =>
      refine (pi_tup h).run pins s σ H R I ⟨ρ, Hf, sr, ?_⟩
      rw [e] at a1 ⊢
      have a2 : After (_root_.Q.R.ok xs) xc W σ Hf H _ := a1
      intro H1f H1 x1 v rv
      have rp := rv.ra.rp rfl
      cases rp with
      | tup h1 h2 => exact ⟨_, rfl, ⟨_, sqT_mono x1.sub h1⟩, a2 _ _ x1 _ (wk_tup (hd_of m fun H' s => sqT_mono s h1) x1.sub h2)⟩
    | _ => rw [e] at a1; exact a1.elim
  | exc x =>
    refine (pi_list h).run pins s σ H R I ⟨ρ, Hf, sr, ?_⟩
    rw [e] at a1 ⊢
    exact a1
  | bad => rw [e] at a1; exact a1.elim
theorem pi_rng1Q {tg e : Expr} {ir : E} {p pos : Pos} (hg : Gl X "range") (hm : X.mg "range" = none) (hs : notStar e = true) (h : PE X e (tE c xc W X.kw ir true)) : PI X tg (.Call (.Name "range" p) [e] [] pos) (tI c xc W X.kw (.rng (.cons ir .nil)) m) := by
  refine ⟨fun pins s σ H R I hw => ?_⟩
  obtain ⟨ρ, Hf, sr, a⟩ := hw
  have a1 : After (evE c ir true ρ >>= fun d => rangeD [d]) xc W σ Hf H _ := a.of_eq (by
    simp only [evI, evEs]
    cases evE c ir true ρ <;> rfl)
  refine (pi_range1 hg hm (pa_cons h pa_nil (star_cons hs)) (by rw [star_cons hs]; rfl)).run pins s σ H R I ⟨ρ, Hf, sr, (After.bind a1).imp fun d H1f H1 x1 a2 v rv => ?_⟩
  unfold rangeD at a2
  split at a2
  · rename_i j e'
    cases e'
    have := rv.ra.int; subst this
    split at a2
    · rename_i hj
      simp only [small, Bool.and_eq_true, decide_eq_true_eq] at hj
      exact ⟨j, rfl, hj.1, hj.2, a2.ok x1.sub _ wk_rng⟩
    · exact a2.elim
  · rename_i e'; cases e'
  · rename_i e'; cases e'
  · exact a2.elim
theorem pi_rng2Q {tg e e2 : Expr} {ir ir2 : E} {p pos : Pos} (hg : Gl X "range") (hm : X.mg "range" = none) (hs : notStar e = true) (hs2 : notStar e2 = true) (h : PE X e (tE c xc W X.kw ir true)) (h2 : PE X e2 (tE c xc W X.kw ir2 true)) : PI X tg (.Call (.Name "range" p) [e, e2] [] pos) (tI c xc W X.kw (.rng (.cons ir (.cons ir2 .nil))) m) := by
  refine ⟨fun pins s σ H R I hw => ?_⟩
  obtain ⟨ρ, Hf, sr, a⟩ := hw
  have a1 : After (evE c ir true ρ >>= fun d => evE c ir2 true ρ >>= fun d' => rangeD [d, d']) xc W σ Hf H _ := a.of_eq (by
    simp only [evI, evEs]
    cases evE c ir true ρ with
    | ok x => cases evE c ir2 true ρ <;> rfl
    | exc x => rfl
    | bad => rfl)
  refine (pi_range2 hg hm (pa_cons h (pa_cons h2 pa_nil (star_cons hs2)) (star_cons hs)) (by rw [star_cons hs, star_cons hs2]; rfl) (by rw [star_cons hs2]; rfl)).run pins s σ H R I ⟨ρ, Hf, sr, (After.bind a1).imp fun d H1f H1 x1 a2 v rv => ⟨ρ, H1f, sr.ext x1, a2.bind.imp fun d' H2f H2 x2 a3 v' rv' => ?_⟩⟩
  unfold rangeD at a3
  split at a3
  · rename_i e'; cases e'
  · rename_i i j e'
    cases e'
    have := rv.ra.int; subst this
    have := rv'.ra.int; subst this
    split at a3
    · rename_i hj
      simp only [small, Bool.and_eq_true, decide_eq_true_eq] at hj
      exact ⟨i, j, rfl, ⟨hj.1.1, hj.1.2, hj.2.1, hj.2.2⟩, a3.ok x2.sub _ wk_rng⟩
    · exact a3.elim
  · rename_i e'; cases e'
  · exact a3.elim
theorem pi_zipQ {elts : List Expr} {kk : Nat} {tpos p pos : Pos} {e e2 : Expr} {ir ir2 : E} (hg : Gl X "zip") (hm : X.mg "zip" = none) (hs : notStar e = true) (hs2 : notStar e2 = true) (h : PE X e (tE c xc W X.kw ir m)) (h2 : PE X e2 (tE c xc W X.kw ir2 m)) : PI X (.Tuple elts kk tpos) (.Call (.Name "zip" p) [e, e2] [] pos) (tI c xc W X.kw (.zip (.cons ir (.cons ir2 .nil))) m) := by
  refine ⟨fun pins s σ H R I hw => ?_⟩
  obtain ⟨ρ, Hf, sr, a⟩ := hw
  have a1 : After (evE c ir m ρ >>= fun d => evE c ir2 m ρ >>= fun d' => zipD [d, d']) xc W σ Hf H _ := a.of_eq (by
    simp only [evI, evEs]
    cases evE c ir m ρ with
    | ok x => cases evE c ir2 m ρ <;> rfl
    | exc x => rfl
    | bad => rfl)
  refine (Q2.pi_zipB hg hm (pa_cons h (pa_cons h2 pa_nil (star_cons hs2)) (star_cons hs)) (star_cons hs) (by rw [star_cons hs2]; rfl)).run pins s σ H R I ⟨ρ, Hf, sr, (After.bind a1).imp' fun d H1f H1 x1 hk v rv => ?_⟩
  cases m with
  | true =>
    refine ⟨ρ, H1f, sr.ext x1, (hk H1f x1).bind.imp fun d' H2f H2 x2 a3 v' rv' => ?_⟩
    have ra := rv.ra.ext x2
    unfold zipD at a3
    split at a3
    · rename_i xs ys e'
      cases e'
      obtain ⟨p1, vs, rfl, h1, h1'⟩ := ra.list x2.sub
      obtain ⟨p2, ws, rfl, h2, h2'⟩ := rv'.ra.list x2.sub
      exact ⟨p1, p2, vs, ws, rfl, .inl ⟨.inl h1, .inl h2, a3.ok x2.sub _ (wk_zip (hd_ext fun H' s => ⟨rd_mono s h1, rd_mono s h2⟩) h1' h2')⟩⟩
    · rename_i xs ys e'
      cases e'
      obtain ⟨p1, vs, rfl, h1, _, h1'⟩ := ra.tuple x2.sub
      obtain ⟨p2, ws, rfl, h2, _, h2'⟩ := rv'.ra.tuple x2.sub
      exact ⟨p1, p2, vs, ws, rfl, .inr (.inl ⟨h1, h2, a3.ok x2.sub _ (wk_zipT (hd_ext fun H' s => ⟨sqT_mono s h1, sqT_mono s h2⟩) h1' h2')⟩)⟩
    · rename_i xs ys e'
      cases e'
      obtain ⟨p1, vs, rfl, h1, _, h1'⟩ := ra.tuple x2.sub
      obtain ⟨p2, ws, rfl, h2, h2'⟩ := rv'.ra.list x2.sub
      exact ⟨p1, p2, vs, ws, rfl, .inr (.inr ⟨h1, .inl h2, a3.ok x2.sub _ (wk_zipM (hd_ext fun H' s => ⟨sqT_mono s h1, .inl (rd_mono s h2)⟩) h1' h2')⟩)⟩
    · exact a3.elim
  | false =>
    obtain ⟨Hg, y1, sg, rp⟩ := rv.rv.hold x1
    refine ⟨ρ, Hg, sr.ext y1, (hk Hg y1).bind.imp' fun d' H2f H2 x2 hk2 v' rv' => ?_⟩
    obtain ⟨Hg2, y2, sg2, rp'⟩ := rv'.rv.hold x2
    have a3 := hk2 Hg2 y2
    have rp := rp.mono y2.s1
    unfold zipD at a3
    split at a3
    · rename_i xs ys e'
      cases e'
      cases rp with
      | lst h1 h1' =>
        cases rp' with
        | lst h2 h2' => exact ⟨_, _, _, _, rfl, .inl ⟨.inl (rd_mono y2.sub h1), .inl (rd_mono y2.sub h2), a3.ok y2.sub _ (wk_zip (hd_of false fun H' s => ⟨rd_mono s h1, rd_mono s h2⟩) h1' h2')⟩⟩
    · rename_i xs ys e'
      cases e'
      cases rp with
      | tup h1 h1' =>
        cases rp' with
        | tup h2 h2' => exact ⟨_, _, _, _, rfl, .inr (.inl ⟨sqT_mono y2.sub h1, sqT_mono y2.sub h2, a3.ok y2.sub _ (wk_zipT (hd_of false fun H' s => ⟨sqT_mono s h1, sqT_mono s h2⟩) h1' h2')⟩)⟩
    · rename_i xs ys e'
      cases e'
      cases rp with
      | tup h1 h1' =>
        cases rp' with
        | lst h2 h2' => exact ⟨_, _, _, _, rfl, .inr (.inr ⟨sqT_mono y2.sub h1, .inl (rd_mono y2.sub h2), a3.ok y2.sub _ (wk_zipM (hd_of false fun H' s => ⟨sqT_mono s h1, .inl (rd_mono s h2)⟩) h1' h2')⟩)⟩
    · exact a3.elim
theorem pi_enumQ {elts : List Expr} {kk : Nat} {tpos p pos : Pos} {e : Expr} {ir : E} (hg : Gl X "enumerate") (hm : X.mg "enumerate" = none) (hs : notStar e = true) (h : PE X e (tE c xc W X.kw ir m)) : PI X (.Tuple elts kk tpos) (.Call (.Name "enumerate" p) [e] [] pos) (tI c xc W X.kw (.enum ir) m) := by
  refine ⟨fun pins s σ H R I hw => ?_⟩
  obtain ⟨ρ, Hf, sr, a⟩ := hw
  refine (pi_enum2 hg hm (pa_cons h pa_nil (star_cons hs)) (star_cons hs)).run pins s σ H R I ⟨ρ, Hf, sr, (After.bind (f := fun d => enumOf d) a).imp' fun d H1f H1 x1 hk v rv => ?_⟩
  cases m with
  | true =>
    have a2 := hk H1f x1
    unfold enumOf at a2
    split at a2
    · obtain ⟨p1, vs, rfl, h1, h1'⟩ := rv.ra.list x1.sub
      exact ⟨p1, rfl, .inl ⟨vs, .inl h1, a2.ok x1.sub _ (wk_enum (hd_ext fun H' s => rd_mono s h1) h1')⟩⟩
    · obtain ⟨p1, vs, rfl, h1, h2, h1'⟩ := rv.ra.tuple x1.sub
      exact ⟨p1, rfl, .inr ⟨vs, h1, a2.ok x1.sub _ (wk_enumT (hd_ext fun H' s => sqT_mono s h1) h1')⟩⟩
    · exact a2.elim
  | false =>
    obtain ⟨Hg, y1, sg, rp⟩ := rv.rv.hold x1
    have a2 := hk Hg y1
    unfold enumOf at a2
    split at a2
    · cases rp with
      | lst h1 h1' => exact ⟨_, rfl, .inl ⟨_, .inl (rd_mono y1.sub h1), a2.ok y1.sub _ (wk_enum (hd_of false fun H' s => rd_mono s h1) h1')⟩⟩
    · cases rp with
      | tup h1 h1' => exact ⟨_, rfl, .inr ⟨_, sqT_mono y1.sub h1, a2.ok y1.sub _ (wk_enumT (hd_of false fun H' s => sqT_mono s h1) h1')⟩⟩
    · exact a2.elim
end
end Q
set_option Elab.async false
set_option linter.all false
set_option maxRecDepth 100000
/-! Comprehensions and calls. -/
namespace Q
open PySem PySem.W PySem.Spec L2
open PyProof.Rows hiding St

/-! ### the frame without one thing -/
noncomputable section
open Classical in
def del (H : Hp) (D : Addr) : Hp := fun a => if a = D then none else H a
end
section
variable {K : Frag} {Hf H Hf' H' H0 Hf0 : Hp} {D : Addr} {o : HO}
theorem del_ne {a : Addr} (h : a ≠ D) : del H D a = H a := if_neg h
theorem del_same : del H D D = none := if_pos rfl
theorem del_some {a : Addr} {x : HO} (h : del H D a = some x) : a ≠ D ∧ H a = some x := by
  by_cases e : a = D
  · subst e; rw [del_same] at h; cases h
  · rw [del_ne e] at h; exact ⟨e, h⟩
theorem del_upd : del (upd H D o) D = del H D := by
  funext a
  by_cases e : a = D
  · subst e; rw [del_same, del_same]
  · rw [del_ne e, del_ne e, upd_ne e]
theorem del_none (h : H D = none) : del H D = H := by
  funext a
  by_cases e : a = D
  · subst e; rw [del_same, h]
  · rw [del_ne e]
theorem Ext.cut (x : Ext Hf H Hf' H') (h : H D = some o) (ho : ownO o = true) (hf : Hf D = none) : Ext Hf (del H D) Hf' (_root_.Q.del H' D) ∧ Hf' D = none := by
  have hf' := x.hid D o h ho hf
  refine ⟨⟨x.s1, fun a u e => ?_, fun a u e => ?_, fun a u e ho' e2 => ?_⟩, hf'⟩
  · obtain ⟨a1, a2⟩ := del_some e
    rw [del_ne a1]; exact x.s2 _ _ a2
  · have : a ≠ D := fun e' => by subst e'; rw [hf'] at e; cases e
    rw [del_ne this]; exact x.sub _ _ e
  · exact x.hid a u (del_some e).2 ho' e2
/-- with the thing, which is new -/
theorem Ext.undel (x : Ext Hf H Hf' (del H' D)) : Ext Hf H Hf' H' :=
  ⟨x.s1, fun a u e => (del_some (x.s2 _ _ e)).2, fun a u e => (del_some (x.sub _ _ e)).2, x.hid⟩
end
/-! ### comprehensions -/
theorem lwipe_len (σ : L2.St) (l : List Nat) : (L2.wipe σ l).length = σ.length := by
  induction l with
  | nil => rfl
  | cons i l ih => show ((L2.wipe σ l).set i none).length = _; rw [List.length_set, ih]
theorem lwipe_off (σ : L2.St) (l : List Nat) {i : Nat} (h : i ∉ l) : (L2.wipe σ l)[i]? = σ[i]? := by
  induction l with
  | nil => rfl
  | cons j l ih =>
    rw [List.mem_cons, not_or] at h
    show ((L2.wipe σ l).set j none)[i]? = _
    rw [List.getElem?_set_ne (Ne.symm h.1), ih h.2]
theorem lwipe_on (σ : L2.St) (l : List Nat) {i : Nat} (h : i ∈ l) : (L2.wipe σ l)[i]? = if i < σ.length then some none else none := by
  induction l with
  | nil => exact absurd h List.not_mem_nil
  | cons j l ih =>
    show ((L2.wipe σ l).set j none)[i]? = _
    by_cases e : j = i
    · subst e
      rw [List.getElem?_set]
      simp [lwipe_len]
    · rw [List.getElem?_set_ne e, ih ((List.mem_cons.mp h).resolve_left (Ne.symm e))]
theorem qwipe_off (ρ : Env) (l : List Nat) {i : Nat} (h : i ∉ l) : slot (wipe ρ l) i = slot ρ i := by
  induction l generalizing ρ with
  | nil => rfl
  | cons j l ih =>
    rw [List.mem_cons, not_or] at h
    rw [wipe, ih _ h.2, slot_put, if_neg fun e => h.1 e.1.symm]
theorem qwipe_on (ρ : Env) (l : List Nat) {i : Nat} (h : i ∈ l ∨ slot ρ i = none) : slot (wipe ρ l) i = none := by
  induction l generalizing ρ with
  | nil => exact h.resolve_left List.not_mem_nil
  | cons j l ih =>
    rw [wipe]
    apply ih
    by_cases e : j = i
    · right
      subst e
      rw [slot_put]
      by_cases hl : j < ρ.length
      · rw [if_pos ⟨rfl, hl⟩]
      · rw [if_neg fun e => hl e.2]
        cases q : slot ρ j with
        | none => rfl
        | some x => exact absurd (slot_lt q) hl
    · rcases h with h | h
      · exact .inl ((List.mem_cons.mp h).resolve_left (Ne.symm e))
      · right
        rw [slot_put, if_neg fun e' => e e'.1, h]
theorem SR.wipe2 {K : Frag} {Hf H : Hp} {σ : L2.St} {ρ : Env} (s : SR K Hf H σ ρ) (l : List Nat) : SR K Hf H (L2.wipe σ l) (_root_.Q.wipe ρ l) := by
  refine s.less (by rw [lwipe_len, wipe_len]; exact s.len) fun i x e => ?_
  by_cases h : i ∈ l
  · rw [qwipe_on ρ l (.inl h)] at e; cases e
  · rw [qwipe_off ρ l h] at e
    exact ⟨e, lwipe_off σ l h⟩
theorem wipe_same {σ σ' : L2.St} {l l' : List Nat} (hl : σ'.length = σ.length) (h : ∀ i, i ∉ l → σ'[i]? = σ[i]?) : L2.wipe σ' l = L2.wipe σ l := by
  apply List.ext_getElem?
  intro i
  by_cases e : i ∈ l
  · rw [lwipe_on σ' l e, lwipe_on σ l e, hl]
  · rw [lwipe_off σ' l e, lwipe_off σ l e, h i e]
theorem wipe_wipe {σ : L2.St} {l l' : List Nat} (h : ∀ i, i ∈ l' → i ∈ l) : L2.wipe (L2.wipe σ l') l = L2.wipe σ l :=
  wipe_same (l' := l') (lwipe_len _ _) fun i hi => lwipe_off _ _ fun e => hi (h i e)
/-- a test that may be missing -/
def tTo (c : Ctx) (xc : Nat → Value) (W : WX) (K : Frag) (t : Option T) : TT := fun σ H Q => ∃ ρ Hf, SR K Hf H σ ρ ∧ After (evTo c t ρ) xc W σ Hf H fun b Hf' H' => Q b H'
theorem impTs {X : Cx} {e : List Expr} {t t' : TT} (h : PTs X e t) (g : ∀ σ H Q, t' σ H Q → t σ H Q) : PTs X e t' := ⟨fun pins s σ H Q I hw => h.run pins s σ H Q I (g σ H Q hw)⟩
section
variable {X : Cx} {c : Ctx} {xc : Nat → Value} {W : WX} {K : Frag} {m : Bool} {Hf H Hf' H' : Hp}
theorem pts_nQ : PTs X [] (tTo c xc W X.kw none) := impTs pts_nil fun σ H Q h => by
  obtain ⟨ρ, Hf, s, a⟩ := h
  exact a _ _ (Ext.refl s.sub)
theorem pts_oQ {e : Expr} {t : T} (h : PT X e (tT c xc W X.kw t)) : PTs X [e] (tTo c xc W X.kw (some t)) := impTs (pts_one h) fun σ H Q h => by
  obtain ⟨ρ, Hf, s, a⟩ := h
  exact ⟨ρ, Hf, s, a⟩
theorem quiet_ok {α : Type} {x : R α} {a : α} (h : quiet x = .ok a) : x = .ok a := by
  cases x with
  | ok b => exact h
  | exc c => cases h
  | bad => cases h
theorem quiet_exc {α : Type} {x : R α} {e : Nat} : quiet x ≠ .exc e := by
  cases x <;> (intro h; cases h)
theorem compM_exc {α β : Type} {f : α → R (Option β)} {e : Nat} : ∀ l, compM f l ≠ .exc e
  | [] => fun h => nomatch h
  | x :: xs => fun h => by
    rw [compM] at h
    cases q : quiet (f x) with
    | ok o =>
      rw [q] at h
      cases q2 : compM f xs with
      | ok r => exact nomatch (show R.ok _ = R.exc e from by rw [q2] at h; exact h)
      | exc y => exact compM_exc xs (by rw [q2] at h; cases h; exact q2)
      | bad => exact nomatch (show R.bad = R.exc e from by rw [q2] at h; exact h)
    | exc y => exact quiet_exc q
    | bad => exact nomatch (show R.bad = R.exc e from by rw [q] at h; exact h)
abbrev W0 : WX := fun _ _ _ _ => False
theorem after_eq {α : Type} {r : R α} {a : α} {σ : L2.St} {k : α → Hp → Hp → Prop} (e : r = .ok a) (h : ∀ Hf' H', Ext Hf H Hf' H' → k a Hf' H') : After r xc W σ Hf H k := by
  rw [e]; exact h
/-- an element's step in a comprehension -/
def cStep (c : Ctx) (tg : Tg) (t : Option T) (elt : E) (ρ : Env) : D → R (Option D) := fun d => tg.bind d (wipe ρ tg.slots) >>= fun ρ' => evTo c t ρ' >>= fun k => if k then evE c elt false ρ' >>= fun y => .ok (some y) else .ok none
theorem cStep_inv {tg : Tg} {t : Option T} {elt : E} {ρ : Env} {d : D} {o : Option D} (h : cStep c tg t elt ρ d = .ok o) : ∃ ρ', tg.bind d (wipe ρ tg.slots) = .ok ρ' ∧ ((evTo c t ρ' = .ok false ∧ o = none) ∨ ∃ y, evTo c t ρ' = .ok true ∧ evE c elt false ρ' = .ok y ∧ o = some y) := by
  obtain ⟨ρ', h1, h2⟩ := bind_ok h
  obtain ⟨k, h3, h4⟩ := bind_ok h2
  refine ⟨ρ', h1, ?_⟩
  cases k with
  | true =>
    obtain ⟨y, h5, h6⟩ := bind_ok h4
    cases h6
    exact .inr ⟨y, h3, h5, rfl⟩
  | false => cases h4; exact .inl ⟨h3, rfl⟩
theorem compM_cons {α β : Type} {f : α → R (Option β)} {x : α} {xs : List α} {ys : List β} (h : compM f (x :: xs) = .ok ys) : ∃ o r, f x = .ok o ∧ compM f xs = .ok r ∧ ys = (match o with | some y => y :: r | none => r) := by
  rw [compM] at h
  obtain ⟨o, h1, h2⟩ := bind_ok h
  obtain ⟨r, h3, h4⟩ := bind_ok h2
  exact ⟨o, r, quiet_ok h1, h3, by cases h4; rfl⟩
/-- where a comprehension stands -/
def CInv (K : Frag) (H1f H1 : Hp) (f : D → R (Option D)) (ds ys : List D) (D : Addr) (i m : Nat) (H' : Hp) : Prop :=
  ∃ Hf' acc yd rest, m = ds.length - i ∧ i ≤ ds.length ∧ Ext H1f H1 Hf' (del H' D) ∧ Hf' D = none ∧ H' D = some (.lst acc) ∧ RpAll K Hf' acc yd ∧ compM f (ds.drop i) = .ok rest ∧ ys = yd ++ rest
theorem comp_run {tg : Tg} {t : Option T} {elt : E} {g : TG} {tt : TT} {te : TE} {σ : L2.St} {ρ : Env} {H1f H1 Hs : Hp} {ds ys yd0 : List D} {acc0 : List V} {J : It} {QQ : Hp → Prop} {vs : List Nat} (hv : vs = tg.slots) (hg : g = gT K tg) (htt : tt = tTo c xc W0 K t) (hte : te = tE c xc W0 K elt false)
    (s : SR K H1f H1 σ ρ) (wk : Wk K true H1f H1 J ds) (e : compM (cStep c tg t elt ρ) ds = .ok ys) (hy : (yd0 ++ ys).length ≤ LIM) (D : Addr) (hD : H1 D = none) (eS : del Hs D = H1) (hS : Hs D = some (.lst acc0)) (rp0 : RpAll K H1f acc0 yd0)
    (q : ∀ Hf' H', Ext H1f H1 Hf' (del H' D) → Hf' D = none → (∃ acc, H' D = some (.lst acc) ∧ RpAll K Hf' acc (yd0 ++ ys)) → QQ H') :
    ∃ W : Nat → Nat → Hp → Prop, (∃ m, W 0 m Hs) ∧ ∀ (i m : Nat) (H : Hp), W i m H → J.stop i H ∧ QQ H ∨ J.go i H ∧ ∃ Nx : Hp → Prop, (∀ (H' : Hp), Nx H' → ∃ m', m' < m ∧ W (i + 1) m' H') ∧
      ∀ (x : V) (H' : Hp), J.yld i H x H' → g x (L2.wipe σ vs) H' fun σ2 H2 => L2.wipe σ2 vs = L2.wipe σ vs ∧ tt σ2 H2 fun b H3 => if b = true then te σ2 H3 fun y H4 => ∃ acc, H4 D = some (HO.lst acc) ∧ acc.length < sizeLine ∧ Nx (upd H4 D (HO.lst (acc ++ [y]))) else Nx H3 := by
  subst hv hg htt hte
  refine ⟨CInv K H1f H1 (cStep c tg t elt ρ) ds (yd0 ++ ys) D, ⟨ds.length, H1f, acc0, yd0, ys, rfl, Nat.zero_le _, ?_, none_sub s.sub hD, hS, rp0, e, rfl⟩, fun i m H hW => ?_⟩
  · rw [eS]; exact Ext.refl s.sub
  obtain ⟨Hf', acc, yd, rest, em, hi, x, hfD, hHD, rp, ec, ey⟩ := hW
  have xu : Ext H1f H1 Hf' H := x.undel
  obtain ⟨w1, w2⟩ := wk Hf' H xu i
  by_cases hlt : i < ds.length
  · right
    obtain ⟨d, ed⟩ : ∃ d, ds[i]? = some d := ⟨ds[i], List.getElem?_eq_getElem hlt⟩
    obtain ⟨g1, g2⟩ := w2 d ed
    have edrop : ds.drop i = d :: ds.drop (i + 1) := by
      rw [List.getElem?_eq_getElem hlt] at ed
      cases ed
      exact List.drop_eq_getElem_cons hlt
    rw [edrop] at ec
    obtain ⟨o, r, c1, c2, c3⟩ := compM_cons ec
    obtain ⟨ρ', b1, b2⟩ := cStep_inv c1
    refine ⟨g1, fun H' => ∃ m', m' < m ∧ CInv K H1f H1 (cStep c tg t elt ρ) ds (yd0 ++ ys) D (i + 1) m' H', fun H' h => h, fun v H'' hyl => ?_⟩
    obtain ⟨Hf2, x2, rv⟩ := g2 v H'' hyl
    refine ⟨_, Hf2, d, ρ', (s.ext (xu.trans x2)).wipe2 tg.slots, rv, b1, fun σ2 s2 bd => ⟨?_, ρ', Hf2, s2, ?_⟩⟩
    · rw [wipe_same (l' := []) (σ := L2.wipe σ tg.slots) bd.len fun j hj => (bd.off j hj).1]
      exact wipe_wipe fun _ h => h
    have hD'' : H'' D = some (.lst acc) := x2.s2 _ _ hHD
    rcases b2 with ⟨b2, rfl⟩ | ⟨y, b2, b3, rfl⟩
    · refine after_eq b2 fun Hf3 H3 x3 => ?_
      dsimp only
      rw [if_neg Bool.false_ne_true]
      obtain ⟨xd, hf3⟩ := (x2.trans x3).cut hHD rfl hfD
      exact ⟨ds.length - (i + 1), by omega, Hf3, acc, yd, rest, rfl, hlt, x.trans xd, hf3, x3.s2 _ _ hD'', rp.mono (x2.s1.trans x3.s1), by rw [c3]; exact c2, ey⟩
    · refine after_eq b2 fun Hf3 H3 x3 => ?_
      dsimp only
      rw [if_pos rfl]
      refine ⟨ρ', Hf3, s2.ext x3, after_eq b3 fun Hf4 H4 x4 w rw' => ?_⟩
      obtain ⟨Hg, y1, sg, rp'⟩ := rw'.rv.hold x4
      have hD4 : H4 D = some (.lst acc) := x4.s2 _ _ (x3.s2 _ _ hD'')
      have xt := (x2.trans x3).trans y1
      obtain ⟨xd, hf3⟩ := xt.cut hHD rfl hfD
      refine ⟨acc, hD4, ?_, ds.length - (i + 1), by omega, Hg, acc ++ [w], yd ++ [y], r, rfl, hlt, ?_, hf3, upd_same, (rp.mono xt.s1).app (.cons rp' .nil), c2, ?_⟩
      · rw [rp.len, ← LIM_eq]
        have : (yd0 ++ ys).length = yd.length + (r.length + 1) := by rw [ey, c3, List.length_append, List.length_cons]
        omega
      · rw [del_upd]; exact x.trans xd
      · rw [ey, c3, List.append_assoc]; rfl
  · left
    have hi' : i = ds.length := by omega
    refine ⟨w1 (by omega), q Hf' H x hfD ⟨acc, hHD, ?_⟩⟩
    rw [hi', List.drop_length] at ec
    cases ec
    rw [ey, List.append_nil]
    exact rp
theorem comp_read {elt : E} {ig : Tg} {it : I} {ic : Option T} {vs : List Nat} {σ : L2.St} {Q : VK} (hv : vs = ig.slots) (h : tE c xc W K (.comp elt ig it ic) m σ H Q) : tLc (tI c xc W K it true) (gT K ig) (tTo c xc W0 K ic) (tE c xc W0 K elt false) vs σ H Q := by
    obtain ⟨ρ, Hf, s, a⟩ := h
    refine ⟨ρ, Hf, s, (After.bind (f := fun xs => compM (cStep c ig ic elt ρ) xs >>= fun ys => if ys.length ≤ LIM then _root_.Q.R.ok (PyData.list ys) else _root_.Q.R.bad) a).imp fun ds H1f H1 x1 a2 J wk D hD => ?_⟩
    cases e : compM (cStep c ig ic elt ρ) ds with
    | ok ys =>
      rw [e] at a2
      have a3 : After (if ys.length ≤ LIM then _root_.Q.R.ok (PyData.list ys) else _root_.Q.R.bad) xc W σ H1f H1 _ := a2
      split at a3
      · rename_i hl
        refine comp_run (yd0 := []) (acc0 := []) hv rfl rfl rfl (s.ext x1) wk e hl D hD (by rw [del_upd, del_none hD]) upd_same .nil fun Hf2 H2 x2 hf2 h2 => ?_
        obtain ⟨acc, h3, h4⟩ := h2
        exact a3 _ _ x2.undel _ (RM.of_rn (by unfold RN; exact ⟨D, _, rfl, none_sub x1.s2 hD, hf2, h3, .lst h4⟩))
      · exact a3.elim
    | exc y => exact absurd e (compM_exc _)
    | bad => rw [e] at a2; exact a2.elim
/-! two sources -/
def cStep2 (c : Ctx) (tg : Tg) (t : Option T) (tg' : Tg) (it' : I) (t' : Option T) (elt : E) (ρ : Env) : D → R (List D) := fun d => tg.bind d (wipe ρ (tg.slots ++ tg'.slots)) >>= fun ρ' => evTo c t ρ' >>= fun k => if k then evI c it' false ρ' >>= fun xs' => compM (cStep c tg' t' elt ρ') xs' else .ok []
theorem compM2_exc {α β : Type} {f : α → R (List β)} {e : Nat} : ∀ l, compM2 f l ≠ .exc e
  | [] => fun h => nomatch h
  | x :: xs => fun h => by
    rw [compM2] at h
    cases q : quiet (f x) with
    | ok o =>
      rw [q] at h
      cases q2 : compM2 f xs with
      | ok r => exact nomatch (show R.ok _ = R.exc e from by rw [q2] at h; exact h)
      | exc y => exact compM2_exc xs (by rw [q2] at h; cases h; exact q2)
      | bad => exact nomatch (show R.bad = R.exc e from by rw [q2] at h; exact h)
    | exc y => exact quiet_exc q
    | bad => exact nomatch (show R.bad = R.exc e from by rw [q] at h; exact h)
theorem compM2_cons {α β : Type} {f : α → R (List β)} {x : α} {xs : List α} {ys : List β} (h : compM2 f (x :: xs) = .ok ys) : ∃ o r, f x = .ok o ∧ compM2 f xs = .ok r ∧ ys = o ++ r := by
  rw [compM2] at h
  obtain ⟨o, h1, h2⟩ := bind_ok h
  obtain ⟨r, h3, h4⟩ := bind_ok h2
  exact ⟨o, r, quiet_ok h1, h3, by cases h4; rfl⟩
theorem cStep2_inv {tg tg' : Tg} {t t' : Option T} {it' : I} {elt : E} {ρ : Env} {d : D} {o : List D} (h : cStep2 c tg t tg' it' t' elt ρ d = .ok o) : ∃ ρ', tg.bind d (wipe ρ (tg.slots ++ tg'.slots)) = .ok ρ' ∧ ((evTo c t ρ' = .ok false ∧ o = []) ∨ ∃ xs, evTo c t ρ' = .ok true ∧ evI c it' false ρ' = .ok xs ∧ compM (cStep c tg' t' elt ρ') xs = .ok o) := by
  obtain ⟨ρ', h1, h2⟩ := bind_ok h
  obtain ⟨k, h3, h4⟩ := bind_ok h2
  refine ⟨ρ', h1, ?_⟩
  cases k with
  | true =>
    obtain ⟨y, h5, h6⟩ := bind_ok h4
    exact .inr ⟨y, h3, h5, h6⟩
  | false => cases h4; exact .inl ⟨h3, rfl⟩
theorem SR.undel {σ : L2.St} {ρ : Env} {D : Addr} (s : SR K Hf (del H D) σ ρ) : SR K Hf H σ ρ := by
  refine ⟨s.len, fun a u e => (del_some (s.sub _ _ e)).2, fun i d o e n2 => ?_, s.sep⟩
  obtain ⟨v, h1, h2⟩ := s.at_ i d o e n2
  refine ⟨v, h1, ?_⟩
  split
  · rename_i h0; rw [if_pos h0] at h2; exact h2
  · rename_i h0
    rw [if_neg h0] at h2
    obtain ⟨p, ob, e1, e2, e3, q⟩ := h2
    exact ⟨p, ob, e1, e2, (del_some e3).2, q⟩
theorem SR.del {σ : L2.St} {ρ : Env} {D : Addr} (s : SR K Hf H σ ρ) (hf : Hf D = none) (h : ∀ i d o, slot ρ i = some (d, o) → o ≠ 0 → o ≠ 2 → σ[i]? ≠ some (some (.ref D))) : SR K Hf (_root_.Q.del H D) σ ρ := by
  refine ⟨s.len, fun a u e => ?_, fun i d o e n2 => ?_, s.sep⟩
  · have : a ≠ D := fun e' => by subst e'; rw [hf] at e; cases e
    rw [del_ne this]; exact s.sub _ _ e
  · obtain ⟨v, h1, h2⟩ := s.at_ i d o e n2
    refine ⟨v, h1, ?_⟩
    split
    · rename_i h0; rw [if_pos h0] at h2; exact h2
    · rename_i h0
      rw [if_neg h0] at h2
      obtain ⟨p, ob, rfl, e2, e3, q⟩ := h2
      have : p ≠ D := fun e' => by subst e'; exact h i d o e h0 n2 h1
      exact ⟨p, ob, rfl, e2, by rw [del_ne this]; exact e3, q⟩
def CInv2 (K : Frag) (H1f H1 : Hp) (f : D → R (List D)) (ds ys : List D) (D : Addr) (i m : Nat) (H' : Hp) : Prop :=
  ∃ Hf' acc yd rest, m = ds.length - i ∧ i ≤ ds.length ∧ Ext H1f H1 Hf' (del H' D) ∧ Hf' D = none ∧ H' D = some (.lst acc) ∧ RpAll K Hf' acc yd ∧ compM2 f (ds.drop i) = .ok rest ∧ ys = yd ++ rest
theorem comp2_read {elt : E} {ig ig' : Tg} {it it' : I} {ic ic' : Option T} {vs vs1 : List Nat} {σ : L2.St} {Q : VK} (hv : vs = ig.slots ++ ig'.slots) (hv1 : vs1 = ig'.slots) (h : tE c xc W K (.comp2 elt ig it ic ig' it' ic') m σ H Q) : tLc2 (tI c xc W K it true) (gT K ig) (tTo c xc W0 K ic) (tI c xc W0 K it' false) (gT K ig') (tTo c xc W0 K ic') (tE c xc W0 K elt false) vs vs1 σ H Q := by
  obtain ⟨ρ, Hf, s, a⟩ := h
  refine ⟨ρ, Hf, s, (After.bind (f := fun xs => compM2 (cStep2 c ig ic ig' it' ic' elt ρ) xs >>= fun ys => if ys.length ≤ LIM then _root_.Q.R.ok (PyData.list ys) else _root_.Q.R.bad) a).imp fun ds H1f H1 x1 a2 J wk D hD => ?_⟩
  cases e : compM2 (cStep2 c ig ic ig' it' ic' elt ρ) ds with
  | exc y => exact absurd e (compM2_exc _)
  | bad => rw [e] at a2; exact a2.elim
  | ok ys =>
    rw [e] at a2
    have a3 : After (if ys.length ≤ LIM then _root_.Q.R.ok (PyData.list ys) else _root_.Q.R.bad) xc W σ H1f H1 _ := a2
    split at a3
    · rename_i hl
      have s1 := s.ext x1
      refine ⟨CInv2 K H1f H1 (cStep2 c ig ic ig' it' ic' elt ρ) ds ys D, ⟨ds.length, H1f, [], [], ys, rfl, Nat.zero_le _, by rw [del_upd, del_none hD]; exact Ext.refl x1.sub, none_sub x1.sub hD, upd_same, .nil, e, rfl⟩, fun i m H hW => ?_⟩
      obtain ⟨Hf', acc, yd, rest, em, hi, x, hfD, hHD, rp, ec, ey⟩ := hW
      have xu : Ext H1f H1 Hf' H := x.undel
      obtain ⟨w1, w2⟩ := wk Hf' H xu i
      by_cases hlt : i < ds.length
      · right
        obtain ⟨d, ed⟩ : ∃ d, ds[i]? = some d := ⟨ds[i], List.getElem?_eq_getElem hlt⟩
        obtain ⟨g1, g2⟩ := w2 d ed
        have edrop : ds.drop i = d :: ds.drop (i + 1) := by
          rw [List.getElem?_eq_getElem hlt] at ed
          cases ed
          exact List.drop_eq_getElem_cons hlt
        rw [edrop] at ec
        obtain ⟨o, r, c1, c2, c3⟩ := compM2_cons ec
        obtain ⟨ρ', b1, b2⟩ := cStep2_inv c1
        refine ⟨g1, fun H' => ∃ m', m' < m ∧ CInv2 K H1f H1 (cStep2 c ig ic ig' it' ic' elt ρ) ds ys D (i + 1) m' H', fun H' h => h, fun v H'' hyl => ?_⟩
        obtain ⟨Hf2, x2, rv⟩ := g2 v H'' hyl
        rw [hv]
        refine ⟨_, Hf2, d, ρ', (s1.ext (xu.trans x2)).wipe2 (ig.slots ++ ig'.slots), rv, b1, fun σ2 s2 bd => ⟨?_, ρ', Hf2, s2, ?_⟩⟩
        · rw [wipe_same (l' := []) (σ := L2.wipe σ (ig.slots ++ ig'.slots)) bd.len fun j hj => (bd.off j fun h => hj (List.mem_append_left _ h)).1]
          exact wipe_wipe fun _ h => h
        have hD'' : H'' D = some (.lst acc) := x2.s2 _ _ hHD
        have hnoD : ∀ i d o, slot ρ' i = some (d, o) → o ≠ 0 → o ≠ 2 → σ2[i]? ≠ some (some (.ref D)) := fun j dj oj ej hj nj hjD => by
          by_cases hs : j ∈ ig.slots
          · exact hj (bd.on j hs dj oj ej)
          · obtain ⟨q1, q2⟩ := bd.off j hs
            rw [q2] at ej
            rw [q1] at hjD
            by_cases hs' : j ∈ ig.slots ++ ig'.slots
            · rw [qwipe_on ρ _ (.inl hs')] at ej; cases ej
            · rw [qwipe_off ρ _ hs'] at ej
              rw [lwipe_off σ _ hs'] at hjD
              obtain ⟨v', z1, z2⟩ := s1.at_ j dj oj ej nj
              rw [if_neg hj] at z2
              obtain ⟨p, ob, rfl, _, z3, _⟩ := z2
              rw [hjD] at z1
              cases z1
              rw [hD] at z3
              cases z3
        rcases b2 with ⟨b2, rfl⟩ | ⟨xs, b2, b3, b4⟩
        · refine after_eq b2 fun Hf3 H3 x3 => ?_
          dsimp only
          rw [if_neg Bool.false_ne_true]
          obtain ⟨xd, hf3⟩ := (x2.trans x3).cut hHD rfl hfD
          exact ⟨ds.length - (i + 1), by omega, Hf3, acc, yd, rest, rfl, hlt, x.trans xd, hf3, x3.s2 _ _ hD'', rp.mono (x2.s1.trans x3.s1), by rw [c3]; exact c2, ey⟩
        · refine after_eq b2 fun Hf3 H3 x3 => ?_
          dsimp only
          rw [if_pos rfl]
          refine ⟨ρ', Hf3, s2.ext x3, after_eq b3 fun Hf4 H4 x4 J1 wk1 => ?_⟩
          have xt := (x2.trans x3).trans x4
          obtain ⟨xd, hf4⟩ := xt.cut hHD rfl hfD
          have hD4 : H4 D = some (.lst acc) := x4.s2 _ _ (x3.s2 _ _ hD'')
          have s4 : SR K Hf4 (del H4 D) σ2 ρ' := (s2.ext (x3.trans x4)).del hf4 hnoD
          have wk1' : Wk K true Hf4 (del H4 D) J1 xs := fun A B y => wk1 A B ⟨y.s1, y.sub⟩
          refine comp_run (yd0 := yd) (acc0 := acc) hv1 rfl rfl rfl s4 wk1' b4 ?_ D del_same rfl hD4 (rp.mono xt.s1) fun Hf5 H5 x5 hf5 h5 => ?_
          · rw [ey, c3, List.length_append, List.length_append] at hl
            rw [List.length_append]
            omega
          · obtain ⟨acc', h6, h7⟩ := h5
            exact ⟨ds.length - (i + 1), by omega, Hf5, acc', yd ++ o, r, rfl, hlt, (x.trans xd).trans x5, hf5, h6, h7, c2, by rw [ey, c3, List.append_assoc]⟩
      · left
        have hi' : i = ds.length := by omega
        refine ⟨w1 (by omega), ?_⟩
        rw [hi', List.drop_length] at ec
        cases ec
        rw [List.append_nil] at ey
        subst ey
        exact a3 _ _ xu _ (RM.of_rn (by unfold RN; exact ⟨D, _, rfl, none_sub x1.s2 hD, hfD, hHD, .lst rp⟩))
    · exact a3.elim
theorem pe_comp2Q {elt tg iter tg1 iter1 : Expr} {ifs ifs1 : List Expr} {scope : Scope} {own : List (Str × Nat)} {pos : Pos} {ie : E} {ig ig' : Tg} {it it' : I} {ic ic' : Option T} (hc : X.calm = true) (hN : X.N.Nodup) (hi : PI X tg iter (tI c xc W X.kw it true)) (ok : BlkOk X.N X.env.scope scope own) (hv : own.map (fun x => x.snd) = ig.slots ++ ig'.slots)
    (hg : ∀ s H C cl fp, PG (X.blk s H scope (compEnvC scope cl C X.env) fp) tg (gT X.kw ig)) (ht : ∀ s H C cl fp, PTs (X.blk s H scope (compEnvC scope cl C X.env) fp) ifs (tTo c xc W0 X.kw ic)) (hi1 : ∀ s H C cl fp, PI (X.blk s H scope (compEnvC scope cl C X.env) fp) tg1 iter1 (tI c xc W0 X.kw it' false))
    (hg1 : ∀ s H C cl fp, PG (X.blk s H scope (compEnvC scope cl C X.env) fp) tg1 (gT X.kw ig')) (ht1 : ∀ s H C cl fp, PTs (X.blk s H scope (compEnvC scope cl C X.env) fp) ifs1 (tTo c xc W0 X.kw ic')) (he : ∀ s H C cl fp, PE (X.blk s H scope (compEnvC scope cl C X.env) fp) elt (tE c xc W0 X.kw ie false)) (hf : ∀ x : Value, foldedSetIterable iter X.env x = pure x) (hf1 : ∀ (env : PySem.Env) (x : Value), foldedSetIterable iter1 env x = pure x) :
    PE X (.ListComp elt [{ target := tg, iter := iter, ifs := ifs, is_async := 0 }, { target := tg1, iter := iter1, ifs := ifs1, is_async := 0 }] scope pos) (tE c xc W X.kw (.comp2 ie ig it ic ig' it' ic') m) :=
  impE (pe_lc2 hc hN hi ok (vs1 := ig'.slots) (fun i h => by rw [hv]; exact List.mem_append_right _ h) hg ht hi1 hg1 ht1 he hf hf1) fun σ H Q h => comp2_read hv rfl h
theorem pe_compQ {elt tg iter : Expr} {ifs : List Expr} {scope : Scope} {own : List (Str × Nat)} {pos : Pos} {ie : E} {ig : Tg} {it : I} {ic : Option T} (hc : X.calm = true) (hN : X.N.Nodup) (hi : PI X tg iter (tI c xc W X.kw it true)) (ok : BlkOk X.N X.env.scope scope own) (hv : own.map (fun x => x.snd) = ig.slots)
    (hg : ∀ s H C cl fp, PG (X.blk s H scope (compEnvC scope cl C X.env) fp) tg (gT X.kw ig)) (ht : ∀ s H C cl fp, PTs (X.blk s H scope (compEnvC scope cl C X.env) fp) ifs (tTo c xc W0 X.kw ic)) (he : ∀ s H C cl fp, PE (X.blk s H scope (compEnvC scope cl C X.env) fp) elt (tE c xc W0 X.kw ie false)) (hf : ∀ x : Value, foldedSetIterable iter X.env x = pure x) :
    PE X (.ListComp elt [{ target := tg, iter := iter, ifs := ifs, is_async := 0 }] scope pos) (tE c xc W X.kw (.comp ie ig it ic) m) :=
  impE (pe_lc hc hN hi ok hg ht he hf) fun σ H Q h => comp_read hv h
end
/-! ### calls -/
theorem takes_no {X : Cx} : Takes X fun _ _ _ _ => False := fun u s' h => by
  obtain ⟨a, B, sI, pins, σ, H, cls, d, h⟩ := h
  exact h.2.2.2.2.2.2.2.2.elim
def RR (K : Frag) (o : Bool) (H Hf' H' : Hp) (v : V) (d : D) : Prop := if o then ∃ p ob, v = .ref p ∧ H p = none ∧ Hf' p = none ∧ H' p = some ob ∧ Con K Hf' p ob d else Rp K Hf' v d
def spF (K : Frag) (call : Nat → List D → R (D × Bool)) (xc : Nat → Value) (f : Nat) : Sp := fun vs H Q E => ∃ Hf ds, Same Hf H ∧ RpAll K Hf vs ds ∧
  match call f ds with
  | .ok r => ∀ v Hf' H', Ext Hf H Hf' H' → RR K r.2 H Hf' H' v r.1 → Q v H'
  | .exc x => ∀ Hf' H', Ext Hf H Hf' H' → E (xc x) none H'
  | .bad => False
structure FnFact (P : Program) (w : World) (K : Frag) (mg : Str → Option Value) (base : Heap) (call : Nat → List D → R (D × Bool)) (xc : Nat → Value) (k : Nat) (n : Nat) (x : Str) : Prop where
  ex : ∃ f fd ps, mg x = some (.ref f) ∧ keepIn K (.ref f) = true ∧ L2.Binds K fd ps [] ∧ FnOk P w K mg base (L2.CX P w) k f fd ps (spF K call xc n)
/-- what is kept of a context's promises -/
def callOk (c : Ctx) : Prop := ∀ f ds d o, c.call f ds = .ok (d, o) → (c.fr f = true → isMut d = true → o = true) ∧ (c.sf f = true → imm d = true ∨ (o = true ∧ immIn d = true))
section
variable {K : Frag} {Hf H Hf' H' : Hp} {v : V} {d : D}
theorem Con.mut {ob : HO} {p : Addr} (q : Con K Hf p ob d) : isMut d = true := by cases q <;> rfl
theorem RR.rm {o m fr : Bool} {H0 : Hp} (h : RR K o H Hf' H' v d) (s : Same H0 H) (hfr : fr = true → isMut d = true → o = true) : RM K m fr H0 Hf' H' v d := by
  unfold RR at h
  split at h
  · obtain ⟨p, ob, e, h1, h2, h3, h4⟩ := h
    exact RM.of_rn (by unfold RN; rw [if_pos h4.mut]; exact ⟨p, ob, e, none_sub s h1, h2, h3, h4⟩)
  · rename_i ho
    cases fr with
    | false => exact RM.of_rp h
    | true =>
      cases hm : isMut d with
      | true => exact absurd (hfr rfl hm) ho
      | false => exact RM.imm h hm
noncomputable section
open Classical in
/-- Hc without what was owned before -/
def back (Hf H Hc : Hp) : Hp := fun a => if (∃ o, H a = some o ∧ ownO o = true) ∧ Hf a = none then none else Hc a
end
theorem back_imm {Hc : Hp} (s : Same H Hc) : ∀ {v : V} {d : D}, Rp K Hc v d → imm d = true → Rp K (back Hf H Hc) v d
  | _, _, .non, _ => .non
  | _, _, .bl b, _ => .bl b
  | _, _, .int i, _ => .int i
  | _, _, .str x, _ => .str x
  | _, _, .lst h r, e => nomatch e
  | _, _, .kdc _ _ _ _, e => nomatch e
  | _, _, .dct _ _, e => nomatch e
  | _, _, .tup h r, e => by
    refine .tup ?_ (go s r e)
    have key : ∀ a u, ownO u = false → Hc a = some u → back Hf H Hc a = some u := fun a u ho e => by
      unfold back
      rw [if_neg]
      · exact e
      · rintro ⟨⟨o, h1, h2⟩, _⟩
        have := s _ _ h1
        rw [e] at this
        cases this
        rw [ho] at h2; cases h2
    rcases h with (h | ⟨o, h⟩) | h
    · exact .inl (.inl (key _ _ rfl h))
    · exact .inl (.inr ⟨o, key _ _ rfl h⟩)
    · exact .inr h
where go {Hc : Hp} (s : Same H Hc) : ∀ {vs : List V} {ds : List D}, RpAll K Hc vs ds → immAll ds = true → RpAll K (back Hf H Hc) vs ds
  | _, _, .nil, _ => .nil
  | _, _, .cons r t, e => by
    simp only [immAll, Bool.and_eq_true] at e
    exact .cons (back_imm s r e.1) (go s t e.2)
theorem back_ent {Hc : Hp} (s : Same H Hc) : ∀ {xs : List (NestedKey × Addr × Value)} {kvs : List (_root_.Q.D × _root_.Q.D)}, RpEnt K Hc xs kvs → immAll (kvs.map (·.2)) = true → RpEnt K (back Hf H Hc) xs kvs
  | _, _, .nil, _ => .nil
  | _, _, .cons k t e v r, h => by
    simp only [List.map_cons, immAll, Bool.and_eq_true] at h
    exact .cons (back_imm s k (keyT_of t).2.1) t e (back_imm s v h.1) (back_ent s r h.2)
theorem back_ext {Hc : Hp} (sb : Same Hf H) (x : Ext H H Hc H') : Ext Hf H (back Hf H Hc) H' := by
  refine ⟨fun a u e => ?_, x.s2, fun a u e => ?_, fun a u e ho e2 => ?_⟩
  · unfold back
    rw [if_neg (fun h => by rw [h.2] at e; cases e)]
    exact x.s1 _ _ (sb _ _ e)
  · unfold back at e
    split at e
    · cases e
    · exact x.sub _ _ e
  · unfold back
    rw [if_pos ⟨⟨u, e, ho⟩, e2⟩]
theorem back_rr {o : Bool} {Hc : Hp} (x : Ext H H Hc H') (h : RR K o H Hc H' v d) (hi : imm d = true ∨ (o = true ∧ immIn d = true)) : RR K o H (back Hf H Hc) H' v d := by
  unfold RR at h ⊢
  split
  · rename_i ho
    rw [if_pos ho] at h
    obtain ⟨p, ob, e, h1, h2, h3, h4⟩ := h
    refine ⟨p, ob, e, h1, ?_, h3, ?_⟩
    · unfold back; split
      · rfl
      · exact h2
    · cases h4 with
      | lst r =>
        rcases hi with hi | ⟨_, hi⟩
        · cases hi
        · exact .lst (back_imm.go x.s1 r hi)
      | dct r =>
        rcases hi with hi | ⟨_, hi⟩
        · cases hi
        · simp only [immIn, Bool.and_eq_true] at hi
          exact .dct (back_ent x.s1 r hi.2)
  · rename_i ho
    rw [if_neg ho] at h
    rcases hi with hi | ⟨hi, _⟩
    · exact back_imm x.s1 h hi
    · exact absurd hi ho
end
section
variable {X : Cx} {c : Ctx} {xc : Nat → Value} {W : WX} {m : Bool} {k : Nat}
theorem pe_callQ {n : Nat} {x : Str} {p pos : Pos} {e : Expr} {l : List Expr} {ir : E} {es : Es} (F : FnFact X.prog X.w X.kw X.mg X.base c.call xc k n x) (hr : Room k X.A) (hg : Gl X x) (tk : Takes X W) (co : callOk c) (hd : (x == ("__debug__" : Str)) = false) (hs : (e :: l).all notStar = true) (h : PEs X c xc W (c.sf n) (e :: l) (.cons ir es)) :
    PE X (.Call (.Name x p) (e :: l) [] pos) (tE c xc W X.kw (.call n (.cons ir es)) m) := by
  obtain ⟨f, fd, ps, hm, hk, hb, F⟩ := F.ex
  have hs' := hs
  simp only [List.all_cons, Bool.and_eq_true] at hs'
  cases hsf : c.sf n with
  | false =>
    rw [hsf] at h
    refine impE (pe_callS F hr hg hm hk hb (fun σ => passAt tk σ) (pa_kept hs h) hd (star_cons hs'.1) (star_plain hs'.2)) fun σ H Q hh => ?_
    obtain ⟨ρ, Hf, s, a⟩ := hh
    have a1 : After (evEs c (.cons ir es) false ρ >>= fun ds => c.call n ds >>= fun r => _root_.Q.R.ok r.1) xc W σ Hf H _ := a.of_eq (by simp only [evE, hsf])
    refine ⟨ρ, Hf, s, (After.bind a1).imp fun ds H1f H1 x1 a2 vs rvs => ⟨H1f, ds, x1.sub, rvs, ?_⟩⟩
    cases ec : c.call n ds with
    | ok r =>
      obtain ⟨d, o⟩ := r
      rw [ec] at a2
      have a3 : After (_root_.Q.R.ok d) xc W σ H1f H1 _ := a2
      intro v Hf' H' x2 rr
      exact a3 _ _ x2 v (rr.rm x1.s2 fun h1 h2 => (co n ds d o ec).1 h1 h2)
    | exc y =>
      rw [ec] at a2
      exact fun Hf' H' x2 => a2 _ _ x2
    | bad => rw [ec] at a2; exact a2.elim
  | true =>
    rw [hsf] at h
    refine impE (pe_callS F hr hg hm hk hb (fun σ => passAt tk σ) (pa_of hs h) hd (star_cons hs'.1) (star_plain hs'.2)) fun σ H Q hh => ?_
    obtain ⟨ρ, Hf, s, a⟩ := hh
    have a1 : After (evEs c (.cons ir es) true ρ >>= fun ds => c.call n ds >>= fun r => _root_.Q.R.ok r.1) xc W σ Hf H _ := a.of_eq (by simp only [evE, hsf])
    refine ⟨ρ, Hf, s, (After.bind a1).imp fun ds H1f H1 x1 a2 vs rvs => ⟨H1, ds, Same.refl _, rvs.here x1.sub, ?_⟩⟩
    cases ec : c.call n ds with
    | ok r =>
      obtain ⟨d, o⟩ := r
      rw [ec] at a2
      have a3 : After (_root_.Q.R.ok d) xc W σ H1f H1 _ := a2
      intro v Hf' H' x2 rr
      exact a3 _ _ (back_ext x1.sub x2) v ((back_rr x2 rr ((co n ds d o ec).2 hsf)).rm x1.s2 fun h1 h2 => (co n ds d o ec).1 h1 h2)
    | exc y =>
      rw [ec] at a2
      exact fun Hf' H' x2 => a2 _ _ (back_ext x1.sub x2)
    | bad => rw [ec] at a2; exact a2.elim
theorem pe_call0Q {n : Nat} {x : Str} {p pos : Pos} (F : FnFact X.prog X.w X.kw X.mg X.base c.call xc k n x) (hr : Room k X.A) (hg : Gl X x) (co : callOk c) (hd : (x == ("__debug__" : Str)) = false) :
    PE X (.Call (.Name x p) [] [] pos) (tE c xc W X.kw (.call n .nil) m) := by
  obtain ⟨f, fd, ps, hm, hk, hb, F⟩ := F.ex
  refine impE (pe_call0 (E := fun cls d H => False) F hr hg hm hk hb .nil ?_ hd) fun σ H Q hh => ?_
  · intro pins σ H s e s' I hh
    have := passAt (X := X) (W := fun _ _ _ _ => False) takes_no σ
    exact this pins H s e s' I hh
  · obtain ⟨ρ, Hf, s, a⟩ := hh
    have a1 : After (quiet (c.call n []) >>= fun r => _root_.Q.R.ok r.1) xc W σ Hf H _ := a.of_eq (by simp only [evE])
    refine ⟨Hf, [], s.sub, .nil, ?_⟩
    cases ec : c.call n [] with
    | ok r =>
      obtain ⟨d, o⟩ := r
      rw [ec] at a1
      have a3 : After (_root_.Q.R.ok d) xc W σ Hf H _ := a1
      intro v Hf' H' x2 rr
      exact a3 _ _ x2 v (rr.rm (Same.refl _) fun h1 h2 => (co n [] d o ec).1 h1 h2)
    | exc y =>
      rw [ec] at a1
      exact a1.elim
    | bad => rw [ec] at a1; exact a1.elim
end
end Q
set_option Elab.async false
set_option linter.all false
set_option maxRecDepth 100000
/-! Statements. -/
namespace Q
open PySem PySem.W PySem.Spec L2
open PyProof.Rows hiding St

/-- deeply owned dicts -/
def DAll (K : Frag) (Hf H : Hp) : List Addr → List _root_.Q.D → Prop
  | [], [] => True
  | q :: qs, d :: ds => (∃ xs kvs, d = .dict kvs ∧ H q = some (DXO K.P K.w q xs) ∧ RpEnt K Hf xs kvs) ∧ DAll K Hf H qs ds
  | _, _ => False
/-- a list of dicts, all of them owned -/
def Deep (K : Frag) (H0 Hf H : Hp) (σ : L2.St) (ρ : Env) (i : Nat) (d : _root_.Q.D) : Prop :=
  ∃ p qs ds, σ[i]? = some (some (.ref p)) ∧ d = .list ds ∧ (p :: qs).Nodup ∧ (∀ q ∈ p :: qs, H0 q = none ∧ Hf q = none) ∧ H p = some (.lst (qs.map V.ref)) ∧ DAll K Hf H qs ds ∧
    ∀ j d' o, slot ρ j = some (d', o) → o ≠ 0 → j ≠ i → o ≠ 2 ∧ ∀ q ∈ p :: qs, σ[j]? ≠ some (some (.ref q))
theorem DAll.ext {K : Frag} {Hf H Hf' H' : Hp} (s1 : Same Hf Hf') : ∀ {qs : List Addr} {ds : List _root_.Q.D}, (∀ q ∈ qs, ∀ o, H q = some o → H' q = some o) → DAll K Hf H qs ds → DAll K Hf' H' qs ds
  | [], [], _, _ => trivial
  | q :: qs, d :: ds, h, ⟨⟨xs, kvs, e1, e2, e3⟩, r⟩ => ⟨⟨xs, kvs, e1, h q List.mem_cons_self _ e2, e3.mono s1⟩, DAll.ext s1 (fun z hz => h z (List.mem_cons_of_mem _ hz)) r⟩
theorem DAll.has {K : Frag} {Hf H : Hp} : ∀ {qs : List Addr} {ds : List _root_.Q.D}, DAll K Hf H qs ds → ∀ q ∈ qs, ∃ o, H q = some o ∧ ownO o = true
  | q :: qs, d :: ds, ⟨⟨xs, kvs, e1, e2, e3⟩, r⟩, z, hz => by
    rcases List.mem_cons.mp hz with rfl | hz
    · exact ⟨_, e2, rfl⟩
    · exact DAll.has r z hz
  | [], [], _, _, hz => nomatch hz
theorem Deep.has {K : Frag} {H0 Hf H : Hp} {qs : List Addr} {ds : List _root_.Q.D} {p : Addr} (h : H p = some (.lst (qs.map V.ref))) (a : DAll K Hf H qs ds) : ∀ q ∈ p :: qs, ∃ o, H q = some o ∧ ownO o = true := fun q hq => by
  rcases List.mem_cons.mp hq with rfl | hq
  · exact ⟨_, h, rfl⟩
  · exact a.has q hq
theorem Deep.step {K : Frag} {H0 Hf H Hf' H' : Hp} {σ : L2.St} {ρ : Env} {i : Nat} {d : _root_.Q.D} (h : Deep K H0 Hf H σ ρ i d) (x : Ext Hf H Hf' H') : Deep K H0 Hf' H' σ ρ i d := by
  obtain ⟨p, qs, ds, e1, e2, nd, hn, hp, ha, hs⟩ := h
  refine ⟨p, qs, ds, e1, e2, nd, fun q hq => ⟨(hn q hq).1, ?_⟩, x.s2 _ _ hp, ha.ext x.s1 fun q _ o e => x.s2 _ _ e, hs⟩
  obtain ⟨o, g1, g2⟩ := Deep.has (H0 := H0) hp ha q hq
  exact x.hid q o g1 g2 (hn q hq).2
/-- where a function's body stands; it began at Hf0, H0 -/
structure SI (K : Frag) (Hf0 H0 : Hp) (σ : L2.St) (ρ : Env) (Hf H : Hp) : Prop where
  sr : SR K Hf H σ ρ
  ext : Ext Hf0 H0 Hf H
  new : ∀ i d o p, slot ρ i = some (d, o) → o ≠ 0 → o ≠ 2 → σ[i]? = some (some (.ref p)) → H0 p = none
  deep : ∀ i d, slot ρ i = some (d, 2) → Deep K H0 Hf H σ ρ i d
/-- a value that is kept: new and owned, or held still -/
def RF (K : Frag) (H0 Hf H : Hp) (v : V) (d : D) (fl : Nat) : Prop := if fl = 0 then Rp K Hf v d else fl = 1 ∧ ∃ p ob, v = .ref p ∧ H0 p = none ∧ Hf p = none ∧ H p = some ob ∧ Con K Hf p ob d
/-- v is not one of the deeply owned things -/
def NoDp (σ : L2.St) (ρ : Env) (H : Hp) (i : Nat) (v : V) : Prop := ∀ i' d', slot ρ i' = some (d', 2) → i' ≠ i → ∀ p qs, σ[i']? = some (some (.ref p)) → H p = some (.lst (qs.map V.ref)) → ∀ q ∈ p :: qs, v ≠ .ref q
section
variable {K : Frag} {Hf0 H0 Hf H Hf' H' H1 : Hp} {σ σ' : L2.St} {ρ ρ' : Env} {v : V} {d : D} {fl : Nat}
theorem Deep.congr {i : Nat} (h : Deep K H0 Hf H σ ρ i d) (e : σ'[i]? = σ[i]?) (hs : ∀ j d' o, slot ρ' j = some (d', o) → o ≠ 0 → j ≠ i → slot ρ j = some (d', o) ∧ σ'[j]? = σ[j]?) : Deep K H0 Hf H σ' ρ' i d := by
  obtain ⟨p, qs, ds, e1, e2, nd, hn, hp, ha, h7⟩ := h
  refine ⟨p, qs, ds, by rw [e]; exact e1, e2, nd, hn, hp, ha, fun j d' o ej h0 hj => ?_⟩
  obtain ⟨g1, g2⟩ := hs j d' o ej h0 hj
  rw [g2]
  exact h7 j d' o g1 h0 hj
theorem SI.step (s : SI K Hf0 H0 σ ρ Hf H) (x : Ext Hf H Hf' H') : SI K Hf0 H0 σ ρ Hf' H' := ⟨s.sr.ext x, s.ext.trans x, s.new, fun i d e => (s.deep i d e).step x⟩
theorem SI.of_bd {l : List Nat} (s : SI K Hf0 H0 σ ρ Hf H) (r : SR K Hf H σ' ρ') (b : Bd l ρ ρ' σ σ') : SI K Hf0 H0 σ' ρ' Hf H := by
  refine ⟨r, s.ext, fun i d o p e h0 n2 ep => ?_, fun i d e => ?_⟩
  · by_cases hi : i ∈ l
    · exact absurd (b.on i hi d o e) h0
    · obtain ⟨h1, h2⟩ := b.off i hi
      rw [h2] at e
      rw [h1] at ep
      exact s.new i d o p e h0 n2 ep
  · by_cases hi : i ∈ l
    · exact absurd (b.on i hi d 2 e) (by decide)
    · obtain ⟨h1, h2⟩ := b.off i hi
      rw [h2] at e
      refine (s.deep i d e).congr h1 fun j d' o ej h0 hj => ?_
      by_cases hj' : j ∈ l
      · exact absurd (b.on j hj' d' o ej) h0
      · obtain ⟨g1, g2⟩ := b.off j hj'
        exact ⟨by rw [← g2]; exact ej, g1⟩
theorem SI.wipe (s : SI K Hf0 H0 σ ρ Hf H) (l : List Nat) : SI K Hf0 H0 σ (wipe ρ l) Hf H := by
  have key : ∀ j d' o, slot (_root_.Q.wipe ρ l) j = some (d', o) → slot ρ j = some (d', o) := fun j d' o e => by
    by_cases hi : j ∈ l
    · rw [qwipe_on ρ l (.inl hi)] at e; cases e
    · rw [qwipe_off ρ l hi] at e; exact e
  exact ⟨s.sr.wipe l, s.ext, fun i d o p e h0 n2 ep => s.new i d o p (key i d o e) h0 n2 ep, fun i d e => (s.deep i d (key i d 2 e)).congr rfl fun j d' o ej _ _ => ⟨key j d' o ej, rfl⟩⟩
theorem RF.ext (h : RF K H1 Hf H v d fl) (x : Ext Hf H Hf' H') : RF K H1 Hf' H' v d fl := by
  unfold RF at h ⊢
  split
  · rename_i h0
    rw [if_pos h0] at h
    exact h.mono x.s1
  · rename_i h0
    rw [if_neg h0] at h
    obtain ⟨h1, p, ob, e, a, b, c, q⟩ := h
    exact ⟨h1, p, ob, e, a, x.hid p ob c q.own b, x.s2 _ _ c, q.mono x.s1⟩
/-- a slot is set -/
theorem SI.put (s : SI K Hf0 H0 σ ρ Hf H) (i : Nat) (r : RF K H1 Hf H v d fl) (s01 : Same H0 H1) (no : ∀ j d' o p, v = .ref p → slot ρ j = some (d', o) → o ≠ 0 → o ≠ 2 → j ≠ i → fl ≠ 0 → σ[j]? ≠ some (some (.ref p))) (nd : fl ≠ 0 → NoDp σ ρ H i v) : SI K Hf0 H0 (σ.set i (some v)) (put ρ i (some (d, fl))) Hf H := by
  have fl2 : fl ≠ 2 := fun e => by subst e; unfold RF at r; rw [if_neg (by decide)] at r; exact absurd r.1 (by decide)
  have hdeep : ∀ k dk, slot (_root_.Q.put ρ i (some (d, fl))) k = some (dk, 2) → Deep K H0 Hf H (σ.set i (some v)) (_root_.Q.put ρ i (some (d, fl))) k dk := fun k dk e => by
    rw [slot_put] at e
    split at e
    · cases e; exact absurd rfl fl2
    · rename_i h
      have hik : i ≠ k := fun e' => h ⟨e', by subst e'; exact slot_lt e⟩
      obtain ⟨p, qs, ds, e1, e2, nd', hn, hp, ha, h7⟩ := s.deep k dk e
      refine ⟨p, qs, ds, by rw [List.getElem?_set_ne hik]; exact e1, e2, nd', hn, hp, ha, fun j d' o ej h0 hj => ?_⟩
      rw [slot_put] at ej
      split at ej
      · rename_i hh
        obtain ⟨rfl, hl⟩ := hh
        cases ej
        refine ⟨fl2, fun q hq => ?_⟩
        rw [List.getElem?_set_self (by rw [s.sr.len]; exact hl)]
        intro eq
        simp only [Option.some.injEq] at eq
        exact nd h0 k dk e (Ne.symm hik) p qs e1 hp q hq eq
      · rename_i hh
        have hij : i ≠ j := fun e' => hh ⟨e', by subst e'; exact slot_lt ej⟩
        rw [List.getElem?_set_ne hij]
        exact h7 j d' o ej h0 hj
  unfold RF at r
  split at r
  · rename_i h0
    subst h0
    refine ⟨s.sr.set i r, s.ext, fun j d' o p e h0 n2 ep => ?_, hdeep⟩
    rw [slot_put] at e
    split at e
    · cases e; exact absurd rfl h0
    · rename_i h
      have hij : i ≠ j := fun e' => h ⟨e', by subst e'; exact slot_lt e⟩
      rw [List.getElem?_set_ne hij] at ep
      exact s.new j d' o p e h0 n2 ep
  · rename_i h0
    obtain ⟨h1, p, ob, rfl, a, b, c, q⟩ := r
    subst h1
    refine ⟨s.sr.own i b c q fun j d' o e h2 n2 h3 => no j d' o p rfl e h2 n2 h3 (by decide), s.ext, fun j d' o p' e h2 n2 ep => ?_, hdeep⟩
    rw [slot_put] at e
    split at e
    · rename_i h
      obtain ⟨rfl, hl⟩ := h
      rw [List.getElem?_set_self (by rw [s.sr.len]; exact hl)] at ep
      cases ep
      exact none_sub s01 a
    · rename_i h
      have hij : i ≠ j := fun e' => h ⟨e', by subst e'; exact slot_lt e⟩
      rw [List.getElem?_set_ne hij] at ep
      exact s.new j d' o p' e h2 n2 ep
/-- an owned thing in a slot -/
theorem SI.at_own (s : SI K Hf0 H0 σ ρ Hf H) {i : Nat} (e : owned ρ i = some d) : slot ρ i = some (d, 1) ∧ ∃ p ob, σ[i]? = some (some (.ref p)) ∧ Hf p = none ∧ H p = some ob ∧ Con K Hf p ob d := by
  unfold owned at e
  split at e
  · rename_i h
    cases e
    obtain ⟨v, h1, h2⟩ := s.sr.at_ i _ _ h (by decide)
    rw [if_neg (by decide)] at h2
    obtain ⟨p, ob, rfl, h3⟩ := h2
    exact ⟨h, p, ob, h1, h3⟩
  · cases e
/-- it is changed -/
theorem SI.mut (s : SI K Hf0 H0 σ ρ Hf H) {i : Nat} {p : Addr} {ob ob' : HO} {d' : D} (e : slot ρ i = some (d, 1)) (ep : σ[i]? = some (some (.ref p))) (hf : Hf p = none) (hp : H p = some ob) (q : Con K Hf p ob' d') : SI K Hf0 H0 σ (_root_.Q.put ρ i (some (d', 1))) Hf (upd H p ob') := by
  have h0 : H0 p = none := s.new i d 1 p e (by decide) (by decide) ep
  have hs : Same Hf (upd H p ob') := fun a u ea => by
    rw [upd_ne (ne_of_none ea hf)]; exact s.sr.sub _ _ ea
  have key : ∀ j dj oj, slot (_root_.Q.put ρ i (some (d', 1))) j = some (dj, oj) → oj ≠ 0 → oj ≠ 2 → ∃ dj' oj', slot ρ j = some (dj', oj') ∧ oj' ≠ 0 ∧ oj' ≠ 2 := fun j dj oj ej g n => by
    rw [slot_put] at ej
    split at ej
    · rename_i h
      obtain ⟨rfl, _⟩ := h
      exact ⟨_, _, e, by decide, by decide⟩
    · exact ⟨_, _, ej, g, n⟩
  refine ⟨⟨by rw [put_len]; exact s.sr.len, hs, fun j dj o ej n2 => ?_, fun j k d1 d2 o1 o2 e1 g1 n1 e2 g2 n2 e3 => ?_⟩, ⟨s.ext.s1, fun a u ea => by rw [upd_ne (ne_of_none ea h0)]; exact s.ext.s2 _ _ ea, hs, s.ext.hid⟩, fun j dj o pj ej g n2 epj => ?_, fun k dk ek => ?_⟩
  · rw [slot_put] at ej
    split at ej
    · rename_i h
      obtain ⟨rfl, _⟩ := h
      cases ej
      exact ⟨_, ep, by rw [if_neg (by decide)]; exact ⟨p, ob', rfl, hf, upd_same, q⟩⟩
    · rename_i h
      have hij : i ≠ j := fun e' => h ⟨e', by subst e'; exact slot_lt ej⟩
      obtain ⟨v, h1, h2⟩ := s.sr.at_ j dj o ej n2
      refine ⟨v, h1, ?_⟩
      split
      · rename_i h0; rw [if_pos h0] at h2; exact h2
      · rename_i hz
        rw [if_neg hz] at h2
        obtain ⟨pj, obj, rfl, h3, h4, h5⟩ := h2
        have : pj ≠ p := fun e' => by
          subst e'
          exact hij (s.sr.sep i j _ _ _ _ e (by decide) (by decide) ej hz n2 (by rw [ep, h1]))
        exact ⟨pj, obj, rfl, h3, by rw [upd_ne this]; exact h4, h5⟩
  · obtain ⟨_, _, a1, b1, c1⟩ := key j _ _ e1 g1 n1
    obtain ⟨_, _, a2, b2, c2⟩ := key k _ _ e2 g2 n2
    exact s.sr.sep j k _ _ _ _ a1 b1 c1 a2 b2 c2 e3
  · rw [slot_put] at ej
    split at ej
    · rename_i h
      obtain ⟨rfl, _⟩ := h
      rw [ep] at epj
      cases epj
      exact h0
    · exact s.new j dj o pj ej g n2 epj
  · rw [slot_put] at ek
    split at ek
    · cases ek
    · rename_i h
      have hik : i ≠ k := fun e' => h ⟨e', by subst e'; exact slot_lt ek⟩
      obtain ⟨pk, qs, ds, e1, e2, nd', hn, hpk, ha, h7⟩ := s.deep k dk ek
      have hne : ∀ z ∈ pk :: qs, z ≠ p := fun z hz ez => (h7 i d 1 e (by decide) hik).2 z hz (by rw [ez]; exact ep)
      refine ⟨pk, qs, ds, e1, e2, nd', hn, by rw [upd_ne (hne pk List.mem_cons_self)]; exact hpk, ha.ext (Same.refl _) (fun z hz o eo => by rw [upd_ne (hne z (List.mem_cons_of_mem _ hz))]; exact eo), fun j d2 o ej g hj => ?_⟩
      rw [slot_put] at ej
      split at ej
      · rename_i hh
        obtain ⟨rfl, _⟩ := hh
        cases ej
        exact ⟨by decide, (h7 i d 1 e (by decide) hik).2⟩
      · exact h7 j d2 o ej g hj
theorem set_self {σ : L2.St} {i : Nat} {x : Option V} (h : σ[i]? = some x) : σ.set i x = σ := by
  obtain ⟨hl, e⟩ := List.getElem?_eq_some_iff.mp h
  rw [← e]
  exact List.set_getElem_self hl
/-- owned things are held still from here on -/
theorem SI.frz1 (s : SI K Hf0 H0 σ ρ Hf H) (i : Nat) (e : slot ρ i = some (d, fl)) (fl2 : fl ≠ 2) : ∃ Hf', Same Hf Hf' ∧ SI K Hf0 H0 σ (_root_.Q.put ρ i (some (d, 0))) Hf' H := by
  obtain ⟨v, h1, h2⟩ := s.sr.at_ i d fl e fl2
  by_cases h0 : fl = 0
  · subst h0
    rw [if_pos rfl] at h2
    refine ⟨Hf, Same.refl _, ?_⟩
    have h3 := s.put (fl := 0) (H1 := H0) (d := d) (v := v) i (by unfold RF; rw [if_pos rfl]; exact h2) (Same.refl _) (fun _ _ _ _ _ _ _ _ _ h => absurd rfl h) (fun h => absurd rfl h)
    rwa [set_self h1] at h3
  · rw [if_neg h0] at h2
    obtain ⟨p, ob, rfl, h3, h4, h5⟩ := h2
    have hp0 : H0 p = none := s.new i d fl p e h0 fl2 h1
    have sm : Same Hf (upd Hf p ob) := same_upd h3
    have rp : Rp K (upd Hf p ob) (.ref p) d := h5.rp sm upd_same
    have sb : Same (upd Hf p ob) H := fun a u ea => by
      by_cases ha : a = p
      · subst ha; rw [upd_same] at ea; cases ea; exact h4
      · rw [upd_ne ha] at ea; exact s.sr.sub _ _ ea
    refine ⟨upd Hf p ob, sm, ⟨by rw [put_len]; exact s.sr.len, sb, fun j dj o ej n2 => ?_, fun j k d1 d2 o1 o2 e1 g1 n1 e2 g2 n2 e3 => ?_⟩, s.ext.keep hp0 h3 h4, fun j dj o pj ej g n2 epj => ?_, fun k dk ek => ?_⟩
    · rw [slot_put] at ej
      split at ej
      · rename_i h
        obtain ⟨rfl, _⟩ := h
        cases ej
        exact ⟨_, h1, by rw [if_pos rfl]; exact rp⟩
      · rename_i h
        have hij : i ≠ j := fun e' => h ⟨e', by subst e'; exact slot_lt ej⟩
        obtain ⟨v, g1, g2⟩ := s.sr.at_ j dj o ej n2
        refine ⟨v, g1, ?_⟩
        split
        · rename_i h0; rw [if_pos h0] at g2; exact g2.mono sm
        · rename_i h0'
          rw [if_neg h0'] at g2
          obtain ⟨pj, obj, rfl, g3, g4, g5⟩ := g2
          have : pj ≠ p := fun e' => by
            subst e'
            exact hij (s.sr.sep i j _ _ _ _ e h0 fl2 ej h0' n2 (by rw [h1, g1]))
          exact ⟨pj, obj, rfl, by rw [upd_ne this]; exact g3, g4, g5.mono sm⟩
    · have key : ∀ j dj oj, slot (_root_.Q.put ρ i (some (d, 0))) j = some (dj, oj) → oj ≠ 0 → slot ρ j = some (dj, oj) := fun j dj oj ej g => by
        rw [slot_put] at ej
        split at ej
        · cases ej; exact absurd rfl g
        · exact ej
      exact s.sr.sep j k _ _ _ _ (key j _ _ e1 g1) g1 n1 (key k _ _ e2 g2) g2 n2 e3
    · rw [slot_put] at ej
      split at ej
      · cases ej; exact absurd rfl g
      · exact s.new j dj o pj ej g n2 epj
    · rw [slot_put] at ek
      split at ek
      · cases ek
      · rename_i h
        have hik : i ≠ k := fun e' => h ⟨e', by subst e'; exact slot_lt ek⟩
        obtain ⟨pk, qs, ds, e1, e2, nd', hn, hpk, ha, h7⟩ := s.deep k dk ek
        have hne : ∀ z ∈ pk :: qs, z ≠ p := fun z hz ez => (h7 i d fl e h0 hik).2 z hz (by rw [ez]; exact h1)
        refine ⟨pk, qs, ds, e1, e2, nd', fun z hz => ⟨(hn z hz).1, by rw [upd_ne (hne z hz)]; exact (hn z hz).2⟩, hpk, ha.ext sm (fun z hz o eo => eo), fun j d2 o ej g hj => ?_⟩
        rw [slot_put] at ej
        split at ej
        · cases ej; exact absurd rfl g
        · exact h7 j d2 o ej g hj
theorem SI.frz (is : List Nat) : ∀ {Hf : Hp} {ρ : Env}, SI K Hf0 H0 σ ρ Hf H → ∃ Hf', Same Hf Hf' ∧ SI K Hf0 H0 σ (freeze ρ is) Hf' H := by
  induction is with
  | nil => exact fun {Hf ρ} s => ⟨Hf, Same.refl _, s⟩
  | cons i l ih =>
    intro Hf ρ s
    rw [freeze]
    cases e : slot ρ i with
    | none => exact ih s
    | some x =>
      obtain ⟨d, o⟩ := x
      by_cases ho : o = 2
      · subst ho
        exact ih (s.wipe [i])
      · obtain ⟨Hf', s1, s2⟩ := s.frz1 i e ho
        obtain ⟨Hf2, s3, s4⟩ := ih s2
        have eo : (o == 2) = false := by simpa using ho
        simp only [eo, Bool.false_eq_true, if_false]
        exact ⟨Hf2, s1.trans s3, s4⟩
end
/-- how a body ends -/
def EndF (K : Frag) (Hf0 H0 Hfs : Hp) (xc : Nat → Value) (W : WX) (D : Ends) : F → Prop
  | .nx ρ' => ∀ σ' Hf' H', SI K Hf0 H0 σ' ρ' Hf' H' → Same Hfs Hf' → D.nx σ' H'
  | .bk ρ' => ∀ σ' Hf' H', SI K Hf0 H0 σ' ρ' Hf' H' → Same Hfs Hf' → D.bk σ' H'
  | .ct ρ' => ∀ σ' Hf' H', SI K Hf0 H0 σ' ρ' Hf' H' → Same Hfs Hf' → D.ct σ' H'
  | .rt d o => ∀ v Hf' H', Ext Hf0 H0 Hf' H' → RR K o H0 Hf' H' v d → D.rt v H'
  | .ex x ρ' => ∀ σ' Hf' H', SI K Hf0 H0 σ' ρ' Hf' H' → Same Hfs Hf' → W (xc x) none σ' H'
  | .bad => False
def tS (c : Ctx) (xc : Nat → Value) (W : WX) (K : Frag) (s : S) : TS := fun D σ H => ∃ Hf0 H0 ρ Hf, SI K Hf0 H0 σ ρ Hf H ∧ EndF K Hf0 H0 Hf xc W D (evS c s ρ)
def tSs (c : Ctx) (xc : Nat → Value) (W : WX) (K : Frag) (s : Ss) : TS := fun D σ H => ∃ Hf0 H0 ρ Hf, SI K Hf0 H0 σ ρ Hf H ∧ EndF K Hf0 H0 Hf xc W D (evSs c s ρ)
theorem impS {X : Cx} {e : Stmt} {t t' : TS} (h : PS X e t) (g : ∀ D σ H, t' D σ H → t D σ H) : PS X e t' := ⟨fun pins s σ H D I hw => h.run pins s σ H D I (g D σ H hw)⟩
theorem impSs {X : Cx} {e : List Stmt} {t t' : TS} (h : PSs X e t) (g : ∀ D σ H, t' D σ H → t D σ H) : PSs X e t' := ⟨fun pins s σ H D I hw => h.run pins s σ H D I (g D σ H hw)⟩
section
variable {X : Cx} {c : Ctx} {xc : Nat → Value} {W : WX} {K : Frag} {Hf0 H0 Hf H Hf' H' Hfs : Hp} {σ : L2.St} {ρ : Env} {D : Ends}
theorem EndF.less {r : F} (h : EndF K Hf0 H0 Hfs xc W D r) (s : Same Hfs Hf) : EndF K Hf0 H0 Hf xc W D r := by
  cases r with
  | nx ρ' => exact fun σ' Hf' H' a b => h σ' Hf' H' a (s.trans b)
  | bk ρ' => exact fun σ' Hf' H' a b => h σ' Hf' H' a (s.trans b)
  | ct ρ' => exact fun σ' Hf' H' a b => h σ' Hf' H' a (s.trans b)
  | rt d o => exact h
  | ex x ρ' => exact fun σ' Hf' H' a b => h σ' Hf' H' a (s.trans b)
  | bad => exact h
/-- an expression comes first -/
theorem EndF.after {α : Type} {r : R α} {f : α → F} (h : EndF K Hf0 H0 Hf xc W D (toF ρ r f)) (s : SI K Hf0 H0 σ ρ Hf H) : After r xc W σ Hf H fun a Hf' H' => EndF K Hf0 H0 Hf xc W D (f a) := by
  cases r with
  | ok a => exact fun _ _ _ => h
  | exc x => exact fun Hf' H' y => h σ Hf' H' (s.step y) y.s1
  | bad => exact h
/-- a value is kept -/
theorem rm_keep {n : Bool} {H1 : Hp} {v : V} {d : _root_.Q.D} {Hfx : Hp} (r : RM K false n H Hf' H' v d) (x : Ext Hf H Hf' H') : ∃ Hg, Ext Hf H Hg H' ∧ Same Hf' Hg ∧ RF K H Hg H' v d (flag n d) := by
  unfold flag
  by_cases h : (n && isMut d) = true
  · rw [if_pos h]
    rw [Bool.and_eq_true] at h
    obtain ⟨hn, hm⟩ := h
    subst hn
    have r' : RN K H Hf' H' v d := r
    unfold RN at r'
    rw [if_pos hm] at r'
    exact ⟨Hf', x, Same.refl _, by unfold RF; rw [if_neg (by decide)]; exact ⟨rfl, r'⟩⟩
  · rw [if_neg h]
    obtain ⟨Hg, y, sg, rp⟩ := r.rv.hold x
    exact ⟨Hg, y, sg, by unfold RF; rw [if_pos rfl]; exact rp⟩
/-- no slot owns what is new -/
theorem not_old {H1 : Hp} {v : V} {d : _root_.Q.D} {fl : Nat} (s : SI K Hf0 H0 σ ρ Hf H) (r : RF K H Hf' H' v d fl) : ∀ j d' o p, v = .ref p → slot ρ j = some (d', o) → o ≠ 0 → o ≠ 2 → fl ≠ 0 → σ[j]? ≠ some (some (.ref p)) := fun j d' o p e h1 h2 n2 h3 h4 => by
  unfold RF at r
  rw [if_neg h3] at r
  obtain ⟨_, p', ob, e', a, _⟩ := r
  rw [e] at e'
  cases e'
  obtain ⟨v', g1, g2⟩ := s.sr.at_ j d' o h1 n2
  rw [if_neg h2] at g2
  obtain ⟨p2, ob2, rfl, _, g4, _⟩ := g2
  rw [h4] at g1
  cases g1
  rw [a] at g4
  cases g4
/-- .. nor any deeply owned list -/
theorem nd_old {H1 : Hp} {v : V} {d : _root_.Q.D} {fl : Nat} (s : SI K Hf0 H0 σ ρ Hf H) (x2 : Same H H') (r : RF K H Hf' H' v d fl) (i : Nat) : fl ≠ 0 → NoDp σ ρ H' i v := fun h3 i' d' e1 hi p qs e2 e3 q hq eq => by
  unfold RF at r
  rw [if_neg h3] at r
  obtain ⟨_, p', ob, e', a, _⟩ := r
  rw [eq] at e'
  cases e'
  obtain ⟨p2, qs2, ds, g1, g2, nd, hn, hp, ha, hs⟩ := s.deep i' d' e1
  rw [e2] at g1
  cases g1
  have := x2 _ _ hp
  rw [e3] at this
  have hq' : q ∈ p :: qs2 := by
    have e5 : qs = qs2 := by
      have h5 : qs.map V.ref = qs2.map V.ref := HO.lst.inj (Option.some.inj this)
      exact (List.map_inj_right (fun a b h => by cases h; rfl)).mp h5
    rw [← e5]; exact hq
  obtain ⟨o, g5, _⟩ := Deep.has (H0 := H0) hp ha q hq'
  rw [a] at g5
  cases g5
theorem flag_ne2 (b : Bool) (d : _root_.Q.D) : flag b d ≠ 2 := by unfold flag; split <;> decide
theorem nd_put {i j : Nat} {v v' : V} {d : _root_.Q.D} {fl : Nat} (h2 : fl ≠ 2) (h : NoDp σ ρ H j v') : NoDp (σ.set i (some v)) (put ρ i (some (d, fl))) H j v' := fun i' d' e hi p qs e2 e3 => by
  rw [slot_put] at e
  split at e
  · cases e; exact absurd rfl h2
  · rename_i hh
    have hij : i ≠ i' := fun e' => hh ⟨e', by subst e'; exact slot_lt e⟩
    rw [List.getElem?_set_ne hij] at e2
    exact h i' d' e hi p qs e2 e3
theorem asg_name {i : Nat} {e : E} (h : tS c xc W K (.asg (.n i) e) D σ H) : tAsg (tE c xc W K e false) (gName i) D σ H := by
  obtain ⟨Hf0, H0, ρ, Hf, s, a⟩ := h
  have a1 : EndF K Hf0 H0 Hf xc W D (toF ρ (evE c e false ρ) fun d => .nx (put ρ i (some (d, flag (e.fresh c.fr) d)))) := by simpa only [evS] using a
  refine ⟨ρ, Hf, s.sr, (EndF.after a1 s).imp fun d H1f H1 x1 a2 v rv => ?_⟩
  obtain ⟨Hg, y, sg, rf⟩ := rm_keep (Hfx := Hf) (H1 := H) rv x1
  exact a2 _ Hg H1 ((s.step y).put i rf s.ext.s2 (fun j d' o p e1 e2 h1 n2 h2 h3 => not_old (H1 := H) s rf j d' o p e1 e2 h1 n2 h3) (nd_old (H1 := H) s y.s2 rf i)) y.s1
theorem ps_asgQ {i : Nat} {x : Str} {e : Expr} {ie : E} {pos pos' : Pos} (hN : X.N.Nodup) (hi : X.N[i]? = some x) (hx : Loc X.env.scope x) (hfx : X.fn x = true ∨ X.env.scope.names.lookup x = some .local) (he : PE X e (tE c xc W X.kw ie false)) (hw : swapsWith e (some (Expr.Name x pos')) pos.line X.env = pure false) : PS X (.Assign [.Name x pos'] e pos) (tS c xc W X.kw (.asg (.n i) ie)) :=
  impS (ps_set hN hi hx he hw hfx) fun D σ H h => asg_name h
theorem ps_asgT {tg e : Expr} {ig : Tg} {ie : E} {pos : Pos} (he : PE X e (tE c xc W X.kw ie false)) (hg : PG X tg (gT X.kw ig)) (hn : ∀ i, ig ≠ .n i) (h1 : swapsWithSole [tg] e pos.line X.env = pure false) (h2 : swappedStores [tg] e X.env = pure none) (h3 : List.map (fun x => x.snd) (assignEach [tg] X.env) = [assign tg X.env]) : PS X (.Assign [tg] e pos) (tS c xc W X.kw (.asg ig ie)) :=
  impS (ps_asg he hg h1 h2 h3) fun D σ H h => by
    obtain ⟨Hf0, H0, ρ, Hf, s, a⟩ := h
    have a1 : EndF X.kw Hf0 H0 Hf xc W D (toF ρ (evE c ie false ρ) fun d => toF ρ (ig.bind d ρ) fun ρ' => .nx ρ') := by
      cases ig with
      | n i => exact absurd rfl (hn i)
      | t l => simpa only [evS] using a
    refine ⟨ρ, Hf, s.sr, (EndF.after a1 s).imp fun d H1f H1 x1 a2 v rv => ?_⟩
    obtain ⟨Hg, y, sg, rp⟩ := rv.rv.hold x1
    cases eb : ig.bind d ρ with
    | ok ρ' =>
      rw [eb] at a2
      exact ⟨ρ, Hg, d, ρ', s.sr.ext y, rp, eb, fun σ' sr bd => a2 σ' Hg H1 ((s.step y).of_bd sr bd) y.s1⟩
    | exc x =>
      rw [eb] at a2
      exfalso
      exact tg_noexc ig d ρ x eb
    | bad => rw [eb] at a2; exact a2.elim
where
  tg_noexc : ∀ (tg : Tg) d ρ x, tg.bind d ρ ≠ .exc x
    | .n i, d, ρ, x, h => nomatch h
    | .t l, .tuple xs, ρ, x, h => tgs_noexc l xs ρ x h
    | .t l, .list xs, ρ, x, h => tgs_noexc l xs ρ x h
    | .t l, .none, ρ, x, h => nomatch h
    | .t l, .bool _, ρ, x, h => nomatch h
    | .t l, .int _, ρ, x, h => nomatch h
    | .t l, .str _, ρ, x, h => nomatch h
    | .t l, .dict _, ρ, x, h => nomatch h
  tgs_noexc : ∀ (l : Tgs) ds ρ x, l.bind ds ρ ≠ .exc x
    | .nil, [], ρ, x, h => nomatch h
    | .nil, _ :: _, ρ, x, h => nomatch h
    | .cons t l, [], ρ, x, h => nomatch h
    | .cons t l, d :: ds, ρ, x, h => by
      rw [Tgs.bind] at h
      cases e : Tg.bind t d ρ with
      | ok ρ' => rw [e] at h; exact tgs_noexc l ds ρ' x h
      | exc y => exact tg_noexc t d ρ y e
      | bad => rw [e] at h; exact nomatch h
theorem ps_exprQ {e : Expr} {ie : E} {pos : Pos} (he : PE X e (tE c xc W X.kw ie true)) (hw : swapsWith e none pos.line X.env = pure false) : PS X (.Expr e pos) (tS c xc W X.kw (.expr ie)) :=
  impS (ps_expr he hw) fun D σ H h => by
    obtain ⟨Hf0, H0, ρ, Hf, s, a⟩ := h
    have a1 : EndF X.kw Hf0 H0 Hf xc W D (toF ρ (evE c ie true ρ) fun _ => .nx ρ) := by simpa only [evS] using a
    exact ⟨ρ, Hf, s.sr, (EndF.after a1 s).imp fun d H1f H1 x1 a2 v rv => a2 σ H1f H1 (s.step x1) x1.s1⟩
theorem ps_parQ {i j : Nat} {x y : Str} {e1 e2 : Expr} {i1 i2 : E} {px py pt pos pt2 : Pos} {kt k2 : Nat} (hc : X.calm = true) (hN : X.N.Nodup) (hi : X.N[i]? = some x) (hj : X.N[j]? = some y) (hij : i ≠ j) (hx : X.env.scope.names.lookup x = some .local) (hy : X.env.scope.names.lookup y = some .local) (hs1 : notStar e1 = true) (hs2 : notStar e2 = true)
    (h1 : PE X e1 (tE c xc W X.kw i1 false)) (h2 : PE X e2 (tE c xc W X.kw i2 false)) (hw : swappedStores [.Tuple [.Name x px, .Name y py] kt pt] (.Tuple [e1, e2] k2 pt2) X.env = pure (some [x, y])) (hw2 : swapsWithSole [Expr.Tuple [Expr.Name x px, Expr.Name y py] kt pt] (Expr.Tuple [e1, e2] k2 pt2) pos.line X.env = pure false) :
    PS X (.Assign [.Tuple [.Name x px, .Name y py] kt pt] (.Tuple [e1, e2] k2 pt2) pos) (tS c xc W X.kw (.par [i, j] (.cons i1 (.cons i2 .nil)))) :=
  impS (ps_par hc hN hi hj hij hx hy (pa_cons h1 (pa_cons h2 pa_nil (star_cons hs2)) (star_cons hs1)) hw hw2) fun D σ H h => by
    obtain ⟨Hf0, H0, ρ, Hf, s, a⟩ := h
    have a1 : EndF X.kw Hf0 H0 Hf xc W D (toF ρ (evE c i1 false ρ) fun d => toF ρ (evE c i2 false ρ) fun d' => .nx (put (put ρ i (some (d, flag (i1.fresh c.fr) d))) j (some (d', flag (i2.fresh c.fr) d')))) := by
      simp only [evS, evEs] at a
      cases q : evE c i1 false ρ with
      | ok d => cases q2 : evE c i2 false ρ <;> (rw [q, q2] at a; exact a)
      | exc z => rw [q] at a; exact a
      | bad => rw [q] at a; exact a
    refine ⟨ρ, Hf, s.sr, (EndF.after a1 s).imp fun d H1f H1 x1 a2 v rv => ?_⟩
    obtain ⟨Hg, y1, sg, rf⟩ := rm_keep (Hfx := Hf) (H1 := H) rv x1
    have s1 := s.step y1
    refine ⟨ρ, Hg, s1.sr, (EndF.after (a2.less y1.s1) s1).imp fun d' H2f H2 x2 a3 v' rv' => ?_⟩
    obtain ⟨Hk, y2, sk, rf'⟩ := rm_keep (Hfx := Hf) (H1 := H) rv' x2
    have rf2 := rf.ext y2
    refine ⟨v, v', rfl, a3 _ Hk H2 ?_ y2.s1⟩
    have s2 := (s1.step y2).put i rf2 s.ext.s2 (fun j d' o p e1 e2 h1 n2 h2 h3 => not_old (H1 := H) s rf2 j d' o p e1 e2 h1 n2 h3) (nd_old (H1 := H) s (y1.s2.trans y2.s2) rf2 i)
    refine s2.put j rf' s1.ext.s2 (fun k dk o p ep e2 h1 n2 h2 h3 => ?_) (fun h => nd_put (flag_ne2 _ _) (nd_old (H1 := H) s1 y2.s2 rf' j h))
    by_cases hk : k = i
    · subst hk
      intro e4
      have hl : k < σ.length := by
        rcases Nat.lt_or_ge k σ.length with h | h
        · exact h
        · rw [List.getElem?_eq_none (by rw [List.length_set]; exact h)] at e4; cases e4
      rw [List.getElem?_set_self hl] at e4
      cases e4
      rw [slot_put] at e2
      split at e2
      · cases e2
        unfold RF at rf rf'
        rw [if_neg h3] at rf'
        rw [if_neg h1] at rf
        obtain ⟨_, p2, ob2, q1, q2, _⟩ := rf'
        obtain ⟨_, p1, ob1, r1, _, _, r2, _⟩ := rf
        rw [ep] at q1
        cases q1
        cases r1
        rw [q2] at r2; cases r2
      · rename_i hn
        exact hn ⟨rfl, by rw [← s.sr.len]; exact hl⟩
    · rw [slot_put, if_neg (fun e => hk e.1.symm)] at e2
      rw [List.getElem?_set_ne (Ne.symm hk)]
      exact not_old (H1 := H) s1 rf' k dk o p ep e2 h1 n2 h3
theorem ps_parT {i j : Nat} {x y : Str} {e1 e2 : Expr} {i1 i2 : E} {px py pt pos pt2 : Pos} {kt k2 : Nat} (hc : X.calm = true) (hN : X.N.Nodup) (hi : X.N[i]? = some x) (hj : X.N[j]? = some y) (hij : i ≠ j) (hx : Loc X.env.scope x) (fx : X.fn x = true ∨ X.env.scope.names.lookup x = some .local) (hy : Loc X.env.scope y) (fy : X.fn y = true ∨ X.env.scope.names.lookup y = some .local) (hs1 : notStar e1 = true) (hs2 : notStar e2 = true)
    (h1 : PE X e1 (tE c xc W X.kw i1 false)) (h2 : PE X e2 (tE c xc W X.kw i2 false)) (hw : swappedStores [.Tuple [.Name x px, .Name y py] kt pt] (.Tuple [e1, e2] k2 pt2) X.env = pure none) (hw2 : swapsWithSole [Expr.Tuple [Expr.Name x px, Expr.Name y py] kt pt] (Expr.Tuple [e1, e2] k2 pt2) pos.line X.env = pure false) (hw3 : List.map (fun x => x.snd) (assignEach [Expr.Tuple [Expr.Name x px, Expr.Name y py] kt pt] X.env) = [assign (Expr.Tuple [Expr.Name x px, Expr.Name y py] kt pt) X.env]) :
    PS X (.Assign [.Tuple [.Name x px, .Name y py] kt pt] (.Tuple [e1, e2] k2 pt2) pos) (tS c xc W X.kw (.par [i, j] (.cons i1 (.cons i2 .nil)))) :=
  impS (ps_asg (pe_tup (pa_cons h1 (pa_cons h2 pa_nil (star_cons hs2)) (star_cons hs1))) (pg_tup hc (pgs_cons (pg_name hN hi hx fx) (pgs_cons (pg_name hN hj hy fy) pgs_nil))) hw2 hw hw3) fun D σ H h => by
    obtain ⟨Hf0, H0, ρ, Hf, s, a⟩ := h
    have a1 : EndF X.kw Hf0 H0 Hf xc W D (toF ρ (evE c i1 false ρ) fun d => toF ρ (evE c i2 false ρ) fun d' => .nx (put (put ρ i (some (d, flag (i1.fresh c.fr) d))) j (some (d', flag (i2.fresh c.fr) d')))) := by
      simp only [evS, evEs] at a
      cases q : evE c i1 false ρ with
      | ok d => cases q2 : evE c i2 false ρ <;> (rw [q, q2] at a; exact a)
      | exc z => rw [q] at a; exact a
      | bad => rw [q] at a; exact a
    refine ⟨ρ, Hf, s.sr, (EndF.after a1 s).imp fun d H1f H1 x1 a2 v rv => ?_⟩
    obtain ⟨Hg, y1, sg, rf⟩ := rm_keep (Hfx := Hf) (H1 := H) rv x1
    have s1 := s.step y1
    refine ⟨ρ, Hg, s1.sr, (EndF.after (a2.less y1.s1) s1).imp fun d' H2f H2 x2 a3 v' rv' => ?_⟩
    obtain ⟨Hk, y2, sk, rf'⟩ := rm_keep (Hfx := Hf) (H1 := H) rv' x2
    refine ⟨show (2 : Nat) ≤ sizeLine by decide, fun p hp => ⟨p, [v, v'], rfl, SqT.of upd_same, rfl, v, [v'], rfl, v', [], rfl, rfl, ?_⟩⟩
    have z : Ext Hk H2 Hk (upd H2 p (.tup [v, v'])) := Ext.own y2.sub hp
    have rf2 := (rf.ext y2).ext z
    have rf3 := rf'.ext z
    refine a3 _ Hk _ ?_ y2.s1
    have s2 := ((s1.step y2).step z).put i rf2 s.ext.s2 (fun j d' o p e1 e2 h1 n2 h2 h3 => not_old (H1 := H) s rf2 j d' o p e1 e2 h1 n2 h3) (nd_old (H1 := H) s (y1.s2.trans (y2.s2.trans z.s2)) rf2 i)
    refine s2.put j rf3 s1.ext.s2 (fun k dk o p ep e2 h1 n2 h2 h3 => ?_) (fun h => nd_put (flag_ne2 _ _) (nd_old (H1 := H) s1 (y2.s2.trans z.s2) rf3 j h))
    by_cases hk : k = i
    · subst hk
      intro e4
      have hl : k < σ.length := by
        rcases Nat.lt_or_ge k σ.length with h | h
        · exact h
        · rw [List.getElem?_eq_none (by rw [List.length_set]; exact h)] at e4; cases e4
      rw [List.getElem?_set_self hl] at e4
      cases e4
      rw [slot_put] at e2
      split at e2
      · cases e2
        unfold RF at rf rf'
        rw [if_neg h3] at rf'
        rw [if_neg h1] at rf
        obtain ⟨_, p2, ob2, q1, q2, _⟩ := rf'
        obtain ⟨_, p1, ob1, r1, _, _, r2, _⟩ := rf
        rw [ep] at q1
        cases q1
        cases r1
        rw [q2] at r2; cases r2
      · rename_i hn
        exact hn ⟨rfl, by rw [← s.sr.len]; exact hl⟩
    · rw [slot_put, if_neg (fun e => hk e.1.symm)] at e2
      rw [List.getElem?_set_ne (Ne.symm hk)]
      exact not_old (H1 := H) s1 rf3 k dk o p ep e2 h1 n2 h3
theorem ps_passQ {pos : Pos} : PS X (.Pass pos) (tS c xc W X.kw .pass) := impS ps_pass fun D σ H h => by
  obtain ⟨Hf0, H0, ρ, Hf, s, a⟩ := h
  exact a σ Hf H s (Same.refl _)
theorem ps_brkQ {pos : Pos} : PS X (.Break pos) (tS c xc W X.kw .brk) := impS ps_break fun D σ H h => by
  obtain ⟨Hf0, H0, ρ, Hf, s, a⟩ := h
  exact a σ Hf H s (Same.refl _)
theorem ps_contQ {pos : Pos} : PS X (.Continue pos) (tS c xc W X.kw .cont) := impS ps_continue fun D σ H h => by
  obtain ⟨Hf0, H0, ρ, Hf, s, a⟩ := h
  exact a σ Hf H s (Same.refl _)
theorem ps_retnQ {pos : Pos} : PS X (.Return none pos) (tS c xc W X.kw .retn) := impS ps_retN fun D σ H h => by
  obtain ⟨Hf0, H0, ρ, Hf, s, a⟩ := h
  exact a _ Hf H s.ext (show RR X.kw false H0 Hf H .non .none from .non)
theorem ps_retV {i : Nat} {x : Str} {pos pos' : Pos} (hN : X.N[i]? = some x) (hv : Vis X.env.scope x) (h1 : (x == ("__debug__" : Str)) = false) (h2 : (x == ("__classdict__" : Str)) = false) : PS X (.Return (some (.Name x pos')) pos) (tS c xc W X.kw (.ret (.v i))) :=
  impS (ps_ret (pe_var hN hv h1 h2)) fun D σ H h => by
    obtain ⟨Hf0, H0, ρ, Hf, s, a⟩ := h
    have a1 : EndF X.kw Hf0 H0 Hf xc W D (toF ρ (evR c (.v i) ρ) fun r => .rt r.1 r.2) := by simpa only [evS] using a
    unfold evR at a1
    simp only at a1
    cases e : slot ρ i with
    | none => rw [e] at a1; exact a1.elim
    | some z =>
      obtain ⟨d, o⟩ := z
      rw [e] at a1
      by_cases n2 : o = 2
      · subst n2; exact a1.elim
      have a2 : EndF X.kw Hf0 H0 Hf xc W D (.rt d (o != 0)) := by
        have eo : (o == 2) = false := by simpa using n2
        simp only [eo, Bool.false_eq_true, if_false] at a1
        exact a1
      obtain ⟨v, g1, g2⟩ := s.sr.at_ i d o e n2
      refine ⟨v, g1, a2 v Hf H s.ext ?_⟩
      unfold RR
      by_cases ho : o = 0
      · subst ho
        rw [if_pos rfl] at g2
        exact g2
      · rw [if_neg ho] at g2
        obtain ⟨p, ob, rfl, g3, g4, g5⟩ := g2
        have hp : H0 p = none := s.new i d o p e ho n2 g1
        rw [if_pos (by simp [ho])]
        exact ⟨p, ob, rfl, hp, g3, g4, g5⟩
end
end Q
set_option Elab.async false
set_option linter.all false
set_option maxRecDepth 100000
/-! More statements: choice, loops, lists that are changed, raise; functions. -/
namespace Q
open PySem PySem.W PySem.Spec L2
open PyProof.Rows hiding St
section
variable {X : Cx} {c : Ctx} {xc : Nat → Value} {W : WX} {K : Frag} {Hf0 H0 Hf H Hf' H' Hfs : Hp} {σ : L2.St} {ρ : Env} {D : Ends}
def notName : E → Bool
  | .v _ => false
  | _ => true
theorem ps_retQ {e : Expr} {ie : E} {pos : Pos} (he : PE X e (tE c xc W X.kw ie false)) (hn : notName ie = true) : PS X (.Return (some e) pos) (tS c xc W X.kw (.ret ie)) :=
  impS (ps_ret he) fun D σ H h => by
    obtain ⟨Hf0, H0, ρ, Hf, s, a⟩ := h
    have a1 : EndF X.kw Hf0 H0 Hf xc W D (toF ρ (evE c ie false ρ) fun d => .rt d (ie.fresh c.fr && isMut d)) := by
      simp only [evS] at a
      have : evR c ie ρ = (evE c ie false ρ >>= fun d => .ok (d, ie.fresh c.fr && isMut d)) := by
        cases ie <;> first | rfl | exact absurd hn Bool.false_ne_true
      rw [this] at a
      cases q : evE c ie false ρ with
      | ok d => rw [q] at a; exact a
      | exc z => rw [q] at a; exact a
      | bad => rw [q] at a; exact a
    refine ⟨ρ, Hf, s.sr, (EndF.after a1 s).imp fun d H1f H1 x1 a2 v rv => ?_⟩
    obtain ⟨Hg, y, sg, rf⟩ := rm_keep (Hfx := Hf) (H1 := H) rv x1
    refine a2 v Hg H1 (s.ext.trans y) ?_
    unfold RF flag at rf
    unfold RR
    cases hb : (ie.fresh c.fr && isMut d) with
    | true =>
      rw [hb, if_neg (by decide)] at rf
      obtain ⟨_, p, ob, e1, e2, e3, e4, e5⟩ := rf
      exact ⟨p, ob, e1, none_sub s.ext.s2 e2, e3, e4, e5⟩
    | false =>
      rw [hb, if_pos (by decide)] at rf
      exact rf
theorem ps_ifQ {t : Expr} {a b : List Stmt} {pos : Pos} {it : T} {ia ib : Ss} (ht : PT X t (tT c xc W X.kw it)) (ha : PSs X a (tSs c xc W X.kw ia)) (hb : PSs X b (tSs c xc W X.kw ib)) : PS X (.If t a b pos) (tS c xc W X.kw (.ifs it ia ib)) :=
  impS (ps_if ht ha hb) fun D σ H h => by
    obtain ⟨Hf0, H0, ρ, Hf, s, a⟩ := h
    have a1 : EndF X.kw Hf0 H0 Hf xc W D (toF ρ (evT c it ρ) fun k => if k then evSs c ia ρ else evSs c ib ρ) := by simpa only [evS] using a
    refine ⟨ρ, Hf, s.sr, (EndF.after a1 s).imp fun k H1f H1 x1 a2 => ?_⟩
    cases k with
    | true => exact ⟨Hf0, H0, ρ, H1f, s.step x1, a2.less x1.s1⟩
    | false => exact ⟨Hf0, H0, ρ, H1f, s.step x1, a2.less x1.s1⟩
theorem pss_nQ : PSs X [] (tSs c xc W X.kw .nil) := impSs pss_nil fun D σ H h => by
  obtain ⟨Hf0, H0, ρ, Hf, s, a⟩ := h
  exact a σ Hf H s (Same.refl _)
theorem pss_cQ {st : Stmt} {l : List Stmt} {i : S} {il : Ss} (h : PS X st (tS c xc W X.kw i)) (hl : PSs X l (tSs c xc W X.kw il)) : PSs X (st :: l) (tSs c xc W X.kw (.cons i il)) :=
  impSs (pss_cons h hl) fun D σ H hh => by
    obtain ⟨Hf0, H0, ρ, Hf, s, a⟩ := hh
    refine ⟨Hf0, H0, ρ, Hf, s, ?_⟩
    simp only [evSs] at a
    cases e : evS c i ρ with
    | nx ρ' =>
      rw [e] at a
      exact fun σ' Hf' H' s' sm => ⟨Hf0, H0, ρ', Hf', s', EndF.less a sm⟩
    | bk ρ' => rw [e] at a; exact a
    | ct ρ' => rw [e] at a; exact a
    | rt d o => rw [e] at a; exact a
    | ex x ρ' => rw [e] at a; exact a
    | bad => rw [e] at a; exact a
/-- owned things are held still: no statement of its own -/
theorem pss_frzQ {l : List Stmt} {is : List Nat} {il : Ss} (hl : PSs X l (tSs c xc W X.kw il)) : PSs X l (tSs c xc W X.kw (.cons (.frz is) il)) :=
  impSs hl fun D σ H hh => by
    obtain ⟨Hf0, H0, ρ, Hf, s, a⟩ := hh
    obtain ⟨Hf', sm, s'⟩ := SI.frz is s
    exact ⟨Hf0, H0, freeze ρ is, Hf', s', EndF.less (by simpa only [evSs, evS] using a) sm⟩
theorem ps_movQ {i j : Nat} {x y : Str} {pos pos' pos'' : Pos} (hN : X.N.Nodup) (hi : X.N[i]? = some x) (hx : Loc X.env.scope x) (hfx : X.fn x = true ∨ X.env.scope.names.lookup x = some .local) (hj : X.N[j]? = some y) (hv : Vis X.env.scope y) (h1 : (y == ("__debug__" : Str)) = false) (h2 : (y == ("__classdict__" : Str)) = false) (hij : i ≠ j) : PS X (.Assign [.Name x pos'] (.Name y pos'') pos) (tS c xc W X.kw (.mov i j)) :=
  impS (ps_set hN hi hx (pe_var hj hv h1 h2) rfl hfx) fun D σ H h => by
    obtain ⟨Hf0, H0, ρ, Hf, s, a⟩ := h
    simp only [evS] at a
    have sw' : SI X.kw Hf0 H0 σ (put ρ j none) Hf H := s.wipe [j]
    split at a
    · rename_i d e
      obtain ⟨v, g1, g2⟩ := s.sr.at_ j d 0 e (by decide)
      rw [if_pos rfl] at g2
      exact ⟨v, g1, a _ Hf H (sw'.put (H1 := H0) i (by unfold RF; rw [if_pos rfl]; exact g2) (Same.refl _) (fun _ _ _ _ _ _ _ _ _ h => absurd rfl h) (fun h => absurd rfl h)) (Same.refl _)⟩
    · rename_i d e
      obtain ⟨v, g1, g2⟩ := s.sr.at_ j d 1 e (by decide)
      rw [if_neg (by decide)] at g2
      obtain ⟨p, ob, rfl, g3, g4, g5⟩ := g2
      have h0 := s.new j d 1 p e (by decide) (by decide) g1
      refine ⟨_, g1, a _ Hf H (sw'.put (H1 := H0) (fl := 1) i (by unfold RF; rw [if_neg (by decide)]; exact ⟨rfl, p, ob, rfl, h0, g3, g4, g5⟩) (Same.refl _) (fun k dk ok p' ep ek hk nk hki _ e4 => ?_) (fun _ i' d' e1 hi p2 qs e2 e3 q hq eq => ?_)) (Same.refl _)⟩
      cases ep
      rw [slot_put] at ek
      split at ek
      · cases ek
      · rename_i hn
        have := s.sr.sep k j _ _ _ _ ek hk nk e (by decide) (by decide) (by rw [e4, g1])
        subst this
        exact hn ⟨rfl, slot_lt ek⟩
      rw [slot_put] at e1
      split at e1
      · cases e1
      · rename_i hn
        have hij : j ≠ i' := fun e' => hn ⟨e', by subst e'; exact slot_lt e1⟩
        obtain ⟨p3, qs3, ds, q1, q2, nd, q3, q4, q5, q6⟩ := s.deep i' d' e1
        rw [e2] at q1
        cases q1
        rw [e3] at q4
        have e5 : qs = qs3 := (List.map_inj_right (fun a b h => by cases h; rfl)).mp (HO.lst.inj (Option.some.inj q4))
        subst e5
        cases eq
        exact (q6 j d 1 e (by decide) hij).2 _ hq g1
    · exact a.elim
/-! ### loops -/
theorem ps_forQ {tg iter : Expr} {body : List Stmt} {pos : Pos} {ig : Tg} {it : I} {ib : Ss} {w : List Nat} (hp : PassesOwn (model X.prog X.w) X.A X.env X.xe) (hc : X.calm = true) (hi : PI X tg iter (tI c xc W X.kw it false)) (hg : PG X tg (gT X.kw ig)) (hb : PSs X body (tSs c xc W X.kw ib)) (hf : ∀ x : Value, foldedSetIterable iter X.env x = pure x) :
    PS X (.For tg iter body [] pos) (tS c xc W X.kw (.for ig it ib w)) :=
  impS (ps_for hp hc hi hg hb hf) fun D σ H h => by
    obtain ⟨Hf0, H0, ρ, Hf, s, a⟩ := h
    let step : _root_.Q.D → Env → F := fun d ρ => toF ρ (ig.bind d ρ) fun ρ' => evSs c ib ρ'
    have a1 : EndF X.kw Hf0 H0 Hf xc W D (toF ρ (evI c it false ρ) fun xs => forL step w xs ρ) := by simpa only [evS] using a
    refine ⟨ρ, Hf, s.sr, (EndF.after a1 s).imp fun ds H1f H1 x1 a2 J wk => ?_⟩
    refine ⟨fun i m σ' H' => ∃ ρ' Hf', m = ds.length - i ∧ i ≤ ds.length ∧ SI X.kw Hf0 H0 σ' ρ' Hf' H' ∧ Same H1f Hf' ∧ EndF X.kw Hf0 H0 Hf' xc W D (forL step w (ds.drop i) ρ'), ⟨ds.length, ρ, H1f, rfl, Nat.zero_le _, s.step x1, Same.refl _, a2.less x1.s1⟩, fun i m σ' H' hW => ?_⟩
    obtain ⟨ρ', Hf', em, hi, si, sm, an⟩ := hW
    obtain ⟨w1, w2⟩ := wk Hf' H' ⟨sm, si.sr.sub⟩ i
    by_cases hlt : i < ds.length
    · right
      obtain ⟨d, ed⟩ : ∃ d, ds[i]? = some d := ⟨ds[i], List.getElem?_eq_getElem hlt⟩
      obtain ⟨g1, g2⟩ := w2 d ed
      have edrop : ds.drop i = d :: ds.drop (i + 1) := by
        rw [List.getElem?_eq_getElem hlt] at ed
        cases ed
        exact List.drop_eq_getElem_cons hlt
      rw [edrop, forL] at an
      refine ⟨g1, fun σ2 H2 => ∃ m', m' < m ∧ ∃ ρ' Hf', m' = ds.length - (i + 1) ∧ i + 1 ≤ ds.length ∧ SI X.kw Hf0 H0 σ2 ρ' Hf' H2 ∧ Same H1f Hf' ∧ EndF X.kw Hf0 H0 Hf' xc W D (forL step w (ds.drop (i + 1)) ρ'), fun σ2 H2 hn => hn, fun v H'' hy => ?_⟩
      obtain ⟨Hf2, x2, rv⟩ := g2 v H'' hy
      have siw := (si.wipe w).step x2
      cases eb : ig.bind d (wipe ρ' w) with
      | ok ρ2 =>
        refine ⟨wipe ρ' w, Hf2, d, ρ2, siw.sr, rv, eb, fun σ3 sr bd => ⟨Hf0, H0, ρ2, Hf2, siw.of_bd sr bd, ?_⟩⟩
        have es : step d (wipe ρ' w) = evSs c ib ρ2 := by show toF _ (ig.bind d (wipe ρ' w)) _ = _; rw [eb]; rfl
        rw [es] at an
        have next : ∀ ρ3 σ3 Hf3 H3, EndF X.kw Hf0 H0 Hf' xc W D (forL step w (ds.drop (i + 1)) ρ3) → SI X.kw Hf0 H0 σ3 ρ3 Hf3 H3 → Same Hf2 Hf3 → ∃ m', m' < m ∧ ∃ ρ' Hf', m' = ds.length - (i + 1) ∧ i + 1 ≤ ds.length ∧ SI X.kw Hf0 H0 σ3 ρ' Hf' H3 ∧ Same H1f Hf' ∧ EndF X.kw Hf0 H0 Hf' xc W D (forL step w (ds.drop (i + 1)) ρ') := fun ρ3 σ3 Hf3 H3 an s3 sm3 =>
          ⟨ds.length - (i + 1), by omega, ρ3, Hf3, rfl, hlt, s3, sm.trans (x2.s1.trans sm3), an.less (x2.s1.trans sm3)⟩
        cases e2 : evSs c ib ρ2 with
        | nx ρ3 => rw [e2] at an; exact fun σ4 Hf4 H4 s4 sm4 => next ρ3 σ4 Hf4 H4 an s4 sm4
        | ct ρ3 => rw [e2] at an; exact fun σ4 Hf4 H4 s4 sm4 => next ρ3 σ4 Hf4 H4 an s4 sm4
        | bk ρ3 => rw [e2] at an; exact fun σ4 Hf4 H4 s4 sm4 => an σ4 Hf4 H4 (s4.wipe w) (x2.s1.trans sm4)
        | rt d o => rw [e2] at an; exact an
        | ex x ρ3 => rw [e2] at an; exact fun σ4 Hf4 H4 s4 sm4 => an σ4 Hf4 H4 s4 (x2.s1.trans sm4)
        | bad => rw [e2] at an; exact an
      | exc x => exact absurd eb (ps_asgT.tg_noexc _ _ _ _)
      | bad =>
        have es : step d (wipe ρ' w) = .bad := by show toF _ (ig.bind d (wipe ρ' w)) _ = _; rw [eb]; rfl
        rw [es] at an
        exact an.elim
    · left
      rw [List.drop_eq_nil_of_le (by omega), forL] at an
      exact ⟨w1 (by omega), an σ' Hf' H' (si.wipe w) (Same.refl _)⟩
theorem ps_whileQ {t : Expr} {body : List Stmt} {pos : Pos} {it : T} {ib : Ss} {w : List Nat} (hp : PassesOwn (model X.prog X.w) X.A X.env X.xe) (ht : PT X t (tT c xc W X.kw it)) (hb : PSs X body (tSs c xc W X.kw ib)) : PS X (.While t body [] pos) (tS c xc W X.kw (.while it ib w)) :=
  impS (ps_while hp ht hb) fun D σ H h => by
    obtain ⟨Hf0, H0, ρ, Hf, s, a⟩ := h
    let tt : Env → R Bool := fun ρ => evT c it ρ
    let step : Env → F := fun ρ => evSs c ib ρ
    have a1 : EndF X.kw Hf0 H0 Hf xc W D (whileL tt step w FUEL ρ) := by simpa only [evS] using a
    refine ⟨fun m σ' H' => ∃ ρ' Hf', SI X.kw Hf0 H0 σ' ρ' Hf' H' ∧ EndF X.kw Hf0 H0 Hf' xc W D (whileL tt step w m ρ'), ⟨FUEL, ρ, Hf, s, a1⟩, fun m σ' H' hW => ?_⟩
    obtain ⟨ρ', Hf', si, an⟩ := hW
    cases m with
    | zero => exact an.elim
    | succ m =>
      rw [whileL] at an
      have siw := si.wipe w
      refine ⟨wipe ρ' w, Hf', siw.sr, (EndF.after an siw).imp fun k H1f H1 x1 a2 => ?_⟩
      cases k with
      | false => exact a2 σ' H1f H1 (siw.step x1) x1.s1
      | true =>
        refine ⟨fun σ2 H2 => ∃ m', m' < m + 1 ∧ ∃ ρ' Hf', SI X.kw Hf0 H0 σ2 ρ' Hf' H2 ∧ EndF X.kw Hf0 H0 Hf' xc W D (whileL tt step w m' ρ'), fun σ2 H2 hn => hn, Hf0, H0, wipe ρ' w, H1f, siw.step x1, ?_⟩
        have a3 : EndF X.kw Hf0 H0 Hf' xc W D (match step (wipe ρ' w) with
          | .nx ρ' => whileL tt step w m ρ'
          | .ct ρ' => whileL tt step w m ρ'
          | .bk ρ' => .nx (wipe ρ' w)
          | r => r) := a2
        have a4 := a3.less x1.s1
        show EndF X.kw Hf0 H0 H1f xc W _ (step (wipe ρ' w))
        cases e2 : step (wipe ρ' w) with
        | nx ρ3 => rw [e2] at a4; exact fun σ4 Hf4 H4 s4 sm4 => ⟨m, Nat.lt_succ_self _, ρ3, Hf4, s4, EndF.less a4 sm4⟩
        | ct ρ3 => rw [e2] at a4; exact fun σ4 Hf4 H4 s4 sm4 => ⟨m, Nat.lt_succ_self _, ρ3, Hf4, s4, EndF.less a4 sm4⟩
        | bk ρ3 => rw [e2] at a4; exact fun σ4 Hf4 H4 s4 sm4 => a4 σ4 Hf4 H4 (s4.wipe w) sm4
        | rt d o => rw [e2] at a4; exact a4
        | ex x ρ3 => rw [e2] at a4; exact a4
        | bad => rw [e2] at a4; exact a4
/-! ### lists that are changed -/
theorem Con.list {xs : List _root_.Q.D} {ob : HO} {p : Addr} (q : Con K Hf p ob (.list xs)) : ∃ vs, ob = .lst vs ∧ RpAll K Hf vs xs := by
  cases q with
  | lst r => exact ⟨_, rfl, r⟩
theorem ps_appQ {i : Nat} {x : Str} {e : Expr} {ie : E} {p1 apos cpos pos : Pos} (hi : X.N[i]? = some x) (hv : Vis X.env.scope x) (h1 : (x == ("__debug__" : Str)) = false) (h2 : (x == ("__classdict__" : Str)) = false) (hs : notStar e = true) (he : PE X e (tE c xc W X.kw ie false)) (hl : (apos.endLine == cpos.line) = true) :
    PS X (.Expr (.Call (.Attribute (.Name x p1) "append" apos) [e] [] cpos) pos) (tS c xc W X.kw (.app i ie)) := by
  refine impS (ps_expr (pe_bm PySem.F.plainAttrs_list PySem.F.slot_list_append PySem.F.type_list_append mt_append (pe_var hi hv h1 h2) (pa_cons he pa_nil (star_cons hs)) rfl (by rw [star_cons hs]; rfl) hl (star_cons hs) rfl) rfl) fun D σ H h => ?_
  obtain ⟨Hf0, H0, ρ, Hf, s, a⟩ := h
  simp only [evS] at a
  split at a
  · rename_i xs eo
    obtain ⟨es, p, ob, ep, hf, hp, q⟩ := s.at_own eo
    obtain ⟨vs, rfl, rp⟩ := q.list
    refine ⟨.ref p, ep, .inl ⟨rfl, vs, .inl (.inl hp)⟩, ρ, Hf, s.sr, (EndF.after a s).imp fun d H1f H1 x1 a2 v rv => ?_⟩
    obtain ⟨Hg, y, sg, rv'⟩ := rv.rv.hold x1
    split at a2
    · rename_i hlen
      refine ⟨p, vs, v, rfl, rfl, x1.s2 _ _ hp, by rw [rp.len, ← LIM_eq]; exact hlen, ?_⟩
      refine a2 σ Hg _ ((s.step y).mut es ep ?_ (x1.s2 _ _ hp) (.lst ((rp.mono y.s1).app (.cons rv' .nil)))) y.s1
      exact y.hid p _ hp rfl hf
    · exact a2.elim
  · exact a.elim
theorem ps_extQ {i : Nat} {x : Str} {e : Expr} {ie : E} {p1 apos cpos pos : Pos} (hi : X.N[i]? = some x) (hv : Vis X.env.scope x) (h1 : (x == ("__debug__" : Str)) = false) (h2 : (x == ("__classdict__" : Str)) = false) (hs : notStar e = true) (he : PE X e (tE c xc W X.kw ie false)) (hl : (apos.endLine == cpos.line) = true) :
    PS X (.Expr (.Call (.Attribute (.Name x p1) "extend" apos) [e] [] cpos) pos) (tS c xc W X.kw (.ext i ie)) := by
  refine impS (ps_expr (pe_bm PySem.F.plainAttrs_list PySem.F.slot_list_extend PySem.F.type_list_extend mt_extend (pe_var hi hv h1 h2) (pa_cons he pa_nil (star_cons hs)) rfl (by rw [star_cons hs]; rfl) hl (star_cons hs) rfl) rfl) fun D σ H h => ?_
  obtain ⟨Hf0, H0, ρ, Hf, s, a⟩ := h
  simp only [evS] at a
  split at a
  · rename_i xs eo
    obtain ⟨es, p, ob, ep, hf, hp, q⟩ := s.at_own eo
    obtain ⟨vs, rfl, rp⟩ := q.list
    refine ⟨.ref p, ep, .inl ⟨rfl, vs, .inl (.inl hp)⟩, ρ, Hf, s.sr, (EndF.after a s).imp fun d H1f H1 x1 a2 v rv => ?_⟩
    split at a2
    · rename_i ys hfr
      have rn : RN X.kw H H1f H1 v (.list ys) := by
        have r' : RM X.kw false true H H1f H1 v (.list ys) := hfr ▸ rv
        exact r'
      unfold RN at rn
      rw [if_pos (show isMut (.list ys) = true from rfl)] at rn
      obtain ⟨p', ob', rfl, g1, g2, g3, q'⟩ := rn
      obtain ⟨ws, rfl, rp'⟩ := q'.list
      split at a2
      · rename_i hlen
        refine ⟨p, p', vs, ws, rfl, rfl, x1.s2 _ _ hp, g3, by rw [rp.len, rp'.len, ← LIM_eq]; exact hlen, ?_⟩
        refine a2 σ H1f _ ((s.step x1).mut es ep ?_ (x1.s2 _ _ hp) (.lst ((rp.mono x1.s1).app rp'))) x1.s1
        exact x1.hid p _ hp rfl hf
      · exact a2.elim
    · exact a2.elim
  · exact a.elim
/-! ### x += e, for ints -/
theorem ps_augQ {i : Nat} {x : Str} {e : Expr} {ie : E} {o : Op} {bop : Operator} {pos pos' : Pos} (hN : X.N.Nodup) (hi : X.N[i]? = some x) (hx : Loc X.env.scope x) (hfx : X.fn x = true ∨ X.env.scope.names.lookup x = some .local) (hs : notStar e = true) (he : PE X e (tE c xc W X.kw ie false)) {t : TIp} (ho : PIp X bop t) (ht : ∀ i j d, sem o [.int i, .int j] = .ok d → ∃ k, d = .int k ∧ ∀ H (Q : VK), Q (.int k) H → t (.int i) (.int j) H Q) :
    PS X (.AugAssign (.Name x pos') bop e pos) (tS c xc W X.kw (.aug i o ie)) :=
  impS (ps_aug hN hi hx he ho hfx) fun D σ H h => by
    obtain ⟨Hf0, H0, ρ, Hf, s, a⟩ := h
    simp only [evS] at a
    have a0 := a
    cases ev : evE c (.v i) false ρ with
    | exc z =>
      exfalso
      simp only [evE] at ev
      split at ev
      · split at ev <;> cases ev
      · cases ev
    | bad => rw [ev] at a; exact a.elim
    | ok d =>
      rw [ev] at a
      have a1 : EndF X.kw Hf0 H0 Hf xc W D (toF ρ (evE c ie false ρ) fun y => toF ρ (semI o d y) fun d => .nx (put ρ i (some (d, 0)))) := a
      obtain ⟨v, hv, rv⟩ : ∃ v, σ[i]? = some (some v) ∧ Rp X.kw Hf v d := by
        simp only [evE] at ev
        split at ev
        · rename_i d' o' es
          split at ev
          · rename_i h0
            cases ev
            have : o' = 0 := by simpa using h0
            subst this
            exact s.sr.rp es
          · cases ev
        · cases ev
      refine ⟨v, hv, ρ, Hf, s.sr, (EndF.after a1 s).imp fun d' H1f H1 x1 a2 v' rv' => ?_⟩
      obtain ⟨Hg, y, sg, rp'⟩ := rv'.rv.hold x1
      unfold semI at a2
      split at a2
      · rename_i k l
        cases rv
        cases rp'
        cases es : sem o [.int k, .int l] with
        | ok d2 =>
          rw [es] at a2
          obtain ⟨z, rfl, hz⟩ := ht k l d2 es
          exact hz _ _ (a2 _ Hg H1 ((s.step y).put (H1 := H0) (fl := 0) i (by unfold RF; rw [if_pos rfl]; exact .int z) (Same.refl _) (fun _ _ _ _ _ _ _ _ _ h => absurd rfl h) (fun h => absurd rfl h)) y.s1)
        | exc z => exact absurd es (sem_noexc _ _ _)
        | bad => rw [es] at a2; exact a2.elim
      · exact a2.elim
theorem ip_addQ : PIp X .Add (ipI fun i j => i + j) ∧ ∀ i j d, sem .add [.int i, .int j] = .ok d → ∃ k, d = .int k ∧ ∀ H (Q : VK), Q (.int k) H → ipI (fun i j => i + j) (.int i) (.int j) H Q :=
  ⟨ip_add, fun i j d h => by cases h; exact ⟨_, rfl, fun H Q q => ⟨i, j, rfl, rfl, q⟩⟩⟩
theorem ip_subQ : PIp X .Sub (ipI fun i j => i - j) ∧ ∀ i j d, sem .sub [.int i, .int j] = .ok d → ∃ k, d = .int k ∧ ∀ H (Q : VK), Q (.int k) H → ipI (fun i j => i - j) (.int i) (.int j) H Q :=
  ⟨ip_sub, fun i j d h => by cases h; exact ⟨_, rfl, fun H Q q => ⟨i, j, rfl, rfl, q⟩⟩⟩
theorem ip_fdivQ : PIp X .FloorDiv (rI CDiv fun i j => .int (i / j)) ∧ ∀ i j d, sem .fdiv [.int i, .int j] = .ok d → ∃ k, d = .int k ∧ ∀ H (Q : VK), Q (.int k) H → rI CDiv (fun i j => .int (i / j)) (.int i) (.int j) H Q :=
  ⟨iop_fdiv, fun i j d h => by
    have h' : sDiv [.int i, .int j] = .ok d := h
    unfold sDiv at h'
    simp only at h'
    split at h'
    · rename_i hh
      cases h'
      simp only [Bool.and_eq_true, decide_eq_true_eq] at hh
      exact ⟨_, rfl, fun H Q q => ⟨i, j, rfl, rfl, hh, q⟩⟩
    · cases h'⟩
/-! ### raise -/
structure ExFact (X : Cx) (xc : Nat → Value) (n : Nat) (x : Str) : Prop where
  ex : ∃ (C : Addr) (bmB : List Value) (B newId initId : String), ExcBaseFacts B newId initId bmB ∧ excIn X.kw C bmB newId = true ∧ X.mg x = some (Value.ref C) ∧ keepIn X.kw (Value.ref C) = true ∧ Raises X (Value.ref C) ∧ xc n = .ref C
theorem ps_raiseQ {n : Nat} {x m : Str} {j : Nat} {p p2 pos pos' : Pos} (hc : X.calm = true) (tk : Takes X W) (F : ExFact X xc n x) (hg : Gl X x) (hd : (x == ("__debug__" : Str)) = false) :
    PS X (.Raise (some (.Call (.Name x p) [.Constant (.str m) j p2] [] pos)) none pos') (tS c xc W X.kw (.raise n)) := by
  obtain ⟨C, bmB, B, newId, initId, h1, h2, h3, h4, h5, h6⟩ := F.ex
  refine impS (ps_raise hc tk (pmk_own h1 h2 h3 h4 h5 hg hd)) fun D σ H h => ?_
  obtain ⟨Hf0, H0, ρ, Hf, s, a⟩ := h
  have := a σ Hf H s (Same.refl _)
  rw [h6] at this
  exact this
/-! ### functions -/
theorem start_at {N : List Str} {vs : List V} {i : Nat} {v : V} (h : vs[i]? = some v) : (L2.start N vs)[i]? = some (some v) := by
  unfold L2.start
  have hl : i < vs.length := by
    rcases Nat.lt_or_ge i vs.length with h' | h'
    · exact h'
    · rw [List.getElem?_eq_none h'] at h; cases h
  rw [List.getElem?_append_left (by rw [List.length_map]; exact hl), List.getElem?_map, h]
  rfl
theorem entry_slot {n : Nat} {ds : List _root_.Q.D} {i : Nat} {d : _root_.Q.D} {o : Nat} (h : slot (entry n ds) i = some (d, o)) : o = 0 ∧ ds[i]? = some d := by
  unfold entry at h
  induction ds generalizing i n with
  | nil =>
    exfalso
    have : ∀ k i, slot (List.replicate k (none : Sl)) i = none := fun k => by
      induction k with
      | zero => intro i; rfl
      | succ k ih => intro i; cases i with
        | zero => rfl
        | succ i => exact ih i
    rw [List.map_nil, List.nil_append, this] at h
    cases h
  | cons x r ih =>
    cases i with
    | zero => cases h; exact ⟨rfl, rfl⟩
    | succ i =>
      have := ih (n := n - 1) (i := i) (by
        simpa [slot, List.map_cons, List.length_cons, Nat.sub_sub, Nat.add_comm] using h)
      exact ⟨this.1, by simpa using this.2⟩
theorem entry_len {n : Nat} {ds : List _root_.Q.D} (h : ds.length ≤ n) : (entry n ds).length = n := by
  unfold entry
  rw [List.length_append, List.length_map, List.length_replicate]
  omega
theorem si_start {N : List Str} {vs : List V} {ds : List _root_.Q.D} {n : Nat} (s : Same Hf H) (r : RpAll K Hf vs ds) (hn : N.length = n) (hl : ds.length ≤ n) : SI K Hf H (L2.start N vs) (entry n ds) Hf H := by
  refine ⟨⟨?_, s, fun i d o e _ => ?_, fun i j d d' o o' e1 h1 _ e2 h2 _ e3 => absurd (entry_slot e1).1 h1⟩, Ext.refl s, fun i d o p e h0 _ ep => absurd (entry_slot e).1 h0, fun i d e => absurd (entry_slot e).1 (by decide)⟩
  · unfold L2.start
    rw [entry_len hl, List.length_append, List.length_map, List.length_replicate, r.len]
    omega
  · obtain ⟨rfl, e1⟩ := entry_slot e
    obtain ⟨v, h1, h2⟩ := r.get e1
    exact ⟨v, start_at h1, by rw [if_pos rfl]; exact h2⟩
/-- a function's body gives the function -/
theorem body_ends {call : Nat → List _root_.Q.D → R (_root_.Q.D × Bool)} {fn : Fn} {f : Nat} {N : List Str} {vs : List V} {Q : VK} {E : XK} (hrun : ∀ ds, call f ds = run c fn ds) (hn : N.length = fn.ns) (hp : fn.np ≤ fn.ns) (h : spF K call xc f vs H Q E) :
    vs.length = fn.np ∧ tSs c xc (fun cls d _ H => E cls d H) K fn.body { nx := fun x H' => Q V.non H', rt := Q } (L2.start N vs) H := by
  obtain ⟨Hf, ds, sm, rp, h⟩ := h
  rw [hrun] at h
  unfold run at h
  by_cases hl : ds.length = fn.np
  · rw [if_pos hl] at h
    refine ⟨by rw [rp.len]; exact hl, Hf, H, entry fn.ns ds, Hf, si_start sm rp hn (by omega), ?_⟩
    have hfit : ∀ d o (P : Prop), (match fits fn d o with
      | .ok r => ∀ v Hf' H', Ext Hf H Hf' H' → RR K r.2 H Hf' H' v r.1 → Q v H'
      | .exc x => ∀ Hf' H', Ext Hf H Hf' H' → E (xc x) none H'
      | .bad => False) → ∀ v Hf' H', Ext Hf H Hf' H' → RR K o H Hf' H' v d → Q v H' := fun d o P h => by
      unfold fits at h
      split at h
      · rename_i heq
        split at heq
        · cases heq
        · cases heq; exact h
      · rename_i heq
        split at heq <;> cases heq
      · exact h.elim
    cases e : evSs c fn.body (entry fn.ns ds) with
    | nx ρ' =>
      rw [e] at h
      exact fun σ' Hf' H' s' sm' => hfit _ _ True h _ Hf' H' s'.ext (show RR K false H Hf' H' .non .none from .non)
    | rt d o => rw [e] at h; exact hfit _ _ True h
    | ex x ρ' =>
      rw [e] at h
      exact fun σ' Hf' H' s' sm' => h Hf' H' s'.ext
    | bk ρ' => rw [e] at h; exact h.elim
    | ct ρ' => rw [e] at h; exact h.elim
    | bad => rw [e] at h; exact h.elim
  · rw [if_neg hl] at h
    exact h.elim
end
end Q
set_option Elab.async false
set_option linter.all false
set_option maxRecDepth 100000
/-! A program's text against the evaluator's: what a check says. -/
namespace Q
open PySem PySem.W PySem.Spec L2
open PyProof.Rows hiding St

structure Lw where
  tab : Tab
  fnn : List Str
  gln : List Str
  exn : List Str
def Lw.ctx (L : Lw) (k : Nat) : Ctx := L.tab.ctx (callF L.tab k)
def bnames : List Str := ["len", "tuple", "list", "int", "sorted", "all", "any", "min", "max", "sum", "abs", "range", "zip", "enumerate", "isinstance", "set", "bool", "str", "dict", "reversed", "type"]
/-- what the classes say of one another -/
structure SubFact (K : PySem.W.Frag) (xc : Nat → Value) (exn : List Str) (sub : Nat → Nat → Bool) : Prop where
  one : ∀ (x h : Nat) (y : Str), sub x x = true → exn[h]? = some y → PySem.W.exmOne K (xc x) (xc h) = some (sub x h) ∧ PySem.W.kitOne K (xc x) (xc h) = some (sub x h)
  exc : ∀ x, sub x x = true → ∃ C, xc x = .ref C ∧ ExcC K C
structure Gd (L : Lw) (xc : Nat → Value) (k : Nat) (X : Cx) : Prop where
  calm : X.calm = true
  nd : X.N.Nodup
  room : Room k X.A
  fn : ∀ (n : Nat) (x : Str), L.fnn[n]? = some x → FnFact X.prog X.w X.kw X.mg X.base (callF L.tab k) xc k n x
  gl : ∀ (i : Nat) (x : Str) (d : D), L.gln[i]? = some x → L.tab.gls[i]? = some d → ∃ u v, X.mg x = some u ∧ L2.RelV v u ∧ ∀ H, Rp X.kw H v d
  bt : ∀ x, x ∈ bnames → X.mg x = none
  ex : ∀ (n : Nat) (x : Str), L.exn[n]? = some x → ExFact X xc n x
  sub : SubFact X.K xc L.exn L.tab.sub
  kl : KLit X.K X.w
structure At (X : Cx) (N : List Str) (sc : Scope) (fb : Str → Bool) : Prop where
  n : X.N = N
  s : X.env.scope = sc
  f : ∀ x, fb x = true → X.fn x = true
section
variable {L : Lw} {xc : Nat → Value} {k : Nat} {X : Cx}
theorem Gd.blk (g : Gd L xc k X) (s : Shared) (H : Hp) (scope : Scope) (cenv : PySem.Env) (fp : List Addr) : Gd L xc k (X.blk s H scope cenv fp) :=
  ⟨g.calm, g.nd, g.room, g.fn, g.gl, g.bt, fun n x h => ⟨(g.ex n x h).ex⟩, g.sub, g.kl⟩
theorem Gd.tr (g : Gd L xc k X) (pn : List (Addr × Obj)) (xe : Value → Shared → Prop) : Gd L xc k (X.tr pn xe) :=
  ⟨g.calm, g.nd, g.room, g.fn, g.gl, g.bt, fun n x h => ⟨(g.ex n x h).ex⟩, g.sub, g.kl⟩
theorem Gd.un (g : Gd L xc k X) : X.A.units + 200 < cLine := by
  have := g.room.un
  omega
end
/-! ### names -/
def lk (sc : Scope) (x : Str) : Option NameKind := sc.names.lookup x
def visB (sc : Scope) (x : Str) : Bool := lk sc x == some .local || lk sc x == some .cell || lk sc x == some .free
def nmOk (x : Str) : Bool := !(x == ("__debug__" : Str)) && !(x == ("__classdict__" : Str)) && !(decide (x = ("__name__" : Str)))
def glB (sc : Scope) (x : Str) : Bool := lk sc x == some .globalImplicit && nmOk x
section
variable {X : Cx} {N : List Str} {sc : Scope} {fb : Str → Bool} {x : Str}
theorem vis_ok (a : At X N sc fb) (h : visB sc x = true) : Vis X.env.scope x := by
  rw [a.s]
  unfold visB lk at h
  simp only [Bool.or_eq_true, beq_iff_eq] at h
  rcases h with (h | h) | h
  · exact .inl h
  · exact .inr (.inl h)
  · exact .inr (.inr h)
theorem nm1 (h : nmOk x = true) : (x == ("__debug__" : Str)) = false := by
  unfold nmOk at h; simp only [Bool.and_eq_true, Bool.not_eq_true'] at h; exact h.1.1
theorem nm2 (h : nmOk x = true) : (x == ("__classdict__" : Str)) = false := by
  unfold nmOk at h; simp only [Bool.and_eq_true, Bool.not_eq_true'] at h; exact h.1.2
theorem nm3 (h : nmOk x = true) : x ≠ "__name__" := by
  unfold nmOk at h; simp only [Bool.and_eq_true, Bool.not_eq_true', decide_eq_false_iff_not] at h; exact h.2
theorem gl_ok (a : At X N sc fb) (h : glB sc x = true) : Gl X x := by
  unfold glB lk at h
  simp only [Bool.and_eq_true, beq_iff_eq] at h
  show X.env.scope.names.lookup x = _
  rw [a.s]
  exact h.1
theorem gl_nm (h : glB sc x = true) : nmOk x = true := by
  unfold glB at h
  simp only [Bool.and_eq_true] at h
  exact h.2
end
/-! ### operators -/
def binO : Operator → Op → Bool
  | .Add, .add => true | .Sub, .sub => true | .Mult, .mul => true | .FloorDiv, .fdiv => true | .Mod, .mod => true | .Pow, .pow => true
  | .BitAnd, .band => true | .BitOr, .bor => true | .LShift, .shl => true | .RShift, .shr => true
  | _, _ => false
theorem bin_ok {X : Cx} {bop : Operator} {o : Op} (h : binO bop o = true) (m : Bool) : OpR X (binaryOp bop) fun x y H Q => rS X.kw o m [x, y] H Q := by
  unfold binO at h
  split at h
  · exact o_add
  · exact o_sub
  · exact o_mul
  · exact o_fdiv
  · exact o_mod
  · exact o_pow
  · exact o_band
  · exact o_bor
  · exact o_shl
  · exact o_shr
  · cases h
def cmpO : CmpOp → Op → Bool
  | .Eq, .eq => true | .NotEq, .ne => true | .Lt, .lt => true | .LtE, .le => true | .Gt, .gt => true | .GtE, .ge => true
  | .In, .isin => true | .NotIn, .notin => true | .Is, .isN => true | .Is, .isB => true | .IsNot, .isNN => true | .IsNot, .isNB => true
  | _, _ => false
theorem cmp_ok {X : Cx} {cop : CmpOp} {o : Op} (hk : KLit X.K X.w) (hu : X.A.units + 200 < cLine) (h : cmpO cop o = true) (m : Bool) : OpR X (compareOp cop) fun x y H Q => rS X.kw o m [x, y] H Q := by
  unfold cmpO at h
  split at h
  · exact o_eq hu
  · exact o_ne hu
  · exact o_lt hu
  · exact o_le hu
  · exact o_gt hu
  · exact o_ge hu
  · exact o_isin hk hu
  · exact o_notin hk hu
  · exact o_isN
  · exact o_isB
  · exact o_isNN
  · exact o_isNB
  · cases h
theorem cmp_bool {cop : CmpOp} {o : Op} (h : cmpO cop o = true) : ∀ x y d, sem o [x, y] = .ok d → ∃ k, d = .bool k := by
  intro x y d e
  have ord : ∀ f g, sOrd f g [x, y] = .ok d → ∃ k, d = .bool k := fun f g e => by
    unfold sOrd at e
    (repeat' split at e) <;> first | (cases e; exact ⟨_, rfl⟩) | cases e
  have eq : ∀ n, sEq n [x, y] = .ok d → ∃ k, d = .bool k := fun n e => by
    unfold sEq at e
    (repeat' split at e) <;> first | (cases e; exact ⟨_, rfl⟩) | cases e
  have in_ : ∀ n, sIn n [x, y] = .ok d → ∃ k, d = .bool k := fun n e => by
    unfold sIn at e
    (repeat' split at e) <;> first | (cases e; exact ⟨_, rfl⟩) | cases e
  have isn : ∀ n, sIsN n [x, y] = .ok d → ∃ k, d = .bool k := fun n e => by
    unfold sIsN at e
    (repeat' split at e) <;> first | (cases e; exact ⟨_, rfl⟩) | cases e
  have isb : ∀ n, sIsB n [x, y] = .ok d → ∃ k, d = .bool k := fun n e => by
    unfold sIsB at e
    (repeat' split at e) <;> first | (cases e; exact ⟨_, rfl⟩) | cases e
  unfold cmpO at h
  split at h <;> simp only [sem] at e <;> first
    | exact eq _ e | exact ord _ _ e | exact in_ _ e | exact isn _ e | exact isb _ e | cases h
/-! ### builtin functions -/
def btab : List (Str × Op) := [("len", .len), ("tuple", .tuple), ("list", .list), ("int", .int), ("all", .all), ("any", .any), ("min", .min2), ("max", .max2), ("sum", .sum), ("abs", .abs), ("sorted", .sorted), ("min", .min), ("max", .max)]
def BtOk (X : Cx) (x : Str) (o : Op) : Prop := x ∈ bnames ∧ ∀ m, (∃ id, CallR X (.builtin id) (fun vs H Q => rS X.kw o m vs H Q) ∧ bootBuiltins x = some (.builtin id)) ∨ (∃ id, CallR X (.type id) (fun vs H Q => rS X.kw o m vs H Q) ∧ bootBuiltins x = some (.type id))
theorem bt_ok {X : Cx} {x : Str} {o : Op} (hc : X.calm = true) (hd : X.A.handled = none) (hu : X.A.units + 200 < cLine) (h : (x, o) ∈ btab) : BtOk X x o := by
  unfold btab at h
  simp only [List.mem_cons, Prod.mk.injEq, List.not_mem_nil, or_false] at h
  rcases h with ⟨rfl, rfl⟩ | ⟨rfl, rfl⟩ | ⟨rfl, rfl⟩ | ⟨rfl, rfl⟩ | ⟨rfl, rfl⟩ | ⟨rfl, rfl⟩ | ⟨rfl, rfl⟩ | ⟨rfl, rfl⟩ | ⟨rfl, rfl⟩ | ⟨rfl, rfl⟩ | ⟨rfl, rfl⟩ | ⟨rfl, rfl⟩ | ⟨rfl, rfl⟩
  · exact ⟨by decide +kernel, fun m => .inl ⟨_, o_len, by decide +kernel⟩⟩
  · exact ⟨by decide +kernel, fun m => .inr ⟨_, o_tuple, by decide +kernel⟩⟩
  · exact ⟨by decide +kernel, fun m => .inr ⟨_, o_list, by decide +kernel⟩⟩
  · exact ⟨by decide +kernel, fun m => .inr ⟨_, o_int, by decide +kernel⟩⟩
  · exact ⟨by decide +kernel, fun m => .inl ⟨_, o_all hc, by decide +kernel⟩⟩
  · exact ⟨by decide +kernel, fun m => .inl ⟨_, o_any hc, by decide +kernel⟩⟩
  · exact ⟨by decide +kernel, fun m => .inl ⟨_, o_min2 hc, by decide +kernel⟩⟩
  · exact ⟨by decide +kernel, fun m => .inl ⟨_, o_max2 hc, by decide +kernel⟩⟩
  · exact ⟨by decide +kernel, fun m => .inl ⟨_, o_sum hc, by decide +kernel⟩⟩
  · exact ⟨by decide +kernel, fun m => .inl ⟨_, o_abs, by decide +kernel⟩⟩
  · exact ⟨by decide +kernel, fun m => .inl ⟨_, o_sorted hc hu, by decide +kernel⟩⟩
  · exact ⟨by decide +kernel, fun m => .inl ⟨_, o_min hd hu, by decide +kernel⟩⟩
  · exact ⟨by decide +kernel, fun m => .inl ⟨_, o_max hd hu, by decide +kernel⟩⟩
section
variable {X : Cx} {c : Ctx} {xc : Nat → Value} {W : WX} {m : Bool}
/-! ### slices -/
def rCut (K : Frag) (o : Op) (m : Bool) (x : V) (lo hi : Option Int) (H : Hp) (Q : VK) : Prop := ∃ Hf d d', Same Hf H ∧ RA K Hf H x d ∧ sCut lo hi d = .ok d' ∧ Want K o m Hf H Q d'
theorem sl_cut {o : Op} : SlR X (rCut X.kw o m) := fun pins s σ H x v vl vu lo hi sl Q I rx hs pl pu h => by
  obtain ⟨Hf, d, d', sb, ra, e, q⟩ := h
  exact o_cut I rx hs pl pu sb ra e q
theorem cut_after {o : Op} {lo hi : Option Int} {σ : L2.St} {Hf H H0 : Hp} {x : V} {d : _root_.Q.D} {Q : VK} (sb : Same Hf H) (s0 : Same H0 H) (ra : RA X.kw Hf H x d) (h : After (sCut lo hi d) xc W σ Hf H fun d' Hf' H' => ∀ v, RM X.kw m o.fresh H0 Hf' H' v d' → Q v H') : rCut X.kw o m x lo hi H Q := by
  cases e : sCut lo hi d with
  | ok d' =>
    rw [e] at h
    exact ⟨Hf, d, d', sb, ra, e, fun v Hf' H' x r => h _ _ x v (r.back s0)⟩
  | exc y =>
    exfalso
    unfold sCut at e
    (repeat' split at e) <;> cases e
  | bad => rw [e] at h; exact h.elim
theorem pe_slc00 {a : Expr} {ia : E} {p2 pos : Pos} (ha : PE X a (tE c xc W X.kw ia true)) : PE X (.Subscript a (.Slice none none none p2) pos) (tE c xc W X.kw (.op (.slc false false) (.cons ia .nil)) m) :=
  impE (pe_slice (sl_cut (o := .slc false false) (m := m)) ha po_none po_none) fun σ H Q h => by
    obtain ⟨ρ, Hf, s, a0⟩ := h
    have a1 : After (evE c ia true ρ >>= fun d => sCut none none d) xc W σ Hf H _ := a0.of_eq (by
      simp only [evE, evEs, Op.keeps]
      show ((evE c ia true ρ >>= fun d => R.ok [d]) >>= fun ds => sem (.slc false false) ds) = _
      cases evE c ia true ρ <;> rfl)
    exact ⟨ρ, Hf, s, (After.bind a1).imp fun d H1f H1 x1 a2 v rv => cut_after x1.sub x1.s2 rv.ra a2⟩
theorem int_or {d : _root_.Q.D} : (∃ i, d = .int i) ∨ ∀ i, d ≠ .int i := by
  cases d with
  | int i => exact .inl ⟨i, rfl⟩
  | _ => exact .inr fun i h => nomatch h
theorem pe_slc10 {a b : Expr} {ia ib : E} {p2 pos : Pos} (ha : PE X a (tE c xc W X.kw ia true)) (hb : PE X b (tE c xc W X.kw ib true)) : PE X (.Subscript a (.Slice (some b) none none p2) pos) (tE c xc W X.kw (.op (.slc true false) (.cons ia (.cons ib .nil))) m) :=
  impE (pe_slice (sl_cut (o := .slc true false) (m := m)) ha (po_some hb) po_none) fun σ H Q h => by
    obtain ⟨ρ, Hf, s, a0⟩ := h
    have a1 : After (evE c ia true ρ >>= fun d => evE c ib true ρ >>= fun i => sSlc true false [d, i]) xc W σ Hf H _ := a0.of_eq (by
      simp only [evE, evEs]
      show ((evE c ia true ρ >>= fun d => (evE c ib true ρ >>= fun d => R.ok [d]) >>= fun ds => R.ok (d :: ds)) >>= fun ds => sem (.slc true false) ds) = _
      cases evE c ia true ρ with
      | ok d => cases evE c ib true ρ <;> rfl
      | exc x => rfl
      | bad => rfl)
    refine ⟨ρ, Hf, s, (After.bind a1).imp fun d H1f H1 x1 a2 v rv => ⟨ρ, H1f, s.ext x1, a2.bind.imp fun d' H2f H2 x2 a3 v' rv' => ?_⟩⟩
    rcases int_or (d := d') with ⟨i, rfl⟩ | hn
    · have := rv'.ra.int; subst this
      exact ⟨i, rfl, cut_after x2.sub (x1.s2.trans x2.s2) (rv.ra.ext x2) a3⟩
    · have : sSlc true false [d, d'] = .bad := by
        unfold sSlc; split <;> first | rfl | (rename_i e; cases e; exact absurd rfl (hn _)) | contradiction
      rw [this] at a3
      exact a3.elim
theorem pe_slc01 {a b : Expr} {ia ib : E} {p2 pos : Pos} (ha : PE X a (tE c xc W X.kw ia true)) (hb : PE X b (tE c xc W X.kw ib true)) : PE X (.Subscript a (.Slice none (some b) none p2) pos) (tE c xc W X.kw (.op (.slc false true) (.cons ia (.cons ib .nil))) m) :=
  impE (pe_slice (sl_cut (o := .slc false true) (m := m)) ha po_none (po_some hb)) fun σ H Q h => by
    obtain ⟨ρ, Hf, s, a0⟩ := h
    have a1 : After (evE c ia true ρ >>= fun d => evE c ib true ρ >>= fun i => sSlc false true [d, i]) xc W σ Hf H _ := a0.of_eq (by
      simp only [evE, evEs]
      show ((evE c ia true ρ >>= fun d => (evE c ib true ρ >>= fun d => R.ok [d]) >>= fun ds => R.ok (d :: ds)) >>= fun ds => sem (.slc false true) ds) = _
      cases evE c ia true ρ with
      | ok d => cases evE c ib true ρ <;> rfl
      | exc x => rfl
      | bad => rfl)
    refine ⟨ρ, Hf, s, (After.bind a1).imp fun d H1f H1 x1 a2 v rv => ⟨ρ, H1f, s.ext x1, a2.bind.imp fun d' H2f H2 x2 a3 v' rv' => ?_⟩⟩
    rcases int_or (d := d') with ⟨i, rfl⟩ | hn
    · have := rv'.ra.int; subst this
      exact ⟨i, rfl, cut_after x2.sub (x1.s2.trans x2.s2) (rv.ra.ext x2) a3⟩
    · have : sSlc false true [d, d'] = .bad := by
        unfold sSlc; split <;> first | rfl | (rename_i e; cases e; exact absurd rfl (hn _)) | contradiction
      rw [this] at a3
      exact a3.elim
mutual
/-- nothing is called in it -/
def noExc : E → Bool
  | .v _ => true
  | .c _ => true
  | .g _ => true
  | .op _ es => noExcs es
  | _ => false
def noExcs : Es → Bool
  | .nil => true
  | .cons e es => noExc e && noExcs es
end
mutual
theorem noExc_ok : ∀ (e : E) (m : Bool) (ρ : Env) (x : Nat), noExc e = true → evE c e m ρ ≠ .exc x
  | .v i, m, ρ, x, _ => fun h => by
    simp only [evE] at h
    (repeat' split at h) <;> cases h
  | .c d, m, ρ, x, _ => fun h => by simp only [evE] at h; cases h
  | .g i, m, ρ, x, _ => fun h => by
    simp only [evE] at h
    split at h <;> cases h
  | .op o es, m, ρ, x, hn => fun h => by
    simp only [evE] at h
    cases e : evEs c es (!o.keeps) ρ with
    | ok ds => rw [e] at h; exact sem_noexc o ds x h
    | exc y => exact noExcs_ok es _ ρ y (by simpa only [noExc] using hn) e
    | bad => rw [e] at h; cases h
  | .call .., _, _, _, hn => by simp [noExc] at hn
  | .and .., _, _, _, hn => by simp [noExc] at hn
  | .or .., _, _, _, hn => by simp [noExc] at hn
  | .ite .., _, _, _, hn => by simp [noExc] at hn
  | .chn .., _, _, _, hn => by simp [noExc] at hn
  | .comp .., _, _, _, hn => by simp [noExc] at hn
  | .comp2 .., _, _, _, hn => by simp [noExc] at hn
  | .dcomp .., _, _, _, hn => by simp [noExc] at hn
theorem noExcs_ok : ∀ (es : Es) (m : Bool) (ρ : Env) (x : Nat), noExcs es = true → evEs c es m ρ ≠ .exc x
  | .nil, _, _, _, _ => fun h => by simp only [evEs] at h; cases h
  | .cons e es, m, ρ, x, hn => fun h => by
    simp only [noExcs, Bool.and_eq_true] at hn
    simp only [evEs] at h
    cases e1 : evE c e m ρ with
    | ok d =>
      rw [e1] at h
      cases e2 : evEs c es m ρ with
      | ok ds => rw [e2] at h; cases h
      | exc y => exact noExcs_ok es m ρ y hn.2 e2
      | bad => rw [e2] at h; cases h
    | exc y => exact noExc_ok e m ρ y hn.1 e1
    | bad => rw [e1] at h; cases h
end
theorem pe_slc11 {a b b2 : Expr} {ia ib ic : E} {p2 pos : Pos} (ha : PE X a (tE c xc W X.kw ia true)) (hb : PE X b (tE c xc W X.kw ib true)) (hb2 : PE X b2 (tE c xc W X.kw ic true)) (hnx : noExc ic = true) : PE X (.Subscript a (.Slice (some b) (some b2) none p2) pos) (tE c xc W X.kw (.op (.slc true true) (.cons ia (.cons ib (.cons ic .nil)))) m) :=
  impE (pe_slice (sl_cut (o := .slc true true) (m := m)) ha (po_some hb) (po_some hb2)) fun σ H Q h => by
    obtain ⟨ρ, Hf, s, a0⟩ := h
    have a1 : After (evE c ia true ρ >>= fun d => evE c ib true ρ >>= fun i => evE c ic true ρ >>= fun j => sSlc true true [d, i, j]) xc W σ Hf H _ := a0.of_eq (by
      simp only [evE, evEs]
      show ((evE c ia true ρ >>= fun d => (evE c ib true ρ >>= fun d => (evE c ic true ρ >>= fun d => R.ok [d]) >>= fun ds => R.ok (d :: ds)) >>= fun ds => R.ok (d :: ds)) >>= fun ds => sem (.slc true true) ds) = _
      cases evE c ia true ρ with
      | ok d => cases evE c ib true ρ with
        | ok d' => cases evE c ic true ρ <;> rfl
        | exc x => rfl
        | bad => rfl
      | exc x => rfl
      | bad => rfl)
    refine ⟨ρ, Hf, s, (After.bind a1).imp fun d H1f H1 x1 a2 v rv => ⟨ρ, H1f, s.ext x1, a2.bind.imp fun d' H2f H2 x2 a3 v' rv' => ?_⟩⟩
    rcases int_or (d := d') with ⟨i, rfl⟩ | hn
    · have := rv'.ra.int; subst this
      refine ⟨i, rfl, ρ, H2f, (s.ext x1).ext x2, a3.bind.imp fun d2 H3f H3 x3 a4 v2 rv2 => ?_⟩
      rcases int_or (d := d2) with ⟨j, rfl⟩ | hn
      · have := rv2.ra.int; subst this
        exact ⟨j, rfl, cut_after x3.sub (x1.s2.trans (x2.s2.trans x3.s2)) ((rv.ra.ext x2).ext x3) a4⟩
      · have : sSlc true true [d, .int i, d2] = .bad := by
          unfold sSlc; split <;> first | rfl | (rename_i e; cases e; exact absurd rfl (hn _)) | contradiction
        rw [this] at a4
        exact a4.elim
    · have : ∀ j, sSlc true true [d, d', j] = .bad := fun j => by
        unfold sSlc; split <;> first | rfl | (rename_i e; cases e; exact absurd rfl (hn _)) | contradiction
      exfalso
      cases ej : evE c ic true ρ with
      | ok j => rw [ej] at a3; have a4 : After (sSlc true true [d, d', j]) xc W σ H2f H2 _ := a3; rw [this] at a4; exact a4.elim
      | exc x => exact noExc_ok ic true ρ x hnx ej
      | bad => rw [ej] at a3; exact a3.elim
end
end Q
set_option Elab.async false
set_option linter.all false
set_option maxRecDepth 100000
/-! t[::-1] of a tuple. -/
namespace L2
open PySem PySem.Spec PyProof.Rows HT
section
variable {prog : Program} {w : World} {A : Around} {E : Value → Shared → Prop} {s : Shared}
theorem adjust_rev (n : Nat) : Builtin.Slice.sliceAdjust none none (-1) (n : Int) = ((n : Int) - 1, -1) := by
  unfold Builtin.Slice.sliceAdjust
  simp only [show ((-1 : Int) < 0) from by decide, if_true]
theorem places_rev (n : Nat) : Builtin.Slice.slicePlaces ((n : Int) - 1) (-1) (-1) = n := by
  unfold Builtin.Slice.slicePlaces
  have h1 : ¬ ((-1 : Int) > 0) := by decide
  have h2 : (- (-1 : Int)) = 1 := by decide
  simp only [h1, if_false, h2, Int.ediv_one]
  split <;> omega
theorem fmap_congr {α β : Type} {f g : α → Option β} : ∀ {l : List α}, (∀ x ∈ l, f x = g x) → l.filterMap f = l.filterMap g
  | [], _ => rfl
  | x :: l, h => by
    rw [List.filterMap_cons, List.filterMap_cons, h x List.mem_cons_self, fmap_congr fun y hy => h y (List.mem_cons_of_mem _ hy)]
theorem pick_rev (xs : Array Value) : ((List.range xs.size).filterMap fun (m : Nat) => xs[(((xs.size : Nat) : Int) - 1 + (m : Int) * (-1)).toNat]?).toArray = xs.toList.reverse.toArray := by
  congr 1
  apply List.ext_getElem?
  intro i
  have e : (List.range xs.size).filterMap (fun (m : Nat) => xs[(((xs.size : Nat) : Int) - 1 + (m : Int) * (-1)).toNat]?) = (List.range xs.size).map fun m => xs.toList.reverse.getD m .none := by
    rw [← List.filterMap_eq_map]
    refine fmap_congr fun m hm => ?_
    have hm := List.mem_range.mp hm
    have e1 : (((xs.size : Nat) : Int) - 1 + (m : Int) * (-1)).toNat = xs.size - 1 - m := by omega
    rw [e1]
    have h1 : xs.size - 1 - m < xs.size := by omega
    rw [Array.getElem?_eq_getElem h1]
    simp only [Function.comp]
    rw [List.getD_eq_getElem?_getD, List.getElem?_reverse (by simpa using hm)]
    simp only [Array.length_toList, Array.getElem?_toList]
    rw [Array.getElem?_eq_getElem h1]
    rfl
  rw [e, List.getElem?_map]
  by_cases h : i < xs.size
  · rw [List.getElem?_range h]
    have : i < xs.toList.reverse.length := by simpa using h
    rw [List.getElem?_eq_getElem this]
    simp only [Option.map_some, List.getD_eq_getElem?_getD, List.getElem?_eq_getElem this, Option.getD_some]
  · rw [List.getElem?_eq_none (by simpa using Nat.le_of_not_lt h), List.getElem?_eq_none (by simpa using Nat.le_of_not_lt h)]
    rfl
theorem sliceApplied_rev {sl : Addr} {vl vu vs : Value} {n : Nat} {Q : Int × Int × Nat → Shared → Prop} (hs : s.heap.IsSliceOf sl vl vu vs) (pl : IsPart vl none) (pu : IsPart vu none) (ps : IsPart vs (some (-1)))
    (h : Q ((n : Int) - 1, -1, n) s) : wpAny (model prog w) A (Builtin.Slice.sliceApplied (.ref sl) (pure (n : Int))) Q E s := by
  obtain ⟨os, hos, hcs, hds⟩ := id hs
  unfold Builtin.Slice.sliceApplied Builtin.Slice.sliceFields
  refine wpAny_bind (wpAny_bind (wpAny_field hos hds (x := vl) rfl (wpAny_bind (wpAny_field hos hds (x := vu) rfl (wpAny_bind (wpAny_field hos hds (x := vs) rfl (wpAny_pure ?_)))))))
  refine wpAny_bind (slicePart_ ps ?_)
  show wpAny _ _ (if ((-1 : Int) == 0) = true then _ else _) _ _ s
  rw [if_neg (by decide)]
  refine wpAny_bind (slicePart_ pl (wpAny_bind (slicePart_ pu (wpAny_bind (wpAny_pure ?_)))))
  show wpAny _ _ (match Builtin.Slice.sliceAdjust none none (-1) (n : Int) with | (lo, hi) => pure (lo, (-1 : Int), Builtin.Slice.slicePlaces lo hi (-1))) _ _ s
  rw [adjust_rev n]
  show wpAny _ _ (pure ((n : Int) - 1, (-1 : Int), Builtin.Slice.slicePlaces ((n : Int) - 1) (-1) (-1))) _ _ s
  rw [places_rev]
  exact wpAny_pure h
theorem getItem_tuple_rev {t sl : Addr} {items : Array Value} {vl vu vs : Value} {Q : Value → Shared → Prop} (ht : IsTup s.heap t items) (hs : s.heap.IsSliceOf sl vl vu vs) (pl : IsPart vl none) (pu : IsPart vu none) (ps : IsPart vs (some (-1)))
    (h : Q (.ref s.heap.objs.size) { s with heap := s.heap.push { cls := .type "tuple", data := .seq items.toList.reverse.toArray } })
    (hsz : items.size ≤ sizeLine) : wpAny (model prog w) A (getItem (.ref t) (.ref sl)) Q E s := by
  have htake : sizeOk (.seq items.toList.reverse.toArray) := by
    show items.toList.reverse.toArray.size ≤ sizeLine
    simpa using hsz
  obtain ⟨os, hos, hcs, hds⟩ := id hs
  have hTs : s.TypeIs (.ref sl) "slice" := ⟨os, hos, hcs⟩
  unfold getItem
  try with_reducible refine wpAny_holding ?_
  first | refine wpAny_bind (wpAny_pure ?_) | skip
  refine wpAny_bind (wpAny_sequenceKey ht.typeIs (by decide) ?_)
  refine wpAny_bind (wpAny_callSpecial?_slot (name := Str.ofString "__getitem__") ht.typeIs PyProof.Rows.slot_tuple_getitem
    (wpAny_call_entry PyProof.Rows.slot_tuple_getitem ht.typeIs entry_tuple_getitem ?_ (args_tuple_getitem _ _)))
  show wpAny _ _ (Builtin.Tuple.tupleItemsOf (.ref t) >>= _) _ _ s
  refine wpAny_bind (tupleItemsOf_ ht ?_)
  refine wpAny_bind (wpAny_typeOf hTs ?_)
  rw [if_pos (by decide)]
  refine wpAny_bind (sliceApplied_rev hs pl pu ps ?_)
  have hno : ¬ ((((items.size : Nat) : Int) - 1 == 0 && (-1 : Int) == 1 && items.size == items.size) = true) := by
    intro q
    rw [Bool.and_eq_true, Bool.and_eq_true] at q
    exact absurd (eq_of_beq q.1.2) (by decide)
  show wpAny _ _ (if (((items.size : Nat) : Int) - 1 == 0 && (-1 : Int) == 1 && items.size == items.size) = true then _ else _) _ _ s
  rw [if_neg hno, pick_rev]
  first
    | exact wpAny_bind (m := Builtin.Tuple.tupleExact _) (wpAny_newObj_type (wpAny_pure ⟨_, rfl, wpAny_pure h⟩) htake)
    | exact wpAny_bind (m := Builtin.Tuple.tupleExact _) (wpAny_newObj_type (wpAny_bind (wpAny_pure (wpAny_pure ⟨_, rfl, wpAny_pure h⟩))) htake)
    | exact wpAny_bind (wpAny_bind (m := Builtin.Tuple.tupleExact _) (wpAny_newObj_type (wpAny_pure (wpAny_pure ⟨_, rfl, wpAny_pure h⟩)) htake))
    | exact wpAny_bind (wpAny_bind (m := Builtin.Tuple.tupleExact _) (wpAny_newObj_type (wpAny_pure ⟨_, rfl, wpAny_pure h⟩) htake))
end
section
variable {X : Cx}
theorem strRev_places (n : Nat) : Builtin.Str.strSliceIndices none none (-1) n = (List.range n).reverse := by
  have e : Builtin.Str.strSliceIndices none none (-1) n = sliceRange ((n : Int) - 1) (-1) (-1) := by
    unfold Builtin.Str.strSliceIndices
    simp
  rw [e, PySem.W.krv_sliceRange, PySem.W.krv_range]
theorem strRev_all {α : Type} (xs : Array α) : (List.range xs.size).filterMap (xs[·]?) = xs.toList := PySem.W.krv_all xs
/-! ### xs[::-1], of a list, a tuple or a text -/
def tRevQ (K : PySem.W.Frag) (te : TE) : TE := fun σ H Q => te σ H fun x H1 => (∃ z, x = .str z ∧ z.length ≤ sizeLine ∧ Q (.str (_root_.Q.revS z)) H1) ∨ ∃ a xs, x = .ref a ∧ ((SqL K H1 a xs ∧ ∀ p, H1 p = none → Q (.ref p) (upd H1 p (.lst xs.reverse))) ∨ (SqT K H1 a xs ∧ ∀ p, H1 p = none → Q (.ref p) (upd H1 p (.tup xs.reverse))))
theorem pe_revA {e : Expr} {te : TE} {k : Nat} {p1 p2 p3 pos : Pos} (he : PE X e te) : PE X (.Subscript e (.Slice none none (some (.UnaryOp .USub (.Constant (.int 1) k p1) p2)) p3) pos) (tRevQ X.K te) := by
  refine ⟨fun pins s σ H Q I h => ?_⟩
  refine Subscript_ (thn (he.run pins s σ H _ I h) fun v s1 ⟨x, H1, I1, r1, q1⟩ => ?_)
  have hst : PO X (some (.UnaryOp .USub (.Constant (.int 1) k p1) p2)) (tPart (tUn (rU fun i => .int (-i)) (tC (.int 1)))) := po_some (pe_un un_neg pe_int)
  refine wpAny_Slice (thn (po_none.run pins s1 σ H1 (fun o H2 => o = none ∧ H2 = H1) I1 ⟨rfl, rfl⟩) fun vl s2 ⟨l, H2, I2, pl, el, e2⟩ => ?_)
  subst el e2
  refine thn (po_none.run pins s2 σ H2 (fun o H3 => o = none ∧ H3 = H2) I2 ⟨rfl, rfl⟩) fun vu s3 ⟨u, H3, I3, pu, eu, e3⟩ => ?_
  subst eu e3
  refine thn (hst.run pins s3 σ H3 (fun o H4 => o = some (-1) ∧ H4 = H3) I3 ⟨1, rfl, -1, rfl, rfl, rfl⟩) fun vs s4 ⟨o, H4, I4, ps, eo, e4⟩ => ?_
  subst eo e4
  have I5 : Inv X pins σ H4 { s4 with heap := s4.heap.push { cls := .type "slice", data := .fields #[vl, vu, vs] } } := I4.kept (t' := s4.toks) fun b ob q => Heap.get?_push_of_some _ q
  rcases q1 with ⟨z, rfl, hz, q⟩ | ⟨a, xs, rfl, q⟩
  · obtain ⟨t, rfl⟩ := r1
    obtain ⟨l, rfl, el⟩ := IsPart.raw ps
    have pl0 := pl
    have pu0 := pu
    obtain ⟨l1, rfl, e1⟩ := IsPart.raw pl0
    obtain ⟨u1, rfl, e2⟩ := IsPart.raw pu0
    refine tail_any (ops := [.str z t, .ref s4.heap.objs.size]) (typeIs_str _ z t) F.slot_str_getitem.lookup ?_ (by with_unfolding_all rfl)
    refine wpAny_getItem_str_slice (l := l1) (u := u1) (st := l) ⟨_, Heap.get?_push_size _ rfl, rfl, rfl⟩ (by rw [el]; rfl) ?_
    have hpk : slicePicked z l1 u1 l = (List.range z.length).reverse := by
      unfold slicePicked
      rw [e1, e2, el]
      exact strRev_places z.length
    have hm : sliceMade z t l1 u1 l = .str (_root_.Q.revS z) := by
      unfold sliceMade
      rw [hpk, el]
      rw [if_neg (by simp)]
      congr 1
      unfold _root_.Q.revS
      rw [List.filterMap_reverse]
      congr 2
      exact congrArg List.reverse (strRev_all z.cps)
    rw [hm]
    refine ⟨by show (_root_.Q.revS z).length ≤ sizeLine; unfold _root_.Q.revS Str.length; simpa [Str.length] using hz, ⟨.str (_root_.Q.revS z), _, I5.tok _, ⟨_, rfl⟩, q⟩⟩
  cases r1
  show wpAny (model X.prog X.w) X.A (subscriptTail e (.Slice none none (some (.UnaryOp .USub (.Constant (.int 1) k p1) p2)) p3) (.ref a) (.ref s4.heap.objs.size)) (EP X pins σ Q) X.xe { s4 with heap := s4.heap.push { cls := .type "slice", data := .fields #[vl, vu, vs] } }
  rcases q with ⟨hx, q⟩ | ⟨hx, q⟩
  · obtain ⟨its, r, ht, hz⟩ := I5.list hx
    have hlen := r.length
    refine tail_any (ops := [.ref a, .ref s4.heap.objs.size]) ht.isList.typeIs (PySem.slot_list_getitem.lookup) ?_ (by with_unfolding_all rfl)
    refine wpAny_getItem_list_slice ht.isList (Heap.IsSliceOf.new _ vl vu vs) pl pu ps (by decide) ?_ (by rw [List.size_toArray]; omega)
    rw [PySem.W.krv_pick]
    refine ⟨.ref _, _, I5.laid (t' := s4.toks) (o := .lst xs.reverse) (fun b ob q => Heap.get?_push_of_some _ q) (Nat.le_refl _) ?_, rfl, q _ (I5.hok.fresh (Nat.le_refl _))⟩
    exact ⟨by rw [List.length_reverse]; exact hz, _, 0, r.reverse, Heap.get?_push_size _ rfl⟩
  · obtain ⟨its, r, ht, hz⟩ := I5.tuple hx
    have hlen := r.length
    refine tail_any (ops := [.ref a, .ref s4.heap.objs.size]) ht.typeIs (PyProof.Rows.slot_tuple_getitem.lookup) ?_ (by with_unfolding_all rfl)
    refine getItem_tuple_rev ht (Heap.IsSliceOf.new _ vl vu vs) pl pu ps ?_ (by rw [List.size_toArray]; omega)
    refine ⟨.ref _, _, I5.laid (t' := s4.toks) (o := .tup xs.reverse) (fun b ob q => Heap.get?_push_of_some _ q) (Nat.le_refl _) ?_, rfl, q _ (I5.hok.fresh (Nat.le_refl _))⟩
    exact ⟨by rw [List.length_reverse]; exact hz, _, r.reverse, IsTup.new _ _⟩
end
end L2
set_option Elab.async false
set_option linter.all false
set_option maxRecDepth 100000
/-! Dicts with tuple keys: made, asked, changed. -/
namespace Q
open PySem PySem.W PySem.Spec L2
open PyProof.Rows hiding St

/-- the text {} -/
abbrev d0 : E := .dcomp (.c .none) (.c .none) (.t .nil) (.e (.op .lst .nil)) none
section
variable {X : Cx} {c : Ctx} {xc : Nat → Value} {W : WX} {m : Bool} {K : Frag} {Hf H Hf' H' H1f H1 : Hp}
theorem ev_d0 {ρ : Env} : evE c d0 m ρ = .ok (.dict []) := by
  simp only [evE, evI, evEs]
  rfl
theorem pe_dict0Q {pos : Pos} : PE X (.Dict [] [] pos) (tE c xc W X.kw d0 m) := ⟨fun pins s σ H Q I h => by
  obtain ⟨ρ, Hf, sr, a⟩ := h
  have a' := a.of_eq ev_d0
  have hp : H s.heap.objs.size = none := I.hok.fresh (Nat.le_refl _)
  exact wpAny_Dict_empty ⟨.ref s.heap.objs.size, upd H s.heap.objs.size (DXO X.prog X.w s.heap.objs.size []), I.laid (a := s.heap.objs.size) (o := DXO X.prog X.w s.heap.objs.size []) (t' := s.toks) (fun _ _ q => Heap.get?_push_of_some _ q) (Nat.le_refl _) (dxo_ok (Nat.zero_le _) (beq_eq_false_iff_ne.mpr (Nat.ne_of_gt I.big)) (Heap.DictOfH.new s.heap)), rfl,
    a' _ _ (Ext.own sr.sub hp) _ (RM.of_rn (by unfold RN; exact ⟨_, _, rfl, hp, none_sub sr.sub hp, upd_same, .dct .nil⟩))⟩⟩
/-- its kind -/
theorem dx_type {pins : List (Addr × Obj)} {σ : L2.St} {s : Shared} (I : L2.Inv X pins σ H s) {a : Addr} {xs : List (NestedKey × Addr × Value)} (h : Rd H a (DXO X.prog X.w a xs)) :
    s.TypeIs (.ref a) "dict" ∧ (∀ b, Value.ref a = .ref b → ∃ ob, s.heap.get? b = some ob ∧ ob.dict = none) := by
  obtain ⟨⟨z, hs, o, es, ep, h1, h2, _⟩, _⟩ := (show ObjOk X.prog X.w H s.heap a (DXO X.prog X.w a xs) from h.ok I.hok)
  refine ⟨⟨o, h1, h2.1⟩, fun b q => ?_⟩
  cases q
  exact ⟨o, h1, h2.2.1⟩
theorem stored_len {xs : List (NestedKey × Addr × Value)} {k : NestedKey} {a : Addr} {v : Value} : (storedH xs k a v).length ≤ xs.length + 1 := by
  unfold storedH
  split
  · rw [List.length_map]; omega
  · rw [List.length_append]; simp
theorem dput_len {kvs : List (D × D)} {k v : D} : (dput kvs k v).length ≤ kvs.length + 1 := by
  induction kvs with
  | nil => simp [dput]
  | cons p r ih =>
    rw [dput]
    split
    · simp
    · simp only [List.length_cons]; omega
/-- d[k] = v -/
theorem dx_set {A : Around} {E : Value → Shared → Prop} {pins : List (Addr × Obj)} {σ : L2.St} {s : Shared} {Q : Unit → Shared → Prop} {p b : Addr} {xs : List (NestedKey × Addr × Value)} {kvs : List (D × D)} {k : D} {u : Value} (hu : A.units + 200 < cLine) (I : L2.Inv X pins σ H s) (hp : H p = some (DXO X.prog X.w p xs)) (r : RpEnt X.kw H xs kvs) (kr : Rp X.kw H (.ref b) k) (hk : keyT k = true) (hz : xs.length < sizeLine)
    (h : ∀ s', Inv X pins σ (upd H p (DXO X.prog X.w p (storedH xs (nk k) b u))) s' → Q () s') : wpAny (model X.prog X.w) A (setItem (.ref p) (.ref b) u) Q E s := by
  obtain ⟨z, hs, d⟩ := dx_at I (.inl hp) r
  refine wpAny_setItem_heap (knd := nestedKind X.prog X.w) (hsz := z) (nroom hu) (key_at I kr rfl hk) d fun h' d' sb => h _ ?_
  have he : ∃ q, h'.get? p = some q := let ⟨q, _, _, hq, _⟩ := d'; ⟨q, hq⟩
  have := stored_len (xs := xs) (k := nk k) (a := b) (v := u)
  exact d_write I (by rw [hp]; exact True.intro) sb he (dxo_ok (by omega) hs d')
theorem dx_dictSet {E : Value → Shared → Prop} {pins : List (Addr × Obj)} {σ : L2.St} {s : Shared} {Q : Unit → Shared → Prop} {p b : Addr} {xs : List (NestedKey × Addr × Value)} {kvs : List (D × D)} {k : D} {u : Value} (hu : X.A.units + 200 < cLine) (I : L2.Inv X pins σ H s) (hp : H p = some (DXO X.prog X.w p xs)) (r : RpEnt X.kw H xs kvs) (kr : Rp X.kw H (.ref b) k) (hk : keyT k = true) (hz : xs.length < sizeLine)
    (h : ∀ s', Inv X pins σ (upd H p (DXO X.prog X.w p (storedH xs (nk k) b u))) s' → Q () s') : wpAny (model X.prog X.w) X.A (dictSet p (.ref b) u) Q E s := by
  obtain ⟨z, hs, d⟩ := dx_at I (.inl hp) r
  refine wpAny_dictSet_heap (knd := nestedKind X.prog X.w) (hsz := z) (by show X.A.units + 8 < cLine; omega) (key_at I kr rfl hk) d fun h' d' sb => h _ ?_
  have he : ∃ q, h'.get? p = some q := let ⟨q, _, _, hq, _⟩ := d'; ⟨q, hq⟩
  have := stored_len (xs := xs) (k := nk k) (a := b) (v := u)
  exact d_write I (by rw [hp]; exact True.intro) sb he (dxo_ok (by omega) hs d')
/-! ### d.get(k, x) -/
theorem no_exc {e : E} {ρ : Env} {α : Type} {f : D → R α} {k : α → Hp → Hp → Prop} {σ : L2.St} (hn : noExc e = true) (a : After (evE c e m ρ >>= f) xc W σ Hf H k) : ∃ d, evE c e m ρ = .ok d ∧ After (f d) xc W σ Hf H k := by
  cases q : evE c e m ρ with
  | ok d => rw [q] at a; exact ⟨d, rfl, a⟩
  | exc x => exact absurd q (noExc_ok e m ρ x hn)
  | bad => rw [q] at a; exact a.elim
theorem pe_getdQ {o e f : Expr} {io ie jf : E} {apos cpos : Pos} (hu : X.A.units + 200 < cLine) (ho : PE X o (tE c xc W X.kw io true)) (he : PE X e (tE c xc W X.kw ie true)) (hf : PE X f (tE c xc W X.kw jf true)) (n1 : noExc ie = true) (n2 : noExc jf = true) (M : M2 X o "get" apos e f cpos) :
    PE X (.Call (.Attribute o "get" apos) [e, f] [] cpos) (tE c xc W X.kw (.op .getd (.cons io (.cons ie (.cons jf .nil)))) m) := by
  refine ⟨fun pins s σ H Q I h => ?_⟩
  obtain ⟨ρ, Hf, sr, a0⟩ := h
  have a1 : After (evE c io true ρ >>= fun d => evE c ie true ρ >>= fun d' => evE c jf true ρ >>= fun d'' => sGet [d, d', d'']) xc W σ Hf H _ := a0.of_eq (by
    simp only [evE, evEs, sem]
    show ((evE c io true ρ >>= fun d => ((evE c ie true ρ >>= fun d => (evE c jf true ρ >>= fun d => R.ok [d]) >>= fun ds => R.ok (d :: ds)) >>= fun ds => R.ok (d :: ds))) >>= fun ds => sGet ds) = _
    cases evE c io true ρ with
    | ok x => cases evE c ie true ρ with
      | ok y => cases evE c jf true ρ <;> rfl
      | exc x => rfl
      | bad => rfl
    | exc x => rfl
    | bad => rfl)
  refine wpAny_Call_method M.base M.few M.line PySem.F.plainAttrs_dict PySem.F.slot_dict_get PySem.F.type_dict_get (thn (ho.run pins s σ H (fun v H1 => ∃ H1f d, Ext Hf H H1f H1 ∧ RA X.kw H1f H1 v d ∧ After (evE c ie true ρ >>= fun d' => evE c jf true ρ >>= fun d'' => sGet [d, d', d'']) xc W σ H1f H1 _) I ⟨ρ, Hf, sr, (After.bind a1).imp fun d H1f H1 x1 a2 v rv => ⟨H1f, d, x1, rv.ra, a2⟩⟩) fun u s1 ⟨x, H1, I1, rx, H1f, d, x1, ra, a2⟩ => ?_)
  obtain ⟨d', e1, a3⟩ := no_exc n1 a2
  obtain ⟨d'', e2, a4⟩ := no_exc n2 a3
  cases er : sGet [d, d', d''] with
  | bad => rw [er] at a4; exact a4.elim
  | exc y => exact absurd er (sem_noexc .getd _ y)
  | ok r =>
    rw [er] at a4
    unfold sGet at er
    split at er
    · rename_i kvs k z heq
      cases heq
      split at er
      · rename_i hkk
        simp only [Bool.and_eq_true] at hkk
        obtain ⟨p, xs, rfl, h1, h2⟩ := ra.dict x1.sub (keysT_or hkk.2)
        obtain rfl : u = Value.ref p := rx
        obtain ⟨t1, t2⟩ := dx_type I1 h1
        refine ⟨t1, t2, ?_⟩
        rw [M.trees]
        refine Calls.callWith_builtin rfl (Calls.evalArgs_plain (Calls.spliced_cons (thn (he.run pins s1 σ H1 (fun v H2 => ∃ H2f, Ext H1f H1 H2f H2 ∧ RA X.kw H2f H2 v d') I1 ⟨ρ, H1f, sr.ext x1, after_eq e1 fun H2f H2 x2 v rv => ⟨H2f, x2, rv.ra⟩⟩) fun iv s2 ⟨y, H2, I2, ry, H2f, x2, ra2⟩ =>
          Calls.spliced_cons (thn (hf.run pins s2 σ H2 (fun v H3 => ∃ H3f, Ext H2f H2 H3f H3 ∧ RA X.kw H3f H3 v d'') I2 ⟨ρ, H2f, (sr.ext x1).ext x2, after_eq e2 fun H3f H3 x3 v rv => ⟨H3f, x3, rv.ra⟩⟩) fun fv s3 ⟨z', H3, I3, rz, H3f, x3, ra3⟩ => Calls.spliced_nil ?_))))
        have x13 := x2.trans x3
        have rk := (ra2.ext x3).rp (keyT_mut hkk.1)
        obtain ⟨b, rfl⟩ := keyT_ref rk hkk.1
        obtain rfl : iv = Value.ref b := ry
        have hD3 : Rd H3 p (DXO X.prog X.w p xs) := rd_mono x13.s2 h1
        have ent3 := h2.mono x13.s1
        obtain ⟨_, hs, dd⟩ := dx_at I3 hD3 (ent3.mono x3.sub)
        unfold okImm at er
        split at er
        · cases er
        · rename_i him
          cases er
          have hmu : isMut ((dget kvs d').getD d'') = false := by simpa using him
          refine getOr_keyed (nroom hu) (key_at I3 (rk.mono x3.sub) rfl hkk.1) hs ⟨xs, dd, rfl⟩ ?_
          have kf := ent_find ent3 hkk.1
          cases eg : dget kvs d' with
          | none =>
            rw [eg] at kf a4 hmu
            rw [show valueAt (pairsH xs) (nk d') = none from kf]
            exact ⟨z', H3, I3.tok _, rz, a4 _ _ x13 _ (RM.imm (ra3.rp hmu) hmu)⟩
          | some dv =>
            rw [eg] at kf a4 hmu
            obtain ⟨un, w, q1, q2, q3⟩ := kf
            rw [q1]
            exact ⟨w, H3, I3.tok _, q2, a4 _ _ x13 _ (RM.imm q3 hmu)⟩
      · cases er
    · cases er
end
end Q
set_option Elab.async false
set_option linter.all false
set_option maxRecDepth 100000
namespace PySem.SeqAt
open AutoSeq1 (wpAny_loadPart')
open MeetsSeq MeetsSeq2 MeetsSeq3 SeqRoads2
section
variable {prog : Program} {w : World} {A : Around} {E : Value → Shared → Prop} {s : Shared} {l : Addr} {vs : Array Value} {xs : List PyData} {x : Value} {d : PyData} {as bs : List Addr} {QQ : Value → Shared → Prop} {j : Nat}
/-- t.index(x), x in t -/
theorem index_tuple_dt (hl : s.heap.IsTuple l vs) (rs : ReadsAll s.heap vs.toList xs as) (rx : Reads s.heap x d bs) (hxs : PyData.plainAll xs = true) (hd : d.plain = true) (hu : A.units + 1 + min (PyData.depthAll xs) d.depth < cLine) (hp : dataPlace xs d = some j)
    (h : QQ (.int (j : Int) s.toks) { s with toks := s.toks + 1 }) : wpAny (model prog w) A (call (.builtin "tuple.index") [.ref l, x]) QQ E s := by
  obtain ⟨⟨cls, dd, data, sl⟩, ho, hc, n, hd'⟩ := id hl
  simp only at hc hd'
  subst hc hd'
  obtain ⟨hj, hit, hno⟩ := hit_at rs hxs hp
  have ip := items_plain (A := A) rs rx hxs hd hu
  exact call_meets F.slot_tuple_index ⟨_, ho, rfl⟩ F.entry_tuple_index (F.args_tuple_index_2 _ _) (tuple_index2_found l vs n dd sl x (fun m => if hm : m < vs.size then PyData.eqv (readOf s.heap vs[m]) d else false) j hj (Nat.zero_le _) hj (by rw [dif_pos hj]; exact hit) (fun m hm _ h2 => by rw [dif_pos hm]; exact hno m hm h2)) ⟨ho, fun m hm => by rw [dif_pos hm]; exact ip _ (Array.getElem_mem hm), h⟩
end
end PySem.SeqAt
/-! l.count(x). -/
namespace Q
open PySem PySem.W PySem.Spec L2
open PyProof.Rows hiding St
theorem cnt_is (x : D) : ∀ xs : List D, xs.countP (fun y => PyData.eqv y x) = cnt x xs
  | [] => rfl
  | y :: r => by
    rw [List.countP_cons, cnt_is x r, cnt]
    cases PyData.eqv y x <;> simp <;> omega
theorem place_is (x : D) : ∀ xs : List D, SeqAt.dataPlace xs x = placeOf x xs
  | [] => rfl
  | y :: r => by
    have ih := place_is x r
    unfold SeqAt.dataPlace at ih ⊢
    unfold placeOf
    rw [List.findIdx?_cons]
    cases PyData.eqv y x
    · rw [if_neg Bool.false_ne_true, if_neg Bool.false_ne_true, ih]
    · rw [if_pos rfl, if_pos rfl]
section
variable {X : Cx} {c : Ctx} {xc : Nat → Value} {W : WX} {m : Bool} {K : Frag} {Hf H Hf' H' H1f H1 : Hp}
theorem pe_countQ {o e : Expr} {io ie : E} {apos cpos : Pos} (hu : X.A.units + 200 < cLine) (ho : PE X o (tE c xc W X.kw io true)) (he : PE X e (tE c xc W X.kw ie true)) (n1 : noExc ie = true) (M : M1 X o "count" apos e cpos) :
    PE X (.Call (.Attribute o "count" apos) [e] [] cpos) (tE c xc W X.kw (.op .count (.cons io (.cons ie .nil))) m) := by
  refine ⟨fun pins s σ H Q I h => ?_⟩
  obtain ⟨ρ, Hf, sr, a0⟩ := h
  have a1 : After (evE c io true ρ >>= fun d => evE c ie true ρ >>= fun d' => sCount [d, d']) xc W σ Hf H _ := a0.of_eq (by
    simp only [evE, evEs, sem]
    show ((evE c io true ρ >>= fun d => ((evE c ie true ρ >>= fun d => R.ok [d]) >>= fun ds => R.ok (d :: ds))) >>= fun ds => sCount ds) = _
    cases evE c io true ρ with
    | ok x => cases evE c ie true ρ <;> rfl
    | exc x => rfl
    | bad => rfl)
  refine wpAny_Call_method1_late M.base M.line M.trees (thn (ho.run pins s σ H (fun v H1 => ∃ H1f d, Ext Hf H H1f H1 ∧ RA X.kw H1f H1 v d ∧ After (evE c ie true ρ >>= fun d' => sCount [d, d']) xc W σ H1f H1 _) I ⟨ρ, Hf, sr, (After.bind a1).imp fun d H1f H1 x1 a2 v rv => ⟨H1f, d, x1, rv.ra, a2⟩⟩) fun u s1 ⟨x, H1, I1, rx, H1f, d, x1, ra, a2⟩ => ?_)
  obtain ⟨d', e1, a3⟩ := no_exc n1 a2
  cases er : sCount [d, d'] with
  | bad => rw [er] at a3; exact a3.elim
  | exc y => exact absurd er (sem_noexc .count [d, d'] y)
  | ok r =>
    rw [er] at a3
    unfold sCount at er
    split at er
    · rename_i xs z heq
      cases heq
      split at er
      · rename_i hok
        cases er
        simp only [Bool.and_eq_true] at hok
        obtain ⟨p1, p2⟩ := dOk_plain hok.1
        obtain ⟨p3, p4⟩ := allOk_plain hok.2
        obtain ⟨p, ws, rfl, h1, h2⟩ := ra.list x1.sub
        obtain ⟨t4, t5⟩ := tyV_is (T := "list") I1 rx (.inl ⟨rfl, ws, .inl h1⟩)
        refine ⟨"list", "list.count", PySem.F.plainAttrs_list, PySem.F.slot_list_count, PySem.F.type_list_count, t4, t5, ?_⟩
        refine Calls.callWith_builtin rfl (Calls.evalArgs_plain (Calls.spliced_cons (thn (he.run pins s1 σ H1 (fun v H2 => ∃ H2f, Ext H1f H1 H2f H2 ∧ RA X.kw H2f H2 v d') I1 ⟨ρ, H1f, sr.ext x1, after_eq e1 fun H2f H2 x2 v rv => ⟨H2f, x2, rv.ra⟩⟩) fun iv s2 ⟨y, H2, I2, ry, H2f, x2, ra2⟩ => Calls.spliced_nil ?_)))
        obtain ⟨bs, r2⟩ := rdsV I2 x2.sub ra2 ry p1
        obtain ⟨as, r1⟩ := rdsV I2 x2.sub (ra.ext x2) rx (by rw [PyData.plain]; exact p3)
        obtain rfl : u = Value.ref p := rx
        cases r1 with
        | @list l o vs n _ as₁ k1 k2 k3 k4 =>
          refine SeqAt.count_list_data ⟨o, k1, k2, n, k3⟩ k4 r2 p3 p1 (by omega) ?_
          rw [cnt_is]
          exact ⟨.int _, H2, I2.tok _, ⟨_, rfl⟩, a3 _ _ x2 _ (RM.imm (.int _) rfl)⟩
      · cases er
    · cases er
/-- t.index(x) of a tuple of the module, x in it -/
theorem pe_indexG {n : Nat} {y : Str} {e : Expr} {ie : E} {p0 apos cpos : Pos} {gu : Value} {gv : V} {xs : List D} (hu : X.A.units + 200 < cLine) (kl : KLit X.K X.w) (hg : Gl X y) (hm : X.mg y = some gu) (r : L2.RelV gv gu) (hd : (y == ("__debug__" : Str)) = false) (hc : c.gl n = some (.tuple xs)) (rp : ∀ H, Rp X.kw H gv (.tuple xs)) (he : PE X e (tE c xc W X.kw ie true)) (n1 : noExc ie = true) (M : M1 X (.Name y p0) "index" apos e cpos) :
    PE X (.Call (.Attribute (.Name y p0) "index" apos) [e] [] cpos) (tE c xc W X.kw (.op .index (.cons (.g n) (.cons ie .nil))) m) := by
  refine ⟨fun pins s σ H Q I h => ?_⟩
  obtain ⟨ρ, Hf, sr, a0⟩ := h
  have a1 : After (evE c ie true ρ >>= fun d' => sIndex [.tuple xs, d']) xc W σ Hf H _ := a0.of_eq (by
    simp only [evE, evEs, sem, hc]
    show (((evE c ie true ρ >>= fun d => R.ok [d]) >>= fun ds => R.ok (.tuple xs :: ds)) >>= fun ds => sIndex ds) = _
    cases evE c ie true ρ <;> rfl)
  refine wpAny_Call_method1_late M.base M.line M.trees (thn ((pe_glob (pos := p0) hg hm r hd).run pins s σ H (fun v' H1 => v' = gv ∧ H1 = H) I ⟨rfl, rfl⟩) fun u s1 ⟨x, H1, I1, rx, e2, e3⟩ => ?_)
  subst e2 e3
  obtain ⟨d', e1, a3⟩ := no_exc n1 a1
  cases er : sIndex [.tuple xs, d'] with
  | bad => rw [er] at a3; exact a3.elim
  | exc y => exact absurd er (sem_noexc .index [.tuple xs, d'] y)
  | ok rr =>
    rw [er] at a3
    have key : ∃ j, (dOk d' && allOk xs) = true ∧ placeOf d' xs = some j ∧ rr = .int j := by
      unfold sIndex at er
      simp only [seqOf] at er
      split at er
      · rename_i hok
        split at er
        · rename_i j hj
          cases er
          exact ⟨j, hok, hj, rfl⟩
        · cases er
      · cases er
    obtain ⟨j, hok, hj, rfl⟩ := key
    simp only [Bool.and_eq_true] at hok
    obtain ⟨p1, p2⟩ := dOk_plain hok.1
    obtain ⟨p3, p4⟩ := allOk_plain hok.2
    rw [← place_is] at hj
    obtain ⟨p, o, rfl, hk, hcl⟩ : ∃ p o, x = .ref p ∧ X.K.lookup p = some o ∧ o.cls = .type "tuple" := by
      cases rp (fun _ => none) with
      | tup h1 h2 =>
        rcases h1 with h1 | ⟨o, its, n, g1, g2, _⟩
        · rcases h1 with h1 | ⟨_, h1⟩ <;> cases h1
        · exact ⟨_, o, rfl, g1, g2⟩
    obtain ⟨t4, t5⟩ := tyV_is (T := "tuple") I1 rx (.inr (.inl ⟨rfl, o, hk, hcl, kl.2 p o hk hcl⟩))
    refine ⟨"tuple", "tuple.index", PySem.F.plainAttrs_tuple, PySem.F.slot_tuple_index, PySem.F.type_tuple_index, t4, t5, ?_⟩
    refine Calls.callWith_builtin rfl (Calls.evalArgs_plain (Calls.spliced_cons (thn (he.run pins s1 σ H1 (fun v H2 => ∃ H2f, Ext Hf H1 H2f H2 ∧ RA X.kw H2f H2 v d') I1 ⟨ρ, Hf, sr, after_eq e1 fun H2f H2 x2 v rv => ⟨H2f, x2, rv.ra⟩⟩) fun iv s2 ⟨y, H2, I2, ry, H2f, x2, ra2⟩ => Calls.spliced_nil ?_)))
    obtain ⟨bs, r2⟩ := rdsV I2 x2.sub ra2 ry p1
    obtain ⟨as, r1⟩ := rdsV I2 x2.sub (.inl (rp H2f)) rx (by rw [PyData.plain]; exact p3)
    obtain rfl : u = Value.ref p := rx
    cases r1 with
    | @tuple l o vs n _ as₁ k1 k2 k3 k4 =>
      refine SeqAt.index_tuple_dt ⟨o, k1, k2, n, k3⟩ k4 r2 p3 p1 (by omega) hj ?_
      exact ⟨.int _, H2, I2.tok _, ⟨_, rfl⟩, a3 _ _ x2 _ (RM.imm (.int _) rfl)⟩
end
end Q
set_option Elab.async false
set_option linter.all false
set_option maxRecDepth 100000
/-! Dict comprehensions, tuple keys. -/
namespace Q
open PySem PySem.W PySem.Spec L2
open PyProof.Rows hiding St

/-- y: z is put into the dict at D -/
def PutX (K : Frag) (D : Addr) (y z : V) (H : Hp) (N : Hp → Prop) : Prop := ∃ Hg xs b kvs dk, Same Hg H ∧ y = .ref b ∧ H D = some (DXO K.P K.w D xs) ∧ xs.length < sizeLine ∧ RpEnt K Hg xs kvs ∧ Rp K Hg (.ref b) dk ∧ keyT dk = true ∧
  ∀ u, L2.RelV z u → (xs.map (·.1)).Nodup → N (upd H D (DXO K.P K.w D (storedH xs (nk dk) b u)))
section
variable {X : Cx}
def tDx (K : Frag) (wi : TI) (g : TG) (tt : TT) (tk tv : TE) (vs : List Nat) : TE := fun σ H Q => wi σ H fun J H1 => ∀ D, H1 D = none → ∃ W : Nat → Nat → Hp → Prop, (∃ m, W 0 m (upd H1 D (DXO K.P K.w D []))) ∧ ∀ i m H, W i m H →
  (J.stop i H ∧ Q (.ref D) H) ∨ (J.go i H ∧ ∃ Nx : Hp → Prop, (∀ H', Nx H' → ∃ m', m' < m ∧ W (i + 1) m' H') ∧ ∀ x H', J.yld i H x H' → g x (L2.wipe σ vs) H' fun σ2 H2 => L2.wipe σ2 vs = L2.wipe σ vs ∧ tt σ2 H2 fun b H3 =>
    if b = true then tk σ2 H3 fun y H4 => tv σ2 H4 fun z H5 => PutX K D y z H5 Nx else Nx H3)
theorem dx_core {pins : List (Addr × Obj)} {s : Shared} {σ : L2.St} {H : Hp} {Q : VK} {kx vx tg iter : Expr} {ifs : List Expr} {scope : Scope} {own : List (Str × Nat)} {pos pos' : Pos} {wi : TI} {g : TG} {tt : TT} {tk tv : TE} {use : Option (Value → Sem Unit)} {Qf : Value → Shared → Prop}
    (hu : X.A.units + 200 < cLine) (hc : X.calm = true) (hN : X.N.Nodup) (I : Inv X pins σ H s) (hi : PI X tg iter wi) (ok : BlkOk X.N X.env.scope scope own)
    (hg : ∀ (s : Shared) (H : Hp) (C : Addr) (cl : List (Str × Addr)) (fp : List Addr), PG (X.blk s H scope (compEnvC scope cl C X.env) fp) tg g) (ht : ∀ (s : Shared) (H : Hp) (C : Addr) (cl : List (Str × Addr)) (fp : List Addr), PTs (X.blk s H scope (compEnvC scope cl C X.env) fp) ifs tt)
    (hk : ∀ (s : Shared) (H : Hp) (C : Addr) (cl : List (Str × Addr)) (fp : List Addr), PE (X.blk s H scope (compEnvC scope cl C X.env) fp) kx tk)
    (he : ∀ (s : Shared) (H : Hp) (C : Addr) (cl : List (Str × Addr)) (fp : List Addr), PE (X.blk s H scope (compEnvC scope cl C X.env) fp) vx tv) (hs : ∀ x, foldedSetIterable iter X.env x = pure x)
    (h : tDx X.kw wi g tt tk tv (own.map (·.2)) σ H Q)
    (hRR : ∀ D C s' m H', Inv X pins σ H' s' → Q (.ref D) H' → s'.heap.Ns C m → FpOk X pins H' C → compPost (model X.prog X.w) X.A X.xe use Qf (.ref D) C (.ok .next) s') :
    wpAny (model X.prog X.w) X.A (comprehension (.DictComp kx vx [⟨tg, iter, ifs, 0⟩] scope pos) scope X.env pos' newDict false (eval iter X.env) use) Qf X.xe s := by
  have hfree : ∀ y ∈ scope.names, y.2 = .free → ∃ c, X.env.cells.lookup y.1 = some c := fun y hy e => by
    rcases ok.free y hy e with k | k
    · exact I.ok.has _ (.inl k)
    · exact I.ok.has _ (.inr k)
  refine wpAny_comprehension_free (use := use) rfl hs (closure_ok hfree) ok.kind (fun y hy e => by rw [ok.uniq y hy, e])
    (thn (hi.run pins s σ H _ I h) fun xv s1 hx => thn hx fun itv s2 h2 => ?_)
  obtain ⟨it, fp, tn, J, H2, e, I2, T, st2, f2, q⟩ := h2
  subst e
  refine wpAny_newObj_type (newEnv_comp ?_)
  generalize hD : s2.heap.objs.size = D
  have hDn : H2 D = none := I2.hok.fresh (Nat.le_of_eq hD)
  obtain ⟨W, ⟨m0, w0⟩, turn⟩ := q D hDn
  generalize hs3 : ({ s2 with heap := s2.heap.push { cls := .type "dict", data := .dict #[] } } : Shared) = s3
  have I3 : Inv X pins σ (upd H2 D (DXO X.prog X.w D [])) s3 := by
    rw [← hs3]
    refine I2.laid (t' := s2.toks) (fun b o e => Heap.get?_push_of_some _ e) (Nat.le_of_eq hD) ?_
    rw [← hD]
    exact dxo_ok (Nat.zero_le _) (beq_eq_false_iff_ne.mpr (Nat.ne_of_gt I2.big)) (Heap.DictOfH.new s2.heap)
  have h3 : s3.heap = s2.heap.push { cls := .type "dict", data := .dict #[] } := by rw [← hs3]
  have sz : ∀ b ∈ fp, b < s2.heap.objs.size := fun b hb => by
    obtain ⟨o, e, _⟩ := T.obj _ _ st2 b hb
    exact Heap.lt_size e
  have f3 : ∀ b ∈ fp, FpOk X pins (upd H2 D (DXO X.prog X.w D [])) b ∧ b < s3.heap.objs.size := fun b hb => by
    have hlt := sz b hb
    refine ⟨⟨?_, (f2 b hb).2⟩, by rw [h3, Heap.size_push]; exact Nat.lt_succ_of_lt hlt⟩
    rw [upd_ne (by rw [← hD]; exact Nat.ne_of_lt hlt)]
    exact (f2 b hb).1
  have st3 : tn 0 s3.heap := T.keep _ _ _ st2 fun b _ o e => by rw [h3]; exact Heap.get?_push_of_some _ e
  have I4 := block_start I3 ok hN f3
  have pg := hg s3 (upd H2 D (DXO X.prog X.w D [])) s3.heap.objs.size (cellsFrom (s3.heap.objs.size + 1) scope.names (cloFrom X.env.cells scope.names [])) fp
  have pt := ht s3 (upd H2 D (DXO X.prog X.w D [])) s3.heap.objs.size (cellsFrom (s3.heap.objs.size + 1) scope.names (cloFrom X.env.cells scope.names [])) fp
  have pk := hk s3 (upd H2 D (DXO X.prog X.w D [])) s3.heap.objs.size (cellsFrom (s3.heap.objs.size + 1) scope.names (cloFrom X.env.cells scope.names [])) fp
  have pe := he s3 (upd H2 D (DXO X.prog X.w D [])) s3.heap.objs.size (cellsFrom (s3.heap.objs.size + 1) scope.names (cloFrom X.env.cells scope.names [])) fp
  show codeAny _ _ (.compStart (.DictComp kx vx [⟨tg, iter, ifs, 0⟩] scope pos) 0 (.ref it) (.ref D) (compEnvC scope (cellsFrom (s3.heap.objs.size + 1) scope.names (cloFrom X.env.cells scope.names [])) s3.heap.objs.size X.env)) (compPost (model X.prog X.w) X.A X.xe use Qf (.ref D) s3.heap.objs.size) { s3 with heap := pushCells (s3.heap.push { cls := .type "dict", data := .dict #[] }) scope.names }
  have nfp : ∀ b ∈ fp, (upd H2 D (DXO X.prog X.w D [])) b = none := fun b hb => (f3 b hb).1.1
  generalize hce : compEnvC scope (cellsFrom (s3.heap.objs.size + 1) scope.names (cloFrom X.env.cells scope.names [])) s3.heap.objs.size X.env = ce at I4 pg pt pk pe ⊢
  have cL : ce.locals = s3.heap.objs.size := by subst hce; rfl
  have w0' : W 0 m0 (upd H2 D (DXO X.prog X.w D [])) := w0
  generalize hH3 : upd H2 D (DXO X.prog X.w D []) = H3 at I3 I4 pg pt pk pe w0' nfp f3
  generalize hs4 : ({ s3 with heap := pushCells (s3.heap.push { cls := .type "dict", data := .dict #[] }) scope.names } : Shared) = s4 at I4 ⊢
  have st4 : tn 0 s4.heap := T.keep _ _ _ st3 fun b _ o e => by rw [← hs4]; exact pushCells_keeps _ _ _ _ (Heap.get?_push_of_some _ e)
  have stat : ∀ {σ' : L2.St} {H' : Hp} {s' : Shared}, Inv (X.blk s3 H3 scope ce fp) [] σ' H' s' → (∀ b ∈ fp, H' b = none) → ∀ b ∈ fp, FpOk (X.blk s3 H3 scope ce fp) [] H' b := fun {σ' H' s'} I' hn b hb =>
    ⟨hn b hb, (I'.ok.exf b hb).1, I'.ok.exfs b hb, .inl hb, fun x c e => (I'.ok.exf b hb).2 x c e, fun p hp => absurd (show p ∈ ([] : List (Addr × Obj)) ++ [] from hp) (by simp)⟩
  have loop : codeAny (model X.prog X.w) X.A (.compLoop (.DictComp kx vx [⟨tg, iter, ifs, 0⟩] scope pos) 0 (.ref it) (.ref D) ce) (compPost (model X.prog X.w) X.A X.xe use Qf (.ref D) s3.heap.objs.size) s4 := by
    refine compLoop_anyD (fun n s' => ∃ i H', Inv (X.blk s3 H3 scope ce fp) [] (L2.wipe σ (own.map (·.2))) H' s' ∧ tn i s'.heap ∧ (∀ b ∈ fp, H' b = none) ∧ W i n H') ?_ m0 ⟨0, H3, I4, st4, nfp, w0'⟩
    rintro n s5 ⟨i, H5, I5, st5, n5, w5⟩
    rcases turn i n H5 w5 with ⟨stop, qq⟩ | ⟨go, Nx, hNx, step⟩
    · have td := T.done (X.blk s3 H3 scope ce fp) rfl rfl rfl hc i [] s5 _ H5 (fun _ _ => False) I5 (stat I5 n5) st5 stop
      refine thnF td fun r s6 ⟨hr, I6⟩ => ?_
      subst hr
      have I7 : Inv X pins σ H5 s6 := I3.call' (ch := fp) I6.os I6.base I6.hok I6.bare fun b hb => ⟨(f3 b hb).1.2.2.2.1, (f3 b hb).1.2.1, (f3 b hb).1.2.2.2.2.1, (f3 b hb).1.2.2.2.2.2⟩
      have nC : H5 s3.heap.objs.size = none := by
        have z : H5 ce.locals = none := I6.free
        rw [cL] at z
        exact z
      obtain ⟨m, hn, _⟩ := I6.loc
      have hn : s6.heap.Ns ce.locals m := hn
      rw [cL] at hn
      exact hRR D s3.heap.objs.size s6 m H5 I7 qq hn (I3.fpOk (Nat.le_refl _) nC)
    · have ti := T.item (X.blk s3 H3 scope ce fp) rfl rfl rfl hc i [] s5 _ H5 (fun _ _ => False) I5 (stat I5 n5) st5 go
      refine thnF ti fun r s6 ⟨u, hr, h6⟩ => ?_
      subst hr
      refine thnF h6 fun _ s7 ⟨x, H7, I7, r7, y7, st7, n7⟩ => ?_
      have I7' := I7.pinned (stat I7 n7) (T.obj _ _ st7)
      refine thnF (pg.run _ s7 _ H7 x u _ I7' r7 (step x H7 y7)) fun _ s8 ⟨σ8, H8, I8, hw8, q8⟩ => ?_
      refine thnF (pt.run _ s8 σ8 H8 _ I8 q8) fun b s9 ⟨H9, I9, q9⟩ => ?_
      have fin : ∀ {s' : Shared} {H' : Hp}, Inv (X.blk s3 H3 scope ce fp) ([] ++ pinsAt fp s7.heap) σ8 H' s' → Nx H' → ∃ m, m < n ∧ ∃ i H', Inv (X.blk s3 H3 scope ce fp) [] (L2.wipe σ (own.map (·.2))) H' s' ∧ tn i s'.heap ∧ (∀ b ∈ fp, H' b = none) ∧ W i m H' := fun {s' H'} I' nx => by
        obtain ⟨m', hm, w'⟩ := hNx H' nx
        have pin' : ∀ b ∈ fp, ∀ o, s7.heap.get? b = some o → s'.heap.get? b = some o ∧ H' b = none := fun b hb o e =>
          let z := I'.pin (b, o) (List.mem_append_right _ (List.mem_append_right _ (mem_pinsAt hb e)))
          ⟨z.1, z.2.1⟩
        have hl : (L2.wipe σ (own.map (·.2))).length = σ8.length := by rw [← hw8, wipe_length]
        refine ⟨m', hm, i + 1, H', (I'.unpinned (pins := [])).weak hl (fun j v e => ?_), T.keep _ _ _ st7 fun b hb o e => (pin' b hb o e).1, fun b hb => ?_, w'⟩
        · rw [← hw8] at e
          exact (wipe_some e).1
        · obtain ⟨o, e, _⟩ := T.obj _ _ st7 b hb
          exact (pin' b hb o e).2
      cases b with
      | false =>
        simp only [Bool.false_eq_true, if_false] at q9 ⊢
        exact fin I9 q9
      | true =>
        simp only [if_true] at q9 ⊢
        refine thnF (pk.run _ s9 σ8 H9 _ I9 q9) fun z s10 ⟨yk, H10, I10, r10, q10⟩ => ?_
        refine thnF (pe.run _ s10 σ8 H10 _ I10 q10) fun z2 s11 ⟨yv, H11, I11, r11, Hg, xs, b, kvs, dk, sg, ek, hD11, hz11, ent, kr, hkt, nx⟩ => ?_
        subst ek
        obtain rfl : z = Value.ref b := r10
        have nd := dx_nodup (X := X.blk s3 H3 scope ce fp) I11 (.inl hD11)
        exact dx_dictSet (X := X.blk s3 H3 scope ce fp) hu I11 hD11 (ent.mono sg) (kr.mono sg) hkt hz11 fun s12 I12 => fin I12 (nx z2 r11 nd)
  exact codeAny_compStart_dict loop (T.self X.A 0 _ _ _ st4 loop)
/-- as a value -/
theorem pe_dx {kx vx tg iter : Expr} {ifs : List Expr} {scope : Scope} {own : List (Str × Nat)} {pos : Pos} {wi : TI} {g : TG} {tt : TT} {tk tv : TE} (hu : X.A.units + 200 < cLine) (hc : X.calm = true) (hN : X.N.Nodup) (hi : PI X tg iter wi) (ok : BlkOk X.N X.env.scope scope own)
    (hg : ∀ (s : Shared) (H : Hp) (C : Addr) (cl : List (Str × Addr)) (fp : List Addr), PG (X.blk s H scope (compEnvC scope cl C X.env) fp) tg g) (ht : ∀ (s : Shared) (H : Hp) (C : Addr) (cl : List (Str × Addr)) (fp : List Addr), PTs (X.blk s H scope (compEnvC scope cl C X.env) fp) ifs tt)
    (hk : ∀ (s : Shared) (H : Hp) (C : Addr) (cl : List (Str × Addr)) (fp : List Addr), PE (X.blk s H scope (compEnvC scope cl C X.env) fp) kx tk)
    (he : ∀ (s : Shared) (H : Hp) (C : Addr) (cl : List (Str × Addr)) (fp : List Addr), PE (X.blk s H scope (compEnvC scope cl C X.env) fp) vx tv) (hs : ∀ x, foldedSetIterable iter X.env x = pure x) :
    PE X (.DictComp kx vx [⟨tg, iter, ifs, 0⟩] scope pos) (tDx X.kw wi g tt tk tv (own.map (·.2))) := by
  refine ⟨fun pins s σ H Q I h => ?_⟩
  rw [arm_eval_DictComp]
  refine dx_core hu hc hN I hi ok hg ht hk he hs h fun D C s' m H' I' q hn f => ⟨m, hn, fun h'' sb => ?_⟩
  obtain ⟨f0, f1, f2, f3, f4, f5⟩ := f
  exact ⟨.ref D, H', I'.turned (t' := s'.toks) (fun b o hb e => (sb.2 b hb).trans e) f0 f1 f3 f4 f5, rfl, q⟩
end
section
variable {X : Cx} {c : Ctx} {xc : Nat → Value} {W : WX} {K : Frag} {m : Bool} {Hf H Hf' H' H1f H1 : Hp}
def dStep (c : Ctx) (tg : Tg) (t : Option T) (kx vx : E) (ρ : Env) : D → R (Option (D × D)) := fun d => tg.bind d (wipe ρ tg.slots) >>= fun ρ' => evTo c t ρ' >>= fun b => if b then evE c kx false ρ' >>= fun x => evE c vx false ρ' >>= fun y => .ok (some (x, y)) else .ok none
theorem dStep_inv {tg : Tg} {t : Option T} {kx vx : E} {ρ : Env} {d : D} {o : Option (D × D)} (h : dStep c tg t kx vx ρ d = .ok o) : ∃ ρ', tg.bind d (wipe ρ tg.slots) = .ok ρ' ∧ ((evTo c t ρ' = .ok false ∧ o = none) ∨ ∃ x y, evTo c t ρ' = .ok true ∧ evE c kx false ρ' = .ok x ∧ evE c vx false ρ' = .ok y ∧ o = some (x, y)) := by
  obtain ⟨ρ', h1, h2⟩ := bind_ok h
  obtain ⟨k, h3, h4⟩ := bind_ok h2
  refine ⟨ρ', h1, ?_⟩
  cases k with
  | true =>
    obtain ⟨x, h5, h6⟩ := bind_ok h4
    obtain ⟨y, h7, h8⟩ := bind_ok h6
    cases h8
    exact .inr ⟨x, y, h3, h5, h7, rfl⟩
  | false => cases h4; exact .inl ⟨h3, rfl⟩
theorem foldDict_cons {f : D → R (Option (D × D))} {x : D} {xs : List D} {acc r : List (D × D)} (h : foldDict f (x :: xs) acc = .ok r) : (f x = .ok none ∧ foldDict f xs acc = .ok r) ∨ ∃ k v, f x = .ok (some (k, v)) ∧ keyT k = true ∧ acc.length < LIM ∧ foldDict f xs (dput acc k v) = .ok r := by
  rw [foldDict] at h
  obtain ⟨o, h1, h2⟩ := bind_ok h
  have h1 := quiet_ok h1
  cases o with
  | none => exact .inl ⟨h1, h2⟩
  | some p =>
    have h3 : (if keyT p.1 && decide (acc.length < LIM) then foldDict f xs (dput acc p.1 p.2) else .bad) = .ok r := h2
    split at h3
    · rename_i hh
      simp only [Bool.and_eq_true, decide_eq_true_eq] at hh
      exact .inr ⟨p.1, p.2, h1, hh.1, hh.2, h3⟩
    · cases h3
theorem foldDict_exc {f : D → R (Option (D × D))} {e : Nat} : ∀ l acc, foldDict f l acc ≠ .exc e
  | [], acc => fun h => nomatch h
  | x :: xs, acc => fun h => by
    rw [foldDict] at h
    cases q : quiet (f x) with
    | ok o =>
      rw [q] at h
      cases o with
      | none => exact foldDict_exc xs acc h
      | some p =>
        have h3 : (if keyT p.1 && decide (acc.length < LIM) then foldDict f xs (dput acc p.1 p.2) else .bad) = .exc e := h
        split at h3
        · exact foldDict_exc xs _ h3
        · cases h3
    | exc y => exact quiet_exc q
    | bad => exact nomatch (show R.bad = R.exc e from by rw [q] at h; exact h)
/-- where a comprehension stands -/
def DInv (K : Frag) (H1f H1 : Hp) (f : D → R (Option (D × D))) (ds : List D) (kvs : List (D × D)) (D : Addr) (i m : Nat) (H' : Hp) : Prop :=
  ∃ Hf' xs acc, m = ds.length - i ∧ i ≤ ds.length ∧ Ext H1f H1 Hf' (del H' D) ∧ Hf' D = none ∧ H' D = some (DXO K.P K.w D xs) ∧ RpEnt K Hf' xs acc ∧ foldDict f (ds.drop i) acc = .ok kvs
theorem dcomp_read {kx vx : E} {ig : Tg} {it : I} {ic : Option T} {vs : List Nat} {σ : L2.St} {Q : VK} (hv : vs = ig.slots) (h : tE c xc W K (.dcomp kx vx ig it ic) m σ H Q) : tDx K (tI c xc W K it true) (gT K ig) (tTo c xc W0 K ic) (tE c xc W0 K kx false) (tE c xc W0 K vx false) vs σ H Q := by
  subst hv
  obtain ⟨ρ, Hf, s0, a⟩ := h
  refine ⟨ρ, Hf, s0, (After.bind (f := fun xs => foldDict (dStep c ig ic kx vx ρ) xs [] >>= fun kvs => _root_.Q.R.ok (PyData.dict kvs)) a).imp fun ds H1f H1 x1 a2 J wk D hD => ?_⟩
  have s := s0.ext x1
  cases e : foldDict (dStep c ig ic kx vx ρ) ds [] with
  | exc y => exact absurd e (foldDict_exc _ _)
  | bad => rw [e] at a2; exact a2.elim
  | ok kvs =>
    rw [e] at a2
    have a3 : After (_root_.Q.R.ok (PyData.dict kvs)) xc W σ H1f H1 _ := a2
    refine ⟨DInv K H1f H1 (dStep c ig ic kx vx ρ) ds kvs D, ⟨ds.length, H1f, [], [], rfl, Nat.zero_le _, ?_, none_sub s.sub hD, upd_same, .nil, e⟩, fun i m H hW => ?_⟩
    · rw [del_upd, del_none hD]; exact Ext.refl s.sub
    obtain ⟨Hf', xs, acc, em, hi, x, hfD, hHD, rp, ec⟩ := hW
    have xu : Ext H1f H1 Hf' H := x.undel
    obtain ⟨w1, w2⟩ := wk Hf' H xu i
    by_cases hlt : i < ds.length
    · right
      obtain ⟨d, ed⟩ : ∃ d, ds[i]? = some d := ⟨ds[i], List.getElem?_eq_getElem hlt⟩
      obtain ⟨g1, g2⟩ := w2 d ed
      have edrop : ds.drop i = d :: ds.drop (i + 1) := by
        rw [List.getElem?_eq_getElem hlt] at ed
        cases ed
        exact List.drop_eq_getElem_cons hlt
      rw [edrop] at ec
      refine ⟨g1, fun H' => ∃ m', m' < m ∧ DInv K H1f H1 (dStep c ig ic kx vx ρ) ds kvs D (i + 1) m' H', fun H' h => h, fun v H'' hyl => ?_⟩
      obtain ⟨Hf2, x2, rv⟩ := g2 v H'' hyl
      have hD'' : H'' D = some (DXO K.P K.w D xs) := x2.s2 _ _ hHD
      rcases foldDict_cons ec with ⟨c1, c2⟩ | ⟨dk, dv, c1, c2, c3, c4⟩
      · obtain ⟨ρ', b1, b2⟩ := dStep_inv c1
        refine ⟨_, Hf2, d, ρ', (s.ext (xu.trans x2)).wipe2 ig.slots, rv, b1, fun σ2 s2 bd => ⟨?_, ρ', Hf2, s2, ?_⟩⟩
        · rw [wipe_same (l' := []) (σ := L2.wipe σ ig.slots) bd.len fun j hj => (bd.off j hj).1]
          exact wipe_wipe fun _ h => h
        rcases b2 with ⟨b2, _⟩ | ⟨_, _, _, _, _, h⟩
        · refine after_eq b2 fun Hf3 H3 x3 => ?_
          dsimp only
          rw [if_neg Bool.false_ne_true]
          obtain ⟨xd, hf3⟩ := (x2.trans x3).cut hHD rfl hfD
          exact ⟨ds.length - (i + 1), by omega, Hf3, xs, acc, rfl, hlt, x.trans xd, hf3, x3.s2 _ _ hD'', rp.mono (x2.s1.trans x3.s1), c2⟩
        · cases h
      · obtain ⟨ρ', b1, b2⟩ := dStep_inv c1
        refine ⟨_, Hf2, d, ρ', (s.ext (xu.trans x2)).wipe2 ig.slots, rv, b1, fun σ2 s2 bd => ⟨?_, ρ', Hf2, s2, ?_⟩⟩
        · rw [wipe_same (l' := []) (σ := L2.wipe σ ig.slots) bd.len fun j hj => (bd.off j hj).1]
          exact wipe_wipe fun _ h => h
        rcases b2 with ⟨_, h⟩ | ⟨k', v', b2, b3, b4, h⟩
        · cases h
        · cases h
          refine after_eq b2 fun Hf3 H3 x3 => ?_
          dsimp only
          rw [if_pos rfl]
          refine ⟨ρ', Hf3, s2.ext x3, after_eq b3 fun Hf4 H4 x4 w rw' => ?_⟩
          refine ⟨ρ', Hf4, (s2.ext x3).ext x4, after_eq b4 fun Hf5 H5 x5 w5 rw5 => ?_⟩
          obtain ⟨Hg, y1, sg, rp'⟩ := rw5.rv.hold x5
          have hD5 : H5 D = some (DXO K.P K.w D xs) := x5.s2 _ _ (x4.s2 _ _ (x3.s2 _ _ hD''))
          have xt := ((x2.trans x3).trans x4).trans y1
          obtain ⟨xd, hf3⟩ := xt.cut hHD rfl hfD
          have rk := ((rw'.rv.ra).rp (keyT_mut c2)).mono y1.s1
          obtain ⟨b, rfl⟩ := keyT_ref rk c2
          have ent := rp.mono xt.s1
          refine ⟨Hg, xs, b, acc, dk, y1.sub, rfl, hD5, by rw [ent.len, ← LIM_eq]; exact c3, ent, rk, c2, fun u ru nd => ⟨ds.length - (i + 1), by omega, Hg, _, dput acc dk dv, rfl, hlt, ?_, hf3, upd_same, ent_put ent nd rk c2 ru rp', c4⟩⟩
          rw [del_upd]; exact x.trans xd
    · left
      have hi' : i = ds.length := by omega
      refine ⟨w1 (by omega), ?_⟩
      rw [hi', List.drop_length] at ec
      cases ec
      exact a3 _ _ xu _ (RM.of_rn (by unfold RN; exact ⟨D, _, rfl, none_sub x1.s2 hD, hfD, hHD, .dct rp⟩))
theorem pe_dcompQ {kx vx tg iter : Expr} {ifs : List Expr} {scope : Scope} {own : List (Str × Nat)} {pos : Pos} {ik iv : E} {ig : Tg} {it : I} {ic : Option T} (hu : X.A.units + 200 < cLine) (hc : X.calm = true) (hN : X.N.Nodup) (hi : PI X tg iter (tI c xc W X.kw it true)) (ok : BlkOk X.N X.env.scope scope own) (hv : own.map (fun x => x.snd) = ig.slots)
    (hg : ∀ s H C cl fp, PG (X.blk s H scope (compEnvC scope cl C X.env) fp) tg (gT X.kw ig)) (ht : ∀ s H C cl fp, PTs (X.blk s H scope (compEnvC scope cl C X.env) fp) ifs (tTo c xc W0 X.kw ic)) (hk : ∀ s H C cl fp, PE (X.blk s H scope (compEnvC scope cl C X.env) fp) kx (tE c xc W0 X.kw ik false)) (he : ∀ s H C cl fp, PE (X.blk s H scope (compEnvC scope cl C X.env) fp) vx (tE c xc W0 X.kw iv false)) (hf : ∀ x : Value, foldedSetIterable iter X.env x = pure x) :
    PE X (.DictComp kx vx [{ target := tg, iter := iter, ifs := ifs, is_async := 0 }] scope pos) (tE c xc W X.kw (.dcomp ik iv ig it ic) m) :=
  impE (pe_dx hu hc hN hi ok hg ht hk he hf) fun σ H Q h => dcomp_read hv h
end
end Q
set_option Elab.async false
set_option linter.all false
set_option maxRecDepth 100000
/-! Statements that change lists and dicts. -/
namespace Q
open PySem PySem.W PySem.Spec L2
open PyProof.Rows hiding St
section
variable {X : Cx} {c : Ctx} {xc : Nat → Value} {W : WX} {K : Frag} {m : Bool} {Hf H Hf' H' H1f H1 : Hp}
/-- name = {..} on one line, the name a local -/
theorem ps_setDx {i : Nat} {y : Str} {py : Pos} {kx vx tg iter : Expr} {ifs : List Expr} {scope : Scope} {own : List (Str × Nat)} {pos spos : Pos} {wi : TI} {g : TG} {tt : TT} {tk tv : TE} (hu : X.A.units + 200 < cLine) (hc : X.calm = true) (hN : X.N.Nodup) (hy : X.N[i]? = some y) (hyl : X.env.scope.names.lookup y = some .local)
    (hsw : swapsWith (.DictComp kx vx [⟨tg, iter, ifs, 0⟩] scope pos) (some (.Name y py)) spos.line X.env = pure true) (hi : PI X tg iter wi) (ok : BlkOk X.N X.env.scope scope own)
    (hg : ∀ (s : Shared) (H : Hp) (C : Addr) (cl : List (Str × Addr)) (fp : List Addr), PG (X.blk s H scope (compEnvC scope cl C X.env) fp) tg g) (ht : ∀ (s : Shared) (H : Hp) (C : Addr) (cl : List (Str × Addr)) (fp : List Addr), PTs (X.blk s H scope (compEnvC scope cl C X.env) fp) ifs tt)
    (hk : ∀ (s : Shared) (H : Hp) (C : Addr) (cl : List (Str × Addr)) (fp : List Addr), PE (X.blk s H scope (compEnvC scope cl C X.env) fp) kx tk)
    (he : ∀ (s : Shared) (H : Hp) (C : Addr) (cl : List (Str × Addr)) (fp : List Addr), PE (X.blk s H scope (compEnvC scope cl C X.env) fp) vx tv) (hs : ∀ x, foldedSetIterable iter X.env x = pure x) :
    PS X (.Assign [.Name y py] (.DictComp kx vx [⟨tg, iter, ifs, 0⟩] scope pos) spos) (tAsg (tDx X.kw wi g tt tk tv (own.map (·.2))) (gName i)) := by
  refine ⟨fun pins s σ H D I h => ?_⟩
  rw [exec_Assign_Name_used _ _ _ _ hsw]
  refine wpAny_bind (wpAny_standAt (wpAny_bind ?_))
  show wpAny _ X.A (do let _ ← comprehension (.DictComp kx vx [⟨tg, iter, ifs, 0⟩] scope pos) scope X.env (firstIterPos [⟨tg, iter, ifs, 0⟩] pos) newDict false (eval iter X.env) (some (assign (.Name y py) X.env))) _ _ s
  have h : tDx X.kw wi g tt tk tv (own.map (·.2)) σ H (fun x H1 => gName i x σ H1 D.nx) := h
  refine wpAny_bind (thn (dx_core (Qf := fun _ s' => SP X pins D .next s') hu hc hN I hi ok hg ht hk he hs h fun L C s' m H' I' q hn f => ?_) fun _ s' hq => wpAny_pure (wpAny_pure hq))
  show wpAny _ _ (assign (.Name y py) X.env (.ref L)) _ _ _
  refine wpAny_assign_Name (store_ok2 (v := V.ref L) I' hN hy (.inl hyl) rfl (fun s2 I2 ⟨a, sb, ha⟩ => ?_) (.inr hyl))
  obtain ⟨f0, f1, f2, f3, f4, f5⟩ := f
  have haC : C ≠ a := by
    rcases ha with z | z
    · rw [z]; exact f1
    · exact fun e => f4 y a z e.symm
  refine ⟨m, hn.sameBut sb haC, fun h3 sb3 => ?_⟩
  exact ⟨_, H', I2.turned (t' := s2.toks) (fun b o hb e => (sb3.2 b hb).trans e) f0 f1 f3 f4 f5, q⟩
theorem Con.dict {kvs : List (_root_.Q.D × _root_.Q.D)} {ob : HO} {p : Addr} (q : Con K Hf p ob (.dict kvs)) : ∃ xs, ob = DXO K.P K.w p xs ∧ RpEnt K Hf xs kvs := by
  cases q with
  | dct r => exact ⟨_, rfl, r⟩
theorem set_rp {vs : List V} {ds : List _root_.Q.D} {v : V} {d : _root_.Q.D} (h : RpAll K Hf vs ds) (r : Rp K Hf v d) (n : Nat) : RpAll K Hf (vs.set n v) (ds.set n d) := h.set r n
/-- x[k] = e -/
theorem ps_setiQ {i : Nat} {x : Str} {kx vx : Expr} {ik ie : E} {p1 pos pos' : Pos} (hu : X.A.units + 200 < cLine) (hi : X.N[i]? = some x) (hv : Vis X.env.scope x) (h1 : (x == ("__debug__" : Str)) = false) (h2 : (x == ("__classdict__" : Str)) = false) (hk : PE X kx (tE c xc W X.kw ik false)) (he : PE X vx (tE c xc W X.kw ie false)) (hsw : swapsWith vx (some (.Subscript (.Name x p1) kx pos')) pos.line X.env = pure false) :
    PS X (.Assign [.Subscript (.Name x p1) kx pos'] vx pos) (tS c xc W X.kw (.seti i ik ie)) := by
  refine ⟨fun pins s σ H D I h => ?_⟩
  obtain ⟨Hf0, H0, ρ, Hf, s0, a⟩ := h
  simp only [evS] at a
  split at a
  · rename_i o eo
    obtain ⟨es, p, ob, ep, hf, hp, q⟩ := s0.at_own eo
    refine wpAny_Assign_Subscript (thn (he.run pins s σ H (fun v H1 => ∃ Hg d, Ext Hf H Hg H1 ∧ Rp X.kw Hg v d ∧ EndF X.kw Hf0 H0 Hf xc W D _) I ⟨ρ, Hf, s0.sr, (EndF.after a s0).imp fun d H1f H1 x1 a2 v rv => let ⟨Hg, y, sg, rp⟩ := rv.rv.hold x1; ⟨Hg, d, y, rp, a2⟩⟩) fun r s1 ⟨v, H1, I1, rv, Hg, d, y, rp, a2⟩ => ?_) hsw
    refine thn ((pe_var hi hv h1 h2).run pins s1 σ H1 (fun v' H2 => v' = .ref p ∧ H2 = H1) I1 ⟨.ref p, ep, rfl, rfl⟩) fun u s2 ⟨x', H2, I2, rx, e1, e2⟩ => ?_
    subst e1 e2
    obtain rfl : u = Value.ref p := rx
    refine thn (hk.run pins s2 σ H2 (fun w H3 => ∃ Hh dk, Ext Hg H2 Hh H3 ∧ Rp X.kw Hh w dk ∧ EndF X.kw Hf0 H0 Hg xc W D _) I2 ⟨ρ, Hg, s0.sr.ext y, (EndF.after (a2.less y.s1) (s0.step y)).imp fun dk H3f H3 x3 a3 w rw => let ⟨Hh, z, sg, rp⟩ := rw.rv.hold x3; ⟨Hh, dk, z, rp, a3⟩⟩) fun iv s3 ⟨w, H3, I3, rw', Hh, dk, z, rk, a3⟩ => ?_
    have yz := y.trans z
    have hp3 : H3 p = some ob := yz.s2 _ _ hp
    have hf3 : Hh p = none := yz.hid p ob hp q.own hf
    have q3 := q.mono yz.s1
    have rp3 := rp.mono z.s1
    split at a3
    · rename_i xs j _ _
      obtain ⟨vs, rfl, rl⟩ := q3.list
      cases rk
      split at a3
      · rename_i n hn
        refine thn (set_list pins s3 σ H3 (.ref p) (.int j) v (.ref p) iv r (fun H4 => D.nx σ H4) I3 rfl rw' rv ⟨p, vs, j, n, rfl, rfl, hp3, by rw [rl.len]; exact hn, ?_⟩) fun _ s4 ⟨H4, I4, q4⟩ => ⟨σ, H4, I4, q4⟩
        exact a3 σ Hh _ ((s0.step yz).mut es ep hf3 hp3 (.lst (rl.set rp3 n))) z.s1
      · exact a3.elim
    · rename_i kvs k
      split at a3
      · rename_i hh
        simp only [Bool.and_eq_true, decide_eq_true_eq] at hh
        obtain ⟨xs, rfl, ent⟩ := q3.dict
        obtain ⟨b, rfl⟩ := keyT_ref rk hh.1.1
        obtain rfl : iv = Value.ref b := rw'
        have sb3 := (s0.step yz).sr.sub
        have nd := dx_nodup I3 (.inl hp3)
        refine dx_set hu I3 hp3 (ent.mono sb3) (rk.mono sb3) hh.1.1 (by rw [ent.len, ← LIM_eq]; exact hh.2) fun s4 I4 => ⟨σ, _, I4, ?_⟩
        exact a3 σ Hh _ ((s0.step yz).mut es ep hf3 hp3 (.dct (ent_put ent nd rk hh.1.1 rv rp3))) z.s1
      · exact a3.elim
    · exact a3.elim
  · exact a.elim
/-- x.pop(k), x a dict; what is popped is not kept -/
def tDpop (c : Ctx) (xc : Nat → Value) (W : WX) (K : Frag) (i : Nat) (ik : E) (D : Ends) : TE := fun σ H Q => ∃ Hf0 H0 ρ Hf, SI K Hf0 H0 σ ρ Hf H ∧ EndF K Hf0 H0 Hf xc W D (evS c (.dpop i ik) ρ) ∧ ∀ v H', D.nx σ H' → Q v H'
theorem dx_pop {A : Around} {E : Value → Shared → Prop} {pins : List (Addr × Obj)} {σ : L2.St} {s : Shared} {Q : Value → Shared → Prop} {p b : Addr} {xs : List (NestedKey × Addr × Value)} {kvs : List (_root_.Q.D × _root_.Q.D)} {k : _root_.Q.D} (hu : A.units + 200 < cLine) (I : L2.Inv X pins σ H s) (hp : H p = some (DXO X.prog X.w p xs)) (r : RpEnt X.kw H xs kvs) (kr : Rp X.kw H (.ref b) k) (hk : keyT k = true) (hg : (dget kvs k).isSome = true)
    (h : ∀ u v s', L2.RelV v u → Inv X pins σ (upd H p (DXO X.prog X.w p (withoutH xs (nk k)))) s' → Q u s') : wpAny (model X.prog X.w) A (call (.builtin "dict.pop") [.ref p, .ref b]) Q E s := by
  obtain ⟨z, hs, d⟩ := dx_at I (.inl hp) r
  have kf := ent_find r hk
  cases eg : dget kvs k with
  | none => rw [eg] at hg; cases hg
  | some dv =>
    rw [eg] at kf
    obtain ⟨u, v, q1, q2, q3⟩ := kf
    have q1' := q1
    rw [valueAt_pairsH] at q1'
    obtain ⟨pr, hpr, rfl⟩ := Option.map_eq_some_iff.mp q1'
    refine call_pop_heap (knd := nestedKind X.prog X.w) (more := []) (hsz := z) (.inl rfl) (F.args_dict_pop_2 _ _) (nroom hu) (key_at I kr rfl hk) hs d hpr fun h' d' sb => h _ v _ q2 ?_
    have he : ∃ q, h'.get? p = some q := let ⟨q, _, _, hq, _⟩ := d'; ⟨q, hq⟩
    have hl : (withoutH xs (nk k)).length ≤ xs.length := List.length_filter_le _ _
    exact d_write I (by rw [hp]; exact True.intro) sb he (dxo_ok (by omega) hs d')
theorem pe_dpopQ {i : Nat} {x : Str} {kx : Expr} {ik : E} {p1 apos cpos : Pos} {D : Ends} (hu : X.A.units + 200 < cLine) (hi : X.N[i]? = some x) (hv : Vis X.env.scope x) (h1 : (x == ("__debug__" : Str)) = false) (h2 : (x == ("__classdict__" : Str)) = false) (hk : PE X kx (tE c xc W X.kw ik false)) (M : M1 X (.Name x p1) "pop" apos kx cpos) :
    PE X (.Call (.Attribute (.Name x p1) "pop" apos) [kx] [] cpos) (tDpop c xc W X.kw i ik D) := by
  refine ⟨fun pins s σ H Q I h => ?_⟩
  obtain ⟨Hf0, H0, ρ, Hf, s0, a, hq⟩ := h
  simp only [evS] at a
  split at a
  · rename_i kvs eo
    obtain ⟨es, p, ob, ep, hf, hp, q⟩ := s0.at_own eo
    obtain ⟨xs, rfl, ent⟩ := q.dict
    refine wpAny_Call_method M.base M.few M.line PySem.F.plainAttrs_dict PySem.F.slot_dict_pop PySem.F.type_dict_pop (thn ((pe_var hi hv h1 h2).run pins s σ H (fun v' H2 => v' = .ref p ∧ H2 = H) I ⟨.ref p, ep, rfl, rfl⟩) fun u s1 ⟨x', H1, I1, rx, e1, e2⟩ => ?_)
    subst e1 e2
    obtain rfl : u = Value.ref p := rx
    obtain ⟨t1, t2⟩ := dx_type I1 (.inl hp)
    refine ⟨t1, t2, ?_⟩
    rw [M.trees]
    refine Calls.callWith_builtin rfl (Calls.evalArgs_plain (Calls.spliced_cons (thn (hk.run pins s1 σ H1 (fun w H3 => ∃ Hh dk, Ext Hf H1 Hh H3 ∧ Rp X.kw Hh w dk ∧ EndF X.kw Hf0 H0 Hf xc W D _) I1 ⟨ρ, Hf, s0.sr, (EndF.after a s0).imp fun dk H3f H3 x3 a3 w rw => let ⟨Hh, z, sg, rp⟩ := rw.rv.hold x3; ⟨Hh, dk, z, rp, a3⟩⟩) fun iv s2 ⟨w, H3, I3, rw', Hh, dk, z, rk, a3⟩ => Calls.spliced_nil ?_)))
    split at a3
    · rename_i hh
      simp only [Bool.and_eq_true] at hh
      obtain ⟨b, rfl⟩ := keyT_ref rk hh.1.1
      obtain rfl : iv = Value.ref b := rw'
      have hp3 : H3 p = some (DXO X.prog X.w p xs) := z.s2 _ _ hp
      have hf3 : Hh p = none := z.hid p _ hp rfl hf
      have nd := dx_nodup I3 (.inl hp3)
      have ent3 := ent.mono z.s1
      have sb3 := z.sub
      refine dx_pop hu I3 hp3 (ent3.mono sb3) (rk.mono sb3) hh.1.1 hh.2 fun u v s4 ru I4 => ⟨v, _, I4, ru, hq _ _ ?_⟩
      exact a3 σ Hh _ ((s0.step z).mut es ep hf3 hp3 (.dct (ent_del ent3 nd hh.1.1))) z.s1
    · exact a3.elim
  · exact a.elim
theorem ps_dpopQ {i : Nat} {x : Str} {kx : Expr} {ik : E} {p1 apos cpos pos : Pos} (hu : X.A.units + 200 < cLine) (hi : X.N[i]? = some x) (hv : Vis X.env.scope x) (h1 : (x == ("__debug__" : Str)) = false) (h2 : (x == ("__classdict__" : Str)) = false) (hk : PE X kx (tE c xc W X.kw ik false)) (M : M1 X (.Name x p1) "pop" apos kx cpos) :
    PS X (.Expr (.Call (.Attribute (.Name x p1) "pop" apos) [kx] [] cpos) pos) (tS c xc W X.kw (.dpop i ik)) := by
  refine ⟨fun pins s σ H D I h => ?_⟩
  obtain ⟨Hf0, H0, ρ, Hf, s0, a⟩ := h
  exact (ps_expr (pe_dpopQ (D := D) hu hi hv h1 h2 hk M) rfl).run pins s σ H D I (show tDpop c xc W X.kw i ik D σ H _ from ⟨Hf0, H0, ρ, Hf, s0, a, fun v H' h => h⟩)
/-- x.pop(), x a list -/
theorem getLast_at {α : Type} {xs : List α} {d : α} (h : xs.getLast? = some d) : xs[xs.length - 1]? = some d := by rw [← List.getLast?_eq_getElem?]; exact h
theorem drop_last {vs : List V} {ds : List _root_.Q.D} (h : RpAll K Hf vs ds) : RpAll K Hf vs.dropLast ds.dropLast := by
  rw [List.dropLast_eq_take, List.dropLast_eq_take, h.len]
  exact h.take _
theorem ps_popQ {i : Nat} {x : Str} {p1 apos cpos pos : Pos} (hi : X.N[i]? = some x) (hv : Vis X.env.scope x) (h1 : (x == ("__debug__" : Str)) = false) (h2 : (x == ("__classdict__" : Str)) = false) (hl : (apos.endLine == cpos.line) = true) :
    PS X (.Expr (.Call (.Attribute (.Name x p1) "pop" apos) [] [] cpos) pos) (tS c xc W X.kw (.pop i)) := by
  refine impS (ps_expr (pe_bm0 PySem.F.plainAttrs_list PySem.F.slot_list_pop PySem.F.type_list_pop mt_pop (pe_var hi hv h1 h2) rfl hl) rfl) fun D σ H h => ?_
  obtain ⟨Hf0, H0, ρ, Hf, s, a⟩ := h
  simp only [evS] at a
  split at a
  · rename_i xs eo
    obtain ⟨es, p, ob, ep, hf, hp, q⟩ := s.at_own eo
    obtain ⟨vs, rfl, rp⟩ := q.list
    split at a
    · rename_i d hd
      obtain ⟨v, hv1, _⟩ := rp.get (getLast_at hd)
      refine ⟨.ref p, ep, .inl ⟨rfl, vs, .inl (.inl hp)⟩, p, vs, v, rfl, rfl, hp, by rw [rp.len]; exact hv1, ?_⟩
      exact a σ Hf _ (s.mut es ep hf hp (.lst (drop_last rp))) (Same.refl _)
    · exact a.elim
  · exact a.elim
theorem ps_popvQ {i : Nat} {x : Str} {tg : Expr} {ig : Tg} {p1 apos cpos pos : Pos} (hi : X.N[i]? = some x) (hv : Vis X.env.scope x) (h1 : (x == ("__debug__" : Str)) = false) (h2 : (x == ("__classdict__" : Str)) = false) (hl : (apos.endLine == cpos.line) = true) (hg : PG X tg (gT X.kw ig)) (s1 : swapsWithSole [tg] (.Call (.Attribute (.Name x p1) "pop" apos) [] [] cpos) pos.line X.env = pure false) (s2 : swappedStores [tg] (.Call (.Attribute (.Name x p1) "pop" apos) [] [] cpos) X.env = pure none) (s3 : List.map (fun x => x.snd) (assignEach [tg] X.env) = [assign tg X.env]) :
    PS X (.Assign [tg] (.Call (.Attribute (.Name x p1) "pop" apos) [] [] cpos) pos) (tS c xc W X.kw (.popv ig i)) := by
  refine impS (ps_asg (pe_bm0 PySem.F.plainAttrs_list PySem.F.slot_list_pop PySem.F.type_list_pop mt_pop (pe_var hi hv h1 h2) rfl hl) hg s1 s2 s3) fun D σ H h => ?_
  obtain ⟨Hf0, H0, ρ, Hf, s, a⟩ := h
  simp only [evS] at a
  split at a
  · rename_i xs eo
    obtain ⟨es, p, ob, ep, hf, hp, q⟩ := s.at_own eo
    obtain ⟨vs, rfl, rp⟩ := q.list
    split at a
    · rename_i d hd
      obtain ⟨v, hv1, rv⟩ := rp.get (getLast_at hd)
      refine ⟨.ref p, ep, .inl ⟨rfl, vs, .inl (.inl hp)⟩, p, vs, v, rfl, rfl, hp, by rw [rp.len]; exact hv1, ?_⟩
      have s' := s.mut es ep hf hp (.lst (drop_last rp))
      cases eb : ig.bind d (put ρ i (some (.list xs.dropLast, 1))) with
      | ok ρ' =>
        rw [eb] at a
        exact ⟨_, Hf, d, ρ', s'.sr, rv, eb, fun σ' sr bd => a σ' Hf _ (s'.of_bd sr bd) (Same.refl _)⟩
      | exc y => exact absurd eb (ps_asgT.tg_noexc _ _ _ _)
      | bad => rw [eb] at a; exact a.elim
    · exact a.elim
  · exact a.elim
end
end Q
set_option Elab.async false
set_option linter.all false
set_option maxRecDepth 100000
/-! x[k] += e, x an owned list of ints. -/
namespace Q
open PySem PySem.W PySem.Spec L2
open PyProof.Rows hiding St
theorem ixN_natA {l n : Nat} (h : n < l) : L2.ixN l (n : Int) = some n := by
  unfold L2.ixN
  simp
  omega
section
variable {X : Cx} {c : Ctx} {xc : Nat → Value} {W : WX}
theorem ps_augiQ {i : Nat} {x : Str} {kx vx : Expr} {ik ie : E} {o : Op} {bop : Operator} {f : Int → Int → Int} {p1 tpos pos : Pos} (hi : X.N[i]? = some x) (hv : Vis X.env.scope x) (h1 : (x == ("__debug__" : Str)) = false) (h2 : (x == ("__classdict__" : Str)) = false) (hk : PE X kx (tE c xc W X.kw ik true)) (he : PE X vx (tE c xc W X.kw ie true))
    (ho : PIp X bop (ipI f)) (ht : ∀ i j, sem o [.int i, .int j] = .ok (.int (f i j)))
    (ha : ∀ ov iv new, augStore kx ov iv new = (do holding [new, ov, iv] (setItem ov iv new); release [new, ov, iv] []; pure .next)) :
    PS X (.AugAssign (.Subscript (.Name x p1) kx tpos) bop vx pos) (tS c xc W X.kw (.augi i ik o ie)) := by
  refine ⟨fun pins s σ H D I h => ?_⟩
  obtain ⟨Hf0, H0, ρ, Hf, s0, a⟩ := h
  simp only [evS] at a
  split at a
  · rename_i xs eo
    obtain ⟨es, p, ob, ep, hf, hp, q⟩ := s0.at_own eo
    obtain ⟨vs, rfl, rl0⟩ := q.list
    refine wpAny_AugAssign_SubscriptAny (thn ((pe_var hi hv h1 h2).run pins s σ H (fun v' H2 => v' = .ref p ∧ H2 = H) I ⟨.ref p, ep, rfl, rfl⟩) fun u s1 ⟨x', H1, I1, rx, e1, e2⟩ => ?_) ha
    subst e1 e2
    obtain rfl : u = Value.ref p := rx
    refine thn (hk.run pins s1 σ H1 (fun w H2 => ∃ Hg dk, Ext Hf H1 Hg H2 ∧ RA X.kw Hg H2 w dk ∧ EndF X.kw Hf0 H0 Hf xc W D _) I1 ⟨ρ, Hf, s0.sr, (EndF.after a s0).imp fun dk H2f H2 x2 a2 w rw => ⟨H2f, dk, x2, rw.ra, a2⟩⟩) fun iv s2 ⟨w, H2, I2, rw', Hg, dk, y, rk, a2⟩ => ?_
    unfold augiF at a2
    split at a2
    · rename_i j
      obtain rfl := rk.int
      split at a2
      · rename_i hj0
        split at a2
        · rename_i old hold
          have hp2 : H2 p = some (.lst vs) := y.s2 _ _ hp
          have rl : RpAll X.kw Hg vs xs := rl0.mono y.s1
          obtain ⟨vo, hvo, ro⟩ := rl.get hold
          obtain ⟨its, n, r, hob, hz⟩ := I2.lst hp2
          obtain ⟨uo, huo, ruo⟩ := r.get hvo
          obtain ⟨t, rfl⟩ := rw'
          have hlen := r.length
          have hjl : j.toNat < its.length := (List.getElem?_eq_some_iff.mp huo).1
          have hn63 := line63
          refine wpAny_getItem_list (items := its.toArray) ⟨_, hob, rfl, n, rfl⟩ hj0 (by omega) (by simpa using huo) ?_
          refine thn (he.run pins s2 σ H2 (fun v H3 => ∃ Hh dy, Ext Hg H2 Hh H3 ∧ RA X.kw Hh H3 v dy ∧ EndF X.kw Hf0 H0 Hg xc W D _) I2 ⟨ρ, Hg, s0.sr.ext y, (EndF.after (a2.less y.s1) (s0.step y)).imp fun dy H3f H3 x3 a3 v rv => ⟨H3f, dy, x3, rv.ra, a3⟩⟩) fun v s3 ⟨y', H3, I3, ry, Hh, dy, z, rz, a3⟩ => ?_
          unfold semI at a3
          split at a3
          · rename_i k1 k2 _
            obtain rfl := rz.int
            cases ro
            rw [ht] at a3
            have yz := y.trans z
            have hp3 : H3 p = some (.lst vs) := yz.s2 _ _ hp
            have hf3 : Hh p = none := yz.hid p _ hp rfl hf
            have rl3 : RpAll X.kw Hh vs xs := rl0.mono yz.s1
            have hix : ixN vs.length j = some j.toNat := by
              have e : j = ((j.toNat : Nat) : Int) := by omega
              exact (congrArg (ixN vs.length) e).trans (ixN_natA (List.getElem?_eq_some_iff.mp hvo).1)
            refine thn (ho pins s3 σ H3 (.int k1) (.int k2) uo v (fun r H4 => r = .int (f k1 k2) ∧ H4 = H3) I3 ruo ry ⟨k1, k2, rfl, rfl, rfl, rfl⟩) fun nv s4 ⟨r', H4, I4, rn, e1, e2⟩ => ?_
            subst e1 e2
            refine thn (set_list pins s4 σ H4 (.ref p) (.int j) (.int (f k1 k2)) (.ref p) (.int j t) nv (fun H5 => D.nx σ H5) I4 rfl ⟨t, rfl⟩ rn ⟨p, vs, j, j.toNat, rfl, rfl, hp3, hix, ?_⟩) fun _ s5 ⟨H5, I5, q5⟩ => ⟨σ, H5, I5, q5⟩
            exact a3 σ Hh _ ((s0.step yz).mut es ep hf3 hp3 (.lst (rl3.set (.int _) _))) z.s1
          · exact a3.elim
        · exact a2.elim
      · exact a2.elim
    · exact a2.elim
  · exact a.elim
end
end Q
set_option Elab.async false
set_option linter.all false
set_option maxRecDepth 100000
/-! Lists of dicts, all of them owned: made by a comprehension of new things, looked at in tests, x[a][k] += e. -/
namespace Q
open PySem PySem.W PySem.Spec L2
open PyProof.Rows hiding St
section
variable {K : Frag} {Hf0 H0 Hf H Hf' H' H1 : Hp} {σ σ' : L2.St} {ρ ρ' : Env} {v : V} {d : D} {fl : Nat}
theorem slot_view : ∀ (ρ : Env) (i : Nat), slot (view ρ) i = match slot ρ i with | some (d, 2) => some (d, 0) | x => x
  | [], i => rfl
  | x :: r, i => by
    cases i with
    | zero =>
      match x with
      | none => rfl
      | some (d, 0) => rfl
      | some (d, 1) => rfl
      | some (d, 2) => rfl
      | some (d, n + 3) => rfl
    | succ i =>
      have ih := slot_view r i
      match x with
      | none => exact ih
      | some (d, 0) => exact ih
      | some (d, 1) => exact ih
      | some (d, 2) => exact ih
      | some (d, n + 3) => exact ih
theorem view_len : ∀ ρ : Env, (view ρ).length = ρ.length
  | [] => rfl
  | x :: r => by
    have ih := view_len r
    match x with
    | none => simp [view, ih]
    | some (d, 0) => simp [view, ih]
    | some (d, 1) => simp [view, ih]
    | some (d, 2) => simp [view, ih]
    | some (d, n + 3) => simp [view, ih]
theorem view_or {i : Nat} {d : D} {o : Nat} (h : slot (view ρ) i = some (d, o)) : (slot ρ i = some (d, o) ∧ o ≠ 2) ∨ (slot ρ i = some (d, 2) ∧ o = 0) := by
  rw [slot_view] at h
  cases e : slot ρ i with
  | none => rw [e] at h; cases h
  | some x =>
    obtain ⟨d', o'⟩ := x
    rw [e] at h
    match o', h with
    | 0, h => cases h; exact .inl ⟨rfl, by decide⟩
    | 1, h => cases h; exact .inl ⟨rfl, by decide⟩
    | 2, h => cases h; exact .inr ⟨rfl, rfl⟩
    | n + 3, h => cases h; exact .inl ⟨rfl, by omega⟩
theorem DAll.rp {Hv : Hp} (s1 : Same Hf Hv) : ∀ {qs : List Addr} {ds : List D}, (∀ q ∈ qs, Hv q = H q) → DAll K Hf H qs ds → RpAll K Hv (qs.map V.ref) ds
  | [], [], _, _ => .nil
  | q :: qs, d :: ds, h, ⟨⟨xs, kvs, e1, e2, e3⟩, r⟩ => by
    subst e1
    exact .cons (.dct (.inl (by rw [h q List.mem_cons_self]; exact e2)) (e3.mono s1)) (DAll.rp s1 (fun z hz => h z (List.mem_cons_of_mem _ hz)) r)
/-- all is held still, for a while -/
theorem SI.view (s : SI K Hf0 H0 σ ρ Hf H) : ∃ Hv, SR K Hv H σ (view ρ) := by
  classical
  by_cases hd : ∃ i d, slot ρ i = some (d, 2)
  · obtain ⟨i, d, e⟩ := hd
    obtain ⟨p, qs, ds, e1, e2, nd, hn, hp, ha, h7⟩ := s.deep i d e
    have only : ∀ j d', slot ρ j = some (d', 2) → j = i := fun j d' ej => Classical.byContradiction fun hj => (h7 j d' 2 ej (by decide) hj).1 rfl
    let Hv : Hp := fun a => if a ∈ p :: qs then H a else Hf a
    have s1 : Same Hf Hv := fun a o ea => by
      show (if a ∈ p :: qs then H a else Hf a) = some o
      split
      · exact s.sr.sub _ _ ea
      · exact ea
    have sub : Same Hv H := fun a o ea => by
      have ea' : (if a ∈ p :: qs then H a else Hf a) = some o := ea
      split at ea'
      · exact ea'
      · exact s.sr.sub _ _ ea'
    have hin : ∀ a ∈ p :: qs, Hv a = H a := fun a h => if_pos h
    have hout : ∀ a, a ∉ p :: qs → Hv a = Hf a := fun a h => if_neg h
    refine ⟨Hv, ⟨by rw [view_len]; exact s.sr.len, sub, fun j dj o ej n2 => ?_, fun j k d1 d2 o1 o2 a1 g1 n1 a2 g2 n2 e3 => ?_⟩⟩
    · rcases view_or ej with ⟨ej', _⟩ | ⟨ej', rfl⟩
      · replace ej := ej'
        obtain ⟨w, g1, g2⟩ := s.sr.at_ j dj o ej n2
        refine ⟨w, g1, ?_⟩
        split
        · rename_i h0
          rw [if_pos h0] at g2
          exact g2.mono s1
        · rename_i h0
          rw [if_neg h0] at g2
          obtain ⟨pj, ob, rfl, g3, g4, g5⟩ := g2
          have hj : j ≠ i := fun e' => by subst e'; rw [e] at ej; cases ej; exact n2 rfl
          have hno : pj ∉ p :: qs := fun hm => (h7 j dj o ej h0 hj).2 pj hm g1
          exact ⟨pj, ob, rfl, by rw [hout pj hno]; exact g3, g4, g5.mono s1⟩
      · have := only j dj ej'
        subst this
        rw [e] at ej'
        cases ej'
        refine ⟨_, e1, ?_⟩
        rw [if_pos rfl, e2]
        exact .lst (.inl (by rw [hin p List.mem_cons_self]; exact hp)) (DAll.rp s1 (fun q hq => hin q (List.mem_cons_of_mem _ hq)) ha)
    · rcases view_or a1 with ⟨a1, _⟩ | ⟨_, h⟩
      · rcases view_or a2 with ⟨a2, _⟩ | ⟨_, h⟩
        · exact s.sr.sep j k _ _ _ _ a1 g1 n1 a2 g2 n2 e3
        · exact absurd h g2
      · exact absurd h g1
  · have e : ∀ j, slot (_root_.Q.view ρ) j = slot ρ j := fun j => by
      rw [slot_view]
      cases ej : slot ρ j with
      | none => rfl
      | some x =>
        obtain ⟨d', o'⟩ := x
        match o', ej with
        | 0, _ => rfl
        | 1, _ => rfl
        | 2, ej => exact absurd ⟨j, d', ej⟩ hd
        | n + 3, _ => rfl
    exact ⟨Hf, s.sr.less (by rw [view_len]; exact s.sr.len) fun i x ex => ⟨by rw [← e]; exact ex, rfl⟩⟩
/-- nothing of it is kept -/
theorem SI.seen {Hv Hv' : Hp} (s : SI K Hf0 H0 σ ρ Hf H) (x : Ext Hv H Hv' H') : SI K Hf0 H0 σ ρ Hf H' :=
  s.step ⟨Same.refl _, x.s2, s.sr.sub.trans x.s2, fun _ _ _ _ h => h⟩
theorem DAll.at {qs : List Addr} {ds : List D} (h : DAll K Hf H qs ds) {n : Nat} {d : D} (e : ds[n]? = some d) : ∃ q xs kvs, qs[n]? = some q ∧ d = .dict kvs ∧ H q = some (DXO K.P K.w q xs) ∧ RpEnt K Hf xs kvs := by
  induction ds generalizing qs n with
  | nil => simp at e
  | cons x r ih =>
    cases qs with
    | nil => exact h.elim
    | cons q qs =>
      obtain ⟨⟨xs, kvs, e1, e2, e3⟩, h⟩ := h
      cases n with
      | zero => simp at e; subst e; exact ⟨q, xs, kvs, rfl, e1, e2, e3⟩
      | succ n => exact ih h (by simpa using e)
theorem DAll.set {q : Addr} {xs' : List (NestedKey × Addr × Value)} {kvs' : List (D × D)} (ent : RpEnt K Hf xs' kvs') : ∀ {qs : List Addr} {ds : List D} {n : Nat}, qs.Nodup → DAll K Hf H qs ds → qs[n]? = some q → DAll K Hf (upd H q (DXO K.P K.w q xs')) qs (ds.set n (.dict kvs'))
  | [], _, n, _, _, e => by simp at e
  | a :: qs, [], n, _, h, _ => h.elim
  | a :: qs, d :: ds, n, nd, ⟨h1, h2⟩, e => by
    obtain ⟨hna, nd2⟩ := List.nodup_cons.mp nd
    cases n with
    | zero =>
      simp at e
      subst e
      refine ⟨⟨xs', kvs', rfl, upd_same, ent⟩, ?_⟩
      exact h2.ext (Same.refl _) fun z hz o eo => by rw [upd_ne (fun e' => hna (by rw [← e']; exact hz))]; exact eo
    | succ n =>
      have e' : qs[n]? = some q := by simpa using e
      refine ⟨?_, DAll.set ent nd2 h2 e'⟩
      obtain ⟨xs, kvs, a1, a2, a3⟩ := h1
      have : a ≠ q := fun e2 => hna (by rw [e2]; exact List.mem_of_getElem? e')
      exact ⟨xs, kvs, a1, by rw [upd_ne this]; exact a2, a3⟩
/-- one of the dicts is changed -/
theorem SI.dmut (s : SI K Hf0 H0 σ ρ Hf H) {i : Nat} {ds : List D} (e : slot ρ i = some (.list ds, 2)) {p q : Addr} {qs : List Addr} (ep : σ[i]? = some (some (.ref p))) (hp : H p = some (.lst (qs.map V.ref))) {n : Nat} (en : qs[n]? = some q) {xs' : List (NestedKey × Addr × Value)} {kvs' : List (D × D)} (ent : RpEnt K Hf xs' kvs') :
    SI K Hf0 H0 σ (_root_.Q.put ρ i (some (PyData.list (ds.set n (PyData.dict kvs')), 2))) Hf (upd H q (DXO K.P K.w q xs')) := by
  obtain ⟨p2, qs2, ds2, e1, e2, nd, hn, hp2, ha, h7⟩ := s.deep i _ e
  rw [ep] at e1
  cases e1
  cases e2
  rw [hp] at hp2
  have e5 : qs = qs2 := (List.map_inj_right (fun a b h => by cases h; rfl)).mp (HO.lst.inj (Option.some.inj hp2))
  subst e5
  have hqm : q ∈ p :: qs := List.mem_cons_of_mem _ (List.mem_of_getElem? en)
  obtain ⟨h0, hf⟩ := hn q hqm
  obtain ⟨hpq, nd2⟩ := List.nodup_cons.mp nd
  have hpne : p ≠ q := fun e' => hpq (by rw [e']; exact List.mem_of_getElem? en)
  have hs : Same Hf (upd H q (DXO K.P K.w q xs')) := fun a u ea => by
    rw [upd_ne (ne_of_none ea hf)]; exact s.sr.sub _ _ ea
  have key : ∀ j dj oj, slot (_root_.Q.put ρ i (some (.list (ds.set n (.dict kvs')), 2))) j = some (dj, oj) → oj ≠ 2 → slot ρ j = some (dj, oj) ∧ j ≠ i := fun j dj oj ej n2 => by
    rw [slot_put] at ej
    split at ej
    · cases ej; exact absurd rfl n2
    · rename_i h
      exact ⟨ej, fun e' => h ⟨e'.symm, by subst e'; exact slot_lt ej⟩⟩
  refine ⟨⟨by rw [put_len]; exact s.sr.len, hs, fun j dj o ej n2 => ?_, fun j k d1 d2 o1 o2 e1 g1 n1 e2 g2 n2 e3 => ?_⟩, ⟨s.ext.s1, fun a u ea => by rw [upd_ne (ne_of_none ea h0)]; exact s.ext.s2 _ _ ea, hs, s.ext.hid⟩, fun j dj o pj ej g n2 epj => ?_, fun k dk ek => ?_⟩
  · obtain ⟨ej, hj⟩ := key j dj o ej n2
    obtain ⟨w, g1, g2⟩ := s.sr.at_ j dj o ej n2
    refine ⟨w, g1, ?_⟩
    split
    · rename_i hz; rw [if_pos hz] at g2; exact g2
    · rename_i hz
      rw [if_neg hz] at g2
      obtain ⟨pj, ob, rfl, g3, g4, g5⟩ := g2
      have : pj ≠ q := fun e' => (h7 j dj o ej hz hj).2 q hqm (by rw [← e']; exact g1)
      exact ⟨pj, ob, rfl, g3, by rw [upd_ne this]; exact g4, g5⟩
  · exact s.sr.sep j k _ _ _ _ (key j _ _ e1 n1).1 g1 n1 (key k _ _ e2 n2).1 g2 n2 e3
  · exact s.new j dj o pj (key j _ _ ej n2).1 g n2 epj
  · rw [slot_put] at ek
    split at ek
    · rename_i hh
      obtain ⟨rfl, _⟩ := hh
      cases ek
      refine ⟨p, qs, _, ep, rfl, nd, hn, by rw [upd_ne hpne]; exact hp, DAll.set ent nd2 ha en, fun j d' o ej g hj => ?_⟩
      rw [slot_put, if_neg (fun h => hj h.1.symm)] at ej
      exact h7 j d' o ej g hj
    · rename_i hh
      have hk : k ≠ i := fun e' => hh ⟨e'.symm, by subst e'; exact slot_lt ek⟩
      exact absurd rfl (h7 k dk 2 ek (by decide) hk).1
end
section
variable {X : Cx} {c : Ctx} {xc : Nat → Value} {W : WX}
theorem ps_ifdQ {t : Expr} {a b : List Stmt} {pos : Pos} {it : T} {ia ib : Ss} (ht : PT X t (tT c xc W X.kw it)) (ha : PSs X a (tSs c xc W X.kw ia)) (hb : PSs X b (tSs c xc W X.kw ib)) : PS X (.If t a b pos) (tS c xc W X.kw (.ifd it ia ib)) :=
  impS (ps_if ht ha hb) fun D σ H h => by
    obtain ⟨Hf0, H0, ρ, Hf, s, a⟩ := h
    have a1 : EndF X.kw Hf0 H0 Hf xc W D (toF ρ (evT c it (view ρ)) fun k => if k then evSs c ia ρ else evSs c ib ρ) := by simpa only [evS] using a
    obtain ⟨Hv, sv⟩ := s.view
    refine ⟨view ρ, Hv, sv, ?_⟩
    cases e : evT c it (view ρ) with
    | bad => rw [e] at a1; exact a1.elim
    | exc x =>
      rw [e] at a1
      intro Hv' H' x1
      exact a1 σ Hf H' (s.seen x1) (Same.refl _)
    | ok k =>
      rw [e] at a1
      intro Hv' H' x1
      cases k with
      | true => exact ⟨Hf0, H0, ρ, Hf, s.seen x1, a1⟩
      | false => exact ⟨Hf0, H0, ρ, Hf, s.seen x1, a1⟩
theorem ps_augdQ {i : Nat} {x : Str} {ax kx vx : Expr} {ia ik ie : E} {o : Op} {bop : Operator} {f : Int → Int → Int} {p1 apos tpos pos : Pos} (hu : X.A.units + 200 < cLine) (hi : X.N[i]? = some x) (hv : Vis X.env.scope x) (h1 : (x == ("__debug__" : Str)) = false) (h2 : (x == ("__classdict__" : Str)) = false) (hia : PE X ax (tE c xc W X.kw ia true)) (hpa : PlainIx ax) (hk : PE X kx (tE c xc W X.kw ik false)) (he : PE X vx (tE c xc W X.kw ie true))
    (ho : PIp X bop (ipI f)) (ht : ∀ i j, sem o [.int i, .int j] = .ok (.int (f i j)))
    (hst : ∀ ov iv new, augStore kx ov iv new = (do holding [new, ov, iv] (setItem ov iv new); release [new, ov, iv] []; pure .next)) :
    PS X (.AugAssign (.Subscript (.Subscript (.Name x p1) ax apos) kx tpos) bop vx pos) (tS c xc W X.kw (.augd i ia ik o ie)) := by
  refine ⟨fun pins s σ H D I h => ?_⟩
  obtain ⟨Hf0, H0, ρ, Hf, s0, a⟩ := h
  simp only [evS] at a
  split at a
  · rename_i ds es
    obtain ⟨p, qs, ds2, ep, e2, nd, hn, hp, hall, h7⟩ := s0.deep i _ es
    cases e2
    refine wpAny_AugAssign_SubscriptAny (thn ((pe_ix ix_list (pe_var hi hv h1 h2) hia hpa).run pins s σ H (fun v' H2 => ∃ Hg n q xs kvs, v' = .ref q ∧ Ext Hf H Hg H2 ∧ qs[n]? = some q ∧ ds[n]? = some (.dict kvs) ∧ H2 q = some (DXO X.kw.P X.kw.w q xs) ∧ RpEnt X.kw Hg xs kvs ∧ EndF X.kw Hf0 H0 Hf xc W D (toF ρ (evE c ik false ρ) fun y => if keyT y && keysT kvs && decide (kvs.length < LIM) then (match dget kvs y with
      | some (.int old) => toF ρ (evE c ie true ρ) fun z => toF ρ (semI o (.int old) z) fun w => .nx (put ρ i (some (.list (ds.set n (.dict (dput kvs y w))), 2)))
      | _ => .bad) else .bad)) I ⟨.ref p, ep, ρ, Hf, s0.sr, (EndF.after a s0).imp fun da H2f H2 x2 a2 w rw => ?_⟩) fun u s1 ⟨x', H1, I1, rx, Hg, n, q, xs, kvs, e1, y1, en, ed, hq, ent, a2⟩ => ?_) hst
    · unfold augdF at a2
      split at a2
      · rename_i j
        obtain rfl := rw.ra.int
        split at a2
        · rename_i hj0
          split at a2
          · rename_i kvs hd
            obtain ⟨q, xs, kvs', en, ee, hq, ent⟩ := hall.at hd
            cases ee
            have hj : ((j.toNat : Nat) : Int) = j := by omega
            refine ⟨p, qs.map V.ref, j, .ref q, rfl, rfl, .inl (.inl (x2.s2 _ _ hp)), ?_, H2f, j.toNat, q, xs, kvs, rfl, x2, en, hd, x2.s2 _ _ hq, ent.mono x2.s1, a2⟩
            have hlt := (List.getElem?_eq_some_iff.mp en).1
            have hix : ixN (qs.map V.ref).length j = some j.toNat := by rw [← hj]; exact ixN_natA (by rw [List.length_map]; exact hlt)
            unfold atI
            rw [hix]
            show (qs.map V.ref)[j.toNat]? = some (.ref q)
            rw [List.getElem?_map, en]
            rfl
          · exact a2.elim
        · exact a2.elim
      · exact a2.elim
    subst e1
    obtain rfl : u = Value.ref q := rx
    refine thn (hk.run pins s1 σ H1 (fun w H2 => ∃ Hh dk, Ext Hg H1 Hh H2 ∧ Rp X.kw Hh w dk ∧ EndF X.kw Hf0 H0 Hg xc W D _) I1 ⟨ρ, Hg, s0.sr.ext y1, (EndF.after (a2.less y1.s1) (s0.step y1)).imp fun dk H2f H2 x2 a3 w rw => let ⟨Hh, z, sg, rp⟩ := rw.rv.hold x2; ⟨Hh, dk, z, rp, a3⟩⟩) fun iv s2 ⟨w, H2, I2, rw', Hh, dk, y2, rk, a3⟩ => ?_
    split at a3
    · rename_i hh
      simp only [Bool.and_eq_true, decide_eq_true_eq] at hh
      obtain ⟨⟨hkt, hks⟩, hlen⟩ := hh
      split at a3
      · rename_i old hold
        obtain ⟨b, rfl⟩ := keyT_ref rk hkt
        obtain rfl : iv = Value.ref b := rw'
        have yy := y1.trans y2
        have hq2 : H2 q = some (DXO X.kw.P X.kw.w q xs) := y2.s2 _ _ hq
        have ent2 := ent.mono y2.s1
        have kf := ent_find ent2 hkt
        rw [hold] at kf
        obtain ⟨un, vn, q1, q2, q3⟩ := kf
        cases q3
        obtain ⟨_, _, g2⟩ := dx_at I2 (.inl hq2) (ent2.mono y2.sub)
        refine getItem_keyed (nroom hu) (key_at I2 (rk.mono y2.sub) rfl hkt) ⟨xs, g2, rfl⟩ q1 ?_
        refine thn (he.run pins _ σ H2 (fun v H3 => ∃ Hi dy, Ext Hh H2 Hi H3 ∧ RA X.kw Hi H3 v dy ∧ EndF X.kw Hf0 H0 Hh xc W D _) (I2.tok _) ⟨ρ, Hh, (s0.step yy).sr, (EndF.after (a3.less y2.s1) (s0.step yy)).imp fun dy H3f H3 x3 a4 v rv => ⟨H3f, dy, x3, rv.ra, a4⟩⟩) fun v s3 ⟨y', H3, I3, ry, Hi, dy, y3, rz, a4⟩ => ?_
        unfold semI at a4
        split at a4
        · rename_i k1 k2 e0
          cases e0
          obtain rfl := rz.int
          rw [ht] at a4
          have yz := yy.trans y3
          have hq3 : H3 q = some (DXO X.kw.P X.kw.w q xs) := y3.s2 _ _ hq2
          have ent3 := ent2.mono y3.s1
          have rk3 := rk.mono y3.s1
          refine thn (ho pins s3 σ H3 (.int old) (.int k2) un v (fun r H4 => r = .int (f old k2) ∧ H4 = H3) I3 q2 ry ⟨old, k2, rfl, rfl, rfl, rfl⟩) fun nv s4 ⟨r', H4, I4, rn, e1, e2⟩ => ?_
          subst e1 e2
          have nd4 := dx_nodup I4 (.inl hq3)
          refine dx_set hu I4 hq3 (ent3.mono y3.sub) (rk3.mono y3.sub) hkt (by rw [ent3.len, ← LIM_eq]; exact hlen) fun s5 I5 => ⟨σ, _, I5, ?_⟩
          exact a4 σ Hi _ ((s0.step yz).dmut es ep (yz.s2 _ _ hp) en (ent_put ent3 nd4 rk3 hkt rn (.int _))) y3.s1
        · exact a4.elim
      · exact a3.elim
    · exact a3.elim
  · exact a.elim
end
section
variable {K : Frag} {c : Ctx} {xc : Nat → Value} {W : WX}
def CInvD (K : Frag) (H1f H1 : Hp) (f : D → R (Option D)) (ds ys : List D) (D : Addr) (i m : Nat) (H' : Hp) : Prop :=
  ∃ Hf' qs yd rest, m = ds.length - i ∧ i ≤ ds.length ∧ Ext H1f H1 Hf' (del H' D) ∧ Hf' D = none ∧ H' D = some (.lst (qs.map V.ref)) ∧ (D :: qs).Nodup ∧ (∀ q ∈ qs, H1 q = none ∧ Hf' q = none) ∧ DAll K Hf' H' qs yd ∧ compM f (ds.drop i) = .ok rest ∧ ys = yd ++ rest
theorem DAll.app {Hf H : Hp} : ∀ {qs : List Addr} {ds : List D} {q : Addr} {d : D}, DAll K Hf H qs ds → DAll K Hf H [q] [d] → DAll K Hf H (qs ++ [q]) (ds ++ [d])
  | [], [], q, d, _, h => h
  | a :: qs, x :: ds, q, d, ⟨h1, h2⟩, h => ⟨h1, DAll.app h2 h⟩
theorem DAll.len {Hf H : Hp} : ∀ {qs : List Addr} {ds : List D}, DAll K Hf H qs ds → qs.length = ds.length
  | [], [], _ => rfl
  | a :: qs, x :: ds, ⟨_, h2⟩ => by rw [List.length_cons, List.length_cons, DAll.len h2]
theorem comp_runD {tg : Tg} {f : Nat} {e0 : E} {es : Es} {σ : L2.St} {ρ : Env} {H1f H1 Hs : Hp} {ds ys : List D} {J : It} {QQ : Hp → Prop} (hfr : c.fr f = true) (hd : ys.all isDictD = true)
    (s : SR K H1f H1 σ ρ) (wk : Wk K true H1f H1 J ds) (e : compM (cStep c tg none (.call f (.cons e0 es)) ρ) ds = .ok ys) (hy : ys.length ≤ LIM) (D : Addr) (hD : H1 D = none) (eS : del Hs D = H1) (hS : Hs D = some (.lst []))
    (q : ∀ Hf' H' qs, Ext H1f H1 Hf' (del H' D) → Hf' D = none → H' D = some (.lst (qs.map V.ref)) → (D :: qs).Nodup → (∀ q ∈ qs, H1 q = none ∧ Hf' q = none) → DAll K Hf' H' qs ys → QQ H') :
    ∃ W : Nat → Nat → Hp → Prop, (∃ m, W 0 m Hs) ∧ ∀ (i m : Nat) (H : Hp), W i m H → J.stop i H ∧ QQ H ∨ J.go i H ∧ ∃ Nx : Hp → Prop, (∀ (H' : Hp), Nx H' → ∃ m', m' < m ∧ W (i + 1) m' H') ∧
      ∀ (x : V) (H' : Hp), J.yld i H x H' → gT K tg x (L2.wipe σ tg.slots) H' fun σ2 H2 => L2.wipe σ2 tg.slots = L2.wipe σ tg.slots ∧ tTo c xc W0 K none σ2 H2 fun b H3 => if b = true then tE c xc W0 K (.call f (.cons e0 es)) false σ2 H3 fun y H4 => ∃ acc, H4 D = some (HO.lst acc) ∧ acc.length < sizeLine ∧ Nx (upd H4 D (HO.lst (acc ++ [y]))) else Nx H3 := by
  refine ⟨CInvD K H1f H1 (cStep c tg none (.call f (.cons e0 es)) ρ) ds ys D, ⟨ds.length, H1f, [], [], ys, rfl, Nat.zero_le _, ?_, none_sub s.sub hD, hS, by simp, fun _ h => absurd h List.not_mem_nil, trivial, e, rfl⟩, fun i m H hW => ?_⟩
  · rw [eS]; exact Ext.refl s.sub
  obtain ⟨Hf', qs, yd, rest, em, hi, x, hfD, hHD, nd, hn, ha, ec, ey⟩ := hW
  have xu : Ext H1f H1 Hf' H := x.undel
  obtain ⟨w1, w2⟩ := wk Hf' H xu i
  by_cases hlt : i < ds.length
  · right
    obtain ⟨d, ed⟩ : ∃ d, ds[i]? = some d := ⟨ds[i], List.getElem?_eq_getElem hlt⟩
    obtain ⟨g1, g2⟩ := w2 d ed
    have edrop : ds.drop i = d :: ds.drop (i + 1) := by
      rw [List.getElem?_eq_getElem hlt] at ed
      cases ed
      exact List.drop_eq_getElem_cons hlt
    rw [edrop] at ec
    obtain ⟨o, r, c1, c2, c3⟩ := compM_cons ec
    obtain ⟨ρ', b1, b2⟩ := cStep_inv c1
    refine ⟨g1, fun H' => ∃ m', m' < m ∧ CInvD K H1f H1 (cStep c tg none (.call f (.cons e0 es)) ρ) ds ys D (i + 1) m' H', fun H' h => h, fun v H'' hyl => ?_⟩
    obtain ⟨Hf2, x2, rv⟩ := g2 v H'' hyl
    refine ⟨_, Hf2, d, ρ', (s.ext (xu.trans x2)).wipe2 tg.slots, rv, b1, fun σ2 s2 bd => ⟨?_, ρ', Hf2, s2, ?_⟩⟩
    · rw [wipe_same (l' := []) (σ := L2.wipe σ tg.slots) bd.len fun j hj => (bd.off j hj).1]
      exact wipe_wipe fun _ h => h
    have hD'' : H'' D = some (.lst (qs.map V.ref)) := x2.s2 _ _ hHD
    rcases b2 with ⟨b2, rfl⟩ | ⟨y, b2, b3, rfl⟩
    · exfalso
      unfold evTo at b2
      cases b2
    · refine after_eq b2 fun Hf3 H3 x3 => ?_
      dsimp only
      rw [if_pos rfl]
      refine ⟨ρ', Hf3, s2.ext x3, after_eq b3 fun Hf4 H4 x4 w rw' => ?_⟩
      have hyd : isDictD y = true := by
        have : y ∈ ys := by rw [ey, c3]; simp
        exact List.all_eq_true.mp hd y this
      obtain ⟨kvs, rfl⟩ : ∃ kvs, y = .dict kvs := by
        cases y with
        | dict kvs => exact ⟨kvs, rfl⟩
        | _ => exact absurd hyd Bool.false_ne_true
      have rn : RN K H3 Hf4 H4 w (.dict kvs) := by
        have r' : RM K false true H3 Hf4 H4 w (.dict kvs) := by
          have : (E.call f (.cons e0 es)).fresh c.fr = true := by simp only [E.fresh]; exact hfr
          rw [this] at rw'
          exact rw'
        exact r'
      unfold RN at rn
      rw [if_pos (show isMut (.dict kvs) = true from rfl)] at rn
      obtain ⟨pq, ob, rfl, n1, n2, n3, qc⟩ := rn
      obtain ⟨xs, rfl, ent⟩ := qc.dict
      have hD4 : H4 D = some (.lst (qs.map V.ref)) := x4.s2 _ _ (x3.s2 _ _ hD'')
      have xt := (x2.trans x3).trans x4
      obtain ⟨xd, hf3⟩ := xt.cut hHD rfl hfD
      have hpD : pq ≠ D := fun e' => by
        have := x3.s2 _ _ hD''
        rw [← e', n1] at this
        cases this
      have hpq : pq ∉ qs := fun hm => by
        obtain ⟨o, g1, _⟩ := ha.has pq hm
        have := x3.s2 _ _ (x2.s2 _ _ g1)
        rw [n1] at this
        cases this
      have hqs : ∀ z ∈ qs, z ≠ D := fun z hz e' => (List.nodup_cons.mp nd).1 (by rw [← e']; exact hz)
      have hH1 : H1 pq = none := none_sub (xu.s2.trans (x2.s2.trans x3.s2)) n1
      refine ⟨qs.map V.ref, hD4, ?_, ds.length - (i + 1), by omega, Hf4, qs ++ [pq], yd ++ [.dict kvs], r, rfl, hlt, ?_, hf3, by rw [upd_same, List.map_append]; rfl, ?_, ?_, ?_, c2, ?_⟩
      · rw [List.length_map, ha.len, ← LIM_eq]
        have : ys.length = yd.length + (r.length + 1) := by rw [ey, c3, List.length_append, List.length_cons]
        omega
      · rw [del_upd]; exact x.trans xd
      · rw [← List.cons_append, List.nodup_append]
        refine ⟨nd, by simp, fun a ha' b hb => ?_⟩
        simp only [List.mem_singleton] at hb
        subst hb
        rcases List.mem_cons.mp ha' with rfl | ha'
        · exact fun e' => hpD e'.symm
        · exact fun e' => hpq (by rw [← e']; exact ha')
      · intro z hz
        rcases List.mem_append.mp hz with hz | hz
        · obtain ⟨o, g1, g2⟩ := ha.has z hz
          exact ⟨(hn z hz).1, xt.hid z o g1 g2 (hn z hz).2⟩
        · simp only [List.mem_singleton] at hz
          subst hz
          exact ⟨hH1, n2⟩
      · refine DAll.app (ha.ext xt.s1 fun z hz o eo => ?_) ⟨⟨xs, kvs, rfl, ?_, ent⟩, trivial⟩
        · rw [upd_ne (hqs z hz)]; exact xt.s2 _ _ eo
        · rw [upd_ne hpD]; exact n3
      · rw [ey, c3, List.append_assoc]; rfl
  · left
    have hi' : i = ds.length := by omega
    refine ⟨w1 (by omega), q Hf' H qs x hfD hHD nd hn ?_⟩
    rw [hi', List.drop_length] at ec
    cases ec
    rw [ey, List.append_nil]
    exact ha
/-- a comprehension of new dicts -/
def tCd (c : Ctx) (xc : Nat → Value) (W : WX) (K : Frag) (elt : E) (tg : Tg) (it : I) : TE := fun σ H Q => newItems c.fr (.comp elt tg it none) = true ∧ ∃ ρ Hf, SR K Hf H σ ρ ∧ After (evE c (.comp elt tg it none) false ρ) xc W σ Hf H fun d Hf' H' => ∃ ds, d = .list ds ∧ ds.all isDictD = true ∧
  ∀ p qs, (p :: qs).Nodup → (∀ q ∈ p :: qs, H q = none ∧ Hf' q = none) → H' p = some (.lst (qs.map V.ref)) → DAll K Hf' H' qs ds → Ext Hf H Hf' H' → Q (.ref p) H'
theorem comp_readD {f : Nat} {e0 : E} {es : Es} {ig : Tg} {it : I} {vs : List Nat} {σ : L2.St} {H : Hp} {Q : VK} (hv : vs = ig.slots) (h : tCd c xc W K (.call f (.cons e0 es)) ig it σ H Q) : tLc (tI c xc W K it true) (gT K ig) (tTo c xc W0 K none) (tE c xc W0 K (.call f (.cons e0 es)) false) vs σ H Q := by
  obtain ⟨hfr, ρ, Hf, s, a⟩ := h
  have hfr : c.fr f = true := hfr
  subst hv
  refine ⟨ρ, Hf, s, (After.bind (f := fun xs => compM (cStep c ig none (.call f (.cons e0 es)) ρ) xs >>= fun ys => if ys.length ≤ LIM then _root_.Q.R.ok (PyData.list ys) else _root_.Q.R.bad) a).imp fun ds H1f H1 x1 a2 J wk D hD => ?_⟩
  cases e : compM (cStep c ig none (.call f (.cons e0 es)) ρ) ds with
  | ok ys =>
    rw [e] at a2
    have a3 : After (if ys.length ≤ LIM then _root_.Q.R.ok (PyData.list ys) else _root_.Q.R.bad) xc W σ H1f H1 _ := a2
    split at a3
    · rename_i hl
      obtain ⟨ds0, ed, hall, _⟩ := a3 _ _ (Ext.refl x1.sub)
      cases ed
      refine comp_runD hfr hall (s.ext x1) wk e hl D hD (by rw [del_upd, del_none hD]) upd_same fun Hf2 H2 qs x2 hf2 h2 nd hn ha => ?_
      obtain ⟨ds1, ed1, _, fin⟩ := a3 _ _ x2.undel
      cases ed1
      refine fin D qs nd (fun q hq => ?_) h2 ha (x1.trans x2.undel)
      rcases List.mem_cons.mp hq with rfl | hq
      · exact ⟨none_sub x1.s2 hD, hf2⟩
      · exact ⟨none_sub x1.s2 (hn q hq).1, (hn q hq).2⟩
    · exact a3.elim
  | exc y => exact absurd e (compM_exc _)
  | bad => rw [e] at a2; exact a2.elim
theorem noDeep_ok : ∀ {ρ : Env}, noDeep ρ = true → ∀ i d, slot ρ i ≠ some (d, 2)
  | [], _, i, d, h => by cases i <;> cases h
  | x :: r, hn, i, d, h => by
    cases i with
    | zero =>
      have h' : x = some (d, 2) := h
      subst h'
      cases hn
    | succ i =>
      have : noDeep r = true := by
        match x, hn with
        | none, hn => exact hn
        | some (d, 0), hn => exact hn
        | some (d, 1), hn => exact hn
        | some (d, n + 3), hn => exact hn
      exact noDeep_ok this i d h
/-- a slot comes to own a list of dicts -/
theorem SI.dput {Hf0 H0 Hf H H1 : Hp} {σ : L2.St} {ρ : Env} (s : SI K Hf0 H0 σ ρ Hf H) (hnd : noDeep ρ = true) (i : Nat) {p : Addr} {qs : List Addr} {ds : List D} (nd : (p :: qs).Nodup) (s01 : Same H0 H1) (hn : ∀ q ∈ p :: qs, H1 q = none ∧ Hf q = none) (hp : H p = some (.lst (qs.map V.ref))) (ha : DAll K Hf H qs ds)
    (old : ∀ j d o, slot ρ j = some (d, o) → o ≠ 0 → ∀ a, σ[j]? = some (some (.ref a)) → ∃ ob, H1 a = some ob) : SI K Hf0 H0 (σ.set i (some (.ref p))) (_root_.Q.put ρ i (some (PyData.list ds, 2))) Hf H := by
  have key : ∀ j d' o, slot (_root_.Q.put ρ i (some (PyData.list ds, 2))) j = some (d', o) → j ≠ i → slot ρ j = some (d', o) ∧ (σ.set i (some (V.ref p)))[j]? = σ[j]? := fun j d' o e hj => by
    rw [slot_put, if_neg (fun h => hj h.1.symm)] at e
    exact ⟨e, List.getElem?_set_ne (Ne.symm hj)⟩
  have keyi : ∀ d' o, slot (_root_.Q.put ρ i (some (PyData.list ds, 2))) i = some (d', o) → i < ρ.length ∧ d' = .list ds ∧ o = 2 := fun d' o e => by
    rw [slot_put] at e
    split at e
    · rename_i h; cases e; exact ⟨h.2, rfl, rfl⟩
    · rename_i h; exact absurd ⟨rfl, slot_lt e⟩ h
  refine ⟨⟨by rw [put_len, List.length_set]; exact s.sr.len, s.sr.sub, fun j d' o e n2 => ?_, fun j k d1 d2 o o' e1 h1 n1 e2 h2 n2 e3 => ?_⟩, s.ext, fun j d' o pj e h0 n2 ep => ?_, fun k dk e => ?_⟩
  · by_cases hj : j = i
    · subst hj; exact absurd (keyi _ _ e).2.2 n2
    · obtain ⟨g1, g2⟩ := key j _ _ e hj
      rw [g2]; exact s.sr.at_ j d' o g1 n2
  · have hj : j ≠ i := fun e' => by subst e'; exact n1 (keyi _ _ e1).2.2
    have hk : k ≠ i := fun e' => by subst e'; exact n2 (keyi _ _ e2).2.2
    obtain ⟨g1, g2⟩ := key j _ _ e1 hj
    obtain ⟨g3, g4⟩ := key k _ _ e2 hk
    rw [g2, g4] at e3
    exact s.sr.sep j k _ _ _ _ g1 h1 n1 g3 h2 n2 e3
  · have hj : j ≠ i := fun e' => by subst e'; exact n2 (keyi _ _ e).2.2
    obtain ⟨g1, g2⟩ := key j _ _ e hj
    rw [g2] at ep
    exact s.new j d' o pj g1 h0 n2 ep
  · by_cases hk : k = i
    · subst hk
      obtain ⟨hl, rfl, _⟩ := keyi _ _ e
      refine ⟨p, qs, ds, by rw [List.getElem?_set_self (by rw [s.sr.len]; exact hl)], rfl, nd, fun q hq => ⟨none_sub s01 (hn q hq).1, (hn q hq).2⟩, hp, ha, fun j d' o ej h0 hj => ?_⟩
      obtain ⟨g1, g2⟩ := key j _ _ ej hj
      refine ⟨fun e2 => by subst e2; exact noDeep_ok hnd j d' g1, fun q hq eq => ?_⟩
      rw [g2] at eq
      obtain ⟨ob, ho⟩ := old j d' o g1 h0 q eq
      rw [(hn q hq).1] at ho
      cases ho
    · obtain ⟨g1, g2⟩ := key k _ _ e hk
      exact absurd g1 (noDeep_ok hnd k dk)
end
section
variable {X : Cx} {c : Ctx} {xc : Nat → Value} {W : WX}
theorem asgd_name {i : Nat} {f : Nat} {e0 : E} {es : Es} {tg : Tg} {it : I} {D : Ends} {σ : L2.St} {H : Hp} (h : tS c xc W X.kw (.asgd i (.comp (.call f (.cons e0 es)) tg it none)) D σ H) : tAsg (tCd c xc W X.kw (.call f (.cons e0 es)) tg it) (gName i) D σ H := by
    obtain ⟨Hf0, H0, ρ, Hf, s, a⟩ := h
    simp only [evS] at a
    split at a
    · rename_i hh
      rw [Bool.and_eq_true] at hh
      refine ⟨hh.1, ρ, Hf, s.sr, ?_⟩
      have old : ∀ j d o, slot ρ j = some (d, o) → o ≠ 0 → ∀ b, σ[j]? = some (some (.ref b)) → ∃ ob, H b = some ob := fun j d o ej h0 b eb => by
        obtain ⟨w, g1, g2⟩ := s.sr.at_ j d o ej (fun e2 => by subst e2; exact noDeep_ok hh.2 j d ej)
        rw [if_neg h0] at g2
        obtain ⟨p, ob, rfl, _, g4, _⟩ := g2
        rw [eb] at g1
        cases g1
        exact ⟨ob, g4⟩
      cases ev : evE c (.comp (.call f (.cons e0 es)) tg it none) false ρ with
      | bad => rw [ev] at a; exact a.elim
      | exc y =>
        rw [ev] at a
        exact fun Hf' H' x1 => a σ Hf' H' (s.step x1) x1.s1
      | ok d =>
        rw [ev] at a
        intro Hf' H' x1
        cases d with
        | list ds =>
          have a' : EndF X.kw Hf0 H0 Hf xc W D (if ds.all isDictD then .nx (put ρ i (some (.list ds, 2))) else .bad) := a
          split at a'
          · rename_i hd
            refine ⟨ds, rfl, hd, fun p qs nd hn hp ha x2 => ?_⟩
            exact a' _ Hf' H' ((s.step x2).dput hh.2 i nd s.ext.s2 hn hp ha old) x2.s1
          · exact a'.elim
        | _ => exact a.elim
    · exact a.elim
theorem ps_asgdQ {i : Nat} {x : Str} {e : Expr} {f : Nat} {e0 : E} {es : Es} {tg : Tg} {it : I} {pos pos' : Pos} (hN : X.N.Nodup) (hi : X.N[i]? = some x) (hx : Loc X.env.scope x) (hfx : X.fn x = true ∨ X.env.scope.names.lookup x = some .local) (he : PE X e (tCd c xc W X.kw (.call f (.cons e0 es)) tg it)) (hw : swapsWith e (some (Expr.Name x pos')) pos.line X.env = pure false) :
    PS X (.Assign [.Name x pos'] e pos) (tS c xc W X.kw (.asgd i (.comp (.call f (.cons e0 es)) tg it none))) :=
  impS (ps_set hN hi hx he hw hfx) fun D σ H h => asgd_name h
end
end Q
set_option Elab.async false
set_option linter.all false
set_option maxRecDepth 100000
/-! The check of expressions, and that it holds. -/
namespace Q
open PySem PySem.W PySem.Spec L2
open PyProof.Rows hiding St

theorem plain_ix {b : Expr} (h : (match b with | .Slice .. => true | _ => false) = false) : PlainIx b := by cases b <;> first | exact fun _ _ => rfl | cases h
def unO : UnaryOp → Op → Bool
  | .USub, .neg => true
  | .Invert, .inv => true
  | .Not, .not => true
  | _, _ => false
/-- a call of a builtin -/
def callP (sc : Scope) (o : Op) (x : Str) (args : List Expr) : Option (List Expr) :=
  if !glB sc x then none else match args with
  | [] => none
  | a :: l =>
    if btab.contains (x, o) then some (a :: l) else
    match o with
    | .isi t => match l with
      | [.Name y _] => if x == ("isinstance" : Str) && y == (PySem.Str.ofString (tyName t)) && glB sc y then some [a] else none
      | _ => none
    | .sset => match a, l with
      | .Call (.Name y _) [b] [] _, [] => if x == ("sorted" : Str) && y == ("set" : Str) && glB sc y then some [b] else none
      | _, _ => none
    | .lrng 1 => match a, l with
      | .Call (.Name y _) [b] [] _, [] => if x == ("list" : Str) && y == ("range" : Str) && glB sc y && notStar b then some [b] else none
      | _, _ => none
    | .trng 1 => match a, l with
      | .Call (.Name y _) [b] [] _, [] => if x == ("tuple" : Str) && y == ("range" : Str) && glB sc y && notStar b then some [b] else none
      | _, _ => none
    | _ => none
def sliceP (o : Op) (a : Expr) (lo hi st : Option Expr) : Option (List Expr) :=
  match lo, hi, st with
  | none, none, none => if o = .slc false false then some [a] else none
  | some l, none, none => if o = .slc true false then some [a, l] else none
  | none, some h, none => if o = .slc false true then some [a, h] else none
  | some l, some h, none => if o = .slc true true then some [a, l, h] else none
  | none, none, some s => match s with
    | .UnaryOp .USub (.Constant (.int 1) _ _) _ => if o = .rev then some [a] else none
    | _ => none
  | _, _, _ => none
/-- the parts of an operation's text -/
def parts (sc : Scope) (o : Op) (e : Expr) : Option (List Expr) :=
  match e with
  | .BinOp a bop b _ => if binO bop o then some [a, b] else none
  | .UnaryOp uop a _ => if unO uop o then some [a] else none
  | .Compare a cops bs _ => match cops, bs with
    | [cop], [b] => if cmpO cop o && !behindInMarks cop b then some [a, b] else none
    | _, _ => none
  | .Subscript a s _ => match s with
    | .Slice lo hi st _ => sliceP o a lo hi st
    | b => if o = .ix then some [a, b] else none
  | .Call f args kws pos => match f, kws with
    | .Name x _, [] => callP sc o x args
    | .Attribute (.Constant (.str a) j p) at_ apos, [] => match args with
      | [b] => if decide (o = .join a) && decide (at_ = "join") && apos.endLine == pos.line then some [b] else none
      | _ => none
    | .Attribute (.Name y p) at_ apos, [] => match args with
      | [.Constant (.str b) _ _] => if decide (o = .split b) && decide (at_ = "split") && apos.endLine == pos.line then some [.Name y p] else none
      | [a, b] => if decide (o = .getd) && decide (at_ = "get") && apos.endLine == pos.line then some [.Name y p, a, b] else none
      | [a] => if decide (o = .count) && decide (at_ = "count") && apos.endLine == pos.line then some [.Name y p, a] else none
      | _ => none
    | _, _ => none
  | .Tuple es _ _ => if o = .tup then some es else none
  | .List es _ => if o = .lst then some es else none
  | _ => none
def exOk : Op → Es → Bool
  | .slc true true, .cons _ (.cons _ (.cons c .nil)) => noExc c
  | .slc true true, _ => false
  | .getd, .cons _ (.cons a (.cons b .nil)) => noExc a && noExc b
  | .getd, _ => false
  | .count, .cons _ (.cons a .nil) => noExc a
  | .count, _ => false
  | _, _ => true
section
variable {L : Lw} {xc : Nat → Value} {k : Nat} {X : Cx} {N : List Str} {sc : Scope} {fb : Str → Bool} {W : WX} {c : Ctx}
theorem pes1 {m : Bool} {a : Expr} {es : Es} (h : PEs X c xc W m [a] es) : ∃ ia, es = .cons ia .nil ∧ PE X a (tE c xc W X.kw ia m) := by
  cases h with
  | cons h t => cases t; exact ⟨_, rfl, h⟩
theorem pes2 {m : Bool} {a b : Expr} {es : Es} (h : PEs X c xc W m [a, b] es) : ∃ ia ib, es = .cons ia (.cons ib .nil) ∧ PE X a (tE c xc W X.kw ia m) ∧ PE X b (tE c xc W X.kw ib m) := by
  cases h with
  | cons h t =>
    obtain ⟨ib, rfl, hb⟩ := pes1 t
    exact ⟨_, ib, rfl, h, hb⟩
theorem pes3 {m : Bool} {a b d : Expr} {es : Es} (h : PEs X c xc W m [a, b, d] es) : ∃ ia ib id, es = .cons ia (.cons ib (.cons id .nil)) ∧ PE X a (tE c xc W X.kw ia m) ∧ PE X b (tE c xc W X.kw ib m) ∧ PE X d (tE c xc W X.kw id m) := by
  cases h with
  | cons h t =>
    obtain ⟨ib, id, rfl, hb, hd⟩ := pes2 t
    exact ⟨_, ib, id, rfl, h, hb, hd⟩
theorem ty_bn (t : Ty) : PySem.Str.ofString (tyName t) ∈ bnames := by cases t <;> decide +kernel
theorem noKeep_bin {bop : Operator} {o : Op} (h : binO bop o = true) : o.keeps = false := by
  unfold binO at h
  split at h <;> first | rfl | cases h
theorem noKeep_cmp {cop : CmpOp} {o : Op} (h : cmpO cop o = true) : o.keeps = false := by
  unfold cmpO at h
  split at h <;> first | rfl | cases h
/-- isinstance -/
theorem pe_isi {m : Bool} {t : Ty} {a : Expr} {ia : E} {p1 p2 pos : Pos} {x y : Str} (hx : x = "isinstance") (hy : y = PySem.Str.ofString (tyName t)) (g1 : Gl X x) (g2 : Gl X y) (m1 : X.mg x = none) (m2 : X.mg y = none) (n1 : nmOk x = true) (n2 : nmOk y = true) (hs : notStar a = true) (ha : PE X a (tE c xc W X.kw ia true)) :
    PE X (.Call (.Name x p1) [a, .Name y p2] [] pos) (tE c xc W X.kw (.op (.isi t) (.cons ia .nil)) m) := by
  have hb : bootBuiltins y = some (.type (tyName t)) := by subst hy; cases t <;> decide +kernel
  have hc : CallR X (.builtin "isinstance") fun vs H Q => ∃ v, vs = [v, .ty (tyName t)] ∧ ∃ Hf d, Same Hf H ∧ RA X.kw Hf H v d ∧ (∀ kvs, d ≠ .dict kvs) ∧ Q (.bl (tyIs t d)) H := by
    rintro pins s σ H vs us Q I r ⟨v, rfl, Hf, d, sb, ra, nd, q⟩
    cases r with
    | cons rv rt =>
      cases rt with
      | cons rt rn =>
        cases rn
        cases rt
        exact isi_ok I (ra.here sb) rv nd fun tk => ⟨.bl _, _, I.tok tk, rfl, q⟩
  have hs' : ([a, .Name y p2] : List Expr).all notStar = true := by rw [List.all_cons, hs]; rfl
  refine impE (pe_callB hc g1 m1 (by subst hx; decide +kernel) (pa_cons ha (pa_cons (pe_bltn (v := .ty (tyName t)) g2 m2 hb rfl (nm3 n2) (nm1 n2)) pa_nil (star_cons rfl)) (star_cons hs)) (nm3 n1) (nm1 n1) (star_cons hs) (star_plain rfl)) fun σ H Q h => ?_
  have h' := one_arg h
  obtain ⟨ρ, Hf, s, a0⟩ := h'
  refine ⟨ρ, Hf, s, a0.imp fun d H1f H1 x1 hk v rv => ⟨v, rfl, ?_⟩⟩
  obtain ⟨Hg, ds, sb, ras, d2, e, q⟩ := hk v rv
  obtain ⟨a, rfl, ra⟩ := ras.one
  simp only [sem] at e
  unfold sIsi at e
  split at e
  · cases e
  · rename_i x hnd heq
    cases heq
    cases e
    exact ⟨Hg, _, sb, ra, fun kvs hk => hnd kvs (by rw [hk]), Want.bool sb q⟩
  · cases e
theorem pe_revQ {m : Bool} {a : Expr} {ia : E} {k : Nat} {p1 p2 p3 pos : Pos} (ha : PE X a (tE c xc W X.kw ia true)) : PE X (.Subscript a (.Slice none none (some (.UnaryOp .USub (.Constant (.int 1) k p1) p2)) p3) pos) (tE c xc W X.kw (.op .rev (.cons ia .nil)) m) :=
  impE (pe_revA ha) fun σ H Q h => by
    have h' := one_arg h
    obtain ⟨ρ, Hf, s, a0⟩ := h'
    refine ⟨ρ, Hf, s, a0.imp fun d H1f H1 x1 hk v rv => ?_⟩
    obtain ⟨Hg, ds, sb, ras, d2, e, q⟩ := hk v rv
    obtain ⟨a, rfl, ra⟩ := ras.one
    simp only [sem] at e
    unfold sRev at e
    split at e
    · rename_i z h
      cases h
      split at e
      · rename_i hz
        cases e
        have e1 := ra.str
        subst e1
        exact .inl ⟨z, rfl, by rw [← LIM_eq]; exact hz, Want.str sb q⟩
      · cases e
    · rename_i xs h
      cases h; cases e
      obtain ⟨p, vs, rfl, h1, h2⟩ := ra.list sb
      refine .inr ?_
      exact ⟨p, vs, rfl, .inl ⟨.inl h1, Want.lst sb q h2.rev⟩⟩
    · rename_i xs h
      cases h; cases e
      obtain ⟨p, vs, rfl, h1, h2, a1⟩ := ra.tuple sb
      exact .inr ⟨p, vs, rfl, .inr ⟨h1, Want.tup sb q a1.rev⟩⟩
    · cases e
theorem strs_rp {Hf : Hp} {K : Frag} : ∀ {vs : List V} {ds : List D} {zs : List PySem.Str}, RpAll K Hf vs ds → strsOf ds = some zs → vs = zs.map V.str
  | _, [], zs, .nil, h => by cases h; rfl
  | _, d :: ds, zs, .cons r t, h => by
    cases d with
    | str x =>
      simp only [strsOf] at h
      cases e : strsOf ds with
      | none => rw [e] at h; cases h
      | some ms => rw [e] at h; cases h; cases r; rw [strs_rp t e]; rfl
    | _ => simp [strsOf] at h
theorem rp_strs {Hf : Hp} {K : Frag} : ∀ (zs : List PySem.Str), RpAll K Hf (zs.map V.str) (zs.map PyData.str)
  | [] => .nil
  | z :: zs => .cons (.str z) (rp_strs zs)
theorem rg_rp {Hf : Hp} {K : Frag} (lo : Int) : ∀ (n : Nat), RpAll K Hf ((List.range n).map fun i => V.int (lo + (i : Nat))) (rngL lo n)
  | 0 => .nil
  | n + 1 => by
    rw [List.range_succ_eq_map, List.map_cons, List.map_map, rngL]
    refine .cons ?_ ?_
    · have : lo + ((0 : Nat) : Int) = lo := by simp
      rw [this]; exact .int lo
    · have h := rg_rp (Hf := Hf) (K := K) (lo + 1) n
      have e : ((fun i : Nat => V.int (lo + (i : Int))) ∘ Nat.succ) = fun i : Nat => V.int (lo + 1 + (i : Int)) := by
        funext i
        show V.int (lo + ((i + 1 : Nat) : Int)) = _
        congr 1
        omega
      rw [e]; exact h
theorem rng1_ok {f : List _root_.Q.D → _root_.Q.D} {d d2 : _root_.Q.D} (e : sRng f [d] = .ok d2) : ∃ j, d = .int j ∧ RgOk 0 j ∧ d2 = f (rngL 0 j.toNat) := by
  unfold sRng rangeD at e
  cases d with
  | int j =>
    simp only at e
    by_cases hs : small j = true
    · rw [if_pos hs] at e
      have e' : (if (rngL 0 j.toNat).length ≤ LIM then R.ok (f (rngL 0 j.toNat)) else .bad) = .ok d2 := e
      split at e'
      · rename_i hl
        cases e'
        unfold small at hs
        simp only [Bool.and_eq_true, decide_eq_true_eq] at hs
        rw [rngL_len] at hl
        exact ⟨j, rfl, ⟨by decide, by decide, hs.1, hs.2, by rw [Int.sub_zero]; exact hl⟩, rfl⟩
      · cases e'
    · rw [if_neg hs] at e; cases e
  | _ => cases e
/-- list(range(n)) -/
theorem pe_lrng1 {m : Bool} {a : Expr} {ia : E} {p p2 pos pos2 : Pos} (hc : X.calm = true) (g1 : Gl X "list") (m1 : X.mg "list" = none) (g2 : Gl X "range") (m2 : X.mg "range" = none) (hs : notStar a = true) (ha : PE X a (tE c xc W X.kw ia true)) :
    PE X (.Call (.Name "list" p) [.Call (.Name "range" p2) [a] [] pos2] [] pos) (tE c xc W X.kw (.op (.lrng 1) (.cons ia .nil)) m) :=
  impE (pe_listRg hc g1 m1 (prg_1 g2 m2 ha (star_cons hs)) rfl) fun σ H Q h => by
    have h' := one_arg h
    obtain ⟨ρ, Hf, s, a0⟩ := h'
    refine ⟨ρ, Hf, s, a0.imp fun d H1f H1 x1 hk v rv => ?_⟩
    obtain ⟨Hg, ds, sb, ras, d2, e, q⟩ := hk v rv
    obtain ⟨d0, rfl, ra⟩ := ras.one
    simp only [sem] at e
    obtain ⟨j, rfl, ok, rfl⟩ := rng1_ok e
    have e1 := ra.int
    subst e1
    refine ⟨j, rfl, ok, fun q' hq => ?_⟩
    have hr := rg_rp (Hf := Hg) (K := X.kw) 0 j.toNat
    have er : rgV 0 j = (List.range j.toNat).map fun i => V.int (0 + (i : Nat)) := by unfold rgV; rw [Int.sub_zero]
    rw [er]
    exact Want.lst sb q hr q' hq
/-- tuple(range(n)) -/
theorem pe_trng1 {m : Bool} {a : Expr} {ia : E} {p p2 pos pos2 : Pos} (hc : X.calm = true) (g1 : Gl X "tuple") (m1 : X.mg "tuple" = none) (g2 : Gl X "range") (m2 : X.mg "range" = none) (hs : notStar a = true) (ha : PE X a (tE c xc W X.kw ia true)) :
    PE X (.Call (.Name "tuple" p) [.Call (.Name "range" p2) [a] [] pos2] [] pos) (tE c xc W X.kw (.op (.trng 1) (.cons ia .nil)) m) :=
  impE (pe_tupRg hc g1 m1 (prg_1 g2 m2 ha (star_cons hs)) rfl) fun σ H Q h => by
    have h' := one_arg h
    obtain ⟨ρ, Hf, s, a0⟩ := h'
    refine ⟨ρ, Hf, s, a0.imp fun d H1f H1 x1 hk v rv => ?_⟩
    obtain ⟨Hg, ds, sb, ras, d2, e, q⟩ := hk v rv
    obtain ⟨d0, rfl, ra⟩ := ras.one
    simp only [sem] at e
    obtain ⟨j, rfl, ok, rfl⟩ := rng1_ok e
    have e1 := ra.int
    subst e1
    refine ⟨j, rfl, ok, fun q' hq => ?_⟩
    have hr := rg_rp (Hf := Hg) (K := X.kw) 0 j.toNat
    have er : rgV 0 j = (List.range j.toNat).map fun i => V.int (0 + (i : Nat)) := by unfold rgV; rw [Int.sub_zero]
    rw [er]
    exact Want.tup sb q hr q' hq
/-- s.join(xs), s written -/
theorem pe_joinQ {m : Bool} {a : PySem.Str} {e : Expr} {ie : E} {j : Nat} {p apos cpos : Pos} (he : PE X e (tE c xc W X.kw ie true)) (hs : starEach [e] X.env = [(false, eval e X.env)]) (hl : (apos.endLine == cpos.line) = true) :
    PE X (.Call (.Attribute (.Constant (.str a) j p) "join" apos) [e] [] cpos) (tE c xc W X.kw (.op (.join a) (.cons ie .nil)) m) :=
  impE (pe_join (pe_str (x := a)) he hs rfl hl) fun σ H Q h => by
    have h' := one_arg h
    obtain ⟨ρ, Hf, s, a0⟩ := h'
    refine ⟨⟨a, rfl⟩, ρ, Hf, s, a0.imp fun d H1f H1 x1 hk v rv => ?_⟩
    obtain ⟨Hg, ds, sb, ras, d2, e, q⟩ := hk v rv
    obtain ⟨d0, rfl, ra⟩ := ras.one
    simp only [sem] at e
    unfold sJoin at e
    split at e
    · rename_i ys h
      cases h
      split at e
      · rename_i zs hz
        split at e
        · rename_i hlen
          cases e
          obtain ⟨p', vs, rfl, h1, h2⟩ := ra.list sb
          have := strs_rp h2 hz
          subst this
          exact ⟨a, p', zs, rfl, rfl, .inl (.inl h1), hlen, Want.str sb q⟩
        · cases e
      · cases e
    · cases e
/-- x.split(b), b written -/
theorem pe_splitQ {m : Bool} {b y : PySem.Str} {io : E} {j : Nat} {p p2 apos cpos : Pos} (ho : PE X (.Name y p) (tE c xc W X.kw io true)) (hl : (apos.endLine == cpos.line) = true) :
    PE X (.Call (.Attribute (.Name y p) "split" apos) [.Constant (.str b) j p2] [] cpos) (tE c xc W X.kw (.op (.split b) (.cons io .nil)) m) :=
  impE (pe_split ho (pe_str (x := b)) rfl rfl hl) fun σ H Q h => by
    have h' := one_arg h
    obtain ⟨ρ, Hf, s, a0⟩ := h'
    refine ⟨ρ, Hf, s, a0.imp fun d H1f H1 x1 hk v rv => ?_⟩
    obtain ⟨Hg, ds, sb, ras, d2, e, q⟩ := hk v rv
    obtain ⟨d0, rfl, ra⟩ := ras.one
    simp only [sem] at e
    unfold sSplit at e
    split at e
    · rename_i a h
      cases h
      split at e
      · rename_i hh
        cases e
        simp only [Bool.and_eq_true, decide_eq_true_eq, bne_iff_ne, ne_eq] at hh
        have e1 := ra.str
        subst e1
        exact ⟨⟨a, rfl⟩, a, b, rfl, rfl, by simpa using hh.1, by rw [← LIM_eq]; exact hh.2, fun p' hp => Want.lst sb q (rp_strs _) p' hp⟩
      · cases e
    · cases e
theorem snd_op {o : Op} {es : Es} {e : Expr} {l : List Expr} (g : Gd L xc k X) (a : At X N sc fb) (hp : parts sc o e = some l) (hs : l.all notStar = true) (hx : exOk o es = true) (h : ∀ m', PEs X c xc W m' l es) (m : Bool) : PE X e (tE c xc W X.kw (.op o es) m) := by
  unfold parts at hp
  split at hp
  · -- BinOp
    rename_i x bop y pos
    split at hp
    · rename_i hb
      cases hp
      have hk := noKeep_bin hb
      obtain ⟨ia, ib, rfl, ha, hb'⟩ := pes2 (h (!o.keeps))
      exact pe_bin (bin_ok hb m) ha hb'
    · cases hp
  · -- UnaryOp
    rename_i uop x pos
    split at hp
    · rename_i hu
      cases hp
      obtain ⟨ia, rfl, ha⟩ := pes1 (h (!o.keeps))
      unfold unO at hu
      split at hu
      · exact pe_unary o_neg ha
      · exact pe_unary o_inv ha
      · exact pe_notQ ha
      · cases hu
    · cases hp
  · -- Compare
    rename_i x cops bs pos
    split at hp
    · rename_i cop b
      split at hp
      · rename_i hc
        cases hp
        simp only [Bool.and_eq_true, Bool.not_eq_true'] at hc
        obtain ⟨ia, ib, rfl, ha, hb'⟩ := pes2 (h (!o.keeps))
        exact pe_cmp2 (cmp_ok g.kl g.un hc.1 m) ha hb' hc.2
      · cases hp
    · cases hp
  · -- Subscript
    rename_i x s pos
    split at hp
    · rename_i lo hi st p2
      unfold sliceP at hp
      split at hp
      · split at hp
        · rename_i ho; subst ho
          cases hp
          obtain ⟨ia, rfl, ha⟩ := pes1 (h true)
          exact pe_slc00 ha
        · cases hp
      · split at hp
        · rename_i ho; subst ho
          cases hp
          obtain ⟨ia, ib, rfl, ha, hb⟩ := pes2 (h true)
          exact pe_slc10 ha hb
        · cases hp
      · split at hp
        · rename_i ho; subst ho
          cases hp
          obtain ⟨ia, ib, rfl, ha, hb⟩ := pes2 (h true)
          exact pe_slc01 ha hb
        · cases hp
      · split at hp
        · rename_i ho; subst ho
          cases hp
          obtain ⟨ia, ib, ic, rfl, ha, hb, hc⟩ := pes3 (h true)
          exact pe_slc11 ha hb hc hx
        · cases hp
      · split at hp
        · split at hp
          · rename_i ho; subst ho
            cases hp
            obtain ⟨ia, rfl, ha⟩ := pes1 (h true)
            exact pe_revQ ha
          · cases hp
        · cases hp
      · cases hp
    · rename_i b hns
      split at hp
      · rename_i ho; subst ho
        cases hp
        obtain ⟨ia, ib, rfl, ha, hb⟩ := pes2 (h true)
        refine pe_sub (o_ix g.kl g.un) ha hb (plain_ix ?_)
        split
        · rename_i lo hi st p; exact absurd rfl (hns lo hi st p)
        · rfl
      · cases hp
  · -- Call
    rename_i f args kws pos
    split at hp
    · rename_i x p
      unfold callP at hp
      split at hp
      · cases hp
      · rename_i hg
        have hg' : glB sc x = true := by simpa using hg
        split at hp
        · cases hp
        · rename_i y l'
          split at hp
          · rename_i hb
            cases hp
            have hm : (x, o) ∈ btab := by simpa using hb
            obtain ⟨hbn, hb2⟩ := bt_ok g.calm g.room.hd g.un hm
            rcases hb2 m with ⟨id, hc, hv⟩ | ⟨id, hc, hv⟩
            · exact pe_blt hc (gl_ok a hg') (g.bt x hbn) hv (nm3 (gl_nm hg')) (nm1 (gl_nm hg')) hs (h _)
            · exact pe_bty hc (gl_ok a hg') (g.bt x hbn) hv (nm3 (gl_nm hg')) (nm1 (gl_nm hg')) hs (h _)
          · split at hp
            · rename_i t
              split at hp
              · rename_i z pz
                split at hp
                · rename_i hh
                  cases hp
                  simp only [Bool.and_eq_true, beq_iff_eq] at hh
                  obtain ⟨⟨h1, h2⟩, h3⟩ := hh
                  obtain ⟨ia, rfl, ha⟩ := pes1 (h true)
                  have hs' : notStar y = true := by simpa using hs
                  refine pe_isi h1 h2 (gl_ok a hg') (gl_ok a h3) (g.bt x (by subst h1; decide +kernel)) (g.bt z (h2 ▸ ty_bn _)) (gl_nm hg') (gl_nm h3) hs' ha
                · cases hp
              · cases hp
            · split at hp
              · rename_i y2 p2 b p3
                split at hp
                · rename_i hh
                  cases hp
                  simp only [Bool.and_eq_true, beq_iff_eq] at hh
                  obtain ⟨⟨h1, h2⟩, h3⟩ := hh
                  obtain ⟨ia, rfl, ha⟩ := pes1 (h true)
                  have hs' : notStar b = true := by simpa using hs
                  subst h1 h2
                  exact pe_ssetQ g.calm g.un (gl_ok a hg') (g.bt _ (by decide +kernel)) (gl_ok a h3) (g.bt _ (by decide +kernel)) hs' ha
                · cases hp
              · cases hp
            · split at hp
              · rename_i y2 p2 b p3
                split at hp
                · rename_i hh
                  cases hp
                  simp only [Bool.and_eq_true, beq_iff_eq] at hh
                  obtain ⟨⟨⟨h1, h2⟩, h3⟩, h4⟩ := hh
                  obtain ⟨ia, rfl, ha⟩ := pes1 (h true)
                  subst h1 h2
                  exact pe_lrng1 g.calm (gl_ok a hg') (g.bt _ (by decide +kernel)) (gl_ok a h3) (g.bt _ (by decide +kernel)) h4 ha
                · cases hp
              · cases hp
            · split at hp
              · rename_i y2 p2 b p3
                split at hp
                · rename_i hh
                  cases hp
                  simp only [Bool.and_eq_true, beq_iff_eq] at hh
                  obtain ⟨⟨⟨h1, h2⟩, h3⟩, h4⟩ := hh
                  obtain ⟨ia, rfl, ha⟩ := pes1 (h true)
                  subst h1 h2
                  exact pe_trng1 g.calm (gl_ok a hg') (g.bt _ (by decide +kernel)) (gl_ok a h3) (g.bt _ (by decide +kernel)) h4 ha
                · cases hp
              · cases hp
            · cases hp
    · rename_i a' j p at_ apos
      split at hp
      · rename_i b'
        split at hp
        · rename_i hh
          cases hp
          simp only [Bool.and_eq_true, decide_eq_true_eq] at hh
          obtain ⟨⟨ho, rfl⟩, hl⟩ := hh
          subst ho
          obtain ⟨ie, rfl, h1⟩ := pes1 (h true)
          simp only [List.all_cons, List.all_nil, Bool.and_true] at hs
          exact pe_joinQ h1 (star_cons hs) hl
        · cases hp
      · cases hp
    · rename_i y p at_ apos
      split at hp
      · rename_i b' jb pb
        split at hp
        · rename_i hh
          cases hp
          simp only [Bool.and_eq_true, decide_eq_true_eq] at hh
          obtain ⟨⟨ho, rfl⟩, hl⟩ := hh
          subst ho
          obtain ⟨io, rfl, h1⟩ := pes1 (h true)
          exact pe_splitQ h1 hl
        · cases hp
      · rename_i a' b'
        split at hp
        · rename_i hh
          cases hp
          simp only [Bool.and_eq_true, decide_eq_true_eq] at hh
          obtain ⟨⟨ho, rfl⟩, hl⟩ := hh
          subst ho
          obtain ⟨io, ie, jf, rfl, h1, h2, h3⟩ := pes3 (h true)
          simp only [List.all_cons, List.all_nil, Bool.and_true, Bool.and_eq_true] at hs
          simp only [exOk, Bool.and_eq_true] at hx
          exact pe_getdQ g.un h1 h2 h3 hx.1 hx.2 ⟨rfl, by rw [star_cons hs.2.1, star_cons hs.2.2]; rfl, hl, by rw [star_cons hs.2.1, star_cons hs.2.2]; rfl⟩
        · cases hp
      · rename_i a'
        split at hp
        · rename_i hh
          cases hp
          simp only [Bool.and_eq_true, decide_eq_true_eq] at hh
          obtain ⟨⟨ho, rfl⟩, hl⟩ := hh
          subst ho
          obtain ⟨io, ie, rfl, h1, h2⟩ := pes2 (h true)
          simp only [List.all_cons, List.all_nil, Bool.and_true, Bool.and_eq_true] at hs
          simp only [exOk] at hx
          exact pe_countQ g.un h1 h2 hx ⟨rfl, by rw [star_cons hs.2]; rfl, hl, by rw [star_cons hs.2]; rfl⟩
        · cases hp
      · cases hp
    · cases hp
  · -- Tuple
    split at hp
    · rename_i ho; subst ho
      cases hp
      exact pe_tupQ hs (h false)
    · cases hp
  · split at hp
    · rename_i ho; subst ho
      cases hp
      exact pe_lstQ hs (h false)
    · cases hp
  · cases hp
end
/-! ### targets -/
mutual
def chkG (N : List Str) : Tg → Scope → (Str → Bool) → Expr → Bool
  | .n i, sc, fb, e => match e with
    | .Name x _ => decide (N[i]? = some x) && (lk sc x == some .local || (lk sc x == some .cell && fb x))
    | _ => false
  | .t l, sc, fb, e => match e with
    | .Tuple es _ _ => es.all notStar && chkGs N l sc fb es
    | _ => false
def chkGs (N : List Str) : Tgs → Scope → (Str → Bool) → List Expr → Bool
  | .nil, _, _, l => match l with
    | [] => true
    | _ => false
  | .cons t ts, sc, fb, l => match l with
    | e :: es => notStar e && chkG N t sc fb e && chkGs N ts sc fb es
    | [] => false
end
theorem bind_len : ∀ (l : Tgs) (ds : List D) (ρ ρ' : Env), l.bind ds ρ = .ok ρ' → ∀ N sc fb es, chkGs N l sc fb es = true → ds.length = es.length
  | .nil, [], ρ, ρ', _, N, sc, fb, es, h => by
    cases es with
    | nil => rfl
    | cons e es => simp [chkGs] at h
  | .nil, _ :: _, _, _, e, _, _, _, _, _ => nomatch e
  | .cons t l, [], _, _, e, _, _, _, _, _ => nomatch e
  | .cons t l, d :: ds, ρ, ρ', e, N, sc, fb, es, h => by
    rw [Tgs.bind] at e
    obtain ⟨ρ1, _, e2⟩ := bind_ok e
    cases es with
    | nil => simp [chkGs] at h
    | cons x es =>
      simp only [chkGs, Bool.and_eq_true] at h
      rw [List.length_cons, List.length_cons, bind_len l ds ρ1 ρ' e2 N sc fb es h.2]
section
variable {X : Cx} {N : List Str} {sc : Scope} {fb : Str → Bool}
mutual
theorem sndG (hc : X.calm = true) (hN : X.N.Nodup) (a : At X N sc fb) : ∀ (tg : Tg) (e : Expr), chkG N tg sc fb e = true → PG X e (gT X.kw tg)
  | .n i, e, h => by
    unfold chkG at h
    split at h
    · rename_i x pos
      simp only [Bool.and_eq_true, Bool.or_eq_true, decide_eq_true_eq, beq_iff_eq] at h
      obtain ⟨h1, h2⟩ := h
      unfold lk at h2
      rw [← a.n] at h1
      rw [← a.s] at h2
      refine pg_nQ hN h1 ?_ ?_
      · rcases h2 with h2 | ⟨h2, _⟩
        · exact .inl h2
        · exact .inr h2
      · rcases h2 with h2 | ⟨_, h2⟩
        · exact .inr h2
        · exact .inl (a.f x h2)
    · cases h
  | .t l, e, h => by
    unfold chkG at h
    split at h
    · rename_i es n pos
      simp only [Bool.and_eq_true] at h
      exact pg_tQ hc h.1 (sndGs hc hN a l es h.2) fun ds ρ ρ' e => bind_len l ds ρ ρ' e N sc fb es h.2
    · cases h
theorem sndGs (hc : X.calm = true) (hN : X.N.Nodup) (a : At X N sc fb) : ∀ (l : Tgs) (es : List Expr), chkGs N l sc fb es = true → PGs X es (gTs X.kw l)
  | .nil, es, h => by
    cases es with
    | nil => exact pgs_nQ
    | cons e es => simp [chkGs] at h
  | .cons t l, es, h => by
    cases es with
    | nil => simp [chkGs] at h
    | cons e es =>
      simp only [chkGs, Bool.and_eq_true] at h
      exact pgs_cQ h.1.1 (sndG hc hN a t e h.1.2) (sndGs hc hN a l es h.2)
end
end
end Q
set_option Elab.async false
set_option linter.all false
set_option maxRecDepth 100000
/-! try: its clauses, with a name or without one. -/
namespace Q
open PySem PySem.W PySem.Spec L2
open PyProof.Rows hiding St

/-- what the suite of a clause wishes, where the clause names the exception: slot i is that name's -/
def nameTS (i : Nat) (t : Addr → Value → Option Addr → TS) : Addr → Value → Option Addr → TS := fun a cls d D σ H =>
  t a cls d ⟨fun x G => D.nx (x.set i none) G, D.rt, fun x G => D.bk (x.set i none) G, fun x G => D.ct (x.set i none) G⟩ (σ.set i (some (.ref a))) H
/-- a suite's promise -/
def SuiteOk (X : Cx) (l : List Stmt) (t : Addr → Value → Option Addr → TS) : Prop :=
  ∀ (a : Addr) (ob : Obj) (cls : Value) (d : Option Addr) (pl : List (Addr × Obj)), Zc cls d ob → (∃ ws, ob.data = .fields ws) → PSs (X.suite a ((a, ob) :: pl)) l (t a cls d)
inductive Clauses (X : Cx) : List ExceptHandler → List (Value × (Addr → Value → Option Addr → TS)) → Prop
  | nil : Clauses X [] []
  | plain {x : Str} {c : Value} {t : Addr → Value → Option Addr → TS} {s1 : Stmt} {sr : List Stmt} {p q : Pos} {hl : List ExceptHandler} {tl : List (Value × (Addr → Value → Option Addr → TS))} :
      Names X x c → SuiteOk X (s1 :: sr) t → Clauses X hl tl → Clauses X (.ExceptHandler (some (.Name x p)) none (s1 :: sr) q :: hl) ((c, t) :: tl)
  | named {x n : Str} {i : Nat} {c : Value} {t : Addr → Value → Option Addr → TS} {s1 : Stmt} {sr : List Stmt} {p q : Pos} {hl : List ExceptHandler} {tl : List (Value × (Addr → Value → Option Addr → TS))} :
      X.N[i]? = some n → X.env.kindOf n = some .local → Names X x c → SuiteOk X (s1 :: sr) t → Clauses X hl tl → Clauses X (.ExceptHandler (some (.Name x p)) (some n) (s1 :: sr) q :: hl) ((c, nameTS i t) :: tl)
section
variable {X : Cx} {body : List Stmt} {c1 : ExceptHandler} {cl : List ExceptHandler} {tl : List (Value × (Addr → Value → Option Addr → TS))} {pos : Pos} {tb : WX → TS} {Wo : WX}
theorem ps_clauses (hst : X.stack = X.env :: X.outer) (hfr : X.env.frame = some X.env.locals) (nd : X.N.Nodup) (tk : Takes X Wo)
    (hb : ∀ (W : WX) (pl : List (Addr × Obj)) (xe : Value → Shared → Prop), Takes (X.tr pl xe) W → PassesOwn (model X.prog X.w) X.A X.env xe → PSs (X.tr pl xe) body (tb W))
    (hc : Clauses X (c1 :: cl) tl) : PS X (.Try body (c1 :: cl) [] [] pos) (fun D σ H => tb (wMany X.kw Wo D tl) D σ H) := by
  constructor
  intro pins s σ H D I h
  have ok := I.ok
  have frs' : X.A.frames = some (X.env :: X.outer) := ok.frames.trans (congrArg some hst)
  apply wpAny_Try_except
  apply wpAny_mono ((hb (wMany X.kw Wo D tl) (X.pn ++ pins) (fun ev t1 => wpAny (model X.prog X.w) X.A (noteFrame ev X.env) (fun _ t2 => wpAny (model X.prog X.w) X.A (setFlight ev none) (fun _ t3 =>
      wpAny (model X.prog X.w) X.A (handleBy ev X.env (c1 :: cl)) (SP X pins D) X.xe t3) X.xe t2) X.xe t1) (fun ev t0 xx => ?hit) PassesOwn.looking).run [] s σ H D (I.toTry _) h) (fun f t1 sp => ?miss) (fun ev t1 g => g)
  case hit =>
    obtain ⟨a, B, s0, pins0, σ1, H1, cls, d, rfl, J0, nb, up, sky, na, os, bare, wish⟩ := xx
    have J : Inv X pins σ1 H1 s0 := J0.ofTry ok
    rw [show (X.tr (X.pn ++ pins) _).stack = X.env :: X.outer from hst] at sky
    show wpAny (model X.prog X.w) X.A (noteFrame (.ref a) X.env) _ _ _
    apply Sky.land Zc.steady frs' hfr sky
    intro h1 fl1 up1
    have J1 : Inv X pins σ1 H1 { t0 with heap := h1 } := J.landed nb fl1.1 (up.trans up1) os bare
    obtain ⟨oa, ws, ga, za, da⟩ := fl1.there
    have far : a ∉ frs (X.env :: X.outer) := fun hm => by
      obtain ⟨_, o2, g2, nf⟩ := fl1.2.2.1.mem hm
      cases ga.symm.trans g2
      exact nf _ da
    have nL : a ≠ X.env.locals := fun z => far (List.mem_filterMap.mpr ⟨X.env, List.mem_cons_self, z ▸ hfr⟩)
    have nF : a ∉ X.fs := fun hm => far (by
      obtain ⟨v, hv, q⟩ := List.mem_filterMap.mp hm
      exact List.mem_filterMap.mpr ⟨v, List.mem_cons_of_mem _ hv, q⟩)
    have S1 := J1.suite ga da na nL nF
    have look : Looks (model X.prog X.w) h1 (typeOf (.ref a)) cls := fun A Q E t k q => wpAny_typeOf_ref (k _ _ ga) (za.1.symm ▸ q)
    have name : ∀ {x : Str} {c : Value} {p : Pos}, Names X x c → ∀ {Q E : Value → Shared → Prop}, Q c { t0 with heap := h1 } → wpAny (model X.prog X.w) (X.A.mark (some (.ref a))) (eval (.Name x p) X.env) Q E { t0 with heap := h1 } := fun hn => by
      intro Q E q
      rcases hn with ⟨g, nd, m | ⟨m, bv, nn⟩⟩
      · exact ld_glob (X := X.suite a ((a, oa) :: (X.pn ++ pins))) S1 g m q nd
      · exact ld_blt (X := X.suite a ((a, oa) :: (X.pn ++ pins))) S1 g m bv q nn nd
    have goOn : ∀ {hl : List ExceptHandler} {l : List (Value × (Addr → Value → Option Addr → TS))}, Clauses X hl l → wMany X.kw Wo D l cls d σ1 H1 → wpAny (model X.prog X.w) X.A (handleBy (.ref a) X.env hl) (SP X pins D) X.xe { t0 with heap := h1 } := by
      intro hl l hk
      induction hk with
      | nil =>
        intro w
        apply wpAny_handleBy_nil
        obtain ⟨_, _, _, ob, us, T, oT, ts, g, z, dd, e1, _⟩ := id fl1
        unfold PySem.passOn
        apply wpAny_bind (wpAny_field g dd e1 _)
        rw [if_neg (show ¬ ((Value.ref T == Value.none) = true) from by simp)]
        have last : wpAny (model X.prog X.w) X.A (setFlight (.ref a) X.env.frame) (fun _ t4 => wpAny (model X.prog X.w) X.A (throw (.ref a) : Sem Flow) (SP X pins D) X.xe t4) X.xe { t0 with heap := h1 } := by
          rw [hfr]
          exact HandSPX.setFlight_upZ fl1 fun h2 hh2 up2 => wpAny_throw (tk _ _ ⟨a, B, s0, pins, σ1, H1, cls, d, rfl, J, nb, (up.trans up1).trans up2, .inr (.inr (hst.symm ▸ hh2)), na, os, bare, w⟩)
        first | exact wpAny_bind (wpAny_pure (wpAny_bind last)) | exact wpAny_bind last
      | plain hn hsu _ ih =>
        intro w
        obtain ⟨b, eb, yes, no⟩ := w
        apply wpAny_handleBy_cons (codeAny_handlers_test _) (by intro q; cases q)
        apply name hn
        apply (PySem.W.exm_one (M := model X.prog X.w) J1.kIn look eb).here
        cases b with
        | false => exact ih (no rfl)
        | true =>
          apply codeAny_handlers_suite
          apply HandSPX.lands_againZ fl1
          intro h2 fl2 up2
          have J2 : Inv X pins σ1 H1 { t0 with heap := h2 } := J.landed nb fl2.1 ((up.trans up1).trans up2) os bare
          obtain ⟨ob, us, gb, zb, db⟩ := fl2.there
          refine wpAny_mono ((hsu a ob cls d (X.pn ++ pins) zb ⟨_, db⟩).run [] _ _ H1 _ (J2.suite gb db na nL nF) (yes rfl a na)) (fun f t6 sp => ?_) fun _ _ z => z.elim
          cases f with
          | ret u => exact sp.elim fun v y => y.elim fun σ6 y => y.elim fun H6 y => ⟨v, σ6, H6, y.1.unsuite ok, y.2⟩
          | next => exact sp.elim fun σ6 y => y.elim fun H6 y => ⟨σ6, H6, y.1.unsuite ok, y.2⟩
          | brk => exact sp.elim fun σ6 y => y.elim fun H6 y => ⟨σ6, H6, y.1.unsuite ok, y.2⟩
          | cont => exact sp.elim fun σ6 y => y.elim fun H6 y => ⟨σ6, H6, y.1.unsuite ok, y.2⟩
      | @named x n i c t st0 sr p q hl tl hi hk hn hsu _ ih =>
        intro w
        obtain ⟨b, eb, yes, no⟩ := w
        apply wpAny_handleBy_cons (codeAny_handlers_test _) (by intro q; cases q)
        apply name hn
        apply (PySem.W.exm_one (M := model X.prog X.w) J1.kIn look eb).here
        cases b with
        | false => exact ih (no rfl)
        | true =>
          apply codeAny_handlers_suite_as
          apply HandSPX.lands_againZ fl1
          intro h2 fl2 up2
          have J2 : Inv X pins σ1 H1 { t0 with heap := h2 } := J.landed nb fl2.1 ((up.trans up1).trans up2) os bare
          obtain ⟨ob, us, gb, zb, db⟩ := fl2.there
          refine store_ok (X := X.suite a ((a, ob) :: (X.pn ++ pins))) (v := .ref a) (J2.suite gb db na nL nF) nd hi (.inl hk) rfl (fun t5 S5 => ?_) (.inr hk)
          refine wpAny_mono ((hsu a ob cls d (X.pn ++ pins) zb ⟨_, db⟩).run [] t5 _ H1 _ S5 (yes rfl a na)) (fun f t6 sp => ?_) fun _ _ z => z.elim
          have bye : ∀ {σ6 : L2.St} {H6 : Hp} {Q : Shared → Prop}, Inv (X.suite a ((a, ob) :: (X.pn ++ pins))) [] σ6 H6 t6 → (∀ t7, Inv X pins (σ6.set i none) H6 t7 → Q t7) → wpAny (model X.prog X.w) X.A (do bindName X.env n .none; unbindBehindTheSuite X.env n q) (fun _ t7 => Q t7) X.xe t6 := fun S6 hq => gone_ok (S6.unsuite ok) nd hi hk hq
          cases f with
          | ret u => exact sp.elim fun v y => y.elim fun σ6 y => y.elim fun H6 y => bye y.1 fun t7 J7 => ⟨v, _, H6, J7, y.2⟩
          | next => exact sp.elim fun σ6 y => y.elim fun H6 y => bye y.1 fun t7 J7 => ⟨_, H6, J7, y.2⟩
          | brk => exact sp.elim fun σ6 y => y.elim fun H6 y => bye y.1 fun t7 J7 => ⟨_, H6, J7, y.2⟩
          | cont => exact sp.elim fun σ6 y => y.elim fun H6 y => bye y.1 fun t7 J7 => ⟨_, H6, J7, y.2⟩
    exact goOn hc wish
  case miss =>
    cases f with
    | ret u => exact sp.elim fun v y => y.elim fun σ6 y => y.elim fun H6 y => ⟨v, σ6, H6, y.1.ofTry ok, y.2⟩
    | next => exact wpAny_execs_nil (sp.elim fun σ6 y => y.elim fun H6 y => ⟨σ6, H6, y.1.ofTry ok, y.2⟩)
    | brk => exact sp.elim fun σ6 y => y.elim fun H6 y => ⟨σ6, H6, y.1.ofTry ok, y.2⟩
    | cont => exact sp.elim fun σ6 y => y.elim fun H6 y => ⟨σ6, H6, y.1.ofTry ok, y.2⟩
end
/-! ### suites -/
def litOne : Expr → Option _root_.Q.D
  | .Constant k _ _ => (conD k).map (·.1)
  | _ => none
def litsOf : List Expr → Option (List _root_.Q.D)
  | [] => some []
  | e :: es => match litOne e, litsOf es with
    | some d, some ds => some (d :: ds)
    | _, _ => none
def litD : Expr → Option _root_.Q.D
  | .Tuple es _ _ => match litsOf es with
    | some ds => if ds.length ≤ 100 then some (.tuple ds) else none
    | none => none
  | e => litOne e
def litC : List _root_.Q.D → Es
  | [] => .nil
  | d :: ds => .cons (.c d) (litC ds)
/-- as an expression -/
def litE (t : Bool) (d : _root_.Q.D) : E :=
  match t, d with
  | true, .tuple ds => .op .tup (litC ds)
  | _, d => .c d
section
variable {X : Cx} {c : Ctx} {xc : Nat → Value} {W : WX}
theorem litOne_pe {e : Expr} {d : _root_.Q.D} (h : litOne e = some d) (m : Bool) : PE X e (tE c xc W X.kw (.c d) m) := by
  unfold litOne at h
  split at h
  · cases e : conD _ with
    | none => rw [e] at h; cases h
    | some p =>
      rw [e] at h
      cases h
      exact pe_cQ (v := p.2) (by rw [e])
  · cases h
theorem litsOf_pe : ∀ {es : List Expr} {ds : List _root_.Q.D}, litsOf es = some ds → ∀ m, es.all notStar = true ∧ PEs X c xc W m es (litC ds)
  | [], ds, h, m => by cases h; exact ⟨rfl, .nil⟩
  | e :: es, ds, h, m => by
    unfold litsOf at h
    split at h
    · rename_i d ds' h1 h2
      cases h
      obtain ⟨a, b⟩ := litsOf_pe h2 m
      refine ⟨?_, .cons (litOne_pe h1 m) b⟩
      rw [List.all_cons, a, Bool.and_true]
      unfold litOne at h1
      split at h1
      · rfl
      · cases h1
    · cases h
theorem litC_ev (ds : List _root_.Q.D) (m : Bool) (ρ : _root_.Q.Env) : evEs c (litC ds) m ρ = .ok ds := by
  induction ds with
  | nil => simp only [litC, evEs]
  | cons d ds ih =>
    simp only [litC, evEs, evE, ih]
    rfl
theorem sr_none {K : Frag} {Hf H : Hp} {σ : L2.St} (h : Same Hf H) : SR K Hf H σ (List.replicate σ.length none) := by
  have z : ∀ n i, slot (List.replicate n (none : Sl)) i = none := fun n => by
    induction n with
    | zero => intro i; rfl
    | succ n ih => intro i; cases i with
      | zero => rfl
      | succ i => exact ih i
  exact ⟨by simp, h, fun i d o e => (by rw [z] at e; cases e), fun i j d d' o o' e _ _ _ _ => (by rw [z] at e; cases e)⟩
def c0 : Ctx := ⟨fun _ _ => .bad, fun _ => none, fun _ => false, fun _ => false, fun _ _ => false⟩
/-- a written value -/
theorem lit_pe {e : Expr} {d : _root_.Q.D} (h : litD e = some d) : PE X e (fun σ H Q => ∃ Hf, Same Hf H ∧ ∀ v Hf' H', Ext Hf H Hf' H' → Rp X.kw Hf' v d → Q v H') := by
  unfold litD at h
  split at h
  · split at h
    · rename_i es k q ds h1
      split at h
      · rename_i hl
        cases h
        obtain ⟨a, b⟩ := litsOf_pe (X := X) (c := c0) (xc := fun _ => .none) (W := fun _ _ _ _ => False) h1 false
        refine impE (pe_tupQ (m := false) a b) fun σ H Q g => ?_
        obtain ⟨Hf, sm, g⟩ := g
        refine ⟨_, Hf, sr_none sm, ?_⟩
        have e2 : evE c0 (.op .tup (litC ds)) false (List.replicate σ.length none) = .ok (.tuple ds) := by
          simp only [evE, litC_ev]
          show sem .tup ds = _
          simp only [sem]
          rw [if_pos (by have : (100 : Nat) ≤ LIM := by decide
                         omega)]
        rw [e2]
        exact fun Hf' H' x v rm => g v Hf' H' x (rm.ra.rp rfl)
      · cases h
    · cases h
  · have hm : isMut d = false := by
      unfold litOne at h
      split at h
      · rename_i k _ _ _
        cases k <;> first | (cases h; rfl) | cases h
      · cases h
    refine impE (litOne_pe (c := c0) (xc := fun _ => .none) (W := fun _ _ _ _ => False) h false) fun σ H Q g => ?_
    obtain ⟨Hf, sm, g⟩ := g
    refine ⟨_, Hf, sr_none sm, ?_⟩
    have e2 : evE c0 (.c d) false (List.replicate σ.length none) = .ok d := by simp only [evE]
    rw [e2]
    exact fun Hf' H' x v rm => g v Hf' H' x (rm.ra.rp hm)
end
section
variable {X : Cx} {Wo : WX} {xc : Nat → Value}
/-- isinstance(e, C), e what the suite holds -/
theorem pe_isE {a Da : Addr} {ob : Obj} {pl : List (Addr × Obj)} {n y : Str} {i : Nat} {Ca : Addr} {p1 p2 p3 p4 : Pos} (C : ExcC X.kw Da) (hz : Zc (.ref Da) none ob) (hf : ∃ ws, ob.data = .fields ws) (g1 : Gl X "isinstance") (m1 : X.mg "isinstance" = none) (hi : X.N[i]? = some n) (hv : Vis X.env.scope n) (n1 : nmOk n = true) (g2 : Gl X y) (m2 : X.mg y = some (.ref Ca)) (n2 : nmOk y = true) :
    PE (X.suite a ((a, ob) :: pl)) (.Call (.Name "isinstance" p1) [.Name n p2, .Name y p3] [] p4) (fun σ H Q => σ[i]? = some (some (.ref a)) ∧ ∃ b, PySem.W.kitOne X.kw (.ref Da) (.ref Ca) = some b ∧ Q (.bl b) H) := by
  refine impE (X := X.suite a ((a, ob) :: pl)) (pe_callB (X := X.suite a ((a, ob) :: pl)) (call_isE (X := X) C hz hf) g1 m1 (by decide +kernel) (pa_cons (X := X.suite a ((a, ob) :: pl)) (pe_var (X := X.suite a ((a, ob) :: pl)) hi hv (nm1 n1) (nm2 n1)) (pa_cons (X := X.suite a ((a, ob) :: pl)) (pe_glob (X := X.suite a ((a, ob) :: pl)) (v := .ref Ca) g2 m2 rfl (nm1 n2)) pa_nil (star_cons rfl)) (star_cons rfl)) (by decide) (by decide +kernel) (star_cons rfl) (star_plain rfl)) fun σ H Q h => ?_
  obtain ⟨h1, b, h2, h3⟩ := h
  exact ⟨_, h1, .ref Ca, .ref Ca, b, rfl, fun u r => r, h2, h3⟩
end
/-- what a clause's suite asks for -/
def tHB (K : Frag) (xc : Nat → Value) (sub : Nat → Nat → Bool) (b : HB) : Addr → Value → Option Addr → TS := fun a cls d D σ H =>
  ∃ x Hf0 H0 Hf, sub x x = true ∧ cls = xc x ∧ d = none ∧ Ext Hf0 H0 Hf H ∧ ∀ v Hf' H', Ext Hf0 H0 Hf' H' → Rp K Hf' v (evH sub x b) → D.rt v H'
/-- .. where it has a name -/
def tHBn (K : Frag) (xc : Nat → Value) (sub : Nat → Nat → Bool) (i : Nat) (b : HB) : Addr → Value → Option Addr → TS := fun a cls d D σ H =>
  tHB K xc sub b a cls d D σ H ∧ (i < σ.length → σ[i]? = some (some (.ref a)))
theorem impSI {X : Cx} {e : Stmt} {t t' : TS} (h : PS X e t) (g : ∀ D σ H, σ.length = X.N.length → t' D σ H → t D σ H) : PS X e t' := ⟨fun pins s σ H D I hw => h.run pins s σ H D I (g D σ H I.len hw)⟩
theorem one_ps {X : Cx} {e : Stmt} {t : TS} (h : PS X e t) (g : ∀ D D' σ H, D.rt = D'.rt → t D σ H → t D' σ H) : PSs X [e] t :=
  impSs (pss_cons h pss_nil) fun D σ H w => g _ _ σ H rfl w
section
variable {X : Cx} {L : Lw} {xc : Nat → Value} {k : Nat} {N : List Str} {sc : Scope} {fb : Str → Bool} {sub : Nat → Nat → Bool} {exn : List Str}
theorem suite_lit {e : Expr} {d : _root_.Q.D} {p : Pos} (h : litD e = some d) : SuiteOk X [.Return (some e) p] (tHB X.kw xc sub (.ret d)) := fun a ob cls d' pl hz hf =>
  one_ps (impS (ps_ret (X := X.suite a ((a, ob) :: pl)) (lit_pe (X := X.suite a ((a, ob) :: pl)) h)) fun D σ H w => by
    obtain ⟨x, Hf0, H0, Hf, _, _, _, x1, w⟩ := w
    exact ⟨Hf, x1.sub, fun v Hf' H' x2 r => w v Hf' H' (x1.trans x2) r⟩) fun D D' σ H e w => by
    obtain ⟨x, Hf0, H0, Hf, a1, a2, a3, x1, w⟩ := w
    exact ⟨x, Hf0, H0, Hf, a1, a2, a3, x1, fun v Hf' H' y r => e ▸ w v Hf' H' y r⟩
theorem tHB_of {K : Frag} {b : HB} {a : Addr} {cls : Value} {d : Option Addr} {l : List Stmt} {Y : Cx} {t : TS} (F : SubFact K xc exn sub) (h : ∀ Da, cls = .ref Da → d = none → ExcC K Da → PSs Y l t) (ht : ∀ D σ H, t D σ H → ∃ x, sub x x = true ∧ cls = xc x ∧ d = none) : PSs Y l t :=
  ⟨fun pins s σ H D I hw => by
    obtain ⟨x, h1, h2, h3⟩ := ht D σ H hw
    obtain ⟨C, e, c⟩ := F.exc x h1
    exact (h C (h2.trans e) h3 c).run pins s σ H D I hw⟩
theorem suite_isx {h : Nat} {n y : Str} {i : Nat} {Ca : Addr} {p1 p2 p3 p4 p : Pos} (F : SubFact X.K xc exn sub) (hy : exn[h]? = some y) (hC : xc h = .ref Ca) (g1 : Gl X "isinstance") (m1 : X.mg "isinstance" = none) (hi : X.N[i]? = some n) (hv : Vis X.env.scope n) (n1 : nmOk n = true) (g2 : Gl X y) (m2 : X.mg y = some (.ref Ca)) (n2 : nmOk y = true) :
    SuiteOk X [.Return (some (.Call (.Name "isinstance" p1) [.Name n p2, .Name y p3] [] p4)) p] (tHBn X.kw xc sub i (.isx h)) := fun a ob cls d pl hz hf =>
  tHB_of (b := .isx h) (a := a) (cls := cls) (d := d) F (fun Da e1 e2 hC' => by
    subst e1 e2
    refine one_ps (impSI (X := X.suite a ((a, ob) :: pl)) (ps_ret (X := X.suite a ((a, ob) :: pl)) (pe_isE (X := X) (pl := pl) hC' hz hf g1 m1 hi hv n1 g2 m2 n2)) fun D σ H hl w => ?_) fun D D' σ H e w => ?_
    · obtain ⟨⟨x, Hf0, H0, Hf, a1, a2, a3, x1, w⟩, w2⟩ := w
      refine ⟨w2 (by rw [hl]; exact (List.getElem?_eq_some_iff.mp hi).1), sub x h, ?_, w _ Hf H x1 (.bl _)⟩
      rw [a2, ← hC]
      exact (F.one x h y a1 hy).2
    · obtain ⟨⟨x, Hf0, H0, Hf, a1, a2, a3, x1, w⟩, w2⟩ := w
      exact ⟨⟨x, Hf0, H0, Hf, a1, a2, a3, x1, fun v Hf' H' y r => e ▸ w v Hf' H' y r⟩, w2⟩) fun D σ H w => by
    obtain ⟨⟨x, _, _, _, a1, a2, a3, _⟩, _⟩ := w
    exact ⟨x, a1, a2, a3⟩
theorem suite_sel {h : Nat} {n y : Str} {i : Nat} {Ca : Addr} {p1 p2 p3 p4 p5 p : Pos} {e1 e2 : Expr} {d1 d2 : _root_.Q.D} (F : SubFact X.K xc exn sub) (hy : exn[h]? = some y) (hC : xc h = .ref Ca) (g1 : Gl X "isinstance") (m1 : X.mg "isinstance" = none) (hi : X.N[i]? = some n) (hv : Vis X.env.scope n) (n1 : nmOk n = true) (g2 : Gl X y) (m2 : X.mg y = some (.ref Ca)) (n2 : nmOk y = true)
    (h1 : litD e1 = some d1) (h2 : litD e2 = some d2) :
    SuiteOk X [.Return (some (.IfExp (.Call (.Name "isinstance" p1) [.Name n p2, .Name y p3] [] p4) e1 e2 p5)) p] (tHBn X.kw xc sub i (.sel h d1 d2)) := fun a ob cls d pl hz hf =>
  tHB_of (b := .sel h d1 d2) (a := a) (cls := cls) (d := d) F (fun Da q1 q2 hC' => by
    subst q1 q2
    refine one_ps (impSI (X := X.suite a ((a, ob) :: pl)) (ps_ret (X := X.suite a ((a, ob) :: pl)) (pe_ifExp (X := X.suite a ((a, ob) :: pl)) (pt_truth (X := X.suite a ((a, ob) :: pl)) (pe_isE (X := X) (pl := pl) hC' hz hf g1 m1 hi hv n1 g2 m2 n2) (isTrue_simple rfl _)) (lit_pe (X := X.suite a ((a, ob) :: pl)) h1) (lit_pe (X := X.suite a ((a, ob) :: pl)) h2))) fun D σ H hl w => ?_) fun D D' σ H e w => ?_
    · obtain ⟨⟨x, Hf0, H0, Hf, a1, a2, a3, x1, w⟩, w2⟩ := w
      refine ⟨w2 (by rw [hl]; exact (List.getElem?_eq_some_iff.mp hi).1), sub x h, ?_, sub x h, rfl, ?_⟩
      · rw [a2, ← hC]
        exact (F.one x h y a1 hy).2
      · have w' : ∀ v Hf' H', Ext Hf0 H0 Hf' H' → Rp X.kw Hf' v (if sub x h then d1 else d2) → D.rt v H' := w
        dsimp only
        split
        · rename_i hb
          rw [if_pos hb] at w'
          exact ⟨Hf, x1.sub, fun v Hf' H' x2 r => w' v Hf' H' (x1.trans x2) r⟩
        · rename_i hb
          rw [if_neg hb] at w'
          exact ⟨Hf, x1.sub, fun v Hf' H' x2 r => w' v Hf' H' (x1.trans x2) r⟩
    · obtain ⟨⟨x, Hf0, H0, Hf, a1, a2, a3, x1, w⟩, w2⟩ := w
      exact ⟨⟨x, Hf0, H0, Hf, a1, a2, a3, x1, fun v Hf' H' y r => e ▸ w v Hf' H' y r⟩, w2⟩) fun D σ H w => by
    obtain ⟨⟨x, _, _, _, a1, a2, a3, _⟩, _⟩ := w
    exact ⟨x, a1, a2, a3⟩
end
/-! ### the check of the clauses -/
def eqDs : List _root_.Q.D → List _root_.Q.D → Bool
  | [], [] => true
  | .none :: r, .none :: r' => eqDs r r'
  | .bool a :: r, .bool b :: r' => a == b && eqDs r r'
  | .int a :: r, .int b :: r' => a == b && eqDs r r'
  | .str a :: r, .str b :: r' => decide (a = b) && eqDs r r'
  | _, _ => false
theorem eqDs_ok : ∀ {a b : List _root_.Q.D}, eqDs a b = true → a = b := by
  intro a
  induction a with
  | nil => intro b h; cases b with
    | nil => rfl
    | cons y r => simp [eqDs] at h
  | cons x r ih =>
    intro b h
    cases b with
    | nil => cases x <;> simp [eqDs] at h
    | cons y r' =>
      cases x <;> cases y <;> simp only [eqDs, Bool.and_eq_true, beq_iff_eq, decide_eq_true_eq] at h <;> first | (rw [ih h]) | (rw [h.1, ih h.2]) | cases h
def eqL : _root_.Q.D → _root_.Q.D → Bool
  | .tuple a, .tuple b => eqDs a b
  | a, b => eqDs [a] [b]
theorem eqL_ok {a b : _root_.Q.D} (h : eqL a b = true) : a = b := by
  unfold eqL at h
  split at h
  · rw [eqDs_ok h]
  · have := eqDs_ok h
    cases this
    rfl
def isLit (d : _root_.Q.D) (e : Expr) : Bool := match litD e with
  | some d' => eqL d d'
  | none => false
theorem isLit_ok {d : _root_.Q.D} {e : Expr} (h : isLit d e = true) : litD e = some d := by
  unfold isLit at h
  split at h
  · rename_i d' q
    rw [q, eqL_ok h]
  · cases h
def chkIs (L : Lw) (sc : Scope) (n : Str) (c : Nat) : Expr → Bool
  | .Call (.Name f _) [.Name m _, .Name y _] [] _ => decide (f = "isinstance") && glB sc f && decide (m = n) && nmOk n && decide (L.exn[c]? = some y) && glB sc y
  | _ => false
def chkHB (L : Lw) (sc : Scope) : HB → Option Str → Expr → Bool
  | .ret d, _, e => isLit d e
  | .isx c, some n, e => chkIs L sc n c e
  | .sel c a b, some n, .IfExp t x y _ => chkIs L sc n c t && isLit a x && isLit b y
  | _, _, _ => false
def chkHs (L : Lw) (N : List Str) (sc : Scope) : Hs → List ExceptHandler → Bool
  | [], [] => true
  | (h, b) :: r, .ExceptHandler (some (.Name x _)) nm [.Return (some e) _] _ :: hr => decide (L.exn[h]? = some x) && glB sc x && (match nm with
    | none => true
    | some n => (N.idxOf n < N.length) && decide (lk sc n = some .local)) && chkHB L sc b nm e && chkHs L N sc r hr
  | _, _ => false
structure TryFact (L : Lw) (xc : Nat → Value) (X : Cx) : Prop where
  sub : SubFact X.K xc L.exn L.tab.sub
  ref : ∀ (n : Nat) (x : Str), L.exn[n]? = some x → ∃ C, xc n = .ref C ∧ X.mg x = some (.ref C)
  isi : X.mg "isinstance" = none
theorem try_fact {L : Lw} {xc : Nat → Value} {k : Nat} {X : Cx} (g : Gd L xc k X) : TryFact L xc X :=
  ⟨g.sub, fun n x h => by
    obtain ⟨C, _, _, _, _, _, _, h1, _, _, h2⟩ := (g.ex n x h).ex
    exact ⟨C, h2, h1⟩, g.bt _ (by decide +kernel)⟩
section
variable {X : Cx} {L : Lw} {xc : Nat → Value} {N : List Str} {sc : Scope} {fb : Str → Bool}
theorem chkIs_ok {n : Str} {c : Nat} {e : Expr} (a : At X N sc fb) (T : TryFact L xc X) (h : chkIs L sc n c e = true) : ∃ p1 p2 p3 p4 y Ca, e = .Call (.Name "isinstance" p1) [.Name n p2, .Name y p3] [] p4 ∧ Gl X "isinstance" ∧ nmOk n = true ∧ L.exn[c]? = some y ∧ xc c = .ref Ca ∧ Gl X y ∧ X.mg y = some (.ref Ca) ∧ nmOk y = true := by
  unfold chkIs at h
  split at h
  · simp only [Bool.and_eq_true, decide_eq_true_eq] at h
    obtain ⟨⟨⟨⟨⟨rfl, h2⟩, rfl⟩, h4⟩, h5⟩, h6⟩ := h
    obtain ⟨Ca, q1, q2⟩ := T.ref c _ h5
    exact ⟨_, _, _, _, _, Ca, rfl, gl_ok a h2, h4, h5, q1, gl_ok a h6, q2, gl_nm h6⟩
  · cases h
/-- what the clauses come to, by the evaluator -/
theorem clauses_of (a : At X N sc fb) (T : TryFact L xc X) {W : WX} : ∀ (hs : Hs) (hl : List ExceptHandler), chkHs L N sc hs hl = true → ∃ tl, Clauses X hl tl ∧ ∀ (D : Ends) (x : Nat) (Hf0 H0 Hf : Hp) (ρ : _root_.Q.Env), L.tab.sub x x = true → EndF X.kw Hf0 H0 Hf xc W D (evHs L.tab.sub hs x ρ) → ∀ σ' Hf' H', SI X.kw Hf0 H0 σ' ρ Hf' H' → Same Hf Hf' → wMany X.kw W D tl (xc x) none σ' H'
  | [], hl, h => by
    cases hl with
    | nil => exact ⟨[], .nil, fun D x Hf0 H0 Hf ρ _ e σ' Hf' H' s sm => e σ' Hf' H' s sm⟩
    | cons y r => simp [chkHs] at h
  | (c, b) :: r, hl, h => by
    unfold chkHs at h
    split at h
    · rename_i h0; cases h0
    · rename_i c' b' r' x p nm e q p2 hr heq
      cases heq
      simp only [Bool.and_eq_true, decide_eq_true_eq] at h
      obtain ⟨⟨⟨⟨h1, h2⟩, h3⟩, h4⟩, h5⟩ := h
      obtain ⟨tl, k1, k2⟩ := clauses_of a T r hr h5
      obtain ⟨Ca, q1, q2⟩ := T.ref c x h1
      have nam : Names X x (xc c) := ⟨gl_ok a h2, nm1 (gl_nm h2), .inl (q1 ▸ q2)⟩
      have step : ∀ (t : Addr → Value → Option Addr → TS), (∀ (D : Ends) (z : Nat) (Hf0 H0 Hf' H' : Hp) (σ' : L2.St) (ad : Addr), L.tab.sub z z = true → Ext Hf0 H0 Hf' H' → (∀ v Hf' H', Ext Hf0 H0 Hf' H' → Rp X.kw Hf' v (evH L.tab.sub z b) → D.rt v H') → t ad (xc z) none D σ' H') →
          ∀ (D : Ends) (z : Nat) (Hf0 H0 Hf : Hp) (ρ : _root_.Q.Env), L.tab.sub z z = true → EndF X.kw Hf0 H0 Hf xc W D (evHs L.tab.sub ((c, b) :: r) z ρ) → ∀ σ' Hf' H', SI X.kw Hf0 H0 σ' ρ Hf' H' → Same Hf Hf' → wMany X.kw W D ((xc c, t) :: tl) (xc z) none σ' H' := fun t ht D z Hf0 H0 Hf ρ hz en σ' Hf' H' s sm => by
        refine ⟨L.tab.sub z c, (T.sub.one z c x hz h1).1, fun hb ad _ => ?_, fun hb => ?_⟩
        · rw [evHs, if_pos hb] at en
          exact ht D z Hf0 H0 Hf' H' σ' ad hz s.ext en
        · rw [evHs, if_neg (by rw [hb]; exact Bool.false_ne_true)] at en
          exact k2 D z Hf0 H0 Hf ρ hz en σ' Hf' H' s sm
      cases nm with
      | none =>
        cases b with
        | ret d => exact ⟨_, .plain nam (suite_lit (xc := xc) (sub := L.tab.sub) (isLit_ok h4)) k1, step _ fun D z Hf0 H0 Hf' H' σ' ad hz x1 w => ⟨z, Hf0, H0, Hf', hz, rfl, rfl, x1, w⟩⟩
        | sel c2 d1 d2 => simp [chkHB] at h4
        | isx c2 => simp [chkHB] at h4
      | some n =>
        simp only [Bool.and_eq_true, decide_eq_true_eq] at h3
        obtain ⟨h3, h3'⟩ := h3
        have hi : X.N[N.idxOf n]? = some n := by
          rw [a.n, List.getElem?_eq_getElem h3, List.getElem_idxOf h3]
        have hk : X.env.kindOf n = some .local := by
          show X.env.scope.names.lookup n = _
          rw [a.s]; exact h3'
        have hv : Vis X.env.scope n := .inl hk
        have set_ok : ∀ (σ' : L2.St) (ad : Addr), N.idxOf n < (σ'.set (N.idxOf n) (some (V.ref ad))).length → (σ'.set (N.idxOf n) (some (V.ref ad)))[N.idxOf n]? = some (some (.ref ad)) := fun σ' ad hl => List.getElem?_set_self (by simpa using hl)
        cases b with
        | ret d =>
          exact ⟨_, .named hi hk nam (suite_lit (xc := xc) (sub := L.tab.sub) (isLit_ok h4)) k1, step _ fun D z Hf0 H0 Hf' H' σ' ad hz x1 w => ⟨z, Hf0, H0, Hf', hz, rfl, rfl, x1, w⟩⟩
        | sel c2 d1 d2 =>
          cases e with
          | IfExp t x3 y3 pos =>
            have h4' : (chkIs L sc n c2 t && isLit d1 x3 && isLit d2 y3) = true := h4
            simp only [Bool.and_eq_true] at h4'
            obtain ⟨⟨g1, g2⟩, g3⟩ := h4'
            obtain ⟨p1, p2, p3, p4, y, Cb, rfl, w1, w2, w3, w4, w5, w6, w7⟩ := chkIs_ok a T g1
            exact ⟨_, .named hi hk nam (suite_sel (xc := xc) (sub := L.tab.sub) (exn := L.exn) T.sub w3 w4 w1 T.isi hi hv w2 w5 w6 w7 (isLit_ok g2) (isLit_ok g3)) k1, step _ fun D z Hf0 H0 Hf' H' σ' ad hz x1 w => ⟨⟨z, Hf0, H0, Hf', hz, rfl, rfl, x1, w⟩, set_ok σ' ad⟩⟩
          | _ => exact absurd h4 Bool.false_ne_true
        | isx c2 =>
          obtain ⟨p1, p2, p3, p4, y, Cb, rfl, w1, w2, w3, w4, w5, w6, w7⟩ := chkIs_ok a T (show chkIs L sc n c2 e = true from h4)
          exact ⟨_, .named hi hk nam (suite_isx (xc := xc) (sub := L.tab.sub) (exn := L.exn) T.sub w3 w4 w1 T.isi hi hv w2 w5 w6 w7) k1, step _ fun D z Hf0 H0 Hf' H' σ' ad hz x1 w => ⟨⟨z, Hf0, H0, Hf', hz, rfl, rfl, x1, w⟩, set_ok σ' ad⟩⟩
    · cases h
/-- try -/
theorem ps_tryQ {c : Ctx} {W : WX} {body : List Stmt} {c1 : ExceptHandler} {cl : List ExceptHandler} {ib : Ss} {hs : Hs} {pos : Pos} (a : At X N sc fb) (T : TryFact L xc X) (hc : c.sub = L.tab.sub) (nd : X.N.Nodup) (hst : X.stack = X.env :: X.outer) (hfr : X.env.frame = some X.env.locals) (tk : Takes X W)
    (hb : ∀ (W' : WX) (pl : List (Addr × Obj)) (xe : Value → Shared → Prop), Takes (X.tr pl xe) W' → PassesOwn (model X.prog X.w) X.A X.env xe → PSs (X.tr pl xe) body (tSs c xc W' X.kw ib))
    (h : chkHs L N sc hs (c1 :: cl) = true) : PS X (.Try body (c1 :: cl) [] [] pos) (tS c xc W X.kw (.try ib hs)) := by
  obtain ⟨tl, k1, k2⟩ := clauses_of (W := W) a T hs _ h
  refine impS (ps_clauses hst hfr nd tk hb k1) fun D σ H g => ?_
  obtain ⟨Hf0, H0, ρ, Hf, s, g⟩ := g
  refine ⟨Hf0, H0, ρ, Hf, s, ?_⟩
  simp only [evS] at g
  cases e : evSs c ib ρ with
  | nx ρ' => rw [e] at g; exact g
  | rt d o => rw [e] at g; exact g
  | bk ρ' => rw [e] at g; exact g
  | ct ρ' => rw [e] at g; exact g
  | bad => rw [e] at g; exact g
  | ex x ρ' =>
    rw [e] at g
    dsimp only at g
    split at g
    · rename_i hx
      rw [hc] at hx g
      exact fun σ' Hf' H' s' sm => k2 D x Hf0 H0 Hf ρ' hx g σ' Hf' H' s' sm
    · exact g.elim
end
end Q
set_option Elab.async false
set_option linter.all false
set_option maxRecDepth 100000
/-! The check of expressions, tests and sources. -/
namespace Q
open PySem PySem.W PySem.Spec L2
open PyProof.Rows hiding St

def eqC : D → D → Bool
  | .none, .none => true
  | .bool a, .bool b => a == b
  | .int i, .int j => i == j
  | .str x, .str y => decide (x = y)
  | _, _ => false
theorem eqC_ok {a b : D} (h : eqC a b = true) : a = b := by
  unfold eqC at h
  split at h
  · rfl
  · rw [eq_of_beq h]
  · rw [eq_of_beq h]
  · rw [of_decide_eq_true h]
  · cases h
def strip : Expr → Expr
  | .BoolOp op [x] p => x
  | e => e
theorem strip_ok {X : Cx} {e : Expr} {t : TE} (h : PE X (strip e) t) : PE X e t := by
  unfold strip at h
  split at h
  · exact pe_one h
  · exact h
def notSet : Expr → Bool
  | .Set .. => false
  | _ => true
theorem folded_ok {iter : Expr} (h : notSet iter = true) (env : PySem.Env) (x : Value) : foldedSetIterable iter env x = pure x := by
  cases iter <;> first | rfl | exact absurd h Bool.false_ne_true
def isTup : Expr → Bool
  | .Tuple .. => true
  | _ => false
def ownOf (N : List Str) (l : List Nat) : List (Str × Nat) := l.map fun i => ((N[i]?).getD "", i)
theorem own_snd (N : List Str) (l : List Nat) : (ownOf N l).map (fun x => x.2) = l := by
  unfold ownOf
  rw [List.map_map]
  exact List.map_id' l
def blkB (N : List Str) (sc scope : Scope) (own : List (Str × Nat)) : Bool :=
  decide (scope.kind = .function) && scope.names.all (fun y => decide (scope.names.lookup y.1 = some y.2)) && own.all (fun p => decide (N[p.2]? = some p.1)) &&
  scope.names.all (fun y => !decide (y.2 = .free) || decide (sc.names.lookup y.1 = some .cell) || decide (sc.names.lookup y.1 = some .free)) &&
  scope.names.all (fun y => !(decide (y.2 = .local) || decide (y.2 = .cell)) || (own.map fun p => p.1).contains y.1 || !N.contains y.1)
theorem blk_ok {N : List Str} {sc scope : Scope} {own : List (Str × Nat)} (h : blkB N sc scope own = true) : BlkOk N sc scope own := by
  unfold blkB at h
  simp only [Bool.and_eq_true, List.all_eq_true, decide_eq_true_eq, Bool.or_eq_true, Bool.not_eq_true', decide_eq_false_iff_not, Bool.or_eq_false_iff] at h
  obtain ⟨⟨⟨⟨h1, h2⟩, h3⟩, h4⟩, h5⟩ := h
  refine ⟨h1, fun y hy => h2 y hy, fun p hp => h3 p hp, fun y hy e => ?_, fun y hy e => ?_⟩
  · rcases h4 y hy with (g | g) | g
    · exact absurd e g
    · exact .inl g
    · exact .inr g
  · rcases h5 y hy with (g | g) | g
    · exfalso
      rcases e with e | e
      · exact g.1 e
      · exact g.2 e
    · left; simpa using g
    · right; simpa using g
def celB (scope : Scope) : Str → Bool := fun x => scope.names.lookup x == some .cell
theorem at_blk {X : Cx} {N : List Str} {sc : Scope} {fb : Str → Bool} (a : At X N sc fb) (s : Shared) (H : Hp) (scope : Scope) (C : Addr) (cl : List (Str × Addr)) (fp : List Addr) : At (X.blk s H scope (compEnvC scope cl C X.env) fp) N (relS scope sc) (celB scope) :=
  ⟨a.n, by rw [← a.s]; rfl, fun x h => h⟩
/-- t.index(x), t a tuple of the module -/
def gIdx (L : Lw) : Op → Es → Bool
  | .index, .cons (.g n) (.cons ie .nil) => noExc ie && (match L.tab.gls[n]? with
    | some (.tuple _) => true
    | _ => false)
  | _, _ => false
/-- the text {} -/
def isD0 : E → Bool
  | .dcomp (.c .none) (.c .none) (.t .nil) (.e (.op .lst .nil)) none => true
  | _ => false
theorem isD0_ok {e : E} (h : isD0 e = true) : e = d0 := by
  unfold isD0 at h
  split at h
  · rfl
  · cases h
/-! ### the check -/
mutual
def chkE (L : Lw) (N : List Str) : E → Scope → (Str → Bool) → Expr → Bool
  | .v i, sc, _, e => match e with
    | .Name x _ => decide (N[i]? = some x) && visB sc x && nmOk x
    | _ => false
  | .c d, _, _, e => match e with
    | .Constant k _ _ => match conD k with
      | some (d', _) => eqC d d'
      | none => false
    | _ => false
  | .g i, sc, _, e => match e with
    | .Name x _ => decide (L.gln[i]? = some x) && glB sc x && (L.tab.gls[i]?).isSome
    | _ => false
  | .op o es, sc, fb, e => match parts sc o e with
    | some l => l.all notStar && exOk o es && chkEs L N es sc fb l
    | none => match e with
      | .Call (.Attribute (.Name y p) at_ apos) [x] [] cpos => decide (at_ = "index") && gIdx L o es && (apos.endLine == cpos.line) && notStar x && chkEs L N es sc fb [.Name y p, x]
      | _ => false
  | .call f es, sc, fb, e => match e with
    | .Call (.Name x _) l [] _ => decide (L.fnn[f]? = some x) && glB sc x && l.all notStar && chkEs L N es sc fb l
    | _ => false
  | .and a b, sc, fb, e => match e with
    | .BoolOp .And (x :: y :: r) pos => chkE L N a sc fb x && chkE L N b sc fb (strip (.BoolOp .And (y :: r) pos))
    | _ => false
  | .or a b, sc, fb, e => match e with
    | .BoolOp .Or (x :: y :: r) pos => chkE L N a sc fb x && chkE L N b sc fb (strip (.BoolOp .Or (y :: r) pos))
    | _ => false
  | .ite t a b, sc, fb, e => match e with
    | .IfExp c x y _ => chkT L N t sc fb c && chkE L N a sc fb x && chkE L N b sc fb y
    | _ => false
  | .chn o o' p q d, sc, fb, e => match e with
    | .Compare x [cop, cop'] [y, z] _ => cmpO cop o && cmpO cop' o' && !lastMarks [cop, cop'] [y, z] && chkE L N p sc fb x && chkE L N q sc fb y && chkE L N d sc fb z
    | _ => false
  | .comp elt tg it t, sc, fb, e => match e with
    | .ListComp x [⟨tx, ix, ifs, az⟩] scope _ => decide (az = 0) && notSet ix && blkB N sc scope (ownOf N tg.slots) && chkI L N it sc fb tx ix && chkG N tg (relS scope sc) (celB scope) tx && chkTo L N t (relS scope sc) (celB scope) ifs && chkE L N elt (relS scope sc) (celB scope) x
    | _ => false
  | .comp2 elt tg it t tg' it' t', sc, fb, e => match e with
    | .ListComp x [⟨tx, ix, ifs, az⟩, ⟨tx', ix', ifs', az'⟩] scope _ => decide (az = 0) && decide (az' = 0) && notSet ix && notSet ix' && blkB N sc scope (ownOf N (tg.slots ++ tg'.slots)) && chkI L N it sc fb tx ix && chkG N tg (relS scope sc) (celB scope) tx && chkTo L N t (relS scope sc) (celB scope) ifs &&
      chkI L N it' (relS scope sc) (celB scope) tx' ix' && chkG N tg' (relS scope sc) (celB scope) tx' && chkTo L N t' (relS scope sc) (celB scope) ifs' && chkE L N elt (relS scope sc) (celB scope) x
    | _ => false
  | .dcomp ik iv tg it t, sc, fb, e => match e with
    | .Dict [] [] _ => isD0 (.dcomp ik iv tg it t)
    | .DictComp kx vx [⟨tx, ix, ifs, az⟩] scope _ => decide (az = 0) && notSet ix && blkB N sc scope (ownOf N tg.slots) && chkI L N it sc fb tx ix && chkG N tg (relS scope sc) (celB scope) tx && chkTo L N t (relS scope sc) (celB scope) ifs && chkE L N ik (relS scope sc) (celB scope) kx && chkE L N iv (relS scope sc) (celB scope) vx
    | _ => false
def chkEs (L : Lw) (N : List Str) : Es → Scope → (Str → Bool) → List Expr → Bool
  | .nil, _, _, l => match l with
    | [] => true
    | _ => false
  | .cons e es, sc, fb, l => match l with
    | x :: xs => chkE L N e sc fb x && chkEs L N es sc fb xs
    | [] => false
def chkT (L : Lw) (N : List Str) : T → Scope → (Str → Bool) → Expr → Bool
  | .e a, sc, fb, e => simple e && chkE L N a sc fb e
  | .cmp o a b, sc, fb, e => match e with
    | .Compare x [cop] [y] _ => cmpO cop o && !behindInMarks cop y && chkE L N a sc fb x && chkE L N b sc fb y
    | _ => false
  | .chn o o' a b d, sc, fb, e => match e with
    | .Compare x [cop, cop'] [y, z] _ => cmpO cop o && cmpO cop' o' && !lastMarks [cop, cop'] [y, z] && chkE L N a sc fb x && chkE L N b sc fb y && chkE L N d sc fb z
    | _ => false
  | .not t, sc, fb, e => match e with
    | .UnaryOp .Not x _ => chkT L N t sc fb x
    | _ => false
  | .and t u, sc, fb, e => match e with
    | .BoolOp .And (x :: y :: r) pos => chkT L N t sc fb x && chkT L N u sc fb (.BoolOp .And (y :: r) pos)
    | _ => false
  | .or t u, sc, fb, e => match e with
    | .BoolOp .Or (x :: y :: r) pos => chkT L N t sc fb x && chkT L N u sc fb (.BoolOp .Or (y :: r) pos)
    | _ => false
  | .one t, sc, fb, e => match e with
    | .BoolOp _ [x] _ => chkT L N t sc fb x
    | _ => false
def chkTo (L : Lw) (N : List Str) : Option T → Scope → (Str → Bool) → List Expr → Bool
  | none, _, _, l => match l with
    | [] => true
    | _ => false
  | some t, sc, fb, l => match l with
    | [x] => chkT L N t sc fb x
    | _ => false
def chkI (L : Lw) (N : List Str) : I → Scope → (Str → Bool) → Expr → Expr → Bool
  | .e a, sc, fb, _, e => chkE L N a sc fb e
  | .rng es, sc, fb, _, e => match e with
    | .Call (.Name x _) l [] _ => decide (x = "range") && glB sc x && (decide (l.length = 1) || decide (l.length = 2)) && l.all notStar && chkEs L N es sc fb l
    | _ => false
  | .zip es, sc, fb, tg, e => match e with
    | .Call (.Name x _) l [] _ => decide (x = "zip") && glB sc x && isTup tg && decide (l.length = 2) && l.all notStar && chkEs L N es sc fb l
    | _ => false
  | .enum a, sc, fb, tg, e => match e with
    | .Call (.Name x _) [y] [] _ => decide (x = "enumerate") && glB sc x && isTup tg && notStar y && chkE L N a sc fb y
    | _ => false
  | .vals _, _, _, _, _ => false
  | .items _, _, _, _, _ => false
end
section
variable {L : Lw} {xc : Nat → Value} {k : Nat} {N : List Str}
theorem fits_ok {fn : Fn} {d : D} {o : Bool} {r : D × Bool} (h : fits fn d o = .ok r) : r = (d, o) ∧ (fn.fr = true → isMut d = true → o = true) ∧ (fn.sf = true → imm d = true ∨ (o = true ∧ immIn d = true)) := by
  unfold fits at h
  split at h
  · cases h
  · rename_i hn
    cases h
    refine ⟨rfl, fun h1 h2 => ?_, fun h1 => ?_⟩
    · cases o with
      | true => rfl
      | false => exact absurd (by simp [h1, h2]) hn
    · cases hi : imm d with
      | true => exact .inl rfl
      | false =>
        right
        cases o with
        | true =>
          cases hj : immIn d with
          | true => exact ⟨rfl, rfl⟩
          | false => exact absurd (by simp [h1, hi, hj]) hn
        | false => exact absurd (by simp [h1, hi]) hn
theorem callF_ok (t : Tab) (k : Nat) : callOk (t.ctx (callF t k)) := by
  intro f ds d o h
  have h' : callF t k f ds = .ok (d, o) := h
  cases k with
  | zero => cases h'
  | succ k =>
    rw [callF] at h'
    cases e : t.fn f with
    | none => rw [e] at h'; cases h'
    | some fn =>
      rw [e] at h'
      have h2 : run (t.ctx (callF t k)) fn ds = .ok (d, o) := h'
      have key : ∀ d' o', fits fn d' o' = .ok (d, o) → (fn.fr = true → isMut d = true → o = true) ∧ (fn.sf = true → imm d = true ∨ (o = true ∧ immIn d = true)) := fun d' o' hf => by
        obtain ⟨h1, h2⟩ := fits_ok hf
        cases h1
        exact h2
      show ((match t.fn f with | some fn => fn.fr | none => false) = true → _) ∧ ((match t.fn f with | some fn => fn.sf | none => false) = true → _)
      rw [e]
      unfold run at h2
      split at h2
      · split at h2
        · exact key _ _ h2
        · exact key _ _ h2
        · cases h2
        · cases h2
      · cases h2
mutual
theorem sndE : ∀ (ir : E) {X : Cx} {sc : Scope} {fb : Str → Bool} {W : WX} {e : Expr}, Gd L xc k X → At X N sc fb → Takes X W → chkE L N ir sc fb e = true → ∀ m, PE X e (tE (L.ctx k) xc W X.kw ir m)
  | .v i, X, sc, fb, W, e, g, a, tk, h, m => by
    unfold chkE at h
    split at h
    · simp only [Bool.and_eq_true, decide_eq_true_eq] at h
      exact pe_vQ (by rw [a.n]; exact h.1.1) (vis_ok a h.1.2) (nm1 h.2) (nm2 h.2)
    · cases h
  | .c d, X, sc, fb, W, e, g, a, tk, h, m => by
    unfold chkE at h
    split at h
    · split at h
      · rename_i d' v hd
        have := eqC_ok h
        subst this
        exact pe_cQ hd
      · cases h
    · cases h
  | .g i, X, sc, fb, W, e, g, a, tk, h, m => by
    unfold chkE at h
    split at h
    · rename_i x pos
      simp only [Bool.and_eq_true, decide_eq_true_eq] at h
      obtain ⟨d, hd⟩ := Option.isSome_iff_exists.mp h.2
      obtain ⟨u, v, h1, h2, h3⟩ := g.gl i x d h.1.1 hd
      exact pe_gQ (gl_ok a h.1.2) h1 h2 (nm1 (gl_nm h.1.2)) hd h3
    · cases h
  | .op o es, X, sc, fb, W, e, g, a, tk, h, m => by
    unfold chkE at h
    split at h
    · rename_i l hp
      simp only [Bool.and_eq_true] at h
      exact snd_op g a hp h.1.1 h.1.2 (fun m' => sndEs es g a tk h.2 m') m
    · split at h
      · rename_i y p at_ apos x cpos hnone
        simp only [Bool.and_eq_true, decide_eq_true_eq] at h
        obtain ⟨⟨⟨⟨rfl, h1⟩, h2⟩, h3⟩, h4⟩ := h
        have hpe := sndEs es g a tk h4 true
        unfold gIdx at h1
        split at h1
        · rename_i n ie
          simp only [Bool.and_eq_true] at h1
          obtain ⟨hx, hg⟩ := h1
          split at hg
          · rename_i xs hgl
            simp only [chkEs, Bool.and_eq_true] at h4
            have h5 := h4.1
            unfold chkE at h5
            simp only [Bool.and_eq_true, decide_eq_true_eq] at h5
            obtain ⟨u, v, q1, q2, q3⟩ := g.gl n y (.tuple xs) h5.1.1 hgl
            obtain ⟨io, je, e0, _, h7⟩ := pes2 hpe
            cases e0
            exact pe_indexG g.un g.kl (gl_ok a h5.1.2) q1 q2 (nm1 (gl_nm h5.1.2)) hgl q3 h7 hx ⟨rfl, by rw [star_cons h3]; rfl, h2, by rw [star_cons h3]; rfl⟩
          · cases hg
        · cases h1
      · cases h
  | .call f es, X, sc, fb, W, e, g, a, tk, h, m => by
    unfold chkE at h
    split at h
    · rename_i x p l pos
      simp only [Bool.and_eq_true, decide_eq_true_eq] at h
      obtain ⟨⟨⟨h1, h2⟩, h3⟩, h4⟩ := h
      have hp := fun m' => sndEs es g a tk h4 m'
      cases es with
      | nil =>
        cases l with
        | nil => exact pe_call0Q (g.fn f x h1) g.room (gl_ok a h2) (callF_ok L.tab k) (nm1 (gl_nm h2))
        | cons y l => simp [chkEs] at h4
      | cons ie es =>
        cases l with
        | nil => simp [chkEs] at h4
        | cons y l => exact pe_callQ (g.fn f x h1) g.room (gl_ok a h2) tk (callF_ok L.tab k) (nm1 (gl_nm h2)) h3 (hp _)
    · cases h
  | .and p q, X, sc, fb, W, e, g, a, tk, h, m => by
    unfold chkE at h
    split at h
    · simp only [Bool.and_eq_true] at h
      exact pe_andQ (sndE p g a tk h.1 false) (strip_ok (sndE q g a tk h.2 m))
    · cases h
  | .or p q, X, sc, fb, W, e, g, a, tk, h, m => by
    unfold chkE at h
    split at h
    · simp only [Bool.and_eq_true] at h
      exact pe_orQ (sndE p g a tk h.1 false) (strip_ok (sndE q g a tk h.2 m))
    · cases h
  | .ite t p q, X, sc, fb, W, e, g, a, tk, h, m => by
    unfold chkE at h
    split at h
    · simp only [Bool.and_eq_true] at h
      exact pe_iteQ (sndT t g a tk h.1.1).1 (sndE p g a tk h.1.2 m) (sndE q g a tk h.2 m)
    · cases h
  | .chn o o' p q d, X, sc, fb, W, e, g, a, tk, h, m => by
    unfold chkE at h
    split at h
    · simp only [Bool.and_eq_true, Bool.not_eq_true'] at h
      obtain ⟨⟨⟨⟨⟨h1, h1'⟩, h2⟩, h3⟩, h4⟩, h5⟩ := h
      exact pe_chnQ (cmp_ok g.kl g.un h1 true) (cmp_bool h1) (cmp_ok g.kl g.un h1' true) (cmp_bool h1') (sndE p g a tk h3 true) (sndE q g a tk h4 true) (sndE d g a tk h5 true) h2
    · cases h
  | .comp elt tg it t, X, sc, fb, W, e, g, a, tk, h, m => by
    unfold chkE at h
    split at h
    · rename_i x tx ix ifs az scope pos
      simp only [Bool.and_eq_true, decide_eq_true_eq] at h
      obtain ⟨⟨⟨⟨⟨⟨h0, h1⟩, h2⟩, h3⟩, h4⟩, h5⟩, h6⟩ := h
      subst h0
      have hb : BlkOk X.N X.env.scope scope (ownOf N tg.slots) := by rw [a.n, a.s]; exact blk_ok h2
      exact pe_compQ g.calm g.nd (sndI it g a tk h3 true) hb (own_snd N _) (fun s H C cl fp => sndG (X := X.blk s H scope (compEnvC scope cl C X.env) fp) g.calm g.nd (at_blk a s H scope C cl fp) tg tx h4) (fun s H C cl fp => sndTo t (g.blk s H scope _ fp) (at_blk a s H scope C cl fp) takes_no h5) (fun s H C cl fp => sndE elt (g.blk s H scope _ fp) (at_blk a s H scope C cl fp) takes_no h6 false) (folded_ok h1 _)
    · cases h
  | .comp2 elt tg it t tg' it' t', X, sc, fb, W, e, g, a, tk, h, m => by
    unfold chkE at h
    split at h
    · rename_i x tx ix ifs az tx' ix' ifs' az' scope pos
      simp only [Bool.and_eq_true, decide_eq_true_eq] at h
      obtain ⟨⟨⟨⟨⟨⟨⟨⟨⟨⟨⟨h0, h0'⟩, h1⟩, h1'⟩, h2⟩, h3⟩, h4⟩, h5⟩, h6⟩, h7⟩, h8⟩, h9⟩ := h
      subst h0 h0'
      have hb : BlkOk X.N X.env.scope scope (ownOf N (tg.slots ++ tg'.slots)) := by rw [a.n, a.s]; exact blk_ok h2
      exact pe_comp2Q g.calm g.nd (sndI it g a tk h3 true) hb (own_snd N _) (fun s H C cl fp => sndG (X := X.blk s H scope (compEnvC scope cl C X.env) fp) g.calm g.nd (at_blk a s H scope C cl fp) tg tx h4) (fun s H C cl fp => sndTo t (g.blk s H scope _ fp) (at_blk a s H scope C cl fp) takes_no h5) (fun s H C cl fp => sndI it' (g.blk s H scope _ fp) (at_blk a s H scope C cl fp) takes_no h6 false) (fun s H C cl fp => sndG (X := X.blk s H scope (compEnvC scope cl C X.env) fp) g.calm g.nd (at_blk a s H scope C cl fp) tg' tx' h7) (fun s H C cl fp => sndTo t' (g.blk s H scope _ fp) (at_blk a s H scope C cl fp) takes_no h8) (fun s H C cl fp => sndE elt (g.blk s H scope _ fp) (at_blk a s H scope C cl fp) takes_no h9 false) (folded_ok h1 _) (fun env => folded_ok h1' env)
    · cases h
  | .dcomp ik iv tg it t, X, sc, fb, W, e, g, a, tk, h, m => by
    unfold chkE at h
    split at h
    · rw [isD0_ok h]
      exact pe_dict0Q
    · rename_i kx vx tx ix ifs az scope pos
      simp only [Bool.and_eq_true, decide_eq_true_eq] at h
      obtain ⟨⟨⟨⟨⟨⟨⟨h0, h1⟩, h2⟩, h3⟩, h4⟩, h5⟩, h6⟩, h7⟩ := h
      subst h0
      have hb : BlkOk X.N X.env.scope scope (ownOf N tg.slots) := by rw [a.n, a.s]; exact blk_ok h2
      exact pe_dcompQ g.un g.calm g.nd (sndI it g a tk h3 true) hb (own_snd N _) (fun s H C cl fp => sndG (X := X.blk s H scope (compEnvC scope cl C X.env) fp) g.calm g.nd (at_blk a s H scope C cl fp) tg tx h4) (fun s H C cl fp => sndTo t (g.blk s H scope _ fp) (at_blk a s H scope C cl fp) takes_no h5) (fun s H C cl fp => sndE ik (g.blk s H scope _ fp) (at_blk a s H scope C cl fp) takes_no h6 false) (fun s H C cl fp => sndE iv (g.blk s H scope _ fp) (at_blk a s H scope C cl fp) takes_no h7 false) (folded_ok h1 _)
    · cases h
theorem sndEs : ∀ (es : Es) {X : Cx} {sc : Scope} {fb : Str → Bool} {W : WX} {l : List Expr}, Gd L xc k X → At X N sc fb → Takes X W → chkEs L N es sc fb l = true → ∀ m, PEs X (L.ctx k) xc W m l es
  | .nil, X, sc, fb, W, l, g, a, tk, h, m => by
    unfold chkEs at h
    split at h
    · exact .nil
    · cases h
  | .cons e es, X, sc, fb, W, l, g, a, tk, h, m => by
    unfold chkEs at h
    split at h
    · simp only [Bool.and_eq_true] at h
      exact .cons (sndE e g a tk h.1 m) (sndEs es g a tk h.2 m)
    · cases h
theorem sndT : ∀ (t : T) {X : Cx} {sc : Scope} {fb : Str → Bool} {W : WX} {e : Expr}, Gd L xc k X → At X N sc fb → Takes X W → chkT L N t sc fb e = true → PT X e (tT (L.ctx k) xc W X.kw t) ∧ ∀ op l pos, e = .BoolOp op l pos → PW X e (tT (L.ctx k) xc W X.kw t)
  | .e p, X, sc, fb, W, e, g, a, tk, h => by
    unfold chkT at h
    simp only [Bool.and_eq_true] at h
    refine ⟨pt_eQ h.1 (sndE p g a tk h.2 true), fun op l pos he => ?_⟩
    subst he
    exact absurd h.1 Bool.false_ne_true
  | .cmp o p q, X, sc, fb, W, e, g, a, tk, h => by
    unfold chkT at h
    split at h
    · simp only [Bool.and_eq_true, Bool.not_eq_true'] at h
      obtain ⟨⟨⟨h1, h2⟩, h3⟩, h4⟩ := h
      exact ⟨pt_cmpQ (cmp_ok g.kl g.un h1 true) (cmp_bool h1) (sndE p g a tk h3 true) (sndE q g a tk h4 true) h2, fun op l pos he => nomatch he⟩
    · cases h
  | .chn o o' p q d, X, sc, fb, W, e, g, a, tk, h => by
    unfold chkT at h
    split at h
    · simp only [Bool.and_eq_true, Bool.not_eq_true'] at h
      obtain ⟨⟨⟨⟨⟨h1, h1'⟩, h2⟩, h3⟩, h4⟩, h5⟩ := h
      exact ⟨pt_chnQ (cmp_ok g.kl g.un h1 true) (cmp_bool h1) (cmp_ok g.kl g.un h1' true) (cmp_bool h1') (sndE p g a tk h3 true) (sndE q g a tk h4 true) (sndE d g a tk h5 true) h2, fun op l pos he => nomatch he⟩
    · cases h
  | .not t, X, sc, fb, W, e, g, a, tk, h => by
    unfold chkT at h
    split at h
    · exact ⟨pt_notQ (sndT t g a tk h).1, fun op l pos he => nomatch he⟩
    · cases h
  | .and t u, X, sc, fb, W, e, g, a, tk, h => by
    unfold chkT at h
    split at h
    · simp only [Bool.and_eq_true] at h
      have := pw_andQ (pos := by assumption) (sndT t g a tk h.1).1 ((sndT u g a tk h.2).2 _ _ _ rfl)
      exact ⟨this.pt, fun op l pos he => this⟩
    · cases h
  | .or t u, X, sc, fb, W, e, g, a, tk, h => by
    unfold chkT at h
    split at h
    · simp only [Bool.and_eq_true] at h
      have := pw_orQ (pos := by assumption) (sndT t g a tk h.1).1 ((sndT u g a tk h.2).2 _ _ _ rfl)
      exact ⟨this.pt, fun op l pos he => this⟩
    · cases h
  | .one t, X, sc, fb, W, e, g, a, tk, h => by
    unfold chkT at h
    split at h
    · rename_i op x pos
      have := pw_oneQ (pos := pos) (op := op) (sndT t g a tk h).1
      exact ⟨this.pt, fun op l pos he => this⟩
    · cases h
theorem sndTo : ∀ (t : Option T) {X : Cx} {sc : Scope} {fb : Str → Bool} {W : WX} {l : List Expr}, Gd L xc k X → At X N sc fb → Takes X W → chkTo L N t sc fb l = true → PTs X l (tTo (L.ctx k) xc W X.kw t)
  | none, X, sc, fb, W, l, g, a, tk, h => by
    unfold chkTo at h
    split at h
    · exact pts_nQ
    · cases h
  | some t, X, sc, fb, W, l, g, a, tk, h => by
    unfold chkTo at h
    split at h
    · exact pts_oQ (sndT t g a tk h).1
    · cases h
theorem sndI : ∀ (it : I) {X : Cx} {sc : Scope} {fb : Str → Bool} {W : WX} {tg e : Expr}, Gd L xc k X → At X N sc fb → Takes X W → chkI L N it sc fb tg e = true → ∀ m, PI X tg e (tI (L.ctx k) xc W X.kw it m)
  | .e p, X, sc, fb, W, tg, e, g, a, tk, h, m => by
    unfold chkI at h
    exact pi_eQ (sndE p g a tk h m)
  | .rng es, X, sc, fb, W, tg, e, g, a, tk, h, m => by
    unfold chkI at h
    split at h
    · rename_i x p l pos
      simp only [Bool.and_eq_true, decide_eq_true_eq, Bool.or_eq_true] at h
      obtain ⟨⟨⟨⟨rfl, h2⟩, h3⟩, h4⟩, h5⟩ := h
      have hp := sndEs es g a tk h5 true
      rcases h3 with h3 | h3
      · obtain ⟨y, rfl⟩ : ∃ y, l = [y] := by match l, h3 with | [y], _ => exact ⟨y, rfl⟩
        obtain ⟨ia, rfl, ha⟩ := pes1 hp
        exact pi_rng1Q (gl_ok a h2) (g.bt _ (by decide +kernel)) (by simpa using h4) ha
      · obtain ⟨y, z, rfl⟩ : ∃ y z, l = [y, z] := by match l, h3 with | [y, z], _ => exact ⟨y, z, rfl⟩
        obtain ⟨ia, ib, rfl, ha, hb⟩ := pes2 hp
        simp only [List.all_cons, List.all_nil, Bool.and_eq_true] at h4
        exact pi_rng2Q (gl_ok a h2) (g.bt _ (by decide +kernel)) h4.1 h4.2.1 ha hb
    · cases h
  | .zip es, X, sc, fb, W, tg, e, g, a, tk, h, m => by
    unfold chkI at h
    split at h
    · rename_i x p l pos
      simp only [Bool.and_eq_true, decide_eq_true_eq] at h
      obtain ⟨⟨⟨⟨⟨rfl, h2⟩, ht⟩, h3⟩, h4⟩, h5⟩ := h
      have hp := sndEs es g a tk h5 m
      obtain ⟨y, z, rfl⟩ : ∃ y z, l = [y, z] := by match l, h3 with | [y, z], _ => exact ⟨y, z, rfl⟩
      obtain ⟨ia, ib, rfl, ha, hb⟩ := pes2 hp
      simp only [List.all_cons, List.all_nil, Bool.and_eq_true] at h4
      unfold isTup at ht
      split at ht
      · exact pi_zipQ (gl_ok a h2) (g.bt _ (by decide +kernel)) h4.1 h4.2.1 ha hb
      · cases ht
    · cases h
  | .enum p, X, sc, fb, W, tg, e, g, a, tk, h, m => by
    unfold chkI at h
    split at h
    · simp only [Bool.and_eq_true, decide_eq_true_eq] at h
      obtain ⟨⟨⟨⟨rfl, h2⟩, ht⟩, h3⟩, h4⟩ := h
      unfold isTup at ht
      split at ht
      · exact pi_enumQ (gl_ok a h2) (g.bt _ (by decide +kernel)) h3 (sndE p g a tk h4 m)
      · cases ht
    · cases h
  | .vals _, X, sc, fb, W, tg, e, g, a, tk, h, m => by unfold chkI at h; cases h
  | .items _, X, sc, fb, W, tg, e, g, a, tk, h, m => by unfold chkI at h; cases h
end
end
end Q
set_option Elab.async false
set_option linter.all false
set_option maxRecDepth 100000
/-! The check of statements and of functions. -/
namespace Q
open PySem PySem.W PySem.Spec L2
open PyProof.Rows hiding St

def isComp : Expr → Bool
  | .ListComp .. => true
  | .SetComp .. => true
  | .DictComp .. => true
  | _ => false
theorem swaps_no {e : Expr} {t : Option Expr} {n : Nat} {env : PySem.Env} (h : isComp e = false) : swapsWith e t n env = pure false := by
  cases e <;> first | rfl | exact absurd h.symm Bool.false_ne_true
theorem swaps_tup {e : Expr} {es : List Expr} {k : Nat} {p : Pos} {n : Nat} {env : PySem.Env} : swapsWith e (some (.Tuple es k p)) n env = pure false := by
  cases e <;> rfl
/-- whether a comprehension is stored at once -/
def swapB (sc : Scope) (x : Str) (pl cl : Nat) (scope : Scope) : Bool :=
  decide (lk sc x = some .local) && pl == cl && !scope.names.any fun y => y.1 == x && (y.2 == NameKind.local || y.2 == NameKind.cell)
theorem swaps_lc {e : Expr} {gs : List Comprehension} {scope : Scope} {pos p : Pos} {x : Str} {n : Nat} {env : PySem.Env} {sc : Scope} (hs : env.scope = sc) (hk : sc.kind = .function) : swapsWith (.ListComp e gs scope pos) (some (.Name x p)) n env = pure (swapB sc x p.line pos.line scope) := by
  have hb : env.blockKind = .function := by
    unfold Env.blockKind
    rw [hs, hk]
    rfl
  show pure (env.blockKind == ScopeKind.function && env.kindOf x == some NameKind.local && p.line == (Expr.ListComp e gs scope pos).pos.line && _) = _
  rw [hb]
  congr 1
  unfold swapB lk Env.kindOf
  rw [hs]
  have e1 : (List.lookup x sc.names == some NameKind.local) = decide (List.lookup x sc.names = some NameKind.local) := by
    cases h : List.lookup x sc.names with
    | none => rfl
    | some v => cases v <;> rfl
  rw [e1]
  rfl
theorem swaps_dc {kx vx : Expr} {gs : List Comprehension} {scope : Scope} {pos p : Pos} {x : Str} {n : Nat} {env : PySem.Env} {sc : Scope} (hs : env.scope = sc) (hk : sc.kind = .function) : swapsWith (.DictComp kx vx gs scope pos) (some (.Name x p)) n env = pure (swapB sc x p.line pos.line scope) := by
  have hb : env.blockKind = .function := by
    unfold Env.blockKind
    rw [hs, hk]
    rfl
  show pure (env.blockKind == ScopeKind.function && env.kindOf x == some NameKind.local && p.line == (Expr.DictComp kx vx gs scope pos).pos.line && _) = _
  rw [hb]
  congr 1
  unfold swapB lk Env.kindOf
  rw [hs]
  have e1 : (List.lookup x sc.names == some NameKind.local) = decide (List.lookup x sc.names = some NameKind.local) := by
    cases h : List.lookup x sc.names with
    | none => rfl
    | some v => cases v <;> rfl
  rw [e1]
  rfl
/-! parallel stores -/
def nameOf : Expr → Option Str
  | .Name x _ => some x
  | _ => none
def parNo (vs : List Expr) : Bool := vs.all (foldedForSure 8)
def parOk (vs : List Expr) : Bool := vs.all notStar && !vs.all (foldedForSure 8) && !vs.all (constantsAlone 8)
def swNo (sc : Scope) (ts vs : List Expr) : Bool := decide (ts.length ≠ 2 ∧ ts.length ≠ 3) || decide (vs.length ≠ ts.length) || vs.all (foldedForSure 8) || ts.any fun t => match t with
  | .Name x _ => decide (lk sc x ≠ some .local)
  | _ => true
def locB (sc : Scope) (fb : Str → Bool) (x : Str) : Bool := decide (lk sc x = some .local) || (decide (lk sc x = some .cell) && fb x)
/-! ### the check -/
def augO : Operator → Op → Bool
  | .Add, .add => true
  | .Sub, .sub => true
  | _, _ => false
def augX : Operator → Op → Bool
  | .Add, .add => true
  | .Sub, .sub => true
  | .FloorDiv, .fdiv => true
  | _, _ => false
/-- a name that is stored -/
def chkPG (N : List Str) (tg : Tg) (sc : Scope) (fb : Str → Bool) (y : Str) : Bool :=
  match tg with
  | .n i => decide (N[i]? = some y) && (lk sc y == some .local || (lk sc y == some .cell && fb y))
  | _ => false
def lcB (sc : Scope) (x : Str) (p : Pos) : Expr → Bool
  | .ListComp _ _ scope pos => swapB sc x p.line pos.line scope
  | _ => false
mutual
def chkS (L : Lw) (N : List Str) (sc : Scope) (fb : Str → Bool) : S → Stmt → Bool
  | .asg tg e, st => match st with
    | .Assign [tx] ex pos => match tg with
      | .n i => match tx with
        | .Name x p => decide (N[i]? = some x) && locB sc fb x && (match ex with
          | .ListComp _ _ _ _ => true
          | .DictComp _ _ _ _ _ => true
          | ex => !isComp ex) && chkE L N e sc fb ex
        | _ => false
      | .t l => (match tx with
        | .Tuple ts _ _ => (match ex with
          | .Tuple vs _ _ => swNo sc ts vs
          | _ => true)
        | _ => false) && chkG N (.t l) sc fb tx && chkE L N e sc fb ex
    | _ => false
  | .par is es, st => match st with
    | .Assign [.Tuple [.Name x px, .Name y py] _ _] (.Tuple [a, b] _ _) _ => match is with
      | [i, j] => decide (N[i]? = some x) && decide (N[j]? = some y) && decide (i ≠ j) && ((decide (x ≠ y) && decide (lk sc x = some .local) && decide (lk sc y = some .local) && decide (px.line = py.line) && parOk [a, b]) || (locB sc fb x && locB sc fb y && swNo sc [.Name x px, .Name y py] [a, b] && notStar a && notStar b)) && chkEs L N es sc fb [a, b]
      | _ => false
    | _ => false
  | .expr e, st => match st with
    | .Expr ex _ => !isComp ex && chkE L N e sc fb ex
    | _ => false
  | .app i e, st => match st with
    | .Expr (.Call (.Attribute (.Name x _) at_ apos) [a] [] cpos) _ => decide (at_ = "append") && decide (N[i]? = some x) && visB sc x && nmOk x && notStar a && (apos.endLine == cpos.line) && chkE L N e sc fb a
    | _ => false
  | .ext i e, st => match st with
    | .Expr (.Call (.Attribute (.Name x _) at_ apos) [a] [] cpos) _ => decide (at_ = "extend") && decide (N[i]? = some x) && visB sc x && nmOk x && notStar a && (apos.endLine == cpos.line) && chkE L N e sc fb a
    | _ => false
  | .pop i, st => match st with
    | .Expr (.Call (.Attribute (.Name x _) at_ apos) [] [] cpos) _ => decide (at_ = "pop") && decide (N[i]? = some x) && visB sc x && nmOk x && (apos.endLine == cpos.line)
    | _ => false
  | .popv tg i, st => match st with
    | .Assign [.Name y _] (.Call (.Attribute (.Name x _) at_ apos) [] [] cpos) _ => decide (at_ = "pop") && decide (N[i]? = some x) && visB sc x && nmOk x && (apos.endLine == cpos.line) && chkPG N tg sc fb y
    | _ => false
  | .seti i k e, st => match st with
    | .Assign [.Subscript (.Name x _) kx _] ex _ => decide (N[i]? = some x) && visB sc x && nmOk x && !isComp ex && chkE L N k sc fb kx && chkE L N e sc fb ex
    | _ => false
  | .dpop i k, st => match st with
    | .Expr (.Call (.Attribute (.Name x _) at_ apos) [kx] [] cpos) _ => decide (at_ = "pop") && decide (N[i]? = some x) && visB sc x && nmOk x && notStar kx && (apos.endLine == cpos.line) && chkE L N k sc fb kx
    | _ => false
  | .sort _, _ => false
  | .rem _ _, _ => false
  | .aug i o e, st => match st with
    | .AugAssign (.Name x _) bop ex _ => augX bop o && decide (N[i]? = some x) && locB sc fb x && notStar ex && chkE L N e sc fb ex
    | _ => false
  | .ret e, st => match st with
    | .Return (some ex) _ => (match e, ex with
      | .v i, .Name x _ => decide (N[i]? = some x) && visB sc x && nmOk x
      | .v _, _ => false
      | e, ex => chkE L N e sc fb ex)
    | _ => false
  | .retn, st => match st with
    | .Return none _ => true
    | _ => false
  | .ifs t p q, st => match st with
    | .If c a b _ => chkT L N t sc fb c && chkSs L N sc fb p a && chkSs L N sc fb q b
    | _ => false
  | .for tg it body w, st => match st with
    | .For tx ix b [] _ => notSet ix && chkG N tg sc fb tx && chkI L N it sc fb tx ix && chkSs L N sc fb body b
    | _ => false
  | .while t body w, st => match st with
    | .While c b [] _ => chkT L N t sc fb c && chkSs L N sc fb body b
    | _ => false
  | .raise n, st => match st with
    | .Raise (some (.Call (.Name x _) [.Constant (.str _) _ _] [] _)) none _ => decide (L.exn[n]? = some x) && glB sc x
    | _ => false
  | .try body hs, st => match st with
    | .Try b (c1 :: cl) [] [] _ => chkSs L N sc fb body b && chkHs L N sc hs (c1 :: cl)
    | _ => false
  | .frz _, _ => false
  | .mov i j, st => match st with
    | .Assign [.Name x _] (.Name y _) _ => decide (N[i]? = some x) && decide (N[j]? = some y) && decide (i ≠ j) && locB sc fb x && visB sc y && nmOk y
    | _ => false
  | .brk, st => match st with
    | .Break _ => true
    | _ => false
  | .cont, st => match st with
    | .Continue _ => true
    | _ => false
  | .pass, st => match st with
    | .Pass _ => true
    | _ => false
  | .halt, _ => false
  | .augi i k o e, st => match st with
    | .AugAssign (.Subscript (.Name x _) (.Name y py) _) bop ex _ => augO bop o && decide (N[i]? = some x) && visB sc x && nmOk x && notStar ex && chkE L N k sc fb (.Name y py) && chkE L N e sc fb ex
    | _ => false
  | .asgd i e, st => match st with
    | .Assign [.Name x p] ex pos => decide (N[i]? = some x) && locB sc fb x && (match e, ex with
      | .comp (.call _ (.cons _ _)) _ _ none, .ListComp _ _ _ _ => true
      | _, _ => false) && chkE L N e sc fb ex
    | _ => false
  | .ifd t a b, st => match st with
    | .If te la lb _ => chkT L N t sc fb te && chkSs L N sc fb a la && chkSs L N sc fb b lb
    | _ => false
  | .augd i ia k o e, st => match st with
    | .AugAssign (.Subscript (.Subscript (.Name x _) (.Name z pz) _) (.Subscript (.Name y py) (.Name y2 py2) ps2) _) bop ex _ => augO bop o && decide (N[i]? = some x) && visB sc x && nmOk x && notStar ex && chkE L N ia sc fb (.Name z pz) && chkE L N k sc fb (.Subscript (.Name y py) (.Name y2 py2) ps2) && chkE L N e sc fb ex
    | _ => false
def chkSs (L : Lw) (N : List Str) (sc : Scope) (fb : Str → Bool) : Ss → List Stmt → Bool
  | .nil, l => match l with
    | [] => true
    | _ => false
  | .cons s ss, l => match s with
    | .frz _ => chkSs L N sc fb ss l
    | .halt => true
    | s => match l with
      | st :: l => chkS L N sc fb s st && chkSs L N sc fb ss l
      | [] => false
end
section
variable {L : Lw} {xc : Nat → Value} {k : Nat} {N : List Str} {X : Cx} {sc : Scope} {fb : Str → Bool} {W : WX}
theorem lk_local (a : At X N sc fb) {x : Str} (h : lk sc x = some .local) : X.env.scope.names.lookup x = some .local := by
  rw [a.s]; exact h
theorem loc_ok (a : At X N sc fb) {x : Str} (h : locB sc fb x = true) : Loc X.env.scope x ∧ (X.fn x = true ∨ X.env.scope.names.lookup x = some .local) := by
  unfold locB at h
  simp only [Bool.or_eq_true, Bool.and_eq_true, decide_eq_true_eq] at h
  rw [a.s]
  rcases h with h | ⟨h, h'⟩
  · exact ⟨.inl h, .inr h⟩
  · exact ⟨.inr h, .inl (a.f x h')⟩
theorem filter_len {α β : Type} {f : α → Option β} : ∀ {l : List α}, (l.filterMap f).length ≤ l.length ∧ ((∃ t ∈ l, f t = none) → (l.filterMap f).length ≠ l.length)
  | [] => ⟨Nat.le_refl _, fun ⟨t, ht, _⟩ => absurd ht List.not_mem_nil⟩
  | x :: l => by
    obtain ⟨h1, h2⟩ := filter_len (f := f) (l := l)
    cases e : f x with
    | none =>
      rw [List.filterMap_cons_none e, List.length_cons]
      exact ⟨by omega, fun _ => by omega⟩
    | some y =>
      rw [List.filterMap_cons_some e, List.length_cons, List.length_cons]
      refine ⟨by omega, fun ⟨t, ht, hn⟩ => ?_⟩
      rcases List.mem_cons.mp ht with rfl | ht
      · rw [e] at hn; cases hn
      · have := h2 ⟨t, ht, hn⟩
        omega
theorem par_ok (a : At X N sc fb) (hk : sc.kind = .function) {x y : Str} {px py pt pt2 : Pos} {kt k2 : Nat} {p q : Expr} (hx : lk sc x = some .local) (hy : lk sc y = some .local) (hxy : x ≠ y) (hl : px.line = py.line) (h : parOk [p, q] = true) :
    swappedStores [.Tuple [.Name x px, .Name y py] kt pt] (.Tuple [p, q] k2 pt2) X.env = pure (some [x, y]) := by
  unfold parOk at h
  simp only [Bool.and_eq_true, Bool.not_eq_true'] at h
  obtain ⟨⟨h1, h2⟩, h3⟩ := h
  have hb : X.env.blockKind = .function := by
    unfold Env.blockKind
    rw [a.s, hk]
    rfl
  have kx : X.env.kindOf x = some .local := by
    unfold Env.kindOf; rw [a.s]; exact hx
  have ky : X.env.kindOf y = some .local := by
    unfold Env.kindOf; rw [a.s]; exact hy
  have hstar : ([p, q].any fun x => match x with | .Starred value pos => true | x => false) = false := by
    simp only [List.all_cons, List.all_nil, Bool.and_true, Bool.and_eq_true] at h1
    have g : ∀ z, notStar z = true → (match z with | .Starred value pos => true | x => false) = false := fun z hz => by
      cases z <;> first | rfl | exact absurd hz Bool.false_ne_true
    simp only [List.any_cons, List.any_nil, Bool.or_false]
    rw [g p h1.1, g q h1.2]
    rfl
  unfold swappedStores
  have e1 : ([Expr.Name x px, Expr.Name y py].filterMap fun z => match z with
      | .Name id pos => if (X.env.kindOf id == some NameKind.local && pos.line == (Option.map (fun x => x.pos.line) [Expr.Name x px, Expr.Name y py].head?).getD 0) = true then some id else none
      | _ => none) = [x, y] := by
    simp [kx, ky, Expr.pos, hl]
  simp only [hb, hstar]
  have e2 : ([x, y].eraseDups).length = 2 := by
    simp [List.eraseDups_cons, hxy.symm, Ne.symm hxy, hxy]
  simp [e1, e2, h2, h3, Expr.pos, kx, ky, hl, hxy, Ne.symm hxy, List.eraseDups_cons]
  simp only [List.all_cons, List.all_nil, Bool.and_true, Bool.and_eq_true] at h1
  rintro (h | h)
  · exfalso
    cases p <;> first | exact absurd h1.1 Bool.false_ne_true | cases h
  · exfalso
    cases q <;> first | exact absurd h1.2 Bool.false_ne_true | cases h
theorem swapped_no (a : At X N sc fb) {tx ex : Expr} (h : (match tx, ex with | .Tuple ts _ _, .Tuple vs _ _ => swNo sc ts vs | .List .., _ => false | _, _ => true) = true) : swappedStores [tx] ex X.env = pure none := by
  cases tx with
  | Tuple ts k p =>
    cases ex with
    | Tuple vs k' p' =>
      have h' : swNo sc ts vs = true := h
      unfold swNo at h'
      simp only [Bool.or_eq_true, decide_eq_true_eq] at h'
      unfold swappedStores
      dsimp only
      split
      · rfl
      · rename_i h1
        split
        · rfl
        · split
          · rfl
          · rename_i h3
            split
            · rfl
            · rename_i h4
              exfalso
              rcases h' with ((h' | h') | h') | h'
              · exact h1 (by simp [h'.1, h'.2])
              · exact h1 (by simp [h'])
              · exact h4 h'
              · apply h3
                rw [List.any_eq_true] at h'
                obtain ⟨t, ht, hn⟩ := h'
                have := (filter_len (f := fun x : Expr => match x with
                  | .Name id pos => if (X.env.kindOf id == some NameKind.local && pos.line == (Option.map (fun x => x.pos.line) ts.head?).getD 0) = true then some id else none
                  | x => none) (l := ts)).2 ⟨t, ht, by
                    cases t with
                    | Name x p =>
                      have hk : lk sc x ≠ some .local := of_decide_eq_true hn
                      have : (X.env.kindOf x == some NameKind.local) = false := by
                        have e : X.env.kindOf x = lk sc x := by unfold Env.kindOf lk; rw [a.s]
                        rw [e]
                        cases hq : lk sc x with
                        | none => rfl
                        | some v => cases v <;> first | rfl | exact absurd hq hk
                      dsimp only
                      rw [this]
                      rfl
                    | _ => rfl⟩
                rw [Bool.or_eq_true]
                exact .inl (bne_iff_ne.mpr this)
    | _ => rfl
  | List ts p => exact absurd h Bool.false_ne_true
  | _ => rfl
theorem swapsSole_tup {e : Expr} {es : List Expr} {k : Nat} {p : Pos} {n : Nat} {env : PySem.Env} : swapsWithSole [.Tuple es k p] e n env = pure false := by
  cases e <;> rfl
mutual
theorem sndS (hk : sc.kind = .function) : ∀ (s : S) {X : Cx} {W : WX} (g : Gd L xc k X) (a : At X N sc fb) (tk : Takes X W) (po : PassesOwn (model X.prog X.w) X.A X.env X.xe) (hst : X.stack = X.env :: X.outer) (hfr : X.env.frame = some X.env.locals) (st : Stmt), chkS L N sc fb s st = true → PS X st (tS (L.ctx k) xc W X.kw s)
  | .asg tg e, X, W, g, a, tk, po, hst, hfr, st, h => by
    unfold chkS at h
    split at h
    · rename_i tx ex pos
      split at h
      · rename_i i
        split at h
        · rename_i x p
          simp only [Bool.and_eq_true, decide_eq_true_eq] at h
          obtain ⟨⟨⟨h1, h2⟩, h3⟩, h4⟩ := h
          have he := sndE e g a tk h4 false
          split at h3
          · rename_i elt gs scope lp
            obtain ⟨hl1, hl2⟩ := loc_ok a h2
            have hsw := swaps_lc (e := elt) (gs := gs) (scope := scope) (pos := lp) (p := p) (x := x) (n := pos.line) (env := X.env) a.s hk
            cases hb : swapB sc x p.line lp.line scope with
            | false =>
              rw [hb] at hsw
              exact ps_asgQ g.nd (by rw [a.n]; exact h1) hl1 hl2 he hsw
            | true =>
              have hloc : lk sc x = some .local := by
                unfold swapB at hb
                simp only [Bool.and_eq_true, decide_eq_true_eq] at hb
                exact hb.1.1
              rw [hb] at hsw
              cases e with
              | comp elt' tg' it t =>
                unfold chkE at h4
                split at h4
                · rename_i x' tx ix ifs az scope' pos' heq
                  cases heq
                  simp only [Bool.and_eq_true, decide_eq_true_eq] at h4
                  obtain ⟨⟨⟨⟨⟨⟨h0, h1'⟩, h2'⟩, h3'⟩, h4'⟩, h5⟩, h6⟩ := h4
                  subst h0
                  have hbk : BlkOk X.N X.env.scope scope (ownOf N tg'.slots) := by rw [a.n, a.s]; exact blk_ok h2'
                  exact impS (ps_setLc g.calm g.nd (by rw [a.n]; exact h1) (lk_local a hloc) hsw (sndI it g a tk h3' true) hbk (fun s H C cl fp => sndG (X := X.blk s H scope (compEnvC scope cl C X.env) fp) g.calm g.nd (at_blk a s H scope C cl fp) tg' tx h4') (fun s H C cl fp => sndTo t (g.blk s H scope _ fp) (at_blk a s H scope C cl fp) takes_no h5) (fun s H C cl fp => sndE elt' (g.blk s H scope _ fp) (at_blk a s H scope C cl fp) takes_no h6 false) (folded_ok h1' _)) fun D σ H h => comp_read (own_snd N _) (asg_name h)
                · cases h4
              | comp2 elt' tg' it t tg2 it2 t2 =>
                unfold chkE at h4
                split at h4
                · rename_i x' tx ix ifs az tx' ix' ifs' az' scope' pos' heq
                  cases heq
                  simp only [Bool.and_eq_true, decide_eq_true_eq] at h4
                  obtain ⟨⟨⟨⟨⟨⟨⟨⟨⟨⟨⟨h0, h0'⟩, h1'⟩, h1''⟩, h2'⟩, h3'⟩, h4'⟩, h5⟩, h6⟩, h7⟩, h8⟩, h9⟩ := h4
                  subst h0 h0'
                  have hbk : BlkOk X.N X.env.scope scope (ownOf N (tg'.slots ++ tg2.slots)) := by rw [a.n, a.s]; exact blk_ok h2'
                  exact impS (ps_setLc2 (vs1 := tg2.slots) g.calm g.nd (by rw [a.n]; exact h1) (lk_local a hloc) hsw (sndI it g a tk h3' true) hbk (fun i hi => by rw [own_snd]; exact List.mem_append_right _ hi) (fun s H C cl fp => sndG (X := X.blk s H scope (compEnvC scope cl C X.env) fp) g.calm g.nd (at_blk a s H scope C cl fp) tg' tx h4') (fun s H C cl fp => sndTo t (g.blk s H scope _ fp) (at_blk a s H scope C cl fp) takes_no h5) (fun s H C cl fp => sndI it2 (g.blk s H scope _ fp) (at_blk a s H scope C cl fp) takes_no h6 false) (fun s H C cl fp => sndG (X := X.blk s H scope (compEnvC scope cl C X.env) fp) g.calm g.nd (at_blk a s H scope C cl fp) tg2 tx' h7) (fun s H C cl fp => sndTo t2 (g.blk s H scope _ fp) (at_blk a s H scope C cl fp) takes_no h8) (fun s H C cl fp => sndE elt' (g.blk s H scope _ fp) (at_blk a s H scope C cl fp) takes_no h9 false) (folded_ok h1' _) (fun env => folded_ok h1'' env)) fun D σ H h => comp2_read (own_snd N _) rfl (asg_name h)
                · cases h4
              | op o es =>
                exfalso
                unfold chkE at h4
                simp only [parts] at h4
                exact absurd h4 Bool.false_ne_true
              | _ => exfalso; unfold chkE at h4; exact absurd h4 Bool.false_ne_true
          · rename_i kx vx gs scope lp
            obtain ⟨hl1, hl2⟩ := loc_ok a h2
            have hsw := swaps_dc (kx := kx) (vx := vx) (gs := gs) (scope := scope) (pos := lp) (p := p) (x := x) (n := pos.line) (env := X.env) a.s hk
            cases hb : swapB sc x p.line lp.line scope with
            | false =>
              rw [hb] at hsw
              exact ps_asgQ g.nd (by rw [a.n]; exact h1) hl1 hl2 he hsw
            | true =>
              have hloc : lk sc x = some .local := by
                unfold swapB at hb
                simp only [Bool.and_eq_true, decide_eq_true_eq] at hb
                exact hb.1.1
              rw [hb] at hsw
              cases e with
              | dcomp ik iv tg' it t =>
                unfold chkE at h4
                split at h4
                · rename_i heq; cases heq
                · rename_i kx' vx' tx ix ifs az scope' pos' heq
                  cases heq
                  simp only [Bool.and_eq_true, decide_eq_true_eq] at h4
                  obtain ⟨⟨⟨⟨⟨⟨⟨h0, h1'⟩, h2'⟩, h3'⟩, h4'⟩, h5⟩, h6⟩, h7⟩ := h4
                  subst h0
                  have hbk : BlkOk X.N X.env.scope scope (ownOf N tg'.slots) := by rw [a.n, a.s]; exact blk_ok h2'
                  exact impS (ps_setDx g.un g.calm g.nd (by rw [a.n]; exact h1) (lk_local a hloc) hsw (sndI it g a tk h3' true) hbk (fun s H C cl fp => sndG (X := X.blk s H scope (compEnvC scope cl C X.env) fp) g.calm g.nd (at_blk a s H scope C cl fp) tg' tx h4') (fun s H C cl fp => sndTo t (g.blk s H scope _ fp) (at_blk a s H scope C cl fp) takes_no h5) (fun s H C cl fp => sndE ik (g.blk s H scope _ fp) (at_blk a s H scope C cl fp) takes_no h6 false) (fun s H C cl fp => sndE iv (g.blk s H scope _ fp) (at_blk a s H scope C cl fp) takes_no h7 false) (folded_ok h1' _)) fun D σ H h => dcomp_read (own_snd N _) (asg_name h)
                · cases h4
              | op o es =>
                exfalso
                unfold chkE at h4
                simp only [parts] at h4
                exact absurd h4 Bool.false_ne_true
              | _ => exfalso; unfold chkE at h4; exact absurd h4 Bool.false_ne_true
          · rename_i ex' hnl hnd
            simp only [Bool.not_eq_true'] at h3
            exact ps_asgQ g.nd (by rw [a.n]; exact h1) (loc_ok a h2).1 (loc_ok a h2).2 he (swaps_no h3)
        · cases h
      · rename_i l
        simp only [Bool.and_eq_true] at h
        obtain ⟨⟨h1, h2⟩, h3⟩ := h
        split at h1
        · rename_i ts kk pp
          refine ps_asgT (sndE e g a tk h3 false) (sndG g.calm g.nd a (.t l) _ h2) (fun i hh => nomatch hh) swapsSole_tup (swapped_no a ?_) (by rw [assign_cons rfl]; rfl)
          split at h1
          · exact h1
          · rename_i hnt
            split
            · rename_i heq _
              cases heq
              exact absurd rfl (hnt _ _ _)
            · rename_i heq; cases heq
            · rfl
        · cases h1
    · cases h
  | .par is es, X, W, g, a, tk, po, hst, hfr, st, h => by
    unfold chkS at h
    split at h
    · rename_i x px y py kt pt p q k2 pt2 pos
      split at h
      · rename_i i j
        simp only [Bool.and_eq_true, decide_eq_true_eq] at h
        obtain ⟨⟨⟨⟨h1, h2⟩, h3⟩, hor⟩, h9⟩ := h
        obtain ⟨ip, iq, rfl, hp, hq⟩ := pes2 (sndEs es g a tk h9 false)
        rw [Bool.or_eq_true] at hor
        rcases hor with hor | hor
        rotate_left
        · simp only [Bool.and_eq_true] at hor
          obtain ⟨⟨⟨⟨q1, q2⟩, q3⟩, q4⟩, q5⟩ := hor
          exact ps_parT g.calm g.nd (by rw [a.n]; exact h1) (by rw [a.n]; exact h2) h3 (loc_ok a q1).1 (loc_ok a q1).2 (loc_ok a q2).1 (loc_ok a q2).2 q4 q5 hp hq (swapped_no a (tx := .Tuple [.Name x px, .Name y py] _ _) (ex := .Tuple [_, _] _ _) q3) swapsSole_tup (by rw [assign_cons rfl]; rfl)
        simp only [Bool.and_eq_true, decide_eq_true_eq] at hor
        obtain ⟨⟨⟨⟨h4, h5⟩, h6⟩, h7⟩, h8⟩ := hor
        have hst := h8
        unfold parOk at hst
        simp only [List.all_cons, List.all_nil, Bool.and_true, Bool.and_eq_true] at hst
        exact ps_parQ g.calm g.nd (by rw [a.n]; exact h1) (by rw [a.n]; exact h2) h3 (lk_local a h5) (lk_local a h6) hst.1.1.1 hst.1.1.2 hp hq (par_ok a hk h5 h6 h4 h7 h8) swapsSole_tup
      · cases h
    · cases h
  | .expr e, X, W, g, a, tk, po, hst, hfr, st, h => by
    unfold chkS at h
    split at h
    · simp only [Bool.and_eq_true, Bool.not_eq_true'] at h
      exact ps_exprQ (sndE e g a tk h.2 true) (swaps_no h.1)
    · cases h
  | .app i e, X, W, g, a, tk, po, hst, hfr, st, h => by
    unfold chkS at h
    split at h
    · simp only [Bool.and_eq_true, decide_eq_true_eq] at h
      obtain ⟨⟨⟨⟨⟨⟨rfl, h1⟩, h2⟩, h3⟩, h4⟩, h5⟩, h6⟩ := h
      exact ps_appQ (by rw [a.n]; exact h1) (vis_ok a h2) (nm1 h3) (nm2 h3) h4 (sndE e g a tk h6 false) h5
    · cases h
  | .ext i e, X, W, g, a, tk, po, hst, hfr, st, h => by
    unfold chkS at h
    split at h
    · simp only [Bool.and_eq_true, decide_eq_true_eq] at h
      obtain ⟨⟨⟨⟨⟨⟨rfl, h1⟩, h2⟩, h3⟩, h4⟩, h5⟩, h6⟩ := h
      exact ps_extQ (by rw [a.n]; exact h1) (vis_ok a h2) (nm1 h3) (nm2 h3) h4 (sndE e g a tk h6 false) h5
    · cases h
  | .pop i, X, W, g, a, tk, po, hst, hfr, st, h => by
    unfold chkS at h
    split at h
    · simp only [Bool.and_eq_true, decide_eq_true_eq] at h
      obtain ⟨⟨⟨⟨rfl, h1⟩, h2⟩, h3⟩, h4⟩ := h
      exact ps_popQ (by rw [a.n]; exact h1) (vis_ok a h2) (nm1 h3) (nm2 h3) h4
    · cases h
  | .popv tg i, X, W, g, a, tk, po, hst, hfr, st, h => by
    unfold chkS at h
    split at h
    · rename_i y py x px at_ apos cpos pos
      simp only [Bool.and_eq_true, decide_eq_true_eq] at h
      obtain ⟨⟨⟨⟨⟨rfl, h1⟩, h2⟩, h3⟩, h4⟩, h5⟩ := h
      have hg : chkG N tg sc fb (.Name y py) = true := by
        unfold chkPG at h5
        split at h5
        · unfold chkG; exact h5
        · cases h5
      exact ps_popvQ (by rw [a.n]; exact h1) (vis_ok a h2) (nm1 h3) (nm2 h3) h4 (sndG g.calm g.nd a tg _ hg) rfl rfl (by rw [assign_cons rfl]; rfl)
    · cases h
  | .seti i ik ie, X, W, g, a, tk, po, hst, hfr, st, h => by
    unfold chkS at h
    split at h
    · simp only [Bool.and_eq_true, decide_eq_true_eq, Bool.not_eq_true'] at h
      obtain ⟨⟨⟨⟨⟨h1, h2⟩, h3⟩, h4⟩, h5⟩, h6⟩ := h
      exact ps_setiQ g.un (by rw [a.n]; exact h1) (vis_ok a h2) (nm1 h3) (nm2 h3) (sndE ik g a tk h5 false) (sndE ie g a tk h6 false) (swaps_no h4)
    · cases h
  | .dpop i ik, X, W, g, a, tk, po, hst, hfr, st, h => by
    unfold chkS at h
    split at h
    · simp only [Bool.and_eq_true, decide_eq_true_eq] at h
      obtain ⟨⟨⟨⟨⟨⟨rfl, h1⟩, h2⟩, h3⟩, h4⟩, h5⟩, h6⟩ := h
      exact ps_dpopQ g.un (by rw [a.n]; exact h1) (vis_ok a h2) (nm1 h3) (nm2 h3) (sndE ik g a tk h6 false) ⟨rfl, by rw [star_cons h4]; rfl, h5, by rw [star_cons h4]; rfl⟩
    · cases h
  | .sort _, X, W, g, a, tk, po, hst, hfr, st, h => by unfold chkS at h; cases h
  | .rem _ _, X, W, g, a, tk, po, hst, hfr, st, h => by unfold chkS at h; cases h
  | .aug i o e, X, W, g, a, tk, po, hst, hfr, st, h => by
    unfold chkS at h
    split at h
    · simp only [Bool.and_eq_true, decide_eq_true_eq] at h
      obtain ⟨⟨⟨⟨h0, h1⟩, h2⟩, h3⟩, h4⟩ := h
      unfold augX at h0
      split at h0
      · exact ps_augQ g.nd (by rw [a.n]; exact h1) (loc_ok a h2).1 (loc_ok a h2).2 h3 (sndE e g a tk h4 false) (ip_addQ (X := X)).1 (ip_addQ (X := X)).2
      · exact ps_augQ g.nd (by rw [a.n]; exact h1) (loc_ok a h2).1 (loc_ok a h2).2 h3 (sndE e g a tk h4 false) (ip_subQ (X := X)).1 (ip_subQ (X := X)).2
      · exact ps_augQ g.nd (by rw [a.n]; exact h1) (loc_ok a h2).1 (loc_ok a h2).2 h3 (sndE e g a tk h4 false) (ip_fdivQ (X := X)).1 (ip_fdivQ (X := X)).2
      · cases h0
    · cases h
  | .ret e, X, W, g, a, tk, po, hst, hfr, st, h => by
    unfold chkS at h
    split at h
    · rename_i ex pos
      split at h
      · simp only [Bool.and_eq_true, decide_eq_true_eq] at h
        exact ps_retV (by rw [a.n]; exact h.1.1) (vis_ok a h.1.2) (nm1 h.2) (nm2 h.2)
      · cases h
      · rename_i hn1 hn2
        refine ps_retQ (sndE e g a tk h false) ?_
        cases e <;> first | rfl | exact (hn1 _ rfl).elim | exact (hn2 _ rfl).elim
    · cases h
  | .retn, X, W, g, a, tk, po, hst, hfr, st, h => by
    unfold chkS at h
    split at h
    · exact ps_retnQ
    · cases h
  | .ifs t p q, X, W, g, a, tk, po, hst, hfr, st, h => by
    unfold chkS at h
    split at h
    · simp only [Bool.and_eq_true] at h
      exact ps_ifQ (sndT t g a tk h.1.1).1 (sndSs hk p g a tk po hst hfr _ h.1.2) (sndSs hk q g a tk po hst hfr _ h.2)
    · cases h
  | .for tg it body w, X, W, g, a, tk, po, hst, hfr, st, h => by
    unfold chkS at h
    split at h
    · simp only [Bool.and_eq_true] at h
      obtain ⟨⟨⟨h1, h2⟩, h3⟩, h4⟩ := h
      exact ps_forQ po g.calm (sndI it g a tk h3 false) (sndG g.calm g.nd a tg _ h2) (sndSs hk body g a tk po hst hfr _ h4) (folded_ok h1 _)
    · cases h
  | .while t body w, X, W, g, a, tk, po, hst, hfr, st, h => by
    unfold chkS at h
    split at h
    · simp only [Bool.and_eq_true] at h
      exact ps_whileQ po (sndT t g a tk h.1).1 (sndSs hk body g a tk po hst hfr _ h.2)
    · cases h
  | .raise n, X, W, g, a, tk, po, hst, hfr, st, h => by
    unfold chkS at h
    split at h
    · simp only [Bool.and_eq_true, decide_eq_true_eq] at h
      exact ps_raiseQ g.calm tk (g.ex n _ h.1) (gl_ok a h.2) (nm1 (gl_nm h.2))
    · cases h
  | .try body hs, X, W, g, a, tk, po, hst, hfr, st, h => by
    unfold chkS at h
    split at h
    · simp only [Bool.and_eq_true] at h
      exact ps_tryQ a (try_fact g) rfl g.nd hst hfr tk (fun W' pl xe tk' po' => sndSs hk body (X := X.tr pl xe) (W := W') (g.tr pl xe) ⟨a.n, a.s, a.f⟩ tk' po' hst hfr _ h.1) h.2
    · cases h
  | .frz _, X, W, g, a, tk, po, hst, hfr, st, h => by unfold chkS at h; cases h
  | .mov i j, X, W, g, a, tk, po, hst, hfr, st, h => by
    unfold chkS at h
    split at h
    · simp only [Bool.and_eq_true, decide_eq_true_eq] at h
      obtain ⟨⟨⟨⟨⟨h1, h2⟩, h3⟩, h4⟩, h5⟩, h6⟩ := h
      exact ps_movQ g.nd (by rw [a.n]; exact h1) (loc_ok a h4).1 (loc_ok a h4).2 (by rw [a.n]; exact h2) (vis_ok a h5) (nm1 h6) (nm2 h6) h3
    · cases h
  | .brk, X, W, g, a, tk, po, hst, hfr, st, h => by
    unfold chkS at h
    split at h
    · exact ps_brkQ
    · cases h
  | .cont, X, W, g, a, tk, po, hst, hfr, st, h => by
    unfold chkS at h
    split at h
    · exact ps_contQ
    · cases h
  | .pass, X, W, g, a, tk, po, hst, hfr, st, h => by
    unfold chkS at h
    split at h
    · exact ps_passQ
    · cases h
  | .halt, X, W, g, a, tk, po, hst, hfr, st, h => by
    unfold chkS at h
    cases h
  | .augi i k o e, X, W, g, a, tk, po, hst, hfr, st, h => by
    unfold chkS at h
    split at h
    · simp only [Bool.and_eq_true, decide_eq_true_eq] at h
      obtain ⟨⟨⟨⟨⟨⟨h0, h1⟩, h2⟩, h3⟩, h4⟩, h5⟩, h6⟩ := h
      unfold augO at h0
      split at h0
      · exact ps_augiQ (by rw [a.n]; exact h1) (vis_ok a h2) (nm1 h3) (nm2 h3) (sndE k g a tk h5 true) (sndE e g a tk h6 true) ip_add (fun _ _ => rfl) (by intros; rfl)
      · exact ps_augiQ (by rw [a.n]; exact h1) (vis_ok a h2) (nm1 h3) (nm2 h3) (sndE k g a tk h5 true) (sndE e g a tk h6 true) ip_sub (fun _ _ => rfl) (by intros; rfl)
      · cases h0
    · cases h
  | .asgd i e, X, W, g, a, tk, po, hst, hfr, st, h => by
    unfold chkS at h
    split at h
    · rename_i x p ex pos
      simp only [Bool.and_eq_true, decide_eq_true_eq] at h
      obtain ⟨⟨⟨h1, h2⟩, h3⟩, h4⟩ := h
      split at h3
      · rename_i f e0 es tg it elt gs scope lp
        obtain ⟨hl1, hl2⟩ := loc_ok a h2
        have hsw := swaps_lc (e := elt) (gs := gs) (scope := scope) (pos := lp) (p := p) (x := x) (n := pos.line) (env := X.env) a.s hk
        unfold chkE at h4
        split at h4
        · rename_i x' tx ix ifs az scope' pos' heq
          cases heq
          simp only [Bool.and_eq_true, decide_eq_true_eq] at h4
          obtain ⟨⟨⟨⟨⟨⟨h0, h1'⟩, h2'⟩, h3'⟩, h4'⟩, h5⟩, h6⟩ := h4
          subst h0
          have hbk : BlkOk X.N X.env.scope scope (ownOf N tg.slots) := by rw [a.n, a.s]; exact blk_ok h2'
          cases hb : swapB sc x p.line lp.line scope with
          | false =>
            rw [hb] at hsw
            exact ps_asgdQ g.nd (by rw [a.n]; exact h1) hl1 hl2 (impE (pe_lc g.calm g.nd (sndI it g a tk h3' true) hbk (fun s H C cl fp => sndG (X := X.blk s H scope (compEnvC scope cl C X.env) fp) g.calm g.nd (at_blk a s H scope C cl fp) tg tx h4') (fun s H C cl fp => sndTo none (g.blk s H scope _ fp) (at_blk a s H scope C cl fp) takes_no h5) (fun s H C cl fp => sndE _ (g.blk s H scope _ fp) (at_blk a s H scope C cl fp) takes_no h6 false) (folded_ok h1' _)) fun σ H Q h => comp_readD (own_snd N _) h) hsw
          | true =>
            have hloc : lk sc x = some .local := by
              unfold swapB at hb
              simp only [Bool.and_eq_true, decide_eq_true_eq] at hb
              exact hb.1.1
            rw [hb] at hsw
            exact impS (ps_setLc g.calm g.nd (by rw [a.n]; exact h1) (lk_local a hloc) hsw (sndI it g a tk h3' true) hbk (fun s H C cl fp => sndG (X := X.blk s H scope (compEnvC scope cl C X.env) fp) g.calm g.nd (at_blk a s H scope C cl fp) tg tx h4') (fun s H C cl fp => sndTo none (g.blk s H scope _ fp) (at_blk a s H scope C cl fp) takes_no h5) (fun s H C cl fp => sndE _ (g.blk s H scope _ fp) (at_blk a s H scope C cl fp) takes_no h6 false) (folded_ok h1' _)) fun D σ H h => comp_readD (own_snd N _) (asgd_name h)
        · cases h4
      · cases h3
    · cases h
  | .ifd t ia ib, X, W, g, a, tk, po, hst, hfr, st, h => by
    unfold chkS at h
    split at h
    · simp only [Bool.and_eq_true] at h
      obtain ⟨⟨h1, h2⟩, h3⟩ := h
      exact ps_ifdQ (sndT t g a tk h1).1 (sndSs hk ia g a tk po hst hfr _ h2) (sndSs hk ib g a tk po hst hfr _ h3)
    · cases h
  | .augd i ia k o e, X, W, g, a, tk, po, hst, hfr, st, h => by
    unfold chkS at h
    split at h
    · simp only [Bool.and_eq_true, decide_eq_true_eq] at h
      obtain ⟨⟨⟨⟨⟨⟨⟨h0, h1⟩, h2⟩, h3⟩, h4⟩, h5⟩, h6⟩, h7⟩ := h
      unfold augO at h0
      split at h0
      · exact ps_augdQ g.un (by rw [a.n]; exact h1) (vis_ok a h2) (nm1 h3) (nm2 h3) (sndE ia g a tk h5 true) (fun _ _ => rfl) (sndE k g a tk h6 false) (sndE e g a tk h7 true) ip_add (fun _ _ => rfl) (by intros; rfl)
      · exact ps_augdQ g.un (by rw [a.n]; exact h1) (vis_ok a h2) (nm1 h3) (nm2 h3) (sndE ia g a tk h5 true) (fun _ _ => rfl) (sndE k g a tk h6 false) (sndE e g a tk h7 true) ip_sub (fun _ _ => rfl) (by intros; rfl)
      · cases h0
    · cases h
theorem sndSs (hk : sc.kind = .function) : ∀ (s : Ss) {X : Cx} {W : WX} (g : Gd L xc k X) (a : At X N sc fb) (tk : Takes X W) (po : PassesOwn (model X.prog X.w) X.A X.env X.xe) (hst : X.stack = X.env :: X.outer) (hfr : X.env.frame = some X.env.locals) (l : List Stmt), chkSs L N sc fb s l = true → PSs X l (tSs (L.ctx k) xc W X.kw s)
  | .nil, X, W, g, a, tk, po, hst, hfr, l, h => by
    unfold chkSs at h
    split at h
    · exact pss_nQ
    · cases h
  | .cons s ss, X, W, g, a, tk, po, hst, hfr, l, h => by
    unfold chkSs at h
    split at h
    · exact pss_frzQ (sndSs hk ss g a tk po hst hfr l h)
    · refine ⟨fun pins s σ H D I hw => ?_⟩
      exfalso
      obtain ⟨Hf0, H0, ρ, Hf, _, he⟩ := hw
      have e : evSs (L.ctx k) (.cons .halt ss) ρ = .bad := by simp only [evSs, evS]
      rw [e] at he
      exact he
    · split at h
      · simp only [Bool.and_eq_true] at h
        exact pss_cQ (sndS hk s g a tk po hst hfr _ h.1) (sndSs hk ss g a tk po hst hfr _ h.2)
      · cases h
end
end
end Q
set_option Elab.async false
set_option linter.all false
set_option maxRecDepth 100000
/-! Functions, the law. -/
namespace Q
open PySem PySem.W PySem.Spec L2
open PyProof.Rows hiding St

structure FnIn (K : PySem.W.Frag) (mg : Str → Option Value) (x : Str) (st : Stmt) (ps : List Str) : Prop where
  ex : ∃ f fd, mg x = some (.ref f) ∧ L2.Fun K x x st f fd ∧ ∀ us : List Value, us.length = ps.length → bindArgs fd { pos := us } = pure (ps.zip us)
/-- the world of a law: its constants, classes, builtins -/
structure Wd (L : Lw) (xc : Nat → Value) (K : PySem.W.Frag) (mg : Str → Option Value) : Prop where
  gl : ∀ (i : Nat) (x : Str) (d : D), L.gln[i]? = some x → L.tab.gls[i]? = some d → ∃ u v, mg x = some u ∧ L2.RelV v u ∧ ∀ P w H, Rp ⟨K, P, w⟩ H v d
  bt : ∀ x, x ∈ bnames → mg x = none
  ex : ∀ (n : Nat) (x : Str), L.exn[n]? = some x → ∃ (C : Addr) (bmB : List Value) (B newId initId : String), ExcBaseFacts B newId initId bmB ∧ excIn K C bmB newId = true ∧ mg x = some (Value.ref C) ∧ keepIn K (Value.ref C) = true ∧ subIn K (.ref C) (.type "BaseException") = some true ∧ typeIn K (.ref C) = some (.type "type") ∧ xc n = .ref C
  sub : SubFact K xc L.exn L.tab.sub
def scopeB (N ps : List Str) (sc : Scope) : Bool :=
  decide (sc.kind = .function) && !sc.isCoroutine && !sc.isGenerator && decide N.Nodup && decide (N.take ps.length = ps) && ps.all (fun x => decide (sc.names.lookup x = some .local) || decide (sc.names.lookup x = some .cell)) && sc.names.all (fun y => !decide (y.2 = .free))
theorem scope_ok {N ps : List Str} {sc : Scope} (h : scopeB N ps sc = true) : FnScope N ps sc := by
  unfold scopeB at h
  simp only [Bool.and_eq_true, decide_eq_true_eq, Bool.not_eq_true', List.all_eq_true, Bool.or_eq_true, decide_eq_false_iff_not] at h
  obtain ⟨⟨⟨⟨⟨⟨h1, h2⟩, h3⟩, h4⟩, h5⟩, h6⟩, h7⟩ := h
  exact ⟨h1, h2, h3, h4, h5, fun x hx => h6 x hx, fun y hy => h7 y hy⟩
structure Def where
  st : Stmt
  N : List Str
  ps : List Str
def chkF (L : Lw) (fn : Fn) (d : Def) : Bool :=
  scopeB d.N d.ps (defScope d.st) && decide (d.N.length = fn.ns) && decide (d.ps.length = fn.np) && decide (fn.np ≤ fn.ns) && chkSs L d.N (defScope d.st) (fun _ => true) fn.body (defBody d.st)
def chkAll (L : Lw) (fns : List Fn) (defs : List Def) : Bool :=
  match fns, defs with
  | [], [] => true
  | fn :: fns, d :: defs => chkF L fn d && chkAll L fns defs
  | _, _ => false
theorem chkAll_at {L : Lw} : ∀ {fns : List Fn} {defs : List Def}, chkAll L fns defs = true → ∀ {i : Nat} {fn : Fn}, fns[i]? = some fn → ∃ d, defs[i]? = some d ∧ chkF L fn d = true
  | fn :: fns, d :: defs, h, 0, _, e => by
    simp only [chkAll, Bool.and_eq_true] at h
    cases e
    exact ⟨d, rfl, h.1⟩
  | fn :: fns, d :: defs, h, i + 1, fn', e => by
    simp only [chkAll, Bool.and_eq_true] at h
    obtain ⟨d', h1, h2⟩ := chkAll_at h.2 (i := i) (fn := fn') (by simpa using e)
    exact ⟨d', by simpa using h1, h2⟩
  | [], _, _, _, _, e => by simp at e
  | _ :: _, [], h, _, _, _ => by simp [chkAll] at h
section
variable {L : Lw} {xc : Nat → Value} {P : Program} {w : World} {K : PySem.W.Frag} {mg : Str → Option Value} {base : Heap} {defs : List Def}
theorem no_zero {K : Frag} {n : Nat} {vs : List V} {H : Hp} {Q : VK} {E : XK} : ¬ spF K (callF L.tab 0) xc n vs H Q E := fun h => by
  obtain ⟨Hf, ds, _, _, h⟩ := h
  exact h
theorem fn_step (W : Wd L xc K mg) (kl : KLit K w) {k n : Nat} (ih : ∀ (n : Nat) (x : Str), L.fnn[n]? = some x → FnFact P w ⟨K, P, w⟩ mg base (callF L.tab k) xc k n x) {x : Str} {d : Def} {f : Addr} {fd : FuncData} {fn : Fn} (hfn : L.tab.fns[n]? = some fn) (h2 : L2.Fun K x x d.st f fd) (hf : chkF L fn d = true) :
    FnOk P w K mg base (L2.CX P w) (k + 1) f fd d.ps (spF ⟨K, P, w⟩ (callF L.tab (k + 1)) xc n) := by
  obtain ⟨oc, od, kV, doc, pm, an, cdv, ct, osl, rfl, hlk, hcd⟩ := h2.ex
  unfold chkF at hf
  simp only [Bool.and_eq_true, decide_eq_true_eq] at hf
  obtain ⟨⟨⟨⟨g1, g2⟩, g3⟩, g4⟩, g5⟩ := hf
  have fs := scope_ok g1
  have hrun : ∀ ds, callF L.tab (k + 1) n ds = run (L.ctx k) fn ds := fun ds => by
    rw [callF]
    show (match L.tab.fns[n]? with | some fn => run (L.tab.ctx (callF L.tab k)) fn ds | none => R.bad) = _
    rw [hfn]
    rfl
  refine fn_of hlk hcd fs (fun vs H Q E h => ?_) (fun A outer s H vs Q E hr h => ?_)
  · rw [(body_ends (c := L.ctx k) hrun g2 g4 h).1, g3]
  · refine ⟨_, ?_, (body_ends (c := L.ctx k) hrun g2 g4 h).2⟩
    have gd : Gd L xc k (cxOf (L2.CX P w) P w K mg base d.N x (defScope d.st) f cdv A outer s H E) :=
      ⟨rfl, fs.nd, hr, ih, fun i x d h1 h2 => (W.gl i x d h1 h2).elim fun u h => h.elim fun v h => ⟨u, v, h.1, h.2.1, fun H => h.2.2 _ _ H⟩, W.bt, fun m y hy => by
        obtain ⟨C, bmB, B, nI, iI, e1, e2, e3, e4, e5, e6, e7⟩ := W.ex m y hy
        exact ⟨C, bmB, B, nI, iI, e1, e2, e3, e4, raises_own e5 e6, e7⟩, W.sub, kl⟩
    exact sndSs (N := d.N) (sc := defScope d.st) (fb := fun _ => true) fs.kind _ gd ⟨rfl, rfl, fun _ _ => rfl⟩ (takes_of rfl rfl rfl rfl) (passes_of rfl) rfl rfl _ g5
theorem all_facts (W : Wd L xc K mg) (kl : KLit K w) (hl : L.fnn.length = L.tab.fns.length) (hin : ∀ (i : Nat) (x : Str) (d : Def), L.fnn[i]? = some x → defs[i]? = some d → FnIn K mg x d.st d.ps) (hc : chkAll L L.tab.fns defs = true) : ∀ (k n : Nat) (x : Str), L.fnn[n]? = some x → FnFact P w ⟨K, P, w⟩ mg base (callF L.tab k) xc k n x := by
  intro k
  induction k with
  | zero =>
    intro n x hx
    have hlt : n < L.tab.fns.length := by
      rw [← hl]
      rcases Nat.lt_or_ge n L.fnn.length with h | h
      · exact h
      · rw [List.getElem?_eq_none h] at hx; cases hx
    obtain ⟨d, hd, hf⟩ := chkAll_at hc (List.getElem?_eq_getElem hlt)
    obtain ⟨f, fd, h1, h2, h3⟩ := (hin n x d hx hd).ex
    exact ⟨f, fd, d.ps, h1, h2.kp, fun s us _ hu => .of_eq (by rw [h3 us (by simpa using hu), List.append_nil]), ⟨fun vs H Q E h => absurd h no_zero, fun A outer s H args us vs Q E _ _ _ _ h => absurd h no_zero⟩⟩
  | succ k ih =>
    intro n x hx
    have hlt : n < L.tab.fns.length := by
      rw [← hl]
      rcases Nat.lt_or_ge n L.fnn.length with h | h
      · exact h
      · rw [List.getElem?_eq_none h] at hx; cases hx
    obtain ⟨d, hd, hf⟩ := chkAll_at hc (List.getElem?_eq_getElem hlt)
    obtain ⟨f, fd, h1, h2, h3⟩ := (hin n x d hx hd).ex
    exact ⟨f, fd, d.ps, h1, h2.kp, fun s us _ hu => .of_eq (by rw [h3 us (by simpa using hu), List.append_nil]), fn_step W kl ih (List.getElem?_eq_getElem hlt) h2 hf⟩
end
/-! ### the law -/
def noLists (K : PySem.W.Frag) : Bool := K.all fun p => match p.2.cls with
  | .type "list" => false
  | _ => true
theorem rd_of {K : PySem.W.Frag} {H : Hp} {a : Addr} {xs : List V} (h : SqL K H a xs) (hn : noLists K = true) : Rd H a (.lst xs) := by
  rcases h with h | ⟨o, its, n, h1, h2, _⟩
  · exact h
  · exfalso
    unfold noLists at hn
    rw [List.all_eq_true] at hn
    have hm : ∃ b, (b, o) ∈ K := by
      clear hn
      induction K with
      | nil => cases h1
      | cons p r ih =>
        rw [List.lookup_cons] at h1
        split at h1
        · cases h1; exact ⟨_, List.mem_cons_self⟩
        · obtain ⟨b, hb⟩ := ih h1
          exact ⟨b, List.mem_cons_of_mem _ hb⟩
    obtain ⟨b, hb⟩ := hm
    have := hn _ hb
    simp only [h2] at this
    cases this
theorem ints_rp' {K : Frag} {H : Hp} : ∀ (ns : List Int), RpAll K H (ns.map V.int) (ns.map PyData.int)
  | [] => .nil
  | n :: ns => .cons (.int n) (ints_rp' ns)
theorem law_end {L : Lw} {xc : Nat → Value} {P : Program} {w : World} {K : PySem.W.Frag} {kk f : Nat} {H : Hp} {a : Addr} {ns : List Int} (hn : noLists K = true) (hS : SqL K H a (ns.map V.int)) (h : callF L.tab kk f [.list (ns.map .int)] = .ok (.bool true, false)) :
    spF ⟨K, P, w⟩ (callF L.tab kk) xc f [.ref a] H (fun v _ => v = .bl true) (fun _ _ _ => False) := by
  refine ⟨H, _, Same.refl _, .cons (.lst (rd_of hS hn) (ints_rp' ns)) .nil, ?_⟩
  rw [h]
  intro v Hf' H' x r
  have r' : Rp ⟨K, P, w⟩ Hf' v (.bool true) := r
  cases r'
  rfl
theorem law_fn {L : Lw} {xc : Nat → Value} {P : Program} {w : World} {K : PySem.W.Frag} {mg : Str → Option Value} {defs : List Def} {f kk : Nat} {x p : Str} {fa : Addr} {d : Def} (W : Wd L xc K mg) (kl : KLit K w) (hl : L.fnn.length = L.tab.fns.length) (hin : ∀ (i : Nat) (x : Str) (d : Def), L.fnn[i]? = some x → defs[i]? = some d → FnIn K mg x d.st d.ps) (hc : chkAll L L.tab.fns defs = true)
    (hx : L.fnn[f]? = some x) (hd : defs[f]? = some d) (hp : d.ps = [p]) (hfa : mg x = some (.ref fa)) : ∃ fd : FuncData, (∀ (s : Shared) (u : Value), BindsTo s fd { pos := [u] } [(p, u)]) ∧ ∀ base : Heap, K.In base → base.Ns mainGlobals mg → FnOk P w K mg base (L2.CX P w) kk fa fd [p] (spF ⟨K, P, w⟩ (callF L.tab kk) xc f) := by
  obtain ⟨f', fd, h1, h2, h3⟩ := (hin f x d hx hd).ex
  rw [hfa] at h1
  cases h1
  refine ⟨fd, fun s u => .of_eq (by have := h3 [u] (by rw [hp]; rfl); rw [hp] at this; exact this), fun base _ _ => ?_⟩
  have hlt : f < L.tab.fns.length := by
    rw [← hl]
    rcases Nat.lt_or_ge f L.fnn.length with h | h
    · exact h
    · rw [List.getElem?_eq_none h] at hx; cases hx
  obtain ⟨d', hd', hf⟩ := chkAll_at hc (List.getElem?_eq_getElem hlt)
  rw [hd] at hd'
  cases hd'
  rw [← hp]
  cases kk with
  | zero => exact ⟨fun vs H Q E h => absurd h no_zero, fun A outer s H args us vs Q E _ _ _ _ h => absurd h no_zero⟩
  | succ k => exact fn_step W kl (all_facts (P := P) (w := w) (base := base) W kl hl hin hc k) (List.getElem?_eq_getElem hlt) h2 hf
end Q
set_option Elab.async false
set_option linter.all false
set_option maxRecDepth 100000
/-! From what the module's top has written to the promises. -/
namespace Q
open PySem PySem.W PySem.Spec L2
open PyProof.Rows hiding St

def xcOf (K : PySem.W.Frag) (exn : List Str) (n : Nat) : Value := match exn[n]? with
  | some x => match nsIn K mainGlobals x with
    | some (some v) => v
    | _ => .none
  | none => .none
section
variable {K : PySem.W.Frag} {h : Heap} {mg : Str → Option Value}
/-! constants -/
def GlOne (K : PySem.W.Frag) (mg : Str → Option Value) (x : Str) (d : D) : Prop := ∃ u v, mg x = some u ∧ L2.RelV v u ∧ ∀ P w H, Rp ⟨K, P, w⟩ H v d
theorem gl_int {x : Str} {i : Int} {t : Tok} (X : K.In h) (G : h.Ns mainGlobals mg) (a : nsIn K mainGlobals x = some (some (.int i t))) : GlOne K mg x (.int i) := ⟨_, .int i, mg_of X G a, ⟨t, rfl⟩, fun _ _ _ => .int i⟩
theorem gl_str {x y : Str} {t : Tok} (X : K.In h) (G : h.Ns mainGlobals mg) (a : nsIn K mainGlobals x = some (some (.str y t))) : GlOne K mg x (.str y) := ⟨_, .str y, mg_of X G a, ⟨t, rfl⟩, fun _ _ _ => .str y⟩
/-! constants that are tuples, dicts -/
def kAll (f : Value → D → Bool) : List Value → List D → Bool
  | [], [] => true
  | u :: us, d :: ds => f u d && kAll f us ds
  | _, _ => false
def kEnts (f : Value → D → Bool) : List DictEntry → List (D × D) → Bool
  | [], [] => true
  | e :: es, p :: r => (match e.key, p.1 with
    | .str x _, .str y => decide (x = y)
    | _, _ => false) && f e.val p.2 && kEnts f es r
  | _, _ => false
def kRp (K : PySem.W.Frag) : Nat → Value → D → Bool
  | 0, _, _ => false
  | n + 1, u, d => match u, d with
    | .none, .none => true
    | .bool a, .bool b => a == b
    | .int i _, .int j => i == j
    | .str x _, .str y => decide (x = y)
    | .ref a, .tuple ds => (match K.lookup a with
      | some ⟨c, _, .seq its _, _⟩ => c == .type "tuple" && decide (its.size ≤ 1000) && kAll (kRp K n) its.toList ds
      | _ => false)
    | .ref a, .dict kvs => (match K.lookup a with
      | some ⟨c, none, .dict es _, sl⟩ => c == .type "dict" && sl.isEmpty && !kvs.isEmpty && kEnts (kRp K n) es.toList kvs
      | _ => false)
    | _, _ => false
theorem kAll_ok {f : Value → D → Bool} (hf : ∀ u d, f u d = true → ∃ v, L2.RelV v u ∧ ∀ P w H, Rp ⟨K, P, w⟩ H v d) : ∀ {us : List Value} {ds : List D}, kAll f us ds = true → ∃ vs, L2.Vals vs us ∧ ∀ P w H, RpAll ⟨K, P, w⟩ H vs ds
  | [], [], _ => ⟨[], .nil, fun _ _ _ => .nil⟩
  | u :: us, d :: ds, h => by
    simp only [kAll, Bool.and_eq_true] at h
    obtain ⟨v, h1, h2⟩ := hf u d h.1
    obtain ⟨vs, g1, g2⟩ := kAll_ok hf h.2
    exact ⟨v :: vs, .cons h1 g1, fun P w H => .cons (h2 P w H) (g2 P w H)⟩
  | [], _ :: _, h => nomatch h
  | _ :: _, [], h => nomatch h
theorem kEnts_ok {f : Value → D → Bool} (hf : ∀ u d, f u d = true → ∃ v, L2.RelV v u ∧ ∀ P w H, Rp ⟨K, P, w⟩ H v d) : ∀ {es : List DictEntry} {kvs : List (D × D)}, kEnts f es kvs = true → ∃ ks vs ds, KEnt es ks vs ∧ kvs = mkKv (ks.map .str) ds ∧ (∀ P w H, RpAll ⟨K, P, w⟩ H vs ds) ∧ ks.length = es.length
  | [], [], _ => ⟨[], [], [], trivial, rfl, fun _ _ _ => .nil, rfl⟩
  | e :: es, p :: r, h => by
    simp only [kEnts, Bool.and_eq_true] at h
    obtain ⟨⟨h1, h2⟩, h3⟩ := h
    obtain ⟨v, g1, g2⟩ := hf _ _ h2
    obtain ⟨ks, vs, ds, k1, k2, k3, k4⟩ := kEnts_ok hf h3
    obtain ⟨pk, pd⟩ := p
    split at h1
    · rename_i x t y e1 e2
      have : x = y := of_decide_eq_true h1
      subst this
      simp only at e2 g2
      subst e2 k2
      exact ⟨x :: ks, v :: vs, pd :: ds, ⟨⟨t, e1⟩, g1, k1⟩, rfl, fun P w H => .cons (g2 P w H) (k3 P w H), by simp [k4]⟩
    · cases h1
  | [], _ :: _, h => nomatch h
  | _ :: _, [], h => nomatch h
theorem kRp_ok : ∀ (n : Nat) (u : Value) (d : D), kRp K n u d = true → ∃ v, L2.RelV v u ∧ ∀ P w H, Rp ⟨K, P, w⟩ H v d
  | 0, _, _, h => nomatch h
  | n + 1, u, d, h => by
    unfold kRp at h
    split at h
    · exact ⟨.non, rfl, fun _ _ _ => .non⟩
    · rw [eq_of_beq h]; exact ⟨.bl _, rfl, fun _ _ _ => .bl _⟩
    · rename_i i t j
      rw [eq_of_beq h]; exact ⟨.int _, ⟨t, rfl⟩, fun _ _ _ => .int _⟩
    · rename_i x t y
      rw [of_decide_eq_true h]; exact ⟨.str _, ⟨t, rfl⟩, fun _ _ _ => .str _⟩
    · rename_i a ds
      split at h
      · rename_i c od its m sl hl
        simp only [Bool.and_eq_true, beq_iff_eq, decide_eq_true_eq] at h
        obtain ⟨⟨h1, h2⟩, h3⟩ := h
        obtain ⟨vs, g1, g2⟩ := kAll_ok (fun u d => kRp_ok n u d) h3
        exact ⟨.ref a, rfl, fun P w H => .tup (.inr ⟨_, its, m, hl, h1, rfl, by rw [sizeLine_eq]; omega, g1⟩) (g2 P w H)⟩
      · cases h
    · rename_i a kvs
      split at h
      · rename_i c es m sl hl
        simp only [Bool.and_eq_true, beq_iff_eq, Bool.not_eq_true'] at h
        obtain ⟨⟨⟨h1, h2⟩, h3⟩, h4⟩ := h
        obtain ⟨ks, vs, ds, g1, g2, g3, g4⟩ := kEnts_ok (fun u d => kRp_ok n u d) h4
        have e0 : sl = #[] := Array.isEmpty_iff.mp h2
        subst h1 e0 g2
        refine ⟨.ref a, rfl, fun P w H => .kdc hl g1 ?_ (g3 P w H)⟩
        rintro rfl
        cases h3
      · cases h
    · cases h
theorem gl_any {x : Str} {u : Value} {d : D} (X : K.In h) (G : h.Ns mainGlobals mg) (a : nsIn K mainGlobals x = some (some u)) (r : kRp K 6 u d = true) : GlOne K mg x d := by
  obtain ⟨v, h1, h2⟩ := kRp_ok 6 u d r
  exact ⟨u, v, mg_of X G a, h1, h2⟩
/-- the hashes of the text keys of the module's dicts -/
def strKs : List DictEntry → Bool
  | [] => true
  | e :: r => (match e.key with
    | .str _ _ => true
    | _ => false) && strKs r
def klAll (P : Params) : PySem.W.Frag → Prop
  | [] => True
  | p :: r => (match p.2.data with
    | .dict es _ => strKs es.toList = false ∨ (PySem.W.KeysLit P es.toList ∧ (p.1 == sysModules) = false)
    | _ => True) ∧ klAll P r
theorem kent_str {ks : List Str} {vs : List V} {es : List DictEntry} (h : KEnt es ks vs) : strKs es = true := by
  induction es generalizing ks vs with
  | nil => rfl
  | cons e es ih =>
    match ks, vs, h with
    | x :: ks, v :: vs, ⟨⟨t, h1⟩, _, h3⟩ =>
      rw [strKs, h1, ih h3]
      rfl
def ndOne (o : Obj) : Bool := match o.cls with
  | .type t => !(t == "tuple") || o.dict.isNone
  | _ => true
theorem nd_mk : ∀ {K : PySem.W.Frag}, (K.all fun p => ndOne p.2) = true → TupND K
  | [], _, a, o, hl, _ => by cases hl
  | p :: r, h, a, o, hl, hc => by
    rw [List.all_cons, Bool.and_eq_true] at h
    rw [List.lookup_cons] at hl
    split at hl
    · cases hl
      have h1 := h.1
      unfold ndOne at h1
      rw [hc] at h1
      simpa using h1
    · exact nd_mk h.2 a o hl hc
theorem kl_mk {w : World} (h : klAll w.params K) (hnd : (K.all fun p => ndOne p.2) = true) : KLit K w := by
  refine ⟨?_, nd_mk hnd⟩
  clear hnd
  intro a es n ks vs hl he
  have hs := kent_str he
  induction K with
  | nil => cases hl
  | cons p r ih =>
    obtain ⟨b, o⟩ := p
    obtain ⟨h1, h2⟩ := h
    rw [List.lookup_cons] at hl
    split at hl
    · rename_i hb
      cases hl
      have hb' : a = b := by simpa using hb
      subst hb'
      rcases h1 with h1 | h1
      · rw [hs] at h1; cases h1
      · exact h1
    · exact ih h2 hl
def GlAll (K : PySem.W.Frag) (mg : Str → Option Value) : List Str → List D → Prop
  | x :: xs, d :: ds => GlOne K mg x d ∧ GlAll K mg xs ds
  | _, _ => True
theorem gl_at : ∀ {xs : List Str} {ds : List D}, GlAll K mg xs ds → ∀ (i : Nat) (x : Str) (d : D), xs[i]? = some x → ds[i]? = some d → GlOne K mg x d
  | x :: xs, d :: ds, h, 0, _, _, e1, e2 => by cases e1; cases e2; exact h.1
  | x :: xs, d :: ds, h, i + 1, _, _, e1, e2 => gl_at h.2 i _ _ (by simpa using e1) (by simpa using e2)
  | [], _, _, _, _, _, e1, _ => by simp at e1
  | _ :: _, [], _, _, _, _, _, e2 => by simp at e2
/-! classes of errors -/
def ExOne (K : PySem.W.Frag) (mg : Str → Option Value) (x : Str) : Prop := ∃ (C : Addr) (bmB : List Value) (B newId initId : String), ExcBaseFacts B newId initId bmB ∧ excIn K C bmB newId = true ∧ mg x = some (Value.ref C) ∧ keepIn K (Value.ref C) = true ∧ subIn K (.ref C) (.type "BaseException") = some true ∧ typeIn K (.ref C) = some (.type "type") ∧ nsIn K mainGlobals x = some (some (.ref C))
theorem ex_one {x : Str} {C : Addr} (X : K.In h) (G : h.Ns mainGlobals mg) (a : nsIn K mainGlobals x = some (some (.ref C))) (e : excIn K C [.type "ValueError", .type "Exception", .type "BaseException", .type "object"] "ValueError.__new__" = true) (k : keepIn K (Value.ref C) = true) (b : subIn K (.ref C) (.type "BaseException") = some true) (t : typeIn K (.ref C) = some (.type "type")) : ExOne K mg x :=
  ⟨C, _, _, _, _, PySem.F.excBase_ValueError, e, mg_of X G a, k, b, t, a⟩
def ExAll (K : PySem.W.Frag) (mg : Str → Option Value) : List Str → Prop
  | x :: xs => ExOne K mg x ∧ ExAll K mg xs
  | [] => True
theorem ex_at : ∀ {xs : List Str}, ExAll K mg xs → ∀ (i : Nat) (x : Str), xs[i]? = some x → ExOne K mg x
  | x :: xs, h, 0, _, e1 => by cases e1; exact h.1
  | x :: xs, h, i + 1, _, e1 => ex_at h.2 i _ (by simpa using e1)
  | [], _, _, _, e1 => by simp at e1
/-! builtins -/
def BtAll (K : PySem.W.Frag) : List Str → Prop
  | x :: xs => nsIn K mainGlobals x = some none ∧ BtAll K xs
  | [] => True
theorem bt_one {x : Str} (X : K.In h) (a : nsIn K mainGlobals x = some none) : nsIn K mainGlobals x = some none := a
theorem bt_at : ∀ {xs : List Str}, BtAll K xs → ∀ x, x ∈ xs → nsIn K mainGlobals x = some none
  | [], _, x, hx => absurd hx List.not_mem_nil
  | y :: xs, h, x, hx => by
    rcases List.mem_cons.mp hx with rfl | hx
    · exact h.1
    · exact bt_at h.2 x hx
/-! what the classes say of one another, looked at -/
def ownExc (K : PySem.W.Frag) (v : Value) : Bool := match v with
  | .ref D => findIn K (.ref D) "__getattribute__" == some (some (.builtin "BaseException.__getattribute__")) && findIn K (.ref D) "__getattr__" == some none && subIn K (.ref D) (.type "BaseException") == some true && hasDictIn K D && findIn K (.ref D) "__class__" == some (some (.builtin "object.__class__")) &&
    specialIn K (.builtin "object.__class__") "__get__" == some (some (.builtin "getset_descriptor.__get__")) && takesIn K (.builtin "object.__class__") == some true && mroIn K D (.type "object") == some true
  | _ => false
def subChk (K : PySem.W.Frag) (exn : List Str) (t : List (List Nat)) : Bool :=
  t.length == exn.length && (List.range exn.length).all fun x => ownExc K (xcOf K exn x) && (List.range exn.length).all fun c => exmOne K (xcOf K exn x) (xcOf K exn c) == some (subOf t x c) && kitOne K (xcOf K exn x) (xcOf K exn c) == some (subOf t x c)
theorem sub_mk {exn : List Str} {t : List (List Nat)} {sub : Nat → Nat → Bool} (hs : sub = subOf t) (h : subChk K exn t = true) : SubFact K (xcOf K exn) exn sub := by
  subst hs
  unfold subChk at h
  simp only [Bool.and_eq_true, beq_iff_eq, List.all_eq_true, List.mem_range] at h
  obtain ⟨hl, h⟩ := h
  have lt : ∀ x, subOf t x x = true → x < exn.length := fun x hx => by
    unfold subOf at hx
    split at hx
    · rename_i l e
      rw [← hl]
      exact (List.getElem?_eq_some_iff.mp e).1
    · cases hx
  refine ⟨fun x c y hx hy => (h x (lt x hx)).2 c (List.getElem?_eq_some_iff.mp hy).1, fun x hx => ?_⟩
  have hc := (h x (lt x hx)).1
  unfold ownExc at hc
  split at hc
  · rename_i D e
    simp only [Bool.and_eq_true, beq_iff_eq] at hc
    obtain ⟨⟨⟨⟨⟨⟨⟨a1, a2⟩, a3⟩, a4⟩, a5⟩, a6⟩, a7⟩, a8⟩ := hc
    exact ⟨D, e, a1, a2, a3, a4, a5, a6, a7, a8⟩
  · cases hc
theorem wd_mk {L : Lw} {t : List (List Nat)} (X : K.In h) (G : h.Ns mainGlobals mg) (g : GlAll K mg L.gln L.tab.gls) (e : ExAll K mg L.exn) (b : BtAll K bnames) (ht : L.tab.sub = subOf t) (hs : subChk K L.exn t = true) : Wd L (xcOf K L.exn) K mg := by
  refine ⟨fun i x d h1 h2 => gl_at g i x d h1 h2, fun x hx => mg_none_of X G (bt_at b x hx), fun n x hx => ?_, sub_mk ht hs⟩
  obtain ⟨C, bmB, B, nI, iI, e1, e2, e3, e4, e5, e6, e7⟩ := ex_at e n x hx
  refine ⟨C, bmB, B, nI, iI, e1, e2, e3, e4, e5, e6, ?_⟩
  unfold xcOf
  rw [hx]
  simp only [e7]
/-! functions -/
theorem fn_one {x : Str} {st : Stmt} {ps : List Str} {f : Addr} {oc : Value} {od an : Option Addr} {osl : Array (Option Value)} {kV doc pm cdv ct : Value} (X : K.In h) (G : h.Ns mainGlobals mg)
    (a : nsIn K mainGlobals x = some (some (.ref f))) (l : K.lookup f = some ⟨oc, od, .func (fnOf x x (L2.defArgs st) (L2.defBody st) (L2.defScope st) .none kV doc pm an cdv ct), osl⟩) (cd : codeIn K cdv x = true) (kp : keepIn K (.ref f) = true)
    (hb : ∀ (kV doc pm : Value) (an : Option Addr) (cdv ct : Value) (us : List Value), us.length = ps.length → bindArgs (fnOf x x (L2.defArgs st) (L2.defBody st) (L2.defScope st) .none kV doc pm an cdv ct) { pos := us } = pure (ps.zip us)) : FnIn K mg x st ps :=
  ⟨f, _, mg_of X G a, fun_mk l cd kp, fun us hu => hb _ _ _ _ _ _ us hu⟩
def FnAll (K : PySem.W.Frag) (mg : Str → Option Value) : List Str → List Def → Prop
  | x :: xs, d :: ds => FnIn K mg x d.st d.ps ∧ FnAll K mg xs ds
  | _, _ => True
theorem fn_at : ∀ {xs : List Str} {ds : List Def}, FnAll K mg xs ds → ∀ (i : Nat) (x : Str) (d : Def), xs[i]? = some x → ds[i]? = some d → FnIn K mg x d.st d.ps
  | x :: xs, d :: ds, h, 0, _, _, e1, e2 => by cases e1; cases e2; exact h.1
  | x :: xs, d :: ds, h, i + 1, _, _, e1, e2 => fn_at h.2 i _ _ (by simpa using e1) (by simpa using e2)
  | [], _, _, _, _, _, e1, _ => by simp at e1
  | _ :: _, [], _, _, _, _, _, e2 => by simp at e2
end
/-- the law's own promise -/
def lawSp (L : Lw) (kk f : Nat) (P : Program) (w : World) (K : PySem.W.Frag) : Sp := spF ⟨K, P, w⟩ (callF L.tab kk) (xcOf K L.exn) f
theorem law_all {L : Lw} {P : Program} {w : World} {K : PySem.W.Frag} {h : Heap} {mg : Str → Option Value} {defs : List Def} {f kk : Nat} {x p : Str} {fa : Addr} {d : Def} {t : List (List Nat)} (X : K.In h) (G : h.Ns mainGlobals mg) (hfa : mg x = some (.ref fa)) (hl : L.fnn.length = L.tab.fns.length) (hc : chkAll L L.tab.fns defs = true) (hx : L.fnn[f]? = some x) (hd : defs[f]? = some d) (hp : d.ps = [p])
    (g : GlAll K mg L.gln L.tab.gls) (e : ExAll K mg L.exn) (b : BtAll K bnames) (fn : FnAll K mg L.fnn defs) (ht : L.tab.sub = subOf t) (hs : subChk K L.exn t = true) (kl : KLit K w) :
    ∃ fd : FuncData, (∀ (s : Shared) (u : Value), BindsTo s fd { pos := [u] } [(p, u)]) ∧ ∀ base : Heap, K.In base → base.Ns mainGlobals mg → FnOk P w K mg base (L2.CX P w) kk fa fd [p] (lawSp L kk f P w K) :=
  law_fn (wd_mk X G g e b ht hs) kl hl (fun i x d h1 h2 => fn_at fn i x d h1 h2) hc hx hd hp hfa
theorem cx_end {P : Program} {w : World} : ∀ (H : Hp) (s : Shared) (e : Value) (s' : Shared), L2.CX P w [] H s (fun _ _ _ => False) e s' → False := fun H s e s' h => by
  obtain ⟨a, B, H', cls, d, h⟩ := h
  exact h.2.2.2.2.2.2.2
end Q
set_option linter.all false
set_option maxRecDepth 100000
/-! Evaluation by simp: what each thing comes to at data that is known. -/
namespace Q
open PySem
@[simp] theorem ok_bind {α β : Type} (a : α) (f : α → R β) : (R.ok a >>= f) = f a := id rfl
@[simp] theorem exc_bind {α β : Type} (a : Nat) (f : α → R β) : (R.exc a >>= f) = R.exc a := id rfl
@[simp] theorem bad_bind {α β : Type} (f : α → R β) : ((R.bad : R α) >>= f) = R.bad := id rfl
@[simp] theorem toF_ok {α : Type} (ρ : Env) (a : α) (f : α → F) : toF ρ (R.ok a) f = f a := id rfl
@[simp] theorem toF_exc {α : Type} (ρ : Env) (a : Nat) (f : α → F) : toF ρ (R.exc a) f = .ex a ρ := id rfl
@[simp] theorem quiet_ok' {α : Type} (a : α) : quiet (R.ok a) = R.ok a := id rfl
@[simp] theorem slot_zero (x : Sl) (r : Env) : slot (x :: r) 0 = x := id rfl
@[simp] theorem slot_succ (x : Sl) (r : Env) (i : Nat) : slot (x :: r) (i + 1) = slot r i := id rfl
@[simp] theorem put_zero (x y : Sl) (r : Env) : put (y :: r) 0 x = x :: r := id rfl
@[simp] theorem put_succ (x y : Sl) (r : Env) (i : Nat) : put (y :: r) (i + 1) x = y :: put r i x := id rfl
@[simp] theorem wipe_nil (ρ : Env) : wipe ρ [] = ρ := id rfl
@[simp] theorem wipe_cons (ρ : Env) (i : Nat) (l : List Nat) : wipe ρ (i :: l) = wipe (put ρ i none) l := id rfl
section
variable (c : Ctx) (m : Bool) (ρ : Env)
/-! expressions -/
@[simp] theorem ev_v {i : Nat} {d : D} (h : slot ρ i = some (d, 0)) : evE c (.v i) m ρ = .ok d := by simp only [evE, h]; rfl
@[simp] theorem ev_v1 {i : Nat} {d : D} (h : slot ρ i = some (d, 1)) : evE c (.v i) true ρ = .ok d := by simp only [evE, h]; rfl
@[simp] theorem ev_c (d : D) : evE c (.c d) m ρ = .ok d := by simp only [evE]
@[simp] theorem ev_g {i : Nat} {d : D} (h : c.gl i = some d) : evE c (.g i) m ρ = .ok d := by simp only [evE, h]
@[simp] theorem ev_op (o : Op) (es : Es) : evE c (.op o es) m ρ = (evEs c es (!o.keeps) ρ >>= fun ds => sem o ds) := by simp only [evE]
@[simp] theorem ev_call0 (f : Nat) : evE c (.call f .nil) m ρ = (quiet (c.call f []) >>= fun r => .ok r.1) := by simp only [evE]
@[simp] theorem ev_call (f : Nat) (e : E) (es : Es) : evE c (.call f (.cons e es)) m ρ = (evEs c (.cons e es) (c.sf f) ρ >>= fun ds => c.call f ds >>= fun r => .ok r.1) := by simp only [evE]
@[simp] theorem ev_nil : evEs c .nil m ρ = .ok [] := by simp only [evEs]
@[simp] theorem ev_cons (e : E) (es : Es) : evEs c (.cons e es) m ρ = (evE c e m ρ >>= fun d => evEs c es m ρ >>= fun ds => .ok (d :: ds)) := by simp only [evEs]
end
section
variable (c : Ctx) (m : Bool) (ρ : Env)
@[simp] theorem bind_n (i : Nat) (d : D) : Tg.bind (.n i) d ρ = .ok (put ρ i (some (d, 0))) := id rfl
@[simp] theorem bind_tt (l : Tgs) (xs : List D) : Tg.bind (.t l) (.tuple xs) ρ = Tgs.bind l xs ρ := id rfl
@[simp] theorem bind_tl (l : Tgs) (xs : List D) : Tg.bind (.t l) (.list xs) ρ = Tgs.bind l xs ρ := id rfl
@[simp] theorem binds_nil : Tgs.bind .nil [] ρ = .ok ρ := id rfl
@[simp] theorem binds_cons (t : Tg) (l : Tgs) (x : D) (xs : List D) : Tgs.bind (.cons t l) (x :: xs) ρ = (Tg.bind t x ρ >>= fun ρ' => Tgs.bind l xs ρ') := id rfl
@[simp] theorem slots_n (i : Nat) : Tg.slots (.n i) = [i] := id rfl
@[simp] theorem slots_t (l : Tgs) : Tg.slots (.t l) = Tgs.slots l := id rfl
@[simp] theorem slotss_nil : Tgs.slots .nil = [] := id rfl
@[simp] theorem slotss_cons (t : Tg) (l : Tgs) : Tgs.slots (.cons t l) = Tg.slots t ++ Tgs.slots l := id rfl
theorem andF_def (x : D) (k : R D) : True := trivial
def andF (x : D) (k : R D) : R D := match x with
  | .bool true => k
  | .bool false => .ok (.bool false)
  | _ => .bad
def orF (x : D) (k : R D) : R D := match x with
  | .bool true => .ok (.bool true)
  | .bool false => k
  | _ => .bad
@[simp] theorem andF_b (b : Bool) (k : R D) : andF (.bool b) k = if b then k else .ok (.bool false) := by cases b <;> rfl
@[simp] theorem orF_b (b : Bool) (k : R D) : orF (.bool b) k = if b then .ok (.bool true) else k := by cases b <;> rfl
@[simp] theorem ev_and (a b : E) : evE c (.and a b) m ρ = (evE c a false ρ >>= fun x => andF x (evE c b m ρ)) := by simp only [evE]; rfl
@[simp] theorem ev_or (a b : E) : evE c (.or a b) m ρ = (evE c a false ρ >>= fun x => orF x (evE c b m ρ)) := by simp only [evE]; rfl
@[simp] theorem ev_ite (t : T) (a b : E) : evE c (.ite t a b) m ρ = (evT c t ρ >>= fun k => if k then evE c a m ρ else evE c b m ρ) := by simp only [evE]
@[simp] theorem ev_chn (o o' : Op) (a b d : E) : evE c (.chn o o' a b d) m ρ = (evE c a true ρ >>= fun x => evE c b true ρ >>= fun y => sem o [x, y] >>= fun k => truth k >>= fun k => if k then evE c d true ρ >>= fun z => sem o' [y, z] else .ok (.bool false)) := by simp only [evE]
@[simp] theorem et_e (a : E) : evT c (.e a) ρ = (evE c a true ρ >>= fun d => truth d) := by simp only [evT]
@[simp] theorem et_cmp (o : Op) (a b : E) : evT c (.cmp o a b) ρ = (evE c a true ρ >>= fun x => evE c b true ρ >>= fun y => sem o [x, y] >>= fun d => truth d) := by simp only [evT]
@[simp] theorem et_not (t : T) : evT c (.not t) ρ = (evT c t ρ >>= fun k => .ok (!k)) := by simp only [evT]
@[simp] theorem et_and (t u : T) : evT c (.and t u) ρ = (evT c t ρ >>= fun k => if k then evT c u ρ else .ok false) := by simp only [evT]
@[simp] theorem et_or (t u : T) : evT c (.or t u) ρ = (evT c t ρ >>= fun k => if k then .ok true else evT c u ρ) := by simp only [evT]
@[simp] theorem et_one (t : T) : evT c (.one t) ρ = evT c t ρ := by simp only [evT]
@[simp] theorem eto_none : evTo c none ρ = .ok true := by simp only [evTo]
@[simp] theorem eto_some (t : T) : evTo c (some t) ρ = evT c t ρ := by simp only [evTo]
@[simp] theorem ei_e (a : E) : evI c (.e a) m ρ = (evE c a m ρ >>= fun d => walked d) := by simp only [evI]
@[simp] theorem ei_rng (es : Es) : evI c (.rng es) m ρ = (evEs c es true ρ >>= fun ds => rangeD ds) := by simp only [evI]
@[simp] theorem ei_zip (es : Es) : evI c (.zip es) m ρ = (evEs c es m ρ >>= fun ds => zipD ds) := by simp only [evI]
@[simp] theorem walked_l (xs : List D) : walked (.list xs) = .ok xs := id rfl
@[simp] theorem walked_t (xs : List D) : walked (.tuple xs) = .ok xs := id rfl
theorem ev_comp_def (elt : E) (tg : Tg) (it : I) (t : Option T) : evE c (.comp elt tg it t) m ρ = (evI c it true ρ >>= fun xs => compM (fun d => tg.bind d (wipe ρ tg.slots) >>= fun ρ' => evTo c t ρ' >>= fun k => if k then evE c elt false ρ' >>= fun y => .ok (some y) else .ok none) xs >>= fun ys => if ys.length ≤ LIM then .ok (.list ys) else .bad) := by simp only [evE]
theorem ev_comp2_def (elt : E) (tg : Tg) (it : I) (t : Option T) (tg' : Tg) (it' : I) (t' : Option T) : evE c (.comp2 elt tg it t tg' it' t') m ρ = (evI c it true ρ >>= fun xs => compM2 (fun d => tg.bind d (wipe ρ (tg.slots ++ tg'.slots)) >>= fun ρ' => evTo c t ρ' >>= fun k =>
      if k then evI c it' false ρ' >>= fun xs' => compM (fun d' => tg'.bind d' (wipe ρ' tg'.slots) >>= fun ρ'' => evTo c t' ρ'' >>= fun k' => if k' then evE c elt false ρ'' >>= fun y => .ok (some y) else .ok none) xs' else .ok []) xs >>= fun ys => if ys.length ≤ LIM then .ok (.list ys) else .bad) := by simp only [evE]
/-! statements -/
@[simp] theorem st_asg (i : Nat) (e : E) : evS c (.asg (.n i) e) ρ = toF ρ (evE c e false ρ) fun d => .nx (put ρ i (some (d, flag (e.fresh c.fr) d))) := by simp only [evS]
@[simp] theorem st_asgT (l : Tgs) (e : E) : evS c (.asg (.t l) e) ρ = toF ρ (evE c e false ρ) fun d => toF ρ (Tg.bind (.t l) d ρ) fun ρ' => .nx ρ' := by simp only [evS]
@[simp] theorem st_par (is : List Nat) (es : Es) : evS c (.par is es) ρ = toF ρ (evEs c es false ρ) fun ds => .nx (puts ρ is (Es.flags c.fr es ds)) := by simp only [evS]
@[simp] theorem st_expr (e : E) : evS c (.expr e) ρ = toF ρ (evE c e true ρ) fun _ => .nx ρ := by simp only [evS]
@[simp] theorem st_app {i : Nat} {e : E} {xs : List D} (h : slot ρ i = some (.list xs, 1)) : evS c (.app i e) ρ = toF ρ (evE c e false ρ) fun d => if xs.length < LIM then .nx (put ρ i (some (.list (xs ++ [d]), 1))) else .bad := by
  simp only [evS, owned, h]
theorem st_ext {i : Nat} {e : E} {xs : List D} (h : slot ρ i = some (.list xs, 1)) (hf : e.fresh c.fr = true) : evS c (.ext i e) ρ = toF ρ (evE c e false ρ) fun d => match d with
    | .list ys => if xs.length + ys.length ≤ LIM then .nx (put ρ i (some (.list (xs ++ ys), 1))) else .bad
    | _ => .bad := by
  simp only [evS, owned, h, hf]
  cases evE c e false ρ with
  | ok d => cases d <;> rfl
  | exc x => rfl
  | bad => rfl
@[simp] theorem st_retn : evS c .retn ρ = .rt .none false := by simp only [evS]
@[simp] theorem st_ret (e : E) : evS c (.ret e) ρ = toF ρ (evR c e ρ) fun r => .rt r.1 r.2 := by simp only [evS]
def notV : E → Bool
  | .v _ => false
  | _ => true
theorem er_e {e : E} (h : notV e = true) : evR c e ρ = (evE c e false ρ >>= fun d => .ok (d, e.fresh c.fr && isMut d)) := by
  cases e <;> first | rfl | exact absurd h Bool.false_ne_true
@[simp] theorem er_op (o : Op) (es : Es) : evR c (.op o es) ρ = (evE c (.op o es) false ρ >>= fun d => .ok (d, o.fresh && isMut d)) := id rfl
@[simp] theorem er_call (f : Nat) (es : Es) : evR c (.call f es) ρ = (evE c (.call f es) false ρ >>= fun d => .ok (d, c.fr f && isMut d)) := id rfl
@[simp] theorem er_c (d : D) : evR c (.c d) ρ = .ok (d, false) := id rfl
@[simp] theorem er_g (i : Nat) : evR c (.g i) ρ = (evE c (.g i) false ρ >>= fun d => .ok (d, false)) := id rfl
@[simp] theorem er_and (a b : E) : evR c (.and a b) ρ = (evE c (.and a b) false ρ >>= fun d => .ok (d, false)) := id rfl
@[simp] theorem er_or (a b : E) : evR c (.or a b) ρ = (evE c (.or a b) false ρ >>= fun d => .ok (d, false)) := id rfl
@[simp] theorem er_chn (o o' : Op) (a b d : E) : evR c (.chn o o' a b d) ρ = (evE c (.chn o o' a b d) false ρ >>= fun d => .ok (d, false)) := id rfl
@[simp] theorem er_ite (t : T) (a b : E) : evR c (.ite t a b) ρ = (evE c (.ite t a b) false ρ >>= fun d => .ok (d, (E.fresh c.fr a && E.fresh c.fr b) && isMut d)) := id rfl
@[simp] theorem er_v0 {i : Nat} {d : D} (h : slot ρ i = some (d, 0)) : evR c (.v i) ρ = .ok (d, false) := by
  unfold evR
  simp only [h]
  rfl
@[simp] theorem er_v1 {i : Nat} {d : D} (h : slot ρ i = some (d, 1)) : evR c (.v i) ρ = .ok (d, true) := by
  unfold evR
  simp only [h]
  rfl
@[simp] theorem st_ifs (t : T) (a b : Ss) : evS c (.ifs t a b) ρ = toF ρ (evT c t ρ) fun k => if k then evSs c a ρ else evSs c b ρ := by simp only [evS]
@[simp] theorem st_raise (x : Nat) : evS c (.raise x) ρ = .ex x ρ := by simp only [evS]
@[simp] theorem st_frz (is : List Nat) : evS c (.frz is) ρ = .nx (freeze ρ is) := by simp only [evS]
@[simp] theorem st_pass : evS c .pass ρ = .nx ρ := by simp only [evS]
@[simp] theorem st_brk : evS c .brk ρ = .bk ρ := by simp only [evS]
@[simp] theorem st_cont : evS c .cont ρ = .ct ρ := by simp only [evS]
@[simp] theorem fresh_op (fr : Nat → Bool) (o : Op) (es : Es) : E.fresh fr (.op o es) = o.fresh := by simp only [E.fresh]
@[simp] theorem fresh_call (fr : Nat → Bool) (f : Nat) (es : Es) : E.fresh fr (.call f es) = fr f := by simp only [E.fresh]
@[simp] theorem fresh_v (fr : Nat → Bool) (i : Nat) : E.fresh fr (.v i) = false := by simp only [E.fresh]
@[simp] theorem fresh_c (fr : Nat → Bool) (d : D) : E.fresh fr (.c d) = false := by simp only [E.fresh]
@[simp] theorem fresh_and (fr : Nat → Bool) (a b : E) : E.fresh fr (.and a b) = false := by simp only [E.fresh]
@[simp] theorem fresh_or (fr : Nat → Bool) (a b : E) : E.fresh fr (.or a b) = false := by simp only [E.fresh]
@[simp] theorem fresh_chn (fr : Nat → Bool) (o o' : Op) (a b d : E) : E.fresh fr (.chn o o' a b d) = false := by simp only [E.fresh]
@[simp] theorem fresh_ite (fr : Nat → Bool) (t : T) (a b : E) : E.fresh fr (.ite t a b) = (E.fresh fr a && E.fresh fr b) := by simp only [E.fresh]
@[simp] theorem entry_is (n : Nat) (ds : List D) : entry n ds = ds.map (fun d => some (d, 0)) ++ List.replicate (n - ds.length) none := id rfl
@[simp] theorem flag_is (b : Bool) (d : D) : flag b d = if b && isMut d then 1 else 0 := id rfl
@[simp] theorem kp_join (a : PySem.Str) : Op.keeps (.join a) = false := id rfl
@[simp] theorem fs_join (a : PySem.Str) : Op.fresh (.join a) = false := id rfl
@[simp] theorem kp_split (a : PySem.Str) : Op.keeps (.split a) = false := id rfl
@[simp] theorem fs_split (a : PySem.Str) : Op.fresh (.split a) = true := id rfl
@[simp] theorem kp_add : Op.keeps .add = false := id rfl
@[simp] theorem fs_add : Op.fresh .add = true := id rfl
@[simp] theorem kp_sub : Op.keeps .sub = false := id rfl
@[simp] theorem fs_sub : Op.fresh .sub = false := id rfl
@[simp] theorem kp_mul : Op.keeps .mul = false := id rfl
@[simp] theorem fs_mul : Op.fresh .mul = true := id rfl
@[simp] theorem kp_fdiv : Op.keeps .fdiv = false := id rfl
@[simp] theorem fs_fdiv : Op.fresh .fdiv = false := id rfl
@[simp] theorem kp_mod : Op.keeps .mod = false := id rfl
@[simp] theorem fs_mod : Op.fresh .mod = false := id rfl
@[simp] theorem kp_pow : Op.keeps .pow = false := id rfl
@[simp] theorem fs_pow : Op.fresh .pow = false := id rfl
@[simp] theorem kp_neg : Op.keeps .neg = false := id rfl
@[simp] theorem fs_neg : Op.fresh .neg = false := id rfl
@[simp] theorem kp_band : Op.keeps .band = false := id rfl
@[simp] theorem fs_band : Op.fresh .band = false := id rfl
@[simp] theorem kp_bor : Op.keeps .bor = false := id rfl
@[simp] theorem fs_bor : Op.fresh .bor = false := id rfl
@[simp] theorem kp_inv : Op.keeps .inv = false := id rfl
@[simp] theorem fs_inv : Op.fresh .inv = false := id rfl
@[simp] theorem kp_shl : Op.keeps .shl = false := id rfl
@[simp] theorem fs_shl : Op.fresh .shl = false := id rfl
@[simp] theorem kp_shr : Op.keeps .shr = false := id rfl
@[simp] theorem fs_shr : Op.fresh .shr = false := id rfl
@[simp] theorem kp_lt : Op.keeps .lt = false := id rfl
@[simp] theorem fs_lt : Op.fresh .lt = false := id rfl
@[simp] theorem kp_le : Op.keeps .le = false := id rfl
@[simp] theorem fs_le : Op.fresh .le = false := id rfl
@[simp] theorem kp_gt : Op.keeps .gt = false := id rfl
@[simp] theorem fs_gt : Op.fresh .gt = false := id rfl
@[simp] theorem kp_ge : Op.keeps .ge = false := id rfl
@[simp] theorem fs_ge : Op.fresh .ge = false := id rfl
@[simp] theorem kp_eq : Op.keeps .eq = false := id rfl
@[simp] theorem fs_eq : Op.fresh .eq = false := id rfl
@[simp] theorem kp_ne : Op.keeps .ne = false := id rfl
@[simp] theorem fs_ne : Op.fresh .ne = false := id rfl
@[simp] theorem kp_isin : Op.keeps .isin = false := id rfl
@[simp] theorem fs_isin : Op.fresh .isin = false := id rfl
@[simp] theorem kp_notin : Op.keeps .notin = false := id rfl
@[simp] theorem fs_notin : Op.fresh .notin = false := id rfl
@[simp] theorem kp_isN : Op.keeps .isN = false := id rfl
@[simp] theorem fs_isN : Op.fresh .isN = false := id rfl
@[simp] theorem kp_isNN : Op.keeps .isNN = false := id rfl
@[simp] theorem fs_isNN : Op.fresh .isNN = false := id rfl
@[simp] theorem kp_isB : Op.keeps .isB = false := id rfl
@[simp] theorem fs_isB : Op.fresh .isB = false := id rfl
@[simp] theorem kp_isNB : Op.keeps .isNB = false := id rfl
@[simp] theorem fs_isNB : Op.fresh .isNB = false := id rfl
@[simp] theorem kp_ix : Op.keeps .ix = false := id rfl
@[simp] theorem fs_ix : Op.fresh .ix = false := id rfl
@[simp] theorem kp_rev : Op.keeps .rev = false := id rfl
@[simp] theorem fs_rev : Op.fresh .rev = true := id rfl
@[simp] theorem kp_len : Op.keeps .len = false := id rfl
@[simp] theorem fs_len : Op.fresh .len = false := id rfl
@[simp] theorem kp_tuple : Op.keeps .tuple = false := id rfl
@[simp] theorem fs_tuple : Op.fresh .tuple = false := id rfl
@[simp] theorem kp_list : Op.keeps .list = false := id rfl
@[simp] theorem fs_list : Op.fresh .list = true := id rfl
@[simp] theorem kp_int : Op.keeps .int = false := id rfl
@[simp] theorem fs_int : Op.fresh .int = false := id rfl
@[simp] theorem kp_sorted : Op.keeps .sorted = false := id rfl
@[simp] theorem fs_sorted : Op.fresh .sorted = true := id rfl
@[simp] theorem kp_sset : Op.keeps .sset = false := id rfl
@[simp] theorem fs_sset : Op.fresh .sset = true := id rfl
@[simp] theorem kp_lset : Op.keeps .lset = false := id rfl
@[simp] theorem fs_lset : Op.fresh .lset = false := id rfl
@[simp] theorem kp_all : Op.keeps .all = false := id rfl
@[simp] theorem fs_all : Op.fresh .all = false := id rfl
@[simp] theorem kp_any : Op.keeps .any = false := id rfl
@[simp] theorem fs_any : Op.fresh .any = false := id rfl
@[simp] theorem kp_min : Op.keeps .min = false := id rfl
@[simp] theorem fs_min : Op.fresh .min = false := id rfl
@[simp] theorem kp_max : Op.keeps .max = false := id rfl
@[simp] theorem fs_max : Op.fresh .max = false := id rfl
@[simp] theorem kp_min2 : Op.keeps .min2 = true := id rfl
@[simp] theorem fs_min2 : Op.fresh .min2 = false := id rfl
@[simp] theorem kp_max2 : Op.keeps .max2 = true := id rfl
@[simp] theorem fs_max2 : Op.fresh .max2 = false := id rfl
@[simp] theorem kp_sum : Op.keeps .sum = false := id rfl
@[simp] theorem fs_sum : Op.fresh .sum = false := id rfl
@[simp] theorem kp_abs : Op.keeps .abs = false := id rfl
@[simp] theorem fs_abs : Op.fresh .abs = false := id rfl
@[simp] theorem kp_index : Op.keeps .index = false := id rfl
@[simp] theorem fs_index : Op.fresh .index = false := id rfl
@[simp] theorem kp_count : Op.keeps .count = false := id rfl
@[simp] theorem fs_count : Op.fresh .count = false := id rfl
@[simp] theorem kp_get : Op.keeps .get = false := id rfl
@[simp] theorem fs_get : Op.fresh .get = false := id rfl
@[simp] theorem kp_getd : Op.keeps .getd = false := id rfl
@[simp] theorem fs_getd : Op.fresh .getd = false := id rfl
@[simp] theorem kp_tup : Op.keeps .tup = true := id rfl
@[simp] theorem fs_tup : Op.fresh .tup = false := id rfl
@[simp] theorem kp_lst : Op.keeps .lst = true := id rfl
@[simp] theorem fs_lst : Op.fresh .lst = true := id rfl
@[simp] theorem kp_not : Op.keeps .not = false := id rfl
@[simp] theorem fs_not : Op.fresh .not = false := id rfl
@[simp] theorem kp_slc (a b : Bool) : Op.keeps (.slc a b) = false := id rfl
@[simp] theorem fs_slc (a b : Bool) : Op.fresh (.slc a b) = true := id rfl
@[simp] theorem kp_isi (t : Ty) : Op.keeps (.isi t) = false := id rfl
@[simp] theorem fs_isi (t : Ty) : Op.fresh (.isi t) = false := id rfl
end
/-! operations at known data -/
@[simp] theorem s_add (i j : Int) : sem .add [.int i, .int j] = .ok (.int (i + j)) := id rfl
@[simp] theorem s_sub (i j : Int) : sem .sub [.int i, .int j] = .ok (.int (i - j)) := id rfl
@[simp] theorem s_neg (i : Int) : sem .neg [.int i] = .ok (.int (-i)) := id rfl
@[simp] theorem s_lt (i j : Int) : sem .lt [.int i, .int j] = .ok (.bool (decide (i < j))) := id rfl
@[simp] theorem s_le (i j : Int) : sem .le [.int i, .int j] = .ok (.bool (decide (i ≤ j))) := id rfl
@[simp] theorem s_gt (i j : Int) : sem .gt [.int i, .int j] = .ok (.bool (decide (j < i))) := id rfl
@[simp] theorem s_ge (i j : Int) : sem .ge [.int i, .int j] = .ok (.bool (decide (j ≤ i))) := id rfl
@[simp] theorem s_len_l (xs : List D) : sem .len [.list xs] = .ok (.int xs.length) := id rfl
@[simp] theorem s_len_t (xs : List D) : sem .len [.tuple xs] = .ok (.int xs.length) := id rfl
@[simp] theorem s_tuple_l (xs : List D) : sem .tuple [.list xs] = .ok (.tuple xs) := id rfl
@[simp] theorem s_tuple_t (xs : List D) : sem .tuple [.tuple xs] = .ok (.tuple xs) := id rfl
@[simp] theorem s_list_l (xs : List D) : sem .list [.list xs] = .ok (.list xs) := id rfl
@[simp] theorem s_list_t (xs : List D) : sem .list [.tuple xs] = .ok (.list xs) := id rfl
@[simp] theorem s_int (i : Int) : sem .int [.int i] = .ok (.int i) := id rfl
@[simp] theorem s_isi_n (t : Ty) : sem (.isi t) [.none] = .ok (.bool (tyIs t (.none))) := id rfl
@[simp] theorem s_isi_b (t : Ty) (b : Bool) : sem (.isi t) [.bool b] = .ok (.bool (tyIs t (.bool b))) := id rfl
@[simp] theorem s_isi_i (t : Ty) (i : Int) : sem (.isi t) [.int i] = .ok (.bool (tyIs t (.int i))) := id rfl
@[simp] theorem s_isi_s (t : Ty) (x : Str) : sem (.isi t) [.str x] = .ok (.bool (tyIs t (.str x))) := id rfl
@[simp] theorem s_isi_l (t : Ty) (xs : List D) : sem (.isi t) [.list xs] = .ok (.bool (tyIs t (.list xs))) := id rfl
@[simp] theorem s_isi_t (t : Ty) (xs : List D) : sem (.isi t) [.tuple xs] = .ok (.bool (tyIs t (.tuple xs))) := id rfl
@[simp] theorem s_not (b : Bool) : sem .not [.bool b] = .ok (.bool (!b)) := id rfl
@[simp] theorem s_ix_l (xs : List D) (i : Int) : sem .ix [.list xs, .int i] = opt (itemAt xs i) := id rfl
@[simp] theorem s_ix_t (xs : List D) (i : Int) : sem .ix [.tuple xs, .int i] = opt (itemAt xs i) := id rfl
@[simp] theorem s_tup (ds : List D) : sem .tup ds = if ds.length ≤ LIM then .ok (.tuple ds) else .bad := id rfl
@[simp] theorem s_lst (ds : List D) : sem .lst ds = if ds.length ≤ LIM then .ok (.list ds) else .bad := id rfl
@[simp] theorem mt_non : isMut .none = false := id rfl
@[simp] theorem mt_b (b : Bool) : isMut (.bool b) = false := id rfl
@[simp] theorem mt_i (i : Int) : isMut (.int i) = false := id rfl
@[simp] theorem mt_s (x : Str) : isMut (.str x) = false := id rfl
@[simp] theorem mt_t (xs : List D) : isMut (.tuple xs) = false := id rfl
@[simp] theorem mt_l (xs : List D) : isMut (.list xs) = true := id rfl
@[simp] theorem s_add_t (xs ys : List D) : sem .add [.tuple xs, .tuple ys] = if xs.length + ys.length ≤ LIM then .ok (.tuple (xs ++ ys)) else .bad := id rfl
@[simp] theorem s_add_l (xs ys : List D) : sem .add [.list xs, .list ys] = if xs.length + ys.length ≤ LIM then .ok (.list (xs ++ ys)) else .bad := id rfl
theorem cut_take {α : Type} (xs : List α) (n : Nat) : cut xs none (some (n : Int)) = xs.take n := by
  unfold cut
  rw [HT.sIx_none, show HT.sIx xs.length xs.length (some (n : Int)) = min n xs.length from HT.sIx_nat _ _ _]
  rw [Nat.sub_zero, List.drop_zero]
  rcases Nat.le_total n xs.length with h | h
  · rw [Nat.min_eq_left h]
  · rw [Nat.min_eq_right h, List.take_of_length_le (Nat.le_refl _), List.take_of_length_le h]
theorem cut_drop {α : Type} (xs : List α) (n : Nat) : cut xs (some (n : Int)) none = xs.drop n := by
  unfold cut
  rw [HT.sIx_none, show HT.sIx xs.length 0 (some (n : Int)) = min n xs.length from HT.sIx_nat _ _ _]
  rcases Nat.le_total n xs.length with h | h
  · rw [Nat.min_eq_left h, List.take_of_length_le (by rw [List.length_drop]; exact Nat.le_refl _)]
  · rw [Nat.min_eq_right h, Nat.sub_self, List.take_zero, List.drop_eq_nil_of_le h]
@[simp] theorem cut_t0 {α : Type} (xs : List α) : cut xs none (some 0) = [] := cut_take xs 0
@[simp] theorem cut_t1 {α : Type} (xs : List α) : cut xs none (some 1) = xs.take 1 := cut_take xs 1
@[simp] theorem cut_t2 {α : Type} (xs : List α) : cut xs none (some 2) = xs.take 2 := cut_take xs 2
@[simp] theorem cut_t60 {α : Type} (xs : List α) : cut xs none (some 60) = xs.take 60 := cut_take xs 60
@[simp] theorem cut_t63 {α : Type} (xs : List α) : cut xs none (some 63) = xs.take 63 := cut_take xs 63
@[simp] theorem cut_d1 {α : Type} (xs : List α) : cut xs (some 1) none = xs.drop 1 := cut_drop xs 1
@[simp] theorem cut_d2 {α : Type} (xs : List α) : cut xs (some 2) none = xs.drop 2 := cut_drop xs 2
@[simp] theorem cut_d3 {α : Type} (xs : List α) : cut xs (some 3) none = xs.drop 3 := cut_drop xs 3
@[simp] theorem zipD_l (xs ys : List D) : zipD [.list xs, .list ys] = .ok (zip2 xs ys) := id rfl
@[simp] theorem zipD_tl (xs ys : List D) : zipD [.tuple xs, .list ys] = .ok (zip2 xs ys) := id rfl
@[simp] theorem zipD_t (xs ys : List D) : zipD [.tuple xs, .tuple ys] = .ok (zip2 xs ys) := id rfl
@[simp] theorem s_rev_l (xs : List D) : sem .rev [.list xs] = .ok (.list xs.reverse) := id rfl
@[simp] theorem s_rev_t (xs : List D) : sem .rev [.tuple xs] = .ok (.tuple xs.reverse) := id rfl
@[simp] theorem s_slc01 (xs : List D) (i : Int) : sem (.slc false true) [.tuple xs, .int i] = .ok (.tuple (cut xs none (some i))) := id rfl
@[simp] theorem s_slc10 (xs : List D) (i : Int) : sem (.slc true false) [.tuple xs, .int i] = .ok (.tuple (cut xs (some i) none)) := id rfl
@[simp] theorem s_slc01l (xs : List D) (i : Int) : sem (.slc false true) [.list xs, .int i] = .ok (.list (cut xs none (some i))) := id rfl
@[simp] theorem s_slc10l (xs : List D) (i : Int) : sem (.slc true false) [.list xs, .int i] = .ok (.list (cut xs (some i) none)) := id rfl
theorem s_mul {i j : Int} (h : mulOk i j = true) : sem .mul [.int i, .int j] = .ok (.int (i * j)) := by
  show (if mulOk i j then _ else _) = _
  rw [if_pos h]
@[simp] theorem opt_some (d : D) : opt (some d) = .ok d := id rfl
@[simp] theorem t_bool (b : Bool) : truth (.bool b) = .ok b := id rfl
@[simp] theorem t_int (i : Int) : truth (.int i) = .ok (i != 0) := id rfl
@[simp] theorem ty_ii (i : Int) : tyIs .int (.int i) = true := id rfl
@[simp] theorem ty_bi (i : Int) : tyIs .bool (.int i) = false := id rfl
@[simp] theorem ty_tt (xs : List D) : tyIs .tuple (.tuple xs) = true := id rfl
@[simp] theorem it0 (x : D) (r : List D) : itemAt (x :: r) 0 = some x := by simp [itemAt, L2.atI, L2.ixN]
theorem ixN_nat {l n : Nat} (h : n < l) : L2.ixN l (n : Int) = some n := by
  unfold L2.ixN
  simp
  omega
theorem it_nat {xs : List D} {n : Nat} (h : n < xs.length) : itemAt xs n = xs[n]? := by
  unfold itemAt L2.atI
  rw [ixN_nat h]
  rfl
@[simp] theorem it1 (x y : D) (r : List D) : itemAt (x :: y :: r) 1 = some y := it_nat (n := 1) (by simp)
@[simp] theorem it2 (x y z : D) (r : List D) : itemAt (x :: y :: z :: r) 2 = some z := it_nat (n := 2) (by simp)
/-! loops -/
theorem forL_inv {step : D → Env → F} {w : List Nat} (I : Nat → Env → Prop) : ∀ (ds : List D) (n : Nat) (ρ : Env), I n (wipe ρ w) → (∀ i d ρ, ds[i]? = some d → I (n + i) ρ → ∃ r, (step d ρ = .nx r ∨ step d ρ = .ct r) ∧ I (n + i + 1) (wipe r w)) → ∃ r, forL step w ds ρ = .nx r ∧ I (n + ds.length) r
  | [], n, ρ, h0, _ => ⟨_, rfl, h0⟩
  | d :: ds, n, ρ, h0, hs => by
    obtain ⟨r, h1, h2⟩ := hs 0 d _ rfl h0
    obtain ⟨r', h3, h4⟩ := forL_inv I ds (n + 1) r h2 fun i d' ρ' e h => by
      have := hs (i + 1) d' ρ' (by simpa using e) (by rw [show n + (i + 1) = n + 1 + i by omega]; exact h)
      rw [show n + (i + 1) + 1 = n + 1 + i + 1 by omega] at this
      exact this
    refine ⟨r', ?_, by rw [List.length_cons, show n + (ds.length + 1) = n + 1 + ds.length by omega]; exact h4⟩
    rw [forL]
    rcases h1 with h1 | h1 <;> rw [h1] <;> exact h3
theorem ev_for {c : Ctx} {tg : Tg} {it : I} {body : Ss} {w : List Nat} {ρ : Env} {xs : List D} (I : Nat → Env → Prop) (hi : evI c it false ρ = .ok xs) (h0 : I 0 (wipe ρ w)) (hs : ∀ i d ρ, xs[i]? = some d → I i ρ → ∃ ρ' r, tg.bind d ρ = .ok ρ' ∧ (evSs c body ρ' = .nx r ∨ evSs c body ρ' = .ct r) ∧ I (i + 1) (wipe r w)) : ∃ r, evS c (.for tg it body w) ρ = .nx r ∧ I xs.length r := by
  obtain ⟨r, h1, h2⟩ := forL_inv (step := fun d ρ => toF ρ (tg.bind d ρ) fun ρ' => evSs c body ρ') (w := w) I xs 0 ρ h0 fun i d ρ' e h => by
    rw [Nat.zero_add] at h ⊢
    obtain ⟨ρ2, r, h1, h2, h3⟩ := hs i d ρ' e h
    refine ⟨r, ?_, h3⟩
    rw [h1, toF_ok]
    exact h2
  refine ⟨r, ?_, by rw [Nat.zero_add] at h2; exact h2⟩
  simp only [evS]
  rw [hi, toF_ok]
  exact h1
theorem ss_nx {c : Ctx} {s : S} {l : Ss} {ρ ρ' : Env} (h : evS c s ρ = .nx ρ') : evSs c (.cons s l) ρ = evSs c l ρ' := by
  simp only [evSs]
  rw [h]
theorem ss_rt {c : Ctx} {s : S} {l : Ss} {ρ : Env} {d : D} {o : Bool} (h : evS c s ρ = .rt d o) : evSs c (.cons s l) ρ = .rt d o := by
  simp only [evSs]
  rw [h]
def seqF (r : F) (k : Env → F) : F :=
  match r with
  | .nx ρ => k ρ
  | r => r
@[simp] theorem seqF_nx (ρ : Env) (k : Env → F) : seqF (.nx ρ) k = k ρ := id rfl
@[simp] theorem seqF_rt (d : D) (o : Bool) (k : Env → F) : seqF (.rt d o) k = .rt d o := id rfl
@[simp] theorem seqF_ex (x : Nat) (ρ : Env) (k : Env → F) : seqF (.ex x ρ) k = .ex x ρ := id rfl
@[simp] theorem seqF_bk (ρ : Env) (k : Env → F) : seqF (.bk ρ) k = .bk ρ := id rfl
@[simp] theorem seqF_ct (ρ : Env) (k : Env → F) : seqF (.ct ρ) k = .ct ρ := id rfl
@[simp] theorem ss_cons (c : Ctx) (s : S) (l : Ss) (ρ : Env) : evSs c (.cons s l) ρ = seqF (evS c s ρ) fun ρ' => evSs c l ρ' := by
  simp only [evSs]
  cases evS c s ρ <;> rfl
@[simp] theorem ss_nil (c : Ctx) (ρ : Env) : evSs c .nil ρ = .nx ρ := by simp only [evSs]
theorem run_ok {c : Ctx} {fn : Fn} {ds : List D} {d : D} {o : Bool} (hl : ds.length = fn.np) (h : evSs c fn.body (entry fn.ns ds) = .rt d o) (h1 : fn.fr = true → isMut d = true → o = true) (h2 : fn.sf = true → (imm d || (o && immIn d)) = true) : run c fn ds = .ok (d, o) := by
  unfold run
  rw [if_pos hl, h]
  show fits fn d o = _
  unfold fits
  rw [if_neg]
  intro hh
  simp only [Bool.or_eq_true, Bool.and_eq_true, Bool.not_eq_true', Bool.or_eq_false_iff] at hh
  rcases hh with ⟨⟨g1, g2⟩, g3⟩ | ⟨g1, g2⟩
  · rw [h1 g1 g2] at g3; cases g3
  · have := h2 g1
    rw [Bool.or_eq_true] at this
    rcases this with e | e
    · rw [g2.1] at e; cases e
    · rw [g2.2] at e; cases e
theorem compM_map {α : Type} {f : D → R (Option D)} {g : α → D} {h : α → Option D} : ∀ {xs : List α}, (∀ x ∈ xs, f (g x) = .ok (h x)) → compM f (xs.map g) = .ok (xs.filterMap h)
  | [], _ => rfl
  | x :: xs, H => by
    rw [List.map_cons, compM, H x List.mem_cons_self, quiet_ok', ok_bind, compM_map fun y hy => H y (List.mem_cons_of_mem _ hy), ok_bind]
    cases e : h x with
    | none => rw [List.filterMap_cons_none e]
    | some y => rw [List.filterMap_cons_some e]
end Q
set_option linter.all false
set_option maxRecDepth 100000
/-! Cubes, sequences of them. -/
namespace Q
open PySem PySem.W
abbrev Cube := Int × Int × Int
def cu (c : Cube) : D := .tuple [.int c.1, .int c.2.1, .int c.2.2]
@[simp] theorem mut_cu (c : Cube) : isMut (cu c) = false := rfl
@[simp] theorem imm_cu (c : Cube) : imm (cu c) = true := rfl
@[simp] theorem immAll_cu (S : List Cube) : immAll (S.map cu) = true := by
  induction S with
  | nil => rfl
  | cons c S ih => simp [immAll, ih]
def lstC (c : Cube) : List Int := [c.1, c.2.1, c.2.2]
theorem cu_tupI (c : Cube) : cu c = tupI (lstC c) := rfl
theorem cu_inj {a b : Cube} (h : cu a = cu b) : a = b := by
  obtain ⟨x, y, z⟩ := a
  obtain ⟨x', y', z'⟩ := b
  simp only [cu, PyData.tuple.injEq, List.cons.injEq, PyData.int.injEq] at h
  obtain ⟨h1, h2, h3, _⟩ := h
  subst h1 h2 h3
  rfl
/-- the order of cubes -/
def ltC (a b : Cube) : Bool := decide (a.1 < b.1) || (decide (a.1 = b.1) && (decide (a.2.1 < b.2.1) || (decide (a.2.1 = b.2.1) && decide (a.2.2 < b.2.2))))
theorem dataLt_cu (a b : Cube) : dataLt (cu a) (cu b) = ltC a b := by
  have h : dataLt (tupI (lstC a)) (tupI (lstC b)) = decide (lstC a < lstC b) := by
    unfold tupI
    rw [dataLt_tuple]
    exact dataLt_ints _ _
  rw [cu_tupI, cu_tupI, h]
  unfold lstC ltC
  simp only [List.cons_lt_cons_iff]
  rw [Bool.eq_iff_iff]
  simp [List.lt_irrefl]
theorem alike_cu (a b : Cube) : alike (cu a) (cu b) = true := by simp [cu, alike, alikeAll]
theorem srtOne_cu (a : Cube) : srtOne (cu a) = true := rfl
theorem dOk_cu (a : Cube) : dOk (cu a) = true := by
  unfold dOk cu
  simp [PyData.plain, PyData.plainAll, PyData.depth, PyData.depthAll]
@[simp] theorem s_lt_cu (a b : Cube) : sem .lt [cu a, cu b] = .ok (.bool (ltC a b)) := by
  simp only [sem]
  unfold sOrd
  split
  · rename_i h; simp [cu] at h
  · rename_i x y _ h
    cases h
    rw [if_pos (by simp [alike_cu, srtOne_cu, dOk_cu])]
    show R.ok (PyData.bool (dataLt (cu a) (cu b))) = _
    rw [dataLt_cu]
  · rename_i h; exact absurd rfl (h _ _)
theorem allOk_cu : ∀ S : List Cube, allOk (S.map cu) = true
  | [] => rfl
  | c :: S => by simp [allOk, dOk_cu, allOk_cu S]
theorem alikes_cu (S T : List Cube) : alikes (S.map cu) (T.map cu) = true := by
  have h : ∀ (c : Cube) (T : List Cube), alikeTo (cu c) (T.map cu) = true := fun c T => by
    induction T with
    | nil => rfl
    | cons d T ih => simp [alikeTo, alike_cu, ih]
  induction S with
  | nil => rfl
  | cons c S ih => simp [alikes, h, ih]
theorem srtOk_cu (S : List Cube) : srtOk (S.map cu) = true := by
  unfold srtOk
  rw [alikes_cu, allOk_cu]
  simp [srtOne_cu]
/-- sorted lists of cubes -/
def leC (a b : Cube) : Bool := !ltC b a
def sortC (S : List Cube) : List Cube := isort leC S
theorem ins_map {α β : Type} {le : α → α → Bool} {le' : β → β → Bool} {f : α → β} (h : ∀ a b, le' (f a) (f b) = le a b) (x : α) (l : List α) : ins le' (f x) (l.map f) = (ins le x l).map f := by
  induction l with
  | nil => rfl
  | cons y r ih =>
    rw [List.map_cons, ins, ins, h]
    split
    · rfl
    · rw [ih, List.map_cons]
theorem isort_map {α β : Type} {le : α → α → Bool} {le' : β → β → Bool} {f : α → β} (h : ∀ a b, le' (f a) (f b) = le a b) (l : List α) : isort le' (l.map f) = (isort le l).map f := by
  induction l with
  | nil => rfl
  | cons y r ih => rw [List.map_cons, isort, ih, ins_map h, isort]
theorem dle_cu (a b : Cube) : dle (cu a) (cu b) = leC a b := by
  unfold dle leC
  rw [dataLt_cu]
@[simp] theorem s_sorted_cu (S : List Cube) : sem .sorted [.list (S.map cu)] = .ok (.list ((sortC S).map cu)) := by
  show sortD (S.map cu) = _
  unfold sortD
  rw [if_pos (srtOk_cu S), isort_map dle_cu]
  rfl
@[simp] theorem s_sorted_cut (S : List Cube) : sem .sorted [.tuple (S.map cu)] = .ok (.list ((sortC S).map cu)) := by
  show sortD (S.map cu) = _
  unfold sortD
  rw [if_pos (srtOk_cu S), isort_map dle_cu]
  rfl
theorem bools_map (bs : List Bool) : bools (bs.map .bool) = some bs := by
  induction bs with
  | nil => rfl
  | cons b bs ih => simp [bools, ih]
@[simp] theorem s_all_map {α : Type} (f : α → Bool) (xs : List α) : sem .all [.list (xs.map fun x => .bool (f x))] = .ok (.bool (xs.all f)) := by
  have : xs.map (fun x => PyData.bool (f x)) = (xs.map f).map .bool := by rw [List.map_map]; rfl
  rw [this]
  simp only [sem, sAll, bools_map]
  rw [List.all_map]
  rfl
@[simp] theorem s_any_map {α : Type} (f : α → Bool) (xs : List α) : sem .any [.list (xs.map fun x => .bool (f x))] = .ok (.bool (xs.any f)) := by
  have : xs.map (fun x => PyData.bool (f x)) = (xs.map f).map .bool := by rw [List.map_map]; rfl
  rw [this]
  simp only [sem, sAll, bools_map]
  rw [List.any_map]
  rfl
@[simp] theorem s_eq_int (i j : Int) : sem .eq [.int i, .int j] = .ok (.bool (decide (i = j))) := by
  simp only [sem, sEq]
  rw [if_pos (by simp [dOk, PyData.plain, PyData.depth])]
  simp [PyData.eqv]
  rfl
@[simp] theorem s_ne_int (i j : Int) : sem .ne [.int i, .int j] = .ok (.bool (!decide (i = j))) := by
  simp only [sem, sEq]
  rw [if_pos (by simp [dOk, PyData.plain, PyData.depth])]
  simp [PyData.eqv]
  rfl
@[simp] theorem LIM_is : LIM = 16777216 := id rfl
@[simp] theorem s_all (bs : List Bool) : sem .all [.list (bs.map .bool)] = .ok (.bool (bs.all id)) := by
  simp only [sem, sAll, bools_map]
  rfl
@[simp] theorem s_any (bs : List Bool) : sem .any [.list (bs.map .bool)] = .ok (.bool (bs.any id)) := by
  simp only [sem, sAll, bools_map]
  rfl
theorem cut1 {α : Type} (xs : List α) : cut xs (some 1) none = xs.tail := by
  rw [← List.drop_one]
  unfold cut
  rw [show HT.sIx xs.length 0 (some 1) = min 1 xs.length from HT.sIx_nat xs.length 0 1, HT.sIx_none]
  cases xs with
  | nil => rfl
  | cons x r =>
    rw [show min 1 (x :: r).length = 1 by rw [List.length_cons]; omega]
    show (List.take ((x :: r).length - 1) r) = r
    rw [List.length_cons, Nat.add_sub_cancel]
    exact List.take_length
theorem zip2_map {α β : Type} (f : α → D) (g : β → D) (xs : List α) (ys : List β) : zip2 (xs.map f) (ys.map g) = (xs.zip ys).map fun p => .tuple [f p.1, g p.2] := by
  induction xs generalizing ys with
  | nil => rfl
  | cons x xs ih => cases ys with
    | nil => rfl
    | cons y ys => simp [zip2, ih]
/-- a comprehension over what is known -/
theorem ev_comp {c : Ctx} {m : Bool} {ρ : Env} {elt : E} {tg : Tg} {it : I} {t : Option T} {α : Type} {g : α → D} {h : α → Option D} {xs : List α} (hi : evI c it true ρ = .ok (xs.map g)) (H : ∀ x ∈ xs, (tg.bind (g x) (wipe ρ tg.slots) >>= fun ρ' => evTo c t ρ' >>= fun k => if k then evE c elt false ρ' >>= fun y => .ok (some y) else .ok none) = .ok (h x)) (hl : xs.length ≤ LIM) : evE c (.comp elt tg it t) m ρ = .ok (.list (xs.filterMap h)) := by
  simp only [evE]
  rw [hi, ok_bind, compM_map H, ok_bind, if_pos (Nat.le_trans (List.length_filterMap_le _ _) hl)]
theorem filterMap_some {α β : Type} (f : α → β) (xs : List α) : xs.filterMap (fun x => some (f x)) = xs.map f := by
  induction xs with
  | nil => rfl
  | cons x xs ih => simp
theorem eqvAll_cu : ∀ (S T : List Cube), PyData.eqvAll (S.map cu) (T.map cu) = decide (S = T)
  | [], [] => by simp [PyData.eqvAll]
  | [], _ :: _ => by simp [PyData.eqvAll]
  | _ :: _, [] => by simp [PyData.eqvAll]
  | a :: S, b :: T => by
    simp only [List.map_cons, PyData.eqvAll, eqvAll_cu S T]
    rw [cu_tupI, cu_tupI, eqv_tupI]
    have : (lstC a = lstC b) ↔ a = b := ⟨fun h => cu_inj (by rw [cu_tupI, cu_tupI, h]), fun h => by rw [h]⟩
    by_cases h : a = b <;> simp [h, this]
theorem dOk_cubes (S : List Cube) : dOk (.tuple (S.map cu)) = true ∧ dOk (.list (S.map cu)) = true := by
  have h1 : PyData.plainAll (S.map cu) = true := by
    induction S with
    | nil => rfl
    | cons c S ih => simp [PyData.plainAll, PyData.plain, cu, ih]
  have h2 : PyData.depthAll (S.map cu) ≤ 2 := by
    clear h1
    induction S with
    | nil => simp [PyData.depthAll]
    | cons c S ih =>
      have : PyData.depth (cu c) ≤ 2 := by simp [cu, PyData.depth, PyData.depthAll]
      simp only [List.map_cons, PyData.depthAll]
      omega
  unfold dOk
  simp only [PyData.plain, PyData.depth, h1]
  constructor <;> (simp; omega)
@[simp] theorem s_eq_cubes (S T : List Cube) : sem .eq [.tuple (S.map cu), .tuple (T.map cu)] = .ok (.bool (decide (S = T))) := by
  simp only [sem, sEq]
  rw [if_pos (by simp [(dOk_cubes S).1, (dOk_cubes T).1])]
  simp [PyData.eqv, eqvAll_cu]
@[simp] theorem s_eq_cubesl (S T : List Cube) : sem .eq [.list (S.map cu), .list (T.map cu)] = .ok (.bool (decide (S = T))) := by
  simp only [sem, sEq]
  rw [if_pos (by simp [(dOk_cubes S).2, (dOk_cubes T).2])]
  simp [PyData.eqv, eqvAll_cu]
/-! least and greatest of whole numbers -/
def minL (n : Int) (ns : List Int) : Int := ns.foldl (fun a y => if y < a then y else a) n
def maxL (n : Int) (ns : List Int) : Int := ns.foldl (fun a y => if a < y then y else a) n
theorem minD_int (n : Int) (ns : List Int) : minD (.int n) (ns.map .int) = .int (minL n ns) := by
  unfold minD minL
  induction ns generalizing n with
  | nil => rfl
  | cons m ns ih =>
    simp only [List.map_cons, List.foldl_cons, dataLt_int]
    by_cases h : m < n
    · simp only [h, decide_true, if_true]; exact ih m
    · simp only [h, decide_false, if_false]; exact ih n
theorem maxD_int (n : Int) (ns : List Int) : maxD (.int n) (ns.map .int) = .int (maxL n ns) := by
  unfold maxD maxL
  induction ns generalizing n with
  | nil => rfl
  | cons m ns ih =>
    simp only [List.map_cons, List.foldl_cons, dataLt_int]
    by_cases h : n < m
    · simp only [h, decide_true, if_true]; exact ih m
    · simp only [h, decide_false, if_false]; exact ih n
theorem srtOk_int (ns : List Int) : srtOk (ns.map .int) = true := by
  have h1 : ∀ (c : Int) (T : List Int), alikeTo (.int c) (T.map .int) = true := fun c T => by
    induction T with
    | nil => rfl
    | cons d T ih => simp [alikeTo, alike, ih]
  have h2 : ∀ S T : List Int, alikes (S.map .int) (T.map .int) = true := fun S T => by
    induction S with
    | nil => rfl
    | cons c S ih => simp [alikes, h1, ih]
  have h3 : ∀ S : List Int, allOk (S.map .int) = true := fun S => by
    induction S with
    | nil => rfl
    | cons c S ih => simp [allOk, dOk, PyData.plain, PyData.depth, ih]
  have h4 : (ns.map PyData.int).all srtOne = true := by
    rw [List.all_eq_true]
    intro x hx
    obtain ⟨i, _, rfl⟩ := List.mem_map.mp hx
    rfl
  unfold srtOk
  rw [h2, h3, h4]
  rfl
theorem s_min_int (n : Int) (ns : List Int) : sem .min [.list (.int n :: ns.map .int)] = .ok (.int (minL n ns)) := by
  have h := srtOk_int (n :: ns)
  rw [List.map_cons] at h
  simp only [sem, sLeast, least]
  rw [if_pos h, minD_int]
theorem s_max_int (n : Int) (ns : List Int) : sem .max [.list (.int n :: ns.map .int)] = .ok (.int (maxL n ns)) := by
  have h := srtOk_int (n :: ns)
  rw [List.map_cons] at h
  simp only [sem, sLeast, least]
  rw [if_pos h, maxD_int]
/-- a cube's number along an axis -/
def co (a : Int) (c : Cube) : Int := if a = 0 then c.1 else if a = 1 then c.2.1 else c.2.2
theorem it_co {a : Int} (h0 : 0 ≤ a) (h2 : a ≤ 2) (c : Cube) : itemAt [.int c.1, .int c.2.1, .int c.2.2] a = some (.int (co a c)) := by
  have : a = 0 ∨ a = 1 ∨ a = 2 := by omega
  rcases this with rfl | rfl | rfl <;> simp [co]
theorem s_ix_cu {a : Int} (h0 : 0 ≤ a) (h2 : a ≤ 2) (c : Cube) : sem .ix [cu c, .int a] = .ok (.int (co a c)) := by
  unfold cu
  rw [s_ix_t, it_co h0 h2]
  rfl
/-- the least numbers of a solid along the axes -/
def loA (a : Int) : List Cube → Int
  | [] => 0
  | c :: S => minL (co a c) (S.map (co a))
def hiA (a : Int) : List Cube → Int
  | [] => 0
  | c :: S => maxL (co a c) (S.map (co a))
def homeC (S : List Cube) : List Cube := S.map fun c => (c.1 - loA 0 S, c.2.1 - loA 1 S, c.2.2 - loA 2 S)
/-! solids -/
def inC (n : Int) : Bool := decide (0 ≤ n) && decide (n ≤ 7)
def okC (c : Cube) : Bool := inC c.1 && inC c.2.1 && inC c.2.2
def ascC (S : List Cube) : Bool := (S.zip S.tail).all fun p => ltC p.1 p.2
def solidB (S : List Cube) : Bool := decide (S.length ≤ 96) && S.all okC && ascC S
end Q
set_option linter.all false
set_option maxRecDepth 100000
/-! The draws of a law. -/
namespace Q
open PySem PySem.W
def dr_b_2 : Ss := (.cons (.ifs (.cmp .gt (.v 6) (.c (.int 0))) (.cons (.app 2 (.op .mod (.cons (.op .int (.cons (.v 6) .nil)) (.cons (.c (.int 1009)) .nil)))) (.cons (.asg (.n 6) (.op .fdiv (.cons (.v 6) (.cons (.c (.int 1009)) .nil)))) .nil)) .nil) .nil)
def dr_b_1 : Ss := (.cons (.asg (.n 6) (.op .abs (.cons (.v 4) .nil))) (.cons (.asg (.n 3) (.op .mod (.cons (.op .int (.cons (.op .add (.cons (.op .add (.cons (.op .mul (.cons (.v 3) (.cons (.c (.int 48271)) .nil))) (.cons (.v 6) .nil))) (.cons (.c (.int 11)) .nil))) .nil)) (.cons (.c (.int 2147483647)) .nil)))) (.cons (.ifs (.cmp .ge (.v 6) (.op .pow (.cons (.c (.int 10)) (.cons (.c (.int 18)) .nil)))) (.cons (.for (.n 5) (.rng (.cons (.c (.int 60)) .nil)) dr_b_2 [5]) .nil) (.cons (.app 2 (.op .mod (.cons (.op .fdiv (.cons (.op .int (.cons (.op .add (.cons (.op .mul (.cons (.v 3) (.cons (.c (.int 16807)) .nil))) (.cons (.c (.int 5)) .nil))) .nil)) (.cons (.c (.int 3)) .nil))) (.cons (.c (.int 65521)) .nil)))) .nil)) .nil)))
def dr_b_3 : Ss := (.cons (.ifs (.cmp .lt (.op .len (.cons (.v 2) .nil)) (.v 1)) (.cons (.asg (.n 3) (.op .mod (.cons (.op .int (.cons (.op .add (.cons (.op .add (.cons (.op .mul (.cons (.v 3) (.cons (.c (.int 69621)) .nil))) (.cons (.v 5) .nil))) (.cons (.c (.int 1)) .nil))) .nil)) (.cons (.c (.int 2147483647)) .nil)))) (.cons (.app 2 (.op .mod (.cons (.op .fdiv (.cons (.op .int (.cons (.v 3) .nil)) (.cons (.c (.int 7)) .nil))) (.cons (.c (.int 65521)) .nil)))) .nil)) .nil) .nil)
def drFn : Fn := ⟨2, 7, true, true, (.cons (.asg (.n 2) (.op .lst .nil)) (.cons (.asg (.n 3) (.c (.int 7))) (.cons (.for (.n 4) (.e (.op (.slc false true) (.cons (.v 0) (.cons (.c (.int 63)) .nil)))) dr_b_1 [4, 5, 6]) (.cons (.for (.n 5) (.rng (.cons (.v 1) .nil)) dr_b_3 [5]) (.cons (.ret (.op (.slc false true) (.cons (.v 2) (.cons (.v 1) .nil)))) .nil)))))⟩

def absI (i : Int) : Int := if i < 0 then -i else i
@[simp] theorem s_abs (i : Int) : sem .abs [.int i] = .ok (.int (absI i)) := rfl
theorem absI_nonneg (i : Int) : 0 ≤ absI i := by unfold absI; split <;> omega
theorem s_fdiv {i j : Int} (h : 0 < j) (h2 : j < 1073741824) : sem .fdiv [.int i, .int j] = .ok (.int (i / j)) := by
  simp only [sem]
  simp [sDiv, h, h2]
theorem s_mod {i j : Int} (h : 0 < j) : sem .mod [.int i, .int j] = .ok (.int (i % j)) := by
  simp only [sem]
  simp [sMod, h]
@[simp] theorem s_pow18 : sem .pow [.int 10, .int 18] = .ok (.int 1000000000000000000) := rfl
theorem mulOk_r (i : Int) {j : Int} (h : -(2 ^ 64) < j) (h2 : j < 2 ^ 64) : mulOk i j = true := by
  unfold mulOk
  simp
  right
  omega
def okL (l : List Int) : Prop := ∀ d ∈ l, 0 ≤ d
theorem okL_app {l : List Int} {x : Int} (h : okL l) (hx : 0 ≤ x) : okL (l ++ [x]) := fun d hd => by
  rcases List.mem_append.mp hd with hd | hd
  · exact h d hd
  · rw [List.mem_singleton.mp hd]; exact hx
section
variable (c : Ctx) (X M : Sl)
def dr_s2 : D → Env → F := fun d ρ => toF ρ (Tg.bind (.n 5) d ρ) fun ρ' => evSs c dr_b_2 ρ'
/-- the inner loop: some numbers are put behind the list -/
theorem dr_in : ∀ (n : Nat) (lo : Int) (l : List Int) (num : Int) (S Y : Sl), l.length + n ≤ 100000 → okL l → 0 ≤ num → ∃ l' num', forL (dr_s2 c) [5] (rngL lo n) [X, M, some (.list (l.map .int), 1), S, Y, none, some (.int num, 0)] = .nx [X, M, some (.list (l'.map .int), 1), S, Y, none, some (.int num', 0)] ∧ l'.length ≤ l.length + n ∧ okL l'
  | 0, lo, l, num, S, Y, h1, h2, h3 => ⟨l, num, by simp [rngL, forL], by omega, h2⟩
  | n + 1, lo, l, num, S, Y, h1, h2, h3 => by
    rw [rngL, forL]
    by_cases hp : 0 < num
    · have hs : l.length < 16777216 := by omega
      obtain ⟨l', num', e1, e2, e3⟩ := dr_in n (lo + 1) (l ++ [num % 1009]) (num / 1009) S Y (by simp; omega) (okL_app h2 (by omega)) (by omega)
      refine ⟨l', num', ?_, by simp at e2; omega, e3⟩
      have st : dr_s2 c (.int lo) (wipe [X, M, some (.list (l.map .int), 1), S, Y, none, some (.int num, 0)] [5]) = .nx [X, M, some (.list ((l ++ [num % 1009]).map .int), 1), S, Y, some (.int lo, 0), some (.int (num / 1009), 0)] := by
        simp [dr_s2, dr_b_2, hp, s_mod, s_fdiv, hs]
      rw [st]
      cases n with
      | zero => exact e1
      | succ n => rw [← e1]; simp only [rngL, forL]; rfl
    · obtain ⟨l', num', e1, e2, e3⟩ := dr_in n (lo + 1) l num S Y (by omega) h2 h3
      refine ⟨l', num', ?_, by omega, e3⟩
      have st : dr_s2 c (.int lo) (wipe [X, M, some (.list (l.map .int), 1), S, Y, none, some (.int num, 0)] [5]) = .nx [X, M, some (.list (l.map .int), 1), S, Y, some (.int lo, 0), some (.int num, 0)] := by
        simp [dr_s2, dr_b_2, hp]
      rw [st]
      cases n with
      | zero => exact e1
      | succ n => rw [← e1]; simp only [rngL, forL]; rfl
theorem forL_wipe {step : D → Env → F} {w : List Nat} {ρ ρ' : Env} (h : wipe ρ w = wipe ρ' w) (ds : List D) : forL step w ds ρ = forL step w ds ρ' := by
  cases ds with
  | nil => simp only [forL, h]
  | cons d ds => simp only [forL, h]
def dr_s1 : D → Env → F := fun d ρ => toF ρ (Tg.bind (.n 4) d ρ) fun ρ' => evSs c dr_b_1 ρ'
/-- the outer loop -/
theorem dr_out : ∀ (ns : List Int) (l : List Int) (seed : Int), l.length + 60 * ns.length ≤ 50000 → okL l → 0 ≤ seed → ∃ l' seed', forL (dr_s1 c) [4, 5, 6] (ns.map .int) [X, M, some (.list (l.map .int), 1), some (.int seed, 0), none, none, none] = .nx [X, M, some (.list (l'.map .int), 1), some (.int seed', 0), none, none, none] ∧ l'.length ≤ l.length + 60 * ns.length ∧ okL l' ∧ 0 ≤ seed'
  | [], l, seed, h1, h2, h3 => ⟨l, seed, by simp [forL], by simp, h2, h3⟩
  | n :: ns, l, seed, h1, h2, h3 => by
    simp only [List.length_cons] at h1
    let sd := (seed * 48271 + absI n + 11) % 2147483647
    have hsd : 0 ≤ sd := Int.emod_nonneg _ (by decide)
    have step : ∃ l1 num Z, dr_s1 c (.int n) [X, M, some (.list (l.map .int), 1), some (.int seed, 0), none, none, none] = .nx [X, M, some (.list (l1.map .int), 1), some (.int sd, 0), some (.int n, 0), Z, some (.int num, 0)] ∧ l1.length ≤ l.length + 60 ∧ okL l1 := by
      have hm1 : mulOk seed 48271 = true := mulOk_r _ (by decide) (by decide)
      by_cases hb : (1000000000000000000 : Int) ≤ absI n
      · obtain ⟨l1, num, e1, e2, e3⟩ := dr_in c X M 60 0 l (absI n) (some (.int sd, 0)) (some (.int n, 0)) (by omega) h2 (absI_nonneg n)
        refine ⟨l1, num, none, ?_, e2, e3⟩
        have hf : evS c (.for (.n 5) (.rng (.cons (.c (.int 60)) .nil)) dr_b_2 [5]) [X, M, some (.list (l.map .int), 1), some (.int sd, 0), some (.int n, 0), none, some (.int (absI n), 0)] = .nx [X, M, some (.list (l1.map .int), 1), some (.int sd, 0), some (.int n, 0), none, some (.int num, 0)] := by
          simp only [evS]
          have hr : evI c (.rng (.cons (.c (.int 60)) .nil)) false [X, M, some (.list (l.map .int), 1), some (.int sd, 0), some (.int n, 0), none, some (.int (absI n), 0)] = .ok (rngL 0 60) := by simp [rangeD, small]
          rw [hr, toF_ok]
          exact e1
        simp [dr_s1, dr_b_1, s_mul hm1, s_mod, hb]
        exact congrArg (fun r => seqF (seqF r fun ρ' => .nx ρ') fun ρ' => .nx ρ') hf
      · refine ⟨l ++ [(sd * 16807 + 5) / 3 % 65521], absI n, none, ?_, by simp, okL_app h2 (by omega)⟩
        have hm2 : mulOk sd 16807 = true := mulOk_r _ (by decide) (by decide)
        have hs : l.length < 16777216 := by omega
        have e1 : dr_s1 c (.int n) [X, M, some (.list (l.map .int), 1), some (.int seed, 0), none, none, none] = .nx [X, M, some (.list ((l ++ [((seed * 48271 + absI n + 11) % 2147483647 * 16807 + 5) / 3 % 65521]).map .int), 1), some (.int ((seed * 48271 + absI n + 11) % 2147483647), 0), some (.int n, 0), none, some (.int (absI n), 0)] := by
          have hm3 : mulOk ((seed * 48271 + absI n + 11) % 2147483647) 16807 = true := hm2
          simp [dr_s1, dr_b_1, s_mul hm1, s_mul hm3, s_mod, s_fdiv, hb, hs]
        exact e1
    obtain ⟨l1, num, Z, e1, e2, e3⟩ := step
    obtain ⟨l', seed', f1, f2, f3, f4⟩ := dr_out ns l1 sd (by omega) e3 hsd
    refine ⟨l', seed', ?_, by simp only [List.length_cons]; omega, f3, f4⟩
    rw [List.map_cons, forL]
    have hw : wipe [X, M, some (.list (l.map .int), 1), some (.int seed, 0), none, none, none] [4, 5, 6] = [X, M, some (.list (l.map .int), 1), some (.int seed, 0), none, none, none] := rfl
    rw [hw, e1]
    show forL (dr_s1 c) [4, 5, 6] (ns.map .int) _ = _
    rw [← f1]
    refine forL_wipe ?_ _
    rfl
def dr_s3 : D → Env → F := fun d ρ => toF ρ (Tg.bind (.n 5) d ρ) fun ρ' => evSs c dr_b_3 ρ'
/-- the list is filled up -/
theorem dr_fill : ∀ (n : Nat) (lo : Int) (l : List Int) (seed : Int) (m : Nat), l.length + n ≤ 100000 → okL l → 0 ≤ seed → 0 ≤ lo → ∃ l' seed', forL (dr_s3 c) [5] (rngL lo n) [X, some (.int m, 0), some (.list (l.map .int), 1), some (.int seed, 0), none, none, none] = .nx [X, some (.int m, 0), some (.list (l'.map .int), 1), some (.int seed', 0), none, none, none] ∧ (m ≤ l.length + n → m ≤ l'.length) ∧ okL l'
  | 0, lo, l, seed, m, h1, h2, h3, h4 => ⟨l, seed, by simp [rngL, forL], by omega, h2⟩
  | n + 1, lo, l, seed, m, h1, h2, h3, h4 => by
    rw [rngL, forL]
    have hw : wipe [X, some (.int m, 0), some (.list (l.map .int), 1), some (.int seed, 0), none, none, none] [5] = [X, some (.int m, 0), some (.list (l.map .int), 1), some (.int seed, 0), none, none, none] := rfl
    rw [hw]
    by_cases hp : l.length < m
    · have hs : l.length < 16777216 := by omega
      have hm1 : mulOk seed 69621 = true := mulOk_r _ (by decide) (by decide)
      obtain ⟨l', seed', e1, e2, e3⟩ := dr_fill n (lo + 1) (l ++ [(seed * 69621 + lo + 1) % 2147483647 / 7 % 65521]) ((seed * 69621 + lo + 1) % 2147483647) m (by simp; omega) (okL_app h2 (by omega)) (by omega) (by omega)
      refine ⟨l', seed', ?_, by simp at e2; omega, e3⟩
      have st : dr_s3 c (.int lo) [X, some (.int m, 0), some (.list (l.map .int), 1), some (.int seed, 0), none, none, none] = .nx [X, some (.int m, 0), some (.list ((l ++ [(seed * 69621 + lo + 1) % 2147483647 / 7 % 65521]).map .int), 1), some (.int ((seed * 69621 + lo + 1) % 2147483647), 0), none, some (.int lo, 0), none] := by
        have hp' : (l.length : Int) < (m : Int) := by omega
        simp [dr_s3, dr_b_3, hp, hp', s_mul hm1, s_mod, s_fdiv, hs]
      rw [st, ← e1]
      show forL (dr_s3 c) [5] (rngL (lo + 1) n) _ = _
      refine forL_wipe ?_ _
      rfl
    · obtain ⟨l', seed', e1, e2, e3⟩ := dr_fill n (lo + 1) l seed m (by omega) h2 h3 (by omega)
      refine ⟨l', seed', ?_, by omega, e3⟩
      have st : dr_s3 c (.int lo) [X, some (.int m, 0), some (.list (l.map .int), 1), some (.int seed, 0), none, none, none] = .nx [X, some (.int m, 0), some (.list (l.map .int), 1), some (.int seed, 0), none, some (.int lo, 0), none] := by
        have hp' : ¬ (l.length : Int) < (m : Int) := by omega
        simp [dr_s3, dr_b_3, hp, hp']
      rw [st, ← e1]
      show forL (dr_s3 c) [5] (rngL (lo + 1) n) _ = _
      refine forL_wipe ?_ _
      rfl
theorem small_ok {i : Int} (h0 : 0 ≤ i) (h1 : i ≤ 1000000) : small i = true := by
  simp only [small, Bool.and_eq_true, decide_eq_true_eq]
  constructor <;> omega
theorem dr_g1 (ns : List Int) (l1 : List Int) (s1 : Int) (m : Nat) (e1 : forL (dr_s1 c) [4, 5, 6] ((ns.take 63).map .int) [some (.list (ns.map .int), 0), some (.int m, 0), some (.list [], 1), some (.int 7, 0), none, none, none] = .nx [some (.list (ns.map .int), 0), some (.int m, 0), some (.list (l1.map .int), 1), some (.int s1, 0), none, none, none]) : evS c (.for (.n 4) (.e (.op (.slc false true) (.cons (.v 0) (.cons (.c (.int 63)) .nil)))) dr_b_1 [4, 5, 6]) [some (.list (ns.map .int), 0), some (.int m, 0), some (.list [], 1), some (.int 7, 0), none, none, none] = .nx [some (.list (ns.map .int), 0), some (.int m, 0), some (.list (l1.map .int), 1), some (.int s1, 0), none, none, none] := by
  have hr : evI c (.e (.op (.slc false true) (.cons (.v 0) (.cons (.c (.int 63)) .nil)))) false [some (.list (ns.map .int), 0), some (.int m, 0), some (.list [], 1), some (.int 7, 0), none, none, none] = .ok ((ns.take 63).map .int) := by simp [List.map_take]
  simp only [evS]
  rw [hr, toF_ok]
  exact e1
theorem dr_g2 (ns l1 l2 : List Int) (s1 s2 : Int) (m : Nat) (hm : m ≤ 1000) (f1 : forL (dr_s3 c) [5] (rngL 0 m) [some (.list (ns.map .int), 0), some (.int m, 0), some (.list (l1.map .int), 1), some (.int s1, 0), none, none, none] = .nx [some (.list (ns.map .int), 0), some (.int m, 0), some (.list (l2.map .int), 1), some (.int s2, 0), none, none, none]) : evS c (.for (.n 5) (.rng (.cons (.v 1) .nil)) dr_b_3 [5]) [some (.list (ns.map .int), 0), some (.int m, 0), some (.list (l1.map .int), 1), some (.int s1, 0), none, none, none] = .nx [some (.list (ns.map .int), 0), some (.int m, 0), some (.list (l2.map .int), 1), some (.int s2, 0), none, none, none] := by
  have hr : evI c (.rng (.cons (.v 1) .nil)) false [some (.list (ns.map .int), 0), some (.int m, 0), some (.list (l1.map .int), 1), some (.int s1, 0), none, none, none] = .ok (rngL 0 m) := by
    have h1 : small (m : Int) = true := small_ok (by omega) (by omega)
    have h2 : rangeD [.int (m : Int)] = .ok (rngL 0 m) := by
      simp only [rangeD]
      rw [if_pos h1, Int.toNat_natCast]
    rw [ei_rng, ev_cons, ev_nil, ev_v c true _ (d := .int m) rfl, ok_bind, ok_bind, ok_bind]
    exact h2
  simp only [evS]
  rw [hr, toF_ok]
  exact f1
theorem imm_ints (l : List Int) : immAll (l.map .int) = true := by
  induction l with
  | nil => rfl
  | cons x l ih => simp [immAll, imm, ih]
theorem draws_ok (ns : List Int) (m : Nat) (hm : m ≤ 1000) : ∃ dr : List Int, run c drFn [.list (ns.map .int), .int m] = .ok (.list (dr.map .int), true) ∧ dr.length = m ∧ okL dr := by
  have h63 : (ns.take 63).length ≤ 63 := List.length_take_le 63 ns
  obtain ⟨l1, s1, e1, e2, e3, e4⟩ := dr_out c (some (.list (ns.map .int), 0)) (some (.int m, 0)) (ns.take 63) [] 7 (by rw [List.length_nil]; omega) (fun d h => absurd h List.not_mem_nil) (by decide)
  have hl1 : l1.length ≤ 3780 := by rw [List.length_nil] at e2; omega
  obtain ⟨l2, s2, f1, f2, f3⟩ := dr_fill c (some (.list (ns.map .int), 0)) m 0 l1 s1 m (by omega) e3 e4 (by decide)
  have hlen := f2 (by omega)
  refine ⟨l2.take m, run_ok rfl ?_ (fun _ _ => rfl) (fun _ => ?_), by rw [List.length_take]; omega, fun d hd => f3 d (List.mem_of_mem_take hd)⟩
  · have g1 := dr_g1 c ns l1 s1 m e1
    have g2 := dr_g2 c ns l1 l2 s1 s2 m hm f1
    have hc : cut (l2.map PyData.int) none (some (m : Int)) = (l2.take m).map .int := by rw [cut_take, List.map_take]
    simp only [drFn]
    rw [ss_nx (ρ' := [some (.list (ns.map .int), 0), some (.int m, 0), some (.list [], 1), none, none, none, none]) (by simp), ss_nx (ρ' := [some (.list (ns.map .int), 0), some (.int m, 0), some (.list [], 1), some (.int 7, 0), none, none, none]) (by simp), ss_nx g1, ss_nx g2]
    simp [hc]
  · show (imm (.list _) || (true && immIn (.list _))) = true
    simp only [immIn, imm_ints]
    rfl
end
end Q
set_option linter.all false
set_option maxRecDepth 100000
/-! Loops over ranges, filters, sorted lists. -/
namespace Q
open PySem PySem.W
def rngI (lo : Int) : Nat → List Int
  | 0 => []
  | n + 1 => lo :: rngI (lo + 1) n
theorem rngL_eq (lo : Int) (n : Nat) : rngL lo n = (rngI lo n).map .int := by
  induction n generalizing lo with
  | zero => rfl
  | succ n ih => rw [rngL, rngI, ih, List.map_cons]
theorem rngI_mem {lo : Int} {n : Nat} {i : Int} (h : i ∈ rngI lo n) : lo ≤ i ∧ i < lo + n := by
  induction n generalizing lo with
  | zero => exact absurd h List.not_mem_nil
  | succ n ih =>
    rcases List.mem_cons.mp h with rfl | h
    · exact ⟨Int.le_refl _, by omega⟩
    · obtain ⟨a, b⟩ := ih h
      exact ⟨by omega, by omega⟩
theorem forL_nx {step : D → Env → F} {w : List Nat} {d : D} {ds : List D} {ρ r : Env} (h : step d (wipe ρ w) = .nx r) : forL step w (d :: ds) ρ = forL step w ds r := by
  rw [forL, h]
/-- a loop whose turns each put something behind a list -/
theorem forL_app {step : D → Env → F} {w : List Nat} {α : Type} (g : α → D) (env : List D → Env) (f : α → List D) (xs : List α) (hw : ∀ l, wipe (env l) w = env l) (P : α → Prop) (hP : ∀ x ∈ xs, P x) (N B : Nat) (hN : ∀ x ∈ xs, (f x).length ≤ N)
    (hs : ∀ x l, P x → l.length + N ≤ B → ∃ r, step (g x) (env l) = .nx r ∧ wipe r w = env (l ++ f x)) : ∀ (l : List D), l.length + N * xs.length ≤ B → forL step w (xs.map g) (env l) = .nx (env (l ++ (xs.map f).flatten)) := by
  induction xs with
  | nil => exact fun l _ => by rw [List.map_nil, forL, hw]; simp
  | cons x xs ih =>
    intro l hl
    simp only [List.length_cons] at hl
    have hx := hN x List.mem_cons_self
    have hl0 : l.length + N + N * xs.length ≤ B := by
      have : N * (xs.length + 1) = N * xs.length + N := Nat.mul_succ _ _
      omega
    obtain ⟨r, h1, h2⟩ := hs x l (hP x List.mem_cons_self) (by omega)
    rw [List.map_cons, forL, hw, h1]
    show forL step w (xs.map g) r = _
    rw [forL_wipe (ρ' := env (l ++ f x)) (by rw [h2, hw])]
    rw [ih (fun y hy => hP y (List.mem_cons_of_mem _ hy)) (fun y hy => hN y (List.mem_cons_of_mem _ hy)) (l ++ f x) (by rw [List.length_append]; omega)]
    simp
/-! strictly sorted lists of cubes -/
theorem ltC_iff (a b : Cube) : ltC a b = true ↔ (a.1 < b.1 ∨ (a.1 = b.1 ∧ (a.2.1 < b.2.1 ∨ (a.2.1 = b.2.1 ∧ a.2.2 < b.2.2)))) := by
  simp [ltC]
theorem ltC_trans {a b c : Cube} (h1 : ltC a b = true) (h2 : ltC b c = true) : ltC a c = true := by
  rw [ltC_iff] at *
  omega
theorem ltC_asymm {a b : Cube} (h1 : ltC a b = true) : ltC b a = false := by
  cases h : ltC b a with
  | false => rfl
  | true => rw [ltC_iff] at h1 h; omega
theorem ltC_total {a b : Cube} (h1 : ltC a b = false) (h2 : ltC b a = false) : a = b := by
  have e1 : ¬ ltC a b = true := by rw [h1]; decide
  have e2 : ¬ ltC b a = true := by rw [h2]; decide
  rw [ltC_iff] at e1 e2
  obtain ⟨x, y, z⟩ := a
  obtain ⟨x', y', z'⟩ := b
  simp only at e1 e2
  have : x = x' ∧ y = y' ∧ z = z' := by omega
  rw [this.1, this.2.1, this.2.2]
def SrtC (S : List Cube) : Prop := S.Pairwise fun a b => ltC a b = true
theorem asc_iff (S : List Cube) : ascC S = true ↔ SrtC S := by
  induction S with
  | nil => simp [ascC, SrtC]
  | cons a S ih =>
    cases S with
    | nil => simp [ascC, SrtC]
    | cons b T =>
      have e : ascC (a :: b :: T) = (ltC a b && ascC (b :: T)) := rfl
      rw [e, Bool.and_eq_true, ih]
      unfold SrtC
      constructor
      · rintro ⟨h1, h2⟩
        refine List.pairwise_cons.mpr ⟨fun c hc => ?_, h2⟩
        rcases List.mem_cons.mp hc with rfl | hc
        · exact h1
        · exact ltC_trans h1 ((List.pairwise_cons.mp h2).1 c hc)
      · intro h
        obtain ⟨h1, h2⟩ := List.pairwise_cons.mp h
        exact ⟨h1 b List.mem_cons_self, h2⟩
theorem sort_id {S : List Cube} (h : SrtC S) : sortC S = S := by
  unfold sortC
  induction S with
  | nil => rfl
  | cons a S ih =>
    obtain ⟨h1, h2⟩ := List.pairwise_cons.mp h
    rw [isort, ih h2]
    cases S with
    | nil => rfl
    | cons b T =>
      have : leC a b = true := by unfold leC; rw [ltC_asymm (h1 b List.mem_cons_self)]; rfl
      rw [ins, if_pos this]
end Q
set_option linter.all false
set_option maxRecDepth 100000
/-! Solids at home, moved, sorted. -/
namespace Q
open PySem PySem.W
theorem minL_spec (n : Int) (ns : List Int) : minL n ns ∈ n :: ns ∧ ∀ x ∈ n :: ns, minL n ns ≤ x := by
  unfold minL
  induction ns generalizing n with
  | nil => simp
  | cons m ns ih =>
    rw [List.foldl_cons]
    by_cases h : m < n
    · rw [if_pos h]
      obtain ⟨h1, h2⟩ := ih m
      refine ⟨List.mem_cons_of_mem _ h1, fun x hx => ?_⟩
      rcases List.mem_cons.mp hx with rfl | hx
      · have := h2 m List.mem_cons_self; omega
      · exact h2 x hx
    · rw [if_neg h]
      obtain ⟨h1, h2⟩ := ih n
      refine ⟨?_, fun x hx => ?_⟩
      · rcases List.mem_cons.mp h1 with h1 | h1
        · rw [h1]; exact List.mem_cons_self
        · exact List.mem_cons_of_mem _ (List.mem_cons_of_mem _ h1)
      · rcases List.mem_cons.mp hx with rfl | hx
        · exact h2 _ List.mem_cons_self
        · rcases List.mem_cons.mp hx with rfl | hx
          · have := h2 n List.mem_cons_self; omega
          · exact h2 x (List.mem_cons_of_mem _ hx)
theorem loA_spec {a : Int} {S : List Cube} (h : S ≠ []) : (∃ c ∈ S, co a c = loA a S) ∧ ∀ c ∈ S, loA a S ≤ co a c := by
  cases S with
  | nil => exact absurd rfl h
  | cons c S =>
    obtain ⟨h1, h2⟩ := minL_spec (co a c) (S.map (co a))
    rw [← List.map_cons] at h1 h2
    obtain ⟨d, hd, e⟩ := List.mem_map.mp h1
    exact ⟨⟨d, hd, e⟩, fun d hd => h2 _ (List.mem_map.mpr ⟨d, hd, rfl⟩)⟩
theorem loA_eq {a v : Int} {S : List Cube} (h : S ≠ []) (h1 : ∃ c ∈ S, co a c = v) (h2 : ∀ c ∈ S, v ≤ co a c) : loA a S = v := by
  obtain ⟨⟨c, hc, e⟩, g2⟩ := loA_spec (a := a) h
  obtain ⟨d, hd, e'⟩ := h1
  have := h2 c hc
  have := g2 d hd
  omega
theorem loA_perm {a : Int} {S T : List Cube} (p : S.Perm T) : loA a S = loA a T := by
  cases S with
  | nil => rw [List.nil_perm.mp p]
  | cons c S =>
    have hT : T ≠ [] := fun e => by subst e; exact absurd (List.perm_nil.mp p) (by simp)
    refine loA_eq (by simp) ?_ ?_
    · obtain ⟨⟨d, hd, e⟩, _⟩ := loA_spec (a := a) hT
      exact ⟨d, p.mem_iff.mpr hd, e⟩
    · exact fun d hd => (loA_spec (a := a) hT).2 d (p.mem_iff.mp hd)
def shC (t c : Cube) : Cube := (c.1 + t.1, c.2.1 + t.2.1, c.2.2 + t.2.2)
theorem co_sh (a : Int) (t c : Cube) : co a (shC t c) = co a c + co a t := by
  unfold co shC
  split
  · rfl
  · split <;> rfl
theorem loA_sh {a : Int} {S : List Cube} (t : Cube) (h : S ≠ []) : loA a (S.map (shC t)) = loA a S + co a t := by
  obtain ⟨⟨c, hc, e⟩, g2⟩ := loA_spec (a := a) h
  refine loA_eq (by simpa using h) ⟨shC t c, List.mem_map.mpr ⟨c, hc, rfl⟩, by rw [co_sh, e]⟩ fun d hd => ?_
  obtain ⟨d', hd', rfl⟩ := List.mem_map.mp hd
  rw [co_sh]
  have := g2 d' hd'
  omega
theorem home_sh (t : Cube) (S : List Cube) : homeC (S.map (shC t)) = homeC S := by
  by_cases h : S = []
  · subst h; rfl
  · unfold homeC
    rw [List.map_map, loA_sh t h, loA_sh t h, loA_sh t h]
    refine List.map_congr_left fun c _ => ?_
    show ((c.1 + t.1) - (loA 0 S + co 0 t), (c.2.1 + t.2.1) - (loA 1 S + co 1 t), (c.2.2 + t.2.2) - (loA 2 S + co 2 t)) = _
    rw [show co 0 t = t.1 from rfl, show co 1 t = t.2.1 from rfl, show co 2 t = t.2.2 from rfl]
    have e1 : c.1 + t.1 - (loA 0 S + t.1) = c.1 - loA 0 S := by omega
    have e2 : c.2.1 + t.2.1 - (loA 1 S + t.2.1) = c.2.1 - loA 1 S := by omega
    have e3 : c.2.2 + t.2.2 - (loA 2 S + t.2.2) = c.2.2 - loA 2 S := by omega
    rw [e1, e2, e3]
theorem home_perm {S T : List Cube} (p : S.Perm T) : (homeC S).Perm (homeC T) := by
  unfold homeC
  rw [loA_perm p, loA_perm p, loA_perm p]
  exact p.map _
theorem leC_total : TotalLe leC := by
  refine ⟨fun a b c h1 h2 => ?_, fun a b => ?_⟩
  · unfold leC at *
    cases h : ltC c a with
    | false => rfl
    | true =>
      exfalso
      have e1 : ¬ ltC b a = true := by simpa using h1
      have e2 : ¬ ltC c b = true := by simpa using h2
      rw [ltC_iff] at *
      omega
  · unfold leC
    cases h : ltC b a with
    | false => exact .inl rfl
    | true => right; rw [ltC_asymm h]; rfl
def SrtE (S : List Cube) : Prop := S.Pairwise fun a b => leC a b = true
theorem sort_srt (S : List Cube) : SrtE (sortC S) := isort_pair leC_total S
theorem sort_perm (S : List Cube) : (sortC S).Perm S := isort_perm leC_total S
theorem leC_anti {a b : Cube} (h1 : leC a b = true) (h2 : leC b a = true) : a = b := by
  unfold leC at *
  exact ltC_total (by simpa using h2) (by simpa using h1)
theorem srt_unique {S T : List Cube} (h1 : SrtE S) (h2 : SrtE T) (p : S.Perm T) : S = T :=
  List.Perm.eq_of_pairwise (fun a b _ _ => leC_anti) h1 h2 p
theorem sort_congr {S T : List Cube} (p : S.Perm T) : sortC S = sortC T :=
  srt_unique (sort_srt S) (sort_srt T) ((sort_perm S).trans (p.trans (sort_perm T).symm))
theorem srt_weak {S : List Cube} (h : SrtC S) : SrtE S := h.imp fun h => by unfold leC; rw [ltC_asymm h]; rfl
theorem sort_of_srt {S : List Cube} (h : SrtE S) : sortC S = S := srt_unique (sort_srt S) h (sort_perm S)
theorem home_srt {S : List Cube} (h : SrtE S) : SrtE (homeC S) := by
  unfold homeC SrtE
  rw [List.pairwise_map]
  refine h.imp fun {a b} hab => ?_
  unfold leC at *
  have e : ¬ ltC b a = true := by simpa using hab
  cases h : ltC (b.1 - loA 0 S, b.2.1 - loA 1 S, b.2.2 - loA 2 S) (a.1 - loA 0 S, a.2.1 - loA 1 S, a.2.2 - loA 2 S) with
  | false => rfl
  | true =>
    exfalso
    rw [ltC_iff] at e h
    simp only at h
    omega
theorem home_sort (S : List Cube) : homeC (sortC S) = sortC (homeC S) :=
  srt_unique (home_srt (sort_srt S)) (sort_srt _) ((home_perm (sort_perm S)).trans (sort_perm _).symm)
end Q
set_option linter.all false
set_option maxRecDepth 100000
/-! Things that are tuples of whole numbers: rows, sets, sorted rows, dicts of them. -/
namespace Q
open PySem PySem.W
theorem plain_ints (l : List Int) : PyData.plainAll (l.map .int) = true := by
  induction l with
  | nil => rfl
  | cons x l ih => simp [PyData.plainAll, PyData.plain, ih]
theorem depth_ints0 (l : List Int) : PyData.depthAll (l.map .int) = 0 := by
  induction l with
  | nil => rfl
  | cons x l ih => simp [PyData.depthAll, PyData.depth, ih]
theorem immAll_ints (l : List Int) : immAll (l.map .int) = true := by
  induction l with
  | nil => rfl
  | cons x l ih => simp [immAll, imm, ih]
theorem dOk_tupI (l : List Int) : dOk (tupI l) = true := by
  unfold dOk tupI
  simp [PyData.plain, PyData.depth, plain_ints, depth_ints0]
theorem keyT_tupI (l : List Int) : keyT (tupI l) = true := by
  unfold keyT tupI
  simp [isTupD, imm, immAll_ints, PyData.depth, depth_ints0]
theorem alike_tupI (a b : List Int) : alike (tupI a) (tupI b) = true := by
  unfold tupI
  simp [alike, alike_ints]
theorem intsOf_ints (l : List Int) : intsOf (l.map .int) = some l := by
  induction l with
  | nil => rfl
  | cons x l ih => simp [intsOf, ih]
theorem llt_irrefl (a : List Int) : ¬ a < a := List.lt_irrefl a
theorem llt_trans {a b c : List Int} (h : a < b) (g : b < c) : a < c := List.lt_trans h g
theorem llt_tri (a b : List Int) : a < b ∨ a = b ∨ b < a := by
  rcases Classical.em (a < b) with h | h
  · exact .inl h
  · rcases Classical.em (b < a) with g | g
    · exact .inr (.inr g)
    · exact .inr (.inl (List.le_antisymm (List.not_lt.mp g) (List.not_lt.mp h)))
/-- what is told by a row of whole numbers -/
class Tp (α : Type) where
  enc : α → List Int
  inj : ∀ a b, enc a = enc b → a = b
section
variable {α : Type} [Tp α] [DecidableEq α]
open Tp
def td (x : α) : D := tupI (enc x)
theorem td_inj {x y : α} (h : td x = td y) : x = y := inj _ _ (tupI_inj h)
def ltA (a b : α) : Prop := enc a < enc b
instance (a b : α) : Decidable (ltA a b) := inferInstanceAs (Decidable (enc a < enc b))
def leA (a b : α) : Bool := !decide (ltA b a)
theorem eqv_td (x y : α) : PyData.eqv (td x) (td y) = decide (x = y) := by
  unfold td
  rw [eqv_tupI]
  by_cases h : x = y
  · simp [h]
  · have : enc x ≠ enc y := fun e => h (inj _ _ e)
    simp [h, this]
theorem memb_td (x : α) (xs : List α) : memb (td x) (xs.map td) = decide (x ∈ xs) := by
  induction xs with
  | nil => rfl
  | cons y r ih =>
    rw [List.map_cons, memb, ih, eqv_td]
    by_cases h : y = x
    · subst h; simp
    · have : x ≠ y := fun e => h e.symm
      simp [h, this]
theorem dOk_td (x : α) : dOk (td x) = true := dOk_tupI _
theorem allOk_td (xs : List α) : allOk (xs.map td) = true := by
  induction xs with
  | nil => rfl
  | cons y r ih => rw [List.map_cons, allOk, ih, dOk_td]; rfl
theorem imm_td (x : α) : imm (td x) = true := by unfold td tupI; rw [imm]; exact immAll_ints _
theorem mut_td (x : α) : isMut (td x) = false := rfl
theorem immAll_td (xs : List α) : immAll (xs.map td) = true := by
  induction xs with
  | nil => rfl
  | cons y r ih => rw [List.map_cons, immAll, ih, imm_td]; rfl
theorem keyT_td (x : α) : keyT (td x) = true := keyT_tupI _
theorem dOk_tds (xs : List α) : dOk (.tuple (xs.map td)) = true ∧ dOk (.list (xs.map td)) = true := by
  have h1 : PyData.plainAll (xs.map td) = true := (allOk_plain (allOk_td xs)).1
  have h2 : PyData.depthAll (xs.map td) ≤ 1 := by
    clear h1
    induction xs with
    | nil => simp [PyData.depthAll]
    | cons y r ih =>
      have : PyData.depth (td y) = 1 := by unfold td tupI; simp [PyData.depth, depth_ints0]
      rw [List.map_cons, PyData.depthAll, this]
      omega
  unfold dOk
  simp only [PyData.plain, PyData.depth, h1]
  constructor <;> (simp; omega)
theorem in_l (x : α) (xs : List α) : sem .isin [td x, .list (xs.map td)] = .ok (.bool (decide (x ∈ xs))) := by
  simp only [sem, sIn]
  rw [if_pos (by rw [dOk_td, allOk_td]; rfl), memb_td]
  simp
theorem in_t (x : α) (xs : List α) : sem .isin [td x, .tuple (xs.map td)] = .ok (.bool (decide (x ∈ xs))) := by
  simp only [sem, sIn]
  rw [if_pos (by rw [dOk_td, allOk_td]; rfl), memb_td]
  simp
theorem nin_l (x : α) (xs : List α) : sem .notin [td x, .list (xs.map td)] = .ok (.bool (!decide (x ∈ xs))) := by
  simp only [sem, sIn]
  rw [if_pos (by rw [dOk_td, allOk_td]; rfl), memb_td]
  simp
theorem nin_t (x : α) (xs : List α) : sem .notin [td x, .tuple (xs.map td)] = .ok (.bool (!decide (x ∈ xs))) := by
  simp only [sem, sIn]
  rw [if_pos (by rw [dOk_td, allOk_td]; rfl), memb_td]
  simp
theorem eqvAll_td (S T : List α) : PyData.eqvAll (S.map td) (T.map td) = decide (S = T) := by
  induction S generalizing T with
  | nil => cases T <;> simp [PyData.eqvAll]
  | cons x S ih =>
    cases T with
    | nil => simp [PyData.eqvAll]
    | cons y T =>
      rw [List.map_cons, List.map_cons, PyData.eqvAll, eqv_td, ih]
      by_cases h : x = y <;> simp [h]
theorem eq_tt (S T : List α) : sem .eq [.tuple (S.map td), .tuple (T.map td)] = .ok (.bool (decide (S = T))) := by
  simp only [sem, sEq]
  rw [if_pos (by simp [(dOk_tds S).1, (dOk_tds T).1])]
  simp [PyData.eqv, eqvAll_td]
theorem ne_tt (S T : List α) : sem .ne [.tuple (S.map td), .tuple (T.map td)] = .ok (.bool (!decide (S = T))) := by
  simp only [sem, sEq]
  rw [if_pos (by simp [(dOk_tds S).1, (dOk_tds T).1])]
  simp [PyData.eqv, eqvAll_td]
theorem eq_ll (S T : List α) : sem .eq [.list (S.map td), .list (T.map td)] = .ok (.bool (decide (S = T))) := by
  simp only [sem, sEq]
  rw [if_pos (by simp [(dOk_tds S).2, (dOk_tds T).2])]
  simp [PyData.eqv, eqvAll_td]
/-! the order -/
theorem leA_iff {a b : α} : leA a b = true ↔ ¬ ltA b a := by unfold leA; simp
theorem leA_total : TotalLe (leA (α := α)) := by
  refine ⟨fun a b c h g => ?_, fun a b => ?_⟩
  · rw [leA_iff] at *
    intro hh
    rcases llt_tri (enc a) (enc b) with e | e | e
    · exact g (llt_trans hh e)
    · have := inj _ _ e; subst this; exact g hh
    · exact h e
  · rw [leA_iff, leA_iff]
    rcases Classical.em (ltA b a) with e | e
    · exact .inr fun g => llt_irrefl _ (llt_trans e g)
    · exact .inl e
theorem dle_td (a b : α) : dle (td a) (td b) = leA a b := dle_tupI _ _
theorem alikes_td (S T : List α) : alikes (S.map td) (T.map td) = true := by
  have h : ∀ (c : α) (T : List α), alikeTo (td c) (T.map td) = true := fun c T => by
    induction T with
    | nil => rfl
    | cons d T ih => rw [List.map_cons, alikeTo, ih, show alike (td c) (td d) = true from alike_tupI _ _]; rfl
  induction S with
  | nil => rfl
  | cons c S ih => rw [List.map_cons, alikes, h, ih]; rfl
def SrtA (S : List α) : Prop := S.Pairwise ltA
theorem ltA_tri (a b : α) : ltA a b ∨ a = b ∨ ltA b a := by
  rcases llt_tri (enc a) (enc b) with e | e | e
  · exact .inl e
  · exact .inr (.inl (inj _ _ e))
  · exact .inr (.inr e)
theorem ltA_irrefl (a : α) : ¬ ltA a a := llt_irrefl _
theorem ltA_trans {a b c : α} (h : ltA a b) (g : ltA b c) : ltA a c := llt_trans h g
theorem srtA_nodup {S : List α} (h : SrtA S) : S.Nodup := h.imp fun {a b} h e => by subst e; exact ltA_irrefl _ h
theorem srtA_unique : ∀ {S T : List α}, SrtA S → SrtA T → (∀ x, x ∈ S ↔ x ∈ T) → S = T
  | [], [], _, _, _ => rfl
  | [], y :: T, _, _, h => absurd ((h y).mpr List.mem_cons_self) List.not_mem_nil
  | x :: S, [], _, _, h => absurd ((h x).mp List.mem_cons_self) List.not_mem_nil
  | x :: S, y :: T, h1, h2, h => by
    obtain ⟨a1, a2⟩ := List.pairwise_cons.mp h1
    obtain ⟨b1, b2⟩ := List.pairwise_cons.mp h2
    have e : x = y := by
      rcases List.mem_cons.mp ((h x).mp List.mem_cons_self) with e | e
      · exact e
      · rcases List.mem_cons.mp ((h y).mpr List.mem_cons_self) with g | g
        · exact g.symm
        · exact absurd (ltA_trans (b1 x e) (a1 y g)) (ltA_irrefl _)
    subst e
    rw [srtA_unique a2 b2 fun z => ?_]
    constructor
    · intro hz
      rcases List.mem_cons.mp ((h z).mp (List.mem_cons_of_mem _ hz)) with e | e
      · subst e; exact absurd (a1 z hz) (ltA_irrefl _)
      · exact e
    · intro hz
      rcases List.mem_cons.mp ((h z).mpr (List.mem_cons_of_mem _ hz)) with e | e
      · subst e; exact absurd (b1 z hz) (ltA_irrefl _)
      · exact e
theorem isortA_srt {S : List α} (h : S.Nodup) : SrtA (isort leA S) := by
  have h1 := isort_pair (leA_total (α := α)) S
  have h2 : (isort leA S).Nodup := (isort_perm leA_total S).nodup_iff.mpr h
  unfold SrtA
  refine List.Pairwise.imp₂ (fun {a b} g n => ?_) h1 h2
  rw [leA_iff] at g
  rcases ltA_tri a b with e | e | e
  · exact e
  · exact absurd e n
  · exact absurd e g
theorem isortA_eq {S T : List α} (h : S.Nodup) (ht : SrtA T) (hm : ∀ x, x ∈ T ↔ x ∈ S) : isort leA S = T :=
  srtA_unique (isortA_srt h) ht fun x => by rw [isort_mem, hm]
/-- sorted -/
theorem sortD_td {S : List α} (hne : ∀ x : α, enc x ≠ []) : sortD (S.map td) = .ok (.list ((isort leA S).map td)) := by
  unfold sortD
  rw [if_pos, isort_map dle_td]
  unfold srtOk
  rw [alikes_td, allOk_td, show (S.map td).all srtOne = true from ?_]
  · rfl
  · rw [List.all_eq_true]
    intro d hd
    obtain ⟨x, _, rfl⟩ := List.mem_map.mp hd
    have := hne x
    unfold td tupI
    cases e : enc x with
    | nil => exact absurd e this
    | cons y r => rfl
theorem sort_td {S : List α} (hne : ∀ x : α, enc x ≠ []) : sem .sorted [.list (S.map td)] = .ok (.list ((isort leA S).map td)) := sortD_td hne
theorem sort_tdt {S : List α} (hne : ∀ x : α, enc x ≠ []) : sem .sorted [.tuple (S.map td)] = .ok (.list ((isort leA S).map td)) := sortD_td hne
/-- the same once -/
def dedA : List α → List α
  | [] => []
  | x :: r => x :: (dedA r).filter fun y => !decide (y = x)
theorem dedup_td (S : List α) : dedup (S.map td) = (dedA S).map td := by
  induction S with
  | nil => rfl
  | cons x r ih =>
    rw [List.map_cons, dedup, ih, dedA, List.map_cons, List.filter_map]
    congr 2
    apply List.filter_congr
    intro y _
    simp [eqv_td]
theorem dedA_mem {S : List α} {x : α} : x ∈ dedA S ↔ x ∈ S := by
  induction S with
  | nil => simp [dedA]
  | cons y r ih =>
    rw [dedA, List.mem_cons, List.mem_cons, List.mem_filter, ih]
    by_cases h : x = y <;> simp [h]
theorem dedA_nodup (S : List α) : (dedA S).Nodup := by
  induction S with
  | nil => exact List.nodup_nil
  | cons y r ih =>
    rw [dedA, List.nodup_cons]
    exact ⟨fun h => by simp [List.mem_filter] at h, ih.filter _⟩
theorem ssOk_td {S : List α} {d : Nat} (hl : S.length < 64) (hd : 1 ≤ d) (h : ∀ x ∈ S, (enc x).length = d ∧ ∀ n ∈ enc x, 0 ≤ n ∧ n < 1000000) : ssOk (S.map td) = true := by
  unfold ssOk
  rw [List.length_map, Bool.and_eq_true]
  refine ⟨decide_eq_true hl, ?_⟩
  cases S with
  | nil => rfl
  | cons x r =>
    rw [List.map_cons]
    have e : ∀ y : α, intT (td y) = some (enc y) := fun y => by unfold td tupI intT; exact intsOf_ints _
    simp only [e]
    rw [Bool.and_eq_true]
    refine ⟨decide_eq_true (by rw [(h x List.mem_cons_self).1]; exact hd), ?_⟩
    rw [List.all_eq_true]
    intro z hz
    rw [← List.map_cons] at hz
    obtain ⟨y, hy, rfl⟩ := List.mem_map.mp hz
    unfold ssOne
    rw [e y]
    obtain ⟨g1, g2⟩ := h y hy
    simp only [Bool.and_eq_true, decide_eq_true_eq, List.all_eq_true]
    exact ⟨by rw [g1, (h x List.mem_cons_self).1], fun n hn => g2 n hn⟩
/-- sorted(set(..)) -/
theorem sset_td {S T : List α} {d : Nat} (hne : ∀ x : α, enc x ≠ []) (hl : S.length < 64) (hd : 1 ≤ d) (h : ∀ x ∈ S, (enc x).length = d ∧ ∀ n ∈ enc x, 0 ≤ n ∧ n < 1000000) (ht : SrtA T) (hm : ∀ x, x ∈ T ↔ x ∈ S) :
    sem .sset [.list (S.map td)] = .ok (.list (T.map td)) ∧ sem .sset [.tuple (S.map td)] = .ok (.list (T.map td)) := by
  have e : sortD (dedup (S.map td)) = .ok (.list (T.map td)) := by
    rw [dedup_td, sortD_td hne, isortA_eq (dedA_nodup S) ht fun x => by rw [dedA_mem, hm]]
  constructor
  · simp only [sem, sSset]
    rw [if_pos (ssOk_td hl hd h), e]
  · simp only [sem, sSset]
    rw [if_pos (ssOk_td hl hd h), e]
/-- a row of what is in it -/
def srtOf (S : List α) : List α := isort leA (dedA S)
theorem srtOf_srt (S : List α) : SrtA (srtOf S) := isortA_srt (dedA_nodup S)
theorem srtOf_mem {S : List α} {x : α} : x ∈ srtOf S ↔ x ∈ S := by unfold srtOf; rw [isort_mem, dedA_mem]
theorem srtOf_len (S : List α) : (srtOf S).length ≤ S.length := by
  have : ∀ S : List α, (dedA S).length ≤ S.length := fun S => by
    induction S with
    | nil => exact Nat.le_refl _
    | cons x r ih =>
      rw [dedA, List.length_cons, List.length_cons]
      have := List.length_filter_le (fun y => !decide (y = x)) (dedA r)
      omega
  unfold srtOf
  rw [isort_len]
  exact this S
theorem srtOf_eq {S T : List α} (ht : SrtA T) (hm : ∀ x, x ∈ T ↔ x ∈ S) : srtOf S = T := srtA_unique (srtOf_srt S) ht fun x => by rw [srtOf_mem, hm]
/-! ascending -/
def ascA (S : List α) : Bool := (S.zip S.tail).all fun p => decide (ltA p.1 p.2)
theorem ascA_iff (S : List α) : ascA S = true ↔ SrtA S := by
  unfold ascA SrtA
  induction S with
  | nil => simp
  | cons x r ih =>
    cases r with
    | nil => simp
    | cons y r =>
      rw [List.tail_cons, List.zip_cons_cons, List.all_cons, Bool.and_eq_true]
      rw [List.tail_cons] at ih
      rw [ih, List.pairwise_cons (a := x)]
      simp only [decide_eq_true_eq]
      constructor
      · rintro ⟨h1, h2⟩
        refine ⟨fun z hz => ?_, h2⟩
        rcases List.mem_cons.mp hz with rfl | hz
        · exact h1
        · exact ltA_trans h1 ((List.pairwise_cons.mp h2).1 z hz)
      · rintro ⟨h1, h2⟩
        exact ⟨h1 y List.mem_cons_self, h2⟩
theorem lt_td (a b : α) (ha : enc a ≠ []) (hb : enc b ≠ []) : sem .lt [td a, td b] = .ok (.bool (decide (ltA a b))) := by
  have so : ∀ c : α, enc c ≠ [] → srtOne (td c) = true := fun c h => by
    unfold td tupI
    cases e : enc c with
    | nil => exact absurd e h
    | cons y r => rfl
  have e : dataLt (td a) (td b) = decide (ltA a b) := by
    unfold td tupI
    rw [dataLt_tuple]
    exact dataLt_ints _ _
  simp only [sem]
  unfold sOrd
  split
  · rename_i h; simp [td, tupI] at h
  · rename_i x y _ h
    cases h
    rw [if_pos (by rw [show alike (td a) (td b) = true from alike_tupI _ _, so a ha, so b hb, dOk_td, dOk_td]; rfl)]
    show R.ok (PyData.bool (dataLt (td a) (td b))) = _
    rw [e]
  · rename_i h; exact absurd rfl (h _ _)
/-! dicts with such keys -/
structure DK (kvs : List (D × D)) (ks : List α) : Prop where
  keys : kvs.map (·.1) = ks.map td
  nd : ks.Nodup
theorem DK.nil : DK (α := α) [] [] := ⟨rfl, List.nodup_nil⟩
theorem DK.keysT {kvs : List (D × D)} {ks : List α} (h : DK kvs ks) : keysT kvs = true := by
  have h1 := h.keys
  clear h
  induction kvs generalizing ks with
  | nil => rfl
  | cons p kvs ih =>
    cases ks with
    | nil => cases h1
    | cons k ks =>
      simp only [List.map_cons, List.cons.injEq] at h1
      rw [Q.keysT, h1.1, keyT_td, ih h1.2]
      rfl
theorem DK.get {kvs : List (D × D)} {ks : List α} (h : DK kvs ks) (x : α) : (dget kvs (td x)).isSome = decide (x ∈ ks) := by
  have h1 := h.keys
  clear h
  induction kvs generalizing ks with
  | nil =>
    cases ks with
    | nil => rfl
    | cons k ks => cases h1
  | cons p kvs ih =>
    cases ks with
    | nil => cases h1
    | cons k ks =>
      simp only [List.map_cons, List.cons.injEq] at h1
      rw [dget, h1.1, eqv_td]
      by_cases e : k = x
      · subst e; simp
      · have : x ≠ k := fun z => e z.symm
        simp [e, this, ih h1.2]
theorem DK.put {kvs : List (D × D)} {ks : List α} (h : DK kvs ks) (x : α) (v : D) : DK (dput kvs (td x) v) (if x ∈ ks then ks else ks ++ [x]) := by
  obtain ⟨h1, h2⟩ := h
  have key : (dput kvs (td x) v).map (·.1) = (if x ∈ ks then ks else ks ++ [x]).map td := by
    clear h2
    induction kvs generalizing ks with
    | nil =>
      cases ks with
      | nil => rfl
      | cons k ks => cases h1
    | cons p kvs ih =>
      cases ks with
      | nil => cases h1
      | cons k ks =>
        simp only [List.map_cons, List.cons.injEq] at h1
        rw [dput, h1.1, eqv_td]
        by_cases e : k = x
        · subst e; simp [h1]
        · have : x ≠ k := fun z => e z.symm
          have := ih h1.2
          by_cases g : x ∈ ks
          · simp [e, g] at this ⊢; simp [h1.1, this]
          · have g' : ¬ (x = k ∨ x ∈ ks) := fun z => z.elim (fun z => e z.symm) g
            rw [if_neg g] at this
            simp [e, g, g', this, h1.1]
            rw [if_neg (fun z => e z.symm)]
            simp
  refine ⟨key, ?_⟩
  split
  · exact h2
  · rename_i g
    rw [List.nodup_append]
    exact ⟨h2, by simp, fun a ha b hb => by rw [List.mem_singleton.mp hb]; exact fun e => g (e ▸ ha)⟩
theorem DK.del {kvs : List (D × D)} {ks : List α} (h : DK kvs ks) (x : α) : DK (ddel kvs (td x)) (ks.filter fun y => !decide (y = x)) := by
  obtain ⟨h1, h2⟩ := h
  refine ⟨?_, h2.filter _⟩
  induction kvs generalizing ks with
  | nil =>
    cases ks with
    | nil => rfl
    | cons k ks => cases h1
  | cons p kvs ih =>
    cases ks with
    | nil => cases h1
    | cons k ks =>
      simp only [List.map_cons, List.cons.injEq] at h1
      rw [List.nodup_cons] at h2
      rw [ddel, h1.1, eqv_td, List.filter_cons]
      by_cases e : k = x
      · subst e
        have : ks.filter (fun y => !decide (y = k)) = ks := List.filter_eq_self.mpr fun y hy => by
          have : y ≠ k := fun z => h2.1 (z ▸ hy)
          simp [this]
        simp [this, h1.2]
      · simp [e, ih h1.2 h2.2, h1.1]
theorem DK.vals {kvs : List (D × D)} {P : D → Prop} (h : ∀ p ∈ kvs, P p.2) {k v : D} (hv : P v) : ∀ p ∈ dput kvs k v, P p.2 := by
  induction kvs with
  | nil => intro p hp; rw [dput, List.mem_singleton] at hp; subst hp; exact hv
  | cons q r ih =>
    intro p hp
    rw [dput] at hp
    split at hp
    · rcases List.mem_cons.mp hp with rfl | hp
      · exact hv
      · exact h p (List.mem_cons_of_mem _ hp)
    · rcases List.mem_cons.mp hp with rfl | hp
      · exact h _ List.mem_cons_self
      · exact ih (fun p hp => h p (List.mem_cons_of_mem _ hp)) p hp
theorem DK.getP {kvs : List (D × D)} {P : D → Prop} (h : ∀ p ∈ kvs, P p.2) {k d : D} (e : dget kvs k = some d) : P d := by
  induction kvs with
  | nil => cases e
  | cons q r ih =>
    rw [dget] at e
    split at e
    · cases e; exact h q List.mem_cons_self
    · exact ih (fun p hp => h p (List.mem_cons_of_mem _ hp)) e
theorem DK.len {kvs : List (D × D)} {ks : List α} (h : DK kvs ks) : kvs.length = ks.length := by
  have := congrArg List.length h.keys
  simpa using this
theorem in_d {kvs : List (D × D)} {ks : List α} (h : DK kvs ks) (x : α) : sem .isin [td x, .dict kvs] = .ok (.bool (decide (x ∈ ks))) := by
  simp only [sem, sIn]
  have hk : keyOk kvs (td x) = true := by
    show (keyT (td x) && Q.keysT kvs) = true
    rw [keyT_td, h.keysT]; rfl
  rw [if_pos hk, h.get]
  simp
theorem nin_d {kvs : List (D × D)} {ks : List α} (h : DK kvs ks) (x : α) : sem .notin [td x, .dict kvs] = .ok (.bool (!decide (x ∈ ks))) := by
  simp only [sem, sIn]
  have hk : keyOk kvs (td x) = true := by
    show (keyT (td x) && Q.keysT kvs) = true
    rw [keyT_td, h.keysT]; rfl
  rw [if_pos hk, h.get]
  simp
theorem in_db {kvs : List (D × D)} {ks : List α} (h : DK kvs ks) (x : α) {p : Prop} [Decidable p] (hp : p ↔ x ∈ ks) : sem .isin [td x, .dict kvs] = .ok (.bool (decide p)) := by
  rw [in_d h, show decide (x ∈ ks) = decide p from decide_eq_decide.mpr hp.symm]
theorem nin_db {kvs : List (D × D)} {ks : List α} (h : DK kvs ks) (x : α) {p : Prop} [Decidable p] (hp : p ↔ x ∈ ks) : sem .notin [td x, .dict kvs] = .ok (.bool (!decide p)) := by
  rw [nin_d h, show decide (x ∈ ks) = decide p from decide_eq_decide.mpr hp.symm]
theorem in_lb (x : α) (ks : List α) {p : Prop} [Decidable p] (hp : p ↔ x ∈ ks) : sem .isin [td x, .list (ks.map td)] = .ok (.bool (decide p)) := by
  rw [in_l, show decide (x ∈ ks) = decide p from decide_eq_decide.mpr hp.symm]
theorem in_tb (x : α) (ks : List α) {p : Prop} [Decidable p] (hp : p ↔ x ∈ ks) : sem .isin [td x, .tuple (ks.map td)] = .ok (.bool (decide p)) := by
  rw [in_t, show decide (x ∈ ks) = decide p from decide_eq_decide.mpr hp.symm]
theorem nin_lb (x : α) (ks : List α) {p : Prop} [Decidable p] (hp : p ↔ x ∈ ks) : sem .notin [td x, .list (ks.map td)] = .ok (.bool (!decide p)) := by
  rw [nin_l, show decide (x ∈ ks) = decide p from decide_eq_decide.mpr hp.symm]
theorem nin_tb (x : α) (ks : List α) {p : Prop} [Decidable p] (hp : p ↔ x ∈ ks) : sem .notin [td x, .tuple (ks.map td)] = .ok (.bool (!decide p)) := by
  rw [nin_t, show decide (x ∈ ks) = decide p from decide_eq_decide.mpr hp.symm]
theorem sort_d {kvs : List (D × D)} {ks : List α} (h : DK kvs ks) (hne : ∀ x : α, enc x ≠ []) {T : List α} (ht : SrtA T) (hm : ∀ x, x ∈ T ↔ x ∈ ks) : sem .sorted [.dict kvs] = .ok (.list (T.map td)) := by
  simp only [sem, sSorted]
  rw [if_pos h.keysT, h.keys, sortD_td hne, isortA_eq h.nd ht hm]
/-- {x: v for x in xs} -/
theorem fold_dk {f : D → R (Option (D × D))} {v : D} : ∀ (xs : List α) (kvs : List (D × D)) (ks : List α), DK kvs ks → (∀ p ∈ kvs, p.2 = v) → (∀ x ∈ xs, f (td x) = .ok (some (td x, v))) → kvs.length + xs.length ≤ LIM → ∃ kvs' ks', foldDict f (xs.map td) kvs = .ok kvs' ∧ DK kvs' ks' ∧ (∀ p ∈ kvs', p.2 = v) ∧ (∀ x, x ∈ ks' ↔ x ∈ ks ∨ x ∈ xs)
  | [], kvs, ks, h, hv, _, _ => ⟨kvs, ks, rfl, h, hv, by simp⟩
  | x :: xs, kvs, ks, h, hv, hf, hl => by
    rw [List.length_cons] at hl
    have hp := h.put x v
    have hlen : (dput kvs (td x) v).length ≤ kvs.length + 1 := by
      rw [hp.len, h.len]
      split <;> simp
    obtain ⟨kvs', ks', e1, e2, e3, e4⟩ := fold_dk xs _ _ hp (DK.vals (P := fun d => d = v) hv rfl) (fun y hy => hf y (List.mem_cons_of_mem _ hy)) (by omega)
    refine ⟨kvs', ks', ?_, e2, e3, fun y => ?_⟩
    · rw [List.map_cons, foldDict, hf x List.mem_cons_self, quiet_ok', ok_bind]
      show (if keyT (td x) && decide (kvs.length < LIM) then foldDict f (xs.map td) (dput kvs (td x) v) else .bad) = _
      rw [keyT_td, if_pos (by rw [Bool.true_and]; exact decide_eq_true (by omega)), e1]
    · rw [e4]
      by_cases g : x ∈ ks
      · rw [if_pos g, List.mem_cons]
        constructor
        · rintro (z | z)
          · exact .inl z
          · exact .inr (.inr z)
        · rintro (z | z | z)
          · exact .inl z
          · subst z; exact .inl g
          · exact .inr z
      · rw [if_neg g, List.mem_append, List.mem_singleton, List.mem_cons]
        constructor
        · rintro ((z | z) | z)
          · exact .inl z
          · exact .inr (.inl z)
          · exact .inr (.inr z)
        · rintro (z | z | z)
          · exact .inl (.inl z)
          · exact .inl (.inr z)
          · exact .inr z
end
instance : Tp Cube := ⟨lstC, fun a b h => cu_inj (by rw [cu_tupI, cu_tupI, h])⟩
abbrev Pr := Int × Int
instance : Tp Pr := ⟨fun p => [p.1, p.2], fun a b h => by
  simp only [List.cons.injEq, and_true] at h
  exact Prod.ext h.1 h.2⟩
theorem td_cu (c : Cube) : td c = cu c := rfl
def pd (p : Pr) : D := .tuple [.int p.1, .int p.2]
theorem td_pd (p : Pr) : td p = pd p := rfl
theorem map_cu (S : List Cube) : S.map cu = S.map td := rfl
theorem map_pd (S : List Pr) : S.map pd = S.map td := rfl
theorem ne_cu (c : Cube) : Tp.enc c ≠ [] := nofun
theorem ne_pd (c : Pr) : Tp.enc c ≠ [] := nofun
theorem ltA_cu (a b : Cube) : decide (ltA a b) = ltC a b := by
  rw [← dataLt_cu]
  have h : dataLt (tupI (lstC a)) (tupI (lstC b)) = decide (lstC a < lstC b) := by
    unfold tupI
    rw [dataLt_tuple]
    exact dataLt_ints _ _
  exact h.symm
theorem srtA_cu (S : List Cube) : SrtA S ↔ SrtC S := by
  unfold SrtA SrtC
  have : ∀ a b : Cube, ltA a b ↔ ltC a b = true := fun a b => by rw [← ltA_cu, decide_eq_true_iff]
  constructor <;> exact fun h => h.imp fun {a b} => by first | exact (this a b).mp | exact (this a b).mpr
theorem sortC_eq {S T : List Cube} (h : S.Nodup) (ht : SrtA T) (hm : ∀ x, x ∈ T ↔ x ∈ S) : sortC S = T := by
  have e := s_sorted_cu S
  rw [map_cu, sort_td ne_cu, isortA_eq h ht hm] at e
  have e2 : T.map cu = (sortC S).map cu := by injection e with e; injection e
  have inj : ∀ A B : List Cube, A.map cu = B.map cu → A = B := fun A => by
    induction A with
    | nil => intro B h; cases B with
      | nil => rfl
      | cons b B => cases h
    | cons a A ih =>
      intro B h
      cases B with
      | nil => cases h
      | cons b B =>
        simp only [List.map_cons, List.cons.injEq] at h
        rw [cu_inj h.1, ih B h.2]
  exact (inj _ _ e2).symm
end Q
set_option linter.all false
set_option maxRecDepth 100000
/-! Steps, loops, equality of data: what the texts of laws share. -/
namespace Q
open PySem PySem.W
/-! steps -/
theorem sg {c : Ctx} {s : S} {l : Ss} {ρ ρ' : Env} {r : F} (h : evS c s ρ = .nx ρ') (h2 : evSs c l ρ' = r) : evSs c (.cons s l) ρ = r := by rw [ss_nx h, h2]
theorem st_ift {c : Ctx} {t : T} {a b : Ss} {ρ : Env} {r : F} (ht : evT c t ρ = .ok true) (h : evSs c a ρ = r) : evS c (.ifs t a b) ρ = r := by rw [st_ifs, ht, toF_ok, if_pos rfl, h]
theorem st_iff {c : Ctx} {t : T} {a b : Ss} {ρ : Env} {r : F} (ht : evT c t ρ = .ok false) (h : evSs c b ρ = r) : evS c (.ifs t a b) ρ = r := by rw [st_ifs, ht, toF_ok, if_neg Bool.false_ne_true, h]
theorem st_for {c : Ctx} {tg : Tg} {it : I} {body : Ss} {w : List Nat} {ρ : Env} {xs : List D} {r : F} (hi : evI c it false ρ = .ok xs) (h : forL (fun d ρ => toF ρ (tg.bind d ρ) fun ρ' => evSs c body ρ') w xs ρ = r) : evS c (.for tg it body w) ρ = r := by
  simp only [evS]
  rw [hi, toF_ok]
  exact h
theorem bd {c : Ctx} {tg : Tg} {body : Ss} {d : D} {ρ ρ' : Env} {r : F} (h : tg.bind d ρ = .ok ρ') (h2 : evSs c body ρ' = r) : (toF ρ (tg.bind d ρ) fun ρ' => evSs c body ρ') = r := by
  rw [h, toF_ok, h2]
@[simp] theorem et_chn (c : Ctx) (ρ : Env) (o o' : Op) (a b d : E) : evT c (.chn o o' a b d) ρ = (evE c a true ρ >>= fun x => evE c b true ρ >>= fun y => sem o [x, y] >>= fun k => truth k >>= fun k => if k then evE c d true ρ >>= fun z => sem o' [y, z] >>= fun d => truth d else .ok false) := by simp only [evT]
@[simp] theorem ei_enum (c : Ctx) (m : Bool) (ρ : Env) (a : E) : evI c (.enum a) m ρ = (evE c a m ρ >>= fun d => enumOf d) := by simp only [evI]
@[simp] theorem enumOf_l (xs : List D) : enumOf (.list xs) = .ok (enumD 0 xs) := id rfl
@[simp] theorem enumOf_t (xs : List D) : enumOf (.tuple xs) = .ok (enumD 0 xs) := id rfl
theorem st_augi {c : Ctx} {ρ : Env} {i : Nat} {ke e : E} {xs : List Int} {x y : Int} (h : slot ρ i = some (.list (xs.map .int), 1)) (hk : evE c ke true ρ = .ok (.int x)) (he : evE c e true ρ = .ok (.int y)) (h0 : 0 ≤ x) (h1 : x < xs.length) : evS c (.augi i ke .sub e) ρ = .nx (put ρ i (some (.list ((xs.set x.toNat (xs.getD x.toNat 0 - y)).map .int), 1))) := by
  have h2 : x.toNat < xs.length := by omega
  have e1 : (xs.map PyData.int)[x.toNat]? = some (.int (xs.getD x.toNat 0)) := by
    rw [List.getElem?_map, List.getElem?_eq_getElem h2, List.getD_eq_getElem?_getD, List.getElem?_eq_getElem h2]
    rfl
  simp only [evS, owned, h]
  rw [hk, toF_ok]
  unfold augiF
  simp only [h0, if_true, e1]
  rw [he, toF_ok]
  have : semI .sub (.int (xs.getD x.toNat 0)) (.int y) = .ok (.int (xs.getD x.toNat 0 - y)) := rfl
  rw [this, toF_ok, List.map_set]
/-! loops -/
theorem filterMap_if {α β : Type} (p : α → Bool) (f : α → β) (xs : List α) : xs.filterMap (fun x => if p x then some (f x) else none) = (xs.filter p).map f := by
  induction xs with
  | nil => rfl
  | cons x xs ih => rw [List.filterMap_cons, List.filter_cons, ih]; cases p x <;> rfl
theorem nx_w {e : F} {r X : Env} {w : List Nat} (h : e = .nx r) (hw : wipe r w = X) : ∃ r, (e = .nx r ∨ e = .ct r) ∧ wipe r w = X := ⟨r, .inl h, hw⟩
theorem nx_s {e : F} {r X : Env} {w : List Nat} (h : e = .nx r) (hw : wipe r w = X) : ∃ r, e = .nx r ∧ wipe r w = X := ⟨r, h, hw⟩
theorem ct_w {e : F} {r X : Env} {w : List Nat} (h : e = .ct r) (hw : wipe r w = X) : ∃ r, (e = .nx r ∨ e = .ct r) ∧ wipe r w = X := ⟨r, .inr h, hw⟩
theorem sz {c : Ctx} {s : S} {ρ ρ' : Env} (h : evS c s ρ = .nx ρ') : evSs c (.cons s .nil) ρ = .nx ρ' := by rw [ss_nx h, ss_nil]
theorem forL_fold {α σ : Type} {step : D → Env → F} {w : List Nat} (g : α → D) (env : σ → Env) (f : σ → α → σ) (hw : ∀ s, wipe (env s) w = env s) (P : Nat → σ → Prop) : ∀ (xs : List α) (n : Nat) (s : σ), P n s → (∀ i x s, xs[i]? = some x → P (n + i) s → (∃ r, (step (g x) (env s) = .nx r ∨ step (g x) (env s) = .ct r) ∧ wipe r w = env (f s x)) ∧ P (n + i + 1) (f s x)) → forL step w (xs.map g) (env s) = .nx (env (xs.foldl f s)) ∧ P (n + xs.length) (xs.foldl f s)
  | [], n, s, h0, _ => ⟨by rw [List.map_nil, forL, hw]; rfl, h0⟩
  | x :: xs, n, s, h0, hs => by
    obtain ⟨⟨r, h1, h2⟩, h3⟩ := hs 0 x s rfl h0
    obtain ⟨i1, i2⟩ := forL_fold g env f hw P xs (n + 1) (f s x) h3 fun i y t e h => by
      have := hs (i + 1) y t (by simpa using e) (by rw [show n + (i + 1) = n + 1 + i by omega]; exact h)
      rw [show n + (i + 1) + 1 = n + 1 + i + 1 by omega] at this
      exact this
    refine ⟨?_, by rw [List.length_cons, show n + (xs.length + 1) = n + 1 + xs.length by omega]; exact i2⟩
    rw [List.map_cons, forL, hw, List.foldl_cons, ← i1]
    rcases h1 with h1 | h1 <;> rw [h1] <;> exact forL_wipe (by rw [h2, hw]) _
/-- a loop over what keeps its state -/
theorem forL_same {α : Type} {step : D → Env → F} {w : List Nat} {g : α → D} {env : Env} (hw : wipe env w = env) : ∀ (xs : List α), (∀ x ∈ xs, ∃ r, step (g x) env = .nx r ∧ wipe r w = env) → forL step w (xs.map g) env = .nx env
  | [], _ => by rw [List.map_nil, forL, hw]
  | x :: xs, h => by
    obtain ⟨r, h1, h2⟩ := h x List.mem_cons_self
    rw [List.map_cons, forL_nx (r := r) (by rw [hw]; exact h1), forL_wipe (ρ' := env) (by rw [h2, hw])]
    exact forL_same hw xs fun y hy => h y (List.mem_cons_of_mem _ hy)
/-- a loop that may return -/
theorem forL_find {α : Type} {step : D → Env → F} {w : List Nat} {g : α → D} {env : Env} (hw : wipe env w = env) (ret : α → Option (D × Bool)) : ∀ (xs : List α), (∀ x ∈ xs, match ret x with
    | none => ∃ r, step (g x) env = .nx r ∧ wipe r w = env
    | some p => step (g x) env = .rt p.1 p.2) → forL step w (xs.map g) env = match xs.findSome? ret with
    | none => .nx env
    | some p => .rt p.1 p.2
  | [], _ => by simp [forL, hw]
  | x :: xs, h => by
    have hx := h x List.mem_cons_self
    rw [List.map_cons, List.findSome?_cons]
    cases e : ret x with
    | none =>
      rw [e] at hx
      obtain ⟨r, h1, h2⟩ := hx
      rw [forL_nx (r := r) (by rw [hw]; exact h1), forL_wipe (ρ' := env) (by rw [h2, hw])]
      exact forL_find hw ret xs fun y hy => h y (List.mem_cons_of_mem _ hy)
    | some p =>
      rw [e] at hx
      rw [forL, hw, hx]
/-- a loop, its state told by what may not be known -/
theorem forL_ex {α : Type} {step : D → Env → F} {w : List Nat} (g : α → D) (I : Nat → Env → Prop) : ∀ (xs : List α) (n : Nat) (ρ : Env), I n (wipe ρ w) → (∀ i x ρ, xs[i]? = some x → I (n + i) ρ → ∃ r, (step (g x) ρ = .nx r ∨ step (g x) ρ = .ct r) ∧ I (n + i + 1) (wipe r w)) → ∃ r, forL step w (xs.map g) ρ = .nx r ∧ I (n + xs.length) r := fun xs n ρ h0 hs => by
  have := forL_inv (step := step) (w := w) I (xs.map g) n ρ h0 fun i d ρ e h => by
    rw [List.getElem?_map] at e
    obtain ⟨x, hx, rfl⟩ := Option.map_eq_some_iff.mp e
    exact hs i x ρ hx h
  rwa [List.length_map] at this
/-! while -/
theorem st_while {c : Ctx} {t : T} {body : Ss} {w : List Nat} {ρ : Env} {σ : Type} (env : σ → Env) (hw : ∀ s, wipe (env s) w = env s) (I : σ → Prop) (mu : σ → Nat) (b : σ → Bool) (s0 : σ) (h0 : wipe ρ w = env s0) (hI : I s0) (hm : mu s0 < 1000000)
    (ht : ∀ s, I s → evT c t (env s) = .ok (b s)) (hs : ∀ s, I s → b s = true → ∃ s', (∃ r, (evSs c body (env s) = .nx r ∨ evSs c body (env s) = .ct r) ∧ wipe r w = env s') ∧ I s' ∧ mu s' < mu s) : ∃ s, evS c (.while t body w) ρ = .nx (env s) ∧ I s ∧ b s = false := by
  have key : ∀ (n : Nat) (s : σ) (ρ : Env), wipe ρ w = env s → I s → mu s < n → ∃ s', whileL (fun ρ => evT c t ρ) (fun ρ => evSs c body ρ) w n ρ = .nx (env s') ∧ I s' ∧ b s' = false := fun n => by
    induction n with
    | zero => exact fun s ρ _ _ h => absurd h (Nat.not_lt_zero _)
    | succ n ih =>
      intro s ρ hρ hi hn
      rw [whileL, hρ, ht s hi, toF_ok]
      cases hb : b s with
      | false => exact ⟨s, by rw [if_neg (by decide)], hi, hb⟩
      | true =>
        obtain ⟨s', ⟨r, h1, h2⟩, h3, h4⟩ := hs s hi hb
        obtain ⟨s2, e1, e2, e3⟩ := ih s' r h2 h3 (by omega)
        refine ⟨s2, ?_, e2, e3⟩
        rw [if_pos rfl]
        rcases h1 with h1 | h1 <;> rw [h1] <;> exact e1
  obtain ⟨s, h1, h2, h3⟩ := key FUEL s0 ρ h0 hI (by show mu s0 < 1048576; omega)
  exact ⟨s, by simp only [evS]; exact h1, h2, h3⟩
/-! plain data, not deep -/
def PL (n : Nat) (d : D) : Prop := d.plain = true ∧ d.depth ≤ n
theorem PL.ok {n : Nat} {d : D} (h : PL n d) (hn : n ≤ 100 := by decide) : dOk d = true := by
  unfold dOk
  rw [h.1, Bool.true_and]
  exact decide_eq_true (by have := h.2; omega)
theorem PL.up {n m : Nat} {d : D} (h : PL n d) (hn : n ≤ m) : PL m d := ⟨h.1, Nat.le_trans h.2 hn⟩
theorem pl_all {n : Nat} {xs : List D} (h : ∀ x ∈ xs, PL n x) : PyData.plainAll xs = true ∧ PyData.depthAll xs ≤ n := by
  induction xs with
  | nil => exact ⟨rfl, Nat.zero_le _⟩
  | cons x xs ih =>
    obtain ⟨i1, i2⟩ := ih fun y hy => h y (List.mem_cons_of_mem _ hy)
    obtain ⟨h1, h2⟩ := h x List.mem_cons_self
    refine ⟨by rw [PyData.plainAll, h1, i1]; rfl, ?_⟩
    rw [PyData.depthAll]
    omega
theorem pl_t {n : Nat} {xs : List D} (h : ∀ x ∈ xs, PL n x) : PL (n + 1) (.tuple xs) := by
  obtain ⟨h1, h2⟩ := pl_all h
  exact ⟨by rw [PyData.plain, h1], by rw [PyData.depth]; omega⟩
theorem pl_l {n : Nat} {xs : List D} (h : ∀ x ∈ xs, PL n x) : PL (n + 1) (.list xs) := by
  obtain ⟨h1, h2⟩ := pl_all h
  exact ⟨by rw [PyData.plain, h1], by rw [PyData.depth]; omega⟩
theorem pl_i {n : Nat} (i : Int) : PL n (.int i) := ⟨by simp [PyData.plain], by simp [PyData.depth]⟩
theorem pl_b {n : Nat} (b : Bool) : PL n (.bool b) := ⟨by simp [PyData.plain], by simp [PyData.depth]⟩
theorem pl_s {n : Nat} (x : Str) : PL n (.str x) := ⟨by simp [PyData.plain], by simp [PyData.depth]⟩
theorem pl_n {n : Nat} : PL n .none := ⟨by simp [PyData.plain], by simp [PyData.depth]⟩
theorem pl_td {α : Type} [Tp α] (x : α) : PL 1 (td x) := by
  unfold td tupI
  refine pl_t (n := 0) fun y hy => ?_
  obtain ⟨i, _, rfl⟩ := List.mem_map.mp hy
  exact pl_i i
theorem pl_cu (c : Cube) : PL 1 (cu c) := pl_td c
theorem pl_tds {α : Type} [Tp α] (xs : List α) : PL 2 (.tuple (xs.map td)) := pl_t fun y hy => by
  obtain ⟨i, _, rfl⟩ := List.mem_map.mp hy
  exact pl_td i
theorem pl_cus (xs : List Cube) : PL 2 (.tuple (xs.map cu)) := pl_tds xs
theorem allOk_of {n : Nat} {xs : List D} (h : ∀ x ∈ xs, PL n x) (hn : n ≤ 100 := by decide) : allOk xs = true := by
  induction xs with
  | nil => rfl
  | cons x xs ih => rw [allOk, (h x List.mem_cons_self).ok hn, ih fun y hy => h y (List.mem_cons_of_mem _ hy)]; rfl
/-! equality -/
theorem eqv_same {d : D} (h : dOk d = true) : PyData.eqv d d = true := by
  unfold dOk at h
  simp only [Bool.and_eq_true] at h
  exact SeqAt.eqv_refl_plain d h.1
theorem ne_self {d : D} (h : dOk d = true) : sem .ne [d, d] = .ok (.bool false) := by
  simp only [sem, sEq]
  rw [if_pos (by rw [h]; rfl), eqv_same h]
  rfl
theorem eq_self {d : D} (h : dOk d = true) : sem .eq [d, d] = .ok (.bool true) := by
  simp only [sem, sEq]
  rw [if_pos (by rw [h]; rfl), eqv_same h]
  rfl
theorem eq_is {a b : D} (ha : dOk a = true) (hb : dOk b = true) : sem .eq [a, b] = .ok (.bool (PyData.eqv a b)) := by
  simp only [sem, sEq]
  rw [if_pos (by rw [ha, hb]; rfl)]
  simp
theorem ne_is {a b : D} (ha : dOk a = true) (hb : dOk b = true) : sem .ne [a, b] = .ok (.bool (!PyData.eqv a b)) := by
  simp only [sem, sEq]
  rw [if_pos (by rw [ha, hb]; rfl)]
  simp
theorem s_eq_str (x y : Str) : sem .eq [.str x, .str y] = .ok (.bool (decide (x = y))) := by
  rw [eq_is (pl_s (n := 0) x).ok (pl_s (n := 0) y).ok]
  simp [PyData.eqv]
  by_cases h : x = y <;> simp [h]
theorem s_ne_str (x y : Str) : sem .ne [.str x, .str y] = .ok (.bool (!decide (x = y))) := by
  rw [ne_is (pl_s (n := 0) x).ok (pl_s (n := 0) y).ok]
  simp [PyData.eqv]
  by_cases h : x = y <;> simp [h]
theorem s_eq_bool (x y : Bool) : sem .eq [.bool x, .bool y] = .ok (.bool (decide (x = y))) := by
  rw [eq_is (pl_b (n := 0) x).ok (pl_b (n := 0) y).ok]
  cases x <;> cases y <;> rfl
theorem s_ne_bool (x y : Bool) : sem .ne [.bool x, .bool y] = .ok (.bool (!decide (x = y))) := by
  rw [ne_is (pl_b (n := 0) x).ok (pl_b (n := 0) y).ok]
  cases x <;> cases y <;> rfl
theorem s_isN (x : D) : sem .isN [x, .none] = .ok (.bool (isNone x)) := by
  show R.ok (PyData.bool (false != isNone x)) = _
  cases isNone x <;> rfl
theorem s_isNN (x : D) : sem .isNN [x, .none] = .ok (.bool (!isNone x)) := by
  show R.ok (PyData.bool (true != isNone x)) = _
  cases isNone x <;> rfl
/-- data that reads as it is written: != tells it apart -/
theorem eqv_tt {α : Type} [Tp α] [DecidableEq α] (S T : List α) : PyData.eqv (.tuple (S.map td)) (.tuple (T.map td)) = decide (S = T) := by
  rw [PyData.eqv, eqvAll_td]
theorem eqv_rows {α : Type} [Tp α] [DecidableEq α] : ∀ (S T : List (List α)), PyData.eqvAll (S.map fun x => .tuple (x.map td)) (T.map fun x => .tuple (x.map td)) = decide (S = T)
  | [], [] => by simp [PyData.eqvAll]
  | [], _ :: _ => by simp [PyData.eqvAll]
  | _ :: _, [] => by simp [PyData.eqvAll]
  | a :: S, b :: T => by
    rw [List.map_cons, List.map_cons, PyData.eqvAll, eqv_tt, eqv_rows S T]
    by_cases h : a = b <;> simp [h]
/-! rows of such in order: what sorted makes of them is not looked at -/
def rowD {α : Type} [Tp α] (S : List α) : D := .tuple (S.map td)
theorem alike_rows {α : Type} [Tp α] (S T : List α) : alike (rowD S) (rowD T) = true := by
  unfold rowD
  rw [alike]
  induction S generalizing T with
  | nil => simp [alikeAll]
  | cons x S ih =>
    cases T with
    | nil => simp [alikeAll]
    | cons y T => rw [List.map_cons, List.map_cons, alikeAll, ih, show alike (td x) (td y) = true from alike_tupI _ _]; rfl
theorem pl_row {α : Type} [Tp α] (S : List α) : PL 2 (rowD S) := pl_tds S
theorem pl_rows {α : Type} [Tp α] (S : List (List α)) : PL 3 (.tuple (S.map rowD)) := pl_t fun y hy => by
  obtain ⟨i, _, rfl⟩ := List.mem_map.mp hy
  exact pl_row i
theorem srtOk_rows {α : Type} [Tp α] {G : List (List α)} (h : ∀ S ∈ G, S ≠ []) : srtOk (G.map rowD) = true := by
  have h1 : ∀ (c : List α) (T : List (List α)), alikeTo (rowD c) (T.map rowD) = true := fun c T => by
    induction T with
    | nil => rfl
    | cons d T ih => rw [List.map_cons, alikeTo, alike_rows, ih]; rfl
  have h2 : ∀ S T : List (List α), alikes (S.map rowD) (T.map rowD) = true := fun S T => by
    induction S with
    | nil => rfl
    | cons c S ih => rw [List.map_cons, alikes, h1, ih]; rfl
  unfold srtOk
  rw [h2, allOk_of (n := 2) (fun x hx => by obtain ⟨i, _, rfl⟩ := List.mem_map.mp hx; exact pl_row i), show (G.map rowD).all srtOne = true from ?_]
  · rfl
  · rw [List.all_eq_true]
    intro d hd
    obtain ⟨x, hx, rfl⟩ := List.mem_map.mp hd
    have := h x hx
    cases x with
    | nil => exact absurd rfl this
    | cons y r => rfl
theorem sorted_rows {α : Type} [Tp α] {G : List (List α)} (h : ∀ S ∈ G, S ≠ []) : sem .sorted [.list (G.map rowD)] = .ok (.list (isort dle (G.map rowD))) := by
  show sortD (G.map rowD) = _
  unfold sortD
  rw [if_pos (srtOk_rows h)]
/-! items -/
theorem it_at {xs : List D} {i : Int} (h0 : 0 ≤ i) (h1 : i < xs.length) : itemAt xs i = xs[i.toNat]? := by
  have e : i = ((i.toNat : Nat) : Int) := by omega
  conv => lhs; rw [e]
  exact it_nat (by omega)
theorem it_map {α : Type} (f : α → D) {S : List α} {i : Int} (h0 : 0 ≤ i) (h1 : i < S.length) : ∃ c, itemAt (S.map f) i = some (f c) ∧ S[i.toNat]? = some c ∧ c ∈ S := by
  have h2 : i.toNat < S.length := by omega
  refine ⟨S[i.toNat], ?_, List.getElem?_eq_getElem h2, List.getElem_mem h2⟩
  rw [it_at h0 (by rw [List.length_map]; exact h1), List.getElem?_map, List.getElem?_eq_getElem h2]
  rfl
theorem it_int {l : List Int} {i : Int} (h0 : 0 ≤ i) (h1 : i < l.length) : itemAt (l.map .int) i = some (.int (l.getD i.toNat 0)) := by
  obtain ⟨c, h2, h3, _⟩ := it_map PyData.int h0 h1
  rw [h2, List.getD_eq_getElem?_getD, h3]
  rfl
theorem rngI_len (n : Nat) : ∀ lo : Int, (rngI lo n).length = n := by
  induction n with
  | zero => intro lo; rfl
  | succ n ih => intro lo; rw [rngI, List.length_cons, ih]
theorem rng_at {n i : Nat} {d : D} (h : ((rngI 0 n).map PyData.int)[i]? = some d) : ∃ j : Int, d = .int j ∧ 0 ≤ j ∧ j < n := by
  rw [List.getElem?_map] at h
  obtain ⟨j, hj, rfl⟩ := Option.map_eq_some_iff.mp h
  have := rngI_mem (List.mem_of_getElem? hj)
  exact ⟨j, rfl, by omega, by omega⟩
theorem range1 {n : Nat} (h : n ≤ 1000000) : rangeD [.int (n : Int)] = .ok ((rngI 0 n).map .int) := by
  simp only [rangeD]
  rw [if_pos (small_ok (by omega) (by omega)), rngL_eq, Int.toNat_natCast]
theorem range1i {i : Int} (h0 : 0 ≤ i) (h : i ≤ 1000000) : rangeD [.int i] = .ok ((rngI 0 i.toNat).map .int) := by
  simp only [rangeD]
  rw [if_pos (small_ok h0 h), rngL_eq]
/-- a cube within the first numbers of each side -/
def inS (s : Int) (c : Cube) : Prop := (0 ≤ c.1 ∧ c.1 < s) ∧ (0 ≤ c.2.1 ∧ c.2.1 < s) ∧ (0 ≤ c.2.2 ∧ c.2.2 < s)
theorem inS_mod {s : Int} (hs : 1 ≤ s) (a b c : Int) : inS s (a % s, b % s, c % s) := ⟨⟨Int.emod_nonneg _ (by omega), Int.emod_lt_of_pos _ (by omega)⟩, ⟨Int.emod_nonneg _ (by omega), Int.emod_lt_of_pos _ (by omega)⟩, ⟨Int.emod_nonneg _ (by omega), Int.emod_lt_of_pos _ (by omega)⟩⟩
theorem okC_of {s : Int} (hs : s ≤ 8) {c : Cube} (h : inS s c) : okC c = true := by
  obtain ⟨⟨h1, h2⟩, ⟨h3, h4⟩, h5, h6⟩ := h
  unfold okC inC
  simp only [Bool.and_eq_true, decide_eq_true_eq]
  omega
theorem inS_le {s : Int} (hs : s ≤ 8) {c : Cube} (h : inS s c) : inS 8 c := by
  obtain ⟨⟨h1, h2⟩, ⟨h3, h4⟩, h5, h6⟩ := h
  exact ⟨⟨h1, by omega⟩, ⟨h3, by omega⟩, h5, by omega⟩
theorem sets_cu {S : List Cube} (hl : S.length < 64) (h : ∀ c ∈ S, okC c = true) : sem .sset [.list (S.map cu)] = .ok (.list ((srtOf S).map cu)) ∧ sem .sset [.tuple (S.map cu)] = .ok (.list ((srtOf S).map cu)) := by
  refine sset_td (S := S) (T := srtOf S) ne_cu hl (d := 3) (by decide) (fun c hc => ?_) (srtOf_srt S) fun x => srtOf_mem
  have := h c hc
  unfold okC inC at this
  simp only [Bool.and_eq_true, decide_eq_true_eq] at this
  refine ⟨rfl, fun n hn => ?_⟩
  have : n = c.1 ∨ n = c.2.1 ∨ n = c.2.2 := by simpa [Tp.enc, lstC] using hn
  omega
theorem s_mul_l {i j : Int} (h : -18446744073709551616 < i) (h2 : i < 18446744073709551616) : sem .mul [.int i, .int j] = .ok (.int (i * j)) := s_mul (by unfold mulOk; simp; left; omega)
theorem s_mul_r {i j : Int} (h : -18446744073709551616 < j) (h2 : j < 18446744073709551616) : sem .mul [.int i, .int j] = .ok (.int (i * j)) := s_mul (by unfold mulOk; simp; right; omega)
/-! try -/
def tryF (sub : Nat → Nat → Bool) (hs : Hs) (r : F) : F := match r with
  | .ex x ρ' => if sub x x then evHs sub hs x ρ' else .bad
  | r => r
@[simp] theorem st_try (c : Ctx) (b : Ss) (hs : Hs) (ρ : Env) : evS c (.try b hs) ρ = tryF c.sub hs (evSs c b ρ) := by
  simp only [evS]
  cases evSs c b ρ <;> rfl
@[simp] theorem tryF_rt (sub : Nat → Nat → Bool) (hs : Hs) (d : D) (o : Bool) : tryF sub hs (.rt d o) = .rt d o := id rfl
@[simp] theorem tryF_nx (sub : Nat → Nat → Bool) (hs : Hs) (ρ : Env) : tryF sub hs (.nx ρ) = .nx ρ := id rfl
/-! counting -/
@[simp] theorem mt_d (kvs : List (D × D)) : isMut (.dict kvs) = true := id rfl
/-- how often x stands in a row -/
def cn {α : Type} [DecidableEq α] (x : α) (xs : List α) : Nat := xs.countP fun y => decide (y = x)
theorem cn_nil {α : Type} [DecidableEq α] (x : α) : cn x [] = 0 := rfl
theorem cn_cons {α : Type} [DecidableEq α] (x y : α) (xs : List α) : cn x (y :: xs) = cn x xs + if y = x then 1 else 0 := by
  unfold cn
  rw [List.countP_cons]
  by_cases h : y = x <;> simp [h]
theorem cn_app {α : Type} [DecidableEq α] (x : α) (xs ys : List α) : cn x (xs ++ ys) = cn x xs + cn x ys := List.countP_append
theorem cn_pos {α : Type} [DecidableEq α] {x : α} {xs : List α} : 0 < cn x xs ↔ x ∈ xs := by
  unfold cn
  rw [List.countP_pos_iff]
  simp
theorem cn_nodup {α : Type} [DecidableEq α] {x : α} {xs : List α} (h : xs.Nodup) (hx : x ∈ xs) : cn x xs = 1 := by
  induction xs with
  | nil => exact absurd hx List.not_mem_nil
  | cons y r ih =>
    obtain ⟨n1, n2⟩ := List.nodup_cons.mp h
    rw [cn_cons]
    by_cases e : y = x
    · subst e
      have : ¬ 0 < cn y r := fun g => n1 (cn_pos.mp g)
      rw [if_pos rfl]
      omega
    · rcases List.mem_cons.mp hx with g | g
      · exact absurd g.symm e
      · rw [if_neg e, ih n2 g]
theorem cnt_td {α : Type} [Tp α] [DecidableEq α] (x : α) (xs : List α) : cnt (td x) (xs.map td) = cn x xs := by
  induction xs with
  | nil => rfl
  | cons y r ih =>
    rw [List.map_cons, cnt, ih, eqv_td, cn_cons]
    by_cases h : y = x <;> simp [h] <;> omega
theorem count_l {α : Type} [Tp α] [DecidableEq α] (x : α) (xs : List α) : sem .count [.list (xs.map td), td x] = .ok (.int ((cn x xs : Nat) : Int)) := by
  simp only [sem, sCount]
  rw [if_pos (by rw [dOk_td, allOk_td]; rfl), cnt_td]
/-- each thing counted once -/
theorem sum_count {α : Type} [DecidableEq α] {E L : List α} (hn : E.Nodup) (h : ∀ x ∈ L, x ∈ E) : (E.map fun x => cn x L).sum = L.length := by
  induction L with
  | nil =>
    clear hn h
    induction E with
    | nil => rfl
    | cons e r ih => simpa [cn_nil] using ih
  | cons y r ih =>
    have h1 := ih fun x hx => h x (List.mem_cons_of_mem _ hx)
    have h2 : (E.map fun x => cn x (y :: r)).sum = (E.map fun x => cn x r).sum + cn y E := by
      clear h1 ih h hn
      induction E with
      | nil => rfl
      | cons e t ih =>
        rw [List.map_cons, List.map_cons, List.sum_cons, List.sum_cons, ih, cn_cons, cn_cons]
        by_cases g : y = e
        · simp [g]; omega
        · have : ¬ e = y := fun z => g z.symm
          simp [g, this]; omega
    rw [h2, h1, List.length_cons, cn_nodup hn (h y List.mem_cons_self)]
/-! what a dict holds -/
theorem dget_dput {α : Type} [Tp α] [DecidableEq α] {kvs : List (D × D)} {ks : List α} (h : DK kvs ks) (x y : α) (v : D) : dget (dput kvs (td x) v) (td y) = if x = y then some v else dget kvs (td y) := by
  obtain ⟨h1, -⟩ := h
  induction kvs generalizing ks with
  | nil =>
    simp only [dput, dget, eqv_td]
    by_cases e : x = y <;> simp [e]
  | cons p kvs ih =>
    cases ks with
    | nil => cases h1
    | cons k ks =>
      simp only [List.map_cons, List.cons.injEq] at h1
      rw [dput, h1.1, eqv_td]
      by_cases e : k = x
      · subst e
        simp only [decide_true, if_true]
        rw [dget, dget, eqv_td, h1.1, eqv_td]
        by_cases g : k = y <;> simp [g]
      · simp only [e, decide_false, if_false, Bool.false_eq_true]
        rw [dget, dget, h1.1, eqv_td, ih h1.2]
        by_cases g : k = y
        · have : ¬ x = y := fun z => e (g.trans z.symm)
          simp [g, this]
        · simp [g]
theorem ix_d {α : Type} [Tp α] [DecidableEq α] {kvs : List (D × D)} {ks : List α} (h : DK kvs ks) (x : α) : sem .ix [.dict kvs, td x] = opt (dget kvs (td x)) := by
  have hk : keyOk kvs (td x) = true := by
    show (keyT (td x) && Q.keysT kvs) = true
    rw [keyT_td, h.keysT]; rfl
  show (if keyOk kvs (td x) = true then _ else _) = _
  rw [if_pos hk]
theorem getd_d {α : Type} [Tp α] [DecidableEq α] {kvs : List (D × D)} {ks : List α} (h : DK kvs ks) (x : α) (e d : D) (hg : (dget kvs (td x)).getD e = d) (hm : isMut d = false) : sem .getd [.dict kvs, td x, e] = .ok d := by
  simp only [sem, sGet]
  rw [if_pos (by rw [keyT_td, h.keysT]; rfl), hg]
  show (if isMut d = true then _ else _) = _
  rw [hm]
  rfl
/-! sorted whole numbers -/
def leI (a b : Int) : Bool := !decide (b < a)
theorem sorted_ints (ns : List Int) : sem .sorted [.list (ns.map .int)] = .ok (.list ((isort leI ns).map .int)) := by
  show sortD (ns.map .int) = _
  unfold sortD
  rw [if_pos (srtOk_int ns), isort_map (le := leI) (fun a b => by unfold dle leI; rw [dataLt_int])]
theorem sorted_intst (ns : List Int) : sem .sorted [.tuple (ns.map .int)] = .ok (.list ((isort leI ns).map .int)) := sorted_ints ns
theorem sum_l (ns : List Int) : sem .sum [.list (ns.map .int)] = .ok (.int ns.sum) := by
  simp only [sem, sSum, intsOf_ints]
theorem sum_t (ns : List Int) : sem .sum [.tuple (ns.map .int)] = .ok (.int ns.sum) := by
  simp only [sem, sSum, intsOf_ints]
theorem find_some {α β : Type} (q : α → Bool) (f : α → β) (xs : List α) : xs.findSome? (fun x => if q x then some (f x) else none) = (xs.find? q).map f := by
  induction xs with
  | nil => rfl
  | cons x xs ih =>
    rw [List.findSome?_cons, List.find?_cons]
    cases q x with
    | true => rfl
    | false => exact ih
theorem s_gt_f (i j : Int) : sem .gt [.int i, .int j] = .ok (.bool (decide (j < i))) := rfl
theorem eqvAll_ints : ∀ a b : List Int, PyData.eqvAll (a.map .int) (b.map .int) = decide (a = b)
  | [], [] => by simp [PyData.eqvAll]
  | [], _ :: _ => by simp [PyData.eqvAll]
  | _ :: _, [] => by simp [PyData.eqvAll]
  | x :: a, y :: b => by
    rw [List.map_cons, List.map_cons, PyData.eqvAll, eqvAll_ints a b]
    by_cases h : x = y <;> simp [PyData.eqv, h]
theorem pl_ints (ns : List Int) : PL 1 (.list (ns.map .int)) := pl_l (n := 0) fun y hy => by
  obtain ⟨i, _, rfl⟩ := List.mem_map.mp hy
  exact pl_i i
theorem eq_ints (a b : List Int) : sem .eq [.list (a.map .int), .list (b.map .int)] = .ok (.bool (decide (a = b))) := by
  rw [eq_is (pl_ints a).ok (pl_ints b).ok, PyData.eqv, eqvAll_ints]
/-- {x: v for x in xs} -/
theorem ev_dcomp {α : Type} [Tp α] [DecidableEq α] {c : Ctx} {m : Bool} {ρ : Env} {ke ve : E} {tg : Tg} {it : I} {t : Option T} {v : D} {xs : List α} (hi : evI c it true ρ = .ok (xs.map td)) (H : ∀ x ∈ xs, (tg.bind (td x) (wipe ρ tg.slots) >>= fun ρ' => evTo c t ρ' >>= fun b => if b then evE c ke false ρ' >>= fun x => evE c ve false ρ' >>= fun y => .ok (some (x, y)) else .ok none) = .ok (some (td x, v))) (hl : xs.length ≤ LIM) :
    ∃ kvs ks, evE c (.dcomp ke ve tg it t) m ρ = .ok (.dict kvs) ∧ DK (α := α) kvs ks ∧ (∀ p ∈ kvs, p.2 = v) ∧ ∀ x, x ∈ ks ↔ x ∈ xs := by
  obtain ⟨kvs, ks, e1, e2, e3, e4⟩ := fold_dk (α := α) (f := fun d => tg.bind d (wipe ρ tg.slots) >>= fun ρ' => evTo c t ρ' >>= fun b => if b then evE c ke false ρ' >>= fun x => evE c ve false ρ' >>= fun y => .ok (some (x, y)) else .ok none) (v := v) xs [] [] DK.nil (by simp) H (by simpa using hl)
  refine ⟨kvs, ks, ?_, e2, e3, fun x => by rw [e4]; simp⟩
  simp only [evE]
  rw [hi, ok_bind, e1]
  rfl
theorem run_ex {c : Ctx} {fn : Fn} {ds : List D} {x : Nat} {ρ : Env} (hl : ds.length = fn.np) (h : evSs c fn.body (entry fn.ns ds) = .ex x ρ) : run c fn ds = .exc x := by
  unfold run; rw [if_pos hl, h]
end Q
set_option linter.all false
set_option maxRecDepth 100000
/-! Cubes that touch, parts. -/
namespace Q
open PySem PySem.W
def steps6 : List Cube := [(-1, 0, 0), (0, -1, 0), (0, 0, -1), (0, 0, 1), (0, 1, 0), (1, 0, 0)]
def plusC (c s : Cube) : Cube := (c.1 + s.1, c.2.1 + s.2.1, c.2.2 + s.2.2)
def nbs (c : Cube) : List Cube := steps6.map (plusC c)
def nearC (p : Cube → Bool) (c : Cube) : List Cube := (nbs c).filter p
def touch (a b : Cube) : Bool := decide (b ∈ nbs a)
theorem touch_iff (a b : Cube) : touch a b = true ↔ (b.1 - a.1).natAbs + (b.2.1 - a.2.1).natAbs + (b.2.2 - a.2.2).natAbs = 1 := by
  obtain ⟨x, y, z⟩ := a
  obtain ⟨u, v, w⟩ := b
  unfold touch nbs steps6 plusC
  simp only [List.map_cons, List.map_nil, decide_eq_true_eq, List.mem_cons, Prod.mk.injEq, List.not_mem_nil, or_false]
  constructor
  · rintro (⟨h1, h2, h3⟩ | ⟨h1, h2, h3⟩ | ⟨h1, h2, h3⟩ | ⟨h1, h2, h3⟩ | ⟨h1, h2, h3⟩ | ⟨h1, h2, h3⟩) <;> omega
  · intro h
    have h1 : u - x = 0 ∨ u - x = 1 ∨ u - x = -1 := by omega
    have h2 : v - y = 0 ∨ v - y = 1 ∨ v - y = -1 := by omega
    have h3 : w - z = 0 ∨ w - z = 1 ∨ w - z = -1 := by omega
    rcases h1 with h1 | h1 | h1 <;> rcases h2 with h2 | h2 | h2 <;> rcases h3 with h3 | h3 | h3 <;> rw [h1, h2, h3] at h <;> first | (exfalso; revert h; decide) | (clear h; omega)
theorem touch_comm (a b : Cube) : touch a b = touch b a := by
  rw [Bool.eq_iff_iff, touch_iff, touch_iff]
  omega
theorem nearC_mem {p : Cube → Bool} {c x : Cube} : x ∈ nearC p c ↔ touch c x = true ∧ p x = true := by
  unfold nearC touch
  rw [List.mem_filter, decide_eq_true_iff]
theorem nbs_srt (c : Cube) : SrtA (nbs c) := by
  obtain ⟨x, y, z⟩ := c
  rw [srtA_cu]
  unfold SrtC nbs steps6 plusC
  simp only [List.map_cons, List.map_nil, List.pairwise_cons, List.mem_cons, List.not_mem_nil, or_false, forall_eq_or_imp, forall_eq, ltC_iff]
  simp only [List.Pairwise.nil, and_true]
  simp
  omega
theorem nearC_srt (p : Cube → Bool) (c : Cube) : SrtA (nearC p c) := (nbs_srt c).filter _
theorem nearC_nodup (p : Cube → Bool) (c : Cube) : (nearC p c).Nodup := srtA_nodup (nearC_srt p c)
theorem nearC_len (p : Cube → Bool) (c : Cube) : (nearC p c).length ≤ 6 := Nat.le_trans (List.length_filter_le _ _) (by simp [nbs, steps6])
/-- near, of a row in order -/
theorem nearC_row {S : List Cube} (h : SrtA S) (c : Cube) : nearC (fun x => decide (x ∈ S)) c = S.filter fun x => touch x c := by
  refine srtA_unique (nearC_srt _ _) (h.filter _) fun x => ?_
  rw [nearC_mem, List.mem_filter, decide_eq_true_iff, touch_comm]
  exact And.comm
inductive Reach (L : List Cube) (c : Cube) : Cube → Prop
  | base : Reach L c c
  | step {x y : Cube} : Reach L c x → y ∈ L → touch x y = true → Reach L c y
open Classical in
noncomputable def comp (L : List Cube) (c : Cube) : List Cube := L.filter fun x => decide (Reach L c x)
open Classical in
noncomputable def left (L : List Cube) (c : Cube) : List Cube := L.filter fun x => !decide (Reach L c x)
open Classical in
theorem comp_mem {L : List Cube} {c x : Cube} : x ∈ comp L c ↔ x ∈ L ∧ Reach L c x := by unfold comp; rw [List.mem_filter, decide_eq_true_iff]
open Classical in
theorem left_mem {L : List Cube} {c x : Cube} : x ∈ left L c ↔ x ∈ L ∧ ¬ Reach L c x := by unfold left; rw [List.mem_filter]; simp
open Classical in
theorem comp_srt {L : List Cube} (h : SrtA L) (c : Cube) : SrtA (comp L c) := h.filter _
open Classical in
theorem left_srt {L : List Cube} (h : SrtA L) (c : Cube) : SrtA (left L c) := h.filter _
open Classical in
theorem left_len (c : Cube) (r : List Cube) : (left (c :: r) c).length ≤ r.length := by
  unfold left
  rw [List.filter_cons]
  simp only [Reach.base, decide_true, Bool.not_true, if_false]
  exact List.length_filter_le _ _
noncomputable def compsN : Nat → List Cube → List (List Cube)
  | 0, _ => []
  | _ + 1, [] => []
  | n + 1, c :: r => comp (c :: r) c :: compsN n (left (c :: r) c)
theorem compsN_eq : ∀ (n m : Nat) (L : List Cube), L.length ≤ n → L.length ≤ m → compsN n L = compsN m L
  | 0, m, L, h, _ => by
    rw [List.length_eq_zero_iff.mp (Nat.le_zero.mp h)]
    cases m <;> rfl
  | n + 1, 0, L, _, h => by
    rw [List.length_eq_zero_iff.mp (Nat.le_zero.mp h)]
    rfl
  | n + 1, m + 1, [], _, _ => rfl
  | n + 1, m + 1, c :: r, h1, h2 => by
    have := left_len c r
    rw [List.length_cons] at h1 h2
    rw [compsN, compsN, compsN_eq n m _ (by omega) (by omega)]
/-- the parts of a row of cubes -/
noncomputable def comps (L : List Cube) : List (List Cube) := compsN L.length L
theorem comps_nil : comps [] = [] := rfl
theorem comps_cons (c : Cube) (r : List Cube) : comps (c :: r) = comp (c :: r) c :: comps (left (c :: r) c) := by
  have := left_len c r
  unfold comps
  rw [List.length_cons, compsN, compsN_eq r.length _ _ this (Nat.le_refl _)]
theorem comps_sub : ∀ (n : Nat) (L : List Cube), L.length ≤ n → ∀ S ∈ comps L, S ≠ [] ∧ (∀ x ∈ S, x ∈ L) ∧ S.length ≤ L.length ∧ (SrtA L → SrtA S)
  | n, [], _, S, h => absurd h List.not_mem_nil
  | 0, c :: r, h, _, _ => absurd h (by simp)
  | n + 1, c :: r, h, S, hS => by
    have hl := left_len c r
    rw [comps_cons] at hS
    rcases List.mem_cons.mp hS with rfl | hS
    · refine ⟨fun e => ?_, fun x hx => (comp_mem.mp hx).1, List.length_filter_le _ _, fun h => comp_srt h c⟩
      have : c ∈ comp (c :: r) c := comp_mem.mpr ⟨List.mem_cons_self, .base⟩
      rw [e] at this
      exact List.not_mem_nil this
    · rw [List.length_cons] at h
      obtain ⟨h1, h2, h3, h4⟩ := comps_sub n (left (c :: r) c) (by omega) S hS
      refine ⟨h1, fun x hx => (left_mem.mp (h2 x hx)).1, ?_, fun h => h4 (left_srt h c)⟩
      rw [List.length_cons]
      omega
theorem comps_len : ∀ (n : Nat) (L : List Cube), L.length ≤ n → (comps L).length ≤ L.length
  | n, [], _ => Nat.zero_le _
  | 0, c :: r, h => absurd h (by simp)
  | n + 1, c :: r, h => by
    have hl := left_len c r
    rw [List.length_cons] at h
    rw [comps_cons, List.length_cons, List.length_cons]
    have := comps_len n (left (c :: r) c) (by omega)
    omega
/-- a group that is whole -/
theorem group_whole {L G : List Cube} {c : Cube} (hc : c ∈ G) (hL : ∀ x ∈ G, x ∈ L) (hr : ∀ x ∈ G, Reach L c x) (hcl : ∀ g ∈ G, ∀ y ∈ L, touch g y = true → y ∈ G) (x : Cube) : x ∈ G ↔ x ∈ L ∧ Reach L c x := by
  have key : ∀ x, Reach L c x → x ∈ G := fun x h => by
    induction h with
    | base => exact hc
    | step h1 h2 h3 ih => exact hcl _ ih _ h2 h3
  exact ⟨fun h => ⟨hL x h, hr x h⟩, fun h => key x h.2⟩
/-- a group that grows, cubes that wait, cubes that are left -/
structure GInv (L : List Cube) (c : Cube) (K : Cube → Prop) (G W : List Cube) : Prop where
  nd : (G ++ W).Nodup
  all : ∀ x, x ∈ L ↔ K x ∨ x ∈ G ++ W
  out : ∀ x, K x → x ∉ G ++ W
  rch : ∀ x ∈ G ++ W, Reach L c x
  own : c ∈ G ++ W
  cl : ∀ g ∈ G, ∀ y ∈ L, touch g y = true → y ∈ G ++ W
theorem GInv.start {L : List Cube} {c : Cube} (hc : c ∈ L) : GInv L c (fun x => x ∈ L ∧ x ≠ c) [] [c] := by
  refine ⟨by simp, fun x => ?_, fun x h => by simpa using h.2, fun x h => ?_, by simp, fun g h => absurd h List.not_mem_nil⟩
  · simp only [List.nil_append, List.mem_singleton]
    constructor
    · intro h
      by_cases e : x = c
      · exact .inr e
      · exact .inl ⟨h, e⟩
    · rintro (⟨h, _⟩ | rfl)
      · exact h
      · exact hc
  · simp only [List.nil_append, List.mem_singleton] at h
    subst h
    exact .base
theorem GInv.step {L : List Cube} {c w : Cube} {K : Cube → Prop} {G W : List Cube} (h : GInv L c K G (W ++ [w])) {ns : List Cube} (hns : ns.Nodup) (hm : ∀ x, x ∈ ns ↔ touch w x = true ∧ K x) : GInv L c (fun x => K x ∧ x ∉ ns) (G ++ [w]) (W ++ ns) := by
  have hmem : ∀ x, x ∈ (G ++ [w]) ++ (W ++ ns) ↔ x ∈ G ++ (W ++ [w]) ∨ x ∈ ns := fun x => by
    simp only [List.mem_append, List.mem_singleton]
    constructor
    · rintro ((h | h) | (h | h))
      · exact .inl (.inl h)
      · exact .inl (.inr (.inr h))
      · exact .inl (.inr (.inl h))
      · exact .inr h
    · rintro ((h | h | h) | h)
      · exact .inl (.inl h)
      · exact .inr (.inl h)
      · exact .inl (.inr h)
      · exact .inr (.inr h)
  have hp : ((G ++ [w]) ++ (W ++ ns)).Perm ((G ++ (W ++ [w])) ++ ns) := by
    rw [← List.append_assoc]
    refine List.Perm.append_right ns ?_
    rw [List.append_assoc]
    exact List.Perm.append_left G List.perm_append_comm
  refine ⟨?_, fun x => ?_, fun x hx => ?_, fun x hx => ?_, (hmem c).mpr (.inl h.own), fun g hg y hy ht => ?_⟩
  · rw [hp.nodup_iff, List.nodup_append]
    exact ⟨h.nd, hns, fun a ha b hb e => by subst e; exact h.out a ((hm a).mp hb).2 ha⟩
  · rw [h.all, hmem]
    constructor
    · rintro (hk | hk)
      · by_cases hn : x ∈ ns
        · exact .inr (.inr hn)
        · exact .inl ⟨hk, hn⟩
      · exact .inr (.inl hk)
    · rintro (⟨hk, _⟩ | hk | hk)
      · exact .inl hk
      · exact .inr hk
      · exact .inl ((hm x).mp hk).2
  · rw [hmem]
    rintro (hk | hk)
    · exact h.out x hx.1 hk
    · exact hx.2 hk
  · rcases (hmem x).mp hx with hx | hx
    · exact h.rch x hx
    · have hw : Reach L c w := h.rch w (by simp)
      exact hw.step ((h.all x).mpr (.inl ((hm x).mp hx).2)) ((hm x).mp hx).1
  · rw [hmem]
    rcases List.mem_append.mp hg with hg | hg
    · exact .inl (h.cl g hg y hy ht)
    · rw [List.mem_singleton] at hg
      subst hg
      rcases (h.all y).mp hy with hk | hk
      · exact .inr ((hm y).mpr ⟨ht, hk⟩)
      · exact .inl hk
theorem len_sub {α : Type} [DecidableEq α] {A B : List α} (h1 : A.Nodup) (h2 : ∀ x ∈ A, x ∈ B) : A.length ≤ B.length := by
  induction A generalizing B with
  | nil => exact Nat.zero_le _
  | cons a A ih =>
    obtain ⟨n1, n2⟩ := List.nodup_cons.mp h1
    have ha := h2 a List.mem_cons_self
    have := ih (B := B.erase a) n2 fun x hx => by
      have hne : x ≠ a := fun e => n1 (e ▸ hx)
      exact (List.mem_erase_of_ne hne).mpr (h2 x (List.mem_cons_of_mem _ hx))
    rw [List.length_erase_of_mem ha] at this
    have hB : 0 < B.length := List.length_pos_of_mem ha
    rw [List.length_cons]
    omega
theorem GInv.len {L : List Cube} {c : Cube} {K : Cube → Prop} {G W : List Cube} (h : GInv L c K G W) : G.length + W.length ≤ L.length := by
  rw [← List.length_append]
  exact len_sub h.nd fun x hx => (h.all x).mpr (.inr hx)
theorem GInv.done {L : List Cube} {c : Cube} {K : Cube → Prop} {G : List Cube} (h : GInv L c K G []) (hs : SrtA L) : sortC G = comp L c ∧ ∀ x, K x ↔ x ∈ left L c := by
  have hn := h.nd; have ha := h.all; have ho := h.out; have hr := h.rch; have hw := h.own; have hcl := h.cl
  simp only [List.append_nil] at hn ha ho hr hw hcl
  have key := group_whole hw (fun x hx => (ha x).mpr (.inr hx)) hr hcl
  refine ⟨sortC_eq hn (comp_srt hs c) fun x => by rw [comp_mem, key], fun x => ?_⟩
  rw [left_mem]
  constructor
  · intro hk
    have hL := (ha x).mpr (.inl hk)
    exact ⟨hL, fun hr => ho x hk ((key x).mpr ⟨hL, hr⟩)⟩
  · rintro ⟨hL, hr⟩
    rcases (ha x).mp hL with hk | hk
    · exact hk
    · exact absurd ((key x).mp hk).2 hr
end Q
set_option linter.all false
set_option maxRecDepth 100000
/-! Counts of rows and columns: filling from the greatest. -/
namespace Q
open PySem PySem.W
def mn (c m : Int) : Int := if m < c then m else c
def room (d : List Int) (m : Int) : Int := (d.map fun c => mn c m).sum
def Desc (d : List Int) : Prop := d.Pairwise fun a b => b ≤ a
theorem sum_nn {d : List Int} (h : ∀ x ∈ d, 0 ≤ x) : 0 ≤ d.sum := by
  induction d with
  | nil => exact Int.le_refl _
  | cons x r ih =>
    rw [List.sum_cons]
    have := h x List.mem_cons_self
    have := ih fun y hy => h y (List.mem_cons_of_mem _ hy)
    omega
theorem sum_zero {d : List Int} (h : ∀ x ∈ d, 0 ≤ x) (hs : d.sum = 0) : ∀ x ∈ d, x = 0 := by
  induction d with
  | nil => simp
  | cons x r ih =>
    rw [List.sum_cons] at hs
    have h1 := h x List.mem_cons_self
    have h2 := sum_nn fun y hy => h y (List.mem_cons_of_mem _ hy)
    intro y hy
    rcases List.mem_cons.mp hy with rfl | hy
    · omega
    · exact ih (fun y hy => h y (List.mem_cons_of_mem _ hy)) (by omega) y hy
theorem sum_le_len {d : List Int} {b : Int} (h : ∀ x ∈ d, x ≤ b) : d.sum ≤ d.length * b := by
  induction d with
  | nil => simp
  | cons x r ih =>
    rw [List.sum_cons, List.length_cons]
    have h1 := h x List.mem_cons_self
    have h2 := ih fun y hy => h y (List.mem_cons_of_mem _ hy)
    have : ((r.length + 1 : Nat) : Int) * b = r.length * b + b := by push_cast; rw [Int.add_mul, Int.one_mul]
    omega
theorem room_app (a b : List Int) (m : Int) : room (a ++ b) m = room a m + room b m := by unfold room; rw [List.map_append, List.sum_append]
theorem mn_nn {c m : Int} (hc : 0 ≤ c) (hm : 0 ≤ m) : 0 ≤ mn c m := by unfold mn; split <;> assumption
theorem room_nn {d : List Int} {m : Int} (h : ∀ x ∈ d, 0 ≤ x) (hm : 0 ≤ m) : 0 ≤ room d m := sum_nn fun x hx => by
  obtain ⟨c, hc, rfl⟩ := List.mem_map.mp hx
  exact mn_nn (h c hc) hm
theorem room_congr {d : List Int} {m n : Int} (h : ∀ x ∈ d, mn x m = mn x n) : room d m = room d n := by
  unfold room
  rw [List.map_congr_left h]
theorem room_dec {d : List Int} {m : Int} : room (d.map fun x => x - 1) m = room d (m + 1) - d.length := by
  unfold room
  induction d with
  | nil => rfl
  | cons x r ih =>
    rw [List.map_cons, List.map_cons, List.sum_cons, ih, List.map_cons, List.sum_cons, List.length_cons]
    unfold mn
    push_cast
    split <;> split <;> omega
theorem room_const {d : List Int} {m : Int} (h : ∀ x ∈ d, m ≤ x) : room d m = d.length * m := by
  unfold room
  induction d with
  | nil => simp
  | cons x r ih =>
    rw [List.map_cons, List.sum_cons, ih fun y hy => h y (List.mem_cons_of_mem _ hy), List.length_cons]
    have := h x List.mem_cons_self
    have e : mn x m = m := by unfold mn; split <;> omega
    rw [e]
    push_cast
    rw [Int.add_mul, Int.one_mul]
    omega
/-- those that are there, of a row that falls -/
theorem room_one {d : List Int} (hd : Desc d) (hn : ∀ x ∈ d, 0 ≤ x) {r : Nat} (h : (r : Int) ≤ room d 1) : r ≤ d.length ∧ ∀ x ∈ d.take r, 1 ≤ x := by
  induction d generalizing r with
  | nil =>
    have : room [] 1 = 0 := rfl
    rw [this] at h
    have : r = 0 := by omega
    subst this
    simp
  | cons x t ih =>
    obtain ⟨h1, h2⟩ := List.pairwise_cons.mp hd
    cases r with
    | zero => simp
    | succ r =>
      have e : room (x :: t) 1 = mn x 1 + room t 1 := rfl
      have hx := hn x List.mem_cons_self
      have hx1 : 1 ≤ x := by
        rcases Int.lt_or_le x 1 with g | g
        · exfalso
          have : room t 1 ≤ 0 := by
            unfold room
            have : ∀ y ∈ t.map (fun c => mn c 1), y ≤ 0 := fun y hy => by
              obtain ⟨c, hc, rfl⟩ := List.mem_map.mp hy
              have := h1 c hc
              unfold mn
              split <;> omega
            have := sum_le_len this
            omega
          have : mn x 1 ≤ 0 := by unfold mn; split <;> omega
          omega
        · exact g
      have e1 : mn x 1 = 1 := by unfold mn; split <;> omega
      obtain ⟨i1, i2⟩ := ih h2 (fun y hy => hn y (List.mem_cons_of_mem _ hy)) (r := r) (by omega)
      refine ⟨by rw [List.length_cons]; omega, fun y hy => ?_⟩
      rw [List.take_succ_cons] at hy
      rcases List.mem_cons.mp hy with rfl | hy
      · exact hx1
      · exact i2 y hy
/-- the row that is filled is taken from the greatest -/
theorem gr_step {d : List Int} (hd : Desc d) (hn : ∀ x ∈ d, 0 ≤ x) {r : Nat} {rs : List Int} (hr : ∀ x ∈ rs, 0 ≤ x ∧ x ≤ r) (H : ∀ m : Nat, m ≤ rs.length + 1 → (((r : Int) :: rs).take m).sum ≤ room d m) (hs : (r : Int) + rs.sum = d.sum) :
    r ≤ d.length ∧ (∀ x ∈ d.take r, 1 ≤ x) ∧ (∀ m : Nat, m ≤ rs.length → (rs.take m).sum ≤ room ((d.take r).map (fun x => x - 1) ++ d.drop r) m) ∧ rs.sum = ((d.take r).map (fun x => x - 1) ++ d.drop r).sum ∧ ∀ x ∈ (d.take r).map (fun x => x - 1) ++ d.drop r, 0 ≤ x := by
  have h1 := H 1 (by omega)
  simp only [List.take_succ_cons, List.take_zero, List.sum_cons, List.sum_nil, Int.add_zero] at h1
  obtain ⟨g1, g2⟩ := room_one hd hn (r := r) (by simpa using h1)
  have hl : (d.take r).length = r := by rw [List.length_take]; omega
  have hsum : d.sum = (d.take r).sum + (d.drop r).sum := by rw [← List.sum_append, List.take_append_drop]
  refine ⟨g1, g2, fun m hm => ?_, ?_, fun x hx => ?_⟩
  · rw [room_app, room_dec, hl]
    by_cases hA : ∀ x ∈ d.drop r, x ≤ m
    · have e2 : room (d.drop r) m = room (d.drop r) (m + 1) := room_congr fun x hx => by
        have := hA x hx
        unfold mn
        split <;> split <;> omega
      have e3 : room d (m + 1) = room (d.take r) (m + 1) + room (d.drop r) (m + 1) := by rw [← room_app, List.take_append_drop]
      have h2 := H (m + 1) (by omega)
      rw [List.take_succ_cons, List.sum_cons] at h2
      push_cast at h2
      omega
    · obtain ⟨y, hy, hym⟩ : ∃ y ∈ d.drop r, (m : Int) < y := by
        rcases Classical.em (∃ y ∈ d.drop r, (m : Int) < y) with h | h
        · exact h
        · exact absurd (fun x hx => by
            rcases Int.lt_or_le (m : Int) x with g | g
            · exact absurd ⟨x, hx, g⟩ h
            · exact g) hA
      have hall : ∀ x ∈ d.take r, (m : Int) + 1 ≤ x := fun x hx => by
        have hd' : Desc (d.take r ++ d.drop r) := by rw [List.take_append_drop]; exact hd
        have := (List.pairwise_append.mp hd').2.2 x hx y hy
        omega
      rw [room_const hall, hl]
      have h3 := room_nn (d := d.drop r) (m := (m : Int)) (fun x hx => hn x (List.mem_of_mem_drop hx)) (by omega)
      have h4 := sum_le_len (d := rs.take m) (b := (r : Int)) fun x hx => (hr x (List.mem_of_mem_take hx)).2
      have h5 : (rs.take m).length ≤ m := List.length_take_le _ _
      have h6 : ((rs.take m).length : Int) * r ≤ m * r := Int.mul_le_mul_of_nonneg_right (by omega) (by omega)
      have h7 : (r : Int) * ((m : Int) + 1) = m * r + r := by rw [Int.mul_add, Int.mul_one, Int.mul_comm]
      omega
  · rw [List.sum_append]
    have : ((d.take r).map fun x => x - 1).sum = (d.take r).sum - (d.take r).length := by
      generalize d.take r = t
      induction t with
      | nil => rfl
      | cons x t ih => rw [List.map_cons, List.sum_cons, ih, List.sum_cons, List.length_cons]; push_cast; omega
    omega
  · rcases List.mem_append.mp hx with hx | hx
    · obtain ⟨y, hy, rfl⟩ := List.mem_map.mp hx
      have := g2 y hy
      omega
    · exact hn x (List.mem_of_mem_drop hx)
end Q
set_option linter.all false
set_option maxRecDepth 100000
/-! Filling, by places. -/
namespace Q
open PySem PySem.W
/-- what lacks, with its place -/
def ep (i : Int) : List Int → List Pr
  | [] => []
  | v :: r => (0 - v, i) :: ep (i + 1) r
theorem ep_len (c : List Int) : ∀ i, (ep i c).length = c.length := by
  induction c with
  | nil => intro i; rfl
  | cons v r ih => intro i; rw [ep, List.length_cons, List.length_cons, ih]
theorem ep_snd (c : List Int) : ∀ i, (ep i c).map (·.2) = rngI i c.length := by
  induction c with
  | nil => intro i; rfl
  | cons v r ih => intro i; rw [ep, List.map_cons, ih, List.length_cons, rngI]
theorem ep_val (c : List Int) : ∀ i, (ep i c).map (fun p => 0 - p.1) = c := by
  induction c with
  | nil => intro i; rfl
  | cons v r ih => intro i; rw [ep, List.map_cons, ih]; congr 1; show 0 - (0 - v) = v; omega
theorem ep_get {c : List Int} {i : Int} {p : Pr} (h : p ∈ ep i c) : i ≤ p.2 ∧ p.2 < i + c.length ∧ 0 - p.1 = c.getD (p.2 - i).toNat 0 := by
  induction c generalizing i with
  | nil => exact absurd h List.not_mem_nil
  | cons v r ih =>
    rw [ep] at h
    rcases List.mem_cons.mp h with rfl | h
    · simp
      omega
    · obtain ⟨h1, h2, h3⟩ := ih h
      refine ⟨by omega, by rw [List.length_cons]; push_cast; omega, ?_⟩
      have : (p.2 - i).toNat = (p.2 - (i + 1)).toNat + 1 := by omega
      rw [this, List.getD_cons_succ]
      exact h3
theorem rngI_srt (n : Nat) : ∀ lo, (rngI lo n).Pairwise (· < ·) := by
  induction n with
  | zero => intro lo; exact List.Pairwise.nil
  | succ n ih =>
    intro lo
    rw [rngI, List.pairwise_cons]
    exact ⟨fun x hx => by have := rngI_mem hx; omega, ih _⟩
theorem rngI_nodup (lo : Int) (n : Nat) : (rngI lo n).Nodup := (rngI_srt n lo).imp fun h e => by omega
theorem rngI_in {lo : Int} {n : Nat} {x : Int} : x ∈ rngI lo n ↔ lo ≤ x ∧ x < lo + n := by
  refine ⟨rngI_mem, fun h => ?_⟩
  induction n generalizing lo with
  | zero => omega
  | succ n ih =>
    rw [rngI, List.mem_cons]
    rcases Int.lt_or_le lo x with g | g
    · exact .inr (ih (by omega))
    · exact .inl (by omega)
def dec1 (c : List Int) (x : Int) : List Int := c.set x.toNat (c.getD x.toNat 0 - 1)
def dec (c : List Int) (P : List Int) : List Int := P.foldl dec1 c
theorem dec1_len (c : List Int) (x : Int) : (dec1 c x).length = c.length := List.length_set
theorem dec_len (P : List Int) : ∀ c, (dec c P).length = c.length := by
  induction P with
  | nil => intro c; rfl
  | cons x P ih => intro c; show (dec (dec1 c x) P).length = _; rw [ih, dec1_len]
theorem set_ep (c : List Int) : ∀ (i : Int) (n : Nat), n < c.length → ep i (c.set n (c.getD n 0 - 1)) = (ep i c).map fun p => if p.2 = i + n then (p.1 + 1, p.2) else p := by
  induction c with
  | nil => intro i n h; exact absurd h (Nat.not_lt_zero _)
  | cons v r ih =>
    intro i n h
    cases n with
    | zero =>
      rw [List.set_cons_zero, List.getD_cons_zero, ep, ep, List.map_cons]
      have e1 : (0 - (v - 1), i) = ((0 - v) + 1, i) := by congr 1; omega
      have e2 : (ep (i + 1) r).map (fun p => if p.2 = i + ((0 : Nat) : Int) then (p.1 + 1, p.2) else p) = ep (i + 1) r := by
        conv => rhs; rw [← List.map_id (ep (i + 1) r)]
        refine List.map_congr_left fun p hp => ?_
        have := (ep_get hp).1
        rw [if_neg (by push_cast; omega)]
        rfl
      rw [e2]
      simp
      omega
    | succ n =>
      rw [List.length_cons] at h
      rw [List.set_cons_succ, List.getD_cons_succ, ep, ep, List.map_cons, ih (i + 1) n (by omega)]
      have : ¬ i = i + ((n + 1 : Nat) : Int) := by push_cast; omega
      rw [if_neg this]
      congr 1
      refine List.map_congr_left fun p hp => ?_
      have e : i + ((n + 1 : Nat) : Int) = i + 1 + (n : Int) := by push_cast; omega
      rw [e]
theorem dec1_ep {c : List Int} {x : Int} (h0 : 0 ≤ x) (h1 : x < c.length) : ep 0 (dec1 c x) = (ep 0 c).map fun p => if p.2 = x then (p.1 + 1, p.2) else p := by
  have := set_ep c 0 x.toNat (by omega)
  unfold dec1
  rw [this]
  refine List.map_congr_left fun p _ => ?_
  have : (0 : Int) + (x.toNat : Int) = x := by omega
  rw [this]
theorem dec_ep : ∀ (P : List Int) (c : List Int), P.Nodup → (∀ x ∈ P, 0 ≤ x ∧ x < c.length) → ep 0 (dec c P) = (ep 0 c).map fun p => if p.2 ∈ P then (p.1 + 1, p.2) else p
  | [], c, _, _ => by
    show ep 0 c = _
    conv => lhs; rw [← List.map_id (ep 0 c)]
    refine List.map_congr_left fun p _ => ?_
    rw [if_neg List.not_mem_nil]
    rfl
  | x :: P, c, hn, hb => by
    obtain ⟨n1, n2⟩ := List.nodup_cons.mp hn
    obtain ⟨b0, b1⟩ := hb x List.mem_cons_self
    show ep 0 (dec (dec1 c x) P) = _
    rw [dec_ep P (dec1 c x) n2 (fun y hy => by rw [dec1_len]; exact hb y (List.mem_cons_of_mem _ hy)), dec1_ep b0 b1, List.map_map]
    refine List.map_congr_left fun p _ => ?_
    show (if (if p.2 = x then (p.1 + 1, p.2) else p).2 ∈ P then _ else _) = _
    by_cases e : p.2 = x
    · have h1 : ¬ x ∈ P := n1
      simp [e, h1]
    · by_cases g : p.2 ∈ P <;> simp [e, g]
theorem getD_ep {c : List Int} {x : Int} (h0 : 0 ≤ x) (h1 : x < c.length) : (0 - c.getD x.toNat 0, x) ∈ ep 0 c := by
  have h2 : x ∈ (ep 0 c).map (·.2) := by rw [ep_snd, rngI_in]; omega
  obtain ⟨p, hp, e⟩ := List.mem_map.mp h2
  obtain ⟨_, _, g⟩ := ep_get hp
  have e1 : (p.2 - 0).toNat = x.toNat := by rw [e]; omega
  rw [e1] at g
  have : p = (0 - c.getD x.toNat 0, x) := Prod.ext (by simp only; omega) e
  rw [← this]
  exact hp
theorem dec_get {P : List Int} {c : List Int} (hn : P.Nodup) (hb : ∀ x ∈ P, 0 ≤ x ∧ x < c.length) {x : Int} (h0 : 0 ≤ x) (h1 : x < c.length) : (dec c P).getD x.toNat 0 = c.getD x.toNat 0 - if x ∈ P then 1 else 0 := by
  have h2 := getD_ep (c := dec c P) h0 (by rw [dec_len]; exact h1)
  rw [dec_ep P c hn hb] at h2
  obtain ⟨p, hp, e⟩ := List.mem_map.mp h2
  obtain ⟨_, _, g⟩ := ep_get hp
  by_cases hx : p.2 ∈ P
  · rw [if_pos hx] at e
    have e1 := congrArg Prod.fst e
    have e2 := congrArg Prod.snd e
    simp only at e1 e2
    rw [e2] at g hx
    rw [if_pos hx]
    have : (x - 0).toNat = x.toNat := by omega
    rw [this] at g
    omega
  · rw [if_neg hx] at e
    have e1 := congrArg Prod.fst e
    have e2 := congrArg Prod.snd e
    simp only at e1 e2
    rw [e2] at g hx
    rw [if_neg hx]
    have : (x - 0).toNat = x.toNat := by omega
    rw [this] at g
    omega
/-- the greatest first -/
def ordC (c : List Int) : List Pr := isort leA (ep 0 c)
def picks (c : List Int) (r : Nat) : List Int := ((ordC c).take r).map (·.2)
theorem ord_perm (c : List Int) : (ordC c).Perm (ep 0 c) := isort_perm leA_total _
theorem ord_nodup (c : List Int) : ((ordC c).map (·.2)).Nodup := by
  rw [((ord_perm c).map (·.2)).nodup_iff, ep_snd]
  exact rngI_nodup _ _
theorem picks_nodup (c : List Int) (r : Nat) : (picks c r).Nodup := by
  unfold picks
  rw [List.map_take]
  exact (ord_nodup c).sublist (List.take_sublist _ _)
theorem picks_in {c : List Int} {r : Nat} {x : Int} (h : x ∈ picks c r) : 0 ≤ x ∧ x < c.length := by
  obtain ⟨p, hp, rfl⟩ := List.mem_map.mp h
  have := (ord_perm c).mem_iff.mp (List.mem_of_mem_take hp)
  obtain ⟨a, b, _⟩ := ep_get this
  omega
theorem ord_desc (c : List Int) : Desc ((ordC c).map fun p => 0 - p.1) := by
  unfold Desc
  rw [List.pairwise_map]
  refine (isort_pair (leA_total (α := Pr)) (ep 0 c)).imp fun {a b} h => ?_
  rw [leA_iff] at h
  have : ¬ b.1 < a.1 := fun g => h (by
    show [b.1, b.2] < [a.1, a.2]
    exact List.Lex.rel g)
  omega
theorem perm_sum {a b : List Int} (h : a.Perm b) : a.sum = b.sum := by
  induction h with
  | nil => rfl
  | cons x _ ih => rw [List.sum_cons, List.sum_cons, ih]
  | swap x y l => rw [List.sum_cons, List.sum_cons, List.sum_cons, List.sum_cons]; omega
  | trans _ _ h1 h2 => rw [h1, h2]
structure GR (c : List Int) (R : List Int) : Prop where
  nn : ∀ x ∈ c, 0 ≤ x
  bd : ∀ m : Nat, m ≤ R.length → (R.take m).sum ≤ room c m
  sum : R.sum = c.sum
  rn : ∀ x ∈ R, 0 ≤ x
  rd : Desc R
theorem room_perm {a b : List Int} (h : a.Perm b) (m : Int) : room a m = room b m := perm_sum (h.map _)
theorem gr_fill {c : List Int} {r : Nat} {rs : List Int} (h : GR c ((r : Int) :: rs)) : r ≤ c.length ∧ (picks c r).length = r ∧ (∀ x ∈ picks c r, 1 ≤ c.getD x.toNat 0) ∧ GR (dec c (picks c r)) rs := by
  have pv : ((ordC c).map fun p => 0 - p.1).Perm c := by
    have := (ord_perm c).map fun p : Pr => 0 - p.1
    rw [ep_val] at this
    exact this
  obtain ⟨d1, d2⟩ := List.pairwise_cons.mp h.rd
  obtain ⟨g1, g2, g3, g4, g5⟩ := gr_step (d := (ordC c).map fun p => 0 - p.1) (ord_desc c) (fun x hx => h.nn x (pv.mem_iff.mp hx)) (r := r) (rs := rs) (fun x hx => ⟨h.rn x (List.mem_cons_of_mem _ hx), d1 x hx⟩) (fun m hm => by rw [room_perm pv]; exact h.bd m hm) (by rw [perm_sum pv, ← h.sum, List.sum_cons])
  have hlen : (ordC c).length = c.length := by rw [(ord_perm c).length_eq, ep_len]
  rw [List.length_map, hlen] at g1
  have pd : (((((ordC c).map fun p : Pr => 0 - p.1).take r).map fun x => x - 1) ++ ((ordC c).map fun p : Pr => 0 - p.1).drop r).Perm (dec c (picks c r)) := by
    have e1 := (ord_perm c).map fun p : Pr => 0 - (if p.2 ∈ picks c r then (p.1 + 1, p.2) else p).1
    have e2 : (ep 0 c).map (fun p : Pr => 0 - (if p.2 ∈ picks c r then (p.1 + 1, p.2) else p).1) = dec c (picks c r) := by
      rw [← ep_val (dec c (picks c r)) 0, dec_ep _ c (picks_nodup c r) (fun x hx => picks_in hx), List.map_map]
      rfl
    rw [e2] at e1
    refine List.Perm.trans (List.Perm.of_eq ?_) e1
    conv => rhs; rw [← List.take_append_drop r (ordC c), List.map_append]
    rw [← List.map_take, ← List.map_drop, List.map_map]
    congr 1
    · refine List.map_congr_left fun p hp => ?_
      have : p.2 ∈ picks c r := List.mem_map.mpr ⟨p, hp, rfl⟩
      simp only [Function.comp, this, if_true]
      omega
    · refine List.map_congr_left fun p hp => ?_
      have : p.2 ∉ picks c r := fun hin => by
        have hn := ord_nodup c
        rw [← List.take_append_drop r (ordC c), List.map_append, List.nodup_append] at hn
        exact hn.2.2 p.2 hin p.2 (List.mem_map.mpr ⟨p, hp, rfl⟩) rfl
      rw [if_neg this]
  refine ⟨g1, by unfold picks; rw [List.length_map, List.length_take]; omega, fun x hx => ?_, ?_⟩
  · obtain ⟨p, hp, rfl⟩ := List.mem_map.mp hx
    have h1 := g2 (0 - p.1) (by rw [← List.map_take]; exact List.mem_map.mpr ⟨p, hp, rfl⟩)
    have h2 := (ep_get ((ord_perm c).mem_iff.mp (List.mem_of_mem_take hp))).2.2
    rw [Int.sub_zero] at h2
    omega
  · exact ⟨fun x hx => g5 x (pd.mem_iff.mpr hx), fun m hm => by rw [← room_perm pd]; exact g3 m hm, by rw [g4, perm_sum pd], fun x hx => h.rn x (List.mem_cons_of_mem _ hx), d2⟩
end Q
set_option linter.all false
set_option maxRecDepth 100000
/-! All rows filled; counts of a layer. -/
namespace Q
open PySem PySem.W
def cx (Z : List Cube) (x : Int) : Nat := cn x (Z.map fun z => z.1)
def cy (Z : List Cube) (y : Int) : Nat := cn y (Z.map fun z => z.2.1)
theorem cn_map {α : Type} {β : Type} [DecidableEq β] (f : α → β) (k : β) (Z : List α) : cn k (Z.map f) = (Z.filter fun z => decide (f z = k)).length := by
  induction Z with
  | nil => rfl
  | cons z r ih =>
    rw [List.map_cons, cn_cons, ih, List.filter_cons]
    by_cases h : f z = k <;> simp [h]
theorem cn_zero {α : Type} [DecidableEq α] {x : α} {xs : List α} (h : x ∉ xs) : cn x xs = 0 := by
  have : ¬ 0 < cn x xs := fun g => h (cn_pos.mp g)
  omega
def fstep (s : List Int × List Cube) (p : Pr) : List Int × List Cube := (dec s.1 (picks s.1 p.1.toNat), s.2 ++ (picks s.1 p.1.toNat).map fun x => (x, p.2, 0))
/-- what stands with its place -/
def eo (i : Int) : List Int → List Pr
  | [] => []
  | v :: r => (v, i) :: eo (i + 1) r
theorem eo_snd (c : List Int) : ∀ i, (eo i c).map (·.2) = rngI i c.length := by
  induction c with
  | nil => intro i; rfl
  | cons v r ih => intro i; rw [eo, List.map_cons, ih, List.length_cons, rngI]
theorem eo_fst (c : List Int) : ∀ i, (eo i c).map (·.1) = c := by
  induction c with
  | nil => intro i; rfl
  | cons v r ih => intro i; rw [eo, List.map_cons, ih]
theorem eo_get {c : List Int} {i : Int} {p : Pr} (h : p ∈ eo i c) : i ≤ p.2 ∧ p.2 < i + c.length ∧ p.1 = c.getD (p.2 - i).toNat 0 := by
  induction c generalizing i with
  | nil => exact absurd h List.not_mem_nil
  | cons v r ih =>
    rw [eo] at h
    rcases List.mem_cons.mp h with rfl | h
    · simp
      omega
    · obtain ⟨h1, h2, h3⟩ := ih h
      refine ⟨by omega, by rw [List.length_cons]; push_cast; omega, ?_⟩
      have : (p.2 - i).toNat = (p.2 - (i + 1)).toNat + 1 := by omega
      rw [this, List.getD_cons_succ]
      exact h3
def rowsD (rows : List Int) : List Pr := (isort leA (eo 0 rows)).reverse
def descI (rows : List Int) : List Int := (isort leI rows).reverse
theorem rowsD_perm (rows : List Int) : (rowsD rows).Perm (eo 0 rows) := (List.reverse_perm _).trans (isort_perm leA_total _)
theorem leI_total : TotalLe leI := by
  refine ⟨fun a b c h g => ?_, fun a b => ?_⟩
  · unfold leI at *; simp at *; omega
  · unfold leI; simp; omega
theorem rowsD_fst (rows : List Int) : (rowsD rows).map (·.1) = descI rows := by
  unfold rowsD descI
  rw [List.map_reverse]
  congr 1
  refine List.Perm.eq_of_pairwise (le := fun a b : Int => a ≤ b) (fun a b _ _ h1 h2 => by omega) ?_ ?_ ?_
  · rw [List.pairwise_map]
    refine (isort_pair (leA_total (α := Pr)) (eo 0 rows)).imp fun {a b} h => ?_
    rw [leA_iff] at h
    have : ¬ b.1 < a.1 := fun g => h (by
      show [b.1, b.2] < [a.1, a.2]
      exact List.Lex.rel g)
    omega
  · refine (isort_pair leI_total rows).imp fun {a b} h => ?_
    unfold leI at h
    simp at h
    exact h
  · have h1 := (isort_perm (leA_total (α := Pr)) (eo 0 rows)).map (·.1)
    rw [eo_fst] at h1
    exact h1.trans (isort_perm leI_total rows).symm
theorem desc_desc (rows : List Int) : Desc (descI rows) := by
  unfold Desc descI
  rw [List.pairwise_reverse]
  refine (isort_pair leI_total rows).imp fun {a b} h => ?_
  unfold leI at h
  simp at h
  exact h
theorem desc_perm (rows : List Int) : (descI rows).Perm rows := (List.reverse_perm _).trans (isort_perm leI_total _)
structure FI (n : Nat) (c0 : List Int) (Z0 : List Cube) (L : List Pr) (c : List Int) (Z : List Cube) : Prop where
  len : c.length = n
  x : ∀ x : Int, 0 ≤ x → x < n → (cx Z x : Int) + c.getD x.toNat 0 = cx Z0 x + c0.getD x.toNat 0
  y : ∀ p ∈ L, (cy Z p.2 : Int) = cy Z0 p.2 + p.1
  y' : ∀ y, y ∉ L.map (·.2) → cy Z y = cy Z0 y
  nd : Z.Nodup
  mem : ∀ z ∈ Z, z ∈ Z0 ∨ (0 ≤ z.1 ∧ z.1 < n ∧ z.2.1 ∈ L.map (·.2) ∧ z.2.2 = 0)
theorem fill_all : ∀ (L : List Pr) (c : List Int) (Z : List Cube), GR c (L.map (·.1)) → (L.map (·.2)).Nodup → Z.Nodup → (∀ z ∈ Z, z.2.1 ∉ L.map (·.2)) → GR (L.foldl fstep (c, Z)).1 [] ∧ FI c.length c Z L (L.foldl fstep (c, Z)).1 (L.foldl fstep (c, Z)).2
  | [], c, Z, hg, _, hz, _ => ⟨hg, rfl, fun _ _ _ => rfl, by simp, fun _ _ => rfl, hz, fun z h => .inl h⟩
  | p :: L, c, Z, hg, hn, hz, hzy => by
    rw [List.map_cons] at hg hn hzy
    obtain ⟨n1, n2⟩ := List.nodup_cons.mp hn
    have hp0 : 0 ≤ p.1 := hg.rn p.1 List.mem_cons_self
    have e0 : p.1 = ((p.1.toNat : Nat) : Int) := by omega
    rw [e0] at hg
    obtain ⟨a1, a2, a3, a4⟩ := gr_fill hg
    have pn := picks_nodup c p.1.toNat
    have pin : ∀ x ∈ picks c p.1.toNat, 0 ≤ x ∧ x < c.length := fun x hx => picks_in hx
    generalize hP : picks c p.1.toNat = P at *
    have hnew : ∀ z ∈ P.map (fun x => ((x, p.2, 0) : Cube)), z.2.1 = p.2 ∧ z.2.2 = 0 ∧ z.1 ∈ P := fun z h => by
      obtain ⟨x, hx, rfl⟩ := List.mem_map.mp h
      exact ⟨rfl, rfl, hx⟩
    have hz1 : (Z ++ P.map fun x => ((x, p.2, 0) : Cube)).Nodup := by
      rw [List.nodup_append]
      refine ⟨hz, ?_, fun a ha b hb e => ?_⟩
      · show (P.map fun x => ((x, p.2, 0) : Cube)).Pairwise (· ≠ ·)
        rw [List.pairwise_map]
        exact pn.imp fun h e => h (congrArg Prod.fst e)
      · subst e
        exact hzy a ha (by rw [(hnew a hb).1]; exact List.mem_cons_self)
    obtain ⟨b1, b2⟩ := fill_all L (dec c P) (Z ++ P.map fun x => (x, p.2, 0)) a4 n2 hz1 fun z h => by
      rcases List.mem_append.mp h with h | h
      · exact fun g => hzy z h (List.mem_cons_of_mem _ g)
      · rw [(hnew z h).1]; exact n1
    have e1 : (p :: L).foldl fstep (c, Z) = L.foldl fstep (dec c P, Z ++ P.map fun x => (x, p.2, 0)) := by
      rw [List.foldl_cons]
      unfold fstep
      rw [hP]
    rw [e1]
    have hlen : (dec c P).length = c.length := dec_len P c
    rw [hlen] at b2
    have cyn : ∀ y, cy (Z ++ P.map fun x => (x, p.2, 0)) y = cy Z y + if y = p.2 then P.length else 0 := fun y => by
      unfold cy
      rw [List.map_append, cn_app, List.map_map]
      congr 1
      have : (fun z : Cube => z.2.1) ∘ (fun x => ((x, p.2, 0) : Cube)) = fun _ => p.2 := rfl
      rw [this]
      clear a2 pn pin hP hnew hz1 b1 b2 e1 hlen a3 a4
      induction P with
      | nil => simp [cn_nil]
      | cons x P ih =>
        rw [List.map_cons, cn_cons, ih, List.length_cons]
        by_cases g : y = p.2
        · simp [g]
        · have : ¬ p.2 = y := fun z => g z.symm
          simp [g, this]
    refine ⟨b1, b2.len, fun x h0 h1 => ?_, fun q hq => ?_, fun y hy => ?_, b2.nd, fun z h => ?_⟩
    · rw [b2.x x h0 h1, dec_get pn pin h0 h1]
      unfold cx
      rw [List.map_append, cn_app, List.map_map]
      have : ((fun z : Cube => z.1) ∘ fun x => ((x, p.2, 0) : Cube)) = id := rfl
      rw [this, List.map_id]
      by_cases g : x ∈ P
      · rw [cn_nodup pn g, if_pos g]; push_cast; omega
      · rw [cn_zero g, if_neg g]; push_cast; omega
    · rcases List.mem_cons.mp hq with rfl | hq
      · rw [b2.y' q.2 n1, cyn, if_pos rfl]
        have : cy Z q.2 = 0 := cn_zero fun g => by
          obtain ⟨z, hz, e⟩ := List.mem_map.mp g
          exact hzy z hz (by rw [e]; exact List.mem_cons_self)
        rw [this]
        push_cast
        omega
      · rw [b2.y q hq, cyn]
        have : ¬ q.2 = p.2 := fun e => n1 (e ▸ List.mem_map.mpr ⟨q, hq, rfl⟩)
        rw [if_neg this]
        push_cast
        omega
    · rw [List.map_cons, List.mem_cons, not_or] at hy
      rw [b2.y' y hy.2, cyn, if_neg hy.1]
      rfl
    · rcases b2.mem z h with h | h
      · rcases List.mem_append.mp h with h | h
        · exact .inl h
        · obtain ⟨c1, c2, c3⟩ := hnew z h
          obtain ⟨d1, d2⟩ := pin _ c3
          exact .inr ⟨d1, d2, by rw [c1]; exact List.mem_cons_self, c2⟩
      · exact .inr ⟨h.1, h.2.1, List.mem_cons_of_mem _ h.2.2.1, h.2.2.2⟩
def fillZ (rows cols : List Int) : List Cube := ((rowsD rows).foldl fstep (cols, [])).2
/-- a layer with these counts -/
structure Lay (rows cols : List Int) (Z : List Cube) : Prop where
  nd : Z.Nodup
  mem : ∀ z ∈ Z, (0 ≤ z.1 ∧ z.1 < cols.length) ∧ (0 ≤ z.2.1 ∧ z.2.1 < rows.length) ∧ z.2.2 = 0
  x : ∀ x : Int, 0 ≤ x → x < cols.length → (cx Z x : Int) = cols.getD x.toNat 0
  y : ∀ y : Int, 0 ≤ y → y < rows.length → (cy Z y : Int) = rows.getD y.toNat 0
/-- no bar -/
def NoBar (rows cols : List Int) : Prop := rows.sum = cols.sum ∧ ∀ m : Nat, m ≤ rows.length → ((descI rows).take m).sum ≤ room cols m
theorem rowsD_mem {rows : List Int} {y : Int} (h0 : 0 ≤ y) (h1 : y < rows.length) : (rows.getD y.toNat 0, y) ∈ rowsD rows := by
  rw [(rowsD_perm rows).mem_iff]
  have h2 : y ∈ (eo 0 rows).map (·.2) := by rw [eo_snd, rngI_in]; omega
  obtain ⟨p, hp, e⟩ := List.mem_map.mp h2
  obtain ⟨_, _, g⟩ := eo_get hp
  have e1 : (p.2 - 0).toNat = y.toNat := by rw [e]; omega
  rw [e1] at g
  rw [← show p = (rows.getD y.toNat 0, y) from Prod.ext g e]
  exact hp
theorem rowsD_snd (rows : List Int) : ((rowsD rows).map (·.2)).Perm (rngI 0 rows.length) := by
  have := (rowsD_perm rows).map (·.2)
  rwa [eo_snd] at this
theorem getD_mem0 {c : List Int} {n : Nat} (h : n < c.length) : c.getD n 0 ∈ c := by
  rw [List.getD_eq_getElem?_getD, List.getElem?_eq_getElem h]
  exact List.getElem_mem h
theorem fill_lay {rows cols : List Int} (hr : ∀ x ∈ rows, 0 ≤ x) (hc : ∀ x ∈ cols, 0 ≤ x) (h : NoBar rows cols) : Lay rows cols (fillZ rows cols) := by
  have hg : GR cols ((rowsD rows).map (·.1)) := by
    rw [rowsD_fst]
    refine ⟨hc, fun m hm => h.2 m (by rw [(desc_perm rows).length_eq] at hm; exact hm), by rw [perm_sum (desc_perm rows), h.1], fun x hx => hr x ((desc_perm rows).mem_iff.mp hx), desc_desc rows⟩
  have hn : ((rowsD rows).map (·.2)).Nodup := by rw [(rowsD_snd rows).nodup_iff]; exact rngI_nodup _ _
  obtain ⟨a1, a2⟩ := fill_all (rowsD rows) cols [] hg hn List.nodup_nil (by simp)
  have hz := sum_zero a1.nn (by have := a1.sum; simpa using this.symm)
  refine ⟨a2.nd, fun z hz => ?_, fun x h0 h1 => ?_, fun y h0 h1 => ?_⟩
  · rcases a2.mem z hz with h | ⟨h1, h2, h3, h4⟩
    · exact absurd h List.not_mem_nil
    · have := rngI_in.mp ((rowsD_snd rows).mem_iff.mp h3)
      exact ⟨⟨h1, h2⟩, by omega, h4⟩
  · have h2 := a2.x x h0 h1
    have h3 : (((rowsD rows).foldl fstep (cols, [])).1).getD x.toNat 0 = 0 := hz _ (getD_mem0 (by rw [a2.len]; omega))
    rw [h3] at h2
    have h4 : cx [] x = 0 := rfl
    rw [h4] at h2
    unfold fillZ
    omega
  · have h2 := a2.y _ (rowsD_mem h0 h1)
    have h4 : cy [] y = 0 := rfl
    simp only [h4] at h2
    unfold fillZ
    omega
/-- a layer shows that there is no bar -/
theorem lay_nobar {rows cols : List Int} {Z : List Cube} (h : Lay rows cols Z) : NoBar rows cols := by
  have sumr : ∀ (c : List Int) (f : Int → Nat) (i : Int), (∀ n : Nat, n < c.length → (f (i + n) : Int) = c.getD n 0) → (((rngI i c.length).map f).sum : Int) = c.sum := fun c f => by
    induction c with
    | nil => intro i _; rfl
    | cons v r ih =>
      intro i g
      rw [List.length_cons, rngI, List.map_cons, List.sum_cons, List.sum_cons]
      have g0 := g 0 (by simp)
      simp at g0
      have := ih (i + 1) fun n hn => by
        have := g (n + 1) (by simp; omega)
        rw [List.getD_cons_succ] at this
        rw [← this]
        congr 2
        push_cast
        omega
      push_cast
      rw [g0]
      omega
  have tot : ∀ (W : List Cube), (∀ z ∈ W, 0 ≤ z.1 ∧ z.1 < cols.length) → ((rngI 0 cols.length).map fun x => cx W x).sum = W.length := fun W hW => by
    have := sum_count (E := rngI 0 cols.length) (L := W.map fun z => z.1) (rngI_nodup _ _) fun x hx => by
      obtain ⟨z, hz, rfl⟩ := List.mem_map.mp hx
      have := hW z hz
      exact rngI_in.mpr (by omega)
    rw [List.length_map] at this
    exact this
  have hx := tot Z fun z hz => (h.mem z hz).1
  have hy : ((rngI 0 rows.length).map fun y => cy Z y).sum = Z.length := by
    have := sum_count (E := rngI 0 rows.length) (L := Z.map fun z => z.2.1) (rngI_nodup _ _) fun x hx => by
      obtain ⟨z, hz, rfl⟩ := List.mem_map.mp hx
      have := (h.mem z hz).2.1
      exact rngI_in.mpr (by omega)
    rw [List.length_map] at this
    exact this
  have sx := sumr cols (fun x => cx Z x) 0 fun n hn => by have := h.x n (by omega) (by omega); simpa using this
  have sy := sumr rows (fun y => cy Z y) 0 fun n hn => by have := h.y n (by omega) (by omega); simpa using this
  refine ⟨by rw [← sx, ← sy, hx, hy], fun m hm => ?_⟩
  -- the m greatest rows
  let Y := ((rowsD rows).take m).map (·.2)
  have hYn : Y.Nodup := by
    show (((rowsD rows).take m).map (·.2)).Nodup
    rw [List.map_take]
    exact ((rowsD_snd rows).nodup_iff.mpr (rngI_nodup _ _)).sublist (List.take_sublist _ _)
  have hYl : Y.length ≤ m := by
    show (((rowsD rows).take m).map (·.2)).length ≤ m
    rw [List.length_map]
    exact List.length_take_le _ _
  let W := Z.filter fun z => decide (z.2.1 ∈ Y)
  have hWl : (((descI rows).take m).sum : Int) = W.length := by
    rw [← rowsD_fst, ← List.map_take]
    have e1 : (Y.map fun y => cn y (W.map fun z => z.2.1)).sum = W.length := by
      have := sum_count (E := Y) (L := W.map fun z => z.2.1) hYn fun x hx => by
        obtain ⟨z, hz, rfl⟩ := List.mem_map.mp hx
        have := (List.mem_filter.mp hz).2
        simpa using this
      rw [List.length_map] at this
      exact this
    rw [← e1]
    show _ = (((((rowsD rows).take m).map (·.2)).map fun y => cn y (W.map fun z => z.2.1)).sum : Int)
    rw [List.map_map]
    have e2 : ∀ p ∈ (rowsD rows).take m, (p.1 : Int) = ((((fun y => cn y (W.map fun z => z.2.1)) ∘ fun q : Pr => q.2) p : Nat) : Int) := fun p hp => by
      have hpm := (rowsD_perm rows).mem_iff.mp (List.mem_of_mem_take hp)
      obtain ⟨g1, g2, g3⟩ := eo_get hpm
      have h1 := h.y p.2 g1 (by omega)
      rw [Int.sub_zero] at g3
      rw [g3, ← h1]
      show ((cn p.2 (Z.map fun z => z.2.1) : Nat) : Int) = ((cn p.2 (W.map fun z => z.2.1) : Nat) : Int)
      rw [cn_map, cn_map, List.filter_filter]
      congr 2
      refine List.filter_congr fun z _ => ?_
      by_cases e : z.2.1 = p.2
      · have : p.2 ∈ Y := List.mem_map.mpr ⟨p, hp, rfl⟩
        simp [e, this]
      · simp [e]
    clear e1 hYl
    generalize (rowsD rows).take m = T at e2
    induction T with
    | nil => rfl
    | cons p T ih =>
      rw [List.map_cons, List.sum_cons, List.map_cons, List.sum_cons, ih fun q hq => e2 q (List.mem_cons_of_mem _ hq)]
      have := e2 p List.mem_cons_self
      push_cast
      omega
  rw [hWl, ← tot W fun z hz => (h.mem z (List.mem_filter.mp hz).1).1]
  -- column by column
  have key : ∀ x : Int, 0 ≤ x → x < cols.length → (cx W x : Int) ≤ mn (cols.getD x.toNat 0) m := fun x h0 h1 => by
    have a1 : cx W x ≤ cx Z x := by
      unfold cx
      rw [cn_map, cn_map, List.filter_filter]
      refine List.Sublist.length_le ?_
      have : (Z.filter fun a => decide (a.1 = x) && decide (a.2.1 ∈ Y)) = (Z.filter fun a => decide (a.1 = x)).filter fun a => decide (a.2.1 ∈ Y) := by
        rw [List.filter_filter]
        refine List.filter_congr fun z _ => ?_
        exact Bool.and_comm _ _
      rw [this]
      exact List.filter_sublist
    have a2 : cx W x ≤ m := by
      unfold cx
      rw [cn_map]
      refine Nat.le_trans ?_ hYl
      rw [← List.length_map (f := fun z : Cube => z.2.1)]
      refine len_sub ?_ fun y hy => ?_
      · show List.Pairwise (· ≠ ·) _
        rw [List.pairwise_map]
        have hWn : W.Nodup := h.nd.filter _
        have hp := List.Pairwise.and_mem.mp (hWn.filter fun z => decide (z.1 = x))
        refine List.Pairwise.imp (S := fun a b : Cube => a.2.1 ≠ b.2.1) (fun {a b} hab e => ?_) hp
        obtain ⟨ha, hb, hne⟩ := hab
        have b1 := (List.mem_filter.mp ha)
        have b2 := (List.mem_filter.mp hb)
        have c1 : a.1 = x := by simpa using b1.2
        have c2 : b.1 = x := by simpa using b2.2
        have d1 := (h.mem a (List.mem_filter.mp b1.1).1).2.2
        have d2 := (h.mem b (List.mem_filter.mp b2.1).1).2.2
        exact hne (Prod.ext (c1.trans c2.symm) (Prod.ext e (d1.trans d2.symm)))
      · obtain ⟨z, hz, rfl⟩ := List.mem_map.mp hy
        have := (List.mem_filter.mp (List.mem_filter.mp hz).1).2
        simpa using this
    have a3 := h.x x h0 h1
    unfold mn
    split <;> omega
  have fin : ∀ (c : List Int) (i : Int), (∀ n : Nat, n < c.length → (cx W (i + n) : Int) ≤ mn (c.getD n 0) m) → ((((rngI i c.length).map fun x => cx W x).sum : Nat) : Int) ≤ room c m := fun c => by
    induction c with
    | nil => intro i _; exact Int.le_refl _
    | cons v r ih =>
      intro i g
      rw [List.length_cons, rngI, List.map_cons, List.sum_cons]
      have g0 := g 0 (by simp)
      simp at g0
      have := ih (i + 1) fun n hn => by
        have := g (n + 1) (by simp; omega)
        rw [List.getD_cons_succ] at this
        have e : i + ((n + 1 : Nat) : Int) = i + 1 + n := by push_cast; omega
        rwa [e] at this
      have e : room (v :: r) m = mn v m + room r m := rfl
      rw [e]
      push_cast
      omega
  exact fin cols 0 fun n hn => by
    have := key n (by omega) (by omega)
    simpa using this
end Q
set_option maxRecDepth 100000
set_option Elab.async false
namespace Law
open PySem Q
def i_is_whole : Fn := ⟨3, 3, true, true, (.cons (.ret (.and (.op (.isi .int) (.cons (.v 0) .nil)) (.and (.op .not (.cons (.op (.isi .bool) (.cons (.v 0) .nil)) .nil)) (.chn .le .le (.v 1) (.v 0) (.v 2))))) .nil)⟩
def c_ascends_1 : E := (.comp (.op .lt (.cons (.v 1) (.cons (.v 2) .nil))) (.t (.cons (.n 1) (.cons (.n 2) .nil))) (.zip (.cons (.v 0) (.cons (.op (.slc true false) (.cons (.v 0) (.cons (.c (.int 1)) .nil))) .nil))) none)
@[simp] theorem fresh_c_ascends_1 (fr : Nat → Bool) : E.fresh fr c_ascends_1 = true := id rfl
@[simp] theorem er_c_ascends_1 (c : Q.Ctx) (ρ : Q.Env) : evR c c_ascends_1 ρ = (evE c c_ascends_1 false ρ >>= fun d => .ok (d, true && isMut d)) := id rfl
def i_ascends : Fn := ⟨1, 3, true, true, (.cons (.ret (.op .all (.cons c_ascends_1 .nil))) .nil)⟩
def c_is_cube_1 : E := (.comp (.call 0 (.cons (.v 1) (.cons (.c (.int 0)) (.cons (.g 0) .nil)))) (.n 1) (.e (.v 0)) none)
@[simp] theorem fresh_c_is_cube_1 (fr : Nat → Bool) : E.fresh fr c_is_cube_1 = true := id rfl
@[simp] theorem er_c_is_cube_1 (c : Q.Ctx) (ρ : Q.Env) : evR c c_is_cube_1 ρ = (evE c c_is_cube_1 false ρ >>= fun d => .ok (d, true && isMut d)) := id rfl
def i_is_cube : Fn := ⟨1, 2, true, true, (.cons (.ret (.and (.op (.isi .tuple) (.cons (.v 0) .nil)) (.and (.op .eq (.cons (.op .len (.cons (.v 0) .nil)) (.cons (.c (.int 3)) .nil))) (.op .all (.cons c_is_cube_1 .nil))))) .nil)⟩
def c_is_solid_1 : E := (.comp (.call 2 (.cons (.v 1) .nil)) (.n 1) (.e (.v 0)) none)
@[simp] theorem fresh_c_is_solid_1 (fr : Nat → Bool) : E.fresh fr c_is_solid_1 = true := id rfl
@[simp] theorem er_c_is_solid_1 (c : Q.Ctx) (ρ : Q.Env) : evR c c_is_solid_1 ρ = (evE c c_is_solid_1 false ρ >>= fun d => .ok (d, true && isMut d)) := id rfl
def i_is_solid : Fn := ⟨1, 2, true, true, (.cons (.ifs (.or (.not (.e (.op (.isi .tuple) (.cons (.v 0) .nil)))) (.or (.cmp .gt (.op .len (.cons (.v 0) .nil)) (.g 1)) (.one (.not (.e (.op .all (.cons c_is_solid_1 .nil))))))) (.cons (.ret (.c (.bool false))) .nil) .nil) (.cons (.ret (.call 1 (.cons (.v 0) .nil))) .nil))⟩
def i_check_solid : Fn := ⟨1, 1, true, true, (.cons (.ifs (.not (.e (.call 3 (.cons (.v 0) .nil)))) (.cons (.raise 1) .nil) .nil) .nil)⟩
def i_pair_of : Fn := ⟨2, 2, true, true, (.cons (.ret (.op .add (.cons (.op (.slc false true) (.cons (.v 0) (.cons (.v 1) .nil))) (.cons (.op (.slc true false) (.cons (.v 0) (.cons (.op .add (.cons (.v 1) (.cons (.c (.int 1)) .nil))) .nil))) .nil)))) .nil)⟩
def b_by_pairs_1 : Ss := (.cons (.asg (.n 4) (.call 5 (.cons (.v 3) (.cons (.v 1) .nil)))) (.cons (.frz [4]) (.cons (.seti 2 (.v 4) (.op .add (.cons (.op .getd (.cons (.v 2) (.cons (.v 4) (.cons (.c (.int 0)) .nil)))) (.cons (.c (.int 1)) .nil)))) .nil)))
def i_by_pairs : Fn := ⟨2, 5, true, true, (.cons (.asg (.n 2) (.dcomp (.c .none) (.c .none) (.t .nil) (.e (.op .lst .nil)) none)) (.cons (.for (.n 3) (.e (.v 0)) b_by_pairs_1 [3, 4]) (.cons (.ret (.v 2)) .nil)))⟩
def c_u_is_pair_1 : E := (.comp (.call 0 (.cons (.v 1) (.cons (.c (.int 0)) (.cons (.g 0) .nil)))) (.n 1) (.e (.v 0)) none)
@[simp] theorem fresh_c_u_is_pair_1 (fr : Nat → Bool) : E.fresh fr c_u_is_pair_1 = true := id rfl
@[simp] theorem er_c_u_is_pair_1 (c : Q.Ctx) (ρ : Q.Env) : evR c c_u_is_pair_1 ρ = (evE c c_u_is_pair_1 false ρ >>= fun d => .ok (d, true && isMut d)) := id rfl
def i_u_is_pair : Fn := ⟨1, 2, true, true, (.cons (.ret (.and (.op (.isi .tuple) (.cons (.v 0) .nil)) (.and (.op .eq (.cons (.op .len (.cons (.v 0) .nil)) (.cons (.c (.int 2)) .nil))) (.op .all (.cons c_u_is_pair_1 .nil))))) .nil)⟩
def c_u_is_view_1 : E := (.comp (.call 7 (.cons (.v 1) .nil)) (.n 1) (.e (.v 0)) none)
@[simp] theorem fresh_c_u_is_view_1 (fr : Nat → Bool) : E.fresh fr c_u_is_view_1 = true := id rfl
@[simp] theorem er_c_u_is_view_1 (c : Q.Ctx) (ρ : Q.Env) : evR c c_u_is_view_1 ρ = (evE c c_u_is_view_1 false ρ >>= fun d => .ok (d, true && isMut d)) := id rfl
def i_u_is_view : Fn := ⟨1, 2, true, true, (.cons (.ret (.and (.op (.isi .tuple) (.cons (.v 0) .nil)) (.and (.op .all (.cons c_u_is_view_1 .nil)) (.call 1 (.cons (.v 0) .nil))))) .nil)⟩
def c_are_views_1 : E := (.comp (.call 8 (.cons (.v 1) .nil)) (.n 1) (.e (.v 0)) none)
@[simp] theorem fresh_c_are_views_1 (fr : Nat → Bool) : E.fresh fr c_are_views_1 = true := id rfl
@[simp] theorem er_c_are_views_1 (c : Q.Ctx) (ρ : Q.Env) : evR c c_are_views_1 ρ = (evE c c_are_views_1 false ρ >>= fun d => .ok (d, true && isMut d)) := id rfl
def i_are_views : Fn := ⟨1, 2, true, true, (.cons (.ret (.and (.op (.isi .tuple) (.cons (.v 0) .nil)) (.and (.op .eq (.cons (.op .len (.cons (.v 0) .nil)) (.cons (.c (.int 3)) .nil))) (.op .all (.cons c_are_views_1 .nil))))) .nil)⟩
def i_check_views : Fn := ⟨1, 1, true, true, (.cons (.ifs (.not (.e (.call 9 (.cons (.v 0) .nil)))) (.cons (.raise 3) .nil) .nil) .nil)⟩
def c_all_views_1 : E := (.comp (.op .tuple (.cons (.op .sorted (.cons (.call 6 (.cons (.v 0) (.cons (.v 1) .nil))) .nil)) .nil)) (.n 1) (.e (.g 2)) none)
@[simp] theorem fresh_c_all_views_1 (fr : Nat → Bool) : E.fresh fr c_all_views_1 = true := id rfl
@[simp] theorem er_c_all_views_1 (c : Q.Ctx) (ρ : Q.Env) : evR c c_all_views_1 ρ = (evE c c_all_views_1 false ρ >>= fun d => .ok (d, true && isMut d)) := id rfl
def i_all_views : Fn := ⟨1, 2, true, true, (.cons (.ret (.op .tuple (.cons c_all_views_1 .nil))) .nil)⟩
def i_views_of : Fn := ⟨1, 1, true, true, (.cons (.expr (.call 4 (.cons (.v 0) .nil))) (.cons (.ret (.call 11 (.cons (.v 0) .nil))) .nil))⟩
def c_widest_1 : E := (.comp (.dcomp (.v 7) (.c (.bool true)) (.n 7) (.e (.v 6)) none) (.n 6) (.e (.v 0)) none)
@[simp] theorem fresh_c_widest_1 (fr : Nat → Bool) : E.fresh fr c_widest_1 = true := id rfl
@[simp] theorem er_c_widest_1 (c : Q.Ctx) (ρ : Q.Env) : evR c c_widest_1 ρ = (evE c c_widest_1 false ρ >>= fun d => .ok (d, true && isMut d)) := id rfl
def b_widest_2 : Ss := (.cons (.ifs (.and (.cmp .isin (.op .tup (.cons (.v 3) (.cons (.v 5) .nil))) (.op .ix (.cons (.v 1) (.cons (.c (.int 1)) .nil)))) (.one (.cmp .isin (.op .tup (.cons (.v 4) (.cons (.v 5) .nil))) (.op .ix (.cons (.v 1) (.cons (.c (.int 0)) .nil)))))) (.cons (.app 2 (.op .tup (.cons (.v 3) (.cons (.v 4) (.cons (.v 5) .nil))))) .nil) .nil) .nil)
def b_widest_1 : Ss := (.cons (.for (.n 5) (.rng (.cons (.op .add (.cons (.g 0) (.cons (.c (.int 1)) .nil))) .nil)) b_widest_2 [5]) .nil)
def i_widest : Fn := ⟨1, 8, true, true, (.cons (.asg (.n 1) c_widest_1) (.cons (.asg (.n 2) (.op .lst .nil)) (.cons (.for (.t (.cons (.n 3) (.cons (.n 4) .nil))) (.e (.op .ix (.cons (.v 0) (.cons (.c (.int 2)) .nil)))) b_widest_1 [3, 4, 5]) (.cons (.ret (.op .tuple (.cons (.op .sorted (.cons (.v 2) .nil)) .nil))) .nil))))⟩
def b_first_unseen_2 : Ss := (.cons (.ifs (.cmp .notin (.v 4) (.v 3)) (.cons (.ret (.op .tup (.cons (.v 2) (.cons (.v 4) .nil)))) .nil) .nil) .nil)
def b_first_unseen_1 : Ss := (.cons (.asg (.n 3) (.call 6 (.cons (.v 1) (.cons (.v 2) .nil)))) (.cons (.for (.n 4) (.e (.op .ix (.cons (.v 0) (.cons (.v 2) .nil)))) b_first_unseen_2 [4]) .nil))
def i_first_unseen : Fn := ⟨2, 5, true, true, (.cons (.for (.n 2) (.e (.g 2)) b_first_unseen_1 [2, 3, 4]) (.cons (.ret (.c .none)) .nil))⟩
def i_u_greatest : Fn := ⟨1, 3, true, true, (.cons (.asg (.n 1) (.call 13 (.cons (.v 0) .nil))) (.cons (.asg (.n 2) (.call 14 (.cons (.v 0) (.cons (.v 1) .nil)))) (.cons (.ifs (.cmp .isNN (.v 2) (.c .none)) (.cons (.frz [2]) (.cons (.ret (.op .tup (.cons (.c .none) (.cons (.v 2) .nil)))) .nil)) .nil) (.cons (.ifs (.cmp .gt (.op .len (.cons (.v 1) .nil)) (.g 1)) (.cons (.raise 2) .nil) .nil) (.cons (.frz [1]) (.cons (.ret (.op .tup (.cons (.v 1) (.cons (.c .none) .nil)))) .nil))))))⟩
def i_greatest_with : Fn := ⟨1, 3, false, false, (.cons (.expr (.call 10 (.cons (.v 0) .nil))) (.cons (.asg (.t (.cons (.n 1) (.cons (.n 2) .nil))) (.call 15 (.cons (.v 0) .nil))) (.cons (.ret (.ite (.cmp .isN (.v 2) (.c .none)) (.op .tup (.cons (.c (.str "solid")) (.cons (.v 1) .nil))) (.op .add (.cons (.op .tup (.cons (.g 3) .nil)) (.cons (.v 2) .nil))))) .nil)))⟩
def c_are_alone_1 : E := (.comp (.call 6 (.cons (.v 0) (.cons (.v 2) .nil))) (.n 2) (.e (.g 2)) none)
@[simp] theorem fresh_c_are_alone_1 (fr : Nat → Bool) : E.fresh fr c_are_alone_1 = true := id rfl
@[simp] theorem er_c_are_alone_1 (c : Q.Ctx) (ρ : Q.Env) : evR c c_are_alone_1 ρ = (evE c c_are_alone_1 false ρ >>= fun d => .ok (d, true && isMut d)) := id rfl
def c_are_alone_3 : E := (.comp (.op .ix (.cons (.op .ix (.cons (.v 1) (.cons (.v 2) .nil))) (.cons (.call 5 (.cons (.v 3) (.cons (.v 2) .nil))) .nil))) (.n 2) (.e (.g 2)) none)
@[simp] theorem fresh_c_are_alone_3 (fr : Nat → Bool) : E.fresh fr c_are_alone_3 = true := id rfl
@[simp] theorem er_c_are_alone_3 (c : Q.Ctx) (ρ : Q.Env) : evR c c_are_alone_3 ρ = (evE c c_are_alone_3 false ρ >>= fun d => .ok (d, true && isMut d)) := id rfl
def c_are_alone_2 : E := (.comp (.v 3) (.n 3) (.e (.v 0)) (some (.cmp .isin (.c (.int 1)) c_are_alone_3)))
@[simp] theorem fresh_c_are_alone_2 (fr : Nat → Bool) : E.fresh fr c_are_alone_2 = true := id rfl
@[simp] theorem er_c_are_alone_2 (c : Q.Ctx) (ρ : Q.Env) : evR c c_are_alone_2 ρ = (evE c c_are_alone_2 false ρ >>= fun d => .ok (d, true && isMut d)) := id rfl
def i_are_alone : Fn := ⟨1, 4, true, true, (.cons (.asg (.n 1) c_are_alone_1) (.cons (.ret c_are_alone_2) .nil))⟩
def i_needed_cubes : Fn := ⟨1, 3, true, true, (.cons (.expr (.call 10 (.cons (.v 0) .nil))) (.cons (.asg (.t (.cons (.n 1) (.cons (.n 2) .nil))) (.call 15 (.cons (.v 0) .nil))) (.cons (.ret (.ite (.cmp .isN (.v 2) (.c .none)) (.op .tuple (.cons (.call 17 (.cons (.v 1) .nil)) .nil)) (.op .tup .nil))) .nil)))⟩
def c_one_solid_1 : E := (.comp (.v 5) (.n 5) (.e (.v 3)) (some (.cmp .notin (.v 5) (.v 1))))
@[simp] theorem fresh_c_one_solid_1 (fr : Nat → Bool) : E.fresh fr c_one_solid_1 = true := id rfl
@[simp] theorem er_c_one_solid_1 (c : Q.Ctx) (ρ : Q.Env) : evR c c_one_solid_1 ρ = (evE c c_one_solid_1 false ρ >>= fun d => .ok (d, true && isMut d)) := id rfl
def i_one_solid : Fn := ⟨1, 6, true, true, (.cons (.expr (.call 10 (.cons (.v 0) .nil))) (.cons (.asg (.t (.cons (.n 3) (.cons (.n 4) .nil))) (.call 15 (.cons (.v 0) .nil))) (.cons (.ifs (.cmp .isNN (.v 4) (.c .none)) (.cons (.ret (.op .add (.cons (.op .tup (.cons (.g 3) .nil)) (.cons (.v 4) .nil)))) .nil) .nil) (.cons (.asg (.n 1) (.dcomp (.v 5) (.c (.bool true)) (.n 5) (.e (.call 17 (.cons (.v 3) .nil))) none)) (.cons (.asg (.n 2) c_one_solid_1) (.cons (.ret (.ite (.cmp .eq (.op .len (.cons (.v 2) .nil)) (.c (.int 0))) (.op .tup (.cons (.c (.str "one")) (.cons (.v 3) .nil))) (.op .tup (.cons (.c (.str "more")) (.cons (.v 3) (.cons (.op .ix (.cons (.v 2) (.cons (.c (.int 0)) .nil))) .nil)))))) .nil))))))⟩
def c_thinned_1 : E := (.comp (.call 6 (.cons (.v 0) (.cons (.v 5) .nil))) (.n 5) (.e (.g 2)) none)
@[simp] theorem fresh_c_thinned_1 (fr : Nat → Bool) : E.fresh fr c_thinned_1 = true := id rfl
@[simp] theorem er_c_thinned_1 (c : Q.Ctx) (ρ : Q.Env) : evR c c_thinned_1 ρ = (evE c c_thinned_1 false ρ >>= fun d => .ok (d, true && isMut d)) := id rfl
def c_thinned_2 : E := (.comp (.call 5 (.cons (.v 3) (.cons (.v 5) .nil))) (.n 5) (.e (.g 2)) none)
@[simp] theorem fresh_c_thinned_2 (fr : Nat → Bool) : E.fresh fr c_thinned_2 = true := id rfl
@[simp] theorem er_c_thinned_2 (c : Q.Ctx) (ρ : Q.Env) : evR c c_thinned_2 ρ = (evE c c_thinned_2 false ρ >>= fun d => .ok (d, true && isMut d)) := id rfl
def c_thinned_3 : E := (.comp (.op .gt (.cons (.op .ix (.cons (.op .ix (.cons (.v 1) (.cons (.v 5) .nil))) (.cons (.op .ix (.cons (.v 4) (.cons (.v 5) .nil))) .nil))) (.cons (.c (.int 1)) .nil))) (.n 5) (.e (.g 2)) none)
@[simp] theorem fresh_c_thinned_3 (fr : Nat → Bool) : E.fresh fr c_thinned_3 = true := id rfl
@[simp] theorem er_c_thinned_3 (c : Q.Ctx) (ρ : Q.Env) : evR c c_thinned_3 ρ = (evE c c_thinned_3 false ρ >>= fun d => .ok (d, true && isMut d)) := id rfl
def b_thinned_2 : Ss := (.cons (.augd 1 (.v 5) (.op .ix (.cons (.v 4) (.cons (.v 5) .nil))) .sub (.c (.int 1))) .nil)
def b_thinned_1 : Ss := (.cons (.asg (.n 4) c_thinned_2) (.cons (.ifd (.e (.op .all (.cons c_thinned_3 .nil))) (.cons (.for (.n 5) (.e (.g 2)) b_thinned_2 []) .nil) (.cons (.app 2 (.v 3)) .nil)) .nil))
def i_thinned : Fn := ⟨1, 6, true, true, (.cons (.expr (.call 4 (.cons (.v 0) .nil))) (.cons (.asgd 1 c_thinned_1) (.cons (.asg (.n 2) (.op .lst .nil)) (.cons (.for (.n 3) (.e (.op .rev (.cons (.v 0) .nil))) b_thinned_1 [3, 4]) (.cons (.ret (.op .tuple (.cons (.op .rev (.cons (.v 2) .nil)) .nil))) .nil)))))⟩
def b_u_law_draws_2 : Ss := (.cons (.ifs (.cmp .gt (.v 6) (.c (.int 0))) (.cons (.app 2 (.op .mod (.cons (.op .int (.cons (.v 6) .nil)) (.cons (.c (.int 1009)) .nil)))) (.cons (.asg (.n 6) (.op .fdiv (.cons (.v 6) (.cons (.c (.int 1009)) .nil)))) .nil)) .nil) .nil)
def b_u_law_draws_1 : Ss := (.cons (.asg (.n 6) (.op .abs (.cons (.v 4) .nil))) (.cons (.asg (.n 3) (.op .mod (.cons (.op .int (.cons (.op .add (.cons (.op .add (.cons (.op .mul (.cons (.v 3) (.cons (.c (.int 48271)) .nil))) (.cons (.v 6) .nil))) (.cons (.c (.int 11)) .nil))) .nil)) (.cons (.c (.int 2147483647)) .nil)))) (.cons (.ifs (.cmp .ge (.v 6) (.op .pow (.cons (.c (.int 10)) (.cons (.c (.int 18)) .nil)))) (.cons (.for (.n 5) (.rng (.cons (.c (.int 60)) .nil)) b_u_law_draws_2 [5]) .nil) (.cons (.app 2 (.op .mod (.cons (.op .fdiv (.cons (.op .int (.cons (.op .add (.cons (.op .mul (.cons (.v 3) (.cons (.c (.int 16807)) .nil))) (.cons (.c (.int 5)) .nil))) .nil)) (.cons (.c (.int 3)) .nil))) (.cons (.c (.int 65521)) .nil)))) .nil)) .nil)))
def b_u_law_draws_3 : Ss := (.cons (.ifs (.cmp .lt (.op .len (.cons (.v 2) .nil)) (.v 1)) (.cons (.asg (.n 3) (.op .mod (.cons (.op .int (.cons (.op .add (.cons (.op .add (.cons (.op .mul (.cons (.v 3) (.cons (.c (.int 69621)) .nil))) (.cons (.v 5) .nil))) (.cons (.c (.int 1)) .nil))) .nil)) (.cons (.c (.int 2147483647)) .nil)))) (.cons (.app 2 (.op .mod (.cons (.op .fdiv (.cons (.op .int (.cons (.v 3) .nil)) (.cons (.c (.int 7)) .nil))) (.cons (.c (.int 65521)) .nil)))) .nil)) .nil) .nil)
def i_u_law_draws : Fn := ⟨2, 7, true, true, (.cons (.asg (.n 2) (.op .lst .nil)) (.cons (.asg (.n 3) (.c (.int 7))) (.cons (.for (.n 4) (.e (.op (.slc false true) (.cons (.v 0) (.cons (.c (.int 63)) .nil)))) b_u_law_draws_1 [4, 5, 6]) (.cons (.for (.n 5) (.rng (.cons (.v 1) .nil)) b_u_law_draws_3 [5]) (.cons (.ret (.op (.slc false true) (.cons (.v 2) (.cons (.v 1) .nil)))) .nil)))))⟩
def b_u_law_cubes_1 : Ss := (.cons (.asg (.n 5) (.op .fdiv (.cons (.op .int (.cons (.op .ix (.cons (.v 0) (.cons (.op .add (.cons (.c (.int 1)) (.cons (.op .mod (.cons (.v 4) (.cons (.c (.int 20)) .nil))) .nil))) .nil))) .nil)) (.cons (.op .add (.cons (.c (.int 1)) (.cons (.op .fdiv (.cons (.v 4) (.cons (.c (.int 20)) .nil))) .nil))) .nil)))) (.cons (.asg (.n 6) (.op .tup (.cons (.op .mod (.cons (.v 5) (.cons (.v 2) .nil))) (.cons (.op .mod (.cons (.op .fdiv (.cons (.v 5) (.cons (.c (.int 11)) .nil))) (.cons (.v 2) .nil))) (.cons (.op .mod (.cons (.op .fdiv (.cons (.v 5) (.cons (.c (.int 131)) .nil))) (.cons (.v 2) .nil))) .nil))))) (.cons (.ifs (.cmp .notin (.v 6) (.v 3)) (.cons (.app 3 (.v 6)) .nil) .nil) .nil)))
def i_u_law_cubes : Fn := ⟨3, 7, true, true, (.cons (.asg (.n 3) (.op .lst .nil)) (.cons (.for (.n 4) (.rng (.cons (.op .mod (.cons (.op .int (.cons (.op .ix (.cons (.v 0) (.cons (.c (.int 0)) .nil))) .nil)) (.cons (.op .add (.cons (.v 1) (.cons (.c (.int 1)) .nil))) .nil))) .nil)) b_u_law_cubes_1 [4, 5, 6]) (.cons (.ret (.op .tuple (.cons (.op .sorted (.cons (.v 3) .nil)) .nil))) .nil)))⟩
def c_u_law_pairs_2 : E := (.comp (.op .ix (.cons (.v 2) (.cons (.v 3) .nil))) (.n 3) (.rng (.cons (.c (.int 3)) .nil)) (some (.cmp .ne (.v 3) (.v 1))))
@[simp] theorem fresh_c_u_law_pairs_2 (fr : Nat → Bool) : E.fresh fr c_u_law_pairs_2 = true := id rfl
@[simp] theorem er_c_u_law_pairs_2 (c : Q.Ctx) (ρ : Q.Env) : evR c c_u_law_pairs_2 ρ = (evE c c_u_law_pairs_2 false ρ >>= fun d => .ok (d, true && isMut d)) := id rfl
def c_u_law_pairs_1 : E := (.comp (.op .tuple (.cons c_u_law_pairs_2 .nil)) (.n 2) (.e (.v 0)) none)
@[simp] theorem fresh_c_u_law_pairs_1 (fr : Nat → Bool) : E.fresh fr c_u_law_pairs_1 = true := id rfl
@[simp] theorem er_c_u_law_pairs_1 (c : Q.Ctx) (ρ : Q.Env) : evR c c_u_law_pairs_1 ρ = (evE c c_u_law_pairs_1 false ρ >>= fun d => .ok (d, true && isMut d)) := id rfl
def i_u_law_pairs : Fn := ⟨2, 4, true, true, (.cons (.ret c_u_law_pairs_1) .nil)⟩
def c_u_law_views_1 : E := (.comp (.op .tuple (.cons (.op .sset (.cons (.call 23 (.cons (.v 0) (.cons (.v 1) .nil))) .nil)) .nil)) (.n 1) (.rng (.cons (.c (.int 3)) .nil)) none)
@[simp] theorem fresh_c_u_law_views_1 (fr : Nat → Bool) : E.fresh fr c_u_law_views_1 = true := id rfl
@[simp] theorem er_c_u_law_views_1 (c : Q.Ctx) (ρ : Q.Env) : evR c c_u_law_views_1 ρ = (evE c c_u_law_views_1 false ρ >>= fun d => .ok (d, true && isMut d)) := id rfl
def i_u_law_views : Fn := ⟨1, 2, true, true, (.cons (.ret (.op .tuple (.cons c_u_law_views_1 .nil))) .nil)⟩
def c_u_law_widest_1 : E := (.comp (.op .tup (.cons (.v 2) (.cons (.v 3) (.cons (.v 4) .nil)))) (.n 4) (.rng (.cons (.c (.int 8)) .nil)) (some (.and (.cmp .isin (.op .tup (.cons (.v 3) (.cons (.v 4) .nil))) (.op .ix (.cons (.v 0) (.cons (.c (.int 0)) .nil)))) (.and (.cmp .isin (.op .tup (.cons (.v 2) (.cons (.v 4) .nil))) (.op .ix (.cons (.v 0) (.cons (.c (.int 1)) .nil)))) (.one (.cmp .isin (.op .tup (.cons (.v 2) (.cons (.v 3) .nil))) (.op .ix (.cons (.v 0) (.cons (.c (.int 2)) .nil)))))))))
@[simp] theorem fresh_c_u_law_widest_1 (fr : Nat → Bool) : E.fresh fr c_u_law_widest_1 = true := id rfl
@[simp] theorem er_c_u_law_widest_1 (c : Q.Ctx) (ρ : Q.Env) : evR c c_u_law_widest_1 ρ = (evE c c_u_law_widest_1 false ρ >>= fun d => .ok (d, true && isMut d)) := id rfl
def b_u_law_widest_2 : Ss := (.cons (.asg (.n 1) (.op .add (.cons (.v 1) (.cons c_u_law_widest_1 .nil)))) .nil)
def b_u_law_widest_1 : Ss := (.cons (.for (.n 3) (.rng (.cons (.c (.int 8)) .nil)) b_u_law_widest_2 [3]) .nil)
def i_u_law_widest : Fn := ⟨1, 5, true, true, (.cons (.asg (.n 1) (.op .lst .nil)) (.cons (.for (.n 2) (.rng (.cons (.c (.int 8)) .nil)) b_u_law_widest_1 [2, 3]) (.cons (.ret (.op .tuple (.cons (.v 1) .nil))) .nil)))⟩
def b_u_law_bar_2 : Ss := (.cons (.ifs (.cmp .notin (.v 4) (.v 3)) (.cons (.ret (.op .tup (.cons (.c (.str "none")) (.cons (.v 2) (.cons (.v 4) .nil))))) .nil) .nil) .nil)
def b_u_law_bar_1 : Ss := (.cons (.asg (.n 3) (.call 23 (.cons (.v 1) (.cons (.v 2) .nil)))) (.cons (.for (.n 4) (.e (.op .ix (.cons (.v 0) (.cons (.v 2) .nil)))) b_u_law_bar_2 [4]) .nil))
def i_u_law_bar : Fn := ⟨1, 5, true, true, (.cons (.asg (.n 1) (.call 25 (.cons (.v 0) .nil))) (.cons (.for (.n 2) (.rng (.cons (.c (.int 3)) .nil)) b_u_law_bar_1 [2, 3, 4]) (.cons (.ret (.c .none)) .nil)))⟩
def c_u_law_drawn_views_1 : E := (.comp (.op .ix (.cons (.call 24 (.cons (.call 22 (.cons (.op .add (.cons (.op (.slc true false) (.cons (.v 0) (.cons (.op .add (.cons (.op .mul (.cons (.c (.int 5)) (.cons (.v 8) .nil))) (.cons (.c (.int 3)) .nil))) .nil))) (.cons (.v 0) .nil))) (.cons (.v 1) (.cons (.v 2) .nil)))) .nil)) (.cons (.v 8) .nil))) (.n 8) (.rng (.cons (.c (.int 3)) .nil)) none)
@[simp] theorem fresh_c_u_law_drawn_views_1 (fr : Nat → Bool) : E.fresh fr c_u_law_drawn_views_1 = true := id rfl
@[simp] theorem er_c_u_law_drawn_views_1 (c : Q.Ctx) (ρ : Q.Env) : evR c c_u_law_drawn_views_1 ρ = (evE c c_u_law_drawn_views_1 false ρ >>= fun d => .ok (d, true && isMut d)) := id rfl
def i_u_law_drawn_views : Fn := ⟨3, 9, true, true, (.cons (.asg (.n 3) (.call 22 (.cons (.v 0) (.cons (.v 1) (.cons (.v 2) .nil))))) (.cons (.asg (.n 4) (.call 24 (.cons (.v 3) .nil))) (.cons (.par [6, 7] (.cons (.op .mod (.cons (.op .int (.cons (.op .ix (.cons (.v 0) (.cons (.c (.int 22)) .nil))) .nil)) (.cons (.c (.int 3)) .nil))) (.cons (.op .tup (.cons (.op .mod (.cons (.op .int (.cons (.op .ix (.cons (.v 0) (.cons (.c (.int 23)) .nil))) .nil)) (.cons (.v 2) .nil))) (.cons (.op .mod (.cons (.op .int (.cons (.op .ix (.cons (.v 0) (.cons (.c (.int 24)) .nil))) .nil)) (.cons (.v 2) .nil))) .nil))) .nil))) (.cons (.frz [4]) (.cons (.asg (.n 5) (.op .lst (.cons (.v 4) (.cons (.op .add (.cons (.op .add (.cons (.op (.slc false true) (.cons (.v 4) (.cons (.v 6) .nil))) (.cons (.op .tup (.cons (.op .tuple (.cons (.op .sset (.cons (.op .add (.cons (.op .ix (.cons (.v 4) (.cons (.v 6) .nil))) (.cons (.op .tup (.cons (.v 7) .nil)) .nil))) .nil)) .nil)) .nil)) .nil))) (.cons (.op (.slc true false) (.cons (.v 4) (.cons (.op .add (.cons (.v 6) (.cons (.c (.int 1)) .nil))) .nil))) .nil))) (.cons (.op .add (.cons (.op .add (.cons (.op (.slc false true) (.cons (.v 4) (.cons (.v 6) .nil))) (.cons (.op .tup (.cons (.op (.slc true false) (.cons (.op .ix (.cons (.v 4) (.cons (.v 6) .nil))) (.cons (.c (.int 1)) .nil))) .nil)) .nil))) (.cons (.op (.slc true false) (.cons (.v 4) (.cons (.op .add (.cons (.v 6) (.cons (.c (.int 1)) .nil))) .nil))) .nil))) .nil))))) (.cons (.ret (.op .add (.cons (.v 5) (.cons (.op .lst (.cons (.op .tuple (.cons c_u_law_drawn_views_1 .nil)) .nil)) .nil)))) .nil))))))⟩
def i_u_law_told : Fn := ⟨2, 3, true, true, (.cons (.try (.cons (.ret (.ite (.cmp .eq (.v 0) (.c (.int 0))) (.call 18 (.cons (.v 1) .nil)) (.call 19 (.cons (.v 1) .nil)))) .nil) [(0, (.sel 2 (.tuple [(.str "many")]) (.tuple [(.str "other")])))]) .nil)⟩
def c_u_law_without_1 : E := (.comp (.v 2) (.n 2) (.e (.v 0)) (some (.cmp .ne (.v 2) (.v 1))))
@[simp] theorem fresh_c_u_law_without_1 (fr : Nat → Bool) : E.fresh fr c_u_law_without_1 = true := id rfl
@[simp] theorem er_c_u_law_without_1 (c : Q.Ctx) (ρ : Q.Env) : evR c c_u_law_without_1 ρ = (evE c c_u_law_without_1 false ρ >>= fun d => .ok (d, true && isMut d)) := id rfl
def i_u_law_without : Fn := ⟨2, 3, true, true, (.cons (.ret (.op .tuple (.cons c_u_law_without_1 .nil))) .nil)⟩
def b_u_law_thinned_1 : Ss := (.cons (.asg (.n 3) (.call 29 (.cons (.v 1) (.cons (.v 2) .nil)))) (.cons (.frz [3]) (.cons (.asg (.n 1) (.ite (.cmp .eq (.call 24 (.cons (.v 3) .nil)) (.call 24 (.cons (.v 0) .nil))) (.v 3) (.v 1))) .nil)))
def i_u_law_thinned : Fn := ⟨1, 4, false, false, (.cons (.asg (.n 1) (.v 0)) (.cons (.for (.n 2) (.e (.op .rev (.cons (.v 0) .nil))) b_u_law_thinned_1 [2, 3]) (.cons (.ret (.v 1)) .nil)))⟩
def c_law_1 : E := (.comp (.v 12) (.n 12) (.e (.v 8)) (some (.cmp .ne (.call 24 (.cons (.call 29 (.cons (.v 8) (.cons (.v 12) .nil))) .nil)) (.v 4))))
@[simp] theorem fresh_c_law_1 (fr : Nat → Bool) : E.fresh fr c_law_1 = true := id rfl
@[simp] theorem er_c_law_1 (c : Q.Ctx) (ρ : Q.Env) : evR c c_law_1 ρ = (evE c c_law_1 false ρ >>= fun d => .ok (d, true && isMut d)) := id rfl
def c_law_2 : E := (.comp (.v 12) (.n 12) (.e (.v 8)) (some (.cmp .notin (.v 12) (.v 10))))
@[simp] theorem fresh_c_law_2 (fr : Nat → Bool) : E.fresh fr c_law_2 = true := id rfl
@[simp] theorem er_c_law_2 (c : Q.Ctx) (ρ : Q.Env) : evR c c_law_2 ρ = (evE c c_law_2 false ρ >>= fun d => .ok (d, true && isMut d)) := id rfl
def b_law_2 : Ss := (.cons (.par [8, 9] (.cons (.call 25 (.cons (.v 4) .nil)) (.cons (.call 26 (.cons (.v 4) .nil)) .nil))) (.cons (.ifs (.cmp .isNN (.v 9) (.c .none)) (.cons (.ifs (.or (.cmp .ne (.call 28 (.cons (.c (.int 0)) (.cons (.v 4) .nil))) (.op .tup .nil)) (.one (.cmp .ne (.call 28 (.cons (.c (.int 1)) (.cons (.v 4) .nil))) (.v 9)))) (.cons (.ret (.c (.bool false))) .nil) .nil) .nil) (.cons (.ifs (.cmp .lt (.op .len (.cons (.v 8) .nil)) (.c (.int 97))) (.cons (.asg (.n 10) c_law_1) (.cons (.asg (.n 11) c_law_2) (.cons (.frz [8]) (.cons (.ifs (.or (.cmp .ne (.call 28 (.cons (.c (.int 0)) (.cons (.v 4) .nil))) (.op .tuple (.cons (.v 10) .nil))) (.one (.cmp .ne (.call 28 (.cons (.c (.int 1)) (.cons (.v 4) .nil))) (.ite (.cmp .eq (.op .len (.cons (.v 11) .nil)) (.c (.int 0))) (.op .tup (.cons (.c (.str "one")) (.cons (.v 8) .nil))) (.op .tup (.cons (.c (.str "more")) (.cons (.v 8) (.cons (.op .ix (.cons (.v 11) (.cons (.c (.int 0)) .nil))) .nil)))))))) (.cons (.ret (.c (.bool false))) .nil) .nil) (.cons (.ifs (.cmp .ne (.call 16 (.cons (.v 4) .nil)) (.op .tup (.cons (.c (.str "solid")) (.cons (.v 8) .nil)))) (.cons (.ret (.c (.bool false))) .nil) .nil) .nil))))) (.cons (.ifs (.or (.cmp .ne (.call 28 (.cons (.c (.int 0)) (.cons (.v 4) .nil))) (.op .tup (.cons (.c (.str "many")) .nil))) (.one (.cmp .ne (.call 28 (.cons (.c (.int 1)) (.cons (.v 4) .nil))) (.op .tup (.cons (.c (.str "many")) .nil))))) (.cons (.ret (.c (.bool false))) .nil) .nil) .nil)) .nil)) .nil))
def c_law_3 : E := (.comp (.op .eq (.cons (.call 24 (.cons (.call 29 (.cons (.v 7) (.cons (.v 12) .nil))) .nil)) (.cons (.call 24 (.cons (.v 7) .nil)) .nil))) (.n 12) (.e (.v 7)) none)
@[simp] theorem fresh_c_law_3 (fr : Nat → Bool) : E.fresh fr c_law_3 = true := id rfl
@[simp] theorem er_c_law_3 (c : Q.Ctx) (ρ : Q.Env) : evR c c_law_3 ρ = (evE c c_law_3 false ρ >>= fun d => .ok (d, true && isMut d)) := id rfl
def b_law_3 : Ss := (.cons (.asg (.n 6) (.call 22 (.cons (.op .add (.cons (.op (.slc true false) (.cons (.v 1) (.cons (.op .add (.cons (.op .mul (.cons (.c (.int 6)) (.cons (.v 2) .nil))) (.cons (.op .mod (.cons (.v 5) (.cons (.c (.int 7)) .nil))) .nil))) .nil))) (.cons (.v 1) .nil))) (.cons (.v 5) (.cons (.v 3) .nil))))) (.cons (.asg (.n 7) (.call 20 (.cons (.v 6) .nil))) (.cons (.frz [6]) (.cons (.ifs (.or (.cmp .ne (.v 7) (.call 30 (.cons (.v 6) .nil))) (.or (.cmp .ne (.call 12 (.cons (.v 7) .nil)) (.call 24 (.cons (.v 6) .nil))) (.one (.cmp .ne (.call 20 (.cons (.v 7) .nil)) (.v 7))))) (.cons (.ret (.c (.bool false))) .nil) .nil) (.cons (.ifs (.e (.op .any (.cons c_law_3 .nil))) (.cons (.ret (.c (.bool false))) .nil) .nil) .nil)))))
def b_law_1 : Ss := (.cons (.asg (.n 3) (.op .ix (.cons (.op .lst (.cons (.c (.int 8)) (.cons (.c (.int 2)) (.cons (.c (.int 3)) (.cons (.c (.int 3)) (.cons (.c (.int 4)) .nil)))))) (.cons (.v 2) .nil)))) (.cons (.for (.n 4) (.e (.call 27 (.cons (.op .add (.cons (.op (.slc true false) (.cons (.v 1) (.cons (.op .mul (.cons (.c (.int 7)) (.cons (.v 2) .nil))) .nil))) (.cons (.v 1) .nil))) (.cons (.op .ix (.cons (.op .lst (.cons (.c (.int 12)) (.cons (.c (.int 3)) (.cons (.c (.int 12)) (.cons (.c (.int 9)) (.cons (.c (.int 8)) .nil)))))) (.cons (.v 2) .nil))) (.cons (.v 3) .nil))))) b_law_2 [4, 8, 9, 10, 11]) (.cons (.for (.n 5) (.e (.op .lst (.cons (.c (.int 20)) (.cons (.c (.int 9)) .nil)))) b_law_3 [5, 6, 7]) .nil)))
def i_law : Fn := ⟨1, 13, true, true, (.cons (.asg (.n 1) (.call 21 (.cons (.v 0) (.cons (.c (.int 60)) .nil)))) (.cons (.for (.n 2) (.rng (.cons (.c (.int 5)) .nil)) b_law_1 [2, 3, 4, 5, 6, 7, 8, 9, 10, 11]) (.cons (.ret (.and (.op .eq (.cons (.call 19 (.cons (.call 12 (.cons (.op .tup (.cons (.op .tup (.cons (.c (.int 0)) (.cons (.c (.int 0)) (.cons (.c (.int 0)) .nil)))) (.cons (.op .tup (.cons (.c (.int 1)) (.cons (.c (.int 1)) (.cons (.c (.int 1)) .nil)))) .nil))) .nil)) .nil)) (.cons (.op .tup (.cons (.c (.str "one")) (.cons (.op .tup (.cons (.op .tup (.cons (.c (.int 0)) (.cons (.c (.int 0)) (.cons (.c (.int 0)) .nil)))) (.cons (.op .tup (.cons (.c (.int 1)) (.cons (.c (.int 1)) (.cons (.c (.int 1)) .nil)))) .nil))) .nil))) .nil))) (.op .eq (.cons (.call 18 (.cons (.op .tup (.cons (.op .tup .nil) (.cons (.op .tup .nil) (.cons (.op .tup .nil) .nil)))) .nil)) (.cons (.op .tup .nil) .nil))))) .nil)))⟩
def fns : List Fn := [i_is_whole, i_ascends, i_is_cube, i_is_solid, i_check_solid, i_pair_of, i_by_pairs, i_u_is_pair, i_u_is_view, i_are_views, i_check_views, i_all_views, i_views_of, i_widest, i_first_unseen, i_u_greatest, i_greatest_with, i_are_alone, i_needed_cubes, i_one_solid, i_thinned, i_u_law_draws, i_u_law_cubes, i_u_law_pairs, i_u_law_views, i_u_law_widest, i_u_law_bar, i_u_law_drawn_views, i_u_law_told, i_u_law_without, i_u_law_thinned, i_law]
def gls : List D := [(.int 7), (.int 96), (.tuple [(.int 0), (.int 1), (.int 2)]), (.str "none")]
def anc : List (List Nat) := [[0], [0, 1], [0, 2], [0, 3]]
def sub : Nat → Nat → Bool := subOf anc
def tab : Tab := ⟨fns, gls, sub⟩
abbrev f_is_whole : Nat := 0
abbrev f_ascends : Nat := 1
abbrev f_is_cube : Nat := 2
abbrev f_is_solid : Nat := 3
abbrev f_check_solid : Nat := 4
abbrev f_pair_of : Nat := 5
abbrev f_by_pairs : Nat := 6
abbrev f_u_is_pair : Nat := 7
abbrev f_u_is_view : Nat := 8
abbrev f_are_views : Nat := 9
abbrev f_check_views : Nat := 10
abbrev f_all_views : Nat := 11
abbrev f_views_of : Nat := 12
abbrev f_widest : Nat := 13
abbrev f_first_unseen : Nat := 14
abbrev f_u_greatest : Nat := 15
abbrev f_greatest_with : Nat := 16
abbrev f_are_alone : Nat := 17
abbrev f_needed_cubes : Nat := 18
abbrev f_one_solid : Nat := 19
abbrev f_thinned : Nat := 20
abbrev f_u_law_draws : Nat := 21
abbrev f_u_law_cubes : Nat := 22
abbrev f_u_law_pairs : Nat := 23
abbrev f_u_law_views : Nat := 24
abbrev f_u_law_widest : Nat := 25
abbrev f_u_law_bar : Nat := 26
abbrev f_u_law_drawn_views : Nat := 27
abbrev f_u_law_told : Nat := 28
abbrev f_u_law_without : Nat := 29
abbrev f_u_law_thinned : Nat := 30
abbrev f_law : Nat := 31
def C (k : Nat) : Q.Ctx := tab.ctx (callF tab k)
@[simp] theorem c_call (k f : Nat) (ds : List D) : (C k).call f ds = callF tab k f ds := id rfl
@[simp] theorem fr_0 (k : Nat) : (C k).fr 0 = true := id rfl
@[simp] theorem sf_0 (k : Nat) : (C k).sf 0 = true := id rfl
theorem at_is_whole (k : Nat) (ds : List D) : callF tab (k + 1) 0 ds = run (C k) i_is_whole ds := rfl
@[simp] theorem fr_1 (k : Nat) : (C k).fr 1 = true := id rfl
@[simp] theorem sf_1 (k : Nat) : (C k).sf 1 = true := id rfl
theorem at_ascends (k : Nat) (ds : List D) : callF tab (k + 1) 1 ds = run (C k) i_ascends ds := rfl
@[simp] theorem fr_2 (k : Nat) : (C k).fr 2 = true := id rfl
@[simp] theorem sf_2 (k : Nat) : (C k).sf 2 = true := id rfl
theorem at_is_cube (k : Nat) (ds : List D) : callF tab (k + 1) 2 ds = run (C k) i_is_cube ds := rfl
@[simp] theorem fr_3 (k : Nat) : (C k).fr 3 = true := id rfl
@[simp] theorem sf_3 (k : Nat) : (C k).sf 3 = true := id rfl
theorem at_is_solid (k : Nat) (ds : List D) : callF tab (k + 1) 3 ds = run (C k) i_is_solid ds := rfl
@[simp] theorem fr_4 (k : Nat) : (C k).fr 4 = true := id rfl
@[simp] theorem sf_4 (k : Nat) : (C k).sf 4 = true := id rfl
theorem at_check_solid (k : Nat) (ds : List D) : callF tab (k + 1) 4 ds = run (C k) i_check_solid ds := rfl
@[simp] theorem fr_5 (k : Nat) : (C k).fr 5 = true := id rfl
@[simp] theorem sf_5 (k : Nat) : (C k).sf 5 = true := id rfl
theorem at_pair_of (k : Nat) (ds : List D) : callF tab (k + 1) 5 ds = run (C k) i_pair_of ds := rfl
@[simp] theorem fr_6 (k : Nat) : (C k).fr 6 = true := id rfl
@[simp] theorem sf_6 (k : Nat) : (C k).sf 6 = true := id rfl
theorem at_by_pairs (k : Nat) (ds : List D) : callF tab (k + 1) 6 ds = run (C k) i_by_pairs ds := rfl
@[simp] theorem fr_7 (k : Nat) : (C k).fr 7 = true := id rfl
@[simp] theorem sf_7 (k : Nat) : (C k).sf 7 = true := id rfl
theorem at_u_is_pair (k : Nat) (ds : List D) : callF tab (k + 1) 7 ds = run (C k) i_u_is_pair ds := rfl
@[simp] theorem fr_8 (k : Nat) : (C k).fr 8 = true := id rfl
@[simp] theorem sf_8 (k : Nat) : (C k).sf 8 = true := id rfl
theorem at_u_is_view (k : Nat) (ds : List D) : callF tab (k + 1) 8 ds = run (C k) i_u_is_view ds := rfl
@[simp] theorem fr_9 (k : Nat) : (C k).fr 9 = true := id rfl
@[simp] theorem sf_9 (k : Nat) : (C k).sf 9 = true := id rfl
theorem at_are_views (k : Nat) (ds : List D) : callF tab (k + 1) 9 ds = run (C k) i_are_views ds := rfl
@[simp] theorem fr_10 (k : Nat) : (C k).fr 10 = true := id rfl
@[simp] theorem sf_10 (k : Nat) : (C k).sf 10 = true := id rfl
theorem at_check_views (k : Nat) (ds : List D) : callF tab (k + 1) 10 ds = run (C k) i_check_views ds := rfl
@[simp] theorem fr_11 (k : Nat) : (C k).fr 11 = true := id rfl
@[simp] theorem sf_11 (k : Nat) : (C k).sf 11 = true := id rfl
theorem at_all_views (k : Nat) (ds : List D) : callF tab (k + 1) 11 ds = run (C k) i_all_views ds := rfl
@[simp] theorem fr_12 (k : Nat) : (C k).fr 12 = true := id rfl
@[simp] theorem sf_12 (k : Nat) : (C k).sf 12 = true := id rfl
theorem at_views_of (k : Nat) (ds : List D) : callF tab (k + 1) 12 ds = run (C k) i_views_of ds := rfl
@[simp] theorem fr_13 (k : Nat) : (C k).fr 13 = true := id rfl
@[simp] theorem sf_13 (k : Nat) : (C k).sf 13 = true := id rfl
theorem at_widest (k : Nat) (ds : List D) : callF tab (k + 1) 13 ds = run (C k) i_widest ds := rfl
@[simp] theorem fr_14 (k : Nat) : (C k).fr 14 = true := id rfl
@[simp] theorem sf_14 (k : Nat) : (C k).sf 14 = true := id rfl
theorem at_first_unseen (k : Nat) (ds : List D) : callF tab (k + 1) 14 ds = run (C k) i_first_unseen ds := rfl
@[simp] theorem fr_15 (k : Nat) : (C k).fr 15 = true := id rfl
@[simp] theorem sf_15 (k : Nat) : (C k).sf 15 = true := id rfl
theorem at_u_greatest (k : Nat) (ds : List D) : callF tab (k + 1) 15 ds = run (C k) i_u_greatest ds := rfl
@[simp] theorem fr_16 (k : Nat) : (C k).fr 16 = false := id rfl
@[simp] theorem sf_16 (k : Nat) : (C k).sf 16 = false := id rfl
theorem at_greatest_with (k : Nat) (ds : List D) : callF tab (k + 1) 16 ds = run (C k) i_greatest_with ds := rfl
@[simp] theorem fr_17 (k : Nat) : (C k).fr 17 = true := id rfl
@[simp] theorem sf_17 (k : Nat) : (C k).sf 17 = true := id rfl
theorem at_are_alone (k : Nat) (ds : List D) : callF tab (k + 1) 17 ds = run (C k) i_are_alone ds := rfl
@[simp] theorem fr_18 (k : Nat) : (C k).fr 18 = true := id rfl
@[simp] theorem sf_18 (k : Nat) : (C k).sf 18 = true := id rfl
theorem at_needed_cubes (k : Nat) (ds : List D) : callF tab (k + 1) 18 ds = run (C k) i_needed_cubes ds := rfl
@[simp] theorem fr_19 (k : Nat) : (C k).fr 19 = true := id rfl
@[simp] theorem sf_19 (k : Nat) : (C k).sf 19 = true := id rfl
theorem at_one_solid (k : Nat) (ds : List D) : callF tab (k + 1) 19 ds = run (C k) i_one_solid ds := rfl
@[simp] theorem fr_20 (k : Nat) : (C k).fr 20 = true := id rfl
@[simp] theorem sf_20 (k : Nat) : (C k).sf 20 = true := id rfl
theorem at_thinned (k : Nat) (ds : List D) : callF tab (k + 1) 20 ds = run (C k) i_thinned ds := rfl
@[simp] theorem fr_21 (k : Nat) : (C k).fr 21 = true := id rfl
@[simp] theorem sf_21 (k : Nat) : (C k).sf 21 = true := id rfl
theorem at_u_law_draws (k : Nat) (ds : List D) : callF tab (k + 1) 21 ds = run (C k) i_u_law_draws ds := rfl
@[simp] theorem fr_22 (k : Nat) : (C k).fr 22 = true := id rfl
@[simp] theorem sf_22 (k : Nat) : (C k).sf 22 = true := id rfl
theorem at_u_law_cubes (k : Nat) (ds : List D) : callF tab (k + 1) 22 ds = run (C k) i_u_law_cubes ds := rfl
@[simp] theorem fr_23 (k : Nat) : (C k).fr 23 = true := id rfl
@[simp] theorem sf_23 (k : Nat) : (C k).sf 23 = true := id rfl
theorem at_u_law_pairs (k : Nat) (ds : List D) : callF tab (k + 1) 23 ds = run (C k) i_u_law_pairs ds := rfl
@[simp] theorem fr_24 (k : Nat) : (C k).fr 24 = true := id rfl
@[simp] theorem sf_24 (k : Nat) : (C k).sf 24 = true := id rfl
theorem at_u_law_views (k : Nat) (ds : List D) : callF tab (k + 1) 24 ds = run (C k) i_u_law_views ds := rfl
@[simp] theorem fr_25 (k : Nat) : (C k).fr 25 = true := id rfl
@[simp] theorem sf_25 (k : Nat) : (C k).sf 25 = true := id rfl
theorem at_u_law_widest (k : Nat) (ds : List D) : callF tab (k + 1) 25 ds = run (C k) i_u_law_widest ds := rfl
@[simp] theorem fr_26 (k : Nat) : (C k).fr 26 = true := id rfl
@[simp] theorem sf_26 (k : Nat) : (C k).sf 26 = true := id rfl
theorem at_u_law_bar (k : Nat) (ds : List D) : callF tab (k + 1) 26 ds = run (C k) i_u_law_bar ds := rfl
@[simp] theorem fr_27 (k : Nat) : (C k).fr 27 = true := id rfl
@[simp] theorem sf_27 (k : Nat) : (C k).sf 27 = true := id rfl
theorem at_u_law_drawn_views (k : Nat) (ds : List D) : callF tab (k + 1) 27 ds = run (C k) i_u_law_drawn_views ds := rfl
@[simp] theorem fr_28 (k : Nat) : (C k).fr 28 = true := id rfl
@[simp] theorem sf_28 (k : Nat) : (C k).sf 28 = true := id rfl
theorem at_u_law_told (k : Nat) (ds : List D) : callF tab (k + 1) 28 ds = run (C k) i_u_law_told ds := rfl
@[simp] theorem fr_29 (k : Nat) : (C k).fr 29 = true := id rfl
@[simp] theorem sf_29 (k : Nat) : (C k).sf 29 = true := id rfl
theorem at_u_law_without (k : Nat) (ds : List D) : callF tab (k + 1) 29 ds = run (C k) i_u_law_without ds := rfl
@[simp] theorem fr_30 (k : Nat) : (C k).fr 30 = false := id rfl
@[simp] theorem sf_30 (k : Nat) : (C k).sf 30 = false := id rfl
theorem at_u_law_thinned (k : Nat) (ds : List D) : callF tab (k + 1) 30 ds = run (C k) i_u_law_thinned ds := rfl
@[simp] theorem fr_31 (k : Nat) : (C k).fr 31 = true := id rfl
@[simp] theorem sf_31 (k : Nat) : (C k).sf 31 = true := id rfl
theorem at_law (k : Nat) (ds : List D) : callF tab (k + 1) 31 ds = run (C k) i_law ds := rfl
@[simp] theorem gl_0 (k : Nat) : (C k).gl 0 = some (.int 7) := id rfl
@[simp] theorem gl_1 (k : Nat) : (C k).gl 1 = some (.int 96) := id rfl
@[simp] theorem gl_2 (k : Nat) : (C k).gl 2 = some (.tuple [(.int 0), (.int 1), (.int 2)]) := id rfl
@[simp] theorem gl_3 (k : Nat) : (C k).gl 3 = some (.str "none") := id rfl
def fnn : List Str := [("is_whole" : Str), ("ascends" : Str), ("is_cube" : Str), ("is_solid" : Str), ("check_solid" : Str), ("pair_of" : Str), ("by_pairs" : Str), ("_is_pair" : Str), ("_is_view" : Str), ("are_views" : Str), ("check_views" : Str), ("all_views" : Str), ("views_of" : Str), ("widest" : Str), ("first_unseen" : Str), ("_greatest" : Str), ("greatest_with" : Str), ("are_alone" : Str), ("needed_cubes" : Str), ("one_solid" : Str), ("thinned" : Str), ("_law_draws" : Str), ("_law_cubes" : Str), ("_law_pairs" : Str), ("_law_views" : Str), ("_law_widest" : Str), ("_law_bar" : Str), ("_law_drawn_views" : Str), ("_law_told" : Str), ("_law_without" : Str), ("_law_thinned" : Str), ("law" : Str)]
def gln : List Str := [("MOST_SIDE" : Str), ("MOST_CUBES" : Str), ("AXES" : Str), ("NONE" : Str)]
def exn : List Str := [("CubeError" : Str), ("BadSolid" : Str), ("TooMany" : Str), ("BadViews" : Str)]
def lw : Lw := ⟨tab, fnn, gln, exn⟩
def topS (i : Nat) : Stmt := PySem.Challenge.pw_cubewright_k08_whole_needed_cubes.main.body.getD i (.Pass ⟨0, 0, 0, 0⟩)
def defs : List Def := [⟨topS 8, [("value" : Str), ("least" : Str), ("most" : Str)], [("value" : Str), ("least" : Str), ("most" : Str)]⟩, ⟨topS 9, [("values" : Str), ("one" : Str), ("later" : Str)], [("values" : Str)]⟩, ⟨topS 10, [("value" : Str), ("one" : Str)], [("value" : Str)]⟩, ⟨topS 11, [("value" : Str), ("one" : Str)], [("value" : Str)]⟩, ⟨topS 12, [("solid" : Str)], [("solid" : Str)]⟩, ⟨topS 16, [("cube" : Str), ("axis" : Str)], [("cube" : Str), ("axis" : Str)]⟩, ⟨topS 17, [("cubes" : Str), ("axis" : Str), ("counts" : Str), ("cube" : Str), ("pair" : Str)], [("cubes" : Str), ("axis" : Str)]⟩, ⟨topS 18, [("value" : Str), ("one" : Str)], [("value" : Str)]⟩, ⟨topS 19, [("value" : Str), ("one" : Str)], [("value" : Str)]⟩, ⟨topS 20, [("value" : Str), ("one" : Str)], [("value" : Str)]⟩, ⟨topS 21, [("views" : Str)], [("views" : Str)]⟩, ⟨topS 22, [("cubes" : Str), ("axis" : Str)], [("cubes" : Str)]⟩, ⟨topS 23, [("solid" : Str)], [("solid" : Str)]⟩, ⟨topS 24, [("views" : Str), ("known" : Str), ("cubes" : Str), ("x" : Str), ("y" : Str), ("z" : Str), ("view" : Str), ("pair" : Str)], [("views" : Str)]⟩, ⟨topS 25, [("views" : Str), ("cubes" : Str), ("axis" : Str), ("counts" : Str), ("pair" : Str)], [("views" : Str), ("cubes" : Str)]⟩, ⟨topS 26, [("views" : Str), ("cubes" : Str), ("bar" : Str)], [("views" : Str)]⟩, ⟨topS 27, [("views" : Str), ("cubes" : Str), ("bar" : Str)], [("views" : Str)]⟩, ⟨topS 28, [("cubes" : Str), ("counts" : Str), ("axis" : Str), ("cube" : Str)], [("cubes" : Str)]⟩, ⟨topS 29, [("views" : Str), ("cubes" : Str), ("bar" : Str)], [("views" : Str)]⟩, ⟨topS 30, [("views" : Str), ("known" : Str), ("spare" : Str), ("cubes" : Str), ("bar" : Str), ("cube" : Str)], [("views" : Str)]⟩, ⟨topS 31, [("solid" : Str), ("counts" : Str), ("left" : Str), ("cube" : Str), ("pairs" : Str), ("axis" : Str)], [("solid" : Str)]⟩, ⟨topS 33, [("script" : Str), ("many" : Str), ("draws" : Str), ("seed" : Str), ("cell" : Str), ("k" : Str), ("number" : Str)], [("script" : Str), ("many" : Str)]⟩, ⟨topS 34, [("draws" : Str), ("many" : Str), ("size" : Str), ("found" : Str), ("k" : Str), ("draw" : Str), ("cube" : Str)], [("draws" : Str), ("many" : Str), ("size" : Str)]⟩, ⟨topS 35, [("cubes" : Str), ("axis" : Str), ("cube" : Str), ("other" : Str)], [("cubes" : Str), ("axis" : Str)]⟩, ⟨topS 36, [("cubes" : Str), ("axis" : Str)], [("cubes" : Str)]⟩, ⟨topS 37, [("views" : Str), ("found" : Str), ("x" : Str), ("y" : Str), ("z" : Str)], [("views" : Str)]⟩, ⟨topS 38, [("views" : Str), ("wide" : Str), ("axis" : Str), ("held" : Str), ("pair" : Str)], [("views" : Str)]⟩, ⟨topS 39, [("draws" : Str), ("many" : Str), ("size" : Str), ("cubes" : Str), ("base" : Str), ("found" : Str), ("axis" : Str), ("pair" : Str), ("k" : Str)], [("draws" : Str), ("many" : Str), ("size" : Str)]⟩, ⟨topS 40, [("way" : Str), ("views" : Str), ("e" : Str)], [("way" : Str), ("views" : Str)]⟩, ⟨topS 41, [("cubes" : Str), ("one" : Str), ("cube" : Str)], [("cubes" : Str), ("one" : Str)]⟩, ⟨topS 42, [("cubes" : Str), ("here" : Str), ("cube" : Str), ("less" : Str)], [("cubes" : Str)]⟩, ⟨topS 43, [("script" : Str), ("draws" : Str), ("turn" : Str), ("size" : Str), ("views" : Str), ("many" : Str), ("solid" : Str), ("less" : Str), ("wide" : Str), ("bar" : Str), ("needed" : Str), ("spare" : Str), ("cube" : Str)], [("script" : Str)]⟩]
end Law
set_option linter.all false
set_option maxRecDepth 100000
namespace Law
open PySem Q
structure Vw where
  a : List Pr
  b : List Pr
  c : List Pr
def Vw.d (V : Vw) : D := .tuple [.tuple (V.a.map pd), .tuple (V.b.map pd), .tuple (V.c.map pd)]
def pj (i : Int) (c : Cube) : Pr := if i = 0 then (c.2.1, c.2.2) else if i = 1 then (c.1, c.2.2) else (c.1, c.2.1)
def Vw.at (V : Vw) (i : Int) : List Pr := if i = 0 then V.a else if i = 1 then V.b else V.c
def inP (p : Pr) : Bool := inC p.1 && inC p.2
theorem ax3 {i : Int} (h0 : 0 ≤ i) (h2 : i ≤ 2) : i = 0 ∨ i = 1 ∨ i = 2 := by omega
theorem vw_ix (V : Vw) {i : Int} (h0 : 0 ≤ i) (h2 : i ≤ 2) : sem .ix [V.d, .int i] = .ok (.tuple ((V.at i).map pd)) := by
  rcases ax3 h0 h2 with rfl | rfl | rfl <;> simp [Vw.d, Vw.at]
theorem is_whole (k : Nat) (v a b : Int) : callF tab (k+1) f_is_whole [.int v, .int a, .int b] = .ok (.bool (decide (a ≤ v) && decide (v ≤ b)), false) := by
  rw [at_is_whole]
  refine run_ok rfl ?_ (fun _ => id) (fun _ => rfl)
  simp [i_is_whole]
  by_cases h : a ≤ v <;> simp [h]
theorem whole_b (k : Nat) (v : Bool) (a b : Int) : callF tab (k+1) f_is_whole [.bool v, .int a, .int b] = .ok (.bool false, false) := by
  rw [at_is_whole]
  refine run_ok rfl ?_ (fun _ => id) (fun _ => rfl)
  simp [i_is_whole, tyIs]
theorem whole_n (k : Nat) (a b : Int) : callF tab (k+1) f_is_whole [.none, .int a, .int b] = .ok (.bool false, false) := by
  rw [at_is_whole]
  refine run_ok rfl ?_ (fun _ => id) (fun _ => rfl)
  simp [i_is_whole, tyIs]
theorem ascends {α : Type} [Tp α] [DecidableEq α] (hne : ∀ x : α, Tp.enc x ≠ []) (k : Nat) (S : List α) (hl : S.length ≤ 1000) : callF tab (k+1) f_ascends [.tuple (S.map td)] = .ok (.bool (ascA S), false) := by
  rw [at_ascends]
  refine run_ok rfl ?_ (fun _ => id) (fun _ => rfl)
  have hc : evE (C k) c_ascends_1 true [some (.tuple (S.map td), 0), none, none] = .ok (.list ((S.zip S.tail).map fun p => .bool (decide (ltA p.1 p.2)))) := by
    unfold c_ascends_1
    rw [ev_comp (xs := S.zip S.tail) (g := fun p => .tuple [td p.1, td p.2]) (h := fun p => some (.bool (decide (ltA p.1 p.2))))]
    · rw [filterMap_some]
    · simp [← List.map_tail, zip2_map]
    · intro p _
      simp [lt_td _ _ (hne _) (hne _)]
    · simp; omega
  have := s_all_map (fun p : α × α => decide (ltA p.1 p.2)) (S.zip S.tail)
  simp [i_ascends, hc, ascA, this]
theorem is_cube (k : Nat) (c : Cube) : callF tab (k+2) f_is_cube [cu c] = .ok (.bool (okC c), false) := by
  rw [at_is_cube]
  refine run_ok rfl ?_ (fun _ => id) (fun _ => rfl)
  simp [i_is_cube, c_is_cube_1, ev_comp_def, cu, compM, is_whole]
  have := s_all [decide (0 ≤ c.1) && decide (c.1 ≤ 7), decide (0 ≤ c.2.1) && decide (c.2.1 ≤ 7), decide (0 ≤ c.2.2) && decide (c.2.2 ≤ 7)]
  simp only [List.map] at this
  simp [this, okC, inC, Bool.and_assoc]
theorem pair_of (k : Nat) (c : Cube) {i : Int} (h0 : 0 ≤ i) (h2 : i ≤ 2) : callF tab (k+1) f_pair_of [cu c, .int i] = .ok (pd (pj i c), false) := by
  rw [at_pair_of]
  refine run_ok rfl ?_ (fun _ => id) (fun _ => rfl)
  rcases ax3 h0 h2 with rfl | rfl | rfl <;> simp [i_pair_of, cu, pd, pj]
theorem ax_cases {i : Int} (h : i ∈ ([0, 1, 2] : List Int)) : 0 ≤ i ∧ i ≤ 2 := by
  simp at h
  rcases h with rfl | rfl | rfl <;> decide
theorem is_pair (k : Nat) (p : Pr) : callF tab (k+2) f_u_is_pair [pd p] = .ok (.bool (inP p), false) := by
  rw [at_u_is_pair]
  refine run_ok rfl ?_ (fun _ => id) (fun _ => rfl)
  simp [i_u_is_pair, c_u_is_pair_1, ev_comp_def, pd, compM, is_whole]
  have := s_all [decide (0 ≤ p.1) && decide (p.1 ≤ 7), decide (0 ≤ p.2) && decide (p.2 ≤ 7)]
  simp only [List.map] at this
  simp [this, inP, inC, Bool.and_assoc]
def cntP (S : List Cube) (i : Int) (p : Pr) : Nat := cn p (S.map (pj i))
structure BP (S : List Cube) (i : Int) (kvs : List (D × D)) (ks : List Pr) : Prop where
  dk : DK (α := Pr) kvs ks
  mem : ∀ p, p ∈ ks ↔ p ∈ S.map (pj i)
  get : ∀ p : Pr, (dget kvs (td p)).getD (.int 0) = .int (cntP S i p)
  val : ∀ p ∈ kvs, ∃ j, p.2 = .int j
  len : kvs.length ≤ S.length
theorem BP.step {S : List Cube} {i : Int} {kvs : List (D × D)} {ks : List Pr} (h : BP S i kvs ks) (c : Cube) : ∃ ks', BP (S ++ [c]) i (dput kvs (td (pj i c)) (.int (cntP S i (pj i c) + 1))) ks' := by
  have hp := h.dk.put (pj i c) (.int (cntP S i (pj i c) + 1))
  refine ⟨_, hp, fun p => ?_, fun p => ?_, DK.vals (P := fun d => ∃ j, d = .int j) h.val ⟨_, rfl⟩, ?_⟩
  · rw [List.map_append, List.mem_append, ← h.mem]
    by_cases g : pj i c ∈ ks
    · rw [if_pos g]
      refine ⟨.inl, fun z => z.elim id fun z => ?_⟩
      simp at z; subst z; exact g
    · rw [if_neg g, List.mem_append]
      simp
  · rw [dget_dput h.dk]
    unfold cntP
    rw [List.map_append, cn_app]
    by_cases g : pj i c = p
    · subst g
      simp [cn_cons, cn_nil]
    · rw [if_neg g, h.get]
      have : cn p (List.map (pj i) [c]) = 0 := by simp [cn_cons, cn_nil, g]
      rw [this]
      rfl
  · have := h.len
    have e1 := hp.len
    have e2 := h.dk.len
    rw [e1, List.length_append]
    split <;> simp <;> omega
theorem pair_step (k : Nat) (X : Sl) (S : List Cube) (c : Cube) {i : Int} (h0 : 0 ≤ i) (h2 : i ≤ 2) (kvs : List (D × D)) (ks : List Pr) (hk : BP S i kvs ks) (hl : S.length ≤ 1000) : evSs (C (k+1)) b_by_pairs_1 [X, some (.int i, 0), some (.dict kvs, 1), some (cu c, 0), none] = .nx [X, some (.int i, 0), some (.dict (dput kvs (td (pj i c)) (.int (cntP S i (pj i c) + 1))), 1), some (cu c, 0), some (td (pj i c), 0)] := by
  have hT := hk.dk.keysT
  have hkt : keyT (td (pj i c)) = true := keyT_td (pj i c)
  have hget := getd_d hk.dk (pj i c) (.int 0) _ (hk.get (pj i c)) rfl
  have hp := pair_of k c h0 h2
  rw [← td_pd] at hp
  have hm : isMut (td (pj i c)) = false := rfl
  have hlen := hk.len
  unfold b_by_pairs_1
  refine sg (by simp [hp, hm] <;> rfl) (sg (ρ' := [X, some (.int i, 0), some (.dict kvs, 1), some (cu c, 0), some (td (pj i c), 0)]) (by rw [st_frz]; rfl) (sz ?_))
  have ho : owned [X, some (.int i, 0), some (.dict kvs, 1), some (cu c, 0), some (td (pj i c), 0)] 2 = some (.dict kvs) := rfl
  have e1 : evE (C (k+1)) (.op .add (.cons (.op .getd (.cons (.v 2) (.cons (.v 4) (.cons (.c (.int 0)) .nil)))) (.cons (.c (.int 1)) .nil))) false [X, some (.int i, 0), some (.dict kvs, 1), some (cu c, 0), some (td (pj i c), 0)] = .ok (.int (cntP S i (pj i c) + 1)) := by
    simp [hget]
  simp only [evS, ho]
  rw [e1, toF_ok, ev_v _ _ _ (d := td (pj i c)) rfl, toF_ok]
  have : (keyT (td (pj i c)) && keysT kvs && decide (kvs.length < LIM)) = true := by
    rw [hkt, hT, Bool.true_and, Bool.true_and]
    exact decide_eq_true (by rw [LIM_is]; omega)
  show (if (keyT (td (pj i c)) && keysT kvs && decide (kvs.length < LIM)) = true then _ else _) = _
  rw [if_pos this]
  rfl
theorem by_pairs (k : Nat) (S : List Cube) (hl : S.length ≤ 600) {i : Int} (h0 : 0 ≤ i) (h2 : i ≤ 2) : ∃ kvs ks, callF tab (k+2) f_by_pairs [.tuple (S.map cu), .int i] = .ok (.dict kvs, true) ∧ BP S i kvs ks := by
  rw [at_by_pairs]
  obtain ⟨r, h1, kvs, ks, rfl, hb⟩ := forL_ex (step := fun d ρ => toF ρ (Tg.bind (.n 3) d ρ) fun ρ' => evSs (C (k+1)) b_by_pairs_1 ρ') (w := [3, 4]) cu (fun n ρ => ∃ kvs ks, ρ = [some (.tuple (S.map cu), 0), some (.int i, 0), some (.dict kvs, 1), none, none] ∧ BP (S.take n) i kvs ks) S 0 [some (.tuple (S.map cu), 0), some (.int i, 0), some (.dict [], 1), none, none]
    ⟨[], [], rfl, DK.nil, by simp, fun p => by simp [dget, cntP, cn_nil], by simp, by simp⟩ fun n c ρ hc hI => by
      rw [Nat.zero_add] at hI ⊢
      obtain ⟨kvs, ks, rfl, hb⟩ := hI
      obtain ⟨ks', hb'⟩ := hb.step c
      have hst := pair_step k (some (.tuple (S.map cu), 0)) (S.take n) c h0 h2 kvs ks hb (by rw [List.length_take]; omega)
      refine ⟨_, .inl (bd (ρ' := [some (.tuple (S.map cu), 0), some (.int i, 0), some (.dict kvs, 1), some (cu c, 0), none]) rfl hst), _, ks', rfl, ?_⟩
      rw [List.take_succ, hc]
      exact hb'
  rw [Nat.zero_add, List.take_length] at hb
  refine ⟨kvs, ks, ?_, hb⟩
  refine run_ok rfl ?_ (fun _ _ => rfl) (fun _ => ?_)
  · show evSs _ i_by_pairs.body [some (.tuple (S.map cu), 0), some (.int i, 0), none, none, none] = _
    unfold i_by_pairs
    refine sg (ρ' := [some (.tuple (S.map cu), 0), some (.int i, 0), some (.dict [], 1), none, none]) (by
      rw [st_asg]
      have : evE (C (k+1)) (.dcomp (.c .none) (.c .none) (.t .nil) (.e (.op .lst .nil)) none) false [some (.tuple (S.map cu), 0), some (.int i, 0), none, none, none] = .ok (.dict []) := by
        simp only [evE, evI, evEs]; rfl
      rw [this, toF_ok]
      rfl) (sg (st_for (by simp <;> rfl) h1) ?_)
    simp
  · have hi : immAll (kvs.map (·.1)) = true := by rw [hb.dk.keys]; exact immAll_td ks
    have hj : immAll (kvs.map (·.2)) = true := by
      have := hb.val
      clear h1 hb hi
      induction kvs with
      | nil => rfl
      | cons q r ih =>
        obtain ⟨j, hj⟩ := this q List.mem_cons_self
        rw [List.map_cons, immAll, hj, ih fun p hp => this p (List.mem_cons_of_mem _ hp)]
        rfl
    simp [immIn, hi, hj]
structure VOK (V : Vw) : Prop where
  srt : ∀ i, SrtA (V.at i)
  ok : ∀ i, (V.at i).all inP = true
  len : ∀ i, (V.at i).length ≤ 64
theorem vok_mk {V : Vw} (ha : SrtA V.a ∧ V.a.all inP = true ∧ V.a.length ≤ 64) (hb : SrtA V.b ∧ V.b.all inP = true ∧ V.b.length ≤ 64) (hc : SrtA V.c ∧ V.c.all inP = true ∧ V.c.length ≤ 64) : VOK V := by
  constructor <;> intro i <;> unfold Vw.at <;> split <;> (try split) <;> first | exact ha.1 | exact hb.1 | exact hc.1 | exact ha.2.1 | exact hb.2.1 | exact hc.2.1 | exact ha.2.2 | exact hb.2.2 | exact hc.2.2
theorem is_view (k : Nat) (v : List Pr) (hs : SrtA v) (ho : v.all inP = true) (hl : v.length ≤ 64) : callF tab (k+3) f_u_is_view [.tuple (v.map pd)] = .ok (.bool true, false) := by
  rw [at_u_is_view]
  refine run_ok rfl ?_ (fun _ => id) (fun _ => rfl)
  have h1 : ∀ m, evE (C (k+2)) c_u_is_view_1 m [some (.tuple (v.map pd), 0), none] = .ok (.list (v.map fun p => .bool (inP p))) := fun m => by
    unfold c_u_is_view_1
    rw [ev_comp (xs := v) (g := pd) (h := fun p => some (.bool (inP p)))]
    · rw [filterMap_some]
    · simp
    · intro p _
      simp [is_pair]
    · simp; omega
  have ha := ascends ne_pd (k+1) v (by omega)
  rw [← map_pd, (ascA_iff v).mpr hs] at ha
  simp [i_u_is_view, h1, ho, ha]
theorem are_views (k : Nat) (V : Vw) (h : VOK V) : callF tab (k+4) f_are_views [V.d] = .ok (.bool true, false) := by
  rw [at_are_views]
  refine run_ok rfl ?_ (fun _ => id) (fun _ => rfl)
  have v0 := is_view k V.a (h.srt 0) (h.ok 0) (h.len 0)
  have v1 := is_view k V.b (h.srt 1) (h.ok 1) (h.len 1)
  have v2 := is_view k V.c (h.srt 2) (h.ok 2) (h.len 2)
  simp [i_are_views, c_are_views_1, ev_comp_def, Vw.d, compM, v0, v1, v2]
  have := s_all [true, true, true]
  simp only [List.map] at this
  simp [this]
theorem check_views (k : Nat) (V : Vw) (h : VOK V) : callF tab (k+5) f_check_views [V.d] = .ok (.none, false) := by
  rw [at_check_views]
  unfold Q.run
  simp [i_check_views, are_views k V h, fits, imm]
def vwOf (S : List Cube) : Vw := ⟨srtOf (S.map (pj 0)), srtOf (S.map (pj 1)), srtOf (S.map (pj 2))⟩
theorem vwOf_at (S : List Cube) {i : Int} (h0 : 0 ≤ i) (h2 : i ≤ 2) : (vwOf S).at i = srtOf (S.map (pj i)) := by
  rcases ax3 h0 h2 with rfl | rfl | rfl <;> rfl
theorem vw_d (V : Vw) : V.d = .tuple (([0, 1, 2] : List Int).map fun i => .tuple ((V.at i).map pd)) := rfl
theorem mut_vw (V : Vw) : isMut V.d = false := rfl
theorem imm_vw (V : Vw) : imm V.d = true := by simp [vw_d, imm, immAll, map_pd, immAll_td]
theorem all_views (k : Nat) (S : List Cube) (hl : S.length ≤ 600) : callF tab (k+3) f_all_views [.tuple (S.map cu)] = .ok ((vwOf S).d, false) := by
  rw [at_all_views]
  refine run_ok rfl ?_ (fun _ => id) (fun _ => by simp [vw_d, imm, immAll, map_pd, immAll_td])
  have hc : ∀ m, evE (C (k+2)) c_all_views_1 m [some (.tuple (S.map cu), 0), none] = .ok (.list (([0, 1, 2] : List Int).map fun i => .tuple (((vwOf S).at i).map pd))) := fun m => by
    unfold c_all_views_1
    rw [ev_comp (xs := ([0, 1, 2] : List Int)) (g := fun i => .int i) (h := fun i => some (.tuple (((vwOf S).at i).map pd)))]
    · rw [filterMap_some]
    · simp
    · intro i hi
      obtain ⟨h0, h2⟩ := ax_cases hi
      obtain ⟨kvs, ks, e1, e2⟩ := by_pairs k S hl h0 h2
      have e4 := sort_d e2.dk ne_pd (srtOf_srt (S.map (pj i))) fun x => by rw [srtOf_mem, e2.mem]
      rw [vwOf_at S h0 h2, map_pd]
      simp [e1, e4]
    · simp
  simp [i_all_views, hc]
  rfl
structure El where
  d : D
  b : Bool
  p : ∀ k, callF tab (k+2) f_is_cube [d] = .ok (.bool b, false)
def sb (S : List Cube) : Bool := decide (S.length ≤ 96) && S.all okC && ascA S
theorem sb_iff {S : List Cube} : sb S = true ↔ S.length ≤ 96 ∧ (∀ c ∈ S, okC c = true) ∧ SrtA S := by
  unfold sb
  rw [Bool.and_eq_true, Bool.and_eq_true, decide_eq_true_iff, List.all_eq_true, ascA_iff, and_assoc]
theorem all_el (k : Nat) (es : List El) (hl : es.length ≤ 1000) (m : Bool) : evE (C (k+2)) c_is_solid_1 m [some (.tuple (es.map El.d), 0), none] = .ok (.list (es.map fun e => .bool e.b)) := by
  unfold c_is_solid_1
  rw [ev_comp (xs := es) (g := El.d) (h := fun e => some (.bool e.b))]
  · rw [filterMap_some]
  · simp
  · intro e _
    have := e.p k
    simp [this]
  · simp; omega
def elC (c : Cube) : El := ⟨cu c, okC c, fun k => is_cube k c⟩
theorem solid_nt (k : Nat) (d : D) (h : sem (.isi .tuple) [d] = .ok (.bool false)) : callF tab (k+1) f_is_solid [d] = .ok (.bool false, false) := by
  rw [at_is_solid]
  refine run_ok rfl ?_ (fun _ => id) (fun _ => rfl)
  simp [i_is_solid, h]
theorem is_solid (k : Nat) (S : List Cube) (hl : S.length ≤ 1000) : callF tab (k+3) f_is_solid [.tuple (S.map cu)] = .ok (.bool (sb S), false) := by
  rw [at_is_solid]
  refine run_ok rfl ?_ (fun _ => id) (fun _ => rfl)
  have h1 := all_el k (S.map elC) (by simpa using hl) true
  have ha := ascends ne_cu (k+1) S hl
  rw [← map_cu] at ha
  rw [List.map_map, show (El.d ∘ elC) = cu from rfl, List.map_map] at h1
  have h2 := s_all_map okC S
  have e : ((fun e : El => PyData.bool e.b) ∘ elC) = fun c => .bool (okC c) := rfl
  rw [e] at h1
  generalize (S.map fun c => PyData.bool (okC c)) = T at *
  unfold sb
  by_cases h96 : S.length ≤ 96
  · have h96' : ¬ 96 < (S.length : Int) := by omega
    cases ho : S.all okC <;> simp [i_is_solid, h1, h2, ho, h96, h96', ha]
  · have h96' : 96 < (S.length : Int) := by omega
    simp [i_is_solid, h96, h96']
theorem check_ok (k : Nat) (S : List Cube) (hl : S.length ≤ 1000) (h : sb S = true) : callF tab (k+4) f_check_solid [.tuple (S.map cu)] = .ok (.none, false) := by
  rw [at_check_solid]
  unfold Q.run
  simp [i_check_solid, is_solid k S hl, h, fits, imm]
theorem check_no (k : Nat) (d : D) (h : callF tab (k+3) f_is_solid [d] = .ok (.bool false, false)) : callF tab (k+4) f_check_solid [d] = .exc 1 := by
  rw [at_check_solid]
  unfold Q.run
  simp [i_check_solid, h]
theorem views_of (k : Nat) (S : List Cube) (h : sb S = true) : callF tab (k+5) f_views_of [.tuple (S.map cu)] = .ok ((vwOf S).d, false) := by
  have hl := (sb_iff.mp h).1
  rw [at_views_of]
  refine run_ok rfl ?_ (fun _ => id) (fun _ => by simp [vw_d, imm, immAll, map_pd, immAll_td])
  simp [i_views_of, check_ok k S (by omega) h, all_views (k+1) S (by omega), mut_vw]
theorem by_pairsD (k : Nat) (S : List Cube) (hl : S.length ≤ 600) {i : Int} (h0 : 0 ≤ i) (h2 : i ≤ 2) : ∃ kvs ks, callF tab (k+2) f_by_pairs [.tuple (S.map cu), .int i] = .ok (.dict kvs, true) ∧ DK (α := Pr) kvs ks ∧ ∀ p, p ∈ ks ↔ p ∈ S.map (pj i) := by
  obtain ⟨kvs, ks, h1, h3⟩ := by_pairs k S hl h0 h2
  exact ⟨kvs, ks, h1, h3.dk, h3.mem⟩
end Law
set_option linter.all false
set_option maxRecDepth 100000
namespace Law
open PySem Q
def r8 : List Int := [0, 1, 2, 3, 4, 5, 6, 7]
def cubes8 : List Cube := r8.flatMap fun x => r8.flatMap fun y => r8.map fun z => (x, y, z)
def hit (V : Vw) (c : Cube) : Bool := decide (pj 0 c ∈ V.a) && decide (pj 1 c ∈ V.b) && decide (pj 2 c ∈ V.c)
def wd (V : Vw) : List Cube := cubes8.filter (hit V)
theorem c8_srt : SrtA cubes8 := (ascA_iff _).mp (by decide +kernel)
theorem wd_srt (V : Vw) : SrtA (wd V) := c8_srt.filter _
theorem r8_mem (x : Int) : x ∈ r8 ↔ 0 ≤ x ∧ x ≤ 7 := by simp [r8]; omega
theorem c8_mem (c : Cube) : c ∈ cubes8 ↔ okC c = true := by
  obtain ⟨x, y, z⟩ := c
  unfold cubes8
  simp only [List.mem_flatMap, List.mem_map, r8_mem, okC, inC, Bool.and_eq_true, decide_eq_true_eq]
  constructor
  · rintro ⟨a, ha, b, hb, d, hd, h⟩
    cases h
    exact ⟨⟨ha, hb⟩, hd⟩
  · rintro ⟨⟨ha, hb⟩, hd⟩
    exact ⟨x, ha, y, hb, z, hd, rfl⟩
theorem wd_mem (V : Vw) (c : Cube) : c ∈ wd V ↔ okC c = true ∧ hit V c = true := by unfold wd; rw [List.mem_filter, c8_mem]
theorem wd_ok (V : Vw) : (wd V).all okC = true := by
  rw [List.all_eq_true]
  exact fun c hc => ((wd_mem V c).mp hc).1
theorem wd_len (V : Vw) : (wd V).length ≤ 512 := by
  refine Nat.le_trans (List.length_filter_le _ _) ?_
  have : cubes8.length = 512 := by decide +kernel
  omega
def wdP (V : Vw) : List Cube := V.c.flatMap fun p => (r8.map fun z => (p.1, p.2, z)).filter fun c => decide (pj 1 c ∈ V.b) && decide (pj 0 c ∈ V.a)
theorem wdP_eq {V : Vw} (h : VOK V) : sortC (wdP V) = wd V := by
  refine sortC_eq ?_ (wd_srt V) fun c => ?_
  · have hs : SrtA V.c := h.srt 2
    have : (V.c.flatMap fun p => (r8.map fun z => (p.1, p.2, z)).filter fun c => decide (pj 1 c ∈ V.b) && decide (pj 0 c ∈ V.a)).Pairwise (· ≠ ·) := by
      rw [List.pairwise_flatMap]
      refine ⟨fun p _ => ?_, hs.imp fun {p q} hpq x hx y hy e => ?_⟩
      · refine List.Pairwise.filter _ ?_
        rw [List.pairwise_map]
        have : r8.Pairwise (· ≠ ·) := by decide
        exact this.imp fun {a b} hab e => hab (by injection e with _ e; injection e)
      · subst e
        simp only [List.mem_filter, List.mem_map] at hx hy
        obtain ⟨⟨z, _, rfl⟩, _⟩ := hx
        obtain ⟨⟨z', _, e⟩, _⟩ := hy
        injection e with e1 e2
        injection e2 with e2 e3
        have : p = q := Prod.ext e1.symm e2.symm
        subst this
        exact ltA_irrefl _ hpq
    exact this
  · rw [wd_mem]
    obtain ⟨x, y, z⟩ := c
    unfold wdP
    simp only [List.mem_flatMap, List.mem_filter, List.mem_map, r8_mem, hit, Bool.and_eq_true, decide_eq_true_eq]
    have ok2 := h.ok 2
    rw [List.all_eq_true] at ok2
    constructor
    · rintro ⟨h1, ⟨h2, h3⟩, h4⟩
      have h4' : (x, y) ∈ V.c := h4
      refine ⟨(x, y), h4', ⟨z, ?_, rfl⟩, h3, h2⟩
      simp only [okC, inC, Bool.and_eq_true, decide_eq_true_eq] at h1
      exact h1.2
    · rintro ⟨p, hp, ⟨z', hz, e⟩, h3, h2⟩
      cases e
      have := ok2 p hp
      simp only [inP, inC, Bool.and_eq_true, decide_eq_true_eq] at this
      refine ⟨?_, ⟨h2, h3⟩, hp⟩
      simp only [okC, inC, Bool.and_eq_true, decide_eq_true_eq]
      exact ⟨this, hz⟩
theorem known_of (k : Nat) (v : List Pr) (hl : v.length ≤ 64) (a b c d e f h : Sl) : ∃ kvs ks, evE (C k) (.dcomp (.v 7) (.c (.bool true)) (.n 7) (.e (.v 6)) none) false [a, b, c, d, e, f, some (.tuple (v.map pd), 0), h] = .ok (.dict kvs) ∧ DK (α := Pr) kvs ks ∧ ∀ p, p ∈ ks ↔ p ∈ v := by
  obtain ⟨kvs, ks, e1, e2, _, e4⟩ := fold_dk (α := Pr) (f := fun d' => Tg.bind (.n 7) d' (wipe [a, b, c, d, e, f, some (.tuple (v.map pd), 0), h] (Tg.slots (.n 7))) >>= fun ρ' => evTo (C k) none ρ' >>= fun b => if b then evE (C k) (.v 7) false ρ' >>= fun x => evE (C k) (.c (.bool true)) false ρ' >>= fun y => .ok (some (x, y)) else .ok none) (v := .bool true) v [] [] DK.nil (by simp) (fun x _ => by simp) (by simp; omega)
  refine ⟨kvs, ks, ?_, e2, fun p => by rw [e4]; simp⟩
  simp only [evE]
  have hi : evI (C k) (.e (.v 6)) true [a, b, c, d, e, f, some (.tuple (v.map pd), 0), h] = .ok (v.map pd) := by simp
  rw [hi, ok_bind]
  simp only [evE] at e1
  rw [← map_pd] at e1
  rw [e1]
  rfl
structure Kn (V : Vw) (ds : List D) : Prop where
  ex : ∃ k0 k1 k2 l0 l1 l2, ds = [.dict k0, .dict k1, .dict k2] ∧ DK (α := Pr) k0 l0 ∧ DK (α := Pr) k1 l1 ∧ DK (α := Pr) k2 l2 ∧ (∀ p, p ∈ l0 ↔ p ∈ V.a) ∧ (∀ p, p ∈ l1 ↔ p ∈ V.b) ∧ ∀ p, p ∈ l2 ↔ p ∈ V.c
theorem known (k : Nat) (V : Vw) (h : VOK V) (b c d e f : Sl) : ∃ ds, evE (C k) c_widest_1 false [some (V.d, 0), b, c, d, e, f, none, none] = .ok (.list ds) ∧ Kn V ds := by
  obtain ⟨k0, l0, e0, d0, m0⟩ := known_of k V.a (h.len 0) (some (V.d, 0)) b c d e f none
  obtain ⟨k1, l1, e1, d1, m1⟩ := known_of k V.b (h.len 1) (some (V.d, 0)) b c d e f none
  obtain ⟨k2, l2, e2, d2, m2⟩ := known_of k V.c (h.len 2) (some (V.d, 0)) b c d e f none
  refine ⟨_, ?_, k0, k1, k2, l0, l1, l2, rfl, d0, d1, d2, m0, m1, m2⟩
  unfold c_widest_1
  rw [ev_comp_def, show evI (C k) (.e (.v 0)) true [some (V.d, 0), b, c, d, e, f, none, none] = .ok [.tuple (V.a.map pd), .tuple (V.b.map pd), .tuple (V.c.map pd)] by
    rw [ei_e, ev_v _ _ _ (d := V.d) rfl]; rfl]
  simp only [ok_bind, compM, bind_n, slots_n, wipe_cons, wipe_nil, put_succ, put_zero, eto_none, if_true, e0, e1, e2, quiet_ok']
  rfl
def cnd (V : Vw) (p : Pr) (z : Int) : Bool := decide ((p.1, z) ∈ V.b) && decide ((p.2, z) ∈ V.a)
theorem wide_z (k : Nat) (V : Vw) (ds : List D) (hk : Kn V ds) (p : Pr) (l : List D) (hl : l.length ≤ 1000) : evS (C k) (.for (.n 5) (.rng (.cons (.op .add (.cons (.g 0) (.cons (.c (.int 1)) .nil))) .nil)) b_widest_2 [5]) [some (V.d, 0), some (.list ds, 1), some (.list l, 1), some (.int p.1, 0), some (.int p.2, 0), none, none, none] = .nx [some (V.d, 0), some (.list ds, 1), some (.list (l ++ ((r8.filter (cnd V p)).map fun z => cu (p.1, p.2, z))), 1), some (.int p.1, 0), some (.int p.2, 0), none, none, none] := by
  have hr : evI (C k) (.rng (.cons (.op .add (.cons (.g 0) (.cons (.c (.int 1)) .nil))) .nil)) false [some (V.d, 0), some (.list ds, 1), some (.list l, 1), some (.int p.1, 0), some (.int p.2, 0), none, none, none] = .ok (r8.map .int) := by
    simp [rangeD, small, r8, rngL]
  simp only [evS]
  rw [hr, toF_ok]
  obtain ⟨k0, k1, k2, l0, l1, l2, rfl, d0, d1, d2, m0, m1, m2⟩ := hk.ex
  have key := forL_app (step := fun d ρ => toF ρ (Tg.bind (.n 5) d ρ) fun ρ' => evSs (C k) b_widest_2 ρ') (w := [5]) (g := PyData.int) (env := fun l => [some (V.d, 0), some (.list [.dict k0, .dict k1, .dict k2], 1), some (.list l, 1), some (.int p.1, 0), some (.int p.2, 0), none, none, none]) (f := fun z => if cnd V p z then [cu (p.1, p.2, z)] else []) r8 (fun _ => rfl) (fun _ => True) (fun _ _ => trivial) 1 1100 (fun z _ => by split <;> simp) (fun z l' _ hl' => by
    have i1 := in_db d1 ((p.1, z) : Pr) (p := (p.1, z) ∈ V.b) (m1 _).symm
    have i0 := in_db d0 ((p.2, z) : Pr) (p := (p.2, z) ∈ V.a) (m0 _).symm
    rw [td_pd] at i1 i0
    unfold pd at i1 i0
    simp only at i1 i0
    have hlt : l'.length < 16777216 := by omega
    cases e1 : decide ((p.1, z) ∈ V.b) with
    | false =>
      rw [e1] at i1
      refine ⟨[some (V.d, 0), some (.list [.dict k0, .dict k1, .dict k2], 1), some (.list (l'), 1), some (.int p.1, 0), some (.int p.2, 0), some (.int z, 0), none, none], by simp [b_widest_2, i1], ?_⟩
      simp [cnd, e1]
    | true =>
      rw [e1] at i1
      cases e0 : decide ((p.2, z) ∈ V.a) with
      | false =>
        rw [e0] at i0
        refine ⟨[some (V.d, 0), some (.list [.dict k0, .dict k1, .dict k2], 1), some (.list (l'), 1), some (.int p.1, 0), some (.int p.2, 0), some (.int z, 0), none, none], by simp [b_widest_2, i1, i0], ?_⟩
        simp [cnd, e1, e0]
      | true =>
        rw [e0] at i0
        refine ⟨[some (V.d, 0), some (.list [.dict k0, .dict k1, .dict k2], 1), some (.list (l' ++ [cu (p.1, p.2, z)]), 1), some (.int p.1, 0), some (.int p.2, 0), some (.int z, 0), none, none], by simp [b_widest_2, i1, i0, hlt, cu], ?_⟩
        simp [cnd, e1, e0, cu]) l (by show l.length + 1 * 8 ≤ 1100; omega)
  rw [key]
  have : ∀ zs : List Int, (zs.map fun z => if cnd V p z then [cu (p.1, p.2, z)] else []).flatten = (zs.filter (cnd V p)).map fun z => cu (p.1, p.2, z) := fun zs => by
    induction zs with
    | nil => rfl
    | cons z zs ih =>
      rw [List.map_cons, List.flatten_cons, ih, List.filter_cons]
      cases cnd V p z <;> simp
  rw [this]
theorem wide_p (k : Nat) (V : Vw) (h : VOK V) (ds : List D) (hk : Kn V ds) : evS (C k) (.for (.t (.cons (.n 3) (.cons (.n 4) .nil))) (.e (.op .ix (.cons (.v 0) (.cons (.c (.int 2)) .nil)))) b_widest_1 [3, 4, 5]) [some (V.d, 0), some (.list ds, 1), some (.list [], 1), none, none, none, none, none] = .nx [some (V.d, 0), some (.list ds, 1), some (.list ((wdP V).map cu), 1), none, none, none, none, none] := by
  have hr : evI (C k) (.e (.op .ix (.cons (.v 0) (.cons (.c (.int 2)) .nil)))) false [some (V.d, 0), some (.list ds, 1), some (.list [], 1), none, none, none, none, none] = .ok (V.c.map pd) := by
    have := vw_ix V (i := 2) (by decide) (by decide)
    simp [this, Vw.at]
  simp only [evS]
  rw [hr, toF_ok]
  have hlen := h.len 2
  have hlen' : V.c.length ≤ 64 := hlen
  have key := forL_app (step := fun d ρ => toF ρ (Tg.bind (.t (.cons (.n 3) (.cons (.n 4) .nil))) d ρ) fun ρ' => evSs (C k) b_widest_1 ρ') (w := [3, 4, 5]) (g := pd) (env := fun l => [some (V.d, 0), some (.list ds, 1), some (.list l, 1), none, none, none, none, none]) (f := fun p => (r8.filter (cnd V p)).map fun z => cu (p.1, p.2, z)) V.c (fun _ => rfl) (fun _ => True) (fun _ _ => trivial) 8 900 (fun p _ => by
      rw [List.length_map]
      exact List.length_filter_le _ r8) (fun p l' _ hl' => by
    refine ⟨[some (V.d, 0), some (.list ds, 1), some (.list (l' ++ ((r8.filter (cnd V p)).map fun z => cu (p.1, p.2, z))), 1), some (.int p.1, 0), some (.int p.2, 0), none, none, none], ?_, rfl⟩
    have eb : Tg.bind (.t (.cons (.n 3) (.cons (.n 4) .nil))) (pd p) [some (V.d, 0), some (.list ds, 1), some (.list l', 1), none, none, none, none, none] = .ok [some (V.d, 0), some (.list ds, 1), some (.list l', 1), some (.int p.1, 0), some (.int p.2, 0), none, none, none] := by simp [pd]
    rw [eb, toF_ok]
    simp only [b_widest_1]
    rw [ss_nx (wide_z k V ds hk p l' (by omega)), ss_nil]) [] (by rw [List.length_nil]; omega)
  rw [key]
  have : ∀ ps : List Pr, (ps.map fun p => (r8.filter (cnd V p)).map fun z => cu (p.1, p.2, z)).flatten = (ps.flatMap fun p => (r8.map fun z => (p.1, p.2, z)).filter fun c => decide (pj 1 c ∈ V.b) && decide (pj 0 c ∈ V.a)).map cu := fun ps => by
    induction ps with
    | nil => rfl
    | cons p ps ih =>
      rw [List.map_cons, List.flatten_cons, ih, List.flatMap_cons, List.map_append]
      congr 1
      rw [List.filter_map, List.map_map]
      rfl
  rw [this]
  rfl
theorem widest (k : Nat) (V : Vw) (h : VOK V) : callF tab (k+1) f_widest [V.d] = .ok (.tuple ((wd V).map cu), false) := by
  rw [at_widest]
  refine run_ok rfl ?_ (fun _ h => by simp at h) (fun _ => by simp [imm])
  obtain ⟨ds, e1, hk⟩ := known k V h none none none none none
  show evSs _ i_widest.body [some (V.d, 0), none, none, none, none, none, none, none] = _
  simp only [i_widest]
  rw [ss_nx (ρ' := [some (V.d, 0), some (.list ds, 1), none, none, none, none, none, none]) (by simp [e1])]
  rw [ss_nx (ρ' := [some (V.d, 0), some (.list ds, 1), some (.list [], 1), none, none, none, none, none]) (by simp)]
  rw [ss_nx (wide_p k V h ds hk)]
  simp [wdP_eq h]
def uns (V : Vw) (S : List Cube) (i : Int) : Option Pr := (V.at i).find? fun p => !decide (p ∈ S.map (pj i))
def bar (V : Vw) (S : List Cube) : Option (Int × Pr) := ([0, 1, 2] : List Int).findSome? fun i => (uns V S i).map fun p => (i, p)
theorem unseen_p (k : Nat) (V : Vw) (s : Sl) (i : Int) (h0 : 0 ≤ i) (h2 : i ≤ 2) (S : List Cube) (kvs : List (D × D)) (ks : List Pr) (hk : DK kvs ks) (hm : ∀ p, p ∈ ks ↔ p ∈ S.map (pj i)) : evS (C k) (.for (.n 4) (.e (.op .ix (.cons (.v 0) (.cons (.v 2) .nil)))) b_first_unseen_2 [4]) [some (V.d, 0), s, some (.int i, 0), some (.dict kvs, 1), none] = match uns V S i with
    | none => .nx [some (V.d, 0), s, some (.int i, 0), some (.dict kvs, 1), none]
    | some p => .rt (.tuple [.int i, pd p]) false := by
  have hr : evI (C k) (.e (.op .ix (.cons (.v 0) (.cons (.v 2) .nil)))) false [some (V.d, 0), s, some (.int i, 0), some (.dict kvs, 1), none] = .ok ((V.at i).map pd) := by
    have := vw_ix V h0 h2
    simp [this]
  simp only [evS]
  rw [hr, toF_ok]
  rw [forL_find (by rfl) (fun p => if !decide (p ∈ S.map (pj i)) then some (.tuple [.int i, pd p], false) else none) (V.at i) (fun p _ => ?_), find_some]
  · unfold uns
    cases (V.at i).find? _ <;> rfl
  · have n1 := nin_db hk p (p := p ∈ S.map (pj i)) (hm _).symm
    rw [td_pd] at n1
    have hp : isMut (pd p) = false := rfl
    cases e : decide (p ∈ S.map (pj i)) with
    | true =>
      rw [e] at n1
      rw [Bool.not_true, if_neg Bool.false_ne_true]
      exact ⟨[some (V.d, 0), s, some (.int i, 0), some (.dict kvs, 1), some (pd p, 0)], by simp [b_first_unseen_2, n1], by simp⟩
    | false =>
      rw [e] at n1
      rw [Bool.not_false, if_pos rfl]
      simp [b_first_unseen_2, n1]
theorem first_unseen (k : Nat) (V : Vw) (S : List Cube) (hl : S.length ≤ 600) : callF tab (k+3) f_first_unseen [V.d, .tuple (S.map cu)] = .ok (match bar V S with
    | none => .none
    | some p => .tuple [.int p.1, pd p.2], false) := by
  rw [at_first_unseen]
  have hloop : evS (C (k+2)) (.for (.n 2) (.e (.g 2)) b_first_unseen_1 [2, 3, 4]) [some (V.d, 0), some (.tuple (S.map cu), 0), none, none, none] = match bar V S with
    | none => .nx [some (V.d, 0), some (.tuple (S.map cu), 0), none, none, none]
    | some p => .rt (.tuple [.int p.1, pd p.2]) false := by
    simp only [evS]
    rw [show evI (C (k+2)) (.e (.g 2)) false [some (V.d, 0), some (.tuple (S.map cu), 0), none, none, none] = .ok (([0, 1, 2] : List Int).map .int) by simp, toF_ok]
    rw [forL_find (by rfl) (fun i => (uns V S i).map fun p => (.tuple [.int i, pd p], false)) [0, 1, 2] (fun i hi => ?_)]
    · unfold bar
      rw [show (fun i => (uns V S i).map fun p => (PyData.tuple [.int i, pd p], false)) = fun i => ((uns V S i).map fun p => (i, p)).map fun q : Int × Pr => (PyData.tuple [.int q.1, pd q.2], false) from funext fun i => by rw [Option.map_map]; rfl]
      have : ∀ xs : List Int, (xs.findSome? fun i => ((uns V S i).map fun p => (i, p)).map fun q : Int × Pr => (PyData.tuple [.int q.1, pd q.2], false)) = (xs.findSome? fun i => (uns V S i).map fun p => (i, p)).map fun q : Int × Pr => (PyData.tuple [.int q.1, pd q.2], false) := fun xs => by
        induction xs with
        | nil => rfl
        | cons x xs ih =>
          rw [List.findSome?_cons, List.findSome?_cons]
          cases uns V S x with
          | none => exact ih
          | some p => rfl
      rw [this]
      cases ([0, 1, 2] : List Int).findSome? _ <;> rfl
    · obtain ⟨h0, h2⟩ := ax_cases hi
      obtain ⟨kvs, ks, e1, e2, e3⟩ := by_pairsD k S hl h0 h2
      have hu := unseen_p (k+2) V (some (.tuple (S.map cu), 0)) i h0 h2 S kvs ks e2 e3
      have st : evSs (C (k+2)) b_first_unseen_1 [some (V.d, 0), some (.tuple (S.map cu), 0), some (.int i, 0), none, none] = match uns V S i with
        | none => .nx [some (V.d, 0), some (.tuple (S.map cu), 0), some (.int i, 0), some (.dict kvs, 1), none]
        | some p => .rt (.tuple [.int i, pd p]) false := by
        simp only [b_first_unseen_1]
        rw [ss_nx (ρ' := [some (V.d, 0), some (.tuple (S.map cu), 0), some (.int i, 0), some (.dict kvs, 1), none]) (by simp [e1] <;> rfl), ss_cons, hu]
        cases uns V S i <;> simp
      simp only [bind_n, toF_ok, put_succ, put_zero, st]
      cases uns V S i with
      | none => exact ⟨_, rfl, by simp⟩
      | some p => rfl
  cases hb : bar V S with
  | none =>
    rw [hb] at hloop
    refine run_ok rfl ?_ (fun _ => id) (fun _ => rfl)
    show evSs _ i_first_unseen.body [some (V.d, 0), some (.tuple (S.map cu), 0), none, none, none] = _
    simp only [i_first_unseen]
    rw [ss_nx hloop]
    simp
  | some p =>
    rw [hb] at hloop
    refine run_ok rfl ?_ (fun _ => id) (fun _ => rfl)
    show evSs _ i_first_unseen.body [some (V.d, 0), some (.tuple (S.map cu), 0), none, none, none] = _
    simp only [i_first_unseen]
    rw [ss_rt hloop]
theorem isN_ (x : D) : sem .isN [x, .none] = .ok (.bool (isNone x)) := by
  simp only [sem, sIsN]; cases isNone x <;> rfl
theorem isNN_ (x : D) : sem .isNN [x, .none] = .ok (.bool (!isNone x)) := by
  simp only [sem, sIsN]; cases isNone x <;> rfl
theorem greatest_bar (k : Nat) (V : Vw) (h : VOK V) (p : Int × Pr) (hb : bar V (wd V) = some p) : callF tab (k+4) f_u_greatest [V.d] = .ok (.tuple [.none, .tuple [.int p.1, pd p.2]], false) := by
  have hw := widest (k+2) V h
  have hf := first_unseen k V (wd V) (Nat.le_trans (wd_len V) (by omega))
  rw [hb] at hf
  rw [at_u_greatest]
  refine run_ok rfl ?_ (fun _ => id) (fun _ => rfl)
  show evSs _ i_u_greatest.body [some (V.d, 0), none, none] = _
  simp only [i_u_greatest]
  rw [ss_nx (ρ' := [some (V.d, 0), some (.tuple ((wd V).map cu), 0), none]) (by simp [hw])]
  rw [ss_nx (ρ' := [some (V.d, 0), some (.tuple ((wd V).map cu), 0), some (.tuple [.int p.1, pd p.2], 0)]) (by
    rw [st_asg, ev_call, ev_cons, ev_cons, ev_nil, ev_v _ _ _ (d := V.d) rfl, ev_v _ _ _ (d := .tuple ((wd V).map cu)) rfl]
    simp only [ok_bind, c_call, hf, toF_ok]
    rfl)]
  simp [isNN_, isNone, freeze]
theorem greatest_many (k : Nat) (V : Vw) (h : VOK V) (hb : bar V (wd V) = none) (hl : 96 < (wd V).length) : callF tab (k+4) f_u_greatest [V.d] = .exc 2 := by
  have hw := widest (k+2) V h
  have hf := first_unseen k V (wd V) (Nat.le_trans (wd_len V) (by omega))
  rw [hb] at hf
  rw [at_u_greatest]
  unfold Q.run
  rw [if_pos (show [V.d].length = i_u_greatest.np from rfl)]
  have : evSs (C (k+3)) i_u_greatest.body (entry i_u_greatest.ns [V.d]) = .ex 2 [some (V.d, 0), some (.tuple ((wd V).map cu), 0), some (.none, 0)] := by
    show evSs _ i_u_greatest.body [some (V.d, 0), none, none] = _
    simp only [i_u_greatest]
    rw [ss_nx (ρ' := [some (V.d, 0), some (.tuple ((wd V).map cu), 0), none]) (by simp [hw])]
    rw [ss_nx (ρ' := [some (V.d, 0), some (.tuple ((wd V).map cu), 0), some (.none, 0)]) (by
      rw [st_asg, ev_call, ev_cons, ev_cons, ev_nil, ev_v _ _ _ (d := V.d) rfl, ev_v _ _ _ (d := .tuple ((wd V).map cu)) rfl]
      simp only [ok_bind, c_call, hf, toF_ok]
      rfl)]
    have hl' : (96 : Int) < ((wd V).length : Int) := by omega
    simp [isNN_, isNone, hl']
  rw [this]
theorem greatest_ok (k : Nat) (V : Vw) (h : VOK V) (hb : bar V (wd V) = none) (hl : (wd V).length ≤ 96) : callF tab (k+4) f_u_greatest [V.d] = .ok (.tuple [.tuple ((wd V).map cu), .none], false) := by
  have hw := widest (k+2) V h
  have hf := first_unseen k V (wd V) (Nat.le_trans (wd_len V) (by omega))
  rw [hb] at hf
  rw [at_u_greatest]
  refine run_ok rfl ?_ (fun _ => id) (fun _ => by simp [imm, immAll])
  show evSs _ i_u_greatest.body [some (V.d, 0), none, none] = _
  simp only [i_u_greatest]
  rw [ss_nx (ρ' := [some (V.d, 0), some (.tuple ((wd V).map cu), 0), none]) (by simp [hw])]
  rw [ss_nx (ρ' := [some (V.d, 0), some (.tuple ((wd V).map cu), 0), some (.none, 0)]) (by
    rw [st_asg, ev_call, ev_cons, ev_cons, ev_nil, ev_v _ _ _ (d := V.d) rfl, ev_v _ _ _ (d := .tuple ((wd V).map cu)) rfl]
    simp only [ok_bind, c_call, hf, toF_ok]
    rfl)]
  have hl' : ¬ (96 : Int) < ((wd V).length : Int) := by omega
  simp [isNN_, isNone, hl', freeze]
def barD (p : Int × Pr) : D := .tuple [.str "none", .int p.1, pd p.2]
def solD (V : Vw) : D := .tuple [.str "solid", .tuple ((wd V).map cu)]
def manyD : D := .tuple [.str "many"]
theorem with_bar (k : Nat) (V : Vw) (h : VOK V) (p : Int × Pr) (hb : bar V (wd V) = some p) : callF tab (k+6) f_greatest_with [V.d] = .ok (barD p, false) := by
  rw [at_greatest_with]
  refine run_ok rfl ?_ (fun h => by cases h) (fun h => by cases h)
  simp [i_greatest_with, check_views k V h, greatest_bar (k+1) V h p hb, isN_, isNone, barD]
theorem with_many (k : Nat) (V : Vw) (h : VOK V) (hb : bar V (wd V) = none) (hl : 96 < (wd V).length) : callF tab (k+6) f_greatest_with [V.d] = .exc 2 := by
  rw [at_greatest_with]
  unfold Q.run
  simp [i_greatest_with, check_views k V h, greatest_many (k+1) V h hb hl]
theorem with_ok (k : Nat) (V : Vw) (h : VOK V) (hb : bar V (wd V) = none) (hl : (wd V).length ≤ 96) : callF tab (k+6) f_greatest_with [V.d] = .ok (solD V, false) := by
  rw [at_greatest_with]
  refine run_ok rfl ?_ (fun h => by cases h) (fun h => by cases h)
  simp [i_greatest_with, check_views k V h, greatest_ok (k+1) V h hb hl, isN_, isNone, solD]
end Law
set_option linter.all false
set_option maxRecDepth 100000
namespace Law
open PySem Q
theorem cubes_step (k : Nat) (dr : List Int) (hd : 25 ≤ dr.length) (many s : Int) (hs : 1 ≤ s) (S : List Cube) (hl : S.length ≤ 1000) (j : Int) (h0 : 0 ≤ j) (h1 : j < 1000) : ∃ c v, inS s c ∧ evSs (C k) b_u_law_cubes_1 [some (.list (dr.map .int), 0), some (.int many, 0), some (.int s, 0), some (.list (S.map cu), 1), some (.int j, 0), none, none] = .nx [some (.list (dr.map .int), 0), some (.int many, 0), some (.int s, 0), some (.list ((if c ∈ S then S else S ++ [c]).map cu), 1), some (.int j, 0), some (.int v, 0), some (cu c, 0)] := by
  have hi := it_int (l := dr) (i := 1 + j % 20) (by omega) (by omega)
  have e20 : sem .mod [.int j, .int 20] = .ok (.int (j % 20)) := s_mod (by decide)
  have d20 : sem .fdiv [.int j, .int 20] = .ok (.int (j / 20)) := s_fdiv (by decide) (by decide)
  have dv : ∀ n, sem .fdiv [.int n, .int (1 + j / 20)] = .ok (.int (n / (1 + j / 20))) := fun n => s_fdiv (by omega) (by omega)
  generalize dr.getD (1 + j % 20).toNat 0 / (1 + j / 20) = v at *
  have key : ∀ v : Int, inS s (v % s, v / 11 % s, v / 131 % s) := fun v => ⟨⟨Int.emod_nonneg _ (by omega), Int.emod_lt_of_pos _ (by omega)⟩, ⟨Int.emod_nonneg _ (by omega), Int.emod_lt_of_pos _ (by omega)⟩, ⟨Int.emod_nonneg _ (by omega), Int.emod_lt_of_pos _ (by omega)⟩⟩
  generalize hv : dr.getD (1 + j % 20).toNat 0 / (1 + j / 20) = v'
  refine ⟨(v' % s, v' / 11 % s, v' / 131 % s), v', key v', ?_⟩
  have ms : ∀ n, sem .mod [.int n, .int s] = .ok (.int (n % s)) := fun n => s_mod (by omega)
  have d11 : sem .fdiv [.int v', .int 11] = .ok (.int (v' / 11)) := s_fdiv (by decide) (by decide)
  have d131 : sem .fdiv [.int v', .int 131] = .ok (.int (v' / 131)) := s_fdiv (by decide) (by decide)
  have dv' := dv (dr.getD (1 + j % 20).toNat 0)
  rw [hv] at dv'
  simp only [b_u_law_cubes_1]
  rw [ss_nx (ρ' := [some (.list (dr.map .int), 0), some (.int many, 0), some (.int s, 0), some (.list (S.map cu), 1), some (.int j, 0), some (.int v', 0), none]) (by
    rw [List.getD_eq_getElem?_getD] at hi dv'
    simp [e20, d20, hi, dv'])]
  rw [ss_nx (ρ' := [some (.list (dr.map .int), 0), some (.int many, 0), some (.int s, 0), some (.list (S.map cu), 1), some (.int j, 0), some (.int v', 0), some (cu (v' % s, v' / 11 % s, v' / 131 % s), 0)]) (by simp [ms, d11, d131, cu])]
  generalize (v' % s, v' / 11 % s, v' / 131 % s) = c
  have hn := nin_lb c S (p := c ∈ S) Iff.rfl
  rw [td_cu, ← map_cu] at hn
  have hl' : S.length < 16777216 := by omega
  by_cases hc : c ∈ S
  · rw [decide_eq_true hc] at hn
    simp [hn, hc]
  · rw [decide_eq_false hc] at hn
    simp [hn, hc, hl']
theorem law_cubes (k : Nat) (dr : List Int) (hd : 25 ≤ dr.length) (many : Nat) (hm : many ≤ 100) (s : Int) (hs : 1 ≤ s) : ∃ T : List Cube, callF tab (k+1) f_u_law_cubes [.list (dr.map .int), .int many, .int s] = .ok (.tuple (T.map cu), false) ∧ SrtA T ∧ (∀ c ∈ T, inS s c) ∧ T.length ≤ many := by
  rw [at_u_law_cubes]
  have hi := it_int (l := dr) (i := 0) (by decide) (by omega)
  generalize hd0 : dr.getD (0 : Int).toNat 0 = d0 at hi
  have hmod : sem .mod [.int d0, .int ((many : Int) + 1)] = .ok (.int (d0 % ((many : Int) + 1))) := s_mod (by omega)
  have hnn : 0 ≤ d0 % ((many : Int) + 1) := Int.emod_nonneg _ (by omega)
  have hlt : d0 % ((many : Int) + 1) < (many : Int) + 1 := Int.emod_lt_of_pos _ (by omega)
  generalize hn : (d0 % ((many : Int) + 1)).toNat = n
  have hn' : d0 % ((many : Int) + 1) = (n : Int) := by omega
  have hr : rangeD [.int (n : Int)] = .ok ((rngI 0 n).map .int) := by
    simp only [rangeD]
    rw [if_pos (small_ok (by omega) (by omega)), Int.toNat_natCast, rngL_eq]
  obtain ⟨r, hr2, S, e1, e2, e3, e4⟩ := ev_for (c := C k) (tg := .n 4) (it := .rng (.cons (.op .mod (.cons (.op .int (.cons (.op .ix (.cons (.v 0) (.cons (.c (.int 0)) .nil))) .nil)) (.cons (.op .add (.cons (.v 1) (.cons (.c (.int 1)) .nil))) .nil))) .nil)) (body := b_u_law_cubes_1) (w := [4, 5, 6]) (ρ := [some (.list (dr.map .int), 0), some (.int many, 0), some (.int s, 0), some (.list [], 1), none, none, none]) (xs := (rngI 0 n).map .int)
    (fun m ρ => ∃ S : List Cube, ρ = [some (.list (dr.map .int), 0), some (.int many, 0), some (.int s, 0), some (.list (S.map cu), 1), none, none, none] ∧ S.Nodup ∧ (∀ c ∈ S, inS s c) ∧ S.length ≤ m)
    (by simp [hi, hmod, hn', hr]) ⟨[], by simp, by simp, by simp, by simp⟩ (fun m d ρ hd' hI => by
      obtain ⟨S, rfl, f1, f2, f3⟩ := hI
      obtain ⟨j, rfl, j0, j1⟩ := rng_at hd'
      have hmn : m < n := by
        rcases Nat.lt_or_ge m n with h | h
        · exact h
        · rw [List.getElem?_eq_none (by rw [List.length_map, rngI_len]; exact h)] at hd'; cases hd'
      obtain ⟨c, v, g1, g2⟩ := cubes_step k dr hd many s hs S (by omega) j j0 (by omega)
      refine ⟨[some (.list (dr.map .int), 0), some (.int many, 0), some (.int s, 0), some (.list (S.map cu), 1), some (.int j, 0), none, none], _, by simp, .inl g2, if c ∈ S then S else S ++ [c], by simp, ?_, ?_, ?_⟩
      · split
        · exact f1
        · rename_i hc
          rw [List.nodup_append]
          exact ⟨f1, by simp, fun a ha b hb => by rw [List.mem_singleton.mp hb]; exact fun e => hc (e ▸ ha)⟩
      · split
        · exact f2
        · intro x hx
          rcases List.mem_append.mp hx with hx | hx
          · exact f2 x hx
          · rw [List.mem_singleton.mp hx]; exact g1
      · split
        · omega
        · simp; omega)
  refine ⟨isort leA S, ?_, isortA_srt e2, fun c hc => e3 c (isort_mem.mp hc), ?_⟩
  · refine run_ok rfl ?_ (fun _ h => by simp at h) (fun _ => by simp [imm])
    show evSs _ i_u_law_cubes.body [some (.list (dr.map .int), 0), some (.int many, 0), some (.int s, 0), none, none, none, none] = _
    simp only [i_u_law_cubes]
    rw [ss_nx (ρ' := [some (.list (dr.map .int), 0), some (.int many, 0), some (.int s, 0), some (.list [], 1), none, none, none]) (by simp)]
    rw [ss_nx (hr2.trans (by rw [e1]))]
    have hsrt := sort_td ne_cu (S := S)
    rw [← map_cu, ← map_cu] at hsrt
    simp only [ss_cons, st_ret, er_op, ev_op, ev_cons, ev_nil, kp_tuple, kp_sorted, Bool.not_false]
    rw [ev_v1 _ _ (d := .list (S.map cu)) rfl]
    simp only [ok_bind, hsrt]
    rfl
  · rw [isort_len]
    rw [List.length_map, rngI_len] at e4
    omega
theorem pairs_in (k : Nat) (c : Cube) {i : Int} (h0 : 0 ≤ i) (h2 : i ≤ 2) (X : Sl) : evE (C k) c_u_law_pairs_2 true [X, some (.int i, 0), some (cu c, 0), none] = .ok (.list [.int (pj i c).1, .int (pj i c).2]) := by
  unfold c_u_law_pairs_2
  rw [ev_comp_def, show evI (C k) (.rng (.cons (.c (.int 3)) .nil)) true [X, some (.int i, 0), some (cu c, 0), none] = .ok [.int 0, .int 1, .int 2] by simp [rangeD, small, rngL]]
  rcases ax3 h0 h2 with rfl | rfl | rfl <;> simp [compM, cu, pj]
theorem law_pairs (k : Nat) (S : List Cube) (hl : S.length ≤ 600) {i : Int} (h0 : 0 ≤ i) (h2 : i ≤ 2) : callF tab (k+1) f_u_law_pairs [.tuple (S.map cu), .int i] = .ok (.list ((S.map (pj i)).map pd), true) := by
  rw [at_u_law_pairs]
  refine run_ok rfl ?_ (fun _ _ => rfl) (fun _ => by simp only [immIn, map_pd, immAll_td]; rfl)
  have hc : evE (C k) c_u_law_pairs_1 false [some (.tuple (S.map cu), 0), some (.int i, 0), none, none] = .ok (.list ((S.map (pj i)).map pd)) := by
    unfold c_u_law_pairs_1
    rw [ev_comp (xs := S) (g := cu) (h := fun c => some (pd (pj i c)))]
    · rw [filterMap_some, List.map_map]; rfl
    · simp
    · intro c _
      have := pairs_in k c h0 h2 (some (.tuple (S.map cu), 0))
      simp [this]
      rfl
    · simp; omega
  simp [i_u_law_pairs, hc]
theorem law_views (k : Nat) (S : List Cube) (hl : S.length < 64) (hs : ∀ c ∈ S, inS 8 c) : callF tab (k+2) f_u_law_views [.tuple (S.map cu)] = .ok ((vwOf S).d, false) := by
  rw [at_u_law_views]
  refine run_ok rfl ?_ (fun _ => id) (fun _ => by rw [imm_vw]; rfl)
  have hc : ∀ m, evE (C (k+1)) c_u_law_views_1 m [some (.tuple (S.map cu), 0), none] = .ok (.list (([0, 1, 2] : List Int).map fun i => .tuple (((vwOf S).at i).map pd))) := fun m => by
    unfold c_u_law_views_1
    rw [ev_comp (xs := ([0, 1, 2] : List Int)) (g := fun i => .int i) (h := fun i => some (.tuple (((vwOf S).at i).map pd)))]
    · rw [filterMap_some]
    · simp [rangeD, small, rngL]
    · intro i hi
      obtain ⟨h0, h2⟩ := ax_cases hi
      have e1 := law_pairs k S (by omega) h0 h2
      have e4 := (sset_td (d := 2) ne_pd (S := S.map (pj i)) (by simpa using hl) (by decide) (fun x hx => by
        obtain ⟨c, hc, rfl⟩ := List.mem_map.mp hx
        have := hs c hc
        unfold inS at this
        refine ⟨rfl, fun n hn => ?_⟩
        have hn' : n ∈ [(pj i c).1, (pj i c).2] := hn
        simp only [List.mem_cons, List.not_mem_nil, or_false] at hn'
        rcases ax3 h0 h2 with rfl | rfl | rfl <;> simp [pj] at hn' <;> omega) (srtOf_srt (S.map (pj i))) fun x => srtOf_mem).1
      rw [vwOf_at S h0 h2, map_pd]
      rw [map_pd] at e1
      simp [e1, e4, -List.map_map]
    · simp
  simp [i_u_law_views, hc, mut_vw]
  rfl
theorem wide_c (k : Nat) (V : Vw) (l : List D) (x y : Int) (m : Bool) : evE (C k) c_u_law_widest_1 m [some (V.d, 0), some (.list l, 1), some (.int x, 0), some (.int y, 0), none] = .ok (.list ((r8.filter fun z => hit V (x, y, z)).map fun z => cu (x, y, z))) := by
  unfold c_u_law_widest_1
  rw [ev_comp (xs := r8) (g := fun n : Int => .int n) (h := fun z => if hit V (x, y, z) then some (cu (x, y, z)) else none)]
  · have : ∀ zs : List Int, (zs.filterMap fun z => if hit V (x, y, z) then some (cu (x, y, z)) else none) = (zs.filter fun z => hit V (x, y, z)).map fun z => cu (x, y, z) := fun zs => by
      induction zs with
      | nil => rfl
      | cons z zs ih =>
        rw [List.filterMap_cons, List.filter_cons]
        cases hit V (x, y, z) <;> simp [ih]
    rw [this]
  · simp [rangeD, small, rngL, r8]
  · intro z _
    have x0 := vw_ix V (i := 0) (by decide) (by decide)
    have x1 := vw_ix V (i := 1) (by decide) (by decide)
    have x2 := vw_ix V (i := 2) (by decide) (by decide)
    have n0 := in_tb ((y, z) : Pr) V.a (p := pj 0 (x, y, z) ∈ V.a) Iff.rfl
    have n1 := in_tb ((x, z) : Pr) V.b (p := pj 1 (x, y, z) ∈ V.b) Iff.rfl
    have n2 := in_tb ((x, y) : Pr) V.c (p := pj 2 (x, y, z) ∈ V.c) Iff.rfl
    rw [td_pd, ← map_pd] at n0 n1 n2
    rw [show pd (y, z) = .tuple [.int y, .int z] from rfl] at n0
    rw [show pd (x, z) = .tuple [.int x, .int z] from rfl] at n1
    rw [show pd (x, y) = .tuple [.int x, .int y] from rfl] at n2
    simp only [Vw.at] at x0 x1 x2
    simp only [show ((0 : Int) = 0) = True by simp, show ((1 : Int) = 0) = False by simp, show ((1 : Int) = 1) = True by simp, show ((2 : Int) = 0) = False by simp, show ((2 : Int) = 1) = False by simp, if_true, if_false] at x0 x1 x2
    unfold hit
    generalize V.a.map pd = A at *
    generalize V.b.map pd = B at *
    generalize V.c.map pd = C' at *
    generalize decide (pj 0 (x, y, z) ∈ V.a) = b0 at *
    generalize decide (pj 1 (x, y, z) ∈ V.b) = b1 at *
    generalize decide (pj 2 (x, y, z) ∈ V.c) = b2 at *
    cases b0 <;> cases b1 <;> cases b2 <;> simp [x0, x1, x2, pd, n0, n1, n2, cu]
  · decide
theorem wide_y (k : Nat) (V : Vw) (x : Int) (l : List D) (hl : l.length ≤ 1000) : evS (C k) (.for (.n 3) (.rng (.cons (.c (.int 8)) .nil)) b_u_law_widest_2 [3]) [some (V.d, 0), some (.list l, 1), some (.int x, 0), none, none] = .nx [some (V.d, 0), some (.list (l ++ ((r8.flatMap fun y => r8.map fun z => (x, y, z)).filter (hit V)).map cu), 1), some (.int x, 0), none, none] := by
  simp only [evS]
  rw [show evI (C k) (.rng (.cons (.c (.int 8)) .nil)) false [some (V.d, 0), some (.list l, 1), some (.int x, 0), none, none] = .ok (r8.map .int) by simp [rangeD, small, rngL, r8], toF_ok]
  have key := forL_app (step := fun d ρ => toF ρ (Tg.bind (.n 3) d ρ) fun ρ' => evSs (C k) b_u_law_widest_2 ρ') (w := [3]) (g := PyData.int) (env := fun l => [some (V.d, 0), some (.list l, 1), some (.int x, 0), none, none]) (f := fun y => (r8.filter fun z => hit V (x, y, z)).map fun z => cu (x, y, z)) r8 (fun _ => rfl) (fun _ => True) (fun _ _ => trivial) 8 1100 (fun y _ => by
      rw [List.length_map]
      exact List.length_filter_le _ r8) (fun y l' _ hl' => by
    refine ⟨[some (V.d, 0), some (.list (l' ++ (r8.filter fun z => hit V (x, y, z)).map fun z => cu (x, y, z)), 1), some (.int x, 0), some (.int y, 0), none], ?_, rfl⟩
    have hc := wide_c k V l' x y true
    have hlen : ((r8.filter fun z => hit V (x, y, z)).map fun z => cu (x, y, z)).length ≤ 8 := by
      rw [List.length_map]
      exact List.length_filter_le _ r8
    generalize ((r8.filter fun z => hit V (x, y, z)).map fun z => cu (x, y, z)) = L at *
    simp only [bind_n, toF_ok, put_succ, put_zero, b_u_law_widest_2]
    have hL : l'.length + L.length ≤ 16777216 := by omega
    simp [hc, hL]) l (by show l.length + 8 * 8 ≤ 1100; omega)
  rw [key]
  have : ∀ ys : List Int, (ys.map fun y => (r8.filter fun z => hit V (x, y, z)).map fun z => cu (x, y, z)).flatten = ((ys.flatMap fun y => r8.map fun z => (x, y, z)).filter (hit V)).map cu := fun ys => by
    induction ys with
    | nil => rfl
    | cons y ys ih =>
      rw [List.map_cons, List.flatten_cons, ih, List.flatMap_cons, List.filter_append, List.map_append]
      congr 1
      rw [List.filter_map, List.map_map]
      rfl
  rw [this]
theorem wide_x (k : Nat) (V : Vw) : evS (C k) (.for (.n 2) (.rng (.cons (.c (.int 8)) .nil)) b_u_law_widest_1 [2, 3]) [some (V.d, 0), some (.list [], 1), none, none, none] = .nx [some (V.d, 0), some (.list ((wd V).map cu), 1), none, none, none] := by
  simp only [evS]
  rw [show evI (C k) (.rng (.cons (.c (.int 8)) .nil)) false [some (V.d, 0), some (.list [], 1), none, none, none] = .ok (r8.map .int) by simp [rangeD, small, rngL, r8], toF_ok]
  have key := forL_app (step := fun d ρ => toF ρ (Tg.bind (.n 2) d ρ) fun ρ' => evSs (C k) b_u_law_widest_1 ρ') (w := [2, 3]) (g := PyData.int) (env := fun l => [some (V.d, 0), some (.list l, 1), none, none, none]) (f := fun x => ((r8.flatMap fun y => r8.map fun z => (x, y, z)).filter (hit V)).map cu) r8 (fun _ => rfl) (fun _ => True) (fun _ _ => trivial) 64 900 (fun x _ => by
      rw [List.length_map]
      exact List.length_filter_le _ (r8.flatMap fun y => r8.map fun z => (x, y, z))) (fun x l' _ hl' => by
    refine ⟨[some (V.d, 0), some (.list (l' ++ ((r8.flatMap fun y => r8.map fun z => (x, y, z)).filter (hit V)).map cu), 1), some (.int x, 0), none, none], ?_, rfl⟩
    simp only [bind_n, toF_ok, put_succ, put_zero, b_u_law_widest_1]
    rw [ss_nx (wide_y k V x l' (by omega)), ss_nil]) [] (by decide)
  rw [key]
  have : ∀ xs : List Int, (xs.map fun x => ((r8.flatMap fun y => r8.map fun z => (x, y, z)).filter (hit V)).map cu).flatten = ((xs.flatMap fun x => r8.flatMap fun y => r8.map fun z => (x, y, z)).filter (hit V)).map cu := fun xs => by
    induction xs with
    | nil => rfl
    | cons x xs ih => rw [List.map_cons, List.flatten_cons, ih, List.flatMap_cons, List.filter_append, List.map_append]
  rw [this, List.nil_append]
  rfl
theorem law_widest (k : Nat) (V : Vw) : callF tab (k+1) f_u_law_widest [V.d] = .ok (.tuple ((wd V).map cu), false) := by
  rw [at_u_law_widest]
  refine run_ok rfl ?_ (fun _ h => by simp at h) (fun _ => by simp [imm])
  show evSs _ i_u_law_widest.body [some (V.d, 0), none, none, none, none] = _
  simp only [i_u_law_widest]
  rw [ss_nx (ρ' := [some (V.d, 0), some (.list [], 1), none, none, none]) (by simp)]
  rw [ss_nx (wide_x k V)]
  simp
theorem law_bar (k : Nat) (V : Vw) : callF tab (k+2) f_u_law_bar [V.d] = .ok (match bar V (wd V) with
    | none => .none
    | some p => barD p, false) := by
  rw [at_u_law_bar]
  have hw := law_widest k V
  have hl : (wd V).length ≤ 600 := Nat.le_trans (wd_len V) (by omega)
  generalize wd V = S at *
  have inner : ∀ i : Int, 0 ≤ i → i ≤ 2 → evS (C (k+1)) (.for (.n 4) (.e (.op .ix (.cons (.v 0) (.cons (.v 2) .nil)))) b_u_law_bar_2 [4]) [some (V.d, 0), some (.tuple (S.map cu), 0), some (.int i, 0), some (.list ((S.map (pj i)).map pd), 1), none] = match uns V S i with
    | none => .nx [some (V.d, 0), some (.tuple (S.map cu), 0), some (.int i, 0), some (.list ((S.map (pj i)).map pd), 1), none]
    | some p => .rt (barD (i, p)) false := fun i h0 h2 => by
    have hr : evI (C (k+1)) (.e (.op .ix (.cons (.v 0) (.cons (.v 2) .nil)))) false [some (V.d, 0), some (.tuple (S.map cu), 0), some (.int i, 0), some (.list ((S.map (pj i)).map pd), 1), none] = .ok ((V.at i).map pd) := by
      have := vw_ix V h0 h2
      simp [this]
    simp only [evS]
    rw [hr, toF_ok]
    rw [forL_find (by rfl) (fun p => if !decide (p ∈ S.map (pj i)) then some (barD (i, p), false) else none) (V.at i) (fun p _ => ?_), find_some]
    · unfold uns
      cases (V.at i).find? _ <;> rfl
    · have n1 := nin_lb p (S.map (pj i)) (p := p ∈ S.map (pj i)) Iff.rfl
      rw [td_pd, ← map_pd] at n1
      have hp : isMut (pd p) = false := rfl
      generalize (S.map (pj i)).map pd = L at *
      cases e : decide (p ∈ S.map (pj i)) with
      | true =>
        rw [e] at n1
        rw [Bool.not_true, if_neg Bool.false_ne_true]
        exact ⟨[some (V.d, 0), some (.tuple (S.map cu), 0), some (.int i, 0), some (.list L, 1), some (pd p, 0)], by simp [b_u_law_bar_2, n1], by simp⟩
      | false =>
        rw [e] at n1
        rw [Bool.not_false, if_pos rfl]
        simp [b_u_law_bar_2, n1, barD]
  have hloop : evS (C (k+1)) (.for (.n 2) (.rng (.cons (.c (.int 3)) .nil)) b_u_law_bar_1 [2, 3, 4]) [some (V.d, 0), some (.tuple (S.map cu), 0), none, none, none] = match bar V S with
    | none => .nx [some (V.d, 0), some (.tuple (S.map cu), 0), none, none, none]
    | some p => .rt (barD p) false := by
    simp only [evS]
    rw [show evI (C (k+1)) (.rng (.cons (.c (.int 3)) .nil)) false [some (V.d, 0), some (.tuple (S.map cu), 0), none, none, none] = .ok (([0, 1, 2] : List Int).map .int) by simp [rangeD, small, rngL], toF_ok]
    rw [forL_find (by rfl) (fun i => (uns V S i).map fun p => (barD (i, p), false)) [0, 1, 2] (fun i hi => ?_)]
    · unfold bar
      have : ∀ xs : List Int, (xs.findSome? fun i => (uns V S i).map fun p => (barD (i, p), false)) = (xs.findSome? fun i => (uns V S i).map fun p => (i, p)).map fun q : Int × Pr => (barD q, false) := fun xs => by
        induction xs with
        | nil => rfl
        | cons x xs ih =>
          rw [List.findSome?_cons, List.findSome?_cons]
          cases uns V S x with
          | none => exact ih
          | some p => rfl
      rw [this]
      cases ([0, 1, 2] : List Int).findSome? _ <;> rfl
    · obtain ⟨h0, h2⟩ := ax_cases hi
      have e1 := law_pairs k S hl h0 h2
      have hu := inner i h0 h2
      have st : evSs (C (k+1)) b_u_law_bar_1 [some (V.d, 0), some (.tuple (S.map cu), 0), some (.int i, 0), none, none] = match uns V S i with
        | none => .nx [some (V.d, 0), some (.tuple (S.map cu), 0), some (.int i, 0), some (.list ((S.map (pj i)).map pd), 1), none]
        | some p => .rt (barD (i, p)) false := by
        simp only [b_u_law_bar_1]
        rw [ss_nx (ρ' := [some (V.d, 0), some (.tuple (S.map cu), 0), some (.int i, 0), some (.list ((S.map (pj i)).map pd), 1), none]) (by simp [e1, -List.map_map]), ss_cons, hu]
        cases uns V S i <;> simp
      simp only [bind_n, toF_ok, put_succ, put_zero, st]
      cases uns V S i with
      | none => exact ⟨_, rfl, by simp⟩
      | some p => rfl
  cases hb : bar V S with
  | none =>
    rw [hb] at hloop
    refine run_ok rfl ?_ (fun _ => id) (fun _ => rfl)
    show evSs _ i_u_law_bar.body [some (V.d, 0), none, none, none, none] = _
    simp only [i_u_law_bar]
    rw [ss_nx (ρ' := [some (V.d, 0), some (.tuple (S.map cu), 0), none, none, none]) (by simp [hw]), ss_nx hloop]
    simp
  | some p =>
    rw [hb] at hloop
    refine run_ok rfl ?_ (fun _ => id) (fun _ => rfl)
    show evSs _ i_u_law_bar.body [some (V.d, 0), none, none, none, none] = _
    simp only [i_u_law_bar]
    rw [ss_nx (ρ' := [some (V.d, 0), some (.tuple (S.map cu), 0), none, none, none]) (by simp [hw]), ss_rt hloop]
theorem inP_of {c : Cube} (h : inS 8 c) (i : Int) : inP (pj i c) = true := by
  unfold inS at h
  unfold inP inC pj
  (repeat' split) <;> simp only [Bool.and_eq_true, decide_eq_true_eq] <;> omega
theorem view_ok (i : Int) (S : List Cube) (hs : ∀ c ∈ S, inS 8 c) (hl : S.length ≤ 64) : SrtA (srtOf (S.map (pj i))) ∧ (srtOf (S.map (pj i))).all inP = true ∧ (srtOf (S.map (pj i))).length ≤ S.length := by
  refine ⟨srtOf_srt _, ?_, ?_⟩
  · rw [List.all_eq_true]
    intro p hp
    rw [srtOf_mem] at hp
    obtain ⟨c, hc, rfl⟩ := List.mem_map.mp hp
    exact inP_of (hs c hc) i
  · have := srtOf_len (S.map (pj i))
    rw [List.length_map] at this
    exact this
theorem vok_of (S : List Cube) (hs : ∀ c ∈ S, inS 8 c) (hl : S.length ≤ 64) : VOK (vwOf S) := by
  obtain ⟨a1, a2, a3⟩ := view_ok 0 S hs hl
  obtain ⟨b1, b2, b3⟩ := view_ok 1 S hs hl
  obtain ⟨c1, c2, c3⟩ := view_ok 2 S hs hl
  exact vok_mk ⟨a1, a2, Nat.le_trans a3 hl⟩ ⟨b1, b2, Nat.le_trans b3 hl⟩ ⟨c1, c2, Nat.le_trans c3 hl⟩
theorem at_eq {V W : Vw} (h : ∀ i, 0 ≤ i → i ≤ 2 → V.at i = W.at i) : V = W := by
  obtain ⟨a, b, c⟩ := V
  obtain ⟨a', b', c'⟩ := W
  have h0 := h 0 (by decide) (by decide)
  have h1 := h 1 (by decide) (by decide)
  have h2 := h 2 (by decide) (by decide)
  simp [Vw.at] at h0 h1 h2
  rw [h0, h1, h2]
theorem hit_at {V : Vw} {c : Cube} (h : hit V c = true) {i : Int} (h0 : 0 ≤ i) (h2 : i ≤ 2) : pj i c ∈ V.at i := by
  unfold hit at h
  simp only [Bool.and_eq_true, decide_eq_true_eq] at h
  rcases ax3 h0 h2 with rfl | rfl | rfl
  · exact h.1.1
  · exact h.1.2
  · exact h.2
theorem bar_none {V : Vw} {S : List Cube} : bar V S = none ↔ ∀ i, 0 ≤ i → i ≤ 2 → ∀ p ∈ V.at i, p ∈ S.map (pj i) := by
  have hu : ∀ i, uns V S i = none ↔ ∀ p ∈ V.at i, p ∈ S.map (pj i) := fun i => by
    unfold uns
    rw [List.find?_eq_none]
    simp
  unfold bar
  rw [List.findSome?_eq_none_iff]
  constructor
  · intro h i h0 h2
    have hi : i ∈ ([0, 1, 2] : List Int) := by rcases ax3 h0 h2 with rfl | rfl | rfl <;> simp
    have := h i hi
    rw [Option.map_eq_none_iff] at this
    exact (hu i).mp this
  · intro h i hi
    obtain ⟨h0, h2⟩ := ax_cases hi
    rw [Option.map_eq_none_iff]
    exact (hu i).mpr (h i h0 h2)
theorem wd_views {V : Vw} (h : VOK V) (hb : bar V (wd V) = none) : vwOf (wd V) = V := by
  refine at_eq fun i h0 h2 => ?_
  rw [vwOf_at _ h0 h2]
  refine srtOf_eq (h.srt i) fun p => ⟨fun hp => bar_none.mp hb i h0 h2 p hp, fun hp => ?_⟩
  obtain ⟨c, hc, rfl⟩ := List.mem_map.mp hp
  exact hit_at ((wd_mem V c).mp hc).2 h0 h2
theorem mem_wd {S : List Cube} (hs : ∀ c ∈ S, inS 8 c) {c : Cube} (hc : c ∈ S) : c ∈ wd (vwOf S) := by
  rw [wd_mem]
  refine ⟨okC_of (by decide) (hs c hc), ?_⟩
  unfold hit vwOf
  simp only [Bool.and_eq_true, decide_eq_true_eq, srtOf_mem]
  exact ⟨⟨List.mem_map.mpr ⟨c, hc, rfl⟩, List.mem_map.mpr ⟨c, hc, rfl⟩⟩, List.mem_map.mpr ⟨c, hc, rfl⟩⟩
theorem own_bar {S : List Cube} (hs : ∀ c ∈ S, inS 8 c) : bar (vwOf S) (wd (vwOf S)) = none := by
  rw [bar_none]
  intro i h0 h2 p hp
  rw [vwOf_at S h0 h2, srtOf_mem] at hp
  obtain ⟨c, hc, rfl⟩ := List.mem_map.mp hp
  exact List.mem_map.mpr ⟨c, mem_wd hs hc, rfl⟩
def Vw.put (V : Vw) (i : Int) (v : List Pr) : Vw := if i = 0 then ⟨v, V.b, V.c⟩ else if i = 1 then ⟨V.a, v, V.c⟩ else ⟨V.a, V.b, v⟩
theorem vok_put {V : Vw} (h : VOK V) (i : Int) {v : List Pr} (h1 : SrtA v) (h2 : v.all inP = true) (h3 : v.length ≤ 64) : VOK (V.put i v) := by
  have a := And.intro (h.srt 0) (And.intro (h.ok 0) (h.len 0))
  have b := And.intro (h.srt 1) (And.intro (h.ok 1) (h.len 1))
  have c := And.intro (h.srt 2) (And.intro (h.ok 2) (h.len 2))
  unfold Vw.put
  split
  · exact vok_mk ⟨h1, h2, h3⟩ b c
  · split
    · exact vok_mk a ⟨h1, h2, h3⟩ c
    · exact vok_mk a b ⟨h1, h2, h3⟩
def Vw.pre (V : Vw) (a : Int) : List D := if a = 0 then [] else if a = 1 then [.tuple (V.a.map pd)] else [.tuple (V.a.map pd), .tuple (V.b.map pd)]
def Vw.post (V : Vw) (a : Int) : List D := if a = 0 then [.tuple (V.b.map pd), .tuple (V.c.map pd)] else if a = 1 then [.tuple (V.c.map pd)] else []
theorem pre_is (V : Vw) {a : Int} (h0 : 0 ≤ a) (h2 : a ≤ 2) : sem (.slc false true) [V.d, .int a] = .ok (.tuple (V.pre a)) := by
  rcases ax3 h0 h2 with rfl | rfl | rfl <;> simp [Vw.d, Vw.pre]
theorem post_is (V : Vw) {a : Int} (h0 : 0 ≤ a) (h2 : a ≤ 2) : sem (.slc true false) [V.d, .int (a + 1)] = .ok (.tuple (V.post a)) := by
  rcases ax3 h0 h2 with rfl | rfl | rfl <;> simp [Vw.d, Vw.post]
theorem put_is (V : Vw) (v : List Pr) {a : Int} (h0 : 0 ≤ a) (h2 : a ≤ 2) : PyData.tuple (V.pre a ++ .tuple (v.map pd) :: V.post a) = (V.put a v).d := by
  rcases ax3 h0 h2 with rfl | rfl | rfl <;> simp [Vw.d, Vw.pre, Vw.post, Vw.put]
theorem pre_len (V : Vw) (a : Int) : (V.pre a).length ≤ 2 ∧ (V.post a).length ≤ 2 := by
  unfold Vw.pre Vw.post
  constructor <;> (repeat' split) <;> simp
theorem at_put (V : Vw) (v : List Pr) {a i : Int} (a0 : 0 ≤ a) (a2 : a ≤ 2) (h0 : 0 ≤ i) (h2 : i ≤ 2) : (V.put a v).at i = if i = a then v else V.at i := by
  rcases ax3 a0 a2 with rfl | rfl | rfl <;> rcases ax3 h0 h2 with rfl | rfl | rfl <;> simp [Vw.put, Vw.at]
theorem dv_elt (k : Nat) (dr : List Int) (hd : 25 ≤ dr.length) (hd2 : dr.length ≤ 1000) (many : Nat) (hm : many ≤ 60) (s : Int) (hs : 1 ≤ s) (hs8 : s ≤ 8) (n : Nat) (hn : n ≤ 2) (x3 x4 x5 x6 x7 : Sl) : ∃ T : List Cube, VOK (vwOf T) ∧ (∀ j, 0 ≤ j → j ≤ 2 → ((vwOf T).at j).length ≤ many) ∧ evE (C (k+2)) (.op .ix (.cons (.call 24 (.cons (.call 22 (.cons (.op .add (.cons (.op (.slc true false) (.cons (.v 0) (.cons (.op .add (.cons (.op .mul (.cons (.c (.int 5)) (.cons (.v 8) .nil))) (.cons (.c (.int 3)) .nil))) .nil))) (.cons (.v 0) .nil))) (.cons (.v 1) (.cons (.v 2) .nil)))) .nil)) (.cons (.v 8) .nil))) false [some (.list (dr.map .int), 0), some (.int many, 0), some (.int s, 0), x3, x4, x5, x6, x7, some (.int n, 0)] = .ok (.tuple (((vwOf T).at n).map pd)) := by
  have c1 : Q.cut (dr.map PyData.int) (some (5 * (n : Int) + 3)) none = (dr.drop (5 * n + 3)).map .int := by
    have := cut_drop (dr.map PyData.int) (5 * n + 3)
    rw [List.map_drop, ← this]
    push_cast
    rfl
  obtain ⟨T, e1, t1, t2, t3⟩ := law_cubes (k+1) (dr.drop (5 * n + 3) ++ dr) (by rw [List.length_append]; omega) many (by omega) s hs
  have t8 : ∀ c ∈ T, inS 8 c := fun c hc => inS_le hs8 (t2 c hc)
  have e2 := law_views k T (by omega) t8
  refine ⟨T, vok_of T t8 (by omega), fun j j0 j2 => by
    rw [vwOf_at T j0 j2]
    have := (view_ok j T t8 (by omega)).2.2
    omega, ?_⟩
  have hix := vw_ix (vwOf T) (i := (n : Int)) (by omega) (by omega)
  rw [List.map_append] at e1
  have hlen : ((dr.drop (5 * n + 3)).map PyData.int).length ≤ 1000 := by rw [List.length_map, List.length_drop]; omega
  have m5 := s_mul (i := 5) (j := (n : Int)) rfl
  generalize (dr.drop (5 * n + 3)).map PyData.int = A at *
  have hL : A.length + dr.length ≤ 16777216 := by omega
  simp [m5, c1, hL, e1, e2, hix]
theorem drawn_views (k : Nat) (dr : List Int) (hd : 25 ≤ dr.length) (hd2 : dr.length ≤ 1000) (many : Nat) (hm : many ≤ 60) (s : Int) (hs : 1 ≤ s) (hs8 : s ≤ 8) : ∃ Vs : List Vw, callF tab (k+3) f_u_law_drawn_views [.list (dr.map .int), .int many, .int s] = .ok (.list (Vs.map Vw.d), true) ∧ ∀ V ∈ Vs, VOK V ∧ ∀ j, 0 ≤ j → j ≤ 2 → (V.at j).length ≤ many + 1 := by
  rw [at_u_law_drawn_views]
  obtain ⟨T, e1, t1, t2, t3⟩ := law_cubes (k+1) dr hd many (by omega) s hs
  have t8 : ∀ c ∈ T, inS 8 c := fun c hc => inS_le hs8 (t2 c hc)
  have e2 := law_views k T (by omega) t8
  have vok := vok_of T t8 (by omega)
  have hvl : ∀ i, 0 ≤ i → i ≤ 2 → ((vwOf T).at i).length ≤ 60 := fun i h0 h2 => by
    rw [vwOf_at T h0 h2]
    have := (view_ok i T t8 (by omega)).2.2
    omega
  have hvm : ∀ i, 0 ≤ i → i ≤ 2 → ((vwOf T).at i).length ≤ many := fun i h0 h2 => by
    rw [vwOf_at T h0 h2]
    have := (view_ok i T t8 (by omega)).2.2
    omega
  generalize vwOf T = V at *
  have i22 := it_int (l := dr) (i := 22) (by decide) (by omega)
  have i23 := it_int (l := dr) (i := 23) (by decide) (by omega)
  have i24 := it_int (l := dr) (i := 24) (by decide) (by omega)
  generalize dr.getD (22 : Int).toNat 0 = d22 at i22
  generalize dr.getD (23 : Int).toNat 0 = d23 at i23
  generalize dr.getD (24 : Int).toNat 0 = d24 at i24
  have ms : ∀ n, sem .mod [.int n, .int s] = .ok (.int (n % s)) := fun n => s_mod (by omega)
  have m3 : sem .mod [.int d22, .int 3] = .ok (.int (d22 % 3)) := s_mod (by decide)
  have a0 : 0 ≤ d22 % 3 := by omega
  have a2 : d22 % 3 ≤ 2 := by omega
  generalize d22 % 3 = a at *
  generalize hp : ((d23 % s, d24 % s) : Pr) = p
  have hpd : pd p = .tuple [.int (d23 % s), .int (d24 % s)] := by rw [← hp]; rfl
  have hpin : inP p = true ∧ (0 ≤ p.1 ∧ p.1 < 1000000) ∧ (0 ≤ p.2 ∧ p.2 < 1000000) := by
    rw [← hp]
    have q1 := Int.emod_nonneg d23 (show s ≠ 0 by omega)
    have q2 := Int.emod_lt_of_pos d23 (show 0 < s by omega)
    have q3 := Int.emod_nonneg d24 (show s ≠ 0 by omega)
    have q4 := Int.emod_lt_of_pos d24 (show 0 < s by omega)
    simp only [inP, inC, Bool.and_eq_true, decide_eq_true_eq]
    omega
  have hin : ∀ q ∈ V.at a, inP q = true := by have := vok.ok a; rw [List.all_eq_true] at this; exact this
  have hset := (sset_td (d := 2) ne_pd (S := V.at a ++ [p]) (by rw [List.length_append]; have := hvl a a0 a2; simp; omega) (by decide) (fun x hx => by
    refine ⟨rfl, fun n hn => ?_⟩
    have hn' : n ∈ [x.1, x.2] := hn
    simp only [List.mem_cons, List.not_mem_nil, or_false] at hn'
    rcases List.mem_append.mp hx with hx | hx
    · have := hin x hx
      simp only [inP, inC, Bool.and_eq_true, decide_eq_true_eq] at this
      omega
    · rw [List.mem_singleton.mp hx] at hn'
      omega) (srtOf_srt (V.at a ++ [p])) fun x => srtOf_mem).2
  have hlast : ((V.at a).length : Nat) ≤ 60 := hvl a a0 a2
  have hnl : (srtOf (V.at a ++ [p])).length ≤ 64 := by
    have := srtOf_len (V.at a ++ [p])
    rw [List.length_append, List.length_singleton] at this
    omega
  have hn := vok_put vok a (srtOf_srt (V.at a ++ [p])) (by
    rw [List.all_eq_true]
    intro q hq
    rw [srtOf_mem] at hq
    rcases List.mem_append.mp hq with hq | hq
    · exact hin q hq
    · rw [List.mem_singleton.mp hq]; exact hpin.1) hnl
  have ht := vok_put vok a (v := (V.at a).drop 1) ((vok.srt a).sublist (List.drop_sublist _ _)) (by
    rw [List.all_eq_true]
    exact fun q hq => hin q (List.mem_of_mem_drop hq)) (by rw [List.length_drop]; omega)
  have w0 := put_is V (srtOf (V.at a ++ [p])) a0 a2
  have w1 := put_is V ((V.at a).drop 1) a0 a2
  have pr := pre_is V a0 a2
  have po := post_is V a0 a2
  have hix := vw_ix V a0 a2
  obtain ⟨pl1, pl2⟩ := pre_len V a
  rw [← map_pd, ← map_pd, List.map_append, List.map_cons, List.map_nil, hpd] at hset
  rw [List.map_drop] at w1
  have hal : ((V.at a).map pd).length ≤ 60 := by rw [List.length_map]; exact hlast
  obtain ⟨T0, v0, l0, f0⟩ := dv_elt k dr hd hd2 many hm s hs hs8 0 (by decide) (some (.tuple (T.map cu), 0)) (some (V.d, 0)) (some (.list [V.d, (V.put a (srtOf (V.at a ++ [p]))).d, (V.put a ((V.at a).drop 1)).d], 1)) (some (.int a, 0)) (some (pd p, 0))
  obtain ⟨T1, v1, l1, f1⟩ := dv_elt k dr hd hd2 many hm s hs hs8 1 (by decide) (some (.tuple (T.map cu), 0)) (some (V.d, 0)) (some (.list [V.d, (V.put a (srtOf (V.at a ++ [p]))).d, (V.put a ((V.at a).drop 1)).d], 1)) (some (.int a, 0)) (some (pd p, 0))
  obtain ⟨T2, v2, l2, f2⟩ := dv_elt k dr hd hd2 many hm s hs hs8 2 (by decide) (some (.tuple (T.map cu), 0)) (some (V.d, 0)) (some (.list [V.d, (V.put a (srtOf (V.at a ++ [p]))).d, (V.put a ((V.at a).drop 1)).d], 1)) (some (.int a, 0)) (some (pd p, 0))
  refine ⟨[V, V.put a (srtOf (V.at a ++ [p])), V.put a ((V.at a).drop 1), ⟨(vwOf T0).a, (vwOf T1).b, (vwOf T2).c⟩], ?_, ?_⟩
  · refine run_ok rfl ?_ (fun _ _ => rfl) (fun _ => by simp [immIn, immAll, imm_vw])
    show evSs _ i_u_law_drawn_views.body [some (.list (dr.map .int), 0), some (.int many, 0), some (.int s, 0), none, none, none, none, none, none] = _
    simp only [i_u_law_drawn_views]
    rw [ss_nx (ρ' := [some (.list (dr.map .int), 0), some (.int many, 0), some (.int s, 0), some (.tuple (T.map cu), 0), none, none, none, none, none]) (by simp [e1])]
    rw [ss_nx (ρ' := [some (.list (dr.map .int), 0), some (.int many, 0), some (.int s, 0), some (.tuple (T.map cu), 0), some (V.d, 0), none, none, none, none]) (by simp [e2, mut_vw])]
    rw [ss_nx (ρ' := [some (.list (dr.map .int), 0), some (.int many, 0), some (.int s, 0), some (.tuple (T.map cu), 0), some (V.d, 0), none, some (.int a, 0), some (pd p, 0), none]) (by
      rw [hpd]
      simp [i22, i23, i24, ms, m3, puts, Es.flags])]
    rw [ss_nx (ρ' := [some (.list (dr.map .int), 0), some (.int many, 0), some (.int s, 0), some (.tuple (T.map cu), 0), some (V.d, 0), none, some (.int a, 0), some (pd p, 0), none]) (by rw [st_frz]; rfl)]
    rw [ss_nx (ρ' := [some (.list (dr.map .int), 0), some (.int many, 0), some (.int s, 0), some (.tuple (T.map cu), 0), some (V.d, 0), some (.list [V.d, (V.put a (srtOf (V.at a ++ [p]))).d, (V.put a ((V.at a).drop 1)).d], 1), some (.int a, 0), some (pd p, 0), none]) (by
      rw [← w0, ← w1, hpd]
      generalize (V.at a).map pd = L at *
      generalize (srtOf (V.at a ++ [p])).map pd = M at *
      generalize V.pre a = P1 at *
      generalize V.post a = P2 at *
      have q1 : L.length + 1 ≤ 16777216 := by omega
      have q2 : P1.length + 1 ≤ 16777216 := by omega
      have q3 : P1.length + 1 + P2.length ≤ 16777216 := by omega
      simp [pr, po, hix, hset, q1, q2, q3])]
    have hc : evE (C (k+2)) c_u_law_drawn_views_1 true [some (.list (dr.map .int), 0), some (.int many, 0), some (.int s, 0), some (.tuple (T.map cu), 0), some (V.d, 0), some (.list [V.d, (V.put a (srtOf (V.at a ++ [p]))).d, (V.put a ((V.at a).drop 1)).d], 1), some (.int a, 0), some (pd p, 0), none] = .ok (.list [.tuple ((vwOf T0).a.map pd), .tuple ((vwOf T1).b.map pd), .tuple ((vwOf T2).c.map pd)]) := by
      unfold c_u_law_drawn_views_1
      generalize (some (PyData.list [V.d, (V.put a (srtOf (V.at a ++ [p]))).d, (V.put a ((V.at a).drop 1)).d], 1) : Sl) = z5 at *
      rw [ev_comp_def, show ∀ ρ, evI (C (k+2)) (.rng (.cons (.c (.int 3)) .nil)) true ρ = .ok [.int 0, .int 1, .int 2] by intro ρ; simp [rangeD, small, rngL]]
      simp only [ok_bind, compM, bind_n, slots_n, wipe_cons, wipe_nil, put_succ, put_zero, eto_none, if_true]
      push_cast at f0 f1 f2
      rw [f0, ok_bind, quiet_ok', ok_bind, f1, ok_bind, quiet_ok', ok_bind, f2, ok_bind, quiet_ok', ok_bind]
      rfl
    simp only [ss_cons, st_ret, er_op, ev_op, ev_cons, ev_nil, kp_add, Bool.not_false]
    rw [ev_v1 _ _ (d := .list [V.d, (V.put a (srtOf (V.at a ++ [p]))).d, (V.put a ((V.at a).drop 1)).d]) rfl]
    simp only [ok_bind, kp_lst, Bool.not_true, kp_tuple, Bool.not_false, ev_op, ev_cons, ev_nil, hc]
    rfl
  · intro W hW
    simp only [List.mem_cons, List.not_mem_nil, or_false] at hW
    rcases hW with rfl | rfl | rfl | rfl
    · exact ⟨vok, fun j j0 j2 => by have := hvm j j0 j2; omega⟩
    · refine ⟨hn, fun j j0 j2 => ?_⟩
      rw [at_put _ _ a0 a2 j0 j2]
      split
      · have := srtOf_len (V.at a ++ [p])
        have g := hvm a a0 a2
        rw [List.length_append, List.length_singleton] at this
        omega
      · have := hvm j j0 j2; omega
    · refine ⟨ht, fun j j0 j2 => ?_⟩
      rw [at_put _ _ a0 a2 j0 j2]
      split
      · have g := hvm a a0 a2
        rw [List.length_drop]
        omega
      · have := hvm j j0 j2; omega
    · refine ⟨vok_mk ⟨v0.srt 0, v0.ok 0, v0.len 0⟩ ⟨v1.srt 1, v1.ok 1, v1.len 1⟩ ⟨v2.srt 2, v2.ok 2, v2.len 2⟩, fun j j0 j2 => ?_⟩
      rcases ax3 j0 j2 with rfl | rfl | rfl
      · have := l0 0 (by decide) (by decide)
        exact Nat.le_trans this (by omega)
      · have := l1 1 (by decide) (by decide)
        exact Nat.le_trans this (by omega)
      · have := l2 2 (by decide) (by decide)
        exact Nat.le_trans this (by omega)
end Law
set_option linter.all false
set_option maxRecDepth 100000
namespace Law
open PySem Q
/-- a table of how many cubes of H have each pair of the cubes of S -/
structure CT (S H : List Cube) (i : Int) (kvs : List (D × D)) : Prop where
  dk : ∃ ks : List Pr, DK kvs ks ∧ ∀ c ∈ S, pj i c ∈ ks
  get : ∀ p : Pr, (dget kvs (td p)).getD (.int 0) = .int (cntP H i p)
  len : kvs.length ≤ 600
theorem BP.ct {S : List Cube} {i : Int} {kvs : List (D × D)} {ks : List Pr} (h : BP S i kvs ks) (hl : S.length ≤ 600) : CT S S i kvs :=
  ⟨⟨ks, h.dk, fun c hc => (h.mem _).mpr (List.mem_map_of_mem hc)⟩, h.get, Nat.le_trans h.len hl⟩
theorem CT.at {S H : List Cube} {i : Int} {kvs : List (D × D)} (h : CT S H i kvs) {c : Cube} (hc : c ∈ S) : dget kvs (td (pj i c)) = some (.int (cntP H i (pj i c))) := by
  obtain ⟨ks, h1, h2⟩ := h.dk
  have h3 : (dget kvs (td (pj i c))).isSome = true := by rw [h1.get]; simpa using h2 c hc
  have h4 := h.get (pj i c)
  cases e : dget kvs (td (pj i c)) with
  | none => rw [e] at h3; cases h3
  | some d =>
    have h5 : (some d : Option D).getD (.int 0) = .int (cntP H i (pj i c)) := by rw [← e]; exact h4
    exact congrArg some h5
theorem CT.ix {S H : List Cube} {i : Int} {kvs : List (D × D)} (h : CT S H i kvs) {c : Cube} (hc : c ∈ S) : sem .ix [.dict kvs, pd (pj i c)] = .ok (.int (cntP H i (pj i c))) := by
  obtain ⟨ks, h1, h2⟩ := h.dk
  rw [← td_pd, ix_d h1, h.at hc]
  rfl
theorem CT.less {S H H' : List Cube} {i : Int} {kvs : List (D × D)} (h : CT S H i kvs) {c : Cube} (hc : c ∈ S) (hn : ∀ p, cntP H' i p = if p = pj i c then cntP H i p - 1 else cntP H i p) (h1 : 1 ≤ cntP H i (pj i c)) : CT S H' i (dput kvs (td (pj i c)) (.int ((cntP H i (pj i c) : Nat) - 1))) := by
  obtain ⟨ks, d1, d2⟩ := h.dk
  have hk := d1.put (pj i c) (.int ((cntP H i (pj i c) : Nat) - 1))
  rw [if_pos (d2 c hc)] at hk
  refine ⟨⟨ks, hk, d2⟩, fun p => ?_, by rw [hk.len, ← d1.len]; exact h.len⟩
  rw [dget_dput d1, hn p]
  by_cases e : pj i c = p
  · subst e
    rw [if_pos rfl, if_pos rfl]
    show PyData.int _ = .int _
    congr 1
    omega
  · rw [if_neg e, if_neg (fun e' => e e'.symm)]
    exact h.get p
theorem axes_g (k : Nat) (m : Bool) (ρ : _root_.Q.Env) : evI (C k) (.e (.g 2)) m ρ = .ok [.int 0, .int 1, .int 2] := by simp
/-- the three tables -/
theorem counts_c (k : Nat) (S : List Cube) (hl : S.length ≤ 600) (A B : Sl) : ∃ k0 k1 k2, CT S S 0 k0 ∧ CT S S 1 k1 ∧ CT S S 2 k2 ∧ evE (C (k+2)) c_are_alone_1 false [some (.tuple (S.map cu), 0), none, none, A] = .ok (.list [.dict k0, .dict k1, .dict k2]) ∧ evE (C (k+2)) c_thinned_1 false [some (.tuple (S.map cu), 0), none, none, none, none, none] = .ok (.list [.dict k0, .dict k1, .dict k2]) := by
  obtain ⟨k0, _, a0, b0⟩ := by_pairs k S hl (i := 0) (by decide) (by decide)
  obtain ⟨k1, _, a1, b1⟩ := by_pairs k S hl (i := 1) (by decide) (by decide)
  obtain ⟨k2, _, a2, b2⟩ := by_pairs k S hl (i := 2) (by decide) (by decide)
  generalize S.map cu = SS at *
  refine ⟨k0, k1, k2, b0.ct hl, b1.ct hl, b2.ct hl, ?_, ?_⟩
  · unfold c_are_alone_1
    rw [ev_comp_def, axes_g]
    simp [compM, a0, a1, a2]
  · unfold c_thinned_1
    rw [ev_comp_def, axes_g]
    simp [compM, a0, a1, a2]
def alone (S : List Cube) (c : Cube) : Bool := decide (((cntP S 0 (pj 0 c) : Nat) : Int) = 1) || (decide (((cntP S 1 (pj 1 c) : Nat) : Int) = 1) || decide (((cntP S 2 (pj 2 c) : Nat) : Int) = 1))
theorem one_in (a b c : Int) : sem .isin [.int 1, .list [.int a, .int b, .int c]] = .ok (.bool (decide (a = 1) || (decide (b = 1) || decide (c = 1)))) := by
  have h : memb (.int 1) [.int a, .int b, .int c] = (decide (a = 1) || (decide (b = 1) || decide (c = 1))) := by
    simp [memb, PyData.eqv]
    rfl
  show (if dOk (.int 1) && allOk [.int a, .int b, .int c] then R.ok (PyData.bool (false != memb (.int 1) [.int a, .int b, .int c])) else .bad) = _
  have hk : (dOk (.int 1) && allOk [.int a, .int b, .int c]) = true := by simp [dOk, allOk, PyData.plain, PyData.depth]
  rw [h, if_pos hk]
  simp
theorem are_alone (k : Nat) (S : List Cube) (hl : S.length ≤ 600) : callF tab (k+3) f_are_alone [.tuple (S.map cu)] = .ok (.list ((S.filter (alone S)).map cu), true) := by
  obtain ⟨k0, k1, k2, h0, h1, h2, e1, _⟩ := counts_c k S hl none none
  have hc : evE (C (k+2)) c_are_alone_2 false [some (.tuple (S.map cu), 0), some (.list [.dict k0, .dict k1, .dict k2], 1), none, none] = .ok (.list ((S.filter (alone S)).map cu)) := by
    unfold c_are_alone_2
    rw [ev_comp (xs := S) (g := cu) (h := fun c => if alone S c then some (cu c) else none)]
    · rw [filterMap_if]
    · simp
    · intro c hc
      have p0 := pair_of (k+1) c (i := 0) (by decide) (by decide)
      have p1 := pair_of (k+1) c (i := 1) (by decide) (by decide)
      have p2 := pair_of (k+1) c (i := 2) (by decide) (by decide)
      have q0 := h0.ix hc
      have q1 := h1.ix hc
      have q2 := h2.ix hc
      have hr : evE (C (k+2)) c_are_alone_3 true [some (.tuple (S.map cu), 0), some (.list [.dict k0, .dict k1, .dict k2], 1), none, some (cu c, 0)] = .ok (.list [.int (cntP S 0 (pj 0 c)), .int (cntP S 1 (pj 1 c)), .int (cntP S 2 (pj 2 c))]) := by
        unfold c_are_alone_3
        rw [ev_comp_def, axes_g]
        simp [compM, p0, p1, p2, q0, q1, q2]
      have hin := one_in (cntP S 0 (pj 0 c)) (cntP S 1 (pj 1 c)) (cntP S 2 (pj 2 c))
      by_cases ha : alone S c = true
      · have ha' := ha
        unfold alone at ha'
        rw [ha'] at hin
        simp [hr, hin, ha]
      · have ha2 : alone S c = false := by simpa using ha
        have ha' := ha2
        unfold alone at ha'
        rw [ha'] at hin
        simp [hr, hin, ha2]
    · simp; omega
  rw [at_are_alone]
  refine run_ok rfl ?_ (fun _ _ => rfl) (fun _ => by simp [immIn])
  show evSs (C (k+2)) i_are_alone.body [some (.tuple (S.map cu), 0), none, none, none] = _
  unfold i_are_alone
  generalize (S.filter (alone S)).map cu = AA at *
  generalize S.map cu = SS at *
  simp [e1, hc]
/-! what needed_cubes and one_solid tell -/
def needD (W : List Cube) : D := .tuple ((W.filter (alone W)).map cu)
def oneD (W : List Cube) (sp : List Cube) : D := match sp with
  | [] => .tuple [.str "one", .tuple (W.map cu)]
  | c :: _ => .tuple [.str "more", .tuple (W.map cu), cu c]
theorem need_bar (k : Nat) (V : Vw) (h : VOK V) (p : Int × Pr) (hb : bar V (wd V) = some p) : callF tab (k+6) f_needed_cubes [V.d] = .ok (.tuple [], false) := by
  have h1 := check_views k V h
  have h2 := greatest_bar (k+1) V h p hb
  rw [at_needed_cubes]
  refine run_ok rfl ?_ (fun _ => id) (fun _ => rfl)
  simp [i_needed_cubes, h1, h2, isN_, isNone]
theorem need_ok (k : Nat) (V : Vw) (h : VOK V) (hb : bar V (wd V) = none) (hl : (wd V).length ≤ 96) : callF tab (k+6) f_needed_cubes [V.d] = .ok (needD (wd V), false) := by
  have h1 := check_views k V h
  have h2 := greatest_ok (k+1) V h hb hl
  have h3 := are_alone (k+2) (wd V) (by omega)
  rw [at_needed_cubes]
  unfold needD
  generalize (wd V).filter (alone (wd V)) = AA at *
  refine run_ok rfl ?_ (fun _ => id) (fun _ => by simp [imm])
  generalize (wd V).map cu = WW at *
  simp [i_needed_cubes, h1, h2, h3, isN_, isNone]
theorem one_bar (k : Nat) (V : Vw) (h : VOK V) (p : Int × Pr) (hb : bar V (wd V) = some p) : callF tab (k+6) f_one_solid [V.d] = .ok (barD p, false) := by
  have h1 := check_views k V h
  have h2 := greatest_bar (k+1) V h p hb
  rw [at_one_solid]
  refine run_ok rfl ?_ (fun _ => id) (fun _ => rfl)
  simp [i_one_solid, h1, h2, isNN_, isNone, barD]
theorem one_ok (k : Nat) (V : Vw) (h : VOK V) (hb : bar V (wd V) = none) (hl : (wd V).length ≤ 96) : callF tab (k+6) f_one_solid [V.d] = .ok (oneD (wd V) ((wd V).filter fun c => !alone (wd V) c), false) := by
  have h1 := check_views k V h
  have h2 := greatest_ok (k+1) V h hb hl
  have h3 := are_alone (k+2) (wd V) (by omega)
  generalize wd V = W at *
  obtain ⟨kvs, ks, e1, e2, e3⟩ : ∃ kvs ks, evE (C (k+5)) (.dcomp (.v 5) (.c (.bool true)) (.n 5) (.e (.call 17 (.cons (.v 3) .nil))) none) false [some (V.d, 0), none, none, some (.tuple (W.map cu), 0), some (.none, 0), none] = .ok (.dict kvs) ∧ DK (α := Cube) kvs ks ∧ ∀ c, c ∈ ks ↔ c ∈ W.filter (alone W) := by
    obtain ⟨kvs, ks, g1, g2, _, g3⟩ := ev_dcomp (α := Cube) (c := C (k+5)) (m := false) (ρ := [some (V.d, 0), none, none, some (.tuple (W.map cu), 0), some (.none, 0), none]) (ke := .v 5) (ve := .c (.bool true)) (tg := .n 5) (it := .e (.call 17 (.cons (.v 3) .nil))) (t := none) (v := .bool true) (xs := W.filter (alone W)) (by
      rw [← map_cu]
      generalize (W.filter (alone W)).map cu = AA at *
      generalize W.map cu = WW at *
      simp [h3]) (fun c _ => by simp) (by
        have := List.length_filter_le (alone W) W
        show _ ≤ 16777216
        omega)
    exact ⟨kvs, ks, g1, g2, g3⟩
  have hsp : evE (C (k+5)) c_one_solid_1 false [some (V.d, 0), some (.dict kvs, 1), none, some (.tuple (W.map cu), 0), some (.none, 0), none] = .ok (.list ((W.filter fun c => !alone W c).map cu)) := by
    unfold c_one_solid_1
    rw [ev_comp (xs := W) (g := cu) (h := fun c => if !alone W c then some (cu c) else none)]
    · rw [filterMap_if]
    · simp
    · intro c hc
      have hn := nin_db e2 c (p := alone W c = true) ⟨fun ha => (e3 c).mpr (List.mem_filter.mpr ⟨hc, ha⟩), fun hk => (List.mem_filter.mp ((e3 c).mp hk)).2⟩
      rw [td_cu] at hn
      cases ha : alone W c
      · rw [ha] at hn; simp at hn; simp [hn]
      · rw [ha] at hn; simp at hn; simp [hn]
    · show _ ≤ 16777216
      omega
  rw [at_one_solid]
  refine run_ok rfl ?_ (fun _ h => by unfold oneD at h; split at h <;> cases h) (fun _ => ?_)
  · show evSs (C (k+5)) i_one_solid.body [some (V.d, 0), none, none, none, none, none] = _
    unfold i_one_solid
    refine sg (ρ' := [some (V.d, 0), none, none, none, none, none]) (by simp [h1]) ?_
    refine sg (ρ' := [some (V.d, 0), none, none, some (.tuple (W.map cu), 0), some (.none, 0), none]) (by
      generalize W.map cu = WW at *
      simp [h2]) ?_
    refine sg (st_iff (by simp [isNN_, isNone]) (ss_nil _ _)) ?_
    refine sg (ρ' := [some (V.d, 0), some (.dict kvs, 1), none, some (.tuple (W.map cu), 0), some (.none, 0), none]) (by
      rw [st_asg, e1]
      rfl) ?_
    refine sg (ρ' := [some (V.d, 0), some (.dict kvs, 1), some (.list ((W.filter fun c => !alone W c).map cu), 1), some (.tuple (W.map cu), 0), some (.none, 0), none]) (by
      rw [st_asg, hsp]
      rfl) ?_
    cases hs : W.filter fun c => !alone W c with
    | nil => simp [oneD]
    | cons c r =>
      have : ¬ ((r.length : Int) + 1 = 0) := by omega
      simp [oneD, this]
  · unfold oneD
    split <;> simp [imm, immAll]
theorem told0 (k : Nat) (d e : D) (h : callF tab (k+6) f_needed_cubes [d] = .ok (e, false)) (hm : isMut e = false) (hi : imm e = true) : callF tab (k+7) f_u_law_told [.int 0, d] = .ok (e, false) := by
  rw [at_u_law_told]
  refine run_ok rfl ?_ (fun _ h => by rw [hm] at h; cases h) (fun _ => by simp [hi])
  simp [i_u_law_told, h, hm]
theorem told1 (k : Nat) (d e : D) (h : callF tab (k+6) f_one_solid [d] = .ok (e, false)) (hm : isMut e = false) (hi : imm e = true) : callF tab (k+7) f_u_law_told [.int 1, d] = .ok (e, false) := by
  rw [at_u_law_told]
  refine run_ok rfl ?_ (fun _ h => by rw [hm] at h; cases h) (fun _ => by simp [hi])
  simp [i_u_law_told, h, hm]
theorem without (k : Nat) (S : List Cube) (hl : S.length ≤ 600) (c : Cube) : callF tab (k+1) f_u_law_without [.tuple (S.map cu), cu c] = .ok (.tuple ((S.filter fun d => !decide (d = c)).map cu), false) := by
  rw [at_u_law_without]
  refine run_ok rfl ?_ (fun _ => id) (fun _ => by simp [imm])
  have hc : evE (C k) c_u_law_without_1 true [some (.tuple (S.map cu), 0), some (cu c, 0), none] = .ok (.list ((S.filter fun d => !decide (d = c)).map cu)) := by
    unfold c_u_law_without_1
    rw [ev_comp (xs := S) (g := cu) (h := fun d => if !decide (d = c) then some (cu d) else none)]
    · rw [filterMap_if]
    · simp
    · intro d _
      have hn : sem .ne [cu d, cu c] = .ok (.bool (!decide (d = c))) := by
        rw [ne_is (dOk_cu d) (dOk_cu c), ← td_cu, ← td_cu, eqv_td]
      by_cases h : d = c
      · subst h
        rw [decide_eq_true rfl] at hn
        simp [hn]
      · rw [decide_eq_false h] at hn
        simp [hn, h]
    · show _ ≤ 16777216
      omega
  generalize (S.filter fun d => !decide (d = c)).map cu = X at *
  generalize S.map cu = SS at *
  simp [i_u_law_without, hc]
end Law
set_option linter.all false
set_option maxRecDepth 100000
namespace Law
open PySem Q
theorem cnt_split (A B : List Cube) (c : Cube) (i : Int) (p : Pr) : cntP (A ++ c :: B) i p = cntP (A ++ B) i p + if pj i c = p then 1 else 0 := by
  unfold cntP
  rw [List.map_append, List.map_cons, List.map_append, cn_app, cn_cons, cn_app]
  omega
theorem cnt_pos {S : List Cube} {i : Int} {p : Pr} : 1 ≤ cntP S i p ↔ p ∈ S.map (pj i) := cn_pos
theorem without_split {A B : List Cube} {c : Cube} (hA : c ∉ A) (hB : c ∉ B) : (A ++ c :: B).filter (fun d => !decide (d = c)) = A ++ B := by
  have key : ∀ L : List Cube, c ∉ L → L.filter (fun d => !decide (d = c)) = L := fun L h => by
    rw [List.filter_eq_self]
    intro d hd
    simp only [Bool.not_eq_true', decide_eq_false_iff_not]
    exact fun e => h (e ▸ hd)
  rw [List.filter_append, key A hA, List.filter_cons, key B hB]
  simp
theorem srtOf_congr {S T : List Pr} : srtOf S = srtOf T ↔ ∀ x, x ∈ S ↔ x ∈ T := by
  constructor
  · intro h x
    rw [← srtOf_mem (S := S), h, srtOf_mem]
  · intro h
    exact srtOf_eq (srtOf_srt T) fun x => by rw [srtOf_mem, h]
theorem vw_congr {S T : List Cube} : vwOf S = vwOf T ↔ ∀ i, 0 ≤ i → i ≤ 2 → ∀ p, p ∈ S.map (pj i) ↔ p ∈ T.map (pj i) := by
  constructor
  · intro h i h0 h2
    have := congrArg (fun V : Vw => V.at i) h
    simp only [vwOf_at _ h0 h2] at this
    exact srtOf_congr.mp this
  · intro h
    refine at_eq fun i h0 h2 => ?_
    rw [vwOf_at _ h0 h2, vwOf_at _ h0 h2]
    exact srtOf_congr.mpr (h i h0 h2)
theorem vw_less {A B : List Cube} {c : Cube} : vwOf (A ++ B) = vwOf (A ++ c :: B) ↔ ∀ i, 0 ≤ i → i ≤ 2 → 1 < cntP (A ++ c :: B) i (pj i c) := by
  rw [vw_congr]
  constructor
  · intro h i h0 h2
    have := (h i h0 h2 (pj i c)).mpr (List.mem_map_of_mem (by simp))
    rw [cnt_split, if_pos rfl]
    have := cnt_pos.mpr this
    omega
  · intro h i h0 h2 p
    have h1 := h i h0 h2
    rw [cnt_split, if_pos rfl] at h1
    have h3 : pj i c ∈ (A ++ B).map (pj i) := cnt_pos.mp (by omega)
    constructor
    · intro hp
      rw [List.map_append, List.mem_append] at hp
      rw [List.map_append, List.map_cons, List.mem_append, List.mem_cons]
      rcases hp with hp | hp
      · exact .inl hp
      · exact .inr (.inr hp)
    · intro hp
      rw [List.map_append, List.map_cons, List.mem_append, List.mem_cons] at hp
      rcases hp with hp | rfl | hp
      · rw [List.map_append, List.mem_append]; exact .inl hp
      · exact h3
      · rw [List.map_append, List.mem_append]; exact .inr hp
def okT (H : List Cube) (c : Cube) : Bool := decide (1 < cntP H 0 (pj 0 c)) && (decide (1 < cntP H 1 (pj 1 c)) && decide (1 < cntP H 2 (pj 2 c)))
theorem okT_iff {H : List Cube} {c : Cube} : okT H c = true ↔ ∀ i, 0 ≤ i → i ≤ 2 → 1 < cntP H i (pj i c) := by
  unfold okT
  rw [Bool.and_eq_true, Bool.and_eq_true, decide_eq_true_iff, decide_eq_true_iff, decide_eq_true_iff]
  constructor
  · rintro ⟨h0, h1, h2⟩ i a b
    rcases ax3 a b with rfl | rfl | rfl <;> assumption
  · intro h
    exact ⟨h 0 (by decide) (by decide), h 1 (by decide) (by decide), h 2 (by decide) (by decide)⟩
/-- the cubes left, the last ones taken away first -/
def thinL : List Cube → List Cube → List Cube
  | [], K => K.reverse
  | c :: r, K => if okT (r.reverse ++ c :: K.reverse) c then thinL r K else thinL r (K ++ [c])
/-- a cube that has a pair alone -/
def Al (H : List Cube) (c : Cube) : Prop := ∃ i, 0 ≤ i ∧ i ≤ 2 ∧ cntP H i (pj i c) ≤ 1
theorem not_ok {H : List Cube} {c : Cube} (h : okT H c = false) : Al H c := by
  refine Classical.byContradiction fun hn => ?_
  have : okT H c = true := okT_iff.mpr fun i h0 h2 => by
    refine Classical.byContradiction fun h3 => hn ⟨i, h0, h2, by omega⟩
  rw [h] at this
  cases this
theorem thin_spec : ∀ (r K : List Cube), (∀ c ∈ K, Al (r.reverse ++ K.reverse) c) → vwOf (thinL r K) = vwOf (r.reverse ++ K.reverse) ∧ (∀ c ∈ thinL r K, Al (thinL r K) c) ∧ (thinL r K).Sublist (r.reverse ++ K.reverse)
  | [], K, h => by
    refine ⟨rfl, fun c hc => ?_, List.Sublist.refl _⟩
    have := h c (List.mem_reverse.mp hc)
    exact this
  | c :: r, K, h => by
    have e : (c :: r).reverse ++ K.reverse = r.reverse ++ c :: K.reverse := by simp
    rw [e] at h ⊢
    rw [thinL]
    cases hk : okT (r.reverse ++ c :: K.reverse) c with
    | true =>
      rw [if_pos rfl]
      have hv := vw_less.mpr (okT_iff.mp hk)
      obtain ⟨i1, i2, i3⟩ := thin_spec r K fun d hd => by
        obtain ⟨i, h0, h2, h3⟩ := h d hd
        refine ⟨i, h0, h2, ?_⟩
        rw [cnt_split] at h3
        omega
      exact ⟨by rw [i1, hv], i2, i3.trans (List.Sublist.append (List.Sublist.refl _) (List.sublist_cons_self _ _))⟩
    | false =>
      rw [if_neg Bool.false_ne_true]
      have e2 : r.reverse ++ (K ++ [c]).reverse = r.reverse ++ c :: K.reverse := by simp
      have := thin_spec r (K ++ [c]) fun d hd => by
        rw [e2]
        rcases List.mem_append.mp hd with hd | hd
        · exact h d hd
        · simp only [List.mem_singleton] at hd
          subst hd
          exact not_ok hk
      rw [e2] at this
      exact this
theorem al_not {H : List Cube} {c : Cube} (h : Al H c) : okT H c = false := by
  cases hk : okT H c with
  | false => rfl
  | true =>
    obtain ⟨i, h0, h2, h3⟩ := h
    have := okT_iff.mp hk i h0 h2
    omega
theorem thin_fix : ∀ (r K : List Cube), (∀ c ∈ r, Al (r.reverse ++ K.reverse) c) → thinL r K = r.reverse ++ K.reverse
  | [], K, _ => rfl
  | c :: r, K, h => by
    have e : (c :: r).reverse ++ K.reverse = r.reverse ++ c :: K.reverse := by simp
    rw [e] at h ⊢
    rw [thinL, al_not (h c List.mem_cons_self), if_neg Bool.false_ne_true]
    have e2 : r.reverse ++ (K ++ [c]).reverse = r.reverse ++ c :: K.reverse := by simp
    have := thin_fix r (K ++ [c]) fun d hd => by rw [e2]; exact h d (List.mem_cons_of_mem _ hd)
    rw [e2] at this
    exact this
def thin (S : List Cube) : List Cube := thinL S.reverse []
theorem thin_all (S : List Cube) : vwOf (thin S) = vwOf S ∧ (∀ c ∈ thin S, Al (thin S) c) ∧ (thin S).Sublist S ∧ thin (thin S) = thin S := by
  obtain ⟨h1, h2, h3⟩ := thin_spec S.reverse [] (fun c hc => absurd hc List.not_mem_nil)
  simp only [List.reverse_reverse, List.reverse_nil, List.append_nil] at h1 h3
  refine ⟨h1, h2, h3, ?_⟩
  have := thin_fix (thin S).reverse [] (fun c hc => by
    simp only [List.reverse_reverse, List.reverse_nil, List.append_nil]
    exact h2 c (List.mem_reverse.mp hc))
  simp only [List.reverse_reverse, List.reverse_nil, List.append_nil] at this
  exact this
/-- alone: the views are others without it -/
theorem alone_iff {W : List Cube} (hn : W.Nodup) {c : Cube} (hc : c ∈ W) : alone W c = true ↔ vwOf (W.filter fun d => !decide (d = c)) ≠ vwOf W := by
  obtain ⟨A, B, rfl⟩ := List.append_of_mem hc
  have hn' := List.nodup_append.mp hn
  have hB : c ∉ B := (List.nodup_cons.mp hn'.2.1).1
  have hA : c ∉ A := fun h => hn'.2.2 c h c List.mem_cons_self rfl
  rw [without_split hA hB]
  have hp : ∀ i, 1 ≤ cntP (A ++ c :: B) i (pj i c) := fun i => by rw [cnt_split, if_pos rfl]; omega
  constructor
  · intro ha hv
    have h := vw_less.mp hv
    unfold alone at ha
    simp only [Bool.or_eq_true, decide_eq_true_eq] at ha
    have h0 := h 0 (by decide) (by decide)
    have h1 := h 1 (by decide) (by decide)
    have h2 := h 2 (by decide) (by decide)
    omega
  · intro hv
    refine Classical.byContradiction fun ha => hv (vw_less.mpr fun i h0 h2 => ?_)
    unfold alone at ha
    simp only [Bool.or_eq_true, decide_eq_true_eq, not_or] at ha
    have := hp i
    rcases ax3 h0 h2 with rfl | rfl | rfl <;> omega
theorem al_vw {H : List Cube} (hn : H.Nodup) {c : Cube} (hc : c ∈ H) (h : Al H c) : vwOf (H.filter fun d => !decide (d = c)) ≠ vwOf H := by
  obtain ⟨A, B, rfl⟩ := List.append_of_mem hc
  have hn' := List.nodup_append.mp hn
  have hB : c ∉ B := (List.nodup_cons.mp hn'.2.1).1
  have hA : c ∉ A := fun h => hn'.2.2 c h c List.mem_cons_self rfl
  rw [without_split hA hB]
  intro hv
  obtain ⟨i, h0, h2, h3⟩ := h
  have := vw_less.mp hv i h0 h2
  omega
end Law
set_option linter.all false
set_option maxRecDepth 100000
namespace Law
open PySem Q
theorem sl_view : ∀ (ρ : _root_.Q.Env) (i : Nat), slot (view ρ) i = match slot ρ i with | some (d, 2) => some (d, 0) | x => x
  | [], i => rfl
  | x :: r, i => by
    cases i with
    | zero =>
      match x with
      | none => rfl
      | some (d, 0) => rfl
      | some (d, 1) => rfl
      | some (d, 2) => rfl
      | some (d, n + 3) => rfl
    | succ i =>
      have ih := sl_view r i
      match x with
      | none => exact ih
      | some (d, 0) => exact ih
      | some (d, 1) => exact ih
      | some (d, 2) => exact ih
      | some (d, n + 3) => exact ih
theorem ln_view : ∀ ρ : _root_.Q.Env, (view ρ).length = ρ.length
  | [] => rfl
  | x :: r => by
    have ih := ln_view r
    match x with
    | none => simp [view, ih]
    | some (d, 0) => simp [view, ih]
    | some (d, 1) => simp [view, ih]
    | some (d, 2) => simp [view, ih]
    | some (d, n + 3) => simp [view, ih]
theorem st_ifd {c : _root_.Q.Ctx} {t : T} {a b : Ss} {ρ : _root_.Q.Env} : evS c (.ifd t a b) ρ = toF ρ (evT c t (view ρ)) fun k => if k then evSs c a ρ else evSs c b ρ := by simp only [evS]
theorem st_augd {c : _root_.Q.Ctx} {ρ : _root_.Q.Env} {i : Nat} {a k e : E} {ds : List D} {x z old : Int} {kvs : List (D × D)} {y : D} (h : slot ρ i = some (.list ds, 2)) (ha : evE c a true ρ = .ok (.int x)) (h0 : 0 ≤ x) (hd : ds[x.toNat]? = some (.dict kvs)) (hk : evE c k false ρ = .ok y) (hy : (keyT y && keysT kvs && decide (kvs.length < LIM)) = true) (hg : dget kvs y = some (.int old)) (he : evE c e true ρ = .ok (.int z)) :
    evS c (.augd i a k .sub e) ρ = .nx (put ρ i (some (.list (ds.set x.toNat (.dict (dput kvs y (.int (old - z))))), 2))) := by
  simp only [evS, h, ha, toF_ok, augdF, if_pos h0, hd, hk, hy, if_true, hg, he]
  rfl
theorem st_asgd {c : _root_.Q.Ctx} {ρ : _root_.Q.Env} {i : Nat} {e : E} {ds : List D} (hn : (newItems c.fr e && noDeep ρ) = true) (he : evE c e false ρ = .ok (.list ds)) (hd : ds.all isDictD = true) : evS c (.asgd i e) ρ = .nx (put ρ i (some (.list ds, 2))) := by
  simp only [evS, hn, if_true, he, toF_ok, hd]
def cD3 (k0 k1 k2 : List (D × D)) : D := .list [.dict k0, .dict k1, .dict k2]
theorem CT.key {S H : List Cube} {i : Int} {kvs : List (D × D)} (h : CT S H i kvs) (c : Cube) : (keyT (td (pj i c)) && keysT kvs && decide (kvs.length < LIM)) = true := by
  obtain ⟨ks, h1, h2⟩ := h.dk
  rw [keyT_td, h1.keysT, Bool.true_and, Bool.true_and]
  exact decide_eq_true (by have := h.len; show _ < 16777216; omega)
section
variable {S A B : List Cube} {c : Cube}
theorem ct_less {i : Int} {kvs : List (D × D)} (h : CT S (A ++ c :: B) i kvs) (hc : c ∈ S) : CT S (A ++ B) i (dput kvs (td (pj i c)) (.int ((cntP (A ++ c :: B) i (pj i c) : Nat) - 1))) :=
  h.less hc (fun p => by
    rw [cnt_split]
    by_cases e : p = pj i c
    · rw [if_pos e, if_pos e.symm]; omega
    · rw [if_neg e, if_neg (fun e' => e e'.symm)]; omega) (by rw [cnt_split, if_pos rfl]; omega)
theorem pairs_c (k : Nat) (X1 X2 X3 : Sl) (c : Cube) (x5 : Sl) : ∃ r : D, True ∧ evE (C (k+1)) c_thinned_2 false [X1, X2, X3, some (cu c, 0), none, x5] = .ok (.list [pd (pj 0 c), pd (pj 1 c), pd (pj 2 c)]) := by
  have p0 := pair_of k c (i := 0) (by decide) (by decide)
  have p1 := pair_of k c (i := 1) (by decide) (by decide)
  have p2 := pair_of k c (i := 2) (by decide) (by decide)
  refine ⟨.none, trivial, ?_⟩
  unfold c_thinned_2
  rw [ev_comp_def, axes_g]
  simp [compM, p0, p1, p2]
theorem thin_step (k : Nat) (hc : c ∈ S) {k0 k1 k2 : List (D × D)} (h0 : CT S (A ++ c :: B) 0 k0) (h1 : CT S (A ++ c :: B) 1 k1) (h2 : CT S (A ++ c :: B) 2 k2) (X : Sl) (K : List Cube) (hK : K.length ≤ 600) (x5 : Sl) :
    (okT (A ++ c :: B) c = true → ∃ y5 k0' k1' k2', CT S (A ++ B) 0 k0' ∧ CT S (A ++ B) 1 k1' ∧ CT S (A ++ B) 2 k2' ∧ ∃ r, evSs (C (k+1)) b_thinned_1 [X, some (cD3 k0 k1 k2, 2), some (.list (K.map cu), 1), some (cu c, 0), none, x5] = .nx r ∧ wipe r [3, 4] = [X, some (cD3 k0' k1' k2', 2), some (.list (K.map cu), 1), none, none, y5]) ∧
    (okT (A ++ c :: B) c = false → ∃ r, evSs (C (k+1)) b_thinned_1 [X, some (cD3 k0 k1 k2, 2), some (.list (K.map cu), 1), some (cu c, 0), none, x5] = .nx r ∧ wipe r [3, 4] = [X, some (cD3 k0 k1 k2, 2), some (.list ((K ++ [c]).map cu), 1), none, none, x5]) := by
  obtain ⟨_, _, hp⟩ := pairs_c k X (some (cD3 k0 k1 k2, 2)) (some (.list (K.map cu), 1)) c x5
  have q0 := h0.ix hc
  have q1 := h1.ix hc
  have q2 := h2.ix hc
  have g0 := h0.at hc
  have g1 := h1.at hc
  have g2 := h2.at hc
  have y0 := h0.key c
  have y1 := h1.key c
  have y2 := h2.key c
  have c0 := ct_less h0 hc
  have c1 := ct_less h1 hc
  have c2 := ct_less h2 hc
  rw [td_pd] at g0 g1 g2 y0 y1 y2 c0 c1 c2
  have ht : evE (C (k+1)) c_thinned_3 true (view [X, some (cD3 k0 k1 k2, 2), some (.list (K.map cu), 1), some (cu c, 0), some (.list [pd (pj 0 c), pd (pj 1 c), pd (pj 2 c)], 1), x5]) = .ok (.list [.bool (decide (1 < ((cntP (A ++ c :: B) 0 (pj 0 c) : Nat) : Int))), .bool (decide (1 < ((cntP (A ++ c :: B) 1 (pj 1 c) : Nat) : Int))), .bool (decide (1 < ((cntP (A ++ c :: B) 2 (pj 2 c) : Nat) : Int)))]) := by
    have s1 : slot (view [X, some (cD3 k0 k1 k2, 2), some (.list (K.map cu), 1), some (cu c, 0), some (.list [pd (pj 0 c), pd (pj 1 c), pd (pj 2 c)], 1), x5]) 1 = some (cD3 k0 k1 k2, 0) := by rw [sl_view]; rfl
    have s4 : slot (view [X, some (cD3 k0 k1 k2, 2), some (.list (K.map cu), 1), some (cu c, 0), some (.list [pd (pj 0 c), pd (pj 1 c), pd (pj 2 c)], 1), x5]) 4 = some (.list [pd (pj 0 c), pd (pj 1 c), pd (pj 2 c)], 1) := by rw [sl_view]; rfl
    have hl : (view [X, some (cD3 k0 k1 k2, 2), some (.list (K.map cu), 1), some (cu c, 0), some (.list [pd (pj 0 c), pd (pj 1 c), pd (pj 2 c)], 1), x5]).length = 6 := by rw [ln_view]; rfl
    generalize view [X, some (cD3 k0 k1 k2, 2), some (.list (K.map cu), 1), some (cu c, 0), some (.list [pd (pj 0 c), pd (pj 1 c), pd (pj 2 c)], 1), x5] = ρ at *
    have one : ∀ (i : Int) (z : Int), sem .ix [cD3 k0 k1 k2, .int i] = .ok (.dict (if i = 0 then k0 else if i = 1 then k1 else k2)) → sem .ix [.list [pd (pj 0 c), pd (pj 1 c), pd (pj 2 c)], .int i] = .ok (pd (pj i c)) → sem .ix [.dict (if i = 0 then k0 else if i = 1 then k1 else k2), pd (pj i c)] = .ok (.int z) →
        ((Tg.n 5).bind (.int i) (wipe ρ (Tg.n 5).slots) >>= fun ρ' => evTo (C (k+1)) none ρ' >>= fun b => if b then evE (C (k+1)) (.op .gt (.cons (.op .ix (.cons (.op .ix (.cons (.v 1) (.cons (.v 5) .nil))) (.cons (.op .ix (.cons (.v 4) (.cons (.v 5) .nil))) .nil))) (.cons (.c (.int 1)) .nil))) false ρ' >>= fun y => .ok (some y) else .ok none) = .ok (some (.bool (decide (1 < z)))) := fun i z a1 a2 a3 => by
      have t1 : slot (put (put ρ 5 none) 5 (some (.int i, 0))) 1 = some (cD3 k0 k1 k2, 0) := by rw [slot_put, if_neg (by omega), slot_put, if_neg (by omega), s1]
      have t4 : slot (put (put ρ 5 none) 5 (some (.int i, 0))) 4 = some (.list [pd (pj 0 c), pd (pj 1 c), pd (pj 2 c)], 1) := by rw [slot_put, if_neg (by omega), slot_put, if_neg (by omega), s4]
      have t5 : slot (put (put ρ 5 none) 5 (some (.int i, 0))) 5 = some (.int i, 0) := by rw [slot_put, if_pos ⟨rfl, by rw [put_len, hl]; decide⟩]
      simp only [bind_n, slots_n, wipe_cons, wipe_nil, ok_bind, eto_none, if_true, ev_op, ev_cons, ev_nil, kp_gt, kp_ix, Bool.not_false, ev_v _ _ _ t1, ev_v _ _ _ t5, ev_v1 _ _ t4, ev_c, a1, a2, a3, s_gt]
    have o0 := one 0 _ rfl rfl q0
    have o1 := one 1 _ rfl rfl q1
    have o2 := one 2 _ rfl rfl q2
    unfold c_thinned_3
    rw [ev_comp_def, axes_g, ok_bind]
    simp only [compM, o0, o1, o2, quiet_ok', ok_bind]
    rfl
  have hall := s_all [decide (1 < ((cntP (A ++ c :: B) 0 (pj 0 c) : Nat) : Int)), decide (1 < ((cntP (A ++ c :: B) 1 (pj 1 c) : Nat) : Int)), decide (1 < ((cntP (A ++ c :: B) 2 (pj 2 c) : Nat) : Int))]
  have hok : ([decide (1 < ((cntP (A ++ c :: B) 0 (pj 0 c) : Nat) : Int)), decide (1 < ((cntP (A ++ c :: B) 1 (pj 1 c) : Nat) : Int)), decide (1 < ((cntP (A ++ c :: B) 2 (pj 2 c) : Nat) : Int))] : List Bool).all id = okT (A ++ c :: B) c := by
    have e : ∀ n : Nat, decide (1 < ((n : Nat) : Int)) = decide (1 < n) := fun n => by rw [decide_eq_decide]; omega
    unfold okT
    simp only [List.all_cons, List.all_nil, Bool.and_true, id, e]
  rw [hok] at hall
  simp only [List.map_cons, List.map_nil] at hall
  have P1 : evS (C (k+1)) (.asg (.n 4) c_thinned_2) [X, some (cD3 k0 k1 k2, 2), some (.list (K.map cu), 1), some (cu c, 0), none, x5] = .nx [X, some (cD3 k0 k1 k2, 2), some (.list (K.map cu), 1), some (cu c, 0), some (.list [pd (pj 0 c), pd (pj 1 c), pd (pj 2 c)], 1), x5] := by
    rw [st_asg, hp]; rfl
  have ht2 : evT (C (k+1)) (.e (.op .all (.cons c_thinned_3 .nil))) (view [X, some (cD3 k0 k1 k2, 2), some (.list (K.map cu), 1), some (cu c, 0), some (.list [pd (pj 0 c), pd (pj 1 c), pd (pj 2 c)], 1), x5]) = .ok (okT (A ++ c :: B) c) := by
    simp only [et_e, ev_op, ev_cons, ev_nil, kp_all, Bool.not_false, ht, ok_bind, hall, t_bool]
  constructor
  · intro hk
    rw [hk] at ht2
    have PD : D := .none
    have lp : forL (fun d ρ => toF ρ (Tg.bind (.n 5) d ρ) fun ρ' => evSs (C (k+1)) b_thinned_2 ρ') [] [.int 0, .int 1, .int 2] [X, some (cD3 k0 k1 k2, 2), some (.list (K.map cu), 1), some (cu c, 0), some (.list [pd (pj 0 c), pd (pj 1 c), pd (pj 2 c)], 1), x5] =
        .nx [X, some (cD3 (dput k0 (pd (pj 0 c)) (.int ((cntP (A ++ c :: B) 0 (pj 0 c) : Nat) - 1))) (dput k1 (pd (pj 1 c)) (.int ((cntP (A ++ c :: B) 1 (pj 1 c) : Nat) - 1))) (dput k2 (pd (pj 2 c)) (.int ((cntP (A ++ c :: B) 2 (pj 2 c) : Nat) - 1))), 2), some (.list (K.map cu), 1), some (cu c, 0), some (.list [pd (pj 0 c), pd (pj 1 c), pd (pj 2 c)], 1), some (.int 2, 0)] := by
      have step : ∀ (i : Int) (ds : List D) (y : D) (kvs : List (D × D)) (old : Int) (x : Sl), 0 ≤ i → sem .ix [.list [pd (pj 0 c), pd (pj 1 c), pd (pj 2 c)], .int i] = .ok y → ds[i.toNat]? = some (.dict kvs) → (keyT y && keysT kvs && decide (kvs.length < LIM)) = true → dget kvs y = some (.int old) →
          (toF [X, some (.list ds, 2), some (.list (K.map cu), 1), some (cu c, 0), some (.list [pd (pj 0 c), pd (pj 1 c), pd (pj 2 c)], 1), x] (Tg.bind (.n 5) (.int i) [X, some (.list ds, 2), some (.list (K.map cu), 1), some (cu c, 0), some (.list [pd (pj 0 c), pd (pj 1 c), pd (pj 2 c)], 1), x]) fun ρ' => evSs (C (k+1)) b_thinned_2 ρ') = .nx [X, some (.list (ds.set i.toNat (.dict (dput kvs y (.int (old - 1))))), 2), some (.list (K.map cu), 1), some (cu c, 0), some (.list [pd (pj 0 c), pd (pj 1 c), pd (pj 2 c)], 1), some (.int i, 0)] := fun i ds y kvs old x h0 hy hd hkk hg => by
        refine bd (ρ' := [X, some (.list ds, 2), some (.list (K.map cu), 1), some (cu c, 0), some (.list [pd (pj 0 c), pd (pj 1 c), pd (pj 2 c)], 1), some (.int i, 0)]) (by simp) ?_
        unfold b_thinned_2
        refine _root_.Q.sz ?_
        rw [st_augd (ds := ds) (x := i) (kvs := kvs) (y := y) (old := old) (z := 1) rfl (by simp) h0 hd (by simp only [ev_op, ev_cons, ev_nil, kp_ix, Bool.not_false, ev_v1 _ _ (show slot [X, some (PyData.list ds, 2), some (.list (K.map cu), 1), some (cu c, 0), some (.list [pd (pj 0 c), pd (pj 1 c), pd (pj 2 c)], 1), some (.int i, 0)] 4 = some (.list [pd (pj 0 c), pd (pj 1 c), pd (pj 2 c)], 1) from rfl), ev_v _ _ _ (show slot [X, some (PyData.list ds, 2), some (.list (K.map cu), 1), some (cu c, 0), some (.list [pd (pj 0 c), pd (pj 1 c), pd (pj 2 c)], 1), some (.int i, 0)] 5 = some (.int i, 0) from rfl), ok_bind, hy]) hkk hg (by simp)]
        rfl
      unfold cD3
      rw [forL_nx (step 0 [.dict k0, .dict k1, .dict k2] _ k0 _ x5 (by decide) rfl rfl y0 g0)]
      rw [forL_nx (step 1 _ _ k1 _ _ (by decide) rfl rfl y1 g1)]
      rw [forL_nx (step 2 _ _ k2 _ _ (by decide) rfl rfl y2 g2)]
      rfl
    refine ⟨some (.int 2, 0), _, _, _, c0, c1, c2, ?_⟩
    have P : evSs (C (k+1)) b_thinned_1 [X, some (cD3 k0 k1 k2, 2), some (.list (K.map cu), 1), some (cu c, 0), none, x5] = .nx [X, some (cD3 (dput k0 (pd (pj 0 c)) (.int ((cntP (A ++ c :: B) 0 (pj 0 c) : Nat) - 1))) (dput k1 (pd (pj 1 c)) (.int ((cntP (A ++ c :: B) 1 (pj 1 c) : Nat) - 1))) (dput k2 (pd (pj 2 c)) (.int ((cntP (A ++ c :: B) 2 (pj 2 c) : Nat) - 1))), 2), some (.list (K.map cu), 1), some (cu c, 0), some (.list [pd (pj 0 c), pd (pj 1 c), pd (pj 2 c)], 1), some (.int 2, 0)] := by
      unfold b_thinned_1
      refine sg P1 (_root_.Q.sz ?_)
      rw [st_ifd, ht2, toF_ok, if_pos rfl]
      exact _root_.Q.sz (st_for (xs := [.int 0, .int 1, .int 2]) (axes_g _ _ _) lp)
    exact ⟨_, P, by simp⟩
  · intro hk
    rw [hk] at ht2
    have hl : K.length < 16777216 := by omega
    have P : evSs (C (k+1)) b_thinned_1 [X, some (cD3 k0 k1 k2, 2), some (.list (K.map cu), 1), some (cu c, 0), none, x5] = .nx [X, some (cD3 k0 k1 k2, 2), some (.list ((K ++ [c]).map cu), 1), some (cu c, 0), some (.list [pd (pj 0 c), pd (pj 1 c), pd (pj 2 c)], 1), x5] := by
      unfold b_thinned_1
      refine sg P1 (_root_.Q.sz ?_)
      rw [st_ifd, ht2, toF_ok, if_neg Bool.false_ne_true]
      refine _root_.Q.sz ?_
      simp [hl]
    exact ⟨_, P, by simp⟩
end
end Law
set_option linter.all false
set_option maxRecDepth 100000
namespace Law
open PySem Q
instance : DecidableEq Vw := fun x y => if h : x.a = y.a ∧ x.b = y.b ∧ x.c = y.c then isTrue (by
    cases x; cases y
    obtain ⟨h1, h2, h3⟩ := h
    simp only at h1 h2 h3
    subst h1 h2 h3
    rfl) else isFalse fun e => h (by subst e; exact ⟨rfl, rfl, rfl⟩)
theorem eqv_vw (x y : Vw) : PyData.eqv x.d y.d = decide (x = y) := by
  have h := eqv_rows (α := Pr) [x.a, x.b, x.c] [y.a, y.b, y.c]
  have e : PyData.eqv x.d y.d = PyData.eqvAll ([x.a, x.b, x.c].map fun z : List Pr => PyData.tuple (z.map td)) ([y.a, y.b, y.c].map fun z : List Pr => PyData.tuple (z.map td)) := by
    show PyData.eqv (.tuple _) (.tuple _) = _
    simp [PyData.eqv, map_pd]
  rw [e, h, decide_eq_decide]
  constructor
  · intro q
    cases x; cases y
    simp only [List.cons.injEq, and_true] at q
    obtain ⟨q1, q2, q3⟩ := q
    subst q1 q2 q3
    rfl
  · intro q; rw [q]
theorem pl_vw (x : Vw) : PL 3 x.d := pl_rows [x.a, x.b, x.c]
theorem eq_vw (x y : Vw) : sem .eq [x.d, y.d] = .ok (.bool (decide (x = y))) := by rw [eq_is (pl_vw x).ok (pl_vw y).ok, eqv_vw]
theorem ne_vw (x y : Vw) : sem .ne [x.d, y.d] = .ok (.bool (!decide (x = y))) := by rw [ne_is (pl_vw x).ok (pl_vw y).ok, eqv_vw]
/-! thinned -/
theorem thin_loop (k : Nat) (S : List Cube) : ∀ (r K : List Cube) (k0 k1 k2 : List (D × D)) (x5 : Sl), (∀ c ∈ r, c ∈ S) → r.length + K.length ≤ 600 → CT S (r.reverse ++ K.reverse) 0 k0 → CT S (r.reverse ++ K.reverse) 1 k1 → CT S (r.reverse ++ K.reverse) 2 k2 →
    ∃ (d1 y5 : Sl) (K' : List Cube), forL (fun d ρ => toF ρ (Tg.bind (.n 3) d ρ) fun ρ' => evSs (C (k+1)) b_thinned_1 ρ') [3, 4] (r.map cu) [some (.tuple (S.map cu), 0), some (cD3 k0 k1 k2, 2), some (.list (K.map cu), 1), none, none, x5] = .nx [some (.tuple (S.map cu), 0), d1, some (.list (K'.map cu), 1), none, none, y5] ∧ K'.reverse = thinL r K
  | [], K, k0, k1, k2, x5, _, _, _, _, _ => ⟨_, x5, K, by simp [forL]; rfl, rfl⟩
  | c :: r, K, k0, k1, k2, x5, hS, hl, h0, h1, h2 => by
    have e : (c :: r).reverse ++ K.reverse = r.reverse ++ c :: K.reverse := by simp
    rw [e] at h0 h1 h2
    simp only [List.length_cons] at hl
    obtain ⟨s1, s2⟩ := thin_step k (hS c List.mem_cons_self) h0 h1 h2 (some (.tuple (S.map cu), 0)) K (by omega) x5
    have fwd : ∀ {ρ' ρ2 : _root_.Q.Env} {L : List D}, evSs (C (k+1)) b_thinned_1 [some (.tuple (S.map cu), 0), some (cD3 k0 k1 k2, 2), some (.list (K.map cu), 1), some (cu c, 0), none, x5] = .nx ρ' → wipe ρ' [3, 4] = ρ2 → wipe ρ2 [3, 4] = ρ2 → forL (fun d ρ => toF ρ (Tg.bind (.n 3) d ρ) fun ρ' => evSs (C (k+1)) b_thinned_1 ρ') [3, 4] (cu c :: L) [some (.tuple (S.map cu), 0), some (cD3 k0 k1 k2, 2), some (.list (K.map cu), 1), none, none, x5] = forL (fun d ρ => toF ρ (Tg.bind (.n 3) d ρ) fun ρ' => evSs (C (k+1)) b_thinned_1 ρ') [3, 4] L ρ2 := fun {ρ' ρ2 L} a1 a2 a3 => by
      rw [forL_nx (r := ρ') (bd (ρ' := [some (.tuple (S.map cu), 0), some (cD3 k0 k1 k2, 2), some (.list (K.map cu), 1), some (cu c, 0), none, x5]) (by simp) a1)]
      exact forL_wipe (by rw [a2, a3]) L
    rw [List.map_cons, thinL]
    cases hk : okT (r.reverse ++ c :: K.reverse) c with
    | true =>
      obtain ⟨y5, k0', k1', k2', c0, c1, c2, ρ', a1, a2⟩ := s1 hk
      obtain ⟨d1, y5', K', f1, f2⟩ := thin_loop k S r K k0' k1' k2' y5 (fun d hd => hS d (List.mem_cons_of_mem _ hd)) (by omega) c0 c1 c2
      exact ⟨d1, y5', K', by rw [fwd a1 a2 (by simp), f1], by rw [if_pos rfl]; exact f2⟩
    | false =>
      obtain ⟨ρ', a1, a2⟩ := s2 hk
      have e2 : r.reverse ++ (K ++ [c]).reverse = r.reverse ++ c :: K.reverse := by simp
      obtain ⟨d1, y5', K', f1, f2⟩ := thin_loop k S r (K ++ [c]) k0 k1 k2 x5 (fun d hd => hS d (List.mem_cons_of_mem _ hd)) (by rw [List.length_append]; simp only [List.length_cons, List.length_nil]; omega) (by rw [e2]; exact h0) (by rw [e2]; exact h1) (by rw [e2]; exact h2)
      exact ⟨d1, y5', K', by rw [fwd a1 a2 (by simp), f1], by rw [if_neg Bool.false_ne_true]; exact f2⟩
theorem thinned (k : Nat) (S : List Cube) (h : sb S = true) : callF tab (k+5) f_thinned [.tuple (S.map cu)] = .ok (.tuple ((thin S).map cu), false) := by
  have hl : S.length ≤ 96 := (sb_iff.mp h).1
  have h1 := check_ok k S (by omega) h
  obtain ⟨k0, k1, k2, c0, c1, c2, _, e2⟩ := counts_c (k+2) S (by omega) none none
  have er : S.reverse.reverse ++ ([] : List Cube).reverse = S := by simp
  obtain ⟨d1, y5, K', f1, f2⟩ := thin_loop (k+3) S S.reverse [] k0 k1 k2 none (fun c hc => List.mem_reverse.mp hc) (by rw [List.length_reverse]; simp only [List.length_nil]; omega) (by rw [er]; exact c0) (by rw [er]; exact c1) (by rw [er]; exact c2)
  have e3 : PyData.tuple ((K'.map cu).reverse) = .tuple ((thin S).map cu) := by rw [← List.map_reverse, f2]; rfl
  rw [at_thinned]
  refine run_ok rfl ?_ (fun _ => id) (fun _ => by simp [imm])
  show evSs (C (k+4)) i_thinned.body [some (.tuple (S.map cu), 0), none, none, none, none, none] = _
  rw [← e3]
  unfold i_thinned
  refine sg (ρ' := [some (.tuple (S.map cu), 0), none, none, none, none, none]) (by simp [h1]) ?_
  refine sg (ρ' := [some (.tuple (S.map cu), 0), some (cD3 k0 k1 k2, 2), none, none, none, none]) (by
    rw [st_asgd (ds := [.dict k0, .dict k1, .dict k2]) rfl e2 rfl]
    rfl) ?_
  refine sg (ρ' := [some (.tuple (S.map cu), 0), some (cD3 k0 k1 k2, 2), some (.list [], 1), none, none, none]) (by simp) ?_
  refine sg (st_for (xs := S.reverse.map cu) (by simp [List.map_reverse]) f1) ?_
  generalize K'.map cu = KK at *
  simp
/-! the law's own -/
theorem lthin_loop (k : Nat) (S : List Cube) (hS : ∀ c ∈ S, inS 8 c) (hlS : S.length < 64) : ∀ (r K : List Cube), (r.reverse ++ K.reverse).Sublist S → S.Nodup → vwOf (r.reverse ++ K.reverse) = vwOf S →
    forL (fun d ρ => toF ρ (Tg.bind (.n 2) d ρ) fun ρ' => evSs (C (k+2)) b_u_law_thinned_1 ρ') [2, 3] (r.map cu) [some (.tuple (S.map cu), 0), some (.tuple ((r.reverse ++ K.reverse).map cu), 0), none, none] = .nx [some (.tuple (S.map cu), 0), some (.tuple ((thinL r K).map cu), 0), none, none]
  | [], K, _, _, _ => by simp [forL, thinL]
  | c :: r, K, hsub, hn, hv => by
    have e : (c :: r).reverse ++ K.reverse = r.reverse ++ c :: K.reverse := by simp
    rw [e] at hsub hv ⊢
    have hn2 := hsub.nodup hn
    have hn' := List.nodup_append.mp hn2
    have hB : c ∉ K.reverse := (List.nodup_cons.mp hn'.2.1).1
    have hA : c ∉ r.reverse := fun h => hn'.2.2 c h c List.mem_cons_self rfl
    have hlen := hsub.length_le
    have w := without (k+1) (r.reverse ++ c :: K.reverse) (by omega) c
    rw [without_split hA hB] at w
    have hsub2 : (r.reverse ++ K.reverse).Sublist S := (List.Sublist.append (List.Sublist.refl _) (List.sublist_cons_self _ _)).trans hsub
    have v1 := law_views k (r.reverse ++ K.reverse) (by have := hsub2.length_le; omega) fun d hd => hS d (hsub2.subset hd)
    have v2 := law_views k S hlS hS
    have hq := eq_vw (vwOf (r.reverse ++ K.reverse)) (vwOf S)
    have hiff : decide (vwOf (r.reverse ++ K.reverse) = vwOf S) = okT (r.reverse ++ c :: K.reverse) c := by
      rw [← hv]
      cases hk : okT (r.reverse ++ c :: K.reverse) c with
      | true => exact decide_eq_true (vw_less.mpr (okT_iff.mp hk))
      | false =>
        refine decide_eq_false fun h => ?_
        have := okT_iff.mpr (vw_less.mp h)
        rw [hk] at this
        cases this
    rw [hiff] at hq
    rw [List.map_cons, thinL]
    have step : ∀ (X : List Cube), (if okT (r.reverse ++ c :: K.reverse) c then r.reverse ++ K.reverse else r.reverse ++ c :: K.reverse) = X → ∃ ρ', (toF [some (.tuple (S.map cu), 0), some (.tuple ((r.reverse ++ c :: K.reverse).map cu), 0), none, none] (Tg.bind (.n 2) (cu c) [some (.tuple (S.map cu), 0), some (.tuple ((r.reverse ++ c :: K.reverse).map cu), 0), none, none]) fun ρ' => evSs (C (k+2)) b_u_law_thinned_1 ρ') = .nx ρ' ∧ wipe ρ' [2, 3] = [some (.tuple (S.map cu), 0), some (.tuple (X.map cu), 0), none, none] := fun X hX => by
      have mA : isMut (PyData.tuple ((r.reverse ++ c :: K.reverse).map cu)) = false := rfl
      have mB : isMut (PyData.tuple ((r.reverse ++ K.reverse).map cu)) = false := rfl
      have hX' : PyData.tuple (X.map cu) = if okT (r.reverse ++ c :: K.reverse) c then PyData.tuple ((r.reverse ++ K.reverse).map cu) else PyData.tuple ((r.reverse ++ c :: K.reverse).map cu) := by rw [← hX]; split <;> rfl
      rw [hX']
      generalize PyData.tuple ((r.reverse ++ K.reverse).map cu) = BB at *
      generalize PyData.tuple ((r.reverse ++ c :: K.reverse).map cu) = AA at *
      generalize PyData.tuple (S.map cu) = SS at *
      generalize okT (r.reverse ++ c :: K.reverse) c = b at *
      generalize (vwOf (r.reverse ++ K.reverse)).d = V1 at *
      generalize (vwOf S).d = V2 at *
      have P : evSs (C (k+2)) b_u_law_thinned_1 [some (SS, 0), some (AA, 0), some (cu c, 0), none] = .nx [some (SS, 0), some (if b then BB else AA, 0), some (cu c, 0), some (BB, 0)] := by
        unfold b_u_law_thinned_1
        refine sg (ρ' := [some (SS, 0), some (AA, 0), some (cu c, 0), some (BB, 0)]) (by simp [w, mB]) ?_
        refine sg (ρ' := [some (SS, 0), some (AA, 0), some (cu c, 0), some (BB, 0)]) (by rw [st_frz]; rfl) ?_
        cases b <;> exact _root_.Q.sz (by simp [v1, v2, hq] <;> rfl)
      exact ⟨_, bd (ρ' := [some (SS, 0), some (AA, 0), some (cu c, 0), none]) (by simp) P, by simp⟩
    cases hk : okT (r.reverse ++ c :: K.reverse) c with
    | true =>
      obtain ⟨ρ', a1, a2⟩ := step (r.reverse ++ K.reverse) (by rw [hk]; rfl)
      rw [if_pos rfl, forL_nx (r := ρ') a1, show forL _ [2, 3] (r.map cu) ρ' = _ from forL_wipe (ρ' := [some (.tuple (S.map cu), 0), some (.tuple ((r.reverse ++ K.reverse).map cu), 0), none, none]) (by rw [a2]; simp) _]
      exact lthin_loop k S hS hlS r K hsub2 hn (by rw [hk] at hiff; exact of_decide_eq_true hiff)
    | false =>
      have e2 : r.reverse ++ (K ++ [c]).reverse = r.reverse ++ c :: K.reverse := by simp
      obtain ⟨ρ', a1, a2⟩ := step (r.reverse ++ c :: K.reverse) (by rw [hk]; rfl)
      rw [if_neg Bool.false_ne_true, forL_nx (r := ρ') a1, show forL _ [2, 3] (r.map cu) ρ' = _ from forL_wipe (ρ' := [some (.tuple (S.map cu), 0), some (.tuple ((r.reverse ++ c :: K.reverse).map cu), 0), none, none]) (by rw [a2]; simp) _]
      have := lthin_loop k S hS hlS r (K ++ [c]) (by rw [e2]; exact hsub) hn (by rw [e2]; exact hv)
      rw [e2] at this
      exact this
theorem law_thinned (k : Nat) (S : List Cube) (hS : ∀ c ∈ S, inS 8 c) (hlS : S.length < 64) (hn : S.Nodup) : callF tab (k+3) f_u_law_thinned [.tuple (S.map cu)] = .ok (.tuple ((thin S).map cu), false) := by
  have e : S.reverse.reverse ++ ([] : List Cube).reverse = S := by simp
  have lp := lthin_loop k S hS hlS S.reverse [] (by rw [e]; exact List.Sublist.refl _) hn (by rw [e])
  rw [e] at lp
  rw [at_u_law_thinned]
  refine run_ok rfl ?_ (fun h => by cases h) (fun h => by cases h)
  show evSs (C (k+2)) i_u_law_thinned.body [some (.tuple (S.map cu), 0), none, none, none] = _
  unfold i_u_law_thinned
  refine sg (ρ' := [some (.tuple (S.map cu), 0), some (.tuple (S.map cu), 0), none, none]) (by simp) ?_
  refine sg (st_for (xs := S.reverse.map cu) (by simp [List.map_reverse]) lp) ?_
  show evSs _ (.cons (.ret (.v 1)) .nil) [some (.tuple (S.map cu), 0), some (.tuple ((thin S).map cu), 0), none, none] = _
  simp
end Law
set_option linter.all false
set_option maxRecDepth 100000
namespace Law
open PySem Q
theorem nd_le {α : Type} [DecidableEq α] : ∀ {a b : List α}, a.Nodup → (∀ x ∈ a, x ∈ b) → a.length ≤ b.length
  | [], b, _, _ => Nat.zero_le _
  | x :: a, b, hn, hs => by
    obtain ⟨h1, h2⟩ := List.nodup_cons.mp hn
    have hx : x ∈ b := hs x List.mem_cons_self
    have ih := nd_le (b := b.erase x) h2 fun y hy => (List.mem_erase_of_ne (show y ≠ x from fun e => h1 (by rw [← e]; exact hy))).mpr (hs y (List.mem_cons_of_mem _ hy))
    have e := List.length_erase_of_mem hx
    have hp : 0 < b.length := List.length_pos_of_mem hx
    rw [List.length_cons]
    omega
theorem nd_map {α β : Type} {f : α → β} : ∀ {l : List α}, l.Nodup → (∀ x ∈ l, ∀ y ∈ l, f x = f y → x = y) → (l.map f).Nodup
  | [], _, _ => List.nodup_nil
  | x :: l, hn, h => by
    obtain ⟨h1, h2⟩ := List.nodup_cons.mp hn
    rw [List.map_cons, List.nodup_cons]
    refine ⟨fun hm => ?_, nd_map h2 fun a ha b hb => h a (List.mem_cons_of_mem _ ha) b (List.mem_cons_of_mem _ hb)⟩
    obtain ⟨y, hy, e⟩ := List.mem_map.mp hm
    exact h1 ((h y (List.mem_cons_of_mem _ hy) x List.mem_cons_self e) ▸ hy)
theorem cn_fil {α : Type} (f : α → Int) (x : Int) (L : List α) : cn x (L.map f) = (L.filter fun c => decide (f c = x)).length := by
  unfold cn
  rw [List.countP_map, List.countP_eq_length_filter]
  rfl
theorem prod_len {α β γ : Type} (g : α → β → γ) (A : List α) (B : List β) : (A.flatMap fun a => B.map (g a)).length = A.length * B.length := by
  induction A with
  | nil => simp
  | cons a A ih => rw [List.flatMap_cons, List.length_append, ih, List.length_map, List.length_cons, Nat.succ_mul]; omega
theorem seven {w c b : Nat} (h1 : w ≤ 13) (h2 : w ≤ c * b) : 7 * w ≤ 12 * (c + b) := by
  by_cases h : 8 ≤ c + b
  · omega
  · have hc : c ≤ 7 := by omega
    have hb : b ≤ 7 := by omega
    have : c = 0 ∨ c = 1 ∨ c = 2 ∨ c = 3 ∨ c = 4 ∨ c = 5 ∨ c = 6 ∨ c = 7 := by omega
    rcases this with rfl | rfl | rfl | rfl | rfl | rfl | rfl | rfl <;> omega
theorem few {V : Vw} (h : VOK V) (hl : ∀ j, 0 ≤ j → j ≤ 2 → (V.at j).length ≤ 13) : (wd V).length < 64 := by
  have hn : (wd V).Nodup := srtA_nodup (wd_srt V)
  have r8n : r8.Nodup := by decide
  have la : V.a.length ≤ 13 := hl 0 (by decide) (by decide)
  have lb : V.b.length ≤ 13 := hl 1 (by decide) (by decide)
  have lc : V.c.length ≤ 13 := hl 2 (by decide) (by decide)
  have okp : ∀ j, ∀ p ∈ V.at j, 0 ≤ p.1 ∧ p.1 ≤ 7 := fun j p hp => by
    have := List.all_eq_true.mp (h.ok j) p hp
    simp only [inP, inC, Bool.and_eq_true, decide_eq_true_eq] at this
    exact this.1
  have sW := sum_count (E := r8) (L := (wd V).map fun c => c.1) r8n fun x hx => by
    obtain ⟨c, hc, rfl⟩ := List.mem_map.mp hx
    have := ((wd_mem V c).mp hc).1
    unfold okC inC at this
    simp only [Bool.and_eq_true, decide_eq_true_eq] at this
    exact (r8_mem _).mpr (by omega)
  have sC := sum_count (E := r8) (L := V.c.map fun p => p.1) r8n fun x hx => by
    obtain ⟨p, hp, rfl⟩ := List.mem_map.mp hx
    exact (r8_mem _).mpr (okp 2 p hp)
  have sB := sum_count (E := r8) (L := V.b.map fun p => p.1) r8n fun x hx => by
    obtain ⟨p, hp, rfl⟩ := List.mem_map.mp hx
    exact (r8_mem _).mpr (okp 1 p hp)
  rw [List.length_map] at sW sC sB
  have key : ∀ x, 7 * cn x ((wd V).map fun c => c.1) ≤ 12 * (cn x (V.c.map fun p => p.1) + cn x (V.b.map fun p => p.1)) := fun x => by
    rw [cn_fil, cn_fil, cn_fil]
    have hf : ((wd V).filter fun c => decide (c.1 = x)).Nodup := hn.filter _
    have hm : ∀ c ∈ (wd V).filter (fun c => decide (c.1 = x)), c.1 = x ∧ ∀ i, 0 ≤ i → i ≤ 2 → pj i c ∈ V.at i := fun c hc => by
      obtain ⟨h1, h2⟩ := List.mem_filter.mp hc
      exact ⟨of_decide_eq_true h2, fun i i0 i2 => hit_at ((wd_mem V c).mp h1).2 i0 i2⟩
    generalize (wd V).filter (fun c => decide (c.1 = x)) = F at *
    refine seven ?_ ?_
    · have h1 : (F.map (pj 0)).Nodup := nd_map hf fun a ha b hb e => by
        have e1 := (hm a ha).1
        have e2 := (hm b hb).1
        obtain ⟨a1, a2, a3⟩ := a
        obtain ⟨b1, b2, b3⟩ := b
        simp only [pj, if_true, Prod.mk.injEq] at e e1 e2
        obtain ⟨e3, e4⟩ := e
        subst e1 e3 e4
        rw [e2]
      have h2 := nd_le h1 (b := V.a) fun p hp => by
        obtain ⟨c, hc, rfl⟩ := List.mem_map.mp hp
        exact (hm c hc).2 0 (by decide) (by decide)
      rw [List.length_map] at h2
      omega
    · have h1 : (F.map fun c => (pj 2 c, pj 1 c)).Nodup := nd_map hf fun a ha b hb e => by
        obtain ⟨a1, a2, a3⟩ := a
        obtain ⟨b1, b2, b3⟩ := b
        simp [pj] at e
        obtain ⟨⟨e1, e2⟩, _, e3⟩ := e
        subst e1 e2 e3
        rfl
      have h2 := nd_le h1 (b := (V.c.filter fun p => decide (p.1 = x)).flatMap fun p => (V.b.filter fun p => decide (p.1 = x)).map fun q => (p, q)) fun p hp => by
        obtain ⟨c, hc, rfl⟩ := List.mem_map.mp hp
        obtain ⟨e1, e2⟩ := hm c hc
        rw [List.mem_flatMap]
        refine ⟨pj 2 c, List.mem_filter.mpr ⟨e2 2 (by decide) (by decide), decide_eq_true (by simp [pj, e1])⟩, List.mem_map.mpr ⟨pj 1 c, List.mem_filter.mpr ⟨e2 1 (by decide) (by decide), decide_eq_true (by simp [pj, e1])⟩, rfl⟩⟩
      rw [List.length_map, prod_len (fun p q => (p, q))] at h2
      exact h2
  have k0 := key 0
  have k1 := key 1
  have k2 := key 2
  have k3 := key 3
  have k4 := key 4
  have k5 := key 5
  have k6 := key 6
  have k7 := key 7
  simp only [r8, List.map_cons, List.map_nil, List.sum_cons, List.sum_nil] at sW sC sB
  omega
end Law
set_option linter.all false
set_option maxRecDepth 100000
namespace Law
open PySem Q
theorem wd_in8 (V : Vw) : ∀ c ∈ wd V, inS 8 c := fun c hc => by
  have := ((wd_mem V c).mp hc).1
  unfold okC inC at this
  simp only [Bool.and_eq_true, decide_eq_true_eq] at this
  exact ⟨by omega, by omega, by omega⟩
theorem barD_pl (p : Int × Pr) : dOk (barD p) = true := (pl_t (n := 1) (xs := [.str "none", .int p.1, pd p.2]) fun y hy => by
  simp only [List.mem_cons, List.not_mem_nil, or_false] at hy
  rcases hy with rfl | rfl | rfl
  · exact pl_s _
  · exact pl_i _
  · exact pl_td p.2).ok
theorem oneD_pl (W sp : List Cube) : dOk (oneD W sp) = true := by
  cases sp with
  | nil => exact (pl_t (n := 2) (xs := [.str "one", .tuple (W.map cu)]) fun y hy => by
      simp only [List.mem_cons, List.not_mem_nil, or_false] at hy
      rcases hy with rfl | rfl
      · exact pl_s _
      · exact pl_cus _).ok
  | cons c r => exact (pl_t (n := 2) (xs := [.str "more", .tuple (W.map cu), cu c]) fun y hy => by
      simp only [List.mem_cons, List.not_mem_nil, or_false] at hy
      rcases hy with rfl | rfl | rfl
      · exact pl_s _
      · exact pl_cus _
      · exact (pl_cu c).up (by decide)).ok
theorem solD_pl (V : Vw) : dOk (solD V) = true := (pl_t (n := 2) (xs := [.str "solid", .tuple ((wd V).map cu)]) fun y hy => by
      simp only [List.mem_cons, List.not_mem_nil, or_false] at hy
      rcases hy with rfl | rfl
      · exact pl_s _
      · exact pl_cus _).ok
/-- the views of a turn -/
theorem view_turn (k : Nat) (s dr t z x5 x6 x7 : Sl) (V : Vw) (h : VOK V) (hl : ∀ j, 0 ≤ j → j ≤ 2 → (V.at j).length ≤ 13) : ∃ r, evSs (C (k+8)) b_law_2 [s, dr, t, z, some (V.d, 0), x5, x6, x7, none, none, none, none, none] = .nx r ∧ wipe r [4, 8, 9, 10, 11] = [s, dr, t, z, none, x5, x6, x7, none, none, none, none, none] := by
  have hf := few h hl
  have hw := law_widest (k+7) V
  have hb := law_bar (k+6) V
  cases eb : bar V (wd V) with
  | some p =>
    rw [eb] at hb
    have hb' : callF tab (k+8) f_u_law_bar [V.d] = .ok (barD p, false) := hb
    have hw' : callF tab (k+8) f_u_law_widest [V.d] = .ok (.tuple ((wd V).map cu), false) := hw
    have t0 : callF tab (k+8) f_u_law_told [.int 0, V.d] = .ok (.tuple [], false) := told0 (k+1) V.d _ (need_bar (k+1) V h p eb) rfl rfl
    have t1 : callF tab (k+8) f_u_law_told [.int 1, V.d] = .ok (barD p, false) := told1 (k+1) V.d _ (one_bar (k+1) V h p eb) rfl rfl
    have n0 : sem .ne [.tuple [], .tuple []] = .ok (.bool false) := ne_self (by decide)
    have n1 := ne_self (barD_pl p)
    have mB : isMut (barD p) = false := rfl
    have mW : isMut (PyData.tuple ((wd V).map cu)) = false := rfl
    have isB : isNone (barD p) = false := rfl
    refine ⟨[s, dr, t, z, some (V.d, 0), x5, x6, x7, some (.tuple ((wd V).map cu), 0), some (barD p, 0), none, none, none], ?_, by simp⟩
    generalize PyData.tuple ((wd V).map cu) = WW at *
    generalize barD p = BB at *
    generalize V.d = VV at *
    unfold b_law_2
    refine sg (ρ' := [s, dr, t, z, some (VV, 0), x5, x6, x7, some (WW, 0), some (BB, 0), none, none, none]) (by simp [hw', hb', puts, Es.flags, mB, mW]) (_root_.Q.sz (st_ift (by simp [s_isNN, isB]) ?_))
    exact _root_.Q.sz (st_iff (by simp [t0, t1, n0, n1]) (ss_nil _ _))
  | none =>
    rw [eb] at hb
    have hb' : callF tab (k+8) f_u_law_bar [V.d] = .ok (.none, false) := hb
    have hw' : callF tab (k+8) f_u_law_widest [V.d] = .ok (.tuple ((wd V).map cu), false) := hw
    have hv := wd_views h eb
    have hn := srtA_nodup (wd_srt V)
    have in8 := wd_in8 V
    have t0 : callF tab (k+8) f_u_law_told [.int 0, V.d] = .ok (needD (wd V), false) := told0 (k+1) V.d _ (need_ok (k+1) V h eb (by omega)) rfl (by unfold needD; simp [imm])
    have hone : isMut (oneD (wd V) ((wd V).filter fun c => !alone (wd V) c)) = false ∧ imm (oneD (wd V) ((wd V).filter fun c => !alone (wd V) c)) = true := by
      unfold oneD
      split <;> simp [imm, immAll]
    have t1 : callF tab (k+8) f_u_law_told [.int 1, V.d] = .ok (oneD (wd V) ((wd V).filter fun c => !alone (wd V) c), false) := told1 (k+1) V.d _ (one_ok (k+1) V h eb (by omega)) hone.1 hone.2
    have t2 : callF tab (k+8) f_greatest_with [V.d] = .ok (solD V, false) := with_ok (k+2) V h eb (by omega)
    have n0 : sem .ne [needD (wd V), needD (wd V)] = .ok (.bool false) := ne_self (pl_cus _).ok
    have n1 := ne_self (oneD_pl (wd V) ((wd V).filter fun c => !alone (wd V) c))
    have n2 := ne_self (solD_pl V)
    have lenW : ((wd V).length : Int) < 97 := by omega
    have hneed : ∀ (x10 x11 : Sl), evE (C (k+8)) c_law_1 false [s, dr, t, z, some (V.d, 0), x5, x6, x7, some (.tuple ((wd V).map cu), 0), some (.none, 0), x10, x11, none] = .ok (.list (((wd V).filter (alone (wd V))).map cu)) := fun x10 x11 => by
      unfold c_law_1
      rw [ev_comp (xs := wd V) (g := cu) (h := fun c => if alone (wd V) c then some (cu c) else none)]
      · rw [filterMap_if]
      · simp
      · intro c hc
        have w1 : callF tab (k+8) f_u_law_without [.tuple ((wd V).map cu), cu c] = .ok (.tuple (((wd V).filter fun d => !decide (d = c)).map cu), false) := without (k+7) (wd V) (by omega) c
        have w2 : callF tab (k+8) f_u_law_views [.tuple (((wd V).filter fun d => !decide (d = c)).map cu)] = .ok ((vwOf ((wd V).filter fun d => !decide (d = c))).d, false) := law_views (k+6) ((wd V).filter fun d => !decide (d = c)) (by have := List.length_filter_le (fun d => !decide (d = c)) (wd V); omega) fun d hd => in8 d (List.mem_filter.mp hd).1
        have w3 := ne_vw (vwOf ((wd V).filter fun d => !decide (d = c))) V
        have ha := alone_iff hn hc
        rw [hv] at ha
        have hd : (!decide (vwOf ((wd V).filter fun d => !decide (d = c)) = V)) = alone (wd V) c := by
          cases hq : alone (wd V) c with
          | true => rw [decide_eq_false (ha.mp hq)]; rfl
          | false =>
            have : vwOf ((wd V).filter fun d => !decide (d = c)) = V := Classical.byContradiction fun hne => by
              have := ha.mpr hne
              rw [hq] at this
              cases this
            rw [decide_eq_true this]; rfl
        rw [hd] at w3
        generalize ((wd V).filter fun d => !decide (d = c)).map cu = FF at *
        generalize (vwOf ((wd V).filter fun d => !decide (d = c))).d = VF at *
        cases hq : alone (wd V) c <;> (rw [hq] at w3; simp [w1, w2, w3])
      · show _ ≤ 16777216
        omega
    have hspare : ∀ (x11 : Sl), evE (C (k+8)) c_law_2 false [s, dr, t, z, some (V.d, 0), x5, x6, x7, some (.tuple ((wd V).map cu), 0), some (.none, 0), some (.list (((wd V).filter (alone (wd V))).map cu), 1), x11, none] = .ok (.list (((wd V).filter fun c => !alone (wd V) c).map cu)) := fun x11 => by
      unfold c_law_2
      rw [ev_comp (xs := wd V) (g := cu) (h := fun c => if !alone (wd V) c then some (cu c) else none)]
      · rw [filterMap_if]
      · simp
      · intro c hc
        have w := nin_lb c ((wd V).filter (alone (wd V))) (p := alone (wd V) c = true) ⟨fun ha => List.mem_filter.mpr ⟨hc, ha⟩, fun hm => (List.mem_filter.mp hm).2⟩
        rw [td_cu, ← map_cu] at w
        cases hq : alone (wd V) c
        · rw [hq] at w; simp at w; simp [w]
        · rw [hq] at w; simp at w; simp [w]
      · show _ ≤ 16777216
        omega
    have e3 : PyData.tuple (((wd V).filter (alone (wd V))).map cu) = needD (wd V) := rfl
    refine ⟨[s, dr, t, z, some (V.d, 0), x5, x6, x7, some (.tuple ((wd V).map cu), 0), some (.none, 0), some (.list (((wd V).filter (alone (wd V))).map cu), 1), some (.list (((wd V).filter fun c => !alone (wd V) c).map cu), 1), none], ?_, by simp⟩
    unfold b_law_2
    refine sg (ρ' := [s, dr, t, z, some (V.d, 0), x5, x6, x7, some (.tuple ((wd V).map cu), 0), some (.none, 0), none, none, none]) (by
      generalize (wd V).map cu = WW at *
      simp [hw', hb', puts, Es.flags]) (_root_.Q.sz (st_iff (by simp [s_isNN, isNone]) ?_))
    refine _root_.Q.sz (st_ift (by simp [lenW]) ?_)
    refine sg (ρ' := [s, dr, t, z, some (V.d, 0), x5, x6, x7, some (.tuple ((wd V).map cu), 0), some (.none, 0), some (.list (((wd V).filter (alone (wd V))).map cu), 1), none, none]) (by rw [st_asg, hneed]; rfl) ?_
    refine sg (ρ' := [s, dr, t, z, some (V.d, 0), x5, x6, x7, some (.tuple ((wd V).map cu), 0), some (.none, 0), some (.list (((wd V).filter (alone (wd V))).map cu), 1), some (.list (((wd V).filter fun c => !alone (wd V) c).map cu), 1), none]) (by rw [st_asg, hspare]; rfl) ?_
    refine sg (ρ' := [s, dr, t, z, some (V.d, 0), x5, x6, x7, some (.tuple ((wd V).map cu), 0), some (.none, 0), some (.list (((wd V).filter (alone (wd V))).map cu), 1), some (.list (((wd V).filter fun c => !alone (wd V) c).map cu), 1), none]) (by rw [st_frz]; rfl) ?_
    refine sg (st_iff ?_ (ss_nil _ _)) ?_
    · unfold solD at n2
      cases hs : (wd V).filter fun c => !alone (wd V) c with
      | nil =>
        rw [hs] at t1 n1
        have e4 : oneD (wd V) [] = .tuple [.str "one", .tuple ((wd V).map cu)] := rfl
        rw [e4] at t1 n1
        generalize (wd V).map cu = WW at *
        simp [t0, e3, n0, t1, n1]
      | cons c r =>
        rw [hs] at t1 n1
        have e4 : oneD (wd V) (c :: r) = .tuple [.str "more", .tuple ((wd V).map cu), cu c] := rfl
        rw [e4] at t1 n1
        have : ¬ ((r.length : Int) + 1 = 0) := by omega
        generalize (wd V).map cu = WW at *
        simp [t0, e3, n0, t1, n1, this]
    · refine _root_.Q.sz (st_iff ?_ (ss_nil _ _))
      unfold solD at n2 t2
      generalize (wd V).map cu = WW at *
      simp [t2, n2]
/-- the solids of a turn -/
theorem many_turn (k : Nat) (s : Sl) (dr : List Int) (hd : dr.length = 60) (n : Nat) (hn : n ≤ 4) (size : Int) (z1 : 1 ≤ size) (z8 : size ≤ 8) (many : Nat) (hm : many ≤ 20) : ∃ r, evSs (C (k+8)) b_law_3 [s, some (.list (dr.map .int), 1), some (.int n, 0), some (.int size, 0), none, some (.int many, 0), none, none, none, none, none, none, none] = .nx r ∧ wipe r [5, 6, 7] = [s, some (.list (dr.map .int), 1), some (.int n, 0), some (.int size, 0), none, none, none, none, none, none, none, none, none] := by
  obtain ⟨m, hmm⟩ : ∃ m : Nat, 6 * (n : Int) + (many : Int) % 7 = (m : Int) := ⟨(6 * (n : Int) + (many : Int) % 7).toNat, by omega⟩
  have m6 := s_mul (i := 6) (j := (n : Int)) rfl
  have m7 : sem .mod [.int (many : Int), .int 7] = .ok (.int ((many : Int) % 7)) := s_mod (by decide)
  have c1 : Q.cut (dr.map PyData.int) (some (m : Int)) none = (dr.drop m).map .int := by rw [cut_drop, List.map_drop]
  obtain ⟨S, e3, t1, t2, t3⟩ := law_cubes (k+7) (dr.drop m ++ dr) (by rw [List.length_append]; omega) many (by omega) size z1
  have t8 : ∀ c ∈ S, inS 8 c := fun c hc => inS_le z8 (t2 c hc)
  have hS : sb S = true := sb_iff.mpr ⟨by omega, fun c hc => okC_of (by decide) (t8 c hc), t1⟩
  obtain ⟨q1, q2, q3, q4⟩ := thin_all S
  have ql := q3.length_le
  have hT : sb (thin S) = true := sb_iff.mpr ⟨by omega, fun c hc => okC_of (by decide) (t8 c (q3.subset hc)), t1.sublist q3⟩
  have hTn := srtA_nodup (sb_iff.mp hT).2.2
  have a1 : callF tab (k+8) f_thinned [.tuple (S.map cu)] = .ok (.tuple ((thin S).map cu), false) := thinned (k+3) S hS
  have a2 : callF tab (k+8) f_u_law_thinned [.tuple (S.map cu)] = .ok (.tuple ((thin S).map cu), false) := law_thinned (k+5) S t8 (by omega) (srtA_nodup t1)
  have a3 : callF tab (k+8) f_views_of [.tuple ((thin S).map cu)] = .ok ((vwOf S).d, false) := by
    have := views_of (k+3) (thin S) hT
    rw [q1] at this
    exact this
  have a4 : callF tab (k+8) f_u_law_views [.tuple (S.map cu)] = .ok ((vwOf S).d, false) := law_views (k+6) S (by omega) t8
  have a5 : callF tab (k+8) f_thinned [.tuple ((thin S).map cu)] = .ok (.tuple ((thin S).map cu), false) := by
    have := thinned (k+3) (thin S) hT
    rw [q4] at this
    exact this
  have a6 : callF tab (k+8) f_u_law_views [.tuple ((thin S).map cu)] = .ok ((vwOf (thin S)).d, false) := law_views (k+6) (thin S) (by omega) fun c hc => t8 c (q3.subset hc)
  have n1 : sem .ne [.tuple ((thin S).map cu), .tuple ((thin S).map cu)] = .ok (.bool false) := ne_self (pl_cus _).ok
  have n2 := ne_self (pl_vw (vwOf S)).ok
  have hany : ∀ (x6 : Sl), evE (C (k+8)) c_law_3 true [s, some (.list (dr.map .int), 1), some (.int n, 0), some (.int size, 0), none, some (.int many, 0), x6, some (.tuple ((thin S).map cu), 0), none, none, none, none, none] = .ok (.list ((thin S).map fun _ => .bool false)) := fun x6 => by
    unfold c_law_3
    rw [ev_comp (xs := thin S) (g := cu) (h := fun _ => some (.bool false))]
    · rw [filterMap_some]
    · simp
    · intro c hc
      have w1 : callF tab (k+8) f_u_law_without [.tuple ((thin S).map cu), cu c] = .ok (.tuple (((thin S).filter fun d => !decide (d = c)).map cu), false) := without (k+7) (thin S) (by omega) c
      have w2 : callF tab (k+8) f_u_law_views [.tuple (((thin S).filter fun d => !decide (d = c)).map cu)] = .ok ((vwOf ((thin S).filter fun d => !decide (d = c))).d, false) := law_views (k+6) ((thin S).filter fun d => !decide (d = c)) (by have := List.length_filter_le (fun d => !decide (d = c)) (thin S); omega) fun d hd => t8 d (q3.subset (List.mem_filter.mp hd).1)
      have w3 := eq_vw (vwOf ((thin S).filter fun d => !decide (d = c))) (vwOf (thin S))
      rw [decide_eq_false (al_vw hTn hc (q2 c hc))] at w3
      generalize ((thin S).filter fun d => !decide (d = c)).map cu = FF at *
      generalize (vwOf ((thin S).filter fun d => !decide (d = c))).d = VF at *
      simp [w1, w2, a6, w3]
    · show _ ≤ 16777216
      omega
  have hf := s_any_map (fun _ : Cube => false) (thin S)
  have hf2 : ((thin S).any fun _ => false) = false := by simp
  rw [hf2] at hf
  rw [List.map_append] at e3
  have l1 : ((dr.drop m).map PyData.int).length + (dr.map PyData.int).length ≤ 16777216 := by rw [List.length_map, List.length_map, List.length_drop]; omega
  have e3' : callF tab (k+8) f_u_law_cubes [.list ((dr.drop m).map .int ++ dr.map .int), .int many, .int size] = .ok (.tuple (S.map cu), false) := e3
  refine ⟨[s, some (.list (dr.map .int), 1), some (.int n, 0), some (.int size, 0), none, some (.int many, 0), some (.tuple (S.map cu), 0), some (.tuple ((thin S).map cu), 0), none, none, none, none, none], ?_, by simp⟩
  have mS : isMut (PyData.tuple (S.map cu)) = false := rfl
  have mT : isMut (PyData.tuple ((thin S).map cu)) = false := rfl
  generalize ((thin S).map fun _ => PyData.bool false) = FL at *
  generalize PyData.tuple (S.map cu) = SS at *
  generalize PyData.tuple ((thin S).map cu) = TT at *
  generalize (vwOf S).d = VV at *
  generalize (dr.drop m).map PyData.int = D1 at *
  generalize dr.map PyData.int = D2 at *
  unfold b_law_3
  refine sg (ρ' := [s, some (.list D2, 1), some (.int n, 0), some (.int size, 0), none, some (.int many, 0), some (SS, 0), none, none, none, none, none, none]) (by simp [m6, m7, hmm, c1, l1, e3', mS]) ?_
  refine sg (ρ' := [s, some (.list D2, 1), some (.int n, 0), some (.int size, 0), none, some (.int many, 0), some (SS, 0), some (TT, 0), none, none, none, none, none]) (by simp [a1, mT]) ?_
  refine sg (ρ' := [s, some (.list D2, 1), some (.int n, 0), some (.int size, 0), none, some (.int many, 0), some (SS, 0), some (TT, 0), none, none, none, none, none]) (by rw [st_frz]; rfl) ?_
  refine sg (st_iff (by simp [a2, a3, a4, a5, n1, n2]) (ss_nil _ _)) ?_
  exact _root_.Q.sz (st_iff (by simp [hany, hf]) (ss_nil _ _))
end Law
set_option linter.all false
set_option maxRecDepth 100000
namespace Law
open PySem Q
def sizeOf (n : Nat) : Int := [8, 2, 3, 3, 4].getD n 0
def manyOf (n : Nat) : Nat := [12, 3, 12, 9, 8].getD n 0
theorem sizes (n : Nat) (h : n ≤ 4) : 1 ≤ sizeOf n ∧ sizeOf n ≤ 8 ∧ manyOf n ≤ 12 ∧ sem .ix [.list [.int 8, .int 2, .int 3, .int 3, .int 4], .int n] = .ok (.int (sizeOf n)) ∧ sem .ix [.list [.int 12, .int 3, .int 12, .int 9, .int 8], .int n] = .ok (.int (manyOf n)) := by
  have : n = 0 ∨ n = 1 ∨ n = 2 ∨ n = 3 ∨ n = 4 := by omega
  rcases this with rfl | rfl | rfl | rfl | rfl <;> exact ⟨by decide, by decide, by decide, rfl, rfl⟩
theorem views_loop (k : Nat) (s dr t z x5 x6 x7 : Sl) (Vs : List Vw) (h : ∀ V ∈ Vs, VOK V ∧ ∀ j, 0 ≤ j → j ≤ 2 → (V.at j).length ≤ 13) : forL (fun d ρ => toF ρ (Tg.bind (.n 4) d ρ) fun ρ' => evSs (C (k+8)) b_law_2 ρ') [4, 8, 9, 10, 11] (Vs.map Vw.d) [s, dr, t, z, none, x5, x6, x7, none, none, none, none, none] = .nx [s, dr, t, z, none, x5, x6, x7, none, none, none, none, none] :=
  forL_same (by simp) _ fun V hV => by
    obtain ⟨r, h1, h2⟩ := view_turn k s dr t z x5 x6 x7 V (h V hV).1 (h V hV).2
    exact ⟨r, bd (ρ' := [s, dr, t, z, some (V.d, 0), x5, x6, x7, none, none, none, none, none]) (by simp) h1, h2⟩
theorem many_loop (k : Nat) (s : Sl) (dr : List Int) (hd : dr.length = 60) (n : Nat) (hn : n ≤ 4) (size : Int) (z1 : 1 ≤ size) (z8 : size ≤ 8) : forL (fun d ρ => toF ρ (Tg.bind (.n 5) d ρ) fun ρ' => evSs (C (k+8)) b_law_3 ρ') [5, 6, 7] (([20, 9] : List Nat).map fun m : Nat => .int (m : Int)) [s, some (.list (dr.map .int), 1), some (.int n, 0), some (.int size, 0), none, none, none, none, none, none, none, none, none] = .nx [s, some (.list (dr.map .int), 1), some (.int n, 0), some (.int size, 0), none, none, none, none, none, none, none, none, none] :=
  forL_same (by simp) _ fun m hm => by
    have hm' : m ≤ 20 := by
      simp only [List.mem_cons, List.not_mem_nil, or_false] at hm
      omega
    obtain ⟨r, h1, h2⟩ := many_turn k s dr hd n hn size z1 z8 m hm'
    exact ⟨r, bd (ρ' := [s, some (.list (dr.map .int), 1), some (.int n, 0), some (.int size, 0), none, some (.int m, 0), none, none, none, none, none, none, none]) (by simp) h1, h2⟩
theorem law_turn (k : Nat) (s : Sl) (dr : List Int) (hd : dr.length = 60) (n : Nat) (hn : n ≤ 4) : ∃ r, evSs (C (k+8)) b_law_1 [s, some (.list (dr.map .int), 1), some (.int n, 0), none, none, none, none, none, none, none, none, none, none] = .nx r ∧ wipe r [2, 3, 4, 5, 6, 7, 8, 9, 10, 11] = [s, some (.list (dr.map .int), 1), none, none, none, none, none, none, none, none, none, none, none] := by
  obtain ⟨z1, z8, zm, zs, zy⟩ := sizes n hn
  have c1 : Q.cut (dr.map PyData.int) (some (7 * (n : Int))) none = (dr.drop (7 * n)).map .int := by
    have := cut_drop (dr.map PyData.int) (7 * n)
    rw [List.map_drop, ← this]
    push_cast
    rfl
  have m7 := s_mul (i := 7) (j := (n : Int)) rfl
  obtain ⟨Vs, e1, e2⟩ := drawn_views (k+5) (dr.drop (7 * n) ++ dr) (by rw [List.length_append]; omega) (by rw [List.length_append, List.length_drop]; omega) (manyOf n) (by omega) (sizeOf n) z1 z8
  rw [List.map_append] at e1
  have l1 : ((dr.drop (7 * n)).map PyData.int).length + (dr.map PyData.int).length ≤ 16777216 := by rw [List.length_map, List.length_map, List.length_drop]; omega
  have vl := views_loop k s (some (.list (dr.map .int), 1)) (some (.int n, 0)) (some (.int (sizeOf n), 0)) none none none Vs fun V hV => ⟨(e2 V hV).1, fun j j0 j2 => by have := (e2 V hV).2 j j0 j2; omega⟩
  have ml := many_loop k s dr hd n hn (sizeOf n) z1 z8
  have e1' : callF tab (k+8) f_u_law_drawn_views [.list ((dr.drop (7 * n)).map .int ++ dr.map .int), .int (manyOf n), .int (sizeOf n)] = .ok (.list (Vs.map Vw.d), true) := e1
  refine ⟨[s, some (.list (dr.map .int), 1), some (.int n, 0), some (.int (sizeOf n), 0), none, none, none, none, none, none, none, none, none], ?_, by simp⟩
  · unfold b_law_1
    refine sg (ρ' := [s, some (.list (dr.map .int), 1), some (.int n, 0), some (.int (sizeOf n), 0), none, none, none, none, none, none, none, none, none]) (by simp [zs]) ?_
    refine sg (st_for (xs := Vs.map Vw.d) ?_ vl) ?_
    · generalize (dr.drop (7 * n)).map PyData.int = D1 at *
      generalize dr.map PyData.int = D2 at *
      generalize Vs.map Vw.d = VV at *
      simp [m7, c1, l1, zy, e1']
    · exact _root_.Q.sz (st_for (xs := ([20, 9] : List Nat).map fun m : Nat => .int (m : Int)) (by simp) ml)
theorem turns_loop (k : Nat) (s : Sl) (dr : List Int) (hd : dr.length = 60) : forL (fun d ρ => toF ρ (Tg.bind (.n 2) d ρ) fun ρ' => evSs (C (k+8)) b_law_1 ρ') [2, 3, 4, 5, 6, 7, 8, 9, 10, 11] (([0, 1, 2, 3, 4] : List Nat).map fun n : Nat => .int (n : Int)) [s, some (.list (dr.map .int), 1), none, none, none, none, none, none, none, none, none, none, none] = .nx [s, some (.list (dr.map .int), 1), none, none, none, none, none, none, none, none, none, none, none] :=
  forL_same (by simp) _ fun n hn => by
    have hn' : n ≤ 4 := by
      simp only [List.mem_cons, List.not_mem_nil, or_false] at hn
      omega
    obtain ⟨r, h1, h2⟩ := law_turn k s dr hd n hn'
    exact ⟨r, bd (ρ' := [s, some (.list (dr.map .int), 1), some (.int n, 0), none, none, none, none, none, none, none, none, none, none]) (by simp) h1, h2⟩
def two : List Cube := [(0, 0, 0), (1, 1, 1)]
def zeroV : Vw := ⟨[], [], []⟩
theorem nil_ok : SrtA ([] : List Pr) ∧ ([] : List Pr).all inP = true ∧ ([] : List Pr).length ≤ 64 := ⟨List.Pairwise.nil, rfl, by decide⟩
theorem law_is (k : Nat) (ns : List Int) : callF tab (k+9) f_law [.list (ns.map .int)] = .ok (.bool true, false) := by
  obtain ⟨dr, d1, d2, _⟩ := draws_ok (C (k+7)) ns 60 (by decide)
  have d3 : callF tab (k+8) f_u_law_draws [.list (ns.map .int), .int 60] = .ok (.list (dr.map .int), true) := by
    rw [at_u_law_draws]; exact d1
  have lp := turns_loop k (some (.list (ns.map .int), 0)) dr d2
  have t8 : ∀ c ∈ two, inS 8 c := by
    intro c hc
    simp only [two, List.mem_cons, List.not_mem_nil, or_false] at hc
    rcases hc with rfl | rfl <;> exact ⟨by decide, by decide, by decide⟩
  have hS : sb two = true := by decide +kernel
  have v1 : callF tab (k+8) f_views_of [.tuple (two.map cu)] = .ok ((vwOf two).d, false) := views_of (k+3) two hS
  have vok := vok_of two t8 (by decide)
  have hw : wd (vwOf two) = two := by decide +kernel
  have hb : bar (vwOf two) (wd (vwOf two)) = none := own_bar t8
  have o1 : callF tab (k+8) f_one_solid [(vwOf two).d] = .ok (.tuple [.str "one", .tuple [.tuple [.int 0, .int 0, .int 0], .tuple [.int 1, .int 1, .int 1]]], false) := by
    have := one_ok (k+2) (vwOf two) vok hb (by rw [hw]; decide)
    rw [hw] at this
    have e : two.filter (fun c => !alone two c) = [] := by decide +kernel
    rw [e] at this
    exact this
  have zok : VOK zeroV := vok_mk nil_ok nil_ok nil_ok
  have zb : bar zeroV (wd zeroV) = none := by decide +kernel
  have zw : wd zeroV = [] := by decide +kernel
  have o2 : callF tab (k+8) f_needed_cubes [.tuple [.tuple [], .tuple [], .tuple []]] = .ok (.tuple [], false) := by
    have := need_ok (k+2) zeroV zok zb (by rw [zw]; decide)
    rw [zw] at this
    exact this
  have q1 : sem .eq [.tuple [.str "one", .tuple [.tuple [.int 0, .int 0, .int 0], .tuple [.int 1, .int 1, .int 1]]], .tuple [.str "one", .tuple [.tuple [.int 0, .int 0, .int 0], .tuple [.int 1, .int 1, .int 1]]]] = .ok (.bool true) := eq_self (oneD_pl two [])
  have q2 : sem .eq [.tuple [], .tuple []] = .ok (.bool true) := eq_self (by decide)
  have v1' : callF tab (k+8) f_views_of [.tuple [.tuple [.int 0, .int 0, .int 0], .tuple [.int 1, .int 1, .int 1]]] = .ok ((vwOf two).d, false) := v1
  rw [at_law]
  refine run_ok rfl ?_ (fun _ => id) (fun _ => rfl)
  show evSs (C (k+8)) i_law.body [some (.list (ns.map .int), 0), none, none, none, none, none, none, none, none, none, none, none, none] = _
  generalize ns.map PyData.int = NS at *
  generalize dr.map PyData.int = DR at *
  generalize (vwOf two).d = V2 at *
  unfold i_law
  refine sg (ρ' := [some (.list NS, 0), some (.list DR, 1), none, none, none, none, none, none, none, none, none, none, none]) (by simp [d3]) ?_
  refine sg (st_for (xs := ([0, 1, 2, 3, 4] : List Nat).map fun n : Nat => .int (n : Int)) (by simp [rangeD, small, rngL]) lp) ?_
  simp [v1', o1, o2, q1, q2]
theorem math (ns : List Int) (h : ns.length ≤ 63) : Q.callF tab 40 f_law [.list (ns.map .int)] = .ok (.bool true, false) := law_is 31 ns
end Law
open PySem PySem.W PyProof.Rows
theorem Law.chk : Q.chkAll Law.lw Law.lw.tab.fns Law.defs = true := by decide +kernel
set_option maxHeartbeats 0 in
theorem PySem.Challenge.cw_cubewright_k08_whole_needed_cubes_holds : PySem.Challenge.rw_cubewright_k08_whole_needed_cubes.Holds := by
  w_on; o_law; k_head; (case hw => w_witness2)
  k_fill
  refine L2.walk_of (l := PySem.Challenge.rw_cubewright_k08_whole_needed_cubes) (n := 63) (k := 40) (x := "script") (CX := fun w => L2.CX PySem.Challenge.rw_cubewright_k08_whole_needed_cubes.prog w) (sp := fun w => Q.lawSp Law.lw 40 Law.f_law PySem.Challenge.rw_cubewright_k08_whole_needed_cubes.prog w _) rfl (by decide) rfl ⟨rfl, by decide, by decide⟩ (fun w h Y => PySem.W.kIn_of Y) ?F (fun w H a ns hl _ hS => Q.law_end ?nl hS (Law.math ns hl)) (fun w H s e s' h => Q.cx_end H s e s' h)
  case nl => first | rfl | k_is
  case F =>
    intro w mg fa h KX G hmg
    have hg : Q.GlAll _ mg Law.lw.gln Law.lw.tab.gls := ⟨Q.gl_int KX G (by k_is), Q.gl_int KX G (by k_is), Q.gl_any KX G (by k_is) (by first | rfl | k_is | decide +kernel), Q.gl_str KX G (by k_is), trivial⟩
    have he : Q.ExAll _ mg Law.lw.exn := ⟨Q.ex_one KX G (by k_is) (by k_exc) (by k_is) (by k_is) (by k_is), Q.ex_one KX G (by k_is) (by k_exc) (by k_is) (by k_is) (by k_is), Q.ex_one KX G (by k_is) (by k_exc) (by k_is) (by k_is) (by k_is), Q.ex_one KX G (by k_is) (by k_exc) (by k_is) (by k_is) (by k_is), trivial⟩
    have hb : Q.BtAll _ Q.bnames := ⟨Q.bt_one KX (by k_is), Q.bt_one KX (by k_is), Q.bt_one KX (by k_is), Q.bt_one KX (by k_is), Q.bt_one KX (by k_is), Q.bt_one KX (by k_is), Q.bt_one KX (by k_is), Q.bt_one KX (by k_is), Q.bt_one KX (by k_is), Q.bt_one KX (by k_is), Q.bt_one KX (by k_is), Q.bt_one KX (by k_is), Q.bt_one KX (by k_is), Q.bt_one KX (by k_is), Q.bt_one KX (by k_is), Q.bt_one KX (by k_is), Q.bt_one KX (by k_is), Q.bt_one KX (by k_is), Q.bt_one KX (by k_is), Q.bt_one KX (by k_is), Q.bt_one KX (by k_is), trivial⟩
    have hf : Q.FnAll _ mg Law.lw.fnn Law.defs := ⟨Q.fn_one KX G (by k_is) (by k_is) (by k_is) (by k_is) (fun _ _ _ _ _ _ us hl => match us, hl with | [_, _, _], _ => rfl),
      Q.fn_one KX G (by k_is) (by k_is) (by k_is) (by k_is) (fun _ _ _ _ _ _ us hl => match us, hl with | [_], _ => rfl),
      Q.fn_one KX G (by k_is) (by k_is) (by k_is) (by k_is) (fun _ _ _ _ _ _ us hl => match us, hl with | [_], _ => rfl),
      Q.fn_one KX G (by k_is) (by k_is) (by k_is) (by k_is) (fun _ _ _ _ _ _ us hl => match us, hl with | [_], _ => rfl),
      Q.fn_one KX G (by k_is) (by k_is) (by k_is) (by k_is) (fun _ _ _ _ _ _ us hl => match us, hl with | [_], _ => rfl),
      Q.fn_one KX G (by k_is) (by k_is) (by k_is) (by k_is) (fun _ _ _ _ _ _ us hl => match us, hl with | [_, _], _ => rfl),
      Q.fn_one KX G (by k_is) (by k_is) (by k_is) (by k_is) (fun _ _ _ _ _ _ us hl => match us, hl with | [_, _], _ => rfl),
      Q.fn_one KX G (by k_is) (by k_is) (by k_is) (by k_is) (fun _ _ _ _ _ _ us hl => match us, hl with | [_], _ => rfl),
      Q.fn_one KX G (by k_is) (by k_is) (by k_is) (by k_is) (fun _ _ _ _ _ _ us hl => match us, hl with | [_], _ => rfl),
      Q.fn_one KX G (by k_is) (by k_is) (by k_is) (by k_is) (fun _ _ _ _ _ _ us hl => match us, hl with | [_], _ => rfl),
      Q.fn_one KX G (by k_is) (by k_is) (by k_is) (by k_is) (fun _ _ _ _ _ _ us hl => match us, hl with | [_], _ => rfl),
      Q.fn_one KX G (by k_is) (by k_is) (by k_is) (by k_is) (fun _ _ _ _ _ _ us hl => match us, hl with | [_], _ => rfl),
      Q.fn_one KX G (by k_is) (by k_is) (by k_is) (by k_is) (fun _ _ _ _ _ _ us hl => match us, hl with | [_], _ => rfl),
      Q.fn_one KX G (by k_is) (by k_is) (by k_is) (by k_is) (fun _ _ _ _ _ _ us hl => match us, hl with | [_], _ => rfl),
      Q.fn_one KX G (by k_is) (by k_is) (by k_is) (by k_is) (fun _ _ _ _ _ _ us hl => match us, hl with | [_, _], _ => rfl),
      Q.fn_one KX G (by k_is) (by k_is) (by k_is) (by k_is) (fun _ _ _ _ _ _ us hl => match us, hl with | [_], _ => rfl),
      Q.fn_one KX G (by k_is) (by k_is) (by k_is) (by k_is) (fun _ _ _ _ _ _ us hl => match us, hl with | [_], _ => rfl),
      Q.fn_one KX G (by k_is) (by k_is) (by k_is) (by k_is) (fun _ _ _ _ _ _ us hl => match us, hl with | [_], _ => rfl),
      Q.fn_one KX G (by k_is) (by k_is) (by k_is) (by k_is) (fun _ _ _ _ _ _ us hl => match us, hl with | [_], _ => rfl),
      Q.fn_one KX G (by k_is) (by k_is) (by k_is) (by k_is) (fun _ _ _ _ _ _ us hl => match us, hl with | [_], _ => rfl),
      Q.fn_one KX G (by k_is) (by k_is) (by k_is) (by k_is) (fun _ _ _ _ _ _ us hl => match us, hl with | [_], _ => rfl),
      Q.fn_one KX G (by k_is) (by k_is) (by k_is) (by k_is) (fun _ _ _ _ _ _ us hl => match us, hl with | [_, _], _ => rfl),
      Q.fn_one KX G (by k_is) (by k_is) (by k_is) (by k_is) (fun _ _ _ _ _ _ us hl => match us, hl with | [_, _, _], _ => rfl),
      Q.fn_one KX G (by k_is) (by k_is) (by k_is) (by k_is) (fun _ _ _ _ _ _ us hl => match us, hl with | [_, _], _ => rfl),
      Q.fn_one KX G (by k_is) (by k_is) (by k_is) (by k_is) (fun _ _ _ _ _ _ us hl => match us, hl with | [_], _ => rfl),
      Q.fn_one KX G (by k_is) (by k_is) (by k_is) (by k_is) (fun _ _ _ _ _ _ us hl => match us, hl with | [_], _ => rfl),
      Q.fn_one KX G (by k_is) (by k_is) (by k_is) (by k_is) (fun _ _ _ _ _ _ us hl => match us, hl with | [_], _ => rfl),
      Q.fn_one KX G (by k_is) (by k_is) (by k_is) (by k_is) (fun _ _ _ _ _ _ us hl => match us, hl with | [_, _, _], _ => rfl),
      Q.fn_one KX G (by k_is) (by k_is) (by k_is) (by k_is) (fun _ _ _ _ _ _ us hl => match us, hl with | [_, _], _ => rfl),
      Q.fn_one KX G (by k_is) (by k_is) (by k_is) (by k_is) (fun _ _ _ _ _ _ us hl => match us, hl with | [_, _], _ => rfl),
      Q.fn_one KX G (by k_is) (by k_is) (by k_is) (by k_is) (fun _ _ _ _ _ _ us hl => match us, hl with | [_], _ => rfl),
      Q.fn_one KX G (by k_is) (by k_is) (by k_is) (by k_is) (fun _ _ _ _ _ _ us hl => match us, hl with | [_], _ => rfl), trivial⟩
    exact Q.law_all (L := Law.lw) (kk := 40) (f := Law.f_law) (defs := Law.defs) (d := Law.defs.getD Law.f_law ⟨.Pass ⟨0, 0, 0, 0⟩, [], []⟩) (x := "law") (p := "script") KX G hmg rfl Law.chk rfl rfl rfl hg he hb hf rfl (by first | rfl | k_is | decide +kernel) (Q.kl_mk (by repeat' first | exact trivial | refine And.intro ⟨_, _, rfl, rfl⟩ ?_ | refine And.intro trivial ?_ | refine And.intro (Or.inr (And.intro ?_ rfl)) ?_ | refine And.intro (Or.inl rfl) ?_) (by first | rfl | decide +kernel))
