import PyProof.Rows.All
import HandS.ForMost
import HandS.StrMore
import HandS.TupAny
import KE.SortData
import KE.KeyNested
import HandS.TupMul
import KE.KDictKeyed
import HandS.Deep
import PyProof.AutoSeq1
import HandS.TupSets
import HandS.SetFor
import HandS.DictEq
import PyProof.DictFindH
import PyProof.StrOps2
import KE.GoesEnum
import KE.GoesMore
import HandS.Zip
import HandS.RaiseMore
import HandS.IsInst
import PyProof.ListStr
import KE.KDictCopyH
import KE.KDictList
import KE.KDictWalk
import HandS.Iter
import KE.KDictDisplayH
import KE.KDictPairs
import KE.KDictZip
import KE.KDictOf
import KE.KDictSum
import KE.KDictItemsList
import HandS.Conv
import HandS.Style
import HandS.Set
import HandS.TryOnly
import KE.LtData
import PySem.Challenge.RW_keydeeds_k41_whole_steps_to_deeds
set_option linter.all false
set_option Elab.async false
set_option maxRecDepth 100000
set_option maxHeartbeats 8000000
/-! KdCore: a small language (positions stripped, names as slot numbers) and its evaluator over plain data. -/
namespace KD
open PySem
abbrev D := PyData
/-- what an evaluation comes to -/
inductive R (α : Type) where
  | ok (a : α)
  | err (c : Nat)
  | bot
namespace R
def bind {α β : Type} (x : R α) (f : α → R β) : R β :=
  match x with
  | .ok a => f a
  | .err c => .err c
  | .bot => .bot
@[simp] theorem bind_ok {α β : Type} (a : α) (f : α → R β) : (R.ok a).bind f = f a := id rfl
@[simp] theorem bind_err {α β : Type} (c : Nat) (f : α → R β) : (R.err c : R α).bind f = .err c := id rfl
@[simp] theorem bind_bot {α β : Type} (f : α → R β) : (R.bot : R α).bind f = .bot := id rfl
def guard {α : Type} (c : Bool) (x : R α) : R α := match c with
  | true => x
  | false => .bot
@[simp] theorem guard_true {α : Type} (x : R α) : R.guard true x = x := id rfl
@[simp] theorem guard_false {α : Type} (x : R α) : R.guard false x = .bot := id rfl
end R
/-- the largest size of lists and texts here -/
abbrev lim : Nat := 1000000
inductive BOp where
  | add | sub | mul | fdiv | mod | pow
  deriving DecidableEq
inductive COp where
  | eq | ne | lt | le | gt | ge | is | isnot | isin | notin | eqs
  deriving DecidableEq
/-- targets -/
inductive Tg where
  | name (i : Nat)
  | tup (ts : List Tg)
mutual
def Tg.names : Tg → List Nat
  | .name i => [i]
  | .tup ts => Tg.namesAll ts
def Tg.namesAll : List Tg → List Nat
  | [] => []
  | t :: ts => t.names ++ Tg.namesAll ts
end
/-- what is walked -/
inductive IK where
  | seq | range1 | range2 | enum | zip | items
  deriving DecidableEq
/-- its items are pairs made for the target -/
def IK.pairs : IK → Bool
  | .enum | .zip | .items => true
  | _ => false
def Tg.isT : Tg → Bool
  | .tup _ => true
  | .name _ => false
/-- built-in functions and types that are called -/
inductive Blt where
  | len | tuple | list | dict | sorted | sortedRev | sortedSet | lenSet | sum | maxL | minL | max2 | min2 | all | any | int | str
  | isStr | isTuple | isBool | isInt | listZip | values | itemsSorted | tupRange
  deriving DecidableEq
/-- methods -/
inductive Mth where
  | join | split | startswith | ljust | rstrip | upper | get | count | index
  deriving DecidableEq
inductive Ex where
  | cst (d : D)
  | glob (x : Str) (d : D)
  | var (i : Nat)
  | tup (es : List Ex)
  | lst (es : List Ex)
  | dct (ks vs : List Ex)
  | bin (op : BOp) (a b : Ex)
  | neg (a : Ex)
  | cmp (op : COp) (a b : Ex)
  | chain (op op' : COp) (a b c : Ex)
  | band (a b : Ex)
  | bor (a b : Ex)
  | bnot (a : Ex)
  | ife (c a b : Ex)
  | ix (a i : Ex)
  | slc (a lo hi : Ex)
  | stp (a lo st : Ex)
  | call (f : Nat) (es : List Ex)
  | blt (b : Blt) (es : List Ex)
  | mth (m : Mth) (a : Ex) (es : List Ex)
  | comp (elt : Ex) (t : Tg) (k : IK) (its : List Ex) (cond : Ex)
  | sortk (a : Ex) (i : Nat) (key : Ex)
inductive Stm where
  | asg (t : Tg) (e : Ex)
  | own (i : Nat) (e : Ex)
  | app (i : Nat) (e : Ex)
  | ext (i : Nat) (e : Ex)
  | updD (i : Nat) (e : Ex)
  | seti (i : Nat) (k v : Ex)
  | pop (t : Tg) (i : Nat) (arg : Option Int)
  | iff (c : Ex) (a b : List Stm)
  | whl (c : Ex) (body : List Stm) (w : List Nat)
  | for_ (t : Tg) (k : IK) (its : List Ex) (body : List Stm) (w : List Nat)
  | ret (e : Ex)
  | pas
  | brk
  | cnt
  | frz (i : Nat)
  | wip (is : List Nat)
/-- a slot: a value that stands, or an object that only this slot holds -/
inductive Sl where
  | val (d : D)
  | own (d : D)
abbrev Env := List (Option Sl)
inductive Flow where
  | nx (e : Env)
  | br (e : Env)
  | cn (e : Env)
  | rt (d : D)
structure Fn where
  np : Nat
  nl : Nat
  body : List Stm
/-! ### values -/
/-- the script, as it is handed to the law (no other datum is of this form) -/
def scr (xs : List D) : D := .dict [(.dict [], .list xs)]
def isScr : D → Option (List D)
  | .dict [(.dict [], .list xs)] => some xs
  | _ => none
@[simp] theorem isScr_scr (xs : List D) : isScr (scr xs) = some xs := rfl
def chars (s : Str) : List D := s.cps.toList.map fun c => .str ⟨#[c]⟩
mutual
def keyOf : D → Option NestedKey
  | .none => some .none
  | .bool _ => none
  | .int i => some (.num i)
  | .str s => some (.text s)
  | .tuple xs => (keysOf xs).map .tup
  | .list _ => none
  | .dict _ => none
def keysOf : List D → Option (List NestedKey)
  | [] => some []
  | x :: xs => (keyOf x).bind fun k => (keysOf xs).map (k :: ·)
end
/-- what a key is: 0 a plain one, 1 a tuple, 2 none -/
def flv : D → Nat
  | .tuple _ => 1
  | .list _ => 2
  | .dict _ => 2
  | .bool _ => 2
  | _ => 0
/-- the entries of a dict, not the script's code -/
def dictOk (kvs : List (D × D)) : Bool := kvs.all fun p => decide (flv p.1 < 2)
/-- a key of the kind that the dict's keys are -/
def keyAt (kvs : List (D × D)) (d : D) : Option NestedKey := match keyOf d with
  | some k => if (decide (k.depth ≤ 8) && kvs.all fun p => flv p.1 == flv d) = true then some k else none
  | none => none
/-- the value at a key -/
def dfind (k : NestedKey) : List (D × D) → Option D
  | [] => none
  | (a, v) :: r => if keyOf a = some k then some v else dfind k r
def dhas (k : NestedKey) (kvs : List (D × D)) : Bool := (dfind k kvs).isSome
def dset (k : NestedKey) (a v : D) : List (D × D) → List (D × D)
  | [] => [(a, v)]
  | (b, w) :: r => if keyOf b = some k then (b, v) :: r else (b, w) :: dset k a v r
def dputs : List (D × D) → List (D × D) → Option (List (D × D))
  | acc, [] => some acc
  | acc, (a, v) :: r => match keyAt acc a with
    | some k => dputs (dset k a v acc) r
    | none => none
def pairsOf : List D → Option (List (D × D))
  | [] => some []
  | .tuple [a, b] :: r => (pairsOf r).map ((a, b) :: ·)
  | _ :: _ => none
def addD : D → D → R D
  | .int i, .int j => .ok (.int (i + j))
  | .str x, .str y => .guard (decide (x.length + y.length ≤ lim)) (.ok (.str (x ++ y)))
  | .tuple xs, .tuple ys => .guard (decide (xs.length + ys.length ≤ lim)) (.ok (.tuple (xs ++ ys)))
  | .list xs, .list ys => .guard (decide (xs.length + ys.length ≤ lim)) (.ok (.list (xs ++ ys)))
  | _, _ => .bot
def subD : D → D → R D
  | .int i, .int j => .ok (.int (i - j))
  | _, _ => .bot
def wide : Int := 18446744073709551616
def smallI (i : Int) : Bool := decide (-wide < i) && decide (i < wide)
def mulD : D → D → R D
  | .int i, .int j => .guard (smallI i || smallI j) (.ok (.int (i * j)))
  | .list xs, .int j => .guard (decide (xs.length * j.toNat ≤ lim) && smallI (j * 4)) (.ok (.list (List.replicate j.toNat xs).flatten))
  | .str s, .int j => .guard (decide (s.length * j.toNat ≤ lim) && smallI (j * 4)) (.ok (.str ⟨(List.replicate j.toNat s.cps.toList).flatten.toArray⟩))
  | .tuple xs, .int j => .guard (decide (xs.length ≤ 1000) && !xs.isEmpty && decide (2 ≤ j) && decide (j ≤ 1000)) (.ok (.tuple (List.replicate j.toNat xs).flatten))
  | _, _ => .bot
def fdivD : D → D → R D
  | .int i, .int j => .guard (decide (0 < j) && decide (j < 1073741824)) (.ok (.int (i / j)))
  | _, _ => .bot
def modD : D → D → R D
  | .int i, .int j => .guard (decide (0 < j)) (.ok (.int (i % j)))
  | _, _ => .bot
def powD : D → D → R D
  | .int i, .int j => .guard (decide (0 ≤ j) && decide (j ≤ 1000) && smallI i && decide (i.natAbs < 18446744073709551616)) (.ok (.int (i ^ j.toNat)))
  | _, _ => .bot
def binD : BOp → D → D → R D
  | .add => addD
  | .sub => subD
  | .mul => mulD
  | .fdiv => fdivD
  | .mod => modD
  | .pow => powD
def negD : D → R D
  | .int i => .ok (.int (-i))
  | _ => .bot
/-! no dict within, not too deep -/
mutual
def plain : D → Bool
  | .none | .bool _ | .int _ | .str _ => true
  | .list xs | .tuple xs => plains xs
  | .dict _ => false
def plains : List D → Bool
  | [] => true
  | x :: xs => plain x && plains xs
end
def shp (d : D) : Bool := plain d && decide (d.depth ≤ 60)
def eqD : D → D → R Bool
  | .dict kvs, .dict [] => .guard (dictOk kvs) (.ok kvs.isEmpty)
  | a, b => .guard (shp a && shp b) (.ok (PyData.eqv a b))
/-! lists of dicts, whose keys are tuples and whose values are texts -/
def isStrD : D → Bool
  | .str _ => true
  | _ => false
def tupDict : D → Bool
  | .dict kvs => kvs.all fun p => flv p.1 == 1 && isStrD p.2
  | _ => false
def strEq : D → D → Bool
  | .str x, .str y => decide (x = y)
  | _, _ => false
def hitD (b : List (D × D)) (p : D × D) : Bool := match keyOf p.1 with
  | some k => (match dfind k b with
    | some v => strEq p.2 v
    | none => false)
  | none => false
def dictsEq (a b : List (D × D)) : Bool := a.length == b.length && a.all (hitD b)
def dEq : D → D → Bool
  | .dict a, .dict b => dictsEq a b
  | _, _ => false
def eqsD : D → D → R Bool
  | .list as, .list bs => .guard (as.length == bs.length && (as.all tupDict && bs.all tupDict)) (.ok ((as.zip bs).all fun p => dEq p.1 p.2))
  | .dict a, .dict b => .guard (tupDict (.dict a) && tupDict (.dict b)) (.ok (dictsEq a b))
  | _, _ => .bot
def ltS (x y : Str) : Bool := decide (x.cps.toList < y.cps.toList)
def ltD : D → D → R Bool
  | .int i, .int j => .ok (decide (i < j))
  | .str x, .str y => .ok (ltS x y)
  | _, _ => .bot
def leD : D → D → R Bool
  | .int i, .int j => .ok (decide (i ≤ j))
  | .str x, .str y => .ok (!ltS y x)
  | _, _ => .bot
def isNone : D → Bool
  | .none => true
  | _ => false
/-- a text within a text -/
def subS (x y : Str) : Bool := !(Builtin.Str.occurrences y x 0 y.length 1).isEmpty
def inD : D → D → R Bool
  | .str x, .str y => .ok (subS x y)
  | x, .list ys => .guard (shp x && shp (.list ys)) (.ok (ys.any fun z => PyData.eqv z x))
  | x, .tuple ys => .guard (shp x && shp (.tuple ys)) (.ok (ys.any fun z => PyData.eqv z x))
  | x, .dict kvs => (match keyAt kvs x with
    | some k => .ok (dhas k kvs)
    | none => .bot)
  | _, _ => .bot
def cmpB : COp → D → D → R Bool
  | .eq, a, b => eqD a b
  | .ne, a, b => (eqD a b).bind fun r => .ok (!r)
  | .lt, a, b => ltD a b
  | .le, a, b => leD a b
  | .gt, a, b => ltD b a
  | .ge, a, b => leD b a
  | .is, a, b => .guard (isNone b) (.ok (isNone a))
  | .isnot, a, b => .guard (isNone b) (.ok (!isNone a))
  | .isin, a, b => inD a b
  | .notin, a, b => (inD a b).bind fun r => .ok (!r)
  | .eqs, a, b => eqsD a b
def ofOpt {α : Type} : Option α → R α
  | some a => .ok a
  | none => .bot
def ixD : D → D → R D
  | .list xs, .int i => ofOpt (L2.atI xs i)
  | .tuple xs, .int i => ofOpt (L2.atI xs i)
  | .str s, .int i => .guard (decide (s.length ≤ lim)) (ofOpt ((L2.atI s.cps.toList i).map fun c => .str ⟨#[c]⟩))
  | .dict kvs, d => (match keyAt kvs d with
    | some k => ofOpt (dfind k kvs)
    | none => (match isScr (.dict kvs) with
      | some xs => (match d with
        | .int i => ofOpt (L2.atI xs i)
        | _ => .bot)
      | none => .bot))
  | _, _ => .bot
def cutL {α : Type} (xs : List α) (lo hi : Option Int) : List α := (xs.drop (HT.sIx xs.length 0 lo)).take (HT.sIx xs.length xs.length hi - HT.sIx xs.length 0 lo)
def cutD (a : D) (l h : Option Int) : R D := match a with
  | .list xs => .ok (.list (cutL xs l h))
  | .tuple xs => .ok (.tuple (cutL xs l h))
  | .str s => .guard (decide (s.length ≤ lim)) (.ok (.str (L2.cutS s l h)))
  | _ => .bot
/-- a part of a slice: left out, or a number -/
def partX (e : Ex) (d : D) : R (Option Int) := match e with
  | .cst .none => .ok none
  | _ => (match d with
    | .int i => .ok (some i)
    | _ => .bot)
/-- every st-th item -/
def every {α : Type} (st : Nat) : Nat → List α → List α
  | _, [] => []
  | 0, x :: xs => x :: every st (st - 1) xs
  | n + 1, _ :: xs => every st n xs
def stpD (a lo st : D) : R D := match a, lo, st with
  | .list xs, .none, .int (-1) => .ok (.list xs.reverse)
  | .tuple xs, .none, .int (-1) => .ok (.tuple xs.reverse)
  | .list xs, .int i, .int j => .guard (decide (0 ≤ i) && decide (i < 1000000) && decide (0 < j) && decide (j < 1000000)) (.ok (.list (every j.toNat 0 (xs.drop i.toNat))))
  | .tuple xs, .none, .int j => .guard (decide (2 ≤ j) && decide (j < 1000000)) (.ok (.tuple (every j.toNat 0 xs)))
  | a, .none, .int (-1) => (match isScr a with
    | some xs => .ok (.list xs.reverse)
    | none => .bot)
  | _, _, _ => .bot
/-- the items of what is walked -/
def seqD : D → R (List D)
  | .list xs => .ok xs
  | .tuple xs => .ok xs
  | .str s => .guard (decide (s.length ≤ lim)) (.ok (chars s))
  | .dict kvs => (match dictOk kvs with
    | true => .ok (kvs.map (·.1))
    | false => (match isScr (.dict kvs) with
      | some xs => .ok xs
      | none => .bot))
  | _ => .bot
def far : Int := 4611686018427387904
def enumFrom (i : Nat) : List D → List D
  | [] => []
  | x :: xs => .tuple [.int i, x] :: enumFrom (i + 1) xs
def zipD : List D → List D → List D
  | x :: xs, y :: ys => .tuple [x, y] :: zipD xs ys
  | _, _ => []
def walkD : IK → List D → R (List D)
  | .seq, [a] => seqD a
  | .range1, [.int n] => .guard (decide (-far ≤ n) && decide (n ≤ 1000000)) (.ok ((List.range n.toNat).map fun (i : Nat) => PyData.int (i : Int)))
  | .range2, [.int a, .int b] => .guard (decide (0 ≤ a) && decide (a < far) && decide (-far ≤ b) && decide (b ≤ 1000000)) (.ok ((List.range (b - a).toNat).map fun (i : Nat) => PyData.int (a + (i : Int))))
  | .enum, [.list xs] => .ok (enumFrom 0 xs)
  | .enum, [.tuple xs] => .ok (enumFrom 0 xs)
  | .zip, [.list xs, .list ys] => .ok (zipD xs ys)
  | .zip, [.tuple xs, .tuple ys] => .ok (zipD xs ys)
  | .items, [.dict kvs] => .guard (dictOk kvs) (.ok (kvs.map fun p => .tuple [p.1, p.2]))
  | _, _ => .bot
/-! ### built-ins -/
def alikes (xs : List D) : Bool := xs.all fun a => xs.all fun b => W.alike a b
def tupNE : D → Bool
  | .tuple (_ :: _) => true
  | _ => false
def flatS : D → Bool
  | .none => false
  | .tuple _ => false
  | _ => true
def sortable (xs : List D) : Bool := alikes xs && (xs.all tupNE || xs.all flatS) && xs.all shp
def leqD (a b : D) : Bool := !W.dataLt b a
def sortD (xs : List D) : R D := .guard (sortable xs) (.ok (.list (xs.mergeSort leqD)))
def sortDR (xs : List D) : R D := .guard (sortable xs) (.ok (.list (xs.mergeSort fun a b => !W.dataLt a b)))
/-- each once, the first ones -/
def dedup : List D → Option (List D)
  | [] => some []
  | x :: xs => match keyOf x, dedup xs with
    | some k, some r => some (x :: r.filter fun y => !decide (keyOf y = some k))
    | _, _ => none
/-- what may stand in one set -/
def setable (xs : List D) : Bool := decide (xs.length < 64) && (xs.all (fun d => flv d == 0) || xs.all fun d => flv d == 1) && xs.all fun d => match keyOf d with
  | some k => decide (k.depth ≤ 8)
  | none => false
def intsD : List D → Option (List Int)
  | [] => some []
  | .int i :: r => (intsD r).map (i :: ·)
  | _ :: _ => none
def boolsD : List D → Option (List Bool)
  | [] => some []
  | .bool i :: r => (boolsD r).map (i :: ·)
  | _ :: _ => none
def strs_ : List D → Option (List Str)
  | [] => some []
  | .str i :: r => (strs_ r).map (i :: ·)
  | _ :: _ => none
def maxI : List Int → Option Int
  | [] => none
  | x :: xs => some (xs.foldl (fun a b => if b > a then b else a) x)
def minI : List Int → Option Int
  | [] => none
  | x :: xs => some (xs.foldl (fun a b => if b < a then b else a) x)
def dictD (ps : List D) : R D := match (pairsOf ps).bind fun l => dputs [] l with
  | some kvs => .ok (.dict kvs)
  | none => .bot
def tkeys (kvs : List (D × D)) : Bool := kvs.all fun p => tupNE p.1
def bltD : Blt → List D → R D
  | .len, [.list xs] => .ok (.int xs.length)
  | .len, [.tuple xs] => .ok (.int xs.length)
  | .len, [.str s] => .guard (decide (s.length ≤ lim)) (.ok (.int s.length))
  | .len, [.dict kvs] => (match isScr (.dict kvs) with
    | some xs => .ok (.int xs.length)
    | none => .bot)
  | .tuple, [.list xs] => .ok (.tuple xs)
  | .tuple, [.tuple xs] => .ok (.tuple xs)
  | .list, [.list xs] => .ok (.list xs)
  | .list, [.tuple xs] => .ok (.list xs)
  | .dict, [.list xs] => dictD xs
  | .dict, [.tuple xs] => dictD xs
  | .dict, [.dict kvs] => .guard (dictOk kvs && ((kvs.all fun p => flv p.1 == 0) || decide (kvs.length ≤ 1))) (.ok (.dict kvs))
  | .sorted, [.list xs] => sortD xs
  | .sorted, [.tuple xs] => sortD xs
  | .sorted, [.dict kvs] => .guard (dictOk kvs) (sortD (kvs.map (·.1)))
  | .itemsSorted, [.dict kvs] => .guard (dictOk kvs) (sortD (kvs.map fun p => .tuple [p.1, p.2]))
  | .list, [.dict kvs] => .guard (dictOk kvs) (.ok (.list (kvs.map (·.1))))
  | .list, [.str s] => .guard (decide (s.length ≤ lim)) (.ok (.list (chars s)))
  | .values, [.dict kvs] => .guard (dictOk kvs) (.ok (.list (kvs.map (·.2))))
  | .listZip, [.list xs, .list ys] => .ok (.list (zipD xs ys))
  | .tupRange, [.int n] => .guard (decide (0 ≤ n) && decide (n ≤ 1000)) (.ok (.tuple ((List.range n.toNat).map fun (i : Nat) => PyData.int (i : Int))))
  | .sortedRev, [.list xs] => sortDR xs
  | .sortedSet, [.list xs] => .guard (setable xs) (match dedup xs with
    | some ys => sortD ys
    | none => .bot)
  | .sortedSet, [.tuple xs] => .guard (setable xs) (match dedup xs with
    | some ys => sortD ys
    | none => .bot)
  | .lenSet, [.list xs] => .guard (setable xs) (match dedup xs with
    | some ys => .ok (.int ys.length)
    | none => .bot)
  | .sum, [.list xs] => ofOpt ((intsD xs).map fun ns => .int ns.sum)
  | .maxL, [.list xs] => ofOpt (((intsD xs).bind maxI).map .int)
  | .minL, [.list xs] => (match intsD xs with
    | some ns => ofOpt ((minI ns).map .int)
    | none => .bot)
  | .max2, [.int i, .int j] => .ok (.int (if j > i then j else i))
  | .min2, [.int i, .int j] => .ok (.int (if j < i then j else i))
  | .all, [.list xs] => ofOpt ((boolsD xs).map fun bs => .bool (bs.all id))
  | .any, [.list xs] => ofOpt ((boolsD xs).map fun bs => .bool (bs.any id))
  | .int, [.int i] => .ok (.int i)
  | .int, [.bool b] => .ok (.int (if b then 1 else 0))
  | .str, [.str s] => .ok (.str s)
  | .str, [.none] => .ok (.str ⟨#[78, 111, 110, 101]⟩)
  | .isStr, [a] => (match a with
    | .str _ => .ok (.bool true)
    | .dict _ => .bot
    | _ => .ok (.bool false))
  | .isTuple, [a] => (match a with
    | .tuple _ => .ok (.bool true)
    | .dict _ => .bot
    | _ => .ok (.bool false))
  | .isBool, [a] => (match a with
    | .bool _ => .ok (.bool true)
    | .dict _ => .bot
    | _ => .ok (.bool false))
  | .isInt, [a] => (match a with
    | .bool _ => .ok (.bool true)
    | .int _ => .ok (.bool true)
    | .dict _ => .bot
    | _ => .ok (.bool false))
  | _, _ => .bot
def mthD : Mth → D → List D → R D
  | .join, .str s, [.list xs] => (match strs_ xs with
    | some ys => .guard (decide ((ys.map (·.length)).sum + ys.length * s.length ≤ lim)) (.ok (.str (Txt.join s ys)))
    | none => .bot)
  | .join, .str s, [.tuple xs] => (match strs_ xs with
    | some ys => .guard (decide ((ys.map (·.length)).sum + ys.length * s.length ≤ lim)) (.ok (.str (Txt.join s ys)))
    | none => .bot)
  | .split, .str s, [.str y] => .guard (!decide (y.length = 0) && decide (s.length ≤ lim)) (.guard ((Txt.split s y).all PyData.strOk) (.ok (.list ((Txt.split s y).map .str))))
  | .startswith, .str s, [.str y] => .ok (.bool (Txt.startswith s y))
  | .ljust, .str s, [.int n] => .guard (decide (0 ≤ n) && decide (n ≤ 1000000)) (.guard (PyData.strOk (Txt.ljust s n)) (.ok (.str (Txt.ljust s n))))
  | .rstrip, .str s, [.str y] => .guard (decide (s.length ≤ lim)) (.guard (PyData.strOk (Txt.rstripChars s y)) (.ok (.str (Txt.rstripChars s y))))
  | .upper, .str s, [] => .guard (decide (s.length ≤ lim)) (.guard (PyData.strOk (Txt.upper s)) (.ok (.str (Txt.upper s))))
  | .get, .dict kvs, [k, x] => (match keyAt kvs k with
    | some q => .ok ((dfind q kvs).getD x)
    | none => .bot)
  | _, _, _ => .bot
/-! ### slots -/
def getV (b : Bool) (ρ : Env) (i : Nat) : R D := match ρ[i]? with
  | some (some (.val d)) => .ok d
  | some (some (.own d)) => .guard b (.ok d)
  | _ => .bot
mutual
def asgT (ρ : Env) : Tg → D → R Env
  | .name i, d => .ok (ρ.set i (some (.val d)))
  | .tup ts, d => match d with
    | .tuple xs => asgTs ρ ts xs
    | .list xs => asgTs ρ ts xs
    | _ => .bot
def asgTs (ρ : Env) : List Tg → List D → R Env
  | [], [] => .ok ρ
  | t :: ts, x :: xs => (asgT ρ t x).bind fun ρ' => asgTs ρ' ts xs
  | _, _ => .bot
end
def wipeE (ρ : Env) : List Nat → Env
  | [] => ρ
  | i :: is => (wipeE ρ is).set i none
def asB : D → R Bool
  | .bool b => .ok b
  | _ => .bot
/-! ### loops -/
def compF (step : D → R (Option D)) : List D → R (List D)
  | [] => .ok []
  | x :: xs => (step x).bind fun r => (compF step xs).bind fun ys => .ok (match r with
    | some y => y :: ys
    | none => ys)
def forF (step : D → Env → R Flow) (w : List Nat) : List D → Env → R Flow
  | [], ρ => .ok (.nx ρ)
  | x :: xs, ρ => (step x ρ).bind fun f => match f with
    | .nx ρ' => forF step w xs (wipeE ρ' w)
    | .cn ρ' => forF step w xs (wipeE ρ' w)
    | .br ρ' => .ok (.nx (wipeE ρ' w))
    | .rt d => .ok (.rt d)
def whlF (test : Env → R Bool) (step : Env → R Flow) (w : List Nat) : Nat → Env → R Flow
  | 0, _ => .bot
  | n + 1, ρ => (test ρ).bind fun b => match b with
    | false => .ok (.nx ρ)
    | true => (step ρ).bind fun f => match f with
      | .nx ρ' => whlF test step w n (wipeE ρ' w)
      | .cn ρ' => whlF test step w n (wipeE ρ' w)
      | .br ρ' => .ok (.nx (wipeE ρ' w))
      | .rt d => .ok (.rt d)
/-! ### expressions; b: the value is only looked at -/
section
variable (call : Nat → List D → R D)
mutual
def ev (ρ : Env) : Bool → Ex → R D
  | _, .cst d => .ok d
  | _, .glob _ d => .ok d
  | b, .var i => getV b ρ i
  | _, .tup es => (evs ρ false es).bind fun ds => .guard (decide (ds.length ≤ 1000)) (.ok (.tuple ds))
  | _, .lst es => (evs ρ false es).bind fun ds => .guard (decide (ds.length ≤ 1000)) (.ok (.list ds))
  | _, .dct ks vs => (evs ρ false ks).bind fun kd => (evs ρ false vs).bind fun vd =>
      .guard (decide (kd.length = vd.length) && decide (kd.length ≤ 15)) (ofOpt ((dputs [] (kd.zip vd)).map .dict))
  | _, .bin op a b => (ev ρ true a).bind fun x => (ev ρ true b).bind fun y => binD op x y
  | _, .neg a => (ev ρ true a).bind negD
  | _, .cmp op a b => (ev ρ true a).bind fun x => (ev ρ true b).bind fun y => (cmpB op x y).bind fun r => .ok (.bool r)
  | _, .chain op op' a b c => (ev ρ true a).bind fun x => (ev ρ true b).bind fun y => (cmpB op x y).bind fun r => match r with
    | true => (ev ρ true c).bind fun z => (cmpB op' y z).bind fun r' => .ok (.bool r')
    | false => .ok (.bool false)
  | _, .band a b => (ev ρ true a).bind fun x => (asB x).bind fun r => match r with
    | true => (ev ρ true b).bind fun y => (asB y).bind fun r' => .ok (.bool r')
    | false => .ok (.bool false)
  | _, .bor a b => (ev ρ true a).bind fun x => (asB x).bind fun r => match r with
    | true => .ok (.bool true)
    | false => (ev ρ true b).bind fun y => (asB y).bind fun r' => .ok (.bool r')
  | _, .bnot a => (ev ρ true a).bind fun x => (asB x).bind fun r => .ok (.bool (!r))
  | _, .ife c a b => (ev ρ true c).bind fun x => (asB x).bind fun r => match r with
    | true => ev ρ false a
    | false => ev ρ false b
  | _, .ix a i => (ev ρ true a).bind fun x => (ev ρ true i).bind fun y => ixD x y
  | _, .slc a lo hi => (ev ρ true a).bind fun x => (ev ρ true lo).bind fun y => (partX lo y).bind fun l => (ev ρ true hi).bind fun z => (partX hi z).bind fun h => cutD x l h
  | _, .stp a lo st => (ev ρ true a).bind fun x => (ev ρ true lo).bind fun y => (ev ρ true st).bind fun z => stpD x y z
  | _, .call f es => (evs ρ false es).bind fun ds => call f ds
  | _, .blt b es => (evs ρ true es).bind fun ds => bltD b ds
  | _, .mth m a es => (ev ρ true a).bind fun x => (evs ρ false es).bind fun ds => mthD m x ds
  | _, .comp elt t k its cond => (evs ρ true its).bind fun ds => (walkD k ds).bind fun xs =>
      (compF (fun x => (asgT (wipeE ρ t.names) t x).bind fun ρ' => (ev ρ' true cond).bind fun c => (asB c).bind fun r => match r with
        | true => (ev ρ' false elt).bind fun y => .ok (some y)
        | false => .ok none) xs).bind fun ys => .ok (.list ys)
  | _, .sortk a i key => (ev ρ true a).bind fun x => match x with
    | .list xs => (compF (fun x => (ev ((List.replicate ρ.length none).set i (some (.val x))) false key).bind fun y => .ok (some y)) xs).bind fun ks =>
        .guard (sortable ks) (.ok (.list ((xs.zip ks).mergeSort (fun p q => leqD p.2 q.2) |>.map (·.1))))
    | _ => .bot
def evs (ρ : Env) : Bool → List Ex → R (List D)
  | _, [] => .ok []
  | b, e :: es => (ev ρ b e).bind fun d => (evs ρ b es).bind fun ds => .ok (d :: ds)
end
/-- an object that nothing else holds -/
def fresh : Ex → Bool
  | .lst _ => true
  | .dct _ _ => true
  | .comp _ _ _ _ _ => true
  | .blt .dict _ => true
  | _ => false
def isCont : D → Bool
  | .list _ => true
  | .dict kvs => dictOk kvs
  | _ => false
def ownSet (ρ : Env) (i : Nat) (d : D) : Env := ρ.set i (some (.own d))
mutual
def exS (wf : Nat) : Env → Stm → R Flow
  | ρ, .asg t e => (ev call ρ false e).bind fun d => (asgT ρ t d).bind fun ρ' => .ok (.nx ρ')
  | ρ, .own i e => .guard (fresh e) ((ev call ρ false e).bind fun d => .guard (isCont d) (.ok (.nx (ownSet ρ i d))))
  | ρ, .app i e => (match ρ[i]? with
    | some (some (.own (.list xs))) => (ev call ρ false e).bind fun d => .guard (decide (xs.length < lim)) (.ok (.nx (ownSet ρ i (.list (xs ++ [d])))))
    | _ => .bot)
  | ρ, .ext i e => (match ρ[i]? with
    | some (some (.own (.list xs))) => (ev call ρ false e).bind fun d => (match d with
      | .list ys => .guard (decide (xs.length + ys.length ≤ lim)) (.ok (.nx (ownSet ρ i (.list (xs ++ ys)))))
      | .tuple ys => .guard (decide (xs.length + ys.length ≤ lim)) (.ok (.nx (ownSet ρ i (.list (xs ++ ys)))))
      | _ => .bot)
    | _ => .bot)
  | ρ, .updD i e => (match ρ[i]? with
    | some (some (.own (.dict kvs))) => (ev call ρ false e).bind fun d => (match d with
      | .dict ls => .guard (dictOk ls && !kvs.isEmpty) (match dputs kvs ls with
        | some r => .ok (.nx (ownSet ρ i (.dict r)))
        | none => .bot)
      | _ => .bot)
    | _ => .bot)
  | ρ, .seti i k v => (match ρ[i]? with
    | some (some (.own (.dict kvs))) => (ev call ρ false v).bind fun dv => (ev call ρ false k).bind fun dk => (match keyAt kvs dk with
      | some q => .guard (decide (kvs.length < lim)) (.ok (.nx (ownSet ρ i (.dict (dset q dk dv kvs)))))
      | none => .bot)
    | _ => .bot)
  | ρ, .pop t i arg => (match ρ[i]? with
    | some (some (.own (.list xs))) => (match arg with
      | none => (match xs.getLast? with
        | some x => (asgT (ownSet ρ i (.list xs.dropLast)) t x).bind fun ρ' => .ok (.nx ρ')
        | none => .bot)
      | some j => .guard (decide (j = 0)) (match xs with
        | x :: r => (asgT (ownSet ρ i (.list r)) t x).bind fun ρ' => .ok (.nx ρ')
        | [] => .bot))
    | _ => .bot)
  | ρ, .iff c a b => (ev call ρ true c).bind fun x => (asB x).bind fun r => match r with
    | true => exs wf ρ a
    | false => exs wf ρ b
  | ρ, .whl c body w => whlF (fun ρ => (ev call ρ true c).bind asB) (fun ρ => exs wf ρ body) w wf ρ
  | ρ, .for_ t k its body w => (evs call ρ false its).bind fun ds => (walkD k ds).bind fun xs => forF (fun x ρ => (asgT ρ t x).bind fun ρ' => exs wf ρ' body) w xs ρ
  | ρ, .ret e => (ev call ρ false e).bind fun d => .ok (.rt d)
  | ρ, .pas => .ok (.nx ρ)
  | ρ, .brk => .ok (.br ρ)
  | ρ, .cnt => .ok (.cn ρ)
  | ρ, .frz i => (match ρ[i]? with
    | some (some (.own d)) => .ok (.nx (ρ.set i (some (.val d))))
    | _ => .ok (.nx ρ))
  | ρ, .wip is => .ok (.nx (wipeE ρ is))
def exs (wf : Nat) : Env → List Stm → R Flow
  | ρ, [] => .ok (.nx ρ)
  | ρ, s :: r => (exS wf ρ s).bind fun f => match f with
    | .nx ρ' => exs wf ρ' r
    | .br ρ' => .ok (.br ρ')
    | .cn ρ' => .ok (.cn ρ')
    | .rt d => .ok (.rt d)
end
end
/-- what a def's end gives -/
def endF : Flow → R D
  | .rt d => .ok d
  | .nx _ => .ok .none
  | _ => .bot
/-- a call: P the program, wf the turns that a while may take, n the depth of calls -/
def evFn (P : Nat → Option Fn) (wf : Nat) : Nat → Nat → List D → R D
  | 0, _, _ => .bot
  | n + 1, f, ds => match P f with
    | none => .bot
    | some fn => .guard (decide (ds.length = fn.np)) ((exs (evFn P wf n) wf (ds.map (fun d => some (.val d)) ++ List.replicate (fn.nl - fn.np) none) fn.body).bind endF)
end KD
/-! KdTup: tuples that are made, told with their objects (no dict of their own). -/
namespace KD
open PySem PySem.Spec
open PyProof.Rows L2
/-- for a new tuple of the items xs -/
def NewT (H : Hp) (Q : VK) (xs : List V) : Prop := ∀ (p : Addr) (o : Obj), H p = none → o.dict = none → Q (.ref p) (upd H p (.frz o (.tup xs)))
section
variable {X : Cx} {pins : List (Addr × Obj)} {σ : L2.St} {H : Hp} {s : Shared} {Q : VK}
/-- the object is laid -/
theorem new_tup {h0 : Heap} {tk : Nat} {xs : List V} {us : List Value} (I : L2.Inv X pins σ H { s with heap := h0, toks := tk }) (rv : Vals xs us) (hz : xs.length ≤ sizeLine) (q : NewT H Q xs) :
    EP X pins σ Q (.ref h0.objs.size) { s with heap := h0.push { cls := .type "tuple", data := .seq us.toArray }, toks := tk } := by
  have hg : (h0.push { cls := .type "tuple", data := .seq us.toArray }).get? h0.objs.size = some { cls := .type "tuple", data := .seq us.toArray } := Heap.get?_push_size _ rfl
  exact ⟨.ref h0.objs.size, upd H h0.objs.size (.frz { cls := .type "tuple", data := .seq us.toArray } (.tup xs)), I.laid (t' := tk) (fun b o e => Heap.get?_push_of_some _ e) (Nat.le_refl _) ⟨hg, hz, us, rv, _, hg, rfl, _, rfl⟩, rfl,
    q _ _ (I.hok.fresh (Nat.le_refl _)) rfl⟩
def tTupP (t : TA) : TE := fun σ H Q => t σ H fun xs H1 => xs.length ≤ sizeLine ∧ NewT H1 Q xs
theorem pe_tupP {es : List Expr} {k : Nat} {pos : Pos} {t : TA} (h : PA X es t) : PE X (.Tuple es k pos) (tTupP t) := by
  refine ⟨fun pins s σ H Q I hq => wpAny_Tuple_spliced (thn (h.run pos pins s σ H _ I hq) fun us s1 ⟨xs, H1, I1, r, z, q⟩ => ⟨by rw [← r.length]; exact z, ?_⟩)⟩
  exact new_tup (s := s1) (h0 := s1.heap) (tk := s1.toks) I1 r z q
theorem call_tupleP : CallR X (.type "tuple") (fun xs H Q => ∃ p ys, xs = [.ref p] ∧ ((SqL X.K H p ys ∧ NewT H Q ys) ∨ (SqT X.K H p ys ∧ Q (.ref p) H))) := by
  rintro pins s σ H xs us Q I r ⟨p, ys, rfl, h⟩
  obtain ⟨u, rfl, rx⟩ := vals1 r
  cases rx
  rcases h with ⟨hq, q⟩ | ⟨hq, q⟩
  · obtain ⟨its, r', pl, hz⟩ := I.list hq
    have hlen := r'.length
    exact call_tuple_list pl.isList (fun h' kp => new_tup (s := s) (h0 := h') (tk := s.toks) (I.kept (t' := s.toks) kp) r' hz q) (by simp only [List.size_toArray] <;> omega)
  · obtain ⟨its, r', pl, hz⟩ := I.tuple hq
    exact call_tuple_same pl ⟨.ref p, H, I, rfl, q⟩
def rCatP (K : PySem.W.Frag) : R2 := fun x y H Q => ∃ a b xs ys, x = .ref a ∧ y = .ref b ∧ SqT K H a xs ∧ SqT K H b ys ∧ xs.length + ys.length ≤ sizeLine ∧
  (xs = [] → Q (.ref b) H) ∧ (xs ≠ [] → ys = [] → Q (.ref a) H) ∧ NewT H Q (xs ++ ys)
theorem op_catP : OpR X (binaryOp .Add) (rCatP X.K) := by
  rintro pins s σ H x y v u Q I rx ry ⟨a, b, xs, ys, rfl, rfl, ha, hb, hz, q0, q1, q2⟩
  cases rx
  cases ry
  obtain ⟨its, r1, p1, _⟩ := I.tuple ha
  obtain ⟨its2, r2, p2, _⟩ := I.tuple hb
  by_cases hx : xs = []
  · subst hx
    cases r1
    exact cat_tup0 p1 p2 ⟨.ref b, H, I, rfl, q0 rfl⟩
  · refine HT.cat_tup p1 p2 (fun z => hx (r1.nil_iff.mp z)) (fun z => ⟨.ref a, H, I, rfl, q1 hx (r2.nil_iff.mp z)⟩) (fun z => ?_) (by rw [← r1.length, ← r2.length]; exact hz)
    exact new_tup (s := s) (h0 := s.heap) (tk := s.toks) I (r1.append r2) (by rw [List.length_append]; exact hz) q2
def rSlP (K : PySem.W.Frag) : V → Option Int → Option Int → Hp → VK → Prop := fun x lo hi H Q => ∃ a xs, x = .ref a ∧ SqT K H a xs ∧
  (HT.sIx xs.length 0 lo = 0 ∧ HT.sIx xs.length xs.length hi = xs.length → Q (.ref a) H) ∧ NewT H Q (cutV xs lo hi)
theorem sl_tupP : SlR X (rSlP X.K) := by
  rintro pins s σ H x v vl vu lo hi sl Q I rx hs pl pu ⟨a, xs, rfl, hx, q1, q2⟩
  cases rx
  obtain ⟨its, r, ht, hz⟩ := I.tuple hx
  have hlen : its.toArray.size = xs.length := by rw [List.size_toArray]; exact r.length.symm
  refine ⟨"tuple", _, PyProof.Rows.slot_tuple_getitem.lookup, ht.typeIs, ?_⟩
  by_cases hw : HT.sIx xs.length 0 lo = 0 ∧ HT.sIx xs.length xs.length hi = xs.length
  · exact getItem_tuple_whole ht hs pl pu (by rw [hlen]; exact hw) ⟨.ref a, H, I, rfl, q1 hw⟩
  · refine HT.getItem_tuple_cut ht hs pl pu (by rw [hlen]; exact hw) ?_ (by rw [hlen]; exact hz)
    rw [hlen]
    exact new_tup (s := s) (h0 := s.heap) (tk := s.toks) I ((r.drop (HT.sIx xs.length 0 lo)).take (HT.sIx xs.length xs.length hi - HT.sIx xs.length 0 lo)) (Nat.le_trans (cutV_length xs lo hi) hz) q2
def rRepP (K : PySem.W.Frag) : R2 := fun x y H Q => ∃ l k xs, x = .ref l ∧ y = .int k ∧ SqT K H l xs ∧ xs ≠ [] ∧ 2 ≤ k ∧ k ≤ 1000 ∧ xs.length ≤ 1000 ∧ NewT H Q (List.replicate k.toNat xs).flatten
theorem op_repP : OpR X (binaryOp .Mult) (rRepP X.K) := by
  rintro pins s σ H x y v u Q I rx ry ⟨l, k, xs, rfl, rfl, hT, hne, h1, h2, hz, q⟩
  cases rx
  obtain ⟨t, rfl⟩ := ry
  obtain ⟨its, r, ⟨⟨cls, dd, data, sl⟩, ho, hc, n, hd⟩, hs⟩ := I.tuple hT
  simp only at hc hd
  subst hc hd
  have hle : its.length = xs.length := r.length.symm
  have ne : its ≠ [] := fun e => hne (List.eq_nil_of_length_eq_zero (by rw [← hle, e]; rfl))
  have em : its.toArray.isEmpty = false := by cases its <;> first | exact absurd rfl ne | rfl
  have sz : its.toArray.size = xs.length := by rw [List.size_toArray, hle]
  have bd : k.toNat * xs.length ≤ 1000 * 1000 := Nat.mul_le_mul (by omega) hz
  have bi : ((its.toArray.size : Nat) : Int) * k ≤ 1000000 := by
    rw [sz]
    have := Int.mul_le_mul_of_nonneg_right (show ((xs.length : Nat) : Int) ≤ 1000 by omega) (show (0 : Int) ≤ k by omega)
    omega
  have fl : (List.replicate k.toNat its).flatten.length ≤ sizeLine := by
    rw [PyProof.Rows.lm_len_rep_flat, hle, sizeLine_eq]
    omega
  have c4 : Builtin.Tuple.tupleTooMany (((its.toArray.size : Nat) : Int) * k) = false := by
    unfold Builtin.Tuple.tupleTooMany
    rw [sizeLine_eq]
    exact decide_eq_false (by omega)
  have mul := tuple_mulW l its.toArray n dd sl k t (by rw [decide_eq_false (by omega), decide_eq_false (by omega)] <;> rfl) (by rw [em, Bool.false_or]; exact beq_eq_false_iff_ne.mpr (by omega)) (by rw [em, Bool.or_false]; exact decide_eq_false (by omega)) (by omega) c4
    (by rw [size_rep, List.size_toArray]; exact fl)
  refine wpAny_binaryOp_repeat_ref (T := "tuple") (U := "int") (by decide) ⟨_, ho, rfl⟩ (fun s' => typeIs_int s' k t) noFill_tuple_mul F.fills_int_mul F.slot_int_rmul repeat_tuple F.slot_int_index.lookup
    (call_meets F.slot_int_rmul (typeIs_int s k t) F.entry_int_rmul (F.args_int_rmul_2 _ _) (int_rmul_tuple k t l its.toArray n dd sl)
      ⟨ho, rfl, ⟨_, ho, rfl⟩, call_meets F.slot_tuple_mul ⟨_, ho, rfl⟩ F.entry_tuple_mul (F.args_tuple_mul_2 _ _) mul ⟨ho, ?_⟩⟩)
  rw [size_rep]
  exact new_tup (s := s) (h0 := s.heap) (tk := s.toks) I (r.rep k.toNat) (by rw [PyProof.Rows.lm_len_rep_flat, sizeLine_eq]; omega) q
end
end KD
/-! KdRep: how data stand in the tracked heap. F: the part of the heap that nobody changes any more. -/
namespace KD
open PySem PySem.Spec
open PyProof.Rows L2
/-- the object o itself stands at a -/
def dO (a : Addr) (o : Obj) : HO := .ext fun h => h.get? a = some o
theorem dO_ok {P : Program} {w : World} {H : Hp} {h : Heap} {a : Addr} {o : Obj} (e : h.get? a = some o) : ObjOk P w H h a (dO a o) := ⟨e, ⟨o, e⟩, fun _ _ p k => k o p⟩
/-- an entry: its key, what stands for key and value -/
def EntOk (w : World) (e : DictEntry) (p : NestedKey × V × V) : Prop := e.hash = p.1.hash w ∧ RelV p.2.1 e.key ∧ RelV p.2.2 e.val
/-- the object o at a is a dict of these entries -/
structure DHas (w : World) (a : Addr) (o : Obj) (kvs : List (NestedKey × V × V)) : Prop where
  ne : (a == sysModules) = false
  ex : o.ExactDict
  en : ∃ arr ep, o.data = .dict arr ep ∧ Paired (EntOk w) arr.toList kvs
  nd : (kvs.map (·.1)).Nodup
  sz : kvs.length ≤ sizeLine
  dp : ∀ p ∈ kvs, p.1.depth ≤ 8
/-- a tuple without a dict of its own -/
def PlT (K : PySem.W.Frag) (F : Hp) (a : Addr) (xs : List V) : Prop := (∃ o, F a = some (.frz o (.tup xs)) ∧ o.dict = none) ∨
  ∃ (o : Obj) (its : Array Value) (n : Nat), K.lookup a = some o ∧ o.cls = .type "tuple" ∧ o.dict = none ∧ o.data = .seq its n ∧ its.size ≤ sizeLine ∧ Vals xs its.toList
theorem PlT.sq {K : PySem.W.Frag} {F : Hp} {a : Addr} {xs : List V} (h : PlT K F a xs) : SqT K F a xs := by
  rcases h with ⟨o, h, _⟩ | ⟨o, its, n, h1, h2, _, h3, h4, h5⟩
  · exact .inl (.inr ⟨o, h⟩)
  · exact .inr ⟨o, its, n, h1, h2, h3, h4, h5⟩
theorem Same.plT {K : PySem.W.Frag} {F F' : Hp} {a : Addr} {xs : List V} (e : Same F F') (h : PlT K F a xs) : PlT K F' a xs := by
  rcases h with ⟨o, h, h'⟩ | h
  · exact .inl ⟨o, e _ _ h, h'⟩
  · exact .inr h
section
variable (w : World) (K : PySem.W.Frag) (F : Hp)
inductive Dr : V → D → Prop
  | non : Dr .non .none
  | bl (b : Bool) : Dr (.bl b) (.bool b)
  | int (i : Int) : Dr (.int i) (.int i)
  | str (x : Str) (h : PyData.strOk x = true) : Dr (.str x) (.str x)
  | lst {a : Addr} {xs : List V} {ds : List D} (h : F a = some (.lst xs)) (hl : xs.length = ds.length)
      (hi : ∀ (i : Nat) (v : V) (d : D), xs[i]? = some v → ds[i]? = some d → Dr v d) : Dr (.ref a) (.list ds)
  | tup {a : Addr} {xs : List V} {ds : List D} (h : PlT K F a xs) (hl : xs.length = ds.length)
      (hi : ∀ (i : Nat) (v : V) (d : D), xs[i]? = some v → ds[i]? = some d → Dr v d) : Dr (.ref a) (.tuple ds)
  | dct {a : Addr} {o : Obj} {kvs : List (NestedKey × V × V)} {ds : List (D × D)} (h : F a = some (dO a o)) (r : DHas w a o kvs) (hl : kvs.length = ds.length)
      (hk : ∀ (i : Nat) (k : NestedKey) (x y : V) (d e : D), kvs[i]? = some (k, x, y) → ds[i]? = some (d, e) → keyOf d = some k)
      (hd : ∀ (i : Nat) (k : NestedKey) (x y : V) (d e : D), kvs[i]? = some (k, x, y) → ds[i]? = some (d, e) → Dr x d)
      (hv : ∀ (i : Nat) (k : NestedKey) (x y : V) (d e : D), kvs[i]? = some (k, x, y) → ds[i]? = some (d, e) → Dr y e) : Dr (.ref a) (.dict ds)
  | scr {a : Addr} {ns : List Int} (h : SqL K F a (ns.map V.int)) : Dr (.ref a) (KD.scr (ns.map .int))
end
section
variable {w : World} {K : PySem.W.Frag} {F F' H H' G : Hp} {v : V} {d : D} {a : Addr} {o : HO}
theorem Rd.same {u : HO} (e : Same F F') (h : Rd F a u) : Rd F' a u := by
  rcases h with h | ⟨o, h⟩
  · exact .inl (e _ _ h)
  · exact .inr ⟨o, e _ _ h⟩
theorem Same.sqT {xs : List V} (e : Same F F') (h : SqT K F a xs) : SqT K F' a xs := by
  rcases h with h | h
  · exact .inl (Rd.same e h)
  · exact .inr h
theorem Same.sqL {xs : List V} (e : Same F F') (h : SqL K F a xs) : SqL K F' a xs := Same.seq e h
theorem Dr.mono (h : Dr w K F v d) (e : Same F F') : Dr w K F' v d := by
  induction h with
  | non => exact .non
  | bl b => exact .bl b
  | int i => exact .int i
  | str x h => exact .str x h
  | lst h hl hi ih => exact .lst (e _ _ h) hl ih
  | tup h hl hi ih => exact .tup (Same.plT e h) hl ih
  | dct h r hl hk hd hv ihd ihv => exact .dct (e _ _ h) r hl hk ihd ihv
  | scr h => exact .scr (Same.sqL e h)
/-- lists of data -/
def DrAll (w : World) (K : PySem.W.Frag) (F : Hp) (xs : List V) (ds : List D) : Prop :=
  xs.length = ds.length ∧ ∀ (i : Nat) (v : V) (d : D), xs[i]? = some v → ds[i]? = some d → Dr w K F v d
theorem DrAll.mono {xs : List V} {ds : List D} (h : DrAll w K F xs ds) (e : Same F F') : DrAll w K F' xs ds := ⟨h.1, fun i v d a b => (h.2 i v d a b).mono e⟩
theorem DrAll.nil : DrAll w K F [] [] := ⟨rfl, fun i v d a _ => by simp at a⟩
theorem DrAll.cons {xs : List V} {ds : List D} (h : Dr w K F v d) (t : DrAll w K F xs ds) : DrAll w K F (v :: xs) (d :: ds) := by
  refine ⟨by simp [t.1], fun i x y a b => ?_⟩
  cases i with
  | zero =>
    simp at a b
    rw [← a, ← b]
    exact h
  | succ i => exact t.2 i x y (by simpa using a) (by simpa using b)
theorem DrAll.nil_inv {xs : List V} (h : DrAll w K F xs []) : xs = [] := List.eq_nil_of_length_eq_zero h.1
theorem DrAll.cons_inv {xs : List V} {ds : List D} (h : DrAll w K F xs (d :: ds)) : ∃ v r, xs = v :: r ∧ Dr w K F v d ∧ DrAll w K F r ds := by
  obtain ⟨hl, hi⟩ := h
  cases xs with
  | nil => simp at hl
  | cons v r =>
    refine ⟨v, r, rfl, hi 0 v d rfl rfl, by simpa using hl, fun i x y a b => ?_⟩
    exact hi (i + 1) x y (by simpa using a) (by simpa using b)
theorem DrAll.get {xs : List V} {ds : List D} {i : Nat} (h : DrAll w K F xs ds) (e : ds[i]? = some d) : ∃ v, xs[i]? = some v ∧ Dr w K F v d := by
  have hi : i < xs.length := by
    rw [h.1]
    exact (List.getElem?_eq_some_iff.mp e).1
  exact ⟨xs[i], List.getElem?_eq_getElem hi, h.2 i _ _ (List.getElem?_eq_getElem hi) e⟩
theorem DrAll.append : ∀ {xs ys : List V} {ds es : List D}, DrAll w K F xs ds → DrAll w K F ys es → DrAll w K F (xs ++ ys) (ds ++ es)
  | xs, ys, [], es, h, t => by
    rw [h.nil_inv]
    exact t
  | xs, ys, d :: ds, es, h, t => by
    obtain ⟨v, r, rfl, h1, h2⟩ := h.cons_inv
    exact .cons h1 (DrAll.append h2 t)
theorem DrAll.drop : ∀ {xs : List V} {ds : List D} (n : Nat), DrAll w K F xs ds → DrAll w K F (xs.drop n) (ds.drop n)
  | xs, ds, 0, h => h
  | xs, [], n + 1, h => by
    rw [h.nil_inv]
    exact .nil
  | xs, d :: ds, n + 1, h => by
    obtain ⟨v, r, rfl, h1, h2⟩ := h.cons_inv
    exact DrAll.drop n h2
theorem DrAll.take : ∀ {xs : List V} {ds : List D} (n : Nat), DrAll w K F xs ds → DrAll w K F (xs.take n) (ds.take n)
  | xs, ds, 0, h => .nil
  | xs, [], n + 1, h => by
    rw [h.nil_inv]
    exact .nil
  | xs, d :: ds, n + 1, h => by
    obtain ⟨v, r, rfl, h1, h2⟩ := h.cons_inv
    exact .cons h1 (DrAll.take n h2)
theorem DrAll.reverse : ∀ {xs : List V} {ds : List D}, DrAll w K F xs ds → DrAll w K F xs.reverse ds.reverse
  | xs, [], h => by
    rw [h.nil_inv]
    exact .nil
  | xs, d :: ds, h => by
    obtain ⟨v, r, rfl, h1, h2⟩ := h.cons_inv
    rw [List.reverse_cons, List.reverse_cons]
    exact (DrAll.reverse h2).append (.cons h1 .nil)
theorem DrAll.rep {xs : List V} {ds : List D} (h : DrAll w K F xs ds) : ∀ k : Nat, DrAll w K F (List.replicate k xs).flatten (List.replicate k ds).flatten
  | 0 => .nil
  | k + 1 => by
    rw [List.replicate_succ, List.replicate_succ, List.flatten_cons, List.flatten_cons]
    exact h.append (DrAll.rep h k)
theorem DrAll.of_pointwise {α : Type} (l : List α) (f : α → V) (g : α → D) (h : ∀ x ∈ l, Dr w K F (f x) (g x)) : DrAll w K F (l.map f) (l.map g) := by
  induction l with
  | nil => exact .nil
  | cons x r ih => exact .cons (h x List.mem_cons_self) (ih fun y hy => h y (List.mem_cons_of_mem _ hy))
/-! ### what stands at an address as a container -/
/-- the contents of a list or dict object -/
inductive Cont (w : World) (K : PySem.W.Frag) (F : Hp) (a : Addr) : HO → D → Prop
  | lst {xs : List V} {ds : List D} (h : DrAll w K F xs ds) : Cont w K F a (.lst xs) (.list ds)
  | dct {o : Obj} {kvs : List (NestedKey × V × V)} {ds : List (D × D)} (r : DHas w a o kvs) (hl : kvs.length = ds.length)
      (hk : ∀ (i : Nat) (k : NestedKey) (x y : V) (d e : D), kvs[i]? = some (k, x, y) → ds[i]? = some (d, e) → keyOf d = some k)
      (hd : ∀ (i : Nat) (k : NestedKey) (x y : V) (d e : D), kvs[i]? = some (k, x, y) → ds[i]? = some (d, e) → Dr w K F x d)
      (hv : ∀ (i : Nat) (k : NestedKey) (x y : V) (d e : D), kvs[i]? = some (k, x, y) → ds[i]? = some (d, e) → Dr w K F y e) : Cont w K F a (dO a o) (.dict ds)
theorem Cont.mono (h : Cont w K F a o d) (e : Same F F') : Cont w K F' a o d := by
  cases h with
  | lst h => exact .lst (h.mono e)
  | dct r hl hk hd hv => exact .dct r hl hk (fun i k x y d e' a b => (hd i k x y d e' a b).mono e) fun i k x y d e' a b => (hv i k x y d e' a b).mono e
theorem Cont.dr (h : Cont w K F a o d) (e : F a = some o) : Dr w K F (.ref a) d := by
  cases h with
  | lst h => exact .lst e h.1 h.2
  | dct r hl hk hd hv => exact .dct e r hl hk hd hv
/-- a value that is only looked at: it stands, or it is an object whose contents stand -/
def Br (w : World) (K : PySem.W.Frag) (F H : Hp) (v : V) (d : D) : Prop :=
  Dr w K F v d ∨ ∃ a o, v = .ref a ∧ H a = some o ∧ Cont w K F a o d
def Vr (w : World) (K : PySem.W.Frag) (b : Bool) (F H : Hp) (v : V) (d : D) : Prop := match b with
  | true => Br w K F H v d
  | false => Dr w K F v d
/-- the frozen part and the heap grow by new objects alone -/
structure Ext (F H F' H' : Hp) : Prop where
  f : Same F F'
  h : Same H H'
  fh : Same F' H'
  new : ∀ a, H a ≠ none → F' a = F a
theorem Ext.refl (e : Same F H) : Ext F H F H := ⟨Same.refl F, Same.refl H, e, fun _ _ => rfl⟩
theorem Ext.trans {F1 H1 F2 H2 : Hp} (a : Ext F H F1 H1) (b : Ext F1 H1 F2 H2) : Ext F H F2 H2 :=
  ⟨a.f.trans b.f, a.h.trans b.h, b.fh, fun c hc => by
    have hc1 : H1 c ≠ none := by
      cases q : H c with
      | none => exact absurd q hc
      | some u => rw [a.h c u q]; simp
    rw [b.new c hc1, a.new c hc]⟩
theorem same_new {p : Addr} (h : H p = none) : Same H (upd H p o) := fun b x e => by
  rw [upd_ne (ne_of_none e h)]
  exact e
theorem same_free {p : Addr} (e : Same F H) (h : H p = none) : F p = none := Same.free e h
/-- a new object that stands from now on -/
theorem Ext.laid {p : Addr} (e : Same F H) (h : H p = none) : Ext F H (upd F p o) (upd H p o) := by
  refine ⟨same_new (same_free e h), same_new h, fun b x q => ?_, fun b hb => ?_⟩
  · by_cases hbp : b = p
    · subst hbp
      rw [upd_same] at q ⊢
      exact q
    · rw [upd_ne hbp] at q ⊢
      exact e _ _ q
  · rw [upd_ne]
    rintro rfl
    exact hb h
/-- a new object that its maker still changes -/
theorem Ext.open_ {p : Addr} (e : Same F H) (h : H p = none) : Ext F H F (upd H p o) :=
  ⟨Same.refl F, same_new h, e.trans (same_new h), fun _ _ => rfl⟩
theorem Br.mono (h : Br w K F H v d) (e : Ext F H F' H') : Br w K F' H' v d := by
  rcases h with h | ⟨a, o, rfl, h1, h2⟩
  · exact .inl (h.mono e.f)
  · exact .inr ⟨a, o, rfl, e.h _ _ h1, h2.mono e.f⟩
theorem Vr.of {b : Bool} (h : Dr w K F v d) : Vr w K b F H v d := by
  cases b with
  | true => exact .inl h
  | false => exact h
theorem Vr.br {b : Bool} (h : Vr w K b F H v d) : Br w K F H v d := by
  cases b with
  | true => exact h
  | false => exact .inl h
/-! ### what a looked-at value is -/
theorem Br.none_inv (h : Br w K F H v .none) : v = .non := by
  rcases h with h | ⟨a, o, rfl, h1, h2⟩
  · cases h; rfl
  · cases h2
theorem Br.bool_inv {b : Bool} (h : Br w K F H v (.bool b)) : v = .bl b := by
  rcases h with h | ⟨a, o, rfl, h1, h2⟩
  · cases h; rfl
  · cases h2
theorem Br.int_inv {i : Int} (h : Br w K F H v (.int i)) : v = .int i := by
  rcases h with h | ⟨a, o, rfl, h1, h2⟩
  · cases h; rfl
  · cases h2
theorem Br.str_inv {x : Str} (h : Br w K F H v (.str x)) : v = .str x ∧ PyData.strOk x = true := by
  rcases h with h | ⟨a, o, rfl, h1, h2⟩
  · cases h with
    | str _ q => exact ⟨rfl, q⟩
  · cases h2
theorem Br.list_inv {ds : List D} (e : Same F H) (h : Br w K F H v (.list ds)) : ∃ a xs, v = .ref a ∧ H a = some (.lst xs) ∧ DrAll w K F xs ds := by
  rcases h with h | ⟨a, o, rfl, h1, h2⟩
  · cases h with
    | lst h hl hi => exact ⟨_, _, rfl, e _ _ h, hl, hi⟩
  · cases h2 with
    | lst h => exact ⟨_, _, rfl, h1, h⟩
theorem Br.tuple_inv {ds : List D} (h : Br w K F H v (.tuple ds)) : ∃ a xs, v = .ref a ∧ PlT K F a xs ∧ DrAll w K F xs ds := by
  rcases h with h | ⟨a, o, rfl, h1, h2⟩
  · cases h with
    | tup h hl hi => exact ⟨_, _, rfl, h, hl, hi⟩
  · cases h2
theorem keyOf_flv : ∀ {d : D} {k : NestedKey}, keyOf d = some k → flv d < 2
  | .none, _, _ => by simp [flv]
  | .int _, _, _ => by simp [flv]
  | .str _, _, _ => by simp [flv]
  | .tuple _, _, _ => by simp [flv]
  | .bool _, _, h => by simp [keyOf] at h
  | .list _, _, h => by simp [keyOf] at h
  | .dict _, _, h => by simp [keyOf] at h
theorem dictOk_of {kvs : List (NestedKey × V × V)} {ds : List (D × D)} (hl : kvs.length = ds.length)
    (hk : ∀ (i : Nat) (k : NestedKey) (x y : V) (d e : D), kvs[i]? = some (k, x, y) → ds[i]? = some (d, e) → keyOf d = some k) : dictOk ds = true := by
  unfold dictOk
  rw [List.all_eq_true]
  intro p hp
  obtain ⟨i, hi⟩ := List.getElem?_of_mem hp
  have hlt : i < kvs.length := by
    rw [hl]
    exact (List.getElem?_eq_some_iff.mp hi).1
  obtain ⟨k, x, y⟩ : NestedKey × V × V := kvs[i]
  exact decide_eq_true (keyOf_flv (hk i (kvs[i]).1 (kvs[i]).2.1 (kvs[i]).2.2 p.1 p.2 (List.getElem?_eq_getElem hlt) hi))
theorem scr_not (xs : List D) : dictOk [(PyData.dict [], PyData.list xs)] = false := by simp [dictOk, flv]
theorem isScr_inv {d : D} {xs : List D} (h : isScr d = some xs) : d = KD.scr xs := by
  unfold isScr at h
  split at h
  · cases h
    rfl
  · cases h
/-- a dict -/
theorem Br.dict_inv {ds : List (D × D)} (e : Same F H) (h : Br w K F H v (.dict ds)) (hs : dictOk ds = true) : ∃ a o kvs, v = .ref a ∧ H a = some (dO a o) ∧ DHas w a o kvs ∧ kvs.length = ds.length ∧
    (∀ (i : Nat) (k : NestedKey) (x y : V) (d e : D), kvs[i]? = some (k, x, y) → ds[i]? = some (d, e) → keyOf d = some k) ∧
    (∀ (i : Nat) (k : NestedKey) (x y : V) (d e : D), kvs[i]? = some (k, x, y) → ds[i]? = some (d, e) → Dr w K F x d) ∧
    (∀ (i : Nat) (k : NestedKey) (x y : V) (d e : D), kvs[i]? = some (k, x, y) → ds[i]? = some (d, e) → Dr w K F y e) := by
  rcases h with h | ⟨a, o, rfl, h1, h2⟩
  · generalize hd : (PyData.dict ds) = d at h
    cases h with
    | dct h r hl hk hd' hv => cases hd; exact ⟨_, _, _, rfl, e _ _ h, r, hl, hk, hd', hv⟩
    | scr h =>
      unfold KD.scr at hd
      injection hd with hd
      rw [hd, scr_not] at hs
      cases hs
    | _ => cases hd
  · cases h2 with
    | dct r hl hk hd' hv => exact ⟨_, _, _, rfl, h1, r, hl, hk, hd', hv⟩
theorem Br.scr_inv {xs : List D} (e : Same F H) (h : Br w K F H v (KD.scr xs)) : ∃ (a : Addr) (ns : List Int), v = .ref a ∧ xs = ns.map .int ∧ SqL K F a (ns.map V.int) := by
  rcases h with h | ⟨a, o, rfl, h1, h2⟩
  · generalize hd : KD.scr xs = d at h
    cases h with
    | scr h =>
      unfold KD.scr at hd
      injection hd with hd
      simp at hd
      exact ⟨_, _, rfl, hd, h⟩
    | dct h r hl hk hd' hv =>
      unfold KD.scr at hd
      injection hd with hd
      have := dictOk_of hl hk
      rw [← hd, scr_not] at this
      cases this
    | _ => unfold KD.scr at hd; cases hd
  · generalize hd : KD.scr xs = d at h2
    cases h2 with
    | dct r hl hk hd' hv =>
      unfold KD.scr at hd
      injection hd with hd
      have := dictOk_of hl hk
      rw [← hd, scr_not] at this
      cases this
    | lst h => unfold KD.scr at hd; cases hd
/-! ### data without dicts, as the library's == reads them -/
theorem Dr.plain_dp (h : Dr w K F v d) (e : Same F H) : plain d = true → Dp K H v d := by
  have all : ∀ (ds : List D) (xs : List V), xs.length = ds.length → (∀ (i : Nat) (v : V) (d : D), xs[i]? = some v → ds[i]? = some d → plain d = true → Dp K H v d) → plains ds = true → DpAll K H xs ds := by
    intro ds
    induction ds with
    | nil =>
      intro xs hl _ _
      rw [List.eq_nil_of_length_eq_zero hl]
      exact .nil
    | cons d ds ih =>
      intro xs hl hi hp
      cases xs with
      | nil => simp at hl
      | cons x xs =>
        rw [plains, Bool.and_eq_true] at hp
        exact .cons (hi 0 x d rfl rfl hp.1) (ih xs (by simpa using hl) (fun i v d a b => hi (i + 1) v d (by simpa using a) (by simpa using b)) hp.2)
  induction h with
  | non => intro _; exact .non
  | bl b => intro _; exact .bl b
  | int i => intro _; exact .int i
  | str x h => intro _; exact .str x
  | lst h hl hi ih =>
    intro hp
    rw [plain] at hp
    exact .lst (.inl (.inl (e _ _ h))) (all _ _ hl ih hp)
  | tup h hl hi ih =>
    intro hp
    rw [plain] at hp
    exact .tup (Same.sqT e h.sq) (all _ _ hl ih hp)
  | dct => intro hp; simp [plain] at hp
  | scr => intro hp; simp [plain, KD.scr] at hp
theorem Dr.all_dp {xs : List V} {ds : List D} (h : DrAll w K F xs ds) (e : Same F H) (hp : plains ds = true) : DpAll K H xs ds := by
  induction ds generalizing xs with
  | nil => rw [h.nil_inv]; exact .nil
  | cons d ds ih =>
    obtain ⟨v, r, rfl, h1, h2⟩ := h.cons_inv
    rw [plains, Bool.and_eq_true] at hp
    exact .cons (h1.plain_dp e hp.1) (ih h2 hp.2)
theorem Br.dp (h : Br w K F H v d) (e : Same F H) (hp : plain d = true) : Dp K H v d := by
  rcases h with h | ⟨a, o, rfl, h1, h2⟩
  · exact h.plain_dp e hp
  · cases h2 with
    | lst h =>
      rw [plain] at hp
      exact .lst (.inl (.inl h1)) (Dr.all_dp h e hp)
    | dct => simp [plain] at hp
/-- all texts within are texts -/
theorem Dr.lay (h : Dr w K F v d) : plain d = true → PyData.canLay0 d = true := by
  have all : ∀ (ds : List D) (xs : List V), xs.length = ds.length → (∀ (i : Nat) (v : V) (d : D), xs[i]? = some v → ds[i]? = some d → plain d = true → PyData.canLay0 d = true) → plains ds = true → PyData.canLayAll0 ds = true := by
    intro ds
    induction ds with
    | nil => intro _ _ _ _; simp [PyData.canLayAll0]
    | cons d ds ih =>
      intro xs hl hi hp
      cases xs with
      | nil => simp at hl
      | cons x xs =>
        rw [plains, Bool.and_eq_true] at hp
        rw [PyData.canLayAll0, hi 0 x d rfl rfl hp.1, ih xs (by simpa using hl) (fun i v d a b => hi (i + 1) v d (by simpa using a) (by simpa using b)) hp.2]
        rfl
  induction h with
  | non => intro _; simp [PyData.canLay0]
  | bl b => intro _; simp [PyData.canLay0]
  | int i => intro _; simp [PyData.canLay0]
  | str x h => intro _; simp [PyData.canLay0, h]
  | lst h hl hi ih =>
    intro hp
    rw [plain] at hp
    rw [PyData.canLay0]
    exact all _ _ hl ih hp
  | tup h hl hi ih =>
    intro hp
    rw [plain] at hp
    rw [PyData.canLay0]
    exact all _ _ hl ih hp
  | dct => intro hp; simp [plain] at hp
  | scr => intro hp; simp [plain, KD.scr] at hp
theorem DrAll.lay {xs : List V} {ds : List D} (h : DrAll w K F xs ds) (hp : plains ds = true) : PyData.canLayAll0 ds = true := by
  induction ds generalizing xs with
  | nil => simp [PyData.canLayAll0]
  | cons d ds ih =>
    obtain ⟨v, r, rfl, h1, h2⟩ := h.cons_inv
    rw [plains, Bool.and_eq_true] at hp
    rw [PyData.canLayAll0, h1.lay hp.1, ih h2 hp.2]
    rfl
theorem Br.lay (h : Br w K F H v d) (hp : plain d = true) : PyData.canLay0 d = true := by
  rcases h with h | ⟨a, o, rfl, h1, h2⟩
  · exact h.lay hp
  · cases h2 with
    | lst h =>
      rw [plain] at hp
      rw [PyData.canLay0]
      exact h.lay hp
    | dct => simp [plain] at hp
theorem Br.shaped (h : Br w K F H v d) (hs : shp d = true) : plain d = true ∧ SeqAt.shaped d = true := by
  unfold shp at hs
  rw [Bool.and_eq_true, decide_eq_true_eq] at hs
  refine ⟨hs.1, ?_⟩
  unfold SeqAt.shaped
  rw [h.lay hs.1, Bool.true_and]
  exact decide_eq_true (by omega)
end
end KD
/-! KdDict: dicts over the heap: what is asked of one, what is stored. -/
namespace KD
open PySem PySem.Spec
open PyProof.Rows L2
theorem Paired.imp {α β : Type} {R S : α → β → Prop} (f : ∀ a b, R a b → S a b) : ∀ {l : List α} {m : List β}, Paired R l m → Paired S l m
  | _, _, .nil => .nil
  | _, _, .cons h t => .cons (f _ _ h) (Paired.imp f t)
theorem Paired.of_get {α β : Type} {R : α → β → Prop} : ∀ {l : List α} {m : List β}, l.length = m.length → (∀ (i : Nat) a b, l[i]? = some a → m[i]? = some b → R a b) → Paired R l m
  | [], [], _, _ => .nil
  | [], _ :: _, h, _ => by simp at h
  | _ :: _, [], h, _ => by simp at h
  | a :: l, b :: m, h, f => .cons (f 0 a b rfl rfl) (Paired.of_get (by simpa using h) fun i x y hx hy => f (i + 1) x y (by simpa using hx) (by simpa using hy))
theorem Paired.get {α β : Type} {R : α → β → Prop} : ∀ {l : List α} {m : List β}, Paired R l m → ∀ (i : Nat) a b, l[i]? = some a → m[i]? = some b → R a b
  | _, _, .nil, i, a, b, h, _ => by simp at h
  | _, _, .cons r t, 0, a, b, h, k => by
    simp at h k
    subst h k
    exact r
  | _, _, .cons r t, i + 1, a, b, h, k => Paired.get t i a b (by simpa using h) (by simpa using k)
theorem Paired.len {α β : Type} {R : α → β → Prop} : ∀ {l : List α} {m : List β}, Paired R l m → l.length = m.length
  | _, _, .nil => rfl
  | _, _, .cons _ t => by rw [List.length_cons, List.length_cons, Paired.len t]
theorem Paired.mem {α β : Type} {R : α → β → Prop} : ∀ {l : List α} {m : List β}, Paired R l m → ∀ a ∈ l, ∃ b ∈ m, R a b
  | _, _, .nil, a, h => by simp at h
  | _, _, .cons (b := b) r t, a, h => by
    rcases List.mem_cons.mp h with e | h
    · rw [e]
      exact ⟨b, List.mem_cons_self, r⟩
    · obtain ⟨c, hc, hr⟩ := Paired.mem t a h
      exact ⟨c, List.mem_cons_of_mem _ hc, hr⟩
theorem Paired.flip {α β : Type} {R : α → β → Prop} : ∀ {l : List α} {m : List β}, Paired R l m → Paired (fun b a => R a b) m l
  | _, _, .nil => .nil
  | _, _, .cons h t => .cons h (Paired.flip t)
/-! ### the plain keys -/
/-- a leaf without its heap -/
def leafV : Leaf → V
  | .none => .non
  | .num i => .int i
  | .text x => .str x
def noTruth : Value → Bool
  | .bool _ => false
  | _ => true
def exIs (k : Leaf) (v : Value) : Bool := Leaf.isOf k v && noTruth v
theorem exIs_of {k : Leaf} {v : Value} (h : exIs k v = true) : Leaf.isOf k v = true := by
  unfold exIs at h
  rw [Bool.and_eq_true] at h
  exact h.1
theorem exIs_iff {k : Leaf} {v : Value} : exIs k v = true ↔ RelV (leafV k) v := by
  cases k with
  | none => cases v <;> simp [exIs, Leaf.isOf, noTruth, leafV, L2.RelV]
  | num i =>
    cases v <;> simp [exIs, Leaf.isOf, noTruth, leafV, L2.RelV]
  | text x =>
    constructor
    · intro h
      obtain ⟨t, rfl⟩ := Value.isStrOf_shape (show Value.isStrOf x v = true from exIs_of h)
      exact ⟨t, rfl⟩
    · rintro ⟨t, rfl⟩
      unfold exIs
      rw [Bool.and_eq_true]
      exact ⟨by simp [Leaf.isOf, Value.isStrOf], rfl⟩
/-- the kind of plain keys, truths left out -/
def exKind (P : Program) (w : World) : PySem.KeyKind P w Leaf where
  is := exIs
  hash := fun k => k.key.hash w
  inj := fun v a b ha hb => (leafKind P w).inj v a b (exIs_of ha) (exIs_of hb)
  byValue := fun k v h => (leafKind P w).byValue k v (exIs_of h)
  pyHash := fun hv h => (leafKind P w).pyHash (exIs_of hv) h
  eqBool := fun hu hv h => (leafKind P w).eqBool (exIs_of hu) (exIs_of hv) h
  «strs» := fun k x t v h => by
    have q := (leafKind P w).strs k x t v (exIs_of h)
    rw [← q]
    show (Leaf.isOf k v && noTruth v) = Leaf.isOf k v
    cases k with
    | none => exact absurd (exIs_of h) Bool.false_ne_true
    | num i => exact absurd (exIs_of h) Bool.false_ne_true
    | text y => cases v <;> simp [Leaf.isOf, noTruth, Value.isStrOf]
/-! ### entries on the side of the data -/
abbrev Ent := NestedKey × V × V
def EnD (w : World) (K : PySem.W.Frag) (F : Hp) (p : Ent) (q : D × D) : Prop := keyOf q.1 = some p.1 ∧ Dr w K F p.2.1 q.1 ∧ Dr w K F p.2.2 q.2
abbrev Ens (w : World) (K : PySem.W.Frag) (F : Hp) : List Ent → List (D × D) → Prop := Paired (EnD w K F)
def vget (kvs : List Ent) (k : NestedKey) : Option V := (kvs.find? fun p => decide (p.1 = k)).map (·.2.2)
def vput : List Ent → NestedKey → V → V → List Ent
  | [], k, x, y => [(k, x, y)]
  | p :: r, k, x, y => if p.1 = k then (p.1, p.2.1, y) :: r else p :: vput r k x y
section
variable {w : World} {K : PySem.W.Frag} {F F' H : Hp} {kvs : List Ent} {ds : List (D × D)} {v x y : V} {d e : D} {a : Addr} {o : Obj}
theorem Ens.mono (h : Ens w K F kvs ds) (e : Same F F') : Ens w K F' kvs ds := Paired.imp (fun p q r => ⟨r.1, r.2.1.mono e, r.2.2.mono e⟩) h
theorem Br.dict_at (e : Same F H) (h : Br w K F H v (.dict ds)) (hs : dictOk ds = true) : ∃ a o kvs, v = .ref a ∧ H a = some (dO a o) ∧ DHas w a o kvs ∧ Ens w K F kvs ds := by
  obtain ⟨a, o, kvs, h1, h2, h3, hl, hk, hd, hv⟩ := h.dict_inv e hs
  exact ⟨a, o, kvs, h1, h2, h3, Paired.of_get hl fun i p q hp hq => ⟨hk i p.1 p.2.1 p.2.2 q.1 q.2 hp hq, hd i p.1 p.2.1 p.2.2 q.1 q.2 hp hq, hv i p.1 p.2.1 p.2.2 q.1 q.2 hp hq⟩⟩
theorem Ens.cont (r : DHas w a o kvs) (h : Ens w K F kvs ds) : Cont w K F a (dO a o) (.dict ds) :=
  .dct r (Paired.len h) (fun i k x y d e p q => (Paired.get h i _ _ p q).1) (fun i k x y d e p q => (Paired.get h i _ _ p q).2.1) fun i k x y d e p q => (Paired.get h i _ _ p q).2.2
theorem Ens.ok (h : Ens w K F kvs ds) : dictOk ds = true := dictOk_of (Paired.len h) fun i k x y d e p q => (Paired.get h i _ _ p q).1
theorem Ens.find (h : Ens w K F kvs ds) (k : NestedKey) : (∃ y e, vget kvs k = some y ∧ dfind k ds = some e ∧ Dr w K F y e) ∨ (vget kvs k = none ∧ dfind k ds = none) := by
  induction h with
  | nil => exact .inr ⟨rfl, rfl⟩
  | @cons p q kvs ds r t ih =>
    obtain ⟨d, e⟩ := q
    obtain ⟨r1, r2, r3⟩ := r
    have r1 : keyOf d = some p.1 := r1
    unfold vget at ih ⊢
    rw [List.find?_cons, dfind, r1]
    by_cases hk : p.1 = k
    · rw [decide_eq_true hk, if_pos (congrArg some hk)]
      exact .inl ⟨_, _, rfl, rfl, r3⟩
    · rw [decide_eq_false hk, if_neg fun z => hk (Option.some.inj z)]
      exact ih
theorem Ens.put (h : Ens w K F kvs ds) {k : NestedKey} (hk : keyOf d = some k) (hx : Dr w K F x d) (hy : Dr w K F y e) : Ens w K F (vput kvs k x y) (dset k d e ds) := by
  induction h with
  | nil => exact .cons ⟨hk, hx, hy⟩ .nil
  | @cons p q kvs ds r t ih =>
    obtain ⟨d', e'⟩ := q
    obtain ⟨r1, r2, r3⟩ := r
    have r1 : keyOf d' = some p.1 := r1
    rw [vput, dset, r1]
    by_cases hkk : p.1 = k
    · rw [if_pos hkk, if_pos (congrArg some hkk)]
      exact .cons ⟨r1, r2, hy⟩ t
    · rw [if_neg hkk, if_neg fun z => hkk (Option.some.inj z)]
      exact .cons ⟨r1, r2, r3⟩ ih
end
theorem vget_none {kvs : List Ent} {k : NestedKey} (h : vget kvs k = none) : k ∉ kvs.map (·.1) := by
  intro hm
  obtain ⟨p, hp, e⟩ := List.mem_map.mp hm
  unfold vget at h
  rw [Option.map_eq_none_iff, List.find?_eq_none] at h
  exact h p hp (decide_eq_true e)
theorem vput_old {k : NestedKey} {x y : V} : ∀ {kvs : List Ent}, (kvs.map (·.1)).Nodup → k ∈ kvs.map (·.1) → vput kvs k x y = kvs.map fun p => if p.1 = k then (p.1, p.2.1, y) else p
  | [], _, h => by simp at h
  | p :: r, hn, h => by
    rw [List.map_cons, List.nodup_cons] at hn
    rw [vput, List.map_cons]
    by_cases hk : p.1 = k
    · rw [if_pos hk, if_pos hk]
      congr 1
      have : ∀ q ∈ r, ¬ q.1 = k := fun q hq e => hn.1 (by rw [hk, ← e]; exact List.mem_map.mpr ⟨q, hq, rfl⟩)
      symm
      calc r.map (fun p => if p.1 = k then (p.1, p.2.1, y) else p) = r.map id := List.map_congr_left fun q hq => by rw [if_neg (this q hq)]; rfl
        _ = r := List.map_id r
    · rw [if_neg hk, if_neg hk, vput_old hn.2 (by
        rw [List.map_cons, List.mem_cons] at h
        rcases h with h | h
        · exact absurd h.symm hk
        · exact h)]
theorem vput_new {k : NestedKey} {x y : V} : ∀ {kvs : List Ent}, k ∉ kvs.map (·.1) → vput kvs k x y = kvs ++ [(k, x, y)]
  | [], _ => rfl
  | p :: r, h => by
    rw [List.map_cons, List.mem_cons, not_or] at h
    rw [vput, if_neg (fun z => h.1 z.symm), vput_new h.2]
    rfl
theorem vput_len (kvs : List Ent) (k : NestedKey) (x y : V) : (vput kvs k x y).length ≤ kvs.length + 1 := by
  induction kvs with
  | nil => simp [vput]
  | cons p r ih =>
    rw [vput]
    split
    · simp
    · simp only [List.length_cons]; omega
/-! ### the two kinds of dicts -/
def RS (p : Ent) (q : Leaf × Value) : Prop := p.1 = q.1.key ∧ p.2.1 = leafV q.1 ∧ RelV p.2.2 q.2
def RT (p : Ent) (q : NestedKey × Addr × Value) : Prop := p.1 = q.1 ∧ p.2.1 = .ref q.2.1 ∧ RelV p.2.2 q.2.2
section
variable {P : Program} {w : World} {h : Heap} {a : Addr} {o : Obj} {kvs : List Ent}
theorem key_map {l : List Leaf} (hn : (l.map Leaf.key).Nodup) : l.Nodup := List.Pairwise.of_map Leaf.key (fun _ _ hne e => hne (congrArg Leaf.key e)) hn
theorem DHas.plain (r : DHas w a o kvs) (ho : h.get? a = some o) (hs : ∀ p ∈ kvs, ∃ l : Leaf, p.1 = l.key ∧ p.2.1 = leafV l) : ∃ vs, h.DictOf (exKind P w) a vs ∧ Paired RS kvs vs := by
  obtain ⟨arr, ep, hd, hp⟩ := r.en
  have key : ∀ {es : List DictEntry} {kvs : List Ent}, Paired (EntOk w) es kvs → (∀ p ∈ kvs, ∃ l : Leaf, p.1 = l.key ∧ p.2.1 = leafV l) →
      ∃ vs : List (Leaf × Value), PySem.Pairs (exKind P w) es vs ∧ Paired RS kvs vs ∧ ∀ e ∈ es, ∃ k, (exKind P w).is k e.key = true ∧ e.hash = (exKind P w).hash k := by
    intro es kvs hp
    induction hp with
    | nil => exact fun _ => ⟨[], .nil, .nil, fun e he => by simp at he⟩
    | @cons e p es kvs h t ih =>
      intro hs
      obtain ⟨vs, i1, i2, i3⟩ := ih fun p hp => hs p (List.mem_cons_of_mem _ hp)
      obtain ⟨l, h1, h2⟩ := hs p List.mem_cons_self
      obtain ⟨k1, k2, k3⟩ := h
      have hi : (exKind P w).is l e.key = true := exIs_iff.mpr (h2 ▸ k2)
      refine ⟨(l, e.val) :: vs, .cons hi rfl i1, .cons ⟨h1, h2, k3⟩ i2, fun e' he' => ?_⟩
      rcases List.mem_cons.mp he' with q | q
      · rw [q]
        exact ⟨l, hi, by rw [k1, h1]; rfl⟩
      · exact i3 e' q
  obtain ⟨vs, i1, i2, i3⟩ := key hp hs
  refine ⟨vs, ⟨o, arr, ep, ho, r.ex, hd, fun e he => i3 e (by simpa using he), i1, ?_⟩, i2⟩
  have hn := r.nd
  have e : kvs.map (·.1) = (vs.map (·.1)).map Leaf.key := by
    clear hp hd i1 i3 hn hs
    clear r
    induction i2 with
    | nil => rfl
    | cons h t ih =>
      rw [List.map_cons, List.map_cons, List.map_cons, ih, h.1]
  rw [e] at hn
  exact key_map hn
theorem DHas.of_plain {vs : List (Leaf × Value)} (hd : h.DictOf (exKind P w) a vs) (hr : Paired RS kvs vs) (ne : (a == sysModules) = false) (sz : kvs.length ≤ sizeLine) : ∃ o, h.get? a = some o ∧ DHas w a o kvs := by
  obtain ⟨o, arr, ep, ho, hx, hdat, hk, hp, hn⟩ := hd
  refine ⟨o, ho, ne, hx, ⟨arr, ep, hdat, ?_⟩, ?_, sz, fun p hp' => ?_⟩
  · have key : ∀ {es : List DictEntry} {vs : List (Leaf × Value)}, PySem.Pairs (exKind P w) es vs → (∀ e ∈ es, ∃ k, (exKind P w).is k e.key = true ∧ e.hash = (exKind P w).hash k) → ∀ {kvs : List Ent}, Paired RS kvs vs → Paired (EntOk w) es kvs := by
      intro es vs hp
      induction hp with
      | nil => intro _ kvs hr; cases hr; exact .nil
      | @cons e kv es vs h1 h2 t ih =>
        intro hk kvs hr
        cases hr with
        | @cons p _ r _ hr1 hr2 =>
          refine .cons ⟨?_, ?_, ?_⟩ (ih (fun e he => hk e (List.mem_cons_of_mem _ he)) hr2)
          · obtain ⟨k, hk1, hk2⟩ := hk e List.mem_cons_self
            rw [hk2, (exKind P w).inj _ _ _ hk1 h1, hr1.1]
            rfl
          · rw [hr1.2.1]
            exact exIs_iff.mp h1
          · rw [h2]
            exact hr1.2.2
    exact key hp (fun e he => hk e (by simpa using he)) hr
  · have e : kvs.map (·.1) = (vs.map (·.1)).map Leaf.key := by
      clear hp hdat hk hn hx
      induction hr with
      | nil => rfl
      | cons h t ih =>
        rw [List.map_cons, List.map_cons, List.map_cons, ih (by simp at sz; omega), h.1]
    rw [e]
    exact List.pairwise_map.mpr (List.Pairwise.imp (fun hne z => hne (Leaf.key_inj z)) hn)
  · obtain ⟨q, _, h1, _⟩ := Paired.mem hr p hp'
    rw [h1]
    cases q.1 <;> simp [Leaf.key, NestedKey.depth]
theorem DHas.tups (r : DHas w a o kvs) (ho : h.get? a = some o) (hs : ∀ p ∈ kvs, ∃ b, p.2.1 = .ref b ∧ NestedIs h p.1 (.ref b)) : ∃ xs, h.DictOfH (nestedKind P w) a xs ∧ Paired RT kvs xs := by
  obtain ⟨arr, ep, hd, hp⟩ := r.en
  have key : ∀ {es : List DictEntry} {kvs : List Ent}, Paired (EntOk w) es kvs → (∀ p ∈ kvs, p.1.depth ≤ 8 ∧ ∃ b, p.2.1 = .ref b ∧ NestedIs h p.1 (.ref b)) →
      ∃ xs : List (NestedKey × Addr × Value), es = xs.map (entryOfKey (nestedKind P w)) ∧ Paired RT kvs xs ∧ ∀ x ∈ xs, (nestedKind P w).is h x.1 x.2.1 := by
    intro es kvs hp
    induction hp with
    | nil => exact fun _ => ⟨[], rfl, .nil, fun e he => by simp at he⟩
    | @cons e p es kvs h t ih =>
      intro hs
      obtain ⟨xs, i1, i2, i3⟩ := ih fun p hp => hs p (List.mem_cons_of_mem _ hp)
      obtain ⟨h0, b, h1, h2⟩ := hs p List.mem_cons_self
      obtain ⟨k1, k2, k3⟩ := h
      rw [h1] at k2
      have k2 : e.key = Value.ref b := k2
      refine ⟨(p.1, b, e.val) :: xs, ?_, .cons ⟨rfl, h1, k3⟩ i2, fun x hx => ?_⟩
      · rw [List.map_cons, ← i1]
        congr 1
        show e = ⟨p.1.hash w, .ref b, e.val⟩
        rw [← k1, ← k2]
      · rcases List.mem_cons.mp hx with q | q
        · rw [q]
          exact ⟨h2, h0⟩
        · exact i3 x q
  obtain ⟨xs, i1, i2, i3⟩ := key hp fun p hp' => ⟨r.dp p hp', hs p hp'⟩
  refine ⟨xs, ⟨o, arr, ep, ho, r.ex, hd, i1, i3, ?_⟩, i2⟩
  have hn := r.nd
  have e : kvs.map (·.1) = xs.map (·.1) := by
    clear hp hd i1 i3 hn hs r
    induction i2 with
    | nil => rfl
    | cons h t ih =>
      rw [List.map_cons, List.map_cons, ih, h.1]
  rw [← e]
  exact hn
theorem DHas.of_tups {xs : List (NestedKey × Addr × Value)} (hd : h.DictOfH (nestedKind P w) a xs) (hr : Paired RT kvs xs) (ne : (a == sysModules) = false) (sz : kvs.length ≤ sizeLine) : ∃ o, h.get? a = some o ∧ DHas w a o kvs := by
  obtain ⟨o, arr, ep, ho, hx, hdat, he, hi, hn⟩ := hd
  have e : kvs.map (·.1) = xs.map (·.1) := by
    clear hdat he hi hn hx
    induction hr with
    | nil => rfl
    | cons h t ih =>
      rw [List.map_cons, List.map_cons, ih (by simp at sz; omega), h.1]
  refine ⟨o, ho, ne, hx, ⟨arr, ep, hdat, ?_⟩, by rw [e]; exact hn, sz, fun p hp' => ?_⟩
  · rw [he]
    clear he hi hn hx hdat e
    induction hr with
    | nil => exact .nil
    | @cons p q _ _ h t ih =>
      refine .cons ⟨?_, ?_, h.2.2⟩ (ih (by simp at sz; omega))
      · show q.1.hash w = _
        rw [h.1]
      · rw [h.2.1]
        rfl
  · obtain ⟨q, hq, h1, _⟩ := Paired.mem hr p hp'
    rw [h1]
    exact (hi q hq).2
theorem rs_get {vs : List (Leaf × Value)} (hr : Paired RS kvs vs) (l : Leaf) : RelO (vget kvs l.key) (valueAt vs l) := by
  unfold vget valueAt
  induction hr with
  | nil => exact True.intro
  | @cons p q _ _ h t ih =>
    rw [List.find?_cons, List.find?_cons]
    by_cases hk : q.1 = l
    · rw [decide_eq_true hk, decide_eq_true (by rw [h.1, hk])]
      exact h.2.2
    · rw [decide_eq_false hk, decide_eq_false (fun z => hk (Leaf.key_inj (by rw [← h.1, z])))]
      exact ih
theorem rs_keys {vs : List (Leaf × Value)} (hr : Paired RS kvs vs) : kvs.map (·.1) = (vs.map (·.1)).map Leaf.key := by
  induction hr with
  | nil => rfl
  | cons h t ih => rw [List.map_cons, List.map_cons, List.map_cons, ih, h.1]
theorem rs_put {vs : List (Leaf × Value)} (hr : Paired RS kvs vs) (hn : (vs.map (·.1)).Nodup) (l : Leaf) {y : V} {u : Value} (ry : RelV y u) : Paired RS (vput kvs l.key (leafV l) y) (stored vs l u) := by
  have hk := rs_keys hr
  have hnk : (kvs.map (·.1)).Nodup := by
    rw [hk]
    exact List.pairwise_map.mpr (List.Pairwise.imp (fun hne z => hne (Leaf.key_inj z)) hn)
  unfold stored
  by_cases hm : l ∈ vs.map (·.1)
  · have hm' : l.key ∈ kvs.map (·.1) := by
      rw [hk]
      exact List.mem_map.mpr ⟨l, hm, rfl⟩
    rw [vput_old hnk hm', if_pos (by
      rw [List.any_eq_true]
      obtain ⟨q, hq, e⟩ := List.mem_map.mp hm
      exact ⟨q, hq, decide_eq_true e⟩)]
    clear hm hm' hk hn hnk
    induction hr with
    | nil => exact .nil
    | @cons p q _ _ h t ih =>
      rw [List.map_cons, List.map_cons]
      refine .cons ?_ ih
      by_cases hq : q.1 = l
      · rw [if_pos hq, if_pos (by rw [h.1, hq])]
        exact ⟨h.1, h.2.1, ry⟩
      · rw [if_neg hq, if_neg fun z => hq (Leaf.key_inj (by rw [← h.1, z]))]
        exact h
  · have hm' : l.key ∉ kvs.map (·.1) := by
      rw [hk]
      intro z
      obtain ⟨l', h1, h2⟩ := List.mem_map.mp z
      rw [Leaf.key_inj h2] at h1
      exact hm h1
    rw [vput_new hm', if_neg (by
      rw [List.any_eq_true]
      rintro ⟨q, hq, e⟩
      exact hm (List.mem_map.mpr ⟨q, hq, of_decide_eq_true e⟩))]
    exact Paired.snoc hr ⟨rfl, rfl, ry⟩
theorem rt_get {xs : List (NestedKey × Addr × Value)} (hr : Paired RT kvs xs) (k : NestedKey) : RelO (vget kvs k) ((atKey xs k).map (·.2)) := by
  unfold vget atKey
  induction hr with
  | nil => exact True.intro
  | @cons p q _ _ h t ih =>
    rw [List.find?_cons, List.find?_cons]
    by_cases hk : q.1 = k
    · rw [decide_eq_true hk, decide_eq_true (by rw [h.1, hk])]
      exact h.2.2
    · rw [decide_eq_false hk, decide_eq_false (fun z => hk (by rw [← h.1, z]))]
      exact ih
theorem rt_keys {xs : List (NestedKey × Addr × Value)} (hr : Paired RT kvs xs) : kvs.map (·.1) = xs.map (·.1) := by
  induction hr with
  | nil => rfl
  | cons h t ih => rw [List.map_cons, List.map_cons, ih, h.1]
theorem rt_put {xs : List (NestedKey × Addr × Value)} (hr : Paired RT kvs xs) (hn : (xs.map (·.1)).Nodup) (k : NestedKey) (b : Addr) {y : V} {u : Value} (ry : RelV y u) : Paired RT (vput kvs k (.ref b) y) (storedH xs k b u) := by
  have hk := rt_keys hr
  by_cases hm : k ∈ xs.map (·.1)
  · rw [vput_old (by rw [hk]; exact hn) (by rw [hk]; exact hm)]
    obtain ⟨q, hq, e⟩ := List.mem_map.mp hm
    cases ha : atKey xs k with
    | none =>
      exfalso
      unfold atKey at ha
      rw [Option.map_eq_none_iff, List.find?_eq_none] at ha
      exact ha q hq (decide_eq_true e)
    | some p =>
      rw [storedH_old ha]
      clear hm hk hn ha hq
      induction hr with
      | nil => exact .nil
      | @cons p q _ _ h t ih =>
        rw [List.map_cons, List.map_cons]
        refine .cons ?_ ih
        unfold putAt
        by_cases hq : q.1 = k
        · rw [if_pos hq, if_pos (by rw [h.1, hq])]
          exact ⟨h.1, h.2.1, ry⟩
        · rw [if_neg hq, if_neg fun z => hq (by rw [← h.1, z])]
          exact h
  · have ha : atKey xs k = none := by
      unfold atKey
      rw [Option.map_eq_none_iff, List.find?_eq_none]
      intro q hq e
      exact hm (List.mem_map.mpr ⟨q, hq, of_decide_eq_true e⟩)
    rw [vput_new (by rw [hk]; exact hm), storedH_new ha]
    exact Paired.snoc hr ⟨rfl, rfl, ry⟩
end
/-! ### at a state -/
section
variable {X : Cx} {pins : List (Addr × Obj)} {σ : L2.St} {F H : Hp} {s : Shared} {a : Addr} {o : Obj} {kvs : List Ent} {ds : List (D × D)} {v x y z : V} {d e : D} {u r : Value} {k : NestedKey} {A : Around} {E : Value → Shared → Prop}
theorem dO_get (I : Inv X pins σ H s) (h : H a = some (dO a o)) : s.heap.get? a = some o := (I.hok a _ h).1
mutual
theorem Dr.nested (I : Inv X pins σ H s) (e : Same F H) : ∀ (d : D) {v : V} {k : NestedKey} {u : Value}, Dr X.w X.K F v d → keyOf d = some k → RelV v u → NestedIs s.heap k u
  | .none, v, k, u, h, hk, ru => by
    cases h; cases ru
    simp only [keyOf] at hk
    cases hk
    exact .none
  | .int i, v, k, u, h, hk, ru => by
    cases h
    obtain ⟨t, rfl⟩ := ru
    simp only [keyOf] at hk
    cases hk
    exact .int _ _
  | .str z, v, k, u, h, hk, ru => by
    cases h
    obtain ⟨t, rfl⟩ := ru
    simp only [keyOf] at hk
    cases hk
    exact .text _ _
  | .tuple l, v, k, u, h, hk, ru => by
    simp only [keyOf] at hk
    obtain ⟨ks, hks, rfl⟩ := Option.map_eq_some_iff.mp hk
    cases h with
    | tup hq hl hi =>
      cases ru
      obtain ⟨its, rv, ⟨o, ho, hc, n, hd⟩, _⟩ := I.tuple (Same.sqT e hq.sq)
      exact .tup ho hc hd (by simpa using Dr.nesteds I e l (vs := _) (us := its) ⟨hl, hi⟩ hks rv)
  | .bool _, v, k, u, h, hk, ru => by simp [keyOf] at hk
  | .list _, v, k, u, h, hk, ru => by simp [keyOf] at hk
  | .dict _, v, k, u, h, hk, ru => by simp [keyOf] at hk
theorem Dr.nesteds (I : Inv X pins σ H s) (e : Same F H) : ∀ (ds : List D) {vs : List V} {ks : List NestedKey} {us : List Value}, DrAll X.w X.K F vs ds → keysOf ds = some ks → Vals vs us → NestedAll s.heap ks us
  | [], vs, ks, us, h, hk, ru => by
    rw [h.nil_inv] at ru
    cases ru
    simp only [keysOf] at hk
    cases hk
    exact .nil
  | d :: ds, vs, ks, us, h, hk, ru => by
    obtain ⟨v, t, rfl, h1, h2⟩ := h.cons_inv
    cases ru with
    | cons r1 r2 =>
      simp only [keysOf] at hk
      obtain ⟨k, hk1, hk⟩ := Option.bind_eq_some_iff.mp hk
      obtain ⟨kr, hk2, rfl⟩ := Option.map_eq_some_iff.mp hk
      exact .cons (Dr.nested I e d h1 hk1 r1) (Dr.nesteds I e ds h2 hk2 r2)
end
theorem flv0 (h : Dr X.w X.K F x d) (hk : keyOf d = some k) (hf : flv d = 0) : ∃ l : Leaf, k = l.key ∧ x = leafV l := by
  cases d with
  | none => cases h; simp only [keyOf] at hk; cases hk; exact ⟨.none, rfl, rfl⟩
  | int i => cases h; simp only [keyOf] at hk; cases hk; exact ⟨.num i, rfl, rfl⟩
  | str z => cases h; simp only [keyOf] at hk; cases hk; exact ⟨.text z, rfl, rfl⟩
  | _ => simp [flv] at hf
theorem flv1 (h : Dr X.w X.K F x d) (hf : flv d = 1) : ∃ b, x = .ref b := by
  cases d with
  | tuple l => cases h; exact ⟨_, rfl⟩
  | _ => simp [flv] at hf
theorem keyAt_ok {ds : List (D × D)} (h : keyAt ds d = some k) : keyOf d = some k ∧ k.depth ≤ 8 ∧ ∀ p ∈ ds, flv p.1 = flv d := by
  unfold keyAt at h
  split at h
  · rename_i k' hk
    split at h
    · rename_i hc
      cases h
      rw [Bool.and_eq_true, decide_eq_true_eq, List.all_eq_true] at hc
      exact ⟨hk, hc.1, fun p hp => beq_iff_eq.mp (hc.2 p hp)⟩
    · cases h
  · cases h
/-- the two roads -/
theorem D_case (I : Inv X pins σ H s) (e : Same F H) (ha : H a = some (dO a o)) (r : DHas X.w a o kvs) (en : Ens X.w X.K F kvs ds) (hy : Dr X.w X.K F y d) (ry : RelV y u) (hk : keyAt ds d = some k) :
    (∃ l vs, k = l.key ∧ y = leafV l ∧ (exKind X.prog X.w).is l u = true ∧ s.heap.DictOf (exKind X.prog X.w) a vs ∧ Paired RS kvs vs) ∨
    ∃ b xs, u = .ref b ∧ y = .ref b ∧ (nestedKind X.prog X.w).is s.heap k b ∧ s.heap.DictOfH (nestedKind X.prog X.w) a xs ∧ Paired RT kvs xs := by
  obtain ⟨h1, h2, h3⟩ := keyAt_ok hk
  have ho := dO_get I ha
  have hf := keyOf_flv h1
  rcases (show flv d = 0 ∨ flv d = 1 by omega) with hf | hf
  · left
    obtain ⟨l, rfl, rfl⟩ := flv0 hy h1 hf
    obtain ⟨vs, hd, hr⟩ := r.plain (P := X.prog) ho fun p hp => by
      obtain ⟨q, hq, q1, q2, q3⟩ := Paired.mem en p hp
      exact flv0 q2 q1 (by rw [h3 q hq, hf])
    exact ⟨l, vs, rfl, rfl, exIs_iff.mpr ry, hd, hr⟩
  · right
    obtain ⟨b, rfl⟩ := flv1 hy hf
    cases ry
    obtain ⟨xs, hd, hr⟩ := r.tups (P := X.prog) ho fun p hp => by
      obtain ⟨q, hq, q1, q2, q3⟩ := Paired.mem en p hp
      obtain ⟨b, hb⟩ := flv1 q2 (by rw [h3 q hq, hf])
      exact ⟨b, hb, by
        rw [hb] at q2
        exact Dr.nested I e q.1 q2 q1 rfl⟩
    exact ⟨b, xs, rfl, rfl, ⟨Dr.nested I e d hy h1 rfl, h2⟩, hd, hr⟩
theorem relO_isSome {o : Option V} {u : Option Value} (r : RelO o u) : o.isSome = u.isSome := r.isSome_eq
theorem D_in {Q : Value → Shared → Prop} (hu : A.units + 20 < cLine) (I : Inv X pins σ H s) (e : Same F H) (ha : H a = some (dO a o)) (r : DHas X.w a o kvs) (en : Ens X.w X.K F kvs ds) (hy : Dr X.w X.K F y d) (ry : RelV y u) (hk : keyAt ds d = some k)
    (h : ∀ s', Inv X pins σ H s' → Q (.bool (vget kvs k).isSome) s') : wpAny (model X.prog X.w) A (compareOp .In u (.ref a)) Q E s := by
  rcases D_case I e ha r en hy ry hk with ⟨l, vs, rfl, rfl, hi, hd, hr⟩ | ⟨b, xs, rfl, rfl, hi, hd, hr⟩
  · refine wpAny_in_of hi r.ne hd.mapOf ?_
    rw [← (rs_get hr l).isSome_eq]
    exact h _ (I.tok _)
  · refine wpAny_in_heap (show A.units + 1 + 8 < cLine by omega) hi r.ne hd ?_
    have q := (rt_get hr k).isSome_eq
    rw [Option.isSome_map] at q
    rw [← q]
    exact h _ (I.tok _)
theorem D_notIn {Q : Value → Shared → Prop} (hu : A.units + 20 < cLine) (I : Inv X pins σ H s) (e : Same F H) (ha : H a = some (dO a o)) (r : DHas X.w a o kvs) (en : Ens X.w X.K F kvs ds) (hy : Dr X.w X.K F y d) (ry : RelV y u) (hk : keyAt ds d = some k)
    (h : ∀ s', Inv X pins σ H s' → Q (.bool (!(vget kvs k).isSome)) s') : wpAny (model X.prog X.w) A (compareOp .NotIn u (.ref a)) Q E s := by
  rcases D_case I e ha r en hy ry hk with ⟨l, vs, rfl, rfl, hi, hd, hr⟩ | ⟨b, xs, rfl, rfl, hi, hd, hr⟩
  · refine wpAny_notIn_of hi r.ne hd.mapOf ?_
    rw [← (rs_get hr l).isSome_eq]
    exact h _ (I.tok _)
  · refine wpAny_notIn_heap (show A.units + 1 + 8 < cLine by omega) hi r.ne hd ?_
    have q := (rt_get hr k).isSome_eq
    rw [Option.isSome_map] at q
    rw [← q]
    exact h _ (I.tok _)
theorem relO_some {o : Option V} {u : Option Value} {v : V} (r : RelO o u) (e : o = some v) : ∃ w, u = some w ∧ RelV v w := by
  subst e
  cases u with
  | none => exact r.elim
  | some w => exact ⟨w, rfl, r⟩
theorem D_getItem (hu : A.units + 20 < cLine) (I : Inv X pins σ H s) (e : Same F H) (ha : H a = some (dO a o)) (r : DHas X.w a o kvs) (en : Ens X.w X.K F kvs ds) (hy : Dr X.w X.K F y d) (ry : RelV y u) (hk : keyAt ds d = some k)
    (hv : vget kvs k = some v) : ∃ w', RelV v w' ∧ ∀ Q : Value → Shared → Prop, (∀ s', Inv X pins σ H s' → Q w' s') → wpAny (model X.prog X.w) A (getItem (.ref a) u) Q E s := by
  rcases D_case I e ha r en hy ry hk with ⟨l, vs, rfl, rfl, hi, hd, hr⟩ | ⟨b, xs, rfl, rfl, hi, hd, hr⟩
  · obtain ⟨w', hw, rw'⟩ := relO_some (rs_get hr l) hv
    exact ⟨w', rw', fun Q h => wpAny_getItem_of hi hd.mapOf hw (h _ (I.tok _))⟩
  · obtain ⟨w', hw, rw'⟩ := relO_some (rt_get hr k) hv
    obtain ⟨p, hp, rfl⟩ := Option.map_eq_some_iff.mp hw
    exact ⟨_, rw', fun Q h => wpAny_getItem_heap (show A.units + 1 + 8 < cLine by omega) hi hd hp (h _ (I.tok _))⟩
theorem D_get2 {Q : Value → Shared → Prop} (hu : A.units + 20 < cLine) (I : Inv X pins σ H s) (e : Same F H) (ha : H a = some (dO a o)) (r : DHas X.w a o kvs) (en : Ens X.w X.K F kvs ds) (hy : Dr X.w X.K F y d) (ry : RelV y u) (hk : keyAt ds d = some k) (rd : RelV z r')
    (h : ∀ w' s', Inv X pins σ H s' → RelV ((vget kvs k).getD z) w' → Q w' s') : wpAny (model X.prog X.w) A (call (.builtin "dict.get") [.ref a, u, r']) Q E s := by
  rcases D_case I e ha r en hy ry hk with ⟨l, vs, rfl, rfl, hi, hd, hr⟩ | ⟨b, xs, rfl, rfl, hi, hd, hr⟩
  · exact call_meetsIn PySem.F.slot_dict_get hd.typeIs PySem.F.entry_dict_get (PySem.F.args_dict_get_3 _ _ _) (meets_dict_get_default (exKind X.prog X.w) a hi r.ne r') ⟨_, hd.mapOf, h _ _ (I.tok _) ((rs_get hr l).getD rd)⟩
  · exact call_meetsIn PySem.F.slot_dict_get hd.typeIs PySem.F.entry_dict_get (PySem.F.args_dict_get_3 _ _ _) (meetsH_dict_get_default (nestedKind X.prog X.w) a b r.ne r')
      ⟨show A.units + 1 + 8 < cLine by omega, k, xs, hi, hd, h _ _ (I.tok _) ((rt_get hr k).getD rd)⟩
theorem D_setItem {Q : Unit → Shared → Prop} (hu : A.units + 20 < cLine) (I : Inv X pins σ H s) (e : Same F H) (ha : H a = some (dO a o)) (r : DHas X.w a o kvs) (en : Ens X.w X.K F kvs ds) (hy : Dr X.w X.K F y d) (ry : RelV y u) (hk : keyAt ds d = some k) (rz : RelV z r') (hl : kvs.length < sizeLine)
    (h : ∀ o' s', Inv X pins σ (upd H a (dO a o')) s' → DHas X.w a o' (vput kvs k y z) → Q () s') : wpAny (model X.prog X.w) A (setItem (.ref a) u r') Q E s := by
  have hsz : (vput kvs k y z).length ≤ sizeLine := Nat.le_trans (vput_len _ _ _ _) hl
  rcases D_case I e ha r en hy ry hk with ⟨l, vs, rfl, rfl, hi, hd, hr⟩ | ⟨b, xs, rfl, rfl, hi, hd, hr⟩
  · have hn : (vs.map (·.1)).Nodup := by
      obtain ⟨_, _, _, _, _, _, _, _, hn⟩ := hd
      exact hn
    refine wpAny_setItem_pairs (hsz := by rw [← Paired.len hr]; exact r.sz) hi hd fun h' hd' hs => ?_
    obtain ⟨o', ho', r'⟩ := DHas.of_plain hd' (rs_put hr hn l rz) r.ne hsz
    exact h o' _ (d_write I (by rw [ha]; exact True.intro) hs ⟨o', ho'⟩ (dO_ok ho')) r'
  · have hn : (xs.map (·.1)).Nodup := hd.nodup
    refine wpAny_setItem_heap (hsz := by rw [← Paired.len hr]; exact r.sz) (show A.units + 1 + 8 < cLine by omega) hi hd fun h' hd' hs => ?_
    obtain ⟨o', ho', r'⟩ := DHas.of_tups hd' (rt_put hr hn k b rz) r.ne hsz
    exact h o' _ (d_write I (by rw [ha]; exact True.intro) hs ⟨o', ho'⟩ (dO_ok ho')) r'
end
/-! ### == {} -/
section
variable {P : Program} {w : World} {A : Around} {E : Value → Shared → Prop} {s : Shared} {a b : Addr} {oa ob : Obj} {es : Array DictEntry} {ep ep' : Nat}
theorem pairs_empty {nm : String} {Q : Bool → Shared → Prop} (na : (a == sysModules) = false) (nb : (b == sysModules) = false) (ga : s.heap.get? a = some oa) (da : oa.data = .dict es ep) (gb : s.heap.get? b = some ob) (db : ob.data = .dict #[] ep')
    (q : Q (decide (es.size = 0)) s) : wpAny (model P w) A (Builtin.Dict.samePairs nm a b) Q E s := by
  have z : es.size = 0 → es = #[] := fun z => Array.eq_empty_of_size_eq_zero z
  unfold Builtin.Dict.samePairs Builtin.Dict.showsAll
  rw [na, nb]
  refine wpAny_bind (wpAny_pure (wpAny_bind (wpAny_pure (wpAny_bind (wpAny_dictEntries ga da ?_)))))
  refine wpAny_bind (wpAny_dictEntries gb db ?_)
  by_cases hz : es.size = 0
  · have he := z hz
    subst he
    refine wpAny_bind (wpAny_dictEpoch ga da (wpAny_bind ?_))
    rw [Std.Legacy.Range.forIn_eq_forIn_range']
    exact wpAny_pure (wpAny_pure (by simpa using q))
  · rw [decide_eq_false hz] at q
    show wpAny _ _ (if (es.size != 0) = true then _ else _) _ _ _
    rw [if_pos (by simpa using hz)]
    exact wpAny_bind (wpAny_rule (wpAny_pure q))
theorem dict_eq0 {Q : Value → Shared → Prop} (hu : A.units < cLine) (na : (a == sysModules) = false) (nb : (b == sysModules) = false) (ga : s.heap.get? a = some oa) (xa : oa.ExactDict) (da : oa.data = .dict es ep) (gb : s.heap.get? b = some ob) (xb : ob.ExactDict) (db : ob.data = .dict #[] ep')
    (q : Q (.bool (decide (es.size = 0))) s) : wpAny (model P w) A (compareOp .Eq (.ref a) (.ref b)) Q E s := by
  have ta : s.TypeIs (.ref a) "dict" := ⟨oa, ga, xa.1⟩
  have tb : s.TypeIs (.ref b) "dict" := ⟨ob, gb, xb.1⟩
  refine wpAny_richCompare_same_room (op := .Eq) ta tb PySem.F.slot_dict_eq (wpAny_call_entry PySem.F.slot_dict_eq ta PySem.F.entry_dict_eq (show wpAny _ _ (Builtin.Dict.dictSlotArgs "__eq__" ⟨[.ref a, .ref b], []⟩ >>= _) _ _ s from wpAny_bind ?_) (PySem.F.args_dict_eq_2 _ _)) hu
  unfold Builtin.Dict.dictSlotArgs
  refine wpAny_bind (wpAny_notOrdered_dict ta (show wpAny _ _ (pure (Value.ref a, Value.ref b)) _ _ s from wpAny_pure (wpAny_bind (wpAny_isInstance (T := "dict") tb PySem.F.sub_dict_dict ?_))))
  simp only [Bool.not_true, Bool.false_eq_true, if_false]
  refine wpAny_bind (wpAny_pure (wpAny_bind (wpAny_pure (wpAny_bind (pairs_empty na nb ga da gb db (wpAny_pure ⟨_, rfl, (fun x => nomatch x), (by simpa using q)⟩))))))
theorem dict_ne0 {Q : Value → Shared → Prop} (hu : A.units < cLine) (na : (a == sysModules) = false) (nb : (b == sysModules) = false) (ga : s.heap.get? a = some oa) (xa : oa.ExactDict) (da : oa.data = .dict es ep) (gb : s.heap.get? b = some ob) (xb : ob.ExactDict) (db : ob.data = .dict #[] ep')
    (q : Q (.bool (!decide (es.size = 0))) s) : wpAny (model P w) A (compareOp .NotEq (.ref a) (.ref b)) Q E s := by
  have ta : s.TypeIs (.ref a) "dict" := ⟨oa, ga, xa.1⟩
  have tb : s.TypeIs (.ref b) "dict" := ⟨ob, gb, xb.1⟩
  refine wpAny_richCompare_same_room (op := .NotEq) ta tb PySem.F.slot_dict_ne (wpAny_call_entry PySem.F.slot_dict_ne ta PySem.F.entry_dict_ne (show wpAny _ _ (Builtin.Dict.dictSlotArgs "__ne__" ⟨[.ref a, .ref b], []⟩ >>= _) _ _ s from wpAny_bind ?_) (PySem.F.args_dict_ne_2 _ _)) hu
  unfold Builtin.Dict.dictSlotArgs
  refine wpAny_bind (wpAny_notOrdered_dict ta (show wpAny _ _ (pure (Value.ref a, Value.ref b)) _ _ s from wpAny_pure (wpAny_bind (wpAny_isInstance (T := "dict") tb PySem.F.sub_dict_dict ?_))))
  simp only [Bool.not_true, Bool.false_eq_true, if_false]
  refine wpAny_bind (wpAny_pure (wpAny_bind (wpAny_pure (wpAny_bind (pairs_empty na nb ga da gb db (wpAny_pure ⟨_, rfl, (fun x => nomatch x), (by simpa using q)⟩))))))
theorem DHas.arr {kvs : List Ent} (r : DHas w a oa kvs) : ∃ arr ep, oa.data = .dict arr ep ∧ arr.size = kvs.length := by
  obtain ⟨arr, ep, hd, hp⟩ := r.en
  exact ⟨arr, ep, hd, by rw [← Paired.len hp, Array.length_toList]⟩
theorem DHas.arr0 (r : DHas w a oa []) : ∃ ep, oa.data = .dict #[] ep := by
  obtain ⟨arr, ep, hd, hz⟩ := r.arr
  exact ⟨ep, by rw [hd, Array.eq_empty_of_size_eq_zero hz]⟩
end
end KD
/-! KdExt: a list and all parts of a tuple. -/
namespace PySem
open PySem.AutoSeq1
theorem list_extend_tupA (l : Addr) (items : Array Value) (n : Nat) (b : Addr) (items2 : Array Value) (n2 : Nat) (dd : Option Addr) (sl : Array (Option Value)) (hs0 : ¬(!items.isEmpty && Builtin.List.listTooLong (items.size + items2.size)) = true) (hs1 : items.size ≤ sizeLine) (hs2 : items.size + items2.size ≤ sizeLine + 1 := by seq_fits) :
    Meets (Builtin.«list.extend» ⟨[.ref l, .ref b], []⟩) (fun _ R s => s.heap.get? l = some { cls := .type "list", dict := none, data := .seq items n, slots := #[] } ∧ s.heap.get? b = some { cls := .type "tuple", dict := dd, data := .seq items2 n2, slots := sl } ∧ R (.ok (.ret Value.none)) { s with heap := s.heap.update l (Obj.mapSeq fun x => x ++ items2), toks := s.toks }) :=
  .of_wp fun prog w A R s h => by
    obtain ⟨hp, g, d, tk, os⟩ := s; obtain ⟨hl, hb, h⟩ := h; have f1 := idx_int; have f2 := sub_tuple_tuple; have f3 := sub_list_list; have f4 := sub_tuple_list; have f5 := sub_list_tuple;
    have hz' : (items ++ items2).size ≤ sizeLine + 1 := by rw [Array.size_append]; exact hs2
    wp_walk using (wpAny_updateSeq hl rfl (hz := hs1) (_hz' := hz')), wpAny_loadPart' hl, wpAny_loadPart' hb; exact ⟨_, rfl, h⟩
end PySem
namespace KD
open PySem PySem.Spec
open PyProof.Rows L2
section
variable {X : Cx}
def rExtendA (K : PySem.W.Frag) : V → List V → Hp → VK → Prop := fun x vs H Q => ∃ l b xs zs, x = .ref l ∧ vs = [.ref b] ∧ H l = some (.lst xs) ∧ (H b = some (.lst zs) ∨ SqT K H b zs) ∧ xs.length + zs.length ≤ sizeLine ∧ Q .non (upd H l (.lst (xs ++ zs)))
theorem mt_extendA : MtM X "list.extend" (rExtendA X.K) := by
  intro pins s σ H x vs v us Q I rx rv h
  obtain ⟨l, b, xs, zs, rfl, rfl, hH, hB, hz, q⟩ := h
  rcases hB with hB | hB
  · exact mt_extend pins s σ H _ _ v us Q I rx rv ⟨l, b, xs, zs, rfl, rfl, hH, hB, hz, q⟩
  cases rx
  obtain ⟨u, rfl, ru⟩ := rv.one
  cases ru
  obtain ⟨z, its, n, r, hl, e⟩ := I.lstM hH
  obtain ⟨its2, r2, ⟨⟨cls, dd, data, sl⟩, e2, hc, n2, hd⟩, _⟩ := I.tuple hB
  simp only at hc hd
  subst hc hd
  have hl2 : its2.length = zs.length := r2.length.symm
  have hsz : its.toArray.size + its2.toArray.size ≤ sizeLine := by
    rw [List.size_toArray, List.size_toArray, hl2]
    have : its.length = xs.length := r.length.symm
    omega
  have hlong : ¬ (!its.toArray.isEmpty && Builtin.List.listTooLong (its.toArray.size + its2.toArray.size)) = true := by
    rw [notLongL hsz, Bool.and_false]
    exact Bool.false_ne_true
  refine call_meets F.slot_list_extend ⟨_, e, rfl⟩ F.entry_list_extend (F.args_list_extend_2 _ _)
    (PySem.list_extend_tupA l its.toArray n b its2.toArray n2 dd sl hlong (by omega) (by omega)) ⟨e, e2, ?_⟩
  refine ⟨.non, _, I.lset (its' := its ++ its2) hH e (by simp) (r.append r2) ?_, rfl, q⟩
  rw [List.length_append]
  omega
end
end KD
/-! KdSet: sets of keys (scalars, or tuples of keys): what lies in them, adding. -/
namespace KD
open PySem PySem.Spec
open PyProof.Rows L2
/-- an element: its value, its key -/
abbrev El := Value × NestedKey
def eRow (w : World) (p : El) : Int × Value := (p.2.hash w, p.1)
abbrev hs_ (w : World) (L : List El) : List Int := L.map fun p => p.2.hash w
/-- a tuple that is a key, at its address -/
def TupEl (h : Heap) (p : El) : Prop := (∃ b, p.1 = .ref b) ∧ NestedIs h p.2 p.1 ∧ p.2.depth ≤ 8
/-- the kind of elements: plain ones, or tuples -/
def Kd (w : World) (h : Heap) (t : SetTable) (L : List El) : Bool → Prop
  | true => ∀ p ∈ L, ∃ l : Leaf, p.2 = l.key ∧ exIs l p.1 = true
  | false => TabOk t (hs_ w L) ∧ L.length * 5 < t.mask * 3 ∧ ∀ p ∈ L, TupEl h p
/-- how a set lies at S -/
structure Lie (w : World) (sc : Bool) (h : Heap) (S : Addr) (L : List El) (o : Obj) (es : Array (Int × Value)) (ep : Nat) (t : SetTable) : Prop where
  ob : h.get? S = some o
  ex : o.ExactSet
  da : o.data = .set es ep t
  rw_ : es.toList = L.map (eRow w)
  ft : t.fits es.size = true
  ri : Ris t.place.toList
  ld : w.params.followText "set-order" = true ∨ t.led = true
  nd : (L.map (·.2)).Nodup
  fw : L.length < 64
  kd : Kd w h t L sc
/-- it lies somehow -/
def LieE (w : World) (sc : Bool) (h : Heap) (S : Addr) (L : List El) : Prop := ∃ o es ep t, Lie w sc h S L o es ep t
theorem map_perm {α β : Type} {f : α → β} {l r : List β} (h : l.Perm r) : ∀ {m : List α}, r = m.map f → ∃ k : List α, l = k.map f ∧ k.Perm m := by
  induction h with
  | nil =>
    intro m e
    cases m with
    | nil => exact ⟨[], rfl, .refl _⟩
    | cons _ _ => cases e
  | cons x _ ih =>
    intro m e
    cases m with
    | nil => cases e
    | cons y m =>
      obtain ⟨k, rfl, hk⟩ := ih (m := m) (by simpa using (List.cons.inj e).2)
      exact ⟨y :: k, by rw [List.map_cons, (List.cons.inj e).1], hk.cons y⟩
  | swap x y l =>
    intro m e
    cases m with
    | nil => cases e
    | cons a m =>
      cases m with
      | nil => cases e
      | cons b m =>
        simp only [List.map_cons, List.cons.injEq] at e
        obtain ⟨rfl, rfl, rfl⟩ := e
        exact ⟨b :: a :: m, rfl, .swap a b m⟩
  | trans _ _ i1 i2 =>
    intro m e
    obtain ⟨k2, e2, p2⟩ := i2 e
    obtain ⟨k1, e1, p1⟩ := i1 e2
    exact ⟨k1, e1, p1.trans p2⟩
section
variable {P : Program} {w : World} {A : Around} {E : Value → Shared → Prop} {s : Shared} {S : Addr} {L : List El} {o : Obj} {es : Array (Int × Value)} {ep : Nat} {t : SetTable} {sc : Bool}
theorem Lie.len (R : Lie w sc s.heap S L o es ep t) : es.size = L.length := by
  have q : es.toList.length = (L.map (eRow w)).length := by rw [R.rw_]
  simpa using q
theorem Lie.at (R : Lie w sc s.heap S L o es ep t) {j : Nat} {p : El} (h : L[j]? = some p) : es[j]? = some (eRow w p) := by
  have q : es.toList[j]? = (L.map (eRow w))[j]? := by rw [R.rw_]
  rwa [List.getElem?_map, h, Array.getElem?_toList] at q
/-- what is asked of adding -/
def AddPost (w : World) (sc : Bool) (S : Addr) (L : List El) (x : El) (s : Shared) (Q : Bool → Shared → Prop) : Prop :=
  ∀ b h' L', Heap.SameBut S s.heap h' → LieE w sc h' S L' → (x.2 ∈ L.map (·.2) → L' = L) → (x.2 ∉ L.map (·.2) → L'.Perm (x :: L)) → Q b { s with heap := h' }
/-! ### plain ones, found by looking at each -/
theorem scan_of {l : Leaf} {v : Value} (h : exIs l v = true) : v.scannable = true := by
  have rv := exIs_iff.mp h
  cases l with
  | none => rw [show v = _ from rv]; rfl
  | num i => obtain ⟨_, rfl⟩ := rv; rfl
  | text y => obtain ⟨_, rfl⟩ := rv; rfl
theorem lie_elems (R : Lie w true s.heap S L o es ep t) : ElemsOf (exKind P w) es.toList := by
  intro e he
  rw [R.rw_] at he
  obtain ⟨p, hp, rfl⟩ := List.mem_map.mp he
  obtain ⟨l, h1, h2⟩ := R.kd p hp
  exact ⟨⟨l, h2, by show p.2.hash w = l.key.hash w; rw [h1]⟩, scan_of h2⟩
theorem key_leaf {l m : Leaf} (h : l.key = m.key) : l = m := by
  cases l <;> cases m <;> simp [Leaf.key] at h <;> simp [h]
theorem said {b : Bool} {g : Bool → Sem Unit} (h1 : g true = rule "set.scan.the-table-gave-way") (h2 : g false = pure ()) {Q : Unit → Shared → Prop} (q : Q () s) : wpAny (model P w) A (g b) Q E s := by
  cases b with
  | true => rw [h1]; exact wpAny_rule q
  | false => rw [h2]; exact wpAny_pure q
/-- the end of adding: stored, laid anew where it is too full -/
theorem scan_end {g : Bool → Sem Unit} (h1 : g true = rule "set.scan.the-table-gave-way") (h2 : g false = pure ()) (ho : s.heap.get? S = some o) (hex : o.ExactSet) (hd : o.data = .set es ep t)
    {es' : Array (Int × Value)} {t' : SetTable} {M : List El} (hr : es'.toList = M.map (eRow w)) (nd : (M.map (·.2)).Nodup) (kd : ∀ p ∈ M, ∃ l : Leaf, p.2 = l.key ∧ exIs l p.1 = true) (fw : M.length < 64) (ft : t'.fits es'.size = true)
    (ri : Ris t'.place.toList) (ld : w.params.followText "set-order" = true ∨ t'.led = true) {wd : Bool} {Q : Option Bool → Shared → Prop} (q : ∀ h' M', Heap.SameBut S s.heap h' → LieE w true h' S M' → M'.Perm M → Q (some true) { s with heap := h' }) :
    wpAny (model P w) A (do
      storeSet S es' t'
      if (!wd && t'.tooFull) = true then do
          g (relayAll t' es' (SetTable.grown es'.size)).2.2
          storeSet S (relayAll t' es' (SetTable.grown es'.size)).1 (relayAll t' es' (SetTable.grown es'.size)).2.1
          pure (some true)
        else pure (some true)) Q E s := by
  have hz : es'.size = M.length := by
    have q : es'.toList.length = (M.map (eRow w)).length := by rw [hr]
    simpa using q
  have small : ∀ n, n = M.length → n < scanBound := fun n e => by unfold scanBound; omega
  refine wpAny_bind (wpAny_storeSet_of ho hd ?_ (fits_of_scanBound (small _ hz)))
  have at1 := store_at (es' := es') (t' := t') ho hd
  have sb := Heap.SameBut.update s.heap S (Obj.putSet es' t')
  by_cases hf : (!wd && t'.tooFull) = true
  · refine wp_if_pos hf ?_
    have pm := relayAll_perm t' es' (SetTable.grown es'.size)
    have f3 := relayAll_fits t' es' (SetTable.grown es'.size)
    have r3 := relayAll_ris t' es' (SetTable.grown es'.size)
    have l3 := relayAll_led t' es' (SetTable.grown es'.size)
    revert pm f3 r3 l3
    generalize relayAll t' es' (SetTable.grown es'.size) = z
    intro pm f3 r3 l3
    obtain ⟨N, e1, e2⟩ := map_perm pm hr
    have nz : z.1.size = M.length := by rw [← Array.length_toList, pm.length_eq, Array.length_toList, hz]
    refine wpAny_bind (said h1 h2 ?_)
    refine wpAny_bind (wpAny_storeSet_of at1 rfl ?_ (fits_of_scanBound (small _ nz)))
    have at2 := store_at (es' := z.1) (t' := z.2.1) at1 rfl
    refine wpAny_pure (q _ N (sb.trans (Heap.SameBut.update _ S _)) ⟨_, z.1, _, z.2.1, at2, hex, rfl, e1, f3, r3, ld.imp id fun y => l3.trans y, (e2.map (·.2)).nodup_iff.mpr nd, ?_, fun p hp => kd p (e2.mem_iff.mp hp)⟩ e2)
    rw [e2.length_eq]
    exact fw
  · refine wp_if_neg hf ?_
    exact wpAny_pure (q _ M sb ⟨_, es', _, t', at1, hex, rfl, hr, ft, ri, ld, nd, fw, kd⟩ (.refl _))
theorem add_plain {l : Leaf} {x : Value} (hx : exIs l x = true) (R : Lie w true s.heap S L o es ep t) (room : L.length + 1 < 64) {Q : Bool → Shared → Prop} (q : AddPost w true S L (x, l.key) s Q) :
    wpAny (model P w) A (setAddHashed S x (l.key.hash w)) Q E s := by
  have hel : ElemsOf (exKind P w) es.toList := lie_elems R
  have hz := R.len
  have bd : es.size < scanBound := by unfold scanBound; have := R.fw; omega
  show wpAny (model P w) A (setAddHashed S x ((exKind P w).hash l)) Q E s
  unfold setAddHashed setAddHashedIn
  refine wpAny_holding (wpAny_bind (wpAny_setState_of R.ob R.da R.ft ?_))
  dsimp only
  rw [byScan_of (scan_of hx) bd hel]
  refine wp_if_pos rfl ?_
  unfold setAddByScan
  refine wpAny_bind (wpAny_bind (wpAny_rule (wpAny_bind (wpAny_setScan_of (knd := exKind P w) hx R.ob R.da R.ft hel ?_))))
  have inL : ∀ j, es.toList.findIdx? (fun e => (exKind P w).is l e.2) = some j → l.key ∈ L.map (·.2) := fun j hj => by
    obtain ⟨hl, hp, _⟩ := List.findIdx?_eq_some_iff_getElem.mp hj
    have hm : es.toList[j] ∈ L.map (eRow w) := by rw [← R.rw_]; exact List.getElem_mem hl
    obtain ⟨p, hpL, e⟩ := List.mem_map.mp hm
    obtain ⟨m, k1, k2⟩ := R.kd p hpL
    have hp' : (exKind P w).is l p.1 = true := by rw [← e] at hp; exact hp
    refine List.mem_map.mpr ⟨p, hpL, ?_⟩
    rw [k1, (exKind P w).inj p.1 m l k2 hp']
  cases hfi : es.toList.findIdx? (fun e => (exKind P w).is l e.2) with
  | some j =>
    have hin := inL j hfi
    exact wpAny_pure (wpAny_pure (q false s.heap L (Heap.SameBut.refl S s.heap) ⟨o, es, ep, t, R⟩ (fun _ => rfl) fun z => absurd hin z))
  | none =>
    have hout : l.key ∉ L.map (·.2) := fun z => by
      obtain ⟨p, hp, e⟩ := List.mem_map.mp z
      obtain ⟨m, k1, k2⟩ := R.kd p hp
      have hm : eRow w p ∈ es.toList := by rw [R.rw_]; exact List.mem_map.mpr ⟨p, hp, rfl⟩
      have c := List.findIdx?_eq_none_iff.mp hfi _ hm
      have : m = l := key_leaf (k1.symm.trans e)
      rw [this] at k2
      rw [show (exKind P w).is l (eRow w p).2 = true from k2] at c
      cases c
    have pm := layNew_perm t es ((exKind P w).hash l) x
    have ft := layNew_fits t es ((exKind P w).hash l) x
    have ri := layNew_ris t es ((exKind P w).hash l) x R.ri
    have ld := layNew_led t es ((exKind P w).hash l) x
    dsimp only
    revert pm ft ri ld
    generalize layNew t es ((exKind P w).hash l) x = z
    intro pm ft ri ld
    obtain ⟨es1, t1, wd, gv⟩ := z
    dsimp only at pm ft ri ld ⊢
    rw [Array.toList_push, R.rw_] at pm
    obtain ⟨M, e1, e2⟩ := map_perm (m := L ++ [(x, l.key)]) pm (by rw [List.map_append]; rfl)
    have e3 : M.Perm ((x, l.key) :: L) := e2.trans (List.perm_append_singleton _ _)
    have nd : (M.map (·.2)).Nodup := (e3.map (·.2)).nodup_iff.mpr (List.nodup_cons.mpr ⟨hout, R.nd⟩)
    have kd : ∀ p ∈ M, ∃ l : Leaf, p.2 = l.key ∧ exIs l p.1 = true := fun p hp => by
      rcases List.mem_cons.mp (e3.mem_iff.mp hp) with e | hp
      · rw [e]; exact ⟨l, rfl, hx⟩
      · exact R.kd p hp
    have fw : M.length < 64 := by rw [e3.length_eq, List.length_cons]; exact room
    have ld1 : w.params.followText "set-order" = true ∨ t1.led = true := R.ld.imp id fun y => ld.trans y
    have fin : ∀ h' M', Heap.SameBut S s.heap h' → LieE w true h' S M' → M'.Perm M → Q true { s with heap := h' } := fun h' M' a b c => q true h' M' a b (fun z => absurd z hout) fun _ => c.trans e3
    refine wpAny_bind (said rfl rfl ?_)
    have off : ({ t1 with plain := false } : SetTable).fits es1.size = true := ft
    by_cases hp : t1.plain = true
    · first | refine wpAny_bind (wp_if_pos hp ?_) | refine wp_if_pos hp (wpAny_bind ?_)
      rw [hashByValue_scannable 8 (scan_of hx)]
      refine wpAny_pure ?_
      cases plainKind x with
      | true =>
        exact scan_end rfl rfl R.ob R.ex R.da (M := M) e1 nd kd fw ft ri ld1 fun h' M' a b c => wpAny_pure (fin h' M' a b c)
      | false =>
        exact scan_end rfl rfl R.ob R.ex R.da (M := M) e1 nd kd fw off ri ld1 fun h' M' a b c => wpAny_pure (fin h' M' a b c)
    · first | refine wpAny_bind (wp_if_neg hp (wpAny_pure ?_)) | refine wp_if_neg hp (wpAny_bind (wpAny_pure ?_))
      exact scan_end rfl rfl R.ob R.ex R.da (M := M) e1 nd kd fw ft ri ld1 fun h' M' a b c => wpAny_pure (fin h' M' a b c)
/-! ### tuples of keys: what is asked of them -/
/-- whatever is asked of v by m, the answer is b, and nothing is changed -/
def Says {α : Type} (P : Program) (w : World) (s : Shared) (m : Sem α) (Y : α → Prop) : Prop := ∀ (A : Around) (E : Value → Shared → Prop) (Q : α → Shared → Prop), (∀ b, Y b → Q b s) → wpAny (model P w) A m Q E s
theorem says_all {s : Shared} {T : Type} (f : Value → T → Sem (ForInStep T)) (J : T → Prop) (Y : T → Prop) (hJ : ∀ r, J r → Y r) : ∀ (vs : List Value), (∀ v ∈ vs, ∀ r, J r → Says P w s (f v r) fun z => match z with | .yield r' => J r' | .done r' => Y r') →
    ∀ r, J r → Says P w s (forIn vs r f) Y := fun vs hv r hr A E Q q =>
  wpAny_forIn_list f (fun rest r s' => s' = s ∧ J r ∧ ∀ v ∈ rest, ∀ r, J r → Says P w s (f v r) fun z => match z with | .yield r' => J r' | .done r' => Y r') _ (by
    rintro v rest r _ ⟨rfl, hr, hall⟩
    refine hall v List.mem_cons_self r hr A E _ fun z hz => ?_
    cases z with
    | «yield» r' => exact ⟨rfl, hz, fun u hu => hall u (List.mem_cons_of_mem _ hu)⟩
    | done r' => exact q r' hz) (by
    rintro r _ ⟨rfl, hr, _⟩
    exact q r (hJ r hr)) vs r ⟨rfl, hr, hv⟩
mutual
theorem noClass : ∀ (k : NestedKey) (v : Value) (n : Nat), NestedIs s.heap k v → k.depth ≤ n → Says P w s (ofAClassStatement n v) (· = false)
  | .none, _, n, h, _ => by cases h; intro A E Q q; cases n <;> exact wpAny_pure (q _ rfl)
  | .num i, _, n, h, _ => by cases h <;> (intro A E Q q; cases n <;> exact wpAny_pure (q _ rfl))
  | .text y, _, n, h, _ => by cases h; intro A E Q q; cases n <;> exact wpAny_pure (q _ rfl)
  | .tup ks, _, n, h, hn => by
    cases h with
    | tup hg hc hd hk =>
      rw [NestedKey.depth] at hn
      cases n with
      | zero => omega
      | succ n =>
        intro A E Q q
        have hall := noClasses ks _ n hk (by omega)
        unfold ofAClassStatement
        refine wpAny_bind (wpAny_typeOf ⟨_, hg, hc⟩ ?_)
        dsimp only
        have et : (("tuple" : String) == "tuple") = true := by decide
        simp only [et, if_true, Bool.not_true, Bool.false_eq_true, if_false]
        first | refine wpAny_bind (wpAny_pure ?_) | skip
        show wpAny _ _ (seqItems? (.ref _) >>= _) _ _ s
        refine wpAny_bind (wpAny_seqItems hg hd ?_)
        dsimp only
        refine wpAny_bind ?_
        rw [← Array.forIn_toList]
        refine says_all _ (fun r => r.1 = none) (fun r => r.1 = none) (fun _ z => z) _ (fun v hv r hr A E Q q => ?_) _ rfl A _ _ fun r hr => ?_
        · refine wpAny_bind (hall v hv A _ _ fun b hb => ?_)
          rw [hb]
          refine wp_if_neg (by decide) ?_
          exact wpAny_pure (q _ rfl)
        · obtain ⟨r1, r2⟩ := r
          dsimp only at hr
          rw [hr]
          exact wpAny_pure (q _ rfl)
theorem noClasses : ∀ (ks : List NestedKey) (vs : List Value) (n : Nat), NestedAll s.heap ks vs → NestedKey.depthAll ks ≤ n → ∀ v ∈ vs, Says P w s (ofAClassStatement n v) (· = false)
  | [], _, n, h, _, v, hv => by cases h; cases hv
  | k :: ks, _, n, h, hn, v, hv => by
    cases h with
    | cons h1 h2 =>
      rw [NestedKey.depthAll] at hn
      rcases List.mem_cons.mp hv with e | hv
      · rw [e]; exact noClass k _ n h1 (by omega)
      · exact noClasses ks _ n h2 (by omega) v hv
end
mutual
theorem hashSays : ∀ (k : NestedKey) (v : Value) (n : Nat), NestedIs s.heap k v → Says P w s (hashByValue n v) fun _ => True
  | .none, _, n, h => by cases h; intro A E Q q; cases n <;> exact wpAny_pure (q _ trivial)
  | .num i, _, n, h => by cases h <;> (intro A E Q q; cases n <;> exact wpAny_pure (q _ trivial))
  | .text y, _, n, h => by cases h; intro A E Q q; cases n <;> exact wpAny_pure (q _ trivial)
  | .tup ks, _, n, h => by
    cases h with
    | tup hg hc hd hk =>
      cases n with
      | zero => intro A E Q q; exact wpAny_pure (q _ trivial)
      | succ n =>
        intro A E Q q
        have hall := hashesSay ks _ n hk
        unfold hashByValue
        refine wpAny_bind (wpAny_specialOf ⟨_, hg, hc⟩ F.slot_tuple_hash.lookup ?_)
        refine wpAny_bind (wpAny_seqItems hg hd ?_)
        refine wpAny_bind ?_
        show wpAny _ _ (forIn _ _ _) _ _ s
        rw [← Array.forIn_toList]
        refine says_all _ (fun _ => True) (fun _ => True) (fun _ z => z) _ (fun v hv r hr A E Q q => ?_) _ trivial A _ _ fun r hr => ?_
        · refine wpAny_bind (hall v hv A _ _ fun b hb => ?_)
          cases b with
          | true => exact wpAny_pure (q _ trivial)
          | false => exact wpAny_pure (q _ trivial)
        · obtain ⟨r1, r2⟩ := r
          cases r1 with
          | none => exact wpAny_pure (q _ trivial)
          | some b => exact wpAny_pure (q _ trivial)
theorem hashesSay : ∀ (ks : List NestedKey) (vs : List Value) (n : Nat), NestedAll s.heap ks vs → ∀ v ∈ vs, Says P w s (hashByValue n v) fun _ => True
  | [], _, n, h, v, hv => by cases h; cases hv
  | k :: ks, _, n, h, v, hv => by
    cases h with
    | cons h1 h2 =>
      rcases List.mem_cons.mp hv with e | hv
      · rw [e]; exact hashSays k _ n h1
      · exact hashesSay ks _ n h2 v hv
end
theorem unseen {p : El} (hp : TupEl s.heap p) {ys : List Value} (hy : ∀ y ∈ ys, ∃ q : El, y = q.1 ∧ TupEl s.heap q) : Says P w s (searchCouldBeSeen p.1 ys) (· = false) := by
  intro A E Q q
  unfold searchCouldBeSeen
  refine wpAny_bind ?_
  refine says_all _ (fun r => r.1 = none) (fun r => r.1 = none) (fun _ z => z) ys (fun y hyy r hr A E Q q => ?_) _ rfl A _ _ fun r hr => ?_
  · obtain ⟨u, rfl, ⟨b, hb⟩, hu, hd⟩ := hy y hyy
    obtain ⟨⟨c, hc⟩, hpk, hpd⟩ := hp
    dsimp only
    rw [hb] at hu
    rw [hc] at hpk
    rw [hb, hc]
    dsimp only
    by_cases hv : (c == b || (carriedByValue (.ref c) && carriedByValue (.ref b))) = true
    · exact wp_if_pos hv (wpAny_pure (q _ rfl))
    · refine wp_if_neg hv ?_
      refine wpAny_bind (quiet_key _ _ 8 s hpk hpd A _ _ (wp_if_neg (by decide) ?_))
      refine wpAny_bind (quiet_key _ _ 8 s hu hd A _ _ (wp_if_neg (by decide) ?_))
      refine wpAny_bind (noClass _ _ 8 hpk hpd A _ _ fun b1 e1 => wp_if_neg (by rw [e1]; decide) ?_)
      refine wpAny_bind (noClass _ _ 8 hu hd A _ _ fun b1 e1 => wp_if_neg (by rw [e1]; decide) ?_)
      exact wpAny_pure (q _ rfl)
  · obtain ⟨r1, r2⟩ := r
    dsimp only at hr
    rw [hr]
    exact wpAny_pure (q _ rfl)
/-! ### looking for a tuple -/
/-- the k-th place on the way of the hash h -/
abbrev stepAt (t : SetTable) (h : Int) (k : Nat) : SetTable.Probe := nth t.mask (runAt t.mask (SetTable.bits h % (t.mask + 1)) (SetTable.bits h)) k
theorem step_dm (m : Nat) : ∀ (k : Nat) (p : SetTable.Probe), p.dummy = none → (nth m p k).dummy = none
  | 0, _, h => h
  | k + 1, p, h => step_dm m k (adv m p) (by unfold adv; split <;> exact h)
theorem stepAt_add (t : SetTable) (h : Int) (c q : Nat) : nth t.mask (stepAt t h c) q = stepAt t h (c + q) := (nth_add t.mask c _ q).symm
theorem stepAt_j (t : SetTable) (h : Int) (c q : Nat) : (nth t.mask (stepAt t h c) q).j = way t.mask h (c + q) := by rw [stepAt_add]
abbrev hashAt (es : Array (Int × Value)) : Nat → Int := fun i => (es[i]?.map (·.1)).getD 0
theorem hashAt_row (R : Lie w sc s.heap S L o es ep t) {i : Nat} {p : El} (h : L[i]? = some p) : hashAt es i = p.2.hash w := by
  show (es[i]?.map (·.1)).getD 0 = _
  rw [R.at h]
  rfl
theorem row_len (R : Lie w false s.heap S L o es ep t) : t.place.size = L.length := by
  have := R.kd.1.sz
  rwa [List.length_map] at this
theorem even_no (R : Lie w false s.heap S L o es ep t) : ¬ t.gaveWay = true := by
  unfold SetTable.gaveWay
  rw [mask_odd R.kd.1.mok]
  exact Bool.false_ne_true
theorem look_from (R : Lie w false s.heap S L o es ep t) {x : El} (hx : TupEl s.heap x) (hu : A.units + 8 < cLine) {K : Nat} (free : way t.mask (x.2.hash w) K ∉ t.place.toList) (full : ∀ c, c < K → way t.mask (x.2.hash w) c ∈ t.place.toList)
    (short : K < 10 * SetTable.turns t.mask) {Q : SetFound → Shared → Prop} (yes : x.2 ∈ L.map (·.2) → Q (.there none) s) (no : x.2 ∉ L.map (·.2) → Q (.free (way t.mask (x.2.hash w) K) false) s) :
    ∀ (f c : Nat) (st : Option SetTable.Probe), K - c < f → c ≤ K → st.getD (t.probeStart (x.2.hash w)) = stepAt t (x.2.hash w) c →
      (∀ (i : Nat) (p : El), L[i]? = some p → p.2 = x.2 → ∃ k, c ≤ k ∧ k < K ∧ t.place.toList[i]? = some (way t.mask (x.2.hash w) k)) → wpAny (model P w) A (setSearchFrom S x.1 (x.2.hash w) true f st) Q E s
  | 0, _, _, h, _, _, _ => absurd h (Nat.not_lt_zero _)
  | f + 1, c, st, hf, hc, hst, still => by
    rw [setSearchFrom_succ]
    refine wpAny_bind (wpAny_setState_of R.ob R.da R.ft ?_)
    refine wp_if_neg (even_no R) ?_
    first | refine wpAny_bind (wpAny_pure ?_) | skip
    have spec := go_spec t R.ri R.kd.1.dm (hashAt es) (x.2.hash w) (10 * SetTable.turns t.mask) (K - c) (stepAt t (x.2.hash w) c) (step_dm _ _ _ rfl) (by omega)
      (fun q hq => by rw [stepAt_j]; exact full (c + q) (by omega)) (by rw [stepAt_j, Nat.add_sub_cancel' hc]; exact free)
    -- an equal one that still lies ahead is met
    have ahead : ∀ (i : Nat) (p : El), L[i]? = some p → p.2 = x.2 → ∀ n, (∀ k i', k < n → t.place.toList[i']? = some ((nth t.mask (stepAt t (x.2.hash w) c) k).j) → hashAt es i' ≠ x.2.hash w) → ∃ k, c + n ≤ k ∧ k < K ∧ t.place.toList[i]? = some (way t.mask (x.2.hash w) k) := fun i p hp he n hn => by
      obtain ⟨k, k1, k2, k3⟩ := still i p hp he
      refine ⟨k, Nat.le_of_not_lt fun hlt => ?_, k2, k3⟩
      refine hn (k - c) i (by omega) (by rw [stepAt_j, Nat.add_sub_cancel' k1]; exact k3) ?_
      rw [hashAt_row R hp, he]
    rcases spec with ⟨q, i, hq, hi, hh, hno, hpr⟩ | ⟨hno, hpr⟩
    · rw [stepAt_j] at hi
      have hil : i < L.length := by
        have h1 := (List.getElem?_eq_some_iff.mp hi).1
        rw [Array.length_toList, row_len R] at h1
        exact h1
      obtain ⟨p, hp⟩ : ∃ p, L[i]? = some p := ⟨_, List.getElem?_eq_getElem hil⟩
      have hpt : TupEl s.heap p := R.kd.2.2 p (List.mem_of_getElem? hp)
      have rest : wpAny (model P w) A (searchRest S x.1 (x.2.hash w) true f es t (way t.mask (x.2.hash w) (c + q)) i (stepAt t (x.2.hash w) (c + (q + 1)))) Q E s := by
        obtain ⟨⟨b, hb⟩, hpk, hpd⟩ := hpt
        obtain ⟨⟨a, ha⟩, hxk, hxd⟩ := id hx
        unfold searchRest
        rw [R.at hp]
        dsimp only [eRow]
        rw [ha, hb]
        rw [hb] at hpk
        rw [ha] at hxk
        refine wpAny_bind (wpAny_holding ((nestedKind P w).eqBool hu ⟨hpk, hpd⟩ ⟨hxk, hxd⟩ ?_))
        refine wpAny_bind (wpAny_setState_of R.ob R.da R.ft ?_)
        by_cases he : p.2 = x.2
        · refine wp_if_pos (by simp [he]) ?_
          exact wpAny_pure (yes (List.mem_map.mpr ⟨p, List.mem_of_getElem? hp, he⟩))
        · refine wp_if_neg (by simp [he]) ?_
          first | refine wpAny_bind (wpAny_pure ?_) | skip
          have live : t.slot (way t.mask (x.2.hash w) (c + q)) = .live i := slot_live R.ri hi
          have row : es[i]? = some (p.2.hash w, .ref b) := by rw [R.at hp, ← hb]; rfl
          rw [sameMem]
          simp only [if_true, live, row]
          refine wpAny_bind (wpAny_isSame_ref_self (wpAny_bind (wpAny_pure ?_)))
          simp only [if_true]
          refine wp_if_neg (by simp [he]) ?_
          rw [← ha]
          refine look_from R hx hu free full short yes no f (c + (q + 1)) _ (by omega) (by omega) rfl fun i' p' hp' he' => ?_
          obtain ⟨k, k1, k2, k3⟩ := ahead i' p' hp' he' q hno
          refine ⟨k, Nat.lt_of_le_of_ne k1 fun z => he ?_, k2, k3⟩
          have z2 : k = c + q := z.symm
          rw [z2] at k3
          have l2 := slot_live R.ri k3
          rw [live] at l2
          cases l2
          rw [hp] at hp'
          cases hp'
          exact he'
      have hpr' : t.probe (hashAt es) (x.2.hash w) (st.getD (t.probeStart (x.2.hash w))) = some (.candidate (way t.mask (x.2.hash w) (c + q)) i (stepAt t (x.2.hash w) (c + (q + 1)))) := by
        rw [hst, ← stepAt_j, ← stepAt_add]
        exact hpr
      rw [hpr']
      dsimp only
      by_cases hl : t.led = true
      · refine wp_if_neg (by simp [hl]) ?_
        first | exact rest | exact wpAny_bind (wpAny_pure rest)
      · refine wp_if_pos (by simp [hl]) ?_
        refine wpAny_bind (unseen hx (fun y hy => ?_) A _ _ fun b hb => wp_if_neg (by rw [hb]; exact Bool.false_ne_true) ?_)
        · obtain ⟨e, he, rfl⟩ := List.mem_map.mp hy
          have hm : e ∈ es.toList := by
            have : e ∈ es ∧ e.1 = x.2.hash w := by simpa using he
            simpa using this.1
          rw [R.rw_] at hm
          obtain ⟨u, hu', rfl⟩ := List.mem_map.mp hm
          exact ⟨u, rfl, R.kd.2.2 u hu'⟩
        · first | exact rest | exact wpAny_bind (wpAny_pure rest)
    · have hpr' : t.probe (hashAt es) (x.2.hash w) (st.getD (t.probeStart (x.2.hash w))) = some (.empty (way t.mask (x.2.hash w) K) none) := by
        rw [hst, show way t.mask (x.2.hash w) K = (nth t.mask (stepAt t (x.2.hash w) c) (K - c)).j from by rw [stepAt_j, Nat.add_sub_cancel' hc]]
        exact hpr
      rw [hpr']
      refine wpAny_pure (no fun hm => ?_)
      obtain ⟨p, hp, he⟩ := List.mem_map.mp hm
      obtain ⟨i, hi⟩ := List.mem_iff_getElem?.mp hp
      obtain ⟨k, k1, k2, _⟩ := ahead i p hi he (K - c) hno
      omega
theorem look_at (R : Lie w false s.heap S L o es ep t) {x : El} (hx : TupEl s.heap x) (hu : A.units + 8 < cLine) {Q : SetFound → Shared → Prop} (yes : x.2 ∈ L.map (·.2) → Q (.there none) s)
    (no : ∀ K, x.2 ∉ L.map (·.2) → way t.mask (x.2.hash w) K ∉ t.place.toList → (∀ c, c < K → way t.mask (x.2.hash w) c ∈ t.place.toList) → Q (.free (way t.mask (x.2.hash w) K) false) s) :
    wpAny (model P w) A (setSearch S x.1 (x.2.hash w) true) Q E s := by
  have rm := R.kd.2.1
  obtain ⟨K, k1, k2, k3⟩ := R.kd.1.first (by rw [List.length_map]; omega) (x.2.hash w)
  have few : 10 * SetTable.turns t.mask ≤ 1420 := by
    unfold SetTable.turns
    rcases R.kd.1.mok with e | e | e <;> omega
  refine look_from R hx hu k2 k3 k1 yes (fun h => no K h k2 k3) 100000 0 none (by omega) (Nat.zero_le _) rfl fun i p hp he => ?_
  have hi : (hs_ w L)[i]? = some (x.2.hash w) := by rw [List.getElem?_map, hp, ← he]; rfl
  have hil : i < t.place.toList.length := by
    rw [Array.length_toList, row_len R]
    exact (List.getElem?_eq_some_iff.mp hp).1
  obtain ⟨k, q1, q2⟩ := R.kd.1.before k2 hi (List.getElem?_eq_getElem hil)
  exact ⟨k, Nat.zero_le _, q1, by rw [q2]; exact List.getElem?_eq_getElem hil⟩
theorem tupEl_same {h h' : Heap} {p : El} (hp : TupEl h p) (ho : h.get? S = some o) (hd : o.data = .set es ep t) (sb : Heap.SameBut S h h') : TupEl h' p := by
  refine ⟨hp.1, NestedIs.at (fun b u vs n hb hv => (sb.2 b fun e => ?_).trans hb) _ _ hp.2.1, hp.2.2⟩
  rw [e, ho] at hb
  cases hb
  rw [hd] at hv
  cases hv
/-- the rows in the order of a table laid anew -/
theorem reorder {ord : Array Nat} (hr : es.toList = L.map (eRow w)) (hp : ord.toList.Perm (List.range L.length)) : ∃ M, (ord.filterMap (es[·]?)).toList = M.map (eRow w) ∧ M.Perm L ∧ hs_ w M = ord.toList.map fun i => (es.map (·.1)).getD i 0 := by
  have hz : es.size = L.length := by
    have q : es.toList.length = (L.map (eRow w)).length := by rw [hr]
    simpa using q
  have row : ∀ i (h : i < L.length), es[i]? = some (eRow w L[i]) := fun i h => by
    rw [← Array.getElem?_toList, hr, List.getElem?_map, List.getElem?_eq_getElem h]
    rfl
  have each : ∀ l : List Nat, (∀ i ∈ l, i < L.length) → l.filterMap (fun i => es[i]?) = (l.filterMap fun i => L[i]?).map (eRow w) ∧ hs_ w (l.filterMap fun i => L[i]?) = l.map fun i => (es.map (·.1)).getD i 0 := by
    intro l
    induction l with
    | nil => exact fun _ => ⟨rfl, rfl⟩
    | cons i l ih =>
      intro hl
      have hi := hl i List.mem_cons_self
      obtain ⟨e1, e2⟩ := ih fun j hj => hl j (List.mem_cons_of_mem _ hj)
      have g : (es.map (·.1)).getD i 0 = L[i].2.hash w := by
        have : (es.map (·.1))[i]? = some (L[i].2.hash w) := by rw [Array.getElem?_map, row i hi]; rfl
        rw [Array.getD_eq_getD_getElem?, this]
        rfl
      rw [List.filterMap_cons_some (row i hi), List.filterMap_cons_some (List.getElem?_eq_getElem hi), e1]
      exact ⟨rfl, by rw [List.map_cons, g, ← e2]; rfl⟩
  obtain ⟨e1, e2⟩ := each ord.toList fun i hi => List.mem_range.mp (hp.mem_iff.mp hi)
  refine ⟨_, by simpa using e1, (hp.filterMap _).trans (.of_eq ?_), e2⟩
  have all : ∀ n, n ≤ L.length → (List.range n).filterMap (fun i => L[i]?) = L.take n := by
    intro n
    induction n with
    | zero => exact fun _ => rfl
    | succ n ih =>
      intro hn
      rw [List.range_succ, List.filterMap_append, ih (Nat.le_of_succ_le hn), take_next (List.getElem?_eq_getElem hn), List.filterMap_cons_some (List.getElem?_eq_getElem hn)]
      rfl
  rw [all _ (Nat.le_refl _), List.take_length]
theorem lay_anew (ho : s.heap.get? S = some o) (hex : o.ExactSet) (hd : o.data = .set es ep t) (hr : es.toList = L.map (eRow w)) (ft : t.fits es.size = true) (ld : w.params.followText "set-order" = true ∨ t.led = true)
    (nd : (L.map (·.2)).Nodup) (tu : ∀ p ∈ L, TupEl s.heap p) (fw : L.length < 64) {n M : Nat} (hw : SetTable.sizeAbove n - 1 = M) (hM : MaskOk M) (few : SetTable.sizeAbove n ≤ 128) (room : L.length * 5 < M * 3) {Q : Unit → Shared → Prop}
    (q : ∀ h' L', Heap.SameBut S s.heap h' → LieE w false h' S L' → L'.Perm L → Q () { s with heap := h' }) : wpAny (model P w) A (setRelay S n) Q E s := by
  have hz : es.size = L.length := by
    have q : es.toList.length = (L.map (eRow w)).length := by rw [hr]
    simpa using q
  obtain ⟨t', ord, e, pm, T, em, el, _, _⟩ := relaid_ok t (hs := es.map (·.1)) (wanted := n) hw hM (by rw [Array.size_map, hz]; omega)
  rw [Array.size_map, hz] at pm
  obtain ⟨N, r1, r2, r3⟩ := reorder hr pm
  rw [← r3] at T
  have hN : (ord.filterMap (es[·]?)).size = L.length := by
    have q : (ord.filterMap (es[·]?)).toList.length = (N.map (eRow w)).length := by rw [r1]
    rw [Array.length_toList, List.length_map, r2.length_eq] at q
    exact q
  rw [setRelay_eq]
  refine wpAny_bind (wpAny_setState_of ho hd ft ?_)
  dsimp only
  refine wp_if_neg (by rw [sizeLine_eq]; omega) ?_
  first | refine wpAny_bind (wpAny_pure ?_) | skip
  rw [e]
  refine wpAny_bind ?_
  dsimp only
  refine wp_if_neg (by rw [hN, hz]; simp) ?_
  first | refine wpAny_bind (wpAny_pure ?_) | skip
  refine wpAny_pure ?_
  refine wpAny_storeSet_of ho hd ?_ (by rw [hN, sizeLine_eq]; omega)
  have sb := Heap.SameBut.update s.heap S (Obj.putSet (ord.filterMap (es[·]?)) t')
  have kd : Kd w (s.heap.update S (Obj.putSet (ord.filterMap (es[·]?)) t')) t' N false := ⟨T, by rw [r2.length_eq, em]; exact room, fun p hp => tupEl_same (tu p (r2.mem_iff.mp hp)) ho hd sb⟩
  refine q _ N sb ⟨_, _, _, t', store_at ho hd, ⟨hex.1, hex.2.1, hex.2.2⟩, rfl, r1, ?_, T.ris, ld.imp id fun y => el.trans y, (r2.map (·.2)).nodup_iff.mpr nd, by rw [r2.length_eq]; exact fw, kd⟩ r2
  have sz := T.sz
  rw [List.length_map, r2.length_eq] at sz
  unfold SetTable.fits SetTable.fill
  rw [T.dm, hN, Bool.and_eq_true, beq_iff_eq, decide_eq_true_eq]
  exact ⟨sz, by show t'.place.size + 0 ≤ t'.mask; rw [em]; omega⟩
theorem add_tup (R : Lie w false s.heap S L o es ep t) {x : El} (hx : TupEl s.heap x) (hu : A.units + 8 < cLine) (more : L.length + 1 < 64) {Q : Bool → Shared → Prop} (q : AddPost w false S L x s Q) : wpAny (model P w) A (setAddHashed S x.1 (x.2.hash w)) Q E s := by
  have hz := R.len
  have rm := R.kd.2.1
  obtain ⟨b, hb⟩ := hx.1
  unfold setAddHashed
  refine wpAny_holding ?_
  rw [show (100000 : Nat) = 99999 + 1 from rfl, setAddHashedIn_succ]
  refine wpAny_bind (wpAny_setState_of R.ob R.da R.ft ?_)
  refine wp_if_neg (by rw [hb]; simp [byScan, Value.scannable]) ?_
  first | refine wpAny_bind (wpAny_pure ?_) | skip
  refine wpAny_bind (look_at R hx hu (fun hm => ?_) fun K hm hK full => ?_)
  · exact wpAny_pure (q false s.heap L (Heap.SameBut.refl S s.heap) ⟨o, es, ep, t, R⟩ (fun _ => rfl) fun z => absurd hm z)
  · refine wpAny_bind (wpAny_setState_of R.ob R.da R.ft ?_)
    obtain ⟨p1, p2, p3, p4, p5, _, _, _, p9⟩ := R.kd.1.put hK full
    dsimp only
    revert p1 p2 p3 p4 p5 p9
    generalize t.put (way t.mask (x.2.hash w) K) = pt
    generalize SetTable.below t.place (way t.mask (x.2.hash w) K) = n
    intro p1 p2 p3 p4 p5 p9
    obtain ⟨t1, n'⟩ := pt
    dsimp only at p1 p2 p3 p4 p5 p9 ⊢
    subst p1
    -- the rows with the new one
    have ins : (SetTable.insertAt es n' (x.2.hash w, x.1)).toList = (L.take n' ++ x :: L.drop n').map (eRow w) := by
      rw [SetTable.toList_insertAt, R.rw_, List.map_append, List.map_cons, List.map_take, List.map_drop]
      rfl
    have hh : (hs_ w L).take n' ++ x.2.hash w :: (hs_ w L).drop n' = hs_ w (L.take n' ++ x :: L.drop n') := by
      show _ = List.map _ (_ ++ _ :: _)
      rw [List.map_append, List.map_cons, List.map_take, List.map_drop]
    have pm : (L.take n' ++ x :: L.drop n').Perm (x :: L) := put_perm L n' x
    rw [hh] at p3
    revert ins p3 pm
    generalize SetTable.insertAt es n' (x.2.hash w, x.1) = es1
    generalize L.take n' ++ x :: L.drop n' = M
    intro p3 ins pm
    have hM : M.length = L.length + 1 := pm.length_eq
    have hz1 : es1.size = L.length + 1 := by
      have q : es1.toList.length = (M.map (eRow w)).length := by rw [ins]
      rw [Array.length_toList, List.length_map, hM] at q
      exact q
    have nd : (M.map (·.2)).Nodup := (pm.map (·.2)).nodup_iff.mpr (List.nodup_cons.mpr ⟨hm, R.nd⟩)
    rw [List.length_map] at p9
    have sz1 : t1.place.size = L.length + 1 := by have := p3.sz; rwa [List.length_map, hM] at this
    have after : ∀ t2 : SetTable, t2.mask = t1.mask → t2.place = t1.place → t2.dummies = t1.dummies → t2.led = t1.led → wpAny (model P w) A (do
        storeSet S es1 t2
        if (!false && t2.tooFull) = true then do
            setRelay S (SetTable.grown (es.size + 1))
            pure true
          else pure true) Q E s := fun t2 a1 a2 a3 a4 => by
      have f2 : t2.fill = L.length + 1 := by rw [← p9]; unfold SetTable.fill; rw [a2, a3]
      have ft : t2.fits es1.size = true := by
        unfold SetTable.fits
        rw [f2, a2, sz1, hz1, a1, p4, Bool.and_eq_true, beq_iff_eq, decide_eq_true_eq]
        exact ⟨rfl, by omega⟩
      have T2 : TabOk t2 (hs_ w M) := ⟨by rw [a2]; exact p3.ris, by rw [a3]; exact p3.dm, by rw [a2]; exact p3.sz, by rw [a1]; exact p3.mok, by rw [a1, a2]; exact p3.bd, by rw [a1, a2]; exact p3.reach⟩
      have ld : w.params.followText "set-order" = true ∨ t2.led = true := R.ld.imp id fun y => by rw [a4, p5]; exact y
      refine wpAny_bind (wpAny_storeSet_of R.ob R.da ?_ (by rw [hz1, sizeLine_eq]; omega))
      have sb := Heap.SameBut.update s.heap S (Obj.putSet es1 t2)
      have at1 := store_at (es' := es1) (t' := t2) R.ob R.da
      revert sb at1
      generalize s.heap.update S (Obj.putSet es1 t2) = h1
      intro sb at1
      have tu : ∀ p ∈ M, TupEl h1 p := fun p hp => by
        rcases List.mem_cons.mp (pm.mem_iff.mp hp) with e | hp
        · rw [e]; exact tupEl_same hx R.ob R.da sb
        · exact tupEl_same (R.kd.2.2 p hp) R.ob R.da sb
      have ex' : ({ o with data := .set es1 (ep + 1) t2 } : Obj).ExactSet := ⟨R.ex.1, R.ex.2.1, R.ex.2.2⟩
      by_cases hf : t2.tooFull = true
      · refine wp_if_pos (by rw [hf]; rfl) ?_
        have big : t1.mask * 3 ≤ (L.length + 1) * 5 := by
          have := hf
          unfold SetTable.tooFull at this
          rw [decide_eq_true_eq, f2, a1] at this
          exact this
        have two : (t.mask = 7 ∧ L.length = 4) ∨ (t.mask = 31 ∧ L.length = 18) := by
          rcases R.kd.1.mok with e | e | e
          · exact .inl ⟨e, by omega⟩
          · exact .inr ⟨e, by omega⟩
          · exfalso; omega
        have go : ∀ m, SetTable.sizeAbove (SetTable.grown (L.length + 1)) - 1 = m → MaskOk m → SetTable.sizeAbove (SetTable.grown (L.length + 1)) ≤ 128 → (L.length + 1) * 5 < m * 3 →
            wpAny (model P w) A (setRelay S (SetTable.grown (es.size + 1)) >>= fun _ => pure true) Q E { s with heap := h1 } := fun m b1 b2 b3 b4 => by
          rw [hz]
          refine wpAny_bind (lay_anew (s := { s with heap := h1 }) at1 ex' rfl ins ft ld nd tu (by rw [hM]; exact more) b1 b2 b3 (by rw [hM]; exact b4) fun h' L' c1 c2 c3 => ?_)
          exact wpAny_pure (q true h' L' (sb.trans c1) c2 (fun z => absurd z hm) fun _ => c3.trans pm)
        rcases two with ⟨_, e⟩ | ⟨_, e⟩
        · exact go 31 (by rw [e, size_20]) (.inr (.inl rfl)) (by rw [e, size_20]; decide) (by omega)
        · exact go 127 (by rw [e, size_76]) (.inr (.inr rfl)) (by rw [e, size_76]; decide) (by omega)
      · refine wp_if_neg (by simp [hf]) ?_
        have low : (L.length + 1) * 5 < t1.mask * 3 := by
          have := hf
          unfold SetTable.tooFull at this
          rw [decide_eq_true_eq, f2, a1] at this
          omega
        exact wpAny_pure (q true h1 M sb ⟨_, es1, _, t2, at1, ex', rfl, ins, ft, T2.ris, ld, nd, by rw [hM]; exact more, T2, by rw [hM, a1]; exact low, tu⟩ (fun z => absurd z hm) fun _ => pm)
    by_cases hp : t1.plain = true
    · refine wp_if_pos hp ?_
      refine wpAny_bind (hashSays _ _ 8 hx.2.1 A _ _ fun b _ => ?_)
      cases b with
      | true => exact after t1 rfl rfl rfl rfl
      | false => exact after { t1 with plain := false } rfl rfl rfl rfl
    · refine wp_if_neg hp ?_
      exact wpAny_bind (wpAny_pure (after t1 rfl rfl rfl rfl))
end
end KD
/-! KdSet2: set(xs). -/
namespace KD
open PySem PySem.Spec
open PyProof.Rows L2
/-- may lie in a set of this kind -/
def Fit (h : Heap) (x : El) : Bool → Prop
  | true => ∃ l : Leaf, x.2 = l.key ∧ exIs l x.1 = true
  | false => TupEl h x
theorem Fit.keep {h h' : Heap} {x : El} {sc : Bool} (f : Fit h x sc) (k : ∀ b o, h.get? b = some o → h'.get? b = some o) : Fit h' x sc := by
  cases sc with
  | true => exact f
  | false => exact ⟨f.1, NestedIs.at (fun b o _ _ hb _ => k b o hb) _ _ f.2.1, f.2.2⟩
theorem Fit.key {h : Heap} {x : El} {sc : Bool} (f : Fit h x sc) : NestedIs h x.2 x.1 ∧ x.2.depth ≤ 8 := by
  cases sc with
  | true =>
    obtain ⟨l, e, h1⟩ := f
    have rv := exIs_iff.mp h1
    rw [e]
    cases l with
    | none => rw [show x.1 = _ from rv]; exact ⟨.none, by decide⟩
    | num i => obtain ⟨t, e2⟩ := rv; rw [e2]; exact ⟨.int i t, by show (0 : Nat) ≤ 8; decide⟩
    | text y => obtain ⟨t, e2⟩ := rv; rw [e2]; exact ⟨.text y t, by show (0 : Nat) ≤ 8; decide⟩
  | false => exact ⟨f.2.1, f.2.2⟩
/-- the set after the first n of xs -/
structure Has (xs : List El) (n : Nat) (L : List El) : Prop where
  sub : ∀ p ∈ L, p ∈ xs.take n
  all : ∀ p ∈ xs.take n, p.2 ∈ L.map (·.2)
  len : L.length ≤ n
theorem has_zero (xs : List El) : Has xs 0 [] := ⟨fun p hp => (nomatch hp), fun p hp => (nomatch hp), Nat.le_refl _⟩
theorem Has.next {xs L L' : List El} {n : Nat} {x : El} (g : Has xs n L) (h : xs[n]? = some x) (h1 : x.2 ∈ L.map (·.2) → L' = L) (h2 : x.2 ∉ L.map (·.2) → L'.Perm (x :: L)) : Has xs (n + 1) L' := by
  have tk := take_next h
  by_cases hm : x.2 ∈ L.map (·.2)
  · rw [h1 hm]
    refine ⟨fun p hp => by rw [tk]; exact List.mem_append_left _ (g.sub p hp), fun p hp => ?_, Nat.le_succ_of_le g.len⟩
    rw [tk, List.mem_append, List.mem_singleton] at hp
    rcases hp with hp | rfl
    · exact g.all p hp
    · exact hm
  · have pm := h2 hm
    refine ⟨fun p hp => ?_, fun p hp => ?_, by rw [pm.length_eq]; exact Nat.succ_le_succ g.len⟩
    · rw [tk, List.mem_append, List.mem_singleton]
      rcases List.mem_cons.mp (pm.mem_iff.mp hp) with e | hp
      · exact .inr e
      · exact .inl (g.sub p hp)
    · rw [(pm.map (·.2)).mem_iff, List.map_cons, List.mem_cons]
      rw [tk, List.mem_append, List.mem_singleton] at hp
      rcases hp with hp | rfl
      · exact .inr (g.all p hp)
      · exact .inl rfl
section
variable {P : Program} {w : World} {A : Around} {E : Value → Shared → Prop} {s : Shared} {S : Addr} {L : List El} {sc : Bool}
theorem LieE.keep {h h' : Heap} (R : LieE w sc h S L) (k : ∀ b o, h.get? b = some o → h'.get? b = some o) : LieE w sc h' S L := by
  obtain ⟨o, es, ep, t, r⟩ := R
  refine ⟨o, es, ep, t, k _ _ r.ob, r.ex, r.da, r.rw_, r.ft, r.ri, r.ld, r.nd, r.fw, ?_⟩
  have kd := r.kd
  cases sc with
  | true => exact kd
  | false => exact ⟨kd.1, kd.2.1, fun p hp => (show Fit h' p false from Fit.keep (sc := false) (kd.2.2 p hp) k)⟩
theorem add_el (R : LieE w sc s.heap S L) {x : El} (hx : Fit s.heap x sc) (hu : A.units + 8 < cLine) (more : L.length + 1 < 64) {Q : Bool → Shared → Prop} (q : AddPost w sc S L x s Q) : wpAny (model P w) A (setAddHashed S x.1 (x.2.hash w)) Q E s := by
  obtain ⟨o, es, ep, t, r⟩ := R
  cases sc with
  | true =>
    obtain ⟨l, e, h⟩ := hx
    obtain ⟨v, k⟩ := x
    dsimp only at e h ⊢
    subst e
    exact add_plain h r more q
  | false => exact add_tup r hx hu more q
/-- the new set -/
theorem lie_new {h : Heap} {a : Addr} (ho : h.get? a = some { cls := .type "set", dict := none, data := .set #[] 0 (.fresh 0 0 (!w.params.followText "set-order")) }) : LieE w sc h a [] := by
  refine ⟨_, #[], 0, _, ho, ⟨rfl, rfl, rfl⟩, rfl, rfl, rfl, List.Pairwise.nil, ?_, List.nodup_nil, by decide, ?_⟩
  · show _ ∨ (!w.params.followText "set-order") = true
    cases w.params.followText "set-order" <;> simp
  · cases sc with
    | true => exact fun p hp => nomatch hp
    | false => exact ⟨⟨List.Pairwise.nil, rfl, rfl, .inl rfl, fun x hx => (by cases hx), fun i h j hi => (by simp at hi)⟩, by show 0 * 5 < 7 * 3; decide, fun p hp => nomatch hp⟩
/-- the loop of update -/
theorem each_added {I : Addr} {fp wr : List Addr} {G : Array GenState → Array GenState → Prop} {n : Nat} {Pv : Nat → Value → Prop} {St : Nat → Shared → Prop} {R : Result → Shared → Prop} (W : WalksS P w A.in1 I fp wr G n Pv St)
    (out : S ∉ fp) {xs : List El} (hn : n = xs.length) (few : xs.length < 64) (hv : ∀ i v, Pv i v → ∃ p, xs[i]? = some p ∧ v = p.1) {h0 : Heap} (hx : ∀ p ∈ xs, Fit h0 p sc) (nS : h0.get? S = none) (nw : ∀ b ∈ wr, h0.get? b = none) (hu : A.in1.units + 9 < cLine) :
    ∀ (k i : Nat) (s : Shared), n - i = k → i ≤ n → St i s → (∀ b o, h0.get? b = some o → s.heap.get? b = some o) → (∃ L, LieE w sc s.heap S L ∧ Has xs i L) →
      (∀ s' L, Moved (S :: wr) G s s' → LieE w sc s'.heap S L → Has xs n L → (∀ b o, h0.get? b = some o → s'.heap.get? b = some o) → R (.ok (.ret .none)) s') → codeAny (model P w) A (.builtin "set.update.loop" ⟨[.ref S, .ref I], []⟩) R s := by
  have old : ∀ {s s' : Shared}, Moved wr G s s' → (∀ b o, h0.get? b = some o → s.heap.get? b = some o) → ∀ b o, h0.get? b = some o → s'.heap.get? b = some o := fun hm hk b o hb => hm.heap b o (fun z => by rw [nw b z] at hb; cases hb) (hk b o hb)
  have SW : S ∉ wr := fun z => out (W.sub _ z)
  have incl : ∀ b ∈ wr, b ∈ S :: wr := fun b hb => List.mem_cons_of_mem _ hb
  have keepS : ∀ {s s' : Shared} {L : List El} {i : Nat}, Moved wr G s s' → LieE w sc s.heap S L → Has xs i L → (∀ b o, h0.get? b = some o → s'.heap.get? b = some o) → LieE w sc s'.heap S L := fun {s s' L i} hm r g hk => by
    obtain ⟨o, es, ep, t, r⟩ := r
    refine ⟨o, es, ep, t, hm.heap S o SW r.ob, r.ex, r.da, r.rw_, r.ft, r.ri, r.ld, r.nd, r.fw, ?_⟩
    have kd := r.kd
    cases sc with
    | true => exact kd
    | false => exact ⟨kd.1, kd.2.1, fun p hp => (show Fit _ p false from Fit.keep (sc := false) (hx p (List.mem_of_mem_take (g.sub p hp))) hk)⟩
  intro k
  induction k with
  | zero =>
    intro i s hk hi st kp ⟨L, r, g⟩ q
    obtain rfl : i = n := by omega
    refine codeAny_builtin F.entry_set_update_loop ?_
    rw [Around.under_plainId F.plain_set_update_loop _]
    show wpAny _ A.in1 (pyNext (.ref I) >>= _) _ _ s
    refine wpAny_bind (W.done s _ _ st fun s' hm => ?_)
    have kp' := old hm kp
    exact wpAny_pure (q s' L (hm.mono incl) (keepS hm r g kp') g kp')
  | succ k ih =>
    intro i s hk hi st kp ⟨L, r, g⟩ q
    have lt : i < n := by omega
    refine codeAny_builtin F.entry_set_update_loop ?_
    rw [Around.under_plainId F.plain_set_update_loop _]
    show wpAny _ A.in1 (pyNext (.ref I) >>= _) _ _ s
    refine wpAny_bind (W.item i s _ _ lt st fun v s' hP st' hm => ?_)
    obtain ⟨p, hp, rfl⟩ := hv i v hP
    have kp' := old hm kp
    have r' := keepS hm r g kp'
    have fit : Fit s'.heap p sc := (hx p (List.mem_of_getElem? hp)).keep kp'
    obtain ⟨nk, dk⟩ := fit.key
    show wpAny _ A.in1 (holding [p.1] (setAdd S p.1) >>= _) _ _ s'
    refine wpAny_bind (wpAny_holding ?_)
    unfold setAdd
    refine wpAny_holding ?_
    refine wpAny_bind (pyHash_key p.2 p.1 A.in1 s' _ nk (by omega) ?_)
    refine add_el (s := { s' with toks := s'.toks + p.2.draws }) r' fit (by omega) (by have := g.len; omega) fun b h' L' sb r2 c1 c2 => ?_
    have kp2 : ∀ b o, h0.get? b = some o → h'.get? b = some o := fun b o hb => (sb.2 b fun z => by rw [z, nS] at hb; cases hb).trans (kp' b o hb)
    refine wpAny_pure ⟨plainId_quiet F.plain_set_update_loop _, ih (i + 1) _ (by omega) lt (W.frame _ s' _ _ st' (Nat.le_add_right _ _) fun c hc o hb => ?_) kp2 ⟨L', r2, g.next hp c1 c2⟩ fun s2 L2 m2 r3 g3 kp3 => ?_⟩
    · rw [sb.2 c fun z => out (by rw [← z]; exact hc)]
      exact hb
    · refine q s2 L2 (Moved.trans W.gtrans ((hm.mono incl).then_heap (Nat.le_add_right _ _) fun c o hc hb => ?_) m2) r3 g3 kp3
      rw [sb.2 c fun z => hc (by rw [z]; exact List.mem_cons_self)]
      exact hb
/-- the object of a new set -/
abbrev nset (w : World) : Obj := { cls := .type "set", dict := none, data := .set #[] 0 (.fresh 0 0 (!w.params.followText "set-order")) }
/-- set(xs), xs a list -/
theorem call_set_list {l : Addr} {its : Array Value} {xs : List El} {Q : Value → Shared → Prop} (hh : A.handled = none) (hl : s.heap.IsList l its) (hit : its.toList = xs.map (·.1)) (hx : ∀ p ∈ xs, Fit s.heap p sc) (few : xs.length < 64) (hu : A.units + 20 < cLine)
    (q : ∀ (h' : Heap) (tk : Nat) L, LieE w sc h' s.heap.objs.size L → Has xs xs.length L → (∀ b o, s.heap.get? b = some o → h'.get? b = some o) → Q (.ref s.heap.objs.size) { s with heap := h', toks := tk }) :
    wpAny (model P w) A (call (.type "set") [.ref l]) Q E s := by
  have hsz : its.size = xs.length := by
    have e : its.toList.length = (xs.map (·.1)).length := by rw [hit]
    simpa using e
  obtain ⟨c, tl, hmro⟩ := F.called_set.mro
  have mk1 := F.called_set.made
  have mk2 := F.called_set.sub
  refine wpAny_call (codeAny_of_tree ?_)
  show wpAny _ _ (callAny (.type "set") _) _ _ _
  refine wpAny_pure ⟨Code.quiet_builtin _ (by decide +kernel), codeAny_builtin F.entry_type_call ?_⟩
  rw [Around.under_plain (weight_type_call_type "set" [.ref l] []) rfl]
  have nt := F.called_set.notType
  have cc := F.called_set.canCreate
  have tc := F.typeCall_set_1 (.ref l)
  repeat (any_goals (first | assumption | wp_step))
  refine codeAny_mono (code_set_led1 (.ref l) (E := E) (Q₁ := fun v t => v = .ref s.heap.objs.size ∧ t = { s with heap := s.heap.push (nset w) }) ⟨rfl, rfl⟩) fun r t hr => ?_
  cases r with
  | error e => exact hr
  | ok fl =>
    cases fl with
    | ret v =>
      obtain ⟨rfl, rfl⟩ := hr
      have h0 : (s.heap.push (nset w)).get? s.heap.objs.size = some (nset w) := Heap.get?_push_size _ rfl
      have ty : Shared.TypeIs { s with heap := s.heap.push (nset w) } (.ref s.heap.objs.size) "set" := ⟨_, h0, rfl⟩
      have il := F.called_set.init.lookup
      have ib := F.called_set.init.bind (.ref s.heap.objs.size)
      repeat (any_goals (first | assumption | wp_step))
      refine codeAny_mono (codeAny_call_builtin (R := wants (fun r t => r = .none ∧ ∃ h' tk L, t = { s with heap := h', toks := tk } ∧ LieE w sc h' s.heap.objs.size L ∧ Has xs xs.length L ∧ ∀ b o, s.heap.get? b = some o → h'.get? b = some o) E)
        F.called_set.init.plain F.entry_set_init (check_set_init_1 ty ?_)) fun r t hr => ?_
      · obtain ⟨ol, hol, hcl, nl, hdl⟩ := hl
        obtain ⟨oc, od, oda, osl⟩ := ol
        simp only at hcl hdl
        subst hcl hdl
        have hol' : (s.heap.push (nset w)).get? l = some { cls := .type "list", dict := od, data := .seq its nl, slots := osl } := Heap.get?_push_of_some _ hol
        have sb1 := F.sub_list_set
        have sb2 := F.sub_list_frozenset
        have sb3 : (Value.type "list" == Value.type "dict") = false := by decide
        have hl1 : (s.heap.push (nset w)).IsList l its := ⟨_, hol', rfl, nl, rfl⟩
        unfold Builtin.«set.__init__» noKeywords Builtin.Frozenset.updateFrom
        generalize hPI : pyIter = PI
        wp_walk
        subst hPI
        refine wpAny_pyIter_list hl1 (wpAny_bind (wpAny_runValue ?_))
        have lt := Heap.lt_size hol
        have sz : (s.heap.push (nset w)).objs.size = s.heap.objs.size + 1 := Heap.size_push ..
        have none_of : ∀ b, s.heap.objs.size ≤ b → s.heap.get? b = none := fun b hb => by
          cases q : s.heap.get? b with
          | none => rfl
          | some o => exact absurd (Heap.lt_size q) (Nat.not_lt.mpr hb)
        refine each_added (sc := sc) (xs := xs) (h0 := s.heap) ((Walks.list (by simp [hh]) _ l (Nat.ne_of_lt (by rw [sz]; exact Nat.lt_succ_of_lt lt)) its).toS) (S := s.heap.objs.size) ?_ hsz few (fun i v hv => ?_) hx (none_of _ (Nat.le_refl _)) (fun b hb => none_of b ?_) ?_ (its.size - 0) 0 _ rfl (Nat.zero_le _)
          ⟨⟨_, Heap.get?_push_size _ rfl, rfl, rfl⟩, hl1.push _⟩ (fun b o hb => Heap.get?_push_of_some _ (Heap.get?_push_of_some _ hb)) ⟨[], lie_new (Heap.get?_push_of_some _ h0), has_zero xs⟩ fun s' L hm r g kp => ?_
        · rw [sz, List.mem_cons, List.mem_singleton]
          rintro (e | e)
          · exact absurd e (Nat.ne_of_lt (Nat.lt_succ_self _))
          · exact absurd e.symm (Nat.ne_of_lt lt)
        · have e : its.toList[i]? = some v := by rw [Array.getElem?_toList]; exact hv
          rw [hit, List.getElem?_map] at e
          obtain ⟨p, hp, e⟩ := Option.map_eq_some_iff.mp e
          exact ⟨p, hp, e.symm⟩
        · rw [List.mem_singleton] at hb
          rw [hb, sz]
          omega
        · show A.units + 1 + 1 + 1 + 9 < cLine
          omega
        · obtain ⟨h', g2, d2, tk, o2⟩ := s'
          obtain rfl : g2 = s.gens := hm.gens
          obtain rfl : d2 = s.drawn := hm.drawn
          obtain rfl : o2 = s.os := hm.os
          show wpAny _ _ _ _ _ _
          refine wpAny_pure ?_
          show wpAny _ _ (ret Value.none) _ _ _
          rw [hsz] at g
          exact wpAny_pure ⟨rfl, h', tk, L, rfl, r, g, kp⟩
      · cases r with
        | error e => exact hr
        | ok fl =>
          cases fl with
          | ret v =>
            obtain ⟨rfl, h', tk, L, rfl, r, g, kp⟩ := hr
            repeat (any_goals (first | assumption | wp_step))
            exact q _ _ _ r g kp
          | _ => exact hr.elim
    | _ => exact hr.elim
/-- set(xs), xs a tuple -/
theorem call_set_tuple {l : Addr} {its : Array Value} {xs : List El} {Q : Value → Shared → Prop} (hh : A.handled = none) (hl : s.heap.IsTuple l its) (hit : its.toList = xs.map (·.1)) (hx : ∀ p ∈ xs, Fit s.heap p sc) (few : xs.length < 64) (hu : A.units + 20 < cLine)
    (q : ∀ (h' : Heap) (tk : Nat) L, LieE w sc h' s.heap.objs.size L → Has xs xs.length L → (∀ b o, s.heap.get? b = some o → h'.get? b = some o) → Q (.ref s.heap.objs.size) { s with heap := h', toks := tk }) :
    wpAny (model P w) A (call (.type "set") [.ref l]) Q E s := by
  have hsz : its.size = xs.length := by
    have e : its.toList.length = (xs.map (·.1)).length := by rw [hit]
    simpa using e
  obtain ⟨c, tl, hmro⟩ := F.called_set.mro
  have mk1 := F.called_set.made
  have mk2 := F.called_set.sub
  refine wpAny_call (codeAny_of_tree ?_)
  show wpAny _ _ (callAny (.type "set") _) _ _ _
  refine wpAny_pure ⟨Code.quiet_builtin _ (by decide +kernel), codeAny_builtin F.entry_type_call ?_⟩
  rw [Around.under_plain (weight_type_call_type "set" [.ref l] []) rfl]
  have nt := F.called_set.notType
  have cc := F.called_set.canCreate
  have tc := F.typeCall_set_1 (.ref l)
  repeat (any_goals (first | assumption | wp_step))
  refine codeAny_mono (code_set_led1 (.ref l) (E := E) (Q₁ := fun v t => v = .ref s.heap.objs.size ∧ t = { s with heap := s.heap.push (nset w) }) ⟨rfl, rfl⟩) fun r t hr => ?_
  cases r with
  | error e => exact hr
  | ok fl =>
    cases fl with
    | ret v =>
      obtain ⟨rfl, rfl⟩ := hr
      have h0 : (s.heap.push (nset w)).get? s.heap.objs.size = some (nset w) := Heap.get?_push_size _ rfl
      have ty : Shared.TypeIs { s with heap := s.heap.push (nset w) } (.ref s.heap.objs.size) "set" := ⟨_, h0, rfl⟩
      have il := F.called_set.init.lookup
      have ib := F.called_set.init.bind (.ref s.heap.objs.size)
      repeat (any_goals (first | assumption | wp_step))
      refine codeAny_mono (codeAny_call_builtin (R := wants (fun r t => r = .none ∧ ∃ h' tk L, t = { s with heap := h', toks := tk } ∧ LieE w sc h' s.heap.objs.size L ∧ Has xs xs.length L ∧ ∀ b o, s.heap.get? b = some o → h'.get? b = some o) E)
        F.called_set.init.plain F.entry_set_init (check_set_init_1 ty ?_)) fun r t hr => ?_
      · obtain ⟨ol, hol, hcl, nl, hdl⟩ := hl
        obtain ⟨oc, od, oda, osl⟩ := ol
        simp only at hcl hdl
        subst hcl hdl
        have hol' : (s.heap.push (nset w)).get? l = some { cls := .type "tuple", dict := od, data := .seq its nl, slots := osl } := Heap.get?_push_of_some _ hol
        have sb1 := F.sub_tuple_set
        have sb2 := F.sub_tuple_frozenset
        have sb3 : (Value.type "tuple" == Value.type "dict") = false := by decide
        have hl1 : (s.heap.push (nset w)).IsTuple l its := ⟨_, hol', rfl, nl, rfl⟩
        unfold Builtin.«set.__init__» noKeywords Builtin.Frozenset.updateFrom
        generalize hPI : pyIter = PI
        wp_walk
        subst hPI
        refine wpAny_pyIter_tuple hl1 (wpAny_bind (wpAny_runValue ?_))
        have lt := Heap.lt_size hol
        have sz : (s.heap.push (nset w)).objs.size = s.heap.objs.size + 1 := Heap.size_push ..
        have none_of : ∀ b, s.heap.objs.size ≤ b → s.heap.get? b = none := fun b hb => by
          cases q : s.heap.get? b with
          | none => rfl
          | some o => exact absurd (Heap.lt_size q) (Nat.not_lt.mpr hb)
        refine each_added (sc := sc) (xs := xs) (h0 := s.heap) ((Walks.tuple (by simp [hh]) _ l (Nat.ne_of_lt (by rw [sz]; exact Nat.lt_succ_of_lt lt)) its).toS) (S := s.heap.objs.size) ?_ hsz few (fun i v hv => ?_) hx (none_of _ (Nat.le_refl _)) (fun b hb => none_of b ?_) ?_ (its.size - 0) 0 _ rfl (Nat.zero_le _)
          ⟨⟨_, Heap.get?_push_size _ rfl, rfl, rfl⟩, hl1.push _⟩ (fun b o hb => Heap.get?_push_of_some _ (Heap.get?_push_of_some _ hb)) ⟨[], lie_new (Heap.get?_push_of_some _ h0), has_zero xs⟩ fun s' L hm r g kp => ?_
        · rw [sz, List.mem_cons, List.mem_singleton]
          rintro (e | e)
          · exact absurd e (Nat.ne_of_lt (Nat.lt_succ_self _))
          · exact absurd e.symm (Nat.ne_of_lt lt)
        · have e : its.toList[i]? = some v := by rw [Array.getElem?_toList]; exact hv
          rw [hit, List.getElem?_map] at e
          obtain ⟨p, hp, e⟩ := Option.map_eq_some_iff.mp e
          exact ⟨p, hp, e.symm⟩
        · rw [List.mem_singleton] at hb
          rw [hb, sz]
          omega
        · show A.units + 1 + 1 + 1 + 9 < cLine
          omega
        · obtain ⟨h', g2, d2, tk, o2⟩ := s'
          obtain rfl : g2 = s.gens := hm.gens
          obtain rfl : d2 = s.drawn := hm.drawn
          obtain rfl : o2 = s.os := hm.os
          show wpAny _ _ _ _ _ _
          refine wpAny_pure ?_
          show wpAny _ _ (ret Value.none) _ _ _
          rw [hsz] at g
          exact wpAny_pure ⟨rfl, h', tk, L, rfl, r, g, kp⟩
      · cases r with
        | error e => exact hr
        | ok fl =>
          cases fl with
          | ret v =>
            obtain ⟨rfl, h', tk, L, rfl, r, g, kp⟩ := hr
            repeat (any_goals (first | assumption | wp_step))
            exact q _ _ _ r g kp
          | _ => exact hr.elim
    | _ => exact hr.elim
end
end KD
/-! KdUniq: keys tell data; sorted lists of the same members are the same; dedup. -/
namespace KD
open PySem PySem.Spec
open PyProof.Rows L2
mutual
theorem key_inj : ∀ {a b : D} {k : NestedKey}, keyOf a = some k → keyOf b = some k → a = b
  | .none, b, k, h, h' => by
    rw [keyOf] at h
    cases h
    cases b with
    | none => rfl
    | tuple ys => rw [keyOf] at h'; obtain ⟨_, _, z⟩ := Option.map_eq_some_iff.mp h'; cases z
    | _ => simp [keyOf] at h'
  | .bool _, _, _, h, _ => by simp [keyOf] at h
  | .int i, b, k, h, h' => by
    rw [keyOf] at h
    cases h
    cases b with
    | int j => simp only [keyOf, Option.some.injEq, NestedKey.num.injEq] at h'; rw [h']
    | tuple ys => rw [keyOf] at h'; obtain ⟨_, _, z⟩ := Option.map_eq_some_iff.mp h'; cases z
    | _ => simp [keyOf] at h'
  | .str x, b, k, h, h' => by
    rw [keyOf] at h
    cases h
    cases b with
    | str y => simp only [keyOf, Option.some.injEq, NestedKey.text.injEq] at h'; rw [h']
    | tuple ys => rw [keyOf] at h'; obtain ⟨_, _, z⟩ := Option.map_eq_some_iff.mp h'; cases z
    | _ => simp [keyOf] at h'
  | .tuple xs, b, k, h, h' => by
    rw [keyOf] at h
    obtain ⟨ks, hk, rfl⟩ := Option.map_eq_some_iff.mp h
    cases b with
    | tuple ys =>
      rw [keyOf] at h'
      obtain ⟨ks', hk', z⟩ := Option.map_eq_some_iff.mp h'
      cases z
      rw [keys_inj hk hk']
    | _ => simp [keyOf] at h'
  | .list _, _, _, h, _ => by simp [keyOf] at h
  | .dict _, _, _, h, _ => by simp [keyOf] at h
theorem keys_inj : ∀ {a b : List D} {k : List NestedKey}, keysOf a = some k → keysOf b = some k → a = b
  | [], b, k, h, h' => by
    rw [keysOf] at h
    cases h
    cases b with
    | nil => rfl
    | cons y ys =>
      rw [keysOf] at h'
      obtain ⟨_, _, h'⟩ := Option.bind_eq_some_iff.mp h'
      obtain ⟨_, _, z⟩ := Option.map_eq_some_iff.mp h'
      cases z
  | x :: xs, b, k, h, h' => by
    rw [keysOf] at h
    obtain ⟨k1, e1, h⟩ := Option.bind_eq_some_iff.mp h
    obtain ⟨k2, e2, rfl⟩ := Option.map_eq_some_iff.mp h
    cases b with
    | nil => rw [keysOf] at h'; cases h'
    | cons y ys =>
      rw [keysOf] at h'
      obtain ⟨k1', e1', h'⟩ := Option.bind_eq_some_iff.mp h'
      obtain ⟨k2', e2', z⟩ := Option.map_eq_some_iff.mp h'
      cases z
      rw [key_inj e1 e1', keys_inj e2 e2']
end
mutual
theorem eqv_key : ∀ {a b : D} {k k' : NestedKey}, keyOf a = some k → keyOf b = some k' → PyData.eqv a b = true → a = b
  | .none, b, _, _, _, h', e => by cases b <;> first | rfl | (simp [PyData.eqv] at e; done) | (simp [keyOf] at h'; done)
  | .bool _, _, _, _, h, _, _ => by simp [keyOf] at h
  | .int i, b, _, _, _, h', e => by
    cases b with
    | int j => have : i = j := by simpa [PyData.eqv] using e
               rw [this]
    | bool _ => simp [keyOf] at h'
    | _ => simp [PyData.eqv] at e
  | .str x, b, _, _, _, h', e => by
    cases b with
    | str y => have : x = y := by simpa [PyData.eqv] using e
               rw [this]
    | _ => simp [PyData.eqv] at e
  | .tuple xs, b, _, _, h, h', e => by
    cases b with
    | tuple ys =>
      rw [keyOf] at h h'
      obtain ⟨_, hk, _⟩ := Option.map_eq_some_iff.mp h
      obtain ⟨_, hk', _⟩ := Option.map_eq_some_iff.mp h'
      rw [PyData.eqv] at e
      rw [eqvs_key hk hk' e]
    | _ => simp [PyData.eqv] at e
  | .list _, _, _, _, h, _, _ => by simp [keyOf] at h
  | .dict _, _, _, _, h, _, _ => by simp [keyOf] at h
theorem eqvs_key : ∀ {a b : List D} {k k' : List NestedKey}, keysOf a = some k → keysOf b = some k' → PyData.eqvAll a b = true → a = b
  | [], b, _, _, _, _, e => by
    cases b with
    | nil => rfl
    | cons _ _ => simp [PyData.eqvAll] at e
  | x :: xs, b, _, _, h, h', e => by
    cases b with
    | nil => simp [PyData.eqvAll] at e
    | cons y ys =>
      rw [keysOf] at h h'
      obtain ⟨_, e1, h⟩ := Option.bind_eq_some_iff.mp h
      obtain ⟨_, e2, _⟩ := Option.map_eq_some_iff.mp h
      obtain ⟨_, e1', h'⟩ := Option.bind_eq_some_iff.mp h'
      obtain ⟨_, e2', _⟩ := Option.map_eq_some_iff.mp h'
      rw [PySem.W.eqv_all_cons, Bool.and_eq_true] at e
      rw [eqv_key e1 e1' e.1, eqvs_key e2 e2' e.2]
end
/-- two that are not told apart by < are the same -/
theorem lt_same {a b : D} {k k' : NestedKey} (ha : keyOf a = some k) (hb : keyOf b = some k') (al : W.alike a b = true) (h1 : W.dataLt a b = false) (h2 : W.dataLt b a = false) : a = b := by
  have tk : W.keyToks a = W.keyToks b := lex_total _ _ h1 h2
  cases e : PyData.eqv a b with
  | true => exact eqv_key ha hb e
  | false =>
    have q := (W.toks_eqv a b al).2 e [.inl 0] [.inl 1]
    rw [tk, W.lex_pre, lex_irrefl] at q
    cases q
theorem leqD_trans (a b c : D) (h1 : leqD a b = true) (h2 : leqD b c = true) : leqD a c = true := by
  unfold leqD at *
  rw [Bool.not_eq_true'] at *
  cases h : W.dataLt c a with
  | false => rfl
  | true =>
    rcases lex_negTrans (O := itemOrd) _ (W.keyToks b) _ h with z | z
    · rw [show W.dataLt c b = true from z] at h2; cases h2
    · rw [show W.dataLt b a = true from z] at h1; cases h1
theorem leqD_total (a b : D) : (leqD a b || leqD b a) = true := by
  unfold leqD
  cases h1 : W.dataLt b a with
  | false => rfl
  | true =>
    cases h2 : W.dataLt a b with
    | false => rfl
    | true =>
      have := lex_trans (O := itemOrd) _ _ _ h1 h2
      rw [lex_irrefl] at this
      cases this
theorem sorted_one {α : Type} {le : α → α → Prop} : ∀ {l m : List α}, l.Perm m → l.Pairwise le → m.Pairwise le → (∀ a ∈ l, ∀ b ∈ l, le a b → le b a → a = b) → l = m
  | [], m, p, _, _, _ => by rw [List.nil_perm.mp p]
  | a :: l, [], p, _, _, _ => by have := p.length_eq; simp at this
  | a :: l, b :: m, p, hl, hm, h => by
    have hb : b ∈ a :: l := p.mem_iff.mpr List.mem_cons_self
    have ha : a ∈ b :: m := p.mem_iff.mp List.mem_cons_self
    rw [List.pairwise_cons] at hl hm
    have e : a = b := by
      rcases List.mem_cons.mp hb with e | hb'
      · exact e.symm
      · rcases List.mem_cons.mp ha with e | ha'
        · exact e
        · exact h a List.mem_cons_self b hb (hl.1 b hb') (hm.1 a ha')
    subst e
    rw [sorted_one (p.cons_inv) hl.2 hm.2 fun x hx y hy => h x (List.mem_cons_of_mem _ hx) y (List.mem_cons_of_mem _ hy)]
/-- all have keys -/
def keyed (ds : List D) : Prop := ∀ d ∈ ds, ∃ k, keyOf d = some k
theorem sort_perm {l m : List D} (p : l.Perm m) (hk : keyed l) (ha : alikes l = true) : l.mergeSort leqD = m.mergeSort leqD := by
  have ps := (List.mergeSort_perm l leqD).trans (p.trans (List.mergeSort_perm m leqD).symm)
  refine sorted_one (le := fun a b => leqD a b = true) ps (List.pairwise_mergeSort leqD_trans leqD_total l) (List.pairwise_mergeSort leqD_trans leqD_total m) fun a h1 b h2 h3 h4 => ?_
  have m1 := (List.mergeSort_perm l leqD).mem_iff.mp h1
  have m2 := (List.mergeSort_perm l leqD).mem_iff.mp h2
  obtain ⟨_, e1⟩ := hk a m1
  obtain ⟨_, e2⟩ := hk b m2
  unfold alikes at ha
  rw [List.all_eq_true] at ha
  have al := List.all_eq_true.mp (ha a m1) b m2
  unfold leqD at h3 h4
  rw [Bool.not_eq_true'] at h3 h4
  exact lt_same e1 e2 al h4 h3
theorem sortable_of {l m : List D} (h : ∀ d ∈ m, d ∈ l) (hs : sortable l = true) : sortable m = true := by
  unfold sortable alikes at *
  simp only [Bool.and_eq_true, Bool.or_eq_true, List.all_eq_true] at *
  obtain ⟨⟨h1, h2⟩, h3⟩ := hs
  refine ⟨⟨fun a ha b hb => h1 a (h a ha) b (h b hb), ?_⟩, fun d hd => h3 d (h d hd)⟩
  rcases h2 with h2 | h2
  · exact .inl fun d hd => h2 d (h d hd)
  · exact .inr fun d hd => h2 d (h d hd)
theorem sortD_perm {l m : List D} (p : l.Perm m) (hk : keyed l) : sortD l = sortD m := by
  unfold sortD
  cases h : sortable l with
  | true =>
    rw [sortable_of (fun d hd => p.mem_iff.mpr hd) h]
    have ha : alikes l = true := by unfold sortable at h; simp only [Bool.and_eq_true] at h; exact h.1.1
    rw [R.guard_true, R.guard_true, sort_perm p hk ha]
  | false =>
    have : sortable m = false := by
      cases h' : sortable m with
      | false => rfl
      | true => rw [sortable_of (fun d hd => p.mem_iff.mp hd) h'] at h; cases h
    rw [this]
    rfl
theorem dedup_ok : ∀ {ds ys : List D}, dedup ds = some ys → keyed ds ∧ ys.Nodup ∧ ∀ d, d ∈ ys ↔ d ∈ ds
  | [], ys, h => by
    rw [dedup] at h
    cases h
    exact ⟨fun d hd => (nomatch hd), List.nodup_nil, fun d => Iff.rfl⟩
  | x :: xs, ys, h => by
    rw [dedup] at h
    split at h
    · rename_i k r hk hr
      cases h
      obtain ⟨i1, i2, i3⟩ := dedup_ok hr
      have other : ∀ y ∈ r, (!decide (keyOf y = some k)) = true ↔ y ≠ x := fun y hy => by
        rw [Bool.not_eq_true', decide_eq_false_iff_not]
        exact ⟨fun h e => h (e ▸ hk), fun h e => h (key_inj e hk)⟩
      refine ⟨fun d hd => ?_, ?_, fun d => ?_⟩
      · rcases List.mem_cons.mp hd with rfl | hd
        · exact ⟨k, hk⟩
        · exact i1 d hd
      · rw [List.nodup_cons]
        refine ⟨fun hm => ?_, i2.filter _⟩
        rw [List.mem_filter] at hm
        exact (other x hm.1).mp hm.2 rfl
      · rw [List.mem_cons, List.mem_cons, List.mem_filter]
        by_cases e : d = x
        · simp [e]
        · constructor
          · rintro (h | h)
            · exact .inl h
            · exact .inr ((i3 d).mp h.1)
          · rintro (h | h)
            · exact .inl h
            · have := (i3 d).mpr h
              exact .inr ⟨this, (other d this).mpr e⟩
    · cases h
end KD
/-! KdEqs: == of lists of dicts with tuples as keys and texts as values. -/
namespace KD
open PySem PySem.Spec PySem.W
open PyProof.Rows L2
section
variable {prog : Program} {w : World} {K : Type} [DecidableEq K] {knd : HeapKind prog w K} {A : Around} {E : Value → Shared → Prop} {s : Shared}
abbrev kv (xs : List (K × Addr × Value)) : List (K × Value) := xs.map fun x => (x.1, x.2.2)
theorem valueAt_kv (xs : List (K × Addr × Value)) (k : K) : valueAt (kv xs) k = (atKey xs k).map (·.2) := by
  unfold valueAt atKey kv
  rw [List.find?_map]
  cases h : List.find? (fun p => decide (p.1 = k)) xs with
  | none =>
    rw [show ((fun p : K × Value => decide (p.1 = k)) ∘ fun x : K × Addr × Value => (x.1, x.2.2)) = fun p => decide (p.1 = k) from rfl, h]
    rfl
  | some p =>
    rw [show ((fun p : K × Value => decide (p.1 = k)) ∘ fun x : K × Addr × Value => (x.1, x.2.2)) = fun p => decide (p.1 = k) from rfl, h]
    rfl
theorem samePairsH {nm : String} {a b : Addr} {ka kb : List (K × Addr × Value)} {r : Bool} {Q : Bool → Shared → Prop} (ha : (a == sysModules) = false) (hb : (b == sysModules) = false)
    (hu : knd.room A) (da : s.heap.DictOfH knd a ka) (db : s.heap.DictOfH knd b kb) (hits : ka.length = kb.length → KeqHitsP prog w A s (kv kb) (kv ka) r) (h : Q (ka.length == kb.length && r) s) :
    wpAny (model prog w) A (Builtin.Dict.samePairs nm a b) Q E s := by
  obtain ⟨oa, es, ep, hoa, _, hda, hka, hia, _⟩ := da
  obtain ⟨ob, es', ep', hob, _, hdb, hkb, hib, hnb⟩ := db
  have hla : ka.length = es.size := (size_of_entries hka).symm
  have hlb : kb.length = es'.size := (size_of_entries hkb).symm
  rw [hla, hlb] at h
  unfold Builtin.Dict.samePairs Builtin.Dict.showsAll
  rw [if_neg (show ¬ (a == sysModules) = true by rw [ha]; exact Bool.false_ne_true), if_neg (show ¬ (b == sysModules) = true by rw [hb]; exact Bool.false_ne_true)]
  refine wpAny_bind (wpAny_pure (wpAny_bind (wpAny_pure ?_)))
  refine wpAny_bind (wpAny_dictEntries hoa hda ?_)
  dsimp only
  refine wpAny_bind (wpAny_dictEntries hob hdb ?_)
  by_cases hsz : es.size = es'.size
  case neg =>
    rw [if_pos (by simpa using hsz)]
    have hbf : (es.size == es'.size) = false := by simpa using hsz
    rw [hbf, Bool.false_and] at h
    exact wpAny_bind (wpAny_rule (wpAny_pure h))
  case pos =>
    have h' : Q r s := by simpa [hsz] using h
    have hits' := hits (by rw [hla, hlb]; exact hsz)
    rw [if_neg (by rw [hsz]; simp)]
    refine wpAny_bind (wpAny_dictEpoch hoa hda ?_)
    refine wpAny_bind ?_
    rw [Std.Legacy.Range.forIn_eq_forIn_range']
    simp only [Std.Legacy.Range.size, Nat.sub_zero, Nat.add_sub_cancel, Nat.div_one]
    refine wpAny_forIn_list _
      (fun rest q s' => s' = s ∧ q = (none, ()) ∧ ∃ i, rest = List.range' i (es.size - i) ∧ i ≤ es.size ∧ KeqHitsP prog w A s (kv kb) (kv (ka.drop i)) r)
      _ ?_ ?_ _ _ ⟨rfl, rfl, 0, by simp, Nat.zero_le _, hits'⟩
    · rintro x rest q s' ⟨rfl, rfl, i, hr, hi, hpre⟩
      have hlt : i < es.size := by
        rcases Nat.lt_or_ge i es.size with h | h
        · exact h
        · rw [Nat.sub_eq_zero_of_le h] at hr; simp at hr
      obtain ⟨rfl, hrest⟩ : x = i ∧ rest = List.range' (i + 1) (es.size - (i + 1)) := by
        have e : es.size - i = (es.size - (i + 1)) + 1 := by omega
        rw [e, List.range'_succ] at hr
        injection hr with h1 h2
        exact ⟨h1, h2⟩
      have hlt' : x < ka.length := by rw [hla]; exact hlt
      obtain ⟨k, c, v, hkv⟩ : ∃ k c v, ka[x] = (k, c, v) := ⟨_, _, _, rfl⟩
      have hget : ka[x]? = some (k, c, v) := by rw [List.getElem?_eq_getElem hlt', hkv]
      have hent : es[x]? = some ⟨knd.hash k, .ref c, v⟩ := by rw [entry_at hka x, hget]; rfl
      refine wpAny_bind (wpAny_dictEntries hoa hda ?_)
      rw [hent]
      have hdrop : kv (ka.drop x) = (k, v) :: kv (ka.drop (x + 1)) := by
        rw [List.drop_eq_getElem_cons hlt', hkv]
        rfl
      have hkey : knd.is s'.heap k c := hia (k, c, v) (List.mem_of_getElem? hget)
      rw [hdrop] at hpre
      show wpAny _ _ (holding [.ref c, v] _ >>= _) _ _ _
      have nn : ∀ (j : Nat) (p : Addr × Value), kb[j]? = some (k, p) → atKey kb k = some p := fun j p hj => atKey_of_get hnb hj
      refine wpAny_bind (wpAny_holding (wpAny_bind (wpAny_dictFind_heap hu hkey hob hdb hkb hib hnb (fun hno => ?_) fun j p hj => ?_)))
      · have hn : valueAt (kv kb) k = none := by
          rw [valueAt_kv, atKey_none_of_get hno]
          rfl
        rcases hpre.inv with ⟨_, er⟩ | ⟨y, _, _, hy, _⟩
        · rw [er] at h'
          refine wpAny_pure ?_
          show wpAny _ _ (if (!false) = true then _ else _) _ _ _
          rw [if_pos (by decide)]
          exact wpAny_pure (wpAny_pure h')
        · rw [hn] at hy; exact nomatch hy
      · have hv' : valueAt (kv kb) k = some p.2 := by rw [valueAt_kv, nn j p hj]; rfl
        refine wpAny_bind (wpAny_dictEntries hob hdb ?_)
        rw [entry_at hkb j, hj]
        rcases hpre.inv with ⟨hn, _⟩ | ⟨y, e, b', hy, he, hrr, er⟩
        · rw [hv'] at hn; exact nomatch hn
        · have ey : p.2 = y := Option.some.inj (hv'.symm.trans hy)
          rw [← ey] at he
          refine wpAny_holding (he _ _ ?_)
          cases e with
          | false =>
            rw [er, Bool.false_and] at h'
            show wpAny _ _ (if (!false) = true then _ else _) _ _ _
            rw [if_pos (by decide)]
            exact wpAny_pure (wpAny_pure h')
          | true =>
            rw [Bool.true_and] at er
            rw [← er] at hrr
            show wpAny _ _ (if (!true) = true then _ else _) _ _ _
            rw [if_neg (by decide)]
            refine wpAny_bind (wpAny_dictEpoch hoa hda ?_)
            rw [if_neg (by simp)]
            exact wpAny_pure ⟨rfl, rfl, x + 1, hrest, hlt, hrr⟩
    · rintro q s' ⟨rfl, rfl, i, hr, hi, hpre⟩
      have hin : i = es.size := by
        rcases Nat.lt_or_ge i es.size with h | h
        · have e : es.size - i = (es.size - (i + 1)) + 1 := by omega
          rw [e, List.range'_succ] at hr; exact nomatch hr
        · exact Nat.le_antisymm hi h
      refine wpAny_pure ?_
      rw [hin, ← hla, List.drop_length] at hpre
      cases hpre
      exact h'
theorem rcP_dictsH {a b : Addr} {ka kb : List (K × Addr × Value)} {r : Bool} (ha : (a == sysModules) = false) (hb : (b == sysModules) = false)
    (hr : knd.room A.in1) (da : s.heap.DictOfH knd a ka) (db : s.heap.DictOfH knd b kb) (hu : A.units < cLine) (hits : ka.length = kb.length → KeqHitsP prog w A.in1 s (kv kb) (kv ka) r) (E Q : Value → Shared → Prop) (h : Q (.bool (ka.length == kb.length && r)) s) : wpAny (model prog w) A (richCompare .Eq (.ref a) (.ref b)) Q E s := by
  refine wpAny_richCompare_same_room (op := .Eq) da.typeIs db.typeIs PySem.F.slot_dict_eq (wpAny_call_entry PySem.F.slot_dict_eq da.typeIs PySem.F.entry_dict_eq ?_ (PySem.F.args_dict_eq_2 _ _)) hu
  show wpAny _ _ (Builtin.Dict.dictSlotArgs "__eq__" ⟨[.ref a, .ref b], []⟩ >>= _) _ _ s
  refine wpAny_bind ?_
  unfold Builtin.Dict.dictSlotArgs
  refine wpAny_bind (wpAny_notOrdered_dict da.typeIs ?_)
  show wpAny _ _ (pure (Value.ref a, Value.ref b)) _ _ s
  refine wpAny_pure ?_
  refine wpAny_bind (wpAny_isInstance (T := "dict") db.typeIs PySem.F.sub_dict_dict ?_)
  simp only [Bool.not_true, Bool.false_eq_true, if_false]
  refine wpAny_bind (wpAny_pure (wpAny_bind (wpAny_pure ?_)))
  refine wpAny_bind (samePairsH ha hb hr da db hits ?_)
  refine wpAny_pure ⟨_, rfl, ?_, ?_⟩
  · exact fun x => nomatch x
  · simpa using h
end
/-! ### dicts of texts at tuples -/
section
variable {X : Cx} {pins : List (Addr × Obj)} {σ : L2.St} {F H : Hp} {s : Shared} {a : Addr} {o : Obj} {kvs : List Ent} {ds : List (D × D)} {v x y z : V} {d e : D} {u r : Value} {k : NestedKey} {A : Around} {E : Value → Shared → Prop}
theorem isStr_inv {d : D} (h : isStrD d = true) : ∃ x, d = .str x := by
  cases d <;> first | exact ⟨_, rfl⟩ | cases h
theorem Dr.str_inv {w : World} {K : PySem.W.Frag} {v : V} {x : Str} (h : Dr w K F v (.str x)) : v = .str x := by
  cases h; rfl
theorem dfind_mem {k : NestedKey} {v : D} : ∀ {l : List (D × D)}, dfind k l = some v → ∃ a, (a, v) ∈ l
  | [], h => by cases h
  | (a, x) :: r, h => by
    rw [dfind] at h
    split at h
    · cases h
      exact ⟨a, List.mem_cons_self⟩
    · obtain ⟨c, hc⟩ := dfind_mem h
      exact ⟨c, List.mem_cons_of_mem _ hc⟩
theorem tupDict_all {l : List (D × D)} (h : tupDict (.dict l) = true) : ∀ p ∈ l, flv p.1 = 1 ∧ ∃ x, p.2 = .str x := fun p hp => by
  have h : (l.all fun p => flv p.1 == 1 && isStrD p.2) = true := h
  rw [List.all_eq_true] at h
  have := h p hp
  rw [Bool.and_eq_true, beq_iff_eq] at this
  exact ⟨this.1, isStr_inv this.2⟩
theorem tupDict_ok {l : List (D × D)} (h : tupDict (.dict l) = true) : dictOk l = true := by
  unfold dictOk
  rw [List.all_eq_true]
  intro p hp
  rw [(tupDict_all h p hp).1]
  rfl
/-- the dict stands as one of tuples -/
theorem Ens.tups (I : Inv X pins σ H s) (e : Same F H) {a : Addr} {o : Obj} {kvs : List Ent} {ds : List (D × D)} (ha : H a = some (dO a o)) (r : DHas X.w a o kvs) (en : Ens X.w X.K F kvs ds) (ht : tupDict (.dict ds) = true) :
    ∃ xs, s.heap.DictOfH (nestedKind X.prog X.w) a xs ∧ Paired RT kvs xs := r.tups (P := X.prog) (dO_get I ha) fun p hp => by
  obtain ⟨q, hq, q1, q2, q3⟩ := Paired.mem en p hp
  obtain ⟨b, hb⟩ := flv1 q2 (tupDict_all ht q hq).1
  exact ⟨b, hb, by
    rw [hb] at q2
    exact Dr.nested I e q.1 q2 q1 rfl⟩
theorem hits_of {w : World} {K : PySem.W.Frag} {P : Program} {kvs kvs2 : List Ent} {xs xs2 : List (NestedKey × Addr × Value)} {ds ds2 : List (D × D)} (en2 : Ens w K F kvs2 ds2) (r2 : Paired RT kvs2 xs2) (t2 : tupDict (.dict ds2) = true)
    (en : Ens w K F kvs ds) (r : Paired RT kvs xs) (t : tupDict (.dict ds) = true) : KeqHitsP P w A s (kv xs2) (kv xs) (ds.all (hitD ds2)) := by
  induction en generalizing xs with
  | nil => cases r; exact .nil
  | @cons p q kvs ds h tl ih =>
    cases r with
    | @cons _ x _ xs h' tl' =>
      obtain ⟨k1, k2, k3⟩ := h
      obtain ⟨l1, l2, l3⟩ := h'
      have ih := ih tl' (by
        have t : (List.all (q :: ds) fun p => flv p.1 == 1 && isStrD p.2) = true := t
        rw [List.all_cons, Bool.and_eq_true] at t
        exact t.2)
      obtain ⟨_, z, hz⟩ := tupDict_all t q List.mem_cons_self
      rw [hz] at k3
      rw [Dr.str_inv k3] at l3
      obtain ⟨tk, l3⟩ : ∃ tk, x.2.2 = .str z tk := by
        have l3 : RelV (.str z) x.2.2 := l3
        exact l3
      rw [List.all_cons]
      have hx : kv (x :: xs) = (p.1, .str z tk) :: kv xs := by
        show (x.1, x.2.2) :: _ = _
        rw [l3, ← l1]
      rw [hx]
      have hd : hitD ds2 q = (match dfind p.1 ds2 with
        | some v => strEq q.2 v
        | none => false) := by
        unfold hitD
        rw [k1] <;> rfl
      have hg := rt_get r2 p.1
      rw [← valueAt_kv] at hg
      rcases en2.find p.1 with ⟨y, v, e1, e2, e3⟩ | ⟨e1, e2⟩
      · obtain ⟨c, hc⟩ := dfind_mem e2
        obtain ⟨z2, hz2⟩ := (tupDict_all t2 _ hc).2
        have hz2 : v = .str z2 := hz2
        rw [hz2] at e3
        rw [Dr.str_inv e3] at e1
        obtain ⟨w', hw, rw'⟩ := relO_some hg e1
        obtain ⟨tk2, hw2⟩ : ∃ tk, w' = .str z2 tk := rw'
        rw [hw2] at hw
        have he : hitD ds2 q = (z == z2) := by
          rw [hd, e2, hz2, hz]
          show decide (z = z2) = _
          rw [Bool.eq_iff_iff, beq_iff_eq, decide_eq_true_eq]
        rw [he]
        exact .hit hw (SeqAt.EqAt.eqP (SeqAt.EqAt.str_str z tk z2 tk2)) ih
      · rw [e1] at hg
        have hn : valueAt (kv xs2) p.1 = none := by
          cases hq : valueAt (kv xs2) p.1 with
          | none => rfl
          | some u => rw [hq] at hg; exact hg.elim
        rw [hd, e2]
        exact .miss hn
theorem tups_one {P : Program} {w : World} {h : Heap} {a : Addr} {xs ys : List (NestedKey × Addr × Value)} (h1 : h.DictOfH (nestedKind P w) a xs) (h2 : h.DictOfH (nestedKind P w) a ys) : kv xs = kv ys := by
  obtain ⟨o, es, ep, ho, x1, hd, he, hi, n1⟩ := h1
  obtain ⟨o', es', ep', ho', x2, hd', he', hi', n2⟩ := h2
  cases ho.symm.trans ho'
  cases hd.symm.trans hd'
  rw [he] at he'
  clear he ho' ho hd' hd n1 n2 x1 x2
  induction xs generalizing ys with
  | nil =>
    cases ys with
    | nil => rfl
    | cons y ys => simp at he'
  | cons x xs ih =>
    cases ys with
    | nil => simp at he'
    | cons y ys =>
      rw [List.map_cons, List.map_cons, List.cons.injEq] at he'
      obtain ⟨e1, e2⟩ := he'
      have i := ih (fun z hz => hi z (List.mem_cons_of_mem _ hz)) (fun z hz => hi' z (List.mem_cons_of_mem _ hz)) e2
      have e1 : (⟨_, .ref x.2.1, x.2.2⟩ : DictEntry) = ⟨_, .ref y.2.1, y.2.2⟩ := e1
      rw [DictEntry.mk.injEq, Value.ref.injEq] at e1
      have k1 := hi x List.mem_cons_self
      have k2 := hi' y List.mem_cons_self
      rw [e1.2.1] at k1
      have := (nestedKind P w).inj k1 k2
      show (x.1, x.2.2) :: kv xs = (y.1, y.2.2) :: kv ys
      rw [i, this, e1.2.2]
theorem hits_one {w : World} {K : PySem.W.Frag} {P : Program} {h : Heap} {a : Addr} {kvs kvs2 : List Ent} {xs xs2 : List (NestedKey × Addr × Value)} {ds ds2 : List (D × D)} (en2 : Ens w K F kvs2 ds2) (r2 : Paired RT kvs2 xs2) (t2 : tupDict (.dict ds2) = true)
    (en : Ens w K F kvs ds) (r : Paired RT kvs xs) (t : tupDict (.dict ds) = true) (h1 : h.DictOfH (nestedKind P w) a xs) (h2 : h.DictOfH (nestedKind P w) a xs2) : dictsEq ds ds2 = true := by
  have ek := tups_one h1 h2
  have hn : (xs.map (·.1)).Nodup := h1.nodup
  unfold dictsEq
  rw [Bool.and_eq_true, beq_iff_eq, List.all_eq_true]
  constructor
  · rw [← Paired.len en, ← Paired.len en2, Paired.len r, Paired.len r2]
    have := congrArg List.length ek
    rwa [List.length_map, List.length_map] at this
  · intro q hq
    obtain ⟨i, hi⟩ := List.getElem?_of_mem hq
    have hi1 : i < kvs.length := by
      rw [Paired.len en]
      exact (List.getElem?_eq_some_iff.mp hi).1
    have hk := List.getElem?_eq_getElem hi1
    generalize kvs[i] = p at hk
    obtain ⟨k1, k2, k3⟩ := Paired.get en i _ _ hk hi
    have hi2 : i < xs.length := by
      rw [← Paired.len r]
      exact hi1
    have hx := List.getElem?_eq_getElem hi2
    generalize xs[i] = x at hx
    obtain ⟨l1, l2, l3⟩ := Paired.get r i _ _ hk hx
    have ha : atKey xs x.1 = some x.2 := atKey_of_get hn hx
    have hv : valueAt (kv xs2) x.1 = some x.2.2 := by
      rw [← ek, valueAt_kv, ha]
      rfl
    have hg := rt_get r2 x.1
    rw [← valueAt_kv, hv] at hg
    obtain ⟨_, z, hz⟩ := tupDict_all t q hq
    rw [hz] at k3
    rw [Dr.str_inv k3] at l3
    obtain ⟨tk, l3⟩ : ∃ tk, x.2.2 = .str z tk := by
      have l3 : RelV (.str z) x.2.2 := l3
      exact l3
    rw [l3] at hg
    have k1 : keyOf q.1 = some p.1 := k1
    have l1 : p.1 = x.1 := l1
    rcases en2.find x.1 with ⟨y, v, e1, e2, e3⟩ | ⟨e1, e2⟩
    · obtain ⟨c, hc⟩ := dfind_mem e2
      obtain ⟨z2, hz2⟩ := (tupDict_all t2 _ hc).2
      have hz2 : v = .str z2 := hz2
      rw [hz2] at e3
      rw [Dr.str_inv e3] at e1
      obtain ⟨w', hw, rw'⟩ := relO_some hg e1
      cases hw
      obtain ⟨tk2, hw2⟩ : ∃ tk', Value.str z tk = .str z2 tk' := rw'
      cases hw2
      unfold hitD
      rw [k1, l1]
      show (match dfind x.1 ds2 with | some v => strEq q.2 v | none => false) = true
      rw [e2, hz2, hz]
      show decide (z = z) = true
      rw [decide_eq_true rfl]
    · rw [e1] at hg
      exact hg.elim
theorem dict_all {kvs : List (D × D)} {d : D} (h : tupDict d = true) : ∃ l, d = .dict l := by
  cases d <;> first | exact ⟨_, rfl⟩ | cases h
theorem eqP_dicts (I : Inv X pins σ H s) (e : Same F H) (hu : A.units + 20 < cLine) {v u : V} {v' u' : Value} {d1 d2 : D} (h1 : Dr X.w X.K F v d1) (h2 : Dr X.w X.K F u d2) (t1 : tupDict d1 = true) (t2 : tupDict d2 = true) (rv : RelV v v') (ru : RelV u u') : SeqAt.EqP X.prog X.w A s v' u' (dEq d1 d2) := by
  obtain ⟨l1, rfl⟩ := dict_all (kvs := []) t1
  obtain ⟨l2, rfl⟩ := dict_all (kvs := []) t2
  obtain ⟨a, o, kvs, rfl, ha, r, en⟩ := Br.dict_at e (.inl h1) (tupDict_ok t1)
  obtain ⟨b, o2, kvs2, rfl, hb, r2, en2⟩ := Br.dict_at e (.inl h2) (tupDict_ok t2)
  cases rv
  cases ru
  obtain ⟨xs, hx, rx⟩ := Ens.tups I e ha r en t1
  obtain ⟨ys, hy, ry⟩ := Ens.tups I e hb r2 en2 t2
  by_cases hab : a = b
  · subst hab
    have : dEq (.dict l1) (.dict l2) = true := hits_one en2 ry t2 en rx t1 hx hy
    rw [this]
    exact SeqAt.EqAt.eqP (SeqAt.EqAt.same _)
  · refine SeqAt.eqP_refs hab fun E Q hq => rcP_dictsH (r := l1.all (hitD l2)) r.ne r2.ne (show A.units + 1 + 8 < cLine by omega) hx hy (by omega) (fun _ => hits_of en2 ry t2 en rx t1) E Q ?_
    have e1 : xs.length = l1.length := by rw [← Paired.len rx, Paired.len en]
    have e2 : ys.length = l2.length := by rw [← Paired.len ry, Paired.len en2]
    rw [e1, e2]
    exact hq
theorem zip_range {α : Type} (as bs : List α) (x : α) (f : α → α → Bool) (hl : as.length = bs.length) : ((as.zip bs).all fun p => f p.1 p.2) = (List.range as.length).all fun j => f ((as[j]?).getD x) ((bs[j]?).getD x) := by
  rw [Bool.eq_iff_iff, List.all_eq_true, List.all_eq_true]
  constructor
  · intro h j hj
    rw [List.mem_range] at hj
    have hb : j < bs.length := hl ▸ hj
    have := h (as[j], bs[j]) (List.mem_iff_getElem?.mpr ⟨j, by rw [List.getElem?_zip_eq_some]; exact ⟨List.getElem?_eq_getElem hj, List.getElem?_eq_getElem hb⟩⟩)
    rw [List.getElem?_eq_getElem hj, List.getElem?_eq_getElem hb]
    exact this
  · intro h p hp
    obtain ⟨j, hj⟩ := List.mem_iff_getElem?.mp hp
    rw [List.getElem?_zip_eq_some] at hj
    have := h j (List.mem_range.mpr (List.getElem?_eq_some_iff.mp hj.1).1)
    rw [hj.1, hj.2] at this
    exact this
theorem op_eqs {E : Value → Shared → Prop} {Q : Value → Shared → Prop} (I : Inv X pins σ H s) (e : Same F H) (hu : A.units + 40 < cLine) {v u : V} {v' u' : Value} {as bs : List D} (h1 : Br X.w X.K F H v (.list as)) (h2 : Br X.w X.K F H u (.list bs)) (hl : as.length = bs.length)
    (t1 : ∀ d ∈ as, tupDict d = true) (t2 : ∀ d ∈ bs, tupDict d = true) (rv : RelV v v') (ru : RelV u u') (q : Q (.bool ((as.zip bs).all fun p => dEq p.1 p.2)) s) : wpAny (model X.prog X.w) A (compareOp .Eq v' u') Q E s := by
  obtain ⟨a, xs, rfl, h1, h2'⟩ := h1.list_inv e
  obtain ⟨b, ys, rfl, k1, k2⟩ := h2.list_inv e
  cases rv
  cases ru
  obtain ⟨is1, r1, p1, _⟩ := I.list (.inl (.inl h1))
  obtain ⟨is2, r2, p2, _⟩ := I.list (.inl (.inl k1))
  have z1 : is1.length = as.length := by rw [← r1.length, h2'.1]
  have z2 : is2.length = bs.length := by rw [← r2.length, k2.1]
  refine SeqAt.rcP_lists (e := fun j => dEq ((as[j]?).getD .none) ((bs[j]?).getD .none)) p1.isList p2.isList (by simp [z1, z2, hl]) (by omega) (fun j j1 j2 => ?_) E Q ?_
  · have j1 : j < is1.length := by simpa using j1
    have j2 : j < is2.length := by simpa using j2
    have i1 : j < as.length := z1 ▸ j1
    have i2 : j < bs.length := z2 ▸ j2
    rw [List.getElem?_eq_getElem i1, List.getElem?_eq_getElem i2]
    obtain ⟨v, hv, dv⟩ := h2'.get (List.getElem?_eq_getElem i1)
    obtain ⟨u, hu', du⟩ := k2.get (List.getElem?_eq_getElem i2)
    obtain ⟨v', hv', rv⟩ := Vals.get r1 hv
    obtain ⟨u', hu'', ru⟩ := Vals.get r2 hu'
    rw [List.getElem?_eq_getElem j1] at hv'
    rw [List.getElem?_eq_getElem j2] at hu''
    cases hv'
    cases hu''
    exact eqP_dicts I e (show A.units + 1 + 20 < cLine by omega) dv du (t1 _ (List.getElem_mem i1)) (t2 _ (List.getElem_mem i2)) rv ru
  · rw [zip_range as bs .none dEq hl] at q
    simpa [z1] using q
theorem op_eqd {E : Value → Shared → Prop} {Q : Value → Shared → Prop} (I : Inv X pins σ H s) (e : Same F H) (hu : A.units + 40 < cLine) {v u : V} {v' u' : Value} {as bs : List (D × D)} (h1 : Br X.w X.K F H v (.dict as)) (h2 : Br X.w X.K F H u (.dict bs))
    (t1 : tupDict (.dict as) = true) (t2 : tupDict (.dict bs) = true) (rv : RelV v v') (ru : RelV u u') (q : Q (.bool (dictsEq as bs)) s) : wpAny (model X.prog X.w) A (compareOp .Eq v' u') Q E s := by
  obtain ⟨a, o, kvs, rfl, ha, r, en⟩ := h1.dict_at e (tupDict_ok t1)
  obtain ⟨b, o2, kvs2, rfl, hb, r2, en2⟩ := h2.dict_at e (tupDict_ok t2)
  cases rv
  cases ru
  obtain ⟨xs, hx, rx⟩ := Ens.tups I e ha r en t1
  obtain ⟨ys, hy, ry⟩ := Ens.tups I e hb r2 en2 t2
  refine rcP_dictsH (r := as.all (hitD bs)) r.ne r2.ne (show A.units + 1 + 8 < cLine by omega) hx hy (by omega) (fun _ => hits_of en2 ry t2 en rx t1) E Q ?_
  have e1 : xs.length = as.length := by rw [← Paired.len rx, Paired.len en]
  have e2 : ys.length = bs.length := by rw [← Paired.len ry, Paired.len en2]
  rw [e1, e2]
  exact q
end
end KD
/-! KdOps: the operators on data, by values. -/
namespace KD
open PySem PySem.Spec
open PyProof.Rows L2
theorem R.guard_ok {α : Type} {c : Bool} {x : R α} {d : α} (h : R.guard c x = .ok d) : c = true ∧ x = .ok d := by
  cases c with
  | true => exact ⟨rfl, h⟩
  | false => cases h
theorem R.bind_eq {α β : Type} {x : R α} {f : α → R β} {d : β} (h : x.bind f = .ok d) : ∃ a, x = .ok a ∧ f a = .ok d := by
  cases x with
  | ok a => exact ⟨a, rfl, h⟩
  | err c => cases h
  | bot => cases h
theorem ofOpt_ok {α : Type} {x : Option α} {d : α} (h : ofOpt x = .ok d) : x = some d := by
  cases x with
  | some a => cases h; rfl
  | none => cases h
theorem lim_size : lim ≤ sizeLine := by rw [sizeLine_eq]; decide
theorem strOk_append (x y : Str) : PyData.strOk (x ++ y) = (PyData.strOk x && PyData.strOk y) := by
  show ((x.cps ++ y.cps).all _) = _
  rw [Array.all_append]
  rfl
theorem strOk_mk {l : List Nat} (h : ∀ c ∈ l, c < 0x110000) : PyData.strOk ⟨l.toArray⟩ = true := by
  show (l.toArray.all _) = true
  rw [List.all_toArray, List.all_eq_true]
  exact fun c hc => decide_eq_true (h c hc)
theorem strOk_mem {x : Str} (h : PyData.strOk x = true) : ∀ c ∈ x.cps.toList, c < 0x110000 := by
  intro c hc
  have h : (x.cps.all (· < 0x110000)) = true := h
  rw [← Array.all_toList, List.all_eq_true] at h
  exact of_decide_eq_true (h c hc)
section
variable {X : Cx}
/-- the wish behind an operation that gives the datum d -/
abbrev Fin (X : Cx) (F H : Hp) (d : D) (Q : VK) : Prop := ∀ (v : V) (F' H' : Hp), Ext F H F' H' → Dr X.w X.K F' v d → Q v H'
abbrev BrX (X : Cx) (F H : Hp) (v : V) (d : D) : Prop := Br X.w X.K F H v d
abbrev DrX (X : Cx) (F : Hp) (v : V) (d : D) : Prop := Dr X.w X.K F v d
abbrev DrAllX (X : Cx) (F : Hp) (v : List V) (d : List D) : Prop := DrAll X.w X.K F v d
def r2D (X : Cx) (f : D → D → R D) : R2 := fun x y H Q => ∃ F dx dy d, Same F H ∧ BrX X F H x dx ∧ BrX X F H y dy ∧ f dx dy = .ok d ∧ Fin X F H d Q
def r1D (X : Cx) (f : D → R D) : V → Hp → VK → Prop := fun x H Q => ∃ F dx d, Same F H ∧ BrX X F H x dx ∧ f dx = .ok d ∧ Fin X F H d Q
theorem Fin.same {F H : Hp} {d : D} {Q : VK} {v : V} (q : Fin X F H d Q) (e : Same F H) (h : DrX X F v d) : Q v H := q v F H (Ext.refl e) h
theorem Fin.lst {F H : Hp} {ds : List D} {Q : VK} {xs : List V} (q : Fin X F H (.list ds) Q) (e : Same F H) (h : DrAllX X F xs ds) : ∀ p, H p = none → Q (.ref p) (upd H p (.lst xs)) := fun p hp =>
  q _ _ _ (Ext.laid e hp) (.lst upd_same h.1 (h.mono (same_new (same_free e hp))).2)
theorem Fin.tup {F H : Hp} {ds : List D} {Q : VK} {xs : List V} (q : Fin X F H (.tuple ds) Q) (e : Same F H) (h : DrAllX X F xs ds) : NewT H Q xs := fun p o hp ho =>
  q _ _ _ (Ext.laid e hp) (.tup (.inl ⟨o, upd_same, ho⟩) h.1 (h.mono (same_new (same_free e hp))).2)
/-! ### + -/
theorem opD_add : OpR X (binaryOp .Add) (r2D X addD) := by
  intro pins s σ H x y v u Q I rx ry h
  obtain ⟨F, dx, dy, d, e, bx, bY, hf, q⟩ := h
  have hs := lim_size
  unfold addD at hf
  split at hf
  · cases hf
    cases bx.int_inv
    cases bY.int_inv
    exact op_add pins s σ H _ _ v u Q I rx ry ⟨_, _, rfl, rfl, q.same e (.int _)⟩
  · obtain ⟨hc, hf⟩ := R.guard_ok hf
    cases hf
    obtain ⟨rfl, h1⟩ := bx.str_inv
    obtain ⟨rfl, h2⟩ := bY.str_inv
    have hc := of_decide_eq_true hc
    exact op_add_str pins s σ H _ _ v u Q I rx ry ⟨_, _, rfl, rfl, Nat.le_trans hc hs, q.same e (.str _ (by rw [strOk_append, h1, h2]; rfl))⟩
  · rename_i ds es
    obtain ⟨hc, hf⟩ := R.guard_ok hf
    cases hf
    obtain ⟨a, xs, rfl, h1, h2⟩ := bx.tuple_inv
    obtain ⟨b, ys, rfl, k1, k2⟩ := bY.tuple_inv
    have hc := of_decide_eq_true hc
    refine op_catP pins s σ H _ _ v u Q I rx ry ⟨a, b, xs, ys, rfl, rfl, Same.sqT e h1.sq, Same.sqT e k1.sq, ?_, fun z => ?_, fun _ z => ?_, q.tup e (h2.append k2)⟩
    · rw [h2.1, k2.1]
      exact Nat.le_trans hc hs
    · have : ds = [] := List.eq_nil_of_length_eq_zero (by rw [← h2.1, z]; rfl)
      subst this
      exact q.same e (.tup k1 k2.1 k2.2)
    · have : es = [] := List.eq_nil_of_length_eq_zero (by rw [← k2.1, z]; rfl)
      subst this
      rw [List.append_nil] at q
      exact q.same e (.tup h1 h2.1 h2.2)
  · obtain ⟨hc, hf⟩ := R.guard_ok hf
    cases hf
    obtain ⟨a, xs, rfl, h1, h2⟩ := bx.list_inv e
    obtain ⟨b, ys, rfl, k1, k2⟩ := bY.list_inv e
    have hc := of_decide_eq_true hc
    refine op_cat pins s σ H _ _ v u Q I rx ry ⟨a, b, xs, ys, rfl, rfl, h1, k1, ?_, q.lst e (h2.append k2)⟩
    rw [h2.1, k2.1]
    exact Nat.le_trans hc hs
  · cases hf
theorem opD_sub : OpR X (binaryOp .Sub) (r2D X subD) := by
  intro pins s σ H x y v u Q I rx ry h
  obtain ⟨F, dx, dy, d, e, bx, bY, hf, q⟩ := h
  unfold subD at hf
  split at hf
  · cases hf
    cases bx.int_inv
    cases bY.int_inv
    exact op_sub pins s σ H _ _ v u Q I rx ry ⟨_, _, rfl, rfl, q.same e (.int _)⟩
  · cases hf
theorem small_of {i : Int} (h : smallI i = true) : -(2 ^ 64) < i ∧ i < 2 ^ 64 := by
  unfold smallI wide at h
  rw [Bool.and_eq_true, decide_eq_true_eq, decide_eq_true_eq] at h
  omega
theorem mem_rep {α : Type} {x : α} {l : List α} {n : Nat} (h : x ∈ (List.replicate n l).flatten) : x ∈ l := by
  obtain ⟨r, h1, h2⟩ := List.mem_flatten.mp h
  rw [List.eq_of_mem_replicate h1] at h2
  exact h2
theorem rep_len {α : Type} (l : List α) : ∀ n : Nat, (List.replicate n l).flatten.length = n * l.length
  | 0 => by simp
  | n + 1 => by
    rw [List.replicate_succ, List.flatten_cons, List.length_append, rep_len l n, Nat.succ_mul]
    omega
theorem foldl_repC (its : List Nat) : ∀ (k : Nat) (acc : List Nat), List.foldl (fun x1 x2 => x1 ++ x2) acc.toArray (List.replicate k its.toArray) = (acc ++ (List.replicate k its).flatten).toArray
  | 0, acc => by simp
  | k + 1, acc => by
    have e : acc.toArray ++ its.toArray = (acc ++ its).toArray := by simp
    have e2 : (acc ++ its) ++ (List.replicate k its).flatten = acc ++ (List.replicate (k + 1) its).flatten := by
      rw [List.replicate_succ, List.flatten_cons, List.append_assoc]
    rw [← e2, ← foldl_repC its k (acc ++ its), ← e, List.replicate_succ, List.foldl_cons]
def repS (s : Str) (k : Nat) : Str := ⟨(List.replicate k s.cps.toList).flatten.toArray⟩
theorem repS_fold (s : Str) (k : Nat) : (⟨(List.replicate k s.cps).foldl (· ++ ·) #[]⟩ : Str) = repS s k := by
  have := foldl_repC s.cps.toList k []
  simp only [Array.toArray_toList, List.nil_append] at this
  unfold repS
  rw [← this]
theorem strOk_rep {s : Str} (h : PyData.strOk s = true) (k : Nat) : PyData.strOk (repS s k) = true := strOk_mk fun c hc => strOk_mem h c (mem_rep hc)
theorem op_repS : OpR X (binaryOp .Mult) (fun x y H Q => ∃ (a : Str) (j : Int), x = .str a ∧ y = .int j ∧ a.length * j.toNat ≤ 1000000 ∧ -(2 ^ 62) < j ∧ j < 2 ^ 62 ∧ Q (.str (repS a j.toNat)) H) := by
  intro pins s σ H x y v u Q I rx ry h
  obtain ⟨a, j, rfl, rfl, hz, j1, j2, q⟩ := h
  obtain ⟨t, rfl⟩ := rx
  obtain ⟨t', rfl⟩ := ry
  refine P.mul_str (by rw [decide_eq_false (by omega), decide_eq_false (by omega)]; rfl) (fun h1 _ h3 => ?_) (fun _ _ => ?_) ?_
  · have hp : (0 : Int) < j := by omega
    have hm : ((a.length * j.toNat : Nat) : Int) = (a.length : Int) * j := by
      rw [Int.natCast_mul]
      congr 1
      omega
    have : (a.length : Int) ≤ (2 ^ 63 - 1) / j := (Int.le_ediv_iff_mul_le hp).mpr (by omega)
    omega
  · unfold Builtin.Str.tooLong
    rw [sizeLine_eq]
    exact decide_eq_false (by omega)
  · split
    · rename_i hn
      have e : repS a j.toNat = Str.empty := by
        have : j.toNat = 0 := by omega
        unfold repS
        rw [this]
        rfl
      rw [e] at q
      exact ⟨by decide, .str Str.empty, H, I.tok _, ⟨_, rfl⟩, q⟩
    · rename_i hn
      split
      · rename_i h1
        have e : repS a j.toNat = a := by
          rw [Bool.or_eq_true] at h1
          rcases h1 with h1 | h1
          · have hj : j = 1 := by simpa using h1
            unfold repS
            rw [hj]
            simp
          · have hl : a.length = 0 := by simpa using h1
            have hc : a.cps.toList = [] := List.eq_nil_of_length_eq_zero (by rw [Array.length_toList]; exact hl)
            unfold repS
            rw [hc]
            have : (List.replicate j.toNat ([] : List Nat)).flatten = [] := by
              rw [List.flatten_eq_nil_iff]
              exact fun l hl => List.eq_of_mem_replicate hl
            rw [this]
            obtain ⟨c⟩ := a
            show (⟨#[]⟩ : Str) = ⟨c⟩
            have : c = #[] := by
              have hc : c.toList = [] := hc
              simpa using hc
            rw [this]
        rw [e] at q
        exact ⟨.str a, H, I, ⟨_, rfl⟩, q⟩
      · rw [repS_fold]
        refine ⟨?_, .str (repS a j.toNat), H, I.tok _, ⟨_, rfl⟩, q⟩
        have : (repS a j.toNat).length = j.toNat * a.length := by
          show ((List.replicate j.toNat a.cps.toList).flatten.toArray).size = _
          rw [List.size_toArray, rep_len, Array.length_toList]
          rfl
        rw [this, Nat.mul_comm, sizeLine_eq]
        omega
theorem opD_mul : OpR X (binaryOp .Mult) (r2D X mulD) := by
  intro pins s σ H x y v u Q I rx ry h
  obtain ⟨F, dx, dy, d, e, bx, bY, hf, q⟩ := h
  have hs := lim_size
  unfold mulD at hf
  split at hf
  · obtain ⟨hc, hf⟩ := R.guard_ok hf
    cases hf
    cases bx.int_inv
    cases bY.int_inv
    refine op_mul pins s σ H _ _ v u Q I rx ry ⟨_, _, rfl, rfl, ?_, q.same e (.int _)⟩
    rcases (Bool.or_eq_true _ _).mp hc with hc | hc
    · exact .inl (small_of hc)
    · exact .inr (small_of hc)
  · obtain ⟨hc, hf⟩ := R.guard_ok hf
    cases hf
    rw [Bool.and_eq_true, decide_eq_true_eq] at hc
    have hb := small_of hc.2
    obtain ⟨a, xs, rfl, h1, h2⟩ := bx.list_inv e
    cases bY.int_inv
    refine op_rep pins s σ H _ _ v u Q I rx ry ⟨a, _, xs, rfl, rfl, h1, by omega, by omega, ?_, q.lst e (h2.rep _)⟩
    rw [h2.1]
    exact Nat.le_trans hc.1 hs
  · obtain ⟨hc, hf⟩ := R.guard_ok hf
    cases hf
    rw [Bool.and_eq_true, decide_eq_true_eq] at hc
    have hb := small_of hc.2
    obtain ⟨rfl, h1⟩ := bx.str_inv
    cases bY.int_inv
    exact op_repS pins s σ H _ _ v u Q I rx ry ⟨_, _, rfl, rfl, hc.1, by omega, by omega, q.same e (.str _ (strOk_rep h1 _))⟩
  · rename_i ds j
    obtain ⟨hc, hf⟩ := R.guard_ok hf
    cases hf
    simp only [Bool.and_eq_true, decide_eq_true_eq] at hc
    obtain ⟨a, xs, rfl, h1, h2⟩ := bx.tuple_inv
    cases bY.int_inv
    refine op_repP pins s σ H _ _ v u Q I rx ry ⟨a, _, xs, rfl, rfl, Same.sqT e h1.sq, fun z => ?_, hc.1.2, hc.2, ?_, q.tup e (h2.rep _)⟩
    · have : ds = [] := List.eq_nil_of_length_eq_zero (by rw [← h2.1, z]; rfl)
      subst this
      simp at hc
    · rw [h2.1]; exact hc.1.1.1
  · cases hf
theorem opD_fdiv : OpR X (binaryOp .FloorDiv) (r2D X fdivD) := by
  intro pins s σ H x y v u Q I rx ry h
  obtain ⟨F, dx, dy, d, e, bx, bY, hf, q⟩ := h
  unfold fdivD at hf
  split at hf
  · obtain ⟨hc, hf⟩ := R.guard_ok hf
    cases hf
    rw [Bool.and_eq_true, decide_eq_true_eq, decide_eq_true_eq] at hc
    cases bx.int_inv
    cases bY.int_inv
    exact op_fdiv pins s σ H _ _ v u Q I rx ry ⟨_, _, rfl, rfl, hc, q.same e (.int _)⟩
  · cases hf
theorem opD_mod : OpR X (binaryOp .Mod) (r2D X modD) := by
  intro pins s σ H x y v u Q I rx ry h
  obtain ⟨F, dx, dy, d, e, bx, bY, hf, q⟩ := h
  unfold modD at hf
  split at hf
  · obtain ⟨hc, hf⟩ := R.guard_ok hf
    cases hf
    rw [decide_eq_true_eq] at hc
    cases bx.int_inv
    cases bY.int_inv
    exact op_mod pins s σ H _ _ v u Q I rx ry ⟨_, _, rfl, rfl, hc, q.same e (.int _)⟩
  · cases hf
theorem opD_pow : OpR X (binaryOp .Pow) (r2D X powD) := by
  intro pins s σ H x y v u Q I rx ry h
  obtain ⟨F, dx, dy, d, e, bx, bY, hf, q⟩ := h
  unfold powD at hf
  split at hf
  · obtain ⟨hc, hf⟩ := R.guard_ok hf
    cases hf
    simp only [Bool.and_eq_true, decide_eq_true_eq] at hc
    cases bx.int_inv
    cases bY.int_inv
    exact op_pow pins s σ H _ _ v u Q I rx ry ⟨_, _, rfl, rfl, ⟨hc.1.1.1, by omega, hc.2⟩, q.same e (.int _)⟩
  · cases hf
def opOf : BOp → Operator
  | .add => .Add
  | .sub => .Sub
  | .mul => .Mult
  | .fdiv => .FloorDiv
  | .mod => .Mod
  | .pow => .Pow
theorem opD_bin : ∀ op : BOp, OpR X (binaryOp (opOf op)) (r2D X (binD op))
  | .add => opD_add
  | .sub => opD_sub
  | .mul => opD_mul
  | .fdiv => opD_fdiv
  | .mod => opD_mod
  | .pow => opD_pow
theorem unD_neg : UnR X (unaryOp .USub) (r1D X negD) := by
  intro pins s σ H x v Q I rx h
  obtain ⟨F, dx, d, e, bx, hf, q⟩ := h
  unfold negD at hf
  split at hf
  · cases hf
    cases bx.int_inv
    exact un_neg pins s σ H _ v Q I rx ⟨_, rfl, q.same e (.int _)⟩
  · cases hf
/-! ### comparisons -/
def r2B (X : Cx) (f : D → D → R Bool) : R2 := fun x y H Q => ∃ F dx dy r, Same F H ∧ BrX X F H x dx ∧ BrX X F H y dy ∧ f dx dy = .ok r ∧ Q (.bl r) H
/-- room on the stack for what a comparison of data asks -/
def Big (X : Cx) : Prop := X.A.units + 100 < cLine
theorem Big.le (h : Big X) : X.A.units + 64 < cLine ∧ X.A.units + 65 < cLine ∧ X.A.units + 1 < cLine := by
  have h : X.A.units + 100 < cLine := h
  omega
theorem eqD_cases {a b : D} {r : Bool} (h : eqD a b = .ok r) : (∃ kvs, a = .dict kvs ∧ b = .dict [] ∧ dictOk kvs = true ∧ r = kvs.isEmpty) ∨ shp a = true ∧ shp b = true ∧ r = PyData.eqv a b := by
  unfold eqD at h
  split at h
  · obtain ⟨hc, h⟩ := R.guard_ok h
    cases h
    exact .inl ⟨_, rfl, rfl, hc, rfl⟩
  · obtain ⟨hc, h⟩ := R.guard_ok h
    cases h
    rw [Bool.and_eq_true] at hc
    exact .inr ⟨hc.1, hc.2, rfl⟩
theorem ens_empty {w : World} {K : PySem.W.Frag} {F : Hp} {kvs : List Ent} {ds : List (D × D)} (h : Ens w K F kvs ds) : decide (kvs.length = 0) = ds.isEmpty := by
  cases h <;> simp
theorem opD_eq (hu : Big X) : OpR X (compareOp .Eq) (r2B X (cmpB .eq)) := by
  intro pins s σ H x y v u Q I rx ry h
  obtain ⟨F, dx, dy, r, e, bx, bY, hf, q⟩ := h
  rcases eqD_cases hf with ⟨kvs, rfl, rfl, hk, rfl⟩ | ⟨h1, h2, rfl⟩
  · obtain ⟨a, oa, es, rfl, ha, ra, ea⟩ := bx.dict_at e hk
    obtain ⟨b, ob, eb, rfl, hb, rb, eb'⟩ := bY.dict_at e rfl
    cases eb'
    cases rx
    cases ry
    obtain ⟨arr, ep, hd, hz⟩ := ra.arr
    obtain ⟨ep', hd'⟩ := rb.arr0
    refine dict_eq0 (by have := hu.le; omega) ra.ne rb.ne (dO_get I ha) ra.ex hd (dO_get I hb) rb.ex hd' ⟨.bl _, H, I, rfl, ?_⟩
    rw [hz, ens_empty ea]
    exact q
  · obtain ⟨p1, s1⟩ := bx.shaped h1
    obtain ⟨p2, s2⟩ := bY.shaped h2
    exact op_eqD hu.le.1 pins s σ H x y v u Q I rx ry ⟨dx, dy, bx.dp e p1, bY.dp e p2, s1, s2, q⟩
theorem opD_ne (hu : Big X) : OpR X (compareOp .NotEq) (r2B X (cmpB .ne)) := by
  intro pins s σ H x y v u Q I rx ry h
  obtain ⟨F, dx, dy, r, e, bx, bY, hf, q⟩ := h
  obtain ⟨r', hf', hr⟩ := R.bind_eq hf
  cases hr
  clear hf
  have hf := hf'
  rcases eqD_cases hf with ⟨kvs, rfl, rfl, hk, rfl⟩ | ⟨h1, h2, rfl⟩
  · obtain ⟨a, oa, es, rfl, ha, ra, ea⟩ := bx.dict_at e hk
    obtain ⟨b, ob, eb, rfl, hb, rb, eb'⟩ := bY.dict_at e rfl
    cases eb'
    cases rx
    cases ry
    obtain ⟨arr, ep, hd, hz⟩ := ra.arr
    obtain ⟨ep', hd'⟩ := rb.arr0
    refine dict_ne0 (by have := hu.le; omega) ra.ne rb.ne (dO_get I ha) ra.ex hd (dO_get I hb) rb.ex hd' ⟨.bl _, H, I, rfl, ?_⟩
    rw [hz, ens_empty ea]
    exact q
  · obtain ⟨p1, s1⟩ := bx.shaped h1
    obtain ⟨p2, s2⟩ := bY.shaped h2
    exact op_neD hu.le.1 pins s σ H x y v u Q I rx ry ⟨dx, dy, bx.dp e p1, bY.dp e p2, s1, s2, q⟩
theorem ltD_cases {a b : D} {r : Bool} (h : ltD a b = .ok r) : (∃ i j, a = .int i ∧ b = .int j ∧ r = decide (i < j)) ∨ ∃ x y, a = .str x ∧ b = .str y ∧ r = ltS x y := by
  unfold ltD at h
  split at h
  · cases h; exact .inl ⟨_, _, rfl, rfl, rfl⟩
  · cases h; exact .inr ⟨_, _, rfl, rfl, rfl⟩
  · cases h
theorem leD_cases {a b : D} {r : Bool} (h : leD a b = .ok r) : (∃ i j, a = .int i ∧ b = .int j ∧ r = decide (i ≤ j)) ∨ ∃ x y, a = .str x ∧ b = .str y ∧ r = !ltS y x := by
  unfold leD at h
  split at h
  · cases h; exact .inl ⟨_, _, rfl, rfl, rfl⟩
  · cases h; exact .inr ⟨_, _, rfl, rfl, rfl⟩
  · cases h
theorem opD_lt : OpR X (compareOp .Lt) (r2B X (cmpB .lt)) := by
  intro pins s σ H x y v u Q I rx ry h
  obtain ⟨F, dx, dy, r, e, bx, bY, hf, q⟩ := h
  rcases ltD_cases hf with ⟨i, j, rfl, rfl, rfl⟩ | ⟨i, j, rfl, rfl, rfl⟩
  · cases bx.int_inv; cases bY.int_inv
    exact op_lt pins s σ H _ _ v u Q I rx ry ⟨_, _, rfl, rfl, q⟩
  · obtain ⟨rfl, _⟩ := bx.str_inv; obtain ⟨rfl, _⟩ := bY.str_inv
    exact op_lt_str pins s σ H _ _ v u Q I rx ry ⟨_, _, rfl, rfl, q⟩
theorem opD_gt : OpR X (compareOp .Gt) (r2B X (cmpB .gt)) := by
  intro pins s σ H x y v u Q I rx ry h
  obtain ⟨F, dx, dy, r, e, bx, bY, hf, q⟩ := h
  rcases ltD_cases hf with ⟨i, j, rfl, rfl, rfl⟩ | ⟨i, j, rfl, rfl, rfl⟩
  · cases bx.int_inv; cases bY.int_inv
    exact op_gt pins s σ H _ _ v u Q I rx ry ⟨_, _, rfl, rfl, q⟩
  · obtain ⟨rfl, _⟩ := bx.str_inv; obtain ⟨rfl, _⟩ := bY.str_inv
    exact op_gt_str pins s σ H _ _ v u Q I rx ry ⟨_, _, rfl, rfl, q⟩
theorem opD_le : OpR X (compareOp .LtE) (r2B X (cmpB .le)) := by
  intro pins s σ H x y v u Q I rx ry h
  obtain ⟨F, dx, dy, r, e, bx, bY, hf, q⟩ := h
  rcases leD_cases hf with ⟨i, j, rfl, rfl, rfl⟩ | ⟨i, j, rfl, rfl, rfl⟩
  · cases bx.int_inv; cases bY.int_inv
    exact op_le pins s σ H _ _ v u Q I rx ry ⟨_, _, rfl, rfl, q⟩
  · obtain ⟨rfl, _⟩ := bx.str_inv; obtain ⟨rfl, _⟩ := bY.str_inv
    exact op_le_str pins s σ H _ _ v u Q I rx ry ⟨_, _, rfl, rfl, q⟩
theorem opD_ge : OpR X (compareOp .GtE) (r2B X (cmpB .ge)) := by
  intro pins s σ H x y v u Q I rx ry h
  obtain ⟨F, dx, dy, r, e, bx, bY, hf, q⟩ := h
  rcases leD_cases hf with ⟨i, j, rfl, rfl, rfl⟩ | ⟨i, j, rfl, rfl, rfl⟩
  · cases bx.int_inv; cases bY.int_inv
    exact op_ge pins s σ H _ _ v u Q I rx ry ⟨_, _, rfl, rfl, q⟩
  · obtain ⟨rfl, _⟩ := bx.str_inv; obtain ⟨rfl, _⟩ := bY.str_inv
    exact op_ge_str pins s σ H _ _ v u Q I rx ry ⟨_, _, rfl, rfl, q⟩
theorem Br.none_dec {w : World} {K : PySem.W.Frag} {F H : Hp} {v : V} {d : D} (h : Br w K F H v d) : decide (v = .non) = isNone d := by
  rcases h with h | ⟨a, o, rfl, h1, h2⟩
  · cases h <;> first | rfl | simp [isNone, KD.scr]
  · cases h2 <;> simp [isNone]
theorem isNone_inv {d : D} (h : isNone d = true) : d = .none := by
  unfold isNone at h
  split at h
  · rfl
  · cases h
theorem opD_is : OpR X (compareOp .Is) (r2B X (cmpB .is)) := by
  intro pins s σ H x y v u Q I rx ry h
  obtain ⟨F, dx, dy, r, e, bx, bY, hf, q⟩ := h
  obtain ⟨hc, hf⟩ := R.guard_ok hf
  cases hf
  rw [isNone_inv hc] at bY
  exact op_isN pins s σ H _ _ v u Q I rx ry ⟨bY.none_inv, by rw [bx.none_dec]; exact q⟩
theorem opD_isnot : OpR X (compareOp .IsNot) (r2B X (cmpB .isnot)) := by
  intro pins s σ H x y v u Q I rx ry h
  obtain ⟨F, dx, dy, r, e, bx, bY, hf, q⟩ := h
  obtain ⟨hc, hf⟩ := R.guard_ok hf
  cases hf
  rw [isNone_inv hc] at bY
  exact op_notN pins s σ H _ _ v u Q I rx ry ⟨bY.none_inv, by rw [bx.none_dec]; exact q⟩
theorem shaped_lay {d : D} (h : SeqAt.shaped d = true) : PyData.canLay0 d = true := SeqAt.canLay_of_shaped h
theorem shp_tup {ds : List D} (h : shp (.tuple ds) = true) : plain (.tuple ds) = true ∧ PyData.depth (.tuple ds) ≤ 60 := by
  unfold shp at h
  rwa [Bool.and_eq_true, decide_eq_true_eq] at h
theorem keyAt_dictOk {kvs : List (D × D)} {d : D} {k : NestedKey} (h : keyAt kvs d = some k) : dictOk kvs = true := by
  obtain ⟨k1, k2, k3⟩ := keyAt_ok h
  unfold dictOk
  rw [List.all_eq_true]
  intro p hp
  rw [k3 p hp]
  exact decide_eq_true (keyOf_flv k1)
/-- a key stands -/
theorem Br.key {w : World} {K : PySem.W.Frag} {F H : Hp} {v : V} {d : D} {k : NestedKey} (h : Br w K F H v d) (hk : keyOf d = some k) : Dr w K F v d := by
  rcases h with h | ⟨a, o, rfl, h1, h2⟩
  · exact h
  · cases h2 <;> simp [keyOf] at hk
theorem dhas_eq {w : World} {K : PySem.W.Frag} {F : Hp} {kvs : List Ent} {ds : List (D × D)} (h : Ens w K F kvs ds) (k : NestedKey) : (vget kvs k).isSome = dhas k ds := by
  unfold dhas
  rcases h.find k with ⟨y, e, h1, h2, _⟩ | ⟨h1, h2⟩ <;> rw [h1, h2] <;> rfl
theorem opD_in (hu : Big X) : OpR X (compareOp .In) (r2B X (cmpB .isin)) := by
  intro pins s σ H x y v u Q I rx ry h
  obtain ⟨F, dx, dy, r, e, bx, bY, hf, q⟩ := h
  have hf : inD dx dy = .ok r := hf
  unfold inD at hf
  split at hf
  · cases hf
    obtain ⟨rfl, _⟩ := bx.str_inv; obtain ⟨rfl, _⟩ := bY.str_inv
    exact op_in_str pins s σ H _ _ v u Q I rx ry ⟨_, _, rfl, rfl, q⟩
  · obtain ⟨hc, hf⟩ := R.guard_ok hf
    cases hf
    rw [Bool.and_eq_true] at hc
    obtain ⟨p1, s1⟩ := bx.shaped hc.1
    obtain ⟨p2, s2⟩ := bY.shaped hc.2
    exact op_inD hu.le.2.1 pins s σ H x y v u Q I rx ry ⟨_, _, bx.dp e p1, bY.dp e p2, s1, s2, q⟩
  · obtain ⟨hc, hf⟩ := R.guard_ok hf
    cases hf
    rw [Bool.and_eq_true] at hc
    obtain ⟨p1, s1⟩ := bx.shaped hc.1
    obtain ⟨p2, s2⟩ := bY.shaped hc.2
    obtain ⟨as, r1⟩ := Dp.reads I _ x v (bx.dp e p1) rx
    obtain ⟨bs, r2⟩ := Dp.reads I _ y u (bY.dp e p2) ry
    exact SeqAt.in_tuple_reads r2 r1 (shaped_lay s2) (shaped_lay s1) (room_in_shaped s1 hu.le.2.1) ⟨.bl _, H, I, rfl, q⟩
  · rename_i kvs
    split at hf
    · rename_i k hk
      cases hf
      obtain ⟨k1, k2, k3⟩ := keyAt_ok hk
      have hok := keyAt_dictOk hk
      obtain ⟨a, oa, es, rfl, ha, ra, ea⟩ := bY.dict_at e hok
      cases ry
      refine D_in (by have := hu.le; show X.A.units + 20 < cLine; omega) I e ha ra ea (bx.key k1) rx hk fun s' I' => ⟨.bl _, H, I', rfl, ?_⟩
      rw [dhas_eq ea k]
      exact q
    · cases hf
  · cases hf
theorem opD_notin (hu : Big X) : OpR X (compareOp .NotIn) (r2B X (cmpB .notin)) := by
  intro pins s σ H x y v u Q I rx ry h
  obtain ⟨F, dx, dy, r, e, bx, bY, hf, q⟩ := h
  obtain ⟨r', hf', hr⟩ := R.bind_eq hf
  cases hr
  clear hf
  have hf := hf'
  have hf : inD dx dy = .ok r' := hf
  unfold inD at hf
  split at hf
  · cases hf
    obtain ⟨rfl, _⟩ := bx.str_inv; obtain ⟨rfl, _⟩ := bY.str_inv
    exact L2.op_notIn_str pins s σ H _ _ v u Q I rx ry ⟨_, _, rfl, rfl, q⟩
  · obtain ⟨hc, hf⟩ := R.guard_ok hf
    cases hf
    rw [Bool.and_eq_true] at hc
    obtain ⟨p1, s1⟩ := bx.shaped hc.1
    obtain ⟨p2, s2⟩ := bY.shaped hc.2
    exact op_notInD hu.le.2.1 pins s σ H x y v u Q I rx ry ⟨_, _, bx.dp e p1, bY.dp e p2, s1, s2, q⟩
  · obtain ⟨hc, hf⟩ := R.guard_ok hf
    cases hf
    rw [Bool.and_eq_true] at hc
    obtain ⟨p1, s1⟩ := bx.shaped hc.1
    obtain ⟨p2, s2⟩ := bY.shaped hc.2
    obtain ⟨as, r1⟩ := Dp.reads I _ x v (bx.dp e p1) rx
    obtain ⟨bs, r2⟩ := Dp.reads I _ y u (bY.dp e p2) ry
    exact SeqAt.notIn_tuple_reads r2 r1 (shaped_lay s2) (shaped_lay s1) (room_in_shaped s1 hu.le.2.1) ⟨.bl _, H, I, rfl, q⟩
  · rename_i kvs
    split at hf
    · rename_i k hk
      cases hf
      obtain ⟨k1, k2, k3⟩ := keyAt_ok hk
      have hok := keyAt_dictOk hk
      obtain ⟨a, oa, es, rfl, ha, ra, ea⟩ := bY.dict_at e hok
      cases ry
      refine D_notIn (by have := hu.le; show X.A.units + 20 < cLine; omega) I e ha ra ea (bx.key k1) rx hk fun s' I' => ⟨.bl _, H, I', rfl, ?_⟩
      rw [dhas_eq ea k]
      exact q
    · cases hf
  · cases hf
def copOf : COp → CmpOp
  | .eq => .Eq
  | .ne => .NotEq
  | .lt => .Lt
  | .le => .LtE
  | .gt => .Gt
  | .ge => .GtE
  | .is => .Is
  | .isnot => .IsNot
  | .isin => .In
  | .notin => .NotIn
  | .eqs => .Eq
theorem opD_eqs (hu : Big X) : OpR X (compareOp .Eq) (r2B X (cmpB .eqs)) := by
  intro pins s σ H x y v u Q I rx ry h
  obtain ⟨F, dx, dy, r, e, bx, bY, hf, q⟩ := h
  have hf : eqsD dx dy = .ok r := hf
  have hu : X.A.units + 40 < cLine := by
    have hu : X.A.units + 100 < cLine := hu
    omega
  unfold eqsD at hf
  split at hf
  · obtain ⟨hc, hf⟩ := R.guard_ok hf
    cases hf
    rw [Bool.and_eq_true, Bool.and_eq_true, beq_iff_eq, List.all_eq_true, List.all_eq_true] at hc
    exact op_eqs I e hu bx bY hc.1 hc.2.1 hc.2.2 rx ry ⟨.bl _, H, I, rfl, q⟩
  · obtain ⟨hc, hf⟩ := R.guard_ok hf
    cases hf
    rw [Bool.and_eq_true] at hc
    exact op_eqd I e hu bx bY hc.1 hc.2 rx ry ⟨.bl _, H, I, rfl, q⟩
  · cases hf
theorem opD_cmp (hu : Big X) : ∀ op : COp, OpR X (compareOp (copOf op)) (r2B X (cmpB op))
  | .eq => opD_eq hu
  | .ne => opD_ne hu
  | .lt => opD_lt
  | .le => opD_le
  | .gt => opD_gt
  | .ge => opD_ge
  | .is => opD_is
  | .isnot => opD_isnot
  | .isin => opD_in hu
  | .notin => opD_notin hu
  | .eqs => opD_eqs hu
/-! ### subscripts -/
theorem atI_map {α β : Type} {xs : List α} {ds : List β} (hl : xs.length = ds.length) {i : Int} {d : β} (h : atI ds i = some d) : ∃ (j : Nat) (v : α), atI xs i = some v ∧ xs[j]? = some v ∧ ds[j]? = some d := by
  unfold atI at h ⊢
  rw [hl]
  cases e : ixN ds.length i with
  | none => rw [e] at h; cases h
  | some j =>
    rw [e] at h
    have h : ds[j]? = some d := h
    have hj : j < xs.length := by
      rw [hl]
      exact (List.getElem?_eq_some_iff.mp h).1
    exact ⟨j, xs[j], List.getElem?_eq_getElem hj, List.getElem?_eq_getElem hj, h⟩
theorem ixR_D (hu : Big X) : IxR X (r2D X ixD) := by
  intro value slice pins s σ H x y v u Q I rx ry h hs
  obtain ⟨F, dx, dy, d, e, bx, bY, hf, q⟩ := h
  unfold ixD at hf
  split at hf
  · obtain ⟨a, xs, rfl, h1, h2⟩ := bx.list_inv e
    cases bY.int_inv
    obtain ⟨j, w, k1, k2, k3⟩ := atI_map h2.1 (ofOpt_ok hf)
    exact ix_list value slice pins s σ H _ _ v u Q I rx ry ⟨a, xs, _, w, rfl, rfl, SqL.of h1, k1, q.same e (h2.2 j _ _ k2 k3)⟩ hs
  · obtain ⟨a, xs, rfl, h1, h2⟩ := bx.tuple_inv
    cases bY.int_inv
    obtain ⟨j, w, k1, k2, k3⟩ := atI_map h2.1 (ofOpt_ok hf)
    exact ix_tup value slice pins s σ H _ _ v u Q I rx ry ⟨a, xs, _, w, rfl, rfl, Same.sqT e h1.sq, k1, q.same e (h2.2 j _ _ k2 k3)⟩ hs
  · obtain ⟨hc, hf⟩ := R.guard_ok hf
    rw [decide_eq_true_eq] at hc
    obtain ⟨c, hc2, rfl⟩ := Option.map_eq_some_iff.mp (ofOpt_ok hf)
    obtain ⟨rfl, h1⟩ := bx.str_inv
    cases bY.int_inv
    obtain ⟨j, _, h3⟩ := atI_get hc2
    exact ix_str value slice pins s σ H _ _ v u Q I rx ry ⟨_, _, c, rfl, rfl, Nat.le_trans hc lim_size, hc2, q.same e (.str _ (strOk_mk (l := [c]) fun z hz => by
      rw [List.mem_singleton.mp hz]
      exact strOk_mem h1 c (List.mem_of_getElem? h3.1)))⟩ hs
  · split at hf
    · rename_i kvs k hk
      obtain ⟨k1, k2, k3⟩ := keyAt_ok hk
      obtain ⟨a, oa, es, rfl, ha, ra, ea⟩ := bx.dict_at e (keyAt_dictOk hk)
      cases rx
      rcases ea.find k with ⟨y', e', h1, h2, h3⟩ | ⟨h1, h2⟩
      · have h4 := ofOpt_ok hf
        rw [h2] at h4
        cases h4
        have hu20 : X.A.units + 20 < cLine := by have := hu.le; show X.A.units + 20 < cLine; omega
        obtain ⟨w', rw', g⟩ := D_getItem (E := X.xe) hu20 I e ha ra ea (bY.key k1) ry hk h1
        exact subscriptTail_builtinR (x := w') ⟨oa, dO_get I ha, ra.ex.1⟩ PySem.F.slot_dict_getitem.lookup (g _ fun s' I' => ⟨rfl, y', H, I', rw', q.same e h3⟩) hs
      · have h4 := ofOpt_ok hf
        rw [h2] at h4
        cases h4
    · split at hf
      · rename_i kvs _ xs hscr
        rw [isScr_inv hscr] at bx
        obtain ⟨a, ns, rfl, rfl, h1⟩ := bx.scr_inv e
        split at hf
        · cases bY.int_inv
          obtain ⟨j, w, k1, k2, k3⟩ := atI_map (xs := ns.map V.int) (by rw [List.length_map, List.length_map]) (ofOpt_ok hf)
          rw [List.getElem?_map] at k2 k3
          obtain ⟨n, hn, rfl⟩ := Option.map_eq_some_iff.mp k3
          rw [hn] at k2
          cases k2
          exact ix_list value slice pins s σ H _ _ v u Q I rx ry ⟨a, _, _, _, rfl, rfl, Same.sqL e h1, k1, q.same e (.int _)⟩ hs
        · cases hf
      · cases hf
  · cases hf
end
end KD
/-! KdWalk: what is walked: enumerate over a tuple; one word for all walks. -/
namespace KD
open PySem PySem.Spec
open PyProof.Rows L2
theorem enum_new1 {v : Value} {o : Obj} {G : Heap → Prop} (B : Begins v o G) : Meets (Builtin.«enumerate.__new__» ⟨[.type "enumerate", v], []⟩) (fun _ R s =>
    G s.heap ∧ R (.ok (.ret (.ref (s.heap.push o).objs.size)))
      { s with heap := (s.heap.push o).push { cls := .type "enumerate", data := .fields #[.none, .bool false, .ref s.heap.objs.size, rawInt 0, .none, .none] } }) :=
  .of_wp fun prog w A R s h => by
    obtain ⟨hp, g, dr, tk, os⟩ := s
    obtain ⟨h1, h⟩ := h
    have sub := sub_enumerate
    have q1 : ∀ {A' : Around} {E : Value → Shared → Prop} {Q : Value → Shared → Prop}, Q (.ref hp.objs.size) ⟨hp.push o, g, dr, tk, os⟩ →
        wpAny (model prog w) A' (pyIter v) Q E ⟨hp, g, dr, tk, os⟩ := fun q => B.iter prog w _ _ ⟨hp, g, dr, tk, os⟩ _ h1 q
    wp_walk using q1
    refine wpAny_stack_any fun st => wpAny_pure ?_
    split
    · rename_i c _ _ _ _ _
      cases c == Value.type "enumerate"
      · wp_walk using q1
        exact ⟨_, rfl, h⟩
      · wp_walk using q1
        exact ⟨_, rfl, h⟩
    · wp_walk using q1
      exact ⟨_, rfl, h⟩
theorem enum_call1 {prog : Program} {w : World} {A : Around} {E : Value → Shared → Prop} {s : Shared} {v : Value} {o : Obj} {G : Heap → Prop} {Q : Value → Shared → Prop} (B : Begins v o G) (h1 : G s.heap)
    (h : ∀ h', IsEnum h' (s.heap.objs.size + 1) s.heap.objs.size 0 .none → h'.get? s.heap.objs.size = some o →
      (∀ b ob, s.heap.get? b = some ob → h'.get? b = some ob) → Q (.ref (s.heap.objs.size + 1)) { s with heap := h' }) :
    wpAny (model prog w) A (call (.type "enumerate") [v]) Q E s := by
  refine callType_new F.called_enumerate (by decide) (F.typeCall_enumerate_1 _) (F.newCall_enumerate_1 _) (fun obj => F.args_object_init_2 obj _)
    F.entry_enumerate_new (enum_new1 B) ⟨h1, ?_⟩
  have hz : (s.heap.push o).objs.size = s.heap.objs.size + 1 := Heap.size_push ..
  show _ ∧ _
  rw [hz]
  have he := Heap.get?_push_size (s.heap.push o) (o := { cls := .type "enumerate", data := .fields #[.none, .bool false, .ref s.heap.objs.size, rawInt 0, .none, .none] }) rfl
  rw [hz] at he
  exact ⟨⟨_, he, rfl⟩, h _ he (Heap.get?_push_of_some _ (Heap.get?_push_size _ B.free)) fun b ob x => Heap.get?_push_of_some _ (Heap.get?_push_of_some _ x)⟩
/-- the tuple at a, each item in a new pair with its place -/
def IteT (K : PySem.W.Frag) (a : Addr) : It where
  go := fun i H => ∃ (xs : List V) (x : V), SqT K H a xs ∧ xs[i]? = some x
  yld := fun i H v H' => ∃ T x, v = .ref T ∧ H T = none ∧ H' = upd H T (.tup [.int (i : Nat), x]) ∧ ∀ xs, SqT K H a xs → xs[i]? = some x
  stop := fun i H => ∃ xs : List V, SqT K H a xs ∧ xs.length = i
theorem turn_enumT {w : World} {K : PySem.W.Frag} {elts : List Expr} {kk : Nat} {tpos : Pos} (a e it : Addr) (hae : a ≠ e) (hai : a ≠ it) (hne : e ≠ it) :
    Turn P w K (.Tuple elts kk tpos) (IteT K a) [e, it] e (fun i h => (∃ old, IsEnum h e it ((i : Nat) : Int) old) ∧ h.IsTupleIter it a i) where
  mem := by simp
  obj := fun i h st b hb => by
    obtain ⟨⟨old, he⟩, ⟨o, ho, hc, hd⟩⟩ := st
    have e' : b = e ∨ b = it := by simpa using hb
    rcases e' with rfl | rfl
    · exact ⟨_, he, fun v q => nomatch q⟩
    · exact ⟨o, ho, fun v q => by rw [hd] at q; cases q⟩
  keep := fun i h h' st k => ⟨st.1.imp fun old he => k e (by simp) _ he, st.2.at fun o q => k it (by simp) o q⟩
  item := by
    intro X hP hw hK hc i pins s σ H E I hf st hg
    subst hP hw hK
    obtain ⟨⟨old, he⟩, hit⟩ := st
    obtain ⟨xs, x, hq, hx⟩ := hg
    obtain ⟨its, rv, p, hz⟩ := I.tuple hq
    obtain ⟨u, hu, ru⟩ := rv.get hx
    have hel : e < s.heap.objs.size := Heap.lt_size he
    have hil : it < s.heap.objs.size := by
      obtain ⟨_, q, _⟩ := hit
      exact Heap.lt_size q
    have hlen : i < its.toArray.size := by
      rw [List.size_toArray]
      exact (List.getElem?_eq_some_iff.mp hu).1
    have Dw := Draws.tuple (prog := X.prog) (w := X.w) (A := X.A.in1) (I.ok.hd hc) it a hai its.toArray
    refine wpAny_pyNext_enum_itemD Dw he ⟨hit, p⟩ hlen hne (by simp [hne, Ne.symm hae]) fun y h' tk hy ho hit' hT hsz hk => ?_
    have hy' : its.toArray[i]? = some y := hy
    have eyu : y = u := Option.some.inj (hy'.symm.trans (by simpa using hu))
    subst eyu
    refine ⟨_, rfl, wpAny_letOwnedTupleGo_enum (s := { s with heap := h', toks := tk + 1 }) ho fun h2 he2 sb => ?_⟩
    have hT2 : h2.get? s.heap.objs.size = some { cls := .type "tuple", data := .seq #[.int i tk, y] } := (sb.2 _ (Nat.ne_of_gt hel)).trans hT
    have new : ObjOk X.prog X.w (upd H s.heap.objs.size (.tup [.int (i : Nat), x])) h2 s.heap.objs.size (.tup [.int (i : Nat), x]) :=
      ⟨by show 2 ≤ sizeLine; decide, [.int i tk, y], .cons ⟨_, rfl⟩ (.cons ru .nil), ⟨_, hT2, rfl, _, rfl⟩⟩
    have keep : ∀ b ob, b ∉ [e, it] → s.heap.get? b = some ob → h2.get? b = some ob := fun b ob hb q =>
      (sb.2 b (fun z => hb (by simp [z]))).trans (hk b ob (fun z => hb (by simp [z])) (fun z => hb (by simp [z])) q)
    have I1 : Inv X pins σ (upd H s.heap.objs.size (.tup [.int (i : Nat), x])) { s with heap := h2, toks := tk + 1 } := I.turnedNew (ch := [e, it]) keep hf (Nat.le_refl _) new
    refine ⟨.ref s.heap.objs.size, _, I1, rfl, ⟨_, x, rfl, I.hok.fresh (Nat.le_refl _), rfl, fun ys hy => by rw [I.tuple_inj hy hq]; exact hx⟩,
      ⟨⟨y, ?_⟩, hit'.1.at fun o q => (sb.2 it (Ne.symm hne)).trans q⟩, fun b hb => ?_⟩
    · have e1 : ((i + 1 : Nat) : Int) = (i : Int) + 1 := by omega
      rw [e1]
      exact he2
    · have hb2 : b < s.heap.objs.size := by
        have e' : b = e ∨ b = it := by simpa using hb
        rcases e' with rfl | rfl
        · exact hel
        · exact hil
      rw [upd_ne (Nat.ne_of_lt hb2)]
      exact (hf b hb).1
  done := by
    intro X hP hw hK hc i pins s σ H E I hf st hg
    subst hP hw hK
    obtain ⟨⟨old, he⟩, hit⟩ := st
    obtain ⟨xs, hq, hx⟩ := hg
    obtain ⟨its, rv, p, hz⟩ := I.tuple hq
    obtain ⟨f0, f1, f2, f3, f4, f5⟩ := hf it (by simp)
    have hl := rv.length
    have Dw := Draws.tuple (prog := X.prog) (w := X.w) (A := X.A.in1) (I.ok.hd hc) it a hai its.toArray
    have en : i = its.toArray.size := by
      rw [List.size_toArray]
      omega
    refine wpAny_pyNext_enum_endD Dw he (en ▸ ⟨hit, p⟩) fun h' eb => ⟨rfl, I.turned (t' := s.toks) (fun b o hb q => eb b o hb q) f0 f1 f3 f4 f5⟩
  self := fun A i s Q E st h => by
    obtain ⟨⟨_, he⟩, _⟩ := st
    exact wpAny_pyIter_enum he h
def iEnumT (K : PySem.W.Frag) (ta : TA) : TI := fun σ H R => ta σ H fun vs H1 => ∃ a xs, vs = [.ref a] ∧ SqT K H1 a xs ∧ R (IteT K a) H1
theorem pi_enumT {X : Cx} {e : Expr} {ta : TA} {p pos tpos : Pos} {elts : List Expr} {kk : Nat} (hg : Gl X "enumerate") (hm : X.mg "enumerate" = none) (ha : PA X [e] ta) (hs : starEach [e] X.env = [(false, eval e X.env)]) :
    PI X (.Tuple elts kk tpos) (.Call (.Name "enumerate" p) [e] [] pos) (iEnumT X.K ta) := by
  refine ⟨fun pins s σ H R I h => ?_⟩
  refine Call_ (ld_blt I hg hm boot_enumerate (PyProof.Rows.callWith_type1 (thn (ha.run pos pins s σ H _ I h) fun us s1 ⟨vs, H1, I1, r1, q1⟩ => ?_) hs rfl))
  obtain ⟨a, xs, ex, hq, q⟩ := q1
  subst ex
  obtain ⟨u, rfl, ru⟩ := vals1 r1
  cases ru
  obtain ⟨its, rv, p', hz⟩ := I1.tuple hq
  have hal : a < s1.heap.objs.size := by
    obtain ⟨o, ho, _⟩ := id p'
    exact Heap.lt_size ho
  refine enum_call1 (begins_tuple a its.toArray) p' fun h' he hit hk => wpAny_pyIter_enum he ?_
  have I2 : Inv X pins σ H1 { s1 with heap := h' } := I1.kept (t' := s1.toks) hk
  refine ⟨s1.heap.objs.size + 1, [s1.heap.objs.size + 1, s1.heap.objs.size], _, _, H1, rfl, I2,
    turn_enumT a (s1.heap.objs.size + 1) s1.heap.objs.size (Nat.ne_of_lt (Nat.lt_succ_of_lt hal)) (Nat.ne_of_lt hal) (Nat.succ_ne_self _), ⟨⟨.none, he⟩, ⟨_, hit, rfl, rfl⟩⟩, fun b hb => ?_, q⟩
  have e' : b = s1.heap.objs.size + 1 ∨ b = s1.heap.objs.size := by simpa using hb
  have hle : s1.heap.objs.size ≤ b := by
    rcases e' with rfl | rfl
    · exact Nat.le_add_right _ _
    · exact Nat.le_refl _
  exact I1.fpOk hle (I1.hok.fresh hle)
theorem _root_.L2.PI.or {X : Cx} {tg it : Expr} {wi wi' : TI} (h : PI X tg it wi) (h' : PI X tg it wi') : PI X tg it (fun σ H R => wi σ H R ∨ wi' σ H R) :=
  ⟨fun pins s σ H R I q => q.elim (h.run pins s σ H R I) (h'.run pins s σ H R I)⟩
theorem _root_.L2.PI.weak {X : Cx} {tg it : Expr} {wi wi' : TI} (h : PI X tg it wi) (hw : ∀ σ H R, wi' σ H R → wi σ H R) : PI X tg it wi' :=
  ⟨fun pins s σ H R I q => h.run pins s σ H R I (hw σ H R q)⟩
theorem _root_.L2.PE.weak {X : Cx} {e : Expr} {t t' : TE} (h : PE X e t) (hw : ∀ σ H Q, t' σ H Q → t σ H Q) : PE X e t' := ⟨fun pins s σ H Q I q => h.run pins s σ H Q I (hw σ H Q q)⟩
theorem _root_.L2.PT.weak {X : Cx} {e : Expr} {t t' : TT} (h : PT X e t) (hw : ∀ σ H Q, t' σ H Q → t σ H Q) : PT X e t' := ⟨fun pins s σ H Q I q => h.run pins s σ H Q I (hw σ H Q q)⟩
theorem _root_.L2.PW.weak {X : Cx} {e : Expr} {t t' : TT} (h : PW X e t) (hw : ∀ σ H Q, t' σ H Q → t σ H Q) : PW X e t' := ⟨fun wh pins s σ H Q I q => h.run wh pins s σ H Q I (hw σ H Q q)⟩
theorem _root_.L2.PA.weak {X : Cx} {e : List Expr} {t t' : TA} (h : PA X e t) (hw : ∀ σ H Q, t' σ H Q → t σ H Q) : PA X e t' := ⟨fun pos pins s σ H Q I q => h.run pos pins s σ H Q I (hw σ H Q q)⟩
theorem _root_.L2.PS.weak {X : Cx} {e : Stmt} {t t' : TS} (h : PS X e t) (hw : ∀ D σ H, t' D σ H → t D σ H) : PS X e t' := ⟨fun pins s σ H D I q => h.run pins s σ H D I (hw D σ H q)⟩
theorem _root_.L2.PSs.weak {X : Cx} {e : List Stmt} {t t' : TS} (h : PSs X e t) (hw : ∀ D σ H, t' D σ H → t D σ H) : PSs X e t' := ⟨fun pins s σ H D I q => h.run pins s σ H D I (hw D σ H q)⟩
theorem _root_.L2.PG.weak {X : Cx} {e : Expr} {t t' : TG} (h : PG X e t) (hw : ∀ v σ H Q, t' v σ H Q → t v σ H Q) : PG X e t' := ⟨fun pins s σ H v u Q I r q => h.run pins s σ H v u Q I r (hw v σ H Q q)⟩
theorem _root_.L2.PGs.weak {X : Cx} {e : List Expr} {t t' : TGs} (h : PGs X e t) (hw : ∀ v σ H Q, t' v σ H Q → t v σ H Q) : PGs X e t' := ⟨fun pins s σ H v u Q I r q => h.run pins s σ H v u Q I r (hw v σ H Q q)⟩
/-- an item: it stands, or it is a pair just made -/
def Itm (p : Bool) (w : World) (K : PySem.W.Frag) (F H : Hp) (v : V) (d : D) : Prop := Dr w K F v d ∨ p = true ∧ ∃ a xs ds, v = .ref a ∧ H a = some (.tup xs) ∧ d = .tuple ds ∧ DrAll w K F xs ds
theorem Itm.weak {p p' : Bool} {w : World} {K : PySem.W.Frag} {F H : Hp} {v : V} {d : D} (h : Itm p w K F H v d) (hp : p = true → p' = true) : Itm p' w K F H v d := by
  rcases h with h | ⟨h, r⟩
  · exact .inl h
  · exact .inr ⟨hp h, r⟩
/-- J walks the data xs; it stands while the heap B stands -/
def WalkOk (p : Bool) (w : World) (K : PySem.W.Frag) (F B : Hp) (J : It) (xs : List D) : Prop :=
  ∀ (H F' : Hp), Same F F' → Same F' H → Same B H → (J.stop xs.length H) ∧ ∀ (i : Nat) (d : D), xs[i]? = some d → J.go i H ∧ ∀ (x : V) (H' : Hp), J.yld i H x H' → ∃ F2, Ext F' H F2 H' ∧ Itm p w K F2 H' x d
section
variable {P : Program} {w : World} {K : PySem.W.Frag} {F B : Hp} {a b : Addr} {xs ys : List V} {ds es : List D}
theorem walk_list {p : Bool} (hB : SqL K B a xs) (h : DrAll w K F xs ds) : WalkOk p w K F B (Itl K a) ds := by
  intro H F' e1 e2 e3
  have hH := Same.sqL e3 hB
  refine ⟨⟨xs, hH, Nat.le_of_eq h.1⟩, fun i d hd => ?_⟩
  obtain ⟨v, hv, hr⟩ := h.get hd
  refine ⟨⟨xs, v, hH, hv⟩, fun x H' hy => ?_⟩
  obtain ⟨rfl, hy⟩ := hy
  have := hy xs hH
  rw [hv] at this
  cases this
  exact ⟨F', Ext.refl e2, .inl (hr.mono e1)⟩
theorem walk_tup {p : Bool} (hB : SqT K B a xs) (h : DrAll w K F xs ds) : WalkOk p w K F B (Itt K a) ds := by
  intro H F' e1 e2 e3
  have hH := Same.sqT e3 hB
  refine ⟨⟨xs, hH, Nat.le_of_eq h.1⟩, fun i d hd => ?_⟩
  obtain ⟨v, hv, hr⟩ := h.get hd
  refine ⟨⟨xs, v, hH, hv⟩, fun x H' hy => ?_⟩
  obtain ⟨rfl, hy⟩ := hy
  have := hy xs hH
  rw [hv] at this
  cases this
  exact ⟨F', Ext.refl e2, .inl (hr.mono e1)⟩
theorem walk_str {p : Bool} {x : Str} (h : PyData.strOk x = true) : WalkOk p w K F B (Its x) (chars x) := by
  intro H F' e1 e2 e3
  unfold chars
  refine ⟨by show x.cps.size ≤ _; simp, fun i d hd => ?_⟩
  rw [List.getElem?_map] at hd
  obtain ⟨c, hc, rfl⟩ := Option.map_eq_some_iff.mp hd
  have hi : i < x.cps.size := by
    have := (List.getElem?_eq_some_iff.mp hc).1
    simpa using this
  refine ⟨hi, fun v H' hy => ?_⟩
  obtain ⟨rfl, c', hc', rfl⟩ := hy
  rw [Array.getElem?_toList] at hc
  rw [hc] at hc'
  cases hc'
  refine ⟨F', Ext.refl e2, .inl (.str _ (strOk_mk (l := [c]) fun z hz => ?_))⟩
  rw [List.mem_singleton.mp hz]
  exact strOk_mem h c (List.mem_of_getElem? (by rw [Array.getElem?_toList]; exact hc))
theorem walk_range {p : Bool} {lo : Int} {n : Nat} : WalkOk p w K F B (Itr lo n) ((List.range n).map fun (i : Nat) => PyData.int (lo + (i : Int))) := by
  intro H F' e1 e2 e3
  refine ⟨by show n ≤ _; simp, fun i d hd => ?_⟩
  rw [List.getElem?_map] at hd
  obtain ⟨c, hc, rfl⟩ := Option.map_eq_some_iff.mp hd
  obtain ⟨hi, hci⟩ := List.getElem?_eq_some_iff.mp hc
  rw [List.length_range] at hi
  rw [List.getElem_range] at hci
  subst hci
  refine ⟨hi, fun v H' hy => ?_⟩
  obtain ⟨rfl, rfl⟩ := hy
  exact ⟨F', Ext.refl e2, .inl (.int _)⟩
theorem enumFrom_get : ∀ (ds : List D) (k i : Nat) (d : D), (enumFrom k ds)[i]? = some d → ∃ e, ds[i]? = some e ∧ d = .tuple [.int ((k + i : Nat) : Int), e]
  | [], _, _, _, h => by simp [enumFrom] at h
  | e :: ds, k, 0, d, h => by
    simp [enumFrom] at h
    exact ⟨e, rfl, by rw [← h]; rfl⟩
  | e :: ds, k, i + 1, d, h => by
    obtain ⟨e', h1, h2⟩ := enumFrom_get ds (k + 1) i d (by simpa [enumFrom] using h)
    refine ⟨e', by simpa using h1, ?_⟩
    rw [h2]
    have : k + 1 + i = k + (i + 1) := by omega
    rw [this]
theorem enumFrom_len : ∀ (ds : List D) (k : Nat), (enumFrom k ds).length = ds.length
  | [], _ => rfl
  | _ :: ds, k => by simp [enumFrom, enumFrom_len ds (k + 1)]
theorem pair_new {H F' : Hp} {T : Addr} {x y : V} {d e : D} (e2 : Same F' H) (hT : H T = none) (h1 : Dr w K F' x d) (h2 : Dr w K F' y e) : ∃ F2, Ext F' H F2 (upd H T (.tup [x, y])) ∧ Itm true w K F2 (upd H T (.tup [x, y])) (.ref T) (.tuple [d, e]) :=
  ⟨F', Ext.open_ e2 hT, .inr ⟨rfl, T, _, _, rfl, upd_same, rfl, .cons h1 (.cons h2 .nil)⟩⟩
theorem walk_enumL (hB : SqL K B a xs) (h : DrAll w K F xs ds) : WalkOk true w K F B (Ite K a) (enumFrom 0 ds) := by
  intro H F' e1 e2 e3
  have hH := Same.sqL e3 hB
  refine ⟨⟨xs, hH, by rw [enumFrom_len]; exact Nat.le_of_eq h.1⟩, fun i d hd => ?_⟩
  obtain ⟨e, he, rfl⟩ := enumFrom_get _ _ _ _ hd
  obtain ⟨v, hv, hr⟩ := h.get he
  refine ⟨⟨xs, v, hH, hv⟩, fun x H' hy => ?_⟩
  obtain ⟨T, y, rfl, hT, rfl, hy⟩ := hy
  have := hy xs hH
  rw [hv] at this
  cases this
  rw [Nat.zero_add]
  exact pair_new e2 hT (.int _) (hr.mono e1)
theorem walk_enumT (hB : SqT K B a xs) (h : DrAll w K F xs ds) : WalkOk true w K F B (IteT K a) (enumFrom 0 ds) := by
  intro H F' e1 e2 e3
  have hH := Same.sqT e3 hB
  refine ⟨⟨xs, hH, by rw [enumFrom_len]; exact h.1⟩, fun i d hd => ?_⟩
  obtain ⟨e, he, rfl⟩ := enumFrom_get _ _ _ _ hd
  obtain ⟨v, hv, hr⟩ := h.get he
  refine ⟨⟨xs, v, hH, hv⟩, fun x H' hy => ?_⟩
  obtain ⟨T, y, rfl, hT, rfl, hy⟩ := hy
  have := hy xs hH
  rw [hv] at this
  cases this
  rw [Nat.zero_add]
  exact pair_new e2 hT (.int _) (hr.mono e1)
theorem zipD_get : ∀ (ds es : List D) (i : Nat) (d : D), (zipD ds es)[i]? = some d → ∃ x y, ds[i]? = some x ∧ es[i]? = some y ∧ d = .tuple [x, y]
  | [], _, _, _, h => by simp [zipD] at h
  | _ :: _, [], _, _, h => by simp [zipD] at h
  | x :: ds, y :: es, 0, d, h => by
    simp [zipD] at h
    exact ⟨x, y, rfl, rfl, h.symm⟩
  | x :: ds, y :: es, i + 1, d, h => by
    obtain ⟨x', y', h1, h2, h3⟩ := zipD_get ds es i d (by simpa [zipD] using h)
    exact ⟨x', y', by simpa using h1, by simpa using h2, h3⟩
theorem zipD_len : ∀ (ds es : List D), (zipD ds es).length = min ds.length es.length
  | [], _ => by simp [zipD]
  | _ :: _, [] => by simp [zipD]
  | x :: ds, y :: es => by
    simp only [zipD, List.length_cons, zipD_len ds es]
    omega
theorem walk_zipL (hB : SqL K B a xs) (h : DrAll w K F xs ds) (hB' : SqL K B b ys) (h' : DrAll w K F ys es) : WalkOk true w K F B (Itz K a b) (zipD ds es) := by
  intro H F' e1 e2 e3
  have hH := Same.sqL e3 hB
  have hH' := Same.sqL e3 hB'
  refine ⟨⟨xs, ys, hH, hH', ?_⟩, fun i d hd => ?_⟩
  · rw [zipD_len, ← h.1, ← h'.1]
    omega
  obtain ⟨e, e', he, he', rfl⟩ := zipD_get _ _ _ _ hd
  obtain ⟨v, hv, hr⟩ := h.get he
  obtain ⟨v', hv', hr'⟩ := h'.get he'
  refine ⟨⟨xs, ys, v, v', hH, hH', hv, hv'⟩, fun x H' hy => ?_⟩
  obtain ⟨T, y, y', rfl, hT, rfl, hy, hy'⟩ := hy
  have := hy xs hH
  rw [hv] at this
  cases this
  have := hy' ys hH'
  rw [hv'] at this
  cases this
  exact pair_new e2 hT (hr.mono e1) (hr'.mono e1)
theorem walk_zipT (hB : SqT K B a xs) (h : DrAll w K F xs ds) (hB' : SqT K B b ys) (h' : DrAll w K F ys es) : WalkOk true w K F B (RZ.ItzT K a b) (zipD ds es) := by
  intro H F' e1 e2 e3
  have hH := Same.sqT e3 hB
  have hH' := Same.sqT e3 hB'
  refine ⟨⟨xs, ys, hH, hH', ?_⟩, fun i d hd => ?_⟩
  · rw [zipD_len, ← h.1, ← h'.1]
    omega
  obtain ⟨e, e', he, he', rfl⟩ := zipD_get _ _ _ _ hd
  obtain ⟨v, hv, hr⟩ := h.get he
  obtain ⟨v', hv', hr'⟩ := h'.get he'
  refine ⟨⟨xs, ys, v, v', hH, hH', hv, hv'⟩, fun x H' hy => ?_⟩
  obtain ⟨T, y, y', rfl, hT, rfl, hy, hy'⟩ := hy
  have := hy xs hH
  rw [hv] at this
  cases this
  have := hy' ys hH'
  rw [hv'] at this
  cases this
  exact pair_new e2 hT (hr.mono e1) (hr'.mono e1)
end
end KD
/-! KdSnd: whatever the evaluator gives, the model gives. -/
namespace KD
open PySem PySem.Spec
open PyProof.Rows L2
/-! ### the state -/
/-- H0, F0: the heap and its frozen part at the def's entry -/
structure Good (P : Program) (w : World) (K : PySem.W.Frag) (H0 F0 : Hp) (σ : L2.St) (H F : Hp) (ρ : Env) : Prop where
  fh : Same F H
  h0 : Same H0 H
  ff : Same F0 F
  f0 : ∀ b, H0 b ≠ none → F b = F0 b
  len : ρ.length = σ.length
  val : ∀ (i : Nat) (d : D), ρ[i]? = some (some (.val d)) → ∃ v, σ[i]? = some (some v) ∧ Dr w K F v d
  own : ∀ (i : Nat) (d : D), ρ[i]? = some (some (.own d)) → ∃ l o, σ[i]? = some (some (.ref l)) ∧ F l = none ∧ H0 l = none ∧ H l = some o ∧ Cont w K F l o d
  dis : ∀ (i j : Nat) (d e : D) (l : Addr), ρ[i]? = some (some (.own d)) → ρ[j]? = some (some (.own e)) → σ[i]? = some (some (.ref l)) → σ[j]? = some (some (.ref l)) → i = j
section
variable {P : Program} {w : World} {K : PySem.W.Frag} {H0 F0 H F H' F' : Hp} {σ : L2.St} {ρ : Env}
theorem Good.ext (g : Good P w K H0 F0 σ H F ρ) (e : Ext F H F' H') : Good P w K H0 F0 σ H' F' ρ := by
  have hne : ∀ b, H0 b ≠ none → H b ≠ none := fun b hb => by
    cases q : H0 b with
    | none => exact absurd q hb
    | some o => rw [g.h0 b o q]; simp
  refine ⟨e.fh, g.h0.trans e.h, g.ff.trans e.f, fun b hb => ?_, g.len, fun i d h => ?_, fun i d h => ?_, g.dis⟩
  · rw [e.new b (hne b hb), g.f0 b hb]
  · obtain ⟨v, h1, h2⟩ := g.val i d h
    exact ⟨v, h1, h2.mono e.f⟩
  · obtain ⟨l, o, h1, h2, h3, h4, h5⟩ := g.own i d h
    exact ⟨l, o, h1, by rw [e.new l (by rw [h4]; simp), h2], h3, e.h _ _ h4, h5.mono e.f⟩
/-- what a def's end owes its caller -/
theorem Good.out (g : Good P w K H0 F0 σ H F ρ) (e : Ext F H F' H') : Ext F0 H0 F' H' := by
  have g' := g.ext e
  exact ⟨g'.ff, g'.h0, g'.fh, g'.f0⟩
/-- forgetting slots -/
theorem set_none_get {α : Type} {l : List (Option α)} {i j : Nat} {x : α} (h : (l.set j none)[i]? = some (some x)) : l[i]? = some (some x) ∧ i ≠ j := by
  by_cases e : j = i
  · subst e
    by_cases hl : j < l.length
    · rw [List.getElem?_set_self hl] at h
      cases h
    · rw [List.getElem?_eq_none (by rw [List.length_set]; omega)] at h
      cases h
  · rw [List.getElem?_set_ne e] at h
    exact ⟨h, fun q => e q.symm⟩
theorem wipeE_len (ρ : Env) : ∀ is : List Nat, (wipeE ρ is).length = ρ.length
  | [] => rfl
  | i :: is => by rw [wipeE, List.length_set, wipeE_len ρ is]
theorem wipeE_get {i : Nat} {x : Sl} : ∀ {is : List Nat}, (wipeE ρ is)[i]? = some (some x) → ρ[i]? = some (some x) ∧ i ∉ is
  | [], h => ⟨h, by simp⟩
  | j :: is, h => by
    rw [wipeE] at h
    obtain ⟨h1, h2⟩ := set_none_get h
    obtain ⟨h3, h4⟩ := wipeE_get h1
    exact ⟨h3, by simp [h2, h4]⟩
theorem Good.wip (g : Good P w K H0 F0 σ H F ρ) (is : List Nat) : Good P w K H0 F0 σ H F (wipeE ρ is) :=
  ⟨g.fh, g.h0, g.ff, g.f0, by rw [wipeE_len, g.len], fun i d h => g.val i d (wipeE_get h).1, fun i d h => g.own i d (wipeE_get h).1, fun i j d e l h1 h2 => g.dis i j d e l (wipeE_get h1).1 (wipeE_get h2).1⟩
theorem wipe_keep {is : List Nat} {i : Nat} (h : i ∉ is) : (L2.wipe σ is)[i]? = σ[i]? := by
  induction is with
  | nil => rfl
  | cons j is ih =>
    rw [List.mem_cons, not_or] at h
    rw [L2.wipe, List.getElem?_set_ne (Ne.symm h.1), ih h.2]
/-- the slots of a comprehension's own names are forgotten on both sides -/
theorem Good.blk (g : Good P w K H0 F0 σ H F ρ) (is : List Nat) : Good P w K H0 F0 (L2.wipe σ is) H F (wipeE ρ is) := by
  refine ⟨g.fh, g.h0, g.ff, g.f0, by rw [wipeE_len, L2.wipe_length, g.len], fun i d h => ?_, fun i d h => ?_, fun i j d e l h1 h2 h3 h4 => ?_⟩
  · obtain ⟨h1, h2⟩ := wipeE_get h
    obtain ⟨v, h3, h4⟩ := g.val i d h1
    exact ⟨v, by rw [wipe_keep h2]; exact h3, h4⟩
  · obtain ⟨h1, h2⟩ := wipeE_get h
    obtain ⟨l, o, h3, h4⟩ := g.own i d h1
    exact ⟨l, o, by rw [wipe_keep h2]; exact h3, h4⟩
  · obtain ⟨k1, k2⟩ := wipeE_get h1
    obtain ⟨k3, k4⟩ := wipeE_get h2
    rw [wipe_keep k2] at h3
    rw [wipe_keep k4] at h4
    exact g.dis i j d e l k1 k3 h3 h4
/-- a name gets a value that stands -/
theorem Good.set (g : Good P w K H0 F0 σ H F ρ) {i : Nat} {v : V} {d : D} (h : Dr w K F v d) : Good P w K H0 F0 (σ.set i (some v)) H F (ρ.set i (some (.val d))) := by
  refine ⟨g.fh, g.h0, g.ff, g.f0, by rw [List.length_set, List.length_set, g.len], fun j e hj => ?_, fun j e hj => ?_, fun j k e f l h1 h2 h3 h4 => ?_⟩
  · by_cases q : i = j
    · subst q
      by_cases hl : i < ρ.length
      · rw [List.getElem?_set_self hl] at hj
        cases hj
        exact ⟨v, List.getElem?_set_self (by rw [← g.len]; exact hl), h⟩
      · rw [List.getElem?_eq_none (by rw [List.length_set]; omega)] at hj
        cases hj
    · rw [List.getElem?_set_ne q] at hj ⊢
      exact g.val j e hj
  · by_cases q : i = j
    · subst q
      by_cases hl : i < ρ.length
      · rw [List.getElem?_set_self hl] at hj
        cases hj
      · rw [List.getElem?_eq_none (by rw [List.length_set]; omega)] at hj
        cases hj
    · rw [List.getElem?_set_ne q] at hj ⊢
      exact g.own j e hj
  · have ne : ∀ {j : Nat} {e : D}, (ρ.set i (some (.val d)))[j]? = some (some (.own e)) → i ≠ j ∧ ρ[j]? = some (some (.own e)) := fun {j e} hj => by
      by_cases q : i = j
      · subst q
        by_cases hl : i < ρ.length
        · rw [List.getElem?_set_self hl] at hj
          cases hj
        · rw [List.getElem?_eq_none (by rw [List.length_set]; omega)] at hj
          cases hj
      · rw [List.getElem?_set_ne q] at hj
        exact ⟨q, hj⟩
    obtain ⟨n1, k1⟩ := ne h1
    obtain ⟨n2, k2⟩ := ne h2
    rw [List.getElem?_set_ne n1] at h3
    rw [List.getElem?_set_ne n2] at h4
    exact g.dis j k e f l k1 k2 h3 h4
/-- a name gets an object that only it holds -/
theorem Good.setOwn (g : Good P w K H0 F0 σ H F ρ) {i : Nat} {l : Addr} {o : HO} {d : D} (hl : H l = some o) (hF : F l = none) (h00 : H0 l = none) (h : Cont w K F l o d)
    (ho : ∀ (j : Nat) (e : D), j ≠ i → ρ[j]? = some (some (.own e)) → σ[j]? ≠ some (some (.ref l))) : Good P w K H0 F0 (σ.set i (some (.ref l))) H F (ρ.set i (some (.own d))) := by
  refine ⟨g.fh, g.h0, g.ff, g.f0, by rw [List.length_set, List.length_set, g.len], fun j e hj => ?_, fun j e hj => ?_, fun j k e f m h1 h2 h3 h4 => ?_⟩
  · by_cases q : i = j
    · subst q
      by_cases hl : i < ρ.length
      · rw [List.getElem?_set_self hl] at hj
        cases hj
      · rw [List.getElem?_eq_none (by rw [List.length_set]; omega)] at hj
        cases hj
    · rw [List.getElem?_set_ne q] at hj ⊢
      exact g.val j e hj
  · by_cases q : i = j
    · subst q
      by_cases hl2 : i < ρ.length
      · rw [List.getElem?_set_self hl2] at hj
        cases hj
        exact ⟨l, o, List.getElem?_set_self (by rw [← g.len]; exact hl2), hF, h00, hl, h⟩
      · rw [List.getElem?_eq_none (by rw [List.length_set]; omega)] at hj
        cases hj
    · rw [List.getElem?_set_ne q] at hj ⊢
      exact g.own j e hj
  · by_cases q1 : i = j
    · subst q1
      by_cases q2 : i = k
      · exact q2
      · have hi : i < σ.length := by
          rw [← g.len]
          have := (List.getElem?_eq_some_iff.mp h1).1
          rwa [List.length_set] at this
        rw [List.getElem?_set_self hi] at h3
        cases h3
        rw [List.getElem?_set_ne q2] at h2 h4
        exact absurd h4 (ho k f (Ne.symm q2) h2)
    · by_cases q2 : i = k
      · subst q2
        have hi : i < σ.length := by
          rw [← g.len]
          have := (List.getElem?_eq_some_iff.mp h2).1
          rwa [List.length_set] at this
        rw [List.getElem?_set_self hi] at h4
        cases h4
        rw [List.getElem?_set_ne q1] at h1 h3
        exact absurd h3 (ho j e (Ne.symm q1) h1)
      · rw [List.getElem?_set_ne q1] at h1 h3
        rw [List.getElem?_set_ne q2] at h2 h4
        exact g.dis j k e f m h1 h2 h3 h4
/-- the object that a name holds alone is changed -/
theorem Good.write (g : Good P w K H0 F0 σ H F ρ) {i : Nat} {l : Addr} {o : HO} {d d' : D} (hi : ρ[i]? = some (some (.own d))) (hσ : σ[i]? = some (some (.ref l))) (h : Cont w K F l o d') : Good P w K H0 F0 σ (upd H l o) F (ρ.set i (some (.own d'))) := by
  obtain ⟨l', o', k1, k2, k3, k4, k5⟩ := g.own i d hi
  rw [hσ] at k1
  cases k1
  have hil : i < ρ.length := (List.getElem?_eq_some_iff.mp hi).1
  refine ⟨fun b x hb => ?_, fun b x hb => ?_, g.ff, g.f0, by rw [List.length_set, g.len], fun j e hj => ?_, fun j e hj => ?_, fun j k e f m h1 h2 h3 h4 => ?_⟩
  · rw [upd_ne (ne_of_none hb k2)]
    exact g.fh b x hb
  · rw [upd_ne (ne_of_none hb k3)]
    exact g.h0 b x hb
  · by_cases q : i = j
    · subst q
      rw [List.getElem?_set_self hil] at hj
      cases hj
    · rw [List.getElem?_set_ne q] at hj
      exact g.val j e hj
  · by_cases q : i = j
    · subst q
      rw [List.getElem?_set_self hil] at hj
      cases hj
      exact ⟨l, o, hσ, k2, k3, upd_same, h⟩
    · rw [List.getElem?_set_ne q] at hj
      obtain ⟨m, om, m1, m2, m3, m4, m5⟩ := g.own j e hj
      refine ⟨m, om, m1, m2, m3, ?_, m5⟩
      rw [upd_ne]
      · exact m4
      · rintro rfl
        exact q (g.dis i j d e m hi hj hσ m1)
  · have back : ∀ {j : Nat} {e : D}, (ρ.set i (some (.own d')))[j]? = some (some (.own e)) → ∃ e', ρ[j]? = some (some (.own e')) := fun {j e} hj => by
      by_cases q : i = j
      · subst q
        exact ⟨d, hi⟩
      · rw [List.getElem?_set_ne q] at hj
        exact ⟨e, hj⟩
    obtain ⟨e', h1'⟩ := back h1
    obtain ⟨f', h2'⟩ := back h2
    exact g.dis j k e' f' m h1' h2' h3 h4
/-- an object of a name's own stands from now on -/
theorem Good.freeze (g : Good P w K H0 F0 σ H F ρ) {i : Nat} {d : D} (hi : ρ[i]? = some (some (.own d))) : ∃ F', Same F F' ∧ Good P w K H0 F0 σ H F' (ρ.set i (some (.val d))) := by
  obtain ⟨l, o, k1, k2, k3, k4, k5⟩ := g.own i d hi
  have hil : i < ρ.length := (List.getElem?_eq_some_iff.mp hi).1
  have sm : Same F (upd F l o) := same_new k2
  refine ⟨upd F l o, sm, fun b x hb => ?_, g.h0, g.ff.trans sm, fun b hb => ?_, by rw [List.length_set, g.len], fun j e hj => ?_, fun j e hj => ?_, fun j k e f m h1 h2 h3 h4 => ?_⟩
  · by_cases q : b = l
    · subst q
      rw [upd_same] at hb
      cases hb
      exact k4
    · rw [upd_ne q] at hb
      exact g.fh b x hb
  · rw [upd_ne]
    · exact g.f0 b hb
    · rintro rfl
      exact hb k3
  · by_cases q : i = j
    · subst q
      rw [List.getElem?_set_self hil] at hj
      cases hj
      exact ⟨_, k1, (k5.mono sm).dr upd_same⟩
    · rw [List.getElem?_set_ne q] at hj
      obtain ⟨v, h1, h2⟩ := g.val j e hj
      exact ⟨v, h1, h2.mono sm⟩
  · by_cases q : i = j
    · subst q
      rw [List.getElem?_set_self hil] at hj
      cases hj
    · rw [List.getElem?_set_ne q] at hj
      obtain ⟨m, om, m1, m2, m3, m4, m5⟩ := g.own j e hj
      refine ⟨m, om, m1, ?_, m3, m4, m5.mono sm⟩
      rw [upd_ne]
      · exact m2
      · rintro rfl
        exact q (g.dis i j d e m hi hj k1 m1)
  · have back : ∀ {j : Nat} {e : D}, (ρ.set i (some (.val d)))[j]? = some (some (.own e)) → ρ[j]? = some (some (.own e)) := fun {j e} hj => by
      by_cases q : i = j
      · subst q
        rw [List.getElem?_set_self hil] at hj
        cases hj
      · rw [List.getElem?_set_ne q] at hj
        exact hj
    exact g.dis j k e f m (back h1) (back h2) h3 h4
end
/-! ### the readings -/
section
variable (P : Program) (w : World) (K : PySem.W.Frag) (call : Nat → List D → R D)
/-- an expression's datum, from any good state -/
def tE (b : Bool) (ex : Ex) : TE := fun σ H Q => ∃ H0 F0 F ρ d, Good P w K H0 F0 σ H F ρ ∧ ev call ρ b ex = .ok d ∧ ∀ v F' H', Ext F H F' H' → Vr w K b F' H' v d → Q v H'
/-- .. one that stands -/
def tD (ex : Ex) : TE := fun σ H Q => ∃ H0 F0 F ρ b d, Good P w K H0 F0 σ H F ρ ∧ ev call ρ b ex = .ok d ∧ ∀ v F' H', Ext F H F' H' → Dr w K F' v d → Q v H'
def tT (ex : Ex) : TT := fun σ H Q => ∃ H0 F0 F ρ b, Good P w K H0 F0 σ H F ρ ∧ ev call ρ true ex = .ok (.bool b) ∧ ∀ F' H', Ext F H F' H' → Q b H'
def tEs (b : Bool) (es : List Ex) : TA := fun σ H Q => ∃ H0 F0 F ρ ds, Good P w K H0 F0 σ H F ρ ∧ evs call ρ b es = .ok ds ∧ ∀ vs F' H', Ext F H F' H' → vs.length = ds.length →
  (∀ (i : Nat) (v : V) (d : D), vs[i]? = some v → ds[i]? = some d → Vr w K b F' H' v d) → Q vs H'
/-- what is walked -/
def tW (b : Bool) (k : IK) (its : List Ex) : TI := fun σ H R => ∃ H0 F0 F ρ ds xs, Good P w K H0 F0 σ H F ρ ∧ evs call ρ b its = .ok ds ∧ walkD k ds = .ok xs ∧
  ∀ J F' H', Ext F H F' H' → xs.length ≤ sizeLine → WalkOk k.pairs w K F' (if b = true then H' else F') J xs → R J H'
def tG (t : Tg) : TG := fun v σ H Q => ∃ H0 F0 F ρ d ρ', Good P w K H0 F0 σ H F ρ ∧ Itm t.isT w K F H v d ∧ asgT ρ t d = .ok ρ' ∧ ∀ σ', Good P w K H0 F0 σ' H F ρ' → (∀ i, i ∉ t.names → σ'[i]? = σ[i]?) → σ'.length = σ.length → Q σ' H
def tGs (ts : List Tg) : TGs := fun vs σ H Q => ∃ H0 F0 F ρ ds ρ', Good P w K H0 F0 σ H F ρ ∧ DrAll w K F vs ds ∧ asgTs ρ ts ds = .ok ρ' ∧ ∀ σ', Good P w K H0 F0 σ' H F ρ' → (∀ i, i ∉ Tg.namesAll ts → σ'[i]? = σ[i]?) → σ'.length = σ.length → Q σ' H
/-- a statement's end, from where F is frozen -/
def EndS (H0 F0 F : Hp) (D : Ends) : R Flow → Prop
  | .ok (.nx ρ') => ∀ σ' H' F', Good P w K H0 F0 σ' H' F' ρ' → Same F F' → D.nx σ' H'
  | .ok (.br ρ') => ∀ σ' H' F', Good P w K H0 F0 σ' H' F' ρ' → Same F F' → D.bk σ' H'
  | .ok (.cn ρ') => ∀ σ' H' F', Good P w K H0 F0 σ' H' F' ρ' → Same F F' → D.ct σ' H'
  | .ok (.rt d) => ∀ v H' F', Ext F0 H0 F' H' → Dr w K F' v d → D.rt v H'
  | .err _ => False
  | .bot => False
def tS (wf : Nat) (H0 F0 : Hp) (s : Stm) : TS := fun D σ H => ∃ F ρ, Good P w K H0 F0 σ H F ρ ∧ EndS P w K H0 F0 F D (exS call wf ρ s)
def tSs (wf : Nat) (H0 F0 : Hp) (s : List Stm) : TS := fun D σ H => ∃ F ρ, Good P w K H0 F0 σ H F ρ ∧ EndS P w K H0 F0 F D (exs call wf ρ s)
/-- a def's promise -/
def spF (E : Nat → Nat → List D → R D) (n f : Nat) : Sp := fun vs H Q _ => ∃ F ds d, Same F H ∧ DrAll w K F vs ds ∧ E n f ds = .ok d ∧ ∀ v F' H', Ext F H F' H' → Dr w K F' v d → Q v H'
end
end KD
/-! KdChk: a def of the text held against the small language. -/
namespace KD
open PySem PySem.Spec
open PyProof.Rows L2
structure Tb where
  P : Nat → Option Fn
  wf : Nat
  nm : Nat → Option Str
  cs : List (Str × D)
def bltNames : List Str := ["len", "tuple", "list", "dict", "sorted", "set", "sum", "max", "min", "all", "any", "int", "str", "isinstance", "range", "enumerate", "zip", "bool"]
/-- no star, no slice, no display of a set -/
def nst : Expr → Bool
  | .Starred _ _ => false
  | .Set _ _ _ => false
  | .Slice _ _ _ _ => false
  | _ => true
/-- its truth is that of its value -/
def plainT : Expr → Bool
  | .UnaryOp .Not _ _ => false
  | .BoolOp _ _ _ => false
  | .IfExp _ _ _ _ => false
  | .Compare _ _ _ _ => false
  | _ => true
/-- no a if c else b -/
def tst : Expr → Bool
  | .IfExp _ _ _ _ => false
  | _ => true
def visB (sc : Scope) (x : Str) : Bool := decide (sc.names.lookup x = some .local) || decide (sc.names.lookup x = some .cell) || decide (sc.names.lookup x = some .free)
def glB (sc : Scope) (x : Str) : Bool := decide (sc.names.lookup x = some .globalImplicit)
def noDbg (x : Str) : Bool := !(x == ("__debug__" : Str)) && !(x == ("__classdict__" : Str))
def constB : Const → D → Bool
  | .none, .none => true
  | .bool a, .bool b => a == b
  | .int a, .int b => decide (a = b)
  | .str a, .str b => decide (a = b) && PyData.strOk b
  | _, _ => false
def isYes : Ex → Bool
  | .cst (.bool true) => true
  | _ => false
def isAbs : Ex → Bool
  | .cst .none => true
  | _ => false
mutual
/-- the same datum (no dicts) -/
def sameD : D → D → Bool
  | .none, .none => true
  | .bool a, .bool b => a == b
  | .int a, .int b => decide (a = b)
  | .str a, .str b => decide (a = b)
  | .tuple a, .tuple b => samesD a b
  | _, _ => false
def samesD : List D → List D → Bool
  | [], [] => true
  | a :: r, b :: t => sameD a b && samesD r t
  | _, _ => false
end
mutual
theorem sameD_eq : ∀ {a b : D}, sameD a b = true → a = b
  | a, b, h => by
    unfold sameD at h
    split at h
    · rfl
    · rw [beq_iff_eq.mp h]
    · rw [of_decide_eq_true h]
    · rw [of_decide_eq_true h]
    · rw [samesD_eq h]
    · cases h
theorem samesD_eq : ∀ {a b : List D}, samesD a b = true → a = b
  | a, b, h => by
    unfold samesD at h
    split at h
    · rfl
    · rw [Bool.and_eq_true] at h
      rw [sameD_eq h.1, samesD_eq h.2]
    · cases h
end
/-- names and values of a module's own constants -/
def csB (l : List (Str × D)) (x : Str) (d : D) : Bool := l.any fun p => decide (p.1 = x) && sameD p.2 d
theorem csB_mem {l : List (Str × D)} {x : Str} {d : D} (h : csB l x d = true) : (x, d) ∈ l := by
  unfold csB at h
  rw [List.any_eq_true] at h
  obtain ⟨p, hp, h⟩ := h
  rw [Bool.and_eq_true, decide_eq_true_eq] at h
  rw [← h.1, ← sameD_eq h.2]
  exact hp
def ownOf (N : List Str) (is : List Nat) : Option (List (Str × Nat)) := is.mapM fun i => (N[i]?).map fun x => (x, i)
mutual
def tgB (N : List Str) (sc : Scope) (fnp : Str → Bool) : Expr → Tg → Bool
  | .Name x _, .name i => decide (N[i]? = some x) && (decide (sc.names.lookup x = some .local) || (decide (sc.names.lookup x = some .cell) && fnp x))
  | .Tuple es _ _, .tup ts => tgsB N sc fnp es ts
  | _, _ => false
def tgsB (N : List Str) (sc : Scope) (fnp : Str → Bool) : List Expr → List Tg → Bool
  | [], [] => true
  | e :: es, t :: ts => tgB N sc fnp e t && tgsB N sc fnp es ts
  | _, _ => false
end
def isTup : Expr → Bool
  | .Tuple _ _ _ => true
  | _ => false
/-- the builtins whose call is f(e, ..) -/
def bltName : Blt → Option (Str × Bool)
  | .len => some ("len", false)
  | .tuple => some ("tuple", true)
  | .sum => some ("sum", false)
  | .maxL => some ("max", false)
  | .minL => some ("min", false)
  | .max2 => some ("max", false)
  | .min2 => some ("min", false)
  | .all => some ("all", false)
  | .any => some ("any", false)
  | .int => some ("int", true)
  | .str => some ("str", true)
  | .list => some ("list", true)
  | .sorted => some ("sorted", false)
  | _ => none
def mthName : Mth → Str
  | .join => "join"
  | .split => "split"
  | .startswith => "startswith"
  | .ljust => "ljust"
  | .rstrip => "rstrip"
  | .upper => "upper"
  | .get => "get"
  | .count => "count"
  | .index => "index"
/-- methods of one argument of texts -/
def str1 : Mth → Bool
  | .join | .split | .startswith | .ljust | .rstrip => true
  | _ => false
/-- no super() -/
def nosup : Expr → Bool
  | .Call (.Name _ _) [] [] _ => false
  | _ => true
def isaName : Blt → Option Str
  | .isStr => some "str"
  | .isTuple => some "tuple"
  | .isBool => some "bool"
  | .isInt => some "int"
  | _ => none
section
variable (T : Tb) (N : List Str)
mutual
def chkE (sc : Scope) : Expr → Ex → Bool
  | .Constant c _ _, .cst d => constB c d
  | .Name y _, .glob x d => decide (x = y) && glB sc x && csB T.cs x d && noDbg x
  | .Name x _, .var i => decide (N[i]? = some x) && visB sc x && noDbg x
  | .Tuple l _ _, .tup es => chkEs sc l es
  | .List l _, .lst es => chkEs sc l es
  | .BinOp x o y _, .bin op a b => decide (o = opOf op) && chkE sc x a && chkE sc y b
  | .UnaryOp .USub x _, .neg a => chkE sc x a
  | .Compare x [o] [y] _, .cmp op a b => decide (o = copOf op) && nst y && chkE sc x a && chkE sc y b
  | .Compare x [o, o'] [y, z] _, .chain op op' a b c => decide (o = copOf op) && decide (o' = copOf op') && nst z && chkE sc x a && chkE sc y b && chkE sc z c
  | .BoolOp .And [v, w] _, .band a b => tst v && tst w && chkE sc v a && chkE sc w b
  | .BoolOp .And (v :: w :: u :: rest) pos, .band a b => tst v && chkE sc v a && chkE sc (.BoolOp .And (w :: u :: rest) pos) b
  | .BoolOp .Or [v, w] _, .bor a b => tst v && tst w && chkE sc v a && chkE sc w b
  | .BoolOp .Or (v :: w :: u :: rest) pos, .bor a b => tst v && chkE sc v a && chkE sc (.BoolOp .Or (w :: u :: rest) pos) b
  | .UnaryOp .Not x _, .bnot a => tst x && chkE sc x a
  | .IfExp c x y _, .ife c' a b => tst c && chkE sc c c' && chkE sc x a && chkE sc y b
  | .Subscript x (.Slice lo hi none _) _, .slc a l h => chkE sc x a && (match lo with
    | none => isAbs l
    | some e => !isAbs l && chkE sc e l) && (match hi with
    | none => isAbs h
    | some e => !isAbs h && chkE sc e h)
  | .Subscript x (.Slice lo none (some st) _) _, .stp a l s => nst st && chkE sc x a && chkE sc st s && (match lo with
    | none => isAbs l
    | some e => chkE sc e l)
  | .Subscript x s _, .ix a i => nst s && chkE sc x a && chkE sc s i
  | .Call (.Name x _) args [] _, .call f es => decide (T.nm f = some x) && glB sc x && noDbg x && !args.isEmpty && chkEs sc args es
  | .Dict keys vals _, .dct ks vs => decide (keys.length = vals.length) && chkKs sc keys ks && chkEs sc vals vs
  | .Call (.Name x _) [.Call (.Name y _) [e] [] _] [] _, .blt .sortedSet [a] => decide (x = "sorted") && decide (y = "set") && glB sc x && glB sc y && nst e && chkE sc e a
  | .Call (.Name x _) [.Call (.Name y _) [e] [] _] [] _, .blt .lenSet [a] => decide (x = "len") && decide (y = "set") && glB sc x && glB sc y && nst e && chkE sc e a
  | .Call (.Name x _) [.Call (.Name y _) [e] [] _] [] _, .blt .tupRange [a] => decide (x = "tuple") && decide (y = "range") && glB sc x && glB sc y && nst e && chkE sc e a
  | .Call (.Name x _) [.Call (.Attribute e name apos) [] [] cpos] [] _, .blt .itemsSorted [a] => decide (x = "sorted") && decide (name = "items") && (apos.endLine == cpos.line) && glB sc x && nosup e && chkE sc e a
  | .Call (.Name x _) [.Call (.Attribute e name apos) [] [] cpos] [] _, .blt .values [a] => decide (x = "list") && decide (name = "values") && (apos.endLine == cpos.line) && glB sc x && nosup e && chkE sc e a
  | .Call (.Name x _) [e] [] _, .blt .dict [a] => decide (x = "dict") && glB sc x && nst e && chkE sc e a
  | .Call (.Attribute x name apos) [e, f] [] cpos, .mth .get a [b, c] => decide (name = "get") && (apos.endLine == cpos.line) && nosup x && nst e && nst f && chkE sc x a && chkE sc e b && chkE sc f c
  | .Call (.Name x _) [e, .Name y _] [] _, .blt b [a] => decide (x = "isinstance") && decide (isaName b = some y) && glB sc x && glB sc y && nst e && chkE sc e a
  | .Call (.Name x _) args [] _, .blt b es => (match bltName b with
    | some (y, _) => decide (x = y) && glB sc x && !args.isEmpty && chkEs sc args es
    | none => false)
  | .Call (.Attribute x name apos) [] [] cpos, .mth m a [] => decide (name = mthName m) && decide (m = .upper) && (apos.endLine == cpos.line) && nosup x && chkE sc x a
  | .Call (.Attribute x name apos) [e] [] cpos, .mth m a [b] => decide (name = mthName m) && str1 m && (apos.endLine == cpos.line) && nosup x && nst e && chkE sc x a && chkE sc e b
  | .ListComp elt [⟨tg, iter, ifs, asy⟩] scope _, .comp e t k its cond => (match ownOf N t.names with
    | some own => decide (asy = 0) && blkC N sc scope own && tgB N (relS scope sc) (fun x => scope.names.lookup x == some .cell) tg t && chkI sc tg iter k its && chkE (relS scope sc) elt e &&
      (match ifs with
        | [] => isYes cond
        | [c] => tst c && chkE (relS scope sc) c cond
        | _ => false)
    | none => false)
  | _, _ => false
def chkEs (sc : Scope) : List Expr → List Ex → Bool
  | [], [] => true
  | e :: l, x :: es => nst e && chkE sc e x && chkEs sc l es
  | _, _ => false
def chkKs (sc : Scope) : List (Option Expr) → List Ex → Bool
  | [], [] => true
  | some e :: l, x :: es => chkE sc e x && chkKs sc l es
  | _, _ => false
def chkI (sc : Scope) (tg : Expr) : Expr → IK → List Ex → Bool
  | e, .seq, [a] => nst e && chkE sc e a
  | .Call (.Attribute e name apos) [] [] cpos, .items, [a] => decide (name = "items") && (apos.endLine == cpos.line) && isTup tg && nosup e && chkE sc e a
  | .Call (.Name x _) [e] [] _, .range1, [a] => decide (x = "range") && glB sc x && nst e && chkE sc e a
  | .Call (.Name x _) [e, f] [] _, .range2, [a, b] => decide (x = "range") && glB sc x && nst e && nst f && chkE sc e a && chkE sc f b
  | .Call (.Name x _) [e] [] _, .enum, [a] => decide (x = "enumerate") && glB sc x && isTup tg && nst e && chkE sc e a
  | .Call (.Name x _) [e, f] [] _, .zip, [a, b] => decide (x = "zip") && glB sc x && isTup tg && nst e && nst f && chkE sc e a && chkE sc f b
  | _, _, _ => false
end
end
end KD
/-! KdExp: expressions. -/
namespace KD
open PySem PySem.Spec
open PyProof.Rows L2
structure XOk (T : Tb) (n : Nat) (X : Cx) : Prop where
  calm : X.calm = true
  room : Room n X.A
  nd : X.N.Nodup
  bl : ∀ x ∈ bltNames, X.mg x = none
  gl : ∀ p ∈ T.cs, ∃ v u, X.mg p.1 = some u ∧ RelV v u ∧ Dr X.w X.K (fun _ => none) v p.2
  fn : ∀ f x, T.nm f = some x → ∃ fn a fd ps, T.P f = some fn ∧ ps.length = fn.np ∧ X.mg x = some (.ref a) ∧ PySem.W.keepIn X.K (.ref a) = true ∧ Binds X.K fd ps [] ∧
    FnOk X.prog X.w X.K X.mg X.base CX0 n a fd ps (spF X.w X.K (evFn T.P T.wf) n f)
theorem XOk.big {T : Tb} {n : Nat} {X : Cx} (h : XOk T n X) : Big X := by
  have := h.room.un
  show X.A.units + 100 < cLine
  omega
theorem XOk.blk {T : Tb} {n : Nat} {X : Cx} (h : XOk T n X) {s : Shared} {H : Hp} {scope : Scope} {env : PySem.Env} {fp : List Addr} : XOk T n (X.blk s H scope env fp) :=
  ⟨h.calm, h.room, h.nd, h.bl, h.gl, h.fn⟩
/-- the readings at a context -/
abbrev XE (T : Tb) (n : Nat) (X : Cx) (b : Bool) (ex : Ex) : TE := tE X.prog X.w X.K (evFn T.P T.wf n) b ex
abbrev XD (T : Tb) (n : Nat) (X : Cx) (ex : Ex) : TE := tD X.prog X.w X.K (evFn T.P T.wf n) ex
abbrev XT (T : Tb) (n : Nat) (X : Cx) (ex : Ex) : TT := tT X.prog X.w X.K (evFn T.P T.wf n) ex
abbrev XEs (T : Tb) (n : Nat) (X : Cx) (b : Bool) (es : List Ex) : TA := tEs X.prog X.w X.K (evFn T.P T.wf n) b es
abbrev XW (T : Tb) (n : Nat) (X : Cx) (b : Bool) (k : IK) (its : List Ex) : TI := tW X.prog X.w X.K (evFn T.P T.wf n) b k its
section
variable {T : Tb} {n : Nat} {X : Cx} {e x y z : Expr} {ex a b c : Ex} {pos : Pos}
theorem both (h : PE X e (XD T n X ex)) (m : Bool) : PE X e (XE T n X m ex) := h.weak fun σ H Q ⟨H0, F0, F, ρ, d, g, hd, q⟩ =>
  ⟨H0, F0, F, ρ, m, d, g, hd, fun v F' H' e r => q v F' H' e (Vr.of r)⟩
theorem pt_plain (hp : plainT e = true) (h : PE X e (XE T n X true ex)) : PT X e (XT T n X ex) := by
  refine (pt_val h ?_).weak fun σ H Q ⟨H0, F0, F, ρ, d, g, hd, q⟩ => ⟨H0, F0, F, ρ, _, g, hd, fun v F' H' e r => ⟨d, r.br.bool_inv, q F' H' e⟩⟩
  intro whole
  cases e with
  | UnaryOp op _ _ => cases op <;> first | rfl | cases hp
  | BoolOp _ _ _ => cases hp
  | IfExp _ _ _ _ => cases hp
  | Compare _ _ _ _ => cases hp
  | _ => rfl
theorem snd_bin {op : BOp} (ha : PE X x (XE T n X true a)) (hb : PE X y (XE T n X true b)) : PE X (.BinOp x (opOf op) y pos) (XD T n X (.bin op a b)) :=
  (pe_op (opD_bin op) ha hb).weak fun σ H Q ⟨H0, F0, F, ρ, m, d, g, h, q⟩ => by
    simp only [ev] at h
    obtain ⟨dx, hx, h⟩ := R.bind_eq h
    obtain ⟨dy, hy, h⟩ := R.bind_eq h
    exact ⟨H0, F0, F, ρ, dx, g, hx, fun v F1 H1 e1 r1 => ⟨H0, F0, F1, ρ, dy, g.ext e1, hy, fun u F2 H2 e2 r2 =>
      ⟨F2, dx, dy, d, e2.fh, r1.br.mono e2, r2.br, h, fun v' F' H' e' r' => q v' F' H' ((e1.trans e2).trans e') r'⟩⟩⟩
theorem snd_neg (ha : PE X x (XE T n X true a)) : PE X (.UnaryOp .USub x pos) (XD T n X (.neg a)) :=
  (pe_un unD_neg ha).weak fun σ H Q ⟨H0, F0, F, ρ, m, d, g, h, q⟩ => by
    simp only [ev] at h
    obtain ⟨dx, hx, h⟩ := R.bind_eq h
    exact ⟨H0, F0, F, ρ, dx, g, hx, fun v F1 H1 e1 r1 => ⟨F1, dx, d, e1.fh, r1.br, h, fun v' F' H' e' r' => q v' F' H' (e1.trans e') r'⟩⟩
theorem behind_nst {o : CmpOp} (h : nst y = true) : behindInMarks o y = false := by
  cases y <;> first | rfl | cases h
theorem snd_cmp (hX : XOk T n X) {op : COp} (hy : nst y = true) (ha : PE X x (XE T n X true a)) (hb : PE X y (XE T n X true b)) : PE X (.Compare x [copOf op] [y] pos) (XD T n X (.cmp op a b)) :=
  (pe_cmpR (opD_cmp hX.big op) ha hb (behind_nst hy)).weak fun σ H Q ⟨H0, F0, F, ρ, m, d, g, h, q⟩ => by
    simp only [ev] at h
    obtain ⟨dx, hx, h⟩ := R.bind_eq h
    obtain ⟨dy, hy, h⟩ := R.bind_eq h
    obtain ⟨r, hr, h⟩ := R.bind_eq h
    cases h
    exact ⟨H0, F0, F, ρ, dx, g, hx, fun v F1 H1 e1 r1 => ⟨H0, F0, F1, ρ, dy, g.ext e1, hy, fun u F2 H2 e2 r2 =>
      ⟨F2, dx, dy, r, e2.fh, r1.br.mono e2, r2.br, hr, q _ _ _ (e1.trans e2) (.bl r)⟩⟩⟩
theorem snd_cmpT (hX : XOk T n X) {op : COp} (hy : nst y = true) (ha : PE X x (XE T n X true a)) (hb : PE X y (XE T n X true b)) : PT X (.Compare x [copOf op] [y] pos) (XT T n X (.cmp op a b)) :=
  (pt_cmpR (opD_cmp hX.big op) ha hb (behind_nst hy)).weak fun σ H Q ⟨H0, F0, F, ρ, r', g, h, q⟩ => by
    simp only [ev] at h
    obtain ⟨dx, hx, h⟩ := R.bind_eq h
    obtain ⟨dy, hy, h⟩ := R.bind_eq h
    obtain ⟨r, hr, h⟩ := R.bind_eq h
    cases h
    exact ⟨H0, F0, F, ρ, dx, g, hx, fun v F1 H1 e1 r1 => ⟨H0, F0, F1, ρ, dy, g.ext e1, hy, fun u F2 H2 e2 r2 =>
      ⟨F2, dx, dy, _, e2.fh, r1.br.mono e2, r2.br, hr, _, rfl, q _ _ (e1.trans e2)⟩⟩⟩
theorem last_nst {o o' : CmpOp} (h : nst z = true) : lastMarks [o, o'] [y, z] = false := behind_nst (o := o') h
theorem snd_chain (hX : XOk T n X) {op op' : COp} (hz : nst z = true) (ha : PE X x (XE T n X true a)) (hb : PE X y (XE T n X true b)) (hc : PE X z (XE T n X true c)) :
    PE X (.Compare x [copOf op, copOf op'] [y, z] pos) (XD T n X (.chain op op' a b c)) :=
  (pe_chain (opD_cmp hX.big op) (opD_cmp hX.big op') ha hb hc (last_nst hz)).weak fun σ H Q ⟨H0, F0, F, ρ, m, d, g, h, q⟩ => by
    simp only [ev] at h
    obtain ⟨dx, hx, h⟩ := R.bind_eq h
    obtain ⟨dy, hy, h⟩ := R.bind_eq h
    obtain ⟨r, hr, h⟩ := R.bind_eq h
    refine ⟨H0, F0, F, ρ, dx, g, hx, fun v F1 H1 e1 r1 => ⟨H0, F0, F1, ρ, dy, g.ext e1, hy, fun u F2 H2 e2 r2 =>
      ⟨F2, dx, dy, r, e2.fh, r1.br.mono e2, r2.br, hr, r, rfl, ?_⟩⟩⟩
    cases r with
    | false =>
      cases h
      exact iteF (q _ _ _ (e1.trans e2) (.bl false))
    | true =>
      obtain ⟨dz, hz, h⟩ := R.bind_eq h
      obtain ⟨r', hr', h⟩ := R.bind_eq h
      cases h
      exact iteT ⟨H0, F0, F2, ρ, dz, (g.ext e1).ext e2, hz, fun t F3 H3 e3 r3 => ⟨F3, dy, dz, r', e3.fh, r2.br.mono e3, r3.br, hr', q _ _ _ ((e1.trans e2).trans e3) (.bl r')⟩⟩
theorem snd_chainT (hX : XOk T n X) {op op' : COp} (hz : nst z = true) (ha : PE X x (XE T n X true a)) (hb : PE X y (XE T n X true b)) (hc : PE X z (XE T n X true c)) :
    PT X (.Compare x [copOf op, copOf op'] [y, z] pos) (XT T n X (.chain op op' a b c)) :=
  (pt_chain (opD_cmp hX.big op) (opD_cmp hX.big op') ha hb hc (last_nst hz)).weak fun σ H Q ⟨H0, F0, F, ρ, d, g, h, q⟩ => by
    simp only [ev] at h
    obtain ⟨dx, hx, h⟩ := R.bind_eq h
    obtain ⟨dy, hy, h⟩ := R.bind_eq h
    obtain ⟨r, hr, h⟩ := R.bind_eq h
    refine ⟨H0, F0, F, ρ, dx, g, hx, fun v F1 H1 e1 r1 => ⟨H0, F0, F1, ρ, dy, g.ext e1, hy, fun u F2 H2 e2 r2 =>
      ⟨F2, dx, dy, r, e2.fh, r1.br.mono e2, r2.br, hr, r, rfl, ?_⟩⟩⟩
    cases r with
    | false =>
      cases h
      exact iteF ⟨_, rfl, q _ _ (e1.trans e2)⟩
    | true =>
      obtain ⟨dz, hz, h⟩ := R.bind_eq h
      obtain ⟨r', hr', h⟩ := R.bind_eq h
      cases h
      exact iteT ⟨H0, F0, F2, ρ, dz, (g.ext e1).ext e2, hz, fun t F3 H3 e3 r3 => ⟨F3, dy, dz, _, e3.fh, r2.br.mono e3, r3.br, hr', _, rfl, q _ _ ((e1.trans e2).trans e3)⟩⟩
theorem asB_ok {d : D} {r : Bool} (h : asB d = .ok r) : d = .bool r := by
  unfold asB at h
  split at h
  · cases h; rfl
  · cases h
theorem asB_bind {α : Type} {x : R D} {f : Bool → R α} {d : α} (h : (x.bind fun y => (asB y).bind f) = .ok d) : ∃ r, x = .ok (.bool r) ∧ f r = .ok d := by
  obtain ⟨y, hx, h1⟩ := R.bind_eq h
  obtain ⟨r, hr, h2⟩ := R.bind_eq h1
  rw [asB_ok hr] at hx
  exact ⟨r, hx, h2⟩
theorem snd_and {rest : List Expr} (ha : PE X x (XE T n X true a)) (hb : PE X (.BoolOp .And (y :: rest) pos) (XE T n X true b)) : PE X (.BoolOp .And (x :: y :: rest) pos) (XD T n X (.band a b)) :=
  (pe_and ha hb).weak fun σ H Q ⟨H0, F0, F, ρ, m, d, g, h, q⟩ => by
    simp only [ev] at h
    obtain ⟨r, hx, h⟩ := asB_bind h
    refine ⟨H0, F0, F, ρ, _, g, hx, fun v F1 H1 e1 r1 => ⟨r, r1.br.bool_inv, ?_⟩⟩
    cases r with
    | false =>
      cases h
      exact iteF (q _ _ _ e1 (.bl false))
    | true =>
      obtain ⟨r', hy, h⟩ := asB_bind h
      cases h
      exact iteT ⟨H0, F0, F1, ρ, _, g.ext e1, hy, fun u F2 H2 e2 r2 => by
        rw [r2.br.bool_inv]
        exact q _ _ _ (e1.trans e2) (.bl r')⟩
theorem snd_or {rest : List Expr} (ha : PE X x (XE T n X true a)) (hb : PE X (.BoolOp .Or (y :: rest) pos) (XE T n X true b)) : PE X (.BoolOp .Or (x :: y :: rest) pos) (XD T n X (.bor a b)) :=
  (pe_or ha hb).weak fun σ H Q ⟨H0, F0, F, ρ, m, d, g, h, q⟩ => by
    simp only [ev] at h
    obtain ⟨r, hx, h⟩ := asB_bind h
    refine ⟨H0, F0, F, ρ, _, g, hx, fun v F1 H1 e1 r1 => ⟨r, r1.br.bool_inv, ?_⟩⟩
    cases r with
    | true =>
      cases h
      exact iteT (q _ _ _ e1 (.bl true))
    | false =>
      obtain ⟨r', hy, h⟩ := asB_bind h
      cases h
      exact iteF ⟨H0, F0, F1, ρ, _, g.ext e1, hy, fun u F2 H2 e2 r2 => by
        rw [r2.br.bool_inv]
        exact q _ _ _ (e1.trans e2) (.bl r')⟩
theorem snd_not (ha : PE X x (XE T n X true a)) : PE X (.UnaryOp .Not x pos) (XD T n X (.bnot a)) :=
  (pe_not ha).weak fun σ H Q ⟨H0, F0, F, ρ, m, d, g, h, q⟩ => by
    simp only [ev] at h
    obtain ⟨r, hx, h⟩ := asB_bind h
    cases h
    exact ⟨H0, F0, F, ρ, _, g, hx, fun v F1 H1 e1 r1 => ⟨r, r1.br.bool_inv, q _ _ _ e1 (.bl _)⟩⟩
theorem snd_andT {rest : List Expr} (ha : PT X x (XT T n X a)) (hb : PW X (.BoolOp .And (y :: rest) pos) (XT T n X b)) : PW X (.BoolOp .And (x :: y :: rest) pos) (XT T n X (.band a b)) :=
  (pw_and ha hb).weak fun σ H Q ⟨H0, F0, F, ρ, d, g, h, q⟩ => by
    simp only [ev] at h
    obtain ⟨r, hx, h⟩ := asB_bind h
    refine ⟨H0, F0, F, ρ, r, g, hx, fun F1 H1 e1 => ?_⟩
    cases r with
    | false =>
      cases h
      exact iteF (q _ _ e1)
    | true =>
      obtain ⟨r', hy, h⟩ := asB_bind h
      cases h
      exact iteT ⟨H0, F0, F1, ρ, _, g.ext e1, hy, fun F2 H2 e2 => q _ _ (e1.trans e2)⟩
theorem snd_orT {rest : List Expr} (ha : PT X x (XT T n X a)) (hb : PW X (.BoolOp .Or (y :: rest) pos) (XT T n X b)) : PW X (.BoolOp .Or (x :: y :: rest) pos) (XT T n X (.bor a b)) :=
  (pw_or ha hb).weak fun σ H Q ⟨H0, F0, F, ρ, d, g, h, q⟩ => by
    simp only [ev] at h
    obtain ⟨r, hx, h⟩ := asB_bind h
    refine ⟨H0, F0, F, ρ, r, g, hx, fun F1 H1 e1 => ?_⟩
    cases r with
    | true =>
      cases h
      exact iteT (q _ _ e1)
    | false =>
      obtain ⟨r', hy, h⟩ := asB_bind h
      cases h
      exact iteF ⟨H0, F0, F1, ρ, _, g.ext e1, hy, fun F2 H2 e2 => q _ _ (e1.trans e2)⟩
theorem snd_notT (ha : PT X x (XT T n X a)) : PT X (.UnaryOp .Not x pos) (XT T n X (.bnot a)) :=
  (pt_not ha).weak fun σ H Q ⟨H0, F0, F, ρ, d, g, h, q⟩ => by
    simp only [ev] at h
    obtain ⟨r, hx, h⟩ := asB_bind h
    cases h
    exact ⟨H0, F0, F, ρ, _, g, hx, fun F1 H1 e1 => q _ _ e1⟩
theorem snd_ife (hc : PT X x (XT T n X c)) (ha : PE X y (XE T n X false a)) (hb : PE X z (XE T n X false b)) : PE X (.IfExp x y z pos) (XD T n X (.ife c a b)) :=
  (pe_ifExp hc ha hb).weak fun σ H Q ⟨H0, F0, F, ρ, m, d, g, h, q⟩ => by
    simp only [ev] at h
    obtain ⟨r, hx, h⟩ := asB_bind h
    refine ⟨H0, F0, F, ρ, r, g, hx, fun F1 H1 e1 => ?_⟩
    cases r with
    | true => exact iteT ⟨H0, F0, F1, ρ, _, g.ext e1, h, fun v F2 H2 e2 r2 => q _ _ _ (e1.trans e2) r2⟩
    | false => exact iteF ⟨H0, F0, F1, ρ, _, g.ext e1, h, fun v F2 H2 e2 r2 => q _ _ _ (e1.trans e2) r2⟩
theorem plainIx_nst (h : nst y = true) : PlainIx y := by
  intro o i
  cases y <;> first | rfl | cases h
theorem snd_ix (hX : XOk T n X) (hy : nst y = true) (ha : PE X x (XE T n X true a)) (hb : PE X y (XE T n X true b)) : PE X (.Subscript x y pos) (XD T n X (.ix a b)) :=
  (pe_ix (ixR_D hX.big) ha hb (plainIx_nst hy)).weak fun σ H Q ⟨H0, F0, F, ρ, m, d, g, h, q⟩ => by
    simp only [ev] at h
    obtain ⟨dx, hx, h⟩ := R.bind_eq h
    obtain ⟨dy, hy, h⟩ := R.bind_eq h
    exact ⟨H0, F0, F, ρ, dx, g, hx, fun v F1 H1 e1 r1 => ⟨H0, F0, F1, ρ, dy, g.ext e1, hy, fun u F2 H2 e2 r2 =>
      ⟨F2, dx, dy, d, e2.fh, r1.br.mono e2, r2.br, h, fun v' F' H' e' r' => q v' F' H' ((e1.trans e2).trans e') r'⟩⟩⟩
theorem snd_var {i : Nat} {nm : Str} (hN : X.N[i]? = some nm) (hv : visB X.env.scope nm = true) (hd : noDbg nm = true) (m : Bool) : PE X (.Name nm pos) (XE T n X m (.var i)) := by
  unfold noDbg at hd
  rw [Bool.and_eq_true, Bool.not_eq_true', Bool.not_eq_true'] at hd
  have hv : Vis X.env.scope nm := by
    unfold visB at hv
    simp only [Bool.or_eq_true, decide_eq_true_eq] at hv
    rcases hv with (h | h) | h
    · exact .inl h
    · exact .inr (.inl h)
    · exact .inr (.inr h)
  refine (pe_var hN hv hd.1 hd.2).weak fun σ H Q ⟨H0, F0, F, ρ, d, g, h, q⟩ => ?_
  have h : getV m ρ i = .ok d := by simpa only [ev] using h
  unfold getV at h
  split at h
  · rename_i d' e
    cases h
    obtain ⟨v, h1, h2⟩ := g.val i _ e
    exact ⟨v, h1, q v F H (Ext.refl g.fh) (Vr.of h2)⟩
  · rename_i d' e
    obtain ⟨hm, h⟩ := R.guard_ok h
    cases h
    subst hm
    obtain ⟨l, o, h1, h2, h3, h4, h5⟩ := g.own i _ e
    exact ⟨.ref l, h1, q _ F H (Ext.refl g.fh) (.inr ⟨l, o, rfl, h4, h5⟩)⟩
  · cases h
theorem snd_cst {k : Const} {j : Nat} {d : D} (h : constB k d = true) : PE X (.Constant k j pos) (XD T n X (.cst d)) := by
  have fin : ∀ (v : V), Dr X.w X.K (fun _ => none) v d → PE X (.Constant k j pos) (tC v) → PE X (.Constant k j pos) (XD T n X (.cst d)) := fun v hv hp =>
    hp.weak fun σ H Q ⟨H0, F0, F, ρ, m, d', g, h, q⟩ => by
      simp only [ev] at h
      cases h
      exact q v F H (Ext.refl g.fh) (hv.mono fun b o z => nomatch z)
  unfold constB at h
  split at h
  · exact fin _ .non pe_non
  · rename_i a b
    obtain rfl : a = b := by simpa using h
    exact fin _ (.bl _) pe_bl
  · obtain rfl := of_decide_eq_true h
    exact fin _ (.int _) pe_int
  · rw [Bool.and_eq_true, decide_eq_true_eq] at h
    obtain ⟨rfl, h⟩ := h
    exact fin _ (.str _ h) pe_str
  · cases h
end
end KD
/-! KdExp2: displays, slices, calls. -/
namespace KD
open PySem PySem.Spec
open PyProof.Rows L2
theorem star_nst {e : Expr} {es : List Expr} {env : PySem.Env} (h : nst e = true) : starEach (e :: es) env = (false, eval e env) :: starEach es env := by
  cases e <;> first | rfl | cases h
theorem star_plain {pos : Pos} {env : PySem.Env} : ∀ {es : List Expr}, es.all nst = true → (backTo pos (starEach es env)).any (·.1) = false
  | [], _ => rfl
  | e :: es, h => by
    rw [List.all_cons, Bool.and_eq_true] at h
    rw [star_nst h.1]
    show (false || (backTo pos (starEach es env)).any (·.1)) = false
    rw [star_plain h.2]
    rfl
theorem Vr.mono {w : World} {K : PySem.W.Frag} {F H F' H' : Hp} {v : V} {d : D} {b : Bool} (h : Vr w K b F H v d) (e : Ext F H F' H') : Vr w K b F' H' v d := by
  cases b with
  | true => exact Br.mono h e
  | false => exact Dr.mono h e.f
/-- a new object that nobody else holds -/
def tN (P : Program) (w : World) (K : PySem.W.Frag) (call : Nat → List D → R D) (ex : Ex) : TE := fun σ H Q => ∃ H0 F0 F ρ d, Good P w K H0 F0 σ H F ρ ∧ ev call ρ false ex = .ok d ∧
  ∀ l o F' H', Ext F H F' H' → H l = none → F' l = none → H' l = some o → Cont w K F' l o d → Q (.ref l) H'
abbrev XN (T : Tb) (n : Nat) (X : Cx) (ex : Ex) : TE := tN X.prog X.w X.K (evFn T.P T.wf n) ex
section
variable {T : Tb} {n : Nat} {X : Cx} {e x y z : Expr} {es l : List Expr} {ex a b c : Ex} {exs : List Ex} {pos p : Pos}
theorem new_D (h : PE X e (XN T n X ex)) (hb : ∀ ρ, ev (evFn T.P T.wf n) ρ true ex = ev (evFn T.P T.wf n) ρ false ex) : PE X e (XD T n X ex) := h.weak fun σ H Q ⟨H0, F0, F, ρ, m, d, g, hd, q⟩ => by
  refine ⟨H0, F0, F, ρ, d, g, by cases m with
    | true => rw [← hb]; exact hd
    | false => exact hd, fun l o F' H' e hl hF hH c => ?_⟩
  have sm : Same F' (upd F' l o) := same_new hF
  refine q (.ref l) (upd F' l o) H' ⟨e.f.trans sm, e.h, fun b u hb => ?_, fun b hb => ?_⟩ ((c.mono sm).dr upd_same)
  · by_cases q : b = l
    · subst q
      rw [upd_same] at hb
      cases hb
      exact hH
    · rw [upd_ne q] at hb
      exact e.fh b u hb
  · rw [upd_ne, e.new b hb]
    rintro rfl
    exact hb hl
theorem new_false (h : PE X e (XD T n X ex)) : PE X e (XE T n X false ex) := both h false
theorem snd_nil {m : Bool} : PA X [] (XEs T n X m []) := pa_nil.weak fun σ H Q ⟨H0, F0, F, ρ, ds, g, h, q⟩ => by
  simp only [evs] at h
  cases h
  exact q [] F H (Ext.refl g.fh) rfl fun i v d hv => by simp at hv
theorem snd_cons {m : Bool} (hn : nst e = true) (he : PE X e (XE T n X m ex)) (hr : PA X l (XEs T n X m exs)) : PA X (e :: l) (XEs T n X m (ex :: exs)) :=
  (pa_cons he hr (star_nst hn)).weak fun σ H Q ⟨H0, F0, F, ρ, ds, g, h, q⟩ => by
    simp only [evs] at h
    obtain ⟨d, hd, h⟩ := R.bind_eq h
    obtain ⟨dr, hr, h⟩ := R.bind_eq h
    cases h
    exact ⟨H0, F0, F, ρ, d, g, hd, fun v F1 H1 e1 r1 => ⟨H0, F0, F1, ρ, dr, g.ext e1, hr, fun vs F2 H2 e2 hl r2 => q (v :: vs) F2 H2 (e1.trans e2) (by simp [hl]) fun i u d' hu hd' => by
      cases i with
      | zero =>
        simp at hu hd'
        rw [← hu, ← hd']
        exact r1.mono e2
      | succ i => exact r2 i u d' (by simpa using hu) (by simpa using hd')⟩⟩
theorem all_dr {F H : Hp} {vs : List V} {ds : List D} (hl : vs.length = ds.length) (h : ∀ (i : Nat) (v : V) (d : D), vs[i]? = some v → ds[i]? = some d → Vr X.w X.K false F H v d) : DrAllX X F vs ds := ⟨hl, h⟩
theorem snd_glob (hX : XOk T n X) {nm : Str} {d : D} (hg : Gl X nm) (hc : csB T.cs nm d = true) (hd : noDbg nm = true) : PE X (.Name nm pos) (XD T n X (.glob nm d)) := by
  unfold noDbg at hd
  rw [Bool.and_eq_true, Bool.not_eq_true', Bool.not_eq_true'] at hd
  obtain ⟨v, u, h1, h2, h3⟩ := hX.gl _ (csB_mem hc)
  exact (pe_glob hg h1 h2 hd.1).weak fun σ H Q ⟨H0, F0, F, ρ, m, d', g, h, q⟩ => by
    simp only [ev] at h
    cases h
    exact q v F H (Ext.refl g.fh) (h3.mono fun b o z => nomatch z)
theorem len_ok {m : Nat} (h : m ≤ 1000) : m ≤ sizeLine := Nat.le_trans (Nat.le_trans h (by decide)) lim_size
theorem snd_tup {k : Nat} (h : PA X l (XEs T n X false exs)) : PE X (.Tuple l k pos) (XD T n X (.tup exs)) :=
  (pe_tupP h).weak fun σ H Q ⟨H0, F0, F, ρ, m, d, g, h, q⟩ => by
    simp only [ev] at h
    obtain ⟨ds, hd, h⟩ := R.bind_eq h
    obtain ⟨hz, h⟩ := R.guard_ok h
    cases h
    refine ⟨H0, F0, F, ρ, ds, g, hd, fun vs F1 H1 e1 hl r => ⟨by rw [hl]; exact len_ok (of_decide_eq_true hz), fun p o hp ho => ?_⟩⟩
    have e2 := Ext.laid (o := .frz o (.tup vs)) e1.fh hp
    exact q _ _ _ (e1.trans e2) (.tup (.inl ⟨o, upd_same, ho⟩) hl fun i v d hv hd => Dr.mono (r i v d hv hd) e2.f)
theorem snd_lst (h : PA X l (XEs T n X false exs)) : PE X (.List l pos) (XN T n X (.lst exs)) :=
  (pe_lst h).weak fun σ H Q ⟨H0, F0, F, ρ, d, g, h, q⟩ => by
    simp only [ev] at h
    obtain ⟨ds, hd, h⟩ := R.bind_eq h
    obtain ⟨hz, h⟩ := R.guard_ok h
    cases h
    refine ⟨H0, F0, F, ρ, ds, g, hd, fun vs F1 H1 e1 hl r => ⟨by rw [hl]; exact len_ok (of_decide_eq_true hz), fun p hp => ?_⟩⟩
    have hH : H p = none := Same.free e1.h hp
    exact q p (.lst vs) F1 (upd H1 p (.lst vs)) (e1.trans (Ext.open_ e1.fh hp)) hH (same_free e1.fh hp) upd_same (.lst ⟨hl, r⟩)
/-! ### slices -/
def rSlD (X : Cx) : V → Option Int → Option Int → Hp → VK → Prop := fun x lo hi H Q => ∃ F dx d, Same F H ∧ BrX X F H x dx ∧ cutD dx lo hi = .ok d ∧ Fin X F H d Q
theorem cut_all {F : Hp} {xs : List V} {ds : List D} {lo hi : Option Int} (h : DrAllX X F xs ds) : DrAllX X F (cutV xs lo hi) (cutL ds lo hi) := by
  unfold cutV cutL
  rw [h.1]
  exact (h.drop _).take _
theorem strOk_cut {s : Str} {lo hi : Option Int} (h : PyData.strOk s = true) : PyData.strOk (cutS s lo hi) = true := by
  exact strOk_mk fun c hc => strOk_mem h c (List.mem_of_mem_drop (List.mem_of_mem_take hc))
theorem sl_D : SlR X (rSlD X) := by
  intro pins s σ H x v vl vu lo hi sl Q I rx hs pl pu ⟨F, dx, d, e, hx, h, q⟩
  cases dx with
  | list ds =>
    cases h
    obtain ⟨a, xs, rfl, h1, h2⟩ := hx.list_inv e
    exact sl_list pins s σ H _ v vl vu lo hi sl Q I rx hs pl pu ⟨a, xs, rfl, .inl (.inl h1), fun p hp => q.lst e (cut_all h2) p hp⟩
  | tuple ds =>
    cases h
    obtain ⟨a, xs, rfl, h1, h2⟩ := hx.tuple_inv
    refine sl_tupP pins s σ H _ v vl vu lo hi sl Q I rx hs pl pu ⟨a, xs, rfl, Same.sqT e h1.sq, fun ⟨c1, c2⟩ => ?_, q.tup e (cut_all h2)⟩
    have hc : cutL ds lo hi = ds := by
      unfold cutL
      rw [← h2.1, c1, c2, List.drop_zero, Nat.sub_zero, h2.1, List.take_length]
    rw [hc] at q
    exact q.same e (.tup h1 h2.1 h2.2)
  | str z =>
    obtain ⟨hz, h⟩ := R.guard_ok h
    cases h
    obtain ⟨rfl, hk⟩ := hx.str_inv
    exact sl_str pins s σ H _ v vl vu lo hi sl Q I rx hs pl pu ⟨z, rfl, Nat.le_trans (of_decide_eq_true hz) lim_size, q.same e (.str _ (strOk_cut hk))⟩
  | _ => cases h
/-- a slice's part -/
def tOx (P : Program) (w : World) (K : PySem.W.Frag) (call : Nat → List D → R D) (ex : Ex) : TO := fun σ H Q => ∃ H0 F0 F ρ d o, Good P w K H0 F0 σ H F ρ ∧ ev call ρ true ex = .ok d ∧ partX ex d = .ok o ∧ ∀ F' H', Ext F H F' H' → Q o H'
abbrev XO (T : Tb) (n : Nat) (X : Cx) (ex : Ex) : TO := tOx X.prog X.w X.K (evFn T.P T.wf n) ex
theorem PO.weak {o : Option Expr} {t t' : TO} (h : PO X o t) (hw : ∀ σ H Q, t' σ H Q → t σ H Q) : PO X o t' := ⟨fun pins s σ H Q I q => h.run pins s σ H Q I (hw σ H Q q)⟩
theorem isAbs_inv (h : isAbs ex = true) : ex = .cst .none := by
  unfold isAbs at h
  split at h
  · rfl
  · cases h
theorem snd_absent (h : isAbs ex = true) : PO X none (XO T n X ex) := PO.weak po_none fun σ H Q ⟨H0, F0, F, ρ, d, o, g, hd, ho, q⟩ => by
  rw [isAbs_inv h] at ho
  cases ho
  exact q F H (Ext.refl g.fh)
theorem snd_part (h : isAbs ex = false) (he : PE X e (XE T n X true ex)) : PO X (some e) (XO T n X ex) := PO.weak (po_some he) fun σ H Q ⟨H0, F0, F, ρ, d, o, g, hd, ho, q⟩ => by
  refine ⟨H0, F0, F, ρ, d, g, hd, fun v F1 H1 e1 r1 => ?_⟩
  unfold partX at ho
  split at ho
  · cases h
  · split at ho
    · cases ho
      exact ⟨_, r1.br.int_inv, q F1 H1 e1⟩
    · cases ho
theorem snd_slc {lo hi : Option Expr} {p2 : Pos} (ha : PE X x (XE T n X true a)) (hl : PO X lo (XO T n X b)) (hh : PO X hi (XO T n X c)) : PE X (.Subscript x (.Slice lo hi none p2) pos) (XD T n X (.slc a b c)) :=
  (pe_slice sl_D ha hl hh).weak fun σ H Q ⟨H0, F0, F, ρ, m, d, g, h, q⟩ => by
    simp only [ev] at h
    obtain ⟨dx, hx, h⟩ := R.bind_eq h
    obtain ⟨dy, hy, h⟩ := R.bind_eq h
    obtain ⟨ol, hol, h⟩ := R.bind_eq h
    obtain ⟨dz, hz, h⟩ := R.bind_eq h
    obtain ⟨oh, hoh, h⟩ := R.bind_eq h
    exact ⟨H0, F0, F, ρ, dx, g, hx, fun v F1 H1 e1 r1 => ⟨H0, F0, F1, ρ, dy, ol, g.ext e1, hy, hol, fun F2 H2 e2 => ⟨H0, F0, F2, ρ, dz, oh, (g.ext e1).ext e2, hz, hoh, fun F3 H3 e3 =>
      ⟨F3, dx, d, e3.fh, r1.br.mono (e2.trans e3), h, fun v' F' H' e' r' => q v' F' H' ((e1.trans (e2.trans e3)).trans e') r'⟩⟩⟩⟩
/-! ### calls of defs -/
theorem snd_call (hX : XOk T n X) {f : Nat} {nm : Str} (hf : T.nm f = some nm) (hg : Gl X nm) (hd : noDbg nm = true) (hn : nst e = true) (hr : es.all nst = true) (h : PA X (e :: es) (XEs T n X false exs)) :
    PE X (.Call (.Name nm p) (e :: es) [] pos) (XD T n X (.call f exs)) := by
  unfold noDbg at hd
  rw [Bool.and_eq_true, Bool.not_eq_true', Bool.not_eq_true'] at hd
  obtain ⟨fn, fa, fd, ps, h1, h2, h3, h4, h5, h6⟩ := hX.fn f nm hf
  exact (pe_call h6 hX.room hg h3 h4 h5 .nil (pass0 : Passes CX0 X E0) h hd.1 (star_nst hn) (star_plain hr)).weak fun σ H Q ⟨H0, F0, F, ρ, m, d, g, hv, q⟩ => by
    simp only [ev] at hv
    obtain ⟨ds, hds, hv⟩ := R.bind_eq hv
    refine ⟨H0, F0, F, ρ, ds, g, hds, fun vs F1 H1 e1 hl r => ?_⟩
    show spF X.w X.K (evFn T.P T.wf) n f (vs ++ []) H1 Q E0
    rw [List.append_nil]
    exact ⟨F1, ds, d, e1.fh, all_dr hl r, hv, fun v F' H' e' r' => q v F' H' (e1.trans e') r'⟩
end
end KD
/-! KdBlt: built-in functions and methods. -/
namespace KD
open PySem PySem.Spec
open PyProof.Rows L2
/-- values that are looked at -/
def BrAll (X : Cx) (F H : Hp) (vs : List V) (ds : List D) : Prop := vs.length = ds.length ∧ ∀ (i : Nat) (v : V) (d : D), vs[i]? = some v → ds[i]? = some d → BrX X F H v d
def rBlt (X : Cx) (b : Blt) : List V → Hp → VK → Prop := fun vs H Q => ∃ F ds d, Same F H ∧ BrAll X F H vs ds ∧ bltD b ds = .ok d ∧ Fin X F H d Q
def rMth (X : Cx) (m : Mth) : V → List V → Hp → VK → Prop := fun x vs H Q => ∃ F dx ds d, Same F H ∧ BrX X F H x dx ∧ DrAllX X F vs ds ∧ mthD m dx ds = .ok d ∧ Fin X F H d Q
section
variable {X : Cx} {F H : Hp} {vs : List V} {ds : List D} {d a b : D} {Q : VK}
theorem BrAll.one (h : BrAll X F H vs [a]) : ∃ v, vs = [v] ∧ BrX X F H v a := by
  obtain ⟨hl, h⟩ := h
  cases vs with
  | nil => simp at hl
  | cons v r =>
    cases r with
    | nil => exact ⟨v, rfl, h 0 v a rfl rfl⟩
    | cons u r => simp at hl
theorem BrAll.two (h : BrAll X F H vs [a, b]) : ∃ v u, vs = [v, u] ∧ BrX X F H v a ∧ BrX X F H u b := by
  obtain ⟨hl, h⟩ := h
  cases vs with
  | nil => simp at hl
  | cons v r =>
    cases r with
    | nil => simp at hl
    | cons u r =>
      cases r with
      | nil => exact ⟨v, u, rfl, h 0 v a rfl rfl, h 1 u b rfl rfl⟩
      | cons w r => simp at hl
theorem DrAll.one {w : World} {K : PySem.W.Frag} (h : DrAll w K F vs [a]) : ∃ v, vs = [v] ∧ Dr w K F v a := by
  obtain ⟨v, r, rfl, h1, h2⟩ := h.cons_inv
  rw [h2.nil_inv]
  exact ⟨v, rfl, h1⟩
theorem ints_of : ∀ {ds : List D} {ns : List Int} {xs : List V}, intsD ds = some ns → DrAllX X F xs ds → xs = ns.map V.int
  | [], ns, xs, h, r => by
    cases h
    rw [r.nil_inv]
    rfl
  | d :: ds, ns, xs, h, r => by
    obtain ⟨v, t, rfl, h1, h2⟩ := r.cons_inv
    cases d <;> try (cases h; done)
    rename_i i
    rw [intsD] at h
    cases hm : intsD ds with
    | none => rw [hm] at h; cases h
    | some ms =>
      rw [hm] at h
      cases h
      cases h1
      rw [ints_of hm h2]
      rfl
theorem bools_of : ∀ {ds : List D} {ns : List Bool} {xs : List V}, boolsD ds = some ns → DrAllX X F xs ds → xs = ns.map V.bl
  | [], ns, xs, h, r => by
    cases h
    rw [r.nil_inv]
    rfl
  | d :: ds, ns, xs, h, r => by
    obtain ⟨v, t, rfl, h1, h2⟩ := r.cons_inv
    cases d <;> try (cases h; done)
    rename_i i
    rw [boolsD] at h
    cases hm : boolsD ds with
    | none => rw [hm] at h; cases h
    | some ms =>
      rw [hm] at h
      cases h
      cases h1
      rw [bools_of hm h2]
      rfl
theorem strs_of : ∀ {ds : List D} {ns : List Str} {xs : List V}, strs_ ds = some ns → DrAllX X F xs ds → xs = ns.map V.str ∧ ∀ z ∈ ns, PyData.strOk z = true
  | [], ns, xs, h, r => by
    cases h
    rw [r.nil_inv]
    exact ⟨rfl, fun z hz => by simp at hz⟩
  | d :: ds, ns, xs, h, r => by
    obtain ⟨v, t, rfl, h1, h2⟩ := r.cons_inv
    cases d <;> try (cases h; done)
    rename_i i
    rw [strs_] at h
    cases hm : strs_ ds with
    | none => rw [hm] at h; cases h
    | some ms =>
      rw [hm] at h
      cases h
      cases h1 with
      | str _ hk =>
        obtain ⟨h3, h4⟩ := strs_of hm h2
        rw [h3]
        exact ⟨rfl, fun z hz => by
          rw [List.mem_cons] at hz
          rcases hz with rfl | hz
          · exact hk
          · exact h4 z hz⟩
theorem dr_strs {ys : List Str} (h : ∀ z ∈ ys, PyData.strOk z = true) : DrAllX X F (ys.map V.str) (ys.map PyData.str) := DrAll.of_pointwise ys V.str PyData.str fun z hz => .str z (h z hz)
/-! one place -/
theorem one_ds {c : Blt} (hc : ∀ (x y : D) (r : List D), bltD c (x :: y :: r) = .bot) (h0 : bltD c [] = .bot) (h : bltD c ds = .ok d) : ∃ x, ds = [x] := by
  cases ds with
  | nil => rw [h0] at h; cases h
  | cons x r =>
    cases r with
    | nil => exact ⟨x, rfl⟩
    | cons y r => rw [hc] at h; cases h
theorem c_len : CallR X (.builtin "len") (rBlt X .len) := by
  intro pins s σ H xs us Q I r ⟨F, ds, d, e, hb, h, q⟩
  obtain ⟨x, rfl⟩ := one_ds (fun x y r => by cases x <;> rfl) rfl h
  obtain ⟨v, rfl, hv⟩ := hb.one
  cases x with
  | list l =>
    cases h
    obtain ⟨a, ys, rfl, h1, h2⟩ := hv.list_inv e
    exact call_len_seq pins s σ H _ us Q I r ⟨a, ys, rfl, .inl (.inl (.inl h1)), by rw [h2.1]; exact q.same e (.int _)⟩
  | tuple l =>
    cases h
    obtain ⟨a, ys, rfl, h1, h2⟩ := hv.tuple_inv
    exact call_len_seq pins s σ H _ us Q I r ⟨a, ys, rfl, .inr (Same.sqT e h1.sq), by rw [h2.1]; exact q.same e (.int _)⟩
  | str z =>
    obtain ⟨hz, h⟩ := R.guard_ok h
    cases h
    obtain ⟨rfl, hk⟩ := hv.str_inv
    exact call_len_str pins s σ H _ us Q I r ⟨z, rfl, Nat.le_trans (of_decide_eq_true hz) lim_size, q.same e (.int _)⟩
  | dict kvs =>
    have h : (match isScr (.dict kvs) with
      | some xs => R.ok (.int xs.length)
      | none => .bot) = R.ok d := h
    split at h
    · rename_i l hl
      cases h
      rw [isScr_inv hl] at hv
      obtain ⟨a, ns, rfl, rfl, h1⟩ := hv.scr_inv e
      refine call_len_seq pins s σ H _ us Q I r ⟨a, _, rfl, .inl (Same.sqL e h1), ?_⟩
      have := q.same e (.int _)
      rw [List.length_map] at this ⊢
      exact this
    · cases h
  | _ => cases h
theorem c_tuple : CallR X (.type "tuple") (rBlt X .tuple) := by
  intro pins s σ H xs us Q I r ⟨F, ds, d, e, hb, h, q⟩
  obtain ⟨x, rfl⟩ := one_ds (fun x y r => by cases x <;> rfl) rfl h
  obtain ⟨v, rfl, hv⟩ := hb.one
  cases x with
  | list l =>
    cases h
    obtain ⟨a, ys, rfl, h1, h2⟩ := hv.list_inv e
    exact call_tupleP pins s σ H _ us Q I r ⟨a, ys, rfl, .inl ⟨.inl (.inl h1), q.tup e h2⟩⟩
  | tuple l =>
    cases h
    obtain ⟨a, ys, rfl, h1, h2⟩ := hv.tuple_inv
    exact call_tupleP pins s σ H _ us Q I r ⟨a, ys, rfl, .inr ⟨Same.sqT e h1.sq, q.same e (.tup h1 h2.1 h2.2)⟩⟩
  | _ => cases h
theorem c_int : CallR X (.type "int") (rBlt X .int) := by
  intro pins s σ H xs us Q I r ⟨F, ds, d, e, hb, h, q⟩
  obtain ⟨x, rfl⟩ := one_ds (fun x y r => by cases x <;> rfl) rfl h
  obtain ⟨v, rfl, hv⟩ := hb.one
  cases x with
  | int i =>
    cases h
    cases hv.int_inv
    exact call_int1 pins s σ H _ us Q I r (.inl ⟨i, rfl, q.same e (.int i)⟩)
  | bool k =>
    cases h
    cases hv.bool_inv
    exact call_int1 pins s σ H _ us Q I r (.inr ⟨k, rfl, q.same e (.int _)⟩)
  | _ => cases h
theorem c_sum (hX : X.calm = true) : CallR X (.builtin "sum") (rBlt X .sum) := by
  intro pins s σ H xs us Q I r ⟨F, ds, d, e, hb, h, q⟩
  obtain ⟨x, rfl⟩ := one_ds (fun x y r => by cases x <;> rfl) rfl h
  obtain ⟨v, rfl, hv⟩ := hb.one
  cases x with
  | list l =>
    have h := ofOpt_ok h
    obtain ⟨ns, h3, h4⟩ := Option.map_eq_some_iff.mp h
    subst h4
    obtain ⟨a, ys, rfl, h1, h2⟩ := hv.list_inv e
    obtain rfl := ints_of h3 h2
    exact cr_sum hX pins s σ H _ us Q I r ⟨a, ns, rfl, .inl (.inl h1), q.same e (.int _)⟩
  | _ => cases h
theorem c_all (hX : X.calm = true) : CallR X (.builtin "all") (rBlt X .all) := by
  intro pins s σ H xs us Q I r ⟨F, ds, d, e, hb, h, q⟩
  obtain ⟨x, rfl⟩ := one_ds (fun x y r => by cases x <;> rfl) rfl h
  obtain ⟨v, rfl, hv⟩ := hb.one
  cases x with
  | list l =>
    have h := ofOpt_ok h
    obtain ⟨ns, h3, h4⟩ := Option.map_eq_some_iff.mp h
    subst h4
    obtain ⟨a, ys, rfl, h1, h2⟩ := hv.list_inv e
    obtain rfl := bools_of h3 h2
    exact cr_all hX pins s σ H _ us Q I r ⟨a, ns, rfl, .inl (.inl h1), q.same e (.bl _)⟩
  | _ => cases h
theorem c_any (hX : X.calm = true) : CallR X (.builtin "any") (rBlt X .any) := by
  intro pins s σ H xs us Q I r ⟨F, ds, d, e, hb, h, q⟩
  obtain ⟨x, rfl⟩ := one_ds (fun x y r => by cases x <;> rfl) rfl h
  obtain ⟨v, rfl, hv⟩ := hb.one
  cases x with
  | list l =>
    have h := ofOpt_ok h
    obtain ⟨ns, h3, h4⟩ := Option.map_eq_some_iff.mp h
    subst h4
    obtain ⟨a, ys, rfl, h1, h2⟩ := hv.list_inv e
    obtain rfl := bools_of h3 h2
    exact cr_any hX pins s σ H _ us Q I r ⟨a, ns, rfl, .inl (.inl h1), q.same e (.bl _)⟩
  | _ => cases h
theorem fold_max : ∀ (xs : List Int) (x : Int), xs.foldl (fun a b => if b > a then b else a) x ∈ x :: xs ∧ ∀ y ∈ x :: xs, y ≤ xs.foldl (fun a b => if b > a then b else a) x
  | [], x => ⟨by simp, fun y hy => by
    rw [List.mem_singleton] at hy
    subst hy
    exact Int.le_refl _⟩
  | z :: xs, x => by
    rw [List.foldl_cons]
    obtain ⟨h1, h2⟩ := fold_max xs (if z > x then z else x)
    refine ⟨?_, fun y hy => ?_⟩
    · rw [List.mem_cons] at h1
      rcases h1 with h1 | h1
      · rw [h1]
        split <;> simp
      · simp [h1]
    · have h3 := h2 _ List.mem_cons_self
      rw [List.mem_cons, List.mem_cons] at hy
      rcases hy with rfl | rfl | hy
      · refine Int.le_trans ?_ h3
        split <;> omega
      · refine Int.le_trans ?_ h3
        split <;> omega
      · exact h2 y (List.mem_cons_of_mem _ hy)
theorem fold_min : ∀ (xs : List Int) (x : Int), xs.foldl (fun a b => if b < a then b else a) x ∈ x :: xs ∧ ∀ y ∈ x :: xs, xs.foldl (fun a b => if b < a then b else a) x ≤ y
  | [], x => ⟨by simp, fun y hy => by
    rw [List.mem_singleton] at hy
    subst hy
    exact Int.le_refl _⟩
  | z :: xs, x => by
    rw [List.foldl_cons]
    obtain ⟨h1, h2⟩ := fold_min xs (if z < x then z else x)
    refine ⟨?_, fun y hy => ?_⟩
    · rw [List.mem_cons] at h1
      rcases h1 with h1 | h1
      · rw [h1]
        split <;> simp
      · simp [h1]
    · have h3 := h2 _ List.mem_cons_self
      rw [List.mem_cons, List.mem_cons] at hy
      rcases hy with rfl | rfl | hy
      · refine Int.le_trans h3 ?_
        split <;> omega
      · refine Int.le_trans h3 ?_
        split <;> omega
      · exact h2 y (List.mem_cons_of_mem _ hy)
theorem c_maxL (hX : X.calm = true) : CallR X (.builtin "max") (rBlt X .maxL) := by
  intro pins s σ H xs us Q I r ⟨F, ds, d, e, hb, h, q⟩
  obtain ⟨x, rfl⟩ := one_ds (fun x y r => by cases x <;> rfl) rfl h
  obtain ⟨v, rfl, hv⟩ := hb.one
  cases x with
  | list l =>
    have h := ofOpt_ok h
    obtain ⟨m, h3, h4⟩ := Option.map_eq_some_iff.mp h
    subst h4
    obtain ⟨ns, h5, h6⟩ := Option.bind_eq_some_iff.mp h3
    obtain ⟨a, ys, rfl, h1, h2⟩ := hv.list_inv e
    obtain rfl := ints_of h5 h2
    cases ns with
    | nil => cases h6
    | cons n ns =>
      cases h6
      obtain ⟨k1, k2⟩ := fold_max ns n
      refine cr_max hX pins s σ H _ us Q I r ⟨a, n :: ns, rfl, .inl (.inl h1), by simp, fun m hm hall => ?_⟩
      have : m = ns.foldl (fun a b => if b > a then b else a) n := Int.le_antisymm (k2 m hm) (hall _ k1)
      rw [this]
      exact q.same e (.int _)
  | _ => cases h
theorem c_minL (hX : X.calm = true) : CallR X (.builtin "min") (rBlt X .minL) := by
  intro pins s σ H xs us Q I r ⟨F, ds, d, e, hb, h, q⟩
  obtain ⟨x, rfl⟩ := one_ds (fun x y r => by cases x <;> rfl) rfl h
  obtain ⟨v, rfl, hv⟩ := hb.one
  cases x with
  | list l =>
    have h : (match intsD l with
      | some ns => ofOpt ((minI ns).map PyData.int)
      | none => .bot) = R.ok d := h
    split at h
    · rename_i ns h5
      have h := ofOpt_ok h
      obtain ⟨m, h6, h4⟩ := Option.map_eq_some_iff.mp h
      subst h4
      obtain ⟨a, ys, rfl, h1, h2⟩ := hv.list_inv e
      obtain rfl := ints_of h5 h2
      cases ns with
      | nil => cases h6
      | cons n ns =>
        cases h6
        obtain ⟨k1, k2⟩ := fold_min ns n
        refine cr_min hX pins s σ H _ us Q I r ⟨a, n :: ns, rfl, .inl (.inl h1), by simp, fun m hm hall => ?_⟩
        have : m = ns.foldl (fun a b => if b < a then b else a) n := Int.le_antisymm (hall _ k1) (k2 m hm)
        rw [this]
        exact q.same e (.int _)
    · cases h
  | _ => cases h
theorem two_ds {c : Blt} (h0 : bltD c [] = .bot) (h1 : ∀ x : D, bltD c [x] = .bot) (hc : ∀ (x y z : D) (r : List D), bltD c (x :: y :: z :: r) = .bot) (h : bltD c ds = .ok d) : ∃ x y, ds = [x, y] := by
  cases ds with
  | nil => rw [h0] at h; cases h
  | cons x r =>
    cases r with
    | nil => rw [h1] at h; cases h
    | cons y r =>
      cases r with
      | nil => exact ⟨x, y, rfl⟩
      | cons z r => rw [hc] at h; cases h
theorem c_max2 (hX : X.calm = true) : CallR X (.builtin "max") (rBlt X .max2) := by
  intro pins s σ H xs us Q I r ⟨F, ds, d, e, hb, h, q⟩
  obtain ⟨x, y, rfl⟩ := two_ds rfl (fun x => by cases x <;> rfl) (fun x y z r => by cases x <;> cases y <;> rfl) h
  obtain ⟨v, u, rfl, hv, hu⟩ := hb.two
  cases x <;> try (cases h; done)
  cases y <;> try (cases h; done)
  cases h
  cases hv.int_inv
  cases hu.int_inv
  exact call_max2 hX pins s σ H _ us Q I r ⟨_, _, rfl, q.same e (.int _)⟩
theorem c_min2 (hX : X.calm = true) : CallR X (.builtin "min") (rBlt X .min2) := by
  intro pins s σ H xs us Q I r ⟨F, ds, d, e, hb, h, q⟩
  obtain ⟨x, y, rfl⟩ := two_ds rfl (fun x => by cases x <;> rfl) (fun x y z r => by cases x <;> cases y <;> rfl) h
  obtain ⟨v, u, rfl, hv, hu⟩ := hb.two
  cases x <;> try (cases h; done)
  cases y <;> try (cases h; done)
  cases h
  cases hv.int_inv
  cases hu.int_inv
  exact call_min2 hX pins s σ H _ us Q I r ⟨_, _, rfl, q.same e (.int _)⟩
theorem none_text : (Str.ofString "None") = ⟨#[78, 111, 110, 101]⟩ := by decide +kernel
theorem c_str : CallR X (.type "str") (rBlt X .str) := by
  intro pins s σ H xs us Q I r ⟨F, ds, d, e, hb, h, q⟩
  obtain ⟨x, rfl⟩ := one_ds (fun x y r => by cases x <;> rfl) rfl h
  obtain ⟨v, rfl, hv⟩ := hb.one
  cases x with
  | str z =>
    cases h
    obtain ⟨rfl, hk⟩ := hv.str_inv
    exact SkE.call_str_str pins s σ H _ us Q I r ⟨z, rfl, q.same e (.str _ hk)⟩
  | none =>
    cases h
    cases hv.none_inv
    obtain ⟨u, rfl, r1⟩ := vals1 r
    cases r1
    have h2 := q.same e (.str _ (by decide +kernel))
    rw [← none_text] at h2
    exact PySem.P.str_of_none ⟨.str "None", H, I.tok _, ⟨_, rfl⟩, h2⟩
  | _ => cases h
/-- a new list behind a call -/
theorem lay_list {pins : List (Addr × Obj)} {σ : L2.St} {s : Shared} {h' : Heap} {tk : Nat} {p : Addr} {acc : Array Value} {c : Nat} {xs : List V} {ds : List D} (I : L2.Inv X pins σ H s) (e : Same F H) (k : ∀ b o, s.heap.get? b = some o → h'.get? b = some o) (hp : s.heap.objs.size ≤ p)
    (hg : h'.get? p = some { cls := .type "list", data := .seq acc c }) (rv : Vals xs acc.toList) (hz : xs.length ≤ sizeLine) (dr : DrAllX X F xs ds) (q : Fin X F H (.list ds) Q) : EP X pins σ Q (.ref p) { s with heap := h', toks := tk } :=
  ⟨.ref p, upd H p (.lst xs), I.laid k hp ⟨hz, acc.toList, c, rv, by simpa using hg⟩, rfl, q.lst e dr p (I.hok.fresh hp)⟩
theorem vals_of {xs : List V} {us : List Value} (hl : xs.length = us.length) (h : ∀ (j : Nat) x u, xs[j]? = some x → us[j]? = some u → L2.RelV x u) : Vals xs us := Paired.of_get hl h
theorem ens_keys {w : World} {K : PySem.W.Frag} {kvs : List Ent} {ds : List (D × D)} (h : Ens w K F kvs ds) : DrAll w K F (kvs.map (·.2.1)) (ds.map (·.1)) := by
  induction h with
  | nil => exact .nil
  | cons r t ih => exact .cons r.2.1 ih
theorem ens_vals {w : World} {K : PySem.W.Frag} {kvs : List Ent} {ds : List (D × D)} (h : Ens w K F kvs ds) : DrAll w K F (kvs.map (·.2.2)) (ds.map (·.2)) := by
  induction h with
  | nil => exact .nil
  | cons r t ih => exact .cons r.2.2 ih
theorem ents_keys {w : World} {es : List DictEntry} {kvs : List Ent} (h : Paired (EntOk w) es kvs) {acc : Array Value} (hi : ItemsOf (fun i v => ∃ hi : i < es.toArray.size, v = (es.toArray[i]).key) acc es.length) : Vals (kvs.map (·.2.1)) acc.toList := by
  refine vals_of (by rw [List.length_map, ← Paired.len h]; simpa using hi.1.symm) fun j x u hx hu => ?_
  rw [List.getElem?_map] at hx
  obtain ⟨p, hp, rfl⟩ := Option.map_eq_some_iff.mp hx
  rw [Array.getElem?_toList] at hu
  obtain ⟨hj, rfl⟩ := hi.2 j u hu
  exact (Paired.get h j _ p (by simpa using hj) hp).2.1
theorem ents_vals {w : World} {es : List DictEntry} {kvs : List Ent} (h : Paired (EntOk w) es kvs) {acc : Array Value} (hi : ItemsOf (fun i v => ∃ hi : i < es.toArray.size, v = (es.toArray[i]).val) acc es.length) : Vals (kvs.map (·.2.2)) acc.toList := by
  refine vals_of (by rw [List.length_map, ← Paired.len h]; simpa using hi.1.symm) fun j x u hx hu => ?_
  rw [List.getElem?_map] at hx
  obtain ⟨p, hp, rfl⟩ := Option.map_eq_some_iff.mp hx
  rw [Array.getElem?_toList] at hu
  obtain ⟨hj, rfl⟩ := hi.2 j u hu
  exact (Paired.get h j _ p (by simpa using hj) hp).2.2
theorem dr_chars {w : World} {K : PySem.W.Frag} {z : Str} (h : PyData.strOk z = true) : DrAll w K F (z.cps.toList.map fun c => V.str ⟨#[c]⟩) (chars z) :=
  DrAll.of_pointwise _ _ _ fun c hc => .str _ (strOk_mk (l := [c]) fun x hx => by
    rw [List.mem_singleton.mp hx]
    exact strOk_mem h c hc)
theorem c_list (hX : X.calm = true) : CallR X (.type "list") (rBlt X .list) := by
  intro pins s σ H xs us Q I r ⟨F, ds, d, e, hb, h, q⟩
  obtain ⟨x, rfl⟩ := one_ds (fun x y r => by cases x <;> rfl) rfl h
  obtain ⟨v, rfl, hv⟩ := hb.one
  cases x with
  | list l =>
    cases h
    obtain ⟨a, ys, rfl, h1, h2⟩ := hv.list_inv e
    exact call_list_of pins s σ H _ us Q I r ⟨a, ys, rfl, .inl (.inl (.inl h1)), fun p hp => q.lst e h2 p hp⟩
  | tuple l =>
    cases h
    obtain ⟨a, ys, rfl, h1, h2⟩ := hv.tuple_inv
    exact call_list_of pins s σ H _ us Q I r ⟨a, ys, rfl, .inr (Same.sqT e h1.sq), fun p hp => q.lst e h2 p hp⟩
  | str z =>
    obtain ⟨hz, h⟩ := R.guard_ok h
    cases h
    obtain ⟨rfl, hk⟩ := hv.str_inv
    obtain ⟨u, rfl, ru⟩ := vals1 r
    obtain ⟨t, rfl⟩ := ru
    have hz : z.length ≤ lim := of_decide_eq_true hz
    have hsz : z.cps.size ≤ sizeLine := Nat.le_trans hz lim_size
    refine call_list_str (hn := hsz) (I.ok.hd hX) z t fun h' tk acc c k hg hi => ?_
    refine lay_list I e k (Nat.le_refl _) hg (xs := z.cps.toList.map fun c => V.str ⟨#[c]⟩) (vals_of (by rw [List.length_map, Array.length_toList, Array.length_toList, hi.1]) fun j x u hx hu => ?_) (by rw [List.length_map, Array.length_toList]; exact hsz) (dr_chars hk) q
    rw [List.getElem?_map] at hx
    obtain ⟨cp, hc, rfl⟩ := Option.map_eq_some_iff.mp hx
    rw [Array.getElem?_toList] at hu hc
    obtain ⟨c', t', h1, h2⟩ := hi.2 j u hu
    rw [hc] at h1
    cases h1
    exact ⟨t', h2⟩
  | dict kvs =>
    obtain ⟨hc, h⟩ := R.guard_ok h
    cases h
    obtain ⟨a, o, es, rfl, ha, ra, ea⟩ := hv.dict_at e hc
    obtain ⟨u, rfl, ru⟩ := vals1 r
    cases ru
    obtain ⟨arr, ep, hd, hp⟩ := ra.en
    refine PySem.W.kdl_call (KdlSrc.rawDict ra.ne) (I.ok.hd hX) ⟨o, dO_get I ha, ra.ex, hd⟩ (by rw [← Array.length_toList, Paired.len hp]; exact ra.sz) fun h' tk acc c k hg hi => ?_
    refine lay_list I e k (Nat.le_refl _) hg (ents_keys hp (by simpa using hi)) (by rw [List.length_map]; exact ra.sz) (ens_keys ea) q
  | _ => cases h
/-! texts -/
theorem strOk_glued {s : Str} (hs : PyData.strOk s = true) : ∀ {ys : List Str}, (∀ z ∈ ys, PyData.strOk z = true) → PyData.strOk (Str.join s ys) = true
  | [], _ => by simp [Str.join, Str.empty, PyData.strOk]
  | [x], h => h x (by simp)
  | x :: y :: r, h => by
    show PyData.strOk (x ++ s ++ Str.join s (y :: r)) = true
    rw [strOk_append, strOk_append, h x (by simp), hs, strOk_glued hs fun z hz => h z (List.mem_cons_of_mem _ hz)]
    rfl
theorem m_join : MtR X "str.join" (rMth X .join) := by
  intro pins s σ H x xs v us Q I rx rs ⟨F, dx, ds, d, e, hx, hs, h, q⟩
  have fin : ∀ (z : Str) (l : List D) (a : Addr) (ys : List V), PyData.strOk z = true → x = .str z → xs = [.ref a] → (SqL X.K H a ys ∨ SqT X.K H a ys) → DrAllX X F ys l →
      (match strs_ l with
        | some ys => R.guard (decide ((ys.map (·.length)).sum + ys.length * z.length ≤ lim)) (.ok (.str (Txt.join z ys)))
        | none => .bot) = R.ok d → wpAny (model X.prog X.w) X.A (call (.builtin "str.join") (v :: us)) (EP X pins σ Q) X.xe s := by
    intro z l a ys hk ex exs hseq hl h
    split at h
    · rename_i zs hz
      obtain ⟨hc, h⟩ := R.guard_ok h
      cases h
      obtain ⟨rfl, hok⟩ := strs_of hz hl
      refine mt_join pins s σ H x xs v us Q I rx rs ⟨z, a, zs, ex, exs, hseq, Nat.le_trans (of_decide_eq_true hc) (by decide), q.same e (.str _ ?_)⟩
      rw [show Txt.join z zs = Str.join z zs from PySem.StrLaws.glued_eq_join z zs]
      exact strOk_glued hk hok
    · cases h
  cases dx <;> try (cases h; done)
  obtain ⟨rfl, hk⟩ := hx.str_inv
  cases ds with
  | nil => cases h
  | cons y r =>
    cases r with
    | cons z r => cases y <;> cases h
    | nil =>
      obtain ⟨u, rfl, hu⟩ := hs.one
      cases y <;> try (cases h; done)
      · obtain ⟨a, ys, rfl, h1, h2⟩ := Br.list_inv e (.inl hu)
        exact fin _ _ a ys hk rfl rfl (.inl (.inl (.inl h1))) h2 h
      · obtain ⟨a, ys, rfl, h1, h2⟩ := Br.tuple_inv (F := F) (H := H) (.inl hu)
        exact fin _ _ a ys hk rfl rfl (.inr (Same.sqT e h1.sq)) h2 h
theorem m_split : MtR X "str.split" (rMth X .split) := by
  intro pins s σ H x xs v us Q I rx rs ⟨F, dx, ds, d, e, hx, hs, h, q⟩
  cases dx <;> try (cases h; done)
  obtain ⟨rfl, hk⟩ := hx.str_inv
  cases ds with
  | nil => cases h
  | cons y r =>
    cases r with
    | cons z r => cases y <;> cases h
    | nil =>
      obtain ⟨u, rfl, hu⟩ := hs.one
      cases y <;> try (cases h; done)
      rename_i z y
      obtain ⟨hc, h⟩ := R.guard_ok h
      obtain ⟨hsp, h⟩ := R.guard_ok h
      cases h
      simp only [Bool.and_eq_true, Bool.not_eq_true', decide_eq_true_eq, decide_eq_false_iff_not] at hc
      cases hu
      rw [List.all_eq_true] at hsp
      refine mt_split pins s σ H _ _ v us Q I rx rs ⟨z, y, rfl, rfl, by simp [hc.1], ?_, fun p hp => q.lst e (dr_strs hsp) p hp⟩
      exact Nat.le_trans (Nat.add_le_add_right hc.2 2) (by rw [sizeLine_eq]; decide)
theorem m_startswith : MtR X "str.startswith" (rMth X .startswith) := by
  intro pins s σ H x xs v us Q I rx rs ⟨F, dx, ds, d, e, hx, hs, h, q⟩
  cases dx <;> try (cases h; done)
  obtain ⟨rfl, hk⟩ := hx.str_inv
  cases ds with
  | nil => cases h
  | cons y r =>
    cases r with
    | cons z r => cases y <;> cases h
    | nil =>
      obtain ⟨u, rfl, hu⟩ := hs.one
      cases y <;> try (cases h; done)
      cases h
      cases hu
      exact mt_startswith pins s σ H _ _ v us Q I rx rs ⟨_, _, rfl, rfl, q.same e (.bl _)⟩
theorem m_rstrip : MtR X "str.rstrip" (rMth X .rstrip) := by
  intro pins s σ H x xs v us Q I rx rs ⟨F, dx, ds, d, e, hx, hs, h, q⟩
  cases dx <;> try (cases h; done)
  obtain ⟨rfl, hk⟩ := hx.str_inv
  cases ds with
  | nil => cases h
  | cons y r =>
    cases r with
    | cons z r => cases y <;> cases h
    | nil =>
      obtain ⟨u, rfl, hu⟩ := hs.one
      cases y <;> try (cases h; done)
      obtain ⟨hc, h⟩ := R.guard_ok h
      obtain ⟨hsp, h⟩ := R.guard_ok h
      cases h
      cases hu
      exact mt_rstripChars pins s σ H _ _ v us Q I rx rs ⟨_, _, rfl, rfl, Nat.le_trans (of_decide_eq_true hc) lim_size, q.same e (.str _ hsp)⟩
theorem m_ljust : MtR X "str.ljust" (rMth X .ljust) := by
  intro pins s σ H x xs v us Q I rx rs ⟨F, dx, ds, d, e, hx, hs, h, q⟩
  cases dx <;> try (cases h; done)
  obtain ⟨rfl, hk⟩ := hx.str_inv
  cases ds with
  | nil => cases h
  | cons y r =>
    cases r with
    | cons z r => cases y <;> cases h
    | nil =>
      obtain ⟨u, rfl, hu⟩ := hs.one
      cases y <;> try (cases h; done)
      rename_i z i
      obtain ⟨hc, h⟩ := R.guard_ok h
      obtain ⟨hsp, h⟩ := R.guard_ok h
      cases h
      cases hu
      rw [Bool.and_eq_true, decide_eq_true_eq, decide_eq_true_eq] at hc
      refine mt_ljust pins s σ H _ _ v us Q I rx rs ⟨_, _, rfl, rfl, ?_, q.same e (.str _ hsp)⟩
      exact padOk_of (by omega) (by omega)
theorem m_upper : MtR X "str.upper" (rMth X .upper) := by
  intro pins s σ H x xs v us Q I rx rs ⟨F, dx, ds, d, e, hx, hs, h, q⟩
  cases dx <;> try (cases h; done)
  obtain ⟨rfl, hk⟩ := hx.str_inv
  cases ds with
  | cons y r => cases y <;> cases r <;> cases h
  | nil =>
    obtain ⟨hc, h⟩ := R.guard_ok h
    obtain ⟨hsp, h⟩ := R.guard_ok h
    cases h
    obtain rfl := hs.nil_inv
    exact mt_upper pins s σ H _ _ v us Q I rx rs ⟨_, rfl, rfl, Nat.le_trans (of_decide_eq_true hc) (by decide), q.same e (.str _ hsp)⟩
end
/-! ### in the text -/
section
variable {T : Tb} {n : Nat} {X : Cx} {e x y z : Expr} {es l : List Expr} {ex a b c : Ex} {exs : List Ex} {pos p apos : Pos}
theorem bltin_none (hX : XOk T n X) {nm : Str} (h : nm ∈ bltNames) : X.mg nm = none := hX.bl nm h
theorem snd_bltB (hX : XOk T n X) {nm : Str} {k : Blt} {id : String} (hm : nm ∈ bltNames) (hc : CallR X (.builtin id) (rBlt X k)) (hv : bootBuiltins nm = some (.builtin id)) (hg : Gl X nm) (hnm : nm ≠ "__name__") (hdb : (nm == ("__debug__" : Str)) = false)
    (hn : nst e = true) (hr : es.all nst = true) (h : PA X (e :: es) (XEs T n X true exs)) : PE X (.Call (.Name nm p) (e :: es) [] pos) (XD T n X (.blt k exs)) :=
  (pe_callB hc hg (hX.bl nm hm) hv h hnm hdb (star_nst hn) (star_plain hr)).weak fun σ H Q ⟨H0, F0, F, ρ, m, d, g, hv, q⟩ => by
    simp only [ev] at hv
    obtain ⟨ds, hds, hv⟩ := R.bind_eq hv
    exact ⟨H0, F0, F, ρ, ds, g, hds, fun vs F1 H1 e1 hl r => ⟨F1, ds, d, e1.fh, ⟨hl, r⟩, hv, fun v F' H' e' r' => q v F' H' (e1.trans e') r'⟩⟩
theorem snd_bltT (hX : XOk T n X) {nm : Str} {k : Blt} {id : String} (hm : nm ∈ bltNames) (hc : CallR X (.type id) (rBlt X k)) (hv : bootBuiltins nm = some (.type id)) (hg : Gl X nm) (hnm : nm ≠ "__name__") (hdb : (nm == ("__debug__" : Str)) = false)
    (hn : nst e = true) (hr : es.all nst = true) (h : PA X (e :: es) (XEs T n X true exs)) : PE X (.Call (.Name nm p) (e :: es) [] pos) (XD T n X (.blt k exs)) :=
  (pe_callTy hc hg (hX.bl nm hm) hv h hnm hdb (star_nst hn) (star_plain hr)).weak fun σ H Q ⟨H0, F0, F, ρ, m, d, g, hv, q⟩ => by
    simp only [ev] at hv
    obtain ⟨ds, hds, hv⟩ := R.bind_eq hv
    exact ⟨H0, F0, F, ρ, ds, g, hds, fun vs F1 H1 e1 hl r => ⟨F1, ds, d, e1.fh, ⟨hl, r⟩, hv, fun v F' H' e' r' => q v F' H' (e1.trans e') r'⟩⟩
theorem base_nosup {env : PySem.Env} {nm : Str} (h : nosup x = true) : attributeBase x nm env (eval x env) = eval x env := by
  unfold attributeBase
  split
  · cases h
  · rfl
theorem args_one {vs : List V} {F H : Hp} {u : V} {d : D} (h : Dr X.w X.K F u d) : DrAllX X F [u] [d] := .cons h .nil
theorem evs_one {call : Nat → List D → R D} {ρ : Env} {m : Bool} {ds : List D} (h : evs call ρ m [ex] = .ok ds) : ∃ d, ev call ρ m ex = .ok d ∧ ds = [d] := by
  simp only [evs] at h
  obtain ⟨d, hd, h⟩ := R.bind_eq h
  cases h
  exact ⟨d, hd, rfl⟩
theorem mth_str {k : Mth} {dx d : D} {ds : List D} (hk : k ≠ .get) (h : mthD k dx ds = .ok d) : ∃ z, dx = .str z := by
  cases dx <;> first | exact ⟨_, rfl⟩ | (cases k <;> first | exact absurd rfl hk | cases h)
theorem snd_mth1 {k : Mth} {id : String} (hk : k ≠ .get) (slot : Slot "str" (mthName k) id) (ty : typeOf (.builtin id) = pure (.type "method_descriptor")) (rule : MtR X id (rMth X k)) (hs : nosup x = true) (hn : nst e = true) (hline : (apos.endLine == pos.line) = true)
    (ho : PE X x (XE T n X true a)) (he : PE X e (XE T n X false b)) : PE X (.Call (.Attribute x (mthName k) apos) [e] [] pos) (XD T n X (.mth k a [b])) :=
  (pe_m1 slot ty rule ho he (star_nst hn) (base_nosup hs) hline).weak fun σ H Q ⟨H0, F0, F, ρ, m, d, g, hv, q⟩ => by
    simp only [ev] at hv
    obtain ⟨dx, hx, hv⟩ := R.bind_eq hv
    obtain ⟨ds, hds, hv⟩ := R.bind_eq hv
    obtain ⟨dy, hy, rfl⟩ := evs_one hds
    refine ⟨H0, F0, F, ρ, dx, g, hx, fun v F1 H1 e1 r1 => ⟨?_, H0, F0, F1, ρ, dy, g.ext e1, hy, fun u F2 H2 e2 r2 => ⟨F2, dx, [dy], d, e2.fh, r1.br.mono e2, .cons r2 .nil, hv, fun v' F' H' e' r' => q v' F' H' ((e1.trans e2).trans e') r'⟩⟩⟩
    obtain ⟨z, rfl⟩ := mth_str hk hv
    exact ⟨z, r1.br.str_inv.1⟩
theorem snd_mth0 {k : Mth} {id : String} (hk : k ≠ .get) (slot : Slot "str" (mthName k) id) (ty : typeOf (.builtin id) = pure (.type "method_descriptor")) (rule : MtR X id (rMth X k)) (hs : nosup x = true) (hline : (apos.endLine == pos.line) = true)
    (ho : PE X x (XE T n X true a)) : PE X (.Call (.Attribute x (mthName k) apos) [] [] pos) (XD T n X (.mth k a [])) :=
  (pe_m0 slot ty rule ho (base_nosup hs) hline).weak fun σ H Q ⟨H0, F0, F, ρ, m, d, g, hv, q⟩ => by
    simp only [ev] at hv
    obtain ⟨dx, hx, hv⟩ := R.bind_eq hv
    obtain ⟨ds, hds, hv⟩ := R.bind_eq hv
    simp only [evs] at hds
    cases hds
    refine ⟨H0, F0, F, ρ, dx, g, hx, fun v F1 H1 e1 r1 => ⟨?_, F1, dx, [], d, e1.fh, r1.br, .nil, hv, fun v' F' H' e' r' => q v' F' H' (e1.trans e') r'⟩⟩
    obtain ⟨z, rfl⟩ := mth_str hk hv
    exact ⟨z, r1.br.str_inv.1⟩
end
end KD
/-! KdIsa: isinstance. -/
namespace KD
open PySem PySem.Spec
open PyProof.Rows L2
def isaTy : Blt → Option String
  | .isStr => some "str"
  | .isTuple => some "tuple"
  | .isBool => some "bool"
  | .isInt => some "int"
  | _ => none
def tyD : D → Option String
  | .none => some "NoneType"
  | .bool _ => some "bool"
  | .int _ => some "int"
  | .str _ => some "str"
  | .list _ => some "list"
  | .tuple _ => some "tuple"
  | .dict _ => none
section
variable {T : Tb} {n : Nat} {X : Cx} {F H : Hp} {v : V} {d : D}
theorem br_ty (e : Same F H) (h : BrX X F H v d) {t : String} (ht : tyD d = some t) : TyX X.K H v (.type t) := by
  cases d with
  | none => cases ht; cases h.none_inv; exact .base .non
  | bool b => cases ht; cases h.bool_inv; exact .base (.bl b)
  | int i => cases ht; cases h.int_inv; exact .base (.int i)
  | str x => cases ht; obtain ⟨rfl, _⟩ := h.str_inv; exact .base (.str x)
  | list l =>
    cases ht
    obtain ⟨a, xs, rfl, h1, _⟩ := h.list_inv e
    exact .base (.lst h1)
  | tuple l =>
    cases ht
    obtain ⟨a, xs, rfl, h1, _⟩ := h.tuple_inv
    have h1 := Same.sqT e h1.sq
    rcases h1 with h1 | h1
    · rcases h1 with h1 | ⟨o, h1⟩
      · exact .base (.tup h1)
      · exact .fTuple h1
    · obtain ⟨o, its, n, k1, k2, _⟩ := h1
      exact .kTuple k1 k2
  | dict l => cases ht
theorem kit_isa {b : Blt} {d r : D} {c t : String} (hb : isaTy b = some c) (ht : tyD d = some t) (h : bltD b [d] = .ok r) : ∃ x, r = .bool x ∧ kitB t c = some x := by
  cases b <;> first
    | (cases hb; done)
    | (cases hb; cases d <;> first | (cases ht; done) | (cases ht; cases h; exact ⟨_, rfl, by decide +kernel⟩))
theorem ty_isa {b : Blt} {d r : D} {c : String} (hb : isaTy b = some c) (h : bltD b [d] = .ok r) : ∃ t, tyD d = some t := by
  cases b <;> first
    | (cases hb; done)
    | (cases d <;> first | exact ⟨_, rfl⟩ | cases h)
theorem isa_name {b : Blt} {y : Str} (h : isaName b = some y) : ∃ c, isaTy b = some c ∧ y = Str.ofString c ∧ bootBuiltins y = some (.type c) ∧ y ∈ bltNames ∧ y ≠ "__name__" ∧ (y == ("__debug__" : Str)) = false := by
  cases b <;> first
    | (cases h; done)
    | (cases h; exact ⟨"str", rfl, rfl, boot_str, by decide, by decide, by decide⟩)
    | (cases h; exact ⟨"tuple", rfl, rfl, boot_tuple, by decide, by decide, by decide⟩)
    | (cases h; exact ⟨"bool", rfl, rfl, boot_bool, by decide, by decide, by decide⟩)
    | (cases h; exact ⟨"int", rfl, rfl, boot_int, by decide, by decide, by decide⟩)
theorem snd_isa {e : Expr} {a : Ex} {b : Blt} {y : Str} {p p2 pos : Pos} (hX : XOk T n X) (hb : isaName b = some y) (hg : Gl X "isinstance") (hg2 : Gl X y) (hn : nst e = true) (he : PE X e (XE T n X true a)) :
    PE X (.Call (.Name "isinstance" p) [e, .Name y p2] [] pos) (XD T n X (.blt b [a])) := by
  obtain ⟨c, h1, h2, h3, h4, h5, h6⟩ := isa_name hb
  refine (pe_callB call_isi hg (hX.bl _ (by decide)) boot_isinstance (pa_cons he (pa_cons (pe_bltn (v := .ty c) hg2 (hX.bl _ h4) h3 rfl h5 h6) pa_nil) (star_nst hn)) (by decide) (by decide) (star_nst hn) (star_plain (es := [.Name y p2]) rfl)).weak ?_
  rintro σ H Q ⟨H0, F0, F, ρ, m, d, g, h, q⟩
  simp only [ev] at h
  obtain ⟨ds, hds, h⟩ := R.bind_eq h
  obtain ⟨dx, hx, rfl⟩ := evs_one hds
  refine ⟨H0, F0, F, ρ, dx, g, hx, fun v F1 H1 e1 r1 => ?_⟩
  obtain ⟨t, ht⟩ := ty_isa h1 h
  obtain ⟨x, rfl, hk⟩ := kit_isa h1 ht h
  exact ⟨v, .ty c, .type t, .type c, x, rfl, .ty c, br_ty e1.fh r1.br ht, kit_ty hk, q _ _ _ e1 (.bl x)⟩
end
end KD
/-! KdDWalk: dicts walked: for k in d, for k, v in d.items(). -/
namespace KD
open PySem PySem.Spec
open PyProof.Rows L2
/-- the keys of the dict o at a -/
def ItD (a : Addr) (o : Obj) (kvs : List Ent) : It :=
  ⟨fun i H => H a = some (dO a o) ∧ i < kvs.length, fun i H x H' => H' = H ∧ ∃ p, kvs[i]? = some p ∧ x = p.2.1, fun i H => H a = some (dO a o) ∧ kvs.length ≤ i⟩
/-- its pairs, each a new tuple -/
def ItP (a : Addr) (o : Obj) (kvs : List Ent) : It :=
  ⟨fun i H => H a = some (dO a o) ∧ i < kvs.length, fun i H x H' => ∃ T p, kvs[i]? = some p ∧ x = .ref T ∧ H T = none ∧ H' = upd H T (.tup [p.2.1, p.2.2]), fun i H => H a = some (dO a o) ∧ kvs.length ≤ i⟩
section
variable {P : Program} {w : World} {K : PySem.W.Frag} {tg : Expr} {a : Addr} {o : Obj} {es : Array DictEntry} {ep : Nat} {kvs : List Ent}
theorem ent_at {p : Ent} {i : Nat} (hp : Paired (EntOk w) es.toList kvs) (hi : i < es.size) (hk : kvs[i]? = some p) : L2.RelV p.2.1 es[i].key ∧ L2.RelV p.2.2 es[i].val :=
  (Paired.get hp i es[i] p (by simp [hi]) hk).2
theorem turn_dkeys (it : Addr) (ex : o.ExactDict) (hd : o.data = .dict es ep) (hp : Paired (EntOk w) es.toList kvs) : Turn P w K tg (ItD a o kvs) [it] it (fun i h => h.IsKeyIter it a i es.size ep) where
  mem := by simp
  obj := fun i h st b hb => by
    obtain rfl : b = it := by simpa using hb
    obtain ⟨oi, e, c, dd⟩ := st
    exact ⟨oi, e, fun v z => by rw [dd] at z; cases z⟩
  keep := fun i h h' st k => st.at fun oi e => k it (by simp) oi e
  item := by
    intro X hP hw hK hc i pins s σ H E I hf st hg
    subst hP hw hK
    obtain ⟨ha, hi⟩ := hg
    obtain ⟨f0, f1, f2, f3, f4, f5⟩ := hf it (by simp)
    have hs : es.size = kvs.length := by rw [← Paired.len hp, Array.length_toList]
    have hi' : i < es.size := by omega
    have hk : kvs[i]? = some kvs[i] := List.getElem?_eq_getElem hi
    have ru := (ent_at hp hi' hk).1
    refine wpAny_pyNext_keys_item_raw st ⟨o, dO_get I ha, ex, hd⟩ hi' fun h' st' sb => ?_
    have I1 : L2.Inv X pins σ H { s with heap := h' } := I.turned (t' := s.toks) (fun b ob hb e => (sb.2 b hb).trans e) f0 f1 f3 f4 f5
    obtain ⟨oi, e, c, dd⟩ := id st'
    exact ⟨_, rfl, go_of (s := { s with heap := h' }) e c dd (by decide) ⟨_, H, I1, ru, ⟨rfl, _, hk, rfl⟩, st', fun b hb => (hf b hb).1⟩⟩
  done := by
    intro X hP hw hK hc i pins s σ H E I hf st hg
    subst hP hw hK
    obtain ⟨ha, hi⟩ := hg
    obtain ⟨f0, f1, f2, f3, f4, f5⟩ := hf it (by simp)
    have hs : es.size = kvs.length := by rw [← Paired.len hp, Array.length_toList]
    exact wpAny_pyNext_keys_end_raw (I.ok.hd hc) st ⟨o, dO_get I ha, ex, hd⟩ (by omega) fun h' eb => ⟨rfl, I.turned (t' := s.toks) (fun b ob hb e => eb b ob hb e) f0 f1 f3 f4 f5⟩
  self := fun A i s Q E st h => wpAny_pyIter_keyiter st h
theorem turn_ditems {elts : List Expr} {kk : Nat} {tpos : Pos} (it : Addr) (ex : o.ExactDict) (hd : o.data = .dict es ep) (hp : Paired (EntOk w) es.toList kvs) :
    Turn P w K (.Tuple elts kk tpos) (ItP a o kvs) [it] it (fun i h => ∃ ok ov, IsItemIter h it a i es.size ep ok ov) where
  mem := by simp
  obj := fun i h st b hb => by
    obtain rfl : b = it := by simpa using hb
    obtain ⟨ok, ov, e⟩ := st
    exact ⟨_, e, fun v z => nomatch z⟩
  keep := fun i h h' st k => let ⟨ok, ov, e⟩ := st; ⟨ok, ov, k it (by simp) _ e⟩
  item := by
    intro X hP hw hK hc i pins s σ H E I hf st hg
    subst hP hw hK
    obtain ⟨ha, hi⟩ := hg
    have hs : es.size = kvs.length := by rw [← Paired.len hp, Array.length_toList]
    have hi' : i < es.size := by omega
    have hk : kvs[i]? = some kvs[i] := List.getElem?_eq_getElem hi
    obtain ⟨r1, r2⟩ := ent_at hp hi' hk
    obtain ⟨ok, ov, he⟩ := st
    have hlt : it < s.heap.objs.size := Heap.lt_size he
    refine wpAny_pyNext_items_item_raw he ⟨o, dO_get I ha, ex, hd⟩ hi' fun h' ho hT hz hk' => ?_
    refine ⟨_, rfl, wpAny_letOwnedTupleGo_items (s := { s with heap := h' }) ho fun h'' he' sb => ?_⟩
    have hT2 : h''.get? s.heap.objs.size = some { cls := .type "tuple", data := .seq #[es[i].key, es[i].val] } := (sb.2 _ (Nat.ne_of_gt hlt)).trans hT
    have new : ObjOk X.prog X.w (upd H s.heap.objs.size (.tup [kvs[i].2.1, kvs[i].2.2])) h'' s.heap.objs.size (.tup [kvs[i].2.1, kvs[i].2.2]) :=
      ⟨by show 2 ≤ sizeLine; decide, [es[i].key, es[i].val], .cons r1 (.cons r2 .nil), ⟨_, hT2, rfl, _, rfl⟩⟩
    have I1 : L2.Inv X pins σ (upd H s.heap.objs.size (.tup [kvs[i].2.1, kvs[i].2.2])) { s with heap := h'' } :=
      I.turnedNew (t' := s.toks) (ch := [it]) (fun b ob hb e => (sb.2 b (by simpa using hb)).trans (hk' b ob (by simpa using hb) e)) hf (Nat.le_refl _) new
    refine ⟨.ref s.heap.objs.size, _, I1, rfl, ⟨_, _, hk, rfl, I.hok.fresh (Nat.le_refl _), rfl⟩, ⟨_, _, he'⟩, fun b hb => ?_⟩
    obtain rfl : b = it := by simpa using hb
    rw [upd_ne (Nat.ne_of_lt hlt)]
    exact (hf b (by simp)).1
  done := by
    intro X hP hw hK hc i pins s σ H E I hf st hg
    subst hP hw hK
    obtain ⟨ha, hi⟩ := hg
    obtain ⟨f0, f1, f2, f3, f4, f5⟩ := hf it (by simp)
    have hs : es.size = kvs.length := by rw [← Paired.len hp, Array.length_toList]
    obtain ⟨ok, ov, he⟩ := st
    exact wpAny_pyNext_items_end_raw (I.ok.hd hc) he ⟨o, dO_get I ha, ex, hd⟩ (by omega) fun h' eb => ⟨rfl, I.turned (t' := s.toks) (fun b ob hb e => eb b ob hb e) f0 f1 f3 f4 f5⟩
  self := fun A i s Q E st h => let ⟨_, _, e⟩ := st; PySem.W.kcp_self e h
end
def iDKeys (w : World) (td : TE) : TI := fun σ H R => td σ H fun x H1 => ∃ a o kvs, x = .ref a ∧ H1 a = some (dO a o) ∧ DHas w a o kvs ∧ R (ItD a o kvs) H1
def iDItems (w : World) (td : TE) : TI := fun σ H R => td σ H fun x H1 => ∃ a o kvs, x = .ref a ∧ H1 a = some (dO a o) ∧ DHas w a o kvs ∧ R (ItP a o kvs) H1
section
variable {X : Cx} {tg e : Expr} {td : TE} {apos cpos : Pos}
theorem pi_dkeys (he : PE X e td) : PI X tg e (iDKeys X.w td) := by
  refine ⟨fun pins s σ H R I h => thn (he.run pins s σ H _ I h) fun u s1 ⟨x, H1, I1, rx, a, o, kvs, ex, ha, r, q⟩ => ?_⟩
  subst ex
  cases rx
  obtain ⟨es, ep, hd, hp⟩ := r.en
  exact wpAny_pyIter_dict_raw r.ne ⟨o, dO_get I1 ha, r.ex, hd⟩ (pi_one (tk := s1.toks) I1 _ (turn_dkeys _ r.ex hd hp) ⟨_, Heap.get?_push_size _ rfl, rfl, rfl⟩ q)
theorem pi_ditems {elts : List Expr} {kk : Nat} {tpos : Pos} (he : PE X e td) (hbase : attributeBase e "items" X.env (eval e X.env) = eval e X.env) (hline : (apos.endLine == cpos.line) = true) :
    PI X (.Tuple elts kk tpos) (.Call (.Attribute e "items" apos) [] [] cpos) (iDItems X.w td) := by
  refine ⟨fun pins s σ H R I h => ?_⟩
  refine wpAny_Call_method (T := "dict") (id := "dict.items") hbase rfl hline F.plainAttrs_dict F.slot_dict_items F.type_dict_items (thn (he.run pins s σ H _ I h) fun u s1 ⟨x, H1, I1, rx, a, o, kvs, ex, ha, r, q⟩ => ?_)
  subst ex
  cases rx
  obtain ⟨es, ep, hd, hp⟩ := r.en
  have hr : s1.heap.DictRaw a es ep := ⟨o, dO_get I1 ha, r.ex, hd⟩
  refine ⟨hr.typeIs, fun b z => by cases z; exact ⟨o, dO_get I1 ha, r.ex.2.1⟩, ?_⟩
  have I2 : L2.Inv X pins σ H1 { s1 with heap := s1.heap.push { cls := .type "dict_items", data := .fields #[.ref a] } } := I1.kept (t' := s1.toks) fun b ob q => Heap.get?_push_of_some _ q
  have fin : wpAny (model X.prog X.w) X.A (pyIter (.ref s1.heap.objs.size)) (PIE X pins σ (.Tuple elts kk tpos) R) X.xe { s1 with heap := s1.heap.push { cls := .type "dict_items", data := .fields #[.ref a] } } :=
    wpAny_pyIter_items_raw (d := a) (es := es) (ep := ep) ⟨_, Heap.get?_push_size _ rfl, rfl, rfl⟩ (hr.push _) (pi_one (tk := s1.toks) I2 _ (turn_ditems _ r.ex hd hp) ⟨.none, .none, Heap.get?_push_size _ rfl⟩ q)
  show wpAny _ _ (callWith cpos (.builtin "dict.items") [.ref a] [] []) _ X.xe s1
  exact method_meetsIn F.slot_dict_items F.entry_dict_items rfl (PySem.evalArgs_none ⟨rfl, hr.typeIs, F.args_dict_items_1 _, _, meets_dict_items_raw a r.ne, ⟨es, ep, hr⟩, fin⟩)
end
/-! what the walks give -/
section
variable {w : World} {K : PySem.W.Frag} {F B : Hp} {a : Addr} {o : Obj} {kvs : List Ent} {ds : List (D × D)}
theorem ens_get (h : Ens w K F kvs ds) {i : Nat} {d : D} (hd : (ds.map (·.1))[i]? = some d) : ∃ p, kvs[i]? = some p ∧ Dr w K F p.2.1 d := by
  rw [List.getElem?_map] at hd
  obtain ⟨q, hq, rfl⟩ := Option.map_eq_some_iff.mp hd
  have hlt : i < kvs.length := by
    rw [Paired.len h]
    exact (List.getElem?_eq_some_iff.mp hq).1
  exact ⟨kvs[i], List.getElem?_eq_getElem hlt, (Paired.get h i _ _ (List.getElem?_eq_getElem hlt) hq).2.1⟩
theorem walk_dkeys {p : Bool} (hB : B a = some (dO a o)) (h : Ens w K F kvs ds) : WalkOk p w K F B (ItD a o kvs) (ds.map (·.1)) := by
  intro H F' e1 e2 e3
  have hH := e3 _ _ hB
  refine ⟨⟨hH, by rw [List.length_map, Paired.len h]; exact Nat.le_refl _⟩, fun i d hd => ?_⟩
  obtain ⟨p, hp, hr⟩ := ens_get h hd
  refine ⟨⟨hH, (List.getElem?_eq_some_iff.mp hp).1⟩, fun x H' hy => ?_⟩
  obtain ⟨rfl, p', hp', rfl⟩ := hy
  rw [hp] at hp'
  cases hp'
  exact ⟨F', Ext.refl e2, .inl (hr.mono e1)⟩
theorem walk_ditems (hB : B a = some (dO a o)) (h : Ens w K F kvs ds) : WalkOk true w K F B (ItP a o kvs) (ds.map fun p => .tuple [p.1, p.2]) := by
  intro H F' e1 e2 e3
  have hH := e3 _ _ hB
  refine ⟨⟨hH, by rw [List.length_map, Paired.len h]; exact Nat.le_refl _⟩, fun i d hd => ?_⟩
  rw [List.getElem?_map] at hd
  obtain ⟨q, hq, rfl⟩ := Option.map_eq_some_iff.mp hd
  have hlt : i < kvs.length := by
    rw [Paired.len h]
    exact (List.getElem?_eq_some_iff.mp hq).1
  have hr := Paired.get h i _ _ (List.getElem?_eq_getElem hlt) hq
  refine ⟨⟨hH, hlt⟩, fun x H' hy => ?_⟩
  obtain ⟨T, p', hp', rfl, hT, rfl⟩ := hy
  rw [List.getElem?_eq_getElem hlt] at hp'
  cases hp'
  exact pair_new e2 hT (hr.2.1.mono e1) (hr.2.2.mono e1)
end
end KD
/-! KdPut: many entries stored, one behind the other. -/
namespace KD
open PySem PySem.Spec
open PyProof.Rows L2
def vputs (acc l : List Ent) : List Ent := l.foldl (fun a p => vput a p.1 p.2.1 p.2.2) acc
theorem vputs_cons (acc : List Ent) (p : Ent) (l : List Ent) : vputs acc (p :: l) = vputs (vput acc p.1 p.2.1 p.2.2) l := rfl
theorem vputs_len : ∀ (l acc : List Ent), (vputs acc l).length ≤ acc.length + l.length
  | [], acc => Nat.le_refl _
  | p :: l, acc => by
    have h1 := vputs_len l (vput acc p.1 p.2.1 p.2.2)
    have h2 := vput_len acc p.1 p.2.1 p.2.2
    rw [vputs_cons, List.length_cons]
    omega
theorem vput_keys (kvs : List Ent) (k : NestedKey) (x y : V) : (vput kvs k x y).map (·.1) = if k ∈ kvs.map (·.1) then kvs.map (·.1) else kvs.map (·.1) ++ [k] := by
  induction kvs with
  | nil => simp [vput]
  | cons p r ih =>
    rw [vput]
    by_cases h : p.1 = k
    · rw [if_pos h, List.map_cons, List.map_cons, if_pos (by rw [h]; exact List.mem_cons_self)]
    · rw [if_neg h, List.map_cons, ih, List.map_cons]
      by_cases hm : k ∈ r.map (·.1)
      · rw [if_pos hm, if_pos (List.mem_cons_of_mem _ hm)]
      · rw [if_neg hm, if_neg (by rw [List.mem_cons, not_or]; exact ⟨fun z => h z.symm, hm⟩)]
        rfl
theorem vput_nodup {kvs : List Ent} (h : (kvs.map (·.1)).Nodup) (k : NestedKey) (x y : V) : ((vput kvs k x y).map (·.1)).Nodup := by
  rw [vput_keys]
  split
  · exact h
  · rename_i hm
    exact List.nodup_append.mpr ⟨h, by simp, fun a ha b hb => by
      rw [List.mem_singleton.mp hb]
      rintro rfl
      exact hm ha⟩
section
variable {w : World} {K : PySem.W.Frag} {F : Hp}
theorem puts_ens : ∀ {ents acc : List Ent} {l dacc r : List (D × D)}, Ens w K F acc dacc → Ens w K F ents l → dputs dacc l = some r → Ens w K F (vputs acc ents) r
  | _, acc, [], dacc, r, ha, .nil, h => by
    rw [dputs] at h
    cases h
    exact ha
  | _, acc, (d, e) :: l, dacc, r, ha, .cons (a := p) q t, h => by
    rw [dputs] at h
    split at h
    · rename_i k hk
      obtain ⟨q1, q2, q3⟩ := q
      obtain ⟨k1, k2, k3⟩ := keyAt_ok hk
      have q1 : keyOf d = some p.1 := q1
      rw [q1] at k1
      cases k1
      rw [vputs_cons]
      exact puts_ens (ha.put q1 q2 q3) t h
    · cases h
theorem dset_keys : ∀ (k : NestedKey) (a v : D) (l : List (D × D)), ∀ p ∈ dset k a v l, p.1 = a ∨ ∃ q ∈ l, q.1 = p.1
  | k, a, v, [], p, h => by
    rw [dset, List.mem_singleton] at h
    exact .inl (by rw [h])
  | k, a, v, (b, w) :: r, p, h => by
    rw [dset] at h
    split at h
    · rcases List.mem_cons.mp h with e | h
      · exact .inr ⟨(b, w), List.mem_cons_self, by rw [e]⟩
      · exact .inr ⟨p, List.mem_cons_of_mem _ h, rfl⟩
    · rcases List.mem_cons.mp h with e | h
      · exact .inr ⟨(b, w), List.mem_cons_self, by rw [e]⟩
      · rcases dset_keys k a v r p h with e | ⟨q, hq, e⟩
        · exact .inl e
        · exact .inr ⟨q, List.mem_cons_of_mem _ hq, e⟩
theorem dset_ne {k : NestedKey} {a v : D} {l : List (D × D)} : dset k a v l ≠ [] := by
  cases l with
  | nil => simp [dset]
  | cons p r =>
    obtain ⟨b, w⟩ := p
    rw [dset]
    split <;> simp
theorem dputs_flv (f : Nat) : ∀ {l acc r : List (D × D)}, dputs acc l = some r → acc ≠ [] → (∀ p ∈ acc, flv p.1 = f) → ∀ p ∈ l, flv p.1 = f ∧ ∃ k, keyOf p.1 = some k ∧ k.depth ≤ 8
  | [], _, _, _, _, _, p, hp => by simp at hp
  | (a, v) :: l, acc, r, h, hne, hf, p, hp => by
    rw [dputs] at h
    split at h
    · rename_i k hk
      obtain ⟨k1, k2, k3⟩ := keyAt_ok hk
      have fa : flv a = f := by
        cases acc with
        | nil => exact absurd rfl hne
        | cons q acc => rw [← k3 q List.mem_cons_self, hf q List.mem_cons_self]
      rcases List.mem_cons.mp hp with e | hp
      · rw [e]
        exact ⟨fa, k, k1, k2⟩
      · refine dputs_flv f h dset_ne (fun q hq => ?_) p hp
        rcases dset_keys _ _ _ _ q hq with e | ⟨q', hq', e⟩
        · rw [e, fa]
        · rw [← e, hf q' hq']
    · cases h
/-- one kind of keys alone -/
theorem dputs_kind {l r : List (D × D)} (h : dputs [] l = some r) : ∃ f, f < 2 ∧ ∀ p ∈ l, flv p.1 = f ∧ ∃ k, keyOf p.1 = some k ∧ k.depth ≤ 8 := by
  cases l with
  | nil => exact ⟨0, by omega, fun p hp => by simp at hp⟩
  | cons q l =>
    obtain ⟨a, v⟩ := q
    rw [dputs] at h
    split at h
    · rename_i k hk
      obtain ⟨k1, k2, k3⟩ := keyAt_ok hk
      refine ⟨flv a, keyOf_flv k1, fun p hp => ?_⟩
      rcases List.mem_cons.mp hp with e | hp
      · rw [e]
        exact ⟨rfl, k, k1, k2⟩
      · exact dputs_flv (flv a) h dset_ne (fun q hq => by
          rcases dset_keys _ _ _ _ q hq with e | ⟨q', hq', e⟩
          · rw [e]
          · simp at hq') p hp
    · cases h
theorem puts_rs : ∀ {ents acc : List Ent} {rs vs : List (Leaf × Value)}, Paired RS acc vs → (acc.map (·.1)).Nodup → Paired RS ents rs → Paired RS (vputs acc ents) (merged vs rs)
  | _, acc, _, vs, ha, hn, .nil => ha
  | _, acc, _, vs, ha, hn, .cons (a := p) (b := q) h t => by
    have hv : (vs.map (·.1)).Nodup := key_map (by rw [← rs_keys ha]; exact hn)
    have h1 := rs_put ha hv q.1 h.2.2
    rw [← h.1, ← h.2.1] at h1
    rw [vputs_cons]
    exact puts_rs (vs := stored vs _ _) h1 (vput_nodup hn _ _ _) t
theorem puts_rt : ∀ {ents acc : List Ent} {rs vs : List (NestedKey × Addr × Value)}, Paired RT acc vs → (acc.map (·.1)).Nodup → Paired RT ents rs → Paired RT (vputs acc ents) (storedAllH vs rs)
  | _, acc, _, vs, ha, hn, .nil => ha
  | _, acc, _, vs, ha, hn, .cons (a := p) (b := q) h t => by
    have hv : (vs.map (·.1)).Nodup := by rw [← rt_keys ha]; exact hn
    have h1 := rt_put ha hv q.1 q.2.1 h.2.2
    rw [← h.1] at h1
    rw [vputs_cons, h.2.1]
    have h2 := puts_rt (vs := storedH vs p.1 q.2.1 q.2.2) h1 (vput_nodup hn _ _ _) t
    rw [h.1] at h2 ⊢
    exact h2
end
/-! the empty dict -/
def emptyO : Obj := { cls := .type "dict", data := .dict #[] }
theorem has_empty {w : World} {a : Addr} (ha : (a == sysModules) = false) : DHas w a emptyO [] := ⟨ha, ⟨rfl, rfl, rfl⟩, ⟨#[], 0, rfl, .nil⟩, List.nodup_nil, Nat.zero_le _, fun p hp => by simp at hp⟩
theorem fresh_ne {X : Cx} {pins : List (Addr × Obj)} {σ : L2.St} {H : Hp} {s : Shared} (I : L2.Inv X pins σ H s) {p : Addr} (hp : s.heap.objs.size ≤ p) : (p == sysModules) = false := beq_eq_false_iff_ne.mpr (Nat.ne_of_gt (Nat.lt_of_lt_of_le I.big hp))
section
variable {P : Program} {w : World} {A : Around} {E : Value → Shared → Prop} {s : Shared}
/-- {k: v, ..} whose keys are tuples, by their addresses -/
theorem disp_heap {env : PySem.Env} {keys : List (Option Expr)} {values : List Expr} {pos : Pos} {Q : Value → Shared → Prop} (hu : A.units + 8 < cLine) (hall : keys.all (·.isSome) = true) (hl : keys.length = values.length) (h0 : keys ≠ []) (h15 : keys.length ≤ 15)
    (h : wpAny (model P w) A (evalPairs (pairTrees keys values env pos)) (fun vs s₁ => ∃ ps, CarriesH (nestedKind P w) s₁.heap vs ps ∧ s₁.heap.DictOfH (nestedKind P w) s.heap.objs.size [] ∧
      ∀ h' tk, h'.DictOfH (nestedKind P w) s.heap.objs.size (storedAllH [] ps) → Heap.SameBut s.heap.objs.size s₁.heap h' → Q (.ref s.heap.objs.size) { s₁ with heap := h', toks := tk }) E
      { s with heap := s.heap.push { cls := .type "dict", data := .dict #[] } }) : wpAny (model P w) A (eval (.Dict keys values pos) env) Q E s := by
  have hn := pairTrees_length keys values env pos hall hl
  rw [arm_eval_Dict, zip_pairTrees keys values env pos hall hl, dictDisplay_pairs (pairTrees keys values env pos) (fun e => h0 (List.length_eq_zero_iff.mp (by rw [← hn, e]; rfl))) (by omega)]
  refine wpAny_bind (wpAny_standAt (wpAny_bind (wpAny_subDictH (knd := nestedKind P w) (Q := fun d s' => wpAny (model P w) A (pure (Value.ref d)) Q E s') hu (by omega) (wpAny_mono h (fun vs s₁ h₁ => ?_) fun _ _ e => e))))
  obtain ⟨ps, hc, hm, hq⟩ := h₁
  exact ⟨ps, hc, hm, fun h' tk a b => wpAny_pure (hq h' tk a b)⟩
end
section
variable {X : Cx} {pins : List (Addr × Obj)} {σ : L2.St} {F H : Hp} {s : Shared} {a : Addr} {l : List (D × D)} {r : List (D × D)} {ents : List Ent}
theorem plain_ents {w : World} {K : PySem.W.Frag} : ∀ {ents : List Ent} {l : List (D × D)} {ws : List (Value × Value)}, Ens w K F ents l → (∀ p ∈ l, flv p.1 = 0) → VV (ents.map fun p => (p.2.1, p.2.2)) ws → ∃ rs : List (Leaf × Value), Paired RS ents rs ∧ rs.length = ws.length ∧
    ∀ (j : Nat) u v, ws[j]? = some (u, v) → ∃ k, rs[j]? = some (k, v) ∧ exIs k u = true
  | _, _, _, .nil, _, r => by
    cases r
    exact ⟨[], .nil, rfl, fun j u v h => by simp at h⟩
  | _, _, _, .cons (a := p) (b := q) h t, hf, r => by
    cases r with
    | @cons _ b _ ws r1 r2 =>
      obtain ⟨rs, i1, i2, i3⟩ := plain_ents t (fun p hp => hf p (List.mem_cons_of_mem _ hp)) r2
      obtain ⟨k, k1, k2⟩ := flv0' h.2.1 h.1 (hf q List.mem_cons_self)
      refine ⟨(k, b.2) :: rs, .cons ⟨k1, k2, r1.2⟩ i1, by rw [List.length_cons, List.length_cons, i2], fun j u v hj => ?_⟩
      cases j with
      | zero =>
        simp at hj
        subst hj
        exact ⟨k, rfl, exIs_iff.mpr (by rw [← k2]; exact r1.1)⟩
      | succ j =>
        obtain ⟨k', e1, e2⟩ := i3 j u v (by simpa using hj)
        exact ⟨k', by simpa using e1, e2⟩
where
  flv0' {w : World} {K : PySem.W.Frag} {F : Hp} {x : V} {d : D} {k : NestedKey} (h : Dr w K F x d) (hk : keyOf d = some k) (hf : flv d = 0) : ∃ l : Leaf, k = l.key ∧ x = leafV l := by
    cases d with
    | none => cases h; simp only [keyOf] at hk; cases hk; exact ⟨.none, rfl, rfl⟩
    | int i => cases h; simp only [keyOf] at hk; cases hk; exact ⟨.num i, rfl, rfl⟩
    | str z => cases h; simp only [keyOf] at hk; cases hk; exact ⟨.text z, rfl, rfl⟩
    | _ => simp [flv] at hf
theorem tup_ents (I : L2.Inv X pins σ H s) (e : Same F H) : ∀ {ents : List Ent} {l : List (D × D)} {ws : List (Value × Value)}, Ens X.w X.K F ents l → (∀ p ∈ l, flv p.1 = 1 ∧ ∃ k, keyOf p.1 = some k ∧ k.depth ≤ 8) → VV (ents.map fun p => (p.2.1, p.2.2)) ws →
    ∃ rs : List (NestedKey × Addr × Value), Paired RT ents rs ∧ rs.length = ws.length ∧ (∀ (j : Nat) u v, ws[j]? = some (u, v) → ∃ k b, rs[j]? = some (k, b, v) ∧ u = .ref b) ∧ ∀ x ∈ rs, (nestedKind X.prog X.w).is s.heap x.1 x.2.1
  | _, _, _, .nil, _, r => by
    cases r
    exact ⟨[], .nil, rfl, fun j u v h => by simp at h, fun x hx => by simp at hx⟩
  | _, _, _, .cons (a := p) (b := q) h t, hf, r => by
    cases r with
    | @cons _ b _ ws r1 r2 =>
      obtain ⟨rs, i1, i2, i3, i4⟩ := tup_ents I e t (fun p hp => hf p (List.mem_cons_of_mem _ hp)) r2
      obtain ⟨f1, k', f2, f3⟩ := hf q List.mem_cons_self
      obtain ⟨c, hc⟩ := flv1 h.2.1 f1
      have ru : b.1 = Value.ref c := by
        have := r1.1
        rw [hc] at this
        exact this
      have hk : k' = p.1 := by
        have := h.1
        rw [f2] at this
        exact Option.some.inj this
      subst hk
      refine ⟨(p.1, c, b.2) :: rs, .cons ⟨rfl, hc, r1.2⟩ i1, by rw [List.length_cons, List.length_cons, i2], fun j u v hj => ?_, fun x hx => ?_⟩
      · cases j with
        | zero =>
          simp at hj
          subst hj
          exact ⟨p.1, c, rfl, ru⟩
        | succ j =>
          obtain ⟨k', b', e1, e2⟩ := i3 j u v (by simpa using hj)
          exact ⟨k', b', by simpa using e1, e2⟩
      · rcases List.mem_cons.mp hx with q' | q'
        · rw [q']
          exact ⟨Dr.nested I e q.1 (v := .ref c) (by have := h.2.1; rw [hc] at this; exact this) h.1 rfl, f3⟩
        · exact i4 x q'
end
end KD
/-! KdCopy: dict(d), the one key a tuple. -/
namespace KD
open PySem PySem.Spec PySem.W
open PyProof.Rows L2
section
variable {prog : Program} {w : World} {K : Type} [DecidableEq K] {knd : HeapKind prog w K} {A : Around} {E : Value → Shared → Prop} {s : Shared}
theorem kt_call_dictH {o : Addr} {more : List (K × Addr × Value)} {Q : Value → Shared → Prop} (hu : ∀ A' : Around, A'.units ≤ A.units + 3 → knd.room A') (hoS : (o == sysModules) = false) (ho : s.heap.DictOfH knd o more) (hsz : more.length ≤ sizeLine)
    (hty : ∀ x ∈ more, s.TypeIs (.ref x.2.1) "tuple") (hap : (more.map fun x => knd.hash x.1).Nodup) (stay : ∀ ob, ∀ x ∈ more, knd.is (s.heap.push ob) x.1 x.2.1)
    (h : ∀ h', h'.DictOfH knd s.heap.objs.size more → Heap.SameBut s.heap.objs.size (s.heap.push { cls := .type "dict", data := .dict #[] }) h' → Q (.ref s.heap.objs.size) { s with heap := h' }) :
    wpAny (model prog w) A (call (.type "dict") [.ref o]) Q E s := by
  refine callType_codes (Q₁ := fun obj s₁ => obj = .ref s.heap.objs.size ∧ s₁ = { s with heap := s.heap.push { cls := .type "dict", data := .dict #[] } }) F.kt_called_dict (F.kt_typeCall_dict_1 _) F.entry_dict_init (kt_code_dict_new _ ⟨rfl, rfl⟩) ?_
  rintro obj s₁ ⟨rfl, rfl⟩
  have hnew : (s.heap.push { cls := .type "dict", data := .dict #[] }).DictOfH knd s.heap.objs.size [] := Heap.DictOfH.new s.heap
  have ho' : (s.heap.push { cls := .type "dict", data := .dict #[] }).DictOfH knd o more := by
    obtain ⟨ob, es, ep, e1, e2, e3, e4, e5, e6⟩ := ho
    exact ⟨ob, es, ep, Heap.get?_push_of_some _ e1, e2, e3, e4, stay _, e6⟩
  have hdo : s.heap.objs.size ≠ o := by
    obtain ⟨_, _, _, hg, _⟩ := ho
    exact fun e => absurd (Heap.lt_size hg) (by rw [e]; exact Nat.lt_irrefl _)
  refine ⟨hnew.typeIs, F.args_dict_init_2 _ _, ?_⟩
  unfold Builtin.«dict.__init__»
  refine wpAny_bind ?_
  unfold Builtin.Dict.selfAndRest
  refine wpAny_bind (wpAny_notOrdered_dict hnew.typeIs ?_)
  show wpAny _ _ (pure (s.heap.objs.size, [Value.ref o])) _ _ _
  refine wpAny_pure ?_
  show wpAny _ _ (Builtin.Dict.updateFrom "dict.__init__" s.heap.objs.size (.ref o) [] .none) _ _ _
  unfold Builtin.Dict.updateFrom
  refine wpAny_bind (wpAny_typeOf ho'.typeIs ?_)
  rw [if_neg (by decide)]
  refine wpAny_bind ?_
  unfold Builtin.Dict.merge
  refine wpAny_bind ?_
  unfold Builtin.Dict.readDirectly
  refine wpAny_bind (wpAny_isInstance ho'.typeIs isSubtype_dict_dict ?_)
  simp only [Bool.not_true, Bool.false_eq_true, if_false]
  refine wpAny_bind (wpAny_specialOf ho'.typeIs F.slot_dict_iter.lookup (wpAny_pure ?_))
  simp only [beq_self_eq_true, if_true]
  refine wpAny_bind (wpAny_pure ?_)
  have hty' : ∀ x ∈ more, ({ s with heap := s.heap.push { cls := .type "dict", data := .dict #[] } } : Shared).TypeIs (.ref x.2.1) "tuple" := fun x hx => by
    obtain ⟨ob, e1, e2⟩ := hty x hx
    exact ⟨ob, Heap.get?_push_of_some _ e1, e2⟩
  refine wpAny_mergeDict_heap (hsz := by simpa using hsz) (hu _ ?_) hdo hoS hnew ho' (.inr ⟨hty', hap⟩) fun h' hd' _ hs' => ?_
  · first | (show A.units + 1 + 1 ≤ A.units + 3; omega) | (show A.units + 1 ≤ A.units + 3; omega) | (show A.units ≤ A.units + 3; omega)
  show wpAny _ _ (Builtin.Dict.addKeywords s.heap.objs.size [] >>= _) _ _ _
  rw [storedAllH_nil_of_nodup more ho.nodup] at hd'
  exact wpAny_bind (wpAny_pure (wpAny_pure ⟨rfl, h h' hd' hs'⟩))
end
end KD
/-! KdDisp: dicts made: {..}, dict(..); d.get(k, x). -/
namespace KD
open PySem PySem.Spec
open PyProof.Rows L2
/-- for a new object that nothing else holds -/
def FinN (X : Cx) (F H : Hp) (d : D) (Q : VK) : Prop := ∀ l o F' H', Ext F H F' H' → H l = none → F' l = none → H' l = some o → Cont X.w X.K F' l o d → Q (.ref l) H'
def rBltN (X : Cx) (b : Blt) : List V → Hp → VK → Prop := fun vs H Q => ∃ F ds d, Same F H ∧ BrAll X F H vs ds ∧ bltD b ds = .ok d ∧ FinN X F H d Q
section
variable {X : Cx} {pins : List (Addr × Obj)} {σ : L2.St} {F H : Hp} {s : Shared} {a : Addr} {d : D} {Q : VK}
theorem plT_seq (I : L2.Inv X pins σ H s) (e : Same F H) {xs : List V} (h : PlT X.K F a xs) : ∃ its : List Value, Vals xs its ∧ PlainSeq "tuple" s.heap a its.toArray ∧ xs.length ≤ sizeLine := by
  rcases h with ⟨o, h, hd⟩ | ⟨o, its, n, hk, hc, hd, hs, hz, r⟩
  · obtain ⟨hg, z, its, r, o', ho, hc, n, hs⟩ := I.hok a _ (e _ _ h)
    rw [hg] at ho
    cases ho
    exact ⟨its, r, ⟨o, n, hg, hc, hd, hs⟩, z⟩
  · refine ⟨its.toList, r, ⟨o, n, I.kIn a o hk, hc, hd, by simpa using hs⟩, ?_⟩
    have e := r.length
    simp only [Array.length_toList] at e
    omega
/-- the pairs of a list of pairs -/
theorem pair_ents (I : L2.Inv X pins σ H s) (e : Same F H) : ∀ {ds : List D} {l : List (D × D)} {xs : List V} {its : List Value}, pairsOf ds = some l → DrAllX X F xs ds → (∀ p ∈ l, ∃ k, keyOf p.1 = some k) → Vals xs its →
    ∃ (ents : List Ent) (ws : List (Value × Value)) (Ts : List Addr), Ens X.w X.K F ents l ∧ VV (ents.map fun p => (p.2.1, p.2.2)) ws ∧ its = Ts.map Value.ref ∧ Ts.length = ws.length ∧ ∀ (j : Nat) u v, ws[j]? = some (u, v) → ∃ T, Ts[j]? = some T ∧ IsTup s.heap T #[u, v]
  | [], l, xs, its, h, r, hk, rv => by
    rw [pairsOf] at h
    cases h
    rw [r.nil_inv] at rv
    cases rv
    exact ⟨[], [], [], .nil, .nil, rfl, rfl, fun j u v hj => by simp at hj⟩
  | d :: ds, l, xs, its, h, r, hk, rv => by
    obtain ⟨x, t, rfl, r1, r2⟩ := r.cons_inv
    cases rv with
    | @cons _ u _ us rv1 rv2 =>
      cases d with
      | tuple ps =>
        cases ps with
        | nil => simp [pairsOf] at h
        | cons k ps =>
          cases ps with
          | nil => simp [pairsOf] at h
          | cons v ps =>
            cases ps with
            | cons _ _ => simp [pairsOf] at h
            | nil =>
              rw [pairsOf] at h
              obtain ⟨l', hl, rfl⟩ := Option.map_eq_some_iff.mp h
              obtain ⟨ents, ws, Ts, i1, i2, i3, i4, i5⟩ := pair_ents I e hl r2 (fun p hp => hk p (List.mem_cons_of_mem _ hp)) rv2
              obtain ⟨kk, hkk⟩ := hk (k, v) List.mem_cons_self
              cases r1 with
              | @tup T ys _ hq hl' hi' =>
                obtain ⟨kx, t1, rfl, q1, q2⟩ := DrAll.cons_inv (xs := ys) ⟨hl', hi'⟩
                obtain ⟨vx, t2, rfl, q3, q4⟩ := q2.cons_inv
                obtain rfl := q4.nil_inv
                obtain ⟨jts, jr, jp, _⟩ := I.tuple (Same.sqT e hq.sq)
                cases jr with
                | @cons _ ku _ _ j1 j2 =>
                  cases j2 with
                  | @cons _ vu _ _ j3 j4 =>
                    cases j4
                    cases rv1
                    refine ⟨(kk, kx, vx) :: ents, (ku, vu) :: ws, T :: Ts, .cons ⟨hkk, q1, q3⟩ i1, .cons ⟨j1, j3⟩ i2, by rw [List.map_cons, i3], by simp [i4], fun j u v hj => ?_⟩
                    cases j with
                    | zero =>
                      simp at hj
                      obtain ⟨rfl, rfl⟩ := hj
                      exact ⟨T, rfl, jp⟩
                    | succ j =>
                      obtain ⟨T', e1, e2⟩ := i5 j u v (by simpa using hj)
                      exact ⟨T', by simpa using e1, e2⟩
      | _ => simp [pairsOf] at h
/-- a new dict behind a call -/
theorem lay_dict {h' : Heap} {tk : Nat} {p : Addr} {o : Obj} {kvs : List Ent} {ds : List (D × D)} (I : L2.Inv X pins σ H s) (e : Same F H) (k : ∀ b o, s.heap.get? b = some o → h'.get? b = some o) (hp : s.heap.objs.size ≤ p) (hg : h'.get? p = some o)
    (r : DHas X.w p o kvs) (en : Ens X.w X.K F kvs ds) (q : FinN X F H (.dict ds) Q) : EP X pins σ Q (.ref p) { s with heap := h', toks := tk } := by
  have hn := I.hok.fresh hp
  exact ⟨.ref p, upd H p (dO p o), I.laid k hp (dO_ok hg), rfl, q p (dO p o) F _ (Ext.open_ e hn) hn (same_free e hn) upd_same (en.cont r)⟩
theorem dict_seq (hc : X.calm = true) (hu : Big X) (I : L2.Inv X pins σ H s) (e : Same F H) {T : String} {ds : List D} {xs : List V} {its : List Value} (hT : T = "list" ∨ T = "tuple") (hq : PlainSeq T s.heap a its.toArray) (rv : Vals xs its) (hz : xs.length ≤ sizeLine) (r : DrAllX X F xs ds)
    (h : dictD ds = .ok d) (q : FinN X F H d Q) : wpAny (model X.prog X.w) X.A (call (.type "dict") [.ref a]) (EP X pins σ Q) X.xe s := by
  unfold dictD at h
  split at h
  · rename_i rr hr
    cases h
    obtain ⟨l, hl, hr⟩ := Option.bind_eq_some_iff.mp hr
    obtain ⟨f, hf, hk⟩ := dputs_kind hr
    obtain ⟨ents, ws, Ts, i1, i2, rfl, i4, i5⟩ := pair_ents I e hl r (fun p hp => let ⟨_, k, h1, _⟩ := hk p hp; ⟨k, h1⟩) rv
    have hpi : PairItems s.heap (Ts.map Value.ref).toArray (fun j => Ts.getD j 0) ws := by
      refine ⟨by simp [i4], fun j k v hj => ?_⟩
      obtain ⟨T, h1, h2⟩ := i5 j k v hj
      have hg : Ts.getD j 0 = T := by rw [List.getD_eq_getElem?_getD, h1]; rfl
      exact ⟨by show _ = some (Value.ref (Ts.getD j 0)); rw [hg]; simp [h1], .inl (by show IsTup s.heap (Ts.getD j 0) _; rw [hg]; exact h2)⟩
    have hlen : xs.length = ws.length := by
      have := rv.length
      rw [List.length_map, i4] at this
      exact this
    have hwz : ws.length ≤ sizeLine := by rw [← hlen]; exact hz
    have hel : ents.length = ws.length := by
      have := Paired.len i2
      rwa [List.length_map] at this
    have hsz : (vputs [] ents).length ≤ sizeLine := by
      have := vputs_len ents []
      rw [List.length_nil, Nat.zero_add, hel] at this
      exact Nat.le_trans this hwz
    have en := puts_ens (acc := []) .nil i1 hr
    have hh : X.A.handled = none := I.ok.hd hc
    have ne := fresh_ne I (Nat.le_refl s.heap.objs.size)
    rcases (show f = 0 ∨ f = 1 by omega) with rfl | rfl
    · obtain ⟨rs, j1, j2, j3⟩ := plain_ents i1 (fun p hp => (hk p hp).1) i2
      have fin : ∀ (h' : Heap) (tk : Nat), h'.DictOf (exKind X.prog X.w) s.heap.objs.size (merged [] rs) → (∀ b o, b ∉ ([] : List Addr) → s.heap.get? b = some o → h'.get? b = some o) → EP X pins σ Q (.ref s.heap.objs.size) { s with heap := h', toks := tk } := fun h' tk hd k => by
        obtain ⟨o, ho, hr'⟩ := DHas.of_plain hd (puts_rs (acc := []) .nil List.nodup_nil j1) ne hsz
        exact lay_dict I e (fun b o z => k b o (by simp) z) (Nat.le_refl _) ho hr' en q
      rcases hT with rfl | rfl
      · exact call_dict_pairs (knd := exKind X.prog X.w) (PairArg.list a _ _ ws) hh ⟨hq, hpi⟩ ⟨j2, fun i k v hi => j3 i k v hi⟩ hwz fin
      · exact call_dict_pairs (knd := exKind X.prog X.w) (PairArg.tuple a _ _ ws) hh ⟨hq, hpi⟩ ⟨j2, fun i k v hi => j3 i k v hi⟩ hwz fin
    · obtain ⟨rs, j1, j2, j3, j4⟩ := tup_ents I e i1 hk i2
      have fin : ∀ (h' : Heap) (tk : Nat), h'.DictOfH (nestedKind X.prog X.w) s.heap.objs.size (storedAllH [] rs) → (∀ b o, b ∉ ([] : List Addr) → s.heap.get? b = some o → h'.get? b = some o) → EP X pins σ Q (.ref s.heap.objs.size) { s with heap := h', toks := tk } := fun h' tk hd k => by
        obtain ⟨o, ho, hr'⟩ := DHas.of_tups hd (puts_rt (acc := []) .nil List.nodup_nil j1) ne hsz
        exact lay_dict I e (fun b o z => k b o (by simp) z) (Nat.le_refl _) ho hr' en q
      have stay : KeysStay (nestedKind X.prog X.w) s.heap s.heap.objs.size [] rs := fun h' k x hx => nestedKind_stays.stays (fun b o vs n hb _ => k b o (Nat.ne_of_lt (Heap.lt_size hb)) (by simp) hb) (j4 x hx)
      have room : X.A.units + 1 + 1 + 8 < cLine := by have := hu.le; omega
      rcases hT with rfl | rfl
      · exact call_dict_pairsH (knd := nestedKind X.prog X.w) (PairArg.list a _ _ ws) hh room ⟨hq, hpi⟩ ⟨j2, fun i k v hi => j3 i k v hi⟩ stay hwz fin
      · exact call_dict_pairsH (knd := nestedKind X.prog X.w) (PairArg.tuple a _ _ ws) hh room ⟨hq, hpi⟩ ⟨j2, fun i k v hi => j3 i k v hi⟩ stay hwz fin
  · cases h
theorem DHas.move {w : World} {a b : Addr} {o : Obj} {kvs : List Ent} (r : DHas w a o kvs) (ne : (b == sysModules) = false) : DHas w b o kvs := ⟨ne, r.ex, r.en, r.nd, r.sz, r.dp⟩
theorem flv_one {kvs : List (D × D)} (hok : dictOk kvs = true) (hl : kvs.length ≤ 1) (h0 : ¬ (kvs.all fun p => flv p.1 == 0) = true) : ∀ p ∈ kvs, flv p.1 = 1 := by
  cases kvs with
  | nil => exact fun p hp => nomatch hp
  | cons p r =>
    cases r with
    | cons q r => exact absurd hl (by rw [List.length_cons, List.length_cons]; omega)
    | nil =>
      intro p' hp'
      rw [List.mem_singleton] at hp'
      subst hp'
      unfold dictOk at hok
      rw [List.all_eq_true] at hok
      have h2 := of_decide_eq_true (hok p' List.mem_cons_self)
      have h3 : flv p'.1 ≠ 0 := fun z => h0 (by rw [List.all_cons, List.all_nil, Bool.and_true, beq_iff_eq]; exact z)
      omega
theorem nodup1 {α : Type} {l : List α} (h : l.length ≤ 1) : l.Nodup := by
  cases l with
  | nil => exact List.nodup_nil
  | cons a r =>
    cases r with
    | nil => exact List.pairwise_singleton _ _
    | cons b r => exact absurd h (by rw [List.length_cons, List.length_cons]; omega)
theorem nested_tup {h : Heap} {k : NestedKey} {b : Addr} (hi : NestedIs h k (.ref b)) : ∃ o, h.get? b = some o ∧ o.cls = .type "tuple" := by
  cases hi with
  | tup ho hc hd => exact ⟨_, ho, hc⟩
theorem c_dict (hc : X.calm = true) (hu : Big X) : CallR X (.type "dict") (rBltN X .dict) := by
  intro pins s σ H xs us Q I r ⟨F, ds, d, e, hb, h, q⟩
  obtain ⟨x, rfl⟩ := one_ds (fun x y r => by cases x <;> rfl) rfl h
  obtain ⟨v, rfl, hv⟩ := hb.one
  obtain ⟨u, rfl, ru⟩ := vals1 r
  cases x with
  | list l =>
    obtain ⟨a, ys, rfl, h1, h2⟩ := hv.list_inv e
    cases ru
    obtain ⟨its, rv, pl, hz⟩ := I.list (.inl (.inl h1))
    exact dict_seq hc hu I e (.inl rfl) pl rv hz h2 h q
  | tuple l =>
    obtain ⟨a, ys, rfl, h1, h2⟩ := hv.tuple_inv
    cases ru
    obtain ⟨its, rv, pl, hz⟩ := plT_seq I e h1
    exact dict_seq hc hu I e (.inr rfl) pl rv hz h2 h q
  | dict kvs =>
    have h : R.guard (dictOk kvs && ((kvs.all fun p => flv p.1 == 0) || decide (kvs.length ≤ 1))) (R.ok (PyData.dict kvs)) = R.ok d := h
    obtain ⟨hg, h⟩ := R.guard_ok h
    cases h
    rw [Bool.and_eq_true] at hg
    obtain ⟨a, o, es, rfl, ha, ra, ea⟩ := hv.dict_at e hg.1
    cases ru
    by_cases h0 : (kvs.all fun p => flv p.1 == 0) = true
    · rw [List.all_eq_true] at h0
      obtain ⟨vs, hd, hr⟩ := ra.plain (P := X.prog) (dO_get I ha) fun p hp => by
        obtain ⟨q', hq', q1, q2, q3⟩ := Paired.mem ea p hp
        exact flv0 q2 q1 (by simpa using h0 q' hq')
      refine kt_call_dict ra.ne hd (by rw [← Paired.len hr]; exact ra.sz) fun h' hd' hs => ?_
      obtain ⟨o', ho', hr'⟩ := DHas.of_plain hd' hr (fresh_ne I (Nat.le_refl _)) ra.sz
      exact lay_dict (tk := s.toks) I e (fun b o z => (hs.2 b (Nat.ne_of_lt (Heap.lt_size z))).trans (Heap.get?_push_of_some _ z)) (Nat.le_refl _) ho' hr' ea q
    · have hl : kvs.length ≤ 1 := by
        rcases Bool.or_eq_true _ _ ▸ hg.2 with z | z
        · exact absurd z h0
        · exact of_decide_eq_true z
      have f1 : ∀ p ∈ kvs, flv p.1 = 1 := flv_one hg.1 hl h0
      have hn : ∀ p ∈ es, ∃ b, p.2.1 = .ref b ∧ NestedIs s.heap p.1 (.ref b) := fun p hp => by
        obtain ⟨q', hq', q1, q2, q3⟩ := Paired.mem ea p hp
        obtain ⟨b, hb⟩ := flv1 q2 (f1 q' hq')
        exact ⟨b, hb, by
          rw [hb] at q2
          exact Dr.nested I e q'.1 q2 q1 rfl⟩
      obtain ⟨xs, hx, rx⟩ := ra.tups (P := X.prog) (dO_get I ha) hn
      have hxl : xs.length ≤ 1 := by rw [← Paired.len rx, Paired.len ea]; exact hl
      have room : ∀ A' : Around, A'.units ≤ X.A.units + 3 → (nestedKind X.prog X.w).room A' := fun A' hA => show A'.units + 8 < cLine by
        have hu : X.A.units + 100 < cLine := hu
        omega
      have hxi : ∀ x ∈ xs, (nestedKind X.prog X.w).is s.heap x.1 x.2.1 := by
        obtain ⟨_, _, _, _, _, _, _, e5, _⟩ := hx
        exact e5
      refine kt_call_dictH (knd := nestedKind X.prog X.w) room ra.ne hx (by rw [← Paired.len rx]; exact ra.sz) (fun x hx' => nested_tup (hxi x hx').1) (nodup1 (by rw [List.length_map]; exact hxl)) (fun ob x hx' => nestedKind_stays.stays (fun b o vs n hb _ => Heap.get?_push_of_some _ hb) (hxi x hx')) fun h' hd' hs => ?_
      obtain ⟨o', ho', hr'⟩ := DHas.of_tups hd' rx (fresh_ne I (Nat.le_refl _)) ra.sz
      exact lay_dict (tk := s.toks) I e (fun b o z => (hs.2 b (Nat.ne_of_lt (Heap.lt_size z))).trans (Heap.get?_push_of_some _ z)) (Nat.le_refl _) ho' hr' ea q
  | _ => cases h
end
/-! ### in the text -/
section
variable {T : Tb} {n : Nat} {X : Cx} {e f x y : Expr} {es l : List Expr} {ex a b c : Ex} {exs : List Ex} {pos p apos cpos : Pos}
theorem snd_dict (hX : XOk T n X) (hg : Gl X "dict") (hn : nst e = true) (h : PA X [e] (XEs T n X true [ex])) : PE X (.Call (.Name "dict" p) [e] [] pos) (XN T n X (.blt .dict [ex])) :=
  (pe_callTy (c_dict hX.calm hX.big) hg (hX.bl _ (by decide)) boot_dict h (by decide) (by decide) (star_nst hn) rfl).weak fun σ H Q ⟨H0, F0, F, ρ, d, g, hv, q⟩ => by
    simp only [ev] at hv
    obtain ⟨ds, hds, hv⟩ := R.bind_eq hv
    exact ⟨H0, F0, F, ρ, ds, g, hds, fun vs F1 H1 e1 hl r => ⟨F1, ds, d, e1.fh, ⟨hl, r⟩, hv, fun l o F' H' e' h1 h2 h3 h4 => q l o F' H' (e1.trans e') (Same.free e1.h h1) h2 h3 h4⟩⟩
/-- d.get(k, x) -/
theorem snd_get (hX : XOk T n X) (hs : nosup x = true) (hl : (apos.endLine == cpos.line) = true) (he : nst e = true) (hf : nst f = true) (ho : PE X x (XE T n X true a)) (h1 : PE X e (XE T n X false b)) (h2 : PE X f (XE T n X false c)) :
    PE X (.Call (.Attribute x "get" apos) [e, f] [] cpos) (XD T n X (.mth .get a [b, c])) := by
  refine ⟨fun pins s σ H Q I ⟨H0, F0, F, ρ, m, d, g, h, q⟩ => ?_⟩
  simp only [ev, evs] at h
  obtain ⟨dx, hx, h⟩ := R.bind_eq h
  obtain ⟨ds, hds, h⟩ := R.bind_eq h
  obtain ⟨dk, hk, hds⟩ := R.bind_eq hds
  obtain ⟨dr, hr, hds⟩ := R.bind_eq hds
  obtain ⟨dz, hz, hr⟩ := R.bind_eq hr
  cases hr
  cases hds
  obtain ⟨kvs, rfl⟩ : ∃ kvs, dx = .dict kvs := by cases dx <;> first | exact ⟨_, rfl⟩ | cases h
  have h : (match keyAt kvs dk with
    | some q => R.ok ((dfind q kvs).getD dz)
    | none => .bot) = R.ok d := h
  split at h
  · rename_i k hkey
    cases h
    have hok := keyAt_dictOk hkey
    refine wpAny_Call_method (base_nosup hs) (by rw [star_nst he, star_nst hf]; rfl) hl PySem.F.plainAttrs_dict PySem.F.slot_dict_get PySem.F.type_dict_get (thn (ho.run pins s σ H _ I ⟨H0, F0, F, ρ, _, g, hx, fun v F1 H1 e1 r1 =>
      (⟨F1, e1, r1⟩ : ∃ F1, Ext F H F1 H1 ∧ Vr X.w X.K true F1 H1 v (.dict kvs))⟩) fun u s1 ⟨v, H1, I1, rv, F1, e1, r1⟩ => ?_)
    obtain ⟨p, o, es, rfl, hp, rp, ep⟩ := r1.br.dict_at e1.fh hok
    cases rv
    have hg1 := dO_get I1 hp
    refine ⟨⟨o, hg1, rp.ex.1⟩, fun b z => by cases z; exact ⟨o, hg1, rp.ex.2.1⟩, ?_⟩
    have tr : backTo cpos (starEach [e, f] X.env) = [(false, eval e X.env), (false, eval f X.env)] := by
      rw [star_nst he, star_nst hf]
      rfl
    rw [tr]
    refine Calls.callWith_builtin rfl (Calls.evalArgs_plain (Calls.spliced_cons (thn (h1.run pins s1 σ H1 _ I1 ⟨H0, F0, F1, ρ, dk, g.ext e1, hk, fun v F2 H2 e2 r2 =>
      (⟨F2, e2, r2⟩ : ∃ F2, Ext F1 H1 F2 H2 ∧ Vr X.w X.K false F2 H2 v dk)⟩) fun ku s2 ⟨kv, H2, I2, rk, F2, e2, r2⟩ =>
      Calls.spliced_cons (thn (h2.run pins s2 σ H2 _ I2 ⟨H0, F0, F2, ρ, dz, (g.ext e1).ext e2, hz, fun v F3 H3 e3 r3 =>
      (⟨F3, e3, r3⟩ : ∃ F3, Ext F2 H2 F3 H3 ∧ Vr X.w X.K false F3 H3 v dz)⟩) fun zu s3 ⟨zv, H3, I3, rz, F3, e3, r3⟩ => Calls.spliced_nil ?_))))
    have hu20 : X.A.units + 20 < cLine := by have := hX.big.le; show X.A.units + 20 < cLine; omega
    have ep3 := ep.mono (e2.f.trans e3.f)
    refine D_get2 hu20 I3 e3.fh (e3.h _ _ (e2.h _ _ hp)) rp ep3 (Dr.mono r2 e3.f) rk hkey rz fun w' s4 I4 rw' => ⟨_, H3, I4, rw', ?_⟩
    rcases ep3.find k with ⟨y', e', f1, f2, f3⟩ | ⟨f1, f2⟩
    · rw [f1]
      refine q _ F3 H3 ((e1.trans e2).trans e3) ?_
      rw [f2]
      exact f3
    · rw [f1]
      refine q _ F3 H3 ((e1.trans e2).trans e3) ?_
      rw [f2]
      exact r3
  · cases h
/-! displays -/
abbrev trs (T : Tb) (n : Nat) (X : Cx) (ks vs : List Ex) : List (TE × TE) := (ks.zip vs).map fun p => (XE T n X false p.1, XE T n X false p.2)
theorem pps_of {keys : List (Option Expr)} {values : List Expr} {ks vs : List Ex} (hk : Paired (fun o ex => ∃ e, o = some e ∧ PE X e (XE T n X false ex)) keys ks) (hv : Paired (fun e ex => PE X e (XE T n X false ex)) values vs) (hl : keys.length = values.length) : PPs X pos keys values (trs T n X ks vs) := by
  induction hk generalizing values vs with
  | nil =>
    cases hv with
    | nil => exact pps_nil
    | cons _ _ => simp at hl
  | cons h t ih =>
    cases hv with
    | nil => simp at hl
    | cons h' t' =>
      obtain ⟨e, rfl, he⟩ := h
      exact pps_cons he h' (ih t' (by simpa using hl))
theorem pairs_imp {H0 F0 : Hp} {ρ : Env} {σ : L2.St} : ∀ {ks vs : List Ex} {kd vd : List D} {F H : Hp} {Q : List (V × V) → Hp → Prop}, Good X.prog X.w X.K H0 F0 σ H F ρ → evs (evFn T.P T.wf n) ρ false ks = .ok kd → evs (evFn T.P T.wf n) ρ false vs = .ok vd → ks.length = vs.length →
    (∀ ps F' H', Ext F H F' H' → Paired (fun p q => Dr X.w X.K F' p.1 q.1 ∧ Dr X.w X.K F' p.2 q.2) ps (kd.zip vd) → Q ps H') → tPairs (trs T n X ks vs) σ H Q
  | [], [], kd, vd, F, H, Q, g, h1, h2, hl, q => by
    simp only [evs] at h1 h2
    cases h1
    cases h2
    exact q [] F H (Ext.refl g.fh) .nil
  | k :: ks, v :: vs, kd, vd, F, H, Q, g, h1, h2, hl, q => by
    simp only [evs] at h1 h2
    obtain ⟨dk, hk, h1⟩ := R.bind_eq h1
    obtain ⟨kd', hk', h1⟩ := R.bind_eq h1
    obtain ⟨dv, hv, h2⟩ := R.bind_eq h2
    obtain ⟨vd', hv', h2⟩ := R.bind_eq h2
    cases h1
    cases h2
    refine ⟨H0, F0, F, ρ, dk, g, hk, fun x F1 H1 e1 r1 => ⟨H0, F0, F1, ρ, dv, g.ext e1, hv, fun y F2 H2 e2 r2 => ?_⟩⟩
    refine pairs_imp ((g.ext e1).ext e2) hk' hv' (by simpa using hl) fun ps F3 H3 e3 r3 => ?_
    exact q _ F3 H3 ((e1.trans e2).trans e3) (.cons ⟨Dr.mono r1 (e2.f.trans e3.f), Dr.mono r2 e3.f⟩ r3)
  | [], _ :: _, _, _, _, _, _, _, _, _, hl, _ => by simp at hl
  | _ :: _, [], _, _, _, _, _, _, _, _, hl, _ => by simp at hl
/-- entries of what was made -/
theorem ents_of {w : World} {K : PySem.W.Frag} {F : Hp} : ∀ {ps : List (V × V)} {l : List (D × D)}, Paired (fun p q => Dr w K F p.1 q.1 ∧ Dr w K F p.2 q.2) ps l → (∀ p ∈ l, ∃ k, keyOf p.1 = some k) → ∃ ents, Ens w K F ents l ∧ ents.map (fun p => (p.2.1, p.2.2)) = ps
  | _, _, .nil, _ => ⟨[], .nil, rfl⟩
  | _, _, .cons (a := p) (b := q) h t, hk => by
    obtain ⟨ents, i1, i2⟩ := ents_of t fun p hp => hk p (List.mem_cons_of_mem _ hp)
    obtain ⟨k, hk⟩ := hk q List.mem_cons_self
    exact ⟨(k, p.1, p.2) :: ents, .cons ⟨hk, h.1, h.2⟩ i1, by rw [List.map_cons, i2]⟩
theorem evs_len {call : Nat → List D → R D} {ρ : Env} {m : Bool} : ∀ {es : List Ex} {ds : List D}, evs call ρ m es = .ok ds → ds.length = es.length
  | [], ds, h => by
    simp only [evs] at h
    cases h
    rfl
  | e :: es, ds, h => by
    simp only [evs] at h
    obtain ⟨d, hd, h⟩ := R.bind_eq h
    obtain ⟨dr, hr, h⟩ := R.bind_eq h
    cases h
    rw [List.length_cons, List.length_cons, evs_len hr]
theorem carries_plain {P : Program} {w : World} : ∀ {rs : List (Leaf × Value)} {ws : List (Value × Value)}, rs.length = ws.length → (∀ (j : Nat) u v, ws[j]? = some (u, v) → ∃ k, rs[j]? = some (k, v) ∧ exIs k u = true) → Carries (exKind P w) ws rs
  | [], [], _, _ => trivial
  | (k, v) :: rs, (u, v') :: ws, hl, h => by
    obtain ⟨k', h1, h2⟩ := h 0 u v' rfl
    simp at h1
    obtain ⟨rfl, rfl⟩ := h1
    exact ⟨h2, rfl, carries_plain (by simpa using hl) fun j u v hj => by
      obtain ⟨k', h1, h2⟩ := h (j + 1) u v (by simpa using hj)
      exact ⟨k', by simpa using h1, h2⟩⟩
  | [], _ :: _, hl, _ => by simp at hl
  | _ :: _, [], hl, _ => by simp at hl
theorem carries_tups {P : Program} {w : World} {h : Heap} : ∀ {rs : List (NestedKey × Addr × Value)} {ws : List (Value × Value)}, rs.length = ws.length → (∀ (j : Nat) u v, ws[j]? = some (u, v) → ∃ k b, rs[j]? = some (k, b, v) ∧ u = .ref b) → (∀ x ∈ rs, (nestedKind P w).is h x.1 x.2.1) → CarriesH (nestedKind P w) h ws rs
  | [], [], _, _, _ => trivial
  | (k, b, v) :: rs, (u, v') :: ws, hl, h, hi => by
    obtain ⟨k', b', h1, h2⟩ := h 0 u v' rfl
    simp at h1
    obtain ⟨rfl, rfl, rfl⟩ := h1
    exact ⟨h2, rfl, hi _ List.mem_cons_self, carries_tups (by simpa using hl) (fun j u v hj => by
      obtain ⟨k', b', h1, h2⟩ := h (j + 1) u v (by simpa using hj)
      exact ⟨k', b', by simpa using h1, h2⟩) fun x hx => hi x (List.mem_cons_of_mem _ hx)⟩
  | [], _ :: _, hl, _, _ => by simp at hl
  | _ :: _, [], hl, _, _ => by simp at hl
theorem snd_dct (hX : XOk T n X) {keys : List (Option Expr)} {values : List Expr} {ks vs : List Ex} (hk : Paired (fun o ex => ∃ e, o = some e ∧ PE X e (XE T n X false ex)) keys ks) (hv : Paired (fun e ex => PE X e (XE T n X false ex)) values vs) (hl : keys.length = values.length) :
    PE X (.Dict keys values pos) (XN T n X (.dct ks vs)) := by
  refine ⟨fun pins s σ H Q I ⟨H0, F0, F, ρ, d, g, h, q⟩ => ?_⟩
  simp only [ev] at h
  obtain ⟨kd, hkd, h⟩ := R.bind_eq h
  obtain ⟨vd, hvd, h⟩ := R.bind_eq h
  obtain ⟨hg, h⟩ := R.guard_ok h
  obtain ⟨rr, hr, rfl⟩ := Option.map_eq_some_iff.mp (ofOpt_ok h)
  rw [Bool.and_eq_true, decide_eq_true_eq, decide_eq_true_eq] at hg
  have hp := I.hok.fresh (Nat.le_refl s.heap.objs.size)
  have ne := fresh_ne I (Nat.le_refl s.heap.objs.size)
  have hks : ks.length = keys.length := (Paired.len hk).symm
  have hlk : kd.length = ks.length := evs_len hkd
  have hlv : vd.length = vs.length := evs_len hvd
  have hget : (s.heap.push emptyO).get? s.heap.objs.size = some emptyO := Heap.get?_push_size _ rfl
  have I1 : L2.Inv X pins σ (upd H s.heap.objs.size (dO s.heap.objs.size emptyO)) { s with heap := s.heap.push emptyO } := I.laid (t' := s.toks) (fun _ _ q => Heap.get?_push_of_some _ q) (Nat.le_refl _) (dO_ok hget)
  have e0 : Ext F H F (upd H s.heap.objs.size (dO s.heap.objs.size emptyO)) := Ext.open_ g.fh hp
  by_cases hz : keys = []
  · subst hz
    cases hk
    have hvs : values = [] := List.eq_nil_of_length_eq_zero hl.symm
    subst hvs
    simp only [evs] at hkd
    cases hkd
    rw [List.zip_nil_left, dputs] at hr
    cases hr
    exact wpAny_Dict_empty ⟨.ref s.heap.objs.size, _, I1, rfl, q _ _ F _ e0 hp (same_free g.fh hp) upd_same (Ens.cont (has_empty ne) .nil)⟩
  · have hpp := pps_of (pos := pos) hk hv hl
    have hall : keys.all (·.isSome) = true := by
      rw [List.all_eq_true]
      intro o ho
      obtain ⟨ex, _, e, rfl, _⟩ := Paired.mem hk o ho
      rfl
    have h15 : keys.length ≤ 15 := by omega
    obtain ⟨f, hf, hkind⟩ := dputs_kind hr
    have run := hpp.run pins { s with heap := s.heap.push emptyO } σ _ (fun ps H2 => ∃ F2 ents, Ext F (upd H s.heap.objs.size (dO s.heap.objs.size emptyO)) F2 H2 ∧ Ens X.w X.K F2 ents (kd.zip vd) ∧ ents.map (fun p => (p.2.1, p.2.2)) = ps) I1
      (pairs_imp (g.ext e0) hkd hvd (by rw [hks, hl, Paired.len hv]) fun ps F2 H2 e2 r2 => by
        obtain ⟨ents, i1, i2⟩ := ents_of r2 fun p hp => let ⟨_, k, h1, _⟩ := hkind p hp; ⟨k, h1⟩
        exact ⟨F2, ents, e2, i1, i2⟩)
    have last : ∀ (h' : Heap) (tk : Nat) (s2 : Shared) (H2 F2 : Hp) (ents : List Ent) (o : Obj), L2.Inv X pins σ H2 s2 → Ext F (upd H s.heap.objs.size (dO s.heap.objs.size emptyO)) F2 H2 → Ens X.w X.K F2 ents (kd.zip vd) → h'.get? s.heap.objs.size = some o →
        DHas X.w s.heap.objs.size o (vputs [] ents) → Heap.SameBut s.heap.objs.size s2.heap h' → EP X pins σ Q (.ref s.heap.objs.size) { s2 with heap := h', toks := tk } := fun h' tk s2 H2 F2 ents o I2 e2 i1 ho hr' hs => by
      have hH2 := e2.h _ _ upd_same
      have hF2 : F2 s.heap.objs.size = none := by rw [e2.new _ (by rw [upd_same]; simp)]; exact same_free g.fh hp
      refine ⟨.ref s.heap.objs.size, upd H2 s.heap.objs.size (dO s.heap.objs.size o), d_write I2 (by rw [hH2]; exact True.intro) hs ⟨o, ho⟩ (dO_ok ho), rfl, q _ _ F2 _ ⟨e2.f, fun b u hb => ?_, fun b u hb => ?_, fun b hb => ?_⟩ hp hF2 upd_same (Ens.cont hr' (puts_ens (acc := []) .nil i1 hr))⟩
      · rw [upd_ne (ne_of_none hb hp)]
        exact e2.h _ _ (by rw [upd_ne (ne_of_none hb hp)]; exact hb)
      · rw [upd_ne (ne_of_none hb hF2)]
        exact e2.fh b u hb
      · have hne : b ≠ s.heap.objs.size := by
          rintro rfl
          exact hb hp
        rw [e2.new b (by rw [upd_ne hne]; exact hb)]
    have sz : ∀ {ents : List Ent} {F2 : Hp}, Ens X.w X.K F2 ents (kd.zip vd) → (vputs [] ents).length ≤ sizeLine := fun {ents F2} i1 => by
      have h1 := vputs_len ents []
      have h2 := Paired.len i1
      rw [List.length_zip] at h2
      rw [List.length_nil] at h1
      rw [sizeLine_eq]
      omega
    rcases (show f = 0 ∨ f = 1 by omega) with rfl | rfl
    · refine wpAny_Dict_walk (knd := exKind X.prog X.w) hall hl hz h15 (thn run fun ws s2 ⟨ps, H2, I2, rel, F2, ents, e2, i1, i2⟩ => ?_)
      subst i2
      obtain ⟨rs, j1, j2, j3⟩ := plain_ents i1 (fun p hp => (hkind p hp).1) rel
      have hd2 : s2.heap.DictOf (exKind X.prog X.w) s.heap.objs.size [] := by
        obtain ⟨vs0, hd0, hr0⟩ := DHas.plain (P := X.prog) (has_empty (w := X.w) ne) (dO_get I2 (e2.h _ _ upd_same)) fun p hp => by simp at hp
        cases hr0
        exact hd0
      refine ⟨rs, carries_plain j2 j3, hd2, fun h' hd' hs => ?_⟩
      obtain ⟨o, ho, hr'⟩ := DHas.of_plain hd' (puts_rs (acc := []) .nil List.nodup_nil j1) ne (sz i1)
      exact last h' _ s2 H2 F2 ents o I2 e2 i1 ho hr' hs
    · refine disp_heap (by have := hX.big.le; omega) hall hl hz h15 (thn run fun ws s2 ⟨ps, H2, I2, rel, F2, ents, e2, i1, i2⟩ => ?_)
      subst i2
      obtain ⟨rs, j1, j2, j3, j4⟩ := tup_ents I2 e2.fh i1 hkind rel
      have hd2 : s2.heap.DictOfH (nestedKind X.prog X.w) s.heap.objs.size [] := by
        obtain ⟨vs0, hd0, hr0⟩ := DHas.tups (P := X.prog) (has_empty (w := X.w) ne) (dO_get I2 (e2.h _ _ upd_same)) fun p hp => by simp at hp
        cases hr0
        exact hd0
      refine ⟨rs, carries_tups j2 j3 j4, hd2, fun h' tk hd' hs => ?_⟩
      obtain ⟨o, ho, hr'⟩ := DHas.of_tups hd' (puts_rt (acc := []) .nil List.nodup_nil j1) ne (sz i1)
      exact last h' _ s2 H2 F2 ents o I2 e2 i1 ho hr' hs
end
end KD
/-! KdSort: sorted(..). -/
namespace KD
open PySem PySem.Spec
open PyProof.Rows L2
/-! ### what is sorted -/
theorem sortable_ok {ds : List D} (h : sortable ds = true) : PySem.W.AllAlike ds ∧ PySem.W.Sortable ds ∧ ∀ d ∈ ds, plain d = true ∧ d.depth ≤ 60 := by
  unfold sortable at h
  rw [Bool.and_eq_true, Bool.and_eq_true, Bool.or_eq_true] at h
  obtain ⟨⟨h1, h2⟩, h3⟩ := h
  refine ⟨fun d hd d' hd' => ?_, ?_, fun d hd => ?_⟩
  · unfold alikes at h1
    rw [List.all_eq_true] at h1
    have := h1 d hd
    rw [List.all_eq_true] at this
    exact this d' hd'
  · rcases h2 with h2 | h2
    · left
      intro d hd
      rw [List.all_eq_true] at h2
      have := h2 d hd
      unfold tupNE at this
      split at this
      · exact ⟨_, _, rfl⟩
      · cases this
    · right
      intro d hd
      rw [List.all_eq_true] at h2
      have := h2 d hd
      refine ⟨?_, fun xs => ?_⟩ <;> rintro rfl <;> cases this
  · rw [List.all_eq_true] at h3
    have := h3 d hd
    unfold shp at this
    rw [Bool.and_eq_true, decide_eq_true_eq] at this
    exact this
mutual
theorem reads_lt {h : Heap} : ∀ (d : PyData) {v : Value} {as : List Addr}, plain d = true → Reads h v d as → ∀ a ∈ as, a < h.objs.size
  | .none, _, _, _, r, a, ha => by cases r; cases ha
  | .bool _, _, _, _, r, a, ha => by cases r; cases ha
  | .int _, _, _, _, r, a, ha => by cases r; cases ha
  | .str _, _, _, _, r, a, ha => by cases r; cases ha
  | .list xs, _, _, hp, r, a, ha => by
    rw [plain] at hp
    cases r with
    | list h1 h2 h3 h4 =>
      rcases List.mem_cons.mp ha with e | ha
      · rw [e]; exact Heap.lt_size h1
      · exact reads_lts xs hp h4 a ha
  | .tuple xs, _, _, hp, r, a, ha => by
    rw [plain] at hp
    cases r with
    | tuple h1 h2 h3 h4 => exact reads_lts xs hp h4 a ha
  | .dict _, _, _, hp, _, _, _ => by simp [plain] at hp
theorem reads_lts {h : Heap} : ∀ (ds : List PyData) {vs : List Value} {as : List Addr}, plains ds = true → ReadsAll h vs ds as → ∀ a ∈ as, a < h.objs.size
  | [], _, _, _, r, a, ha => by cases r; cases ha
  | d :: ds, _, _, hp, r, a, ha => by
    rw [plains, Bool.and_eq_true] at hp
    cases r with
    | cons h1 h2 =>
      rcases List.mem_append.mp ha with ha | ha
      · exact reads_lt d hp.1 h1 a ha
      · exact reads_lts ds hp.2 h2 a ha
end
section
variable {X : Cx} {pins : List (Addr × Obj)} {σ : L2.St} {F H : Hp} {s : Shared} {a : Addr} {d : D} {Q : VK} {xs : List V} {us : List Value} {ds : List D}
abbrev RSort (F : Hp) (X : Cx) (v : Value) (b : V × D) : Prop := L2.RelV b.1 v ∧ Dr X.w X.K F b.1 b.2
theorem each_zip : ∀ {xs : List V} {us : List Value} {ds : List D}, Vals xs us → DrAllX X F xs ds → PySem.W.EachIs (RSort F X) us (xs.zip ds)
  | _, _, ds, .nil, r => by
    cases ds with
    | nil => exact .nil
    | cons d ds =>
      have := r.1
      simp at this
  | _, _, ds, .cons r1 r2, r => by
    cases ds with
    | nil => have := r.1; simp at this
    | cons d ds =>
      obtain ⟨v, t, e, h1, h2⟩ := r.cons_inv
      cases e
      exact .cons ⟨r1, h1⟩ (each_zip r2 h2)
theorem each_out : ∀ {us : List Value} {bs : List (V × D)}, PySem.W.EachIs (RSort F X) us bs → Vals (bs.map (·.1)) us ∧ DrAllX X F (bs.map (·.1)) (bs.map (·.2))
  | _, _, .nil => ⟨.nil, .nil⟩
  | _, _, .cons h t => ⟨.cons h.1 (each_out t).1, .cons h.2 (each_out t).2⟩
theorem each_reads (I : L2.Inv X pins σ H s) (e : Same F H) {us : List Value} {bs : List (V × D)} (h : PySem.W.EachIs (RSort F X) us bs) (hp : ∀ b ∈ bs, plain b.2 = true) {h' : Heap} (k : ∀ b o, s.heap.get? b = some o → h'.get? b = some o) :
    PySem.W.EachIs (fun v b => ∃ as, Reads h' v b.2 as ∧ s.heap.objs.size ∉ as) us bs := by
  refine (PySem.W.each_mem h).mono fun v b ⟨⟨r1, r2⟩, hb⟩ => ?_
  obtain ⟨as, r⟩ := Dp.reads I _ _ v (r2.plain_dp e (hp b hb)) r1
  exact ⟨as, PyProof.Rows.Reads.keeps k r, fun hm => Nat.lt_irrefl _ (reads_lt _ (hp b hb) r _ hm)⟩
theorem zip_snd {xs : List V} {ds : List D} (hl : xs.length = ds.length) : (xs.zip ds).map (·.2) = ds := by
  rw [List.map_snd_zip]
  omega
theorem merge_snd {bs : List (V × D)} : (bs.mergeSort (PySem.W.dataLe false fun b => b.2)).map (·.2) = (bs.map (·.2)).mergeSort leqD :=
  PySem.W.sort_maps (fun b : V × D => b.2) fun a _ b _ => rfl
theorem merge_sndR {bs : List (V × D)} : (bs.mergeSort (PySem.W.dataLe true fun b => b.2)).map (·.2) = (bs.map (·.2)).mergeSort fun a b => !PySem.W.dataLt a b :=
  PySem.W.sort_maps (fun b : V × D => b.2) fun a _ b _ => rfl
/-- sorted(v), by what v's items are -/
theorem sorted_from {v : Value} {P : List D → Prop} (hu : Big X) (I : L2.Inv X pins σ H s)
    (hcol : ∀ E' : Value → Shared → Prop, wpAny (model X.prog X.w) X.A.in1 (collect v) (fun us s1 => ∃ F1 H1 xs ds, Ext F H F1 H1 ∧ L2.Inv X pins σ H1 s1 ∧ Vals xs us ∧ DrAllX X F1 xs ds ∧ xs.length ≤ sizeLine ∧ P ds) E' s)
    (hs : ∀ ds, P ds → sortable ds = true) (q : ∀ ds, P ds → Fin X F H (.list (ds.mergeSort leqD)) Q) : wpAny (model X.prog X.w) X.A (call (.builtin "sorted") [v]) (EP X pins σ Q) X.xe s := by
  refine Calls.call_function_entry kind_sorted plain_sorted entry_sorted (args_sorted1 _) ?_
  unfold Builtin.«sorted»
  refine wpAny_bind (m := checkCount "sorted" 1 1 _) (wpAny_pure ?_)
  refine wpAny_bind (thn (hcol _) fun us s1 ⟨F1, H1, xs, ds, e1, I1, rv, r, hz, hp⟩ => ?_)
  obtain ⟨ha, hk, hpl⟩ := sortable_ok (hs ds hp)
  have hlen := rv.length
  have hbs : (xs.zip ds).map (·.2) = ds := zip_snd r.1
  have mem : ∀ b ∈ xs.zip ds, b.2 ∈ ds := fun b hb => by rw [← hbs]; exact List.mem_map.mpr ⟨b, hb, rfl⟩
  have each := each_zip rv r
  have k1 : ∀ b o, s1.heap.get? b = some o → (s1.heap.push (seqObj "list" us.toArray 0)).get? b = some o := fun b o z => Heap.get?_push_of_some _ z
  refine wpAny_bind (wpAny_newList ?_ (by omega))
  have hoL : (s1.heap.push (seqObj "list" us.toArray 0)).get? s1.heap.objs.size = some (seqObj "list" us.toArray 0) := Heap.get?_push_size _ rfl
  refine wpAny_bind (wpAny_holding (PySem.W.list_sort_data (s := { s1 with heap := s1.heap.push (seqObj "list" us.toArray 0) }) (R := RSort F1 X) (enc := fun b : V × D => b.2) (bs := xs.zip ds) hoL each
    (each_reads I1 e1.fh each (fun b hb => (hpl _ (mem b hb)).1) k1) (by rw [hbs]; exact ha) (by rw [hbs]; exact hk) (by rw [List.length_zip]; omega) (fun b hb => ?_) fun out hl eo => ?_))
  · have := (hpl _ (mem b hb)).2
    have h : X.A.units + 100 < cLine := hu
    show X.A.units + 1 + 1 + _ < cLine
    omega
  · obtain ⟨c, hc⟩ := sortedHeap_at (vs := us) (out := out.toArray) hoL
    obtain ⟨o1, o2⟩ := each_out eo
    rw [merge_snd, hbs] at o2
    refine wpAny_pure ⟨_, rfl, ?_⟩
    refine lay_list (s := s1) (tk := s1.toks) (h' := sortedHeap (s1.heap.push (seqObj "list" us.toArray 0)) s1.heap.objs.size us out.toArray) I1 e1.fh (fun b o z => ?_) (Nat.le_refl _) hc (by simpa using o1)
      (by rw [List.length_map]; rw [show (List.mergeSort (xs.zip ds) (PySem.W.dataLe false fun b => b.2)).length = (xs.zip ds).length from List.length_mergeSort _, List.length_zip]; omega) o2 fun v F' H' e' r' => q ds hp v F' H' (e1.trans e') r'
    have hlt := Heap.lt_size z
    rw [sortedHeap_old (Nat.ne_of_lt hlt) (by rw [size_push']; exact Nat.lt_succ_of_lt hlt)]
    exact Heap.get?_push_of_some _ z
/-! ### what is gathered -/
abbrev Col (X : Cx) (pins : List (Addr × Obj)) (σ : L2.St) (F H : Hp) (v : Value) (s : Shared) (P : List D → Prop) : Prop :=
  ∀ E' : Value → Shared → Prop, wpAny (model X.prog X.w) X.A.in1 (collect v) (fun us s1 => ∃ F1 H1 xs ds, Ext F H F1 H1 ∧ L2.Inv X pins σ H1 s1 ∧ Vals xs us ∧ DrAllX X F1 xs ds ∧ xs.length ≤ sizeLine ∧ P ds) E' s
theorem col_seq (I : L2.Inv X pins σ H s) (e : Same F H) {T : String} (hT : T = "list" ∨ T = "tuple") {o : Obj} {its : List Value} {n : Nat} (ho : s.heap.get? a = some o) (hc : o.cls = .type T) (hd : o.data = .seq its.toArray n) (rv : Vals xs its) (r : DrAllX X F xs ds) (hz : xs.length ≤ sizeLine) :
    Col X pins σ F H (.ref a) s (· = ds) := fun E' => by
  have hlen := rv.length
  exact wpAny_collect_seq a hT ho hc hd (fun h' k => ⟨F, H, xs, ds, Ext.refl e, I.kept (t' := s.toks) k, by simpa using rv, r, hz, rfl⟩) (by simp only [List.size_toArray]; omega)
theorem col_dict (hc : X.calm = true) (I : L2.Inv X pins σ H s) (e : Same F H) {o : Obj} {kvs : List Ent} {l : List (D × D)} (ha : H a = some (dO a o)) (ra : DHas X.w a o kvs) (en : Ens X.w X.K F kvs l) : Col X pins σ F H (.ref a) s (· = l.map (·.1)) := fun E' => by
  obtain ⟨arr, ep, hd, hp⟩ := ra.en
  refine PySem.W.kdu_collect (KdlSrc.rawDict ra.ne) (I.ok.hd hc) ⟨o, dO_get I ha, ra.ex, hd⟩ (by rw [← Array.length_toList, Paired.len hp]; exact ra.sz) fun h' tk acc k hi => ?_
  exact ⟨F, H, _, _, Ext.refl e, I.kept (t' := tk) k, ents_keys hp (by simpa using hi), ens_keys en, by rw [List.length_map]; exact ra.sz, rfl⟩
/-! many new objects at once -/
def layM (H : Hp) (l : List (Addr × HO)) : Hp := fun b => match l.find? (fun p => decide (p.1 = b)) with
  | some p => some p.2
  | none => H b
theorem layM_in {l : List (Addr × HO)} {b : Addr} {u : HO} (h : layM H l b = some u) : (∃ p ∈ l, p.1 = b ∧ p.2 = u) ∨ (H b = some u ∧ ∀ p ∈ l, p.1 ≠ b) := by
  unfold layM at h
  split at h
  · rename_i p hp
    cases h
    exact .inl ⟨p, List.mem_of_find?_eq_some hp, by simpa using List.find?_some hp, rfl⟩
  · rename_i hn
    rw [List.find?_eq_none] at hn
    exact .inr ⟨h, fun p hp => by simpa using hn p hp⟩
theorem layM_out {l : List (Addr × HO)} {b : Addr} (h : ∀ p ∈ l, p.1 ≠ b) : layM H l b = H b := by
  unfold layM
  rw [List.find?_eq_none.mpr fun p hp => by simpa using h p hp]
theorem layM_at {l : List (Addr × HO)} (hn : (l.map (·.1)).Nodup) {i : Nat} {p : Addr × HO} (h : l[i]? = some p) : layM H l p.1 = some p.2 := by
  induction l generalizing i with
  | nil => simp at h
  | cons q l ih =>
    rw [List.map_cons, List.nodup_cons] at hn
    cases i with
    | zero =>
      simp at h
      subst h
      simp [layM]
    | succ i =>
      have h' : l[i]? = some p := by simpa using h
      have hne : q.1 ≠ p.1 := fun z => hn.1 (by rw [z]; exact List.mem_map.mpr ⟨p, List.mem_of_getElem? h', rfl⟩)
      have := ih hn.2 h'
      unfold layM at this ⊢
      rw [List.find?_cons, decide_eq_false hne]
      exact this
theorem layM_ext {l : List (Addr × HO)} (e : Same F H) (hl : ∀ p ∈ l, H p.1 = none) : Ext F H (layM F l) (layM H l) := by
  have hF : ∀ p ∈ l, F p.1 = none := fun p hp => same_free e (hl p hp)
  have out : ∀ {G : Hp} {b : Addr} {u : HO}, (∀ p ∈ l, G p.1 = none) → G b = some u → layM G l b = some u := fun {G b u} hG hb => by
    rw [layM_out fun p hp z => by rw [← z, hG p hp] at hb; cases hb]
    exact hb
  refine ⟨fun b u hb => out hF hb, fun b u hb => out hl hb, fun b u hb => ?_, fun b hb => layM_out fun p hp z => hb (by rw [← z]; exact hl p hp)⟩
  rcases layM_in hb with ⟨p, hp, e1, e2⟩ | ⟨h1, h2⟩
  · unfold layM at hb ⊢
    split at hb
    · exact hb
    · rename_i hn
      rw [List.find?_eq_none] at hn
      exact absurd e1 (by simpa using hn p hp)
  · rw [layM_out h2]
    exact e _ _ h1
theorem inv_layM {h' : Heap} {tk : Nat} {l : List (Addr × HO)} (I : L2.Inv X pins σ H s) (k : ∀ b o, s.heap.get? b = some o → h'.get? b = some o) (hp : ∀ p ∈ l, s.heap.objs.size ≤ p.1) (new : ∀ p ∈ l, ObjOk X.prog X.w (layM H l) h' p.1 p.2) :
    L2.Inv X pins σ (layM H l) { s with heap := h', toks := tk } := by
  have hn : ∀ p ∈ l, H p.1 = none := fun p q => I.hok.fresh (hp p q)
  have out : ∀ {b : Addr} {u : HO}, H b = some u → layM H l b = some u := fun {b u} hb => by
    rw [layM_out fun p hp z => by rw [← z, hn p hp] at hb; cases hb]
    exact hb
  refine I.un ⟨fun b o q _ _ _ => k b o q, fun b o q _ _ _ => ⟨o.slots, k b o q⟩, fun b o q n _ => ?_, fun b o q _ => ⟨o, k b o q⟩, fun b xs q => out q, fun b o u q => out q, fun b ps q => ⟨#[], by rw [out q]; simp⟩⟩ fun b u hb => ?_
  · rw [layM_out fun p hp' z => Nat.lt_irrefl _ (Nat.lt_of_lt_of_le (Heap.lt_size q) (by rw [← z]; exact hp p hp'))]
    exact n
  · rcases layM_in hb with ⟨p, hp', e1, e2⟩ | ⟨h1, h2⟩
    · rw [← e1, ← e2]
      exact new p hp'
    · exact (I.hok b u h1).stay (fun c v _ r => k c v r) (fun c r => out r) fun c xs r => out r
/-- the view of a dict -/
def viewO (T : String) (a : Addr) : Obj := { cls := .type T, data := .fields #[.ref a] }
theorem col_items (hc : X.calm = true) (I : L2.Inv X pins σ H s) (e : Same F H) {r : Addr} {o : Obj} {kvs : List Ent} {l : List (D × D)} (hr : H r = some (dO r (viewO "dict_items" a))) (ha : H a = some (dO a o)) (ra : DHas X.w a o kvs) (en : Ens X.w X.K F kvs l) :
    Col X pins σ F H (.ref r) s (· = l.map fun p => .tuple [p.1, p.2]) := fun E' => by
  obtain ⟨arr, ep, hd, hp⟩ := ra.en
  have hsz : arr.size = kvs.length := by rw [← Array.length_toList, Paired.len hp]
  refine PySem.W.dil_collect (I.ok.hd hc) ⟨_, dO_get I hr, rfl, rfl⟩ ⟨o, dO_get I ha, ra.ex, hd⟩ (by rw [hsz]; exact ra.sz) fun h' tk as k hl g => ?_
  -- the new pairs
  let ob : Addr × Ent → Addr × HO := fun z => (z.1, .frz ((h'.get? z.1).getD emptyO) (.tup [z.2.2.1, z.2.2.2]))
  have hzl : (as.zip kvs).length = as.length := by rw [List.length_zip]; omega
  have hfst : ((as.zip kvs).map ob).map (·.1) = as := by
    rw [List.map_map]
    show (as.zip kvs).map (fun z => z.1) = as
    rw [List.map_fst_zip]
    omega
  have nd : (((as.zip kvs).map ob).map (·.1)).Nodup := by
    rw [hfst]
    exact g.rise.imp fun h => Nat.ne_of_lt h
  have at_ : ∀ (j : Nat) (z : Addr × Ent), (as.zip kvs)[j]? = some z → ∃ hj : j < arr.size, h'.get? z.1 = some { cls := .type "tuple", data := .seq #[arr[j].key, arr[j].val] } ∧ L2.RelV z.2.2.1 arr[j].key ∧ L2.RelV z.2.2.2 arr[j].val := fun j z hz => by
    obtain ⟨h1, h2⟩ := List.getElem?_zip_eq_some.mp hz
    obtain ⟨hj, hg⟩ := g.pairs j z.1 h1
    exact ⟨hj, hg, ent_at hp hj h2⟩
  have fr : ∀ p ∈ (as.zip kvs).map ob, s.heap.objs.size ≤ p.1 := fun p hp' => by
    have : p.1 ∈ as := by rw [← hfst]; exact List.mem_map.mpr ⟨p, hp', rfl⟩
    exact Nat.le_of_lt (g.above _ this)
  have hnone : ∀ p ∈ (as.zip kvs).map ob, H p.1 = none := fun p hp' => I.hok.fresh (fr p hp')
  have ee := layM_ext (l := (as.zip kvs).map ob) e hnone
  refine ⟨layM F ((as.zip kvs).map ob), layM H ((as.zip kvs).map ob), as.map V.ref, _, ee, inv_layM I k fr fun p hp' => ?_, ?_, ?_, by rw [List.length_map, hl, hsz]; exact ra.sz, rfl⟩
  · obtain ⟨z, hz, rfl⟩ := List.mem_map.mp hp'
    obtain ⟨j, hj⟩ := List.mem_iff_getElem?.mp hz
    obtain ⟨hja, hg, r1, r2⟩ := at_ j z hj
    show ObjOk _ _ _ _ z.1 (.frz ((h'.get? z.1).getD emptyO) _)
    rw [hg]
    exact ⟨hg, by show 2 ≤ sizeLine; decide, [arr[j].key, arr[j].val], .cons r1 (.cons r2 .nil), _, hg, rfl, _, rfl⟩
  · exact vals_of (by simp) fun j x u hx hu => by
      rw [List.getElem?_map] at hx hu
      obtain ⟨b, hb, rfl⟩ := Option.map_eq_some_iff.mp hx
      rw [hb] at hu
      cases hu
      rfl
  · refine ⟨by rw [List.length_map, List.length_map, hl, hsz, Paired.len en], fun j v d hv hd' => ?_⟩
    rw [List.getElem?_map] at hv hd'
    obtain ⟨b, hb, rfl⟩ := Option.map_eq_some_iff.mp hv
    obtain ⟨q, hq, rfl⟩ := Option.map_eq_some_iff.mp hd'
    have hjk : j < kvs.length := by rw [Paired.len en]; exact (List.getElem?_eq_some_iff.mp hq).1
    have hz : (as.zip kvs)[j]? = some (b, kvs[j]) := List.getElem?_zip_eq_some.mpr ⟨hb, List.getElem?_eq_getElem hjk⟩
    obtain ⟨hja, hg, _, _⟩ := at_ j _ hz
    have hF : layM F ((as.zip kvs).map ob) b = some (.frz ((h'.get? b).getD emptyO) (.tup [kvs[j].2.1, kvs[j].2.2])) := layM_at nd (i := j) (p := ob (b, kvs[j])) (by rw [List.getElem?_map, hz]; rfl)
    have en' := Paired.get en j _ _ (List.getElem?_eq_getElem hjk) hq
    exact .tup (.inl ⟨_, hF, by rw [hg]; rfl⟩) rfl (DrAll.cons (en'.2.1.mono ee.f) (.cons (en'.2.2.mono ee.f) .nil)).2
end
end KD
/-! KdSetN: sorted(set(xs)), len(set(xs)). -/
namespace KD
open PySem PySem.Spec
open PyProof.Rows L2
section
variable {X : Cx} {pins : List (Addr × Obj)} {σ : L2.St} {F H : Hp} {s : Shared} {a : Addr} {d : D} {v : V} {u : Value}
/-- an element and its datum -/
def ElD (X : Cx) (F : Hp) (p : El) (v : V) (d : D) : Prop := RelV v p.1 ∧ Dr X.w X.K F v d ∧ keyOf d = some p.2
theorem els_of : ∀ {vs : List V} {us : List Value} {ds : List D}, Vals vs us → DrAllX X F vs ds → keyed ds → ∃ els : List El, us = els.map (·.1) ∧ els.length = ds.length ∧ (∀ p ∈ els, ∃ v, ∃ d ∈ ds, ElD X F p v d) ∧ ∀ d ∈ ds, ∃ p ∈ els, keyOf d = some p.2
  | _, _, ds, .nil, r, _ => by
    cases ds with
    | nil => exact ⟨[], rfl, rfl, fun p hp => (nomatch hp), fun d hd => (nomatch hd)⟩
    | cons d ds => have := r.1; simp at this
  | _, _, ds, .cons (a := u) r1 r2, r, hk => by
    cases ds with
    | nil => have := r.1; simp at this
    | cons d ds =>
      obtain ⟨v, t, e, h1, h2⟩ := r.cons_inv
      cases e
      obtain ⟨els, e1, e2, e3, e4⟩ := els_of r2 h2 fun d hd => hk d (List.mem_cons_of_mem _ hd)
      obtain ⟨k, hkd⟩ := hk d List.mem_cons_self
      refine ⟨(_, k) :: els, by rw [e1]; rfl, by simp [e2], fun p hp => ?_, fun d' hd' => ?_⟩
      · rcases List.mem_cons.mp hp with rfl | hp
        · exact ⟨_, d, List.mem_cons_self, r1, h1, hkd⟩
        · obtain ⟨v', d', m, z⟩ := e3 p hp
          exact ⟨v', d', List.mem_cons_of_mem _ m, z⟩
      · rcases List.mem_cons.mp hd' with rfl | hd'
        · exact ⟨_, List.mem_cons_self, hkd⟩
        · obtain ⟨p, m, z⟩ := e4 d' hd'
          exact ⟨p, List.mem_cons_of_mem _ m, z⟩
theorem els_back : ∀ {L : List El}, (∀ p ∈ L, ∃ v d, ElD X F p v d) → ∃ vs ds, Vals vs (L.map (·.1)) ∧ DrAllX X F vs ds ∧ ds.map keyOf = L.map fun p => some p.2
  | [], _ => ⟨[], [], .nil, .nil, rfl⟩
  | p :: L, h => by
    obtain ⟨vs, ds, h1, h2, h3⟩ := els_back (L := L) fun q hq => h q (List.mem_cons_of_mem _ hq)
    obtain ⟨v, d, r1, r2, r3⟩ := h p List.mem_cons_self
    exact ⟨v :: vs, d :: ds, .cons r1 h1, .cons r2 h2, by rw [List.map_cons, List.map_cons, h3, r3]⟩
theorem setable_ok {xs : List D} (h : setable xs = true) : xs.length < 64 ∧ ((∀ d ∈ xs, flv d = 0) ∨ ∀ d ∈ xs, flv d = 1) ∧ ∀ d ∈ xs, ∃ k, keyOf d = some k ∧ k.depth ≤ 8 := by
  unfold setable at h
  simp only [Bool.and_eq_true, Bool.or_eq_true, decide_eq_true_eq, List.all_eq_true, beq_iff_eq] at h
  obtain ⟨⟨h1, h2⟩, h3⟩ := h
  refine ⟨h1, h2, fun d hd => ?_⟩
  have := h3 d hd
  split at this
  · rename_i k hk
    exact ⟨k, hk, of_decide_eq_true this⟩
  · cases this
/-- what is known behind set(xs) -/
def SetQ (X : Cx) (pins : List (Addr × Obj)) (σ : L2.St) (F H : Hp) (xs : List D) (S : Addr) (s' : Shared) : Prop :=
  ∃ (o : Obj) (es : Array (Int × Value)) (ep : Nat) (t : SetTable) (vs : List V) (ys : List D), Inv X pins σ H s' ∧ s'.heap.get? S = some o ∧ o.ExactSet ∧ o.data = .set es ep t ∧ t.fits es.size = true ∧ es.size < 64 ∧ Ris t.place.toList ∧
    (X.w.params.followText "set-order" = true ∨ t.led = true) ∧ Vals vs (es.toList.map (·.2)) ∧ DrAllX X F vs ys ∧ ys.Nodup ∧ ∀ d, d ∈ ys ↔ d ∈ xs
theorem call_set_data (hc : X.calm = true) (hu : Big X) (I : L2.Inv X pins σ H s) (e : Same F H) {xs : List D} (hv : BrX X F H v (.list xs) ∨ BrX X F H v (.tuple xs)) (ru : RelV v u) (hs : setable xs = true) {Q : Value → Shared → Prop} {E : Value → Shared → Prop}
    (q : ∀ S s', SetQ X pins σ F H xs S s' → Q (.ref S) s') : wpAny (model X.prog X.w) X.A (call (.type "set") [u]) Q E s := by
  obtain ⟨z1, z2, z3⟩ := setable_ok hs
  have hk : keyed xs := fun d hd => let ⟨k, h, _⟩ := z3 d hd; ⟨k, h⟩
  obtain ⟨sc, hsc⟩ : ∃ sc : Bool, ∀ d ∈ xs, flv d = if sc = true then 0 else 1 := by
    rcases z2 with h | h
    · exact ⟨true, h⟩
    · exact ⟨false, h⟩
  have big : X.A.units + 20 < cLine := by have := hu.le; omega
  -- behind the call
  have fin : ∀ {els : List El}, (∀ p ∈ els, ∃ v, ∃ d ∈ xs, ElD X F p v d) → (∀ d ∈ xs, ∃ p ∈ els, keyOf d = some p.2) → ∀ (h' : Heap) (tk : Nat) L, LieE X.w sc h' s.heap.objs.size L → Has els els.length L → (∀ b o, s.heap.get? b = some o → h'.get? b = some o) →
      Q (.ref s.heap.objs.size) { s with heap := h', toks := tk } := fun {els} h1 h2 h' tk L ⟨o, es, ep, t, r⟩ g kp => by
    have sub : ∀ p ∈ L, p ∈ els := fun p hp => List.mem_of_mem_take (g.sub p hp)
    obtain ⟨vs, ys, y1, y2, y3⟩ := els_back (L := L) fun p hp => let ⟨v, d, _, w⟩ := h1 p (sub p hp); ⟨v, d, w⟩
    have keys : ∀ d ∈ ys, ∃ p ∈ L, keyOf d = some p.2 := fun d hd => by
      have : keyOf d ∈ L.map fun p => some p.2 := by rw [← y3]; exact List.mem_map.mpr ⟨d, hd, rfl⟩
      obtain ⟨p, hp, w⟩ := List.mem_map.mp this
      exact ⟨p, hp, w.symm⟩
    refine q _ _ ⟨o, es, ep, t, vs, ys, I.kept kp, r.ob, r.ex, r.da, r.ft, ?_, r.ri, r.ld, ?_, y2, ?_, fun d => ⟨fun hd => ?_, fun hd => ?_⟩⟩
    · rw [← Array.length_toList, r.rw_, List.length_map]; exact r.fw
    · rw [r.rw_, List.map_map]; exact y1
    · have nk : (ys.map keyOf).Nodup := by
        rw [y3]
        exact List.pairwise_map.mpr ((List.pairwise_map.mp r.nd).imp fun h w => h (Option.some.inj w))
      exact nodup_of_map nk
    · obtain ⟨p, hp, w⟩ := keys d hd
      obtain ⟨_, d', hd', _, _, w'⟩ := h1 p (sub p hp)
      rw [key_inj w w']
      exact hd'
    · obtain ⟨p, hp, w⟩ := h2 d hd
      obtain ⟨p', hp', w2⟩ := List.mem_map.mp (g.all p (by rw [List.take_length]; exact hp))
      have : some p'.2 ∈ ys.map keyOf := by rw [y3]; exact List.mem_map.mpr ⟨p', hp', rfl⟩
      obtain ⟨d', hd', w'⟩ := List.mem_map.mp this
      rw [w2] at w'
      rw [key_inj w w']
      exact hd'
  have fits : ∀ {els : List El}, (∀ p ∈ els, ∃ v, ∃ d ∈ xs, ElD X F p v d) → ∀ p ∈ els, Fit s.heap p sc := fun {els} h p hp => by
    obtain ⟨v, d, hd, r1, r2, r3⟩ := h p hp
    obtain ⟨k, hkd, dep⟩ := z3 d hd
    rw [hkd] at r3
    cases r3
    have fl := hsc d hd
    cases sc with
    | true =>
      obtain ⟨l, w1, w2⟩ := flv0 r2 hkd (by simpa using fl)
      exact ⟨l, w1, exIs_iff.mpr (w2 ▸ r1)⟩
    | false =>
      obtain ⟨b, rfl⟩ := flv1 r2 (by simpa using fl)
      exact ⟨⟨b, r1⟩, Dr.nested I e d r2 hkd r1, dep⟩
  rcases hv with hv | hv
  · obtain ⟨a, ys, rfl, h1, h2⟩ := hv.list_inv e
    cases ru
    obtain ⟨its, rv, pl, hz⟩ := I.list (.inl (.inl h1))
    obtain ⟨els, e1, e2, e3, e4⟩ := els_of rv h2 hk
    exact call_set_list (sc := sc) (xs := els) (I.ok.hd hc) pl.isList (by simpa using e1) (fits e3) (by rw [e2]; exact z1) big (fin e3 e4)
  · obtain ⟨a, ys, rfl, h1, h2⟩ := hv.tuple_inv
    cases ru
    obtain ⟨its, rv, ⟨o, ho, hcl, n, hd⟩, hz⟩ := I.tuple (Same.sqT e h1.sq)
    obtain ⟨els, e1, e2, e3, e4⟩ := els_of rv h2 hk
    exact call_set_tuple (sc := sc) (xs := els) (I.ok.hd hc) ⟨o, ho, hcl, n, hd⟩ (by simpa using e1) (fits e3) (by rw [e2]; exact z1) big (fin e3 e4)
/-- the items of the set, in some order -/
theorem col_set (hc : X.calm = true) (e : Same F H) {xs : List D} (h : SetQ X pins σ F H xs a s) : Col X pins σ F H (.ref a) s fun ds => keyed xs → ∀ ys, ys.Nodup → (∀ d, d ∈ ys ↔ d ∈ xs) → ds.Perm ys := fun E' => by
  obtain ⟨o, es, ep, t, vs, ys, I, ho, hex, hd, ft, few, ri, ld, rv, r, nd, mem⟩ := h
  refine collect_set (I.ok.hd hc) ⟨o, ho, hex.1, hd⟩ ft (by unfold scanBound; omega) ri ld fun s1 out k1 hz g1 o1 pm => ?_
  -- the same order on the other sides
  have pz : out.length = es.size := by rw [pm.length_eq, List.length_map, Array.length_toList]
  have rl : vs.length = ys.length := r.1
  have vz : es.toList.length = ys.length := by have z := rv.length; rw [List.length_map] at z; omega
  have zip : ∃ l : List (Value × V × D), out = l.map (·.1) ∧ l.Perm ((es.toList.map (·.2)).zip (vs.zip ys)) := by
    refine map_perm pm ?_
    rw [List.map_fst_zip]
    rw [List.length_map, vz, List.length_zip, rl, Nat.min_self]
    exact Nat.le_refl _
  obtain ⟨l, rfl, pl⟩ := zip
  have ok : ∀ z ∈ l, RelV z.2.1 z.1 ∧ Dr X.w X.K F z.2.1 z.2.2 := fun z hz => by
    obtain ⟨j, hj⟩ := List.mem_iff_getElem?.mp (pl.mem_iff.mp hz)
    obtain ⟨j1, j2⟩ := List.getElem?_zip_eq_some.mp hj
    obtain ⟨j3, j4⟩ := List.getElem?_zip_eq_some.mp j2
    obtain ⟨u, u1, u2⟩ := rv.get j3
    rw [j1] at u1
    cases u1
    exact ⟨u2, r.2 j _ _ j3 j4⟩
  have snd : (l.map fun z => z.2.2).Perm ys := by
    have := pl.map fun z => z.2.2
    refine this.trans (.of_eq ?_)
    refine List.ext_getElem? fun j => ?_
    rw [List.getElem?_map]
    by_cases hj : j < ys.length
    · have h1 : ((es.toList.map (·.2)).zip (vs.zip ys))[j]? = some ((es.toList.map (·.2))[j]'(by rw [List.length_map, vz]; exact hj), vs[j]'(by rw [rl]; exact hj), ys[j]) :=
        List.getElem?_zip_eq_some.mpr ⟨List.getElem?_eq_getElem _, List.getElem?_zip_eq_some.mpr ⟨List.getElem?_eq_getElem _, List.getElem?_eq_getElem _⟩⟩
      rw [h1, List.getElem?_eq_getElem hj]
      rfl
    · rw [List.getElem?_eq_none (by rw [List.length_zip, List.length_zip, List.length_map, vz, rl, Nat.min_self, Nat.min_self]; omega), List.getElem?_eq_none (by omega)]
      rfl
  have eq1 : s1 = { s with heap := s1.heap, gens := s1.gens, drawn := s1.drawn, toks := s1.toks } := by
    cases s1; cases s; cases o1; rfl
  have J : Inv X pins σ H s1 := by
    rw [eq1]
    exact I.call (ch := []) (Un.kept k1) (I.hok.kept k1) (by rw [g1]; exact I.bare) (fun _ z => nomatch z)
  refine ⟨F, H, l.map (·.2.1), l.map (·.2.2), Ext.refl e, J, ?_, ?_, ?_, fun hk ys' nd' mem' => ?_⟩
  · exact vals_of (by simp) fun j x u hx hu => by
      rw [List.getElem?_map] at hx hu
      obtain ⟨z, hz, rfl⟩ := Option.map_eq_some_iff.mp hx
      rw [hz] at hu
      cases hu
      exact (ok z (List.mem_of_getElem? hz)).1
  · refine ⟨by simp, fun j x d hx hd' => ?_⟩
    rw [List.getElem?_map] at hx hd'
    obtain ⟨z, hz, rfl⟩ := Option.map_eq_some_iff.mp hx
    rw [hz] at hd'
    cases hd'
    exact (ok z (List.mem_of_getElem? hz)).2
  · rw [List.length_map, ← List.length_map (f := fun z : Value × V × D => z.1), pz, sizeLine_eq]
    omega
  · exact snd.trans ((List.perm_ext_iff_of_nodup nd nd').mpr fun d => (mem d).trans (mem' d).symm)
end
section
variable {T : Tb} {n : Nat} {X : Cx} {e : Expr} {ex : Ex} {pos p apos p2 : Pos}
theorem perm_sort {ds ys : List D} (p : ds.Perm ys) (hk : keyed ys) (h : sortable ys = true) : ds.mergeSort leqD = ys.mergeSort leqD := by
  refine sort_perm p (fun d hd => hk d (p.mem_iff.mp hd)) ?_
  have := sortable_of (fun d hd => p.mem_iff.mp hd) h
  unfold sortable at this
  simp only [Bool.and_eq_true] at this
  exact this.1.1
theorem snd_sortedSet (hX : XOk T n X) (hg : Gl X "sorted") (hg2 : Gl X "set") (hn : nst e = true) (he : PE X e (XE T n X true ex)) : PE X (.Call (.Name "sorted" p) [.Call (.Name "set" p2) [e] [] apos] [] pos) (XD T n X (.blt .sortedSet [ex])) := by
  refine ⟨fun pins s σ H Q I ⟨H0, F0, F, ρ, m, d, g, h, q⟩ => ?_⟩
  simp only [ev, evs] at h
  obtain ⟨ds, hds, h⟩ := R.bind_eq h
  obtain ⟨dx, hx, hds⟩ := R.bind_eq hds
  cases hds
  have key : ∃ xs, (dx = .list xs ∨ dx = .tuple xs) ∧ R.guard (setable xs) (match dedup xs with | some ys => sortD ys | none => .bot) = .ok d := by
    cases dx with
    | list xs => exact ⟨xs, .inl rfl, h⟩
    | tuple xs => exact ⟨xs, .inr rfl, h⟩
    | _ => cases h
  obtain ⟨xs, hxs, h⟩ := key
  obtain ⟨hs, h⟩ := R.guard_ok h
  split at h
  · rename_i ys hy
    obtain ⟨y1, y2, y3⟩ := dedup_ok hy
    unfold sortD at h
    obtain ⟨hso, h⟩ := R.guard_ok h
    cases h
    refine Call_ (ld_blt I hg (hX.bl _ (by decide)) boot_sorted ?_)
    refine PyProof.Rows.callWith_builtin1 (PyProof.Rows.args_cons ?_ rfl) rfl rfl
    refine Call_ (ld_blt I hg2 (hX.bl _ (by decide)) PyProof.Rows.boot_set ?_)
    refine PyProof.Rows.callWith_type1 (PyProof.Rows.args_cons (thn (he.run pins s σ H _ I ⟨H0, F0, F, ρ, _, g, hx, fun v F1 H1 e1 r1 =>
      (⟨F1, e1, r1⟩ : ∃ F1, Ext F H F1 H1 ∧ Vr X.w X.K true F1 H1 v dx)⟩) fun u s1 ⟨v, H1, I1, rv, F1, e1, r1⟩ => PyProof.Rows.args_nil ?_) (star_nst hn)) (star_nst hn) rfl
    have r2 := r1.br
    refine call_set_data hX.calm hX.big I1 e1.fh (xs := xs) (by rcases hxs with rfl | rfl <;> simp [r2]) rv hs fun S s2 h2 => PyProof.Rows.args_nil ?_
    have I2 : Inv X pins σ H1 s2 := by obtain ⟨_, _, _, _, _, _, I2, _⟩ := h2; exact I2
    refine sorted_from hX.big I2 (col_set hX.calm e1.fh h2) (fun ds pm => ?_) fun ds pm => ?_
    · exact sortable_of (fun d hd => (pm y1 ys y2 y3).mem_iff.mp hd) hso
    · rw [perm_sort (pm y1 ys y2 y3) (fun d hd => y1 d ((y3 d).mp hd)) hso]
      exact fun v F' H' e' r' => q v F' H' (e1.trans e') r'
  · cases h
theorem snd_lenSet (hX : XOk T n X) (hg : Gl X "len") (hg2 : Gl X "set") (hn : nst e = true) (he : PE X e (XE T n X true ex)) : PE X (.Call (.Name "len" p) [.Call (.Name "set" p2) [e] [] apos] [] pos) (XD T n X (.blt .lenSet [ex])) := by
  refine ⟨fun pins s σ H Q I ⟨H0, F0, F, ρ, m, d, g, h, q⟩ => ?_⟩
  simp only [ev, evs] at h
  obtain ⟨ds, hds, h⟩ := R.bind_eq h
  obtain ⟨dx, hx, hds⟩ := R.bind_eq hds
  cases hds
  obtain ⟨xs, rfl⟩ : ∃ xs, dx = .list xs := by cases dx <;> first | exact ⟨_, rfl⟩ | cases h
  have h : R.guard (setable xs) (match dedup xs with | some ys => .ok (.int ys.length) | none => .bot) = .ok d := h
  obtain ⟨hs, h⟩ := R.guard_ok h
  split at h
  · rename_i ys hy
    obtain ⟨y1, y2, y3⟩ := dedup_ok hy
    cases h
    refine Call_ (ld_blt I hg (hX.bl _ (by decide)) PySem.boot_len ?_)
    refine PyProof.Rows.callWith_builtin1 (PyProof.Rows.args_cons ?_ rfl) rfl rfl
    refine Call_ (ld_blt I hg2 (hX.bl _ (by decide)) PyProof.Rows.boot_set ?_)
    refine PyProof.Rows.callWith_type1 (PyProof.Rows.args_cons (thn (he.run pins s σ H _ I ⟨H0, F0, F, ρ, _, g, hx, fun v F1 H1 e1 r1 =>
      (⟨F1, e1, r1⟩ : ∃ F1, Ext F H F1 H1 ∧ Vr X.w X.K true F1 H1 v (.list xs))⟩) fun u s1 ⟨v, H1, I1, rv, F1, e1, r1⟩ => PyProof.Rows.args_nil ?_) (star_nst hn)) (star_nst hn) rfl
    refine call_set_data hX.calm hX.big I1 e1.fh (xs := xs) (.inl r1.br) rv hs fun S s2 h2 => PyProof.Rows.args_nil ?_
    obtain ⟨o, es, ep, t, vs, zs, I2, ho, hex, hd, ft, few, ri, ld, rv2, r2, nd, mem⟩ := h2
    have len : es.size = ys.length := by
      have a1 := rv2.length
      rw [List.length_map, Array.length_toList] at a1
      have a2 : vs.length = zs.length := r2.1
      have a3 := ((List.perm_ext_iff_of_nodup nd y2).mpr fun d => (mem d).trans (y3 d).symm).length_eq
      exact (a1.symm.trans a2).trans a3
    exact call_len_set ho hex hd ft (by omega) ⟨.int ys.length, H1, I2.tok _, ⟨_, by rw [len]⟩, q _ F1 H1 e1 (.int _)⟩
  · cases h
end
end KD
/-! KdCalls: sorted(xs), sorted(d.items()), list(d.values()). -/
namespace KD
open PySem PySem.Spec
open PyProof.Rows L2
section
variable {X : Cx}
theorem c_sorted (hc : X.calm = true) (hu : Big X) : CallR X (.builtin "sorted") (rBlt X .sorted) := by
  intro pins s σ H xs us Q I r ⟨F, ds, d, e, hb, h, q⟩
  obtain ⟨x, rfl⟩ := one_ds (fun x y r => by cases x <;> rfl) rfl h
  obtain ⟨v, rfl, hv⟩ := hb.one
  obtain ⟨u, rfl, ru⟩ := vals1 r
  have fin : ∀ (l : List D), sortD l = .ok d → Col X pins σ F H u s (· = l) → wpAny (model X.prog X.w) X.A (call (.builtin "sorted") [u]) (EP X pins σ Q) X.xe s := fun l hl col => by
    unfold sortD at hl
    obtain ⟨hs, hl⟩ := R.guard_ok hl
    cases hl
    exact sorted_from hu I col (fun ds e => by rw [e]; exact hs) fun ds e => by rw [e]; exact q
  cases x with
  | list l =>
    obtain ⟨a, ys, rfl, h1, h2⟩ := hv.list_inv e
    cases ru
    obtain ⟨its, rv, ⟨o, n, ho, hcl, _, hd⟩, hz⟩ := I.list (.inl (.inl h1))
    exact fin l h (col_seq I e (.inl rfl) ho hcl hd rv h2 hz)
  | tuple l =>
    obtain ⟨a, ys, rfl, h1, h2⟩ := hv.tuple_inv
    cases ru
    obtain ⟨its, rv, ⟨o, ho, hcl, n, hd⟩, hz⟩ := I.tuple (Same.sqT e h1.sq)
    exact fin l h (col_seq I e (.inr rfl) ho hcl hd rv h2 hz)
  | dict kvs =>
    obtain ⟨hk, h⟩ := R.guard_ok h
    obtain ⟨a, o, es, rfl, ha, ra, ea⟩ := hv.dict_at e hk
    cases ru
    exact fin _ h (col_dict hc I e ha ra ea)
  | _ => cases h
end
section
variable {T : Tb} {n : Nat} {X : Cx} {e x : Expr} {ex : Ex} {pos p p2 apos cpos : Pos}
/-- x.items(), x.values(): a view object -/
theorem run_items {pins : List (Addr × Obj)} {s : Shared} {σ : L2.St} {H0 F0 F H : Hp} {ρ : Env} {kvs : List (D × D)} {Q : Value → Shared → Prop} (hs : nosup x = true) (hl : (apos.endLine == cpos.line) = true) (ho : PE X x (XE T n X true ex)) (I : Inv X pins σ H s) (g : Good X.prog X.w X.K H0 F0 σ H F ρ)
    (hx : ev (evFn T.P T.wf n) ρ true ex = .ok (.dict kvs)) (hok : dictOk kvs = true)
    (q : ∀ r s2 F1 H1 a o es, Ext F H F1 H1 → Inv X pins σ H1 s2 → H1 r = some (dO r (viewO "dict_items" a)) → H1 a = some (dO a o) → DHas X.w a o es → Ens X.w X.K F1 es kvs → Q (.ref r) s2) :
    wpAny (model X.prog X.w) X.A (eval (.Call (.Attribute x "items" apos) [] [] cpos) X.env) Q X.xe s := by
  refine wpAny_Call_method (T := "dict") (id := "dict.items") (base_nosup hs) rfl hl PySem.F.plainAttrs_dict PySem.F.slot_dict_items PySem.F.type_dict_items (thn (ho.run pins s σ H _ I ⟨H0, F0, F, ρ, _, g, hx, fun v F1 H1 e1 r1 =>
      (⟨F1, e1, r1⟩ : ∃ F1, Ext F H F1 H1 ∧ Vr X.w X.K true F1 H1 v (.dict kvs))⟩) fun u s1 ⟨v, H1, I1, rv, F1, e1, r1⟩ => ?_)
  obtain ⟨a, o, es, rfl, ha, ra, ea⟩ := r1.br.dict_at e1.fh hok
  cases rv
  obtain ⟨arr, ep, hd, hp⟩ := ra.en
  have hr : s1.heap.DictRaw a arr ep := ⟨o, dO_get I1 ha, ra.ex, hd⟩
  refine ⟨hr.typeIs, fun b z => by cases z; exact ⟨o, dO_get I1 ha, ra.ex.2.1⟩, ?_⟩
  have hn := I1.hok.fresh (Nat.le_refl s1.heap.objs.size)
  have I2 : L2.Inv X pins σ (upd H1 s1.heap.objs.size (dO s1.heap.objs.size (viewO "dict_items" a))) { s1 with heap := s1.heap.push (viewO "dict_items" a) } :=
    I1.laid (t' := s1.toks) (fun b ob z => Heap.get?_push_of_some _ z) (Nat.le_refl _) (dO_ok (Heap.get?_push_size _ rfl))
  have fin := q s1.heap.objs.size _ F1 _ a o es (e1.trans (Ext.open_ e1.fh hn)) I2 upd_same (by rw [upd_ne (fun z => by rw [z, hn] at ha; cases ha)]; exact ha) ra ea
  show wpAny _ _ (callWith cpos (.builtin "dict.items") [.ref a] [] []) _ X.xe s1
  exact method_meetsIn PySem.F.slot_dict_items PySem.F.entry_dict_items rfl (PySem.evalArgs_none ⟨rfl, hr.typeIs, PySem.F.args_dict_items_1 _, _, meets_dict_items_raw a ra.ne, ⟨arr, ep, hr⟩, fin⟩)
theorem run_values {pins : List (Addr × Obj)} {s : Shared} {σ : L2.St} {H0 F0 F H : Hp} {ρ : Env} {kvs : List (D × D)} {Q : Value → Shared → Prop} (hs : nosup x = true) (hl : (apos.endLine == cpos.line) = true) (ho : PE X x (XE T n X true ex)) (I : Inv X pins σ H s) (g : Good X.prog X.w X.K H0 F0 σ H F ρ)
    (hx : ev (evFn T.P T.wf n) ρ true ex = .ok (.dict kvs)) (hok : dictOk kvs = true)
    (q : ∀ r s2 F1 H1 a o es, Ext F H F1 H1 → Inv X pins σ H1 s2 → H1 r = some (dO r (viewO "dict_values" a)) → H1 a = some (dO a o) → DHas X.w a o es → Ens X.w X.K F1 es kvs → Q (.ref r) s2) :
    wpAny (model X.prog X.w) X.A (eval (.Call (.Attribute x "values" apos) [] [] cpos) X.env) Q X.xe s := by
  refine wpAny_Call_method (T := "dict") (id := "dict.values") (base_nosup hs) rfl hl PySem.F.plainAttrs_dict PySem.F.slot_dict_values PySem.F.type_dict_values (thn (ho.run pins s σ H _ I ⟨H0, F0, F, ρ, _, g, hx, fun v F1 H1 e1 r1 =>
      (⟨F1, e1, r1⟩ : ∃ F1, Ext F H F1 H1 ∧ Vr X.w X.K true F1 H1 v (.dict kvs))⟩) fun u s1 ⟨v, H1, I1, rv, F1, e1, r1⟩ => ?_)
  obtain ⟨a, o, es, rfl, ha, ra, ea⟩ := r1.br.dict_at e1.fh hok
  cases rv
  obtain ⟨arr, ep, hd, hp⟩ := ra.en
  have hr : s1.heap.DictRaw a arr ep := ⟨o, dO_get I1 ha, ra.ex, hd⟩
  refine ⟨hr.typeIs, fun b z => by cases z; exact ⟨o, dO_get I1 ha, ra.ex.2.1⟩, ?_⟩
  have hn := I1.hok.fresh (Nat.le_refl s1.heap.objs.size)
  have I2 : L2.Inv X pins σ (upd H1 s1.heap.objs.size (dO s1.heap.objs.size (viewO "dict_values" a))) { s1 with heap := s1.heap.push (viewO "dict_values" a) } :=
    I1.laid (t' := s1.toks) (fun b ob z => Heap.get?_push_of_some _ z) (Nat.le_refl _) (dO_ok (Heap.get?_push_size _ rfl))
  have fin := q s1.heap.objs.size _ F1 _ a o es (e1.trans (Ext.open_ e1.fh hn)) I2 upd_same (by rw [upd_ne (fun z => by rw [z, hn] at ha; cases ha)]; exact ha) ra ea
  show wpAny _ _ (callWith cpos (.builtin "dict.values") [.ref a] [] []) _ X.xe s1
  exact method_meetsIn PySem.F.slot_dict_values PySem.F.entry_dict_values rfl (PySem.evalArgs_none ⟨rfl, hr.typeIs, PySem.F.args_dict_values_1 _, _, meets_dict_values_raw a ra.ne, ⟨arr, ep, hr⟩, fin⟩)
/-- sorted(x.items()) -/
theorem snd_itemsSorted (hX : XOk T n X) (hg : Gl X "sorted") (hs : nosup x = true) (hl : (apos.endLine == cpos.line) = true) (ho : PE X x (XE T n X true ex)) :
    PE X (.Call (.Name "sorted" p) [.Call (.Attribute x "items" apos) [] [] cpos] [] pos) (XD T n X (.blt .itemsSorted [ex])) := by
  refine ⟨fun pins s σ H Q I ⟨H0, F0, F, ρ, m, d, g, h, q⟩ => ?_⟩
  simp only [ev, evs] at h
  obtain ⟨ds, hds, h⟩ := R.bind_eq h
  obtain ⟨dx, hx, hds⟩ := R.bind_eq hds
  cases hds
  obtain ⟨kvs, rfl⟩ : ∃ kvs, dx = .dict kvs := by cases dx <;> first | exact ⟨_, rfl⟩ | cases h
  have h : R.guard (dictOk kvs) (sortD (kvs.map fun p => .tuple [p.1, p.2])) = .ok d := h
  obtain ⟨hk, h⟩ := R.guard_ok h
  unfold sortD at h
  obtain ⟨hso, h⟩ := R.guard_ok h
  cases h
  refine Call_ (ld_blt I hg (hX.bl _ (by decide)) boot_sorted ?_)
  refine PyProof.Rows.callWith_builtin1 (PyProof.Rows.args_cons ?_ rfl) rfl rfl
  refine run_items hs hl ho I g hx hk fun r s2 F1 H1 a o es e1 I2 hr ha ra ea => PyProof.Rows.args_nil ?_
  refine sorted_from hX.big I2 (col_items hX.calm I2 e1.fh hr ha ra ea) (fun ds e => by rw [e]; exact hso) fun ds e => ?_
  rw [e]
  exact fun v F' H' e' r' => q v F' H' (e1.trans e') r'
/-- list(x.values()) -/
theorem snd_values (hX : XOk T n X) (hg : Gl X "list") (hs : nosup x = true) (hl : (apos.endLine == cpos.line) = true) (ho : PE X x (XE T n X true ex)) :
    PE X (.Call (.Name "list" p) [.Call (.Attribute x "values" apos) [] [] cpos] [] pos) (XD T n X (.blt .values [ex])) := by
  refine ⟨fun pins s σ H Q I ⟨H0, F0, F, ρ, m, d, g, h, q⟩ => ?_⟩
  simp only [ev, evs] at h
  obtain ⟨ds, hds, h⟩ := R.bind_eq h
  obtain ⟨dx, hx, hds⟩ := R.bind_eq hds
  cases hds
  obtain ⟨kvs, rfl⟩ : ∃ kvs, dx = .dict kvs := by cases dx <;> first | exact ⟨_, rfl⟩ | cases h
  have h : R.guard (dictOk kvs) (.ok (.list (kvs.map (·.2)))) = .ok d := h
  obtain ⟨hk, h⟩ := R.guard_ok h
  cases h
  refine Call_ (ld_blt I hg (hX.bl _ (by decide)) boot_list ?_)
  refine PyProof.Rows.callWith_type1 (PyProof.Rows.args_cons ?_ rfl) rfl rfl
  refine run_values hs hl ho I g hx hk fun r s2 F1 H1 a o es e1 I2 hr ha ra ea => PyProof.Rows.args_nil ?_
  obtain ⟨arr, ep, hd, hp⟩ := ra.en
  refine PySem.W.kdl_call (r := r) KdlSrc.rawValues (I2.ok.hd hX.calm) ⟨⟨_, dO_get I2 hr, rfl, rfl⟩, ⟨o, dO_get I2 ha, ra.ex, hd⟩⟩ (by rw [← Array.length_toList, Paired.len hp]; exact ra.sz) fun h' tk acc c k hg2 hi => ?_
  refine lay_list I2 e1.fh k (Nat.le_refl _) hg2 (ents_vals hp (by simpa using hi)) (by rw [List.length_map]; exact ra.sz) (ens_vals ea) fun v F' H' e' r' => q v F' H' (e1.trans e') r'
/-- tuple(range(n)) -/
theorem pe_tupRgP {e : Expr} {te : L2.St → Hp → (Int → Int → Hp → Prop) → Prop} (hc : X.calm = true) (hg : Gl X "tuple") (hm : X.mg "tuple" = none) (he : PRg X e te) (na : starEach [e] X.env = (false, eval e X.env) :: starEach [] X.env := by rfl) :
    PE X (.Call (.Name "tuple" p) [e] [] pos) (fun σ H Q => te σ H fun a b H1 => RgOk a b ∧ NewT H1 Q (rgV a b)) := by
  refine ⟨fun pins s σ H Q I h => ?_⟩
  refine Call_ (ld_blt I hg hm boot_tuple (PyProof.Rows.callWith_type1 (PyProof.Rows.args_cons (thn (he pins s σ H _ I h) fun x s1 ⟨r, a, b, t, u, v, H1, ex, hr, I1, ok, q⟩ => PyProof.Rows.args_nil ?_) na) na))
  subst ex
  obtain ⟨b1, b2, b3, b4, b5⟩ := ok
  refine call_tuple_range (n := (b - a).toNat) (I1.ok.hd hc) hr (small_one b1 b2 b3 b4) (rangeSize_nat a b) b5 fun h' tk acc hk hi => ?_
  have I2 : L2.Inv X pins σ H1 { s1 with heap := h', toks := tk } := I1.kept hk
  have rv := vals_rg hi
  have := new_tup (s := s1) (h0 := h') (tk := tk) (us := acc.toList) I2 rv (by rw [rgV_length, sizeLine_eq]; omega) q
  rw [Array.toArray_toList] at this
  exact this
theorem snd_tupRange (hX : XOk T n X) (hg : Gl X "tuple") (hg2 : Gl X "range") (hn : nst e = true) (he : PE X e (XE T n X true ex)) : PE X (.Call (.Name "tuple" p) [.Call (.Name "range" p2) [e] [] apos] [] pos) (XD T n X (.blt .tupRange [ex])) := by
  have h2 := pe_tupRgP (p := p) (pos := pos) hX.calm hg (hX.bl _ (by decide)) (prg_1 (p := p2) (pos := apos) hg2 (hX.bl _ (by decide)) he (star_nst hn)) rfl
  refine h2.weak fun σ H Q ⟨H0, F0, F, ρ, m, d, g, h, q⟩ => ?_
  simp only [ev, evs] at h
  obtain ⟨ds, hds, h⟩ := R.bind_eq h
  obtain ⟨dx, hx, hds⟩ := R.bind_eq hds
  cases hds
  obtain ⟨k, rfl⟩ : ∃ k, dx = .int k := by cases dx <;> first | exact ⟨_, rfl⟩ | cases h
  have h : R.guard (decide (0 ≤ k) && decide (k ≤ 1000)) (.ok (.tuple ((List.range k.toNat).map fun (i : Nat) => PyData.int (i : Int)))) = .ok d := h
  obtain ⟨hk, h⟩ := R.guard_ok h
  cases h
  simp only [Bool.and_eq_true, decide_eq_true_eq] at hk
  refine ⟨H0, F0, F, ρ, _, g, hx, fun v F1 H1 e1 r1 => ?_⟩
  have r1 : Br X.w X.K F1 H1 v (.int k) := r1.br
  cases r1.int_inv
  refine ⟨k, rfl, RgOk.of_le (by decide) (by omega) (by decide) hk.1, ?_⟩
  refine Fin.tup (X := X) (F := F1) (ds := (List.range k.toNat).map fun (i : Nat) => PyData.int (i : Int)) (fun v F' H' e' r' => q v F' H' (e1.trans e') r') e1.fh ?_
  unfold rgV
  rw [Int.sub_zero]
  exact DrAll.of_pointwise _ (fun i : Nat => V.int (0 + (i : Nat))) (fun i : Nat => PyData.int (i : Int)) fun i _ => by
    rw [Int.zero_add]
    exact .int _
end
end KD
/-! KdComp: what is walked, comprehensions. -/
namespace KD
open PySem PySem.Spec
open PyProof.Rows L2
/-- lists and tuples are not too long -/
def Szd (K : PySem.W.Frag) (H : Hp) : Prop := ∀ (a : Addr) (xs : List V), SqL K H a xs ∨ SqT K H a xs → xs.length ≤ sizeLine
theorem szd_of {X : Cx} {pins : List (Addr × Obj)} {σ : L2.St} {H : Hp} {s : Shared} (I : L2.Inv X pins σ H s) : Szd X.K H := fun a xs h => by
  rcases h with h | h
  · obtain ⟨its, r, _, hz⟩ := I.list h
    exact hz
  · obtain ⟨its, r, _, hz⟩ := I.tuple h
    exact hz
theorem _root_.L2.PI.sized {X : Cx} {tg it : Expr} {wi : TI} (h : PI X tg it wi) : PI X tg it (fun σ H R => wi σ H fun J H1 => Szd X.K H1 → R J H1) :=
  ⟨fun pins s σ H R I q => thn (h.run pins s σ H _ I q) fun v s1 q1 => thn q1 fun itv s2 ⟨it, fp, tn, J, H', e, I', t, t0, f, r⟩ => ⟨it, fp, tn, J, H', e, I', t, t0, f, r (szd_of I')⟩⟩
section
variable {P : Program} {w : World} {K : PySem.W.Frag} {F H : Hp} {v : V} {d : D} {m : Bool} {ds xs : List D}
theorem Vr.list_inv (e : Same F H) (h : Vr w K m F H v (.list ds)) : ∃ a xs, v = .ref a ∧ SqL K (if m = true then H else F) a xs ∧ SqL K H a xs ∧ DrAll w K F xs ds := by
  cases m with
  | true =>
    obtain ⟨a, xs, h1, h2, h3⟩ := Br.list_inv e h
    exact ⟨a, xs, h1, .inl (.inl h2), .inl (.inl h2), h3⟩
  | false =>
    cases h with
    | lst h hl hi => exact ⟨_, _, rfl, .inl (.inl h), .inl (.inl (e _ _ h)), hl, hi⟩
theorem Vr.tuple_inv (e : Same F H) (h : Vr w K m F H v (.tuple ds)) : ∃ a xs, v = .ref a ∧ SqT K (if m = true then H else F) a xs ∧ SqT K H a xs ∧ DrAll w K F xs ds := by
  obtain ⟨a, xs, h1, h2, h3⟩ := Br.tuple_inv h.br
  refine ⟨a, xs, h1, ?_, Same.sqT e h2.sq, h3⟩
  cases m with
  | true => exact Same.sqT e h2.sq
  | false => exact h2.sq
theorem Vr.dict_inv {ds : List (D × D)} (e : Same F H) (h : Vr w K m F H v (.dict ds)) (hs : dictOk ds = true) : ∃ a o kvs, v = .ref a ∧ (if m = true then H else F) a = some (dO a o) ∧ H a = some (dO a o) ∧ DHas w a o kvs ∧ Ens w K F kvs ds := by
  cases m with
  | true =>
    obtain ⟨a, o, kvs, h1, h2, h3, h4⟩ := Br.dict_at e h hs
    exact ⟨a, o, kvs, h1, h2, h2, h3, h4⟩
  | false =>
    have h' : Br w K F F v (.dict ds) := .inl h
    obtain ⟨a, o, kvs, h1, h2, h3, h4⟩ := Br.dict_at (Same.refl F) h' hs
    exact ⟨a, o, kvs, h1, h2, e _ _ h2, h3, h4⟩
theorem Vr.scr_inv (e : Same F H) (h : Vr w K m F H v (KD.scr xs)) : ∃ (a : Addr) (ns : List Int), v = .ref a ∧ xs = ns.map .int ∧ SqL K (if m = true then H else F) a (ns.map V.int) ∧ SqL K H a (ns.map V.int) := by
  obtain ⟨a, ns, h1, h2, h3⟩ := Br.scr_inv e h.br
  cases m with
  | true => exact ⟨a, ns, h1, h2, Same.sqL e h3, Same.sqL e h3⟩
  | false =>
    have h' : Br w K F F v (KD.scr xs) := .inl h
    obtain ⟨a', ns', k1, k2, k3⟩ := Br.scr_inv (Same.refl F) h'
    exact ⟨a', ns', k1, k2, k3, Same.sqL e k3⟩
end
section
variable {T : Tb} {n : Nat} {X : Cx} {e f x y z tg : Expr} {ex fx : Ex} {pos p : Pos} {m : Bool}
theorem ints_dr {K : PySem.W.Frag} {w : World} {F : Hp} (ns : List Int) : DrAll w K F (ns.map V.int) (ns.map PyData.int) := DrAll.of_pointwise ns V.int PyData.int fun i _ => .int i
theorem walk_seq (he : PE X e (XE T n X m ex)) : PI X tg e (XW T n X m .seq [ex]) := by
  refine PI.weak ((pi_list he).sized.or ((pi_tup he).sized.or ((pi_str he).sized.or (pi_dkeys he)))) fun σ H K ⟨H0, F0, F, ρ, ds, xs, g, hd, hw, q⟩ => ?_
  obtain ⟨d, hd1, rfl⟩ := evs_one hd
  clear hd
  have hd := hd1
  clear hd1
  cases d with
  | list l =>
    cases hw
    exact .inl ⟨H0, F0, F, ρ, _, g, hd, fun v F1 H1 e1 r1 => by
      obtain ⟨a, ys, rfl, h1, h2, h3⟩ := r1.list_inv e1.fh
      exact ⟨a, rfl, ⟨ys, h2⟩, fun z => q _ F1 H1 e1 (by rw [← h3.1]; exact z a ys (.inl h2)) (walk_list h1 h3)⟩⟩
  | tuple l =>
    cases hw
    exact .inr (.inl ⟨H0, F0, F, ρ, _, g, hd, fun v F1 H1 e1 r1 => by
      obtain ⟨a, ys, rfl, h1, h2, h3⟩ := r1.tuple_inv e1.fh
      exact ⟨a, rfl, ⟨ys, h2⟩, fun z => q _ F1 H1 e1 (by rw [← h3.1]; exact z a ys (.inr h2)) (walk_tup h1 h3)⟩⟩)
  | str z =>
    obtain ⟨hz, hw⟩ := R.guard_ok hw
    cases hw
    exact .inr (.inr (.inl ⟨H0, F0, F, ρ, _, g, hd, fun v F1 H1 e1 r1 => by
      obtain ⟨rfl, hk⟩ := r1.br.str_inv
      refine ⟨z, rfl, fun _ => q _ F1 H1 e1 ?_ (walk_str hk)⟩
      have : (chars z).length = z.length := by unfold chars; simp [Str.length]
      rw [this]
      exact Nat.le_trans (of_decide_eq_true hz) lim_size⟩))
  | dict kvs =>
    have hw : (match dictOk kvs with
      | true => R.ok (kvs.map (·.1))
      | false => (match isScr (.dict kvs) with
        | some xs => R.ok xs
        | none => .bot)) = R.ok xs := hw
    split at hw
    · rename_i hok
      cases hw
      exact .inr (.inr (.inr ⟨H0, F0, F, ρ, _, g, hd, fun v F1 H1 e1 r1 => by
        obtain ⟨a, o, es, rfl, h1, h2, h3, h4⟩ := r1.dict_inv e1.fh hok
        exact ⟨a, o, es, rfl, h2, h3, q _ F1 H1 e1 (by rw [List.length_map, ← Paired.len h4]; exact h3.sz) (walk_dkeys h1 h4)⟩⟩))
    · split at hw <;> try (cases hw; done)
      rename_i l hl
      cases hw
      have hs := isScr_inv hl
      rw [hs] at hd
      exact .inl ⟨H0, F0, F, ρ, _, g, hd, fun v F1 H1 e1 r1 => by
        obtain ⟨a, ns, rfl, rfl, h1, h2⟩ := r1.scr_inv e1.fh
        exact ⟨a, rfl, ⟨_, h2⟩, fun z => q _ F1 H1 e1 (by rw [List.length_map, ← List.length_map (f := V.int)]; exact z a _ (.inl h2)) (walk_list h1 (ints_dr ns))⟩⟩
  | _ => cases hw
theorem walk_items {apos : Pos} (hs : nosup e = true) (hl : (apos.endLine == pos.line) = true) (ht : ∃ es k p, tg = .Tuple es k p) (he : PE X e (XE T n X m ex)) : PI X tg (.Call (.Attribute e "items" apos) [] [] pos) (XW T n X m .items [ex]) := by
  obtain ⟨es, k, tp, rfl⟩ := ht
  refine PI.weak (pi_ditems he (base_nosup hs) hl) fun σ H K ⟨H0, F0, F, ρ, ds, xs, g, hd, hw, q⟩ => ?_
  obtain ⟨d, hd1, rfl⟩ := evs_one hd
  cases d <;> try (cases hw; done)
  obtain ⟨hok, hw⟩ := R.guard_ok hw
  cases hw
  exact ⟨H0, F0, F, ρ, _, g, hd1, fun v F1 H1 e1 r1 => by
    obtain ⟨a, o, es, rfl, h1, h2, h3, h4⟩ := r1.dict_inv e1.fh hok
    exact ⟨a, o, es, rfl, h2, h3, q _ F1 H1 e1 (by rw [List.length_map, ← Paired.len h4]; exact h3.sz) (walk_ditems h1 h4)⟩⟩
theorem walk_range1 (hX : XOk T n X) (hg : Gl X "range") (hn : nst e = true) (he : PA X [e] (XEs T n X m [ex])) : PI X tg (.Call (.Name "range" p) [e] [] pos) (XW T n X m .range1 [ex]) := by
  refine PI.weak (pi_range1 hg (hX.bl _ (by decide)) he (star_nst hn)) fun σ H K ⟨H0, F0, F, ρ, ds, xs, g, hd, hw, q⟩ => ⟨H0, F0, F, ρ, ds, g, hd, fun vs F1 H1 e1 hl r1 => ?_⟩
  have hbr : BrAll X F1 H1 vs ds := ⟨hl, fun i v d a b => (r1 i v d a b).br⟩
  obtain ⟨d, hd0, rfl⟩ := evs_one hd
  clear hd0
  obtain ⟨v, rfl, hv⟩ := hbr.one
  cases d <;> try (cases hw; done)
  rename_i j
  obtain ⟨hc, hw⟩ := R.guard_ok hw
  cases hw
  rw [Bool.and_eq_true, decide_eq_true_eq, decide_eq_true_eq] at hc
  unfold far at hc
  cases hv.int_inv
  refine ⟨j, rfl, by omega, by omega, q _ F1 H1 e1 ?_ ?_⟩
  · rw [List.length_map, List.length_range]
    exact Nat.le_trans (by show j.toNat ≤ 1000000; omega) lim_size
  · have h := walk_range (p := false) (w := X.w) (K := X.K) (F := F1) (B := if m = true then H1 else F1) (lo := 0) (n := j.toNat)
    simp only [Int.zero_add] at h
    exact h
theorem walk_range2 (hX : XOk T n X) (hg : Gl X "range") (hn : nst e = true) (hn2 : nst f = true) (he : PA X [e, f] (XEs T n X m [ex, fx])) : PI X tg (.Call (.Name "range" p) [e, f] [] pos) (XW T n X m .range2 [ex, fx]) := by
  refine PI.weak (pi_range2 hg (hX.bl _ (by decide)) he (by rw [star_nst hn, star_nst hn2]; rfl) (star_nst hn2)) fun σ H K ⟨H0, F0, F, ρ, ds, xs, g, hd, hw, q⟩ => ⟨H0, F0, F, ρ, ds, g, hd, fun vs F1 H1 e1 hl r1 => ?_⟩
  have hbr : BrAll X F1 H1 vs ds := ⟨hl, fun i v d a b => (r1 i v d a b).br⟩
  have h2 : ∃ d1 d2, ds = [d1, d2] := by
    simp only [evs] at hd
    obtain ⟨d1, _, hd⟩ := R.bind_eq hd
    obtain ⟨r, hr, hd⟩ := R.bind_eq hd
    obtain ⟨d2, _, hr⟩ := R.bind_eq hr
    cases hr
    cases hd
    exact ⟨_, _, rfl⟩
  obtain ⟨d1, d2, rfl⟩ := h2
  obtain ⟨v, u, rfl, hv, hu⟩ := hbr.two
  cases d1 <;> try (cases hw; done)
  cases d2 <;> try (cases hw; done)
  rename_i i j
  obtain ⟨hc, hw⟩ := R.guard_ok hw
  cases hw
  simp only [Bool.and_eq_true, decide_eq_true_eq] at hc
  unfold far at hc
  cases hv.int_inv
  cases hu.int_inv
  refine ⟨i, j, rfl, ⟨by omega, by omega, by omega, by omega⟩, q _ F1 H1 e1 ?_ walk_range⟩
  rw [List.length_map, List.length_range]
  exact Nat.le_trans (by show (j - i).toNat ≤ 1000000; omega) lim_size
theorem isTup_inv (h : isTup tg = true) : ∃ es k p, tg = .Tuple es k p := by
  unfold isTup at h
  split at h
  · exact ⟨_, _, _, rfl⟩
  · cases h
theorem walk_enum (hX : XOk T n X) (hg : Gl X "enumerate") (ht : isTup tg = true) (hn : nst e = true) (he : PA X [e] (XEs T n X m [ex])) : PI X tg (.Call (.Name "enumerate" p) [e] [] pos) (XW T n X m .enum [ex]) := by
  obtain ⟨es, k, tp, rfl⟩ := isTup_inv ht
  have hm : X.mg "enumerate" = none := hX.bl _ (by decide)
  refine PI.weak ((pi_enum hg hm he (star_nst hn)).sized.or (pi_enumT hg hm he (star_nst hn)).sized) fun σ H K ⟨H0, F0, F, ρ, ds, xs, g, hd, hw, q⟩ => ?_
  obtain ⟨d, hd0, rfl⟩ := evs_one hd
  have inv : ∀ {vs : List V} {F1 H1 : Hp}, vs.length = [d].length → (∀ (i : Nat) (v : V) (d' : D), vs[i]? = some v → [d][i]? = some d' → Vr X.w X.K m F1 H1 v d') → ∃ v, vs = [v] ∧ Vr X.w X.K m F1 H1 v d := fun {vs F1 H1} hl r => by
    cases vs with
    | nil => simp at hl
    | cons v r' =>
      cases r' with
      | nil => exact ⟨v, rfl, r 0 v d rfl rfl⟩
      | cons u r'' => simp at hl
  cases d with
  | list l =>
    cases hw
    exact .inl ⟨H0, F0, F, ρ, _, g, hd, fun vs F1 H1 e1 hl r1 => by
      obtain ⟨v, rfl, r2⟩ := inv hl r1
      obtain ⟨a, ys, rfl, h1, h2, h3⟩ := r2.list_inv e1.fh
      exact ⟨a, ys, rfl, h2, fun z => q _ F1 H1 e1 (by rw [enumFrom_len, ← h3.1]; exact z a ys (.inl h2)) (walk_enumL h1 h3)⟩⟩
  | tuple l =>
    cases hw
    exact .inr ⟨H0, F0, F, ρ, _, g, hd, fun vs F1 H1 e1 hl r1 => by
      obtain ⟨v, rfl, r2⟩ := inv hl r1
      obtain ⟨a, ys, rfl, h1, h2, h3⟩ := r2.tuple_inv e1.fh
      exact ⟨a, ys, rfl, h2, fun z => q _ F1 H1 e1 (by rw [enumFrom_len, ← h3.1]; exact z a ys (.inr h2)) (walk_enumT h1 h3)⟩⟩
  | _ => cases hw
theorem walk_zip (hX : XOk T n X) (hg : Gl X "zip") (ht : isTup tg = true) (hn : nst e = true) (hn2 : nst f = true) (he : PA X [e, f] (XEs T n X m [ex, fx])) : PI X tg (.Call (.Name "zip" p) [e, f] [] pos) (XW T n X m .zip [ex, fx]) := by
  obtain ⟨es, k, tp, rfl⟩ := isTup_inv ht
  have hm : X.mg "zip" = none := hX.bl _ (by decide)
  have hpl : (backTo pos (starEach [f] X.env)).any (·.1) = false := star_plain (by simp [hn2])
  refine PI.weak (RZ.pi_zipA hg hm he (star_nst hn) hpl).sized fun σ H K ⟨H0, F0, F, ρ, ds, xs, g, hd, hw, q⟩ => ⟨H0, F0, F, ρ, ds, g, hd, fun vs F1 H1 e1 hl r1 => ?_⟩
  have h2 : ∃ d1 d2, ds = [d1, d2] := by
    simp only [evs] at hd
    obtain ⟨d1, _, hd⟩ := R.bind_eq hd
    obtain ⟨r, hr, hd⟩ := R.bind_eq hd
    obtain ⟨d2, _, hr⟩ := R.bind_eq hr
    cases hr
    cases hd
    exact ⟨_, _, rfl⟩
  obtain ⟨d1, d2, rfl⟩ := h2
  have inv : ∃ v u, vs = [v, u] ∧ Vr X.w X.K m F1 H1 v d1 ∧ Vr X.w X.K m F1 H1 u d2 := by
    cases vs with
    | nil => simp at hl
    | cons v r' =>
      cases r' with
      | nil => simp at hl
      | cons u r'' =>
        cases r'' with
        | nil => exact ⟨v, u, rfl, r1 0 v d1 rfl rfl, r1 1 u d2 rfl rfl⟩
        | cons _ _ => simp at hl
  obtain ⟨v, u, rfl, hv, hu⟩ := inv
  have mn : ∀ (l l' : List D), l.length ≤ sizeLine → (zipD l l').length ≤ sizeLine := fun l l' h => by
    rw [zipD_len]
    exact Nat.le_trans (Nat.min_le_left _ _) h
  cases d1 <;> try (cases hw; done)
  · cases d2 <;> try (cases hw; done)
    · cases hw
      obtain ⟨a, ys, rfl, h1, h2, h3⟩ := hv.list_inv e1.fh
      obtain ⟨b, zs, rfl, k1, k2, k3⟩ := hu.list_inv e1.fh
      exact ⟨a, b, ys, zs, rfl, .inl ⟨h2, k2, fun z => q _ F1 H1 e1 (mn _ _ (by rw [← h3.1]; exact z a ys (.inl h2))) (walk_zipL h1 h3 k1 k3)⟩⟩
  · cases d2 <;> try (cases hw; done)
    · cases hw
      obtain ⟨a, ys, rfl, h1, h2, h3⟩ := hv.tuple_inv e1.fh
      obtain ⟨b, zs, rfl, k1, k2, k3⟩ := hu.tuple_inv e1.fh
      exact ⟨a, b, ys, zs, rfl, .inr ⟨h2, k2, fun z => q _ F1 H1 e1 (mn _ _ (by rw [← h3.1]; exact z a ys (.inr h2))) (walk_zipT h1 h3 k1 k3)⟩⟩
end
/-! ### comprehensions -/
theorem compF_drop {step : D → R (Option D)} {xs : List D} {i : Nat} {x : D} {yr : List D} (hx : xs[i]? = some x) (h : compF step (xs.drop i) = .ok yr) :
    ∃ r yr', step x = .ok r ∧ compF step (xs.drop (i + 1)) = .ok yr' ∧ yr = (match r with
      | some y => y :: yr'
      | none => yr') := by
  have hi : i < xs.length := (List.getElem?_eq_some_iff.mp hx).1
  rw [List.drop_eq_getElem_cons hi] at h
  rw [List.getElem?_eq_getElem hi] at hx
  cases hx
  rw [compF] at h
  obtain ⟨r, hr, h⟩ := R.bind_eq h
  obtain ⟨ys, hy, h⟩ := R.bind_eq h
  cases h
  exact ⟨r, ys, hr, hy, rfl⟩
theorem wipe_get (σ : L2.St) (i : Nat) : ∀ is : List Nat, (L2.wipe σ is)[i]? = if i ∈ is ∧ i < σ.length then some none else σ[i]?
  | [] => by simp [L2.wipe]
  | j :: is => by
    rw [L2.wipe]
    by_cases q : j = i
    · subst q
      by_cases hl : j < σ.length
      · rw [List.getElem?_set_self (by rw [L2.wipe_length]; exact hl), if_pos ⟨List.mem_cons_self, hl⟩]
      · rw [List.getElem?_eq_none (by rw [List.length_set, L2.wipe_length]; omega), if_neg (fun z => hl z.2), List.getElem?_eq_none (by omega)]
    · rw [List.getElem?_set_ne q, wipe_get σ i is]
      have : i ∈ j :: is ↔ i ∈ is := by simp [Ne.symm q]
      simp [this]
theorem wipe_same {σ σ' : L2.St} {is : List Nat} (hl : σ'.length = σ.length) (h : ∀ i, i ∉ is → σ'[i]? = (L2.wipe σ is)[i]?) : L2.wipe σ' is = L2.wipe σ is := by
  apply List.ext_getElem?
  intro i
  rw [wipe_get, wipe_get]
  by_cases q : i ∈ is
  · by_cases hi : i < σ.length
    · rw [if_pos ⟨q, by omega⟩, if_pos ⟨q, hi⟩]
    · rw [if_neg (fun z => hi (by omega)), if_neg (fun z => hi z.2), List.getElem?_eq_none (by omega), List.getElem?_eq_none (by omega)]
  · rw [if_neg (fun z => q z.1), if_neg (fun z => q z.1), h i q, wipe_keep q]
abbrev XG (X : Cx) (t : Tg) : TG := tG X.prog X.w X.K t
theorem ownOf_names {N : List Str} : ∀ {is : List Nat} {own : List (Str × Nat)}, ownOf N is = some own → own.map (·.2) = is
  | [], own, h => by
    unfold ownOf at h
    simp at h
    subst h
    rfl
  | i :: is, own, h => by
    unfold ownOf at h
    rw [List.mapM_cons] at h
    cases hi : N[i]? with
    | none => simp [hi] at h
    | some x =>
      simp only [hi, Option.map_some, Option.bind_eq_bind, Option.bind_some] at h
      obtain ⟨r, hr, h⟩ := Option.bind_eq_some_iff.mp h
      cases h
      rw [List.map_cons, ownOf_names (own := r) hr]
section
variable {T : Tb} {n : Nat} {X : Cx} {tg iter elt : Expr} {ifs : List Expr} {scope : Scope} {own : List (Str × Nat)} {pos : Pos} {ex cond : Ex} {t : Tg} {k : IK} {its : List Ex}
theorem lc_imp (hX : XOk T n X) (ho : own.map (·.2) = t.names) (hpt : k.pairs = true → t.isT = true) : ∀ (σ : L2.St) (H : Hp) (Q : VK), XN T n X (.comp ex t k its cond) σ H Q → tLc (XW T n X true k its) (XG X t) (XT T n X cond) (XE T n X false ex) (own.map (·.2)) σ H Q := by
  rintro σ H Q ⟨H0, F0, F, ρ, d, g, h, q⟩
  simp only [ev] at h
  obtain ⟨ds, hds, h⟩ := R.bind_eq h
  obtain ⟨xs, hxs, h⟩ := R.bind_eq h
  obtain ⟨ys, hys, h⟩ := R.bind_eq h
  cases h
  rw [ho]
  refine ⟨H0, F0, F, ρ, ds, xs, g, hds, hxs, fun J F1 H1 e1 hz hw D hD => ?_⟩
  refine ⟨fun i m H' => m = xs.length - i ∧ i ≤ xs.length ∧ ∃ F' acc ysd yr, Ext F1 H1 F' H' ∧ F' D = none ∧ H' D = some (.lst acc) ∧ acc.length ≤ i ∧ DrAllX X F' acc ysd ∧ compF _ (xs.drop i) = .ok yr ∧ ys = ysd ++ yr,
    ⟨xs.length, rfl, Nat.zero_le _, F1, [], [], ys, Ext.open_ e1.fh hD, same_free e1.fh hD, upd_same, Nat.le_refl _, .nil, hys, rfl⟩, ?_⟩
  rintro i m H2 ⟨rfl, hi, F2, acc, ysd, yr, e2, hFD, hHD, hacc, hdr, hc, hyy⟩
  have hB : Same (if true = true then H1 else F1) H2 := e2.h
  obtain ⟨w1, w2⟩ := hw H2 F2 e2.f e2.fh hB
  by_cases hlt : i < xs.length
  · right
    obtain ⟨hgo, hyl⟩ := w2 i xs[i] (List.getElem?_eq_getElem hlt)
    obtain ⟨r, yr', hst, hrest, hyr⟩ := compF_drop (List.getElem?_eq_getElem hlt) hc
    obtain ⟨ρ', hρ, hst⟩ := R.bind_eq hst
    obtain ⟨b, hb, hst⟩ := asB_bind hst
    refine ⟨hgo, _, fun H' hN => ⟨xs.length - (i + 1), by omega, hN⟩, fun x H3 hx => ?_⟩
    obtain ⟨F3, e3, hx⟩ := hyl x H3 hx
    have g3 := ((g.ext e1).ext (e2.trans e3)).blk t.names
    refine ⟨H0, F0, F3, _, _, ρ', g3, hx.weak hpt, hρ, fun σ2 g4 hout hlen => ⟨wipe_same (by rw [hlen, L2.wipe_length]) hout, H0, F0, F3, ρ', b, g4, hb, fun F4 H4 e4 => ?_⟩⟩
    have fresh : ∀ {F' H' F'' H'' : Hp}, Ext F' H' F'' H'' → H' D = some (.lst acc) → F' D = none → H'' D = some (.lst acc) ∧ F'' D = none := fun e h1 h2 => ⟨e.h _ _ h1, by rw [e.new D (by rw [h1]; simp), h2]⟩
    obtain ⟨a1, a2⟩ := fresh (e3.trans e4) hHD hFD
    cases b with
    | false =>
      cases hst
      refine iteF ⟨rfl, hlt, F4, acc, ysd, yr', (e2.trans e3).trans e4, a2, a1, Nat.le_succ_of_le hacc, hdr.mono (e3.f.trans e4.f), hrest, ?_⟩
      rw [hyy, hyr]
    | true =>
      obtain ⟨y, hy, hst⟩ := R.bind_eq hst
      cases hst
      refine iteT ⟨H0, F0, F4, ρ', y, g4.ext e4, hy, fun v F5 H5 e5 hv => ?_⟩
      obtain ⟨b1, b2⟩ := fresh e5 a1 a2
      refine ⟨acc, b1, Nat.lt_of_le_of_lt hacc (Nat.lt_of_lt_of_le hlt hz), rfl, hlt, F5, acc ++ [v], ysd ++ [y], yr', ?_, b2, upd_same, by rw [List.length_append]; exact Nat.succ_le_succ hacc, (hdr.mono ((e3.f.trans e4.f).trans e5.f)).append (.cons hv .nil), hrest, ?_⟩
      · have E := ((e2.trans e3).trans e4).trans e5
        refine ⟨E.f, fun c u hc => ?_, fun c u hc => ?_, E.new⟩
        · rw [upd_ne (ne_of_none hc hD)]
          exact E.h c u hc
        · rw [upd_ne (ne_of_none hc b2)]
          exact E.fh c u hc
      · rw [hyy, hyr, List.append_assoc]
        rfl
  · left
    have hie : i = xs.length := by omega
    subst hie
    rw [List.drop_length] at hc
    cases hc
    rw [List.append_nil] at hyy
    subst hyy
    exact ⟨w1, q D (.lst acc) F2 H2 (e1.trans e2) (Same.free e1.h hD) hFD hHD (.lst hdr)⟩
/-- what a comprehension in the text must be -/
structure CompOk (T : Tb) (n : Nat) (X : Cx) (elt tg iter : Expr) (ifs : List Expr) (scope : Scope) (own : List (Str × Nat)) (ex : Ex) (t : Tg) (k : IK) (its : List Ex) (cond : Ex) : Prop where
  ok : BlkOk X.N X.env.scope scope own
  ho : own.map (·.2) = t.names
  hi : PI X tg iter (XW T n X true k its)
  hg : ∀ (s : Shared) (H : Hp) (C : Addr) (cl : List (Str × Addr)) (fp : List Addr), PG (X.blk s H scope (compEnvC scope cl C X.env) fp) tg (XG X t)
  ht : ∀ (s : Shared) (H : Hp) (C : Addr) (cl : List (Str × Addr)) (fp : List Addr), PTs (X.blk s H scope (compEnvC scope cl C X.env) fp) ifs (XT T n X cond)
  he : ∀ (s : Shared) (H : Hp) (C : Addr) (cl : List (Str × Addr)) (fp : List Addr), PE (X.blk s H scope (compEnvC scope cl C X.env) fp) elt (XE T n X false ex)
  hs : ∀ x, foldedSetIterable iter X.env x = pure x
  pt : k.pairs = true → t.isT = true
theorem snd_comp (hX : XOk T n X) (c : CompOk T n X elt tg iter ifs scope own ex t k its cond) : PE X (.ListComp elt [⟨tg, iter, ifs, 0⟩] scope pos) (XN T n X (.comp ex t k its cond)) :=
  (pe_lc hX.calm hX.nd c.hi c.ok c.hg c.ht c.he c.hs).weak (lc_imp hX c.ho c.pt)
/-- name = [..], the list handed straight to the name -/
theorem set_comp (hX : XOk T n X) (c : CompOk T n X elt tg iter ifs scope own ex t k its cond) {i : Nat} {y : Str} {py spos : Pos} (hy : X.N[i]? = some y) (hyl : X.env.scope.names.lookup y = some .local)
    (hsw : swapsWith (.ListComp elt [⟨tg, iter, ifs, 0⟩] scope pos) (some (.Name y py)) spos.line X.env = pure true) : PS X (.Assign [.Name y py] (.ListComp elt [⟨tg, iter, ifs, 0⟩] scope pos) spos) (tAsg (XN T n X (.comp ex t k its cond)) (gName i)) :=
  PS.weak (ps_setLc hX.calm hX.nd hy hyl hsw c.hi c.ok c.hg c.ht c.he c.hs) fun D σ H q => lc_imp hX c.ho c.pt σ H _ q
end
end KD
/-! KdStp: slices with a step. -/
namespace KD
open PySem PySem.Spec
open PyProof.Rows L2
theorem fm_congr {α β : Type} {f g : α → Option β} : ∀ {l : List α}, (∀ a ∈ l, f a = g a) → l.filterMap f = l.filterMap g
  | [], _ => rfl
  | a :: l, h => by
    rw [List.filterMap_cons, List.filterMap_cons, h a List.mem_cons_self, fm_congr fun b hb => h b (List.mem_cons_of_mem _ hb)]
theorem every_pick {α : Type} (c : Nat) (hc : 0 < c) : ∀ (ys : List α) (j K : Nat), ys.length ≤ K * c + j → every c j ys = (List.range K).filterMap fun m => ys[j + m * c]?
  | [], j, K, _ => by
    rw [every]
    symm
    rw [List.filterMap_eq_nil_iff]
    intro m _
    simp
  | y :: ys, 0, K, h => by
    cases K with
    | zero => simp at h
    | succ K =>
      rw [every, List.range_succ_eq_map, List.filterMap_cons, List.filterMap_map, every_pick c hc ys (c - 1) K (by
        rw [List.length_cons, Nat.add_mul] at h
        omega)]
      simp only [Nat.zero_mul, Nat.add_zero, List.getElem?_cons_zero]
      congr 1
      refine fm_congr fun m _ => ?_
      show ys[c - 1 + m * c]? = (y :: ys)[0 + (m + 1) * c]?
      have : 0 + (m + 1) * c = (c - 1 + m * c) + 1 := by
        rw [Nat.add_mul]
        omega
      rw [this, List.getElem?_cons_succ]
  | y :: ys, n + 1, K, h => by
    rw [every, every_pick c hc ys n K (by rw [List.length_cons] at h; omega)]
    refine fm_congr fun m _ => ?_
    have : n + 1 + m * c = (n + m * c) + 1 := by omega
    rw [this, List.getElem?_cons_succ]
theorem every_len {α : Type} (c : Nat) : ∀ (j : Nat) (ys : List α), (every c j ys).length ≤ ys.length
  | _, [] => by rw [every]; exact Nat.le_refl _
  | 0, y :: ys => by rw [every, List.length_cons, List.length_cons]; exact Nat.succ_le_succ (every_len c _ ys)
  | n + 1, y :: ys => by rw [every, List.length_cons]; exact Nat.le_succ_of_le (every_len c n ys)
theorem every_vals (c : Nat) : ∀ (j : Nat) {xs : List V} {us : List Value}, Vals xs us → Vals (every c j xs) (every c j us)
  | _, _, _, .nil => by rw [every, every]; exact .nil
  | 0, _, _, .cons r t => by rw [every, every]; exact .cons r (every_vals c _ t)
  | n + 1, _, _, .cons r t => by rw [every, every]; exact every_vals c n t
theorem every_dr {w : World} {K : PySem.W.Frag} {F : Hp} (c : Nat) : ∀ (j : Nat) {xs : List V} {ds : List D}, DrAll w K F xs ds → DrAll w K F (every c j xs) (every c j ds)
  | j, xs, [], r => by
    rw [r.nil_inv, every, every]
    exact .nil
  | 0, xs, d :: ds, r => by
    obtain ⟨v, t, rfl, h1, h2⟩ := r.cons_inv
    rw [every, every]
    exact .cons h1 (every_dr c _ h2)
  | n + 1, xs, d :: ds, r => by
    obtain ⟨v, t, rfl, h1, h2⟩ := r.cons_inv
    rw [every, every]
    exact every_dr c n h2
theorem rev_dr {w : World} {K : PySem.W.Frag} {F : Hp} {xs : List V} {ds : List D} (r : DrAll w K F xs ds) : DrAll w K F xs.reverse ds.reverse := by
  refine ⟨by rw [List.length_reverse, List.length_reverse, r.1], fun i v d hv hd => ?_⟩
  have hi := (List.getElem?_eq_some_iff.mp hv).1
  rw [List.length_reverse] at hi
  rw [List.getElem?_reverse hi] at hv
  rw [List.getElem?_reverse (by rw [← r.1]; exact hi), ← r.1] at hd
  exact r.2 _ v d hv hd
theorem ceil_mul (x c : Int) (hc : 0 < c) : x ≤ (x + c - 1) / c * c := by
  have h1 := Int.emod_add_mul_ediv (x + c - 1) c
  have h2 := Int.emod_lt_of_pos (x + c - 1) hc
  rw [Int.mul_comm] at h1
  omega
theorem pick_hop {items : Array Value} {a c : Nat} (hc : 0 < c) : (slicePick items (some (a : Int)) none (some (c : Int))).toList = every c 0 (items.toList.drop a) := by
  have hb : sliceBounds (some (a : Int)) none (some (c : Int)) items.size = (((min a items.size : Nat) : Int), (items.size : Int), (c : Int)) := by
    unfold sliceBounds
    have h1 : ((c : Int) > 0) := by omega
    have h2 : ¬ ((a : Int) < 0) := by omega
    simp only [Option.getD_some, h1, if_true, h2, if_false]
    refine Prod.ext ?_ rfl
    show max 0 (min (a : Int) (items.size : Int)) = ((min a items.size : Nat) : Int)
    omega
  unfold slicePick
  rw [hb]
  dsimp only
  unfold sliceRange
  have h1 : ((c : Int) > 0) := by omega
  simp only [h1, if_true]
  rw [List.filterMap_map]
  by_cases hlt : a < items.size
  · have hm : min a items.size = a := by omega
    rw [hm, if_pos (by omega)]
    have K := ceil_mul ((items.size : Int) - a) c h1
    have Kn : 0 ≤ ((items.size : Int) - a + c - 1) / c := Int.ediv_nonneg (by omega) (by omega)
    generalize hk : ((items.size : Int) - a + c - 1) / c = k at K Kn
    obtain ⟨k', rfl⟩ : ∃ k' : Nat, k = k' := ⟨k.toNat, by omega⟩
    have Kc : (k' : Int) * c = ((k' * c : Nat) : Int) := by rw [Int.natCast_mul]
    rw [every_pick c hc (items.toList.drop a) 0 k' (by rw [List.length_drop, Array.length_toList]; omega), Int.toNat_natCast]
    refine fm_congr fun m _ => ?_
    show items[((a : Int) + c * m).toNat]? = _
    rw [List.getElem?_drop, Array.getElem?_toList]
    congr 1
    have : (c : Int) * m = ((m * c : Nat) : Int) := by rw [Int.natCast_mul, Int.mul_comm]
    omega
  · have hm : min a items.size = items.size := by omega
    rw [hm, if_neg (by omega), List.drop_of_length_le (by rw [Array.length_toList]; omega), every]
    rfl
/-! ### tuples -/
section
variable {P : Program} {w : World} {A : Around} {E : Value → Shared → Prop} {s : Shared}
theorem applied_step {sl : Addr} {vs : Value} {st : Int} {n : Nat} {Q : Int × Int × Nat → Shared → Prop} (hs : s.heap.IsSliceOf sl .none .none vs) (ps : IsPart vs (some st)) (h0 : st ≠ 0)
    (h : Q ((Builtin.Slice.sliceAdjust none none st n).1, st, Builtin.Slice.slicePlaces (Builtin.Slice.sliceAdjust none none st n).1 (Builtin.Slice.sliceAdjust none none st n).2 st) s) : wpAny (model P w) A (Builtin.Slice.sliceApplied (.ref sl) (pure (n : Int))) Q E s := by
  obtain ⟨os, hos, hcs, hds⟩ := id hs
  unfold Builtin.Slice.sliceApplied Builtin.Slice.sliceFields
  refine wpAny_bind (wpAny_bind (wpAny_field hos hds (x := .none) rfl (wpAny_bind (wpAny_field hos hds (x := .none) rfl (wpAny_bind (wpAny_field hos hds (x := vs) rfl (wpAny_pure ?_)))))))
  refine wpAny_bind (HT.slicePart_ ps ?_)
  dsimp only
  refine wp_if_neg (by simpa using h0) ?_
  first | refine wpAny_bind (wpAny_pure ?_) | skip
  first
    | exact wpAny_bind (slicePart_none (wpAny_bind (slicePart_none (wpAny_bind (wpAny_pure (wpAny_pure h))))))
    | exact wpAny_bind (slicePart_none (wpAny_bind (wpAny_pure (wpAny_pure h))))
    | exact wpAny_bind (slicePart_none (wpAny_bind (wpAny_pure h)))
    | exact wpAny_bind (wpAny_pure (wpAny_pure h))
theorem getItem_step {t sl : Addr} {items : Array Value} {vs : Value} {st : Int} {out : List Value} {Q : Value → Shared → Prop} (ht : IsTup s.heap t items) (hs : s.heap.IsSliceOf sl .none .none vs) (ps : IsPart vs (some st)) (h0 : st ≠ 0) (h1 : st ≠ 1)
    (e : ((List.range (Builtin.Slice.slicePlaces (Builtin.Slice.sliceAdjust none none st items.size).1 (Builtin.Slice.sliceAdjust none none st items.size).2 st)).filterMap fun (k : Nat) => items[((Builtin.Slice.sliceAdjust none none st items.size).1 + (k : Int) * st).toNat]?) = out)
    (ho : out.length ≤ sizeLine) (h : Q (.ref s.heap.objs.size) { s with heap := s.heap.push { cls := .type "tuple", data := .seq out.toArray } }) : wpAny (model P w) A (getItem (.ref t) (.ref sl)) Q E s := by
  have hk : sizeOk (.seq out.toArray) := by show out.toArray.size ≤ sizeLine; simpa using ho
  obtain ⟨os, hos, hcs, hds⟩ := id hs
  have hTs : s.TypeIs (.ref sl) "slice" := ⟨os, hos, hcs⟩
  unfold getItem
  try with_reducible refine wpAny_holding ?_
  first | refine wpAny_bind (wpAny_pure ?_) | skip
  refine wpAny_bind (wpAny_sequenceKey ht.typeIs (by decide) ?_)
  refine wpAny_bind (wpAny_callSpecial?_slot (name := Str.ofString "__getitem__") ht.typeIs PyProof.Rows.slot_tuple_getitem (wpAny_call_entry PyProof.Rows.slot_tuple_getitem ht.typeIs entry_tuple_getitem ?_ (args_tuple_getitem _ _)))
  show wpAny _ _ (Builtin.Tuple.tupleItemsOf (.ref t) >>= _) _ _ s
  refine wpAny_bind (tupleItemsOf_ ht (wpAny_bind (wpAny_typeOf hTs ?_)))
  rw [if_pos (by decide)]
  refine wpAny_bind (applied_step hs ps h0 ?_)
  have no : ¬ (((Builtin.Slice.sliceAdjust none none st items.size).1 == 0 && st == 1 && Builtin.Slice.slicePlaces (Builtin.Slice.sliceAdjust none none st items.size).1 (Builtin.Slice.sliceAdjust none none st items.size).2 st == items.size) = true) := by
    intro q
    rw [Bool.and_eq_true, Bool.and_eq_true] at q
    exact h1 (eq_of_beq q.1.2)
  show wpAny _ _ (if ((Builtin.Slice.sliceAdjust none none st items.size).1 == 0 && st == 1 && Builtin.Slice.slicePlaces (Builtin.Slice.sliceAdjust none none st items.size).1 (Builtin.Slice.sliceAdjust none none st items.size).2 st == items.size) = true then _ else _) _ _ s
  rw [if_neg no, e]
  first
    | exact wpAny_bind (m := Builtin.Tuple.tupleExact _) (wpAny_newObj_type (wpAny_pure ⟨_, rfl, wpAny_pure h⟩) hk)
    | exact wpAny_bind (m := Builtin.Tuple.tupleExact _) (wpAny_newObj_type (wpAny_bind (wpAny_pure (wpAny_pure ⟨_, rfl, wpAny_pure h⟩))) hk)
    | exact wpAny_bind (wpAny_bind (m := Builtin.Tuple.tupleExact _) (wpAny_newObj_type (wpAny_pure (wpAny_pure ⟨_, rfl, wpAny_pure h⟩)) hk))
    | exact wpAny_bind (wpAny_bind (m := Builtin.Tuple.tupleExact _) (wpAny_newObj_type (wpAny_pure ⟨_, rfl, wpAny_pure h⟩) hk))
theorem rev_places (items : Array Value) : ((List.range (Builtin.Slice.slicePlaces (Builtin.Slice.sliceAdjust none none (-1) items.size).1 (Builtin.Slice.sliceAdjust none none (-1) items.size).2 (-1))).filterMap fun (k : Nat) => items[((Builtin.Slice.sliceAdjust none none (-1) items.size).1 + (k : Int) * (-1)).toNat]?) = items.toList.reverse := by
  have ea : Builtin.Slice.sliceAdjust none none (-1) items.size = ((items.size : Int) - 1, -1) := rfl
  have ep : Builtin.Slice.slicePlaces ((items.size : Int) - 1) (-1) (-1) = items.size := by
    unfold Builtin.Slice.slicePlaces
    rw [if_neg (by decide)]
    by_cases h : (items.size : Int) - 1 > -1
    · rw [if_pos h, show (- -1 : Int) = 1 from rfl, Int.ediv_one]
      omega
    · rw [if_neg h]
      omega
  rw [ea, ep]
  refine List.ext_getElem? fun j => ?_
  have e2 : ((List.range items.size).filterMap fun (k : Nat) => items[((items.size : Int) - 1 + (k : Int) * (-1)).toNat]?) = (List.range items.size).map fun k => (items.toList.reverse)[k]?.getD .none := by
    rw [← List.filterMap_eq_map]
    refine fm_congr fun k hk => ?_
    have hk := List.mem_range.mp hk
    have hi : ((items.size : Int) - 1 + (k : Int) * (-1)).toNat = items.size - 1 - k := by omega
    have hk2 : k < items.toList.length := by rw [Array.length_toList]; exact hk
    show _ = some (items.toList.reverse[k]?.getD Value.none)
    rw [hi, List.getElem?_reverse hk2, ← Array.getElem?_toList, Array.length_toList]
    rw [List.getElem?_eq_getElem (by rw [Array.length_toList]; omega)]
    rfl
  rw [e2, List.getElem?_map]
  by_cases hj : j < items.size
  · have hr : j < items.toList.reverse.length := by rw [List.length_reverse, Array.length_toList]; exact hj
    rw [List.getElem?_range hj, Option.map_some, List.getElem?_eq_getElem hr]
    rfl
  · rw [List.getElem?_eq_none (by rw [List.length_range]; omega), List.getElem?_eq_none (by rw [List.length_reverse, Array.length_toList]; omega)]
    rfl
theorem hop_places (items : Array Value) {c : Nat} (hc : 0 < c) : ((List.range (Builtin.Slice.slicePlaces (Builtin.Slice.sliceAdjust none none (c : Int) items.size).1 (Builtin.Slice.sliceAdjust none none (c : Int) items.size).2 (c : Int))).filterMap fun (k : Nat) => items[((Builtin.Slice.sliceAdjust none none (c : Int) items.size).1 + (k : Int) * (c : Int)).toNat]?) = every c 0 items.toList := by
  have hp : (c : Int) > 0 := by omega
  have ea : Builtin.Slice.sliceAdjust none none (c : Int) items.size = (0, (items.size : Int)) := by
    unfold Builtin.Slice.sliceAdjust
    have : ¬ ((c : Int) < 0) := by omega
    simp only [this, if_false]
  rw [ea]
  dsimp only
  have Kle : items.size ≤ Builtin.Slice.slicePlaces 0 (items.size : Int) (c : Int) * c := by
    unfold Builtin.Slice.slicePlaces
    rw [if_pos hp]
    by_cases h : (0 : Int) < items.size
    · rw [if_pos h]
      have h1 := Int.emod_add_mul_ediv ((items.size : Int) - 0 - 1) c
      have h2 := Int.emod_lt_of_pos ((items.size : Int) - 0 - 1) hp
      have h3 : 0 ≤ ((items.size : Int) - 0 - 1) / c := Int.ediv_nonneg (by omega) (by omega)
      generalize ((items.size : Int) - 0 - 1) / c = q at h1 h3
      obtain ⟨q', rfl⟩ : ∃ q' : Nat, q = q' := ⟨q.toNat, by omega⟩
      have e : ((q' : Int) + 1).toNat = q' + 1 := by omega
      rw [e, Nat.add_mul, Nat.one_mul]
      have : (c : Int) * q' = ((q' * c : Nat) : Int) := by rw [Int.natCast_mul, Int.mul_comm]
      omega
    · omega
  rw [every_pick c hc items.toList 0 _ (by rw [Array.length_toList]; omega)]
  refine fm_congr fun m _ => ?_
  have e1 : (m : Int) * c = ((m * c : Nat) : Int) := by rw [Int.natCast_mul]
  have e2 : ((0 : Int) + (m : Int) * (c : Int)).toNat = 0 + m * c := by omega
  rw [Array.getElem?_toList, e2]
end
/-! ### in the text -/
section
variable {T : Tb} {n : Nat} {X : Cx} {x e : Expr} {a b c : Ex} {pos p2 : Pos}
/-- a slice's part: its datum is known -/
def partD : D → Option (Option Int)
  | .none => some none
  | .int i => some (some i)
  | _ => none
def tPd (P : Program) (w : World) (K : PySem.W.Frag) (call : Nat → List D → R D) (ex : Ex) : TO := fun σ H Q => ∃ H0 F0 F ρ d o, Good P w K H0 F0 σ H F ρ ∧ ev call ρ true ex = .ok d ∧ partD d = some o ∧ ∀ F' H', Ext F H F' H' → Q o H'
abbrev XPd (T : Tb) (n : Nat) (X : Cx) (ex : Ex) : TO := tPd X.prog X.w X.K (evFn T.P T.wf n) ex
theorem pd_none (h : isAbs a = true) : PO X none (XPd T n X a) := PO.weak po_none fun σ H Q ⟨H0, F0, F, ρ, d, o, g, hd, ho, q⟩ => by
  rw [isAbs_inv h] at hd
  simp only [ev] at hd
  cases hd
  cases ho
  exact q F H (Ext.refl g.fh)
theorem pd_some (he : PE X e (XE T n X true a)) : PO X (some e) (XPd T n X a) := by
  refine ⟨fun pins s σ H Q I ⟨H0, F0, F, ρ, d, o, g, hd, ho, q⟩ => ?_⟩
  rw [evalPart_some]
  refine thn (he.run pins s σ H _ I ⟨H0, F0, F, ρ, d, g, hd, fun v F1 H1 e1 r1 => (⟨F1, e1, r1⟩ : ∃ F1, Ext F H F1 H1 ∧ Vr X.w X.K true F1 H1 v d)⟩) fun u s1 ⟨v, H1, I1, rv, F1, e1, r1⟩ => ?_
  cases d with
  | none =>
    cases ho
    have : v = .non := r1.br.none_inv
    subst this
    cases rv
    exact ⟨none, H1, I1, .none, q F1 H1 e1⟩
  | int i =>
    cases ho
    cases r1.br.int_inv
    obtain ⟨t, rfl⟩ := rv
    exact ⟨some i, H1, I1, .int i t, q F1 H1 e1⟩
  | _ => cases ho
theorem stp_cases {dx dl d : D} {st : Int} (h : stpD dx dl (.int st) = .ok d) : (∃ l, dx = .list l ∧ dl = .none ∧ st = -1 ∧ d = .list l.reverse) ∨ (∃ l, dx = .tuple l ∧ dl = .none ∧ st = -1 ∧ d = .tuple l.reverse) ∨
    (∃ l, ∃ i j : Nat, dx = .list l ∧ dl = .int i ∧ st = j ∧ 0 < j ∧ d = .list (every j 0 (l.drop i))) ∨ (∃ l, ∃ j : Nat, dx = .tuple l ∧ dl = .none ∧ st = j ∧ 2 ≤ j ∧ d = .tuple (every j 0 l)) ∨ ∃ l, isScr dx = some l ∧ dl = .none ∧ st = -1 ∧ d = .list l.reverse := by
  unfold stpD at h
  split at h
  · rename_i e
    cases e
    cases h
    exact .inl ⟨_, rfl, rfl, rfl, rfl⟩
  · rename_i e
    cases e
    cases h
    exact .inr (.inl ⟨_, rfl, rfl, rfl, rfl⟩)
  · rename_i xs i j e
    cases e
    obtain ⟨hg, hd⟩ := R.guard_ok h
    cases hd
    simp only [Bool.and_eq_true, decide_eq_true_eq] at hg
    exact .inr (.inr (.inl ⟨_, i.toNat, st.toNat, rfl, by rw [Int.toNat_of_nonneg (by omega)], by omega, by omega, rfl⟩))
  · rename_i xs j e
    cases e
    obtain ⟨hg, hd⟩ := R.guard_ok h
    cases hd
    simp only [Bool.and_eq_true, decide_eq_true_eq] at hg
    exact .inr (.inr (.inr (.inl ⟨_, st.toNat, rfl, rfl, by omega, by omega, rfl⟩)))
  · rename_i e
    cases e
    split at h
    · rename_i xs hsc
      cases h
      exact .inr (.inr (.inr (.inr ⟨xs, hsc, rfl, rfl, rfl⟩)))
    · cases h
  · cases h
theorem snd_stp {lo : Option Expr} (ha : PE X x (XE T n X true a)) (hl : PO X lo (XPd T n X b)) (hh : PE X e (XE T n X true c)) : PE X (.Subscript x (.Slice lo none (some e) p2) pos) (XD T n X (.stp a b c)) := by
  refine ⟨fun pins s σ H Q I ⟨H0, F0, F, ρ, m, d, g, h, q⟩ => ?_⟩
  simp only [ev] at h
  obtain ⟨dx, hx, h⟩ := R.bind_eq h
  obtain ⟨dl, hdl, h⟩ := R.bind_eq h
  obtain ⟨ds, hds, h⟩ := R.bind_eq h
  have parts : ∃ ol st, partD dl = some ol ∧ ds = .int st := by
    unfold stpD at h
    split at h <;> first
      | exact ⟨_, _, rfl, rfl⟩
      | cases h
  obtain ⟨ol, st, hol, rfl⟩ := parts
  refine Subscript_ (thn (ha.run pins s σ H _ I ⟨H0, F0, F, ρ, _, g, hx, fun v F1 H1 e1 r1 => (⟨F1, e1, r1⟩ : ∃ F1, Ext F H F1 H1 ∧ Vr X.w X.K true F1 H1 v dx)⟩) fun v s1 ⟨x1, H1, I1, r1, F1, e1, b1⟩ => ?_)
  refine wpAny_Slice (thn (hl.run pins s1 σ H1 (fun o H2 => o = ol ∧ ∃ F2, Ext F1 H1 F2 H2) I1 ⟨H0, F0, F1, ρ, dl, ol, g.ext e1, hdl, hol, fun F2 H2 e2 => ⟨rfl, F2, e2⟩⟩) fun vl s2 ⟨o2, H2, I2, pl, eo, F2, e2⟩ => ?_)
  rw [eo] at pl
  refine thn (po_none.run pins s2 σ H2 (fun o H3 => o = none ∧ H3 = H2) I2 ⟨rfl, rfl⟩) fun vu s3 ⟨u, H3, I3, pu, eu, e3⟩ => ?_
  subst eu e3
  refine thn ((pd_some hh).run pins s3 σ H3 (fun o H4 => o = some st ∧ ∃ F4, Ext F2 H3 F4 H4) I3 ⟨H0, F0, F2, ρ, .int st, some st, (g.ext e1).ext e2, hds, rfl, fun F4 H4 e4 => ⟨rfl, F4, e4⟩⟩) fun vs s4 ⟨o4, H4, I4, ps, eo, F4, e4⟩ => ?_
  subst eo
  have I5 : Inv X pins σ H4 { s4 with heap := s4.heap.push { cls := .type "slice", data := .fields #[vl, vu, vs] } } := I4.kept (t' := s4.toks) fun b ob q => Heap.get?_push_of_some _ q
  have ex : Ext F H F4 H4 := e1.trans (e2.trans e4)
  have bx : BrX X F4 H4 x1 dx := b1.br.mono (e2.trans e4)
  have fin : Fin X F4 H4 d Q := fun v' F' H' e' r' => q v' F' H' (ex.trans e') r'
  show wpAny (model X.prog X.w) X.A (subscriptTail x (.Slice lo none (some e) p2) v (.ref s4.heap.objs.size)) (EP X pins σ Q) X.xe { s4 with heap := s4.heap.push { cls := .type "slice", data := .fields #[vl, vu, vs] } }
  cases pu
  -- a list
  have onList : ∀ {l : List D} {out : List D} {outV : List V → List V} {outU : List Value → List Value}, (∃ (a0 : Addr) (xs : List V), x1 = .ref a0 ∧ SqL X.K H4 a0 xs ∧ DrAllX X F4 xs l) → st ≠ 0 → (∀ items : Array Value, (slicePick items ol none (some st)).toList = outU items.toList) →
      (∀ {xs us}, Vals xs us → Vals (outV xs) (outU us)) → (∀ {xs : List V}, (outV xs).length ≤ xs.length) → (∀ {xs}, DrAllX X F4 xs l → DrAllX X F4 (outV xs) out) → Fin X F4 H4 (.list out) Q → wpAny (model X.prog X.w) X.A (subscriptTail x (.Slice lo none (some e) p2) v (.ref s4.heap.objs.size)) (EP X pins σ Q) X.xe { s4 with heap := s4.heap.push { cls := .type "slice", data := .fields #[vl, .none, vs] } } := by
    rintro l out outV outU ⟨a0, xs, rfl, hsq, hdr⟩ hne hpick hv hz hd fin
    cases r1
    obtain ⟨its, r, ht, hsz⟩ := I5.list hsq
    refine tail_any (ops := [.ref a0, .ref s4.heap.objs.size]) ht.isList.typeIs (PySem.slot_list_getitem.lookup) ?_ (by with_unfolding_all rfl)
    refine wpAny_getItem_list_slice ht.isList (Heap.IsSliceOf.new _ vl .none vs) pl .none ps (fun z => hne (Option.some.inj z)) ?_ (by rw [List.size_toArray, ← r.length]; exact hsz)
    refine ⟨.ref _, _, I5.laid (t' := s4.toks) (o := .lst (outV xs)) (fun b ob q => Heap.get?_push_of_some _ q) (Nat.le_refl _) ?_, rfl, fin.lst (e4.fh) (hd hdr) _ (I5.hok.fresh (Nat.le_refl _))⟩
    exact ⟨Nat.le_trans hz hsz, outU its, 0, hv r, by
      have hp := hpick its.toArray
      rw [List.toList_toArray] at hp
      rw [← hp]
      exact Heap.get?_push_size _ rfl⟩
  have onTup : ∀ {l : List D} {out : List D} {outV : List V → List V} {outU : List Value → List Value}, (∃ (a0 : Addr) (xs : List V), x1 = .ref a0 ∧ PlT X.K F4 a0 xs ∧ DrAllX X F4 xs l) → ol = none → st ≠ 0 → st ≠ 1 →
      (∀ items : Array Value, ((List.range (Builtin.Slice.slicePlaces (Builtin.Slice.sliceAdjust none none st items.size).1 (Builtin.Slice.sliceAdjust none none st items.size).2 st)).filterMap fun (k : Nat) => items[((Builtin.Slice.sliceAdjust none none st items.size).1 + (k : Int) * st).toNat]?) = outU items.toList) →
      (∀ {xs us}, Vals xs us → Vals (outV xs) (outU us)) → (∀ {xs : List V}, (outV xs).length ≤ xs.length) → (∀ {xs}, DrAllX X F4 xs l → DrAllX X F4 (outV xs) out) → Fin X F4 H4 (.tuple out) Q → wpAny (model X.prog X.w) X.A (subscriptTail x (.Slice lo none (some e) p2) v (.ref s4.heap.objs.size)) (EP X pins σ Q) X.xe { s4 with heap := s4.heap.push { cls := .type "slice", data := .fields #[vl, .none, vs] } } := by
    rintro l out outV outU ⟨a0, xs, rfl, hsq, hdr⟩ rfl hne hne1 hpick hv hz hd fin
    cases r1
    cases pl
    obtain ⟨its, r, ht, hsz⟩ := I5.tuple (Same.sqT e4.fh hsq.sq)
    refine tail_any (ops := [.ref a0, .ref s4.heap.objs.size]) ht.typeIs PyProof.Rows.slot_tuple_getitem.lookup ?_ (by with_unfolding_all rfl)
    have hlen : (outU its).length ≤ sizeLine := by rw [← (hv r).length]; exact Nat.le_trans hz hsz
    refine getItem_step ht (Heap.IsSliceOf.new _ .none .none vs) ps hne hne1 (out := outU its) (by have hp := hpick its.toArray; rw [List.toList_toArray] at hp; exact hp) hlen ?_
    exact new_tup (s := { s4 with heap := s4.heap.push { cls := .type "slice", data := .fields #[.none, .none, vs] } }) (h0 := s4.heap.push { cls := .type "slice", data := .fields #[.none, .none, vs] }) (tk := s4.toks) I5 (hv r) (Nat.le_trans hz hsz) (fin.tup e4.fh (hd hdr))
  have revV : ∀ {xs : List V} {us : List Value}, Vals xs us → Vals xs.reverse us.reverse := fun r => r.reverse
  have revL : ∀ {xs : List V}, xs.reverse.length ≤ xs.length := fun {xs} => by rw [List.length_reverse]; exact Nat.le_refl _
  have lstD : ∀ {l : List D}, BrX X F4 H4 x1 (.list l) → ∃ (a0 : Addr) (xs : List V), x1 = .ref a0 ∧ SqL X.K H4 a0 xs ∧ DrAllX X F4 xs l := fun h => by
    obtain ⟨a0, ys, rfl, h1, h2⟩ := h.list_inv e4.fh
    exact ⟨a0, ys, rfl, .inl (.inl h1), h2⟩
  have tupD : ∀ {l : List D}, BrX X F4 H4 x1 (.tuple l) → ∃ (a0 : Addr) (xs : List V), x1 = .ref a0 ∧ PlT X.K F4 a0 xs ∧ DrAllX X F4 xs l := fun h => by
    obtain ⟨a0, ys, rfl, h1, h2⟩ := h.tuple_inv
    exact ⟨a0, ys, rfl, h1, h2⟩
  rcases stp_cases h with ⟨l, rfl, rfl, rfl, rfl⟩ | ⟨l, rfl, rfl, rfl, rfl⟩ | ⟨l, i, j, rfl, rfl, rfl, hj, rfl⟩ | ⟨l, j, rfl, rfl, rfl, hj, rfl⟩ | ⟨l, hsc, rfl, rfl, rfl⟩
  · cases hol
    exact onList (outU := List.reverse) (lstD bx) (by decide) (fun items => by rw [PySem.W.krv_pick]) revV revL rev_dr fin
  · cases hol
    exact onTup (outU := List.reverse) (tupD bx) rfl (by decide) (by decide) rev_places revV revL rev_dr fin
  · cases hol
    refine onList (outV := fun l => every j 0 (l.drop i)) (outU := fun l => every j 0 (l.drop i)) (lstD bx) (by omega) (fun items => pick_hop hj) (fun r => every_vals j 0 (r.drop i)) (fun {xs} => ?_) (fun {ys} r => every_dr j 0 (DrAll.drop i r)) fin
    exact Nat.le_trans (every_len j 0 _) (by rw [List.length_drop]; omega)
  · cases hol
    exact onTup (outV := every j 0) (outU := every j 0) (tupD bx) rfl (by omega) (by omega) (fun items => hop_places items (by omega)) (fun r => every_vals j 0 r) (fun {xs} => every_len j 0 _) (fun {ys} r => every_dr j 0 r) fin
  · cases hol
    rw [isScr_inv hsc] at bx
    obtain ⟨a0, ns, rfl, rfl, h1⟩ := bx.scr_inv e4.fh
    exact onList (l := ns.map .int) (outU := List.reverse) ⟨a0, ns.map V.int, rfl, Same.sqL e4.fh h1, ints_dr ns⟩ (by decide) (fun items => by rw [PySem.W.krv_pick]) revV revL rev_dr fin
end
end KD
/-! KdMain: what the check lets through is sound. -/
namespace KD
open PySem PySem.Spec
open PyProof.Rows L2
/-! ### targets -/
section
variable {X : Cx}
theorem isT_asg {e : Expr} {es : List Expr} {env : PySem.Env} (h : ∀ x p, e ≠ .Starred x p) : assignEach (e :: es) env = (false, assign e env) :: assignEach es env := by
  cases e <;> first | rfl | exact absurd rfl (h _ _)
theorem tgB_star {N : List Str} {sc : Scope} {fnp : Str → Bool} {e : Expr} {t : Tg} (h : tgB N sc fnp e t = true) : ∀ x p, e ≠ .Starred x p := by
  rintro x p rfl
  unfold tgB at h
  cases t <;> cases h
theorem tgsB_each {N : List Str} {sc : Scope} {fnp : Str → Bool} {env : PySem.Env} : ∀ {es : List Expr} {ts : List Tg}, tgsB N sc fnp es ts = true → (assignEach es env).length = ts.length ∧ (assignEach es env).findIdx? (·.1) = none
  | [], [], _ => ⟨rfl, rfl⟩
  | e :: es, t :: ts, h => by
    rw [tgsB, Bool.and_eq_true] at h
    rw [isT_asg (tgB_star h.1)]
    obtain ⟨h1, h2⟩ := tgsB_each (env := env) h.2
    refine ⟨by simp [h1], ?_⟩
    rw [List.findIdx?_cons]
    simp [h2]
  | [], _ :: _, h => by simp [tgsB] at h
  | _ :: _, [], h => by simp [tgsB] at h
theorem asgTs_len {ρ' : Env} : ∀ {ts : List Tg} {ds : List D} {ρ : Env}, asgTs ρ ts ds = .ok ρ' → ds.length = ts.length
  | [], [], _, _ => rfl
  | t :: ts, d :: ds, ρ, h => by
    rw [asgTs] at h
    obtain ⟨_, _, h⟩ := R.bind_eq h
    simp [asgTs_len (ρ' := ρ') h]
  | [], _ :: _, _, h => by simp [asgTs] at h
  | _ :: _, [], _, h => by simp [asgTs] at h
theorem _root_.L2.PG.or2 {e : Expr} {t t' : TG} (h : PG X e t) (h' : PG X e t') : PG X e (fun v σ H Q => t v σ H Q ∨ t' v σ H Q) :=
  ⟨fun pins s σ H v u Q I r q => q.elim (h.run pins s σ H v u Q I r) (h'.run pins s σ H v u Q I r)⟩
theorem Itm.std {p : Bool} {w : World} {K : PySem.W.Frag} {F H : Hp} {v : V} {d : D} (h : Itm p w K F H v d) (hp : p = false) : Dr w K F v d := by
  rcases h with h | ⟨h, _⟩
  · exact h
  · rw [hp] at h
    cases h
theorem tgB_isT {N : List Str} {sc : Scope} {fnp : Str → Bool} {e : Expr} {t : Tg} (h : tgB N sc fnp e t = true) (ht : isTup e = true) : t.isT = true := by
  obtain ⟨es, k, p, rfl⟩ := isTup_inv ht
  unfold tgB at h
  cases t with
  | name i => cases h
  | tup ts => rfl
theorem pairs_isT {T : Tb} {N : List Str} {sc sc' : Scope} {fnp : Str → Bool} {tg iter : Expr} {t : Tg} {k : IK} {its : List Ex} (h : tgB N sc' fnp tg t = true) (hi : chkI T N sc tg iter k its = true) (hk : k.pairs = true) : t.isT = true := by
  refine tgB_isT h ?_
  unfold chkI at hi
  split at hi <;> first
    | (cases hk; done)
    | (simp only [Bool.and_eq_true] at hi; simp [hi])
    | cases hi
abbrev XGs (X : Cx) (ts : List Tg) : TGs := tGs X.prog X.w X.K ts
mutual
theorem snd_tg (hc : X.calm = true) (nd : X.N.Nodup) : ∀ (t : Tg) {e : Expr}, tgB X.N X.env.scope X.fn e t = true → PG X e (XG X t)
  | .name i, e, h => by
    unfold tgB at h
    split at h
    · rename_i x p j q
      cases q
      simp only [Bool.and_eq_true, Bool.or_eq_true, decide_eq_true_eq] at h
      obtain ⟨hi, h⟩ := h
      have hx : Loc X.env.scope x := by
        rcases h with h | h
        · exact .inl h
        · exact .inr h.1
      have hf : X.fn x = true ∨ X.env.scope.names.lookup x = some .local := by
        rcases h with h | h
        · exact .inr h
        · exact .inl h.2
      refine PG.weak (pg_name nd hi hx hf) fun v σ H Q ⟨H0, F0, F, ρ, d, ρ', g, hv, ha, q⟩ => ?_
      rw [asgT] at ha
      cases ha
      have hv := hv.std rfl
      exact q _ (g.set hv) (fun k hk => List.getElem?_set_ne fun z => hk (by rw [z]; simp [Tg.names])) (List.length_set)
    · rename_i q
      cases q
    · cases h
  | .tup ts, e, h => by
    unfold tgB at h
    split at h
    · rename_i q
      cases q
    · rename_i es k p ts' q
      cases q
      obtain ⟨h1, h2⟩ := tgsB_each (env := X.env) h
      have hs := snd_tgs hc nd ts h
      refine PG.weak (PG.or2 (pg_tup hc hs h1 h2) (pg_lst hc hs h1 h2)) fun v σ H Q ⟨H0, F0, F, ρ, d, ρ', g, hv, ha, q⟩ => ?_
      cases d with
      | tuple xs =>
        have ha : asgTs ρ ts xs = .ok ρ' := by simpa only [asgT] using ha
        rcases hv with hv | ⟨_, a, ys, ds, rfl, hq, hd, hr⟩
        · cases hv with
          | tup hq hl hi => exact .inl ⟨_, _, rfl, Same.sqT g.fh hq.sq, by rw [hl, asgTs_len ha], H0, F0, F, ρ, xs, ρ', g, ⟨hl, hi⟩, ha, q⟩
        · cases hd
          exact .inl ⟨_, _, rfl, .inl (.inl hq), by rw [hr.1, asgTs_len ha], H0, F0, F, ρ, xs, ρ', g, hr, ha, q⟩
      | list xs =>
        have ha : asgTs ρ ts xs = .ok ρ' := by simpa only [asgT] using ha
        rcases hv with hv | ⟨_, a, ys, ds, rfl, hq, hd, hr⟩
        · cases hv with
          | lst hq hl hi => exact .inr ⟨_, _, rfl, .inl (.inl (g.fh _ _ hq)), by rw [hl, asgTs_len ha], H0, F0, F, ρ, xs, ρ', g, ⟨hl, hi⟩, ha, q⟩
        · cases hd
      | _ => simp [asgT] at ha
    · cases h
theorem snd_tgs (hc : X.calm = true) (nd : X.N.Nodup) : ∀ (ts : List Tg) {es : List Expr}, tgsB X.N X.env.scope X.fn es ts = true → PGs X es (XGs X ts)
  | [], [], h => PGs.weak pgs_nil fun vs σ H Q ⟨H0, F0, F, ρ, ds, ρ', g, hv, ha, q⟩ => by
    cases ds with
    | nil =>
      rw [asgTs] at ha
      cases ha
      exact ⟨hv.nil_inv, q σ g (fun _ _ => rfl) rfl⟩
    | cons d ds => simp [asgTs] at ha
  | t :: ts, e :: es, h => by
    rw [tgsB, Bool.and_eq_true] at h
    refine PGs.weak (pgs_cons (snd_tg hc nd t h.1) (snd_tgs hc nd ts h.2) (by rw [isT_asg (tgB_star h.1)]; rfl)) fun vs σ H Q ⟨H0, F0, F, ρ, ds, ρ', g, hv, ha, q⟩ => ?_
    cases ds with
    | nil => simp [asgTs] at ha
    | cons d ds =>
      rw [asgTs] at ha
      obtain ⟨ρ1, h1, ha⟩ := R.bind_eq ha
      obtain ⟨v, r, rfl, hv1, hv2⟩ := hv.cons_inv
      refine ⟨v, r, rfl, H0, F0, F, ρ, d, ρ1, g, .inl hv1, h1, fun σ1 g1 o1 l1 => ⟨H0, F0, F, ρ1, ds, ρ', g1, hv2, ha, fun σ2 g2 o2 l2 => q σ2 g2 (fun i hi => ?_) (l2.trans l1)⟩⟩
      rw [Tg.namesAll, List.mem_append, not_or] at hi
      rw [o2 i hi.2, o1 i hi.1]
  | [], _ :: _, h => by simp [tgsB] at h
  | _ :: _, [], h => by simp [tgsB] at h
end
end
/-! ### expressions -/
structure Snd (T : Tb) (n : Nat) (X : Cx) (e : Expr) (ex : Ex) : Prop where
  v : ∀ m, PE X e (XE T n X m ex)
  t : tst e = true → PT X e (XT T n X ex)
  nw : fresh ex = true → PE X e (XN T n X ex)
  w : ∀ op vs p, e = .BoolOp op vs p → PW X e (XT T n X ex)
section
variable {T : Tb} {n : Nat} {X : Cx} {e : Expr} {ex : Ex}
theorem no_bool (hp : plainT e = true) {t : TT} : ∀ op vs p, e = .BoolOp op vs p → PW X e t := by
  rintro op vs p rfl
  cases hp
theorem Snd.of (hp : plainT e = true) (hf : fresh ex = false) (h : PE X e (XD T n X ex)) : Snd T n X e ex :=
  ⟨both h, fun _ => pt_plain hp (both h true), fun z => (by rw [hf] at z; cases z), no_bool hp⟩
theorem Snd.ofT (hp : ∀ op vs p, e ≠ .BoolOp op vs p) (hf : fresh ex = false) (h : PE X e (XD T n X ex)) (ht : tst e = true → PT X e (XT T n X ex)) : Snd T n X e ex :=
  ⟨both h, ht, fun z => (by rw [hf] at z; cases z), fun op vs p z => absurd z (hp op vs p)⟩
theorem Snd.ofB (hf : fresh ex = false) (h : PE X e (XD T n X ex)) (hw : PW X e (XT T n X ex)) : Snd T n X e ex :=
  ⟨both h, fun _ => hw.pt, fun z => (by rw [hf] at z; cases z), fun _ _ _ _ => hw⟩
theorem Snd.ofN (hp : plainT e = true) (hb : ∀ ρ, ev (evFn T.P T.wf n) ρ true ex = ev (evFn T.P T.wf n) ρ false ex) (h : PE X e (XN T n X ex)) : Snd T n X e ex :=
  ⟨both (new_D h hb), fun _ => pt_plain hp (both (new_D h hb) true), fun _ => h, no_bool hp⟩
theorem gl_of {sc : Scope} {x : Str} (h : glB sc x = true) (he : X.env.scope = sc) : Gl X x := by
  subst he
  unfold glB at h
  show X.env.scope.names.lookup x = some .globalImplicit
  exact of_decide_eq_true h
theorem snd_blt (hX : XOk T n X) {b : Blt} {y : Str} {ty : Bool} {es : List Expr} {exs : List Ex} {p pos : Pos} (h : bltName b = some (y, ty)) (hg : Gl X y) (hn : nst e = true) (hr : es.all nst = true) (ha : PA X (e :: es) (XEs T n X true exs)) :
    PE X (.Call (.Name y p) (e :: es) [] pos) (XD T n X (.blt b exs)) := by
  cases b <;> first
    | (cases h; done)
    | (cases h; first
        | exact snd_bltB hX (by decide) c_len (by decide +kernel) hg (by decide) (by decide) hn hr ha
        | exact snd_bltT hX (by decide) c_tuple boot_tuple hg (by decide) (by decide) hn hr ha
        | exact snd_bltT hX (by decide) c_int boot_int hg (by decide) (by decide) hn hr ha
        | exact snd_bltT hX (by decide) c_str boot_str hg (by decide) (by decide) hn hr ha
        | exact snd_bltB hX (by decide) (c_sorted hX.calm hX.big) boot_sorted hg (by decide) (by decide) hn hr ha
        | exact snd_bltT hX (by decide) (c_list hX.calm) boot_list hg (by decide) (by decide) hn hr ha
        | exact snd_bltB hX (by decide) (c_sum hX.calm) (by decide +kernel) hg (by decide) (by decide) hn hr ha
        | exact snd_bltB hX (by decide) (c_all hX.calm) (by decide +kernel) hg (by decide) (by decide) hn hr ha
        | exact snd_bltB hX (by decide) (c_any hX.calm) (by decide +kernel) hg (by decide) (by decide) hn hr ha
        | exact snd_bltB hX (by decide) (c_maxL hX.calm) boot_max hg (by decide) (by decide) hn hr ha
        | exact snd_bltB hX (by decide) (c_minL hX.calm) boot_min hg (by decide) (by decide) hn hr ha
        | exact snd_bltB hX (by decide) (c_max2 hX.calm) boot_max hg (by decide) (by decide) hn hr ha
        | exact snd_bltB hX (by decide) (c_min2 hX.calm) boot_min hg (by decide) (by decide) hn hr ha)
theorem snd_str1 {m : Mth} {x : Expr} {a b : Ex} {apos pos : Pos} (hm : str1 m = true) (hs : nosup x = true) (hn : nst e = true) (hl : (apos.endLine == pos.line) = true) (ho : PE X x (XE T n X true a)) (he : PE X e (XE T n X false b)) :
    PE X (.Call (.Attribute x (mthName m) apos) [e] [] pos) (XD T n X (.mth m a [b])) := by
  cases m <;> first
    | (cases hm; done)
    | exact snd_mth1 (by decide) F.slot_str_join F.type_str_join m_join hs hn hl ho he
    | exact snd_mth1 (by decide) F.slot_str_split F.type_str_split m_split hs hn hl ho he
    | exact snd_mth1 (by decide) F.slot_str_startswith F.type_str_startswith m_startswith hs hn hl ho he
    | exact snd_mth1 (by decide) F.slot_str_ljust F.type_str_ljust m_ljust hs hn hl ho he
    | exact snd_mth1 (by decide) F.slot_str_rstrip F.type_str_rstrip m_rstrip hs hn hl ho he
theorem set_nst {e : Expr} {env : PySem.Env} (h : nst e = true) : ∀ x, foldedSetIterable e env x = pure x := by
  intro x
  cases e <;> first | rfl | cases h
mutual
theorem snd_E : ∀ (ex : Ex) {X : Cx} {e : Expr}, XOk T n X → chkE T X.N X.env.scope e ex = true → Snd T n X e ex := fun ex X e hX h => by
  unfold chkE at h
  split at h
  · exact Snd.of rfl rfl (snd_cst h)
  · simp only [Bool.and_eq_true, decide_eq_true_eq] at h
    obtain ⟨⟨⟨rfl, h2⟩, h3⟩, h4⟩ := h
    exact Snd.of rfl rfl (snd_glob hX (gl_of h2 rfl) h3 h4)
  · simp only [Bool.and_eq_true, decide_eq_true_eq] at h
    obtain ⟨⟨h1, h2⟩, h3⟩ := h
    exact ⟨fun m => snd_var h1 h2 h3 m, fun _ => pt_plain rfl (snd_var h1 h2 h3 true), fun z => (by cases z), no_bool (e := .Name _ _) rfl⟩
  · rename_i l k pos es
    exact Snd.of rfl rfl (snd_tup ((snd_Es es hX h).2 false))
  · rename_i l pos es
    exact Snd.ofN rfl (fun ρ => by simp only [ev]) (snd_lst ((snd_Es es hX h).2 false))
  · rename_i x o y pos op a b
    simp only [Bool.and_eq_true, decide_eq_true_eq] at h
    obtain ⟨⟨rfl, h2⟩, h3⟩ := h
    exact Snd.of rfl rfl (snd_bin ((snd_E a hX h2).v true) ((snd_E b hX h3).v true))
  · rename_i x pos a
    exact Snd.of rfl rfl (snd_neg ((snd_E a hX h).v true))
  · rename_i x o y pos op a b
    simp only [Bool.and_eq_true, decide_eq_true_eq] at h
    obtain ⟨⟨⟨rfl, h1⟩, h2⟩, h3⟩ := h
    exact Snd.ofT (by intros; intro z; cases z) rfl (snd_cmp hX h1 ((snd_E a hX h2).v true) ((snd_E b hX h3).v true)) fun _ => snd_cmpT hX h1 ((snd_E a hX h2).v true) ((snd_E b hX h3).v true)
  · rename_i x o o' y z pos op op' a b c
    simp only [Bool.and_eq_true, decide_eq_true_eq] at h
    obtain ⟨⟨⟨⟨⟨rfl, rfl⟩, h1⟩, h2⟩, h3⟩, h4⟩ := h
    exact Snd.ofT (by intros; intro z; cases z) rfl (snd_chain hX h1 ((snd_E a hX h2).v true) ((snd_E b hX h3).v true) ((snd_E c hX h4).v true)) fun _ => snd_chainT hX h1 ((snd_E a hX h2).v true) ((snd_E b hX h3).v true) ((snd_E c hX h4).v true)
  · rename_i v w pos a b
    simp only [Bool.and_eq_true] at h
    obtain ⟨⟨⟨t1, t2⟩, h2⟩, h3⟩ := h
    exact Snd.ofB rfl (snd_and ((snd_E a hX h2).v true) (pe_one ((snd_E b hX h3).v true))) (snd_andT ((snd_E a hX h2).t t1) (pw_and1 ((snd_E b hX h3).t t2)))
  · rename_i v w u rest pos a b
    simp only [Bool.and_eq_true] at h
    obtain ⟨⟨t1, h2⟩, h3⟩ := h
    exact Snd.ofB rfl (snd_and ((snd_E a hX h2).v true) ((snd_E b hX h3).v true)) (snd_andT ((snd_E a hX h2).t t1) ((snd_E b hX h3).w _ _ _ rfl))
  · rename_i v w pos a b
    simp only [Bool.and_eq_true] at h
    obtain ⟨⟨⟨t1, t2⟩, h2⟩, h3⟩ := h
    exact Snd.ofB rfl (snd_or ((snd_E a hX h2).v true) (pe_one ((snd_E b hX h3).v true))) (snd_orT ((snd_E a hX h2).t t1) (pw_or1 ((snd_E b hX h3).t t2)))
  · rename_i v w u rest pos a b
    simp only [Bool.and_eq_true] at h
    obtain ⟨⟨t1, h2⟩, h3⟩ := h
    exact Snd.ofB rfl (snd_or ((snd_E a hX h2).v true) ((snd_E b hX h3).v true)) (snd_orT ((snd_E a hX h2).t t1) ((snd_E b hX h3).w _ _ _ rfl))
  · rename_i x pos a
    simp only [Bool.and_eq_true] at h
    exact Snd.ofT (by intros; intro z; cases z) rfl (snd_not ((snd_E a hX h.2).v true)) fun _ => snd_notT ((snd_E a hX h.2).t h.1)
  · rename_i c x y pos c' a b
    simp only [Bool.and_eq_true] at h
    obtain ⟨⟨⟨t1, h2⟩, h3⟩, h4⟩ := h
    exact Snd.ofT (by intros; intro z; cases z) rfl (snd_ife ((snd_E c' hX h2).t t1) ((snd_E a hX h3).v false) ((snd_E b hX h4).v false)) fun z => by cases z
  · rename_i x lo hi pos pos' a l u
    simp only [Bool.and_eq_true] at h
    obtain ⟨⟨h1, h2⟩, h3⟩ := h
    have hl : PO X lo (XO T n X l) := by
      cases lo with
      | none => exact snd_absent h2
      | some e =>
        simp only [Bool.and_eq_true, Bool.not_eq_true'] at h2
        exact snd_part h2.1 ((snd_E l hX h2.2).v true)
    have hu : PO X hi (XO T n X u) := by
      cases hi with
      | none => exact snd_absent h3
      | some e =>
        simp only [Bool.and_eq_true, Bool.not_eq_true'] at h3
        exact snd_part h3.1 ((snd_E u hX h3.2).v true)
    exact Snd.of rfl rfl (snd_slc ((snd_E a hX h1).v true) hl hu)
  · rename_i x lo st pos pos' a l s
    simp only [Bool.and_eq_true] at h
    obtain ⟨⟨⟨h0, h1⟩, h2⟩, h3⟩ := h
    have hl : PO X lo (XPd T n X l) := by
      cases lo with
      | none => exact pd_none h3
      | some e => exact pd_some ((snd_E l hX h3).v true)
    exact Snd.of rfl rfl (snd_stp ((snd_E a hX h1).v true) hl ((snd_E s hX h2).v true))
  · rename_i x s pos a i
    simp only [Bool.and_eq_true] at h
    obtain ⟨⟨h1, h2⟩, h3⟩ := h
    exact Snd.of rfl rfl (snd_ix hX h1 ((snd_E a hX h2).v true) ((snd_E i hX h3).v true))
  · rename_i x p args pos f es
    simp only [Bool.and_eq_true, decide_eq_true_eq, Bool.not_eq_true'] at h
    obtain ⟨⟨⟨⟨h1, h2⟩, h3⟩, h4⟩, h5⟩ := h
    obtain ⟨k1, k2⟩ := snd_Es es hX h5
    cases args with
    | nil => cases h4
    | cons e args =>
      rw [List.all_cons, Bool.and_eq_true] at k1
      exact Snd.of rfl rfl (snd_call hX h1 (gl_of h2 rfl) h3 k1.1 k1.2 (k2 false))
  · rename_i keys vals pos ks vs
    simp only [Bool.and_eq_true, decide_eq_true_eq] at h
    obtain ⟨⟨h1, h2⟩, h3⟩ := h
    exact Snd.ofN rfl (fun ρ => by simp only [ev]) (snd_dct hX (snd_Ks ks hX h2) (snd_Vs vs hX h3) h1)
  · rename_i x p y p2 e p3 pos a
    simp only [Bool.and_eq_true, decide_eq_true_eq] at h
    obtain ⟨⟨⟨⟨⟨rfl, rfl⟩, h2⟩, h3⟩, h4⟩, h5⟩ := h
    exact Snd.of rfl rfl (snd_sortedSet hX (gl_of h2 rfl) (gl_of h3 rfl) h4 ((snd_E a hX h5).v true))
  · rename_i x p y p2 e p3 pos a
    simp only [Bool.and_eq_true, decide_eq_true_eq] at h
    obtain ⟨⟨⟨⟨⟨rfl, rfl⟩, h2⟩, h3⟩, h4⟩, h5⟩ := h
    exact Snd.of rfl rfl (snd_lenSet hX (gl_of h2 rfl) (gl_of h3 rfl) h4 ((snd_E a hX h5).v true))
  · rename_i x p y p2 e p3 pos a
    simp only [Bool.and_eq_true, decide_eq_true_eq] at h
    obtain ⟨⟨⟨⟨⟨rfl, rfl⟩, h2⟩, h3⟩, h4⟩, h5⟩ := h
    exact Snd.of rfl rfl (snd_tupRange hX (gl_of h2 rfl) (gl_of h3 rfl) h4 ((snd_E a hX h5).v true))
  · rename_i x p e name apos cpos pos a
    simp only [Bool.and_eq_true, decide_eq_true_eq] at h
    obtain ⟨⟨⟨⟨⟨rfl, rfl⟩, h2⟩, h3⟩, h4⟩, h5⟩ := h
    exact Snd.of rfl rfl (snd_itemsSorted hX (gl_of h3 rfl) h4 h2 ((snd_E a hX h5).v true))
  · rename_i x p e name apos cpos pos a
    simp only [Bool.and_eq_true, decide_eq_true_eq] at h
    obtain ⟨⟨⟨⟨⟨rfl, rfl⟩, h2⟩, h3⟩, h4⟩, h5⟩ := h
    exact Snd.of rfl rfl (snd_values hX (gl_of h3 rfl) h4 h2 ((snd_E a hX h5).v true))
  · rename_i x p e pos a
    simp only [Bool.and_eq_true, decide_eq_true_eq] at h
    obtain ⟨⟨⟨rfl, h2⟩, h3⟩, h4⟩ := h
    exact Snd.ofN rfl (fun ρ => by simp only [ev]) (snd_dict hX (gl_of h2 rfl) h3 (snd_cons h3 ((snd_E a hX h4).v true) snd_nil))
  · rename_i x name apos e f cpos a b c
    simp only [Bool.and_eq_true, decide_eq_true_eq] at h
    obtain ⟨⟨⟨⟨⟨⟨⟨rfl, h1⟩, h2⟩, h3⟩, h4⟩, h5⟩, h6⟩, h7⟩ := h
    exact Snd.of rfl rfl (snd_get hX h2 h1 h3 h4 ((snd_E a hX h5).v true) ((snd_E b hX h6).v false) ((snd_E c hX h7).v false))
  · rename_i x p e y p2 pos b a
    simp only [Bool.and_eq_true, decide_eq_true_eq] at h
    obtain ⟨⟨⟨⟨⟨rfl, h1⟩, h2⟩, h3⟩, h4⟩, h5⟩ := h
    exact Snd.of rfl (by cases b <;> first | rfl | (cases h1; done)) (snd_isa hX h1 (gl_of h2 rfl) (gl_of h3 rfl) h4 ((snd_E a hX h5).v true))
  · rename_i x p args pos b es _ _ _ _ _ _ _
    split at h
    · rename_i y ty hb
      simp only [Bool.and_eq_true, decide_eq_true_eq, Bool.not_eq_true'] at h
      obtain ⟨⟨⟨rfl, h2⟩, h4⟩, h5⟩ := h
      obtain ⟨k1, k2⟩ := snd_Es es hX h5
      cases args with
      | nil => cases h4
      | cons e args =>
        rw [List.all_cons, Bool.and_eq_true] at k1
        have hp := snd_blt (p := p) (pos := pos) hX hb (gl_of h2 rfl) k1.1 k1.2 (k2 true)
        refine Snd.of rfl ?_ hp
        cases b <;> first | rfl | cases hb
    · cases h
  · rename_i x name apos cpos m a
    simp only [Bool.and_eq_true, decide_eq_true_eq] at h
    obtain ⟨⟨⟨⟨rfl, rfl⟩, h2⟩, h3⟩, h4⟩ := h
    exact Snd.of rfl rfl (snd_mth0 (by decide) F.slot_str_upper F.type_str_upper m_upper h3 h2 ((snd_E a hX h4).v true))
  · rename_i x name apos e cpos m a b
    simp only [Bool.and_eq_true, decide_eq_true_eq] at h
    obtain ⟨⟨⟨⟨⟨⟨rfl, h1⟩, h2⟩, h3⟩, h4⟩, h5⟩, h6⟩ := h
    exact Snd.of rfl rfl (snd_str1 h1 h3 h4 h2 ((snd_E a hX h5).v true) ((snd_E b hX h6).v false))
  · rename_i elt tg iter ifs asy scope pos e t k its cond
    split at h
    · rename_i own ho
      simp only [Bool.and_eq_true, decide_eq_true_eq] at h
      obtain ⟨⟨⟨⟨⟨rfl, h1⟩, h2⟩, h3⟩, h4⟩, h5⟩ := h
      obtain ⟨i1, i2⟩ := snd_I k its hX h3 (m := true)
      have hts : ∀ (s : Shared) (H : Hp) (C : Addr) (cl : List (Str × Addr)) (fp : List Addr), PTs (X.blk s H scope (compEnvC scope cl C X.env) fp) ifs (XT T n X cond) := by
        intro s' H' C cl fp
        split at h5
        · refine ⟨fun pins s σ H Q I q => pts_nil.run pins s σ H Q I ?_⟩
          obtain ⟨H0, F0, F, ρ, b, g, hb, q⟩ := q
          unfold isYes at h5
          split at h5
          · simp only [ev] at hb
            cases hb
            exact q F H (Ext.refl g.fh)
          · cases h5
        · simp only [Bool.and_eq_true] at h5
          exact pts_one ((snd_E cond (X := X.blk s' H' scope (compEnvC scope cl C X.env) fp) hX.blk h5.2).t h5.1)
        · cases h5
      refine Snd.ofN rfl (fun ρ => by simp only [ev]) (snd_comp hX ⟨blkOk_by h1, ownOf_names ho, i2, fun s H C cl fp => ?_, fun s H C cl fp => ?_, fun s H C cl fp => ?_, i1, pairs_isT h2 h3⟩)
      · exact snd_tg (X := X.blk s H scope (compEnvC scope cl C X.env) fp) hX.calm hX.nd t h2
      · exact hts s H C cl fp
      · exact (snd_E e (X := X.blk s H scope (compEnvC scope cl C X.env) fp) hX.blk h4).v false
    · cases h
  · cases h
theorem snd_I : ∀ (k : IK) (its : List Ex) {X : Cx} {tg e : Expr} {m : Bool}, XOk T n X → chkI T X.N X.env.scope tg e k its = true → (∀ x, foldedSetIterable e X.env x = pure x) ∧ PI X tg e (XW T n X m k its) := fun k its X tg e m hX h => by
  unfold chkI at h
  split at h
  · rename_i a
    simp only [Bool.and_eq_true] at h
    exact ⟨set_nst h.1, walk_seq ((snd_E a hX h.2).v m)⟩
  · rename_i e name apos cpos a
    simp only [Bool.and_eq_true, decide_eq_true_eq] at h
    obtain ⟨⟨⟨⟨rfl, h1⟩, h2⟩, h3⟩, h4⟩ := h
    exact ⟨fun _ => rfl, walk_items h3 h1 (isTup_inv h2) ((snd_E a hX h4).v m)⟩
  · rename_i x p e pos a
    simp only [Bool.and_eq_true, decide_eq_true_eq] at h
    obtain ⟨⟨⟨rfl, h1⟩, h2⟩, h3⟩ := h
    exact ⟨fun _ => rfl, walk_range1 hX (gl_of h1 rfl) h2 (snd_cons h2 ((snd_E a hX h3).v m) snd_nil)⟩
  · rename_i x p e f pos a b
    simp only [Bool.and_eq_true, decide_eq_true_eq] at h
    obtain ⟨⟨⟨⟨⟨rfl, h1⟩, h2⟩, h3⟩, h4⟩, h5⟩ := h
    exact ⟨fun _ => rfl, walk_range2 hX (gl_of h1 rfl) h2 h3 (snd_cons h2 ((snd_E a hX h4).v m) (snd_cons h3 ((snd_E b hX h5).v m) snd_nil))⟩
  · rename_i x p e pos a
    simp only [Bool.and_eq_true, decide_eq_true_eq] at h
    obtain ⟨⟨⟨⟨rfl, h1⟩, h2⟩, h3⟩, h4⟩ := h
    exact ⟨fun _ => rfl, walk_enum hX (gl_of h1 rfl) h2 h3 (snd_cons h3 ((snd_E a hX h4).v m) snd_nil)⟩
  · rename_i x p e f pos a b
    simp only [Bool.and_eq_true, decide_eq_true_eq] at h
    obtain ⟨⟨⟨⟨⟨⟨rfl, h1⟩, h2⟩, h3⟩, h4⟩, h5⟩, h6⟩ := h
    exact ⟨fun _ => rfl, walk_zip hX (gl_of h1 rfl) h2 h3 h4 (snd_cons h3 ((snd_E a hX h5).v m) (snd_cons h4 ((snd_E b hX h6).v m) snd_nil))⟩
  · cases h
theorem snd_Es : ∀ (es : List Ex) {X : Cx} {l : List Expr}, XOk T n X → chkEs T X.N X.env.scope l es = true → l.all nst = true ∧ ∀ m, PA X l (XEs T n X m es)
  | [], X, l, hX, h => by
    cases l with
    | nil => exact ⟨rfl, fun m => snd_nil⟩
    | cons _ _ => simp [chkEs] at h
  | ex :: es, X, l, hX, h => by
    cases l with
    | nil => simp [chkEs] at h
    | cons e l =>
      rw [chkEs, Bool.and_eq_true, Bool.and_eq_true] at h
      obtain ⟨h1, h2⟩ := snd_Es es hX h.2
      exact ⟨by rw [List.all_cons, h.1.1, h1]; rfl, fun m => snd_cons h.1.1 ((snd_E ex hX h.1.2).v m) (h2 m)⟩
theorem snd_Ks : ∀ (es : List Ex) {X : Cx} {l : List (Option Expr)}, XOk T n X → chkKs T X.N X.env.scope l es = true → Paired (fun o ex => ∃ e, o = some e ∧ PE X e (XE T n X false ex)) l es
  | [], X, l, hX, h => by
    cases l with
    | nil => exact .nil
    | cons _ _ => simp [chkKs] at h
  | ex :: es, X, l, hX, h => by
    cases l with
    | nil => simp [chkKs] at h
    | cons o l =>
      cases o with
      | none => simp [chkKs] at h
      | some e =>
        rw [chkKs, Bool.and_eq_true] at h
        exact .cons ⟨e, rfl, (snd_E ex hX h.1).v false⟩ (snd_Ks es hX h.2)
theorem snd_Vs : ∀ (es : List Ex) {X : Cx} {l : List Expr}, XOk T n X → chkEs T X.N X.env.scope l es = true → Paired (fun e ex => PE X e (XE T n X false ex)) l es
  | [], X, l, hX, h => by
    cases l with
    | nil => exact .nil
    | cons _ _ => simp [chkEs] at h
  | ex :: es, X, l, hX, h => by
    cases l with
    | nil => simp [chkEs] at h
    | cons e l =>
      rw [chkEs, Bool.and_eq_true, Bool.and_eq_true] at h
      exact .cons ((snd_E ex hX h.1.2).v false) (snd_Vs es hX h.2)
end
end
end KD
/-! KdStm: statements. -/
namespace KD
open PySem PySem.Spec
open PyProof.Rows L2
/-! ### the check -/
def noLC : Expr → Bool
  | .ListComp _ _ _ _ => false
  | .SetComp _ _ _ _ => false
  | .DictComp _ _ _ _ _ => false
  | _ => true
def noTup : Expr → Bool
  | .Tuple _ _ _ => false
  | _ => true
/-- target = value, the value handed to the store -/
def plainA (tg e : Expr) : Bool := (noLC e && (noTup tg || noTup e)) || (!noLC e && isTup tg)
/-- name = [..] on one line -/
def lcA (sc : Scope) (line : Nat) : Expr → Expr → Bool
  | .Name y py, .ListComp _ _ scope pos => decide (sc.names.lookup y = some .local) && (py.line == pos.line) && !(scope.names.any fun (n, k) => n == y && (k == .local || k == .cell))
  | _, _ => false
/-- name = [..], the name a cell -/
def lcC (sc : Scope) : Expr → Expr → Bool
  | .Name y _, .ListComp _ _ _ _ => decide (sc.names.lookup y = some .cell)
  | _, _ => false
def parB : Expr → Expr → Bool
  | .Tuple [.Name x px, .Name y py] _ _, .Tuple [a, b] _ _ => (py.line == px.line) && !decide (x = y) && nst a && nst b && !(foldedForSure 8 a && foldedForSure 8 b) && !(constantsAlone 8 a && constantsAlone 8 b)
  | _, _ => false
def isGhost : Stm → Bool
  | .frz _ => true
  | .wip _ => true
  | _ => false
section
variable (T : Tb) (N : List Str) (sc : Scope)
def nmB (x : Str) (i : Nat) : Bool := decide (N[i]? = some x) && (decide (sc.names.lookup x = some .local) || decide (sc.names.lookup x = some .cell)) && noDbg x
mutual
def chkS : Stmt → Stm → Bool
  | .Assign [tg] e pos, .asg t ex =>
    if plainA tg e || lcC sc tg e then tgB N sc (fun _ => true) tg t && chkE T N sc e ex
    else if lcA sc pos.line tg e then tgB N sc (fun _ => true) tg t && chkE T N sc e ex
    else (match tg, e, t, ex with
      | .Tuple [.Name x px, .Name y py] _ _, .Tuple [a, b] _ _, .tup [.name i, .name j], .tup [ea, eb] => parB tg e && decide (N[i]? = some x) && decide (N[j]? = some y) &&
          decide (sc.names.lookup x = some .local) && decide (sc.names.lookup y = some .local) && chkE T N sc a ea && chkE T N sc b eb
      | _, _, _, _ => false)
  | .Assign [tg] e pos, .own i ex => fresh ex && tgB N sc (fun _ => true) tg (.name i) && (plainA tg e || lcC sc tg e || lcA sc pos.line tg e) && chkE T N sc e ex
  | .Assign [.Subscript (.Name x _) k _] v _, .seti i ke ve => nmB N sc x i && chkE T N sc k ke && chkE T N sc v ve
  | .Expr (.Call (.Attribute (.Name x _) name apos) [e] [] cpos) _, .app i ex => decide (name = ("append" : Str)) && nmB N sc x i && (apos.endLine == cpos.line) && nst e && chkE T N sc e ex
  | .Expr (.Call (.Attribute (.Name x _) name apos) [e] [] cpos) _, .ext i ex => decide (name = ("extend" : Str)) && nmB N sc x i && (apos.endLine == cpos.line) && nst e && chkE T N sc e ex
  | .Assign [tg] (.Call (.Attribute (.Name x _) name apos) args [] cpos) _, .pop t i arg => decide (name = ("pop" : Str)) && nmB N sc x i && (apos.endLine == cpos.line) && tgB N sc (fun _ => true) tg t && (match args, arg with
    | [], none => true
    | [e], some j => decide (j = 0) && nst e && chkE T N sc e (.cst (.int 0))
    | _, _ => false)
  | .If c a b _, .iff c' a' b' => tst c && chkE T N sc c c' && chkSs a a' && chkSs b b'
  | .While c body [] _, .whl c' body' _ => tst c && chkE T N sc c c' && chkSs body body'
  | .For tg iter body [] _, .for_ t k its body' _ => tgB N sc (fun _ => true) tg t && chkI T N sc tg iter k its && chkSs body body'
  | .Return (some e) _, .ret ex => chkE T N sc e ex
  | .Pass _, .pas => true
  | .Break _, .brk => true
  | .Continue _, .cnt => true
  | _, _ => false
def chkSs : List Stmt → List Stm → Bool
  | [], [] => true
  | l, .frz _ :: r => chkSs l r
  | l, .wip _ :: r => chkSs l r
  | s :: l, t :: r => chkS s t && chkSs l r
  | _, _ => false
end
end
/-! ### ends -/
section
variable {P : Program} {w : World} {K : PySem.W.Frag} {H0 F0 F F' : Hp} {D : Ends} {r : R Flow}
theorem EndS.mono (h : EndS P w K H0 F0 F D r) (e : Same F F') : EndS P w K H0 F0 F' D r := by
  cases r with
  | ok f =>
    cases f with
    | nx ρ => exact fun σ' H' F1 g s => h σ' H' F1 g (e.trans s)
    | br ρ => exact fun σ' H' F1 g s => h σ' H' F1 g (e.trans s)
    | cn ρ => exact fun σ' H' F1 g s => h σ' H' F1 g (e.trans s)
    | rt d => exact h
  | err _ => exact h
  | bot => exact h
theorem EndS.bind {α : Type} {x : R α} {f : α → R Flow} (h : EndS P w K H0 F0 F D (x.bind f)) : ∃ a, x = .ok a ∧ EndS P w K H0 F0 F D (f a) := by
  cases x with
  | ok a => exact ⟨a, rfl, h⟩
  | err _ => exact h.elim
  | bot => exact h.elim
theorem EndS.guard {c : Bool} (h : EndS P w K H0 F0 F D (R.guard c r)) : c = true ∧ EndS P w K H0 F0 F D r := by
  cases c with
  | true => exact ⟨rfl, h⟩
  | false => exact h.elim
end
section
variable {X : Cx}
theorem sw_no {e : Expr} {t : Option Expr} {l : Nat} {env : PySem.Env} (h : noLC e = true) : swapsWith e t l env = pure false := by
  cases e <;> first | rfl | cases h
theorem sw_tup {e : Expr} {es : List Expr} {k : Nat} {p : Pos} {l : Nat} {env : PySem.Env} : swapsWith e (some (.Tuple es k p)) l env = pure false := by
  cases e <;> rfl
theorem sw_cell {e : Expr} {y : Str} {p : Pos} {l : Nat} {env : PySem.Env} (h : env.scope.names.lookup y = some .cell) : swapsWith e (some (.Name y p)) l env = pure false := by
  have ky : env.kindOf y = some .cell := h
  unfold swapsWith
  split
  · have q : (NameKind.cell == NameKind.local) = false := by decide
    simp only [ky]
    rw [show (some NameKind.cell == some NameKind.local) = false from by decide, Bool.and_false, Bool.false_and, Bool.false_and]
  · rfl
theorem stores_no {tg e : Expr} {env : PySem.Env} (h : noTup e = true) : swappedStores [tg] e env = pure none := by
  unfold swappedStores
  cases tg <;> cases e <;> first | rfl | cases h
theorem stores_no2 {tg e : Expr} {env : PySem.Env} (h : noTup tg = true) (hl : ∀ es p, tg ≠ .List es p) : swappedStores [tg] e env = pure none := by
  unfold swappedStores
  cases tg <;> first | exact absurd rfl (hl _ _) | (cases h; done) | rfl
theorem sw_par {x y : Str} {px py pt p2 : Pos} {kt k2 : Nat} {a b : Expr} {env : PySem.Env} (hk : env.blockKind = .function) (hx : env.scope.names.lookup x = some .local) (hy : env.scope.names.lookup y = some .local)
    (h : parB (.Tuple [.Name x px, .Name y py] kt pt) (.Tuple [a, b] k2 p2) = true) : swappedStores [.Tuple [.Name x px, .Name y py] kt pt] (.Tuple [a, b] k2 p2) env = pure (some [x, y]) := by
  have kx : env.kindOf x = some .local := hx
  have ky : env.kindOf y = some .local := hy
  unfold parB at h
  simp only [Bool.and_eq_true, Bool.not_eq_true', decide_eq_false_iff_not, beq_iff_eq] at h
  obtain ⟨⟨⟨⟨⟨h1, h2⟩, h3⟩, h4⟩, h5⟩, h6⟩ := h
  have st : ∀ e : Expr, nst e = true → (match e with | .Starred .. => true | _ => false) = false := by
    intro e he
    cases e <;> first | rfl | cases he
  have hxy : (x == y) = false := by simpa using h2
  have hyx : (y == x) = false := by simpa using fun z => h2 z.symm
  unfold swappedStores
  have e1 : ([a, b].any fun | .Starred .. => true | _ => false) = false := by
    rw [List.any_cons, List.any_cons, List.any_nil, st a h3, st b h4]
    rfl
  have e2 : [a, b].all (foldedForSure 8) = false := by simpa using h5
  have e3 : [a, b].all (constantsAlone 8) = false := by simpa using h6
  have hb : (env.blockKind != ScopeKind.function) = false := by rw [hk]; rfl
  have ed : [x, y].eraseDups = [x, y] := by
    rw [List.eraseDups_cons, List.filter_cons, if_pos (by simp [hyx])]
    rfl
  show (do
    if false || (env.blockKind != .function) then return none
    if [a, b].any fun | .Starred .. => true | _ => false then return none
    let names := [Expr.Name x px, Expr.Name y py].filterMap fun
      | .Name id pos => if env.kindOf id == some .local && pos.line == px.line then some id else none
      | _ => none
    if names.length != 2 || names.eraseDups.length != names.length then return none
    if [a, b].all (foldedForSure 8) then return none
    if [a, b].all (constantsAlone 8) then unsupported "assign.tuple-of-constant-expressions:order-of-the-stores"
    return some names : Sem (Option (List Str))) = _
  have en : ([Expr.Name x px, Expr.Name y py].filterMap fun
      | .Name id pos => if env.kindOf id == some .local && pos.line == px.line then some id else none
      | _ => none) = [x, y] := by
    simp only [List.filterMap_cons, List.filterMap_nil, kx, ky, h1]
    simp
  rw [hb, e1, e2, e3]
  simp only [en, ed]
  rfl
end
/-! ### statements -/
structure SOk (T : Tb) (n : Nat) (X : Cx) : Prop where
  ok : XOk T n X
  px : PassesOwn (model X.prog X.w) X.A X.env X.xe
  fn : X.fn = fun _ => true
  bk : X.env.blockKind = .function
section
variable {T : Tb} {n : Nat} {X : Cx} {H0 F0 : Hp}
abbrev XS (T : Tb) (n : Nat) (X : Cx) (H0 F0 : Hp) (s : Stm) : TS := tS X.prog X.w X.K (evFn T.P T.wf n) T.wf H0 F0 s
abbrev XSs (T : Tb) (n : Nat) (X : Cx) (H0 F0 : Hp) (s : List Stm) : TS := tSs X.prog X.w X.K (evFn T.P T.wf n) T.wf H0 F0 s
theorem lay_new {w : World} {K : PySem.W.Frag} {F H F' H' : Hp} {l : Addr} {o : HO} {d : D} (e : Ext F H F' H') (hl : H l = none) (hF : F' l = none) (hH : H' l = some o) (c : Cont w K F' l o d) : Ext F H (upd F' l o) H' ∧ Dr w K (upd F' l o) (.ref l) d := by
  have sm : Same F' (upd F' l o) := same_new hF
  refine ⟨⟨e.f.trans sm, e.h, fun b u hb => ?_, fun b hb => ?_⟩, (c.mono sm).dr upd_same⟩
  · by_cases q : b = l
    · subst q
      rw [upd_same] at hb
      cases hb
      exact hH
    · rw [upd_ne q] at hb
      exact e.fh b u hb
  · rw [upd_ne, e.new b hb]
    rintro rfl
    exact hb hl
theorem tg_name {N : List Str} {sc : Scope} {tg : Expr} {i : Nat} (h : tgB N sc (fun _ => true) tg (.name i) = true) : ∃ x p, tg = .Name x p ∧ N[i]? = some x ∧ Loc sc x := by
  unfold tgB at h
  split at h
  · rename_i x p j q
    cases q
    simp only [Bool.and_eq_true, Bool.or_eq_true, decide_eq_true_eq] at h
    refine ⟨x, p, rfl, h.1, ?_⟩
    rcases h.2 with h | h
    · exact .inl h
    · exact .inr h.1
  · rename_i q
    cases q
  · cases h
theorem tg_set {ρ ρ' : Env} {i : Nat} {d : D} (h : asgT ρ (.name i) d = .ok ρ') : ρ' = ρ.set i (some (.val d)) := by
  rw [asgT] at h
  cases h
  rfl
theorem comp_parts (hX : XOk T n X) {elt : Expr} {scope : Scope} {pos : Pos} {gs : List Comprehension} {e : Ex} {t : Tg} {k : IK} {its : List Ex} {cond : Ex}
    (h : chkE T X.N X.env.scope (.ListComp elt gs scope pos) (.comp e t k its cond) = true) : ∃ tg iter ifs own, gs = [⟨tg, iter, ifs, 0⟩] ∧ CompOk T n X elt tg iter ifs scope own e t k its cond := by
  cases gs with
  | nil => simp [chkE] at h
  | cons c r =>
    obtain ⟨tg, iter, ifs, as⟩ := c
    cases r with
    | cons _ _ => simp [chkE] at h
    | nil =>
      simp only [chkE] at h
      split at h
      · rename_i own ho
        simp only [Bool.and_eq_true, decide_eq_true_eq] at h
        obtain ⟨⟨⟨⟨⟨rfl, h1⟩, h2⟩, h3⟩, h4⟩, h5⟩ := h
        obtain ⟨i1, i2⟩ := snd_I k its hX h3 (m := true)
        have hts : ∀ (s : Shared) (H : Hp) (C : Addr) (cl : List (Str × Addr)) (fp : List Addr), PTs (X.blk s H scope (compEnvC scope cl C X.env) fp) ifs (XT T n X cond) := by
          intro s' H' C cl fp
          split at h5
          · refine ⟨fun pins s σ H Q I q => pts_nil.run pins s σ H Q I ?_⟩
            obtain ⟨H0, F0, F, ρ, b, g, hb, q⟩ := q
            unfold isYes at h5
            split at h5
            · simp only [ev] at hb
              cases hb
              exact q F H (Ext.refl g.fh)
            · cases h5
          · simp only [Bool.and_eq_true] at h5
            exact pts_one ((snd_E cond (X := X.blk s' H' scope (compEnvC scope cl C X.env) fp) hX.blk h5.2).t h5.1)
          · cases h5
        exact ⟨tg, iter, ifs, own, rfl, blkOk_by h1, ownOf_names ho, i2, fun s H C cl fp => snd_tg (X := X.blk s H scope (compEnvC scope cl C X.env) fp) hX.calm hX.nd t h2, hts,
          fun s H C cl fp => (snd_E e (X := X.blk s H scope (compEnvC scope cl C X.env) fp) hX.blk h4).v false, i1, pairs_isT h2 h3⟩
      · cases h
/-- target = value -/
theorem asg_plain (hX : SOk T n X) {tg e : Expr} {te : TE} {g : TG} {pos : Pos} {t : Tg} (hs : (plainA tg e || lcC X.env.scope tg e) = true) (ht : tgB X.N X.env.scope (fun _ => true) tg t = true) (he : PE X e te) (hg : PG X tg g) : PS X (.Assign [tg] e pos) (tAsg te g) := by
  have nl : ∀ es p, tg ≠ .List es p := by
    rintro es p rfl
    unfold tgB at ht
    cases t <;> cases ht
  have hst := tgB_star ht
  have h1 : (assignEach [tg] X.env).map (·.2) = [assign tg X.env] := by rw [isT_asg hst]; rfl
  rw [Bool.or_eq_true] at hs
  rcases hs with hs | hs
  · unfold plainA at hs
    simp only [Bool.or_eq_true, Bool.and_eq_true, Bool.not_eq_true'] at hs
    rcases hs with ⟨h2, h3⟩ | ⟨h2, h3⟩
    · refine ps_asg he hg (sw_no h2) ?_ h1
      rcases h3 with h3 | h3
      · exact stores_no2 h3 nl
      · exact stores_no h3
    · obtain ⟨es, k, p, rfl⟩ := isTup_inv h3
      refine ps_asg he hg (show swapsWithSole [.Tuple es k p] e pos.line X.env = pure false from sw_tup (e := e) (es := es) (k := k) (p := p) (l := pos.line) (env := X.env)) ?_ h1
      refine stores_no ?_
      cases e <;> first | rfl | cases h2
  · unfold lcC at hs
    split at hs
    · rename_i y py elt gs sc2 cpos
      refine ps_asg he hg ?_ (stores_no rfl) h1
      exact sw_cell (e := .ListComp elt gs sc2 cpos) (y := y) (p := py) (l := pos.line) (env := X.env) (of_decide_eq_true hs)
    · cases hs
theorem lc_shape {sc : Scope} {line : Nat} {tg e : Expr} (h : lcA sc line tg e = true) : ∃ y py elt gs scope pos, tg = .Name y py ∧ e = .ListComp elt gs scope pos ∧ sc.names.lookup y = some .local ∧ (py.line == pos.line) = true ∧ (scope.names.any fun (n, k) => n == y && (k == .local || k == .cell)) = false := by
  unfold lcA at h
  split at h
  · simp only [Bool.and_eq_true, decide_eq_true_eq, Bool.not_eq_true'] at h
    exact ⟨_, _, _, _, _, _, rfl, rfl, h.1.1, h.1.2, h.2⟩
  · cases h
theorem comp_only {T : Tb} {N : List Str} {sc : Scope} {elt : Expr} {gs : List Comprehension} {scope : Scope} {pos : Pos} {ex : Ex} (h : chkE T N sc (.ListComp elt gs scope pos) ex = true) : ∃ e t k its cond, ex = .comp e t k its cond := by
  cases ex <;> first | exact ⟨_, _, _, _, _, rfl⟩ | (simp [chkE] at h)
/-- name = [..] on one line, by what the list is -/
theorem asg_lc (hX : SOk T n X) {tg e : Expr} {ex : Ex} {pos : Pos} {i : Nat} (hs : lcA X.env.scope pos.line tg e = true) (ht : tgB X.N X.env.scope (fun _ => true) tg (.name i) = true) (he : chkE T X.N X.env.scope e ex = true) : PS X (.Assign [tg] e pos) (tAsg (XN T n X ex) (gName i)) := by
  obtain ⟨y, py, elt, gs, scope, cpos, rfl, rfl, hl, hln, ha⟩ := lc_shape hs
  obtain ⟨e, t, k, its, cond, rfl⟩ := comp_only he
  obtain ⟨tg, iter, ifs, own, rfl, c⟩ := comp_parts hX.ok he
  obtain ⟨x, p, q, hi, hx⟩ := tg_name ht
  cases q
  exact set_comp hX.ok c hi hl (by
    have hk : X.env.blockKind = .function := hX.bk
    have ky : X.env.kindOf y = some .local := hl
    unfold swapsWith
    simp only [hk, ky, ha, Expr.pos, hln]
    rfl)
theorem vis_of {sc : Scope} {x : Str} (h : Loc sc x) : Vis sc x := by
  rcases h with h | h
  · exact .inl h
  · exact .inr (.inl h)
/-- a fresh object becomes a name's own -/
theorem Good.fresh {P : Program} {w : World} {K : PySem.W.Frag} {σ : L2.St} {H F H' F' : Hp} {ρ : Env} {i : Nat} {l : Addr} {o : HO} {d : D} (g : Good P w K H0 F0 σ H F ρ) (e : Ext F H F' H') (hl : H l = none) (hF : F' l = none) (hH : H' l = some o) (c : Cont w K F' l o d) :
    Good P w K H0 F0 (σ.set i (some (.ref l))) H' F' (ownSet ρ i d) :=
  (g.ext e).setOwn hH hF (Same.free g.h0 hl) c fun j e' hj hown hs => by
    obtain ⟨l', o', h1, h2, h3, h4, h5⟩ := g.own j e' hown
    rw [hs] at h1
    cases h1
    rw [hl] at h4
    cases h4
theorem own_imp {i : Nat} {ex : Ex} (hf : fresh ex = true) : ∀ (D : Ends) (σ : L2.St) (H : Hp), XS T n X H0 F0 (.own i ex) D σ H → tAsg (XN T n X ex) (gName i) D σ H := by
  rintro D σ H ⟨F, ρ, g, hE⟩
  simp only [exS] at hE
  obtain ⟨_, hE⟩ := hE.guard
  obtain ⟨d, hd, hE⟩ := hE.bind
  obtain ⟨_, hE⟩ := hE.guard
  exact ⟨H0, F0, F, ρ, d, g, hd, fun l o F1 H1 e1 h1 h2 h3 c => hE _ H1 F1 (g.fresh e1 h1 h2 h3 c) e1.f⟩
theorem asg_imp {i : Nat} {ex : Ex} : ∀ (D : Ends) (σ : L2.St) (H : Hp), XS T n X H0 F0 (.asg (.name i) ex) D σ H → tAsg (XN T n X ex) (gName i) D σ H := by
  rintro D σ H ⟨F, ρ, g, hE⟩
  simp only [exS] at hE
  obtain ⟨d, hd, hE⟩ := hE.bind
  obtain ⟨ρ', ha, hE⟩ := hE.bind
  obtain rfl := tg_set ha
  refine ⟨H0, F0, F, ρ, d, g, hd, fun l o F1 H1 e1 h1 h2 h3 c => ?_⟩
  obtain ⟨e2, r2⟩ := lay_new e1 h1 h2 h3 c
  exact hE _ H1 _ ((g.ext e2).set r2) e2.f
theorem forF_drop {step : D → Env → R Flow} {w : List Nat} {xs : List D} {i : Nat} (hi : i < xs.length) (ρ : Env) : forF step w (xs.drop i) ρ = (step xs[i] ρ).bind fun f => match f with
    | .nx ρ' => forF step w (xs.drop (i + 1)) (wipeE ρ' w)
    | .cn ρ' => forF step w (xs.drop (i + 1)) (wipeE ρ' w)
    | .br ρ' => .ok (.nx (wipeE ρ' w))
    | .rt d => .ok (.rt d) := by
  rw [List.drop_eq_getElem_cons hi, forF]
  first | done | congr 1
theorem sw_sub {e o k : Expr} {p : Pos} {l : Nat} {env : PySem.Env} : swapsWith e (some (.Subscript o k p)) l env = pure false := by
  cases e <;> rfl
/-- d[k] = v, the name's own dict -/
theorem snd_seti (hX : SOk T n X) {x : Str} {xp sp pos : Pos} {k v : Expr} {i : Nat} {ke ve : Ex} (h1 : nmB X.N X.env.scope x i = true) (hk : PE X k (XE T n X false ke)) (hv : PE X v (XE T n X false ve)) :
    PS X (.Assign [.Subscript (.Name x xp) k sp] v pos) (XS T n X H0 F0 (.seti i ke ve)) := by
  unfold nmB noDbg at h1
  simp only [Bool.and_eq_true, decide_eq_true_eq, Bool.or_eq_true, Bool.not_eq_true'] at h1
  obtain ⟨⟨hi, hx⟩, hd1, hd2⟩ := h1
  refine ⟨fun pins s σ H D I ⟨F, ρ, g, hE⟩ => ?_⟩
  simp only [exS] at hE
  split at hE
  · rename_i kvs ho
    obtain ⟨dv, hdv, hE⟩ := hE.bind
    obtain ⟨dk, hdk, hE⟩ := hE.bind
    split at hE
    · rename_i q hq
      obtain ⟨hz, hE⟩ := hE.guard
      obtain ⟨l, o, k1, k2, k3, k4, k5⟩ := g.own i _ ho
      cases k5 with
      | dct r5 n1 n2 n3 n4 =>
        rename_i o5 es
        refine wpAny_Assign_Subscript (thn (hv.run pins s σ H _ I ⟨H0, F0, F, ρ, dv, g, hdv, fun y F1 H1 e1 r1 => (⟨F1, e1, r1⟩ : ∃ F1, Ext F H F1 H1 ∧ Vr X.w X.K false F1 H1 y dv)⟩) fun r s1 ⟨z, H1, I1, rz, F1, e1, r1⟩ =>
          thn ((pe_var hi (vis_of hx) hd1 hd2).run pins s1 σ H1 (fun y H2 => y = .ref l ∧ H2 = H1) I1 ⟨_, k1, rfl, rfl⟩) fun u s2 ⟨y, H2, I2, ry, ey, eH⟩ => ?_) sw_sub
        subst ey eH
        cases ry
        refine thn (hk.run pins s2 σ H2 _ I2 ⟨H0, F0, F1, ρ, dk, g.ext e1, hdk, fun y F3 H3 e3 r3 => (⟨F3, e3, r3⟩ : ∃ F3, Ext F1 H2 F3 H3 ∧ Vr X.w X.K false F3 H3 y dk)⟩) fun iv s3 ⟨y, H3, I3, ry, F3, e3, r3⟩ => ?_
        have ha : H3 l = some (dO l o5) := e3.h _ _ (e1.h _ _ k4)
        have en : Ens X.w X.K F3 es kvs := Ens.mono (Paired.of_get n1 fun i p q hp hq => ⟨n2 i p.1 p.2.1 p.2.2 q.1 q.2 hp hq, n3 i p.1 p.2.1 p.2.2 q.1 q.2 hp hq, n4 i p.1 p.2.1 p.2.2 q.1 q.2 hp hq⟩) (e1.f.trans e3.f)
        have hlen : es.length < sizeLine := by rw [n1]; exact Nat.lt_of_lt_of_le (of_decide_eq_true hz) lim_size
        refine D_setItem (by have := hX.ok.big.le; show X.A.units + 20 < cLine; omega) I3 e3.fh ha r5 en r3 ry hq rz hlen fun o' s4 I4 r4 => ?_
        exact ⟨σ, _, I4, hE σ _ F3 (((g.ext e1).ext e3).write ho k1 (Ens.cont r4 (en.put (keyAt_ok hq).1 r3 (Dr.mono r1 e3.f)))) (e1.f.trans e3.f)⟩
    · exact hE.elim
  · exact hE.elim
mutual
theorem snd_S (hX : SOk T n X) : ∀ (s : Stm) {st : Stmt}, chkS T X.N X.env.scope st s = true → PS X st (XS T n X H0 F0 s) := fun s st h => by
  unfold chkS at h
  split at h
  · rename_i tg e pos t ex
    split at h
    · rename_i hs
      rw [Bool.and_eq_true] at h
      refine PS.weak (asg_plain hX hs h.1 ((snd_E ex hX.ok h.2).v false) (snd_tg hX.ok.calm hX.ok.nd t (by rw [hX.fn]; exact h.1))) fun D σ H ⟨F, ρ, g, hE⟩ => ?_
      simp only [exS] at hE
      obtain ⟨d, hd, hE⟩ := hE.bind
      obtain ⟨ρ', ha, hE⟩ := hE.bind
      exact ⟨H0, F0, F, ρ, d, g, hd, fun v F1 H1 e1 r1 => ⟨H0, F0, F1, ρ, d, ρ', g.ext e1, .inl r1, ha, fun σ' g' _ _ => hE σ' H1 F1 g' e1.f⟩⟩
    · split at h
      · rename_i hs
        rw [Bool.and_eq_true] at h
        obtain ⟨y, py, elt, gs, scope, cpos, rfl, rfl, _⟩ := lc_shape hs
        cases t with
        | tup ts =>
          have := h.1
          simp [tgB] at this
        | name i => exact PS.weak (asg_lc hX hs h.1 h.2) asg_imp
      · split at h
        · rename_i x px y py kt pt a b k2 p2 i j ea eb _ _
          simp only [Bool.and_eq_true, decide_eq_true_eq] at h
          obtain ⟨⟨⟨⟨⟨⟨h1, h2⟩, h3⟩, h4⟩, h5⟩, h6⟩, h7⟩ := h
          have hw := sw_par hX.bk h4 h5 h1
          have hij : i ≠ j := by
            rintro rfl
            unfold parB at h1
            rw [h2] at h3
            cases h3
            simp at h1
          have hn : nst a = true ∧ nst b = true := by
            unfold parB at h1
            simp only [Bool.and_eq_true] at h1
            exact ⟨h1.1.1.1.2, h1.1.1.2⟩
          refine PS.weak (ps_par hX.ok.calm hX.ok.nd h2 h3 hij h4 h5 (snd_cons hn.1 ((snd_E ea hX.ok h6).v false) (snd_cons hn.2 ((snd_E eb hX.ok h7).v false) snd_nil)) hw) fun D σ H ⟨F, ρ, g, hE⟩ => ?_
          simp only [exS] at hE
          obtain ⟨d, hd, hE⟩ := hE.bind
          obtain ⟨ρ', ha, hE⟩ := hE.bind
          simp only [ev] at hd
          obtain ⟨ds, hds, hd⟩ := R.bind_eq hd
          obtain ⟨_, hd⟩ := R.guard_ok hd
          cases hd
          simp only [asgT] at ha
          refine ⟨H0, F0, F, ρ, ds, g, hds, fun vs F1 H1 e1 hl r => ?_⟩
          have hall : DrAllX X F1 vs ds := ⟨hl, r⟩
          have h2l := asgTs_len ha
          cases ds with
          | nil => cases h2l
          | cons d1 ds =>
            cases ds with
            | nil => cases h2l
            | cons d2 ds =>
              cases ds with
              | cons _ _ => cases h2l
              | nil =>
                obtain ⟨v, vr, rfl, q1, hall⟩ := hall.cons_inv
                obtain ⟨u, rfl, q2⟩ := hall.one
                refine ⟨v, u, rfl, ?_⟩
                simp only [asgTs, asgT, R.bind_ok] at ha
                cases ha
                exact hE _ H1 F1 (((g.ext e1).set q1).set q2) e1.f
        · cases h
  · rename_i tg e pos i ex
    simp only [Bool.and_eq_true] at h
    obtain ⟨⟨⟨hf, ht⟩, hs⟩, he⟩ := h
    rw [Bool.or_eq_true] at hs
    rcases hs with hs | hs
    · obtain ⟨x, p, rfl, hi, hx⟩ := tg_name ht
      exact PS.weak (asg_plain hX hs ht ((snd_E ex hX.ok he).nw hf) (pg_name hX.ok.nd hi hx (.inl (by rw [hX.fn])))) (own_imp hf)
    · exact PS.weak (asg_lc hX hs ht he) (own_imp hf)
  · rename_i x p k sp v pos i ke ve
    simp only [Bool.and_eq_true] at h
    exact snd_seti hX h.1.1 ((snd_E ke hX.ok h.1.2).v false) ((snd_E ve hX.ok h.2).v false)
  · rename_i x p name apos e cpos pos i ex
    simp only [Bool.and_eq_true, decide_eq_true_eq] at h
    obtain ⟨⟨⟨⟨rfl, h1⟩, h2⟩, h3⟩, h4⟩ := h
    unfold nmB noDbg at h1
    simp only [Bool.and_eq_true, decide_eq_true_eq, Bool.or_eq_true, Bool.not_eq_true'] at h1
    obtain ⟨⟨hi, hx⟩, hd1, hd2⟩ := h1
    refine PS.weak (ps_expr (pe_bm F.plainAttrs_list F.slot_list_append F.type_list_append mt_append (pe_var hi (vis_of hx) hd1 hd2) (pa_cons ((snd_E ex hX.ok h4).v false) pa_nil (star_nst h3)) (by rfl) ?_ h2 (star_nst h3) (by rfl)) (sw_no rfl)) fun D σ H ⟨F, ρ, g, hE⟩ => ?_
    · rw [star_nst h3]
      rfl
    · simp only [exS] at hE
      split at hE
      · rename_i xs ho
        obtain ⟨d, hd, hE⟩ := hE.bind
        obtain ⟨hz, hE⟩ := hE.guard
        obtain ⟨l, o, k1, k2, k3, k4, k5⟩ := g.own i _ ho
        cases k5 with
        | lst hl =>
          refine ⟨_, k1, .inl ⟨rfl, _, .inl (.inl k4)⟩, H0, F0, F, ρ, d, g, hd, fun v F1 H1 e1 r1 => ⟨l, _, v, rfl, rfl, e1.h _ _ k4, ?_, ?_⟩⟩
          · rw [hl.1]
            exact Nat.lt_of_lt_of_le (of_decide_eq_true hz) lim_size
          · exact hE _ _ F1 ((g.ext e1).write ho k1 (.lst ((hl.mono e1.f).append (.cons r1 .nil)))) e1.f
      · exact hE.elim
  · rename_i x p name apos e cpos pos i ex
    simp only [Bool.and_eq_true, decide_eq_true_eq] at h
    obtain ⟨⟨⟨⟨rfl, h1⟩, h2⟩, h3⟩, h4⟩ := h
    unfold nmB noDbg at h1
    simp only [Bool.and_eq_true, decide_eq_true_eq, Bool.or_eq_true, Bool.not_eq_true'] at h1
    obtain ⟨⟨hi, hx⟩, hd1, hd2⟩ := h1
    refine PS.weak (ps_expr (pe_bm F.plainAttrs_list F.slot_list_extend F.type_list_extend mt_extendA (pe_var hi (vis_of hx) hd1 hd2) (pa_cons ((snd_E ex hX.ok h4).v false) pa_nil (star_nst h3)) (by rfl) ?_ h2 (star_nst h3) (by rfl)) (sw_no rfl)) fun D σ H ⟨F, ρ, g, hE⟩ => ?_
    · rw [star_nst h3]
      rfl
    · simp only [exS] at hE
      split at hE
      · rename_i xs ho
        obtain ⟨d, hd, hE⟩ := hE.bind
        split at hE
        · rename_i ys
          obtain ⟨hz, hE⟩ := hE.guard
          obtain ⟨l, o, k1, k2, k3, k4, k5⟩ := g.own i _ ho
          cases k5 with
          | lst hl =>
            refine ⟨_, k1, .inl ⟨rfl, _, .inl (.inl k4)⟩, H0, F0, F, ρ, .list ys, g, hd, fun v F1 H1 e1 r1 => ?_⟩
            have r1 : Dr X.w X.K F1 v (.list ys) := r1
            cases r1 with
            | lst hb hbl hbi =>
              have hall : DrAllX X F1 _ ys := ⟨hbl, hbi⟩
              refine ⟨l, _, _, _, rfl, rfl, e1.h _ _ k4, .inl (e1.fh _ _ hb), ?_, ?_⟩
              · rw [hl.1, hbl]
                exact Nat.le_trans (of_decide_eq_true hz) lim_size
              · exact hE _ _ F1 ((g.ext e1).write ho k1 (.lst ((hl.mono e1.f).append hall))) e1.f
        · rename_i ys
          obtain ⟨hz, hE⟩ := hE.guard
          obtain ⟨l, o, k1, k2, k3, k4, k5⟩ := g.own i _ ho
          cases k5 with
          | lst hl =>
            refine ⟨_, k1, .inl ⟨rfl, _, .inl (.inl k4)⟩, H0, F0, F, ρ, .tuple ys, g, hd, fun v F1 H1 e1 r1 => ?_⟩
            have r1 : Dr X.w X.K F1 v (.tuple ys) := r1
            cases r1 with
            | tup hb hbl hbi =>
              have hall : DrAllX X F1 _ ys := ⟨hbl, hbi⟩
              refine ⟨l, _, _, _, rfl, rfl, e1.h _ _ k4, .inr (Same.sqT e1.fh hb.sq), ?_, ?_⟩
              · rw [hl.1, hbl]
                exact Nat.le_trans (of_decide_eq_true hz) lim_size
              · exact hE _ _ F1 ((g.ext e1).write ho k1 (.lst ((hl.mono e1.f).append hall))) e1.f
        · exact hE.elim
      · exact hE.elim
  · rename_i tg x p name apos args cpos pos t i arg
    simp only [Bool.and_eq_true, decide_eq_true_eq] at h
    obtain ⟨⟨⟨⟨rfl, h1⟩, h2⟩, h3⟩, h4⟩ := h
    unfold nmB noDbg at h1
    simp only [Bool.and_eq_true, decide_eq_true_eq, Bool.or_eq_true, Bool.not_eq_true'] at h1
    obtain ⟨⟨hi, hx⟩, hd1, hd2⟩ := h1
    have htg := snd_tg (X := X) hX.ok.calm hX.ok.nd t (by rw [hX.fn]; exact h3)
    split at h4
    · refine PS.weak (asg_plain hX (by simp [plainA, noLC, noTup]) h3 (pe_bm0 F.plainAttrs_list F.slot_list_pop F.type_list_pop mt_pop (pe_var hi (vis_of hx) hd1 hd2) (by rfl) h2) htg) fun D σ H ⟨F, ρ, g, hE⟩ => ?_
      simp only [exS] at hE
      split at hE
      · rename_i xs ho
        split at hE
        · rename_i d hlast
          obtain ⟨ρ', ha, hE⟩ := hE.bind
          obtain ⟨l, o, k1, k2, k3, k4, k5⟩ := g.own i _ ho
          cases k5 with
          | lst hl =>
            rename_i vs
            rw [List.getLast?_eq_getElem?, ← hl.1] at hlast
            obtain ⟨y, hy, ry⟩ := hl.get hlast
            refine ⟨_, k1, .inl ⟨rfl, _, .inl (.inl k4)⟩, l, _, y, rfl, rfl, k4, hy, ?_⟩
            have hdl : DrAllX X F vs.dropLast xs.dropLast := by
              rw [List.dropLast_eq_take, List.dropLast_eq_take, hl.1]
              exact hl.take _
            exact ⟨H0, F0, F, _, d, ρ', g.write ho k1 (.lst hdl), .inl ry, ha, fun σ' g' _ _ => hE σ' _ F g' (Same.refl F)⟩
        · exact hE.elim
      · exact hE.elim
    · rename_i e j
      simp only [Bool.and_eq_true, decide_eq_true_eq] at h4
      obtain ⟨⟨rfl, h5⟩, h6⟩ := h4
      refine PS.weak (asg_plain hX (by simp [plainA, noLC, noTup]) h3 (pe_bm F.plainAttrs_list F.slot_list_pop F.type_list_pop mt_popAt (pe_var hi (vis_of hx) hd1 hd2) (pa_cons ((snd_E (.cst (.int 0)) hX.ok h6).v false) pa_nil (star_nst h5)) (by rfl) ?_ h2 (star_nst h5) (by rfl)) htg) fun D σ H ⟨F, ρ, g, hE⟩ => ?_
      · rw [star_nst h5]
        rfl
      · simp only [exS] at hE
        split at hE
        · rename_i xs ho
          obtain ⟨_, hE⟩ := hE.guard
          split at hE
          · rename_i d r _
            obtain ⟨ρ', ha, hE⟩ := hE.bind
            obtain ⟨l, o, k1, k2, k3, k4, k5⟩ := g.own i _ ho
            cases k5 with
            | lst hl =>
              obtain ⟨y, vr, rfl, q1, q2⟩ := hl.cons_inv
              refine ⟨_, k1, .inl ⟨rfl, _, .inl (.inl k4)⟩, H0, F0, F, ρ, .int 0, g, by simp only [ev], fun v F1 H1 e1 r1 => ?_⟩
              have r1 : Dr X.w X.K F1 v (.int 0) := r1
              cases r1
              refine ⟨l, _, 0, 0, y, rfl, rfl, e1.h _ _ k4, by decide, by decide, ?_, rfl, ?_⟩
              · simp [seqIndex?]
              · exact ⟨H0, F0, F1, _, d, ρ', (g.ext e1).write ho k1 (.lst (q2.mono e1.f)), .inl (q1.mono e1.f), ha, fun σ' g' _ _ => hE σ' _ F1 g' e1.f⟩
          · exact hE.elim
        · exact hE.elim
    · cases h4
  · rename_i c a b pos c' a' b'
    simp only [Bool.and_eq_true] at h
    obtain ⟨⟨⟨h1, h2⟩, h3⟩, h4⟩ := h
    refine PS.weak (ps_if ((snd_E c' hX.ok h2).t h1) (snd_Ss hX a' h3) (snd_Ss hX b' h4)) fun D σ H ⟨F, ρ, g, hE⟩ => ?_
    simp only [exS] at hE
    obtain ⟨x, hx, hE⟩ := hE.bind
    obtain ⟨r, hr, hE⟩ := hE.bind
    rw [asB_ok hr] at hx
    refine ⟨H0, F0, F, ρ, r, g, hx, fun F1 H1 e1 => ?_⟩
    cases r with
    | true => exact iteT ⟨F1, ρ, g.ext e1, hE.mono e1.f⟩
    | false => exact iteF ⟨F1, ρ, g.ext e1, hE.mono e1.f⟩
  · rename_i c body pos c' body' w
    simp only [Bool.and_eq_true] at h
    obtain ⟨⟨h1, h2⟩, h3⟩ := h
    refine PS.weak (ps_while hX.px ((snd_E c' hX.ok h2).t h1) (snd_Ss hX body' h3)) fun D σ H ⟨F, ρ, g, hE⟩ => ?_
    simp only [exS] at hE
    refine ⟨fun m σ H => ∃ F ρ, Good X.prog X.w X.K H0 F0 σ H F ρ ∧ EndS X.prog X.w X.K H0 F0 F D (whlF (fun ρ => (ev (evFn T.P T.wf n) ρ true c').bind asB) (fun ρ => exs (evFn T.P T.wf n) T.wf ρ body') w m ρ), ⟨T.wf, F, ρ, g, hE⟩, ?_⟩
    rintro m σ1 H1 ⟨F1, ρ1, g1, hE1⟩
    cases m with
    | zero => exact hE1.elim
    | succ m =>
      rw [whlF] at hE1
      obtain ⟨b, hb, hE1⟩ := hE1.bind
      obtain ⟨x, hx, hb⟩ := R.bind_eq hb
      rw [asB_ok hb] at hx
      refine ⟨H0, F0, F1, ρ1, b, g1, hx, fun F2 H2 e2 => ?_⟩
      cases b with
      | false => exact iteF (hE1 σ1 H2 F2 (g1.ext e2) e2.f)
      | true =>
        obtain ⟨f, hf, hE1⟩ := hE1.bind
        refine iteT ⟨_, fun σ' H' hN => ⟨m, Nat.lt_succ_self m, hN⟩, F2, ρ1, g1.ext e2, ?_⟩
        rw [hf]
        cases f with
        | nx ρ2 => exact fun σ' H' F' g' s => ⟨F', _, g'.wip w, hE1.mono (e2.f.trans s)⟩
        | cn ρ2 => exact fun σ' H' F' g' s => ⟨F', _, g'.wip w, hE1.mono (e2.f.trans s)⟩
        | br ρ2 => exact fun σ' H' F' g' s => hE1 σ' H' F' (g'.wip w) (e2.f.trans s)
        | rt d => exact hE1
  · rename_i tg iter body pos t k its body' w
    simp only [Bool.and_eq_true] at h
    obtain ⟨⟨h1, h2⟩, h3⟩ := h
    obtain ⟨i1, i2⟩ := snd_I k its (m := false) hX.ok h2
    refine PS.weak (ps_for hX.px hX.ok.calm i2 (snd_tg hX.ok.calm hX.ok.nd t (by rw [hX.fn]; exact h1)) (snd_Ss hX body' h3) i1) fun D σ H ⟨F, ρ, g, hE⟩ => ?_
    simp only [exS] at hE
    obtain ⟨ds, hds, hE⟩ := hE.bind
    obtain ⟨xs, hxs, hE⟩ := hE.bind
    refine ⟨H0, F0, F, ρ, ds, xs, g, hds, hxs, fun J F1 H1 e1 hz hw => ?_⟩
    refine ⟨fun i m σ H => m = xs.length - i ∧ i ≤ xs.length ∧ ∃ F' ρ', Good X.prog X.w X.K H0 F0 σ H F' ρ' ∧ Same F1 F' ∧ EndS X.prog X.w X.K H0 F0 F' D (forF (fun x ρ => (asgT ρ t x).bind fun ρ' => exs (evFn T.P T.wf n) T.wf ρ' body') w (xs.drop i) ρ'),
      ⟨xs.length, rfl, Nat.zero_le _, F1, ρ, g.ext e1, Same.refl F1, hE.mono e1.f⟩, ?_⟩
    rintro i m σ2 H2 ⟨rfl, hi, F2, ρ2, g2, s2, hE2⟩
    obtain ⟨w1, w2⟩ := hw H2 F2 s2 g2.fh (s2.trans g2.fh)
    by_cases hlt : i < xs.length
    · right
      obtain ⟨hgo, hyl⟩ := w2 i xs[i] (List.getElem?_eq_getElem hlt)
      rw [forF_drop hlt] at hE2
      obtain ⟨f, hf, hE2⟩ := hE2.bind
      obtain ⟨ρ3, ha, hf⟩ := R.bind_eq hf
      refine ⟨hgo, _, fun σ' H' hN => ⟨xs.length - (i + 1), by omega, hN⟩, fun x H3 hx => ?_⟩
      obtain ⟨F3, e3, hx⟩ := hyl x H3 hx
      refine ⟨H0, F0, F3, ρ2, xs[i], ρ3, g2.ext e3, hx.weak (pairs_isT h1 h2), ha, fun σ3 g3 _ _ => ⟨F3, ρ3, g3, ?_⟩⟩
      rw [hf]
      cases f with
      | nx ρ4 => exact fun σ' H' F' g' s => ⟨rfl, hlt, F', _, g'.wip w, (s2.trans e3.f).trans s, hE2.mono (e3.f.trans s)⟩
      | cn ρ4 => exact fun σ' H' F' g' s => ⟨rfl, hlt, F', _, g'.wip w, (s2.trans e3.f).trans s, hE2.mono (e3.f.trans s)⟩
      | br ρ4 => exact fun σ' H' F' g' s => hE2 σ' H' F' (g'.wip w) (e3.f.trans s)
      | rt d => exact hE2
    · left
      have hie : i = xs.length := by omega
      subst hie
      rw [List.drop_length] at hE2
      exact ⟨w1, hE2 σ2 H2 F2 g2 (Same.refl F2)⟩
  · rename_i e pos ex
    refine PS.weak (ps_ret ((snd_E ex hX.ok h).v false)) fun D σ H ⟨F, ρ, g, hE⟩ => ?_
    simp only [exS] at hE
    obtain ⟨d, hd, hE⟩ := hE.bind
    exact ⟨H0, F0, F, ρ, d, g, hd, fun v F1 H1 e1 r1 => hE v H1 F1 (g.out e1) r1⟩
  · exact PS.weak ps_pass fun D σ H ⟨F, ρ, g, hE⟩ => hE σ H F g (Same.refl F)
  · exact PS.weak ps_break fun D σ H ⟨F, ρ, g, hE⟩ => hE σ H F g (Same.refl F)
  · exact PS.weak ps_continue fun D σ H ⟨F, ρ, g, hE⟩ => hE σ H F g (Same.refl F)
  · cases h
theorem snd_Ss (hX : SOk T n X) : ∀ (ss : List Stm) {l : List Stmt}, chkSs T X.N X.env.scope l ss = true → PSs X l (XSs T n X H0 F0 ss) := fun ss l h => by
  unfold chkSs at h
  split at h
  · refine PSs.weak pss_nil fun D σ H ⟨F, ρ, g, hE⟩ => ?_
    rw [exs] at hE
    exact hE σ H F g (Same.refl F)
  · rename_i i r
    refine PSs.weak (snd_Ss hX r h) fun D σ H ⟨F, ρ, g, hE⟩ => ?_
    rw [exs] at hE
    obtain ⟨f, hf, hE⟩ := hE.bind
    rw [exS] at hf
    split at hf
    · rename_i d hi
      cases hf
      obtain ⟨F', s, g'⟩ := g.freeze hi
      exact ⟨F', _, g', hE.mono s⟩
    · cases hf
      exact ⟨F, ρ, g, hE⟩
  · rename_i is r
    refine PSs.weak (snd_Ss hX r h) fun D σ H ⟨F, ρ, g, hE⟩ => ?_
    rw [exs] at hE
    obtain ⟨f, hf, hE⟩ := hE.bind
    rw [exS] at hf
    cases hf
    exact ⟨F, _, g.wip is, hE⟩
  · rename_i s l t r _ _
    rw [Bool.and_eq_true] at h
    refine PSs.weak (pss_cons (snd_S hX t h.1) (snd_Ss hX r h.2)) fun D σ H ⟨F, ρ, g, hE⟩ => ?_
    rw [exs] at hE
    obtain ⟨f, hf, hE⟩ := hE.bind
    refine ⟨F, ρ, g, ?_⟩
    rw [hf]
    cases f with
    | nx ρ' => exact fun σ' H' F' g' s => ⟨F', ρ', g', hE.mono s⟩
    | br ρ' => exact hE
    | cn ρ' => exact hE
    | rt d => exact hE
  · cases h
end
end
end KD
/-! KdFn: defs, and a law's end. -/
namespace KD
open PySem PySem.Spec
open PyProof.Rows L2
/-- a tuple of the module -/
theorem dr_tupK {w : World} {K : PySem.W.Frag} {a : Addr} {its : Array Value} {n : Nat} {sl : Array (Option Value)} {vs : List V} {ds : List D} (l : K.lookup a = some ⟨.type "tuple", none, .seq its n, sl⟩) (hs : its.size ≤ sizeLine) (r : Vals vs its.toList) (h : DrAll w K (fun _ => none) vs ds) : Dr w K (fun _ => none) (.ref a) (.tuple ds) :=
  .tup (.inr ⟨_, its, n, l, rfl, rfl, rfl, hs, r⟩) h.1 h.2
/-- a def of the text that stands behind the top -/
structure DefK (K : PySem.W.Frag) (mg : Str → Option Value) (x : Str) (st : Stmt) (ps : List Str) : Prop where
  ex : ∃ (f : Addr) (fd : FuncData), Fun K x x st f fd ∧ mg x = some (.ref f) ∧ ∀ us : List Value, us.length = ps.length → bindArgs fd ⟨us, []⟩ = pure (ps.zip us)
theorem defK_mk {K : PySem.W.Frag} {h : Heap} {mg : Str → Option Value} {x : Str} {st : Stmt} {ps : List Str} {f : Addr} {oc : Value} {od an : Option Addr} {osl : Array (Option Value)} {kV doc pm cdv ct : Value} (X : K.In h) (G : h.Ns mainGlobals mg)
    (a : PySem.W.nsIn K mainGlobals x = some (some (.ref f))) (l : K.lookup f = some ⟨oc, od, .func (PySem.W.fnOf x x (defArgs st) (defBody st) (defScope st) .none kV doc pm an cdv ct), osl⟩)
    (c : PySem.W.codeIn K cdv x = true) (k : PySem.W.keepIn K (.ref f) = true)
    (b : ∀ us : List Value, us.length = ps.length → bindArgs (PySem.W.fnOf x x (defArgs st) (defBody st) (defScope st) .none kV doc pm an cdv ct) ⟨us, []⟩ = pure (ps.zip us)) : DefK K mg x st ps :=
  ⟨f, _, fun_mk l c k, PySem.W.mg_of X G a, b⟩
/-- what a def's look tells -/
structure FnChk (T : Tb) (f : Nat) (st : Stmt) (ps : List Str) (fn : Fn) : Prop where
  p : T.P f = some fn
  np : ps.length = fn.np
  ex : ∃ N, FnScope N ps (defScope st) ∧ N.length = fn.nl ∧ chkSs T N (defScope st) (defBody st) fn.body = true
/-- the look itself -/
def fnB (T : Tb) (st : Stmt) (ps N : List Str) (fn : Fn) : Bool :=
  decide (ps.length = fn.np) && decide (N.length = fn.nl) && scW N ps (defScope st) && chkSs T N (defScope st) (defBody st) fn.body
where scW (N P : List Str) (sc : Scope) : Bool :=
  (match sc.kind with | .function => true | _ => false) && !sc.isCoroutine && !sc.isGenerator && decide N.Nodup && decide (N.take P.length = P) && P.all (fun x => decide (sc.names.lookup x = some .local) || decide (sc.names.lookup x = some .cell)) && sc.names.all (fun y => !decide (y.2 = .free))
theorem fnB_ok {T : Tb} {f : Nat} {st : Stmt} {ps N : List Str} {fn : Fn} (hp : T.P f = some fn) (h : fnB T st ps N fn = true) : FnChk T f st ps fn := by
  unfold fnB fnB.scW at h
  simp only [Bool.and_eq_true, decide_eq_true_eq, Bool.not_eq_true', List.all_eq_true, Bool.or_eq_true, decide_eq_false_iff_not] at h
  obtain ⟨⟨⟨h1, h2⟩, h3⟩, h4⟩ := h
  obtain ⟨⟨⟨⟨⟨⟨k1, k2⟩, k3⟩, k4⟩, k5⟩, k6⟩, k7⟩ := h3
  refine ⟨hp, h1, N, ⟨?_, k2, k3, k4, k5, k6, k7⟩, h2, h4⟩
  split at k1
  · assumption
  · cases k1
section
variable {P : Program} {w : World} {K : PySem.W.Frag} {mg : Str → Option Value} {base : Heap} {T : Tb}
theorem sp_len {n f : Nat} {fn : Fn} (hp : T.P f = some fn) : ∀ vs H Q E, spF w K (evFn T.P T.wf) n f vs H Q E → vs.length = fn.np := by
  rintro vs H Q E ⟨F, ds, d, e, hd, h, q⟩
  cases n with
  | zero => cases h
  | succ n =>
    rw [evFn, hp] at h
    obtain ⟨hl, _⟩ := R.guard_ok h
    rw [hd.1]
    exact of_decide_eq_true hl
theorem start_good {H F : Hp} {N : List Str} {vs : List V} {ds : List D} {fn : Fn} (e : Same F H) (hd : DrAll w K F vs ds) (hl : ds.length = fn.np) (hN : N.length = fn.nl) :
    Good P w K H F (L2.start N vs) H F (ds.map (fun d => some (Sl.val d)) ++ List.replicate (fn.nl - fn.np) none) := by
  have hv : vs.length = ds.length := hd.1
  have own_no : ∀ (i : Nat) (d : D), (ds.map (fun d => some (Sl.val d)) ++ List.replicate (fn.nl - fn.np) none)[i]? ≠ some (some (.own d)) := fun i d h => by
    by_cases hi : i < ds.length
    · rw [List.getElem?_append_left (by simpa using hi), List.getElem?_map] at h
      cases q : ds[i]? with
      | none => rw [q] at h; cases h
      | some y => rw [q] at h; cases h
    · rw [List.getElem?_append_right (by simpa using hi)] at h
      rw [List.getElem?_replicate] at h
      split at h <;> cases h
  refine ⟨e, Same.refl H, Same.refl F, fun _ _ => rfl, ?_, fun i d h => ?_, fun i d h => absurd h (own_no i d), fun i j d e l h => absurd h (own_no i d)⟩
  · unfold L2.start
    simp [hv, hl, hN]
  · by_cases hi : i < ds.length
    · rw [List.getElem?_append_left (by simpa using hi), List.getElem?_map] at h
      cases q : ds[i]? with
      | none => rw [q] at h; cases h
      | some y =>
        rw [q] at h
        cases h
        obtain ⟨v, h1, h2⟩ := hd.get q
        refine ⟨v, ?_, h2⟩
        unfold L2.start
        rw [List.getElem?_append_left (by rw [List.length_map, hv]; exact hi), List.getElem?_map, h1]
        rfl
    · rw [List.getElem?_append_right (by simpa using hi)] at h
      rw [List.getElem?_replicate] at h
      split at h <;> cases h
def LooksAt (K : PySem.W.Frag) (a : Addr) (fd : FuncData) : Prop := ∃ oc od osl, K.lookup a = some ⟨oc, od, .func fd, osl⟩
theorem looks_fun {x q : Str} {st : Stmt} {a : Addr} {fd : FuncData} (F : Fun K x q st a fd) : LooksAt K a fd := by
  obtain ⟨oc, od, kV, doc, pm, an, cdv, ct, osl, rfl, l, c⟩ := F.ex
  exact ⟨_, _, _, l⟩
theorem looks_eq {a : Addr} {fd fd' : FuncData} (h : LooksAt K a fd) (h' : LooksAt K a fd') : fd = fd' := by
  obtain ⟨_, _, _, h⟩ := h
  obtain ⟨_, _, _, h'⟩ := h'
  rw [h] at h'
  cases h'
  rfl
/-- every def keeps what the evaluator tells -/
theorem fns_ok {pp : Nat → List Str} (hD : ∀ f x, T.nm f = some x → ∃ st fn, DefK K mg x st (pp f) ∧ FnChk T f st (pp f) fn) (hb : ∀ x ∈ bltNames, mg x = none)
    (hc : ∀ p ∈ T.cs, ∃ v u, mg p.1 = some u ∧ RelV v u ∧ Dr w K (fun _ => none) v p.2) : ∀ (n f : Nat) (x : Str), T.nm f = some x →
    ∃ fn a fd, T.P f = some fn ∧ (pp f).length = fn.np ∧ mg x = some (.ref a) ∧ PySem.W.keepIn K (.ref a) = true ∧ (∀ us : List Value, us.length = (pp f).length → bindArgs fd ⟨us, []⟩ = pure ((pp f).zip us)) ∧ LooksAt K a fd ∧ FnOk P w K mg base CX0 n a fd (pp f) (spF w K (evFn T.P T.wf) n f) := by
  intro n
  induction n with
  | zero =>
    intro f x hx
    obtain ⟨st, fn, ⟨a, fd, F, hm, b⟩, C⟩ := hD f x hx
    refine ⟨fn, a, fd, C.p, C.np, hm, F.kp, b, looks_fun F, fun vs H Q E h => by rw [sp_len C.p vs H Q E h, C.np], fun A outer s H args us vs Q E _ _ _ _ h => ?_⟩
    obtain ⟨_, _, _, _, _, h, _⟩ := h
    cases h
  | succ n ih =>
    intro f x hx
    obtain ⟨st, fn, ⟨a, fd, F, hm, b⟩, C⟩ := hD f x hx
    obtain ⟨N, S, hN, hk⟩ := C.ex
    refine ⟨fn, a, fd, C.p, C.np, hm, F.kp, b, looks_fun F, F.ok S (fun vs H Q E h => by rw [sp_len C.p vs H Q E h, C.np]) fun cdv A outer s H vs Q E hr h => ?_⟩
    obtain ⟨F1, ds, d, e, hd, hev, q⟩ := h
    rw [evFn, C.p] at hev
    obtain ⟨hl, hev⟩ := R.guard_ok hev
    obtain ⟨fl, hfl, hev⟩ := R.bind_eq hev
    have hl := of_decide_eq_true hl
    have g := start_good (P := P) (H := H) (N := N) e hd hl hN
    have hX : SOk T n (cxOf CX0 P w K mg base N x (defScope st) a cdv A outer s H E).nox := ⟨⟨rfl, hr, S.nd, hb, hc, fun g y hy => by
      obtain ⟨fn', a', fd', i1, i2, i3, i4, i5, _, i6⟩ := ih g y hy
      exact ⟨fn', a', fd', pp g, i1, i2, i3, i4, .all i5, i6⟩⟩, PassesOwn.never, rfl, by
      unfold PySem.Env.blockKind
      rw [show (cxOf CX0 P w K mg base N x (defScope st) a cdv A outer s H E).nox.env.scope.kind = .function from S.kind]
      rfl⟩
    refine ⟨_, snd_Ss (H0 := H) (F0 := F1) hX fn.body hk, F1, _, g, ?_⟩
    rw [hfl]
    cases fl with
    | rt d' =>
      have hev : R.ok d' = R.ok d := hev
      cases hev
      exact fun v H' F' e' r' => q v F' H' e' r'
    | nx ρ' =>
      have hev : (R.ok .none : R D) = R.ok d := hev
      cases hev
      exact fun σ' H' F' g' _ => q .non F' H' ⟨g'.ff, g'.h0, g'.fh, g'.f0⟩ .non
    | br _ => cases hev
    | cn _ => cases hev
/-- the law's promise -/
def spLaw (K : PySem.W.Frag) : Sp := fun vs H Q _ => ∃ (a : Addr) (ns : List Int), vs = [.ref a] ∧ SqL K H a (ns.map V.int) ∧ ns.length ≤ 63 ∧ ∀ H', Q (.bl true) H'
theorem law_ok {n f : Nat} (hlaw : ∀ ns : List Int, ns.length ≤ 63 → evFn T.P T.wf n f [scr (ns.map .int)] = .ok (.bool true)) {a : Addr} {fd : FuncData} {ps : List Str} (h : FnOk P w K mg base CX0 n a fd ps (spF w K (evFn T.P T.wf) n f)) : FnOk P w K mg base CX0 n a fd ps (spLaw K) :=
  h.imp fun vs H Q E ⟨b, ns, ev, hS, hl, q⟩ => by
    subst ev
    refine ⟨H, [scr (ns.map .int)], .bool true, Same.refl H, .cons (.scr hS) .nil, hlaw ns hl, fun v F' H' _ r => ?_⟩
    cases r
    exact q H'
end
/-- all there is behind the top -/
theorem law_end {w : World} {K : PySem.W.Frag} {mg : Str → Option Value} {fa : Addr} {T : Tb} {pp : Nat → List Str} {n f : Nat} {x y : Str} (hfa : mg x = some (.ref fa)) (hx : T.nm f = some x) (hy : pp f = [y])
    (hD : ∀ f x, T.nm f = some x → ∃ st fn, DefK K mg x st (pp f) ∧ FnChk T f st (pp f) fn) (hb : ∀ x ∈ bltNames, mg x = none)
    (hc : ∀ p ∈ T.cs, ∃ v u, mg p.1 = some u ∧ RelV v u ∧ Dr w K (fun _ => none) v p.2)
    (hlaw : ∀ ns : List Int, ns.length ≤ 63 → evFn T.P T.wf n f [scr (ns.map .int)] = .ok (.bool true)) :
    ∃ fd : FuncData, (∀ (s : Shared) (v : Value), BindsTo s fd ⟨[v], []⟩ [(y, v)]) ∧ ∀ base : Heap, K.In base → base.Ns mainGlobals mg → FnOk P w K mg base CX0 n fa fd [y] (spLaw K) := by
  obtain ⟨st, fn, ⟨a, fd, F, hm, b⟩, C⟩ := hD f x hx
  refine ⟨fd, fun s v => .of_eq (by rw [b [v] (by rw [hy]; rfl), hy]; rfl), fun base _ _ => ?_⟩
  obtain ⟨fn', a', fd', i1, i2, i3, i4, i5, i6, i7⟩ := fns_ok (P := P) (w := w) (base := base) hD hb hc n f x hx
  rw [hm] at i3
  cases i3
  rw [hm] at hfa
  cases hfa
  rw [looks_eq (looks_fun F) i6]
  have := law_ok hlaw i7
  rw [hy] at this
  exact this
end KD
/-! KdProg: the defs, as gen.py prints them. -/
namespace KD
open PySem
def sx (l : List Nat) : Str := ⟨l.toArray⟩
def st (l : List Nat) : D := .str (sx l)
abbrev yes : Ex := .cst (.bool true)
def f0_is_key : Fn := { np := 1, nl := 3, body := [.iff (.bnot (.blt .isStr [(.var 0)])) [.ret (.cst (.bool false))] [], .asg (.name 1) (.var 0), .wip [2], .for_ (.name 2) .seq [(.glob "HELPERS" (.tuple [(st [99, 45]), (st [109, 45]), (st [115, 45])]))] [.iff (.mth .startswith (.var 1) [(.var 2)]) [.asg (.name 1) (.slc (.var 1) (.cst (.int 2)) (.cst .none))] []] [2], .iff (.cmp .isin (.var 1) (.glob "WORDS" (.tuple [(st [101, 110, 116, 101, 114]), (st [101, 115, 99]), (st [116, 97, 98]), (st [117, 112]), (st [100, 111, 119, 110])]))) [.ret (.cst (.bool true))] [], .ret (.band (.cmp .eq (.blt .len [(.var 1)]) (.cst (.int 1))) (.cmp .isin (.var 1) (.bin .add (.glob "LETTERS" (st [97, 98, 99, 100, 101, 102, 103, 104, 105, 106, 107, 108, 109, 110, 111, 112, 113, 114, 115, 116, 117, 118, 119, 120, 121, 122])) (.glob "FIGURES" (st [48, 49, 50, 51, 52, 53, 54, 55, 56, 57])))))] }
def f1_l_cell_at : Fn := { np := 2, nl := 2, body := [.iff (.cmp .lt (.var 1) (.blt .len [(.var 0)])) [.ret (.ix (.var 0) (.var 1))] [], .ret (.cst (.int 0))] }
def f2_l_mixed : Fn := { np := 2, nl := 3, body := [.asg (.name 2) (.bin .mod (.bin .mul (.bin .add (.bin .add (.call 1 [(.var 0), (.var 1)]) (.bin .mul (.cst (.int 7919)) (.var 1))) (.cst (.int 1))) (.cst (.int 48271))) (.cst (.int 2147483647))), .ret (.bin .mod (.bin .add (.bin .add (.bin .mul (.var 2) (.var 2)) (.bin .mul (.cst (.int 7)) (.var 2))) (.var 1)) (.cst (.int 2147483629)))] }
def f3_l_drawn : Fn := { np := 2, nl := 3, body := [.asg (.name 2) (.bin .mod (.bin .mul (.bin .add (.bin .add (.var 0) (.bin .mul (.cst (.int 104729)) (.var 1))) (.cst (.int 17))) (.cst (.int 69621))) (.cst (.int 2147483647))), .ret (.bin .mod (.bin .add (.bin .add (.bin .mul (.var 2) (.var 2)) (.bin .mul (.cst (.int 3)) (.var 2))) (.var 1)) (.cst (.int 2147483629)))] }
def f4_l_is_name : Fn := { np := 1, nl := 2, body := [.iff (.bor (.bnot (.blt .isStr [(.var 0)])) (.bnot (.chain .le .le (.cst (.int 1)) (.blt .len [(.var 0)]) (.cst (.int 6))))) [.ret (.cst (.bool false))] [], .ret (.cmp .eq (.comp (.var 1) (.name 1) .seq [(.var 0)] (.bnot (.chain .le .le (.cst (st [97])) (.var 1) (.cst (st [122]))))) (.lst []))] }
def f5_l_is_key : Fn := { np := 1, nl := 5, body := [.iff (.bnot (.blt .isStr [(.var 0)])) [.ret (.cst (.bool false))] [], .asg (.name 1) (.mth .split (.var 0) [(.cst (st [45]))]), .asg (.name 2) (.comp (.var 4) (.name 4) .seq [(.tup [(.cst (st [99])), (.cst (st [109])), (.cst (st [115]))])] (.cmp .isin (.var 4) (.slc (.var 1) (.cst .none) (.neg (.cst (.int 1)))))), .iff (.cmp .ne (.var 2) (.slc (.var 1) (.cst .none) (.neg (.cst (.int 1))))) [.ret (.cst (.bool false))] [], .asg (.name 3) (.ix (.var 1) (.neg (.cst (.int 1)))), .iff (.cmp .isin (.var 3) (.tup [(.cst (st [101, 110, 116, 101, 114])), (.cst (st [101, 115, 99])), (.cst (st [116, 97, 98])), (.cst (st [117, 112])), (.cst (st [100, 111, 119, 110]))])) [.ret (.cst (.bool true))] [], .ret (.band (.cmp .eq (.blt .len [(.var 3)]) (.cst (.int 1))) (.bor (.chain .le .le (.cst (st [97])) (.var 3) (.cst (st [122]))) (.chain .le .le (.cst (st [48])) (.var 3) (.cst (st [57])))))] }
def f6_l_are_pairs : Fn := { np := 2, nl := 3, body := [.iff (.bor (.bnot (.blt .isTuple [(.var 0)])) (.cmp .gt (.blt .len [(.var 0)]) (.var 1))) [.ret (.cst (.bool false))] [], .wip [2], .for_ (.name 2) .seq [(.var 0)] [.iff (.bor (.bnot (.blt .isTuple [(.var 2)])) (.bor (.cmp .ne (.blt .len [(.var 2)]) (.cst (.int 2))) (.bnot (.call 4 [(.ix (.var 2) (.cst (.int 0)))])))) [.ret (.cst (.bool false))] []] [2], .ret (.cst (.bool true))] }
def f7_l_is_house : Fn := { np := 1, nl := 6, body := [.iff (.bor (.bnot (.blt .isTuple [(.var 0)])) (.bor (.cmp .ne (.blt .len [(.var 0)]) (.cst (.int 2))) (.cmp .eq (.ix (.var 0) (.cst (.int 0))) (.tup [])))) [.ret (.cst (.bool false))] [], .iff (.bor (.bnot (.call 6 [(.ix (.var 0) (.cst (.int 0))), (.cst (.int 6))])) (.bnot (.call 6 [(.ix (.var 0) (.cst (.int 1))), (.cst (.int 4))]))) [.ret (.cst (.bool false))] [], .own 1 (.lst []), .wip [3, 4], .for_ (.tup [(.name 3), (.name 4)]) .seq [(.ix (.var 0) (.cst (.int 0)))] [.iff (.bor (.cmp .isin (.var 3) (.var 1)) (.band (.cmp .isnot (.var 4) (.cst .none)) (.bor (.bnot (.call 4 [(.var 4)])) (.cmp .notin (.var 4) (.var 1))))) [.ret (.cst (.bool false))] [], .app 1 (.var 3)] [3, 4], .wip [3, 5], .for_ (.tup [(.name 5), (.name 3)]) .seq [(.ix (.var 0) (.cst (.int 1)))] [.iff (.bor (.bnot (.call 4 [(.var 3)])) (.cmp .notin (.var 3) (.var 1))) [.ret (.cst (.bool false))] []] [3, 5], .asg (.name 2) (.comp (.var 5) (.tup [(.name 5), (.name 3)]) .seq [(.ix (.var 0) (.cst (.int 1)))] yes), .ret (.cmp .eq (.var 2) (.blt .sortedSet [(.var 2)]))] }
def f8_l_is_map : Fn := { np := 2, nl := 7, body := [.iff (.bor (.bnot (.blt .isTuple [(.var 1)])) (.cmp .gt (.blt .len [(.var 1)]) (.cst (.int 12)))) [.ret (.cst (.bool false))] [], .asg (.name 2) (.comp (.var 4) (.tup [(.name 4), (.name 5)]) .seq [(.ix (.var 0) (.cst (.int 0)))] yes), .wip [3, 6], .for_ (.name 3) .seq [(.var 1)] [.iff (.bor (.bnot (.blt .isTuple [(.var 3)])) (.bor (.cmp .ne (.blt .len [(.var 3)]) (.cst (.int 3))) (.bor (.bnot (.call 4 [(.ix (.var 3) (.cst (.int 0)))])) (.cmp .notin (.ix (.var 3) (.cst (.int 0))) (.var 2))))) [.ret (.cst (.bool false))] [], .iff (.bor (.bnot (.blt .isTuple [(.ix (.var 3) (.cst (.int 1)))])) (.bnot (.chain .le .le (.cst (.int 1)) (.blt .len [(.ix (.var 3) (.cst (.int 1)))]) (.cst (.int 3))))) [.ret (.cst (.bool false))] [], .iff (.cmp .ne (.comp (.var 6) (.name 6) .seq [(.ix (.var 3) (.cst (.int 1)))] (.bnot (.call 5 [(.var 6)]))) (.lst [])) [.ret (.cst (.bool false))] [], .iff (.band (.cmp .isnot (.ix (.var 3) (.cst (.int 2))) (.cst .none)) (.bnot (.call 4 [(.ix (.var 3) (.cst (.int 2)))]))) [.ret (.cst (.bool false))] []] [3, 6], .ret (.cmp .eq (.blt .lenSet [(.comp (.slc (.var 3) (.cst .none) (.cst (.int 2))) (.name 3) .seq [(.var 1)] yes)]) (.blt .len [(.var 1)]))] }
def f9_l_odd : Fn := { np := 1, nl := 2, body := [.asg (.name 1) (.lst [(.neg (.cst (.int 1))), (.cst (.int 0)), (.cst (.int 1)), (.cst (.bool true)), (.cst .none), (.cst (st [])), (.cst (st [97])), (.cst (st [97, 108, 108])), (.cst (st [116, 101, 120, 116])), (.cst (st [110, 111, 110, 101])), (.cst (st [99, 45, 97])), (.cst (st [109, 45, 99, 45, 97])), (.cst (st [99, 45, 99, 45, 97])), (.cst (st [45])), (.cst (st [101, 115, 99])), (.cst (st [69, 115, 99])), (.cst (st [115, 101, 118, 101, 110, 116, 104]))]), .asg (.name 1) (.bin .add (.var 1) (.lst [(.tup []), (.lst []), (.tup [(.cst (st [97]))]), (.tup [(.cst (st [97])), (.cst (st [98])), (.cst (st [99])), (.cst (st [97]))]), (.tup [(.cst (st [97, 108, 108])), (.cst .none)]), (.tup [(.cst (st [116, 101, 120, 116])), (.cst (st [97, 108, 108]))]), (.tup [(.cst (st [103, 111])), (.cst (st [97, 108, 108]))]), (.tup [(.cst (st [120])), (.cst (st [120]))])])), .ret (.ix (.bin .add (.var 1) (.lst [(.tup [(.cst (st [97, 108, 108])), (.tup [(.cst (st [97]))]), (.cst (st [103, 111]))]), (.tup [(.cst (st [97, 108, 108])), (.tup []), (.cst (st [103, 111]))]), (.tup [(.cst (st [97, 108, 108])), (.tup [(.cst (st [97]))]), (.cst .none)]), (.cst (st [99, 45])), (.cst (st [97, 97])), (.cst (st [43])), (.cst (st [55]))])) (.bin .mod (.var 0) (.cst (.int 32))))] }
def f10_l_spoilt : Fn := { np := 3, nl := 5, body := [.iff (.band (.cmp .gt (.var 2) (.cst (.int 0))) (.band (.blt .isTuple [(.var 0)]) (.band (.cmp .gt (.blt .len [(.var 0)]) (.cst (.int 0))) (.cmp .gt (.bin .mod (.var 1) (.cst (.int 6))) (.cst (.int 0)))))) [.asg (.name 3) (.bin .mod (.bin .fdiv (.var 1) (.cst (.int 6))) (.blt .len [(.var 0)])), .asg (.name 4) (.call 10 [(.ix (.var 0) (.var 3)), (.bin .fdiv (.call 3 [(.var 1), (.var 2)]) (.cst (.int 4))), (.bin .sub (.var 2) (.cst (.int 1)))]), .ret (.bin .add (.bin .add (.slc (.var 0) (.cst .none) (.var 3)) (.tup [(.var 4)])) (.slc (.var 0) (.bin .add (.var 3) (.cst (.int 1))) (.cst .none)))] [], .iff (.band (.blt .isTuple [(.var 0)]) (.band (.cmp .gt (.blt .len [(.var 0)]) (.cst (.int 0))) (.cmp .eq (.bin .mod (.bin .fdiv (.var 1) (.cst (.int 6))) (.cst (.int 2))) (.cst (.int 0))))) [.ret (.ix (.lst [(.blt .list [(.var 0)]), (.slc (.var 0) (.cst .none) (.neg (.cst (.int 1)))), (.bin .add (.var 0) (.slc (.var 0) (.neg (.cst (.int 1))) (.cst .none))), (.slc (.var 0) (.cst (.int 1)) (.cst .none)), (.stp (.var 0) (.cst .none) (.neg (.cst (.int 1)))), (.bin .mul (.var 0) (.cst (.int 3)))]) (.bin .mod (.bin .fdiv (.var 1) (.cst (.int 12))) (.cst (.int 6))))] [], .iff (.band (.blt .isStr [(.var 0)]) (.cmp .eq (.bin .mod (.bin .fdiv (.var 1) (.cst (.int 6))) (.cst (.int 2))) (.cst (.int 0)))) [.ret (.ix (.lst [(.bin .add (.var 0) (.cst (st [97]))), (.slc (.var 0) (.cst (.int 1)) (.cst .none)), (.bin .add (.cst (st [99, 45])) (.var 0)), (.mth .upper (.var 0) []), (.bin .add (.var 0) (.cst (st [45]))), (.bin .add (.cst (st [109, 45])) (.var 0))]) (.bin .mod (.bin .fdiv (.var 1) (.cst (.int 12))) (.cst (.int 6))))] [], .ret (.call 9 [(.bin .fdiv (.var 1) (.cst (.int 6)))])] }
def f11_l_once : Fn := { np := 1, nl := 6, body := [.asg (.name 1) (.call 2 [(.var 0), (.cst (.int 0))]), .asg (.name 2) (.cst (st [])), .wip [3], .for_ (.name 3) .range1 [(.bin .mod (.var 1) (.cst (.int 5)))] [.asg (.name 2) (.bin .add (.var 2) (.ix (.lst [(.cst (st [99, 45])), (.cst (st [109, 45])), (.cst (st [115, 45])), (.cst (st [99, 45])), (.cst (st [45]))]) (.bin .mod (.bin .fdiv (.call 3 [(.var 1), (.var 3)]) (.cst (.int 4))) (.ix (.tup [(.cst (.int 5)), (.cst (.int 3)), (.cst (.int 4)), (.cst (.int 5))]) (.bin .mod (.bin .fdiv (.var 1) (.cst (.int 8))) (.cst (.int 4)))))))] [3], .asg (.name 4) (.lst [(.cst (st [97])), (.cst (st [122])), (.cst (st [48])), (.cst (st [57])), (.cst (st [101, 110, 116, 101, 114])), (.cst (st [101, 115, 99])), (.cst (st [116, 97, 98])), (.cst (st [117, 112])), (.cst (st [100, 111, 119, 110])), (.cst (st [99])), (.cst (st [])), (.cst (st [97, 98])), (.cst (st [65])), (.cst (st [108, 101, 102, 116])), (.cst (st [115])), (.cst (st [109]))]), .asg (.name 2) (.bin .add (.var 2) (.ix (.var 4) (.bin .mod (.bin .fdiv (.var 1) (.cst (.int 32))) (.cst (.int 16))))), .iff (.cmp .eq (.bin .mod (.bin .fdiv (.var 1) (.cst (.int 512))) (.cst (.int 4))) (.cst (.int 1))) [.asg (.name 2) (.call 9 [(.bin .fdiv (.var 1) (.cst (.int 2048)))])] [], .asg (.name 5) (.call 0 [(.var 2)]), .ret (.band (.blt .isBool [(.var 5)]) (.cmp .eq (.var 5) (.call 5 [(.var 2)])))] }
def f12_law : Fn := { np := 1, nl := 2, body := [.ret (.band (.call 11 [(.var 0)]) (.call 11 [(.comp (.bin .add (.var 1) (.cst (.int 1))) (.name 1) .seq [(.stp (.var 0) (.cst .none) (.neg (.cst (.int 1))))] yes)]))] }
def f13_is_name : Fn := { np := 1, nl := 2, body := [.ret (.band (.blt .isStr [(.var 0)]) (.band (.chain .le .le (.cst (.int 1)) (.blt .len [(.var 0)]) (.glob "LONGEST" (.int 6))) (.blt .all [(.comp (.cmp .isin (.var 1) (.glob "LETTERS" (st [97, 98, 99, 100, 101, 102, 103, 104, 105, 106, 107, 108, 109, 110, 111, 112, 113, 114, 115, 116, 117, 118, 119, 120, 121, 122]))) (.name 1) .seq [(.var 0)] yes)])))] }
def f14_is_pair : Fn := { np := 1, nl := 1, body := [.ret (.band (.blt .isTuple [(.var 0)]) (.band (.cmp .eq (.blt .len [(.var 0)]) (.cst (.int 2))) (.call 13 [(.ix (.var 0) (.cst (.int 0)))])))] }
def f15_are_rooms : Fn := { np := 1, nl := 4, body := [.iff (.bor (.bnot (.blt .isTuple [(.var 0)])) (.bor (.bnot (.chain .le .le (.cst (.int 1)) (.blt .len [(.var 0)]) (.glob "MOST_ROOMS" (.int 6)))) (.bnot (.blt .all [(.comp (.call 14 [(.var 3)]) (.name 3) .seq [(.var 0)] yes)])))) [.ret (.cst (.bool false))] [], .asg (.name 1) (.comp (.ix (.var 3) (.cst (.int 0))) (.name 3) .seq [(.var 0)] yes), .wip [2, 3], .for_ (.tup [(.name 2), (.name 3)]) .enum [(.var 0)] [.iff (.band (.cmp .isnot (.ix (.var 3) (.cst (.int 1))) (.cst .none)) (.bor (.bnot (.call 13 [(.ix (.var 3) (.cst (.int 1)))])) (.cmp .notin (.ix (.var 3) (.cst (.int 1))) (.slc (.var 1) (.cst .none) (.var 2))))) [.ret (.cst (.bool false))] []] [2, 3], .ret (.cmp .eq (.blt .lenSet [(.var 1)]) (.blt .len [(.var 1)]))] }
def f16_is_house : Fn := { np := 1, nl := 6, body := [.iff (.bor (.bnot (.blt .isTuple [(.var 0)])) (.bor (.cmp .ne (.blt .len [(.var 0)]) (.cst (.int 2))) (.bnot (.call 15 [(.ix (.var 0) (.cst (.int 0)))])))) [.ret (.cst (.bool false))] [], .asg (.name 1) (.ix (.var 0) (.cst (.int 1))), .iff (.bor (.bnot (.blt .isTuple [(.var 1)])) (.bor (.cmp .gt (.blt .len [(.var 1)]) (.glob "MOST_WAYS" (.int 4))) (.bnot (.blt .all [(.comp (.call 14 [(.var 3)]) (.name 3) .seq [(.var 1)] yes)])))) [.ret (.cst (.bool false))] [], .asg (.name 2) (.comp (.ix (.var 3) (.cst (.int 0))) (.name 3) .seq [(.ix (.var 0) (.cst (.int 0)))] yes), .iff (.bnot (.blt .all [(.comp (.band (.call 13 [(.ix (.var 3) (.cst (.int 1)))]) (.cmp .isin (.ix (.var 3) (.cst (.int 1))) (.var 2))) (.name 3) .seq [(.var 1)] yes)])) [.ret (.cst (.bool false))] [], .ret (.blt .all [(.comp (.cmp .lt (.ix (.var 4) (.cst (.int 0))) (.ix (.var 5) (.cst (.int 0)))) (.tup [(.name 4), (.name 5)]) .zip [(.slc (.var 1) (.cst .none) (.neg (.cst (.int 1)))), (.slc (.var 1) (.cst (.int 1)) (.cst .none))] yes)])] }
def f17_is_bind : Fn := { np := 2, nl := 3, body := [.iff (.bor (.bnot (.blt .isTuple [(.var 0)])) (.bor (.cmp .ne (.blt .len [(.var 0)]) (.cst (.int 3))) (.bor (.bnot (.call 13 [(.ix (.var 0) (.cst (.int 0)))])) (.cmp .notin (.ix (.var 0) (.cst (.int 0))) (.var 1))))) [.ret (.cst (.bool false))] [], .iff (.bor (.bnot (.blt .isTuple [(.ix (.var 0) (.cst (.int 1)))])) (.bnot (.chain .le .le (.cst (.int 1)) (.blt .len [(.ix (.var 0) (.cst (.int 1)))]) (.glob "MOST_KEYS" (.int 3))))) [.ret (.cst (.bool false))] [], .iff (.bnot (.blt .all [(.comp (.call 0 [(.var 2)]) (.name 2) .seq [(.ix (.var 0) (.cst (.int 1)))] yes)])) [.ret (.cst (.bool false))] [], .ret (.bor (.cmp .is (.ix (.var 0) (.cst (.int 2))) (.cst .none)) (.call 13 [(.ix (.var 0) (.cst (.int 2)))]))] }
def f18_is_map : Fn := { np := 2, nl := 4, body := [.asg (.name 2) (.comp (.ix (.var 3) (.cst (.int 0))) (.name 3) .seq [(.ix (.var 0) (.cst (.int 0)))] yes), .iff (.bor (.bnot (.blt .isTuple [(.var 1)])) (.bor (.cmp .gt (.blt .len [(.var 1)]) (.glob "MOST_BINDS" (.int 12))) (.bnot (.blt .all [(.comp (.call 17 [(.var 3), (.var 2)]) (.name 3) .seq [(.var 1)] yes)])))) [.ret (.cst (.bool false))] [], .ret (.cmp .eq (.blt .lenSet [(.comp (.slc (.var 3) (.cst .none) (.cst (.int 2))) (.name 3) .seq [(.var 1)] yes)]) (.blt .len [(.var 1)]))] }
def f19_l_key : Fn := { np := 1, nl := 1, body := [.ret (.ix (.lst [(.cst (st [97])), (.cst (st [98])), (.cst (st [99])), (.cst (st [97])), (.cst (st [98])), (.cst (st [101, 110, 116, 101, 114])), (.cst (st [99, 45, 97])), (.cst (st [109, 45, 120])), (.cst (st [99, 45, 109, 45, 115, 45, 117, 112])), (.cst (st [49]))]) (.bin .mod (.var 0) (.cst (.int 10))))] }
def f20_l_house : Fn := { np := 1, nl := 9, body := [.asg (.name 1) (.lst [(.cst (st [97, 108, 108])), (.cst (st [116, 101, 120, 116])), (.cst (st [109, 97, 105, 108])), (.cst (st [113, 117, 105, 116])), (.cst (st [102, 105, 110, 100])), (.cst (st [122, 111, 111, 109]))]), .own 2 (.lst [(.tup [(.ix (.var 1) (.bin .mod (.var 0) (.cst (.int 6)))), (.cst .none)])]), .wip [3, 5, 6, 7], .for_ (.name 3) .range1 [(.bin .mod (.bin .fdiv (.var 0) (.cst (.int 6))) (.cst (.int 5)))] [.asg (.name 5) (.bin .fdiv (.call 3 [(.var 0), (.var 3)]) (.cst (.int 4))), .asg (.name 6) (.ix (.var 1) (.bin .mod (.bin .add (.bin .add (.var 0) (.var 3)) (.cst (.int 1))) (.cst (.int 6)))), .asg (.name 7) (.ix (.ix (.var 2) (.bin .mod (.var 5) (.blt .len [(.var 2)]))) (.cst (.int 0))), .app 2 (.tup [(.var 6), (.ix (.lst [(.var 7), (.cst .none)]) (.blt .int [(.cmp .eq (.bin .mod (.bin .fdiv (.var 5) (.cst (.int 16))) (.cst (.int 4))) (.cst (.int 0)))]))])] [3, 5, 6, 7], .own 4 (.lst []), .wip [3, 5, 8], .for_ (.tup [(.name 3), (.name 8)]) .enum [(.tup [(.cst (st [103, 111])), (.cst (st [105, 110])), (.cst (st [111, 117, 116])), (.cst (st [115, 101, 116]))])] [.asg (.name 5) (.bin .fdiv (.call 3 [(.var 0), (.bin .add (.cst (.int 10)) (.var 3))]) (.cst (.int 4))), .iff (.cmp .eq (.bin .mod (.var 5) (.cst (.int 3))) (.cst (.int 0))) [.app 4 (.tup [(.var 8), (.ix (.ix (.var 2) (.bin .mod (.bin .fdiv (.var 5) (.cst (.int 4))) (.blt .len [(.var 2)]))) (.cst (.int 0)))])] []] [3, 5, 8], .ret (.tup [(.blt .tuple [(.var 2)]), (.blt .tuple [(.var 4)])])] }
def f21_l_bind : Fn := { np := 2, nl := 6, body := [.asg (.name 2) (.ix (.ix (.ix (.var 0) (.cst (.int 0))) (.bin .mod (.var 1) (.blt .len [(.ix (.var 0) (.cst (.int 0)))]))) (.cst (.int 0))), .asg (.name 3) (.blt .tuple [(.comp (.call 19 [(.bin .fdiv (.call 3 [(.var 1), (.var 5)]) (.cst (.int 4)))]) (.name 5) .range1 [(.ix (.tup [(.cst (.int 1)), (.cst (.int 2)), (.cst (.int 1)), (.cst (.int 3)), (.cst (.int 2))]) (.bin .mod (.bin .fdiv (.var 1) (.cst (.int 8))) (.cst (.int 5))))] yes)]), .asg (.name 4) (.ix (.lst [(.cst (st [103, 111])), (.cst (st [105, 110])), (.cst (st [111, 117, 116])), (.cst (st [115, 101, 116])), (.cst (st [99, 111, 112, 121])), (.cst (st [117, 110, 100, 111])), (.cst .none), (.cst (st [103, 111])), (.cst (st [105, 110]))]) (.bin .mod (.bin .fdiv (.var 1) (.cst (.int 64))) (.cst (.int 9)))), .ret (.tup [(.var 2), (.var 3), (.var 4)])] }
def f22_l_map : Fn := { np := 3, nl := 7, body := [.own 3 (.lst []), .wip [4, 5, 6], .for_ (.name 4) .range1 [(.bin .mod (.var 1) (.bin .add (.var 2) (.cst (.int 1))))] [.asg (.name 5) (.call 21 [(.var 0), (.bin .fdiv (.call 3 [(.var 1), (.bin .add (.cst (.int 20)) (.var 4))]) (.cst (.int 4)))]), .iff (.cmp .notin (.slc (.var 5) (.cst .none) (.cst (.int 2))) (.comp (.slc (.var 6) (.cst .none) (.cst (.int 2))) (.name 6) .seq [(.var 3)] yes)) [.app 3 (.var 5)] []] [4, 5, 6], .ret (.blt .tuple [(.var 3)])] }
def f23_l_is_map : Fn := { np := 2, nl := 7, body := [.iff (.bor (.bnot (.blt .isTuple [(.var 1)])) (.cmp .gt (.blt .len [(.var 1)]) (.cst (.int 12)))) [.ret (.cst (.bool false))] [], .asg (.name 2) (.comp (.var 4) (.tup [(.name 4), (.name 5)]) .seq [(.ix (.var 0) (.cst (.int 0)))] yes), .wip [3, 6], .for_ (.name 3) .seq [(.var 1)] [.iff (.bor (.bnot (.blt .isTuple [(.var 3)])) (.bor (.cmp .ne (.blt .len [(.var 3)]) (.cst (.int 3))) (.bor (.bnot (.call 4 [(.ix (.var 3) (.cst (.int 0)))])) (.cmp .notin (.ix (.var 3) (.cst (.int 0))) (.var 2))))) [.ret (.cst (.bool false))] [], .iff (.bor (.bnot (.blt .isTuple [(.ix (.var 3) (.cst (.int 1)))])) (.bnot (.chain .le .le (.cst (.int 1)) (.blt .len [(.ix (.var 3) (.cst (.int 1)))]) (.cst (.int 3))))) [.ret (.cst (.bool false))] [], .iff (.cmp .ne (.comp (.var 6) (.name 6) .seq [(.ix (.var 3) (.cst (.int 1)))] (.bnot (.call 5 [(.var 6)]))) (.lst [])) [.ret (.cst (.bool false))] [], .iff (.band (.cmp .isnot (.ix (.var 3) (.cst (.int 2))) (.cst .none)) (.bnot (.call 4 [(.ix (.var 3) (.cst (.int 2)))]))) [.ret (.cst (.bool false))] []] [3, 6], .ret (.cmp .eq (.blt .lenSet [(.comp (.slc (.var 3) (.cst .none) (.cst (.int 2))) (.name 3) .seq [(.var 1)] yes)]) (.blt .len [(.var 1)]))] }
def f24_law : Fn := { np := 1, nl := 13, body := [.asg (.name 1) (.call 20 [(.call 2 [(.var 0), (.cst (.int 0))])]), .asg (.name 2) (.call 2 [(.var 0), (.cst (.int 1))]), .asg (.name 3) (.var 1), .iff (.cmp .eq (.bin .mod (.var 2) (.cst (.int 2))) (.cst (.int 1))) [.asg (.name 3) (.call 10 [(.var 1), (.call 2 [(.var 0), (.cst (.int 2))]), (.bin .mod (.bin .fdiv (.var 2) (.cst (.int 2))) (.cst (.int 4)))])] [], .iff (.cmp .eq (.bin .mod (.bin .fdiv (.var 2) (.cst (.int 64))) (.cst (.int 8))) (.cst (.int 1))) [.asg (.name 3) (.tup [(.stp (.ix (.var 1) (.cst (.int 0))) (.cst .none) (.neg (.cst (.int 1)))), (.ix (.var 1) (.cst (.int 1)))])] [], .asg (.name 4) (.call 16 [(.var 3)]), .iff (.bor (.bnot (.blt .isBool [(.var 4)])) (.cmp .ne (.var 4) (.call 7 [(.var 3)]))) [.ret (.cst (.bool false))] [], .asg (.name 5) (.blt .tuple [(.comp (.tup [(.ix (.cst (st [97, 98, 99, 100, 101, 102, 103])) (.var 12)), (.cst .none)]) (.name 12) .range1 [(.bin .add (.cst (.int 5)) (.bin .mod (.bin .fdiv (.var 2) (.cst (.int 1024))) (.cst (.int 3))))] yes)]), .asg (.name 6) (.blt .tuple [(.comp (.tup [(.ix (.cst (st [97, 98, 99, 100, 101, 102, 103])) (.var 12)), (.cst (st [97]))]) (.name 12) .range1 [(.bin .add (.cst (.int 3)) (.bin .mod (.bin .fdiv (.var 2) (.cst (.int 4096))) (.cst (.int 3))))] yes)]), .asg (.name 7) (.slc (.cst (st [97, 98, 99, 100, 101, 102, 103, 104])) (.cst .none) (.bin .add (.cst (.int 5)) (.bin .mod (.bin .fdiv (.var 2) (.cst (.int 16384))) (.cst (.int 3))))), .wip [8], .for_ (.name 8) .seq [(.tup [(.tup [(.var 5), (.var 6)]), (.tup [(.tup [(.tup [(.var 7), (.cst .none)])]), (.tup [])]), (.tup [(.var 5), (.tup [(.tup [(.var 7), (.cst (st [97]))])])])])] [.iff (.cmp .ne (.call 16 [(.var 8)]) (.call 7 [(.var 8)])) [.ret (.cst (.bool false))] []] [8], .asg (.name 3) (.call 22 [(.var 1), (.call 2 [(.var 0), (.cst (.int 3))]), (.cst (.int 16))]), .iff (.cmp .eq (.bin .mod (.bin .fdiv (.var 2) (.cst (.int 8))) (.cst (.int 2))) (.cst (.int 1))) [.asg (.name 3) (.call 10 [(.var 3), (.call 2 [(.var 0), (.cst (.int 4))]), (.bin .mod (.bin .fdiv (.var 2) (.cst (.int 16))) (.cst (.int 4)))])] [], .asg (.name 9) (.ix (.ix (.ix (.var 1) (.cst (.int 0))) (.cst (.int 0))) (.cst (.int 0))), .asg (.name 10) (.ix (.tup [(.cst (st [103, 111])), (.cst (st [111, 110])), (.cst .none)]) (.bin .mod (.bin .fdiv (.var 2) (.cst (.int 65536))) (.cst (.int 3)))), .asg (.name 11) (.tup [(.tup [(.var 9), (.tup [(.cst (st [97]))]), (.cst (st [103, 111]))]), (.tup [(.var 9), (.slc (.tup [(.cst (st [97])), (.cst (st [98]))]) (.cst .none) (.bin .add (.cst (.int 1)) (.bin .mod (.bin .fdiv (.var 2) (.cst (.int 32768))) (.cst (.int 2))))), (.var 10)])]), .iff (.cmp .ne (.call 18 [(.var 1), (.var 11)]) (.call 23 [(.var 1), (.var 11)])) [.ret (.cst (.bool false))] [], .asg (.name 4) (.call 18 [(.var 1), (.var 3)]), .ret (.band (.blt .isBool [(.var 4)]) (.cmp .eq (.var 4) (.call 23 [(.var 1), (.var 3)])))] }
def f25_room_text : Fn := { np := 2, nl := 2, body := [.iff (.cmp .is (.var 1) (.cst .none)) [.ret (.var 0)] [], .ret (.bin .add (.bin .add (.var 0) (.cst (st [32, 60, 32]))) (.var 1))] }
def f26_written_house : Fn := { np := 1, nl := 6, body := [.asg (.name 1) (.mth .join (.cst (st [44, 32])) [(.comp (.call 25 [(.var 3), (.var 4)]) (.tup [(.name 3), (.name 4)]) .seq [(.ix (.var 0) (.cst (.int 0)))] yes)]), .asg (.name 2) (.mth .join (.cst (st [44, 32])) [(.comp (.bin .add (.bin .add (.var 5) (.cst (st [32, 62, 32]))) (.var 3)) (.tup [(.name 5), (.name 3)]) .seq [(.ix (.var 0) (.cst (.int 1)))] yes)]), .iff (.cmp .eq (.blt .len [(.ix (.var 0) (.cst (.int 1)))]) (.cst (.int 0))) [.asg (.name 2) (.cst (st [110, 111, 110, 101]))] [], .ret (.bin .add (.bin .add (.var 1) (.cst (st [32, 124, 32]))) (.var 2))] }
def f27_bind_text : Fn := { np := 1, nl := 4, body := [.asg (.tup [(.name 1), (.name 2), (.name 3)]) (.var 0), .iff (.cmp .is (.var 3) (.cst .none)) [.asg (.name 3) (.cst (st [45]))] [], .ret (.bin .add (.bin .add (.bin .add (.bin .add (.var 1) (.cst (st [58, 32]))) (.mth .join (.cst (st [32])) [(.var 2)])) (.cst (st [32, 61, 32]))) (.var 3))] }
def f28_written : Fn := { np := 1, nl := 2, body := [.iff (.cmp .eq (.blt .len [(.var 0)]) (.cst (.int 0))) [.ret (.cst (st [110, 111, 110, 101]))] [], .ret (.mth .join (.cst (st [32, 59, 32])) [(.comp (.call 27 [(.var 1)]) (.name 1) .seq [(.var 0)] yes)])] }
def f29_l_house_text : Fn := { np := 1, nl := 6, body := [.asg (.name 1) (.comp (.bin .add (.var 3) (.ix (.lst [(.bin .add (.cst (st [32, 60, 32])) (.blt .str [(.var 4)])), (.cst (st []))]) (.blt .int [(.cmp .is (.var 4) (.cst .none))]))) (.tup [(.name 3), (.name 4)]) .seq [(.ix (.var 0) (.cst (.int 0)))] yes), .asg (.name 2) (.comp (.bin .add (.bin .add (.var 5) (.cst (st [32, 62, 32]))) (.var 3)) (.tup [(.name 5), (.name 3)]) .seq [(.ix (.var 0) (.cst (.int 1)))] yes), .ret (.bin .add (.bin .add (.mth .join (.cst (st [44, 32])) [(.var 1)]) (.cst (st [32, 124, 32]))) (.mth .join (.cst (st [44, 32])) [(.bin .add (.var 2) (.bin .mul (.lst [(.cst (st [110, 111, 110, 101]))]) (.blt .int [(.cmp .eq (.var 2) (.lst []))])))]))] }
def f30_l_text : Fn := { np := 1, nl := 5, body := [.asg (.name 1) (.comp (.bin .add (.bin .add (.bin .add (.bin .add (.var 2) (.cst (st [58, 32]))) (.mth .join (.cst (st [32])) [(.var 3)])) (.cst (st [32, 61, 32]))) (.ix (.lst [(.blt .str [(.var 4)]), (.cst (st [45]))]) (.blt .int [(.cmp .is (.var 4) (.cst .none))]))) (.tup [(.name 2), (.name 3), (.name 4)]) .seq [(.var 0)] yes), .ret (.mth .join (.cst (st [32, 59, 32])) [(.bin .add (.var 1) (.bin .mul (.lst [(.cst (st [110, 111, 110, 101]))]) (.blt .int [(.cmp .eq (.var 1) (.lst []))])))])] }
def f31_law : Fn := { np := 1, nl := 3, body := [.asg (.name 1) (.call 20 [(.call 2 [(.var 0), (.cst (.int 0))])]), .asg (.name 2) (.call 22 [(.var 1), (.call 2 [(.var 0), (.cst (.int 1))]), (.cst (.int 10))]), .ret (.band (.cmp .eq (.call 26 [(.var 1)]) (.call 29 [(.var 1)])) (.cmp .eq (.call 28 [(.var 2)]) (.call 30 [(.var 2)])))] }
-- 32 two_of: stmt Raise
def f33_room_of : Fn := { np := 1, nl := 1, body := [.iff (.cmp .notin (.cst (st [32, 60, 32])) (.var 0)) [.ret (.tup [(.var 0), (.cst .none)])] [], .ret (.blt .tuple [(.call 32 [(.var 0), (.cst (st [32, 60, 32]))])])] }
-- 34 read_house: stmt Raise
def f35_l_changed : Fn := { np := 2, nl := 9, body := [.asg (.name 2) (.mth .split (.var 0) [(.cst (st [32]))]), .asg (.name 3) (.bin .mod (.bin .fdiv (.var 1) (.cst (.int 8))) (.blt .len [(.var 2)])), .asg (.name 4) (.lst [(.cst (st [60])), (.cst (st [62])), (.cst (st [124])), (.cst (st [110, 111, 110, 101])), (.cst (st [59])), (.cst (st [61])), (.cst (st [45])), (.cst (st [97])), (.cst (st [97, 108, 108])), (.cst (st [97, 108, 108, 58])), (.cst (st [116, 101, 120, 116, 44])), (.cst (st [103, 111])), (.cst (st [])), (.cst (st [99, 45, 97])), (.cst (st [98])), (.cst (st [44]))]), .asg (.name 5) (.slc (.var 2) (.cst .none) (.var 3)), .asg (.name 6) (.ix (.var 2) (.var 3)), .asg (.name 7) (.slc (.var 2) (.bin .add (.var 3) (.cst (.int 1))) (.cst .none)), .own 8 (.lst [(.bin .add (.var 5) (.var 7)), (.bin .add (.bin .add (.var 5) (.lst [(.var 6), (.var 6)])) (.var 7)), (.bin .add (.bin .add (.var 5) (.lst [(.ix (.var 4) (.bin .mod (.bin .fdiv (.var 1) (.cst (.int 256))) (.cst (.int 16))))])) (.var 7))]), .asg (.name 8) (.bin .add (.var 8) (.lst [(.bin .add (.bin .add (.var 5) (.lst [(.slc (.var 6) (.cst .none) (.neg (.cst (.int 1))))])) (.var 7)), (.bin .add (.bin .add (.var 5) (.lst [(.bin .add (.var 6) (.cst (st [97])))])) (.var 7))])), .app 8 (.bin .add (.bin .add (.bin .add (.var 5) (.slc (.var 7) (.cst .none) (.cst (.int 1)))) (.lst [(.var 6)])) (.slc (.var 7) (.cst (.int 1)) (.cst .none))), .ret (.mth .join (.cst (st [32])) [(.ix (.var 8) (.bin .mod (.var 1) (.cst (.int 6))))])] }
-- 36 _law_told: stmt Try
def f37_l_due : Fn := { np := 1, nl := 7, body := [.asg (.name 1) (.mth .split (.var 0) [(.cst (st [32, 124, 32]))]), .iff (.cmp .ne (.blt .len [(.var 1)]) (.cst (.int 2))) [.ret (.cst .none)] [], .asg (.name 2) (.tup []), .wip [3, 6], .for_ (.name 3) .seq [(.mth .split (.ix (.var 1) (.cst (.int 0))) [(.cst (st [44, 32]))])] [.asg (.name 6) (.mth .split (.var 3) [(.cst (st [32, 60, 32]))]), .iff (.cmp .gt (.blt .len [(.var 6)]) (.cst (.int 2))) [.ret (.cst .none)] [], .asg (.name 2) (.bin .add (.var 2) (.tup [(.blt .tuple [(.slc (.bin .add (.var 6) (.lst [(.cst .none)])) (.cst .none) (.cst (.int 2)))])]))] [3, 6], .asg (.name 4) (.tup []), .wip [3], .for_ (.name 3) .seq [(.mth .split (.ix (.var 1) (.cst (.int 1))) [(.cst (st [44, 32]))])] [.iff (.cmp .ne (.ix (.var 1) (.cst (.int 1))) (.cst (st [110, 111, 110, 101]))) [.asg (.name 4) (.bin .add (.var 4) (.tup [(.blt .tuple [(.mth .split (.var 3) [(.cst (st [32, 62, 32]))])])]))] []] [3], .asg (.name 5) (.tup [(.var 2), (.var 4)]), .iff (.bor (.bnot (.call 7 [(.var 5)])) (.cmp .ne (.call 29 [(.var 5)]) (.var 0))) [.ret (.cst .none)] [], .ret (.var 5)] }
-- 38 law: Lambda
def f39_bind_of : Fn := { np := 1, nl := 5, body := [.asg (.tup [(.name 1), (.name 2)]) (.call 32 [(.var 0), (.cst (st [58, 32]))]), .asg (.tup [(.name 3), (.name 4)]) (.call 32 [(.var 2), (.cst (st [32, 61, 32]))]), .iff (.cmp .eq (.var 4) (.cst (st [45]))) [.ret (.tup [(.var 1), (.blt .tuple [(.mth .split (.var 3) [(.cst (st [32]))])]), (.cst .none)])] [], .ret (.tup [(.var 1), (.blt .tuple [(.mth .split (.var 3) [(.cst (st [32]))])]), (.var 4)])] }
-- 40 read: stmt Raise
def f41_l_due : Fn := { np := 2, nl := 7, body := [.asg (.name 2) (.tup []), .wip [3, 4, 5, 6], .for_ (.name 3) .seq [(.mth .split (.var 1) [(.cst (st [32, 59, 32]))])] [.asg (.name 4) (.mth .split (.var 3) [(.cst (st [32, 61, 32]))]), .iff (.cmp .ne (.var 1) (.cst (st [110, 111, 110, 101]))) [.asg (.name 5) (.mth .split (.ix (.var 4) (.cst (.int 0))) [(.cst (st [58, 32]))]), .iff (.bor (.cmp .ne (.blt .len [(.var 4)]) (.cst (.int 2))) (.cmp .ne (.blt .len [(.var 5)]) (.cst (.int 2)))) [.ret (.cst .none)] [], .asg (.name 6) (.ix (.lst [(.ix (.var 4) (.cst (.int 1))), (.cst .none)]) (.blt .int [(.cmp .eq (.ix (.var 4) (.cst (.int 1))) (.cst (st [45])))])), .asg (.name 2) (.bin .add (.var 2) (.tup [(.tup [(.ix (.var 5) (.cst (.int 0))), (.blt .tuple [(.mth .split (.ix (.var 5) (.cst (.int 1))) [(.cst (st [32]))])]), (.var 6)])]))] []] [3, 4, 5, 6], .iff (.bor (.bnot (.call 23 [(.var 0), (.var 2)])) (.cmp .ne (.call 30 [(.var 2)]) (.var 1))) [.ret (.cst .none)] [], .ret (.var 2)] }
-- 42 law: Lambda
-- 43 law: Lambda
def f44_l_mixed : Fn := { np := 2, nl := 3, body := [.asg (.name 2) (.bin .mod (.bin .mul (.bin .add (.bin .add (.call 1 [(.var 0), (.var 1)]) (.bin .mul (.cst (.int 7919)) (.var 1))) (.cst (.int 1))) (.cst (.int 48271))) (.cst (.int 2147483647))), .ret (.bin .mod (.bin .add (.bin .add (.bin .mul (.var 2) (.var 2)) (.bin .mul (.cst (.int 7)) (.var 2))) (.var 1)) (.cst (.int 2147483629)))] }
-- 45 law: Lambda
def f46_l_places_in : Fn := { np := 2, nl := 5, body := [.asg (.name 2) (.lst [(.var 1)]), .iff (.blt .isTuple [(.var 0)]) [.wip [3, 4], .for_ (.tup [(.name 3), (.name 4)]) .enum [(.var 0)] [.asg (.name 2) (.bin .add (.var 2) (.call 46 [(.var 4), (.bin .add (.var 1) (.tup [(.var 3)]))]))] [3, 4]] [], .ret (.var 2)] }
-- 47 _law_put_at: call _law_bent_by
def f48_l_otherwise : Fn := { np := 2, nl := 3, body := [.iff (.blt .isTuple [(.var 0)]) [.asg (.name 2) (.lst [(.blt .list [(.var 0)]), (.blt .list [(.var 0)]), (.bin .add (.var 0) (.slc (.var 0) (.cst .none) (.cst (.int 1))))]), .ret (.ix (.bin .add (.var 2) (.lst [(.slc (.var 0) (.cst (.int 1)) (.cst .none)), (.lst [(.var 0)])])) (.bin .mod (.var 1) (.cst (.int 5))))] [], .iff (.blt .isBool [(.var 0)]) [.ret (.ix (.lst [(.blt .int [(.var 0)]), (.cst .none), (.blt .str [(.var 0)])]) (.bin .mod (.var 1) (.cst (.int 3))))] [], .iff (.blt .isInt [(.var 0)]) [.asg (.name 2) (.lst [(.cst (.bool true)), (.cst .none), (.blt .str [(.var 0)]), (.tup [(.var 0)])]), .ret (.ix (.bin .add (.var 2) (.lst [(.bin .sub (.neg (.cst (.int 1))) (.var 0))])) (.bin .mod (.var 1) (.cst (.int 5))))] [], .ret (.ix (.lst [(.cst .none), (.tup [(.var 0)]), (.lst [(.var 0)]), (.cst (st [])), (.cst (.int 0))]) (.bin .mod (.var 1) (.cst (.int 5))))] }
-- 49 _law_spoilt: Lambda
def f50_l_once : Fn := { np := 1, nl := 13, body := [.asg (.name 1) (.call 20 [(.call 2 [(.var 0), (.cst (.int 0))])]), .asg (.name 2) (.call 2 [(.var 0), (.cst (.int 1))]), .asg (.name 3) (.var 1), .iff (.cmp .eq (.bin .mod (.var 2) (.cst (.int 2))) (.cst (.int 1))) [.asg (.name 3) (.call 49 [(.var 1), (.call 2 [(.var 0), (.cst (.int 2))]), (.bin .mod (.bin .fdiv (.var 2) (.cst (.int 2))) (.cst (.int 4)))])] [], .iff (.cmp .eq (.bin .mod (.bin .fdiv (.var 2) (.cst (.int 64))) (.cst (.int 8))) (.cst (.int 1))) [.asg (.name 3) (.tup [(.stp (.ix (.var 1) (.cst (.int 0))) (.cst .none) (.neg (.cst (.int 1)))), (.ix (.var 1) (.cst (.int 1)))])] [], .asg (.name 4) (.call 16 [(.var 3)]), .iff (.bor (.bnot (.blt .isBool [(.var 4)])) (.cmp .ne (.var 4) (.call 7 [(.var 3)]))) [.ret (.cst (.bool false))] [], .asg (.name 5) (.blt .tuple [(.comp (.tup [(.ix (.cst (st [97, 98, 99, 100, 101, 102, 103])) (.var 12)), (.cst .none)]) (.name 12) .range1 [(.bin .add (.cst (.int 5)) (.bin .mod (.bin .fdiv (.var 2) (.cst (.int 1024))) (.cst (.int 3))))] yes)]), .asg (.name 6) (.blt .tuple [(.comp (.tup [(.ix (.cst (st [97, 98, 99, 100, 101, 102, 103])) (.var 12)), (.cst (st [97]))]) (.name 12) .range1 [(.bin .add (.cst (.int 3)) (.bin .mod (.bin .fdiv (.var 2) (.cst (.int 4096))) (.cst (.int 3))))] yes)]), .asg (.name 7) (.slc (.cst (st [97, 98, 99, 100, 101, 102, 103, 104])) (.cst .none) (.bin .add (.cst (.int 5)) (.bin .mod (.bin .fdiv (.var 2) (.cst (.int 16384))) (.cst (.int 3))))), .wip [8], .for_ (.name 8) .seq [(.tup [(.tup [(.var 5), (.var 6)]), (.tup [(.tup [(.tup [(.var 7), (.cst .none)])]), (.tup [])]), (.tup [(.var 5), (.tup [(.tup [(.var 7), (.cst (st [97]))])])])])] [.iff (.cmp .ne (.call 16 [(.var 8)]) (.call 7 [(.var 8)])) [.ret (.cst (.bool false))] []] [8], .asg (.name 3) (.call 22 [(.var 1), (.call 2 [(.var 0), (.cst (.int 3))]), (.cst (.int 16))]), .iff (.cmp .eq (.bin .mod (.bin .fdiv (.var 2) (.cst (.int 8))) (.cst (.int 2))) (.cst (.int 1))) [.asg (.name 3) (.call 49 [(.var 3), (.call 2 [(.var 0), (.cst (.int 4))]), (.bin .mod (.bin .fdiv (.var 2) (.cst (.int 16))) (.cst (.int 4)))])] [], .asg (.name 9) (.ix (.ix (.ix (.var 1) (.cst (.int 0))) (.cst (.int 0))) (.cst (.int 0))), .asg (.name 10) (.ix (.tup [(.cst (st [103, 111])), (.cst (st [111, 110])), (.cst .none)]) (.bin .mod (.bin .fdiv (.var 2) (.cst (.int 65536))) (.cst (.int 3)))), .asg (.name 11) (.tup [(.tup [(.var 9), (.tup [(.cst (st [97]))]), (.cst (st [103, 111]))]), (.tup [(.var 9), (.slc (.tup [(.cst (st [97])), (.cst (st [98]))]) (.cst .none) (.bin .add (.cst (.int 1)) (.bin .mod (.bin .fdiv (.var 2) (.cst (.int 32768))) (.cst (.int 2))))), (.var 10)])]), .iff (.cmp .ne (.call 18 [(.var 1), (.var 11)]) (.call 23 [(.var 1), (.var 11)])) [.ret (.cst (.bool false))] [], .asg (.name 4) (.call 18 [(.var 1), (.var 3)]), .ret (.band (.blt .isBool [(.var 4)]) (.cmp .eq (.var 4) (.call 23 [(.var 1), (.var 3)])))] }
def f51_law : Fn := { np := 1, nl := 3, body := [.wip [1, 2], .for_ (.name 1) .range1 [(.cst (.int 8))] [.iff (.bnot (.call 50 [(.bin .add (.comp (.bin .add (.var 2) (.bin .mul (.cst (.int 104729)) (.var 1))) (.name 2) .seq [(.var 0)] yes) (.lst [(.var 1)]))])) [.ret (.cst (.bool false))] []] [1, 2], .ret (.cst (.bool true))] }
def f52_outward : Fn := { np := 2, nl := 4, body := [.asg (.name 2) (.blt .dict [(.ix (.var 0) (.cst (.int 0)))]), .own 3 (.lst []), .wip [], .whl (.cmp .isnot (.var 1) (.cst .none)) [.app 3 (.var 1), .asg (.name 1) (.ix (.var 2) (.var 1))] [], .frz 3, .ret (.var 3)] }
def f53_holder : Fn := { np := 4, nl := 8, body := [.asg (.name 4) (.blt .dict [(.comp (.tup [(.slc (.var 7) (.cst .none) (.cst (.int 2))), (.var 6)]) (.tup [(.name 6), (.name 7)]) .enum [(.var 1)] yes)]), .wip [5], .for_ (.name 5) .seq [(.call 52 [(.var 0), (.var 2)])] [.iff (.cmp .isin (.tup [(.var 5), (.var 3)]) (.var 4)) [.ret (.ix (.var 4) (.tup [(.var 5), (.var 3)]))] []] [5], .ret (.cst .none)] }
def f54_rows : Fn := { np := 3, nl := 7, body := [.own 3 (.lst []), .wip [4, 5, 6], .for_ (.name 4) .seq [(.blt .sortedSet [(.comp (.ix (.var 6) (.cst (.int 1))) (.name 6) .seq [(.var 1)] yes)])] [.asg (.name 5) (.call 53 [(.var 0), (.var 1), (.var 2), (.var 4)]), .iff (.band (.cmp .isnot (.var 5) (.cst .none)) (.cmp .isnot (.ix (.ix (.var 1) (.var 5)) (.cst (.int 2))) (.cst .none))) [.app 3 (.tup [(.var 4), (.ix (.ix (.var 1) (.var 5)) (.cst (.int 2)))])] []] [4, 5, 6], .ret (.blt .tuple [(.var 3)])] }
def f55_l_holder : Fn := { np := 4, nl := 8, body := [.wip [4, 5, 6, 7], .whl (.cmp .isnot (.var 2) (.cst .none)) [.wip [4, 5], .for_ (.tup [(.name 4), (.name 5)]) .enum [(.var 1)] [.iff (.band (.cmp .eq (.ix (.var 5) (.cst (.int 0))) (.var 2)) (.cmp .eq (.ix (.var 5) (.cst (.int 1))) (.var 3))) [.ret (.var 4)] []] [4, 5], .asg (.name 2) (.ix (.comp (.var 7) (.tup [(.name 6), (.name 7)]) .seq [(.ix (.var 0) (.cst (.int 0)))] (.cmp .eq (.var 6) (.var 2))) (.cst (.int 0)))] [4, 5, 6, 7], .ret (.cst .none)] }
def f56_l_rows : Fn := { np := 3, nl := 6, body := [.own 3 (.dct [] []), .wip [4, 5], .for_ (.name 4) .seq [(.var 1)] [.asg (.name 5) (.call 55 [(.var 0), (.var 1), (.var 2), (.ix (.var 4) (.cst (.int 1)))]), .iff (.band (.cmp .isnot (.var 5) (.cst .none)) (.cmp .isnot (.ix (.ix (.var 1) (.var 5)) (.cst (.int 2))) (.cst .none))) [.seti 3 (.ix (.var 4) (.cst (.int 1))) (.ix (.ix (.var 1) (.var 5)) (.cst (.int 2)))] []] [4, 5], .frz 3, .ret (.var 3)] }
def f57_law : Fn := { np := 1, nl := 10, body := [.asg (.name 1) (.call 20 [(.call 2 [(.var 0), (.cst (.int 0))])]), .asg (.name 2) (.call 22 [(.var 1), (.call 2 [(.var 0), (.cst (.int 1))]), (.cst (.int 10))]), .wip [3, 4, 5, 6, 7, 8, 9], .for_ (.tup [(.name 3), (.name 4)]) .seq [(.ix (.var 1) (.cst (.int 0)))] [.iff (.cmp .ne (.call 54 [(.var 1), (.var 2), (.var 3)]) (.blt .tuple [(.blt .itemsSorted [(.call 56 [(.var 1), (.var 2), (.var 3)])])])) [.ret (.cst (.bool false))] [], .asg (.name 5) (.bin .add (.comp (.ix (.var 9) (.cst (.int 1))) (.name 9) .seq [(.var 2)] yes) (.lst [(.tup [(.cst (st [98]))]), (.tup [(.cst (st [97])), (.cst (st [98])), (.cst (st [99]))])])), .wip [6, 7, 8], .for_ (.name 6) .seq [(.var 5)] [.asg (.name 7) (.call 55 [(.var 1), (.var 2), (.var 3), (.var 6)]), .asg (.name 8) (.call 53 [(.var 1), (.var 2), (.var 3), (.var 6)]), .iff (.bor (.cmp .ne (.var 8) (.var 7)) (.blt .isBool [(.var 8)])) [.ret (.cst (.bool false))] []] [6, 7, 8]] [3, 4, 5, 6, 7, 8, 9], .ret (.cst (.bool true))] }
def f58_law : Fn := { np := 1, nl := 15, body := [.asg (.name 1) (.call 20 [(.call 2 [(.var 0), (.cst (.int 0))])]), .asg (.name 2) (.call 22 [(.var 1), (.call 2 [(.var 0), (.cst (.int 1))]), (.cst (.int 10))]), .asg (.name 3) (.blt .dict [(.ix (.var 1) (.cst (.int 0)))]), .wip [4, 5, 6, 7, 8, 9, 10, 11, 12, 13, 14], .for_ (.tup [(.name 4), (.name 5)]) .seq [(.ix (.var 1) (.cst (.int 0)))] [.asg (.name 6) (.call 54 [(.var 1), (.var 2), (.var 4)]), .iff (.cmp .ne (.call 54 [(.var 1), (.stp (.var 2) (.cst .none) (.neg (.cst (.int 1)))), (.var 4)]) (.var 6)) [.ret (.cst (.bool false))] [], .wip [7, 13, 14], .for_ (.name 7) .seq [(.var 2)] [.asg (.tup [(.name 13), (.name 14)]) (.tup [(.call 53 [(.var 1), (.var 2), (.var 4), (.ix (.var 7) (.cst (.int 1)))]), (.call 53 [(.var 1), (.stp (.var 2) (.cst .none) (.neg (.cst (.int 1)))), (.var 4), (.ix (.var 7) (.cst (.int 1)))])]), .iff (.bor (.cmp .ne (.cmp .is (.var 13) (.cst .none)) (.cmp .is (.var 14) (.cst .none))) (.band (.cmp .isnot (.var 13) (.cst .none)) (.cmp .ne (.bin .add (.var 13) (.var 14)) (.bin .sub (.blt .len [(.var 2)]) (.cst (.int 1)))))) [.ret (.cst (.bool false))] []] [7, 13, 14], .own 8 (.lst [(.var 4)]), .wip [], .whl (.cmp .isnot (.ix (.var 3) (.ix (.var 8) (.neg (.cst (.int 1))))) (.cst .none)) [.app 8 (.ix (.var 3) (.ix (.var 8) (.neg (.cst (.int 1)))))] [], .iff (.cmp .ne (.call 54 [(.var 1), (.blt .tuple [(.comp (.var 7) (.name 7) .seq [(.var 2)] (.cmp .isin (.ix (.var 7) (.cst (.int 0))) (.var 8)))]), (.var 4)]) (.var 6)) [.ret (.cst (.bool false))] [], .iff (.cmp .eq (.comp (.var 7) (.name 7) .seq [(.var 2)] (.cmp .eq (.ix (.var 7) (.cst (.int 0))) (.var 4))) (.lst [])) [.asg (.name 12) (.tup []), .iff (.cmp .isnot (.var 5) (.cst .none)) [.asg (.name 12) (.call 54 [(.var 1), (.var 2), (.var 5)])] [], .iff (.cmp .ne (.var 6) (.var 12)) [.ret (.cst (.bool false))] []] [], .asg (.name 9) (.slc (.blt .tuple [(.comp (.var 7) (.name 7) .seq [(.var 2)] (.cmp .ne (.slc (.var 7) (.cst .none) (.cst (.int 2))) (.tup [(.var 4), (.tup [(.cst (st [97]))])])))]) (.cst .none) (.cst (.int 11))), .asg (.name 10) (.bin .add (.var 9) (.tup [(.tup [(.var 4), (.tup [(.cst (st [97]))]), (.cst (st [102, 114, 101, 115, 104]))])])), .iff (.bor (.cmp .ne (.ix (.blt .dict [(.call 54 [(.var 1), (.var 10), (.var 4)])]) (.tup [(.cst (st [97]))])) (.cst (st [102, 114, 101, 115, 104]))) (.cmp .ne (.call 53 [(.var 1), (.var 10), (.var 4), (.tup [(.cst (st [97]))])]) (.blt .len [(.var 9)]))) [.ret (.cst (.bool false))] [], .asg (.name 11) (.bin .add (.var 9) (.tup [(.tup [(.var 4), (.tup [(.cst (st [97]))]), (.cst .none)])])), .iff (.bor (.cmp .isin (.tup [(.cst (st [97]))]) (.blt .dict [(.call 54 [(.var 1), (.var 11), (.var 4)])])) (.cmp .ne (.call 53 [(.var 1), (.var 11), (.var 4), (.tup [(.cst (st [97]))])]) (.blt .len [(.var 9)]))) [.ret (.cst (.bool false))] []] [4, 5, 6, 7, 8, 9, 10, 11, 12, 13, 14], .ret (.cst (.bool true))] }
def f59_begin : Fn := { np := 1, nl := 1, body := [.ret (.tup [(.ix (.ix (.ix (.var 0) (.cst (.int 0))) (.cst (.int 0))) (.cst (.int 0))), (.tup []), (.cst (.int 0))])] }
def f60_goes_on : Fn := { np := 2, nl := 3, body := [.ret (.blt .any [(.comp (.band (.cmp .gt (.blt .len [(.var 2)]) (.blt .len [(.var 1)])) (.cmp .eq (.slc (.var 2) (.cst .none) (.blt .len [(.var 1)])) (.var 1))) (.name 2) .seq [(.var 0)] yes)])] }
def f61_with_deed : Fn := { np := 3, nl := 3, body := [.ret (.tup [(.tup [(.mth .get (.blt .dict [(.ix (.var 0) (.cst (.int 1)))]) [(.var 2), (.var 1)]), (.tup []), (.cst (.int 0))]), (.tup [(.tup [(.cst (st [100, 101, 101, 100])), (.var 2)])])])] }
def f62_settled : Fn := { np := 3, nl := 7, body := [.asg (.tup [(.name 4), (.name 5), (.name 6)]) (.var 2), .asg (.name 3) (.blt .dict [(.call 54 [(.var 0), (.var 1), (.var 4)])]), .iff (.cmp .isin (.var 5) (.var 3)) [.ret (.call 61 [(.var 0), (.var 4), (.ix (.var 3) (.var 5))])] [], .ret (.tup [(.tup [(.var 4), (.tup []), (.cst (.int 0))]), (.tup [(.tup [(.cst (st [108, 111, 115, 116])), (.var 5)])])])] }
def f63_passed : Fn := { np := 5, nl := 5, body := [.iff (.band (.cmp .gt (.blt .len [(.ix (.var 3) (.cst (.int 1)))]) (.cst (.int 0))) (.cmp .ge (.var 4) (.bin .add (.ix (.var 3) (.cst (.int 2))) (.var 2)))) [.ret (.call 62 [(.var 0), (.var 1), (.var 3)])] [], .ret (.tup [(.var 3), (.tup [])])] }
def f64_taken : Fn := { np := 5, nl := 13, body := [.asg (.tup [(.name 7), (.name 8), (.name 9)]) (.var 2), .asg (.name 5) (.blt .dict [(.call 54 [(.var 0), (.var 1), (.var 7)])]), .asg (.name 6) (.bin .add (.var 8) (.tup [(.var 3)])), .iff (.call 60 [(.var 5), (.var 6)]) [.ret (.tup [(.tup [(.var 7), (.var 6), (.var 4)]), (.tup [])])] [], .iff (.cmp .isin (.var 6) (.var 5)) [.ret (.call 61 [(.var 0), (.var 7), (.ix (.var 5) (.var 6))])] [], .iff (.cmp .eq (.blt .len [(.var 8)]) (.cst (.int 0))) [.ret (.tup [(.tup [(.var 7), (.tup []), (.cst (.int 0))]), (.tup [(.tup [(.cst (st [108, 111, 115, 116])), (.var 6)])])])] [], .asg (.tup [(.name 2), (.name 10)]) (.call 62 [(.var 0), (.var 1), (.var 2)]), .asg (.tup [(.name 11), (.name 12)]) (.call 64 [(.var 0), (.var 1), (.var 2), (.var 3), (.var 4)]), .ret (.tup [(.var 11), (.bin .add (.var 10) (.var 12))])] }
def f65_pressed : Fn := { np := 6, nl := 9, body := [.asg (.tup [(.name 3), (.name 6)]) (.call 63 [(.var 0), (.var 1), (.var 2), (.var 3), (.var 5)]), .asg (.tup [(.name 7), (.name 8)]) (.call 64 [(.var 0), (.var 1), (.var 3), (.var 4), (.var 5)]), .ret (.tup [(.var 7), (.bin .add (.var 6) (.var 8))])] }
def f66_run : Fn := { np := 4, nl := 9, body := [.asg (.name 4) (.call 59 [(.var 0)]), .asg (.name 5) (.tup []), .wip [6, 7, 8], .for_ (.tup [(.name 6), (.name 7)]) .seq [(.var 3)] [.asg (.tup [(.name 4), (.name 8)]) (.call 65 [(.var 0), (.var 1), (.var 2), (.var 4), (.var 6), (.var 7)]), .asg (.name 5) (.bin .add (.var 5) (.var 8))] [6, 7, 8], .asg (.tup [(.name 4), (.name 8)]) (.call 63 [(.var 0), (.var 1), (.var 2), (.var 4), (.bin .add (.ix (.var 4) (.cst (.int 2))) (.var 2))]), .ret (.bin .add (.var 5) (.var 8))] }
def f67_without : Fn := { np := 2, nl := 4, body := [.ret (.blt .tuple [(.comp (.var 3) (.tup [(.name 2), (.name 3)]) .enum [(.var 0)] (.cmp .notin (.var 2) (.var 1)))])] }
-- 68 changes: sorted key
def f69_hold_in : Fn := { np := 3, nl := 5, body := [.ret (.comp (.var 3) (.tup [(.name 3), (.name 4)]) .enum [(.var 1)] (.band (.cmp .isnot (.ix (.var 4) (.cst (.int 2))) (.cst .none)) (.cmp .eq (.call 53 [(.var 0), (.var 1), (.var 2), (.ix (.var 4) (.cst (.int 1)))]) (.var 3))))] }
def f70_clashes : Fn := { np := 2, nl := 10, body := [.own 2 (.dct [] []), .wip [3, 4, 5, 6, 7, 8, 9], .for_ (.tup [(.name 3), (.name 4)]) .seq [(.ix (.var 0) (.cst (.int 0)))] [.asg (.name 5) (.call 69 [(.var 0), (.var 1), (.var 3)]), .wip [6, 7, 8, 9], .for_ (.name 6) .seq [(.var 5)] [.wip [7, 8, 9], .for_ (.name 7) .seq [(.var 5)] [.asg (.name 8) (.ix (.ix (.var 1) (.var 6)) (.cst (.int 1))), .asg (.name 9) (.ix (.ix (.var 1) (.var 7)) (.cst (.int 1))), .iff (.band (.cmp .lt (.blt .len [(.var 8)]) (.blt .len [(.var 9)])) (.cmp .eq (.slc (.var 9) (.cst .none) (.blt .len [(.var 8)])) (.var 8))) [.seti 2 (.tup [(.var 6), (.var 7)]) (.cst (.bool true))] []] [7, 8, 9]] [6, 7, 8, 9]] [3, 4, 5, 6, 7, 8, 9], .ret (.blt .tuple [(.blt .sorted [(.var 2)])])] }
def f71_all_rows : Fn := { np := 2, nl := 4, body := [.ret (.comp (.call 54 [(.var 0), (.var 1), (.var 2)]) (.tup [(.name 2), (.name 3)]) .seq [(.ix (.var 0) (.cst (.int 0)))] yes)] }
def f72_useless : Fn := { np := 2, nl := 4, body := [.asg (.name 2) (.call 71 [(.var 0), (.var 1)]), .ret (.blt .tuple [(.comp (.var 3) (.name 3) .range1 [(.blt .len [(.var 1)])] (.cmp .eq (.call 71 [(.var 0), (.call 67 [(.var 1), (.tup [(.var 3)])])]) (.var 2)))])] }
def f73_all_keys : Fn := { np := 1, nl := 3, body := [.own 1 (.lst []), .wip [2], .for_ (.name 2) .seq [(.var 0)] [.ext 1 (.ix (.var 2) (.cst (.int 1)))] [2], .ret (.blt .sortedSet [(.var 1)])] }
def f74_steps_from : Fn := { np := 3, nl := 7, body := [.own 3 (.lst []), .wip [4, 5, 6], .for_ (.name 4) .seq [(.call 73 [(.var 1)])] [.asg (.tup [(.name 5), (.name 6)]) (.call 64 [(.var 0), (.var 1), (.var 2), (.var 4), (.cst (.int 0))]), .app 3 (.tup [(.var 4), (.var 5), (.var 6)])] [4, 5, 6], .iff (.cmp .gt (.blt .len [(.ix (.var 2) (.cst (.int 1)))]) (.cst (.int 0))) [.asg (.tup [(.name 5), (.name 6)]) (.call 62 [(.var 0), (.var 1), (.var 2)]), .app 3 (.tup [(.cst (st [119, 97, 105, 116])), (.var 5), (.var 6)])] [], .frz 3, .ret (.var 3)] }
def f75_steps_to : Fn := { np := 3, nl := 11, body := [.asg (.name 3) (.call 59 [(.var 0)]), .own 4 (.dct [(.var 3)] [(.cst (.bool true))]), .own 5 (.lst [(.tup [(.var 3), (.tup [])])]), .wip [6, 7, 8, 9, 10], .whl (.cmp .gt (.blt .len [(.var 5)]) (.cst (.int 0))) [.pop (.tup [(.name 6), (.name 7)]) 5 (some 0), .wip [8, 9, 10], .for_ (.tup [(.name 8), (.name 9), (.name 10)]) .seq [(.call 74 [(.var 0), (.var 1), (.var 6)])] [.iff (.cmp .isin (.tup [(.cst (st [100, 101, 101, 100])), (.var 2)]) (.var 10)) [.ret (.bin .add (.var 7) (.tup [(.var 8)]))] [], .iff (.cmp .notin (.var 9) (.var 4)) [.seti 4 (.var 9) (.cst (.bool true)), .app 5 (.tup [(.var 9), (.bin .add (.var 7) (.tup [(.var 8)]))])] []] [8, 9, 10]] [6, 7, 8, 9, 10], .ret (.cst .none)] }
def f76_l_presses : Fn := { np := 3, nl := 7, body := [.own 3 (.lst []), .asg (.name 4) (.bin .mod (.bin .fdiv (.var 0) (.cst (.int 64))) (.cst (.int 5))), .wip [5, 6], .for_ (.name 5) .range1 [(.var 1)] [.asg (.name 6) (.bin .fdiv (.call 3 [(.var 0), (.bin .add (.cst (.int 40)) (.var 5))]) (.cst (.int 4))), .asg (.name 4) (.bin .add (.var 4) (.ix (.tup [(.cst (.int 0)), (.cst (.int 1)), (.bin .sub (.var 2) (.cst (.int 1))), (.var 2), (.bin .mul (.cst (.int 2)) (.var 2)), (.cst (.int 0))]) (.bin .mod (.var 6) (.cst (.int 6))))), .app 3 (.tup [(.call 19 [(.bin .fdiv (.var 6) (.cst (.int 8)))]), (.var 4)])] [5, 6], .frz 3, .ret (.var 3)] }
def f77_law : Fn := { np := 1, nl := 21, body := [.asg (.name 1) (.call 20 [(.call 2 [(.var 0), (.cst (.int 0))])]), .asg (.tup [(.name 13), (.name 14)]) (.tup [(.call 22 [(.var 1), (.call 2 [(.var 0), (.cst (.int 1))]), (.cst (.int 8))]), (.call 22 [(.var 1), (.call 2 [(.var 0), (.cst (.int 2))]), (.cst (.int 8))])]), .asg (.name 2) (.dct [(.cst (st [97, 108, 108])), (.cst (st [116, 101, 120, 116])), (.cst (st [109, 97, 105, 108])), (.cst (st [113, 117, 105, 116])), (.cst (st [102, 105, 110, 100])), (.cst (st [122, 111, 111, 109])), (.cst .none)] [(.cst (st [122, 122])), (.cst (st [98])), (.cst (st [121, 97, 114, 100])), (.cst (st [97])), (.cst (st [114, 111, 111, 109])), (.cst (st [99, 101, 108, 108, 97, 114])), (.cst .none)]), .asg (.name 3) (.blt .tuple [(.comp (.tup [(.ix (.var 2) (.var 15)), (.ix (.var 2) (.var 16))]) (.tup [(.name 15), (.name 16)]) .seq [(.ix (.var 1) (.cst (.int 0)))] yes)]), .asg (.name 4) (.tup [(.var 3), (.blt .tuple [(.comp (.tup [(.var 10), (.ix (.var 2) (.var 15))]) (.tup [(.name 10), (.name 15)]) .seq [(.ix (.var 1) (.cst (.int 1)))] yes)])]), .asg (.name 5) (.blt .tuple [(.comp (.bin .add (.tup [(.ix (.var 2) (.ix (.var 20) (.cst (.int 0))))]) (.slc (.var 20) (.cst (.int 1)) (.cst .none))) (.name 20) .seq [(.var 13)] yes)]), .asg (.name 6) (.blt .tuple [(.comp (.bin .add (.tup [(.ix (.var 2) (.ix (.var 20) (.cst (.int 0))))]) (.slc (.var 20) (.cst (.int 1)) (.cst .none))) (.name 20) .seq [(.var 14)] yes)]), .wip [15, 16], .for_ (.tup [(.name 15), (.name 16)]) .seq [(.ix (.var 1) (.cst (.int 0)))] [.iff (.cmp .ne (.call 54 [(.var 4), (.var 5), (.ix (.var 2) (.var 15))]) (.call 54 [(.var 1), (.var 13), (.var 15)])) [.ret (.cst (.bool false))] []] [15, 16], .asg (.name 7) (.call 2 [(.var 0), (.cst (.int 3))]), .asg (.name 8) (.bin .add (.cst (.int 1)) (.bin .mod (.var 7) (.cst (.int 7)))), .asg (.name 9) (.blt .tuple [(.call 76 [(.bin .fdiv (.var 7) (.cst (.int 8))), (.bin .mod (.bin .fdiv (.var 7) (.cst (.int 2048))) (.cst (.int 13))), (.var 8)])]), .iff (.cmp .ne (.call 66 [(.var 4), (.var 5), (.var 8), (.var 9)]) (.call 66 [(.var 1), (.var 13), (.var 8), (.var 9)])) [.ret (.cst (.bool false))] [], .iff (.bor (.cmp .ne (.call 70 [(.var 4), (.var 5)]) (.call 70 [(.var 1), (.var 13)])) (.cmp .ne (.call 72 [(.var 4), (.var 5)]) (.call 72 [(.var 1), (.var 13)]))) [.ret (.cst (.bool false))] [], .wip [10, 17, 18], .for_ (.name 10) .seq [(.tup [(.cst (st [103, 111])), (.cst (st [117, 110, 100, 111]))])] [.asg (.tup [(.name 17), (.name 18)]) (.tup [(.call 75 [(.var 1), (.var 13), (.var 10)]), (.call 75 [(.var 4), (.var 5), (.var 10)])]), .iff (.bor (.cmp .ne (.cmp .is (.var 17) (.cst .none)) (.cmp .is (.var 18) (.cst .none))) (.band (.cmp .isnot (.var 17) (.cst .none)) (.cmp .ne (.blt .len [(.var 17)]) (.blt .len [(.var 18)])))) [.ret (.cst (.bool false))] []] [10, 17, 18], .asg (.name 11) (.comp (.bin .add (.tup [(.ix (.var 2) (.ix (.var 19) (.cst (.int 0))))]) (.slc (.var 19) (.cst (.int 1)) (.cst .none))) (.name 19) .seq [(.call 68 [(.var 1), (.var 13), (.var 14)])] yes), .asg (.name 12) (.blt .list [(.call 68 [(.var 4), (.var 5), (.var 6)])]), .ret (.band (.cmp .eq (.comp (.var 19) (.name 19) .seq [(.var 11)] (.cmp .notin (.var 19) (.var 12))) (.lst [])) (.cmp .eq (.blt .len [(.var 12)]) (.blt .len [(.var 11)])))] }
def f78_hints : Fn := { np := 3, nl := 11, body := [.asg (.tup [(.name 6), (.name 7), (.name 8)]) (.var 2), .asg (.name 3) (.blt .dict [(.call 54 [(.var 0), (.var 1), (.var 6)])]), .own 4 (.lst []), .wip [5, 9, 10], .for_ (.name 5) .seq [(.blt .sortedSet [(.comp (.ix (.var 10) (.blt .len [(.var 7)])) (.name 10) .seq [(.var 3)] (.call 60 [(.dct [(.var 10)] [(.cst (.bool true))]), (.var 7)]))])] [.asg (.name 9) (.bin .add (.var 7) (.tup [(.var 5)])), .iff (.bnot (.call 60 [(.var 3), (.var 9)])) [.app 4 (.tup [(.var 5), (.tup [(.cst (st [100, 101, 101, 100])), (.ix (.var 3) (.var 9))])])] [.iff (.cmp .isin (.var 9) (.var 3)) [.app 4 (.tup [(.var 5), (.tup [(.cst (st [98, 111, 116, 104])), (.ix (.var 3) (.var 9))])])] [.app 4 (.tup [(.var 5), (.tup [(.cst (st [111, 110]))])])]]] [5, 9, 10], .ret (.blt .tuple [(.var 4)])] }
def f79_l_new_told : Fn := { np := 1, nl := 3, body := [.ret (.blt .tuple [(.comp (.ife (.cmp .eq (.var 1) (.cst (st [100, 101, 101, 100]))) (.tup [(.var 1), (.bin .add (.cst (st [120])) (.var 2))]) (.tup [(.var 1), (.var 2)])) (.tup [(.name 1), (.name 2)]) .seq [(.var 0)] yes)])] }
def f80_law : Fn := { np := 1, nl := 20, body := [.asg (.name 1) (.call 20 [(.call 2 [(.var 0), (.cst (.int 0))])]), .asg (.name 2) (.call 22 [(.var 1), (.call 2 [(.var 0), (.cst (.int 1))]), (.cst (.int 10))]), .asg (.name 3) (.tup [(.ix (.var 1) (.cst (.int 0))), (.blt .tuple [(.comp (.tup [(.bin .add (.cst (st [120])) (.var 10)), (.var 8)]) (.tup [(.name 10), (.name 8)]) .seq [(.ix (.var 1) (.cst (.int 1)))] yes)])]), .asg (.name 4) (.tup []), .wip [8, 9, 10, 11], .for_ (.tup [(.name 8), (.name 9), (.name 10)]) .seq [(.var 2)] [.asg (.name 11) (.cst .none), .iff (.cmp .isnot (.var 10) (.cst .none)) [.asg (.name 11) (.bin .add (.cst (st [120])) (.var 10))] [], .asg (.name 4) (.bin .add (.var 4) (.tup [(.tup [(.var 8), (.var 9), (.var 11)])]))] [8, 9, 10, 11], .wip [8, 9, 10, 12], .for_ (.tup [(.name 8), (.name 12)]) .seq [(.ix (.var 1) (.cst (.int 0)))] [.iff (.cmp .ne (.call 54 [(.var 3), (.var 4), (.var 8)]) (.blt .tuple [(.comp (.tup [(.var 9), (.bin .add (.cst (st [120])) (.var 10))]) (.tup [(.name 9), (.name 10)]) .seq [(.call 54 [(.var 1), (.var 2), (.var 8)])] yes)])) [.ret (.cst (.bool false))] []] [8, 9, 10, 12], .asg (.name 5) (.call 2 [(.var 0), (.cst (.int 2))]), .asg (.name 6) (.bin .add (.cst (.int 1)) (.bin .mod (.var 5) (.cst (.int 7)))), .asg (.name 7) (.blt .tuple [(.call 76 [(.bin .fdiv (.var 5) (.cst (.int 8))), (.bin .mod (.bin .fdiv (.var 5) (.cst (.int 2048))) (.cst (.int 13))), (.var 6)])]), .iff (.cmp .ne (.call 66 [(.var 3), (.var 4), (.var 6), (.var 7)]) (.call 79 [(.call 66 [(.var 1), (.var 2), (.var 6), (.var 7)])])) [.ret (.cst (.bool false))] [], .asg (.tup [(.name 13), (.name 14)]) (.tup [(.call 59 [(.var 1)]), (.call 59 [(.var 3)])]), .wip [15, 16, 17, 18, 19], .for_ (.tup [(.name 15), (.name 16)]) .seq [(.var 7)] [.asg (.name 17) (.tup []), .wip [18, 19], .for_ (.tup [(.name 18), (.name 19)]) .seq [(.call 78 [(.var 1), (.var 2), (.var 13)])] [.iff (.cmp .eq (.blt .len [(.var 19)]) (.cst (.int 2))) [.asg (.name 19) (.tup [(.ix (.var 19) (.cst (.int 0))), (.bin .add (.cst (st [120])) (.ix (.var 19) (.cst (.int 1))))])] [], .asg (.name 17) (.bin .add (.var 17) (.tup [(.tup [(.var 18), (.var 19)])]))] [18, 19], .iff (.bor (.cmp .ne (.call 78 [(.var 3), (.var 4), (.var 14)]) (.var 17)) (.cmp .ne (.var 13) (.var 14))) [.ret (.cst (.bool false))] [], .asg (.name 13) (.ix (.call 65 [(.var 1), (.var 2), (.var 6), (.var 13), (.var 15), (.var 16)]) (.cst (.int 0))), .asg (.name 14) (.ix (.call 65 [(.var 3), (.var 4), (.var 6), (.var 14), (.var 15), (.var 16)]) (.cst (.int 0)))] [15, 16, 17, 18, 19], .ret (.band (.cmp .eq (.call 70 [(.var 3), (.var 4)]) (.call 70 [(.var 1), (.var 2)])) (.cmp .eq (.call 72 [(.var 3), (.var 4)]) (.call 72 [(.var 1), (.var 2)])))] }
def f81_l_settled : Fn := { np := 3, nl := 7, body := [.asg (.tup [(.name 4), (.name 5), (.name 6)]) (.var 2), .asg (.name 3) (.call 56 [(.var 0), (.var 1), (.var 4)]), .iff (.cmp .isin (.var 5) (.var 3)) [.ret (.tup [(.tup [(.mth .get (.blt .dict [(.ix (.var 0) (.cst (.int 1)))]) [(.ix (.var 3) (.var 5)), (.var 4)]), (.tup []), (.cst (.int 0))]), (.lst [(.tup [(.cst (st [100, 101, 101, 100])), (.ix (.var 3) (.var 5))])])])] [], .ret (.tup [(.tup [(.var 4), (.tup []), (.cst (.int 0))]), (.lst [(.tup [(.cst (st [108, 111, 115, 116])), (.var 5)])])])] }
def f82_l_pressed : Fn := { np := 6, nl := 12, body := [.asg (.name 6) (.lst []), .iff (.band (.cmp .ne (.ix (.var 3) (.cst (.int 1))) (.tup [])) (.cmp .ge (.bin .sub (.var 5) (.ix (.var 3) (.cst (.int 2)))) (.var 2))) [.asg (.tup [(.name 3), (.name 6)]) (.call 81 [(.var 0), (.var 1), (.var 3)])] [], .wip [7, 8, 9, 10, 11], .whl (.cst (.bool true)) [.asg (.name 7) (.bin .add (.ix (.var 3) (.cst (.int 1))) (.tup [(.var 4)])), .asg (.name 8) (.call 56 [(.var 0), (.var 1), (.ix (.var 3) (.cst (.int 0)))]), .iff (.cmp .ne (.comp (.var 11) (.name 11) .seq [(.var 8)] (.band (.cmp .ne (.var 11) (.var 7)) (.cmp .eq (.slc (.var 11) (.cst .none) (.blt .len [(.var 7)])) (.var 7)))) (.lst [])) [.ret (.tup [(.tup [(.ix (.var 3) (.cst (.int 0))), (.var 7), (.var 5)]), (.var 6)])] [], .iff (.bor (.cmp .isin (.var 7) (.var 8)) (.cmp .eq (.ix (.var 3) (.cst (.int 1))) (.tup []))) [.asg (.tup [(.name 10), (.name 9)]) (.call 81 [(.var 0), (.var 1), (.tup [(.ix (.var 3) (.cst (.int 0))), (.var 7), (.var 5)])]), .ret (.tup [(.var 10), (.bin .add (.var 6) (.var 9))])] [], .asg (.tup [(.name 3), (.name 9)]) (.call 81 [(.var 0), (.var 1), (.var 3)]), .asg (.name 6) (.bin .add (.var 6) (.var 9))] [7, 8, 9, 10, 11]] }
def f83_law : Fn := { np := 1, nl := 10, body := [.asg (.name 1) (.call 20 [(.call 2 [(.var 0), (.cst (.int 0))])]), .asg (.name 2) (.call 22 [(.var 1), (.call 2 [(.var 0), (.cst (.int 1))]), (.cst (.int 10))]), .asg (.name 3) (.call 2 [(.var 0), (.cst (.int 2))]), .asg (.name 4) (.bin .add (.cst (.int 1)) (.bin .mod (.var 3) (.cst (.int 7)))), .asg (.name 5) (.call 59 [(.var 1)]), .iff (.cmp .ne (.var 5) (.tup [(.ix (.ix (.ix (.var 1) (.cst (.int 0))) (.cst (.int 0))) (.cst (.int 0))), (.tup []), (.cst (.int 0))])) [.ret (.cst (.bool false))] [], .wip [6, 7, 8, 9], .for_ (.tup [(.name 6), (.name 7)]) .seq [(.call 76 [(.call 2 [(.var 0), (.cst (.int 3))]), (.bin .mod (.bin .fdiv (.var 3) (.cst (.int 8))) (.cst (.int 13))), (.var 4)])] [.asg (.name 8) (.blt .max2 [(.ix (.var 5) (.cst (.int 2))), (.bin .sub (.var 7) (.bin .mod (.bin .fdiv (.var 3) (.cst (.int 128))) (.cst (.int 4))))]), .asg (.name 9) (.tup [(.var 5), (.lst [])]), .iff (.band (.cmp .ne (.ix (.var 5) (.cst (.int 1))) (.tup [])) (.cmp .ge (.bin .sub (.var 8) (.ix (.var 5) (.cst (.int 2)))) (.var 4))) [.asg (.name 9) (.call 81 [(.var 1), (.var 2), (.var 5)])] [], .iff (.cmp .ne (.call 63 [(.var 1), (.var 2), (.var 4), (.var 5), (.var 8)]) (.tup [(.ix (.var 9) (.cst (.int 0))), (.blt .tuple [(.ix (.var 9) (.cst (.int 1)))])])) [.ret (.cst (.bool false))] [], .asg (.name 9) (.call 82 [(.var 1), (.var 2), (.var 4), (.var 5), (.var 6), (.var 7)]), .iff (.cmp .ne (.call 65 [(.var 1), (.var 2), (.var 4), (.var 5), (.var 6), (.var 7)]) (.tup [(.ix (.var 9) (.cst (.int 0))), (.blt .tuple [(.ix (.var 9) (.cst (.int 1)))])])) [.ret (.cst (.bool false))] [], .asg (.name 5) (.ix (.var 9) (.cst (.int 0)))] [6, 7, 8, 9], .ret (.cst (.bool true))] }
def f84_law : Fn := { np := 1, nl := 20, body := [.asg (.name 1) (.call 20 [(.call 2 [(.var 0), (.cst (.int 0))])]), .asg (.name 2) (.call 22 [(.var 1), (.call 2 [(.var 0), (.cst (.int 1))]), (.cst (.int 10))]), .asg (.name 3) (.call 2 [(.var 0), (.cst (.int 2))]), .asg (.name 4) (.bin .add (.cst (.int 1)) (.bin .mod (.var 3) (.cst (.int 7)))), .asg (.name 5) (.call 76 [(.call 2 [(.var 0), (.cst (.int 3))]), (.bin .mod (.bin .fdiv (.var 3) (.cst (.int 8))) (.cst (.int 13))), (.var 4)]), .asg (.name 6) (.call 59 [(.var 1)]), .asg (.name 7) (.tup []), .wip [9, 10, 11], .for_ (.tup [(.name 9), (.name 10)]) .seq [(.var 5)] [.asg (.tup [(.name 6), (.name 11)]) (.call 65 [(.var 1), (.var 2), (.var 4), (.var 6), (.var 9), (.var 10)]), .asg (.name 7) (.bin .add (.var 7) (.var 11))] [9, 10, 11], .asg (.tup [(.name 6), (.name 11)]) (.call 63 [(.var 1), (.var 2), (.var 4), (.var 6), (.bin .add (.ix (.var 6) (.cst (.int 2))) (.bin .mul (.cst (.int 2)) (.var 4)))]), .asg (.name 7) (.bin .add (.var 7) (.var 11)), .iff (.bor (.cmp .ne (.call 66 [(.var 1), (.var 2), (.var 4), (.blt .tuple [(.var 5)])]) (.var 7)) (.cmp .ne (.ix (.var 6) (.cst (.int 1))) (.tup []))) [.ret (.cst (.bool false))] [], .asg (.name 8) (.lst [(.tup [(.ix (.ix (.ix (.var 1) (.cst (.int 0))) (.cst (.int 0))) (.cst (.int 0))), (.cst (.int 0))])]), .wip [9, 10, 12, 13, 14, 15, 16, 17, 18, 19], .for_ (.tup [(.name 12), (.name 13)]) .seq [(.var 7)] [.own 14 (.lst []), .wip [9, 10, 15, 16, 17, 18, 19], .for_ (.tup [(.name 15), (.name 16)]) .seq [(.var 8)] [.asg (.name 17) (.call 56 [(.var 1), (.var 2), (.var 15)]), .wip [9, 10, 18, 19], .for_ (.name 18) .seq [(.tup [(.cst (.int 1)), (.cst (.int 2)), (.cst (.int 3))])] [.asg (.name 19) (.blt .tuple [(.comp (.var 9) (.tup [(.name 9), (.name 10)]) .seq [(.slc (.var 5) (.var 16) (.bin .add (.var 16) (.var 18)))] yes)]), .iff (.band (.cmp .eq (.blt .len [(.var 19)]) (.var 18)) (.band (.cmp .eq (.var 12) (.cst (st [100, 101, 101, 100]))) (.cmp .eq (.mth .get (.var 17) [(.var 19), (.cst .none)]) (.var 13)))) [.app 14 (.tup [(.mth .get (.blt .dict [(.ix (.var 1) (.cst (.int 1)))]) [(.var 13), (.var 15)]), (.bin .add (.var 16) (.var 18))])] [], .iff (.band (.cmp .eq (.var 12) (.cst (st [108, 111, 115, 116]))) (.band (.cmp .eq (.var 19) (.var 13)) (.cmp .eq (.blt .len [(.var 19)]) (.var 18)))) [.app 14 (.tup [(.var 15), (.bin .add (.var 16) (.var 18))])] []] [9, 10, 18, 19]] [9, 10, 15, 16, 17, 18, 19], .frz 14, .asg (.name 8) (.var 14)] [9, 10, 12, 13, 14, 15, 16, 17, 18, 19], .ret (.cmp .isin (.blt .len [(.var 5)]) (.comp (.var 16) (.tup [(.name 15), (.name 16)]) .seq [(.var 8)] yes))] }
def f85_law : Fn := { np := 1, nl := 18, body := [.asg (.name 1) (.call 20 [(.call 2 [(.var 0), (.cst (.int 0))])]), .asg (.name 2) (.call 22 [(.var 1), (.call 2 [(.var 0), (.cst (.int 1))]), (.cst (.int 10))]), .asg (.name 3) (.call 2 [(.var 0), (.cst (.int 2))]), .asg (.name 4) (.bin .add (.cst (.int 1)) (.bin .mod (.var 3) (.cst (.int 7)))), .asg (.name 5) (.blt .tuple [(.call 76 [(.bin .fdiv (.var 3) (.cst (.int 8))), (.bin .mod (.bin .fdiv (.var 3) (.cst (.int 2048))) (.cst (.int 13))), (.var 4)])]), .asg (.name 6) (.bin .add (.cst (.int 1)) (.bin .mod (.call 2 [(.var 0), (.cst (.int 3))]) (.cst (.int 90)))), .asg (.name 7) (.call 66 [(.var 1), (.var 2), (.var 4), (.var 5)]), .asg (.name 8) (.blt .tuple [(.comp (.tup [(.var 15), (.bin .add (.var 16) (.var 6))]) (.tup [(.name 15), (.name 16)]) .seq [(.var 5)] yes)]), .iff (.cmp .ne (.call 66 [(.var 1), (.var 2), (.var 4), (.var 8)]) (.var 7)) [.ret (.cst (.bool false))] [], .asg (.tup [(.name 9), (.name 10)]) (.tup [(.call 59 [(.var 1)]), (.tup [])]), .iff (.bor (.cmp .ne (.var 9) (.tup [(.ix (.ix (.ix (.var 1) (.cst (.int 0))) (.cst (.int 0))) (.cst (.int 0))), (.tup []), (.cst (.int 0))])) (.cmp .ne (.call 66 [(.var 1), (.var 2), (.var 4), (.tup [])]) (.tup []))) [.ret (.cst (.bool false))] [], .wip [11, 12, 13, 14, 15, 16, 17], .for_ (.tup [(.name 11), (.tup [(.name 15), (.name 16)])]) .enum [(.var 5)] [.asg (.name 12) (.call 63 [(.var 1), (.var 2), (.var 4), (.var 9), (.var 16)]), .iff (.cmp .ne (.call 63 [(.var 1), (.var 2), (.var 4), (.ix (.var 12) (.cst (.int 0))), (.var 16)]) (.tup [(.ix (.var 12) (.cst (.int 0))), (.tup [])])) [.ret (.cst (.bool false))] [], .iff (.cmp .eq (.ix (.ix (.var 12) (.cst (.int 0))) (.cst (.int 1))) (.tup [])) [.iff (.cmp .ne (.call 63 [(.var 1), (.var 2), (.var 4), (.ix (.var 12) (.cst (.int 0))), (.bin .add (.var 16) (.var 6))]) (.tup [(.ix (.var 12) (.cst (.int 0))), (.tup [])])) [.ret (.cst (.bool false))] []] [], .asg (.name 13) (.call 63 [(.var 1), (.var 2), (.var 4), (.var 9), (.bin .add (.var 16) (.bin .mul (.cst (.int 2)) (.var 4)))]), .asg (.name 14) (.call 66 [(.var 1), (.var 2), (.var 4), (.slc (.var 5) (.cst .none) (.var 11))]), .iff (.bor (.cmp .ne (.ix (.ix (.var 13) (.cst (.int 0))) (.cst (.int 1))) (.tup [])) (.cmp .ne (.var 14) (.bin .add (.var 10) (.ix (.var 13) (.cst (.int 1)))))) [.ret (.cst (.bool false))] [], .asg (.tup [(.name 9), (.name 17)]) (.call 65 [(.var 1), (.var 2), (.var 4), (.ix (.var 12) (.cst (.int 0))), (.var 15), (.var 16)]), .asg (.name 10) (.bin .add (.bin .add (.var 10) (.ix (.var 12) (.cst (.int 1)))) (.var 17)), .iff (.cmp .ne (.slc (.var 7) (.cst .none) (.blt .len [(.var 10)])) (.var 10)) [.ret (.cst (.bool false))] []] [11, 12, 13, 14, 15, 16, 17], .ret (.cmp .eq (.var 7) (.bin .add (.var 10) (.ix (.call 63 [(.var 1), (.var 2), (.var 4), (.var 9), (.bin .add (.ix (.var 9) (.cst (.int 2))) (.var 4))]) (.cst (.int 1)))))] }
def f86_law : Fn := { np := 1, nl := 16, body := [.asg (.name 1) (.call 20 [(.call 2 [(.var 0), (.cst (.int 0))])]), .asg (.name 2) (.call 22 [(.var 1), (.call 2 [(.var 0), (.cst (.int 1))]), (.cst (.int 10))]), .asg (.name 3) (.call 2 [(.var 0), (.cst (.int 2))]), .asg (.name 4) (.bin .add (.cst (.int 1)) (.bin .mod (.var 3) (.cst (.int 7)))), .asg (.name 5) (.comp (.call 19 [(.bin .fdiv (.call 3 [(.var 3), (.var 15)]) (.cst (.int 4)))]) (.name 15) .range1 [(.bin .mod (.bin .fdiv (.var 3) (.cst (.int 8))) (.cst (.int 10)))] yes), .asg (.tup [(.name 10), (.name 11)]) (.tup [(.ix (.ix (.ix (.var 1) (.cst (.int 0))) (.cst (.int 0))) (.cst (.int 0))), (.tup [])]), .wip [6, 12], .for_ (.name 6) .seq [(.var 5)] [.asg (.name 12) (.blt .dict [(.call 54 [(.var 1), (.var 2), (.var 10)])]), .iff (.cmp .isin (.tup [(.var 6)]) (.var 12)) [.asg (.name 11) (.bin .add (.var 11) (.tup [(.tup [(.cst (st [100, 101, 101, 100])), (.ix (.var 12) (.tup [(.var 6)]))])])), .asg (.name 10) (.mth .get (.blt .dict [(.ix (.var 1) (.cst (.int 1)))]) [(.ix (.var 12) (.tup [(.var 6)])), (.var 10)])] [.asg (.name 11) (.bin .add (.var 11) (.tup [(.tup [(.cst (st [108, 111, 115, 116])), (.tup [(.var 6)])])]))]] [6, 12], .asg (.name 7) (.blt .tuple [(.comp (.tup [(.var 6), (.bin .mul (.var 4) (.var 15))]) (.tup [(.name 15), (.name 6)]) .enum [(.var 5)] yes)]), .iff (.bor (.cmp .ne (.call 66 [(.var 1), (.var 2), (.var 4), (.var 7)]) (.var 11)) (.cmp .ne (.call 66 [(.var 1), (.var 2), (.cst (.int 1)), (.var 7)]) (.var 11))) [.ret (.cst (.bool false))] [], .asg (.name 8) (.blt .tuple [(.comp (.tup [(.var 6), (.bin .mul (.bin .add (.var 4) (.cst (.int 3))) (.var 15))]) (.tup [(.name 15), (.name 6)]) .enum [(.var 5)] yes)]), .iff (.cmp .ne (.call 66 [(.var 1), (.var 2), (.var 4), (.var 8)]) (.var 11)) [.ret (.cst (.bool false))] [], .asg (.name 9) (.tup []), .wip [6, 13, 14], .for_ (.tup [(.name 13), (.name 14)]) .seq [(.call 66 [(.var 1), (.tup []), (.var 4), (.blt .tuple [(.comp (.tup [(.var 6), (.cst (.int 0))]) (.name 6) .seq [(.var 5)] yes)])])] [.iff (.bor (.cmp .ne (.var 13) (.cst (st [108, 111, 115, 116]))) (.cmp .ne (.blt .len [(.var 14)]) (.cst (.int 1)))) [.ret (.cst (.bool false))] [], .asg (.name 9) (.bin .add (.var 9) (.var 14))] [6, 13, 14], .ret (.cmp .eq (.var 9) (.blt .tuple [(.var 5)]))] }
def f87_l_clashes : Fn := { np := 2, nl := 10, body := [.own 2 (.dct [] []), .wip [3, 4, 5, 6, 7, 8, 9], .for_ (.tup [(.name 3), (.name 4)]) .seq [(.ix (.var 0) (.cst (.int 0)))] [.wip [5, 6, 7, 8, 9], .for_ (.tup [(.name 5), (.name 6)]) .enum [(.var 1)] [.wip [7, 8, 9], .for_ (.name 7) .seq [(.tup [(.cst (.int 1)), (.cst (.int 2))])] [.asg (.name 8) (.call 55 [(.var 0), (.var 1), (.var 3), (.slc (.ix (.var 6) (.cst (.int 1))) (.cst .none) (.var 7))]), .asg (.name 9) (.band (.cmp .isnot (.ix (.var 6) (.cst (.int 2))) (.cst .none)) (.cmp .eq (.call 55 [(.var 0), (.var 1), (.var 3), (.ix (.var 6) (.cst (.int 1)))]) (.var 5))), .iff (.band (.var 9) (.band (.cmp .lt (.var 7) (.blt .len [(.ix (.var 6) (.cst (.int 1)))])) (.band (.cmp .isnot (.var 8) (.cst .none)) (.cmp .isnot (.ix (.ix (.var 1) (.var 8)) (.cst (.int 2))) (.cst .none))))) [.seti 2 (.tup [(.var 8), (.var 5)]) (.cst (.bool true))] []] [7, 8, 9]] [5, 6, 7, 8, 9]] [3, 4, 5, 6, 7, 8, 9], .ret (.blt .tuple [(.blt .sorted [(.var 2)])])] }
def f88_law : Fn := { np := 1, nl := 9, body := [.asg (.name 1) (.call 20 [(.call 2 [(.var 0), (.cst (.int 0))])]), .asg (.name 2) (.call 22 [(.var 1), (.call 2 [(.var 0), (.cst (.int 1))]), (.cst (.int 10))]), .iff (.cmp .ne (.call 70 [(.var 1), (.var 2)]) (.call 87 [(.var 1), (.var 2)])) [.ret (.cst (.bool false))] [], .asg (.name 3) (.comp (.call 56 [(.var 1), (.var 2), (.var 7)]) (.tup [(.name 7), (.name 8)]) .seq [(.ix (.var 1) (.cst (.int 0)))] yes), .own 4 (.lst []), .wip [5, 6, 7, 8], .for_ (.name 5) .range1 [(.blt .len [(.var 2)])] [.asg (.name 6) (.bin .add (.slc (.var 2) (.cst .none) (.var 5)) (.slc (.var 2) (.bin .add (.var 5) (.cst (.int 1))) (.cst .none))), .iff (.cmp .eqs (.comp (.call 56 [(.var 1), (.var 6), (.var 7)]) (.tup [(.name 7), (.name 8)]) .seq [(.ix (.var 1) (.cst (.int 0)))] yes) (.var 3)) [.app 4 (.var 5)] []] [5, 6, 7, 8], .ret (.cmp .eq (.call 72 [(.var 1), (.var 2)]) (.blt .tuple [(.var 4)]))] }
def f89_law : Fn := { np := 1, nl := 15, body := [.asg (.name 1) (.call 20 [(.call 2 [(.var 0), (.cst (.int 0))])]), .asg (.name 2) (.call 22 [(.var 1), (.call 2 [(.var 0), (.cst (.int 1))]), (.cst (.int 10))]), .wip [3, 10, 13, 14], .for_ (.name 3) .range1 [(.cst (.int 12))] [.asg (.name 10) (.call 70 [(.var 1), (.var 2)]), .asg (.name 2) (.call 67 [(.var 2), (.blt .tuple [(.comp (.var 14) (.tup [(.name 13), (.name 14)]) .seq [(.var 10)] yes)])])] [3, 10, 13, 14], .iff (.cmp .ne (.call 70 [(.var 1), (.var 2)]) (.tup [])) [.ret (.cst (.bool false))] [], .asg (.name 4) (.call 2 [(.var 0), (.cst (.int 2))]), .asg (.name 5) (.bin .add (.cst (.int 2)) (.bin .mod (.var 4) (.cst (.int 7)))), .asg (.name 6) (.call 59 [(.var 1)]), .asg (.name 7) (.tup []), .asg (.name 8) (.tup []), .wip [9, 11, 12], .for_ (.name 9) .range1 [(.bin .mod (.bin .fdiv (.var 4) (.cst (.int 8))) (.cst (.int 13)))] [.asg (.name 11) (.call 19 [(.bin .fdiv (.call 3 [(.var 4), (.var 9)]) (.cst (.int 4)))]), .asg (.tup [(.name 6), (.name 12)]) (.call 65 [(.var 1), (.var 2), (.var 5), (.var 6), (.var 11), (.cst (.int 5))]), .iff (.cmp .isin (.ix (.var 6) (.cst (.int 1))) (.blt .dict [(.call 54 [(.var 1), (.var 2), (.ix (.var 6) (.cst (.int 0)))])])) [.ret (.cst (.bool false))] [], .asg (.name 7) (.bin .add (.var 7) (.tup [(.tup [(.var 11), (.cst (.int 0))])])), .asg (.name 8) (.bin .add (.var 8) (.tup [(.tup [(.var 11), (.bin .mul (.var 9) (.bin .sub (.var 5) (.cst (.int 1))))])]))] [9, 11, 12], .ret (.cmp .eq (.call 66 [(.var 1), (.var 2), (.var 5), (.var 7)]) (.call 66 [(.var 1), (.var 2), (.var 5), (.var 8)]))] }
def f90_choices : Fn := { np := 2, nl := 8, body := [.asg (.name 2) (.lst [(.tup [])]), .wip [3, 4, 5, 6, 7], .for_ (.name 3) .range1 [(.var 1)] [.own 4 (.lst []), .wip [5, 6, 7], .for_ (.name 5) .seq [(.var 2)] [.asg (.name 6) (.cst (.int 0)), .iff (.cmp .gt (.blt .len [(.var 5)]) (.cst (.int 0))) [.asg (.name 6) (.bin .add (.ix (.var 5) (.neg (.cst (.int 1)))) (.cst (.int 1)))] [], .ext 4 (.comp (.bin .add (.var 5) (.tup [(.var 7)])) (.name 7) .range2 [(.var 6), (.var 0)] yes)] [5, 6, 7], .frz 4, .asg (.name 2) (.var 4)] [3, 4, 5, 6, 7], .ret (.var 2)] }
def f91_cleared : Fn := { np := 2, nl := 4, body := [.wip [2, 3], .for_ (.name 2) .range1 [(.bin .add (.blt .len [(.var 1)]) (.cst (.int 1)))] [.wip [3], .for_ (.name 3) .seq [(.call 90 [(.blt .len [(.var 1)]), (.var 2)])] [.iff (.cmp .eq (.call 70 [(.var 0), (.call 67 [(.var 1), (.var 3)])]) (.tup [])) [.ret (.var 3)] []] [3]] [2, 3], .ret (.tup [])] }
def f92_l_once : Fn := { np := 1, nl := 8, body := [.asg (.name 1) (.call 20 [(.call 2 [(.var 0), (.cst (.int 0))])]), .asg (.name 2) (.call 22 [(.var 1), (.call 2 [(.var 0), (.cst (.int 1))]), (.cst (.int 6))]), .asg (.name 3) (.call 91 [(.var 1), (.var 2)]), .iff (.bor (.bnot (.blt .isTuple [(.var 3)])) (.cmp .ne (.blt .list [(.var 3)]) (.blt .sortedSet [(.var 3)]))) [.ret (.cst (.bool false))] [], .iff (.cmp .ne (.comp (.var 6) (.name 6) .seq [(.var 3)] (.bor (.bnot (.blt .isInt [(.var 6)])) (.bor (.blt .isBool [(.var 6)]) (.bnot (.chain .le .lt (.cst (.int 0)) (.var 6) (.blt .len [(.var 2)])))))) (.lst [])) [.ret (.cst (.bool false))] [], .iff (.cmp .ne (.call 87 [(.var 1), (.blt .tuple [(.comp (.var 7) (.tup [(.name 6), (.name 7)]) .enum [(.var 2)] (.cmp .notin (.var 6) (.var 3)))])]) (.tup [])) [.ret (.cst (.bool false))] [], .own 4 (.lst [(.tup [(.tup []), (.cst (.int 0))])]), .wip [5, 6], .whl (.cmp .ne (.var 4) (.lst [])) [.pop (.tup [(.name 5), (.name 6)]) 4 none, .iff (.cmp .eq (.var 6) (.blt .len [(.var 2)])) [.iff (.band (.cmp .lt (.bin .sub (.blt .len [(.var 2)]) (.blt .len [(.var 5)])) (.blt .len [(.var 3)])) (.cmp .eq (.call 87 [(.var 1), (.var 5)]) (.tup []))) [.ret (.cst (.bool false))] []] [.app 4 (.tup [(.bin .add (.var 5) (.tup [(.ix (.var 2) (.var 6))])), (.bin .add (.var 6) (.cst (.int 1)))]), .iff (.cmp .lt (.bin .sub (.bin .add (.var 6) (.cst (.int 1))) (.blt .len [(.var 5)])) (.blt .len [(.var 3)])) [.app 4 (.tup [(.var 5), (.bin .add (.var 6) (.cst (.int 1)))])] []]] [5, 6], .ret (.cst (.bool true))] }
def f93_law : Fn := { np := 1, nl := 2, body := [.ret (.band (.call 92 [(.var 0)]) (.call 92 [(.comp (.bin .add (.var 1) (.cst (.int 1))) (.name 1) .seq [(.stp (.var 0) (.cst .none) (.neg (.cst (.int 1))))] yes)]))] }
def f94_law : Fn := { np := 1, nl := 15, body := [.asg (.name 1) (.call 20 [(.call 2 [(.var 0), (.cst (.int 0))])]), .asg (.name 2) (.call 22 [(.var 1), (.call 2 [(.var 0), (.cst (.int 1))]), (.cst (.int 7))]), .asg (.name 3) (.comp (.var 12) (.tup [(.name 12), (.name 13)]) .seq [(.ix (.var 1) (.cst (.int 0)))] yes), .asg (.name 4) (.comp (.call 54 [(.var 1), (.var 2), (.var 12)]) (.name 12) .seq [(.var 3)] yes), .asg (.name 5) (.tup []), .wip [6, 9, 12], .for_ (.name 6) .range1 [(.blt .len [(.var 2)])] [.asg (.name 9) (.call 67 [(.var 2), (.tup [(.var 6)])]), .iff (.cmp .ne (.var 9) (.bin .add (.slc (.var 2) (.cst .none) (.var 6)) (.slc (.var 2) (.bin .add (.var 6) (.cst (.int 1))) (.cst .none)))) [.ret (.cst (.bool false))] [], .iff (.cmp .eq (.comp (.call 54 [(.var 1), (.var 9), (.var 12)]) (.name 12) .seq [(.var 3)] yes) (.var 4)) [.asg (.name 5) (.bin .add (.var 5) (.tup [(.var 6)]))] []] [6, 9, 12], .iff (.bor (.cmp .ne (.call 72 [(.var 1), (.var 2)]) (.var 5)) (.bor (.cmp .ne (.call 67 [(.var 2), (.tup [])]) (.var 2)) (.cmp .ne (.call 67 [(.var 2), (.blt .tupRange [(.blt .len [(.var 2)])])]) (.tup [])))) [.ret (.cst (.bool false))] [], .asg (.name 7) (.call 70 [(.var 1), (.var 2)]), .wip [9, 10, 11, 14], .for_ (.tup [(.name 10), (.name 11)]) .seq [(.var 7)] [.iff (.bor (.cmp .ne (.slc (.ix (.ix (.var 2) (.var 11)) (.cst (.int 1))) (.cst .none) (.blt .len [(.ix (.ix (.var 2) (.var 10)) (.cst (.int 1)))])) (.ix (.ix (.var 2) (.var 10)) (.cst (.int 1)))) (.cmp .le (.blt .len [(.ix (.ix (.var 2) (.var 11)) (.cst (.int 1)))]) (.blt .len [(.ix (.ix (.var 2) (.var 10)) (.cst (.int 1)))]))) [.ret (.cst (.bool false))] [], .asg (.name 9) (.call 67 [(.var 2), (.tup [(.var 11)])]), .iff (.cmp .ne (.comp (.var 14) (.name 14) .seq [(.call 70 [(.var 1), (.var 9)])] (.cmp .eq (.ix (.var 9) (.ix (.var 14) (.cst (.int 1)))) (.ix (.var 2) (.var 11)))) (.lst [])) [.ret (.cst (.bool false))] []] [9, 10, 11, 14], .asg (.name 8) (.call 91 [(.var 1), (.var 2)]), .iff (.bor (.cmp .ne (.call 70 [(.var 1), (.call 67 [(.var 2), (.var 8)])]) (.tup [])) (.cmp .ne (.cmp .eq (.var 8) (.tup [])) (.cmp .eq (.var 7) (.tup [])))) [.ret (.cst (.bool false))] [], .ret (.cmp .eq (.blt .tuple [(.blt .sortedSet [(.var 8)])]) (.var 8))] }
def f95_law : Fn := { np := 1, nl := 19, body := [.asg (.name 1) (.call 20 [(.call 2 [(.var 0), (.cst (.int 0))])]), .asg (.name 2) (.call 22 [(.var 1), (.call 2 [(.var 0), (.cst (.int 1))]), (.cst (.int 10))]), .asg (.name 3) (.call 2 [(.var 0), (.cst (.int 2))]), .asg (.name 4) (.call 59 [(.var 1)]), .wip [5, 16], .for_ (.name 5) .range1 [(.bin .mod (.var 3) (.cst (.int 7)))] [.asg (.tup [(.name 4), (.name 16)]) (.call 65 [(.var 1), (.var 2), (.cst (.int 9)), (.var 4), (.call 19 [(.bin .fdiv (.call 3 [(.var 3), (.var 5)]) (.cst (.int 4)))]), (.cst (.int 3))])] [5, 16], .asg (.tup [(.name 12), (.name 13), (.name 14)]) (.var 4), .asg (.name 6) (.call 56 [(.var 1), (.var 2), (.var 12)]), .own 7 (.dct [] []), .wip [8, 10, 17, 18], .for_ (.name 8) .seq [(.var 6)] [.iff (.band (.cmp .gt (.blt .len [(.var 8)]) (.blt .len [(.var 13)])) (.cmp .eq (.slc (.var 8) (.cst .none) (.blt .len [(.var 13)])) (.var 13))) [.asg (.name 10) (.ix (.var 8) (.blt .len [(.var 13)])), .asg (.name 17) (.comp (.var 18) (.name 18) .seq [(.var 6)] (.band (.cmp .gt (.blt .len [(.var 18)]) (.bin .add (.blt .len [(.var 13)]) (.cst (.int 1)))) (.cmp .eq (.slc (.var 18) (.cst .none) (.bin .add (.blt .len [(.var 13)]) (.cst (.int 1)))) (.bin .add (.var 13) (.tup [(.var 10)]))))), .seti 7 (.var 10) (.tup [(.cst (st [111, 110]))]), .iff (.cmp .isin (.bin .add (.var 13) (.tup [(.var 10)])) (.var 6)) [.seti 7 (.var 10) (.tup [(.ix (.lst [(.cst (st [100, 101, 101, 100])), (.cst (st [98, 111, 116, 104]))]) (.blt .int [(.cmp .ne (.var 17) (.lst []))])), (.ix (.var 6) (.bin .add (.var 13) (.tup [(.var 10)])))])] []] []] [8, 10, 17, 18], .asg (.name 9) (.call 78 [(.var 1), (.var 2), (.var 4)]), .iff (.cmp .ne (.var 9) (.blt .tuple [(.blt .itemsSorted [(.var 7)])])) [.ret (.cst (.bool false))] [], .asg (.name 10) (.call 19 [(.bin .fdiv (.var 3) (.cst (.int 64)))]), .asg (.tup [(.name 15), (.name 16)]) (.call 65 [(.var 1), (.var 2), (.cst (.int 9)), (.var 4), (.var 10), (.cst (.int 3))]), .asg (.name 11) (.mth .get (.var 7) [(.var 10), (.cst .none)]), .iff (.cmp .is (.var 11) (.cst .none)) [.ret (.bor (.cmp .ne (.var 16) (.tup [])) (.cmp .ne (.ix (.var 15) (.cst (.int 1))) (.bin .add (.var 13) (.tup [(.var 10)]))))] [], .iff (.cmp .eq (.ix (.var 11) (.cst (.int 0))) (.cst (st [100, 101, 101, 100]))) [.ret (.band (.cmp .eq (.var 16) (.tup [(.var 11)])) (.cmp .eq (.ix (.var 15) (.cst (.int 1))) (.tup [])))] [], .ret (.band (.cmp .eq (.var 16) (.tup [])) (.cmp .eq (.var 15) (.tup [(.var 12), (.bin .add (.var 13) (.tup [(.var 10)])), (.cst (.int 3))])))] }
def f96_l_all : Fn := { np := 3, nl := 7, body := [.own 3 (.dct [] []), .wip [4, 6], .for_ (.name 4) .seq [(.var 1)] [.wip [6], .for_ (.name 6) .seq [(.ix (.var 4) (.cst (.int 1)))] [.seti 3 (.var 6) (.cst (.bool true))] [6]] [4, 6], .own 5 (.lst []), .frz 3, .wip [6], .for_ (.name 6) .seq [(.var 3)] [.app 5 (.bin .add (.tup [(.var 6)]) (.call 82 [(.var 0), (.var 1), (.cst (.int 9)), (.tup [(.ix (.var 2) (.cst (.int 0))), (.ix (.var 2) (.cst (.int 1))), (.cst (.int 0))]), (.var 6), (.cst (.int 0))]))] [6], .iff (.cmp .ne (.ix (.var 2) (.cst (.int 1))) (.tup [])) [.app 5 (.bin .add (.tup [(.cst (st [119, 97, 105, 116]))]) (.call 81 [(.var 0), (.var 1), (.var 2)]))] [], .frz 5, .ret (.var 5)] }
def f97_law : Fn := { np := 1, nl := 14, body := [.asg (.name 1) (.call 20 [(.call 2 [(.var 0), (.cst (.int 0))])]), .asg (.name 2) (.call 22 [(.var 1), (.call 2 [(.var 0), (.cst (.int 1))]), (.cst (.int 8))]), .asg (.name 3) (.ix (.lst [(.cst (st [103, 111])), (.cst (st [105, 110])), (.cst (st [111, 117, 116])), (.cst (st [115, 101, 116])), (.cst (st [99, 111, 112, 121])), (.cst (st [117, 110, 100, 111])), (.cst (st [110, 111, 110, 101]))]) (.bin .mod (.call 2 [(.var 0), (.cst (.int 2))]) (.cst (.int 7)))), .asg (.name 4) (.dct [(.tup [(.ix (.ix (.ix (.var 1) (.cst (.int 0))) (.cst (.int 0))) (.cst (.int 0))), (.tup []), (.cst (.int 0))])] [(.cst (.bool true))]), .own 5 (.blt .dict [(.var 4)]), .asg (.name 6) (.cst (.int 0)), .asg (.name 7) (.cst (.int 0)), .wip [9, 10, 11, 12, 13], .whl (.band (.cmp .ne (.var 4) (.dct [] [])) (.cmp .eq (.var 6) (.cst (.int 0)))) [.asg (.name 7) (.bin .add (.var 7) (.cst (.int 1))), .own 12 (.dct [] []), .wip [9, 10, 11, 13], .for_ (.name 9) .seq [(.var 4)] [.wip [10, 11, 13], .for_ (.tup [(.name 11), (.name 13), (.name 10)]) .seq [(.call 96 [(.var 1), (.var 2), (.var 9)])] [.iff (.cmp .isin (.tup [(.cst (st [100, 101, 101, 100])), (.var 3)]) (.var 10)) [.asg (.name 6) (.var 7)] [], .iff (.cmp .notin (.var 13) (.var 5)) [.seti 5 (.var 13) (.cst (.bool true)), .seti 12 (.var 13) (.cst (.bool true))] []] [10, 11, 13]] [9, 10, 11, 13], .frz 12, .asg (.name 4) (.var 12)] [9, 10, 11, 12, 13], .asg (.name 8) (.call 75 [(.var 1), (.var 2), (.var 3)]), .iff (.bor (.cmp .eq (.var 6) (.cst (.int 0))) (.cmp .is (.var 8) (.cst .none))) [.ret (.band (.cmp .eq (.var 6) (.cst (.int 0))) (.cmp .is (.var 8) (.cst .none)))] [], .iff (.bor (.bnot (.blt .isTuple [(.var 8)])) (.cmp .ne (.blt .len [(.var 8)]) (.var 6))) [.ret (.cst (.bool false))] [], .asg (.name 9) (.tup [(.ix (.ix (.ix (.var 1) (.cst (.int 0))) (.cst (.int 0))) (.cst (.int 0))), (.tup []), (.cst (.int 0))]), .asg (.name 10) (.lst []), .wip [11], .for_ (.name 11) .seq [(.var 8)] [.iff (.bor (.cmp .isin (.tup [(.cst (st [100, 101, 101, 100])), (.var 3)]) (.var 10)) (.band (.cmp .eq (.var 11) (.cst (st [119, 97, 105, 116]))) (.cmp .eq (.ix (.var 9) (.cst (.int 1))) (.tup [])))) [.ret (.cst (.bool false))] [], .iff (.cmp .eq (.var 11) (.cst (st [119, 97, 105, 116]))) [.asg (.tup [(.name 9), (.name 10)]) (.call 81 [(.var 1), (.var 2), (.var 9)])] [.asg (.tup [(.name 9), (.name 10)]) (.call 82 [(.var 1), (.var 2), (.cst (.int 9)), (.var 9), (.var 11), (.cst (.int 0))])]] [11], .ret (.cmp .isin (.tup [(.cst (st [100, 101, 101, 100])), (.var 3)]) (.var 10))] }
def f98_over : Fn := { np := 2, nl := 6, body := [.asg (.name 2) (.blt .dict [(.comp (.tup [(.slc (.var 5) (.cst .none) (.cst (.int 2))), (.ix (.var 5) (.cst (.int 2)))]) (.name 5) .seq [(.var 1)] yes)]), .asg (.name 3) (.comp (.bin .add (.slc (.var 5) (.cst .none) (.cst (.int 2))) (.tup [(.mth .get (.var 2) [(.slc (.var 5) (.cst .none) (.cst (.int 2))), (.ix (.var 5) (.cst (.int 2)))])])) (.name 5) .seq [(.var 0)] yes), .asg (.name 4) (.comp (.slc (.var 5) (.cst .none) (.cst (.int 2))) (.name 5) .seq [(.var 0)] yes), .ret (.blt .tuple [(.bin .add (.var 3) (.comp (.var 5) (.name 5) .seq [(.var 1)] (.cmp .notin (.slc (.var 5) (.cst .none) (.cst (.int 2))) (.var 4))))])] }
def f99_exchanged_key : Fn := { np := 3, nl := 3, body := [.ret (.mth .get (.dct [(.var 1), (.var 2)] [(.var 2), (.var 1)]) [(.var 0), (.var 0)])] }
def f100_exchanged : Fn := { np := 3, nl := 8, body := [.own 3 (.lst []), .wip [4, 5, 6, 7], .for_ (.tup [(.name 4), (.name 5), (.name 6)]) .seq [(.var 0)] [.app 3 (.tup [(.var 4), (.blt .tuple [(.comp (.call 99 [(.var 7), (.var 1), (.var 2)]) (.name 7) .seq [(.var 5)] yes)]), (.var 6)])] [4, 5, 6, 7], .ret (.blt .tuple [(.var 3)])] }
def f101_l_over : Fn := { np := 2, nl := 6, body := [.own 2 (.lst []), .wip [3, 4, 5], .for_ (.name 3) .seq [(.var 0)] [.asg (.name 4) (.comp (.var 5) (.name 5) .seq [(.var 1)] (.cmp .eq (.slc (.var 5) (.cst .none) (.cst (.int 2))) (.slc (.var 3) (.cst .none) (.cst (.int 2))))), .app 2 (.ix (.bin .add (.var 4) (.lst [(.var 3)])) (.cst (.int 0)))] [3, 4, 5], .ret (.blt .tuple [(.bin .add (.var 2) (.comp (.var 5) (.name 5) .seq [(.var 1)] (.cmp .notin (.slc (.var 5) (.cst .none) (.cst (.int 2))) (.comp (.slc (.var 3) (.cst .none) (.cst (.int 2))) (.name 3) .seq [(.var 0)] yes))))])] }
-- 102 _law_changes: sorted key
def f103_l_turned : Fn := { np := 3, nl := 5, body := [.asg (.name 3) (.tup []), .wip [4], .for_ (.name 4) .seq [(.var 0)] [.iff (.cmp .eq (.var 4) (.var 1)) [.asg (.name 4) (.var 2)] [.iff (.cmp .eq (.var 4) (.var 2)) [.asg (.name 4) (.var 1)] []], .asg (.name 3) (.bin .add (.var 3) (.tup [(.var 4)]))] [4], .ret (.var 3)] }
def f104_law : Fn := { np := 1, nl := 16, body := [.asg (.name 1) (.call 20 [(.call 2 [(.var 0), (.cst (.int 0))])]), .asg (.name 2) (.call 22 [(.var 1), (.call 2 [(.var 0), (.cst (.int 1))]), (.cst (.int 10))]), .asg (.name 3) (.call 22 [(.var 1), (.call 2 [(.var 0), (.cst (.int 2))]), (.cst (.int 7))]), .asg (.name 4) (.comp (.slc (.var 7) (.cst .none) (.cst (.int 2))) (.name 7) .seq [(.var 3)] yes), .iff (.cmp .eq (.bin .mod (.call 2 [(.var 0), (.cst (.int 3))]) (.cst (.int 2))) (.cst (.int 1))) [.asg (.name 3) (.bin .add (.var 3) (.blt .tuple [(.comp (.bin .add (.slc (.var 14) (.cst .none) (.cst (.int 2))) (.tup [(.cst (st [110, 101, 119]))])) (.name 14) .seq [(.stp (.var 2) (.cst .none) (.cst (.int 2)))] (.cmp .notin (.slc (.var 14) (.cst .none) (.cst (.int 2))) (.var 4)))]))] [], .iff (.cmp .ne (.call 98 [(.var 2), (.var 3)]) (.call 101 [(.var 2), (.var 3)])) [.ret (.cst (.bool false))] [], .asg (.name 5) (.call 2 [(.var 0), (.cst (.int 4))]), .asg (.name 6) (.blt .tuple [(.comp (.var 10) (.name 10) .range1 [(.cst (.int 12))] (.cmp .eq (.bin .mod (.bin .fdiv (.call 3 [(.var 5), (.var 10)]) (.cst (.int 4))) (.cst (.int 3))) (.cst (.int 0))))]), .iff (.cmp .ne (.call 67 [(.var 2), (.var 6)]) (.blt .tuple [(.comp (.var 14) (.tup [(.name 15), (.name 14)]) .enum [(.var 2)] (.cmp .notin (.var 15) (.var 6)))])) [.ret (.cst (.bool false))] [], .iff (.cmp .ne (.call 68 [(.var 1), (.var 2), (.var 3)]) (.call 102 [(.var 1), (.var 2), (.var 3)])) [.ret (.cst (.bool false))] [], .asg (.name 7) (.call 19 [(.bin .fdiv (.var 5) (.cst (.int 16)))]), .asg (.name 8) (.call 19 [(.bin .fdiv (.var 5) (.cst (.int 256)))]), .asg (.name 9) (.blt .tuple [(.comp (.tup [(.var 11), (.call 103 [(.var 12), (.var 7), (.var 8)]), (.var 13)]) (.tup [(.name 11), (.name 12), (.name 13)]) .seq [(.var 2)] yes)]), .ret (.cmp .eq (.call 100 [(.var 2), (.var 7), (.var 8)]) (.var 9))] }
def f105_l_turned : Fn := { np := 3, nl := 5, body := [.asg (.name 3) (.tup []), .wip [4], .for_ (.name 4) .seq [(.var 0)] [.iff (.cmp .eq (.var 4) (.var 1)) [.asg (.name 4) (.var 2)] [.iff (.cmp .eq (.var 4) (.var 2)) [.asg (.name 4) (.var 1)] []], .asg (.name 3) (.bin .add (.var 3) (.tup [(.var 4)]))] [4], .ret (.var 3)] }
def f106_law : Fn := { np := 1, nl := 18, body := [.asg (.name 1) (.call 20 [(.call 2 [(.var 0), (.cst (.int 0))])]), .asg (.name 2) (.call 22 [(.var 1), (.call 2 [(.var 0), (.cst (.int 1))]), (.cst (.int 10))]), .asg (.name 3) (.call 2 [(.var 0), (.cst (.int 2))]), .asg (.name 4) (.bin .add (.cst (.int 1)) (.bin .mod (.var 3) (.cst (.int 7)))), .asg (.name 5) (.call 19 [(.bin .fdiv (.var 3) (.cst (.int 8)))]), .asg (.name 6) (.call 19 [(.bin .fdiv (.var 3) (.cst (.int 128)))]), .asg (.name 7) (.call 76 [(.call 2 [(.var 0), (.cst (.int 3))]), (.bin .mod (.bin .fdiv (.var 3) (.cst (.int 2048))) (.cst (.int 13))), (.var 4)]), .asg (.name 8) (.call 100 [(.var 2), (.var 5), (.var 6)]), .iff (.bor (.cmp .ne (.call 100 [(.var 8), (.var 5), (.var 6)]) (.var 2)) (.cmp .ne (.call 98 [(.var 2), (.var 2)]) (.var 2))) [.ret (.cst (.bool false))] [], .asg (.name 9) (.blt .tuple [(.comp (.bin .add (.call 105 [(.tup [(.var 16)]), (.var 5), (.var 6)]) (.tup [(.var 17)])) (.tup [(.name 16), (.name 17)]) .seq [(.var 7)] yes)]), .asg (.name 10) (.tup []), .wip [12, 13], .for_ (.tup [(.name 12), (.name 13)]) .seq [(.call 66 [(.var 1), (.var 2), (.var 4), (.blt .tuple [(.var 7)])])] [.iff (.cmp .eq (.var 12) (.cst (st [108, 111, 115, 116]))) [.asg (.name 13) (.call 105 [(.var 13), (.var 5), (.var 6)])] [], .asg (.name 10) (.bin .add (.var 10) (.tup [(.tup [(.var 12), (.var 13)])]))] [12, 13], .iff (.cmp .ne (.call 66 [(.var 1), (.var 8), (.var 4), (.var 9)]) (.var 10)) [.ret (.cst (.bool false))] [], .asg (.name 11) (.cst (.bool true)), .wip [14, 15], .for_ (.tup [(.name 14), (.name 15)]) .seq [(.ix (.var 1) (.cst (.int 0)))] [.asg (.name 11) (.band (.var 11) (.cmp .eq (.call 54 [(.var 1), (.var 2), (.var 14)]) (.call 54 [(.var 1), (.var 8), (.var 14)])))] [14, 15], .ret (.cmp .eq (.cmp .eq (.call 68 [(.var 1), (.var 2), (.var 8)]) (.tup [])) (.var 11))] }
def f107_law : Fn := { np := 1, nl := 18, body := [.asg (.name 1) (.call 20 [(.call 2 [(.var 0), (.cst (.int 0))])]), .asg (.tup [(.name 6), (.name 7), (.name 8)]) (.comp (.call 22 [(.var 1), (.call 2 [(.var 0), (.bin .add (.cst (.int 1)) (.var 15))]), (.cst (.int 4))]) (.name 15) .range1 [(.cst (.int 3))] yes), .iff (.cmp .ne (.call 98 [(.call 98 [(.var 6), (.var 7)]), (.var 8)]) (.call 98 [(.var 6), (.call 98 [(.var 7), (.var 8)])])) [.ret (.cst (.bool false))] [], .iff (.bor (.cmp .ne (.call 98 [(.var 6), (.tup [])]) (.var 6)) (.bor (.cmp .ne (.call 98 [(.tup []), (.var 6)]) (.var 6)) (.cmp .ne (.call 98 [(.call 98 [(.var 6), (.var 7)]), (.var 7)]) (.call 98 [(.var 6), (.var 7)])))) [.ret (.cst (.bool false))] [], .asg (.name 2) (.call 98 [(.var 6), (.var 7)]), .asg (.name 3) (.comp (.slc (.var 16) (.cst .none) (.cst (.int 2))) (.name 16) .seq [(.var 6)] yes), .iff (.bor (.cmp .ne (.comp (.var 16) (.name 16) .seq [(.var 7)] (.cmp .notin (.var 16) (.var 2))) (.lst [])) (.cmp .ne (.comp (.slc (.var 16) (.cst .none) (.cst (.int 2))) (.name 16) .seq [(.slc (.var 2) (.cst .none) (.blt .len [(.var 6)]))] yes) (.var 3))) [.ret (.cst (.bool false))] [], .iff (.cmp .ne (.blt .len [(.var 2)]) (.blt .lenSet [(.comp (.slc (.var 16) (.cst .none) (.cst (.int 2))) (.name 16) .seq [(.bin .add (.var 6) (.var 7))] yes)])) [.ret (.cst (.bool false))] [], .asg (.name 4) (.call 2 [(.var 0), (.cst (.int 4))]), .asg (.tup [(.name 9), (.name 10)]) (.tup [(.call 19 [(.var 4)]), (.call 19 [(.bin .fdiv (.var 4) (.cst (.int 16)))])]), .asg (.tup [(.name 11), (.name 12)]) (.tup [(.call 100 [(.var 6), (.var 9), (.var 10)]), (.call 100 [(.var 7), (.var 9), (.var 10)])]), .iff (.cmp .ne (.call 98 [(.var 11), (.var 12)]) (.call 100 [(.var 2), (.var 9), (.var 10)])) [.ret (.cst (.bool false))] [], .iff (.cmp .ne (.call 100 [(.var 6), (.var 9), (.var 9)]) (.var 6)) [.ret (.cst (.bool false))] [], .asg (.name 5) (.call 98 [(.var 7), (.var 6)]), .wip [13, 14, 16, 17], .for_ (.tup [(.name 13), (.name 14)]) .seq [(.ix (.var 1) (.cst (.int 0)))] [.iff (.cmp .eq (.comp (.var 16) (.name 16) .seq [(.var 6)] (.cmp .isin (.slc (.var 16) (.cst .none) (.cst (.int 2))) (.comp (.slc (.var 17) (.cst .none) (.cst (.int 2))) (.name 17) .seq [(.var 7)] yes))) (.lst [])) [.iff (.cmp .ne (.call 54 [(.var 1), (.var 5), (.var 13)]) (.call 54 [(.var 1), (.var 2), (.var 13)])) [.ret (.cst (.bool false))] []] []] [13, 14, 16, 17], .ret (.cmp .eq (.call 100 [(.var 6), (.var 9), (.var 10)]) (.call 100 [(.var 6), (.var 10), (.var 9)]))] }
def f108_law : Fn := { np := 1, nl := 20, body := [.asg (.name 1) (.call 20 [(.call 2 [(.var 0), (.cst (.int 0))])]), .asg (.tup [(.name 6), (.name 7), (.name 8)]) (.comp (.call 22 [(.var 1), (.call 2 [(.var 0), (.bin .add (.cst (.int 1)) (.var 14))]), (.cst (.int 8))]) (.name 14) .range1 [(.cst (.int 3))] yes), .asg (.name 2) (.call 68 [(.var 1), (.var 6), (.var 7)]), .iff (.cmp .ne (.call 68 [(.var 1), (.var 7), (.var 6)]) (.blt .tuple [(.comp (.tup [(.var 9), (.var 10), (.var 12), (.var 11)]) (.tup [(.name 9), (.name 10), (.name 11), (.name 12)]) .seq [(.var 2)] yes)])) [.ret (.cst (.bool false))] [], .iff (.bor (.cmp .ne (.call 68 [(.var 1), (.var 6), (.var 6)]) (.tup [])) (.cmp .ne (.call 68 [(.var 1), (.var 6), (.stp (.var 6) (.cst .none) (.neg (.cst (.int 1))))]) (.tup []))) [.ret (.cst (.bool false))] [], .own 3 (.lst []), .wip [9, 10, 11, 12], .for_ (.tup [(.name 9), (.name 10), (.name 11), (.name 12)]) .seq [(.var 2)] [.iff (.cmp .ne (.mth .get (.blt .dict [(.call 54 [(.var 1), (.var 6), (.var 9)])]) [(.var 10), (.cst .none)]) (.var 11)) [.ret (.cst (.bool false))] [], .iff (.cmp .ne (.mth .get (.blt .dict [(.call 54 [(.var 1), (.var 7), (.var 9)])]) [(.var 10), (.cst .none)]) (.var 12)) [.ret (.cst (.bool false))] [], .iff (.cmp .eq (.var 11) (.var 12)) [.ret (.cst (.bool false))] [], .app 3 (.tup [(.var 9), (.var 10)])] [9, 10, 11, 12], .wip [9, 10, 13, 17, 18], .for_ (.tup [(.name 9), (.name 13)]) .seq [(.ix (.var 1) (.cst (.int 0)))] [.asg (.tup [(.name 17), (.name 18)]) (.tup [(.blt .dict [(.call 54 [(.var 1), (.var 6), (.var 9)])]), (.blt .dict [(.call 54 [(.var 1), (.var 7), (.var 9)])])]), .wip [10], .for_ (.name 10) .seq [(.bin .add (.blt .list [(.var 17)]) (.blt .list [(.var 18)]))] [.iff (.band (.cmp .ne (.mth .get (.var 17) [(.var 10), (.cst .none)]) (.mth .get (.var 18) [(.var 10), (.cst .none)])) (.cmp .notin (.tup [(.var 9), (.var 10)]) (.var 3))) [.ret (.cst (.bool false))] []] [10]] [9, 10, 13, 17, 18], .asg (.name 4) (.bin .add (.var 3) (.comp (.slc (.var 16) (.cst .none) (.cst (.int 2))) (.name 16) .seq [(.call 68 [(.var 1), (.var 7), (.var 8)])] yes)), .iff (.cmp .ne (.comp (.var 16) (.name 16) .seq [(.call 68 [(.var 1), (.var 6), (.var 8)])] (.cmp .notin (.slc (.var 16) (.cst .none) (.cst (.int 2))) (.var 4))) (.lst [])) [.ret (.cst (.bool false))] [], .asg (.name 5) (.blt .dict [(.ix (.var 1) (.cst (.int 0)))]), .wip [14, 15, 16, 19], .for_ (.tup [(.name 14), (.name 15)]) .enum [(.var 6)] [.wip [16, 19], .for_ (.name 16) .seq [(.call 68 [(.var 1), (.var 6), (.call 67 [(.var 6), (.tup [(.var 14)])])])] [.own 19 (.lst [(.ix (.var 16) (.cst (.int 0)))]), .wip [], .whl (.cmp .isnot (.ix (.var 5) (.ix (.var 19) (.neg (.cst (.int 1))))) (.cst .none)) [.app 19 (.ix (.var 5) (.ix (.var 19) (.neg (.cst (.int 1)))))] [], .iff (.bor (.cmp .notin (.ix (.var 15) (.cst (.int 0))) (.var 19)) (.cmp .ne (.ix (.var 16) (.cst (.int 1))) (.ix (.var 15) (.cst (.int 1))))) [.ret (.cst (.bool false))] []] [16, 19]] [14, 15, 16, 19], .ret (.cst (.bool true))] }
def f109_free : Fn := { np := 3, nl := 7, body := [.asg (.name 3) (.comp (.ix (.var 4) (.cst (.int 0))) (.tup [(.name 4), (.name 5)]) .seq [(.call 54 [(.var 0), (.var 1), (.var 2)])] yes), .ret (.blt .tuple [(.comp (.var 6) (.name 6) .seq [(.blt .sorted [(.blt .list [(.bin .add (.glob "LETTERS" (st [97, 98, 99, 100, 101, 102, 103, 104, 105, 106, 107, 108, 109, 110, 111, 112, 113, 114, 115, 116, 117, 118, 119, 120, 121, 122])) (.glob "FIGURES" (st [48, 49, 50, 51, 52, 53, 54, 55, 56, 57])))])])] (.cmp .notin (.var 6) (.var 3)))])] }
def f110_entries : Fn := { np := 3, nl := 10, body := [.asg (.name 3) (.comp (.tup [(.mth .join (.cst (st [32])) [(.var 8)]), (.var 9)]) (.tup [(.name 8), (.name 9)]) .seq [(.call 54 [(.var 0), (.var 1), (.var 2)])] yes), .asg (.name 4) (.blt .maxL [(.bin .add (.lst [(.cst (.int 0))]) (.comp (.blt .len [(.var 8)]) (.tup [(.name 8), (.name 9)]) .seq [(.var 3)] yes))]), .asg (.name 5) (.comp (.bin .add (.bin .add (.mth .ljust (.var 8) [(.var 4)]) (.glob "GAP" (st [32, 32]))) (.var 9)) (.tup [(.name 8), (.name 9)]) .seq [(.var 3)] yes), .asg (.name 6) (.blt .maxL [(.bin .add (.lst [(.cst (.int 0))]) (.comp (.blt .len [(.var 7)]) (.name 7) .seq [(.var 5)] yes))]), .ret (.comp (.mth .ljust (.var 7) [(.var 6)]) (.name 7) .seq [(.var 5)] yes)] }
def f111_sheet : Fn := { np := 4, nl := 8, body := [.asg (.name 4) (.call 110 [(.var 0), (.var 1), (.var 2)]), .iff (.cmp .eq (.blt .len [(.var 4)]) (.cst (.int 0))) [.ret (.tup [])] [], .asg (.name 5) (.blt .max2 [(.cst (.int 1)), (.bin .fdiv (.bin .add (.var 3) (.blt .len [(.glob "GAP" (st [32, 32]))])) (.bin .add (.blt .len [(.ix (.var 4) (.cst (.int 0)))]) (.blt .len [(.glob "GAP" (st [32, 32]))])))]), .asg (.name 6) (.bin .fdiv (.bin .sub (.bin .add (.blt .len [(.var 4)]) (.var 5)) (.cst (.int 1))) (.var 5)), .ret (.blt .tuple [(.comp (.mth .rstrip (.mth .join (.glob "GAP" (st [32, 32])) [(.stp (.var 4) (.var 7) (.var 6))]) [(.cst (st [32]))]) (.name 7) .range1 [(.var 6)] yes)])] }
def f112_law : Fn := { np := 1, nl := 22, body := [.asg (.name 1) (.call 20 [(.call 2 [(.var 0), (.cst (.int 0))])]), .asg (.name 2) (.call 22 [(.var 1), (.call 2 [(.var 0), (.cst (.int 1))]), (.cst (.int 10))]), .asg (.name 3) (.bin .add (.cst (.int 1)) (.bin .mod (.call 2 [(.var 0), (.cst (.int 2))]) (.cst (.int 90)))), .wip [4, 5, 6, 7, 8, 9, 10, 11, 12, 13, 14, 15, 16, 17, 18, 19, 20, 21], .for_ (.tup [(.name 4), (.name 5)]) .seq [(.ix (.var 1) (.cst (.int 0)))] [.asg (.name 6) (.call 56 [(.var 1), (.var 2), (.var 4)]), .asg (.name 7) (.comp (.ix (.var 17) (.cst (.int 0))) (.name 17) .seq [(.var 6)] yes), .asg (.name 8) (.cst (st [48, 49, 50, 51, 52, 53, 54, 55, 56, 57, 97, 98, 99, 100, 101, 102, 103, 104, 105, 106, 107, 108, 109, 110, 111, 112, 113, 114, 115, 116, 117, 118, 119, 120, 121, 122])), .iff (.cmp .ne (.call 109 [(.var 1), (.var 2), (.var 4)]) (.blt .tuple [(.comp (.var 21) (.name 21) .seq [(.var 8)] (.cmp .notin (.var 21) (.var 7)))])) [.ret (.cst (.bool false))] [], .asg (.name 9) (.comp (.tup [(.mth .join (.cst (st [32])) [(.var 17)]), (.ix (.var 6) (.var 17))]) (.name 17) .seq [(.blt .sorted [(.var 6)])] yes), .asg (.name 10) (.blt .maxL [(.bin .add (.lst [(.cst (.int 0))]) (.comp (.blt .len [(.var 16)]) (.tup [(.name 16), (.name 20)]) .seq [(.var 9)] yes))]), .asg (.name 9) (.comp (.bin .add (.bin .add (.var 16) (.bin .mul (.cst (st [32])) (.bin .add (.bin .sub (.var 10) (.blt .len [(.var 16)])) (.cst (.int 2))))) (.var 20)) (.tup [(.name 16), (.name 20)]) .seq [(.var 9)] yes), .asg (.name 11) (.blt .maxL [(.bin .add (.lst [(.cst (.int 0))]) (.comp (.blt .len [(.var 16)]) (.name 16) .seq [(.var 9)] yes))]), .asg (.name 12) (.cst (.int 1)), .wip [], .whl (.band (.cmp .le (.bin .add (.bin .mul (.bin .add (.var 12) (.cst (.int 1))) (.var 11)) (.bin .mul (.cst (.int 2)) (.var 12))) (.var 3)) (.cmp .lt (.var 12) (.cst (.int 20)))) [.asg (.name 12) (.bin .add (.var 12) (.cst (.int 1)))] [], .asg (.name 13) (.cst (.int 0)), .wip [], .whl (.cmp .lt (.bin .mul (.var 13) (.var 12)) (.blt .len [(.var 9)])) [.asg (.name 13) (.bin .add (.var 13) (.cst (.int 1)))] [], .own 14 (.lst []), .wip [15, 16, 18, 19], .for_ (.name 15) .range1 [(.var 13)] [.asg (.name 16) (.cst (st [])), .wip [18, 19], .for_ (.tup [(.name 18), (.name 19)]) .enum [(.var 9)] [.iff (.cmp .eq (.bin .mod (.var 18) (.var 13)) (.var 15)) [.asg (.name 16) (.bin .add (.bin .add (.var 16) (.var 19)) (.bin .mul (.cst (st [32])) (.bin .add (.bin .sub (.var 11) (.blt .len [(.var 19)])) (.cst (.int 2)))))] []] [18, 19], .wip [], .whl (.cmp .eq (.ix (.var 16) (.neg (.cst (.int 1)))) (.cst (st [32]))) [.asg (.name 16) (.slc (.var 16) (.cst .none) (.neg (.cst (.int 1))))] [], .app 14 (.var 16)] [15, 16, 18, 19], .iff (.cmp .ne (.call 111 [(.var 1), (.var 2), (.var 4), (.var 3)]) (.blt .tuple [(.var 14)])) [.ret (.cst (.bool false))] []] [4, 5, 6, 7, 8, 9, 10, 11, 12, 13, 14, 15, 16, 17, 18, 19, 20, 21], .ret (.cst (.bool true))] }
def f113_lengths_for : Fn := { np := 2, nl := 6, body := [.own 2 (.lst []), .wip [3, 4, 5], .for_ (.name 3) .range1 [(.bin .add (.var 0) (.cst (.int 1)))] [.wip [4, 5], .for_ (.name 4) .range1 [(.bin .sub (.bin .add (.var 0) (.cst (.int 1))) (.var 3))] [.asg (.name 5) (.bin .sub (.bin .sub (.var 0) (.var 3)) (.var 4)), .iff (.cmp .le (.bin .add (.bin .add (.bin .mul (.bin .mul (.var 3) (.var 1)) (.var 1)) (.bin .mul (.var 4) (.var 1))) (.var 5)) (.bin .mul (.bin .mul (.var 1) (.var 1)) (.var 1))) [.app 2 (.bin .add (.bin .add (.bin .mul (.lst [(.cst (.int 1))]) (.var 3)) (.bin .mul (.lst [(.cst (.int 2))]) (.var 4))) (.bin .mul (.lst [(.cst (.int 3))]) (.var 5)))] []] [4, 5]] [3, 4, 5], .frz 2, .ret (.var 2)] }
def f114_rows_for : Fn := { np := 2, nl := 9, body := [.own 2 (.lst []), .asg (.name 3) (.cst (.int 0)), .wip [4, 5, 6, 7, 8], .for_ (.name 4) .seq [(.var 0)] [.own 5 (.lst []), .asg (.name 6) (.var 3), .wip [7], .for_ (.name 7) .range1 [(.glob "LONGEST" (.int 3))] [.app 5 (.ix (.var 1) (.bin .mod (.var 6) (.blt .len [(.var 1)]))), .asg (.name 6) (.bin .fdiv (.var 6) (.blt .len [(.var 1)]))] [7], .app 2 (.blt .tuple [(.slc (.stp (.var 5) (.cst .none) (.neg (.cst (.int 1)))) (.cst .none) (.var 4))]), .asg (.name 8) (.cst (.int 1)), .wip [7], .for_ (.name 7) .range1 [(.bin .sub (.glob "LONGEST" (.int 3)) (.var 4))] [.asg (.name 8) (.bin .mul (.var 8) (.blt .len [(.var 1)]))] [7], .asg (.name 3) (.bin .add (.var 3) (.var 8))] [4, 5, 6, 7, 8], .frz 2, .ret (.var 2)] }
-- 115 coded: sorted key
def f116_presses : Fn := { np := 2, nl := 5, body := [.asg (.name 2) (.blt .dict [(.var 1)]), .ret (.blt .sum [(.comp (.bin .mul (.var 4) (.blt .len [(.ix (.var 2) (.var 3))])) (.tup [(.name 3), (.name 4)]) .seq [(.var 0)] yes)])] }
def f117_l_least : Fn := { np := 2, nl := 10, body := [.asg (.name 2) (.dct [(.tup [(.cst (.int 0)), (.cst (.int 0))])] [(.cst (.int 0))]), .wip [3, 4, 5, 6, 7, 8, 9], .for_ (.name 3) .seq [(.var 0)] [.own 4 (.dct [] []), .wip [5, 6, 7, 8, 9], .for_ (.tup [(.name 5), (.name 6)]) .items [(.var 2)] [.wip [7, 8, 9], .for_ (.name 7) .seq [(.tup [(.cst (.int 1)), (.cst (.int 2)), (.cst (.int 3))])] [.asg (.name 8) (.bin .add (.ix (.var 5) (.cst (.int 0))) (.bin .fdiv (.bin .mul (.bin .mul (.var 1) (.var 1)) (.var 1)) (.ix (.tup [(.cst (.int 1)), (.var 1), (.bin .mul (.var 1) (.var 1)), (.bin .mul (.bin .mul (.var 1) (.var 1)) (.var 1))]) (.var 7)))), .iff (.band (.cmp .ge (.var 7) (.ix (.var 5) (.cst (.int 1)))) (.cmp .le (.var 8) (.bin .mul (.bin .mul (.var 1) (.var 1)) (.var 1)))) [.asg (.name 9) (.tup [(.var 8), (.var 7)]), .seti 4 (.var 9) (.blt .min2 [(.mth .get (.var 4) [(.var 9), (.bin .pow (.cst (.int 10)) (.cst (.int 9)))]), (.bin .add (.var 6) (.bin .mul (.var 3) (.var 7)))])] []] [7, 8, 9]] [5, 6, 7, 8, 9], .frz 4, .asg (.name 2) (.var 4)] [3, 4, 5, 6, 7, 8, 9], .ret (.ix (.lst [(.cst .none), (.blt .minL [(.bin .add (.blt .values [(.var 2)]) (.lst [(.bin .pow (.cst (.int 10)) (.cst (.int 9)))]))])]) (.blt .int [(.cmp .ne (.var 2) (.dct [] []))]))] }
-- 118 law: sorted kw
def f119_law : Fn := { np := 1, nl := 19, body := [.asg (.name 1) (.call 20 [(.call 2 [(.var 0), (.cst (.int 0))])]), .asg (.name 2) (.call 22 [(.var 1), (.call 2 [(.var 0), (.cst (.int 1))]), (.cst (.int 10))]), .wip [3, 4, 5, 6, 7, 8, 9, 10, 11, 12, 13, 14, 15, 16, 17, 18], .for_ (.tup [(.name 3), (.name 4)]) .seq [(.ix (.var 1) (.cst (.int 0)))] [.asg (.name 5) (.call 54 [(.var 1), (.var 2), (.var 3)]), .asg (.name 6) (.call 111 [(.var 1), (.var 2), (.var 3), (.cst (.int 1))]), .iff (.cmp .ne (.blt .len [(.var 6)]) (.blt .len [(.var 5)])) [.ret (.cst (.bool false))] [], .wip [12, 13, 16, 17, 18], .for_ (.tup [(.name 12), (.tup [(.name 16), (.name 17)])]) .zip [(.var 6), (.var 5)] [.asg (.name 13) (.comp (.var 18) (.name 18) .seq [(.mth .split (.var 12) [(.cst (st [32]))])] (.cmp .ne (.var 18) (.cst (st [])))), .iff (.bor (.cmp .eq (.slc (.var 12) (.cst .none) (.cst (.int 1))) (.cst (st [32]))) (.cmp .ne (.var 13) (.bin .add (.blt .list [(.var 16)]) (.lst [(.var 17)])))) [.ret (.cst (.bool false))] []] [12, 13, 16, 17, 18], .asg (.name 7) (.blt .sorted [(.comp (.var 18) (.name 18) .seq [(.mth .split (.mth .join (.cst (st [32])) [(.var 6)]) [(.cst (st [32]))])] (.cmp .ne (.var 18) (.cst (st []))))]), .asg (.name 8) (.blt .len [(.var 6)]), .wip [9, 12, 14, 15, 18], .for_ (.name 9) .seq [(.tup [(.cst (.int 9)), (.cst (.int 20)), (.cst (.int 40)), (.cst (.int 90)), (.cst (.int 1000))])] [.asg (.name 14) (.call 111 [(.var 1), (.var 2), (.var 3), (.var 9)]), .iff (.bor (.cmp .gt (.blt .len [(.var 14)]) (.var 8)) (.cmp .ne (.comp (.var 12) (.name 12) .seq [(.var 14)] (.cmp .ne (.var 12) (.mth .rstrip (.var 12) [(.cst (st [32]))]))) (.lst []))) [.ret (.cst (.bool false))] [], .iff (.cmp .ne (.blt .sorted [(.comp (.var 18) (.name 18) .seq [(.mth .split (.mth .join (.cst (st [32])) [(.var 14)]) [(.cst (st [32]))])] (.cmp .ne (.var 18) (.cst (st []))))]) (.var 7)) [.ret (.cst (.bool false))] [], .asg (.name 15) (.blt .maxL [(.bin .add (.lst [(.cst (.int 0))]) (.comp (.blt .len [(.var 12)]) (.name 12) .seq [(.var 6)] yes))]), .iff (.band (.cmp .ge (.var 9) (.var 15)) (.cmp .ne (.comp (.var 12) (.name 12) .seq [(.var 14)] (.cmp .gt (.blt .len [(.var 12)]) (.var 9))) (.lst []))) [.ret (.cst (.bool false))] [], .asg (.name 8) (.blt .len [(.var 14)])] [9, 12, 14, 15, 18], .iff (.cmp .ne (.var 8) (.blt .min2 [(.cst (.int 1)), (.blt .len [(.var 5)])])) [.ret (.cst (.bool false))] [], .asg (.name 10) (.call 109 [(.var 1), (.var 2), (.var 3)]), .iff (.cmp .ne (.bin .add (.blt .len [(.var 10)]) (.blt .lenSet [(.comp (.ix (.var 16) (.cst (.int 0))) (.tup [(.name 16), (.name 17)]) .seq [(.var 5)] (.cmp .eq (.blt .len [(.ix (.var 16) (.cst (.int 0)))]) (.cst (.int 1))))])) (.cst (.int 36))) [.ret (.cst (.bool false))] [], .asg (.name 11) (.bin .add (.slc (.var 2) (.cst .none) (.cst (.int 11))) (.tup [(.tup [(.var 3), (.tup [(.ix (.var 10) (.cst (.int 0))), (.cst (st [97]))]), (.cst (st [102, 114, 101, 115, 104]))])])), .iff (.bor (.cmp .isin (.ix (.var 10) (.cst (.int 0))) (.call 109 [(.var 1), (.var 11), (.var 3)])) (.cmp .ne (.blt .list [(.var 10)]) (.blt .sortedSet [(.var 10)]))) [.ret (.cst (.bool false))] []] [3, 4, 5, 6, 7, 8, 9, 10, 11, 12, 13, 14, 15, 16, 17, 18], .ret (.cst (.bool true))] }
-- 120 law: Lambda
def PP : Nat → Option Fn
  | 0 => some f0_is_key
  | 1 => some f1_l_cell_at
  | 2 => some f2_l_mixed
  | 3 => some f3_l_drawn
  | 4 => some f4_l_is_name
  | 5 => some f5_l_is_key
  | 6 => some f6_l_are_pairs
  | 7 => some f7_l_is_house
  | 8 => some f8_l_is_map
  | 9 => some f9_l_odd
  | 10 => some f10_l_spoilt
  | 11 => some f11_l_once
  | 12 => some f12_law
  | 13 => some f13_is_name
  | 14 => some f14_is_pair
  | 15 => some f15_are_rooms
  | 16 => some f16_is_house
  | 17 => some f17_is_bind
  | 18 => some f18_is_map
  | 19 => some f19_l_key
  | 20 => some f20_l_house
  | 21 => some f21_l_bind
  | 22 => some f22_l_map
  | 23 => some f23_l_is_map
  | 24 => some f24_law
  | 25 => some f25_room_text
  | 26 => some f26_written_house
  | 27 => some f27_bind_text
  | 28 => some f28_written
  | 29 => some f29_l_house_text
  | 30 => some f30_l_text
  | 31 => some f31_law
  | 33 => some f33_room_of
  | 35 => some f35_l_changed
  | 37 => some f37_l_due
  | 39 => some f39_bind_of
  | 41 => some f41_l_due
  | 44 => some f44_l_mixed
  | 46 => some f46_l_places_in
  | 48 => some f48_l_otherwise
  | 50 => some f50_l_once
  | 51 => some f51_law
  | 52 => some f52_outward
  | 53 => some f53_holder
  | 54 => some f54_rows
  | 55 => some f55_l_holder
  | 56 => some f56_l_rows
  | 57 => some f57_law
  | 58 => some f58_law
  | 59 => some f59_begin
  | 60 => some f60_goes_on
  | 61 => some f61_with_deed
  | 62 => some f62_settled
  | 63 => some f63_passed
  | 64 => some f64_taken
  | 65 => some f65_pressed
  | 66 => some f66_run
  | 67 => some f67_without
  | 69 => some f69_hold_in
  | 70 => some f70_clashes
  | 71 => some f71_all_rows
  | 72 => some f72_useless
  | 73 => some f73_all_keys
  | 74 => some f74_steps_from
  | 75 => some f75_steps_to
  | 76 => some f76_l_presses
  | 77 => some f77_law
  | 78 => some f78_hints
  | 79 => some f79_l_new_told
  | 80 => some f80_law
  | 81 => some f81_l_settled
  | 82 => some f82_l_pressed
  | 83 => some f83_law
  | 84 => some f84_law
  | 85 => some f85_law
  | 86 => some f86_law
  | 87 => some f87_l_clashes
  | 88 => some f88_law
  | 89 => some f89_law
  | 90 => some f90_choices
  | 91 => some f91_cleared
  | 92 => some f92_l_once
  | 93 => some f93_law
  | 94 => some f94_law
  | 95 => some f95_law
  | 96 => some f96_l_all
  | 97 => some f97_law
  | 98 => some f98_over
  | 99 => some f99_exchanged_key
  | 100 => some f100_exchanged
  | 101 => some f101_l_over
  | 103 => some f103_l_turned
  | 104 => some f104_law
  | 105 => some f105_l_turned
  | 106 => some f106_law
  | 107 => some f107_law
  | 108 => some f108_law
  | 109 => some f109_free
  | 110 => some f110_entries
  | 111 => some f111_sheet
  | 112 => some f112_law
  | 113 => some f113_lengths_for
  | 114 => some f114_rows_for
  | 116 => some f116_presses
  | 117 => some f117_l_least
  | 119 => some f119_law
  | _ => none
end KD
/-! KdEv: the evaluator's rules, for simp. -/
namespace KD
open PySem hiding Env Flow
section
variable {call : Nat → List D → R D} {ρ : Env} {m : Bool} {wf : Nat}
@[simp] theorem ev_cst (d : D) : ev call ρ m (.cst d) = .ok d := by simp only [ev]
@[simp] theorem ev_glob (x : Str) (d : D) : ev call ρ m (.glob x d) = .ok d := by simp only [ev]
@[simp] theorem ev_var (i : Nat) : ev call ρ m (.var i) = getV m ρ i := by simp only [ev]
@[simp] theorem ev_tup (es : List Ex) : ev call ρ m (.tup es) = (evs call ρ false es).bind fun ds => .guard (decide (ds.length ≤ 1000)) (.ok (.tuple ds)) := by simp only [ev]
@[simp] theorem ev_lst (es : List Ex) : ev call ρ m (.lst es) = (evs call ρ false es).bind fun ds => .guard (decide (ds.length ≤ 1000)) (.ok (.list ds)) := by simp only [ev]
@[simp] theorem ev_bin (op : BOp) (a b : Ex) : ev call ρ m (.bin op a b) = (ev call ρ true a).bind fun x => (ev call ρ true b).bind fun y => binD op x y := by simp only [ev]
@[simp] theorem ev_neg (a : Ex) : ev call ρ m (.neg a) = (ev call ρ true a).bind negD := by simp only [ev]
@[simp] theorem ev_cmp (op : COp) (a b : Ex) : ev call ρ m (.cmp op a b) = (ev call ρ true a).bind fun x => (ev call ρ true b).bind fun y => (cmpB op x y).bind fun r => .ok (.bool r) := by simp only [ev]
@[simp] theorem ev_bnot (a : Ex) : ev call ρ m (.bnot a) = (ev call ρ true a).bind fun x => (asB x).bind fun r => .ok (.bool (!r)) := by simp only [ev]
@[simp] theorem ev_ix (a i : Ex) : ev call ρ m (.ix a i) = (ev call ρ true a).bind fun x => (ev call ρ true i).bind fun y => ixD x y := by simp only [ev]
@[simp] theorem ev_slc (a l h : Ex) : ev call ρ m (.slc a l h) = (ev call ρ true a).bind fun x => (ev call ρ true l).bind fun y => (partX l y).bind fun lo => (ev call ρ true h).bind fun z => (partX h z).bind fun hi => cutD x lo hi := by simp only [ev]
@[simp] theorem ev_stp (a l h : Ex) : ev call ρ m (.stp a l h) = (ev call ρ true a).bind fun x => (ev call ρ true l).bind fun y => (ev call ρ true h).bind fun z => stpD x y z := by simp only [ev]
@[simp] theorem ev_call (f : Nat) (es : List Ex) : ev call ρ m (.call f es) = (evs call ρ false es).bind fun ds => call f ds := by simp only [ev]
@[simp] theorem ev_blt (b : Blt) (es : List Ex) : ev call ρ m (.blt b es) = (evs call ρ true es).bind fun ds => bltD b ds := by simp only [ev]
@[simp] theorem ev_mth (k : Mth) (a : Ex) (es : List Ex) : ev call ρ m (.mth k a es) = (ev call ρ true a).bind fun x => (evs call ρ false es).bind fun ds => mthD k x ds := by simp only [ev]
/-- a comprehension's item at a state -/
def cbody (call : Nat → List D → R D) (elt cond : Ex) (ρ' : Env) : R (Option D) := (ev call ρ' true cond).bind fun c => (asB c).bind fun r => match r with
        | true => (ev call ρ' false elt).bind fun y => .ok (some y)
        | false => .ok none
/-- one turn of a comprehension -/
def cstep (call : Nat → List D → R D) (ρ : Env) (elt : Ex) (t : Tg) (cond : Ex) (x : D) : R (Option D) := (asgT (wipeE ρ t.names) t x).bind (cbody call elt cond)
@[simp] theorem ev_comp (elt : Ex) (t : Tg) (k : IK) (its : List Ex) (cond : Ex) : ev call ρ m (.comp elt t k its cond) = (evs call ρ true its).bind fun ds => (walkD k ds).bind fun xs => (compF (cstep call ρ elt t cond) xs).bind fun ys => .ok (.list ys) := by
  simp only [ev]
  try rfl
@[simp] theorem evs_nil : evs call ρ m [] = .ok [] := by simp only [evs]
@[simp] theorem evs_cons (e : Ex) (es : List Ex) : evs call ρ m (e :: es) = (ev call ρ m e).bind fun d => (evs call ρ m es).bind fun ds => .ok (d :: ds) := by simp only [evs]
/-- a choice, later -/
def pick {α : Type} (r : Bool) (a b : R α) : R α := match r with
  | true => a
  | false => b
@[simp] theorem pick_true {α : Type} (a b : R α) : pick true a b = a := id rfl
@[simp] theorem pick_false {α : Type} (a b : R α) : pick false a b = b := id rfl
@[simp] theorem ev_band (a b : Ex) : ev call ρ m (.band a b) = (ev call ρ true a).bind fun x => (asB x).bind fun r => pick r ((ev call ρ true b).bind fun y => (asB y).bind fun r' => .ok (.bool r')) (.ok (.bool false)) := by
  simp only [ev]
  try rfl
@[simp] theorem ev_bor (a b : Ex) : ev call ρ m (.bor a b) = (ev call ρ true a).bind fun x => (asB x).bind fun r => pick r (.ok (.bool true)) ((ev call ρ true b).bind fun y => (asB y).bind fun r' => .ok (.bool r')) := by
  simp only [ev]
  try rfl
@[simp] theorem ev_ife (c a b : Ex) : ev call ρ m (.ife c a b) = (ev call ρ true c).bind fun x => (asB x).bind fun r => pick r (ev call ρ false a) (ev call ρ false b) := by
  simp only [ev]
  try rfl
@[simp] theorem ev_chain (op op' : COp) (a b c : Ex) : ev call ρ m (.chain op op' a b c) = (ev call ρ true a).bind fun x => (ev call ρ true b).bind fun y => (cmpB op x y).bind fun r => pick r ((ev call ρ true c).bind fun z => (cmpB op' y z).bind fun r' => .ok (.bool r')) (.ok (.bool false)) := by
  simp only [ev]
  try rfl
@[simp] theorem bind_assoc {α β γ : Type} (x : R α) (f : α → R β) (g : β → R γ) : (x.bind f).bind g = x.bind fun a => (f a).bind g := by cases x <;> rfl
@[simp] theorem bind_guard {α β : Type} (c : Bool) (x : R α) (f : α → R β) : (R.guard c x).bind f = R.guard c (x.bind f) := by cases c <;> rfl
@[simp] theorem cbody_eq (elt cond : Ex) : cbody call elt cond ρ = (ev call ρ true cond).bind fun c => (asB c).bind fun r => pick r ((ev call ρ false elt).bind fun y => .ok (some y)) (.ok none) := by
  unfold cbody pick
  rfl
/-! statements -/
/-- the statements behind -/
def cont (call : Nat → List D → R D) (wf : Nat) (r : List Stm) : Flow → R Flow
  | .nx ρ' => exs call wf ρ' r
  | .br ρ' => .ok (.br ρ')
  | .cn ρ' => .ok (.cn ρ')
  | .rt d => .ok (.rt d)
@[simp] theorem cont_nx (r : List Stm) : cont call wf r (.nx ρ) = exs call wf ρ r := id rfl
@[simp] theorem cont_br (r : List Stm) : cont call wf r (.br ρ) = .ok (.br ρ) := id rfl
@[simp] theorem cont_cn (r : List Stm) : cont call wf r (.cn ρ) = .ok (.cn ρ) := id rfl
@[simp] theorem cont_rt (r : List Stm) (d : D) : cont call wf r (.rt d) = .ok (.rt d) := id rfl
/-- a loop's turn -/
def exsC (call : Nat → List D → R D) (wf : Nat) (body : List Stm) (ρ : Env) : R Flow := exs call wf ρ body
@[simp] theorem exsC_eq (r : List Stm) : exsC call wf r ρ = exs call wf ρ r := id rfl
def fstep (call : Nat → List D → R D) (wf : Nat) (t : Tg) (body : List Stm) (x : D) (ρ : Env) : R Flow := (asgT ρ t x).bind (exsC call wf body)
@[simp] theorem endF_rt (d : D) : endF (.rt d) = .ok d := id rfl
@[simp] theorem endF_nx (ρ : Env) : endF (.nx ρ) = .ok .none := id rfl
@[simp] theorem exs_nil : exs call wf ρ [] = .ok (.nx ρ) := by simp only [exs]
@[simp] theorem exs_cons (s : Stm) (r : List Stm) : exs call wf ρ (s :: r) = (exS call wf ρ s).bind (cont call wf r) := by
  simp only [exs]
  try rfl
@[simp] theorem exS_asg (t : Tg) (e : Ex) : exS call wf ρ (.asg t e) = (ev call ρ false e).bind fun d => (asgT ρ t d).bind fun ρ' => .ok (.nx ρ') := by simp only [exS]
@[simp] theorem exS_own (i : Nat) (e : Ex) : exS call wf ρ (.own i e) = .guard (fresh e) ((ev call ρ false e).bind fun d => .guard (isCont d) (.ok (.nx (ownSet ρ i d)))) := by simp only [exS]
@[simp] theorem exS_iff (c : Ex) (a b : List Stm) : exS call wf ρ (.iff c a b) = (ev call ρ true c).bind fun x => (asB x).bind fun r => pick r (exs call wf ρ a) (exs call wf ρ b) := by
  simp only [exS]
  try rfl
@[simp] theorem exS_for (t : Tg) (k : IK) (its : List Ex) (body : List Stm) (w : List Nat) : exS call wf ρ (.for_ t k its body w) = (evs call ρ false its).bind fun ds => (walkD k ds).bind fun xs => forF (fstep call wf t body) w xs ρ := by
  simp only [exS]
  try rfl
@[simp] theorem exS_ret (e : Ex) : exS call wf ρ (.ret e) = (ev call ρ false e).bind fun d => .ok (.rt d) := by simp only [exS]
@[simp] theorem exS_wip (is : List Nat) : exS call wf ρ (.wip is) = .ok (.nx (wipeE ρ is)) := by simp only [exS]
@[simp] theorem exS_pas : exS call wf ρ .pas = .ok (.nx ρ) := by simp only [exS]
@[simp] theorem exS_brk : exS call wf ρ .brk = .ok (.br ρ) := by simp only [exS]
@[simp] theorem exS_cnt : exS call wf ρ .cnt = .ok (.cn ρ) := by simp only [exS]
/-- an item more -/
def appS (o : Option (Option Sl)) (k : List D → R Flow) : R Flow := match o with
  | some (some (.own (.list xs))) => k xs
  | _ => .bot
@[simp] theorem appS_own (xs : List D) (k : List D → R Flow) : appS (some (some (.own (.list xs)))) k = k xs := id rfl
@[simp] theorem exS_app (i : Nat) (e : Ex) : exS call wf ρ (.app i e) = appS ρ[i]? fun xs => (ev call ρ false e).bind fun d => .guard (decide (xs.length < lim)) (.ok (.nx (ownSet ρ i (.list (xs ++ [d]))))) := by
  simp only [exS, appS]
  try rfl
def frzS (ρ : Env) (i : Nat) (o : Option (Option Sl)) : R Flow := match o with
  | some (some (.own d)) => .ok (.nx (ρ.set i (some (.val d))))
  | _ => .ok (.nx ρ)
@[simp] theorem frzS_own (i : Nat) (d : D) : frzS ρ i (some (some (.own d))) = .ok (.nx (ρ.set i (some (.val d)))) := id rfl
@[simp] theorem frzS_val (i : Nat) (d : D) : frzS ρ i (some (some (.val d))) = .ok (.nx ρ) := id rfl
@[simp] theorem exS_frz (i : Nat) : exS call wf ρ (.frz i) = frzS ρ i ρ[i]? := by
  simp only [exS, frzS]
  try rfl
/-- a dict's own slot -/
def dicS (o : Option (Option Sl)) (k : List (D × D) → R Flow) : R Flow := match o with
  | some (some (.own (.dict kvs))) => k kvs
  | _ => .bot
@[simp] theorem dicS_own (kvs : List (D × D)) (k : List (D × D) → R Flow) : dicS (some (some (.own (.dict kvs)))) k = k kvs := id rfl
/-- an entry put -/
def putK (i : Nat) (kvs : List (D × D)) (dk dv : D) (ρ : Env) : R Flow := match keyAt kvs dk with
  | some q => .guard (decide (kvs.length < lim)) (.ok (.nx (ownSet ρ i (.dict (dset q dk dv kvs)))))
  | none => .bot
@[simp] theorem exS_seti (i : Nat) (k v : Ex) : exS call wf ρ (.seti i k v) = dicS ρ[i]? fun kvs => (ev call ρ false v).bind fun dv => (ev call ρ false k).bind fun dk => putK i kvs dk dv ρ := by
  simp only [exS, dicS]
  try rfl
/-- items more -/
def extD (xs : List D) : D → (List D → R Flow) → R Flow
  | .list ys, k => .guard (decide (xs.length + ys.length ≤ lim)) (k (xs ++ ys))
  | .tuple ys, k => .guard (decide (xs.length + ys.length ≤ lim)) (k (xs ++ ys))
  | _, _ => .bot
@[simp] theorem exS_ext (i : Nat) (e : Ex) : exS call wf ρ (.ext i e) = appS ρ[i]? fun xs => (ev call ρ false e).bind fun d => extD xs d fun zs => .ok (.nx (ownSet ρ i (.list zs))) := by
  simp only [exS]
  generalize ρ[i]? = o
  unfold appS
  split
  · congr 1
    funext d
    cases d <;> rfl
  · rename_i hno
    first
      | rfl
      | (split
         · exact absurd rfl (hno _)
         · rfl)
/-- the last item taken -/
def popL (xs : List D) (k : List D → D → R Flow) : R Flow := match xs.getLast? with
  | some x => k xs.dropLast x
  | none => .bot
/-- the first item taken -/
def popF (xs : List D) (k : List D → D → R Flow) : R Flow := match xs with
  | x :: r => k r x
  | [] => .bot
@[simp] theorem popF_cons (x : D) (xs : List D) (k : List D → D → R Flow) : popF (x :: xs) k = k xs x := id rfl
@[simp] theorem exS_pop (t : Tg) (i : Nat) : exS call wf ρ (.pop t i none) = appS ρ[i]? fun xs => popL xs fun r x => (asgT (ownSet ρ i (.list r)) t x).bind fun ρ' => .ok (.nx ρ') := by
  simp only [exS, appS, popL]
  try rfl
@[simp] theorem exS_pop0 (t : Tg) (i : Nat) : exS call wf ρ (.pop t i (some 0)) = appS ρ[i]? fun xs => popF xs fun r x => (asgT (ownSet ρ i (.list r)) t x).bind fun ρ' => .ok (.nx ρ') := by
  simp only [exS]
  generalize ρ[i]? = o
  unfold appS
  split
  · rename_i xs
    cases xs <;> rfl
  · rename_i hno
    first
      | rfl
      | (split
         · exact absurd rfl (hno _)
         · rfl)
@[simp] theorem exS_whl (c : Ex) (body : List Stm) (w : List Nat) : exS call wf ρ (.whl c body w) = whlF (fun ρ => (ev call ρ true c).bind asB) (exsC call wf body) w wf ρ := by
  simp only [exS]
  try rfl
@[simp] theorem ev_dct (ks vs : List Ex) : ev call ρ m (.dct ks vs) = (evs call ρ false ks).bind fun kd => (evs call ρ false vs).bind fun vd =>
      .guard (decide (kd.length = vd.length) && decide (kd.length ≤ 15)) (ofOpt ((dputs [] (kd.zip vd)).map .dict)) := by simp only [ev]
end
/-! slots -/
@[simp] theorem getV_0v (b : Bool) (d : D) (ρ : Env) : getV b (some (.val d) :: ρ) 0 = .ok d := rfl
@[simp] theorem getV_0o (d : D) (ρ : Env) : getV true (some (.own d) :: ρ) 0 = .ok d := rfl
@[simp] theorem getV_s (b : Bool) (o : Option Sl) (ρ : Env) (i : Nat) : getV b (o :: ρ) (i + 1) = getV b ρ i := rfl
@[simp] theorem asgT_name (ρ : Env) (i : Nat) (d : D) : asgT ρ (.name i) d = .ok (ρ.set i (some (.val d))) := by simp only [asgT]
@[simp] theorem asgT_tup (ρ : Env) (ts : List Tg) (xs : List D) : asgT ρ (.tup ts) (.tuple xs) = asgTs ρ ts xs := by simp only [asgT]
@[simp] theorem asgT_lst (ρ : Env) (ts : List Tg) (xs : List D) : asgT ρ (.tup ts) (.list xs) = asgTs ρ ts xs := by simp only [asgT]
@[simp] theorem asgTs_nil (ρ : Env) : asgTs ρ [] [] = .ok ρ := by simp only [asgTs]
@[simp] theorem asgTs_cons (ρ : Env) (t : Tg) (ts : List Tg) (x : D) (xs : List D) : asgTs ρ (t :: ts) (x :: xs) = (asgT ρ t x).bind fun ρ' => asgTs ρ' ts xs := by simp only [asgTs]
@[simp] theorem wipeE_nil (ρ : Env) : wipeE ρ [] = ρ := rfl
@[simp] theorem wipeE_cons (ρ : Env) (i : Nat) (is : List Nat) : wipeE ρ (i :: is) = (wipeE ρ is).set i none := rfl
@[simp] theorem names_name (i : Nat) : (Tg.name i).names = [i] := by simp only [Tg.names]
@[simp] theorem names_tup (ts : List Tg) : (Tg.tup ts).names = Tg.namesAll ts := by simp only [Tg.names]
@[simp] theorem namesAll_nil : Tg.namesAll [] = [] := by simp only [Tg.namesAll]
@[simp] theorem namesAll_cons (t : Tg) (ts : List Tg) : Tg.namesAll (t :: ts) = t.names ++ Tg.namesAll ts := by simp only [Tg.namesAll]
@[simp] theorem ownSet_eq (ρ : Env) (i : Nat) (d : D) : ownSet ρ i d = ρ.set i (some (.own d)) := rfl
/-! values -/
@[simp] theorem asB_bool (b : Bool) : asB (.bool b) = .ok b := rfl
@[simp] theorem partX_none : partX (.cst .none) .none = .ok none := rfl
@[simp] theorem partX_int (e : Ex) (i : Int) (h : e ≠ .cst .none) : partX e (.int i) = .ok (some i) := by
  unfold partX
  split
  · exact absurd rfl h
  · rfl
@[simp] theorem binD_add (a b : D) : binD .add a b = addD a b := rfl
@[simp] theorem binD_sub (a b : D) : binD .sub a b = subD a b := rfl
@[simp] theorem binD_mul (a b : D) : binD .mul a b = mulD a b := rfl
@[simp] theorem binD_fdiv (a b : D) : binD .fdiv a b = fdivD a b := rfl
@[simp] theorem binD_mod (a b : D) : binD .mod a b = modD a b := rfl
@[simp] theorem addD_int (i j : Int) : addD (.int i) (.int j) = .ok (.int (i + j)) := rfl
@[simp] theorem subD_int (i j : Int) : subD (.int i) (.int j) = .ok (.int (i - j)) := rfl
@[simp] theorem mulD_int (i j : Int) : mulD (.int i) (.int j) = .guard (smallI i || smallI j) (.ok (.int (i * j))) := rfl
@[simp] theorem fdivD_int (i j : Int) : fdivD (.int i) (.int j) = .guard (decide (0 < j) && decide (j < 1073741824)) (.ok (.int (i / j))) := rfl
@[simp] theorem modD_int (i j : Int) : modD (.int i) (.int j) = .guard (decide (0 < j)) (.ok (.int (i % j))) := rfl
@[simp] theorem addD_str (x y : Str) : addD (.str x) (.str y) = .guard (decide (x.length + y.length ≤ lim)) (.ok (.str (x ++ y))) := rfl
@[simp] theorem addD_tup (x y : List D) : addD (.tuple x) (.tuple y) = .guard (decide (x.length + y.length ≤ lim)) (.ok (.tuple (x ++ y))) := rfl
@[simp] theorem addD_lst (x y : List D) : addD (.list x) (.list y) = .guard (decide (x.length + y.length ≤ lim)) (.ok (.list (x ++ y))) := rfl
@[simp] theorem negD_int (i : Int) : negD (.int i) = .ok (.int (-i)) := rfl
@[simp] theorem cmpB_lt (a b : D) : cmpB .lt a b = ltD a b := rfl
@[simp] theorem cmpB_le (a b : D) : cmpB .le a b = leD a b := rfl
@[simp] theorem cmpB_gt (a b : D) : cmpB .gt a b = ltD b a := rfl
@[simp] theorem cmpB_ge (a b : D) : cmpB .ge a b = leD b a := rfl
@[simp] theorem cmpB_eq (a b : D) : cmpB .eq a b = eqD a b := rfl
@[simp] theorem cmpB_ne (a b : D) : cmpB .ne a b = (eqD a b).bind fun r => .ok (!r) := rfl
@[simp] theorem cmpB_is (a b : D) : cmpB .is a b = .guard (isNone b) (.ok (isNone a)) := rfl
@[simp] theorem cmpB_isnot (a b : D) : cmpB .isnot a b = .guard (isNone b) (.ok (!isNone a)) := rfl
@[simp] theorem cmpB_in (a b : D) : cmpB .isin a b = inD a b := rfl
@[simp] theorem cmpB_notin (a b : D) : cmpB .notin a b = (inD a b).bind fun r => .ok (!r) := rfl
@[simp] theorem ltD_int (i j : Int) : ltD (.int i) (.int j) = .ok (decide (i < j)) := rfl
@[simp] theorem leD_int (i j : Int) : leD (.int i) (.int j) = .ok (decide (i ≤ j)) := rfl
@[simp] theorem len_lst (xs : List D) : bltD .len [.list xs] = .ok (.int xs.length) := rfl
@[simp] theorem len_tup (xs : List D) : bltD .len [.tuple xs] = .ok (.int xs.length) := rfl
@[simp] theorem len_scr (xs : List D) : bltD .len [scr xs] = .ok (.int xs.length) := rfl
@[simp] theorem tup_lst (xs : List D) : bltD .tuple [.list xs] = .ok (.tuple xs) := rfl
@[simp] theorem tup_tup (xs : List D) : bltD .tuple [.tuple xs] = .ok (.tuple xs) := rfl
@[simp] theorem int_int (i : Int) : bltD .int [.int i] = .ok (.int i) := rfl
@[simp] theorem int_bool (b : Bool) : bltD .int [.bool b] = .ok (.int (if b then 1 else 0)) := rfl
@[simp] theorem str_str (x : Str) : bltD .str [.str x] = .ok (.str x) := rfl
@[simp] theorem str_none : bltD .str [.none] = .ok (.str ⟨#[78, 111, 110, 101]⟩) := rfl
@[simp] theorem ix_lst (xs : List D) (i : Int) : ixD (.list xs) (.int i) = ofOpt (L2.atI xs i) := rfl
@[simp] theorem ix_tup (xs : List D) (i : Int) : ixD (.tuple xs) (.int i) = ofOpt (L2.atI xs i) := rfl
@[simp] theorem ix_scr (xs : List D) (i : Int) : ixD (scr xs) (.int i) = ofOpt (L2.atI xs i) := rfl
@[simp] theorem cut_lst (xs : List D) (l h : Option Int) : cutD (.list xs) l h = .ok (.list (cutL xs l h)) := rfl
@[simp] theorem cut_tup (xs : List D) (l h : Option Int) : cutD (.tuple xs) l h = .ok (.tuple (cutL xs l h)) := rfl
@[simp] theorem seq_lst (xs : List D) : walkD .seq [.list xs] = .ok xs := rfl
@[simp] theorem seq_tup (xs : List D) : walkD .seq [.tuple xs] = .ok xs := rfl
@[simp] theorem seq_scr (xs : List D) : walkD .seq [scr xs] = .ok xs := rfl
@[simp] theorem enum_tup (xs : List D) : walkD .enum [.tuple xs] = .ok (enumFrom 0 xs) := rfl
@[simp] theorem enum_lst (xs : List D) : walkD .enum [.list xs] = .ok (enumFrom 0 xs) := rfl
@[simp] theorem rng1 (n : Int) : walkD .range1 [.int n] = .guard (decide (-far ≤ n) && decide (n ≤ 1000000)) (.ok ((List.range n.toNat).map fun (i : Nat) => PyData.int (i : Int))) := rfl
@[simp] theorem ofOpt_some {α : Type} (a : α) : ofOpt (some a) = .ok a := rfl
@[simp] theorem isNone_none : isNone .none = true := rfl
@[simp] theorem isNone_str (x : Str) : isNone (.str x) = false := rfl
@[simp] theorem isNone_tup (x : List D) : isNone (.tuple x) = false := rfl
@[simp] theorem isNone_int (x : Int) : isNone (.int x) = false := rfl
@[simp] theorem isCont_list (x : List D) : isCont (.list x) = true := rfl
@[simp] theorem fresh_lst (x : List Ex) : fresh (.lst x) = true := rfl
@[simp] theorem fresh_comp (a : Ex) (t : Tg) (k : IK) (i : List Ex) (c : Ex) : fresh (.comp a t k i c) = true := rfl
@[simp] theorem shp_int (i : Int) : shp (.int i) = true := by simp [shp, plain, PyData.depth]
@[simp] theorem shp_str (x : Str) : shp (.str x) = true := by simp [shp, plain, PyData.depth]
@[simp] theorem shp_none : shp .none = true := by simp [shp, plain, PyData.depth]
@[simp] theorem shp_bool (b : Bool) : shp (.bool b) = true := by simp [shp, plain, PyData.depth]
@[simp] theorem shp_st (l : List Nat) : shp (st l) = true := shp_str _
theorem eqD_lst (xs : List D) (b : D) : eqD (.list xs) b = .guard (shp (.list xs) && shp b) (.ok (PyData.eqv (.list xs) b)) := rfl
theorem eqD_tup (xs : List D) (b : D) : eqD (.tuple xs) b = .guard (shp (.tuple xs) && shp b) (.ok (PyData.eqv (.tuple xs) b)) := rfl
@[simp] theorem eqD_int (i j : Int) : eqD (.int i) (.int j) = .ok (decide (i = j)) := by
  simp only [eqD, shp_int, Bool.and_self, R.guard_true, PyData.eqv]
  rw [Bool.beq_eq_decide_eq]
@[simp] theorem eqD_str (i j : Str) : eqD (.str i) (.str j) = .ok (decide (i = j)) := by
  simp only [eqD, shp_str, Bool.and_self, R.guard_true, PyData.eqv]
  rw [Bool.beq_eq_decide_eq]
@[simp] theorem isNone_st (l : List Nat) : isNone (st l) = false := rfl
@[simp] theorem range_len {α : Type} (n : Nat) (f : Nat → α) : ((List.range n).map f).length = n := by simp
theorem atI_some {α : Type} {xs : List α} {i : Int} (h0 : 0 ≤ i) (h1 : i < xs.length) : ∃ d, L2.atI xs i = some d ∧ xs[i.toNat]? = some d := by
  obtain ⟨k, rfl⟩ : ∃ k : Nat, i = k := ⟨i.toNat, by omega⟩
  have hl : k < xs.length := by omega
  refine ⟨xs[k], ?_, List.getElem?_eq_getElem hl⟩
  unfold L2.atI L2.ixN
  rw [if_pos (by omega), if_pos (by omega)]
  simp [hl]
@[simp] theorem atI_0 {α : Type} (a : α) (l : List α) : L2.atI (a :: l) 0 = some a := by
  have := atI_some (xs := a :: l) (i := 0) (by decide) (by simp <;> omega)
  obtain ⟨d, h1, h2⟩ := this
  rw [h1]
  simpa using h2.symm
@[simp] theorem atI_1 {α : Type} (a b : α) (l : List α) : L2.atI (a :: b :: l) 1 = some b := by
  have := atI_some (xs := a :: b :: l) (i := 1) (by decide) (by simp <;> omega)
  obtain ⟨d, h1, h2⟩ := this
  rw [h1]
  simpa using h2.symm
@[simp] theorem atI_2 {α : Type} (a b c : α) (l : List α) : L2.atI (a :: b :: c :: l) 2 = some c := by
  have := atI_some (xs := a :: b :: c :: l) (i := 2) (by decide) (by simp <;> omega)
  obtain ⟨d, h1, h2⟩ := this
  rw [h1]
  simpa using h2.symm
theorem guard_ok' {α : Type} {c : Bool} (h : c = true) (x : R α) : R.guard c x = x := by rw [h]; rfl
theorem atI_nat' {α : Type} (xs : List α) (i : Nat) : L2.atI xs (i : Int) = xs[i]? := by
  unfold L2.atI L2.ixN
  by_cases h : i < xs.length
  · rw [if_pos (by omega), if_pos (by omega)]
    simp
  · rw [if_pos (by omega), if_neg (by omega)]
    simp
    omega
end KD
/-! KdPl: what the shared defs compute. -/
namespace KP
open PySem hiding Env Flow
open KD
abbrev WF : Nat := 1000
abbrev Ev (n f : Nat) (ds : List D) : R D := evFn PP WF n f ds
/-- a call, opened -/
theorem ev_open {n f : Nat} {fn : Fn} {ds : List D} (h : PP f = some fn) (hl : ds.length = fn.np) : Ev (n + 1) f ds = (exs (evFn PP WF n) WF (ds.map (fun d => some (.val d)) ++ List.replicate (fn.nl - fn.np) none) fn.body).bind endF := by
  unfold Ev
  rw [evFn, h]
  simp only [hl, decide_true, R.guard_true]
/-- loops by an invariant -/
theorem forF_inv {step : D → Env → R Flow} {w : List Nat} (I : Nat → Env → Prop) {xs : List D} {ρ : Env} (h0 : I 0 ρ)
    (hs : ∀ (i : Nat) (x : D) (ρ : Env), xs[i]? = some x → I i ρ → ∃ ρ', (step x ρ = .ok (.nx ρ') ∨ step x ρ = .ok (.cn ρ')) ∧ I (i + 1) (wipeE ρ' w)) : ∃ ρ', forF step w xs ρ = .ok (.nx ρ') ∧ I xs.length ρ' := by
  induction xs generalizing I ρ with
  | nil => exact ⟨ρ, rfl, h0⟩
  | cons x xs ih =>
    obtain ⟨ρ1, h1, h2⟩ := hs 0 x ρ rfl h0
    obtain ⟨ρ2, h3, h4⟩ := ih (fun i => I (i + 1)) h2 fun i y ρ hy hi => hs (i + 1) y ρ (by simpa using hy) hi
    refine ⟨ρ2, ?_, h4⟩
    rw [forF]
    rcases h1 with h1 | h1 <;> rw [h1] <;> exact h3
theorem compF_map {step : D → R (Option D)} {xs : List D} (g : D → Option D) (h : ∀ x ∈ xs, step x = .ok (g x)) : compF step xs = .ok (xs.filterMap g) := by
  induction xs with
  | nil => rfl
  | cons x xs ih =>
    rw [compF, h x List.mem_cons_self, ih fun y hy => h y (List.mem_cons_of_mem _ hy)]
    cases hg : g x <;> simp [hg]
/-- over coded items -/
theorem compF_of {α : Type} {step : D → R (Option D)} (enc : α → D) (g : α → Option D) {xs : List α} (h : ∀ x ∈ xs, step (enc x) = .ok (g x)) : compF step (xs.map enc) = .ok (xs.filterMap g) := by
  induction xs with
  | nil => rfl
  | cons x xs ih =>
    rw [List.map_cons, compF, h x List.mem_cons_self, ih fun y hy => h y (List.mem_cons_of_mem _ hy)]
    cases hg : g x <;> simp [hg]
theorem compF_all {α : Type} {step : D → R (Option D)} (enc : α → D) (g : α → D) {xs : List α} (h : ∀ x ∈ xs, step (enc x) = .ok (some (g x))) : compF step (xs.map enc) = .ok (xs.map g) := by
  rw [compF_of enc (fun x => some (g x)) h]
  simp
/-! ### numbers -/
def cell (ns : List Int) (k : Nat) : Int := ns.getD k 0
def mix1 (ns : List Int) (k : Nat) : Int := ((cell ns k + 7919 * k + 1) * 48271) % 2147483647
def mixed (ns : List Int) (k : Nat) : Int := (mix1 ns k * mix1 ns k + 7 * mix1 ns k + k) % 2147483629
def drw1 (n : Int) (k : Int) : Int := ((n + 104729 * k + 17) * 69621) % 2147483647
def drw (n : Int) (k : Int) : Int := (drw1 n k * drw1 n k + 3 * drw1 n k + k) % 2147483629
theorem mixed_nn (ns : List Int) (k : Nat) : 0 ≤ mixed ns k ∧ mixed ns k < 2147483629 := ⟨Int.emod_nonneg _ (by decide), Int.emod_lt_of_pos _ (by decide)⟩
theorem drw_nn (n k : Int) : 0 ≤ drw n k ∧ drw n k < 2147483629 := ⟨Int.emod_nonneg _ (by decide), Int.emod_lt_of_pos _ (by decide)⟩
theorem ev_cell (n : Nat) (ns : List Int) (k : Nat) : Ev (n + 1) 1 [scr (ns.map .int), .int k] = .ok (.int (cell ns k)) := by
  rw [ev_open (fn := f1_l_cell_at) rfl rfl]
  simp [f1_l_cell_at]
  by_cases h : k < ns.length
  · simp [h, atI_nat', cell]
  · simp [h, cell]
theorem small_of {i : Int} (h1 : -18446744073709551616 < i) (h2 : i < 18446744073709551616) : smallI i = true := by
  unfold smallI wide
  simp [h1, h2]
theorem ev_mixed (n : Nat) (ns : List Int) (k : Nat) (hk : k ≤ 1000) : Ev (n + 2) 2 [scr (ns.map .int), .int k] = .ok (.int (mixed ns k)) := by
  rw [ev_open (fn := f2_l_mixed) rfl rfl]
  have h := ev_cell n ns k
  unfold Ev at h
  have b1 : 0 ≤ mix1 ns k ∧ mix1 ns k < 2147483647 := ⟨Int.emod_nonneg _ (by decide), Int.emod_lt_of_pos _ (by decide)⟩
  have s1 : smallI (mix1 ns k) = true := small_of (by omega) (by omega)
  have s2 : smallI 7919 = true := by decide
  have s3 : smallI 48271 = true := by decide
  have s4 : smallI 7 = true := by decide
  have e1 : (cell ns k + 7919 * (k : Int) + 1) * 48271 % 2147483647 = mix1 ns k := rfl
  simp [f2_l_mixed, h, s2, s3, s4, e1, s1]
  rfl
theorem ev_drw (n : Nat) (m k : Int) : Ev (n + 1) 3 [.int m, .int k] = .ok (.int (drw m k)) := by
  rw [ev_open (fn := f3_l_drawn) rfl rfl]
  have b1 : 0 ≤ drw1 m k ∧ drw1 m k < 2147483647 := ⟨Int.emod_nonneg _ (by decide), Int.emod_lt_of_pos _ (by decide)⟩
  have s1 : smallI (drw1 m k) = true := small_of (by omega) (by omega)
  have s2 : smallI 104729 = true := by decide
  have s3 : smallI 69621 = true := by decide
  have s4 : smallI 3 = true := by decide
  have e1 : (m + 104729 * k + 17) * 69621 % 2147483647 = drw1 m k := rfl
  simp [f3_l_drawn, s2, s3, s4, e1, s1]
  rfl
/-! ### keys, houses -/
/-- an item of a written list of texts -/
theorem tab_at (ss : List (List Nat)) (m : Int) (k : Int) (hk : k = ss.length) (h0 : 0 < k) : ∃ s, ss[(m % k).toNat]? = some s ∧ L2.atI (ss.map st) (m % k) = some (st s) := by
  obtain ⟨d, h1, h2⟩ := atI_some (xs := ss.map st) (i := m % k) (Int.emod_nonneg _ (by omega)) (by rw [List.length_map, ← hk]; exact Int.emod_lt_of_pos _ h0)
  rw [List.getElem?_map] at h2
  obtain ⟨s, hs, rfl⟩ := Option.map_eq_some_iff.mp h2
  exact ⟨s, hs, h1⟩
theorem enc_at {α : Type} (enc : α → D) (xs : List α) (m : Int) (h : xs ≠ []) : ∃ r ∈ xs, L2.atI (xs.map enc) (m % xs.length) = some (enc r) := by
  have hl : 0 < (xs.length : Int) := by
    have := List.length_pos_iff.mpr h
    omega
  obtain ⟨d, h1, h2⟩ := atI_some (xs := xs.map enc) (i := m % xs.length) (Int.emod_nonneg _ (by omega)) (by rw [List.length_map]; exact Int.emod_lt_of_pos _ hl)
  rw [List.getElem?_map] at h2
  obtain ⟨s, hs, rfl⟩ := Option.map_eq_some_iff.mp h2
  exact ⟨s, List.mem_of_getElem? hs, h1⟩
theorem rng_get {n i : Nat} {f : Nat → D} {x : D} (h : ((List.range n).map f)[i]? = some x) : x = f i ∧ i < n := by
  rw [List.getElem?_map] at h
  obtain ⟨j, hj, rfl⟩ := Option.map_eq_some_iff.mp h
  obtain ⟨hi, rfl⟩ := List.getElem?_eq_some_iff.mp hj
  rw [List.length_range] at hi
  simp [hi]
theorem rng_ok {k : Int} (h0 : 0 ≤ k) (h1 : k ≤ 1000000) : (decide (-far ≤ k) && decide (k ≤ 1000000)) = true := by
  unfold far
  rw [Bool.and_eq_true, decide_eq_true_eq, decide_eq_true_eq]
  exact ⟨by omega, h1⟩
def keyT : List (List Nat) := [[97], [98], [99], [97], [98], [101, 110, 116, 101, 114], [99, 45, 97], [109, 45, 120], [99, 45, 109, 45, 115, 45, 117, 112], [49]]
theorem ev_key (n : Nat) (m : Int) : ∃ s ∈ keyT, Ev (n + 1) 19 [.int m] = .ok (st s) := by
  rw [ev_open (fn := f19_l_key) rfl rfl]
  obtain ⟨s, hs, h⟩ := tab_at keyT m 10 rfl (by decide)
  refine ⟨s, List.mem_of_getElem? hs, ?_⟩
  simp only [keyT, List.map_cons, List.map_nil] at h
  simp [f19_l_key, h]
structure House where
  rooms : List (List Nat × Option (List Nat))
  ways : List (List Nat × List Nat)
  deriving DecidableEq
def encO : Option (List Nat) → D
  | none => .none
  | some s => st s
def encR (r : List Nat × Option (List Nat)) : D := .tuple [st r.1, encO r.2]
def encW (r : List Nat × List Nat) : D := .tuple [st r.1, st r.2]
def encH (h : House) : D := .tuple [.tuple (h.rooms.map encR), .tuple (h.ways.map encW)]
def nameT : List (List Nat) := [[97, 108, 108], [116, 101, 120, 116], [109, 97, 105, 108], [113, 117, 105, 116], [102, 105, 110, 100], [122, 111, 111, 109]]
def deedT : List (List Nat) := [[103, 111], [105, 110], [111, 117, 116], [115, 101, 116]]
/-- what a room of the list is -/
def RoomsOk (n : Int) (rs : List (List Nat × Option (List Nat))) : Prop :=
  ∀ (j : Nat) (r : List Nat × Option (List Nat)), rs[j]? = some r → nameT[((n + j) % 6).toNat]? = some r.1 ∧ ∀ o, r.2 = some o → ∃ r' ∈ rs.take j, r'.1 = o
theorem rooms_more {n : Int} {rs : List (List Nat × Option (List Nat))} {r : List Nat × Option (List Nat)} (h : RoomsOk n rs) (h1 : nameT[((n + rs.length) % 6).toNat]? = some r.1) (h2 : ∀ o, r.2 = some o → ∃ r' ∈ rs, r'.1 = o) : RoomsOk n (rs ++ [r]) := by
  intro j x hx
  by_cases hj : j < rs.length
  · rw [List.getElem?_append_left hj] at hx
    obtain ⟨k1, k2⟩ := h j x hx
    refine ⟨k1, fun o ho => ?_⟩
    rw [List.take_append_of_le_length (by omega)]
    exact k2 o ho
  · have hj2 : j = rs.length := by
      have := (List.getElem?_eq_some_iff.mp hx).1
      rw [List.length_append, List.length_singleton] at this
      omega
    subst hj2
    rw [List.getElem?_append_right (by omega), Nat.sub_self] at hx
    cases hx
    refine ⟨h1, fun o ho => ?_⟩
    rw [List.take_append_of_le_length (by omega), List.take_length]
    exact h2 o ho
/-- a turn's end -/
def OkNx (J : Env → Prop) : R Flow → Prop
  | .ok (.nx ρ) => J ρ
  | .ok (.cn ρ) => J ρ
  | _ => False
@[simp] theorem OkNx_nx (J : Env → Prop) (ρ : Env) : OkNx J (.ok (.nx ρ)) = J ρ := rfl
@[simp] theorem OkNx_cn (J : Env → Prop) (ρ : Env) : OkNx J (.ok (.cn ρ)) = J ρ := rfl
theorem OkNx_inv {J : Env → Prop} {r : R Flow} (h : OkNx J r) : ∃ ρ, (r = .ok (.nx ρ) ∨ r = .ok (.cn ρ)) ∧ J ρ := by
  unfold OkNx at h
  split at h
  · exact ⟨_, .inl rfl, h⟩
  · exact ⟨_, .inr rfl, h⟩
  · exact h.elim
theorem bind_for {step : D → Env → R Flow} {w : List Nat} {xs : List D} {ρ : Env} {α : Type} {k : Flow → R α} (P : R α → Prop) (I : Nat → Env → Prop) (h0 : I 0 ρ)
    (hs : ∀ (i : Nat) (x : D) (ρ : Env), xs[i]? = some x → I i ρ → OkNx (fun ρ' => I (i + 1) (wipeE ρ' w)) (step x ρ)) (hk : ∀ ρ', I xs.length ρ' → P (k (.nx ρ'))) : P ((forF step w xs ρ).bind k) := by
  obtain ⟨ρ', h, hi⟩ := forF_inv I h0 fun i x ρ hx hi => OkNx_inv (hs i x ρ hx hi)
  rw [h]
  exact hk ρ' hi
structure HouseOk (m : Int) (h : House) : Prop where
  len : h.rooms.length ≤ 5
  ne : h.rooms ≠ []
  rooms : RoomsOk m h.rooms
  deeds : (h.ways.map (·.1)).Sublist deedT
  ways : ∀ w ∈ h.ways, ∃ r ∈ h.rooms, r.1 = w.2
abbrev nameL : D := .list [st [97, 108, 108], st [116, 101, 120, 116], st [109, 97, 105, 108], st [113, 117, 105, 116], st [102, 105, 110, 100], st [122, 111, 111, 109]]
def IH1 (m : Int) (i : Nat) (ρ : Env) : Prop := ∃ rs, RoomsOk m rs ∧ rs.length = i + 1 ∧ ρ = [some (.val (.int m)), some (.val nameL), some (.own (.list (rs.map encR))), none, none, none, none, none, none]
def IH2 (m : Int) (rs : List (List Nat × Option (List Nat))) (i : Nat) (ρ : Env) : Prop := ∃ ws : List (List Nat × List Nat), (ws.map (·.1)).Sublist (deedT.take i) ∧ (∀ w ∈ ws, ∃ r ∈ rs, r.1 = w.2) ∧
  ρ = [some (.val (.int m)), some (.val nameL), some (.own (.list (rs.map encR))), none, some (.own (.list (ws.map encW))), none, none, none, none]
theorem ev_house (n : Nat) (m : Int) (hm : 0 ≤ m) (hm2 : m < 2147483629) : ∃ h, HouseOk m h ∧ Ev (n + 2) 20 [.int m] = .ok (encH h) := by
  rw [ev_open (fn := f20_l_house) rfl rfl]
  obtain ⟨s0, hs0, h0⟩ := tab_at nameT m 6 rfl (by decide)
  simp only [nameT, List.map_cons, List.map_nil] at h0
  simp [f20_l_house, h0]
  rw [guard_ok' (rng_ok (by omega) (by omega))]
  have hd := fun k => ev_drw n m k
  unfold Ev at hd
  refine bind_for (P := fun r => ∃ h, HouseOk m h ∧ r = .ok (encH h)) (IH1 m) ?_ ?_ ?_
  · refine ⟨[(s0, none)], ?_, rfl, rfl⟩
    have := rooms_more (n := m) (rs := []) (r := (s0, none)) (fun j r h => by simp at h) (by simpa using hs0) (by simp)
    exact this
  · rintro i x ρ hx ⟨rs, h1, h2, rfl⟩
    obtain ⟨rfl, hi⟩ := rng_get hx
    have hne : rs ≠ [] := fun z => by rw [z] at h2; simp at h2
    obtain ⟨q, hq⟩ : ∃ q, drw m i / 4 = q := ⟨_, rfl⟩
    obtain ⟨r, hr, hat⟩ := enc_at encR rs q hne
    obtain ⟨s, hs, hsat⟩ := tab_at nameT (m + i + 1) 6 rfl (by decide)
    simp only [nameT, List.map_cons, List.map_nil] at hsat
    have hp : 0 < rs.length := by omega
    have hl : rs.length < lim := by
      have : i < 5 := by omega
      show rs.length < 1000000
      omega
    have hs' : nameT[((m + (rs.length : Nat)) % 6).toNat]? = some s := by
      rw [h2, show (m + ((i + 1 : Nat) : Int)) = m + i + 1 by omega]
      exact hs
    by_cases hc : q / 16 % 4 = 0
    · simp [fstep, hd, hq, hsat, hat, encR, hl, hp, hc]
      exact ⟨rs ++ [(s, none)], rooms_more h1 hs' (fun z hz => by cases hz), by simp [h2], by rw [List.map_append]; rfl⟩
    · simp [fstep, hd, hq, hsat, hat, encR, hl, hp, hc]
      exact ⟨rs ++ [(s, some r.1)], rooms_more h1 hs' (fun z hz => ⟨r, hr, by cases hz; rfl⟩), by simp [h2], by rw [List.map_append]; rfl⟩
  · rintro ρ ⟨rs, h1, h2, rfl⟩
    have h2 : rs.length = (m / 6 % 5).toNat + 1 := by simpa using h2
    have hne : rs ≠ [] := fun z => by rw [z] at h2; simp at h2
    have hp : 0 < rs.length := by omega
    simp
    refine bind_for (P := fun r => ∃ h, HouseOk m h ∧ r = .ok (encH h)) (IH2 m rs) ?_ ?_ ?_
    · exact ⟨[], by simp, by simp, rfl⟩
    · rintro i x ρ hx ⟨ws, k1, k2, rfl⟩
      have hx' : ∃ z, deedT[i]? = some z ∧ x = .tuple [.int i, st z] := by
        match i, hx with
        | 0, hx => simp [enumFrom] at hx; exact ⟨_, rfl, hx.symm⟩
        | 1, hx => simp [enumFrom] at hx; exact ⟨_, rfl, hx.symm⟩
        | 2, hx => simp [enumFrom] at hx; exact ⟨_, rfl, hx.symm⟩
        | 3, hx => simp [enumFrom] at hx; exact ⟨_, rfl, hx.symm⟩
        | i + 4, hx => simp [enumFrom] at hx
      obtain ⟨z, hz, rfl⟩ := hx'
      obtain ⟨q, hq⟩ : ∃ q, drw m (10 + i) / 4 = q := ⟨_, rfl⟩
      obtain ⟨r, hr, hat⟩ := enc_at encR rs (q / 4) hne
      have hwl : ws.length < lim := by
        have := k1.length_le
        rw [List.length_map, List.length_take] at this
        show ws.length < 1000000
        have : deedT.length = 4 := rfl
        omega
      have ht : deedT.take (i + 1) = deedT.take i ++ [z] := by
        rw [List.take_add_one, hz]
        rfl
      by_cases hc : q % 3 = 0
      · simp [fstep, hd, hq, hat, encR, hc, hp, hwl]
        refine ⟨ws ++ [(z, r.1)], ?_, ?_, by rw [List.map_append]; rfl⟩
        · rw [ht, List.map_append]
          exact k1.append (List.Sublist.refl _)
        · intro w hw
          rw [List.mem_append, List.mem_singleton] at hw
          rcases hw with hw | rfl
          · exact k2 w hw
          · exact ⟨r, hr, rfl⟩
      · simp [fstep, hd, hq, hat, encR, hc, hp, hwl]
        refine ⟨ws, ?_, k2, rfl⟩
        rw [ht]
        exact k1.trans (List.sublist_append_left _ _)
    · rintro ρ ⟨ws, k1, k2, rfl⟩
      simp
      exact ⟨⟨rs, ws⟩, ⟨by simp only [h2]; omega, hne, h1, k1.trans (List.take_sublist _ _), k2⟩, rfl⟩
/-! ### comprehensions -/
def OkSome (J : D → Prop) : R (Option D) → Prop
  | .ok (some d) => J d
  | _ => False
@[simp] theorem OkSome_ok (J : D → Prop) (d : D) : OkSome J (.ok (some d)) = J d := rfl
theorem OkSome_inv {J : D → Prop} {r : R (Option D)} (h : OkSome J r) : ∃ d, r = .ok (some d) ∧ J d := by
  unfold OkSome at h
  split at h
  · exact ⟨_, rfl, h⟩
  · exact h.elim
theorem compF_ex {β : Type} {step : D → R (Option D)} (enc : β → D) (Q : Nat → β → Prop) {xs : List D} (h : ∀ (i : Nat) (x : D), xs[i]? = some x → OkSome (fun d => ∃ y, d = enc y ∧ Q i y) (step x)) :
    ∃ ys : List β, compF step xs = .ok (ys.map enc) ∧ ys.length = xs.length ∧ ∀ (i : Nat) (y : β), ys[i]? = some y → Q i y := by
  induction xs generalizing Q with
  | nil => exact ⟨[], rfl, rfl, fun i y h => by simp at h⟩
  | cons x xs ih =>
    obtain ⟨d, hd, y, rfl, hy⟩ := OkSome_inv (h 0 x rfl)
    obtain ⟨ys, h1, h2, h3⟩ := ih (fun i => Q (i + 1)) fun i z hz => h (i + 1) z (by simpa using hz)
    refine ⟨y :: ys, ?_, by simp [h2], fun i z hz => ?_⟩
    · rw [compF, hd, R.bind_ok, h1]
      rfl
    · cases i with
      | zero => simp at hz; rw [← hz]; exact hy
      | succ i => exact h3 i z (by simpa using hz)
theorem bind_comp {β : Type} {step : D → R (Option D)} {xs : List D} {α : Type} {k : List D → R α} (P : R α → Prop) (enc : β → D) (Q : Nat → β → Prop)
    (h : ∀ (i : Nat) (x : D), xs[i]? = some x → OkSome (fun d => ∃ y, d = enc y ∧ Q i y) (step x)) (hk : ∀ ys : List β, ys.length = xs.length → (∀ (i : Nat) (y : β), ys[i]? = some y → Q i y) → P (k (ys.map enc))) : P ((compF step xs).bind k) := by
  obtain ⟨ys, h1, h2, h3⟩ := compF_ex enc Q h
  rw [h1]
  exact hk ys h2 h3
/-! ### binds -/
structure Bnd where
  room : List Nat
  keys : List (List Nat)
  deed : Option (List Nat)
  deriving DecidableEq
def encK (ks : List (List Nat)) : D := .tuple (ks.map st)
def encB (b : Bnd) : D := .tuple [st b.room, encK b.keys, encO b.deed]
def encP (p : List Nat × List (List Nat)) : D := .tuple [st p.1, encK p.2]
def Bnd.place (b : Bnd) : List Nat × List (List Nat) := (b.room, b.keys)
def bdeedT : List (List Nat) := [[103, 111], [105, 110], [111, 117, 116], [115, 101, 116], [99, 111, 112, 121], [117, 110, 100, 111]]
structure BndOk (h : House) (b : Bnd) : Prop where
  room : ∃ r ∈ h.rooms, r.1 = b.room
  len : 1 ≤ b.keys.length ∧ b.keys.length ≤ 3
  keys : ∀ k ∈ b.keys, k ∈ keyT
  deed : ∀ d, b.deed = some d → d ∈ bdeedT
theorem tabD_at (ss : List D) (m : Int) (k : Int) (hk : k = ss.length) (h0 : 0 < k) : ∃ d ∈ ss, L2.atI ss (m % k) = some d := by
  obtain ⟨d, h1, h2⟩ := atI_some (xs := ss) (i := m % k) (Int.emod_nonneg _ (by omega)) (by rw [← hk]; exact Int.emod_lt_of_pos _ h0)
  exact ⟨d, List.mem_of_getElem? h2, h1⟩
theorem ev_bind (n : Nat) (h : House) (hne : h.rooms ≠ []) (m : Int) (hm : 0 ≤ m) : ∃ b, BndOk h b ∧ Ev (n + 2) 21 [encH h, .int m] = .ok (encB b) := by
  rw [ev_open (fn := f21_l_bind) rfl rfl]
  obtain ⟨r, hr, hat⟩ := enc_at encR h.rooms m hne
  have hp : 0 < h.rooms.length := List.length_pos_iff.mpr hne
  obtain ⟨c, hc, hcat⟩ := tabD_at [.int 1, .int 2, .int 1, .int 3, .int 2] (m / 8) 5 rfl (by decide)
  obtain ⟨d, hd, hdat⟩ := tabD_at [st [103, 111], st [105, 110], st [111, 117, 116], st [115, 101, 116], st [99, 111, 112, 121], st [117, 110, 100, 111], .none, st [103, 111], st [105, 110]] (m / 64) 9 rfl (by decide)
  have hcr : ∃ j : Nat, c = .int j ∧ 1 ≤ j ∧ j ≤ 3 := by
    simp at hc
    rcases hc with rfl | rfl | rfl | rfl | rfl
    · exact ⟨1, rfl, by decide, by decide⟩
    · exact ⟨2, rfl, by decide, by decide⟩
    · exact ⟨1, rfl, by decide, by decide⟩
    · exact ⟨3, rfl, by decide, by decide⟩
    · exact ⟨2, rfl, by decide, by decide⟩
  have hdr : ∃ o : Option (List Nat), d = encO o ∧ ∀ z, o = some z → z ∈ bdeedT := by
    simp only [List.mem_cons, List.not_mem_nil, or_false] at hd
    rcases hd with rfl | rfl | rfl | rfl | rfl | rfl | rfl | rfl | rfl
    all_goals first
      | exact ⟨none, rfl, fun z hz => by cases hz⟩
      | exact ⟨some _, rfl, fun z hz => by cases hz; simp [bdeedT]⟩
  obtain ⟨j, rfl, hj1, hj2⟩ := hcr
  obtain ⟨o, rfl, ho⟩ := hdr
  have hd := fun k => ev_drw n m k
  have hk := fun k => ev_key n k
  unfold Ev at hd hk
  simp [f21_l_bind, encH, hat, hp, hcat, hdat, encR]
  rw [guard_ok' (rng_ok (by omega) (by omega))]
  refine bind_comp (P := fun r => ∃ b, BndOk h b ∧ r = .ok (encB b)) st (fun _ k => k ∈ keyT) (fun i x hx => ?_) fun ys h1 h2 => ?_
  · obtain ⟨rfl, hi⟩ := rng_get hx
    obtain ⟨s, hs, he⟩ := hk (drw m i / 4)
    simp [cstep, hd, he]
    exact ⟨s, rfl, hs⟩
  · rw [range_len] at h1
    simp [hdat]
    exact ⟨⟨r.1, ys, o⟩, ⟨⟨r, hr, rfl⟩, by simp only [h1]; omega, fun k hk => by
      obtain ⟨i, hi⟩ := List.getElem?_of_mem hk
      exact h2 i k hi, ho⟩, rfl⟩
/-! ### plain data -/
theorem sx_inj {a b : List Nat} (h : sx a = sx b) : a = b := by
  have h2 : (sx a).cps.toList = (sx b).cps.toList := by rw [h]
  simpa [sx] using h2
theorem eqv_st (a b : List Nat) : PySem.PyData.eqv (st a) (st b) = decide (a = b) := by
  show (sx a == sx b) = _
  rw [Bool.beq_eq_decide_eq]
  exact decide_eq_decide.mpr ⟨sx_inj, fun h => by rw [h]⟩
theorem eqv_sts : ∀ a b : List (List Nat), PySem.PyData.eqvAll (a.map st) (b.map st) = decide (a = b)
  | [], [] => by simp [PySem.PyData.eqvAll]
  | x :: a, y :: b => by
    rw [List.map_cons, List.map_cons, PySem.PyData.eqvAll, eqv_st, eqv_sts a b]
    by_cases h : x = y <;> simp [h]
  | [], _ :: _ => by simp [PySem.PyData.eqvAll]
  | _ :: _, [] => by simp [PySem.PyData.eqvAll]
theorem eqv_K (a b : List (List Nat)) : PySem.PyData.eqv (encK a) (encK b) = decide (a = b) := by
  unfold encK
  rw [PySem.PyData.eqv, eqv_sts]
theorem eqv_P (p q : List Nat × List (List Nat)) : PySem.PyData.eqv (encP p) (encP q) = decide (p = q) := by
  obtain ⟨a, ks⟩ := p
  obtain ⟨b, ls⟩ := q
  unfold encP
  simp only [PySem.PyData.eqv, PySem.PyData.eqvAll, eqv_st, eqv_K, Bool.and_true, Prod.mk.injEq]
  by_cases h : a = b <;> simp [h]
/-- plain and of little depth -/
def Flat (k : Nat) (d : D) : Prop := plain d = true ∧ d.depth ≤ k
theorem Flat.shp {k : Nat} {d : D} (h : Flat k d) (hk : k ≤ 60) : shp d = true := by
  unfold KD.shp
  rw [h.1, Bool.true_and]
  exact decide_eq_true (Nat.le_trans h.2 hk)
theorem flats {k : Nat} : ∀ {xs : List D}, (∀ x ∈ xs, Flat k x) → plains xs = true ∧ PySem.PyData.depthAll xs ≤ k
  | [], _ => ⟨rfl, Nat.zero_le _⟩
  | x :: xs, h => by
    obtain ⟨h1, h2⟩ := flats fun y hy => h y (List.mem_cons_of_mem _ hy)
    obtain ⟨h3, h4⟩ := h x List.mem_cons_self
    rw [plains, PySem.PyData.depthAll, h3, h1]
    exact ⟨rfl, Nat.max_le.mpr ⟨h4, h2⟩⟩
theorem Flat.tup {k : Nat} {xs : List D} (h : ∀ x ∈ xs, Flat k x) : Flat (k + 1) (.tuple xs) := by
  obtain ⟨h1, h2⟩ := flats h
  exact ⟨by rw [KD.plain]; exact h1, by rw [PySem.PyData.depth]; omega⟩
theorem Flat.lst {k : Nat} {xs : List D} (h : ∀ x ∈ xs, Flat k x) : Flat (k + 1) (.list xs) := by
  obtain ⟨h1, h2⟩ := flats h
  exact ⟨by rw [KD.plain]; exact h1, by rw [PySem.PyData.depth]; omega⟩
theorem Flat.up {k l : Nat} {d : D} (h : Flat k d) (hk : k ≤ l) : Flat l d := ⟨h.1, Nat.le_trans h.2 hk⟩
theorem flat_st (a : List Nat) : Flat 0 (st a) := ⟨by simp [st, KD.plain], by simp [st, PySem.PyData.depth]⟩
theorem flat_O (o : Option (List Nat)) : Flat 0 (encO o) := by
  cases o with
  | none => exact ⟨by simp [encO, KD.plain], by simp [encO, PySem.PyData.depth]⟩
  | some s => exact flat_st s
theorem flat_K (a : List (List Nat)) : Flat 1 (encK a) := Flat.tup fun x hx => by
  obtain ⟨s, _, rfl⟩ := List.mem_map.mp hx
  exact flat_st s
theorem flat_P (p : List Nat × List (List Nat)) : Flat 2 (encP p) := Flat.tup fun x hx => by
  simp only [List.mem_cons, List.not_mem_nil, or_false] at hx
  rcases hx with rfl | rfl
  · exact (flat_st _).up (by decide)
  · exact flat_K _
theorem inD_lst {x : D} {ys : List D} (h1 : KD.shp x = true) (h2 : KD.shp (.list ys) = true) (h3 : ∀ z, x ≠ .str z) : inD x (.list ys) = .ok (ys.any fun z => PySem.PyData.eqv z x) := by
  cases x <;> first
    | exact absurd rfl (h3 _)
    | (simp only [inD]; rw [h1, h2]; rfl)
theorem in_places (p : List Nat × List (List Nat)) (ps : List (List Nat × List (List Nat))) : inD (encP p) (.list (ps.map encP)) = .ok (decide (p ∈ ps)) := by
  rw [inD_lst ((flat_P p).shp (by decide)) ((Flat.lst (k := 2) fun x hx => by
    obtain ⟨q, _, rfl⟩ := List.mem_map.mp hx
    exact flat_P q).shp (by decide)) (fun z => by unfold encP; simp)]
  congr 1
  rw [List.any_map, Bool.eq_iff_iff, List.any_eq_true, decide_eq_true_eq]
  constructor
  · rintro ⟨q, hq, h⟩
    rw [Function.comp, eqv_P, decide_eq_true_eq] at h
    exact h ▸ hq
  · intro h
    exact ⟨p, h, by rw [Function.comp, eqv_P]; exact decide_eq_true rfl⟩
theorem cut_2 {α : Type} (a b : α) (l : List α) : cutL (a :: b :: l) none (some 2) = [a, b] := by
  unfold cutL
  rw [show HT.sIx (a :: b :: l).length (a :: b :: l).length (some 2) = min 2 (a :: b :: l).length from HT.sIx_nat _ _ 2, HT.sIx_none]
  simp
/-! ### maps -/
structure MapOk (h : House) (bs : List Bnd) : Prop where
  each : ∀ b ∈ bs, BndOk h b
  once : (bs.map Bnd.place).Nodup
def encM (bs : List Bnd) : D := .tuple (bs.map encB)
def IM (h : House) (m most : Int) (i : Nat) (ρ : Env) : Prop := ∃ bs, MapOk h bs ∧ bs.length ≤ i ∧ ρ = [some (.val (encH h)), some (.val (.int m)), some (.val (.int most)), some (.own (.list (bs.map encB))), none, none, none]
theorem ev_map (n : Nat) (h : House) (hne : h.rooms ≠ []) (m most : Int) (hm : 0 ≤ m) (h0 : 0 ≤ most) (h1 : most ≤ 1000) : ∃ bs, MapOk h bs ∧ (bs.length : Int) ≤ most ∧ Ev (n + 3) 22 [encH h, .int m, .int most] = .ok (encM bs) := by
  rw [ev_open (fn := f22_l_map) rfl rfl]
  have hp : 0 < most + 1 := by omega
  have e0 := Int.emod_nonneg m (show most + 1 ≠ 0 by omega)
  have e1 := Int.emod_lt_of_pos m hp
  simp [f22_l_map, hp]
  rw [guard_ok' (rng_ok e0 (by omega))]
  refine bind_for (P := fun r => ∃ bs, MapOk h bs ∧ (bs.length : Int) ≤ most ∧ r = .ok (encM bs)) (IM h m most) ?_ ?_ ?_
  · exact ⟨[], ⟨fun b hb => by simp at hb, by simp⟩, Nat.le_refl _, rfl⟩
  · rintro i x ρ hx ⟨bs, k1, k2, rfl⟩
    obtain ⟨rfl, hi⟩ := rng_get hx
    have hd := fun k => ev_drw (n + 1) m k
    obtain ⟨b, hb, he⟩ := ev_bind n h hne (drw m (20 + i) / 4) (Int.ediv_nonneg (drw_nn _ _).1 (by decide))
    unfold Ev at hd he
    have hl : bs.length < lim := by
      show bs.length < 1000000
      omega
    have hin := in_places b.place (bs.map Bnd.place)
    rw [List.map_map] at hin
    have hin2 : inD (.tuple [st b.room, encK b.keys]) (.list (bs.map fun b => encP b.place)) = .ok (decide (b.place ∈ bs.map Bnd.place)) := hin
    simp [fstep, hd, he, encB, cut_2]
    rw [compF_all encB (fun b => encP b.place) fun c _ => by simp [cstep, encB, cut_2, encP, Bnd.place]]
    rw [R.bind_ok, hin2, R.bind_ok]
    by_cases hc : b.place ∈ bs.map Bnd.place
    · rw [decide_eq_true hc]
      simp
      exact ⟨bs, k1, Nat.le_succ_of_le k2, rfl⟩
    · rw [decide_eq_false hc]
      simp [hl]
      refine ⟨bs ++ [b], ⟨fun c hc' => ?_, ?_⟩, by rw [List.length_append]; exact Nat.succ_le_succ k2, by rw [List.map_append]; rfl⟩
      · rw [List.mem_append, List.mem_singleton] at hc'
        rcases hc' with hc' | rfl
        · exact k1.each c hc'
        · exact hb
      · rw [List.map_append, List.nodup_append]
        refine ⟨k1.once, by simp, fun x hx y hy => ?_⟩
        simp at hy
        rintro rfl
        exact hc (hy ▸ hx)
  · rintro ρ ⟨bs, k1, k2, rfl⟩
    rw [range_len] at k2
    simp
    exact ⟨bs, k1, by omega, rfl⟩
end KP
/-! KdTy: dicts of typed keys, loops with typed states. -/
namespace KP
open PySem hiding Env Flow
open KD
variable {κ β γ : Type} [DecidableEq κ]
/-- keys of one kind -/
structure KE (κ : Type) where
  ek : κ → D
  kk : κ → NestedKey
  f : Nat
  hk : ∀ a, keyOf (ek a) = some (kk a)
  inj : ∀ a b, kk a = kk b → a = b
  fl : ∀ a, flv (ek a) = f
  f2 : f < 2
  dp : ∀ a, (kk a).depth ≤ 8
def aget : List (κ × β) → κ → Option β
  | [], _ => none
  | p :: r, a => if p.1 = a then some p.2 else aget r a
def aset : List (κ × β) → κ → β → List (κ × β)
  | [], a, b => [(a, b)]
  | p :: r, a, b => if p.1 = a then (p.1, b) :: r else p :: aset r a b
def asets (acc l : List (κ × β)) : List (κ × β) := l.foldl (fun acc p => aset acc p.1 p.2) acc
theorem aget_none {l : List (κ × β)} {a : κ} : aget l a = none ↔ a ∉ l.map (·.1) := by
  induction l with
  | nil => simp [aget]
  | cons p r ih =>
    rw [aget, List.map_cons, List.mem_cons, not_or]
    by_cases h : p.1 = a
    · rw [if_pos h]
      exact ⟨fun z => (nomatch z), fun z => absurd h.symm z.1⟩
    · rw [if_neg h, ih]
      exact ⟨fun z => ⟨fun e => h e.symm, z⟩, fun z => z.2⟩
theorem aget_mem {l : List (κ × β)} {a : κ} {b : β} (h : aget l a = some b) : (a, b) ∈ l := by
  induction l with
  | nil => cases h
  | cons p r ih =>
    rw [aget] at h
    by_cases e : p.1 = a
    · rw [if_pos e] at h
      cases h
      rw [← e]
      exact List.mem_cons_self
    · rw [if_neg e] at h
      exact List.mem_cons_of_mem _ (ih h)
theorem aget_of {l : List (κ × β)} {a : κ} {b : β} (hn : (l.map (·.1)).Nodup) (h : (a, b) ∈ l) : aget l a = some b := by
  induction l with
  | nil => cases h
  | cons p r ih =>
    rw [List.map_cons, List.nodup_cons] at hn
    rw [aget]
    rcases List.mem_cons.mp h with rfl | h
    · rw [if_pos rfl]
    · rw [if_neg, ih hn.2 h]
      rintro e
      exact hn.1 (by rw [e]; exact List.mem_map.mpr ⟨_, h, rfl⟩)
theorem aset_new {l : List (κ × β)} {a : κ} {b : β} (h : a ∉ l.map (·.1)) : aset l a b = l ++ [(a, b)] := by
  induction l with
  | nil => rfl
  | cons p r ih =>
    rw [List.map_cons, List.mem_cons, not_or] at h
    rw [aset, if_neg fun e => h.1 e.symm, ih h.2]
    rfl
theorem aset_keys {l : List (κ × β)} {a : κ} {b : β} (h : a ∈ l.map (·.1)) : (aset l a b).map (·.1) = l.map (·.1) := by
  induction l with
  | nil => cases h
  | cons p r ih =>
    rw [aset]
    by_cases e : p.1 = a
    · rw [if_pos e]
      rfl
    · rw [if_neg e, List.map_cons, List.map_cons, ih]
      rw [List.map_cons, List.mem_cons] at h
      exact h.resolve_left fun z => e z.symm
theorem aget_aset {l : List (κ × β)} {a c : κ} {b : β} : aget (aset l a b) c = if a = c then some b else aget l c := by
  induction l with
  | nil => rfl
  | cons p r ih =>
    rw [aset]
    by_cases e : p.1 = a
    · rw [if_pos e, aget, aget, e]
      by_cases h : a = c <;> simp [h]
    · rw [if_neg e, aget, aget, ih]
      by_cases h : p.1 = c
      · rw [if_pos h, if_pos h, if_neg]
        rintro rfl
        exact e h
      · rw [if_neg h, if_neg h]
theorem aset_nodup {l : List (κ × β)} {a : κ} {b : β} (h : (l.map (·.1)).Nodup) : ((aset l a b).map (·.1)).Nodup := by
  by_cases e : a ∈ l.map (·.1)
  · rw [aset_keys e]
    exact h
  · rw [aset_new e, List.map_append]
    exact List.nodup_append.mpr ⟨h, by simp, fun x hx y hy => by simp at hy; rintro rfl; exact e (hy ▸ hx)⟩
theorem aset_mem {l : List (κ × β)} {a : κ} {b : β} {p : κ × β} (h : p ∈ aset l a b) : p = (a, b) ∨ p ∈ l := by
  induction l with
  | nil => simpa [aset] using h
  | cons q r ih =>
    rw [aset] at h
    by_cases e : q.1 = a
    · rw [if_pos e] at h
      rcases List.mem_cons.mp h with h | h
      · exact .inl (by rw [h, e])
      · exact .inr (List.mem_cons_of_mem _ h)
    · rw [if_neg e] at h
      rcases List.mem_cons.mp h with h | h
      · exact .inr (by rw [h]; exact List.mem_cons_self)
      · exact (ih h).imp id (List.mem_cons_of_mem _)
theorem asets_new {l acc : List (κ × β)} (h : ((acc ++ l).map (·.1)).Nodup) : asets acc l = acc ++ l := by
  induction l generalizing acc with
  | nil => simp [asets]
  | cons p r ih =>
    have hp : p.1 ∉ acc.map (·.1) := by
      rw [List.map_append, List.nodup_append] at h
      intro z
      exact h.2.2 _ z _ (List.mem_map.mpr ⟨p, List.mem_cons_self, rfl⟩) rfl
    show asets (aset acc p.1 p.2) r = _
    rw [aset_new hp, ih (by rw [List.append_assoc]; exact h), List.append_assoc]
    rfl
/-! ### dicts -/
section
variable (E : KE κ) (ev : β → D)
abbrev kvs (l : List (κ × β)) : List (D × D) := l.map fun p => (E.ek p.1, ev p.2)
def dD (l : List (κ × β)) : D := .dict (kvs E ev l)
variable {E ev}
theorem kv_ok (l : List (κ × β)) : dictOk (kvs E ev l) = true := by
  unfold dictOk
  rw [List.all_eq_true]
  intro p hp
  obtain ⟨q, _, rfl⟩ := List.mem_map.mp hp
  rw [decide_eq_true_eq]
  show flv (E.ek q.1) < 2
  rw [E.fl]
  exact E.f2
theorem key_at (l : List (κ × β)) (a : κ) : keyAt (kvs E ev l) (E.ek a) = some (E.kk a) := by
  unfold keyAt
  rw [E.hk]
  dsimp only
  rw [if_pos]
  rw [Bool.and_eq_true, decide_eq_true_eq, List.all_eq_true]
  refine ⟨E.dp a, fun p hp => ?_⟩
  obtain ⟨q, _, rfl⟩ := List.mem_map.mp hp
  rw [beq_iff_eq]
  show flv (E.ek q.1) = _
  rw [E.fl, E.fl]
theorem key_eq (a b : κ) : (keyOf (E.ek a) = some (E.kk b)) ↔ a = b := by
  rw [E.hk]
  exact ⟨fun h => E.inj _ _ (Option.some.inj h), fun h => by rw [h]⟩
theorem find_d (l : List (κ × β)) (a : κ) : dfind (E.kk a) (kvs E ev l) = (aget l a).map ev := by
  induction l with
  | nil => rfl
  | cons p r ih =>
    rw [kvs, List.map_cons, dfind, aget]
    by_cases h : p.1 = a
    · rw [if_pos ((key_eq _ _).mpr h), if_pos h]
      rfl
    · rw [if_neg fun z => h ((key_eq _ _).mp z), if_neg h]
      exact ih
theorem set_d (l : List (κ × β)) (a : κ) (b : β) : dset (E.kk a) (E.ek a) (ev b) (kvs E ev l) = kvs E ev (aset l a b) := by
  induction l with
  | nil => rfl
  | cons p r ih =>
    rw [kvs, List.map_cons, dset, aset]
    by_cases h : p.1 = a
    · rw [if_pos ((key_eq _ _).mpr h), if_pos h]
      rfl
    · rw [if_neg fun z => h ((key_eq _ _).mp z), if_neg h]
      show _ = (E.ek p.1, ev p.2) :: kvs E ev (aset r a b)
      rw [← ih]
theorem puts_d (l acc : List (κ × β)) : dputs (kvs E ev acc) (kvs E ev l) = some (kvs E ev (asets acc l)) := by
  induction l generalizing acc with
  | nil => rfl
  | cons p r ih =>
    show dputs _ ((E.ek p.1, ev p.2) :: _) = _
    rw [dputs, key_at]
    dsimp only
    rw [set_d]
    exact ih _
theorem pairs_d (l : List (κ × β)) : pairsOf (l.map fun p => .tuple [E.ek p.1, ev p.2]) = some (kvs E ev l) := by
  induction l with
  | nil => rfl
  | cons p r ih =>
    rw [List.map_cons, pairsOf, ih]
    rfl
theorem dict_d (l : List (κ × β)) : dictD (l.map fun p => .tuple [E.ek p.1, ev p.2]) = .ok (dD E ev (asets [] l)) := by
  unfold dictD
  rw [pairs_d, Option.bind_some, show ([] : List (D × D)) = kvs E ev [] from rfl, puts_d]
  rfl
theorem dict_lst (l : List (κ × β)) : bltD .dict [.list (l.map fun p => .tuple [E.ek p.1, ev p.2])] = .ok (dD E ev (asets [] l)) := dict_d l
theorem dict_tup (l : List (κ × β)) : bltD .dict [.tuple (l.map fun p => .tuple [E.ek p.1, ev p.2])] = .ok (dD E ev (asets [] l)) := dict_d l
theorem ix_d (l : List (κ × β)) (a : κ) : ixD (dD E ev l) (E.ek a) = ofOpt ((aget l a).map ev) := by
  unfold dD
  rw [ixD, key_at]
  dsimp only
  rw [find_d]
theorem in_d (l : List (κ × β)) (a : κ) : inD (E.ek a) (dD E ev l) = .ok (aget l a).isSome := by
  have : inD (E.ek a) (dD E ev l) = (match keyAt (kvs E ev l) (E.ek a) with
    | some k => .ok (dhas k (kvs E ev l))
    | none => .bot) := by
    unfold dD
    cases E.ek a <;> rfl
  rw [this, key_at]
  dsimp only
  unfold dhas
  rw [find_d]
  cases aget l a <;> rfl
theorem get_d (l : List (κ × β)) (a : κ) (x : D) : mthD .get (dD E ev l) [E.ek a, x] = .ok (((aget l a).map ev).getD x) := by
  have : mthD .get (dD E ev l) [E.ek a, x] = (match keyAt (kvs E ev l) (E.ek a) with
    | some q => .ok ((dfind q (kvs E ev l)).getD x)
    | none => .bot) := rfl
  rw [this, key_at]
  dsimp only
  rw [find_d]
theorem put_d (i : Nat) (l : List (κ × β)) (a : κ) (b : β) (ρ : KD.Env) (h : l.length < 1000000) : putK i (kvs E ev l) (E.ek a) (ev b) ρ = .ok (.nx (ρ.set i (some (.own (dD E ev (aset l a b)))))) := by
  unfold putK
  rw [key_at]
  dsimp only
  rw [set_d, guard_ok' (by rw [List.length_map]; exact decide_eq_true h)]
  rfl
theorem items_d (l : List (κ × β)) : walkD .items [dD E ev l] = .ok (l.map fun p => .tuple [E.ek p.1, ev p.2]) := by
  show R.guard _ _ = _
  rw [kv_ok, R.guard_true, List.map_map]
  rfl
theorem keys_d (l : List (κ × β)) : walkD .seq [dD E ev l] = .ok (l.map fun p => E.ek p.1) := by
  show seqD (.dict (kvs E ev l)) = _
  rw [seqD, kv_ok]
  dsimp only
  rw [List.map_map]
  rfl
theorem list_d (l : List (κ × β)) : bltD .list [dD E ev l] = .ok (.list (l.map fun p => E.ek p.1)) := by
  show R.guard _ _ = _
  rw [kv_ok, R.guard_true, List.map_map]
  rfl
theorem values_d (l : List (κ × β)) : bltD .values [dD E ev l] = .ok (.list (l.map fun p => ev p.2)) := by
  show R.guard _ _ = _
  rw [kv_ok, R.guard_true, List.map_map]
  rfl
theorem sortedD (l : List (κ × β)) : bltD .sorted [dD E ev l] = sortD (l.map fun p => E.ek p.1) := by
  show R.guard _ _ = _
  rw [kv_ok, R.guard_true, List.map_map]
  rfl
theorem isortedD (l : List (κ × β)) : bltD .itemsSorted [dD E ev l] = sortD (l.map fun p => .tuple [E.ek p.1, ev p.2]) := by
  show R.guard _ _ = _
  rw [kv_ok, R.guard_true, List.map_map]
  rfl
theorem eqe_d (l : List (κ × β)) : eqD (dD E ev l) (.dict []) = .ok l.isEmpty := by
  show R.guard _ _ = _
  rw [kv_ok, R.guard_true]
  cases l <;> rfl
theorem cont_d (l : List (κ × β)) : isCont (dD E ev l) = true := kv_ok l
theorem dict0 : PyData.dict [] = dD E ev ([] : List (κ × β)) := rfl
end
/-! ### the kinds of keys -/
def kT (a : List Nat) : NestedKey := .text (sx a)
theorem kT_inj (a b : List Nat) (h : kT a = kT b) : a = b := sx_inj (NestedKey.text.inj h)
def EN : KE (List Nat) := ⟨st, kT, 0, fun a => by simp [st, keyOf, kT], kT_inj, fun a => rfl, by decide, fun a => by simp [kT, NestedKey.depth]⟩
theorem keys_st (ks : List (List Nat)) : keysOf (ks.map st) = some (ks.map kT) := by
  induction ks with
  | nil => rfl
  | cons a r ih =>
    rw [List.map_cons, keysOf, ih, show keyOf (st a) = some (kT a) from by simp [st, keyOf, kT]]
    rfl
theorem depth_kT (ks : List (List Nat)) : NestedKey.depthAll (ks.map kT) = 0 := by
  induction ks with
  | nil => rfl
  | cons a r ih => rw [List.map_cons, NestedKey.depthAll, ih]; simp [kT, NestedKey.depth]
def kK (ks : List (List Nat)) : NestedKey := .tup (ks.map kT)
theorem key_K (ks : List (List Nat)) : keyOf (encK ks) = some (kK ks) := by
  unfold encK
  rw [keyOf, keys_st]
  rfl
theorem map_inj {α β : Type} {f : α → β} (hf : ∀ a b, f a = f b → a = b) : ∀ {l m : List α}, l.map f = m.map f → l = m
  | [], [], _ => rfl
  | a :: l, b :: m, h => by
    rw [List.map_cons, List.map_cons] at h
    injection h with h1 h2
    rw [hf _ _ h1, map_inj hf h2]
  | [], _ :: _, h => by simp at h
  | _ :: _, [], h => by simp at h
theorem kK_inj (a b : List (List Nat)) (h : kK a = kK b) : a = b := map_inj kT_inj (NestedKey.tup.inj h)
def EK : KE (List (List Nat)) := ⟨encK, kK, 1, key_K, kK_inj, fun a => rfl, by decide, fun a => by simp [kK, NestedKey.depth, depth_kT]⟩
def kP (p : List Nat × List (List Nat)) : NestedKey := .tup [kT p.1, kK p.2]
theorem key_P (p : List Nat × List (List Nat)) : keyOf (encP p) = some (kP p) := by
  unfold encP kP
  rw [keyOf, keysOf, keysOf, key_K, keysOf, show keyOf (st p.1) = some (kT p.1) from by simp [st, keyOf, kT]]
  rfl
theorem kP_inj (a b : List Nat × List (List Nat)) (h : kP a = kP b) : a = b := by
  unfold kP at h
  simp only [NestedKey.tup.injEq, List.cons.injEq, and_true] at h
  exact Prod.ext (kT_inj _ _ h.1) (kK_inj _ _ h.2)
def EP : KE (List Nat × List (List Nat)) := ⟨encP, kP, 1, key_P, kP_inj, fun a => rfl, by decide, fun a => by simp [kP, kK, kT, NestedKey.depth, NestedKey.depthAll, depth_kT]⟩
/-! ### loops with a typed state -/
section
variable {α β : Type}
/-- one after the other, till one gives an end -/
def runL (F : α → β → β ⊕ D) : List α → β → β ⊕ D
  | [], b => .inl b
  | x :: xs, b => match F x b with
    | .inl b' => runL F xs b'
    | .inr d => .inr d
/-- what a turn's result must be -/
def Turn (w : List Nat) (mk : β → KD.Env) : β ⊕ D → R Flow → Prop
  | .inl b, r => OkNx (fun ρ => wipeE ρ w = mk b) r
  | .inr d, r => r = .ok (.rt d)
def runR (mk : β → KD.Env) : β ⊕ D → R Flow
  | .inl b => .ok (.nx (mk b))
  | .inr d => .ok (.rt d)
@[simp] theorem runR_l (mk : β → KD.Env) (b : β) : runR mk (.inl b) = .ok (.nx (mk b)) := rfl
@[simp] theorem runR_r (mk : β → KD.Env) (d : D) : runR mk (.inr d) = .ok (.rt d) := rfl
theorem forF_run {step : D → KD.Env → R Flow} {w : List Nat} (enc : α → D) (mk : β → KD.Env) (F : α → β → β ⊕ D) (J : β → Prop) : ∀ {xs : List α} {b : β}, J b → (∀ x ∈ xs, ∀ b, J b → Turn w mk (F x b) (step (enc x) (mk b)) ∧ ∀ b', F x b = .inl b' → J b') →
    forF step w (xs.map enc) (mk b) = runR mk (runL F xs b)
  | [], b, _, _ => rfl
  | x :: xs, b, hb, h => by
    obtain ⟨h1, h2⟩ := h x List.mem_cons_self b hb
    rw [List.map_cons, forF, runL]
    cases hF : F x b with
    | inr d =>
      rw [hF] at h1
      rw [show step (enc x) (mk b) = _ from h1]
      rfl
    | inl b' =>
      rw [hF] at h1
      obtain ⟨ρ, h3, h4⟩ := OkNx_inv h1
      have ih := forF_run enc mk F J (xs := xs) (h2 b' hF) fun y hy => h y (List.mem_cons_of_mem _ hy)
      rcases h3 with h3 | h3 <;> rw [h3] <;> simp only [R.bind_ok, h4] <;> exact ih
/-- the same, with the number of the turn -/
theorem forF_runI {step : D → KD.Env → R Flow} {w : List Nat} (enc : α → D) (mk : β → KD.Env) (F : α → β → β ⊕ D) : ∀ {xs : List α} {b : β} (J : Nat → β → Prop), J 0 b → (∀ (i : Nat) (x : α), xs[i]? = some x → ∀ b, J i b → Turn w mk (F x b) (step (enc x) (mk b)) ∧ ∀ b', F x b = .inl b' → J (i + 1) b') →
    forF step w (xs.map enc) (mk b) = runR mk (runL F xs b) ∧ ∀ b', runL F xs b = .inl b' → J xs.length b'
  | [], b, J, h0, _ => ⟨rfl, fun b' e => by cases e; exact h0⟩
  | x :: xs, b, J, hb, h => by
    obtain ⟨h1, h2⟩ := h 0 x rfl b hb
    rw [List.map_cons, forF, runL]
    cases hF : F x b with
    | inr d =>
      rw [hF] at h1
      rw [show step (enc x) (mk b) = _ from h1]
      exact ⟨rfl, fun b' e => nomatch e⟩
    | inl b' =>
      rw [hF] at h1
      obtain ⟨ρ, h3, h4⟩ := OkNx_inv h1
      have ih := forF_runI enc mk F (xs := xs) (fun i => J (i + 1)) (h2 b' hF) fun i y hy => h (i + 1) y (by simpa using hy)
      rcases h3 with h3 | h3 <;> rw [h3] <;> simp only [R.bind_ok, h4] <;> exact ih
theorem runL_inl (f : α → β → β) : ∀ (xs : List α) (b : β), runL (fun x b => .inl (f x b)) xs b = .inl (xs.foldl (fun b x => f x b) b)
  | [], _ => rfl
  | _ :: xs, b => runL_inl f xs _
theorem forF_foldI {step : D → KD.Env → R Flow} {w : List Nat} (enc : α → D) (mk : β → KD.Env) (f : α → β → β) (J : Nat → β → Prop) {xs : List α} {b : β} (hb : J 0 b)
    (h : ∀ (i : Nat) (x : α), xs[i]? = some x → ∀ b, J i b → OkNx (fun ρ => wipeE ρ w = mk (f x b)) (step (enc x) (mk b)) ∧ J (i + 1) (f x b)) :
    forF step w (xs.map enc) (mk b) = .ok (.nx (mk (xs.foldl (fun b x => f x b) b))) ∧ J xs.length (xs.foldl (fun b x => f x b) b) := by
  obtain ⟨h1, h2⟩ := forF_runI (step := step) (w := w) enc mk (fun x b => .inl (f x b)) J hb fun i x hx b hj => ⟨(h i x hx b hj).1, fun b' e => by cases e; exact (h i x hx b hj).2⟩
  rw [runL_inl] at h1 h2
  exact ⟨h1, h2 _ rfl⟩
theorem bind_foldI {δ : Type} {step : D → KD.Env → R Flow} {w : List Nat} {k : Flow → R δ} (P : R δ → Prop) (enc : α → D) (mk : β → KD.Env) (f : α → β → β) (J : Nat → β → Prop) {xs : List α} (b : β) (hb : J 0 b)
    (h : ∀ (i : Nat) (x : α), xs[i]? = some x → ∀ b, J i b → OkNx (fun ρ => wipeE ρ w = mk (f x b)) (step (enc x) (mk b)) ∧ J (i + 1) (f x b)) (q : J xs.length (xs.foldl (fun b x => f x b) b) → P (k (.nx (mk (xs.foldl (fun b x => f x b) b))))) :
    P ((forF step w (xs.map enc) (mk b)).bind k) := by
  obtain ⟨h1, h2⟩ := forF_foldI enc mk f J hb h
  rw [h1]
  exact q h2
theorem bind_runI {δ : Type} {step : D → KD.Env → R Flow} {w : List Nat} {k : Flow → R δ} (P : R δ → Prop) (enc : α → D) (mk : β → KD.Env) (F : α → β → β ⊕ D) (J : Nat → β → Prop) {xs : List α} (b : β) (hb : J 0 b)
    (h : ∀ (i : Nat) (x : α), xs[i]? = some x → ∀ b, J i b → Turn w mk (F x b) (step (enc x) (mk b)) ∧ ∀ b', F x b = .inl b' → J (i + 1) b')
    (q1 : ∀ b', runL F xs b = .inl b' → J xs.length b' → P (k (.nx (mk b')))) (q2 : ∀ d, runL F xs b = .inr d → P (k (.rt d))) : P ((forF step w (xs.map enc) (mk b)).bind k) := by
  obtain ⟨h1, h2⟩ := forF_runI enc mk F J hb h
  rw [h1]
  cases e : runL F xs b with
  | inl b' => exact q1 b' e (h2 b' e)
  | inr d => exact q2 d e
/-- a loop that looks for the first -/
theorem bind_find {δ : Type} {step : D → KD.Env → R Flow} {w : List Nat} {k : Flow → R δ} {ρ : KD.Env} (P : R δ → Prop) (enc : α → D) (p : α → Bool) (g : α → D) {xs : List α} (h : ∀ x ∈ xs, if p x = true then step (enc x) ρ = .ok (.rt (g x)) else OkNx (fun ρ' => wipeE ρ' w = ρ) (step (enc x) ρ))
    (q1 : ∀ x, xs.find? p = some x → P (k (.rt (g x)))) (q2 : xs.find? p = none → P (k (.nx ρ))) : P ((forF step w (xs.map enc) ρ).bind k) := by
  have e : forF step w (xs.map enc) ρ = match xs.find? p with
      | some x => .ok (.rt (g x))
      | none => .ok (.nx ρ) := by
    clear q1 q2
    induction xs with
    | nil => rfl
    | cons x xs ih =>
      have h1 := h x List.mem_cons_self
      rw [List.map_cons, forF, List.find?_cons]
      cases hp : p x with
      | true =>
        rw [hp, if_pos rfl] at h1
        rw [h1]
        rfl
      | false =>
        rw [hp, if_neg (by decide)] at h1
        obtain ⟨ρ', h3, h4⟩ := OkNx_inv h1
        have ih' := ih fun y hy => h y (List.mem_cons_of_mem _ hy)
        rcases h3 with h3 | h3 <;> rw [h3] <;> simp only [R.bind_ok, h4] <;> exact ih'
  rw [e]
  cases hf : xs.find? p with
  | some x => exact q1 x hf
  | none => exact q2 hf
/-- a loop that gathers -/
theorem forF_fold {step : D → KD.Env → R Flow} {w : List Nat} (enc : α → D) (mk : β → KD.Env) (f : α → β → β) (J : β → Prop) {xs : List α} {b : β} (hb : J b) (h : ∀ x ∈ xs, ∀ b, J b → OkNx (fun ρ => wipeE ρ w = mk (f x b)) (step (enc x) (mk b)) ∧ J (f x b)) :
    forF step w (xs.map enc) (mk b) = .ok (.nx (mk (xs.foldl (fun b x => f x b) b))) := by
  have := forF_run (step := step) (w := w) enc mk (fun x b => .inl (f x b)) J hb fun x hx b hj => ⟨(h x hx b hj).1, fun b' e => by cases e; exact (h x hx b hj).2⟩
  rw [this]
  have e : ∀ (xs : List α) (b : β), runL (fun x b => .inl (f x b)) xs b = .inl (xs.foldl (fun b x => f x b) b) := by
    intro xs
    induction xs with
    | nil => exact fun b => rfl
    | cons x xs ih => exact fun b => ih _
  rw [e]
  rfl
/-- a loop that looks for the first -/
theorem forF_find {step : D → KD.Env → R Flow} {w : List Nat} {ρ : KD.Env} (enc : α → D) (p : α → Bool) (g : α → D) {xs : List α} (h : ∀ x ∈ xs, if p x = true then step (enc x) ρ = .ok (.rt (g x)) else OkNx (fun ρ' => wipeE ρ' w = ρ) (step (enc x) ρ)) :
    forF step w (xs.map enc) ρ = match xs.find? p with
      | some x => .ok (.rt (g x))
      | none => .ok (.nx ρ) := by
  induction xs with
  | nil => rfl
  | cons x xs ih =>
    have h1 := h x List.mem_cons_self
    rw [List.map_cons, forF, List.find?_cons]
    cases hp : p x with
    | true =>
      rw [hp, if_pos rfl] at h1
      rw [h1]
      rfl
    | false =>
      rw [hp, if_neg (by decide)] at h1
      obtain ⟨ρ', h3, h4⟩ := OkNx_inv h1
      have ih' := ih fun y hy => h y (List.mem_cons_of_mem _ hy)
      rcases h3 with h3 | h3 <;> rw [h3] <;> simp only [R.bind_ok, h4] <;> exact ih'
/-- a loop of turns that all go on -/
theorem forF_all {step : D → KD.Env → R Flow} {w : List Nat} {ρ : KD.Env} (enc : α → D) {xs : List α} (h : ∀ x ∈ xs, OkNx (fun ρ' => wipeE ρ' w = ρ) (step (enc x) ρ)) : forF step w (xs.map enc) ρ = .ok (.nx ρ) := by
  have := forF_find (step := step) (w := w) (ρ := ρ) enc (fun _ => false) (fun _ => .none) (xs := xs) fun x hx => by
    rw [if_neg (by decide)]
    exact h x hx
  rw [this, List.find?_eq_none.mpr (by simp)]
/-- a while, at most n turns -/
def whlL (T : β → Bool) (F : β → β ⊕ D) : Nat → β → Option (β ⊕ D)
  | 0, _ => none
  | n + 1, b => match T b with
    | false => some (.inl b)
    | true => match F b with
      | .inl b' => whlL T F n b'
      | .inr d => some (.inr d)
theorem whlF_run {test : KD.Env → R Bool} {step : KD.Env → R Flow} {w : List Nat} (mk : β → KD.Env) (T : β → Bool) (F : β → β ⊕ D) (J : β → Prop) (hT : ∀ b, J b → test (mk b) = .ok (T b)) (hF : ∀ b, J b → T b = true → Turn w mk (F b) (step (mk b)) ∧ ∀ b', F b = .inl b' → J b') :
    ∀ (n : Nat) (b : β) (res : β ⊕ D), J b → whlL T F n b = some res → whlF test step w n (mk b) = runR mk res
  | 0, b, res, _, h => by cases h
  | n + 1, b, res, hb, h => by
    rw [whlF, hT b hb, R.bind_ok]
    rw [whlL] at h
    cases ht : T b with
    | false =>
      rw [ht] at h
      cases h
      rfl
    | true =>
      obtain ⟨h1, h2⟩ := hF b hb ht
      rw [ht] at h
      dsimp only at h ⊢
      cases hq : F b with
      | inr d =>
        rw [hq] at h1 h
        rw [show step (mk b) = _ from h1]
        cases h
        rfl
      | inl b' =>
        rw [hq] at h1 h
        obtain ⟨ρ, h3, h4⟩ := OkNx_inv h1
        have ih := whlF_run mk T F J hT hF n b' res (h2 b' hq) h
        rcases h3 with h3 | h3 <;> rw [h3] <;> simp only [R.bind_ok, h4] <;> exact ih
theorem bind_whl {δ : Type} {test : KD.Env → R Bool} {step : KD.Env → R Flow} {w : List Nat} {n : Nat} {k : Flow → R δ} (P : R δ → Prop) (mk : β → KD.Env) (T : β → Bool) (F : β → β ⊕ D) (J : β → Prop) (b : β) (res : β ⊕ D) (hb : J b) (hr : whlL T F n b = some res) (hT : ∀ b, J b → test (mk b) = .ok (T b))
    (hF : ∀ b, J b → T b = true → Turn w mk (F b) (step (mk b)) ∧ ∀ b', F b = .inl b' → J b') (q1 : ∀ b', res = .inl b' → P (k (.nx (mk b')))) (q2 : ∀ d, res = .inr d → P (k (.rt d))) : P ((whlF test step w n (mk b)).bind k) := by
  rw [whlF_run mk T F J hT hF n b res hb hr]
  cases res with
  | inl b' => exact q1 b' rfl
  | inr d => exact q2 d rfl
theorem bind_all {δ : Type} {step : D → KD.Env → R Flow} {w : List Nat} {k : Flow → R δ} {ρ : KD.Env} (P : R δ → Prop) (enc : α → D) {xs : List α} (h : ∀ x ∈ xs, OkNx (fun ρ' => wipeE ρ' w = ρ) (step (enc x) ρ)) (q : P (k (.nx ρ))) : P ((forF step w (xs.map enc) ρ).bind k) := by
  rw [forF_all enc h]
  exact q
/-- a statement whose end is known up to a parameter -/
theorem bind_nx {δ : Type} {X : R Flow} {k : Flow → R δ} (P : R δ → Prop) (e : β → KD.Env) (h : ∃ z, X = .ok (.nx (e z))) (q : ∀ z, P (k (.nx (e z)))) : P (X.bind k) := by
  obtain ⟨z, rfl⟩ := h
  exact q z
/-- a choice whose end is known -/
theorem bind_if {δ : Type} {X : R D} {A B : R Flow} {k : Flow → R δ} (P : R δ → Prop) (e : KD.Env) (h : (X.bind fun a => (asB a).bind fun r => pick r A B) = .ok (.nx e)) (q : P (k (.nx e))) : P (X.bind fun a => (asB a).bind fun r => (pick r A B).bind k) := by
  have : (X.bind fun a => (asB a).bind fun r => (pick r A B).bind k) = (X.bind fun a => (asB a).bind fun r => pick r A B).bind k := by
    rw [bind_assoc]
    congr 1
    funext a
    rw [bind_assoc]
  rw [this, h]
  exact q
end
/-- the law's word, hidden from simp's looks at constructors -/
def IsT (r : R D) : Prop := r = .ok (.bool true)
end KP
/-! KdHold: rooms outward, who holds, rows. -/
namespace KP
open PySem hiding Env Flow
open KD
abbrev Nm := List Nat
abbrev Ky := List (List Nat)
/-- a house as it must be -/
structure HG (h : House) : Prop where
  len : h.rooms.length ≤ 100
  nd : (h.rooms.map (·.1)).Nodup
  up : ∀ (j : Nat) r, h.rooms[j]? = some r → ∀ o, r.2 = some o → ∃ i, i < j ∧ h.rooms[i]?.map (·.1) = some o
def outer (h : House) (a : Nm) : Option Nm := (aget h.rooms a).getD none
/-- the rooms outward -/
def outL (h : House) : Nat → Option Nm → List Nm
  | 0, _ => []
  | _ + 1, none => []
  | n + 1, some a => a :: outL h n (outer h a)
def outs (h : House) (a : Nm) : List Nm := outL h h.rooms.length (some a)
def At (h : House) (j : Nat) (a : Nm) : Prop := h.rooms[j]?.map (·.1) = some a
theorem At.get {h : House} (ok : HG h) {j : Nat} {a : Nm} (ha : At h j a) : ∃ r, h.rooms[j]? = some r ∧ r.1 = a ∧ aget h.rooms a = some r.2 := by
  obtain ⟨r, hr, rfl⟩ := Option.map_eq_some_iff.mp ha
  exact ⟨r, hr, rfl, aget_of ok.nd (List.mem_of_getElem? hr)⟩
theorem At.lt {h : House} {j : Nat} {a : Nm} (ha : At h j a) : j < h.rooms.length := by
  obtain ⟨r, hr, _⟩ := Option.map_eq_some_iff.mp ha
  exact (List.getElem?_eq_some_iff.mp hr).1
theorem At.outer {h : House} (ok : HG h) {j : Nat} {a b : Nm} (ha : At h j a) (hb : outer h a = some b) : ∃ i, i < j ∧ At h i b := by
  obtain ⟨r, hr, _, hg⟩ := ha.get ok
  unfold KP.outer at hb
  rw [hg] at hb
  exact ok.up j r hr b hb
theorem at_of {h : House} {a : Nm} (ha : a ∈ h.rooms.map (·.1)) : ∃ j, At h j a := by
  obtain ⟨r, hr, rfl⟩ := List.mem_map.mp ha
  obtain ⟨j, hj⟩ := List.mem_iff_getElem?.mp hr
  exact ⟨j, by unfold At; rw [hj]; rfl⟩
theorem outL_nil (h : House) (n : Nat) : outL h n none = [] := by cases n <;> rfl
/-- fuel enough is enough -/
theorem outL_more {h : House} (ok : HG h) : ∀ {n m j : Nat} {a : Nm}, At h j a → j < n → j < m → outL h n (some a) = outL h m (some a)
  | 0, _, _, _, _, h1, _ => absurd h1 (Nat.not_lt_zero _)
  | _, 0, _, _, _, _, h2 => absurd h2 (Nat.not_lt_zero _)
  | n + 1, m + 1, j, a, ha, h1, h2 => by
    rw [outL, outL]
    congr 1
    cases ho : outer h a with
    | none => rw [outL_nil, outL_nil]
    | some b =>
      obtain ⟨i, hi, hb⟩ := ha.outer ok ho
      exact outL_more ok hb (by omega) (by omega)
theorem outs_eq {h : House} (ok : HG h) {a : Nm} (ha : a ∈ h.rooms.map (·.1)) : outs h a = a :: (match outer h a with
    | some b => outs h b
    | none => []) := by
  obtain ⟨j, hj⟩ := at_of ha
  have hl := hj.lt
  have : h.rooms.length = (h.rooms.length - 1) + 1 := by omega
  unfold outs
  rw [this, outL]
  congr 1
  cases ho : outer h a with
  | none => rw [outL_nil]
  | some b =>
    obtain ⟨i, hi, hb⟩ := hj.outer ok ho
    rw [← this]
    exact outL_more ok hb (by omega) (by omega)
theorem outer_in {h : House} (ok : HG h) {a b : Nm} (hb : outer h a = some b) : b ∈ h.rooms.map (·.1) := by
  unfold outer at hb
  cases hg : aget h.rooms a with
  | none => rw [hg] at hb; cases hb
  | some o =>
    rw [hg] at hb
    obtain ⟨j, hj⟩ := List.mem_iff_getElem?.mp (aget_mem hg)
    obtain ⟨i, _, hi⟩ := ok.up j _ hj b hb
    obtain ⟨r, hr, rfl⟩ := Option.map_eq_some_iff.mp hi
    exact List.mem_map.mpr ⟨r, List.mem_of_getElem? hr, rfl⟩
theorem rooms_dict {h : House} (ok : HG h) : bltD .dict [.tuple (h.rooms.map encR)] = .ok (dD EN encO h.rooms) := by
  have := dict_tup (E := EN) (ev := encO) h.rooms
  rw [asets_new (by simpa using ok.nd)] at this
  exact this
theorem outer_ix {h : House} {a : Nm} (ha : a ∈ h.rooms.map (·.1)) : ixD (dD EN encO h.rooms) (st a) = .ok (encO (outer h a)) := by
  have := ix_d (E := EN) (ev := encO) h.rooms a
  rw [show EN.ek a = st a from rfl] at this
  rw [this]
  unfold outer
  cases hg : aget h.rooms a with
  | none => exact absurd ha (aget_none.mp hg)
  | some o => rfl
@[simp] theorem isNone_O (o : Option Nm) : isNone (encO o) = o.isNone := by cases o <;> rfl
/-- the while of outward -/
def outT (b : List Nm × Option Nm) : Bool := b.2.isSome
def outF (h : House) (b : List Nm × Option Nm) : (List Nm × Option Nm) ⊕ D := .inl (match b.2 with
  | some a => (b.1 ++ [a], outer h a)
  | none => b)
theorem out_run {h : House} (ok : HG h) : ∀ {n j : Nat} {a : Nm} {f : List Nm}, At h j a → j < n → whlL outT (outF h) (n + 1) (f, some a) = some (.inl (f ++ outL h n (some a), none))
  | 0, _, _, _, _, h1 => absurd h1 (Nat.not_lt_zero _)
  | n + 1, j, a, f, ha, h1 => by
    rw [whlL]
    show whlL outT (outF h) (n + 1) (f ++ [a], outer h a) = _
    rw [outL]
    cases ho : outer h a with
    | none => rw [outL_nil]; rfl
    | some b =>
      obtain ⟨i, hi, hb⟩ := ha.outer ok ho
      rw [out_run ok hb (by omega), List.append_assoc]
      rfl
theorem ev_outward (n : Nat) {h : House} (ok : HG h) {a : Nm} (ha : a ∈ h.rooms.map (·.1)) : evFn PP WF (n + 1) 52 [encH h, st a] = .ok (.list ((outs h a).map st)) := by
  have := ev_open (n := n) (f := 52) (fn := f52_outward) (ds := [encH h, st a]) rfl rfl
  unfold Ev at this
  rw [this]
  have hd := rooms_dict ok
  obtain ⟨j, hj⟩ := at_of ha
  have hl := hj.lt
  have hlen := ok.len
  simp [f52_outward, encH, hd]
  have run := whlF_run (test := fun ρ => (ev (evFn PP WF n) ρ true (.cmp .isnot (.var 1) (.cst .none))).bind asB) (step := exsC (evFn PP WF n) WF [.app 3 (.var 1), .asg (.name 1) (.ix (.var 2) (.var 1))]) (w := [])
    (fun b : List Nm × Option Nm => [some (.val (encH h)), some (.val (encO b.2)), some (.val (dD EN encO h.rooms)), some (.own (.list (b.1.map st)))]) outT (outF h)
    (fun b => ∃ k, b.1.length + k ≤ 200 ∧ ∀ a, b.2 = some a → ∃ j, j < k ∧ At h j a)
    (fun b _ => by
      obtain ⟨f, o⟩ := b
      simp [outT]) (fun b ⟨k, hk, hb⟩ ht => by
      obtain ⟨f, o⟩ := b
      cases o with
      | none => cases ht
      | some c =>
        obtain ⟨j, hj, hc⟩ := hb c rfl
        obtain ⟨r, hr, rfl, hg⟩ := hc.get ok
        have hin : r.1 ∈ h.rooms.map (·.1) := List.mem_map.mpr ⟨r, List.mem_of_getElem? hr, rfl⟩
        have hf : f.length < lim := by
          simp only at hk
          show f.length < 1000000
          omega
        refine ⟨?_, fun b' e => ?_⟩
        · simp [outF, Turn, encO, outer_ix hin, hf]
        · cases e
          refine ⟨j, by simp only [List.length_append, List.length_singleton] at *; omega, fun b hb' => ?_⟩
          exact hc.outer ok hb') WF ([], some a) (.inl (outs h a, none)) ⟨h.rooms.length, by simp; omega, fun b hb => by cases hb; exact ⟨j, hl, hj⟩⟩
      (by
        have := out_run ok (n := 999) (f := []) hj (by omega)
        rw [show WF = 999 + 1 from rfl, this]
        unfold outs
        rw [outL_more ok hj (by omega) hl]
        rfl)
  simp [encH, encO] at run
  rw [run]
  simp
theorem enum_from {α : Type} (enc : α → D) : ∀ (xs : List α) (k : Nat), enumFrom k (xs.map enc) = (xs.zipIdx k).map fun p => .tuple [.int p.2, enc p.1]
  | [], _ => rfl
  | x :: xs, k => by
    rw [List.map_cons, enumFrom, enum_from enc xs (k + 1), List.zipIdx_cons]
    rfl
/-! ### who holds -/
abbrev encI (n : Nat) : D := .int n
def encOI : Option Nat → D
  | none => .none
  | some n => .int n
/-- where each place's bind stands -/
def book (bs : List Bnd) : List ((Nm × Ky) × Nat) := asets [] (bs.zipIdx.map fun p => (p.1.place, p.2))
def holderP (h : House) (bs : List Bnd) (a : Nm) (ks : Ky) : Option Nat := (outs h a).findSome? fun here => aget (book bs) (here, ks)
theorem outs_in {h : House} (ok : HG h) : ∀ {n j : Nat} {a : Nm}, At h j a → ∀ b ∈ outL h n (some a), b ∈ h.rooms.map (·.1)
  | 0, _, _, _, b, hb => nomatch hb
  | n + 1, j, a, ha, b, hb => by
    rw [outL] at hb
    rcases List.mem_cons.mp hb with rfl | hb
    · obtain ⟨r, hr, rfl, _⟩ := ha.get ok
      exact List.mem_map.mpr ⟨r, List.mem_of_getElem? hr, rfl⟩
    · cases ho : outer h a with
      | none => rw [ho, outL_nil] at hb; cases hb
      | some c =>
        rw [ho] at hb
        obtain ⟨i, _, hi⟩ := ha.outer ok ho
        exact outs_in ok hi b hb
theorem find_some {α β : Type} (f : α → Option β) (xs : List α) : xs.findSome? f = (xs.find? fun x => (f x).isSome).bind f := by
  induction xs with
  | nil => rfl
  | cons x xs ih =>
    rw [List.findSome?_cons, List.find?_cons]
    cases h : f x with
    | none => simpa using ih
    | some b => simp [h]
theorem ev_holder (n : Nat) {h : House} (ok : HG h) {bs : List Bnd} (hb : bs.length ≤ 1000) {a : Nm} (ha : a ∈ h.rooms.map (·.1)) (ks : Ky) : evFn PP WF (n + 2) 53 [encH h, encM bs, st a, encK ks] = .ok (encOI (holderP h bs a ks)) := by
  have := ev_open (n := n + 1) (f := 53) (fn := f53_holder) (ds := [encH h, encM bs, st a, encK ks]) rfl rfl
  unfold Ev at this
  rw [this]
  have ho := ev_outward n ok ha
  have hd : bltD .dict [.list (bs.zipIdx.map fun p => .tuple [encP p.1.place, .int p.2])] = .ok (dD EP encI (book bs)) := by
    have := dict_lst (E := EP) (ev := encI) (bs.zipIdx.map fun p => (p.1.place, p.2))
    rw [List.map_map] at this
    exact this
  simp [f53_holder, encM, enum_from]
  rw [compF_all (fun p : Bnd × Nat => PyData.tuple [.int p.2, encB p.1]) (fun p => .tuple [encP p.1.place, .int p.2]) fun p _ => by simp [cstep, encB, cut_2, encP, Bnd.place]]
  rw [R.bind_ok, hd]
  simp [ho]
  have hin : ∀ b : Nm, inD (.tuple [st b, encK ks]) (dD EP encI (book bs)) = .ok (aget (book bs) (b, ks)).isSome := fun b => in_d (E := EP) (ev := encI) (book bs) (b, ks)
  have hix : ∀ b : Nm, ixD (dD EP encI (book bs)) (.tuple [st b, encK ks]) = ofOpt ((aget (book bs) (b, ks)).map encI) := fun b => ix_d (E := EP) (ev := encI) (book bs) (b, ks)
  rw [forF_find st (fun b : Nm => (aget (book bs) (b, ks)).isSome) (fun b => encOI (aget (book bs) (b, ks))) fun b _ => by
    cases hg : aget (book bs) (b, ks) with
    | none => simp [fstep, hin, hg]
    | some i => simp [fstep, hin, hix, hg, encOI]]
  unfold holderP
  rw [find_some]
  cases hf : (outs h a).find? fun b => (aget (book bs) (b, ks)).isSome with
  | none => simp [encOI]
  | some b => simp
/-! ### sorted sets -/
def dedupT {α : Type} [DecidableEq α] : List α → List α
  | [] => []
  | x :: xs => x :: (dedupT xs).filter fun y => !decide (y = x)
theorem dedupT_mem {α : Type} [DecidableEq α] {l : List α} {a : α} : a ∈ dedupT l ↔ a ∈ l := by
  induction l with
  | nil => simp [dedupT]
  | cons x xs ih =>
    rw [dedupT, List.mem_cons, List.mem_cons, List.mem_filter, ih]
    by_cases h : a = x <;> simp [h]
theorem dedupT_nodup {α : Type} [DecidableEq α] {l : List α} : (dedupT l).Nodup := by
  induction l with
  | nil => exact List.nodup_nil
  | cons x xs ih =>
    rw [dedupT, List.nodup_cons]
    exact ⟨fun h => by simp at h, ih.filter _⟩
theorem dedup_enc {κ : Type} [DecidableEq κ] (E : KE κ) (l : List κ) : dedup (l.map E.ek) = some ((dedupT l).map E.ek) := by
  induction l with
  | nil => rfl
  | cons x xs ih =>
    rw [List.map_cons, dedup, E.hk, ih]
    dsimp only
    rw [dedupT, List.map_cons, List.filter_map]
    congr 3
    refine List.filter_congr fun y _ => ?_
    show (!decide (keyOf (E.ek y) = some (E.kk x))) = !decide (y = x)
    congr 1
    exact decide_eq_decide.mpr (key_eq y x)
theorem setable_enc {κ : Type} (E : KE κ) {l : List κ} (h : l.length < 64) : setable (l.map E.ek) = true := by
  unfold setable
  simp only [Bool.and_eq_true, Bool.or_eq_true, decide_eq_true_eq, List.all_eq_true, beq_iff_eq, List.length_map]
  refine ⟨⟨h, ?_⟩, fun d hd => ?_⟩
  · have := E.f2
    rcases (show E.f = 0 ∨ E.f = 1 by omega) with e | e
    · refine .inl fun d hd => ?_
      obtain ⟨a, _, rfl⟩ := List.mem_map.mp hd
      rw [E.fl, e]
    · refine .inr fun d hd => ?_
      obtain ⟨a, _, rfl⟩ := List.mem_map.mp hd
      rw [E.fl, e]
  · obtain ⟨a, _, rfl⟩ := List.mem_map.mp hd
    rw [E.hk]
    exact decide_eq_true (E.dp a)
def leE {α : Type} (enc : α → D) (a b : α) : Bool := leqD (enc a) (enc b)
theorem sort_enc {α : Type} (enc : α → D) {l : List α} (h : sortable (l.map enc) = true) : sortD (l.map enc) = .ok (.list ((l.mergeSort (leE enc)).map enc)) := by
  unfold sortD
  rw [h, R.guard_true]
  congr 2
  exact (PySem.W.sort_maps enc fun a _ b _ => rfl).symm
theorem sset_enc {κ : Type} [DecidableEq κ] (E : KE κ) {l : List κ} (h : l.length < 64) (hs : sortable ((dedupT l).map E.ek) = true) : bltD .sortedSet [.list (l.map E.ek)] = .ok (.list (((dedupT l).mergeSort (leE E.ek)).map E.ek)) := by
  show R.guard _ _ = _
  rw [setable_enc E h, R.guard_true, dedup_enc]
  exact sort_enc E.ek hs
theorem alike_sts : ∀ a b : List (List Nat), W.alikeAll (a.map st) (b.map st) = true
  | [], b => by cases b <;> rfl
  | x :: a, [] => rfl
  | x :: a, y :: b => by
    rw [List.map_cons, List.map_cons, W.alikeAll, alike_sts a b]
    rfl
theorem alike_K (a b : Ky) : W.alike (encK a) (encK b) = true := by
  unfold encK
  rw [W.alike]
  exact alike_sts a b
theorem sortable_K {l : List Ky} (h : ∀ k ∈ l, k ≠ []) : sortable (l.map encK) = true := by
  unfold sortable alikes
  simp only [Bool.and_eq_true, Bool.or_eq_true, List.all_eq_true, List.mem_map]
  refine ⟨⟨?_, .inl ?_⟩, ?_⟩
  · rintro _ ⟨a, _, rfl⟩ _ ⟨b, _, rfl⟩
    exact alike_K a b
  · rintro _ ⟨a, ha, rfl⟩
    cases a with
    | nil => exact absurd rfl (h _ ha)
    | cons _ _ => rfl
  · rintro _ ⟨a, _, rfl⟩
    exact (flat_K a).shp (by decide)
theorem leE_trans {α : Type} (enc : α → D) (a b c : α) (h1 : leE enc a b = true) (h2 : leE enc b c = true) : leE enc a c = true := leqD_trans _ _ _ h1 h2
theorem leE_total {α : Type} (enc : α → D) (a b : α) : (leE enc a b || leE enc b a) = true := leqD_total _ _
/-! ### rows -/
def keysS (bs : List Bnd) : List Ky := (dedupT (bs.map (·.keys))).mergeSort (leE encK)
theorem keysS_mem {bs : List Bnd} {ks : Ky} : ks ∈ keysS bs ↔ ∃ b ∈ bs, b.keys = ks := by
  unfold keysS
  rw [(List.mergeSort_perm _ _).mem_iff, dedupT_mem, List.mem_map]
theorem keysS_nodup {bs : List Bnd} : (keysS bs).Nodup := (List.mergeSort_perm _ _).nodup_iff.mpr dedupT_nodup
theorem keysS_sorted {bs : List Bnd} : (keysS bs).Pairwise fun a b => leE encK a b = true := List.pairwise_mergeSort (leE_trans encK) (leE_total encK) _
/-- what a bind that holds gives -/
def rowAt (bs : List Bnd) (o : Option Nat) : Option Nm := o.bind fun i => bs[i]?.bind (·.deed)
def rowsP (h : House) (bs : List Bnd) (a : Nm) : List (Ky × Nm) := (keysS bs).filterMap fun ks => (rowAt bs (holderP h bs a ks)).map (ks, ·)
def encRow (p : Ky × Nm) : D := .tuple [encK p.1, st p.2]
def encRows (l : List (Ky × Nm)) : D := .tuple (l.map encRow)
theorem book_lt {bs : List Bnd} {p : Nm × Ky} {i : Nat} (h : aget (book bs) p = some i) : i < bs.length := by
  have : ∀ (l acc : List ((Nm × Ky) × Nat)), (∀ q ∈ l, q.2 < bs.length) → (∀ q ∈ acc, q.2 < bs.length) → ∀ q ∈ asets acc l, q.2 < bs.length := by
    intro l
    induction l with
    | nil => exact fun acc _ h q hq => h q hq
    | cons x l ih =>
      intro acc h1 h2 q hq
      refine ih _ (fun q hq => h1 q (List.mem_cons_of_mem _ hq)) (fun q hq => ?_) q hq
      rcases aset_mem hq with rfl | hq
      · exact h1 x List.mem_cons_self
      · exact h2 q hq
  refine this _ [] (fun q hq => ?_) (fun q hq => nomatch hq) _ (aget_mem h)
  obtain ⟨z, hz, rfl⟩ := List.mem_map.mp hq
  have := List.mem_zipIdx hz
  simp at this ⊢
  omega
theorem holder_lt {h : House} {bs : List Bnd} {a : Nm} {ks : Ky} {i : Nat} (hh : holderP h bs a ks = some i) : i < bs.length := by
  unfold holderP at hh
  obtain ⟨b, _, hb⟩ := List.exists_of_findSome?_eq_some hh
  exact book_lt hb
theorem filterMap_fold {α β : Type} (f : α → Option β) : ∀ (l : List α) (acc : List β), l.foldl (fun acc x => acc ++ (f x).toList) acc = acc ++ l.filterMap f
  | [], acc => by simp
  | x :: l, acc => by
    rw [List.foldl_cons, filterMap_fold f l, List.filterMap_cons]
    cases f x <;> simp
@[simp] theorem isNone_OI (o : Option Nat) : isNone (encOI o) = o.isNone := by cases o <;> rfl
theorem bind_ix {bs : List Bnd} {i : Nat} (hi : i < bs.length) : ixD (encM bs) (.int i) = .ok (encB bs[i]) := by
  unfold encM
  rw [ix_tup, atI_nat', List.getElem?_map, List.getElem?_eq_getElem hi]
  rfl
theorem ev_rows (n : Nat) {h : House} (ok : HG h) {bs : List Bnd} (hb : bs.length < 64) (hk : ∀ b ∈ bs, b.keys ≠ []) {a : Nm} (ha : a ∈ h.rooms.map (·.1)) : evFn PP WF (n + 3) 54 [encH h, encM bs, st a] = .ok (encRows (rowsP h bs a)) := by
  have := ev_open (n := n + 2) (f := 54) (fn := f54_rows) (ds := [encH h, encM bs, st a]) rfl rfl
  unfold Ev at this
  rw [this]
  have hh := fun ks => ev_holder n ok (bs := bs) (by omega) ha ks
  have hset : bltD .sortedSet [.list (bs.map fun b => encK b.keys)] = .ok (.list ((keysS bs).map encK)) := by
    rw [show (bs.map fun b => encK b.keys) = (bs.map (·.keys)).map encK by rw [List.map_map]; rfl]
    exact sset_enc EK (by rw [List.length_map]; exact hb) (sortable_K fun k hk' => by
    obtain ⟨b, hb', rfl⟩ := List.mem_map.mp (dedupT_mem.mp hk')
    exact hk b hb')
  have hws : walkD .seq [encM bs] = .ok (bs.map encB) := rfl
  simp [f54_rows, hws]
  rw [compF_all encB (fun b => encK b.keys) fun b _ => by simp [cstep, encB]]
  rw [R.bind_ok, hset]
  simp
  have hlen : (keysS bs).length < 64 := by
    have h1 := (List.mergeSort_perm (dedupT (bs.map (·.keys))) (leE encK)).length_eq
    have h2 : ∀ l : List Ky, (dedupT l).length ≤ l.length := by
      intro l
      induction l with
      | nil => exact Nat.le_refl _
      | cons x l ih =>
        rw [dedupT, List.length_cons, List.length_cons]
        exact Nat.succ_le_succ (Nat.le_trans (List.length_filter_le _ _) ih)
    have h3 := h2 (bs.map (·.keys))
    rw [List.length_map] at h3
    unfold keysS
    omega
  have hh : ∀ ks, evFn PP WF (n + 2) 53 [encH h, encM bs, st a, encK ks] = .ok (encOI (holderP h bs a ks)) := hh
  refine bind_foldI (P := fun r => r = .ok (encRows (rowsP h bs a))) encK (fun l : List (Ky × Nm) => [some (.val (encH h)), some (.val (encM bs)), some (.val (st a)), some (.own (.list (l.map encRow))), none, none, none])
    (fun ks l => l ++ ((rowAt bs (holderP h bs a ks)).map (ks, ·)).toList) (fun i l => l.length ≤ i) [] (Nat.le_refl _) (fun i ks hks l hl => ?_) fun _ => ?_
  · have hi := (List.getElem?_eq_some_iff.mp hks).1
    have hll : l.length < lim := by show l.length < 1000000; omega
    cases ho : holderP h bs a ks with
    | none => simp [fstep, hh, ho, encOI, rowAt]; omega
    | some k =>
      have hkl := holder_lt ho
      have hix := bind_ix hkl
      cases hd : bs[k].deed with
      | none => simp [fstep, hh, ho, encOI, rowAt, hix, encB, hd, hkl]; omega
      | some d => simp [fstep, hh, ho, encOI, rowAt, hix, encB, hd, hkl, hll, encO, encRow]; omega
  · rw [filterMap_fold, List.nil_append]
    simp
    rfl
end KP
/-! KdL10: who holds and rows, as the laws say. -/
namespace KP
open PySem hiding Env Flow
open KD
/-- a map as it must be -/
structure MG (bs : List Bnd) : Prop where
  len : bs.length < 64
  ne : ∀ b ∈ bs, b.keys ≠ []
  once : (bs.map Bnd.place).Nodup
theorem book_eq {bs : List Bnd} (m : (bs.map Bnd.place).Nodup) : book bs = bs.zipIdx.map fun p => (p.1.place, p.2) := by
  unfold book
  rw [asets_new]
  · rfl
  · rw [List.nil_append, List.map_map]
    have : (fun x : Bnd × Nat => x.1.place) = Bnd.place ∘ Prod.fst := rfl
    show (bs.zipIdx.map fun x => x.1.place).Nodup
    rw [this, ← List.map_map, List.zipIdx_map_fst]
    exact m
/-- the first bind at a place -/
theorem first_at (a : Nm) (ks : Ky) : ∀ (bs : List Bnd) (k : Nat), aget ((bs.zipIdx k).map fun p => (p.1.place, p.2)) (a, ks) = ((bs.zipIdx k).find? fun p => decide (p.1.room = a) && decide (p.1.keys = ks)).map (·.2)
  | [], _ => rfl
  | b :: bs, k => by
    rw [List.zipIdx_cons, List.map_cons, aget, List.find?_cons]
    by_cases h : b.place = (a, ks)
    · rw [if_pos h]
      have h1 : b.room = a := congrArg Prod.fst h
      have h2 : b.keys = ks := congrArg Prod.snd h
      simp [h1, h2]
    · rw [if_neg h, first_at a ks bs (k + 1)]
      have : (decide (b.room = a) && decide (b.keys = ks)) = false := by
        rw [Bool.eq_false_iff]
        intro z
        rw [Bool.and_eq_true, decide_eq_true_eq, decide_eq_true_eq] at z
        exact h (Prod.ext z.1 z.2)
      simp only [this]
theorem eqD_st (a b : Nm) : eqD (st a) (st b) = .ok (decide (a = b)) := by
  show eqD (.str (sx a)) (.str (sx b)) = _
  rw [eqD_str]
  exact congrArg R.ok (decide_eq_decide.mpr ⟨sx_inj, fun h => by rw [h]⟩)
theorem eqD_K (a b : Ky) : eqD (encK a) (encK b) = .ok (decide (a = b)) := by
  show R.guard (shp (encK a) && shp (encK b)) (R.ok (PyData.eqv (encK a) (encK b))) = _
  rw [(flat_K a).shp (by decide), (flat_K b).shp (by decide), eqv_K]
  rfl
def lhT (b : Option Nm) : Bool := b.isSome
def lhF (h : House) (bs : List Bnd) (ks : Ky) (b : Option Nm) : Option Nm ⊕ D := match b with
  | none => .inl none
  | some a => match aget (book bs) (a, ks) with
    | some i => .inr (.int i)
    | none => .inl (outer h a)
theorem lh_run {h : House} (ok : HG h) (bs : List Bnd) (ks : Ky) : ∀ {n j : Nat} {a : Nm}, At h j a → j < n → whlL lhT (lhF h bs ks) (n + 1) (some a) = some (match (outL h n (some a)).findSome? fun b => aget (book bs) (b, ks) with
    | some i => .inr (.int i)
    | none => .inl none)
  | 0, _, _, _, h1 => absurd h1 (Nat.not_lt_zero _)
  | n + 1, j, a, ha, h1 => by
    rw [whlL, outL, List.findSome?_cons]
    simp only [lhT, lhF, Option.isSome_some]
    cases hg : aget (book bs) (a, ks) with
    | some i => rfl
    | none =>
      dsimp only
      cases ho : outer h a with
      | none => rw [outL_nil]; rfl
      | some b =>
        obtain ⟨i, hi, hb⟩ := ha.outer ok ho
        exact lh_run ok bs ks hb (by omega)
theorem head_outer {h : House} {a : Nm} (ha : a ∈ h.rooms.map (·.1)) : L2.atI (h.rooms.filterMap fun r => if r.1 = a then some (encO r.2) else none) 0 = some (encO (outer h a)) := by
  have : ∀ l : List (Nm × Option Nm), a ∈ l.map (·.1) → ∃ t, l.filterMap (fun r => if r.1 = a then some (encO r.2) else none) = encO ((aget l a).getD none) :: t := by
    intro l
    induction l with
    | nil => intro h; cases h
    | cons r l ih =>
      intro h
      rw [List.filterMap_cons, aget]
      by_cases e : r.1 = a
      · rw [if_pos e, if_pos e]
        exact ⟨_, rfl⟩
      · rw [if_neg e, if_neg e]
        rw [List.map_cons, List.mem_cons] at h
        exact ih (h.resolve_left fun z => e z.symm)
  obtain ⟨t, ht⟩ := this _ ha
  rw [ht]
  exact atI_0 _ _
theorem ev_lholder (n : Nat) {h : House} (ok : HG h) {bs : List Bnd} (m : MG bs) {a : Nm} (ha : a ∈ h.rooms.map (·.1)) (ks : Ky) : evFn PP WF (n + 1) 55 [encH h, encM bs, st a, encK ks] = .ok (encOI (holderP h bs a ks)) := by
  have := ev_open (n := n) (f := 55) (fn := f55_l_holder) (ds := [encH h, encM bs, st a, encK ks]) rfl rfl
  unfold Ev at this
  rw [this]
  obtain ⟨j, hj⟩ := at_of ha
  have hl := hj.lt
  have hlen := ok.len
  simp [f55_l_holder]
  refine bind_whl (P := fun r => r = .ok (encOI (holderP h bs a ks))) (fun b : Option Nm => [some (.val (encH h)), some (.val (encM bs)), some (.val (encO b)), some (.val (encK ks)), none, none, none, none]) lhT (lhF h bs ks) (fun b => ∀ c, b = some c → c ∈ h.rooms.map (·.1))
    (some a) (match holderP h bs a ks with | some i => .inr (.int i) | none => .inl none) (fun c e => by cases e; exact ha) (by
          have := lh_run ok bs ks (n := 999) hj (by omega)
          rw [outL_more ok hj (by omega) hl] at this
          exact this) (fun b _ => by simp [lhT]) (fun b hb ht => ?_) (fun b' e => ?_) fun d e => ?_
  · cases b with
    | none => cases ht
    | some c =>
      have hc := hb c rfl
      refine ⟨?_, fun b' e => ?_⟩
      · simp only [lhF, book_eq m.once, first_at]
        simp [encM, enum_from]
        refine bind_find (P := Turn _ (fun b : Option Nm => [some (.val (encH h)), some (.val (encM bs)), some (.val (encO b)), some (.val (encK ks)), none, none, none, none]) _) (fun p : Bnd × Nat => PyData.tuple [.int p.2, encB p.1]) (fun p => decide (p.1.room = c) && decide (p.1.keys = ks)) (fun p => .int p.2) (fun p hp => ?_) (fun p hp => ?_) fun hp => ?_
        · by_cases h1 : p.1.room = c
          · by_cases h2 : p.1.keys = ks
            · simp [fstep, encB, encO, eqD_st, eqD_K, h1, h2]
            · simp [fstep, encB, encO, eqD_st, eqD_K, h1, h2, encM]
          · simp [fstep, encB, encO, eqD_st, eqD_K, h1, encM]
        · rw [hp]
          simp [Turn]
        · rw [hp]
          simp [encH]
          rw [compF_of encR (fun r => if r.1 = c then some (encO r.2) else none) fun r _ => by
            by_cases hr : r.1 = c <;> simp [cstep, encR, encO, eqD_st, hr]]
          rw [R.bind_ok]
          simp [head_outer hc, Turn, encM]
      · simp only [lhF] at e
        split at e
        · cases e
        · cases e
          exact fun d hd => outer_in ok hd
  · split at e
    · cases e
    · rename_i hn
      cases e
      rw [hn]
      simp [encOI]
  · split at e
    · rename_i i hi
      cases e
      rw [hi]
      simp [encOI]
    · cases e
/-! ### the law's rows -/
def lrowsP (h : House) (bs : List Bnd) (a : Nm) : List (Ky × Nm) := bs.foldl (fun l b => match rowAt bs (holderP h bs a b.keys) with
  | some d => aset l b.keys d
  | none => l) []
theorem len_aset {κ β : Type} [DecidableEq κ] {l : List (κ × β)} {a : κ} {b : β} : (aset l a b).length ≤ l.length + 1 := by
  induction l with
  | nil => exact Nat.le_refl _
  | cons p r ih =>
    rw [aset]
    split
    · simp
    · simp [ih]
theorem ev_lrows (n : Nat) {h : House} (ok : HG h) {bs : List Bnd} (m : MG bs) {a : Nm} (ha : a ∈ h.rooms.map (·.1)) : evFn PP WF (n + 2) 56 [encH h, encM bs, st a] = .ok (dD EK st (lrowsP h bs a)) := by
  have := ev_open (n := n + 1) (f := 56) (fn := f56_l_rows) (ds := [encH h, encM bs, st a]) rfl rfl
  unfold Ev at this
  rw [this]
  have hh := fun ks => ev_lholder n ok m ha ks
  have hw : walkD .seq [encM bs] = .ok (bs.map encB) := rfl
  have hput : ∀ (i : Nat) (l : List (Ky × Nm)) (a : Ky) (b : Nm) (ρ : KD.Env) (h : l.length < 1000000), putK i (kvs EK st l) (encK a) (st b) ρ = .ok (.nx (ρ.set i (some (.own (dD EK st (aset l a b)))))) := fun i l a b ρ h => put_d (E := EK) (ev := st) i l a b ρ h
  have d0 : PyData.dict [] = dD EK st [] := rfl
  have c0 : isCont (dD EK st []) = true := rfl
  simp [f56_l_rows, hw, KD.fresh, dputs, isCont, dictOk]
  have bl := m.len
  refine bind_foldI (P := fun r => r = .ok (dD EK st (lrowsP h bs a))) encB (fun l : List (Ky × Nm) => [some (.val (encH h)), some (.val (encM bs)), some (.val (st a)), some (.own (dD EK st l)), none, none])
    (fun b l => match rowAt bs (holderP h bs a b.keys) with
      | some d => aset l b.keys d
      | none => l) (fun i l => l.length ≤ i) [] (Nat.le_refl _) (fun i b hb l hl => ?_) fun _ => ?_
  · have hi := (List.getElem?_eq_some_iff.mp hb).1
    have hll : l.length < 1000000 := by omega
    cases ho : holderP h bs a b.keys with
    | none => simp [fstep, encB, hh, ho, encOI, rowAt]; omega
    | some k =>
      have hkl := holder_lt ho
      have hix := bind_ix hkl
      cases hd : bs[k].deed with
      | none => simp [fstep, encB, hh, ho, encOI, rowAt, hix, hd, hkl]; omega
      | some d =>
        have := len_aset (l := l) (a := b.keys) (b := d)
        simp [fstep, encB, hh, ho, encOI, rowAt, hix, hd, hkl, encO, hput, hll, dD]
        omega
  · simp
    rfl
theorem lrows_fold (f : Ky → Option Nm) : ∀ (bs : List Bnd) (acc : List (Ky × Nm)), (acc.map (·.1)).Nodup → (∀ p ∈ acc, f p.1 = some p.2) →
    ((bs.foldl (fun l b => match f b.keys with | some d => aset l b.keys d | none => l) acc).map (·.1)).Nodup ∧
    ∀ p, p ∈ bs.foldl (fun l b => match f b.keys with | some d => aset l b.keys d | none => l) acc ↔ p ∈ acc ∨ ((∃ b ∈ bs, b.keys = p.1) ∧ f p.1 = some p.2)
  | [], acc, h1, h2 => ⟨h1, fun p => ⟨.inl, fun h => h.elim id fun z => absurd z.1 (by simp)⟩⟩
  | b :: bs, acc, h1, h2 => by
    rw [List.foldl_cons]
    cases hf : f b.keys with
    | none =>
      obtain ⟨i1, i2⟩ := lrows_fold f bs acc h1 h2
      refine ⟨i1, fun p => (i2 p).trans ?_⟩
      constructor
      · rintro (h | ⟨⟨c, hc, e⟩, h⟩)
        · exact .inl h
        · exact .inr ⟨⟨c, List.mem_cons_of_mem _ hc, e⟩, h⟩
      · rintro (h | ⟨⟨c, hc, e⟩, h⟩)
        · exact .inl h
        · rcases List.mem_cons.mp hc with rfl | hc
          · rw [e, h] at hf; cases hf
          · exact .inr ⟨⟨c, hc, e⟩, h⟩
    | some d =>
      have h2' : ∀ p ∈ aset acc b.keys d, f p.1 = some p.2 := fun p hp => by
        rcases aset_mem hp with rfl | hp
        · exact hf
        · exact h2 p hp
      obtain ⟨i1, i2⟩ := lrows_fold f bs (aset acc b.keys d) (aset_nodup h1) h2'
      refine ⟨i1, fun p => (i2 p).trans ?_⟩
      constructor
      · rintro (h | ⟨⟨c, hc, e⟩, h⟩)
        · rcases aset_mem h with rfl | h
          · exact .inr ⟨⟨b, List.mem_cons_self, rfl⟩, hf⟩
          · exact .inl h
        · exact .inr ⟨⟨c, List.mem_cons_of_mem _ hc, e⟩, h⟩
      · have hin : ∀ p : Ky × Nm, f p.1 = some p.2 → p.1 ∈ (aset acc b.keys d).map (·.1) → p ∈ aset acc b.keys d := fun p hp hm => by
          obtain ⟨q, hq, e⟩ := List.mem_map.mp hm
          have := h2' q hq
          rw [e, hp] at this
          have : p = q := Prod.ext e.symm (Option.some.inj this)
          rw [this]
          exact hq
        rintro (h | ⟨⟨c, hc, e⟩, h⟩)
        · refine .inl (hin p (h2 p h) ?_)
          by_cases z : b.keys ∈ acc.map (·.1)
          · rw [aset_keys z]; exact List.mem_map.mpr ⟨p, h, rfl⟩
          · rw [aset_new z, List.map_append]; exact List.mem_append_left _ (List.mem_map.mpr ⟨p, h, rfl⟩)
        · rcases List.mem_cons.mp hc with rfl | hc
          · refine .inl (hin p h ?_)
            rw [← e]
            have := aget_aset (l := acc) (a := c.keys) (c := c.keys) (b := d)
            rw [if_pos rfl] at this
            exact List.mem_map.mpr ⟨_, aget_mem this, rfl⟩
          · exact .inr ⟨⟨c, hc, e⟩, h⟩
theorem rows_mem {h : House} {bs : List Bnd} {a : Nm} {p : Ky × Nm} : p ∈ rowsP h bs a ↔ (∃ b ∈ bs, b.keys = p.1) ∧ rowAt bs (holderP h bs a p.1) = some p.2 := by
  unfold rowsP
  rw [List.mem_filterMap]
  constructor
  · rintro ⟨ks, hk, e⟩
    obtain ⟨d, hd, rfl⟩ := Option.map_eq_some_iff.mp e
    exact ⟨keysS_mem.mp hk, hd⟩
  · rintro ⟨h1, h2⟩
    exact ⟨p.1, keysS_mem.mpr h1, by rw [h2]; rfl⟩
theorem rows_keys {h : House} {bs : List Bnd} {a : Nm} : ((rowsP h bs a).map (·.1)).Sublist (keysS bs) := by
  unfold rowsP
  induction keysS bs with
  | nil => exact .slnil
  | cons k l ih =>
    rw [List.filterMap_cons]
    cases rowAt bs (holderP h bs a k) with
    | none => exact .cons _ ih
    | some d => exact .cons₂ _ ih
theorem rows_nodup {h : House} {bs : List Bnd} {a : Nm} : ((rowsP h bs a).map (·.1)).Nodup := rows_keys.nodup keysS_nodup
theorem nodup_fst {α β : Type} {l : List (α × β)} (h : (l.map (·.1)).Nodup) : l.Nodup := List.Pairwise.of_map Prod.fst (fun _ _ hne e => hne (congrArg Prod.fst e)) h
theorem alike_Row (p q : Ky × Nm) : W.alike (encRow p) (encRow q) = true := by
  unfold encRow
  rw [W.alike, W.alikeAll, alike_K, W.alikeAll]
  rfl
theorem flat_Row (p : Ky × Nm) : Flat 2 (encRow p) := Flat.tup fun x hx => by
  simp only [List.mem_cons, List.not_mem_nil, or_false] at hx
  rcases hx with rfl | rfl
  · exact flat_K _
  · exact (flat_st _).up (by decide)
theorem key_Row (p : Ky × Nm) : ∃ k, keyOf (encRow p) = some k := by
  refine ⟨.tup [kK p.1, kT p.2], ?_⟩
  unfold encRow
  rw [keyOf, keysOf, key_K, keysOf, show keyOf (st p.2) = some (kT p.2) from by simp [st, keyOf, kT]]
  rfl
theorem sortable_Row (l : List (Ky × Nm)) : sortable (l.map encRow) = true := by
  unfold sortable alikes
  simp only [Bool.and_eq_true, Bool.or_eq_true, List.all_eq_true, List.mem_map]
  refine ⟨⟨?_, .inl ?_⟩, ?_⟩
  · rintro _ ⟨a, _, rfl⟩ _ ⟨b, _, rfl⟩
    exact alike_Row a b
  · rintro _ ⟨a, ha, rfl⟩
    rfl
  · rintro _ ⟨a, _, rfl⟩
    exact (flat_Row a).shp (by decide)
/-- the keys tell the order -/
theorem row_le {p q : Ky × Nm} (h : leE encK p.1 q.1 = true) (ne : p.1 ≠ q.1) : leqD (encRow p) (encRow q) = true := by
  unfold leE leqD at h
  unfold leqD
  rw [Bool.not_eq_true'] at h ⊢
  unfold encRow
  rw [W.dataLt_pair (alike_K _ _) rfl, eqv_K, if_neg (by rw [decide_eq_true_eq]; exact fun e => ne e.symm)]
  exact h
theorem sorted_same {l : List D} (h : l.Pairwise fun a b => leqD a b = true) : l.mergeSort leqD = l := List.mergeSort_of_pairwise h
theorem rows_sorted {h : House} {bs : List Bnd} {a : Nm} : ((rowsP h bs a).map encRow).Pairwise fun x y => leqD x y = true := by
  have h1 : ((rowsP h bs a).map (·.1)).Pairwise fun x y => leE encK x y = true := keysS_sorted.sublist rows_keys
  have h2 := rows_nodup (h := h) (bs := bs) (a := a)
  rw [List.pairwise_map] at h1 ⊢
  rw [List.Nodup, List.pairwise_map] at h2
  exact (h1.and h2).imp fun z => row_le z.1 z.2
theorem sorted_rows {h : House} {bs : List Bnd} {a : Nm} : sortD ((lrowsP h bs a).map encRow) = .ok (.list ((rowsP h bs a).map encRow)) := by
  obtain ⟨i1, i2⟩ := lrows_fold (fun ks => rowAt bs (holderP h bs a ks)) bs [] List.nodup_nil (fun p hp => nomatch hp)
  have i1 : ((lrowsP h bs a).map (·.1)).Nodup := i1
  have pm : (lrowsP h bs a).Perm (rowsP h bs a) := (List.perm_ext_iff_of_nodup (nodup_fst i1) (nodup_fst rows_nodup)).mpr fun p => (i2 p).trans (by rw [rows_mem]; simp)
  rw [sortD_perm (pm.map encRow) (fun d hd => by obtain ⟨p, _, rfl⟩ := List.mem_map.mp hd; exact key_Row p)]
  unfold sortD
  rw [sortable_Row, R.guard_true, sorted_same rows_sorted]
theorem eqD_OI (a b : Option Nat) : eqD (encOI a) (encOI b) = .ok (decide (a = b)) := by
  cases a <;> cases b
  · simp [encOI, eqD, PyData.eqv]
  · simp [encOI, eqD, PyData.eqv]
  · simp [encOI, eqD, PyData.eqv]
  · simp only [encOI, eqD_int]
    congr 1
    simp [Int.ofNat_inj]
theorem eqv_Row (p q : Ky × Nm) : PyData.eqv (encRow p) (encRow q) = decide (p = q) := by
  unfold encRow
  simp only [PyData.eqv, PyData.eqvAll, eqv_K, eqv_st, Bool.and_true]
  rw [Bool.eq_iff_iff]
  simp [Prod.ext_iff]
theorem eqv_map {α : Type} [DecidableEq α] (enc : α → D) (h : ∀ a b, PyData.eqv (enc a) (enc b) = decide (a = b)) : ∀ l m : List α, PyData.eqvAll (l.map enc) (m.map enc) = decide (l = m)
  | [], [] => by simp [PyData.eqvAll]
  | [], _ :: _ => by simp [PyData.eqvAll]
  | _ :: _, [] => by simp [PyData.eqvAll]
  | a :: l, b :: m => by
    rw [List.map_cons, List.map_cons, PyData.eqvAll, h, eqv_map enc h l m]
    rw [Bool.eq_iff_iff]
    simp
theorem eqD_map {α : Type} [DecidableEq α] {k : Nat} (enc : α → D) (h : ∀ a b, PyData.eqv (enc a) (enc b) = decide (a = b)) (f : ∀ a, Flat k (enc a)) (hk : k < 60) (l m : List α) : eqD (.tuple (l.map enc)) (.tuple (m.map enc)) = .ok (decide (l = m)) := by
  have fl : ∀ l : List α, shp (.tuple (l.map enc)) = true := fun l => (Flat.tup (k := k) fun x hx => by
    obtain ⟨a, _, rfl⟩ := List.mem_map.mp hx
    exact f a).shp (by omega)
  rw [eqD_tup, fl, fl]
  show R.ok (PyData.eqvAll _ _) = _
  rw [eqv_map enc h]
theorem eqD_rows (l m : List (Ky × Nm)) : eqD (encRows l) (encRows m) = .ok (decide (l = m)) := eqD_map encRow eqv_Row flat_Row (by decide) l m
/-! ### the law -/
theorem house_good {m : Int} {h : House} (ok : HouseOk m h) : HG h := by
  refine ⟨Nat.le_trans ok.len (by decide), ?_, fun j r hr o ho => ?_⟩
  · rw [List.Nodup, List.pairwise_iff_getElem]
    intro i j hi hj hij e
    rw [List.length_map] at hi hj
    simp only [List.getElem_map] at e
    obtain ⟨a1, _⟩ := ok.rooms i _ (List.getElem?_eq_getElem hi)
    obtain ⟨a2, _⟩ := ok.rooms j _ (List.getElem?_eq_getElem hj)
    rw [← e] at a2
    have nn : nameT.Nodup := by decide
    have hl := ok.len
    have b1 : ((m + i) % 6).toNat = ((m + j) % 6).toNat := by
      obtain ⟨l1, c1⟩ := List.getElem?_eq_some_iff.mp a1
      obtain ⟨l2, c2⟩ := List.getElem?_eq_some_iff.mp a2
      exact (List.getElem_inj nn).mp (c1.trans c2.symm)
    omega
  · obtain ⟨r', hr', e⟩ := (ok.rooms j r hr).2 o ho
    obtain ⟨i, hi⟩ := List.mem_iff_getElem?.mp hr'
    rw [List.getElem?_take] at hi
    split at hi
    · rename_i hlt
      exact ⟨i, hlt, by rw [hi]; exact congrArg some e⟩
    · cases hi
theorem map_good {h : House} {bs : List Bnd} (ok : MapOk h bs) (hl : bs.length < 64) : MG bs := ⟨hl, fun b hb e => by
  have := (ok.each b hb).len.1
  rw [e] at this
  simp at this, ok.once⟩
end KP
/-! KdRows: rows by what is at each place. -/
namespace KP
open PySem hiding Env Flow
open KD
theorem _root_.List.Nodup.reverse_ {α : Type} {l : List α} (h : l.Nodup) : l.reverse.Nodup := (List.reverse_perm l).nodup_iff.mpr h
/-- the deed bound at a place -/
def deedAt (bs : List Bnd) (p : Nm × Ky) : Option (Option Nm) := (bs.find? fun b => decide (b.place = p)).map (·.deed)
theorem deedAt_some {bs : List Bnd} {p : Nm × Ky} {d : Option Nm} (h : deedAt bs p = some d) : ∃ b ∈ bs, b.place = p ∧ b.deed = d := by
  obtain ⟨b, hb, rfl⟩ := Option.map_eq_some_iff.mp h
  exact ⟨b, List.mem_of_find?_eq_some hb, by simpa using List.find?_some hb, rfl⟩
theorem deedAt_of {bs : List Bnd} (once : (bs.map Bnd.place).Nodup) {b : Bnd} (hb : b ∈ bs) : deedAt bs b.place = some b.deed := by
  unfold deedAt
  cases hf : bs.find? fun c => decide (c.place = b.place) with
  | none =>
    rw [List.find?_eq_none] at hf
    have := hf b hb
    simp at this
  | some c =>
    have e : c.place = b.place := by simpa using List.find?_some hf
    have hc := List.mem_of_find?_eq_some hf
    have : c = b := by
      obtain ⟨i, hi⟩ := List.mem_iff_getElem?.mp hc
      obtain ⟨j, hj⟩ := List.mem_iff_getElem?.mp hb
      obtain ⟨li, gi⟩ := List.getElem?_eq_some_iff.mp hi
      obtain ⟨lj, gj⟩ := List.getElem?_eq_some_iff.mp hj
      have : i = j := by
        refine (List.getElem_inj once (h₀ := by rw [List.length_map]; exact li) (h₁ := by rw [List.length_map]; exact lj)).mp ?_
        rw [List.getElem_map, List.getElem_map, gi, gj, e]
      subst this
      rw [← gi, ← gj]
    rw [this]
    rfl
theorem deedAt_none {bs : List Bnd} {p : Nm × Ky} : deedAt bs p = none ↔ p ∉ bs.map Bnd.place := by
  unfold deedAt
  rw [Option.map_eq_none_iff, List.find?_eq_none, List.mem_map]
  simp
theorem deedAt_eq {bs cs : List Bnd} (h1 : (bs.map Bnd.place).Nodup) (h2 : (cs.map Bnd.place).Nodup) (h : ∀ b, b ∈ bs ↔ b ∈ cs) (p : Nm × Ky) : deedAt bs p = deedAt cs p := by
  cases hb : deedAt bs p with
  | some d =>
    obtain ⟨b, m, rfl, rfl⟩ := deedAt_some hb
    exact (deedAt_of h2 ((h b).mp m)).symm
  | none =>
    rw [deedAt_none] at hb
    symm
    rw [deedAt_none]
    intro z
    obtain ⟨c, hc, rfl⟩ := List.mem_map.mp z
    exact hb (List.mem_map.mpr ⟨c, (h c).mpr hc, rfl⟩)
theorem book_deed {bs : List Bnd} (once : (bs.map Bnd.place).Nodup) (p : Nm × Ky) : (aget (book bs) p).bind (fun i => bs[i]?.map (·.deed)) = deedAt bs p ∧ (aget (book bs) p).isSome = (deedAt bs p).isSome := by
  rw [book_eq once]
  have key : ∀ (l : List Bnd) (k : Nat), (∀ j b, l[j]? = some b → bs[k + j]? = some b) → (aget ((l.zipIdx k).map fun p => (p.1.place, p.2)) p).bind (fun i => bs[i]?.map (·.deed)) = deedAt l p ∧ (aget ((l.zipIdx k).map fun p => (p.1.place, p.2)) p).isSome = (deedAt l p).isSome := by
    intro l
    induction l with
    | nil => exact fun k _ => ⟨rfl, rfl⟩
    | cons b l ih =>
      intro k h
      rw [List.zipIdx_cons, List.map_cons, aget]
      unfold deedAt
      rw [List.find?_cons]
      by_cases e : b.place = p
      · rw [if_pos e]
        have h0 := h 0 b rfl
        rw [Nat.add_zero] at h0
        simp [e, h0]
      · rw [if_neg e]
        simp only [e, decide_false]
        exact ih (k + 1) fun j c hj => by
          have := h (j + 1) c (by simpa using hj)
          rw [show k + 1 + j = k + (j + 1) by omega]
          exact this
  exact key bs 0 fun j b hj => by rw [Nat.zero_add]; exact hj
/-- what holds of keys in a room -/
def val (h : House) (bs : List Bnd) (a : Nm) (ks : Ky) : Option Nm := ((outs h a).findSome? fun b => deedAt bs (b, ks)).bind id
theorem val_eq {h : House} {bs : List Bnd} (once : (bs.map Bnd.place).Nodup) (a : Nm) (ks : Ky) : rowAt bs (holderP h bs a ks) = val h bs a ks := by
  unfold rowAt holderP val
  induction outs h a with
  | nil => rfl
  | cons b l ih =>
    rw [List.findSome?_cons, List.findSome?_cons]
    obtain ⟨h1, h2⟩ := book_deed once (b, ks)
    cases hg : aget (book bs) (b, ks) with
    | none =>
      rw [hg] at h2
      have : deedAt bs (b, ks) = none := by
        cases hd : deedAt bs (b, ks) with
        | none => rfl
        | some d => rw [hd] at h2; cases h2
      rw [this]
      exact ih
    | some i =>
      rw [hg, Option.bind_some] at h1
      rw [← h1]
      have hi := book_lt hg
      rw [List.getElem?_eq_getElem hi]
      simp [hi]
theorem val_bind {h : House} {bs : List Bnd} {a : Nm} {ks : Ky} {d : Nm} (hv : val h bs a ks = some d) : ∃ b ∈ bs, b.keys = ks ∧ b.deed = some d := by
  unfold val at hv
  obtain ⟨o, ho, e⟩ := Option.bind_eq_some_iff.mp hv
  obtain ⟨c, _, hc⟩ := List.exists_of_findSome?_eq_some ho
  obtain ⟨b, hb, e1, e2⟩ := deedAt_some hc
  refine ⟨b, hb, congrArg Prod.snd e1, ?_⟩
  rw [e2]
  exact e
theorem rows_val {h : House} {bs : List Bnd} (once : (bs.map Bnd.place).Nodup) {a : Nm} {p : Ky × Nm} : p ∈ rowsP h bs a ↔ val h bs a p.1 = some p.2 := by
  rw [rows_mem, val_eq once]
  refine ⟨fun z => z.2, fun z => ⟨?_, z⟩⟩
  obtain ⟨b, hb, e, _⟩ := val_bind z
  exact ⟨b, hb, e⟩
theorem leK_antisymm {a b : Ky} (h1 : leE encK a b = true) (h2 : leE encK b a = true) : a = b := by
  unfold leE leqD at h1 h2
  rw [Bool.not_eq_true'] at h1 h2
  have := lt_same (key_K a) (key_K b) (alike_K a b) h2 h1
  unfold encK at this
  exact map_inj (fun x y h => sx_inj (by simpa [st] using h)) (PyData.tuple.inj this)
theorem rows_keys_sorted {h : House} {bs : List Bnd} {a : Nm} : ((rowsP h bs a).map (·.1)).Pairwise fun x y => leE encK x y = true := keysS_sorted.sublist rows_keys
/-- the same values, the same rows -/
theorem rows_ext {h h' : House} {bs bs' : List Bnd} (o1 : (bs.map Bnd.place).Nodup) (o2 : (bs'.map Bnd.place).Nodup) {a a' : Nm} (e : ∀ ks, val h bs a ks = val h' bs' a' ks) : rowsP h bs a = rowsP h' bs' a' := by
  have pm : (rowsP h bs a).Perm (rowsP h' bs' a') := (List.perm_ext_iff_of_nodup (nodup_fst rows_nodup) (nodup_fst rows_nodup)).mpr fun p => by rw [rows_val o1, rows_val o2, e]
  have s1 := rows_keys_sorted (h := h) (bs := bs) (a := a)
  have s2 := rows_keys_sorted (h := h') (bs := bs') (a := a')
  rw [List.pairwise_map] at s1 s2
  refine sorted_one pm s1 s2 fun p hp q hq h1 h2 => ?_
  have e1 := leK_antisymm h1 h2
  have v1 := (rows_val o1).mp hp
  have v2 := (rows_val o1).mp hq
  rw [e1, v2] at v1
  exact Prod.ext e1 (Option.some.inj v1).symm
/-- dict(rows) -/
theorem rows_dict {h : House} {bs : List Bnd} {a : Nm} : bltD .dict [encRows (rowsP h bs a)] = .ok (dD EK st (rowsP h bs a)) := by
  have := dict_tup (E := EK) (ev := st) (rowsP h bs a)
  rw [asets_new (by simpa using rows_nodup)] at this
  exact this
theorem rows_get {h : House} {bs : List Bnd} (once : (bs.map Bnd.place).Nodup) {a : Nm} {ks : Ky} : aget (rowsP h bs a) ks = val h bs a ks := by
  cases hg : aget (rowsP h bs a) ks with
  | some d => exact ((rows_val once).mp (aget_mem hg)).symm
  | none =>
    cases hv : val h bs a ks with
    | none => rfl
    | some d =>
      have := aget_of rows_nodup ((rows_val (p := (ks, d)) once).mpr hv)
      rw [hg] at this
      cases this
theorem deedAt_rev {bs : List Bnd} (once : (bs.map Bnd.place).Nodup) (p : Nm × Ky) : deedAt bs.reverse p = deedAt bs p := deedAt_eq (by rw [List.map_reverse]; exact once.reverse_) once (fun b => List.mem_reverse) p
theorem val_congr {h : House} {bs cs : List Bnd} {a : Nm} {ks : Ky} (e : ∀ b ∈ outs h a, deedAt bs (b, ks) = deedAt cs (b, ks)) : val h bs a ks = val h cs a ks := by
  unfold val
  congr 1
  revert e
  generalize outs h a = l
  intro e
  induction l with
  | nil => rfl
  | cons b l ih =>
    rw [List.findSome?_cons, List.findSome?_cons, e b List.mem_cons_self]
    cases deedAt cs (b, ks) with
    | none => exact ih fun c hc => e c (List.mem_cons_of_mem _ hc)
    | some d => rfl
/-! where it stands -/
theorem aget_book {bs : List Bnd} (once : (bs.map Bnd.place).Nodup) {p : Nm × Ky} {i : Nat} : aget (book bs) p = some i ↔ bs[i]?.map Bnd.place = some p := by
  rw [book_eq once]
  have nd : ((bs.zipIdx.map fun p => (p.1.place, p.2)).map (·.1)).Nodup := by
    rw [List.map_map]
    show (bs.zipIdx.map fun x => x.1.place).Nodup
    have e : (fun x : Bnd × Nat => x.1.place) = Bnd.place ∘ Prod.fst := rfl
    rw [e, ← List.map_map, List.zipIdx_map_fst]
    exact once
  constructor
  · intro h
    obtain ⟨q, hq, e⟩ := List.mem_map.mp (aget_mem h)
    cases e
    have := List.mem_zipIdx' hq
    rw [List.getElem?_eq_getElem this.1]
    exact congrArg (fun b => some (Bnd.place b)) this.2.symm
  · intro h
    obtain ⟨b, hb, rfl⟩ := Option.map_eq_some_iff.mp h
    refine aget_of nd (List.mem_map.mpr ⟨(b, i), ?_, rfl⟩)
    rw [List.mem_zipIdx_iff_getElem?]
    exact hb
theorem book_rev {bs : List Bnd} (once : (bs.map Bnd.place).Nodup) (p : Nm × Ky) : aget (book bs.reverse) p = (aget (book bs) p).map fun i => bs.length - 1 - i := by
  have o2 : (bs.reverse.map Bnd.place).Nodup := by rw [List.map_reverse]; exact once.reverse_
  cases hg : aget (book bs) p with
  | some i =>
    have hi := book_lt hg
    rw [aget_book once] at hg
    rw [Option.map_some, aget_book o2, List.getElem?_reverse (by omega), show bs.length - 1 - (bs.length - 1 - i) = i by omega]
    exact hg
  | none =>
    rw [Option.map_none]
    cases hr : aget (book bs.reverse) p with
    | none => rfl
    | some j =>
      have hj := book_lt hr
      rw [List.length_reverse] at hj
      rw [aget_book o2, List.getElem?_reverse hj] at hr
      rw [← aget_book once, hg] at hr
      cases hr
theorem holder_rev {h : House} {bs : List Bnd} (once : (bs.map Bnd.place).Nodup) (a : Nm) (ks : Ky) : holderP h bs.reverse a ks = (holderP h bs a ks).map fun i => bs.length - 1 - i := by
  unfold holderP
  induction outs h a with
  | nil => rfl
  | cons b l ih =>
    rw [List.findSome?_cons, List.findSome?_cons, book_rev once]
    cases aget (book bs) (b, ks) with
    | none => exact ih
    | some i => rfl
/-! reading houses and maps -/
theorem H0 (h : House) : ixD (encH h) (.int 0) = .ok (.tuple (h.rooms.map encR)) := by unfold encH; rw [ix_tup, atI_0]; rfl
theorem H1 (h : House) : ixD (encH h) (.int 1) = .ok (.tuple (h.ways.map encW)) := by unfold encH; rw [ix_tup, atI_1]; rfl
theorem wM (bs : List Bnd) : walkD .seq [encM bs] = .ok (bs.map encB) := rfl
theorem eM (bs : List Bnd) : walkD .enum [encM bs] = .ok (bs.zipIdx.map fun p => .tuple [.int p.2, encB p.1]) := by
  show R.ok (enumFrom 0 (bs.map encB)) = _
  rw [enum_from]
theorem lenM (bs : List Bnd) : bltD .len [encM bs] = .ok (.int bs.length) := by unfold encM; rw [len_tup, List.length_map]
theorem revM (bs : List Bnd) : stpD (encM bs) .none (.int (-1)) = .ok (encM bs.reverse) := by
  unfold encM
  rw [List.map_reverse]
  rfl
theorem tupM (bs : List Bnd) : bltD .tuple [.list (bs.map encB)] = .ok (encM bs) := rfl
theorem addM (bs cs : List Bnd) (h : bs.length + cs.length ≤ 1000000) : addD (encM bs) (encM cs) = .ok (encM (bs ++ cs)) := by
  unfold encM
  rw [addD_tup, List.length_map, List.length_map, guard_ok' (decide_eq_true h), List.map_append]
theorem compF_filter {α : Type} {step : D → R (Option D)} (enc : α → D) (p : α → Bool) {xs : List α} (h : ∀ x ∈ xs, step (enc x) = .ok (if p x = true then some (enc x) else none)) : compF step (xs.map enc) = .ok ((xs.filter p).map enc) := by
  rw [compF_of enc (fun x => if p x = true then some (enc x) else none) h]
  congr 1
  clear h
  induction xs with
  | nil => rfl
  | cons x xs ih =>
    rw [List.filterMap_cons, List.filter_cons]
    by_cases hp : p x = true
    · rw [if_pos hp, if_pos hp, ih]
      rfl
    · rw [if_neg hp, if_neg hp, ih]
theorem cut_take {α : Type} (xs : List α) (k : Nat) : cutL xs none (some (k : Int)) = xs.take k := by
  unfold cutL
  rw [show HT.sIx xs.length xs.length (some (k : Int)) = min k xs.length from HT.sIx_nat _ _ k, HT.sIx_none, List.drop_zero, Nat.sub_zero]
  rcases Nat.le_total k xs.length with h | h
  · rw [Nat.min_eq_left h]
  · rw [Nat.min_eq_right h, List.take_length, List.take_of_length_le h]
theorem atI_last {α : Type} {l : List α} {a : α} (h : l.getLast? = some a) : L2.atI l (-1) = some a := by
  have hne : l ≠ [] := by rintro rfl; cases h
  have hl : 0 < l.length := List.length_pos_iff.mpr hne
  unfold L2.atI L2.ixN
  rw [if_neg (by omega)]
  rw [List.getLast?_eq_getElem?] at h
  split
  · rename_i hq
    simp only [Option.bind_some]
    rw [← h]
    congr 1
    omega
  · rename_i hq
    omega
theorem getLast_map {α β : Type} (f : α → β) (l : List α) : (l.map f).getLast? = l.getLast?.map f := by
  rw [List.getLast?_eq_getElem?, List.getLast?_eq_getElem?, List.getElem?_map, List.length_map]
theorem eqv_O (a b : Option Nm) : PyData.eqv (encO a) (encO b) = decide (a = b) := by
  cases a <;> cases b
  · rfl
  · rfl
  · rfl
  · show PyData.eqv (st _) (st _) = _
    rw [eqv_st]
    simp
theorem eqv_B (b c : Bnd) : PyData.eqv (encB b) (encB c) = decide (b = c) := by
  obtain ⟨r, k, d⟩ := b
  obtain ⟨r', k', d'⟩ := c
  unfold encB
  simp only [PyData.eqv, PyData.eqvAll, eqv_st, eqv_K, eqv_O, Bool.and_true]
  rw [Bool.eq_iff_iff]
  simp
theorem flat_B (b : Bnd) : Flat 2 (encB b) := Flat.tup fun x hx => by
  simp only [List.mem_cons, List.not_mem_nil, or_false] at hx
  rcases hx with rfl | rfl | rfl
  · exact (flat_st _).up (by decide)
  · exact flat_K _
  · exact (flat_O _).up (by decide)
theorem flat_map {α : Type} {k : Nat} {enc : α → D} (f : ∀ a, Flat k (enc a)) (l : List α) : Flat (k + 1) (.list (l.map enc)) := Flat.lst fun x hx => by
  obtain ⟨a, _, rfl⟩ := List.mem_map.mp hx
  exact f a
theorem in_st (a : Nm) (l : List Nm) (hl : l.length < 100000) : inD (st a) (.list (l.map st)) = .ok (decide (a ∈ l)) := by
  show inD (.str (sx a)) _ = _
  have : inD (.str (sx a)) (.list (l.map st)) = .guard (shp (.str (sx a)) && shp (.list (l.map st))) (.ok ((l.map st).any fun z => PyData.eqv z (.str (sx a)))) := rfl
  rw [this, (flat_map flat_st l).shp (by decide), shp_str]
  show R.ok _ = _
  congr 1
  rw [List.any_map, Bool.eq_iff_iff, List.any_eq_true, decide_eq_true_eq]
  constructor
  · rintro ⟨b, hb, e⟩
    have e : PyData.eqv (st b) (st a) = true := e
    rw [eqv_st, decide_eq_true_eq] at e
    exact e ▸ hb
  · intro hm
    exact ⟨a, hm, by show PyData.eqv (st a) (st a) = true; rw [eqv_st]; exact decide_eq_true rfl⟩
theorem eqD_bool (a b : Bool) : eqD (.bool a) (.bool b) = .ok (a == b) := by
  show R.guard (shp (.bool a) && shp (.bool b)) _ = _
  rw [shp_bool, shp_bool]
  rfl
theorem eqD_mapL {α : Type} [DecidableEq α] {k : Nat} (enc : α → D) (h : ∀ a b, PyData.eqv (enc a) (enc b) = decide (a = b)) (f : ∀ a, Flat k (enc a)) (hk : k < 60) (l m : List α) : eqD (.list (l.map enc)) (.list (m.map enc)) = .ok (decide (l = m)) := by
  rw [eqD_lst, (flat_map f l).shp (by omega), (flat_map f m).shp (by omega)]
  show R.ok (PyData.eqvAll _ _) = _
  rw [eqv_map enc h]
theorem eqD_P (p q : Nm × Ky) : eqD (encP p) (encP q) = .ok (decide (p = q)) := by
  show eqD (.tuple _) _ = _
  rw [eqD_tup]
  rw [show (PyData.tuple [st p.1, encK p.2]) = encP p from rfl, (flat_P p).shp (by decide), (flat_P q).shp (by decide), eqv_P]
  rfl
end KP
/-! KdPress: keys pressed. -/
namespace KP
open PySem hiding Env Flow
open KD
structure Sta where
  room : Nm
  keys : Ky
  since : Int
  deriving DecidableEq
def encS (s : Sta) : D := .tuple [st s.room, encK s.keys, .int s.since]
inductive Tel where
  | deed (d : Nm)
  | lost (ks : Ky)
  deriving DecidableEq
def encT : Tel → D
  | .deed d => .tuple [st [100, 101, 101, 100], st d]
  | .lost ks => .tuple [st [108, 111, 115, 116], encK ks]
def encTs (l : List Tel) : D := .tuple (l.map encT)
/-- what a move gives -/
def encM2 (r : Sta × List Tel) : D := .tuple [encS r.1, encTs r.2]
/-- house and map, as moves want them -/
structure CX (h : House) (bs : List Bnd) : Prop where
  ok : HG h
  m : MG bs
  kl : ∀ b ∈ bs, b.keys.length ≤ 9
  wy : ∀ w ∈ h.ways, w.2 ∈ h.rooms.map (·.1)
  ne : h.rooms ≠ []
/-- a state as moves leave it -/
structure GS (h : House) (s : Sta) : Prop where
  room : s.room ∈ h.rooms.map (·.1)
  len : s.keys.length ≤ 9
/-! the moves -/
def first (h : House) : Nm := ((h.rooms.head?).map (·.1)).getD []
def beginP (h : House) : Sta := ⟨first h, [], 0⟩
def goesOn (rows : List (Ky × Nm)) (ks : Ky) : Bool := rows.any fun p => decide (ks.length < p.1.length) && decide (p.1.take ks.length = ks)
def wayTo (h : House) (d a : Nm) : Nm := (aget (asets [] h.ways) d).getD a
def withDeed (h : House) (a d : Nm) : Sta × List Tel := (⟨wayTo h d a, [], 0⟩, [.deed d])
def settledP (h : House) (bs : List Bnd) (s : Sta) : Sta × List Tel := match aget (rowsP h bs s.room) s.keys with
  | some d => withDeed h s.room d
  | none => (⟨s.room, [], 0⟩, [.lost s.keys])
def passedP (h : House) (bs : List Bnd) (wait : Int) (s : Sta) (t : Int) : Sta × List Tel := if s.keys ≠ [] ∧ s.since + wait ≤ t then settledP h bs s else (s, [])
/-- a key where it is taken as it stands, or not -/
def takenO (h : House) (bs : List Bnd) (s : Sta) (key : Nm) (t : Int) : Option (Sta × List Tel) :=
  if goesOn (rowsP h bs s.room) (s.keys ++ [key]) = true then some (⟨s.room, s.keys ++ [key], t⟩, [])
  else match aget (rowsP h bs s.room) (s.keys ++ [key]) with
    | some d => some (withDeed h s.room d)
    | none => if s.keys = [] then some (⟨s.room, [], 0⟩, [.lost [key]]) else none
def both (r q : Sta × List Tel) : Sta × List Tel := (q.1, r.2 ++ q.2)
def takenP (h : House) (bs : List Bnd) (s : Sta) (key : Nm) (t : Int) : Sta × List Tel := match takenO h bs s key t with
  | some r => r
  | none => both (settledP h bs s) ((takenO h bs (settledP h bs s).1 key t).getD (s, []))
def pressedP (h : House) (bs : List Bnd) (wait : Int) (s : Sta) (key : Nm) (t : Int) : Sta × List Tel := both (passedP h bs wait s t) (takenP h bs (passedP h bs wait s t).1 key t)
/-- keys pressed one after the other, what was told so far -/
def pressL (h : House) (bs : List Bnd) (wait : Int) (l : List (Nm × Int)) (r : Sta × List Tel) : Sta × List Tel := l.foldl (fun r p => both r (pressedP h bs wait r.1 p.1 p.2)) r
def runP (h : House) (bs : List Bnd) (wait : Int) (l : List (Nm × Int)) : List Tel :=
  let r := pressL h bs wait l (beginP h, [])
  r.2 ++ (passedP h bs wait r.1 (r.1.since + wait)).2
variable {h : House} {bs : List Bnd}
theorem wayTo_in (c : CX h bs) {a : Nm} (ha : a ∈ h.rooms.map (·.1)) (d : Nm) : wayTo h d a ∈ h.rooms.map (·.1) := by
  unfold wayTo
  cases hg : aget (asets [] h.ways) d with
  | none => exact ha
  | some b =>
    have : ∀ (l acc : List (Nm × Nm)), (∀ w ∈ l, w.2 ∈ h.rooms.map (·.1)) → (∀ w ∈ acc, w.2 ∈ h.rooms.map (·.1)) → ∀ w ∈ asets acc l, w.2 ∈ h.rooms.map (·.1) := by
      intro l
      induction l with
      | nil => exact fun acc _ k w hw => k w hw
      | cons x l ih =>
        intro acc k1 k2 w hw
        refine ih _ (fun w hw => k1 w (List.mem_cons_of_mem _ hw)) (fun w hw => ?_) w hw
        rcases aset_mem hw with rfl | hw
        · exact k1 x List.mem_cons_self
        · exact k2 w hw
    exact this _ [] c.wy (fun w hw => nomatch hw) _ (aget_mem hg)
theorem settled_good (c : CX h bs) {s : Sta} (g : GS h s) : GS h (settledP h bs s).1 ∧ (settledP h bs s).1.keys = [] := by
  unfold settledP
  cases aget (rowsP h bs s.room) s.keys with
  | some d => exact ⟨⟨wayTo_in c g.room d, Nat.zero_le _⟩, rfl⟩
  | none => exact ⟨⟨g.room, Nat.zero_le _⟩, rfl⟩
theorem passed_good (c : CX h bs) {wait t : Int} {s : Sta} (g : GS h s) : GS h (passedP h bs wait s t).1 := by
  unfold passedP
  split
  · exact (settled_good c g).1
  · exact g
theorem rows_len (c : CX h bs) {a : Nm} {p : Ky × Nm} (hp : p ∈ rowsP h bs a) : p.1.length ≤ 9 := by
  obtain ⟨⟨b, hb, e⟩, _⟩ := rows_mem.mp hp
  rw [← e]
  exact c.kl b hb
theorem goes_len (c : CX h bs) {a : Nm} {ks : Ky} (hg : goesOn (rowsP h bs a) ks = true) : ks.length < 9 := by
  unfold goesOn at hg
  obtain ⟨p, hp, e⟩ := List.any_eq_true.mp hg
  rw [Bool.and_eq_true, decide_eq_true_eq] at e
  have := rows_len c hp
  omega
theorem takenO_good (c : CX h bs) {s : Sta} {key : Nm} {t : Int} (g : GS h s) {r : Sta × List Tel} (hr : takenO h bs s key t = some r) : GS h r.1 := by
  unfold takenO at hr
  split at hr
  · rename_i hg
    cases hr
    exact ⟨g.room, Nat.le_of_lt (goes_len c hg)⟩
  · split at hr
    · rename_i d hd
      cases hr
      exact ⟨wayTo_in c g.room _, Nat.zero_le _⟩
    · split at hr
      · cases hr
        exact ⟨g.room, Nat.zero_le _⟩
      · cases hr
theorem takenO_empty (s : Sta) (key : Nm) (t : Int) (hs : s.keys = []) : ∃ r, takenO h bs s key t = some r := by
  unfold takenO
  rw [if_pos hs]
  split
  · exact ⟨_, rfl⟩
  · split
    · exact ⟨_, rfl⟩
    · exact ⟨_, rfl⟩
theorem taken_good (c : CX h bs) {s : Sta} {key : Nm} {t : Int} (g : GS h s) : GS h (takenP h bs s key t).1 := by
  unfold takenP
  cases hr : takenO h bs s key t with
  | some r => exact takenO_good c g hr
  | none =>
    obtain ⟨g1, e1⟩ := settled_good c g
    obtain ⟨r, hr⟩ := takenO_empty (h := h) (bs := bs) (settledP h bs s).1 key t e1
    show GS h ((takenO h bs (settledP h bs s).1 key t).getD (s, [])).1
    rw [hr]
    exact takenO_good c g1 hr
theorem pressed_good (c : CX h bs) {wait t : Int} {s : Sta} {key : Nm} (g : GS h s) : GS h (pressedP h bs wait s key t).1 := taken_good c (passed_good c g)
theorem first_in (c : CX h bs) : first h ∈ h.rooms.map (·.1) := by
  unfold first
  cases hr : h.rooms with
  | nil => exact absurd hr c.ne
  | cons r l => exact List.mem_cons_self
theorem begin_good (c : CX h bs) : GS h (beginP h) := ⟨first_in c, Nat.zero_le _⟩
/-! lengths of what is told -/
theorem settled_told (s : Sta) : (settledP h bs s).2.length = 1 := by
  unfold settledP
  cases aget (rowsP h bs s.room) s.keys <;> rfl
theorem passed_told (wait t : Int) (s : Sta) : (passedP h bs wait s t).2.length ≤ 1 := by
  unfold passedP
  split
  · exact Nat.le_of_eq (settled_told s)
  · exact Nat.zero_le _
theorem takenO_told {s : Sta} {key : Nm} {t : Int} {r : Sta × List Tel} (hr : takenO h bs s key t = some r) : r.2.length ≤ 1 := by
  unfold takenO at hr
  split at hr
  · cases hr; exact Nat.zero_le _
  · split at hr
    · cases hr; exact Nat.le_refl _
    · split at hr
      · cases hr; exact Nat.le_refl _
      · cases hr
theorem taken_told (c : CX h bs) {s : Sta} (g : GS h s) (key : Nm) (t : Int) : (takenP h bs s key t).2.length ≤ 2 := by
  unfold takenP
  cases hr : takenO h bs s key t with
  | some r => exact Nat.le_succ_of_le (takenO_told hr)
  | none =>
    obtain ⟨g1, e1⟩ := settled_good c g
    obtain ⟨r, hr⟩ := takenO_empty (h := h) (bs := bs) (settledP h bs s).1 key t e1
    have h1 := settled_told (h := h) (bs := bs) s
    have h2 := takenO_told hr
    simp only [both, hr, Option.getD_some, List.length_append]
    omega
theorem pressed_told (c : CX h bs) {s : Sta} (g : GS h s) (wait : Int) (key : Nm) (t : Int) : (pressedP h bs wait s key t).2.length ≤ 3 := by
  have h1 := passed_told (h := h) (bs := bs) wait t s
  have h2 := taken_told c (passed_good c g (wait := wait) (t := t)) key t
  unfold pressedP both
  simp only [List.length_append]
  omega
/-! ### in the text -/
theorem K0 : encK [] = .tuple [] := rfl
theorem ways_dict (h : House) : bltD .dict [.tuple (h.ways.map encW)] = .ok (dD EN st (asets [] h.ways)) := dict_tup (E := EN) (ev := st) h.ways
theorem way_get (h : House) (d a : Nm) : mthD .get (dD EN st (asets [] h.ways)) [st d, st a] = .ok (st (wayTo h d a)) := by
  have := get_d (E := EN) (ev := st) (asets [] h.ways) d (st a)
  rw [show EN.ek d = st d from rfl] at this
  rw [this]
  unfold wayTo
  cases aget (asets [] h.ways) d <;> rfl
theorem ev_begin (n : Nat) (c : CX h bs) : evFn PP WF (n + 1) 59 [encH h] = .ok (encS (beginP h)) := by
  have := ev_open (n := n) (f := 59) (fn := f59_begin) (ds := [encH h]) rfl rfl
  unfold Ev at this
  rw [this]
  cases hr : h.rooms with
  | nil => exact absurd hr c.ne
  | cons r l => simp [f59_begin, H0, hr, encR, encS, beginP, first, encK]
theorem any_map {α : Type} (p : α → Bool) (l : List α) : bltD .any [.list (l.map fun x => PyData.bool (p x))] = .ok (.bool (l.any p)) := by
  have e : boolsD (l.map fun x => PyData.bool (p x)) = some (l.map p) := by
    induction l with
    | nil => rfl
    | cons x l ih => rw [List.map_cons, boolsD, ih]; rfl
  show ofOpt ((boolsD _).map _) = _
  rw [e]
  show R.ok (PyData.bool ((l.map p).any id)) = _
  rw [List.any_map]
  rfl
theorem len_K (ks : Ky) : bltD .len [encK ks] = .ok (.int ks.length) := by unfold encK; rw [len_tup, List.length_map]
theorem cut_K (ks : Ky) (k : Nat) : cutD (encK ks) none (some (k : Int)) = .ok (encK (ks.take k)) := by
  unfold encK
  rw [cut_tup, cut_take, List.map_take]
theorem ev_goes (n : Nat) (l : List (Ky × Nm)) (ks : Ky) : evFn PP WF (n + 1) 60 [dD EK st l, encK ks] = .ok (.bool (goesOn l ks)) := by
  have := ev_open (n := n) (f := 60) (fn := f60_goes_on) (ds := [dD EK st l, encK ks]) rfl rfl
  unfold Ev at this
  rw [this]
  have hw : walkD .seq [dD EK st l] = .ok (l.map fun p => encK p.1) := keys_d (E := EK) (ev := st) l
  simp [f60_goes_on, hw]
  rw [compF_all (fun p : Ky × Nm => encK p.1) (fun p => .bool (decide (ks.length < p.1.length) && decide (p.1.take ks.length = ks))) fun p _ => by
    by_cases h1 : ks.length < p.1.length
    · simp [cstep, len_K, h1, cut_K, eqD_K]
    · simp [cstep, len_K, h1]]
  rw [R.bind_ok, any_map (fun p : Ky × Nm => decide (ks.length < p.1.length) && decide (p.1.take ks.length = ks))]
  simp [goesOn]
theorem ev_deed (n : Nat) (h : House) (a d : Nm) : evFn PP WF (n + 1) 61 [encH h, st a, st d] = .ok (encM2 (withDeed h a d)) := by
  have := ev_open (n := n) (f := 61) (fn := f61_with_deed) (ds := [encH h, st a, st d]) rfl rfl
  unfold Ev at this
  rw [this]
  simp [f61_with_deed, H1, ways_dict, way_get, encM2, withDeed, encS, encTs, encT, encK]
theorem in_rows (l : List (Ky × Nm)) (ks : Ky) : inD (encK ks) (dD EK st l) = .ok (aget l ks).isSome := in_d (E := EK) (ev := st) l ks
theorem ix_rows (l : List (Ky × Nm)) (ks : Ky) : ixD (dD EK st l) (encK ks) = ofOpt ((aget l ks).map st) := ix_d (E := EK) (ev := st) l ks
theorem ev_settled (n : Nat) (c : CX h bs) {s : Sta} (g : GS h s) : evFn PP WF (n + 4) 62 [encH h, encM bs, encS s] = .ok (encM2 (settledP h bs s)) := by
  have := ev_open (n := n + 3) (f := 62) (fn := f62_settled) (ds := [encH h, encM bs, encS s]) rfl rfl
  unfold Ev at this
  rw [this]
  have hr := ev_rows n c.ok c.m.len c.m.ne g.room
  have hd := fun a d => ev_deed (n + 2) h a d
  unfold settledP
  cases hg : aget (rowsP h bs s.room) s.keys with
  | some d => simp [f62_settled, encS, hr, rows_dict, in_rows, ix_rows, hg, hd]
  | none => simp [f62_settled, encS, hr, rows_dict, in_rows, hg, encM2, encTs, encT, K0]
theorem ev_passed (n : Nat) (c : CX h bs) {s : Sta} (g : GS h s) (wait t : Int) : evFn PP WF (n + 5) 63 [encH h, encM bs, .int wait, encS s, .int t] = .ok (encM2 (passedP h bs wait s t)) := by
  have := ev_open (n := n + 4) (f := 63) (fn := f63_passed) (ds := [encH h, encM bs, .int wait, encS s, .int t]) rfl rfl
  unfold Ev at this
  rw [this]
  have hs := ev_settled n c g
  unfold passedP
  unfold encS at hs ⊢
  cases hk : s.keys with
  | nil => simp [f63_passed, len_K, hk, encM2, encS, encTs]
  | cons k l =>
    rw [hk] at hs
    by_cases ht : s.since + wait ≤ t
    · simp [f63_passed, len_K, hk, ht, hs]
    · simp [f63_passed, len_K, hk, ht, encM2, encS, encTs]
theorem add_K (ks : Ky) (a : Nm) (hl : ks.length ≤ 100000) : addD (encK ks) (.tuple [st a]) = .ok (encK (ks ++ [a])) := by
  unfold encK
  rw [addD_tup, List.length_map, guard_ok' (decide_eq_true (by show _ ≤ 1000000; simp; omega)), List.map_append]
  rfl
theorem add_Ts (l m : List Tel) (hl : l.length + m.length ≤ 100000) : addD (encTs l) (encTs m) = .ok (encTs (l ++ m)) := by
  unfold encTs
  rw [addD_tup, List.length_map, List.length_map, guard_ok' (decide_eq_true (by show _ ≤ 1000000; omega)), List.map_append]
theorem ev_takenO (n : Nat) (c : CX h bs) {s : Sta} (g : GS h s) (key : Nm) (t : Int) {r : Sta × List Tel} (hr : takenO h bs s key t = some r) : evFn PP WF (n + 4) 64 [encH h, encM bs, encS s, st key, .int t] = .ok (encM2 r) := by
  have := ev_open (n := n + 3) (f := 64) (fn := f64_taken) (ds := [encH h, encM bs, encS s, st key, .int t]) rfl rfl
  unfold Ev at this
  rw [this]
  have hro := ev_rows n c.ok c.m.len c.m.ne g.room
  have hd := fun a d => ev_deed (n + 2) h a d
  have hg := fun l ks => ev_goes (n + 2) l ks
  have ha := add_K s.keys key (by have := g.len; omega)
  unfold takenO at hr
  split at hr
  · rename_i h1
    cases hr
    simp [f64_taken, encS, hro, rows_dict, ha, hg, h1, encM2, encTs]
  · rename_i h1
    rw [Bool.not_eq_true] at h1
    split at hr
    · rename_i d h2
      cases hr
      simp [f64_taken, encS, hro, rows_dict, ha, hg, h1, in_rows, ix_rows, h2, hd]
    · rename_i h2
      split at hr
      · rename_i h3
        cases hr
        have hl0 : s.keys.length = 0 := by rw [h3]; rfl
        have hk : encK [key] = encK (s.keys ++ [key]) := by rw [h3]; rfl
        simp [f64_taken, encS, hro, rows_dict, ha, hg, h1, in_rows, h2, len_K, hl0, encM2, encTs, encT, K0, hk]
      · cases hr
theorem ev_taken (n : Nat) (c : CX h bs) {s : Sta} (g : GS h s) (key : Nm) (t : Int) : evFn PP WF (n + 6) 64 [encH h, encM bs, encS s, st key, .int t] = .ok (encM2 (takenP h bs s key t)) := by
  unfold takenP
  cases hO : takenO h bs s key t with
  | some r => exact ev_takenO (n + 2) c g key t hO
  | none =>
    have := ev_open (n := n + 5) (f := 64) (fn := f64_taken) (ds := [encH h, encM bs, encS s, st key, .int t]) rfl rfl
    unfold Ev at this
    rw [this]
    obtain ⟨g1, e1⟩ := settled_good c g
    obtain ⟨r, hr⟩ := takenO_empty (h := h) (bs := bs) (settledP h bs s).1 key t e1
    have hro := ev_rows (n + 2) c.ok c.m.len c.m.ne g.room
    have hg := fun l ks => ev_goes (n + 4) l ks
    have ha := add_K s.keys key (by have := g.len; omega)
    have hst := ev_settled (n + 1) c g
    have hin := ev_takenO (n + 1) c g1 key t hr
    have l1 := settled_told (h := h) (bs := bs) s
    have l2 := takenO_told hr
    have hadd := add_Ts (settledP h bs s).2 r.2 (by omega)
    unfold takenO at hO
    split at hO
    · cases hO
    · rename_i h1
      rw [Bool.not_eq_true] at h1
      split at hO
      · cases hO
      · rename_i h2
        split at hO
        · cases hO
        · rename_i h3
          have hl : ¬ s.keys.length = 0 := fun z => h3 (List.eq_nil_of_length_eq_zero z)
          unfold encM2 at hst hin
          simp [f64_taken, encS] at hst hin ⊢
          simp [hro, rows_dict, ha, hg, h1, in_rows, h2, len_K, hl, hst, hin, hadd, hr, both, encM2, encS]
theorem ev_pressed (n : Nat) (c : CX h bs) {s : Sta} (g : GS h s) (wait : Int) (key : Nm) (t : Int) : evFn PP WF (n + 7) 65 [encH h, encM bs, .int wait, encS s, st key, .int t] = .ok (encM2 (pressedP h bs wait s key t)) := by
  have := ev_open (n := n + 6) (f := 65) (fn := f65_pressed) (ds := [encH h, encM bs, .int wait, encS s, st key, .int t]) rfl rfl
  unfold Ev at this
  rw [this]
  have h1 := ev_passed (n + 1) c g wait t
  have h2 := ev_taken n c (passed_good c g (wait := wait) (t := t)) key t
  have l1 := passed_told (h := h) (bs := bs) wait t s
  have l2 := taken_told c (passed_good c g (wait := wait) (t := t)) key t
  have hadd := add_Ts (passedP h bs wait s t).2 (takenP h bs (passedP h bs wait s t).1 key t).2 (by omega)
  unfold encM2 at h1 h2 ⊢
  simp [f65_pressed, h1, h2, hadd, pressedP, both]
end KP
/-! KdPress2: runs; the laws' own moves. -/
namespace KP
open PySem hiding Env Flow
open KD
variable {h : House} {bs : List Bnd}
def encPr (p : Nm × Int) : D := .tuple [st p.1, .int p.2]
def encPs (l : List (Nm × Int)) : D := .tuple (l.map encPr)
theorem wPs (l : List (Nm × Int)) : walkD .seq [encPs l] = .ok (l.map encPr) := rfl
theorem pressL_good (c : CX h bs) (wait : Int) : ∀ (l : List (Nm × Int)) (r : Sta × List Tel), GS h r.1 → GS h (pressL h bs wait l r).1 ∧ (pressL h bs wait l r).2.length ≤ r.2.length + 3 * l.length
  | [], r, g => ⟨g, Nat.le_refl _⟩
  | p :: l, r, g => by
    have g1 := pressed_good c (wait := wait) (t := p.2) (key := p.1) g
    have t1 := pressed_told c g wait p.1 p.2
    have := pressL_good c wait l (both r (pressedP h bs wait r.1 p.1 p.2)) g1
    refine ⟨this.1, Nat.le_trans this.2 ?_⟩
    simp only [both, List.length_append, List.length_cons]
    omega
theorem ev_run (n : Nat) (c : CX h bs) (wait : Int) (l : List (Nm × Int)) (hl : l.length ≤ 1000) : evFn PP WF (n + 8) 66 [encH h, encM bs, .int wait, encPs l] = .ok (encTs (runP h bs wait l)) := by
  have := ev_open (n := n + 7) (f := 66) (fn := f66_run) (ds := [encH h, encM bs, .int wait, encPs l]) rfl rfl
  unfold Ev at this
  rw [this]
  have hb := ev_begin (n + 6) c
  simp [f66_run, hb, wPs]
  refine bind_foldI (P := fun r : R D => r = .ok (encTs (runP h bs wait l))) encPr (fun r : Sta × List Tel => [some (.val (encH h)), some (.val (encM bs)), some (.val (.int wait)), some (.val (encPs l)), some (.val (encS r.1)), some (.val (encTs r.2)), none, none, none])
    (fun p r => both r (pressedP h bs wait r.1 p.1 p.2)) (fun i r => GS h r.1 ∧ r.2.length ≤ 3 * i) (beginP h, []) ⟨begin_good c, Nat.zero_le _⟩ (fun i p hp r ⟨g, hr⟩ => ?_) fun ⟨g, hr⟩ => ?_
  · have hi := (List.getElem?_eq_some_iff.mp hp).1
    have hpr := ev_pressed n c g wait p.1 p.2
    have t1 := pressed_told c g wait p.1 p.2
    have ha := add_Ts r.2 (pressedP h bs wait r.1 p.1 p.2).2 (by omega)
    unfold encM2 at hpr
    refine ⟨?_, pressed_good c g, by simp only [both, List.length_append]; omega⟩
    simp [fstep, encPr, hpr, ha, both]
  · have hps := ev_passed (n + 2) c g wait ((l.foldl (fun r p => both r (pressedP h bs wait r.1 p.1 p.2)) (beginP h, [])).1.since + wait)
    have t1 := passed_told (h := h) (bs := bs) wait ((l.foldl (fun r p => both r (pressedP h bs wait r.1 p.1 p.2)) (beginP h, [])).1.since + wait) (l.foldl (fun r p => both r (pressedP h bs wait r.1 p.1 p.2)) (beginP h, [])).1
    have ha := add_Ts (l.foldl (fun r p => both r (pressedP h bs wait r.1 p.1 p.2)) (beginP h, [])).2 _ (show _ + (passedP h bs wait (l.foldl (fun r p => both r (pressedP h bs wait r.1 p.1 p.2)) (beginP h, [])).1 ((l.foldl (fun r p => both r (pressedP h bs wait r.1 p.1 p.2)) (beginP h, [])).1.since + wait)).2.length ≤ 100000 by omega)
    unfold runP pressL
    revert hps ha
    generalize l.foldl (fun r p => both r (pressedP h bs wait r.1 p.1 p.2)) (beginP h, []) = r
    intro hps ha
    unfold encM2 at hps
    have hix : ixD (encS r.1) (.int 2) = .ok (.int r.1.since) := by unfold encS; rw [ix_tup, atI_2]; rfl
    simp [hix, hps, ha]
/-! ### keys that are struck -/
structure Struck (l : List (Nm × Int)) : Prop where
  keys : ∀ p ∈ l, p.1 ∈ keyT
  nn : ∀ p ∈ l, 0 ≤ p.2
  up : l.Pairwise fun p q => p.2 ≤ q.2
def IPr (m : Int) (many : Nat) (wait : Int) (i : Nat) (ρ : KD.Env) : Prop := ∃ (l : List (Nm × Int)) (t : Int), Struck l ∧ l.length = i ∧ 0 ≤ t ∧ (∀ p ∈ l, p.2 ≤ t) ∧
  ρ = [some (.val (.int m)), some (.val (.int many)), some (.val (.int wait)), some (.own (.list (l.map encPr))), some (.val (.int t)), none, none]
theorem ev_presses (n : Nat) (m : Int) (hm : 0 ≤ m) (many : Nat) (hmany : many ≤ 1000) (wait : Int) (hw : 1 ≤ wait) : ∃ l, Struck l ∧ l.length = many ∧ evFn PP WF (n + 2) 76 [.int m, .int many, .int wait] = .ok (.list (l.map encPr)) := by
  have := ev_open (n := n + 1) (f := 76) (fn := f76_l_presses) (ds := [.int m, .int many, .int wait]) rfl rfl
  unfold Ev at this
  rw [this]
  have hd := fun k => ev_drw n m k
  have hk := fun k => ev_key n k
  unfold Ev at hd hk
  simp [f76_l_presses]
  rw [guard_ok' (rng_ok (by omega) (by omega))]
  have e5 := Int.emod_nonneg (m / 64) (show (5 : Int) ≠ 0 by decide)
  refine bind_for (P := fun r : R D => ∃ l, Struck l ∧ l.length = many ∧ r = .ok (.list (l.map encPr))) (IPr m many wait) ⟨[], m / 64 % 5, ⟨fun p hp => (nomatch hp), fun p hp => (nomatch hp), List.Pairwise.nil⟩, rfl, e5, fun p hp => (nomatch hp), rfl⟩ ?_ ?_
  · rintro i x ρ hx ⟨l, t, h1, h2, h3, h4, rfl⟩
    obtain ⟨rfl, hi⟩ := rng_get hx
    obtain ⟨q, hq⟩ : ∃ q, drw m (40 + i) / 4 = q := ⟨_, rfl⟩
    obtain ⟨d, hdm, hdat⟩ := tabD_at [.int 0, .int 1, .int (wait - 1), .int wait, .int (2 * wait), .int 0] q 6 rfl (by decide)
    obtain ⟨s, hs, he⟩ := hk (q / 8)
    have hdr : ∃ j : Int, d = .int j ∧ 0 ≤ j := by
      simp only [List.mem_cons, List.not_mem_nil, or_false] at hdm
      rcases hdm with rfl | rfl | rfl | rfl | rfl | rfl
      · exact ⟨0, rfl, by decide⟩
      · exact ⟨1, rfl, by decide⟩
      · exact ⟨wait - 1, rfl, by omega⟩
      · exact ⟨wait, rfl, by omega⟩
      · exact ⟨2 * wait, rfl, by omega⟩
      · exact ⟨0, rfl, by decide⟩
    obtain ⟨j, rfl, hj⟩ := hdr
    have hll : l.length < lim := by show _ < 1000000; omega
    have s2 : smallI 2 = true := by decide
    simp [fstep, hd, hq, hdat, he, hll, s2]
    refine ⟨l ++ [(s, t + j)], t + j, ⟨fun p hp => ?_, fun p hp => ?_, ?_⟩, by simp [h2], by omega, fun p hp => ?_, by rw [List.map_append]; rfl⟩
    · rw [List.mem_append, List.mem_singleton] at hp
      rcases hp with hp | rfl
      · exact h1.keys p hp
      · exact hs
    · rw [List.mem_append, List.mem_singleton] at hp
      rcases hp with hp | rfl
      · exact h1.nn p hp
      · show 0 ≤ t + j; omega
    · rw [List.pairwise_append]
      refine ⟨h1.up, List.pairwise_singleton _ _, fun p hp q hq => ?_⟩
      rw [List.mem_singleton] at hq
      rw [hq]
      have := h4 p hp
      show p.2 ≤ t + j
      omega
    · rw [List.mem_append, List.mem_singleton] at hp
      rcases hp with hp | rfl
      · have := h4 p hp; omega
      · exact Int.le_refl _
  · rintro ρ ⟨l, t, h1, h2, h3, h4, rfl⟩
    rw [range_len] at h2
    simp
    exact ⟨l, h1, h2, rfl⟩
/-! ### the laws' own moves -/
def encML (r : Sta × List Tel) : D := .tuple [encS r.1, .list (r.2.map encT)]
theorem lrows_mem (m : MG bs) {a : Nm} {p : Ky × Nm} : p ∈ lrowsP h bs a ↔ val h bs a p.1 = some p.2 := by
  obtain ⟨_, i2⟩ := lrows_fold (fun ks => rowAt bs (holderP h bs a ks)) bs [] List.nodup_nil (fun p hp => nomatch hp)
  have := i2 p
  rw [val_eq m.once] at this
  refine (show _ ↔ _ from this).trans ⟨fun z => z.elim (fun z => nomatch z) fun z => z.2, fun z => .inr ⟨?_, z⟩⟩
  obtain ⟨b, hb, e, _⟩ := val_bind z
  exact ⟨b, hb, e⟩
theorem lrows_nodup {a : Nm} : ((lrowsP h bs a).map (·.1)).Nodup := (lrows_fold (fun ks => rowAt bs (holderP h bs a ks)) bs [] List.nodup_nil (fun p hp => nomatch hp)).1
theorem lrows_perm (m : MG bs) (a : Nm) : (lrowsP h bs a).Perm (rowsP h bs a) := (List.perm_ext_iff_of_nodup (nodup_fst lrows_nodup) (nodup_fst rows_nodup)).mpr fun p => (lrows_mem m).trans (rows_val m.once).symm
theorem lrows_get (m : MG bs) {a : Nm} {ks : Ky} : aget (lrowsP h bs a) ks = aget (rowsP h bs a) ks := by
  rw [rows_get m.once]
  cases hg : aget (lrowsP h bs a) ks with
  | some d => exact ((lrows_mem m).mp (aget_mem hg)).symm
  | none =>
    cases hv : val h bs a ks with
    | none => rfl
    | some d =>
      have := aget_of lrows_nodup ((lrows_mem (p := (ks, d)) m).mpr hv)
      rw [hg] at this
      cases this
theorem ev_lsettled (n : Nat) (c : CX h bs) {s : Sta} (hr : s.room ∈ h.rooms.map (·.1)) : evFn PP WF (n + 3) 81 [encH h, encM bs, encS s] = .ok (encML (settledP h bs s)) := by
  have := ev_open (n := n + 2) (f := 81) (fn := f81_l_settled) (ds := [encH h, encM bs, encS s]) rfl rfl
  unfold Ev at this
  rw [this]
  have hl := ev_lrows n c.ok c.m hr
  unfold settledP
  cases hg : aget (rowsP h bs s.room) s.keys with
  | some d => simp [f81_l_settled, encS, hl, in_rows, ix_rows, lrows_get c.m, hg, H1, ways_dict, way_get, encML, withDeed, encT, K0]
  | none => simp [f81_l_settled, encS, hl, in_rows, lrows_get c.m, hg, encML, encT, K0]
/-- the law's question whether keys go on -/
theorem goes_law (m : MG bs) (a : Nm) (ks : Ky) : ((lrowsP h bs a).filter fun p => !decide (p.1 = ks) && decide (p.1.take ks.length = ks)) = [] ↔ goesOn (rowsP h bs a) ks = false := by
  unfold goesOn
  rw [List.filter_eq_nil_iff, List.any_eq_false]
  have pm := lrows_perm (h := h) m a
  have one : ∀ p : Ky × Nm, ((!decide (p.1 = ks) && decide (p.1.take ks.length = ks)) = true) ↔ ((decide (ks.length < p.1.length) && decide (p.1.take ks.length = ks)) = true) := fun p => by
    simp only [Bool.and_eq_true, Bool.not_eq_true', decide_eq_true_eq, decide_eq_false_iff_not]
    refine and_congr_left fun e => ⟨fun ne => ?_, fun lt e2 => ?_⟩
    · have h1 : ks.length ≤ p.1.length := by
        have := congrArg List.length e
        rw [List.length_take] at this
        omega
      refine Nat.lt_of_le_of_ne h1 fun z => ne ?_
      rw [z, List.take_length] at e
      exact e
    · rw [e2] at lt
      exact Nat.lt_irrefl _ lt
  constructor
  · intro z p hp
    have := z p (pm.mem_iff.mpr hp)
    rw [one] at this
    exact this
  · intro z p hp
    rw [one]
    exact z p (pm.mem_iff.mp hp)
/-! one key, as the law tells it -/
def lpF (h : House) (bs : List Bnd) (key : Nm) (t : Int) (b : Sta × List Tel) : (Sta × List Tel) ⊕ D := match takenO h bs b.1 key t with
  | some r => .inr (encML (both b r))
  | none => .inl (both b (settledP h bs b.1))
theorem lp_run {s : Sta} {f : List Tel} (c : CX h bs) (g : GS h s) (key : Nm) (t : Int) : whlL (fun _ => true) (lpF h bs key t) 1000 (s, f) = some (.inr (encML (both (s, f) (takenP h bs s key t)))) := by
  unfold takenP
  rw [show (1000 : Nat) = 998 + 1 + 1 from rfl, whlL]
  cases hr : takenO h bs s key t with
  | some r =>
    have : lpF h bs key t (s, f) = .inr (encML (both (s, f) r)) := by unfold lpF; rw [hr]
    rw [this]
  | none =>
    have e : lpF h bs key t (s, f) = .inl (both (s, f) (settledP h bs s)) := by unfold lpF; rw [hr]
    obtain ⟨g1, e1⟩ := settled_good c g
    obtain ⟨r, hr2⟩ := takenO_empty (h := h) (bs := bs) (settledP h bs s).1 key t e1
    have e2 : lpF h bs key t (both (s, f) (settledP h bs s)) = .inr (encML (both (both (s, f) (settledP h bs s)) r)) := by
      unfold lpF
      rw [show (both (s, f) (settledP h bs s)).1 = (settledP h bs s).1 from rfl, hr2]
    rw [e]
    dsimp only
    rw [whlL, e2, hr2]
    dsimp only
    rw [show both (both (s, f) (settledP h bs s)) r = both (s, f) (both (settledP h bs s) ((some r).getD (s, []))) from by simp [both, List.append_assoc]]
theorem eqD_K0 (ks : Ky) : eqD (encK ks) (.tuple []) = .ok (decide (ks = [])) := eqD_K ks []
theorem eqD_keysL {l : List (Ky × Nm)} : eqD (.list (l.map fun p => encK p.1)) (.list []) = .ok (decide (l = [])) := by
  rw [eqD_lst, (Flat.lst (k := 1) (xs := l.map fun p : Ky × Nm => encK p.1) fun x hx => by obtain ⟨p, _, rfl⟩ := List.mem_map.mp hx; exact flat_K _).shp (by decide), (Flat.lst (k := 0) (xs := []) (by simp)).shp (by decide)]
  cases l <;> rfl
theorem compF_some {α : Type} {step : D → R (Option D)} (enc : α → D) (g : α → D) (p : α → Bool) {xs : List α} (h : ∀ x ∈ xs, step (enc x) = .ok (if p x = true then some (g x) else none)) : compF step (xs.map enc) = .ok ((xs.filter p).map g) := by
  rw [compF_of enc (fun x => if p x = true then some (g x) else none) h]
  congr 1
  clear h
  induction xs with
  | nil => rfl
  | cons x xs ih =>
    rw [List.filterMap_cons, List.filter_cons]
    by_cases hp : p x = true
    · rw [if_pos hp, if_pos hp, ih]
      rfl
    · rw [if_neg hp, if_neg hp, ih]
theorem add_L (l m : List Tel) (hl : l.length + m.length ≤ 100000) : addD (.list (l.map encT)) (.list (m.map encT)) = .ok (.list ((l ++ m).map encT)) := by
  rw [addD_lst, List.length_map, List.length_map, guard_ok' (decide_eq_true (by show _ ≤ 1000000; omega)), List.map_append]
theorem ev_lpressed (n : Nat) (c : CX h bs) {s : Sta} (g : GS h s) (wait : Int) (key : Nm) (t : Int) : evFn PP WF (n + 4) 82 [encH h, encM bs, .int wait, encS s, st key, .int t] = .ok (encML (pressedP h bs wait s key t)) := by
  have := ev_open (n := n + 3) (f := 82) (fn := f82_l_pressed) (ds := [encH h, encM bs, .int wait, encS s, st key, .int t]) rfl rfl
  unfold Ev at this
  rw [this]
  have hs := ev_lsettled n c g.room
  have i1 : ∀ s : Sta, ixD (encS s) (.int 1) = .ok (encK s.keys) := fun s => by unfold encS; rw [ix_tup, atI_1]; rfl
  have i2 : ∀ s : Sta, ixD (encS s) (.int 2) = .ok (.int s.since) := fun s => by unfold encS; rw [ix_tup, atI_2]; rfl
  have i0 : ∀ s : Sta, ixD (encS s) (.int 0) = .ok (st s.room) := fun s => by unfold encS; rw [ix_tup, atI_0]; rfl
  have g1 := passed_good c g (wait := wait) (t := t)
  have l1 := passed_told (h := h) (bs := bs) wait t s
  unfold pressedP
  simp [f82_l_pressed, i1, i2, eqD_K0]
  refine bind_if (P := fun r : R D => r = .ok (encML (both (passedP h bs wait s t) (takenP h bs (passedP h bs wait s t).1 key t)))) ((fun r : Sta × List Tel => [some (.val (encH h)), some (.val (encM bs)), some (.val (.int wait)), some (.val (encS r.1)), some (.val (st key)), some (.val (.int t)), some (.val (.list (r.2.map encT))), none, none, none, none, none]) (passedP h bs wait s t)) ?_ ?_
  · unfold encML at hs
    unfold passedP
    by_cases hk : s.keys = []
    · simp [hk]
    · by_cases ht : s.since + wait ≤ t
      · have ht' : wait ≤ t - s.since := by omega
        simp [hk, ht, ht', hs]
      · have ht' : ¬ wait ≤ t - s.since := by omega
        simp [hk, ht, ht']
  · simp
    have hb := lp_run (f := (passedP h bs wait s t).2) c g1 key t
    refine bind_whl (P := fun r : R D => r = .ok (encML (both (passedP h bs wait s t) (takenP h bs (passedP h bs wait s t).1 key t)))) (fun r : Sta × List Tel => [some (.val (encH h)), some (.val (encM bs)), some (.val (.int wait)), some (.val (encS r.1)), some (.val (st key)), some (.val (.int t)), some (.val (.list (r.2.map encT))), none, none, none, none, none])
      (fun _ => true) (lpF h bs key t) (fun r => GS h r.1 ∧ (r.2.length ≤ 1 ∨ (r.2.length ≤ 2 ∧ r.1.keys = []))) (passedP h bs wait s t) _ ⟨g1, .inl l1⟩ hb (fun b _ => by simp) (fun b ⟨gb, lb⟩ _ => ?_) (fun b' e => nomatch e) (fun d e => by cases e; simp)
    have hlr := ev_lrows (n + 1) c.ok c.m gb.room
    have ha := add_K b.1.keys key (by have := gb.len; omega)
    have hw : ∀ a, walkD .seq [dD EK st (lrowsP h bs a)] = .ok ((lrowsP h bs a).map fun p => encK p.1) := fun a => keys_d (E := EK) (ev := st) _
    have cf : ∀ (ρ : KD.Env), compF (cstep (evFn PP WF (n + 3)) [some (.val (encH h)), some (.val (encM bs)), some (.val (.int wait)), some (.val (encS b.1)), some (.val (st key)), some (.val (.int t)), some (.val (.list (b.2.map encT))), some (.val (encK (b.1.keys ++ [key]))), some (.val (dD EK st (lrowsP h bs b.1.room))), none, none, none]
        (.var 11) (.name 11) (.band (.cmp .ne (.var 11) (.var 7)) (.cmp .eq (.slc (.var 11) (.cst .none) (.blt .len [(.var 7)])) (.var 7)))) ((lrowsP h bs b.1.room).map fun p => encK p.1) = .ok (((lrowsP h bs b.1.room).filter fun p => !decide (p.1 = b.1.keys ++ [key]) && decide (p.1.take (b.1.keys ++ [key]).length = b.1.keys ++ [key])).map fun p => encK p.1) := fun _ =>
      compF_some (fun p : Ky × Nm => encK p.1) (fun p => encK p.1) (fun p => !decide (p.1 = b.1.keys ++ [key]) && decide (p.1.take (b.1.keys ++ [key]).length = b.1.keys ++ [key])) fun p _ => by
        have ck : cutD (encK p.1) none (some ((b.1.keys.length : Int) + 1)) = .ok (encK (p.1.take (b.1.keys.length + 1))) := cut_K p.1 (b.1.keys.length + 1)
        by_cases h1 : p.1 = b.1.keys ++ [key]
        · simp [cstep, eqD_K, h1]
        · by_cases h2 : p.1.take (b.1.keys.length + 1) = b.1.keys ++ [key]
          · simp [cstep, eqD_K, h1, len_K, ck, h2]
          · simp [cstep, eqD_K, h1, len_K, ck, h2]
    have lb2 : b.2.length ≤ 2 := by omega
    refine ⟨?_, fun b' e => ?_⟩
    · unfold lpF takenO
      have gl := goes_law (h := h) c.m b.1.room (b.1.keys ++ [key])
      have hsk := ev_lsettled n c (s := ⟨b.1.room, b.1.keys ++ [key], t⟩) gb.room
      have hsb := ev_lsettled n c gb.room
      unfold encML at hsk hsb
      have ek : encS ⟨b.1.room, b.1.keys ++ [key], t⟩ = .tuple [st b.1.room, encK (b.1.keys ++ [key]), .int t] := rfl
      rw [ek] at hsk
      simp [i1, i0, ha, hlr, hw]
      rw [cf [], R.bind_ok, eqD_keysL, R.bind_ok]
      cases hgo : goesOn (rowsP h bs b.1.room) (b.1.keys ++ [key]) with
      | true =>
        have hf : ¬ ((lrowsP h bs b.1.room).filter fun p => !decide (p.1 = b.1.keys ++ [key]) && decide (p.1.take (b.1.keys ++ [key]).length = b.1.keys ++ [key])) = [] := fun z => by
          rw [gl.mp z] at hgo
          cases hgo
        rw [decide_eq_false hf]
        simp [Turn, encML, both, encS]
      | false =>
        rw [decide_eq_true (gl.mpr hgo)]
        cases hag : aget (rowsP h bs b.1.room) (b.1.keys ++ [key]) with
        | some d =>
          have hsd : settledP h bs ⟨b.1.room, b.1.keys ++ [key], t⟩ = withDeed h b.1.room d := by unfold settledP; simp only [hag]
          rw [hsd] at hsk
          have had := add_L b.2 (withDeed h b.1.room d).2 (show _ + 1 ≤ 100000 by omega)
          simp [in_rows, lrows_get c.m, hag, i0, hsk, had, Turn, encML, both]
        | none =>
          have hsd : settledP h bs ⟨b.1.room, b.1.keys ++ [key], t⟩ = (⟨b.1.room, [], 0⟩, [.lost (b.1.keys ++ [key])]) := by unfold settledP; simp only [hag]
          rw [hsd] at hsk
          by_cases hk : b.1.keys = []
          · have had := add_L b.2 [Tel.lost (b.1.keys ++ [key])] (show _ + 1 ≤ 100000 by omega)
            have hk2 : [Tel.lost [key]] = [Tel.lost (b.1.keys ++ [key])] := by rw [hk]; rfl
            have hk1 : decide (b.1.keys = []) = true := decide_eq_true hk
            rw [if_neg (by decide), if_pos hk, hk2]
            simp only [List.map_cons, List.map_nil] at hsk had
            simp [in_rows, lrows_get c.m, hag, i0, i1, eqD_K0, hk1, hsk, had, Turn, encML, both, encS, K0]
          · have had := add_L b.2 (settledP h bs b.1).2 (by have := settled_told (h := h) (bs := bs) b.1; omega)
            have hk1 : decide (b.1.keys = []) = false := decide_eq_false hk
            rw [if_neg (by decide), if_neg hk]
            simp [in_rows, lrows_get c.m, hag, i0, i1, eqD_K0, hk1, hsb, had, Turn, both]
    · unfold lpF at e
      split at e
      · cases e
      · cases e
        rename_i hn
        obtain ⟨q1, q2⟩ := settled_good c gb
        refine ⟨q1, .inr ⟨?_, q2⟩⟩
        have := settled_told (h := h) (bs := bs) b.1
        rcases lb with lb | ⟨_, lk⟩
        · simp only [both, List.length_append]; omega
        · obtain ⟨r, hr⟩ := takenO_empty (h := h) (bs := bs) b.1 key t lk
          rw [hr] at hn
          cases hn
end KP
/-! KdL20: law k20. -/
namespace KP
open PySem hiding Env Flow
open KD
variable {h : House} {bs : List Bnd}
theorem eqv_S (s t : Sta) : PyData.eqv (encS s) (encS t) = decide (s = t) := by
  obtain ⟨a, k, i⟩ := s
  obtain ⟨b, l, j⟩ := t
  unfold encS
  simp only [PyData.eqv, PyData.eqvAll, eqv_st, eqv_K, Bool.and_true]
  rw [Bool.eq_iff_iff]
  simp
theorem flat_S (s : Sta) : Flat 2 (encS s) := Flat.tup fun x hx => by
  simp only [List.mem_cons, List.not_mem_nil, or_false] at hx
  rcases hx with rfl | rfl | rfl
  · exact (flat_st _).up (by decide)
  · exact flat_K _
  · exact ⟨by simp [KD.plain], by simp [PyData.depth]⟩
theorem eqv_T (s t : Tel) : PyData.eqv (encT s) (encT t) = decide (s = t) := by
  cases s with
  | deed d =>
    cases t with
    | deed e =>
      simp only [encT, PyData.eqv, PyData.eqvAll, eqv_st, Bool.and_true]
      rw [Bool.eq_iff_iff]
      simp
    | lost l =>
      simp only [encT, PyData.eqv, PyData.eqvAll, eqv_st]
      rfl
  | lost k =>
    cases t with
    | deed e =>
      simp only [encT, PyData.eqv, PyData.eqvAll, eqv_st]
      rfl
    | lost l =>
      simp only [encT, PyData.eqv, PyData.eqvAll, eqv_st, eqv_K, Bool.and_true]
      rw [Bool.eq_iff_iff]
      simp
theorem flat_T (t : Tel) : Flat 2 (encT t) := by
  cases t with
  | deed d =>
    refine Flat.tup fun x hx => ?_
    simp only [List.mem_cons, List.not_mem_nil, or_false] at hx
    rcases hx with rfl | rfl <;> exact (flat_st _).up (by decide)
  | lost k =>
    refine Flat.tup fun x hx => ?_
    simp only [List.mem_cons, List.not_mem_nil, or_false] at hx
    rcases hx with rfl | rfl
    · exact (flat_st _).up (by decide)
    · exact flat_K _
theorem eqD_Ts (l m : List Tel) : eqD (encTs l) (encTs m) = .ok (decide (l = m)) := eqD_map encT eqv_T flat_T (by decide) l m
theorem flat_Ts (l : List Tel) : Flat 3 (encTs l) := Flat.tup fun x hx => by
  obtain ⟨t, _, rfl⟩ := List.mem_map.mp hx
  exact flat_T t
theorem eqD_S (s t : Sta) : eqD (encS s) (encS t) = .ok (decide (s = t)) := by
  have : eqD (encS s) (encS t) = .guard (shp (encS s) && shp (encS t)) (.ok (PyData.eqv (encS s) (encS t))) := rfl
  rw [this, (flat_S s).shp (by decide), (flat_S t).shp (by decide), eqv_S]
  rfl
theorem eqD_M2 (r q : Sta × List Tel) : eqD (encM2 r) (encM2 q) = .ok (decide (r = q)) := by
  have fl : ∀ r : Sta × List Tel, shp (encM2 r) = true := fun r => (Flat.tup (k := 3) fun x hx => by
    simp only [List.mem_cons, List.not_mem_nil, or_false] at hx
    rcases hx with rfl | rfl
    · exact (flat_S _).up (by decide)
    · exact flat_Ts _).shp (by decide)
  have : eqD (encM2 r) (encM2 q) = .guard (shp (encM2 r) && shp (encM2 q)) (.ok (PyData.eqv (encM2 r) (encM2 q))) := rfl
  rw [this, fl, fl]
  have e : PyData.eqv (encM2 r) (encM2 q) = decide (r = q) := by
    unfold encM2 encTs
    simp only [PyData.eqv, PyData.eqvAll, eqv_S, eqv_map encT eqv_T, Bool.and_true]
    rw [Bool.eq_iff_iff]
    simp [Prod.ext_iff]
  rw [e]
  rfl
theorem encML_0 (r : Sta × List Tel) : ixD (encML r) (.int 0) = .ok (encS r.1) := by unfold encML; rw [ix_tup, atI_0]; rfl
theorem encML_1 (r : Sta × List Tel) : ixD (encML r) (.int 1) = .ok (.list (r.2.map encT)) := by unfold encML; rw [ix_tup, atI_1]; rfl
theorem encS_0 (s : Sta) : ixD (encS s) (.int 0) = .ok (st s.room) := by unfold encS; rw [ix_tup, atI_0]; rfl
theorem encS_1 (s : Sta) : ixD (encS s) (.int 1) = .ok (encK s.keys) := by unfold encS; rw [ix_tup, atI_1]; rfl
theorem encS_2 (s : Sta) : ixD (encS s) (.int 2) = .ok (.int s.since) := by unfold encS; rw [ix_tup, atI_2]; rfl
@[simp] theorem max2_int (i j : Int) : bltD .max2 [.int i, .int j] = .ok (.int (if j > i then j else i)) := rfl
/-- what the scripts make -/
theorem cx_of {m : Int} {h : House} {bs : List Bnd} (h1 : HouseOk m h) (k1 : MapOk h bs) (hl : bs.length < 64) : CX h bs := ⟨house_good h1, map_good k1 hl, fun b hb => Nat.le_trans (k1.each b hb).len.2 (by decide), fun w hw => by
  obtain ⟨r, hr, e⟩ := h1.ways w hw
  exact List.mem_map.mpr ⟨r, hr, e⟩, h1.ne⟩
end KP
/-! KdL22: law k22. -/
namespace KP
open PySem hiding Env Flow
open KD
section
variable {h : House} {bs : List Bnd}
theorem settled_empty (s : Sta) : (settledP h bs s).1.keys = [] := by
  unfold settledP
  cases aget (rowsP h bs s.room) s.keys <;> rfl
theorem pass_none {wait t : Int} {s : Sta} (hs : s.keys = []) : passedP h bs wait s t = (s, []) := by
  unfold passedP
  rw [if_neg fun z => z.1 hs]
theorem pass_twice (wait t : Int) (s : Sta) : passedP h bs wait (passedP h bs wait s t).1 t = ((passedP h bs wait s t).1, []) := by
  by_cases hq : s.keys ≠ [] ∧ s.since + wait ≤ t
  · refine pass_none ?_
    unfold passedP
    rw [if_pos hq]
    exact settled_empty s
  · have e : passedP h bs wait s t = (s, []) := by unfold passedP; rw [if_neg hq]
    rw [e, e]
theorem press_end (wait t : Int) (s : Sta) (key : Nm) : pressedP h bs wait (passedP h bs wait s t).1 key t = takenP h bs (passedP h bs wait s t).1 key t := by
  unfold pressedP
  rw [pass_twice]
  unfold both
  rw [List.nil_append]
theorem pass_settles {wait t : Int} {s : Sta} (hs : s.keys ≠ [] → s.since + wait ≤ t) : (passedP h bs wait s t).1.keys = [] ∧ passedP h bs wait s t = if s.keys = [] then (s, []) else settledP h bs s := by
  by_cases hk : s.keys = []
  · rw [pass_none hk, if_pos hk]
    exact ⟨hk, rfl⟩
  · unfold passedP
    rw [if_pos ⟨hk, hs hk⟩, if_neg hk]
    exact ⟨settled_empty s, rfl⟩
theorem since_press (wait : Int) (s : Sta) (key : Nm) (t : Int) : (pressedP h bs wait s key t).1.keys ≠ [] → (pressedP h bs wait s key t).1.since = t := by
  unfold pressedP both takenP
  have one : ∀ (s : Sta) r, takenO h bs s key t = some r → r.1.keys ≠ [] → r.1.since = t := fun s r hr => by
    unfold takenO at hr
    split at hr
    · cases hr; exact fun _ => rfl
    · split at hr
      · cases hr; exact fun z => absurd rfl z
      · split at hr
        · cases hr; exact fun z => absurd rfl z
        · cases hr
  cases hr : takenO h bs (passedP h bs wait s t).1 key t with
  | some r => exact one _ r hr
  | none =>
    obtain ⟨r, hr2⟩ := takenO_empty (h := h) (bs := bs) (settledP h bs (passedP h bs wait s t).1).1 key t (settled_empty _)
    simp only [both, hr2, Option.getD_some]
    exact one _ r hr2
theorem pressL_app (wait : Int) (l m : List (Nm × Int)) (r : Sta × List Tel) : pressL h bs wait (l ++ m) r = pressL h bs wait m (pressL h bs wait l r) := List.foldl_append ..
theorem pressL_pre (wait : Int) : ∀ (l : List (Nm × Int)) (r : Sta × List Tel), r.2 <+: (pressL h bs wait l r).2
  | [], r => List.prefix_refl _
  | p :: l, r => by
    have := pressL_pre wait l (both r (pressedP h bs wait r.1 p.1 p.2))
    exact (List.prefix_append _ _).trans this
/-- later by some: the same but for the times -/
def Later (by_ : Int) (s t : Sta) : Prop := s.room = t.room ∧ s.keys = t.keys ∧ (s.keys ≠ [] → t.since = s.since + by_)
theorem later_settled {by_ : Int} {s t : Sta} (e : Later by_ s t) : settledP h bs s = settledP h bs t := by
  unfold settledP
  rw [e.1, e.2.1]
theorem later_passed {by_ : Int} (wait x : Int) {s t : Sta} (e : Later by_ s t) : Later by_ (passedP h bs wait s x).1 (passedP h bs wait t (x + by_)).1 ∧ (passedP h bs wait s x).2 = (passedP h bs wait t (x + by_)).2 := by
  by_cases hk : s.keys = []
  · rw [pass_none hk, pass_none (by rw [← e.2.1]; exact hk)]
    exact ⟨e, rfl⟩
  · have hk' : t.keys ≠ [] := by rw [← e.2.1]; exact hk
    have hs := e.2.2 hk
    unfold passedP
    by_cases hx : s.since + wait ≤ x
    · rw [if_pos ⟨hk, hx⟩, if_pos ⟨hk', by omega⟩, later_settled e]
      exact ⟨⟨rfl, rfl, fun z => absurd (settled_empty t) z⟩, rfl⟩
    · rw [if_neg fun z => hx z.2, if_neg fun z => hx (by omega)]
      exact ⟨e, rfl⟩
theorem later_takenO {by_ : Int} (key : Nm) (x : Int) {s t : Sta} (e : Later by_ s t) : (takenO h bs s key x = none ∧ takenO h bs t key (x + by_) = none) ∨ ∃ r q, takenO h bs s key x = some r ∧ takenO h bs t key (x + by_) = some q ∧ Later by_ r.1 q.1 ∧ r.2 = q.2 := by
  unfold takenO
  rw [← e.1, ← e.2.1]
  by_cases hg : goesOn (rowsP h bs s.room) (s.keys ++ [key]) = true
  · rw [if_pos hg, if_pos hg]
    exact .inr ⟨_, _, rfl, rfl, ⟨rfl, rfl, fun _ => rfl⟩, rfl⟩
  · rw [if_neg hg, if_neg hg]
    cases aget (rowsP h bs s.room) (s.keys ++ [key]) with
    | some d => exact .inr ⟨_, _, rfl, rfl, ⟨rfl, rfl, fun z => absurd rfl z⟩, rfl⟩
    | none =>
      by_cases hk : s.keys = []
      · simp only [hk, if_true]
        exact .inr ⟨_, _, rfl, rfl, ⟨rfl, rfl, fun z => absurd rfl z⟩, rfl⟩
      · simp only [hk, if_false]
        exact .inl ⟨trivial, trivial⟩
theorem later_pressed {by_ : Int} (wait : Int) (key : Nm) (x : Int) {s t : Sta} (e : Later by_ s t) : Later by_ (pressedP h bs wait s key x).1 (pressedP h bs wait t key (x + by_)).1 ∧ (pressedP h bs wait s key x).2 = (pressedP h bs wait t key (x + by_)).2 := by
  obtain ⟨p1, p2⟩ := later_passed (h := h) (bs := bs) wait x e
  unfold pressedP
  revert p1 p2
  generalize passedP h bs wait s x = u
  generalize passedP h bs wait t (x + by_) = v
  intro p1 p2
  have tk : Later by_ (takenP h bs u.1 key x).1 (takenP h bs v.1 key (x + by_)).1 ∧ (takenP h bs u.1 key x).2 = (takenP h bs v.1 key (x + by_)).2 := by
    unfold takenP
    rcases later_takenO (h := h) (bs := bs) key x p1 with ⟨e1, e2⟩ | ⟨r, q, e1, e2, e3, e4⟩
    · rw [e1, e2, later_settled p1]
      rcases later_takenO (h := h) (bs := bs) (by_ := by_) key x (s := (settledP h bs v.1).1) (t := (settledP h bs v.1).1) ⟨rfl, rfl, fun z => absurd (settled_empty _) z⟩ with ⟨f1, _⟩ | ⟨r, q, f1, f2, f3, f4⟩
      · obtain ⟨r, hr⟩ := takenO_empty (h := h) (bs := bs) (settledP h bs v.1).1 key x (settled_empty _)
        rw [hr] at f1
        cases f1
      · simp only [f1, f2, both, Option.getD_some, f4]
        exact ⟨f3, trivial⟩
    · rw [e1, e2]
      exact ⟨e3, e4⟩
  exact ⟨tk.1, by simp only [both, p2, tk.2]⟩
theorem later_run (wait by_ : Int) (l : List (Nm × Int)) : runP h bs wait (l.map fun p => (p.1, p.2 + by_)) = runP h bs wait l := by
  have all : ∀ (l : List (Nm × Int)) (r q : Sta × List Tel), Later by_ r.1 q.1 → r.2 = q.2 → Later by_ (pressL h bs wait l r).1 (pressL h bs wait (l.map fun p => (p.1, p.2 + by_)) q).1 ∧ (pressL h bs wait l r).2 = (pressL h bs wait (l.map fun p => (p.1, p.2 + by_)) q).2 := by
    intro l
    induction l with
    | nil => exact fun r q e e2 => ⟨e, e2⟩
    | cons p l ih =>
      intro r q e e2
      obtain ⟨p1, p2⟩ := later_pressed (h := h) (bs := bs) wait p.1 p.2 e
      exact ih (both r (pressedP h bs wait r.1 p.1 p.2)) (both q (pressedP h bs wait q.1 p.1 (p.2 + by_))) p1 (by simp only [both, e2, p2])
  obtain ⟨e1, e2⟩ := all l (beginP h, []) (beginP h, []) ⟨rfl, rfl, fun z => absurd rfl z⟩ rfl
  unfold runP
  dsimp only
  rw [← e2]
  congr 1
  obtain ⟨_, q1⟩ := pass_settles (h := h) (bs := bs) (wait := wait) (s := (pressL h bs wait (l.map fun p => (p.1, p.2 + by_)) (beginP h, [])).1) (fun _ => Int.le_refl _)
  obtain ⟨_, q2⟩ := pass_settles (h := h) (bs := bs) (wait := wait) (s := (pressL h bs wait l (beginP h, [])).1) (fun _ => Int.le_refl _)
  rw [q1, q2, e1.2.1, later_settled e1]
  split <;> rfl
end
theorem encM2_0 (r : Sta × List Tel) : ixD (encM2 r) (.int 0) = .ok (encS r.1) := by unfold encM2; rw [ix_tup, atI_0]; rfl
theorem encM2_1 (r : Sta × List Tel) : ixD (encM2 r) (.int 1) = .ok (encTs r.2) := by unfold encM2; rw [ix_tup, atI_1]; rfl
theorem cut_Ts (l : List Tel) (k : Nat) : cutD (encTs l) none (some (k : Int)) = .ok (encTs (l.take k)) := by
  unfold encTs
  rw [cut_tup, cut_take, List.map_take]
theorem len_Ts (l : List Tel) : bltD .len [encTs l] = .ok (.int l.length) := by unfold encTs; rw [len_tup, List.length_map]
theorem cut_Ps (l : List (Nm × Int)) (k : Nat) : cutD (encPs l) none (some (k : Int)) = .ok (encPs (l.take k)) := by
  unfold encPs
  rw [cut_tup, cut_take, List.map_take]
theorem eqD_M2' (r : Sta × List Tel) (s : Sta) : eqD (encM2 r) (.tuple [encS s, .tuple []]) = .ok (decide (r = (s, []))) := eqD_M2 r (s, [])
theorem eqD_Ts0 (l : List Tel) : eqD (encTs l) (.tuple []) = .ok (decide (l = [])) := eqD_Ts l []
end KP
/-! KdClash: binds left out, clashes, of no use. -/
namespace KP
open PySem hiding Env Flow
open KD
variable {h : House} {bs : List Bnd}
/-! pairs of numbers as keys -/
abbrev NN := Nat × Nat
def encNN (p : NN) : D := .tuple [.int p.1, .int p.2]
def kNN (p : NN) : NestedKey := .tup [.num p.1, .num p.2]
theorem key_NN (p : NN) : keyOf (encNN p) = some (kNN p) := by simp [encNN, keyOf, keysOf, kNN]
theorem kNN_inj (a b : NN) (h : kNN a = kNN b) : a = b := by
  unfold kNN at h
  simp only [NestedKey.tup.injEq, List.cons.injEq, NestedKey.num.injEq, and_true] at h
  exact Prod.ext (by omega) (by omega)
def ENN : KE NN := ⟨encNN, kNN, 1, key_NN, kNN_inj, fun a => rfl, by decide, fun a => by simp [kNN, NestedKey.depth, NestedKey.depthAll]⟩
theorem alike_NN (a b : NN) : W.alike (encNN a) (encNN b) = true := by simp [encNN, W.alike, W.alikeAll]
theorem flat_NN (a : NN) : Flat 1 (encNN a) := Flat.tup fun x hx => by
  simp only [List.mem_cons, List.not_mem_nil, or_false] at hx
  rcases hx with rfl | rfl <;> exact ⟨by simp [KD.plain], by simp [PyData.depth]⟩
theorem sortable_NN (l : List NN) : sortable (l.map encNN) = true := by
  unfold sortable alikes
  simp only [Bool.and_eq_true, Bool.or_eq_true, List.all_eq_true, List.mem_map]
  refine ⟨⟨?_, .inl ?_⟩, ?_⟩
  · rintro _ ⟨a, _, rfl⟩ _ ⟨b, _, rfl⟩
    exact alike_NN a b
  · rintro _ ⟨a, ha, rfl⟩
    rfl
  · rintro _ ⟨a, _, rfl⟩
    exact (flat_NN a).shp (by decide)
theorem eqv_NN (p q : NN) : PyData.eqv (encNN p) (encNN q) = decide (p = q) := by
  simp only [encNN, PyData.eqv, PyData.eqvAll, Bool.and_true]
  rw [Bool.eq_iff_iff]
  simp [Prod.ext_iff, Int.ofNat_inj]
theorem leNN_antisymm {a b : NN} (h1 : leE encNN a b = true) (h2 : leE encNN b a = true) : a = b := by
  unfold leE leqD at h1 h2
  rw [Bool.not_eq_true'] at h1 h2
  have := lt_same (key_NN a) (key_NN b) (alike_NN a b) h2 h1
  unfold encNN at this
  simp only [PyData.tuple.injEq, List.cons.injEq, PyData.int.injEq, and_true] at this
  exact Prod.ext (by omega) (by omega)
/-- sorted lists of the same pairs -/
theorem sortNN {l m : List NN} (h1 : l.Nodup) (h2 : m.Nodup) (e : ∀ p, p ∈ l ↔ p ∈ m) : l.mergeSort (leE encNN) = m.mergeSort (leE encNN) := by
  have pm : l.Perm m := (List.perm_ext_iff_of_nodup h1 h2).mpr e
  refine sorted_one (((List.mergeSort_perm l _).trans pm).trans (List.mergeSort_perm m _).symm) (List.pairwise_mergeSort (leE_trans encNN) (leE_total encNN) l) (List.pairwise_mergeSort (leE_trans encNN) (leE_total encNN) m) fun a _ b _ q1 q2 => leNN_antisymm q1 q2
/-! binds left out -/
def withoutP (bs : List Bnd) (ns : List Nat) : List Bnd := (bs.zipIdx.filter fun p => !decide (p.2 ∈ ns)).map (·.1)
theorem in_nums (k : Nat) (ns : List Nat) : inD (.int k) (.tuple (ns.map encI)) = .ok (decide (k ∈ ns)) := by
  have e : inD (.int k) (.tuple (ns.map encI)) = R.guard (shp (.int k) && shp (.tuple (ns.map encI))) (.ok ((ns.map encI).any fun z => PyData.eqv z (.int k))) := rfl
  rw [e, shp_int, (Flat.tup (k := 0) (xs := ns.map encI) fun x hx => by
    obtain ⟨a, _, rfl⟩ := List.mem_map.mp hx
    exact ⟨by simp [KD.plain], by simp [PyData.depth]⟩).shp (by decide)]
  show R.ok _ = _
  congr 1
  rw [List.any_map, Bool.eq_iff_iff, List.any_eq_true, decide_eq_true_eq]
  constructor
  · rintro ⟨b, hb, e⟩
    have e : PyData.eqv (.int b) (.int k) = true := e
    simp only [PyData.eqv, beq_iff_eq] at e
    have : b = k := by omega
    exact this ▸ hb
  · intro hm
    exact ⟨k, hm, by show PyData.eqv (.int k) (.int k) = true; simp [PyData.eqv]⟩
theorem ev_without (n : Nat) (bs : List Bnd) (ns : List Nat) : evFn PP WF (n + 1) 67 [encM bs, .tuple (ns.map encI)] = .ok (encM (withoutP bs ns)) := by
  have := ev_open (n := n) (f := 67) (fn := f67_without) (ds := [encM bs, .tuple (ns.map encI)]) rfl rfl
  unfold Ev at this
  rw [this]
  simp [f67_without, eM]
  rw [compF_some (fun p : Bnd × Nat => PyData.tuple [.int p.2, encB p.1]) (fun p => encB p.1) (fun p => !decide (p.2 ∈ ns)) fun p _ => by
    have hi := in_nums p.2 ns
    by_cases hp : p.2 ∈ ns <;> simp [cstep, hi, hp]]
  simp [withoutP, encM]
theorem without_sub (bs : List Bnd) (ns : List Nat) : (withoutP bs ns).Sublist bs := by
  unfold withoutP
  have h1 : ((bs.zipIdx.filter fun p => !decide (p.2 ∈ ns)).map (·.1)).Sublist (bs.zipIdx.map (·.1)) := List.filter_sublist.map _
  rw [List.zipIdx_map_fst] at h1
  exact h1
theorem MG.sub {cs : List Bnd} (m : MG bs) (s : cs.Sublist bs) : MG cs := ⟨Nat.lt_of_le_of_lt s.length_le m.len, fun b hb => m.ne b (s.subset hb), (s.map _).nodup m.once⟩
theorem CX.sub {cs : List Bnd} (c : CX h bs) (s : cs.Sublist bs) : CX h cs := ⟨c.ok, c.m.sub s, fun b hb => c.kl b (s.subset hb), c.wy, c.ne⟩
/-! who holds in a room and tells something -/
def holdsAt (h : House) (bs : List Bnd) (a : Nm) (p : Bnd × Nat) : Bool := p.1.deed.isSome && decide (holderP h bs a p.1.keys = some p.2)
def holdIn (h : House) (bs : List Bnd) (a : Nm) : List Nat := (bs.zipIdx.filter (holdsAt h bs a)).map (·.2)
theorem eqD_oi (o : Option Nat) (k : Nat) : eqD (encOI o) (.int (k : Int)) = .ok (decide (o = some k)) := eqD_OI o (some k)
theorem ev_holdin (n : Nat) (ok : HG h) (hb : bs.length ≤ 1000) {a : Nm} (ha : a ∈ h.rooms.map (·.1)) : evFn PP WF (n + 3) 69 [encH h, encM bs, st a] = .ok (.list ((holdIn h bs a).map encI)) := by
  have := ev_open (n := n + 2) (f := 69) (fn := f69_hold_in) (ds := [encH h, encM bs, st a]) rfl rfl
  unfold Ev at this
  rw [this]
  have hh := fun ks => ev_holder n ok hb ha ks
  simp [f69_hold_in, eM]
  rw [compF_some (fun p : Bnd × Nat => PyData.tuple [.int p.2, encB p.1]) (fun p => encI p.2) (holdsAt h bs a) fun p _ => by
    cases hd : p.1.deed with
    | none => simp [cstep, encB, holdsAt, hd, encO]
    | some d =>
      by_cases ho : holderP h bs a p.1.keys = some p.2
      · simp [cstep, encB, holdsAt, hd, encO, hh, eqD_oi, ho]
      · simp [cstep, encB, holdsAt, hd, encO, hh, eqD_oi, ho]]
  simp [holdIn]
theorem holdIn_mem {a : Nm} {i : Nat} : i ∈ holdIn h bs a ↔ ∃ b, bs[i]? = some b ∧ b.deed.isSome = true ∧ holderP h bs a b.keys = some i := by
  unfold holdIn
  rw [List.mem_map]
  constructor
  · rintro ⟨⟨b, j⟩, hp, rfl⟩
    rw [List.mem_filter, List.mem_zipIdx_iff_getElem?] at hp
    obtain ⟨h1, h2⟩ := hp
    unfold holdsAt at h2
    rw [Bool.and_eq_true, decide_eq_true_eq] at h2
    exact ⟨b, h1, h2.1, h2.2⟩
  · rintro ⟨b, h1, h2, h3⟩
    refine ⟨(b, i), List.mem_filter.mpr ⟨List.mem_zipIdx_iff_getElem?.mpr h1, ?_⟩, rfl⟩
    unfold holdsAt
    rw [Bool.and_eq_true, decide_eq_true_eq]
    exact ⟨h2, h3⟩
theorem holdIn_lt {a : Nm} {i : Nat} (hi : i ∈ holdIn h bs a) : i < bs.length := by
  obtain ⟨b, h1, _⟩ := holdIn_mem.mp hi
  exact (List.getElem?_eq_some_iff.mp h1).1
theorem holdIn_len {a : Nm} : (holdIn h bs a).length ≤ bs.length := by
  unfold holdIn
  rw [List.length_map]
  refine Nat.le_trans (List.length_filter_le _ _) ?_
  rw [List.length_zipIdx]
  exact Nat.le_refl _
/-! clashes -/
def preK (m y : Ky) : Bool := decide (m.length < y.length) && decide (y.take m.length = m)
def ksAt (bs : List Bnd) (i : Nat) : Ky := ((bs[i]?).map (·.keys)).getD []
abbrev DU := List (NN × Unit)
def clIn (bs : List Bnd) (i : Nat) (js : List Nat) (l : DU) : DU := js.foldl (fun l j => if preK (ksAt bs i) (ksAt bs j) = true then aset l (i, j) () else l) l
def clMid (bs : List Bnd) (is js : List Nat) (l : DU) : DU := is.foldl (fun l i => clIn bs i js l) l
def clD (h : House) (bs : List Bnd) : DU := h.rooms.foldl (fun l r => clMid bs (holdIn h bs r.1) (holdIn h bs r.1) l) []
theorem keys_aset {κ β : Type} [DecidableEq κ] {l : List (κ × β)} {a c : κ} {b : β} : c ∈ (aset l a b).map (·.1) ↔ c = a ∨ c ∈ l.map (·.1) := by
  by_cases z : a ∈ l.map (·.1)
  · rw [aset_keys z]
    exact ⟨.inr, fun e => e.elim (fun e => e ▸ z) id⟩
  · rw [aset_new z, List.map_append, List.mem_append]
    simp only [List.map_cons, List.map_nil, List.mem_singleton]
    exact Or.comm
theorem clIn_len (bs : List Bnd) (i : Nat) : ∀ (js : List Nat) (l : DU), (clIn bs i js l).length ≤ l.length + js.length
  | [], l => Nat.le_refl _
  | j :: js, l => by
    unfold clIn
    rw [List.foldl_cons]
    refine Nat.le_trans (clIn_len bs i js _) ?_
    rw [List.length_cons]
    split
    · have := len_aset (l := l) (a := (i, j)) (b := ())
      omega
    · omega
theorem clMid_len (bs : List Bnd) (js : List Nat) : ∀ (is : List Nat) (l : DU), (clMid bs is js l).length ≤ l.length + is.length * js.length
  | [], l => by simp [clMid]
  | i :: is, l => by
    unfold clMid
    rw [List.foldl_cons]
    refine Nat.le_trans (clMid_len bs js is _) ?_
    have := clIn_len bs i js l
    rw [List.length_cons, Nat.succ_mul]
    omega
theorem clIn_ok (bs : List Bnd) (i : Nat) : ∀ (js : List Nat) (l : DU), ((l.map (·.1)).Nodup → ((clIn bs i js l).map (·.1)).Nodup) ∧ ∀ p, p ∈ (clIn bs i js l).map (·.1) ↔ p ∈ l.map (·.1) ∨ (p.1 = i ∧ p.2 ∈ js ∧ preK (ksAt bs i) (ksAt bs p.2) = true)
  | [], l => ⟨id, fun p => ⟨.inl, fun z => z.elim id fun z => nomatch z.2.1⟩⟩
  | j :: js, l => by
    have e : clIn bs i (j :: js) l = clIn bs i js (if preK (ksAt bs i) (ksAt bs j) = true then aset l (i, j) () else l) := rfl
    rw [e]
    obtain ⟨h1, h2⟩ := clIn_ok bs i js (if preK (ksAt bs i) (ksAt bs j) = true then aset l (i, j) () else l)
    by_cases hp : preK (ksAt bs i) (ksAt bs j) = true
    · rw [if_pos hp] at h1 h2 ⊢
      refine ⟨fun nd => h1 (aset_nodup nd), fun p => ?_⟩
      rw [h2, keys_aset]
      constructor
      · rintro ((rfl | q) | ⟨q1, q2, q3⟩)
        · exact .inr ⟨rfl, List.mem_cons_self, hp⟩
        · exact .inl q
        · exact .inr ⟨q1, List.mem_cons_of_mem _ q2, q3⟩
      · rintro (q | ⟨q1, q2, q3⟩)
        · exact .inl (.inr q)
        · rcases List.mem_cons.mp q2 with q2 | q2
          · exact .inl (.inl (Prod.ext q1 q2))
          · exact .inr ⟨q1, q2, q3⟩
    · rw [if_neg hp] at h1 h2 ⊢
      refine ⟨h1, fun p => ?_⟩
      rw [h2]
      constructor
      · rintro (q | ⟨q1, q2, q3⟩)
        · exact .inl q
        · exact .inr ⟨q1, List.mem_cons_of_mem _ q2, q3⟩
      · rintro (q | ⟨q1, q2, q3⟩)
        · exact .inl q
        · rcases List.mem_cons.mp q2 with q2 | q2
          · rw [q2] at q3
            exact absurd q3 hp
          · exact .inr ⟨q1, q2, q3⟩
theorem clMid_ok (bs : List Bnd) (js : List Nat) : ∀ (is : List Nat) (l : DU), ((l.map (·.1)).Nodup → ((clMid bs is js l).map (·.1)).Nodup) ∧ ∀ p, p ∈ (clMid bs is js l).map (·.1) ↔ p ∈ l.map (·.1) ∨ (p.1 ∈ is ∧ p.2 ∈ js ∧ preK (ksAt bs p.1) (ksAt bs p.2) = true)
  | [], l => ⟨id, fun p => ⟨.inl, fun z => z.elim id fun z => nomatch z.1⟩⟩
  | i :: is, l => by
    have e : clMid bs (i :: is) js l = clMid bs is js (clIn bs i js l) := rfl
    rw [e]
    obtain ⟨h1, h2⟩ := clMid_ok bs js is (clIn bs i js l)
    obtain ⟨h3, h4⟩ := clIn_ok bs i js l
    refine ⟨fun nd => h1 (h3 nd), fun p => ?_⟩
    rw [h2, h4]
    constructor
    · rintro ((q | ⟨q1, q2, q3⟩) | ⟨q1, q2, q3⟩)
      · exact .inl q
      · exact .inr ⟨by rw [q1]; exact List.mem_cons_self, q2, by rw [q1]; exact q3⟩
      · exact .inr ⟨List.mem_cons_of_mem _ q1, q2, q3⟩
    · rintro (q | ⟨q1, q2, q3⟩)
      · exact .inl (.inl q)
      · rcases List.mem_cons.mp q1 with q1 | q1
        · exact .inl (.inr ⟨q1, q2, by rw [← q1]; exact q3⟩)
        · exact .inr ⟨q1, q2, q3⟩
def Clash (h : House) (bs : List Bnd) (p : NN) : Prop := ∃ r ∈ h.rooms, p.1 ∈ holdIn h bs r.1 ∧ p.2 ∈ holdIn h bs r.1 ∧ preK (ksAt bs p.1) (ksAt bs p.2) = true
theorem clD_ok (h : House) (bs : List Bnd) : ((clD h bs).map (·.1)).Nodup ∧ ∀ p, p ∈ (clD h bs).map (·.1) ↔ Clash h bs p := by
  have : ∀ (rs : List (Nm × Option Nm)) (l : DU), ((l.map (·.1)).Nodup → ((rs.foldl (fun l r => clMid bs (holdIn h bs r.1) (holdIn h bs r.1) l) l).map (·.1)).Nodup) ∧ ∀ p, p ∈ (rs.foldl (fun l r => clMid bs (holdIn h bs r.1) (holdIn h bs r.1) l) l).map (·.1) ↔ p ∈ l.map (·.1) ∨ ∃ r ∈ rs, p.1 ∈ holdIn h bs r.1 ∧ p.2 ∈ holdIn h bs r.1 ∧ preK (ksAt bs p.1) (ksAt bs p.2) = true := by
    intro rs
    induction rs with
    | nil => exact fun l => ⟨id, fun p => ⟨.inl, fun z => z.elim id fun ⟨_, z, _⟩ => nomatch z⟩⟩
    | cons r rs ih =>
      intro l
      rw [List.foldl_cons]
      obtain ⟨h1, h2⟩ := ih (clMid bs (holdIn h bs r.1) (holdIn h bs r.1) l)
      obtain ⟨h3, h4⟩ := clMid_ok bs (holdIn h bs r.1) (holdIn h bs r.1) l
      refine ⟨fun nd => h1 (h3 nd), fun p => ?_⟩
      rw [h2, h4]
      constructor
      · rintro ((q | q) | ⟨s, hs, q⟩)
        · exact .inl q
        · exact .inr ⟨r, List.mem_cons_self, q⟩
        · exact .inr ⟨s, List.mem_cons_of_mem _ hs, q⟩
      · rintro (q | ⟨s, hs, q⟩)
        · exact .inl (.inl q)
        · rcases List.mem_cons.mp hs with rfl | hs
          · exact .inl (.inr q)
          · exact .inr ⟨s, hs, q⟩
  obtain ⟨h1, h2⟩ := this h.rooms []
  exact ⟨h1 List.nodup_nil, fun p => (h2 p).trans ⟨fun z => z.elim (fun z => nomatch z) id, .inr⟩⟩
def clashesP (h : House) (bs : List Bnd) : List NN := ((clD h bs).map (·.1)).mergeSort (leE encNN)
theorem clashes_mem {p : NN} : p ∈ clashesP h bs ↔ Clash h bs p := by
  unfold clashesP
  rw [(List.mergeSort_perm _ _).mem_iff]
  exact (clD_ok h bs).2 p
theorem clashes_nodup : (clashesP h bs).Nodup := (List.mergeSort_perm _ _).nodup_iff.mpr (clD_ok h bs).1
theorem clashes_ext {h' : House} {bs' : List Bnd} (e : ∀ p, Clash h bs p ↔ Clash h' bs' p) : clashesP h bs = clashesP h' bs' := sortNN (clD_ok h bs).1 (clD_ok h' bs').1 fun p => by rw [(clD_ok h bs).2, (clD_ok h' bs').2, e]
theorem ksAt_ix {i : Nat} (hi : i < bs.length) : ixD (encB bs[i]) (.int 1) = .ok (encK (ksAt bs i)) := by
  unfold encB ksAt
  rw [ix_tup, atI_1, List.getElem?_eq_getElem hi]
  rfl
theorem ev_clashes (n : Nat) (c : CX h bs) : evFn PP WF (n + 4) 70 [encH h, encM bs] = .ok (.tuple ((clashesP h bs).map encNN)) := by
  have := ev_open (n := n + 3) (f := 70) (fn := f70_clashes) (ds := [encH h, encM bs]) rfl rfl
  unfold Ev at this
  rw [this]
  have m := c.m
  have hl := m.len
  have hr := c.ok.len
  have hho := fun a ha => ev_holdin n c.ok (bs := bs) (by omega) (a := a) ha
  have hput : ∀ (i : Nat) (l : DU) (x y : Nat) (ρ : KD.Env) (h : l.length < 1000000), putK i (kvs ENN (fun _ : Unit => PyData.bool true) l) (.tuple [.int x, .int y]) (.bool true) ρ = .ok (.nx (ρ.set i (some (.own (dD ENN (fun _ : Unit => PyData.bool true) (aset l (x, y) ())))))) := fun i l x y ρ h => put_d (E := ENN) (ev := fun _ : Unit => PyData.bool true) i l (x, y) () ρ h
  simp [f70_clashes, H0, KD.fresh, dputs, isCont, dictOk]
  refine bind_foldI (P := fun r : R D => r = .ok (.tuple ((clashesP h bs).map encNN))) encR (fun l : DU => [some (.val (encH h)), some (.val (encM bs)), some (.own (dD ENN (fun _ : Unit => PyData.bool true) l)), none, none, none, none, none, none, none])
    (fun r l => clMid bs (holdIn h bs r.1) (holdIn h bs r.1) l) (fun i l => l.length ≤ i * 4096) [] (Nat.le_refl _) (fun i r hir l hlen => ?_) fun _ => ?_
  · have hi := (List.getElem?_eq_some_iff.mp hir).1
    have hin : r.1 ∈ h.rooms.map (·.1) := List.mem_map.mpr ⟨r, List.mem_of_getElem? hir, rfl⟩
    have hol := holdIn_len (h := h) (bs := bs) (a := r.1)
    have hsq : (holdIn h bs r.1).length * (holdIn h bs r.1).length ≤ 64 * 64 := Nat.mul_le_mul (by omega) (by omega)
    refine ⟨?_, by have := clMid_len bs (holdIn h bs r.1) (holdIn h bs r.1) l; omega⟩
    simp [fstep, encR, hho _ hin]
    refine bind_foldI (P := OkNx _) encI (fun l : DU => [some (.val (encH h)), some (.val (encM bs)), some (.own (dD ENN (fun _ : Unit => PyData.bool true) l)), some (.val (st r.1)), some (.val (encO r.2)), some (.val (.list ((holdIn h bs r.1).map encI))), none, none, none, none])
      (fun x l => clIn bs x (holdIn h bs r.1) l) (fun k l' => l'.length ≤ l.length + k * 64) l (by omega) (fun k x hk l' hl' => ?_) fun _ => ?_
    · have hk2 := (List.getElem?_eq_some_iff.mp hk).1
      have hx : x < bs.length := holdIn_lt (List.mem_of_getElem? hk)
      refine ⟨?_, by have := clIn_len bs x (holdIn h bs r.1) l'; omega⟩
      simp [fstep]
      refine bind_foldI (P := OkNx _) encI (fun l : DU => [some (.val (encH h)), some (.val (encM bs)), some (.own (dD ENN (fun _ : Unit => PyData.bool true) l)), some (.val (st r.1)), some (.val (encO r.2)), some (.val (.list ((holdIn h bs r.1).map encI))), some (.val (.int x)), none, none, none])
        (fun y l => if preK (ksAt bs x) (ksAt bs y) = true then aset l (x, y) () else l) (fun q l'' => l''.length ≤ l'.length + q) l' (by omega) (fun q y hq l'' hl'' => ?_) fun _ => ?_
      · have hq2 := (List.getElem?_eq_some_iff.mp hq).1
        have hy : y < bs.length := holdIn_lt (List.mem_of_getElem? hq)
        have hsm : l''.length < 1000000 := by
          have : i * 4096 ≤ 100 * 4096 := Nat.mul_le_mul_right _ (by omega)
          have : k * 64 ≤ 64 * 64 := Nat.mul_le_mul_right _ (by omega)
          omega
        have ix := bind_ix hx
        have iy := bind_ix hy
        have kx := ksAt_ix hx
        have ky := ksAt_ix hy
        refine ⟨?_, ?_⟩
        · unfold preK
          by_cases h1 : (ksAt bs x).length < (ksAt bs y).length
          · by_cases h2 : (ksAt bs y).take (ksAt bs x).length = ksAt bs x
            · simp [fstep, ix, iy, kx, ky, len_K, h1, cut_K, h2, eqD_K, dD, hput, hsm]
            · simp [fstep, ix, iy, kx, ky, len_K, h1, cut_K, h2, eqD_K]
          · simp [fstep, ix, iy, kx, ky, len_K, h1]
        · have := len_aset (l := l'') (a := (x, y)) (b := ())
          split <;> omega
      · simp [clIn]
    · simp [clMid]
  · have hs : bltD .sorted [dD ENN (fun _ : Unit => PyData.bool true) (clD h bs)] = .ok (.list ((clashesP h bs).map encNN)) := by
      rw [sortedD, show (clD h bs).map (fun p => ENN.ek p.1) = ((clD h bs).map (·.1)).map encNN by rw [List.map_map]; rfl]
      exact sort_enc encNN (sortable_NN _)
    have e : (h.rooms.foldl (fun l r => clMid bs (holdIn h bs r.1) (holdIn h bs r.1) l) []) = clD h bs := rfl
    rw [e]
    simp [hs]
/-! of no use -/
def allRows (h : House) (bs : List Bnd) : List (List (Ky × Nm)) := h.rooms.map fun r => rowsP h bs r.1
def uselessP (h : House) (bs : List Bnd) : List Nat := (List.range bs.length).filter fun i => decide (allRows h (withoutP bs [i]) = allRows h bs)
theorem eqv_Rows (l m : List (Ky × Nm)) : PyData.eqv (encRows l) (encRows m) = decide (l = m) := by
  unfold encRows
  rw [PyData.eqv, eqv_map encRow eqv_Row]
theorem flat_Rows (l : List (Ky × Nm)) : Flat 3 (encRows l) := Flat.tup fun x hx => by
  obtain ⟨a, _, rfl⟩ := List.mem_map.mp hx
  exact flat_Row a
theorem ev_allrows (n : Nat) (c : CX h bs) : evFn PP WF (n + 4) 71 [encH h, encM bs] = .ok (.list ((allRows h bs).map encRows)) := by
  have := ev_open (n := n + 3) (f := 71) (fn := f71_all_rows) (ds := [encH h, encM bs]) rfl rfl
  unfold Ev at this
  rw [this]
  simp [f71_all_rows, H0]
  rw [compF_all encR (fun r => encRows (rowsP h bs r.1)) fun r hr => by
    have := ev_rows n c.ok c.m.len c.m.ne (a := r.1) (List.mem_map.mpr ⟨r, hr, rfl⟩)
    simp [cstep, encR, this]]
  simp [allRows]
theorem eqD_all (l m : List (List (Ky × Nm))) : eqD (.list (l.map encRows)) (.list (m.map encRows)) = .ok (decide (l = m)) := eqD_mapL encRows eqv_Rows flat_Rows (by decide) l m
theorem ev_useless (n : Nat) (c : CX h bs) : evFn PP WF (n + 5) 72 [encH h, encM bs] = .ok (.tuple ((uselessP h bs).map encI)) := by
  have := ev_open (n := n + 4) (f := 72) (fn := f72_useless) (ds := [encH h, encM bs]) rfl rfl
  unfold Ev at this
  rw [this]
  have ha := ev_allrows n c
  have hl := c.m.len
  simp [f72_useless, ha, lenM]
  rw [guard_ok' (rng_ok (by omega) (by omega))]
  have e : ((List.range bs.length).map fun (i : Nat) => PyData.int (i : Int)) = (List.range bs.length).map encI := rfl
  rw [e, compF_some encI encI (fun i => decide (allRows h (withoutP bs [i]) = allRows h bs)) fun i _ => by
    have hw : evFn PP WF (n + 4) 67 [encM bs, .tuple [.int (i : Int)]] = .ok (encM (withoutP bs [i])) := ev_without (n + 3) bs [i]
    have hal := ev_allrows n (c.sub (without_sub bs [i]))
    by_cases q : allRows h (withoutP bs [i]) = allRows h bs <;> simp [cstep, hw, hal, eqD_all, q]]
  simp [uselessP]
end KP
/-! KdL31: without clashes nothing has to wait. -/
namespace KP
open PySem hiding Env Flow
open KD
variable {h : House} {bs : List Bnd}
theorem holder_keys {a : Nm} {ks : Ky} {i : Nat} (m : MG bs) (hh : holderP h bs a ks = some i) : ∃ b, bs[i]? = some b ∧ b.keys = ks ∧ b.room ∈ outs h a := by
  unfold holderP at hh
  obtain ⟨r, hr, e⟩ := List.exists_of_findSome?_eq_some hh
  rw [aget_book m.once] at e
  obtain ⟨b, hb, e2⟩ := Option.map_eq_some_iff.mp e
  exact ⟨b, hb, congrArg Prod.snd e2, by rw [show b.room = r from congrArg Prod.fst e2]; exact hr⟩
/-- a row is held by one that tells something -/
theorem row_held {a : Nm} {p : Ky × Nm} (m : MG bs) (hp : p ∈ rowsP h bs a) : ∃ i, i ∈ holdIn h bs a ∧ ksAt bs i = p.1 := by
  obtain ⟨_, e⟩ := rows_mem.mp hp
  unfold rowAt at e
  obtain ⟨i, hi, e⟩ := Option.bind_eq_some_iff.mp e
  obtain ⟨b, hb, e⟩ := Option.bind_eq_some_iff.mp e
  obtain ⟨b', hb', ek, _⟩ := holder_keys m hi
  rw [hb] at hb'
  cases hb'
  refine ⟨i, holdIn_mem.mpr ⟨b, hb, by rw [e]; rfl, by rw [ek]; exact hi⟩, ?_⟩
  unfold ksAt
  rw [hb]
  exact ek
theorem no_both (m : MG bs) (nc : clashesP h bs = []) {a : Nm} (ha : a ∈ h.rooms.map (·.1)) {ks : Ky} (hg : goesOn (rowsP h bs a) ks = true) : aget (rowsP h bs a) ks = none := by
  cases hd : aget (rowsP h bs a) ks with
  | none => rfl
  | some d =>
    obtain ⟨i, hi, ei⟩ := row_held m (aget_mem hd)
    unfold goesOn at hg
    obtain ⟨p, hp, e⟩ := List.any_eq_true.mp hg
    obtain ⟨j, hj, ej⟩ := row_held m hp
    obtain ⟨r, hr, er⟩ := List.mem_map.mp ha
    have : (i, j) ∈ clashesP h bs := clashes_mem.mpr ⟨r, hr, by rw [er]; exact hi, by rw [er]; exact hj, by rw [ei, ej]; exact e⟩
    rw [nc] at this
    cases this
theorem none_empty (m : MG bs) (a : Nm) : aget (rowsP h bs a) [] = none := by
  cases hd : aget (rowsP h bs a) [] with
  | none => rfl
  | some d =>
    obtain ⟨⟨b, hb, e⟩, _⟩ := rows_mem.mp (aget_mem hd)
    exact absurd e (m.ne b hb)
/-- what waits goes on -/
def Waits (h : House) (bs : List Bnd) (s : Sta) : Prop := s.keys = [] ∨ goesOn (rowsP h bs s.room) s.keys = true
theorem waits_O {s : Sta} {key : Nm} {t : Int} {r : Sta × List Tel} (hr : takenO h bs s key t = some r) : Waits h bs r.1 := by
  unfold takenO at hr
  split at hr
  · rename_i hg
    cases hr; exact .inr hg
  · split at hr
    · cases hr; exact .inl rfl
    · split at hr
      · cases hr; exact .inl rfl
      · cases hr
theorem waits_taken (s : Sta) (key : Nm) (t : Int) : Waits h bs (takenP h bs s key t).1 := by
  unfold takenP
  cases hr : takenO h bs s key t with
  | some r => exact waits_O hr
  | none =>
    obtain ⟨r, hr2⟩ := takenO_empty (h := h) (bs := bs) (settledP h bs s).1 key t (settled_empty s)
    show Waits h bs ((takenO h bs (settledP h bs s).1 key t).getD (s, [])).1
    rw [hr2]
    exact waits_O hr2
theorem waits_none (m : MG bs) (nc : clashesP h bs = []) {s : Sta} (g : GS h s) (w : Waits h bs s) : aget (rowsP h bs s.room) s.keys = none := by
  rcases w with e | e
  · rw [e]; exact none_empty m _
  · exact no_both m nc g.room e
/-! times told only by what settles -/
def er (r : Sta × List Tel) : (Nm × Ky) × List Tel := ((r.1.room, r.1.keys), r.2)
theorem er_settled {s q : Sta} (e1 : s.room = q.room) (e2 : s.keys = q.keys) : settledP h bs s = settledP h bs q := by
  unfold settledP
  rw [e1, e2]
theorem er_takenO {s q : Sta} (e1 : s.room = q.room) (e2 : s.keys = q.keys) (key : Nm) (t u : Int) : (takenO h bs s key t).map er = (takenO h bs q key u).map er := by
  unfold takenO
  rw [e1, e2]
  split
  · rfl
  · cases aget (rowsP h bs q.room) (q.keys ++ [key]) with
    | some d => rfl
    | none =>
      show Option.map er (if q.keys = [] then _ else _) = Option.map er (if q.keys = [] then _ else _)
      split <;> rfl
theorem er_taken {s q : Sta} (e1 : s.room = q.room) (e2 : s.keys = q.keys) (key : Nm) (t u : Int) : er (takenP h bs s key t) = er (takenP h bs q key u) := by
  unfold takenP
  have hO := er_takenO (h := h) (bs := bs) e1 e2 key t u
  cases hs : takenO h bs s key t with
  | some r =>
    rw [hs] at hO
    cases hq : takenO h bs q key u with
    | none => rw [hq] at hO; cases hO
    | some r' => rw [hq] at hO; exact Option.some.inj hO
  | none =>
    rw [hs] at hO
    cases hq : takenO h bs q key u with
    | some r' => rw [hq] at hO; cases hO
    | none =>
      dsimp only
      rw [er_settled e1 e2]
      have h2 := er_takenO (h := h) (bs := bs) (s := (settledP h bs q).1) (q := (settledP h bs q).1) rfl rfl key t u
      obtain ⟨r, hr⟩ := takenO_empty (h := h) (bs := bs) (settledP h bs q).1 key t (settled_empty q)
      obtain ⟨r', hr'⟩ := takenO_empty (h := h) (bs := bs) (settledP h bs q).1 key u (settled_empty q)
      rw [hr, hr'] at h2 ⊢
      have h2 := Option.some.inj h2
      unfold er at h2 ⊢
      simp only [both, Option.getD_some, Prod.mk.injEq] at h2 ⊢
      exact ⟨h2.1, by rw [h2.2]⟩
theorem pass_soon {s : Sta} {wait t : Int} (hs : s.keys ≠ [] → t < s.since + wait) : passedP h bs wait s t = (s, []) := by
  unfold passedP
  rw [if_neg fun z => absurd z.2 (by have := hs z.1; omega)]
theorem soon_press {s : Sta} {wait t : Int} (hs : s.keys ≠ [] → t < s.since + wait) (key : Nm) : pressedP h bs wait s key t = takenP h bs s key t := by
  unfold pressedP
  rw [pass_soon hs]
  rfl
def fastL (ks : List Nm) : List (Nm × Int) := ks.map fun k => (k, 0)
def slowL (g : Int) (k : Nat) (ks : List Nm) : List (Nm × Int) := (ks.zipIdx k).map fun p => (p.1, (p.2 : Int) * g)
theorem er_both {r q r' q' : Sta × List Tel} (h1 : er r = er q) (h2 : er r' = er q') : er (both r r') = er (both q q') := by
  unfold er at *
  simp only [both, Prod.mk.injEq] at *
  exact ⟨h2.1, by rw [h1.2, h2.2]⟩
theorem fast_slow {wait : Int} (hw : 1 ≤ wait) : ∀ (ks : List Nm) (k : Nat) (r q : Sta × List Tel), er r = er q → (r.1.keys ≠ [] → r.1.since = 0) → (q.1.keys ≠ [] → q.1.since + (wait - 1) = (k : Int) * (wait - 1)) →
    er (pressL h bs wait (fastL ks) r) = er (pressL h bs wait (slowL (wait - 1) k ks) q)
  | [], k, r, q, e, _, _ => e
  | key :: ks, k, r, q, e, s1, s2 => by
    have e' := e
    unfold er at e'
    simp only [Prod.mk.injEq] at e'
    have p1 := soon_press (h := h) (bs := bs) (s := r.1) (wait := wait) (t := 0) (fun z => by have := s1 z; omega) key
    have p2 := soon_press (h := h) (bs := bs) (s := q.1) (wait := wait) (t := (k : Int) * (wait - 1)) (fun z => by have := s2 z; omega) key
    have u1 := since_press (h := h) (bs := bs) wait r.1 key 0
    have u2 := since_press (h := h) (bs := bs) wait q.1 key ((k : Int) * (wait - 1))
    have e3 : er (pressedP h bs wait r.1 key 0) = er (pressedP h bs wait q.1 key ((k : Int) * (wait - 1))) := by
      rw [p1, p2]
      exact er_taken e'.1.1 e'.1.2 key 0 _
    refine fast_slow hw ks (k + 1) (both r (pressedP h bs wait r.1 key 0)) (both q (pressedP h bs wait q.1 key ((k : Int) * (wait - 1)))) (er_both e e3) u1 fun z => ?_
    have := u2 z
    show (pressedP h bs wait q.1 key ((k : Int) * (wait - 1))).1.since + _ = _
    rw [this]
    have : ((k + 1 : Nat) : Int) * (wait - 1) = (k : Int) * (wait - 1) + (wait - 1) := by
      rw [Int.natCast_add, Int.add_mul]
      simp
    rw [this]
theorem fast_run {wait : Int} (hw : 1 ≤ wait) (ks : List Nm) : runP h bs wait (fastL ks) = runP h bs wait (slowL (wait - 1) 0 ks) := by
  have e := fast_slow (h := h) (bs := bs) hw ks 0 (beginP h, []) (beginP h, []) rfl (fun z => absurd rfl z) (fun z => absurd rfl z)
  unfold runP
  dsimp only
  generalize pressL h bs wait (fastL ks) (beginP h, []) = r at e
  generalize pressL h bs wait (slowL (wait - 1) 0 ks) (beginP h, []) = q at e
  unfold er at e
  simp only [Prod.mk.injEq] at e
  obtain ⟨_, q1⟩ := pass_settles (h := h) (bs := bs) (wait := wait) (t := r.1.since + wait) (s := r.1) (fun _ => Int.le_refl _)
  obtain ⟨_, q2⟩ := pass_settles (h := h) (bs := bs) (wait := wait) (t := q.1.since + wait) (s := q.1) (fun _ => Int.le_refl _)
  rw [q1, q2, e.2, er_settled e.1.1 e.1.2, e.1.2]
  split <;> rfl
/-! no clashes at last -/
def stepC (h : House) (bs : List Bnd) : List Bnd := withoutP bs ((clashesP h bs).map (·.2))
theorem without_nil (bs : List Bnd) : withoutP bs [] = bs := by
  unfold withoutP
  have : (fun p : Bnd × Nat => !decide (p.2 ∈ ([] : List Nat))) = fun _ => true := by funext p; simp
  rw [this, List.filter_eq_self.mpr fun _ _ => rfl, List.zipIdx_map_fst]
theorem without_less {j : Nat} {ns : List Nat} (hj : j ∈ ns) (hl : j < bs.length) : (withoutP bs ns).length < bs.length := by
  unfold withoutP
  rw [List.length_map]
  have h1 : (bs.zipIdx.filter fun p => !decide (p.2 ∈ ns)).length < bs.zipIdx.length := by
    refine List.length_filter_lt_length_iff_exists.mpr ⟨(bs[j], j), List.mem_zipIdx_iff_getElem?.mpr (List.getElem?_eq_getElem hl), ?_⟩
    simp [hj]
  rw [List.length_zipIdx] at h1
  exact h1
theorem step_sub : (stepC h bs).Sublist bs := without_sub _ _
theorem step_none (nc : clashesP h bs = []) : stepC h bs = bs := by
  unfold stepC
  rw [nc]
  exact without_nil bs
theorem step_less (nc : clashesP h bs ≠ []) : (stepC h bs).length < bs.length := by
  obtain ⟨p, hp⟩ := List.exists_mem_of_ne_nil _ nc
  obtain ⟨_, _, _, q, _⟩ := clashes_mem.mp hp
  exact without_less (List.mem_map.mpr ⟨p, hp, rfl⟩) (holdIn_lt q)
theorem step_inv {k m : Nat} (hi : clashesP h bs = [] ∨ bs.length + k ≤ m) : clashesP h (stepC h bs) = [] ∨ (stepC h bs).length + (k + 1) ≤ m := by
  by_cases nc : clashesP h bs = []
  · rw [step_none nc]
    exact .inl nc
  · have := step_less nc
    exact .inr (by have := hi.resolve_left nc; omega)
end KP
/-! KdClear: choices, the fewest binds without which nothing clashes. -/
namespace KP
open PySem hiding Env Flow
open KD
variable {h : House} {bs : List Bnd}
/-! numbers as keys -/
theorem key_I (a : Nat) : keyOf (encI a) = some (.num (a : Int)) := by simp [encI, keyOf]
def EI : KE Nat := ⟨encI, fun a => .num (a : Int), 0, key_I, fun a b h => by simp at h; omega, fun a => rfl, by decide, fun a => by simp [NestedKey.depth]⟩
theorem flat_I (a : Nat) : Flat 0 (encI a) := ⟨by simp [KD.plain], by simp [PyData.depth]⟩
theorem eqv_I (a b : Nat) : PyData.eqv (encI a) (encI b) = decide (a = b) := by
  simp only [PyData.eqv]
  rw [Bool.eq_iff_iff]
  simp [Int.ofNat_inj]
def encNs (l : List Nat) : D := .tuple (l.map encI)
theorem eqv_Ns (a b : List Nat) : PyData.eqv (encNs a) (encNs b) = decide (a = b) := by
  unfold encNs
  rw [PyData.eqv, eqv_map encI eqv_I]
theorem flat_Ns (a : List Nat) : Flat 1 (encNs a) := Flat.tup fun x hx => by
  obtain ⟨i, _, rfl⟩ := List.mem_map.mp hx
  exact flat_I i
theorem eqD_Ns (a b : List Nat) : eqD (encNs a) (encNs b) = .ok (decide (a = b)) := eqD_map encI eqv_I flat_I (by decide) a b
theorem eqD_NNs (a b : List NN) : eqD (.tuple (a.map encNN)) (.tuple (b.map encNN)) = .ok (decide (a = b)) := eqD_map encNN eqv_NN flat_NN (by decide) a b
theorem eqD_NN0 (a : List NN) : eqD (.tuple (a.map encNN)) (.tuple []) = .ok (decide (a = [])) := eqD_NNs a []
theorem sortable_I (l : List Nat) : sortable (l.map encI) = true := by
  unfold sortable alikes
  simp only [Bool.and_eq_true, Bool.or_eq_true, List.all_eq_true, List.mem_map]
  refine ⟨⟨?_, .inr ?_⟩, ?_⟩
  · rintro _ ⟨a, _, rfl⟩ _ ⟨b, _, rfl⟩
    rfl
  · rintro _ ⟨a, _, rfl⟩
    rfl
  · rintro _ ⟨a, _, rfl⟩
    exact (flat_I a).shp (by decide)
theorem leI_of {a b : Nat} (hl : a ≤ b) : leE encI a b = true := by
  unfold leE leqD
  rw [W.dataLt_int, Bool.not_eq_true', decide_eq_false_iff_not]
  omega
/-- numbers that rise -/
def Rise (l : List Nat) : Prop := l.Pairwise (· < ·)
theorem Rise.nodup {l : List Nat} (r : Rise l) : l.Nodup := r.imp fun hl e => by omega
theorem dedup_self {α : Type} [DecidableEq α] {l : List α} (nd : l.Nodup) : dedupT l = l := by
  induction l with
  | nil => rfl
  | cons x l ih =>
    rw [List.nodup_cons] at nd
    rw [dedupT, ih nd.2]
    congr 1
    exact List.filter_eq_self.mpr fun y hy => by
      rw [Bool.not_eq_true', decide_eq_false_iff_not]
      rintro rfl
      exact nd.1 hy
theorem Rise.sorted {l : List Nat} (r : Rise l) : l.mergeSort (leE encI) = l := List.mergeSort_of_pairwise (r.imp fun hl => leI_of (Nat.le_of_lt hl))
theorem sset_rise {l : List Nat} (r : Rise l) (hl : l.length < 64) : bltD .sortedSet [encNs l] = .ok (.list (l.map encI)) := by
  show R.guard _ _ = _
  rw [show setable (l.map encI) = true from setable_enc EI hl, R.guard_true, show dedup (l.map encI) = some ((dedupT l).map encI) from dedup_enc EI l, dedup_self r.nodup]
  exact (sort_enc encI (sortable_I l)).trans (by rw [r.sorted])
/-! choices -/
def nextI (s : List Nat) : Nat := match s.getLast? with
  | none => 0
  | some x => x + 1
def more (many : Nat) (s : List Nat) : List (List Nat) := (List.range (many - nextI s)).map fun i => s ++ [nextI s + i]
def choicesP (many : Nat) : Nat → List (List Nat)
  | 0 => [[]]
  | k + 1 => (choicesP many k).flatMap (more many)
theorem more_mem {many : Nat} {s t : List Nat} : t ∈ more many s ↔ ∃ x, nextI s ≤ x ∧ x < many ∧ t = s ++ [x] := by
  unfold more
  rw [List.mem_map]
  constructor
  · rintro ⟨i, hi, rfl⟩
    rw [List.mem_range] at hi
    exact ⟨nextI s + i, by omega, by omega, rfl⟩
  · rintro ⟨x, h1, h2, rfl⟩
    exact ⟨x - nextI s, List.mem_range.mpr (by omega), by rw [show nextI s + (x - nextI s) = x by omega]⟩
theorem rise_app {s : List Nat} {x : Nat} : Rise (s ++ [x]) ↔ Rise s ∧ nextI s ≤ x := by
  unfold Rise
  rw [List.pairwise_append]
  constructor
  · rintro ⟨h1, _, h3⟩
    refine ⟨h1, ?_⟩
    unfold nextI
    cases hl : s.getLast? with
    | none => exact Nat.zero_le _
    | some y => exact h3 y (List.mem_of_getLast? hl) x (List.mem_singleton.mpr rfl)
  · rintro ⟨h1, h2⟩
    refine ⟨h1, List.pairwise_singleton _ _, fun y hy z hz => ?_⟩
    rw [List.mem_singleton] at hz
    subst hz
    unfold nextI at h2
    cases hl : s.getLast? with
    | none =>
      rw [List.getLast?_eq_none_iff] at hl
      rw [hl] at hy
      cases hy
    | some w =>
      rw [hl] at h2
      obtain ⟨t, rfl⟩ := List.getLast?_eq_some_iff.mp hl
      rcases List.mem_append.mp hy with hy | hy
      · have := (List.pairwise_append.mp h1).2.2 y hy w (List.mem_singleton.mpr rfl)
        dsimp only at h2
        omega
      · rw [List.mem_singleton] at hy
        dsimp only at h2
        omega
theorem choices_mem {many k : Nat} {s : List Nat} : s ∈ choicesP many k ↔ s.length = k ∧ Rise s ∧ ∀ x ∈ s, x < many := by
  induction k generalizing s with
  | zero =>
    unfold choicesP
    rw [List.mem_singleton]
    constructor
    · rintro rfl
      exact ⟨rfl, List.Pairwise.nil, fun x hx => nomatch hx⟩
    · rintro ⟨h1, _, _⟩
      exact List.eq_nil_of_length_eq_zero h1
  | succ k ih =>
    unfold choicesP
    rw [List.mem_flatMap]
    constructor
    · rintro ⟨t, ht, hs⟩
      obtain ⟨x, h1, h2, rfl⟩ := more_mem.mp hs
      obtain ⟨i1, i2, i3⟩ := ih.mp ht
      refine ⟨by rw [List.length_append, i1]; rfl, rise_app.mpr ⟨i2, h1⟩, fun y hy => ?_⟩
      rcases List.mem_append.mp hy with hy | hy
      · exact i3 y hy
      · rw [List.mem_singleton] at hy
        rw [hy]
        exact h2
    · rintro ⟨h1, h2, h3⟩
      have hne : s ≠ [] := fun e => by rw [e] at h1; cases h1
      obtain ⟨t, x, rfl⟩ : ∃ t x, s = t ++ [x] := ⟨s.dropLast, s.getLast hne, (List.dropLast_concat_getLast hne).symm⟩
      obtain ⟨r1, r2⟩ := rise_app.mp h2
      refine ⟨t, ih.mpr ⟨by rw [List.length_append] at h1; simpa using h1, r1, fun y hy => h3 y (List.mem_append_left _ hy)⟩, more_mem.mpr ⟨x, r2, h3 x (List.mem_append_right _ (List.mem_singleton.mpr rfl)), rfl⟩⟩
theorem more_len (many : Nat) (s : List Nat) : (more many s).length ≤ many := by
  unfold more
  rw [List.length_map, List.length_range]
  omega
theorem flat_len {α β : Type} (f : α → List β) {m : Nat} (hf : ∀ a, (f a).length ≤ m) : ∀ l : List α, (l.flatMap f).length ≤ l.length * m
  | [] => by simp
  | a :: l => by
    rw [List.flatMap_cons, List.length_append, List.length_cons, Nat.succ_mul]
    have := flat_len f hf l
    have := hf a
    omega
theorem choices_len (many : Nat) : ∀ k, (choicesP many k).length ≤ many ^ k
  | 0 => Nat.le_refl _
  | k + 1 => by
    unfold choicesP
    refine Nat.le_trans (flat_len _ (more_len many) _) ?_
    rw [Nat.pow_succ]
    exact Nat.mul_le_mul_right _ (choices_len many k)
theorem pow_le {many k : Nat} (hm : many ≤ 7) (hk : k ≤ 7) : many ^ k ≤ 823543 := by
  have h1 : many ^ k ≤ 7 ^ k := Nat.pow_le_pow_left hm k
  have h2 : 7 ^ k ≤ 7 ^ 7 := Nat.pow_le_pow_right (by decide) hk
  exact Nat.le_trans h1 (Nat.le_trans h2 (by decide))
theorem rng2 (a b : Int) : walkD .range2 [.int a, .int b] = .guard (decide (0 ≤ a) && decide (a < far) && decide (-far ≤ b) && decide (b ≤ 1000000)) (.ok ((List.range (b - a).toNat).map fun (i : Nat) => PyData.int (a + (i : Int)))) := rfl
theorem rng2_ok {a b : Nat} (ha : a ≤ 1000000) (hb : b ≤ 1000000) : walkD .range2 [.int (a : Int), .int (b : Int)] = .ok (((List.range (b - a)).map (a + ·)).map encI) := by
  rw [rng2, guard_ok']
  · rw [List.map_map, show ((b : Int) - (a : Int)).toNat = b - a by omega]
    rfl
  · unfold far
    simp only [Bool.and_eq_true, decide_eq_true_eq]
    omega
theorem atI_neg1 {α : Type} {l : List α} {a : α} (hl : l.getLast? = some a) : L2.atI l (-1) = some a := atI_last hl
theorem lenNs (s : List Nat) : bltD .len [encNs s] = .ok (.int s.length) := by unfold encNs; rw [len_tup, List.length_map]
theorem addNs (s : List Nat) (x : Nat) (hs : s.length ≤ 1000) : addD (encNs s) (.tuple [encI x]) = .ok (encNs (s ++ [x])) := by
  unfold encNs
  rw [addD_tup, List.length_map, guard_ok' (decide_eq_true (by show _ ≤ 1000000; simp; omega)), List.map_append]
  rfl
theorem ixNs {s : List Nat} {x : Nat} (hs : s.getLast? = some x) : ixD (encNs s) (.int (-1)) = .ok (encI x) := by
  unfold encNs
  rw [ix_tup, atI_last (a := encI x) (by rw [getLast_map, hs]; rfl)]
  rfl
theorem ev_choices (n : Nat) {many size : Nat} (hm : many ≤ 7) (hs : size ≤ 7) : evFn PP WF (n + 1) 90 [.int many, .int size] = .ok (.list ((choicesP many size).map encNs)) := by
  have := ev_open (n := n) (f := 90) (fn := f90_choices) (ds := [.int (many : Int), .int (size : Int)]) rfl rfl
  unfold Ev at this
  rw [this]
  simp [f90_choices]
  rw [guard_ok' (rng_ok (by omega) (by omega))]
  have e0 : ((List.range size).map fun (i : Nat) => PyData.int (i : Int)) = (List.range size).map encI := rfl
  rw [e0]
  refine bind_foldI (P := fun r : R D => r = .ok (.list ((choicesP many size).map encNs))) encI (fun l : List (List Nat) => [some (.val (.int many)), some (.val (.int size)), some (.val (.list (l.map encNs))), none, none, none, none, none])
    (fun _ l => l.flatMap (more many)) (fun i l => l = choicesP many i) [[]] rfl (fun i k hk l hl => ?_) fun hl => ?_
  · refine ⟨?_, by rw [hl]; rfl⟩
    have hi := (List.getElem?_eq_some_iff.mp hk).1
    rw [List.length_range] at hi
    have hlen := choices_len many i
    have hpow := pow_le (k := i + 1) hm (by omega)
    rw [Nat.pow_succ] at hpow
    subst hl
    simp [fstep]
    refine bind_foldI (P := OkNx _) encNs (fun a : List (List Nat) => [some (.val (.int many)), some (.val (.int size)), some (.val (.list ((choicesP many i).map encNs))), some (.val (.int k)), some (.own (.list (a.map encNs))), none, none, none])
      (fun s a => a ++ more many s) (fun j a => a.length ≤ j * many) [] (by simp) (fun j s hjs a ha => ?_) fun _ => ?_
    · have hj := (List.getElem?_eq_some_iff.mp hjs).1
      have hb : (j + 1) * many ≤ 823543 := Nat.le_trans (Nat.mul_le_mul_right _ (show j + 1 ≤ many ^ i by omega)) hpow
      have hml := more_len many s
      have hsm := choices_mem.mp (List.mem_of_getElem? hjs)
      rw [Nat.succ_mul] at hb
      refine ⟨?_, by rw [List.length_append, Nat.succ_mul]; omega⟩
      have hsl : s.length < 1000000 := by omega
      have hlim : a.length + (more many s).length ≤ lim := by show _ ≤ 1000000; omega
      have hcomp : ∀ ρ : KD.Env, (∀ x : Nat, cstep (evFn PP WF n) ρ (.bin .add (.var 5) (.tup [(.var 7)])) (.name 7) yes (encI x) = .ok (some (encNs (s ++ [x])))) →
          compF (cstep (evFn PP WF n) ρ (.bin .add (.var 5) (.tup [(.var 7)])) (.name 7) yes) (((List.range (many - nextI s)).map (nextI s + ·)).map encI) = .ok ((more many s).map encNs) := fun ρ hρ => by
        rw [compF_all encI (fun x => encNs (s ++ [x])) fun x _ => hρ x]
        unfold more
        rw [List.map_map, List.map_map]
        rfl
      cases hlast : s.getLast? with
      | none =>
        have es : s = [] := List.getLast?_eq_none_iff.mp hlast
        have hn : nextI s = 0 := by unfold nextI; rw [hlast]
        have hw := rng2_ok (a := 0) (b := many) (by decide) (by omega)
        have hc := hcomp
        rw [hn] at hc
        subst es
        simp [fstep, lenNs]
        have hw : walkD .range2 [.int 0, .int (many : Int)] = .ok (((List.range (many - 0)).map (0 + ·)).map encI) := hw
        rw [hw, R.bind_ok, hc _ (fun x => by
          have ha := addNs [] x (by decide)
          simp only [List.nil_append] at ha
          simp [cstep, ha])]
        simp only [R.bind_ok, extD, List.length_map]
        rw [guard_ok' (decide_eq_true hlim)]
        simp [encNs]
      | some x =>
        have hn : nextI s = x + 1 := by unfold nextI; rw [hlast]
        have hx := hsm.2.2 x (List.mem_of_getLast? hlast)
        have hpos : 0 < s.length := by
          cases s with
          | nil => cases hlast
          | cons _ _ => simp
        have hat : L2.atI (s.map encI) (-1) = some (encI x) := atI_last (by rw [getLast_map, hlast]; rfl)
        have hw := rng2_ok (a := x + 1) (b := many) (by omega) (by omega)
        have hc := hcomp
        rw [hn] at hc
        have hg : s.length + 1 ≤ lim := by show _ ≤ 1000000; omega
        have hix := ixNs hlast
        simp [fstep, lenNs, hpos, hix]
        have hw : walkD .range2 [.int ((x : Int) + 1), .int (many : Int)] = .ok (((List.range (many - (x + 1))).map (x + 1 + ·)).map encI) := hw
        rw [hw, R.bind_ok]
        have hcc := hc [some (.val (.int many)), some (.val (.int size)), some (.val (.list ((choicesP many i).map encNs))), some (.val (.int k)), some (.own (.list (a.map encNs))), some (.val (encNs s)), some (.val (.int ((x : Int) + 1))), none] (fun y => by
          have ha := addNs s y (by omega)
          simp [cstep, ha])
        rw [hcc]
        simp only [R.bind_ok, extD, List.length_map]
        rw [guard_ok' (decide_eq_true hlim)]
        simp
    · have hf : ∀ (l acc : List (List Nat)), l.foldl (fun a s => a ++ more many s) acc = acc ++ l.flatMap (more many) := by
        intro l
        induction l with
        | nil => intro acc; simp
        | cons s l ih => intro acc; rw [List.foldl_cons, ih]; simp
      rw [hf, List.nil_append]
      simp
  · rw [List.length_range] at hl
    rw [hl]
    simp
/-! cleared -/
def clearP (h : House) (bs : List Bnd) (s : List Nat) : Bool := decide (clashesP h (withoutP bs s) = [])
def firstP (h : House) (bs : List Bnd) (size : Nat) : Option (List Nat) := (choicesP bs.length size).find? (clearP h bs)
def clearedP (h : House) (bs : List Bnd) : List Nat := ((List.range (bs.length + 1)).findSome? (firstP h bs)).getD []
theorem without_all (bs : List Bnd) : withoutP bs (List.range bs.length) = [] := by
  unfold withoutP
  rw [List.map_eq_nil_iff, List.filter_eq_nil_iff]
  intro p hp
  have := List.mem_zipIdx hp
  simp at this ⊢
  omega
theorem clash_none : clashesP h [] = [] := by
  cases hc : clashesP h [] with
  | nil => rfl
  | cons p l =>
    have : p ∈ clashesP h [] := by rw [hc]; exact List.mem_cons_self
    obtain ⟨_, _, _, q, _⟩ := clashes_mem.mp this
    have := holdIn_lt q
    simp at this
theorem rise_range (n : Nat) : Rise (List.range n) := List.pairwise_lt_range
theorem first_all (h : House) (bs : List Bnd) : (firstP h bs bs.length).isSome = true := by
  unfold firstP
  rw [List.find?_isSome]
  refine ⟨List.range bs.length, choices_mem.mpr ⟨List.length_range, rise_range _, fun x hx => List.mem_range.mp hx⟩, ?_⟩
  unfold clearP
  rw [without_all, clash_none]
  rfl
theorem findSome_first {β : Type} (f : Nat → Option β) : ∀ {n : Nat} {b : β}, (List.range n).findSome? f = some b → ∃ k, k < n ∧ f k = some b ∧ ∀ j, j < k → f j = none := by
  intro n
  induction n with
  | zero => intro b hb; cases hb
  | succ n ih =>
    intro b hb
    rw [List.range_succ, List.findSome?_append] at hb
    cases hn : (List.range n).findSome? f with
    | some c =>
      rw [hn] at hb
      cases hb
      obtain ⟨k, h1, h2, h3⟩ := ih hn
      exact ⟨k, by omega, h2, h3⟩
    | none =>
      rw [hn, Option.none_or] at hb
      rw [List.findSome?_eq_none_iff] at hn
      rw [List.findSome?_cons, List.findSome?_nil] at hb
      cases hf : f n with
      | none => rw [hf] at hb; cases hb
      | some c =>
        rw [hf] at hb
        cases hb
        exact ⟨n, by omega, hf, fun j hj => hn j (List.mem_range.mpr hj)⟩
theorem cleared_spec (h : House) (bs : List Bnd) : clashesP h (withoutP bs (clearedP h bs)) = [] ∧ Rise (clearedP h bs) ∧ (∀ x ∈ clearedP h bs, x < bs.length) ∧ (clearedP h bs).length ≤ bs.length ∧
    (∀ s : List Nat, Rise s → (∀ x ∈ s, x < bs.length) → s.length < (clearedP h bs).length → clashesP h (withoutP bs s) ≠ []) := by
  have hs : ∃ g, (List.range (bs.length + 1)).findSome? (firstP h bs) = some g := by
    rw [← Option.isSome_iff_exists, List.findSome?_isSome_iff]
    exact ⟨bs.length, List.mem_range.mpr (by omega), first_all h bs⟩
  obtain ⟨g, hg⟩ := hs
  have e : clearedP h bs = g := by unfold clearedP; rw [hg]; rfl
  rw [e]
  obtain ⟨k, h1, h2, h3⟩ := findSome_first _ hg
  unfold firstP at h2
  have hm := choices_mem.mp (List.mem_of_find?_eq_some h2)
  have hp := List.find?_some h2
  unfold clearP at hp
  rw [decide_eq_true_eq] at hp
  refine ⟨hp, hm.2.1, hm.2.2, by omega, fun s r1 r2 r3 hc => ?_⟩
  have := h3 s.length (by omega)
  unfold firstP at this
  rw [List.find?_eq_none] at this
  exact this s (choices_mem.mpr ⟨rfl, r1, r2⟩) (by unfold clearP; rw [hc]; rfl)
theorem ev_cleared (n : Nat) (c : CX h bs) (hl : bs.length ≤ 7) : evFn PP WF (n + 5) 91 [encH h, encM bs] = .ok (encNs (clearedP h bs)) := by
  have := ev_open (n := n + 4) (f := 91) (fn := f91_cleared) (ds := [encH h, encM bs]) rfl rfl
  unfold Ev at this
  rw [this]
  simp [f91_cleared, lenM]
  rw [guard_ok' (rng_ok (by omega) (by omega))]
  have e0 : ((List.range (bs.length + 1)).map fun (i : Nat) => PyData.int (i : Int)) = (List.range (bs.length + 1)).map encI := rfl
  rw [e0]
  have hfind : ∀ l : List Nat, l.findSome? (firstP h bs) = (l.find? fun s => (firstP h bs s).isSome).bind (firstP h bs) := fun l => find_some _ l
  refine bind_find (P := fun r : R D => r = .ok (encNs (clearedP h bs))) encI (fun s => (firstP h bs s).isSome) (fun s => encNs ((firstP h bs s).getD [])) (fun size hsize => ?_) (fun size hsz => ?_) fun hno => ?_
  · have hs7 : size ≤ 7 := by
      rw [List.mem_range] at hsize
      omega
    have hch := ev_choices (n + 3) (many := bs.length) (size := size) hl hs7
    have inner : ∀ (Pq : R Flow → Prop), (∀ s, firstP h bs size = some s → Pq (.ok (.rt (encNs s)))) → (firstP h bs size = none → Pq (.ok (.nx [some (.val (encH h)), some (.val (encM bs)), some (.val (.int size)), none]))) →
        Pq (fstep (evFn PP WF (n + 4)) WF (.name 2) [.wip [3], .for_ (.name 3) .seq [(.call 90 [(.blt .len [(.var 1)]), (.var 2)])] [.iff (.cmp .eq (.call 70 [(.var 0), (.call 67 [(.var 1), (.var 3)])]) (.tup [])) [.ret (.var 3)] []] [3]] (encI size) [some (.val (encH h)), some (.val (encM bs)), none, none]) := by
      intro Pq q1 q2
      simp [fstep, lenM, hch]
      refine bind_find (P := Pq) encNs (clearP h bs) encNs (fun s hs => ?_) (fun s hs => ?_) fun hs => ?_
      · have hw : evFn PP WF (n + 4) 67 [encM bs, encNs s] = .ok (encM (withoutP bs s)) := ev_without (n + 3) bs s
        have hcl := ev_clashes n (c.sub (without_sub bs s))
        unfold clearP
        by_cases q : clashesP h (withoutP bs s) = []
        · rw [if_pos (decide_eq_true q)]
          simp [fstep, hw, hcl, eqD_NN0, q]
          have e00 : eqD (.tuple []) (.tuple []) = .ok true := eqD_Ts0 []
          simp [e00]
        · rw [if_neg (by rw [decide_eq_false q]; decide)]
          simp [fstep, hw, hcl, eqD_NN0, q]
      · simp
        exact q1 s hs
      · simp
        exact q2 hs
    cases hf : firstP h bs size with
    | some s =>
      rw [if_pos (by rw [Option.isSome_some])]
      exact inner (fun r => r = .ok (.rt (encNs s))) (fun s' hs' => by rw [hf] at hs'; cases hs'; rfl) (fun hno => by rw [hf] at hno; cases hno)
    | none =>
      rw [if_neg (by rw [Option.isSome_none]; decide)]
      exact inner (OkNx _) (fun s' hs' => by rw [hf] at hs'; cases hs') (fun _ => rfl)
  · have hsm := List.find?_some hsz
    obtain ⟨s, hs⟩ := Option.isSome_iff_exists.mp hsm
    unfold clearedP
    rw [hfind, hsz, Option.bind_some, hs]
    simp
  · unfold clearedP
    rw [hfind, hno]
    simp [encNs]
end KP
/-! KdL21: law k21. -/
namespace KP
open PySem hiding Env Flow
open KD
/-- the keys struck from a place on -/
def keysAt (l : List (Nm × Int)) (at_ many : Nat) : Ky := ((l.drop at_).take many).map (·.1)
/-- where one thing told may lead -/
def cand (h : House) (bs : List Bnd) (l : List (Nm × Int)) (t : Tel) (p : Nm × Nat) (many : Nat) : List (Nm × Nat) :=
  if (keysAt l p.2 many).length = many then (match t with
    | .deed d => if aget (rowsP h bs p.1) (keysAt l p.2 many) = some d then [(wayTo h d p.1, p.2 + many)] else []
    | .lost ks => if keysAt l p.2 many = ks then [(p.1, p.2 + many)] else []) else []
def cands (h : House) (bs : List Bnd) (l : List (Nm × Int)) (t : Tel) (p : Nm × Nat) (acc : List (Nm × Nat)) : List (Nm × Nat) := [1, 2, 3].foldl (fun acc m => acc ++ cand h bs l t p m) acc
def stepPl (h : House) (bs : List Bnd) (l : List (Nm × Int)) (t : Tel) (pl : List (Nm × Nat)) : List (Nm × Nat) := pl.foldl (fun acc p => cands h bs l t p acc) []
def places (h : House) (bs : List Bnd) (l : List (Nm × Int)) (told : List Tel) : List (Nm × Nat) := told.foldl (fun pl t => stepPl h bs l t pl) [(first h, 0)]
section
variable {h : House} {bs : List Bnd} {l : List (Nm × Int)}
theorem cands_eq (t : Tel) (p : Nm × Nat) (acc : List (Nm × Nat)) : cands h bs l t p acc = acc ++ (cand h bs l t p 1 ++ cand h bs l t p 2 ++ cand h bs l t p 3) := by
  unfold cands
  simp [List.append_assoc]
theorem step_eq (t : Tel) (pl : List (Nm × Nat)) : stepPl h bs l t pl = pl.flatMap fun p => cand h bs l t p 1 ++ cand h bs l t p 2 ++ cand h bs l t p 3 := by
  have : ∀ (pl acc : List (Nm × Nat)), pl.foldl (fun acc p => cands h bs l t p acc) acc = acc ++ pl.flatMap fun p => cand h bs l t p 1 ++ cand h bs l t p 2 ++ cand h bs l t p 3 := by
    intro pl
    induction pl with
    | nil => intro acc; simp
    | cons p pl ih => intro acc; rw [List.foldl_cons, ih, cands_eq, List.flatMap_cons, List.append_assoc]
  exact (this pl []).trans (List.nil_append _)
theorem step_mem {t : Tel} {pl : List (Nm × Nat)} {p q : Nm × Nat} {m : Nat} (hp : p ∈ pl) (hm : 1 ≤ m ∧ m ≤ 3) (hq : q ∈ cand h bs l t p m) : q ∈ stepPl h bs l t pl := by
  rw [step_eq, List.mem_flatMap]
  refine ⟨p, hp, ?_⟩
  simp only [List.mem_append]
  rcases (show m = 1 ∨ m = 2 ∨ m = 3 by omega) with rfl | rfl | rfl
  · exact .inl (.inl hq)
  · exact .inl (.inr hq)
  · exact .inr hq
/-! how many there are -/
def wt (N : Nat) (pl : List (Nm × Nat)) : Nat := (pl.map fun p => 2 ^ (N - p.2)).sum
theorem wt_app (N : Nat) (a b : List (Nm × Nat)) : wt N (a ++ b) = wt N a + wt N b := by unfold wt; rw [List.map_append, List.sum_append]
theorem cand_one (t : Tel) (p : Nm × Nat) (m : Nat) : cand h bs l t p m = [] ∨ ∃ a, cand h bs l t p m = [(a, p.2 + m)] ∧ p.2 + m ≤ max l.length p.2 := by
  unfold cand
  split
  · rename_i hl
    have hle : p.2 + m ≤ max l.length p.2 := by
      unfold keysAt at hl
      rw [List.length_map, List.length_take, List.length_drop] at hl
      omega
    cases t with
    | deed d =>
      dsimp only
      split
      · exact .inr ⟨_, rfl, hle⟩
      · exact .inl rfl
    | lost ks =>
      dsimp only
      split
      · exact .inr ⟨_, rfl, hle⟩
      · exact .inl rfl
  · exact .inl rfl
theorem wt_cand (t : Tel) {p : Nm × Nat} (hp : p.2 ≤ l.length) (m : Nat) (hm : 1 ≤ m) : wt l.length (cand h bs l t p m) * 2 ^ m ≤ 2 ^ (l.length - p.2) ∧ ∀ q ∈ cand h bs l t p m, q.2 ≤ l.length := by
  rcases cand_one (h := h) (bs := bs) (l := l) t p m with e | ⟨a, e, hle⟩
  · rw [e]
    exact ⟨by simp [wt], fun q hq => (nomatch hq)⟩
  · rw [e]
    have hle : p.2 + m ≤ l.length := by omega
    refine ⟨?_, fun q hq => ?_⟩
    · unfold wt
      simp only [List.map_cons, List.map_nil, List.sum_cons, List.sum_nil, Nat.add_zero]
      rw [← Nat.pow_add, show l.length - (p.2 + m) + m = l.length - p.2 by omega]
      exact Nat.le_refl _
    · rw [List.mem_singleton] at hq
      rw [hq]
      exact hle
theorem wt_step (t : Tel) : ∀ (pl : List (Nm × Nat)), (∀ p ∈ pl, p.2 ≤ l.length) → wt l.length (stepPl h bs l t pl) ≤ wt l.length pl ∧ ∀ q ∈ stepPl h bs l t pl, q.2 ≤ l.length := by
  intro pl hpl
  rw [step_eq]
  induction pl with
  | nil => exact ⟨Nat.le_refl _, fun q hq => (nomatch hq)⟩
  | cons p pl ih =>
    obtain ⟨i1, i2⟩ := ih fun q hq => hpl q (List.mem_cons_of_mem _ hq)
    have hp := hpl p List.mem_cons_self
    obtain ⟨a1, a2⟩ := wt_cand (h := h) (bs := bs) t hp 1 (by decide)
    obtain ⟨b1, b2⟩ := wt_cand (h := h) (bs := bs) t hp 2 (by decide)
    obtain ⟨c1, c2⟩ := wt_cand (h := h) (bs := bs) t hp 3 (by decide)
    rw [List.flatMap_cons, wt_app, wt_app, wt_app]
    refine ⟨?_, fun q hq => ?_⟩
    · have e : wt l.length (p :: pl) = 2 ^ (l.length - p.2) + wt l.length pl := by unfold wt; rw [List.map_cons, List.sum_cons]
      rw [e]
      omega
    · simp only [List.mem_append] at hq
      rcases hq with ((hq | hq) | hq) | hq
      · exact a2 q hq
      · exact b2 q hq
      · exact c2 q hq
      · exact i2 q hq
theorem len_wt (N : Nat) (pl : List (Nm × Nat)) : pl.length ≤ wt N pl := by
  induction pl with
  | nil => exact Nat.zero_le _
  | cons p pl ih =>
    have e : wt N (p :: pl) = 2 ^ (N - p.2) + wt N pl := by unfold wt; rw [List.map_cons, List.sum_cons]
    have := Nat.one_le_two_pow (n := N - p.2)
    rw [e, List.length_cons]
    omega
theorem few_places (told : List Tel) : (places h bs l told).length ≤ 2 ^ l.length ∧ ∀ q ∈ places h bs l told, q.2 ≤ l.length := by
  have : ∀ (told : List Tel) (pl : List (Nm × Nat)), (∀ p ∈ pl, p.2 ≤ l.length) → wt l.length (told.foldl (fun pl t => stepPl h bs l t pl) pl) ≤ wt l.length pl ∧ ∀ q ∈ told.foldl (fun pl t => stepPl h bs l t pl) pl, q.2 ≤ l.length := by
    intro told
    induction told with
    | nil => exact fun pl hp => ⟨Nat.le_refl _, hp⟩
    | cons t told ih =>
      intro pl hp
      obtain ⟨s1, s2⟩ := wt_step (h := h) (bs := bs) t pl hp
      obtain ⟨i1, i2⟩ := ih _ s2
      exact ⟨Nat.le_trans i1 s1, i2⟩
  obtain ⟨i1, i2⟩ := this told [(first h, 0)] fun p hp => by rw [List.mem_singleton] at hp; rw [hp]; exact Nat.zero_le _
  refine ⟨Nat.le_trans (len_wt l.length _) (Nat.le_trans i1 ?_), i2⟩
  unfold wt
  simp
/-! what is told leads through all that is struck -/
structure Cov (h : House) (bs : List Bnd) (l : List (Nm × Int)) (i : Nat) (r : Sta × List Tel) : Prop where
  le : r.1.keys.length ≤ i
  few : r.1.keys.length ≤ 2
  ks : r.1.keys = keysAt l (i - r.1.keys.length) r.1.keys.length
  pl : (r.1.room, i - r.1.keys.length) ∈ places h bs l r.2
theorem places_app (told : List Tel) (t : Tel) : places h bs l (told ++ [t]) = stepPl h bs l t (places h bs l told) := by
  unfold places
  rw [List.foldl_append]
  rfl
theorem cov_told {told : List Tel} {t : Tel} {p q : Nm × Nat} {m : Nat} (hp : p ∈ places h bs l told) (hm : 1 ≤ m ∧ m ≤ 3) (hq : q ∈ cand h bs l t p m) : q ∈ places h bs l (told ++ [t]) := by
  rw [places_app]
  exact step_mem hp hm hq
theorem cov_settled {i : Nat} {r : Sta × List Tel} (c : Cov h bs l i r) (hk : r.1.keys ≠ []) : Cov h bs l i (both r (settledP h bs r.1)) := by
  have hl : 1 ≤ r.1.keys.length := List.length_pos_iff.mpr hk
  have h2 := c.few
  have hle := c.le
  have len : (keysAt l (i - r.1.keys.length) r.1.keys.length).length = r.1.keys.length := by rw [← c.ks]
  have ei : i - r.1.keys.length + r.1.keys.length = i := by omega
  unfold settledP both
  cases hg : aget (rowsP h bs r.1.room) r.1.keys with
  | some d =>
    refine ⟨Nat.zero_le _, Nat.zero_le _, rfl, ?_⟩
    refine cov_told (m := r.1.keys.length) c.pl ⟨hl, by omega⟩ ?_
    unfold cand
    rw [if_pos len]
    dsimp only
    rw [← c.ks, if_pos hg, ei]
    exact List.mem_singleton.mpr rfl
  | none =>
    refine ⟨Nat.zero_le _, Nat.zero_le _, rfl, ?_⟩
    refine cov_told (m := r.1.keys.length) c.pl ⟨hl, by omega⟩ ?_
    unfold cand
    rw [if_pos len]
    dsimp only
    rw [← c.ks, if_pos rfl, ei]
    exact List.mem_singleton.mpr rfl
theorem keys_more {at_ m : Nat} {p : Nm × Int} (hp : l[at_ + m]? = some p) : keysAt l at_ (m + 1) = keysAt l at_ m ++ [p.1] := by
  unfold keysAt
  rw [List.take_succ, List.map_append, List.getElem?_drop, hp]
  rfl
theorem cov_taken (kl : ∀ b ∈ bs, b.keys.length ≤ 3) {i : Nat} {r q : Sta × List Tel} (c : Cov h bs l i r) {p : Nm × Int} (hp : l[i]? = some p) {t : Int} (hq : takenO h bs r.1 p.1 t = some q) : Cov h bs l (i + 1) (both r q) := by
  have h2 := c.few
  have hle := c.le
  have e1 : i - r.1.keys.length + r.1.keys.length = i := by omega
  have e2 : i + 1 - (r.1.keys.length + 1) = i - r.1.keys.length := by omega
  have hk : r.1.keys ++ [p.1] = keysAt l (i - r.1.keys.length) (r.1.keys.length + 1) := by
    rw [keys_more (p := p) (by rw [e1]; exact hp), ← c.ks]
  have len : (keysAt l (i - r.1.keys.length) (r.1.keys.length + 1)).length = r.1.keys.length + 1 := by rw [← hk]; simp
  unfold takenO at hq
  split at hq
  · rename_i hg
    cases hq
    have lim2 : (r.1.keys ++ [p.1]).length < 3 := by
      unfold goesOn at hg
      obtain ⟨w, hw, e⟩ := List.any_eq_true.mp hg
      rw [Bool.and_eq_true, decide_eq_true_eq] at e
      obtain ⟨⟨b, hb, e3⟩, _⟩ := rows_mem.mp hw
      have := kl b hb
      rw [e3] at this
      omega
    have hl2 : (r.1.keys ++ [p.1]).length = r.1.keys.length + 1 := by simp
    refine ⟨?_, ?_, ?_, ?_⟩
    · show (r.1.keys ++ [p.1]).length ≤ i + 1; omega
    · show (r.1.keys ++ [p.1]).length ≤ 2; omega
    · show r.1.keys ++ [p.1] = keysAt l (i + 1 - (r.1.keys ++ [p.1]).length) (r.1.keys ++ [p.1]).length
      rw [hl2, e2]
      exact hk
    · show (r.1.room, i + 1 - (r.1.keys ++ [p.1]).length) ∈ places h bs l (r.2 ++ [])
      rw [hl2, e2, List.append_nil]
      exact c.pl
  · split at hq
    · rename_i d hd
      cases hq
      refine ⟨Nat.zero_le _, Nat.zero_le _, rfl, ?_⟩
      refine cov_told (m := r.1.keys.length + 1) c.pl ⟨by omega, by omega⟩ ?_
      unfold cand
      rw [if_pos len]
      dsimp only
      rw [← hk, if_pos hd, show i - r.1.keys.length + (r.1.keys.length + 1) = i + 1 by omega]
      exact List.mem_singleton.mpr rfl
    · split at hq
      · rename_i hn
        cases hq
        refine ⟨Nat.zero_le _, Nat.zero_le _, rfl, ?_⟩
        refine cov_told (m := r.1.keys.length + 1) c.pl ⟨by omega, by omega⟩ ?_
        unfold cand
        rw [if_pos len]
        dsimp only
        rw [← hk, if_pos (by rw [hn]; rfl), show i - r.1.keys.length + (r.1.keys.length + 1) = i + 1 by omega]
        exact List.mem_singleton.mpr rfl
      · cases hq
theorem both_assoc (a b c : Sta × List Tel) : both a (both b c) = both (both a b) c := by unfold both; simp [List.append_assoc]
theorem cov_pressed (kl : ∀ b ∈ bs, b.keys.length ≤ 3) {i : Nat} {r : Sta × List Tel} (c : Cov h bs l i r) {p : Nm × Int} (hp : l[i]? = some p) (wait : Int) : Cov h bs l (i + 1) (both r (pressedP h bs wait r.1 p.1 p.2)) := by
  have c1 : Cov h bs l i (both r (passedP h bs wait r.1 p.2)) := by
    unfold passedP
    split
    · rename_i hk
      exact cov_settled c hk.1
    · have : both r (r.1, []) = r := by unfold both; simp
      rw [this]
      exact c
  unfold pressedP
  rw [both_assoc]
  have e1 : (both r (passedP h bs wait r.1 p.2)).1 = (passedP h bs wait r.1 p.2).1 := rfl
  rw [← e1]
  generalize both r (passedP h bs wait r.1 p.2) = u at c1
  unfold takenP
  cases hO : takenO h bs u.1 p.1 p.2 with
  | some q => exact cov_taken kl c1 hp hO
  | none =>
    have hne : u.1.keys ≠ [] := fun z => by
      obtain ⟨q, hq⟩ := takenO_empty (h := h) (bs := bs) u.1 p.1 p.2 z
      rw [hq] at hO
      cases hO
    have c2 := cov_settled c1 hne
    obtain ⟨q, hq⟩ := takenO_empty (h := h) (bs := bs) (settledP h bs u.1).1 p.1 p.2 (settled_empty _)
    dsimp only
    rw [hq, Option.getD_some, both_assoc]
    exact cov_taken (r := both u (settledP h bs u.1)) kl c2 hp hq
theorem cov_all (kl : ∀ b ∈ bs, b.keys.length ≤ 3) (wait : Int) : ∀ i, i ≤ l.length → Cov h bs l i (pressL h bs wait (l.take i) (beginP h, []))
  | 0, _ => ⟨Nat.le_refl _, Nat.zero_le _, rfl, List.mem_singleton.mpr rfl⟩
  | i + 1, hi => by
    have c := cov_all kl wait i (Nat.le_of_succ_le hi)
    have hp : l[i]? = some l[i] := List.getElem?_eq_getElem hi
    rw [List.take_succ, hp, pressL_app]
    exact cov_pressed kl c hp wait
/-- all told leads behind the last that is struck -/
theorem told_all (kl : ∀ b ∈ bs, b.keys.length ≤ 3) (wait : Int) : ∃ a, (a, l.length) ∈ places h bs l (runP h bs wait l) := by
  have c := cov_all (h := h) kl wait l.length (Nat.le_refl _)
  rw [List.take_length] at c
  unfold runP
  dsimp only
  obtain ⟨q1, q2⟩ := pass_settles (h := h) (bs := bs) (wait := wait) (s := (pressL h bs wait l (beginP h, [])).1) (fun _ => Int.le_refl _)
  revert c q1 q2
  generalize pressL h bs wait l (beginP h, []) = r
  intro c q1 q2
  rw [q2]
  by_cases hk : r.1.keys = []
  · rw [if_pos hk, List.append_nil]
    have := c.pl
    rw [hk] at this
    exact ⟨_, this⟩
  · rw [if_neg hk]
    have := (cov_settled c hk).pl
    unfold both at this
    dsimp only at this
    rw [settled_empty] at this
    exact ⟨_, this⟩
end
def encPl (p : Nm × Nat) : D := .tuple [st p.1, .int p.2]
theorem flat_int (i : Int) : Flat 0 (.int i) := ⟨by simp [KD.plain], by simp [PyData.depth]⟩
theorem in_ints (n : Nat) (l : List Nat) : inD (.int n) (.list (l.map fun k : Nat => PyData.int k)) = .ok (decide (n ∈ l)) := by
  rw [inD_lst ((flat_int n).shp (by decide)) ((flat_map (enc := fun k : Nat => PyData.int k) (k := 0) (fun k => flat_int k) l).shp (by decide)) (fun z => by simp)]
  congr 1
  rw [List.any_map, Bool.eq_iff_iff, List.any_eq_true, decide_eq_true_eq]
  constructor
  · rintro ⟨k, hk, e⟩
    have e : ((k : Int) == (n : Int)) = true := e
    have : (k : Int) = n := eq_of_beq e
    have : k = n := by omega
    exact this ▸ hk
  · intro hn
    exact ⟨n, hn, by simp [PyData.eqv]⟩
theorem places_in {h : House} {bs : List Bnd} {l : List (Nm × Int)} (c : CX h bs) (told : List Tel) : ∀ q ∈ places h bs l told, q.1 ∈ h.rooms.map (·.1) := by
  have : ∀ (told : List Tel) (pl : List (Nm × Nat)), (∀ p ∈ pl, p.1 ∈ h.rooms.map (·.1)) → ∀ q ∈ told.foldl (fun pl t => stepPl h bs l t pl) pl, q.1 ∈ h.rooms.map (·.1) := by
    intro told
    induction told with
    | nil => exact fun pl hp => hp
    | cons t told ih =>
      intro pl hp
      refine ih _ fun q hq => ?_
      have hq : q ∈ stepPl h bs l t pl := hq
      rw [step_eq, List.mem_flatMap] at hq
      obtain ⟨p, hpp, hq⟩ := hq
      have hr := hp p hpp
      have one : ∀ m, q ∈ cand h bs l t p m → q.1 ∈ h.rooms.map (·.1) := fun m hm => by
        unfold cand at hm
        split at hm
        · cases t with
          | deed d =>
            dsimp only at hm
            split at hm
            · rw [List.mem_singleton] at hm
              rw [hm]
              exact wayTo_in c hr d
            · cases hm
          | lost ks =>
            dsimp only at hm
            split at hm
            · rw [List.mem_singleton] at hm
              rw [hm]
              exact hr
            · cases hm
        · cases hm
      simp only [List.mem_append] at hq
      rcases hq with (hq | hq) | hq <;> exact one _ hq
  exact this told [(first h, 0)] fun p hp => by rw [List.mem_singleton] at hp; rw [hp]; exact first_in c
def wd : Tel → D
  | .deed _ => st [100, 101, 101, 100]
  | .lost _ => st [108, 111, 115, 116]
def wh : Tel → D
  | .deed d => st d
  | .lost ks => encK ks
theorem encT_eq (t : Tel) : encT t = .tuple [wd t, wh t] := by cases t <;> rfl
theorem eqD_O (a b : Option Nm) : eqD (encO a) (encO b) = .ok (decide (a = b)) := by
  have : eqD (encO a) (encO b) = .guard (shp (encO a) && shp (encO b)) (.ok (PyData.eqv (encO a) (encO b))) := by cases a <;> cases b <;> rfl
  rw [this, (flat_O a).shp (by decide), (flat_O b).shp (by decide), eqv_O]
  rfl
theorem cut_at (l : List (Nm × Int)) (a m : Nat) : cutL (l.map encPr) (some (a : Int)) (some ((a : Int) + (m : Int))) = ((l.drop a).take m).map encPr := by
  unfold cutL
  rw [List.length_map]
  have h1 : HT.sIx l.length 0 (some (a : Int)) = min a l.length := HT.sIx_nat _ _ a
  have h2 : HT.sIx l.length l.length (some ((a : Int) + (m : Int))) = min (a + m) l.length := by
    rw [show ((a : Int) + (m : Int)) = ((a + m : Nat) : Int) by omega]
    exact HT.sIx_nat _ _ (a + m)
  rw [h1, h2, ← List.map_drop, ← List.map_take]
  congr 1
  rcases Nat.le_total a l.length with h | h
  · rw [Nat.min_eq_left h]
    rcases Nat.le_total (a + m) l.length with h' | h'
    · rw [Nat.min_eq_left h', Nat.add_sub_cancel_left]
    · rw [Nat.min_eq_right h', List.take_of_length_le (by rw [List.length_drop]; omega), List.take_of_length_le (by rw [List.length_drop]; omega)]
  · rw [Nat.min_eq_right h, List.drop_of_length_le h, List.drop_of_length_le (Nat.le_refl _)]
    simp
end KP
/-! KdL40: hints. -/
namespace KP
open PySem hiding Env Flow
open KD
variable {h : House} {bs : List Bnd}
inductive Hint where
  | deed (d : Nm)
  | both (d : Nm)
  | on
  deriving DecidableEq
def encHi : Hint → D
  | .deed d => .tuple [st [100, 101, 101, 100], st d]
  | .both d => .tuple [st [98, 111, 116, 104], st d]
  | .on => .tuple [st [111, 110]]
def encHP (p : Nm × Hint) : D := .tuple [st p.1, encHi p.2]
/-- whether a row goes on behind keys -/
def rowOn (w : Ky) (p : Ky × Nm) : Bool := decide (w.length < p.1.length) && decide (p.1.take w.length = w)
def nextK (w : Ky) (p : Ky × Nm) : Nm := (p.1[w.length]?).getD []
def nexts (bk : List (Ky × Nm)) (w : Ky) : List Nm := (bk.filter (rowOn w)).map (nextK w)
def hintP (bk : List (Ky × Nm)) (w : Ky) (k : Nm) : Hint := match aget bk (w ++ [k]) with
  | none => .on
  | some d => if goesOn bk (w ++ [k]) = true then .both d else .deed d
def hintsP (bk : List (Ky × Nm)) (w : Ky) : List (Nm × Hint) := ((dedupT (nexts bk w)).mergeSort (leE st)).map fun k => (k, hintP bk w k)
theorem goes_any (bk : List (Ky × Nm)) (w : Ky) : goesOn bk w = bk.any (rowOn w) := rfl
theorem goes_perm {l m : List (Ky × Nm)} (pm : l.Perm m) (w : Ky) : goesOn l w = goesOn m w := by
  rw [goes_any, goes_any, Bool.eq_iff_iff, List.any_eq_true, List.any_eq_true]
  exact ⟨fun ⟨p, hp, e⟩ => ⟨p, pm.mem_iff.mp hp, e⟩, fun ⟨p, hp, e⟩ => ⟨p, pm.mem_iff.mpr hp, e⟩⟩
theorem rowOn_split {w : Ky} {p : Ky × Nm} (hp : rowOn w p = true) : p.1.take (w.length + 1) = w ++ [nextK w p] ∧ w.length < p.1.length := by
  unfold rowOn at hp
  rw [Bool.and_eq_true, decide_eq_true_eq, decide_eq_true_eq] at hp
  obtain ⟨h1, h2⟩ := hp
  refine ⟨?_, h1⟩
  rw [List.take_succ, h2]
  congr 1
  unfold nextK
  rw [List.getElem?_eq_getElem h1]
  rfl
/-- a key that comes next leads on, or to a deed -/
theorem next_leads {bk : List (Ky × Nm)} (nd : (bk.map (·.1)).Nodup) {w : Ky} {k : Nm} : k ∈ nexts bk w ↔ goesOn bk (w ++ [k]) = true ∨ (aget bk (w ++ [k])).isSome = true := by
  unfold nexts
  rw [List.mem_map]
  constructor
  · rintro ⟨p, hp, rfl⟩
    rw [List.mem_filter] at hp
    obtain ⟨h1, h2⟩ := rowOn_split hp.2
    by_cases hl : w.length + 1 < p.1.length
    · refine .inl ?_
      rw [goes_any, List.any_eq_true]
      refine ⟨p, hp.1, ?_⟩
      unfold rowOn
      rw [List.length_append, List.length_singleton, h1]
      simp [hl]
    · refine .inr ?_
      have : p.1.length ≤ w.length + 1 := by omega
      rw [List.take_of_length_le this] at h1
      rw [← h1, aget_of nd (b := p.2) hp.1]
      rfl
  · rintro (hg | hs)
    · rw [goes_any, List.any_eq_true] at hg
      obtain ⟨p, hp, e⟩ := hg
      unfold rowOn at e
      rw [Bool.and_eq_true, decide_eq_true_eq, decide_eq_true_eq, List.length_append, List.length_singleton] at e
      have e2 : p.1.take w.length = w := by
        have := congrArg (List.take w.length) e.2
        rw [List.take_take, Nat.min_eq_left (by omega), List.take_left'  rfl] at this
        exact this
      have on : rowOn w p = true := by
        unfold rowOn
        rw [e2]
        simp
        omega
      refine ⟨p, List.mem_filter.mpr ⟨hp, on⟩, ?_⟩
      have := (rowOn_split on).1
      rw [e.2] at this
      have := List.append_cancel_left this
      exact (List.cons.inj this).1.symm
    · obtain ⟨d, hd⟩ := Option.isSome_iff_exists.mp hs
      have hm := aget_mem hd
      have on : rowOn w (w ++ [k], d) = true := by
        unfold rowOn
        simp
      exact ⟨_, List.mem_filter.mpr ⟨hm, on⟩, by unfold nextK; simp⟩
theorem hint_perm {l m : List (Ky × Nm)} (n1 : (l.map (·.1)).Nodup) (pm : l.Perm m) (w : Ky) (k : Nm) : hintP l w k = hintP m w k := by
  have n2 : (m.map (·.1)).Nodup := (pm.map _).nodup_iff.mp n1
  have e : aget l (w ++ [k]) = aget m (w ++ [k]) := by
    cases hg : aget l (w ++ [k]) with
    | some d => exact (aget_of n2 (pm.mem_iff.mp (aget_mem hg))).symm
    | none =>
      cases hm : aget m (w ++ [k]) with
      | none => rfl
      | some d =>
        have := aget_of n1 (pm.mem_iff.mpr (aget_mem hm))
        rw [hg] at this
        cases this
  unfold hintP
  rw [e, goes_perm pm]
/-! in the text -/
theorem ev_goesG {β : Type} (evb : β → D) (n : Nat) (l : List (Ky × β)) (ks : Ky) : evFn PP WF (n + 1) 60 [dD EK evb l, encK ks] = .ok (.bool (l.any fun p => decide (ks.length < p.1.length) && decide (p.1.take ks.length = ks))) := by
  have := ev_open (n := n) (f := 60) (fn := f60_goes_on) (ds := [dD EK evb l, encK ks]) rfl rfl
  unfold Ev at this
  rw [this]
  have hw : walkD .seq [dD EK evb l] = .ok (l.map fun p => encK p.1) := keys_d (E := EK) (ev := evb) l
  simp [f60_goes_on, hw]
  rw [compF_all (fun p : Ky × β => encK p.1) (fun p => .bool (decide (ks.length < p.1.length) && decide (p.1.take ks.length = ks))) fun p _ => by
    by_cases h1 : ks.length < p.1.length
    · simp [cstep, len_K, h1, cut_K, eqD_K]
    · simp [cstep, len_K, h1]]
  rw [R.bind_ok, any_map (fun p : Ky × β => decide (ks.length < p.1.length) && decide (p.1.take ks.length = ks))]
  simp
theorem ix_K (ks : Ky) (k : Nat) (hk : k < ks.length) : ixD (encK ks) (.int k) = .ok (st ((ks[k]?).getD [])) := by
  unfold encK
  rw [ix_tup, atI_nat', List.getElem?_map, List.getElem?_eq_getElem hk]
  rfl
theorem sortable_N (l : List Nm) : sortable (l.map st) = true := by
  unfold sortable alikes
  simp only [Bool.and_eq_true, Bool.or_eq_true, List.all_eq_true, List.mem_map]
  refine ⟨⟨?_, .inr ?_⟩, ?_⟩
  · rintro _ ⟨a, _, rfl⟩ _ ⟨b, _, rfl⟩
    rfl
  · rintro _ ⟨a, _, rfl⟩
    rfl
  · rintro _ ⟨a, _, rfl⟩
    exact (flat_st a).shp (by decide)
theorem nexts_len (bk : List (Ky × Nm)) (w : Ky) : (nexts bk w).length ≤ bk.length := by
  unfold nexts
  rw [List.length_map]
  exact List.length_filter_le _ _
theorem rows_few (m : MG bs) (a : Nm) : (rowsP h bs a).length < 64 := by
  have h1 := (rows_keys (h := h) (bs := bs) (a := a)).length_le
  rw [List.length_map] at h1
  have h2 := (List.mergeSort_perm (dedupT (bs.map (·.keys))) (leE encK)).length_eq
  have h3 : ∀ l : List Ky, (dedupT l).length ≤ l.length := by
    intro l
    induction l with
    | nil => exact Nat.le_refl _
    | cons x l ih =>
      rw [dedupT, List.length_cons, List.length_cons]
      exact Nat.succ_le_succ (Nat.le_trans (List.length_filter_le _ _) ih)
  have h4 := h3 (bs.map (·.keys))
  rw [List.length_map] at h4
  unfold keysS at h1
  have := m.len
  omega
theorem ev_hints (n : Nat) (c : CX h bs) {s : Sta} (g : GS h s) : evFn PP WF (n + 4) 78 [encH h, encM bs, encS s] = .ok (.tuple ((hintsP (rowsP h bs s.room) s.keys).map encHP)) := by
  have := ev_open (n := n + 3) (f := 78) (fn := f78_hints) (ds := [encH h, encM bs, encS s]) rfl rfl
  unfold Ev at this
  rw [this]
  have hro := ev_rows n c.ok c.m.len c.m.ne g.room
  have hgo : ∀ l ks, evFn PP WF (n + 3) 60 [dD EK st l, encK ks] = .ok (.bool (goesOn l ks)) := fun l ks => ev_goes (n + 2) l ks
  have hw : walkD .seq [dD EK st (rowsP h bs s.room)] = .ok ((rowsP h bs s.room).map fun p => encK p.1) := keys_d (E := EK) (ev := st) _
  have dct1 : ∀ r : Ky, dputs [] [(encK r, PyData.bool true)] = some [(encK r, PyData.bool true)] := fun r => puts_d (E := EK) (ev := fun b : Bool => PyData.bool b) [(r, true)] []
  have few := rows_few (h := h) c.m s.room
  have nl := nexts_len (rowsP h bs s.room) s.keys
  have hl9 := g.len
  have hss : bltD .sortedSet [.list ((nexts (rowsP h bs s.room) s.keys).map st)] = .ok (.list (((dedupT (nexts (rowsP h bs s.room) s.keys)).mergeSort (leE st)).map st)) := sset_enc EN (by omega) (sortable_N _)
  unfold encS
  simp [f78_hints, hro, rows_dict, hw]
  rw [compF_some (fun p : Ky × Nm => encK p.1) (fun p => st (nextK s.keys p)) (rowOn s.keys) fun p _ => by
    have hd : evFn PP WF (n + 3) 60 [.dict [(encK p.1, PyData.bool true)], encK s.keys] = .ok (.bool (([(p.1, true)] : List (Ky × Bool)).any fun p => decide (s.keys.length < p.1.length) && decide (p.1.take s.keys.length = s.keys))) := ev_goesG (fun b : Bool => PyData.bool b) (n + 2) [(p.1, true)] s.keys
    have e : ([(p.1, true)] : List (Ky × Bool)).any (fun p => decide (s.keys.length < p.1.length) && decide (p.1.take s.keys.length = s.keys)) = rowOn s.keys p := by
      unfold rowOn
      simp
    rw [e] at hd
    by_cases h1 : rowOn s.keys p = true
    · have h2 := ix_K p.1 s.keys.length (rowOn_split h1).2
      simp [cstep, h1, dct1, hd, len_K, h2, nextK]
    · rw [Bool.not_eq_true] at h1
      simp [cstep, h1, dct1, hd]]
  rw [show ((rowsP h bs s.room).filter (rowOn s.keys)).map (fun p => st (nextK s.keys p)) = (nexts (rowsP h bs s.room) s.keys).map st by unfold nexts; rw [List.map_map]; rfl]
  rw [R.bind_ok, hss]
  simp
  have kl : ((dedupT (nexts (rowsP h bs s.room) s.keys)).mergeSort (leE st)).length ≤ 64 := by
    rw [(List.mergeSort_perm _ _).length_eq]
    have h3 : ∀ l : List Nm, (dedupT l).length ≤ l.length := by
      intro l
      induction l with
      | nil => exact Nat.le_refl _
      | cons x l ih =>
        rw [dedupT, List.length_cons, List.length_cons]
        exact Nat.succ_le_succ (Nat.le_trans (List.length_filter_le _ _) ih)
    have := h3 (nexts (rowsP h bs s.room) s.keys)
    omega
  refine bind_foldI (P := fun r : R D => r = .ok (.tuple ((hintsP (rowsP h bs s.room) s.keys).map encHP))) st (fun l : List (Nm × Hint) => [some (.val (encH h)), some (.val (encM bs)), some (.val (encS s)), some (.val (dD EK st (rowsP h bs s.room))), some (.own (.list (l.map encHP))), none, some (.val (st s.room)), some (.val (encK s.keys)), some (.val (.int s.since)), none, none])
    (fun k l => l ++ [(k, hintP (rowsP h bs s.room) s.keys k)]) (fun i l => l.length ≤ i) [] (Nat.le_refl _) (fun i k hk l hl => ?_) fun _ => ?_
  · have hi := (List.getElem?_eq_some_iff.mp hk).1
    have hm : k ∈ nexts (rowsP h bs s.room) s.keys := dedupT_mem.mp ((List.mergeSort_perm _ _).mem_iff.mp (List.mem_of_getElem? hk))
    have lead := (next_leads rows_nodup).mp hm
    have ha := add_K s.keys k (by omega)
    have hll : l.length < lim := by show _ < 1000000; omega
    refine ⟨?_, by rw [List.length_append]; simp; omega⟩
    unfold hintP
    cases hgg : goesOn (rowsP h bs s.room) (s.keys ++ [k]) with
    | false =>
      rw [hgg] at lead
      obtain ⟨d, hd⟩ := Option.isSome_iff_exists.mp (lead.resolve_left (by decide))
      simp [fstep, ha, hgo, hgg, ix_rows, hd, hll, encHP, encHi, encS]
    | true =>
      cases hag : aget (rowsP h bs s.room) (s.keys ++ [k]) with
      | some d => simp [fstep, ha, hgo, hgg, in_rows, ix_rows, hag, hll, encHP, encHi, encS]
      | none => simp [fstep, ha, hgo, hgg, in_rows, hag, hll, encHP, encHi, encS]
  · have hf : ∀ (l : List Nm) (acc : List (Nm × Hint)), l.foldl (fun l k => l ++ [(k, hintP (rowsP h bs s.room) s.keys k)]) acc = acc ++ l.map fun k => (k, hintP (rowsP h bs s.room) s.keys k) := by
      intro l
      induction l with
      | nil => intro acc; simp
      | cons a l ih => intro acc; rw [List.foldl_cons, ih]; simp
    rw [hf, List.nil_append]
    simp [hintsP]
/-! the law's own hints -/
def dueP (bk : List (Ky × Nm)) (w : Ky) : List (Nm × Hint) := bk.foldl (fun l p => if rowOn w p = true then aset l (nextK w p) (hintP bk w (nextK w p)) else l) []
theorem due_fold (g : Nm → Hint) (w : Ky) : ∀ (ps : List (Ky × Nm)) (acc : List (Nm × Hint)), (acc.map (·.1)).Nodup → (∀ q ∈ acc, q.2 = g q.1) →
    ((ps.foldl (fun l p => if rowOn w p = true then aset l (nextK w p) (g (nextK w p)) else l) acc).map (·.1)).Nodup ∧
    ∀ q, q ∈ ps.foldl (fun l p => if rowOn w p = true then aset l (nextK w p) (g (nextK w p)) else l) acc ↔ q ∈ acc ∨ (q.1 ∈ nexts ps w ∧ q.2 = g q.1)
  | [], acc, h1, h2 => ⟨h1, fun q => ⟨.inl, fun z => z.elim id fun z => (nomatch z.1)⟩⟩
  | p :: ps, acc, h1, h2 => by
    rw [List.foldl_cons]
    by_cases hp : rowOn w p = true
    · rw [if_pos hp]
      have h2' : ∀ q ∈ aset acc (nextK w p) (g (nextK w p)), q.2 = g q.1 := fun q hq => by
        rcases aset_mem hq with rfl | hq
        · rfl
        · exact h2 q hq
      have e : nexts (p :: ps) w = nextK w p :: nexts ps w := by unfold nexts; rw [List.filter_cons, if_pos hp, List.map_cons]
      obtain ⟨i1, i2⟩ := due_fold g w ps _ (aset_nodup h1) h2'
      refine ⟨i1, fun q => (i2 q).trans ?_⟩
      rw [e, List.mem_cons]
      have one : ∀ k, k ∈ (aset acc (nextK w p) (g (nextK w p))).map (·.1) → (k, g k) ∈ aset acc (nextK w p) (g (nextK w p)) := fun k hk => by
        obtain ⟨q, hq, rfl⟩ := List.mem_map.mp hk
        have := h2' q hq
        rw [← this]
        exact hq
      constructor
      · rintro (hq | hq)
        · rcases aset_mem hq with rfl | hq
          · exact .inr ⟨.inl rfl, rfl⟩
          · exact .inl hq
        · exact .inr ⟨.inr hq.1, hq.2⟩
      · rintro (hq | ⟨hk | hk, hq⟩)
        · refine .inl ?_
          have := one q.1 (by
            by_cases z : nextK w p ∈ acc.map (·.1)
            · rw [aset_keys z]; exact List.mem_map.mpr ⟨q, hq, rfl⟩
            · rw [aset_new z, List.map_append]; exact List.mem_append_left _ (List.mem_map.mpr ⟨q, hq, rfl⟩))
          rw [← h2 q hq] at this
          exact this
        · refine .inl ?_
          have := aget_aset (l := acc) (a := q.1) (c := q.1) (b := g q.1)
          rw [if_pos rfl] at this
          have := aget_mem this
          rw [← hk]
          rw [← hq] at this ⊢
          exact this
        · exact .inr ⟨hk, hq⟩
    · rw [if_neg hp]
      have e : nexts (p :: ps) w = nexts ps w := by unfold nexts; rw [List.filter_cons, if_neg hp]
      rw [e]
      exact due_fold g w ps acc h1 h2
theorem due_good (bk : List (Ky × Nm)) (w : Ky) : ((dueP bk w).map (·.1)).Nodup ∧ ∀ q, q ∈ dueP bk w ↔ q.1 ∈ nexts bk w ∧ q.2 = hintP bk w q.1 := by
  obtain ⟨h1, h2⟩ := due_fold (hintP bk w) w bk [] List.nodup_nil (fun q hq => nomatch hq)
  exact ⟨h1, fun q => (h2 q).trans ⟨fun z => z.elim (fun z => nomatch z) id, .inr⟩⟩
theorem due_get (bk : List (Ky × Nm)) (w : Ky) (k : Nm) : aget (dueP bk w) k = if k ∈ nexts bk w then some (hintP bk w k) else none := by
  obtain ⟨h1, h2⟩ := due_good bk w
  split
  · rename_i hk
    exact aget_of h1 ((h2 (k, _)).mpr ⟨hk, rfl⟩)
  · rename_i hk
    rw [aget_none]
    intro z
    obtain ⟨q, hq, rfl⟩ := List.mem_map.mp z
    exact hk ((h2 q).mp hq).1
theorem nexts_perm {l m : List (Ky × Nm)} (pm : l.Perm m) (w : Ky) (k : Nm) : k ∈ nexts l w ↔ k ∈ nexts m w := ((pm.filter _).map _).mem_iff
theorem hints_nodup (bk : List (Ky × Nm)) (w : Ky) : ((hintsP bk w).map (·.1)).Nodup := by
  unfold hintsP
  rw [List.map_map]
  show (List.map id _).Nodup
  rw [List.map_id]
  exact (List.mergeSort_perm _ _).nodup_iff.mpr dedupT_nodup
theorem hints_mem (bk : List (Ky × Nm)) (w : Ky) (q : Nm × Hint) : q ∈ hintsP bk w ↔ q.1 ∈ nexts bk w ∧ q.2 = hintP bk w q.1 := by
  unfold hintsP
  rw [List.mem_map]
  constructor
  · rintro ⟨k, hk, rfl⟩
    exact ⟨dedupT_mem.mp ((List.mergeSort_perm _ _).mem_iff.mp hk), rfl⟩
  · rintro ⟨h1, h2⟩
    exact ⟨q.1, (List.mergeSort_perm _ _).mem_iff.mpr (dedupT_mem.mpr h1), Prod.ext rfl h2.symm⟩
theorem eqv_Hi (a b : Hint) : PyData.eqv (encHi a) (encHi b) = decide (a = b) := by
  cases a <;> cases b <;> simp only [encHi, PyData.eqv, PyData.eqvAll, eqv_st, Bool.and_true] <;> rw [Bool.eq_iff_iff] <;> simp
theorem flat_Hi (a : Hint) : Flat 2 (encHi a) := by
  cases a <;> refine Flat.tup fun x hx => ?_ <;> simp only [List.mem_cons, List.not_mem_nil, or_false] at hx
  · rcases hx with rfl | rfl <;> exact (flat_st _).up (by decide)
  · rcases hx with rfl | rfl <;> exact (flat_st _).up (by decide)
  · rw [hx]; exact (flat_st _).up (by decide)
theorem eqv_HP (a b : Nm × Hint) : PyData.eqv (encHP a) (encHP b) = decide (a = b) := by
  simp only [encHP, PyData.eqv, PyData.eqvAll, eqv_st, eqv_Hi, Bool.and_true]
  rw [Bool.eq_iff_iff]
  simp [Prod.ext_iff]
theorem flat_HP (a : Nm × Hint) : Flat 3 (encHP a) := Flat.tup fun x hx => by
  simp only [List.mem_cons, List.not_mem_nil, or_false] at hx
  rcases hx with rfl | rfl
  · exact (flat_st _).up (by decide)
  · exact flat_Hi _
theorem key_HP (p : Nm × Hint) : ∃ k, keyOf (encHP p) = some k := by
  obtain ⟨a, b⟩ := p
  cases b <;> simp [encHP, encHi, keyOf, keysOf, st]
theorem alike_Hi (a b : Hint) : W.alike (encHi a) (encHi b) = true := by cases a <;> cases b <;> rfl
theorem alike_HP (a b : Nm × Hint) : W.alike (encHP a) (encHP b) = true := by
  unfold encHP
  rw [W.alike, W.alikeAll, W.alikeAll, alike_Hi]
  rfl
theorem sortable_HP (l : List (Nm × Hint)) : sortable (l.map encHP) = true := by
  unfold sortable alikes
  simp only [Bool.and_eq_true, Bool.or_eq_true, List.all_eq_true, List.mem_map]
  refine ⟨⟨?_, .inl ?_⟩, ?_⟩
  · rintro _ ⟨a, _, rfl⟩ _ ⟨b, _, rfl⟩
    exact alike_HP a b
  · rintro _ ⟨a, ha, rfl⟩
    rfl
  · rintro _ ⟨a, _, rfl⟩
    exact (flat_HP a).shp (by decide)
theorem HP_le {p q : Nm × Hint} (h : leE st p.1 q.1 = true) (ne : p.1 ≠ q.1) : leqD (encHP p) (encHP q) = true := by
  unfold leE leqD at h
  unfold leqD
  rw [Bool.not_eq_true'] at h ⊢
  unfold encHP
  rw [W.dataLt_pair (by rfl) (alike_Hi _ _), eqv_st, if_neg (by rw [decide_eq_true_eq]; exact fun e => ne e.symm)]
  exact h
theorem hints_sorted (bk : List (Ky × Nm)) (w : Ky) : ((hintsP bk w).map encHP).Pairwise fun x y => leqD x y = true := by
  have h1 : ((hintsP bk w).map (·.1)).Pairwise fun x y => leE st x y = true := by
    unfold hintsP
    rw [List.map_map]
    show (List.map id _).Pairwise _
    rw [List.map_id]
    exact List.pairwise_mergeSort (leE_trans st) (leE_total st) _
  have h2 := hints_nodup bk w
  rw [List.pairwise_map] at h1 ⊢
  rw [List.Nodup, List.pairwise_map] at h2
  exact (h1.and h2).imp fun z => HP_le z.1 z.2
theorem due_sorted (bk bk' : List (Ky × Nm)) (n1 : (bk.map (·.1)).Nodup) (pm : bk.Perm bk') (w : Ky) : sortD ((dueP bk w).map encHP) = .ok (.list ((hintsP bk' w).map encHP)) := by
  obtain ⟨i1, i2⟩ := due_good bk w
  have pm2 : (dueP bk w).Perm (hintsP bk' w) := (List.perm_ext_iff_of_nodup (nodup_fst i1) (nodup_fst (hints_nodup _ _))).mpr fun q => by
    rw [i2, hints_mem, nexts_perm pm, hint_perm n1 pm]
  rw [sortD_perm (pm2.map encHP) (fun d hd => by obtain ⟨p, _, rfl⟩ := List.mem_map.mp hd; exact key_HP p)]
  unfold sortD
  rw [sortable_HP, R.guard_true, sorted_same (hints_sorted _ _)]
theorem aset_twice {κ β : Type} [DecidableEq κ] (l : List (κ × β)) (a : κ) (b c : β) : aset (aset l a b) a c = aset l a c := by
  induction l with
  | nil => simp [aset]
  | cons p r ih =>
    rw [aset, aset]
    by_cases h : p.1 = a
    · rw [if_pos h, if_pos h, aset, if_pos h]
    · rw [if_neg h, if_neg h, aset, if_neg h, ih]
end KP
/-! KdL41: steps to deeds. -/
namespace KP
open PySem hiding Env Flow
open KD
variable {h : House} {bs : List Bnd}
/-! states as keys -/
def kS (s : Sta) : NestedKey := .tup [kT s.room, kK s.keys, .num s.since]
theorem key_S (s : Sta) : keyOf (encS s) = some (kS s) := by
  unfold encS kS
  rw [keyOf, keysOf, keysOf, keysOf, key_K]
  simp [st, keyOf, kT, keysOf]
theorem kS_inj (a b : Sta) (e : kS a = kS b) : a = b := by
  unfold kS at e
  simp only [NestedKey.tup.injEq, List.cons.injEq, NestedKey.num.injEq, and_true] at e
  obtain ⟨r, k, i⟩ := a
  obtain ⟨r', k', i'⟩ := b
  simp only at e
  rw [kT_inj _ _ e.1, kK_inj _ _ e.2.1, e.2.2]
def ES : KE Sta := ⟨encS, kS, 1, key_S, kS_inj, fun a => rfl, by decide, fun a => by simp [kS, kK, kT, NestedKey.depth, NestedKey.depthAll, depth_kT]⟩
theorem dedup_len41 {α : Type} [DecidableEq α] : ∀ l : List α, (dedupT l).length ≤ l.length
  | [] => Nat.le_refl _
  | x :: l => by
    rw [dedupT, List.length_cons, List.length_cons]
    exact Nat.succ_le_succ (Nat.le_trans (List.length_filter_le _ _) (dedup_len41 l))
/-! keys of a map -/
def flatK (bs : List Bnd) : List Nm := bs.flatMap (·.keys)
def keysM (bs : List Bnd) : List Nm := (dedupT (flatK bs)).mergeSort (leE st)
theorem keysM_mem {k : Nm} : k ∈ keysM bs ↔ k ∈ flatK bs := by
  unfold keysM
  rw [(List.mergeSort_perm _ _).mem_iff, dedupT_mem]
theorem keysM_len : (keysM bs).length ≤ (flatK bs).length := by
  unfold keysM
  rw [(List.mergeSort_perm _ _).length_eq]
  exact dedup_len41 _
theorem ev_allkeys (n : Nat) (hl : (flatK bs).length < 64) : evFn PP WF (n + 1) 73 [encM bs] = .ok (.list ((keysM bs).map st)) := by
  have := ev_open (n := n) (f := 73) (fn := f73_all_keys) (ds := [encM bs]) rfl rfl
  unfold Ev at this
  rw [this]
  have hss : bltD .sortedSet [.list ((flatK bs).map st)] = .ok (.list ((keysM bs).map st)) := sset_enc EN hl (sortable_N _)
  simp [f73_all_keys, isCont]
  rw [show PyData.list [] = .list (([] : List Nm).map st) from rfl]
  refine bind_foldI (P := fun r => r = R.ok (PyData.list ((keysM bs).map st))) encB (fun l : List Nm => [some (.val (encM bs)), some (.own (.list (l.map st))), none]) (fun b l => l ++ b.keys) (fun i l => l = flatK (bs.take i)) [] rfl (fun i b hb l hl2 => ?_) fun hj => ?_
  · have hi := (List.getElem?_eq_some_iff.mp hb).1
    have e : flatK (bs.take (i + 1)) = l ++ b.keys := by
      unfold flatK at hl2 ⊢
      rw [List.take_succ, hb, List.flatMap_append, ← hl2]
      simp
    have hlen : l.length + b.keys.length ≤ (flatK bs).length := by
      have h1 : (flatK (bs.take (i + 1))).length ≤ (flatK bs).length := by
        unfold flatK
        have := congrArg (fun z => (List.flatMap (fun b : Bnd => b.keys) z).length) (List.take_append_drop (i + 1) bs)
        simp only [List.flatMap_append, List.length_append] at this
        omega
      rw [e, List.length_append] at h1
      exact h1
    have hix : ixD (encB b) (.int 1) = .ok (.tuple (b.keys.map st)) := by
      unfold encB
      rw [ix_tup, atI_1]
      rfl
    refine ⟨?_, e.symm⟩
    have hg : l.length + b.keys.length ≤ lim := by show _ ≤ 1000000; omega
    simp [fstep, hix, extD, hg]
  · rw [List.take_length] at hj
    rw [hj]
    simp [hss]
/-! all steps from a state -/
def waitT : Nm := [119, 97, 105, 116]
def stepsP (h : House) (bs : List Bnd) (s : Sta) : List (Nm × Sta × List Tel) := (keysM bs).map (fun k => (k, takenP h bs s k 0)) ++ (if s.keys = [] then [] else [(waitT, settledP h bs s)])
def encSt (x : Nm × Sta × List Tel) : D := .tuple [st x.1, encS x.2.1, encTs x.2.2]
theorem ev_steps (n : Nat) (c : CX h bs) {s : Sta} (g : GS h s) (hl : (flatK bs).length < 64) : evFn PP WF (n + 7) 74 [encH h, encM bs, encS s] = .ok (.list ((stepsP h bs s).map encSt)) := by
  have := ev_open (n := n + 6) (f := 74) (fn := f74_steps_from) (ds := [encH h, encM bs, encS s]) rfl rfl
  unfold Ev at this
  rw [this]
  have hk := ev_allkeys (n + 5) hl
  have ht := fun key => ev_taken n c g key 0
  have hse := ev_settled (n + 2) c g
  generalize hcall : evFn PP WF (n + 6) = call at *
  have hkl : (keysM bs).length < 64 := Nat.lt_of_le_of_lt keysM_len hl
  have h1 : ixD (encS s) (.int 1) = .ok (encK s.keys) := by
    unfold encS
    rw [ix_tup, atI_1]
    rfl
  simp [f74_steps_from, hk, isCont]
  have hz : PyData.list [] = .list (([] : List (Nm × Sta × List Tel)).map encSt) := rfl
  rw [hz]
  refine bind_foldI (P := fun r => r = R.ok (PyData.list ((stepsP h bs s).map encSt))) st (fun l : List (Nm × Sta × List Tel) => [some (.val (encH h)), some (.val (encM bs)), some (.val (encS s)), some (.own (.list (l.map encSt))), none, none, none]) (fun k l => l ++ [(k, takenP h bs s k 0)]) (fun i l => l.length = i) [] rfl (fun i k hk2 l hl2 => ?_) fun hj => ?_
  · have hi := (List.getElem?_eq_some_iff.mp hk2).1
    refine ⟨?_, by rw [List.length_append, List.length_singleton, hl2]⟩
    have hg : l.length < lim := by show _ < 1000000; omega
    have e : encM2 (takenP h bs s k 0) = .tuple [encS (takenP h bs s k 0).1, encTs (takenP h bs s k 0).2] := rfl
    simp [fstep, ht, e, hg, encSt]
  · have hf : ∀ (l : List Nm) (acc : List (Nm × Sta × List Tel)), l.foldl (fun l k => l ++ [(k, takenP h bs s k 0)]) acc = acc ++ l.map fun k => (k, takenP h bs s k 0) := by
      intro l
      induction l with
      | nil => intro acc; simp
      | cons b l ih => intro acc; rw [List.foldl_cons, ih]; simp
    rw [hf, List.nil_append]
    unfold stepsP
    have e : encM2 (settledP h bs s) = .tuple [encS (settledP h bs s).1, encTs (settledP h bs s).2] := rfl
    have hg : ((keysM bs).map fun k => (k, takenP h bs s k 0)).length < lim := by rw [List.length_map]; show _ < 1000000; omega
    generalize (keysM bs).map (fun k => (k, takenP h bs s k 0)) = tk at *
    by_cases q : s.keys = []
    · have hlen : bltD .len [encK s.keys] = .ok (.int 0) := by rw [q]; rfl
      rw [if_pos q]
      simp [h1, hlen]
    · have hlen := len_K s.keys
      have hpos : (0 : Int) < (s.keys.length : Int) := by
        have := List.length_pos_iff.mpr q
        omega
      rw [if_neg q]
      have hp : 0 < s.keys.length := List.length_pos_iff.mpr q
      simp [h1, hlen, hp, hse, e, hg, encSt, waitT]
/-! the law's own steps -/
abbrev LU := List (Nm × Unit)
def lkD (bs : List Bnd) : LU := bs.foldl (fun l b => b.keys.foldl (fun l k => aset l k ()) l) []
def lkeysM (bs : List Bnd) : List Nm := (lkD bs).map (·.1)
theorem aset_fold_mem : ∀ (ks : List Nm) (l : LU) (c : Nm), c ∈ (ks.foldl (fun l k => aset l k ()) l).map (·.1) ↔ c ∈ ks ∨ c ∈ l.map (·.1)
  | [], l, c => by simp
  | k :: ks, l, c => by
    rw [List.foldl_cons, aset_fold_mem ks, keys_aset, List.mem_cons]
    constructor
    · rintro (z | z | z)
      · exact .inl (.inr z)
      · exact .inl (.inl z)
      · exact .inr z
    · rintro ((z | z) | z)
      · exact .inr (.inl z)
      · exact .inl z
      · exact .inr (.inr z)
theorem aset_fold_len : ∀ (ks : List Nm) (l : LU), (ks.foldl (fun l k => aset l k ()) l).length ≤ l.length + ks.length
  | [], l => Nat.le_refl _
  | k :: ks, l => by
    rw [List.foldl_cons, List.length_cons]
    have h1 := aset_fold_len ks (aset l k ())
    have h2 := len_aset (l := l) (a := k) (b := ())
    omega
theorem lkeys_mem {k : Nm} : k ∈ lkeysM bs ↔ k ∈ flatK bs := by
  have gen : ∀ (bs : List Bnd) (l : LU), k ∈ (bs.foldl (fun l b => b.keys.foldl (fun l k => aset l k ()) l) l).map (·.1) ↔ k ∈ flatK bs ∨ k ∈ l.map (·.1) := by
    intro bs
    induction bs with
    | nil => intro l; simp [flatK]
    | cons b bs ih =>
      intro l
      rw [List.foldl_cons, ih, aset_fold_mem]
      unfold flatK
      rw [List.flatMap_cons, List.mem_append]
      constructor
      · rintro (z | z | z)
        · exact .inl (.inr z)
        · exact .inl (.inl z)
        · exact .inr z
      · rintro ((z | z) | z)
        · exact .inr (.inl z)
        · exact .inl z
        · exact .inr (.inr z)
  have := gen bs []
  unfold lkeysM lkD
  rw [this]
  simp
def stepsL (h : House) (bs : List Bnd) (s : Sta) : List (Nm × Sta × List Tel) := (lkeysM bs).map (fun k => (k, takenP h bs s k 0)) ++ (if s.keys = [] then [] else [(waitT, settledP h bs s)])
def encSl (x : Nm × Sta × List Tel) : D := .tuple [st x.1, encS x.2.1, .list (x.2.2.map encT)]
theorem steps_same (s : Sta) : ∀ x, x ∈ stepsP h bs s ↔ x ∈ stepsL h bs s := fun x => by
  unfold stepsP stepsL
  rw [List.mem_append, List.mem_append, List.mem_map, List.mem_map]
  constructor
  · rintro (⟨k, hk, e⟩ | z)
    · exact .inl ⟨k, lkeys_mem.mpr (keysM_mem.mp hk), e⟩
    · exact .inr z
  · rintro (⟨k, hk, e⟩ | z)
    · exact .inl ⟨k, keysM_mem.mpr (lkeys_mem.mp hk), e⟩
    · exact .inr z
theorem pressed_now (s : Sta) (hs : s.since = 0) (k : Nm) : pressedP h bs 9 s k 0 = takenP h bs s k 0 := by
  unfold pressedP passedP
  rw [hs, if_neg (by omega)]
  rfl
theorem lkD_len : (lkD bs).length ≤ (flatK bs).length := by
  have gen : ∀ (bs : List Bnd) (l : LU), (bs.foldl (fun l b => b.keys.foldl (fun l k => aset l k ()) l) l).length ≤ l.length + (flatK bs).length := by
    intro bs
    induction bs with
    | nil => intro l; simp [flatK]
    | cons b bs ih =>
      intro l
      rw [List.foldl_cons]
      have h1 := ih (b.keys.foldl (fun l k => aset l k ()) l)
      have h2 := aset_fold_len b.keys l
      have e : flatK (b :: bs) = b.keys ++ flatK bs := by unfold flatK; rw [List.flatMap_cons]
      rw [e, List.length_append]
      exact Nat.le_trans h1 (by rw [← Nat.add_assoc]; exact Nat.add_le_add_right h2 _)
  have := gen bs []
  simpa [lkD] using this
theorem ev_lall (n : Nat) (c : CX h bs) {s : Sta} (g : GS h s) (hs : s.since = 0) (hl : (flatK bs).length < 64) (hk9 : ∀ b ∈ bs, b.keys.length ≤ 9) : evFn PP WF (n + 5) 96 [encH h, encM bs, encS s] = .ok (.list ((stepsL h bs s).map encSl)) := by
  have := ev_open (n := n + 4) (f := 96) (fn := f96_l_all) (ds := [encH h, encM bs, encS s]) rfl rfl
  unfold Ev at this
  rw [this]
  have hp := fun key => ev_lpressed n c g 9 key 0
  have hse := ev_lsettled (n + 1) c g.room
  generalize hcall : evFn PP WF (n + 4) = call at *
  have h0 : ixD (encS s) (.int 0) = .ok (st s.room) := by
    unfold encS
    rw [ix_tup, atI_0]
    rfl
  have h1 : ixD (encS s) (.int 1) = .ok (encK s.keys) := by
    unfold encS
    rw [ix_tup, atI_1]
    rfl
  have hes : PyData.tuple [st s.room, encK s.keys, .int 0] = encS s := by
    unfold encS
    rw [hs]
  have hput : ∀ (i : Nat) (l : LU) (x : Nm) (ρ : KD.Env) (h : l.length < 1000000), putK i (kvs EN (fun _ : Unit => PyData.bool true) l) (st x) (.bool true) ρ = .ok (.nx (ρ.set i (some (.own (dD EN (fun _ : Unit => PyData.bool true) (aset l x ())))))) := fun i l x ρ h => put_d (E := EN) (ev := fun _ : Unit => PyData.bool true) i l x () ρ h
  have d0 : PyData.dict [] = dD EN (fun _ : Unit => PyData.bool true) [] := rfl
  have bl := c.m.len
  simp [f96_l_all, KD.fresh, dputs, isCont, dictOk]
  rw [d0]
  refine bind_foldI (P := fun r => r = R.ok (PyData.list ((stepsL h bs s).map encSl))) encB (fun l : LU => [some (.val (encH h)), some (.val (encM bs)), some (.val (encS s)), some (.own (dD EN (fun _ : Unit => PyData.bool true) l)), none, none, none]) (fun b l => b.keys.foldl (fun l k => aset l k ()) l) (fun i l => l.length ≤ i * 9) [] (Nat.le_refl _) (fun i b hb l hlen => ?_) fun hj => ?_
  · have hi := (List.getElem?_eq_some_iff.mp hb).1
    have hkl := hk9 b (List.mem_of_getElem? hb)
    have hix : ixD (encB b) (.int 1) = .ok (.tuple (b.keys.map st)) := by
      unfold encB
      rw [ix_tup, atI_1]
      rfl
    refine ⟨?_, Nat.le_trans (aset_fold_len b.keys l) (Nat.le_trans (Nat.add_le_add hlen hkl) (by omega))⟩
    simp [fstep, hix]
    refine bind_foldI (P := OkNx _) st (fun l : LU => [some (.val (encH h)), some (.val (encM bs)), some (.val (encS s)), some (.own (dD EN (fun _ : Unit => PyData.bool true) l)), some (.val (encB b)), none, none]) (fun k l => aset l k ()) (fun j l' => l'.length ≤ l.length + j) l (Nat.le_refl _) (fun j k hk2 l' hl' => ?_) fun _ => ?_
    · have hj2 := (List.getElem?_eq_some_iff.mp hk2).1
      have hsm : l'.length < 1000000 := by omega
      refine ⟨?_, by have := len_aset (l := l') (a := k) (b := ()); omega⟩
      simp [fstep, dD, hput, hsm]
    · simp
  · rw [show bs.foldl (fun l b => b.keys.foldl (fun l k => aset l k ()) l) [] = lkD bs from rfl]
    have hw : walkD .seq [dD EN (fun _ : Unit => PyData.bool true) (lkD bs)] = .ok ((lkeysM bs).map st) := by
      rw [keys_d]
      unfold lkeysM
      rw [List.map_map]
      rfl
    have hll : (lkeysM bs).length < 64 := by
      unfold lkeysM
      rw [List.length_map]
      exact Nat.lt_of_le_of_lt lkD_len hl
    generalize dD EN (fun _ : Unit => PyData.bool true) (lkD bs) = dk at *
    simp [hw]
    have hz : PyData.list [] = .list (([] : List (Nm × Sta × List Tel)).map encSl) := rfl
    rw [hz]
    refine bind_foldI (P := fun r => r = R.ok (PyData.list ((stepsL h bs s).map encSl))) st (fun l : List (Nm × Sta × List Tel) => [some (.val (encH h)), some (.val (encM bs)), some (.val (encS s)), some (.val dk), none, some (.own (.list (l.map encSl))), none]) (fun k l => l ++ [(k, takenP h bs s k 0)]) (fun i l => l.length = i) [] rfl (fun i k hk2 l hl2 => ?_) fun hj2 => ?_
    · have hi := (List.getElem?_eq_some_iff.mp hk2).1
      refine ⟨?_, by rw [List.length_append, List.length_singleton, hl2]⟩
      have hg : l.length < lim := by show _ < 1000000; omega
      have hpk := hp k
      rw [pressed_now s hs] at hpk
      have e : addD (.tuple [st k]) (encML (takenP h bs s k 0)) = .ok (encSl (k, takenP h bs s k 0)) := rfl
      simp [fstep, h0, h1, hes, hpk, e, hg]
    · have hf : ∀ (l : List Nm) (acc : List (Nm × Sta × List Tel)), l.foldl (fun l k => l ++ [(k, takenP h bs s k 0)]) acc = acc ++ l.map fun k => (k, takenP h bs s k 0) := by
        intro l
        induction l with
        | nil => intro acc; simp
        | cons b l ih => intro acc; rw [List.foldl_cons, ih]; simp
      rw [hf, List.nil_append]
      unfold stepsL
      have e : addD (.tuple [st [119, 97, 105, 116]]) (encML (settledP h bs s)) = .ok (encSl (waitT, settledP h bs s)) := rfl
      have hg : ((lkeysM bs).map fun k => (k, takenP h bs s k 0)).length < lim := by rw [List.length_map]; show _ < 1000000; omega
      generalize (lkeysM bs).map (fun k => (k, takenP h bs s k 0)) = tk at *
      have hq : eqD (encK s.keys) (.tuple []) = .ok (decide (s.keys = [])) := eqD_K s.keys []
      by_cases q : s.keys = []
      · rw [if_pos q]
        have hq0 : eqD (encK []) (.tuple []) = .ok true := by
          have := eqD_K [] []
          rwa [decide_eq_true rfl] at this
        simp [h1, hq0, q]
      · rw [if_neg q]
        simp [h1, hq, q, hse, e, hg]
end KP
/-! KdBfs: breadth first, in plain Lean. -/
namespace KP
section
variable {S K T : Type} [DecidableEq S]
/-- a layer's turn: seen, the next layer, whether it was told -/
structure Ly (S : Type) where
  seen : List S
  more : List S
  hit : Bool
def lyX (tell : T → Bool) (x : K × S × T) (r : Ly S) : Ly S := ⟨if x.2.1 ∈ r.seen then r.seen else r.seen ++ [x.2.1], if x.2.1 ∈ r.seen then r.more else r.more ++ [x.2.1], r.hit || tell x.2.2⟩
def lyS (tell : T → Bool) (xs : List (K × S × T)) (r : Ly S) : Ly S := xs.foldl (fun r x => lyX tell x r) r
def lyL (steps : S → List (K × S × T)) (tell : T → Bool) (l : List S) (r : Ly S) : Ly S := l.foldl (fun r s => lyS tell (steps s) r) r
theorem lyS_spec (tell : T → Bool) : ∀ (xs : List (K × S × T)) (r : Ly S),
    (∀ t, t ∈ (lyS tell xs r).seen ↔ t ∈ r.seen ∨ ∃ x ∈ xs, x.2.1 = t) ∧
    (∀ t, t ∈ (lyS tell xs r).more ↔ t ∈ r.more ∨ (t ∉ r.seen ∧ ∃ x ∈ xs, x.2.1 = t)) ∧
    ((lyS tell xs r).hit = (r.hit || xs.any fun x => tell x.2.2))
  | [], r => by simp [lyS]
  | x :: xs, r => by
    obtain ⟨i1, i2, i3⟩ := lyS_spec tell xs (lyX tell x r)
    have e : lyS tell (x :: xs) r = lyS tell xs (lyX tell x r) := rfl
    rw [e]
    have s1 : ∀ t, t ∈ (lyX tell x r).seen ↔ t ∈ r.seen ∨ x.2.1 = t := fun t => by
      unfold lyX
      by_cases q : x.2.1 ∈ r.seen
      · simp only [if_pos q]
        exact ⟨.inl, fun z => z.elim id fun z => z ▸ q⟩
      · simp only [if_neg q, List.mem_append, List.mem_singleton]
        exact ⟨fun z => z.imp id Eq.symm, fun z => z.imp id Eq.symm⟩
    have s2 : ∀ t, t ∈ (lyX tell x r).more ↔ t ∈ r.more ∨ (t ∉ r.seen ∧ x.2.1 = t) := fun t => by
      unfold lyX
      by_cases q : x.2.1 ∈ r.seen
      · simp only [if_pos q]
        exact ⟨.inl, fun z => z.elim id fun z => absurd (z.2 ▸ q) z.1⟩
      · simp only [if_neg q, List.mem_append, List.mem_singleton]
        constructor
        · rintro (z | z)
          · exact .inl z
          · exact .inr ⟨z ▸ q, z.symm⟩
        · rintro (z | z)
          · exact .inl z
          · exact .inr z.2.symm
    refine ⟨fun t => ?_, fun t => ?_, ?_⟩
    · rw [i1, s1]
      constructor
      · rintro ((z | z) | ⟨y, hy, z⟩)
        · exact .inl z
        · exact .inr ⟨x, List.mem_cons_self, z⟩
        · exact .inr ⟨y, List.mem_cons_of_mem _ hy, z⟩
      · rintro (z | ⟨y, hy, z⟩)
        · exact .inl (.inl z)
        · rcases List.mem_cons.mp hy with rfl | hy
          · exact .inl (.inr z)
          · exact .inr ⟨y, hy, z⟩
    · rw [i2, s2, s1]
      constructor
      · rintro ((z | z) | ⟨z1, y, hy, z2⟩)
        · exact .inl z
        · exact .inr ⟨z.1, x, List.mem_cons_self, z.2⟩
        · exact .inr ⟨fun q => z1 (.inl q), y, List.mem_cons_of_mem _ hy, z2⟩
      · rintro (z | ⟨z1, y, hy, z2⟩)
        · exact .inl (.inl z)
        · by_cases q : x.2.1 = t
          · exact .inl (.inr ⟨z1, q⟩)
          · rcases List.mem_cons.mp hy with rfl | hy
            · exact absurd z2 q
            · exact .inr ⟨fun z => z.elim z1 q, y, hy, z2⟩
    · rw [i3, List.any_cons]
      show ((r.hit || tell x.2.2) || _) = _
      rw [Bool.or_assoc]
theorem lyL_spec (steps : S → List (K × S × T)) (tell : T → Bool) : ∀ (l : List S) (r : Ly S),
    (∀ t, t ∈ (lyL steps tell l r).seen ↔ t ∈ r.seen ∨ ∃ s ∈ l, ∃ x ∈ steps s, x.2.1 = t) ∧
    (∀ t, t ∈ (lyL steps tell l r).more ↔ t ∈ r.more ∨ (t ∉ r.seen ∧ ∃ s ∈ l, ∃ x ∈ steps s, x.2.1 = t)) ∧
    ((lyL steps tell l r).hit = (r.hit || l.any fun s => (steps s).any fun x => tell x.2.2))
  | [], r => by simp [lyL]
  | s :: l, r => by
    obtain ⟨i1, i2, i3⟩ := lyL_spec steps tell l (lyS tell (steps s) r)
    obtain ⟨j1, j2, j3⟩ := lyS_spec tell (steps s) r
    have e : lyL steps tell (s :: l) r = lyL steps tell l (lyS tell (steps s) r) := rfl
    rw [e]
    refine ⟨fun t => ?_, fun t => ?_, ?_⟩
    · rw [i1, j1]
      constructor
      · rintro ((z | z) | ⟨y, hy, z⟩)
        · exact .inl z
        · exact .inr ⟨s, List.mem_cons_self, z⟩
        · exact .inr ⟨y, List.mem_cons_of_mem _ hy, z⟩
      · rintro (z | ⟨y, hy, z⟩)
        · exact .inl (.inl z)
        · rcases List.mem_cons.mp hy with rfl | hy
          · exact .inl (.inr z)
          · exact .inr ⟨y, hy, z⟩
    · rw [i2, j2, j1]
      constructor
      · rintro ((z | z) | ⟨z1, y, hy, z2⟩)
        · exact .inl z
        · exact .inr ⟨z.1, s, List.mem_cons_self, z.2⟩
        · exact .inr ⟨fun q => z1 (.inl q), y, List.mem_cons_of_mem _ hy, z2⟩
      · rintro (z | ⟨z1, y, hy, z2⟩)
        · exact .inl (.inl z)
        · by_cases q : ∃ x ∈ steps s, x.2.1 = t
          · exact .inl (.inr ⟨z1, q⟩)
          · rcases List.mem_cons.mp hy with rfl | hy
            · exact absurd z2 q
            · exact .inr ⟨fun z => z.elim z1 q, y, hy, z2⟩
    · rw [i3, j3, List.any_cons, Bool.or_assoc]
/-! the layers from a state -/
variable (steps : S → List (K × S × T)) (tell : T → Bool) (s0 : S)
def lay : Nat → Ly S
  | 0 => ⟨[s0], [s0], false⟩
  | k + 1 => lyL steps tell (lay k).more ⟨(lay k).seen, [], false⟩
def tells (s : S) : Bool := (steps s).any fun x => tell x.2.2
theorem lay_more (k : Nat) (t : S) : t ∈ (lay steps tell s0 (k + 1)).more ↔ t ∉ (lay steps tell s0 k).seen ∧ ∃ s ∈ (lay steps tell s0 k).more, ∃ x ∈ steps s, x.2.1 = t := by
  have := (lyL_spec steps tell (lay steps tell s0 k).more ⟨(lay steps tell s0 k).seen, [], false⟩).2.1 t
  simpa [lay] using this
theorem lay_seen (k : Nat) (t : S) : t ∈ (lay steps tell s0 (k + 1)).seen ↔ t ∈ (lay steps tell s0 k).seen ∨ t ∈ (lay steps tell s0 (k + 1)).more := by
  have h1 := (lyL_spec steps tell (lay steps tell s0 k).more ⟨(lay steps tell s0 k).seen, [], false⟩).1 t
  rw [lay_more]
  have h1 : t ∈ (lay steps tell s0 (k + 1)).seen ↔ t ∈ (lay steps tell s0 k).seen ∨ ∃ s ∈ (lay steps tell s0 k).more, ∃ x ∈ steps s, x.2.1 = t := h1
  rw [h1]
  constructor
  · rintro (z | z)
    · exact .inl z
    · by_cases q : t ∈ (lay steps tell s0 k).seen
      · exact .inl q
      · exact .inr ⟨q, z⟩
  · rintro (z | z)
    · exact .inl z
    · exact .inr z.2
theorem lay_hit (k : Nat) : (lay steps tell s0 (k + 1)).hit = (lay steps tell s0 k).more.any (tells steps tell) := by
  have := (lyL_spec steps tell (lay steps tell s0 k).more ⟨(lay steps tell s0 k).seen, [], false⟩).2.2
  rw [Bool.false_or] at this
  exact this
/-- a row of steps that does not tell -/
inductive Rch : List K → S → Prop
  | nil : Rch [] s0
  | snoc {p : List K} {s : S} {x : K × S × T} (h : Rch p s) (hx : x ∈ steps s) (ht : tell x.2.2 = false) : Rch (p ++ [x.1]) x.2.1
/-- what the search has in hand -/
structure Inv41 (k : Nat) (A B : List (S × List K)) (seen : List S) : Prop where
  a : ∀ q ∈ A, q.1 ∈ (lay steps tell s0 k).more ∧ q.2.length = k ∧ Rch steps tell s0 q.2 q.1
  b : ∀ q ∈ B, q.1 ∈ (lay steps tell s0 (k + 1)).more ∧ q.2.length = k + 1 ∧ Rch steps tell s0 q.2 q.1
  sn : ∀ t, t ∈ seen ↔ t ∈ (lay steps tell s0 k).seen ∨ t ∈ B.map (·.1)
  done : ∀ s ∈ (lay steps tell s0 k).more, s ∈ A.map (·.1) ∨ (tells steps tell s = false ∧ ∀ x ∈ steps s, x.2.1 ∈ seen)
  low : ∀ j < k, ∀ s ∈ (lay steps tell s0 j).more, tells steps tell s = false
theorem inv_begin : Inv41 steps tell s0 0 [(s0, [])] [] [s0] := by
  refine ⟨fun q hq => ?_, (fun q hq => nomatch hq), (fun t => by simp [lay]), fun s hs => .inl ?_, fun j hj => absurd hj (by omega)⟩
  · rw [List.mem_singleton] at hq
    subst hq
    exact ⟨by simp [lay], rfl, .nil⟩
  · simpa [lay] using hs
/-- the layer is done -/
theorem inv_next {k : Nat} {B : List (S × List K)} {seen : List S} (h : Inv41 steps tell s0 k [] B seen) : Inv41 steps tell s0 (k + 1) B [] seen := by
  have hd : ∀ s ∈ (lay steps tell s0 k).more, tells steps tell s = false ∧ ∀ x ∈ steps s, x.2.1 ∈ seen := fun s hs => (h.done s hs).elim (fun z => by simp at z) id
  have hb : ∀ t, t ∈ (lay steps tell s0 (k + 1)).more ↔ t ∈ B.map (·.1) := fun t => by
    constructor
    · intro ht
      obtain ⟨z1, s, hs, x, hx, e⟩ := (lay_more steps tell s0 k t).mp ht
      have := (hd s hs).2 x hx
      rw [e, h.sn] at this
      exact this.elim (fun z => absurd z z1) id
    · intro ht
      obtain ⟨q, hq, e⟩ := List.mem_map.mp ht
      exact e ▸ (h.b q hq).1
  refine ⟨h.b, fun q hq => (by simp at hq), fun t => ?_, fun s hs => .inl ((hb s).mp hs), fun j hj s hs => ?_⟩
  · rw [h.sn, lay_seen, hb]
    simp
  · rcases Nat.lt_succ_iff_lt_or_eq.mp hj with z | z
    · exact h.low j z s hs
    · subst z
      exact (hd s hs).1
/-! the search's turn -/
abbrev Sr (S K : Type) := List (S × List K) × List S
def srX (p : List K) (x : K × S × T) (b : Sr S K) : Sr S K ⊕ List K := if tell x.2.2 = true then .inr (p ++ [x.1]) else .inl (if x.2.1 ∈ b.2 then b else (b.1 ++ [(x.2.1, p ++ [x.1])], b.2 ++ [x.2.1]))
def srL (p : List K) : List (K × S × T) → Sr S K → Sr S K ⊕ List K
  | [], b => .inl b
  | x :: xs, b => match srX tell p x b with
    | .inl b' => srL p xs b'
    | .inr r => .inr r
theorem srL_hit (p : List K) : ∀ (xs : List (K × S × T)) (b : Sr S K), (xs.any fun x => tell x.2.2) = true → ∃ x ∈ xs, tell x.2.2 = true ∧ srL tell p xs b = .inr (p ++ [x.1])
  | [], b, h => by simp at h
  | x :: xs, b, h => by
    rw [srL]
    unfold srX
    by_cases q : tell x.2.2 = true
    · rw [if_pos q]
      exact ⟨x, List.mem_cons_self, q, rfl⟩
    · rw [if_neg q]
      rw [Bool.not_eq_true] at q
      rw [List.any_cons, q, Bool.false_or] at h
      obtain ⟨y, hy, h1, h2⟩ := srL_hit p xs (if x.2.1 ∈ b.2 then b else (b.1 ++ [(x.2.1, p ++ [x.1])], b.2 ++ [x.2.1])) h
      exact ⟨y, List.mem_cons_of_mem _ hy, h1, h2⟩
theorem srL_none (p : List K) : ∀ (xs : List (K × S × T)) (todo : List (S × List K)) (seen : List S), (∀ x ∈ xs, tell x.2.2 = false) →
    ∃ N : List (S × List K), srL tell p xs (todo, seen) = .inl (todo ++ N, seen ++ N.map (·.1)) ∧ (∀ q ∈ N, ∃ x ∈ xs, q = (x.2.1, p ++ [x.1]) ∧ x.2.1 ∉ seen) ∧ (∀ x ∈ xs, x.2.1 ∈ seen ++ N.map (·.1)) ∧ (seen.Nodup → (seen ++ N.map (·.1)).Nodup)
  | [], todo, seen, _ => ⟨[], by simp [srL], fun q hq => by simp at hq, fun x hx => by simp at hx, fun h => by simpa using h⟩
  | x :: xs, todo, seen, h => by
    have hx : ¬ tell x.2.2 = true := by rw [h x List.mem_cons_self]; decide
    rw [srL]
    unfold srX
    rw [if_neg hx]
    by_cases q : x.2.1 ∈ seen
    · rw [if_pos q]
      obtain ⟨N, h1, h2, h3, h4⟩ := srL_none p xs todo seen fun y hy => h y (List.mem_cons_of_mem _ hy)
      refine ⟨N, h1, fun r hr => ?_, fun y hy => ?_, h4⟩
      · obtain ⟨y, hy, z⟩ := h2 r hr
        exact ⟨y, List.mem_cons_of_mem _ hy, z⟩
      · rcases List.mem_cons.mp hy with rfl | hy
        · exact List.mem_append_left _ q
        · exact h3 y hy
    · rw [if_neg q]
      obtain ⟨N, h1, h2, h3, h4⟩ := srL_none p xs (todo ++ [(x.2.1, p ++ [x.1])]) (seen ++ [x.2.1]) fun y hy => h y (List.mem_cons_of_mem _ hy)
      refine ⟨(x.2.1, p ++ [x.1]) :: N, ?_, fun r hr => ?_, fun y hy => ?_, fun hn => ?_⟩
      · show srL tell p xs (todo ++ [(x.2.1, p ++ [x.1])], seen ++ [x.2.1]) = _
        rw [h1]
        simp
      · rcases List.mem_cons.mp hr with rfl | hr
        · exact ⟨x, List.mem_cons_self, rfl, q⟩
        · obtain ⟨y, hy, z1, z2⟩ := h2 r hr
          exact ⟨y, List.mem_cons_of_mem _ hy, z1, fun z => z2 (List.mem_append_left _ z)⟩
      · rw [List.map_cons]
        rcases List.mem_cons.mp hy with rfl | hy
        · exact List.mem_append_right _ List.mem_cons_self
        · have := h3 y hy
          simpa using this
      · have hn' : (seen ++ [x.2.1]).Nodup := by
          rw [List.nodup_append]
          refine ⟨hn, by simp, fun a ha b hb e => ?_⟩
          rw [List.mem_singleton] at hb
          exact q (hb ▸ e ▸ ha)
        have := h4 hn'
        simpa using this
theorem inv_turn {k : Nat} {s : S} {p : List K} {A B : List (S × List K)} {seen : List S} (h : Inv41 steps tell s0 k ((s, p) :: A) B seen) (ht : tells steps tell s = false) :
    ∃ N : List (S × List K), srL tell p (steps s) (A ++ B, seen) = .inl (A ++ (B ++ N), seen ++ N.map (·.1)) ∧ Inv41 steps tell s0 k A (B ++ N) (seen ++ N.map (·.1)) ∧ (seen.Nodup → (seen ++ N.map (·.1)).Nodup) := by
  have hs := h.a (s, p) List.mem_cons_self
  have hno : ∀ x ∈ steps s, tell x.2.2 = false := fun x hx => by
    unfold tells at ht
    rw [List.any_eq_false] at ht
    have := ht x hx
    simpa using this
  obtain ⟨N, h1, h2, h3, h4⟩ := srL_none tell p (steps s) (A ++ B) seen hno
  refine ⟨N, by rw [h1, List.append_assoc], ⟨fun q hq => h.a q (List.mem_cons_of_mem _ hq), fun q hq => ?_, fun t => ?_, fun u hu => ?_, h.low⟩, h4⟩
  · rcases List.mem_append.mp hq with hq | hq
    · exact h.b q hq
    · obtain ⟨x, hx, e, hns⟩ := h2 q hq
      subst e
      refine ⟨(lay_more steps tell s0 k _).mpr ⟨fun z => hns ((h.sn _).mpr (.inl z)), s, hs.1, x, hx, rfl⟩, ?_, .snoc hs.2.2 hx (hno x hx)⟩
      rw [List.length_append, List.length_singleton, hs.2.1]
  · rw [List.mem_append, h.sn, List.map_append, List.mem_append]
    exact or_assoc
  · by_cases e : u = s
    · subst e
      exact .inr ⟨ht, h3⟩
    · rcases h.done u hu with z | z
      · rw [List.map_cons, List.mem_cons] at z
        exact z.elim (fun z => absurd z e) .inl
      · exact .inr ⟨z.1, fun x hx => List.mem_append_left _ (z.2 x hx)⟩
/-! the search -/
def srT (b : Sr S K) : Bool := !b.1.isEmpty
def srF (enc : List K → PySem.PyData) (b : Sr S K) : Sr S K ⊕ PySem.PyData := match b.1 with
  | [] => .inl b
  | (s, p) :: A => (match srL tell p (steps s) (A, b.2) with
    | .inl b' => .inl b'
    | .inr r => .inr (enc r))
/-- what the search gives -/
def Found (enc : List K → PySem.PyData) (r : Sr S K ⊕ PySem.PyData) : Prop :=
  (∃ b, r = .inl b ∧ ∀ k, ∀ s ∈ (lay steps tell s0 k).more, tells steps tell s = false) ∨
  ∃ (k : Nat) (p : List K) (s : S) (x : K × S × T), r = .inr (enc (p ++ [x.1])) ∧ p.length = k ∧ Rch steps tell s0 p s ∧ x ∈ steps s ∧ tell x.2.2 = true ∧ s ∈ (lay steps tell s0 k).more ∧ ∀ j < k, ∀ s ∈ (lay steps tell s0 j).more, tells steps tell s = false
theorem lay_end {k : Nat} (h : ∀ t, t ∉ (lay steps tell s0 k).more) : ∀ j t, t ∉ (lay steps tell s0 (k + j)).more := by
  intro j
  induction j with
  | zero => exact h
  | succ j ih =>
    intro t ht
    rw [show k + (j + 1) = (k + j) + 1 by omega] at ht
    obtain ⟨_, s, hs, _⟩ := (lay_more steps tell s0 (k + j) t).mp ht
    exact ih s hs
theorem inv_end {k : Nat} {seen : List S} (h : Inv41 steps tell s0 k [] [] seen) : ∀ j, ∀ s ∈ (lay steps tell s0 j).more, tells steps tell s = false := by
  have h1 := inv_next steps tell s0 h
  have he : ∀ t, t ∉ (lay steps tell s0 (k + 1)).more := fun t ht => by
    rcases h1.done t ht with z | z
    · simp at z
    · obtain ⟨z1, s, hs, x, hx, e⟩ := (lay_more steps tell s0 k t).mp ht
      rcases h.done s hs with y | y
      · simp at y
      · have := y.2 x hx
        rw [e, h.sn] at this
        rcases this with this | this
        · exact z1 this
        · simp at this
  intro j s hs
  by_cases q : j < k + 1
  · exact h1.low j q s hs
  · have := lay_end steps tell s0 he (j - (k + 1)) s
    rw [show k + 1 + (j - (k + 1)) = j by omega] at this
    exact absurd hs this
theorem nodup_sub {α : Type} [DecidableEq α] : ∀ {l m : List α}, l.Nodup → (∀ a ∈ l, a ∈ m) → l.length ≤ m.length
  | [], m, _, _ => Nat.zero_le _
  | a :: l, m, hn, hs => by
    have pm := List.perm_cons_erase (hs a List.mem_cons_self)
    rw [List.nodup_cons] at hn
    have hlen := pm.length_eq
    rw [List.length_cons] at hlen
    have := nodup_sub (m := m.erase a) hn.2 fun p hp => (List.mem_erase_of_ne (fun (e : p = a) => hn.1 (e ▸ hp))).mpr (hs p (List.mem_cons_of_mem _ hp))
    rw [List.length_cons]
    omega
theorem search (enc : List K → PySem.PyData) (U : List S) (hU : ∀ k, ∀ s ∈ (lay steps tell s0 k).seen, s ∈ U) :
    ∀ (n k : Nat) (A B : List (S × List K)) (seen : List S), Inv41 steps tell s0 k A B seen → seen.Nodup → U.length + (A ++ B).length + 1 ≤ n + seen.length →
    ∃ r, whlL srT (srF steps tell enc) n (A ++ B, seen) = some r ∧ Found steps tell s0 enc r := by
  have hin : ∀ {k : Nat} {A B : List (S × List K)} {seen : List S}, Inv41 steps tell s0 k A B seen → ∀ t ∈ seen, t ∈ U := fun {k A B seen} h t ht => by
    rcases (h.sn t).mp ht with z | z
    · exact hU k t z
    · obtain ⟨q, hq, e⟩ := List.mem_map.mp z
      exact hU (k + 1) t ((lay_seen steps tell s0 k t).mpr (.inr (e ▸ (h.b q hq).1)))
  intro n
  induction n with
  | zero =>
    intro k A B seen h hn hm
    have := nodup_sub hn (hin h)
    omega
  | succ n ih =>
    intro k A B seen h hn hm
    have main : ∀ (k : Nat) (s : S) (p : List K) (A B : List (S × List K)), Inv41 steps tell s0 k ((s, p) :: A) B seen → U.length + ((s, p) :: A ++ B).length + 1 ≤ n + 1 + seen.length → ∃ r, whlL srT (srF steps tell enc) (n + 1) ((s, p) :: A ++ B, seen) = some r ∧ Found steps tell s0 enc r := by
      intro k s p A B h hm
      have e1 : ∀ b', srF steps tell enc ((s, p) :: A ++ B, seen) = .inl b' → whlL srT (srF steps tell enc) (n + 1) ((s, p) :: A ++ B, seen) = whlL srT (srF steps tell enc) n b' := fun b' z => by
        rw [whlL, show srT ((s, p) :: A ++ B, seen) = true from rfl]
        simp only [z]
      have e2 : ∀ d, srF steps tell enc ((s, p) :: A ++ B, seen) = .inr d → whlL srT (srF steps tell enc) (n + 1) ((s, p) :: A ++ B, seen) = some (.inr d) := fun d z => by
        rw [whlL, show srT ((s, p) :: A ++ B, seen) = true from rfl]
        simp only [z]
      have eF : ∀ z, srL tell p (steps s) (A ++ B, seen) = z → srF steps tell enc ((s, p) :: A ++ B, seen) = (match z with
          | .inl b' => .inl b'
          | .inr r => .inr (enc r)) := fun z hz => by
        subst hz
        rfl
      have hs := h.a (s, p) List.mem_cons_self
      by_cases ht : tells steps tell s = true
      · obtain ⟨x, hx, h1, h2⟩ := srL_hit tell p (steps s) (A ++ B, seen) ht
        exact ⟨_, e2 _ (eF _ h2), .inr ⟨k, p, s, x, rfl, hs.2.1, hs.2.2, hx, h1, hs.1, h.low⟩⟩
      · rw [Bool.not_eq_true] at ht
        obtain ⟨N, h1, h2, h3⟩ := inv_turn steps tell s0 h ht
        rw [e1 _ (eF _ h1)]
        refine ih k A (B ++ N) _ h2 (h3 hn) ?_
        simp only [List.length_append, List.length_map, List.length_cons] at hm ⊢
        omega
    cases A with
    | cons q A => exact main k q.1 q.2 A B h hm
    | nil =>
      cases B with
      | nil => exact ⟨.inl ([], seen), rfl, .inl ⟨_, rfl, inv_end steps tell s0 h⟩⟩
      | cons q B =>
        have := main (k + 1) q.1 q.2 B [] (inv_next steps tell s0 h) (by simpa using hm)
        simpa using this
end
end KP
/-! KdM41: law k41. -/
namespace KP
open PySem hiding Env Flow
open KD
variable {h : House} {bs : List Bnd}
/-- the deed is told -/
def tellD (d : Nm) (l : List Tel) : Bool := decide (Tel.deed d ∈ l)
theorem told_any (d : Nm) (l : List Tel) : ((l.map encT).any fun z => PyData.eqv z (encT (.deed d))) = tellD d l := by
  unfold tellD
  rw [List.any_map, Bool.eq_iff_iff, List.any_eq_true, decide_eq_true_eq]
  constructor
  · rintro ⟨t, ht, e⟩
    rw [Function.comp, eqv_T, decide_eq_true_eq] at e
    exact e ▸ ht
  · intro hm
    exact ⟨_, hm, by rw [Function.comp, eqv_T, decide_eq_true rfl]⟩
theorem in_told (d : Nm) (l : List Tel) : inD (.tuple [st [100, 101, 101, 100], st d]) (encTs l) = .ok (tellD d l) := by
  have e : inD (encT (.deed d)) (encTs l) = R.guard (shp (encT (.deed d)) && shp (encTs l)) (.ok ((l.map encT).any fun z => PyData.eqv z (encT (.deed d)))) := rfl
  show inD (encT (.deed d)) (encTs l) = _
  rw [e, (flat_T _).shp (by decide), show shp (encTs l) = true from (Flat.tup (k := 2) (xs := l.map encT) fun x hx => by
    obtain ⟨t, _, rfl⟩ := List.mem_map.mp hx
    exact flat_T t).shp (by decide), told_any]
  rfl
theorem in_toldL (d : Nm) (l : List Tel) : inD (.tuple [st [100, 101, 101, 100], st d]) (.list (l.map encT)) = .ok (tellD d l) := by
  have e : inD (encT (.deed d)) (.list (l.map encT)) = R.guard (shp (encT (.deed d)) && shp (.list (l.map encT))) (.ok ((l.map encT).any fun z => PyData.eqv z (encT (.deed d)))) := rfl
  show inD (encT (.deed d)) (.list (l.map encT)) = _
  rw [e, (flat_T _).shp (by decide), (Flat.lst (k := 2) (xs := l.map encT) fun x hx => by
    obtain ⟨t, _, rfl⟩ := List.mem_map.mp hx
    exact flat_T t).shp (by decide), told_any]
  rfl
/-! the states there can be -/
def begins (bs : List Bnd) : List Ky := [] :: bs.flatMap fun b => (List.range b.keys.length).map fun m => b.keys.take m
def allS (h : House) (bs : List Bnd) : List Sta := h.rooms.flatMap fun r => (begins bs).map fun w => ⟨r.1, w, 0⟩
def StOk (h : House) (bs : List Bnd) (s : Sta) : Prop := s.room ∈ h.rooms.map (·.1) ∧ s.keys ∈ begins bs ∧ s.since = 0
theorem allS_mem {s : Sta} (g : StOk h bs s) : s ∈ allS h bs := by
  obtain ⟨g1, g2, g3⟩ := g
  obtain ⟨r, hr, e⟩ := List.mem_map.mp g1
  refine List.mem_flatMap.mpr ⟨r, hr, List.mem_map.mpr ⟨s.keys, g2, ?_⟩⟩
  obtain ⟨a, b, c⟩ := s
  simp only at e g3 ⊢
  rw [e, g3]
theorem begins_nil : ([] : Ky) ∈ begins bs := List.mem_cons_self
theorem begins_len (c : CX h bs) {w : Ky} (hw : w ∈ begins bs) : w.length ≤ 9 := by
  rcases List.mem_cons.mp hw with rfl | hw
  · exact Nat.zero_le _
  · obtain ⟨b, hb, hw⟩ := List.mem_flatMap.mp hw
    obtain ⟨m, _, rfl⟩ := List.mem_map.mp hw
    rw [List.length_take]
    exact Nat.le_trans (Nat.min_le_right _ _) (c.kl b hb)
theorem StOk.gs (c : CX h bs) {s : Sta} (g : StOk h bs s) : GS h s := ⟨g.1, begins_len c g.2.1⟩
theorem settled_st (c : CX h bs) {s : Sta} (g : StOk h bs s) : StOk h bs (settledP h bs s).1 := by
  obtain ⟨g1, g2⟩ := settled_good c (g.gs c)
  refine ⟨g1.room, by rw [g2]; exact begins_nil, ?_⟩
  unfold settledP withDeed
  split <;> rfl
theorem goes_begin {a : Nm} {ks : Ky} (hg : goesOn (rowsP h bs a) ks = true) : ks ∈ begins bs := by
  unfold goesOn at hg
  rw [List.any_eq_true] at hg
  obtain ⟨p, hp, e⟩ := hg
  rw [Bool.and_eq_true, decide_eq_true_eq, decide_eq_true_eq] at e
  obtain ⟨⟨b, hb, e2⟩, _⟩ := rows_mem.mp hp
  refine List.mem_cons_of_mem _ (List.mem_flatMap.mpr ⟨b, hb, List.mem_map.mpr ⟨ks.length, ?_, ?_⟩⟩)
  · rw [List.mem_range, e2]; exact e.1
  · rw [e2]; exact e.2
theorem takenO_st (c : CX h bs) {s : Sta} {key : Nm} (g : StOk h bs s) {r : Sta × List Tel} (hr : takenO h bs s key 0 = some r) : StOk h bs r.1 := by
  unfold takenO at hr
  split at hr
  · rename_i hg
    cases hr
    exact ⟨g.1, goes_begin hg, rfl⟩
  · split at hr
    · rename_i d hd
      cases hr
      exact ⟨wayTo_in c g.1 d, begins_nil, rfl⟩
    · split at hr
      · cases hr
        exact ⟨g.1, begins_nil, rfl⟩
      · cases hr
theorem taken_st (c : CX h bs) {s : Sta} {key : Nm} (g : StOk h bs s) : StOk h bs (takenP h bs s key 0).1 := by
  unfold takenP
  cases hr : takenO h bs s key 0 with
  | some r => exact takenO_st c g hr
  | none =>
    show StOk h bs ((takenO h bs (settledP h bs s).1 key 0).getD (s, [])).1
    cases hr2 : takenO h bs (settledP h bs s).1 key 0 with
    | some r => exact takenO_st c (settled_st c g) hr2
    | none => exact g
theorem steps_st (c : CX h bs) {s : Sta} (g : StOk h bs s) : ∀ x ∈ stepsP h bs s, StOk h bs x.2.1 := fun x hx => by
  unfold stepsP at hx
  rcases List.mem_append.mp hx with hx | hx
  · obtain ⟨k, _, rfl⟩ := List.mem_map.mp hx
    exact taken_st c g
  · split at hx
    · exact nomatch hx
    · rw [List.mem_singleton] at hx
      subst hx
      exact settled_st c g
theorem begin_st (c : CX h bs) : StOk h bs (beginP h) := ⟨(begin_good c).room, begins_nil, rfl⟩
abbrev layP (h : House) (bs : List Bnd) (d : Nm) (k : Nat) : Ly Sta := lay (stepsP h bs) (tellD d) (beginP h) k
theorem lay_st (c : CX h bs) (d : Nm) : ∀ k, (∀ s ∈ (layP h bs d k).seen, StOk h bs s) ∧ ∀ s ∈ (layP h bs d k).more, StOk h bs s
  | 0 => by
    constructor <;>
    · intro s hs
      have : s = beginP h := by simpa [layP, lay] using hs
      rw [this]
      exact begin_st c
  | k + 1 => by
    obtain ⟨i1, i2⟩ := lay_st c d k
    have hm : ∀ s ∈ (layP h bs d (k + 1)).more, StOk h bs s := fun t ht => by
      obtain ⟨_, s, hs, x, hx, e⟩ := (lay_more (stepsP h bs) (tellD d) (beginP h) k t).mp ht
      exact e ▸ steps_st c (i2 s hs) x hx
    exact ⟨fun s hs => ((lay_seen (stepsP h bs) (tellD d) (beginP h) k s).mp hs).elim (i1 s) (hm s), hm⟩
theorem len_flat_le {α β : Type} (f : α → List β) (m : Nat) : ∀ l : List α, (∀ a ∈ l, (f a).length ≤ m) → (l.flatMap f).length ≤ l.length * m
  | [], _ => Nat.zero_le _
  | a :: l, h => by
    have h1 := h a List.mem_cons_self
    have h2 := len_flat_le f m l fun b hb => h b (List.mem_cons_of_mem _ hb)
    rw [List.flatMap_cons, List.length_append, List.length_cons, Nat.succ_mul]
    omega
theorem allS_len (hr : h.rooms.length ≤ 5) (hb : bs.length ≤ 8) (hk : ∀ b ∈ bs, b.keys.length ≤ 3) : (allS h bs).length ≤ 125 := by
  have h1 : (begins bs).length ≤ 25 := by
    unfold begins
    rw [List.length_cons]
    have := len_flat_le (fun b : Bnd => (List.range b.keys.length).map fun m => b.keys.take m) 3 bs fun b hb' => by
      rw [List.length_map, List.length_range]
      exact hk b hb'
    omega
  have := len_flat_le (fun r : Nm × Option Nm => (begins bs).map fun w => (⟨r.1, w, 0⟩ : Sta)) 25 h.rooms fun r _ => by
    rw [List.length_map]
    exact h1
  exact Nat.le_trans this (by omega)
end KP
/-! KdM41b: steps_to walked. -/
namespace KP
open PySem hiding Env Flow
open KD
variable {h : House} {bs : List Bnd}
def encQ (q : Sta × Ky) : D := .tuple [encS q.1, encK q.2]
def kvsS (l : List Sta) : List (D × D) := kvs ES (fun _ : Unit => PyData.bool true) (l.map (·, ()))
def seenD (l : List Sta) : D := .dict (kvsS l)
theorem dic_seen (l : List Sta) (k : List (D × D) → R Flow) : dicS (some (some (.own (seenD l)))) k = k (kvsS l) := rfl
theorem in_seen (l : List Sta) (s : Sta) : inD (encS s) (seenD l) = .ok (decide (s ∈ l)) := by
  have h1 : inD (encS s) (seenD l) = .ok (aget (l.map (·, ())) s).isSome := in_d (E := ES) (ev := fun _ : Unit => PyData.bool true) _ s
  rw [h1]
  congr 1
  rw [Bool.eq_iff_iff, decide_eq_true_eq]
  have e : (l.map fun t : Sta => (t, ())).map (·.1) = l := by rw [List.map_map]; exact List.map_id _
  constructor
  · intro hs
    obtain ⟨u, hu⟩ := Option.isSome_iff_exists.mp hs
    have := List.mem_map_of_mem (f := fun p : Sta × Unit => p.1) (aget_mem hu)
    rw [e] at this
    exact this
  · intro hm
    cases hq : aget (l.map fun t : Sta => (t, ())) s with
    | some u => rfl
    | none =>
      have := aget_none.mp hq
      rw [e] at this
      exact absurd hm this
theorem put_seen (i : Nat) (l : List Sta) (s : Sta) (ρ : KD.Env) (h : l.length < 1000000) (hn : s ∉ l) : putK i (kvsS l) (encS s) (.bool true) ρ = .ok (.nx (ρ.set i (some (.own (seenD (l ++ [s])))))) := by
  have h1 := put_d (E := ES) (ev := fun _ : Unit => PyData.bool true) i (l.map (·, ())) s () ρ (by rw [List.length_map]; exact h)
  have e : (l.map fun t : Sta => (t, ())).map (·.1) = l := by rw [List.map_map]; exact List.map_id _
  rw [aset_new (by rw [e]; exact hn)] at h1
  have e2 : l.map (fun t : Sta => (t, ())) ++ [(s, ())] = (l ++ [s]).map (·, ()) := by rw [List.map_append]; rfl
  rw [e2] at h1
  exact h1
/-- a turn of the inner loop -/
def turnF (d : Nm) (p : Ky) (x : Nm × Sta × List Tel) (b : Sr Sta Nm) : Sr Sta Nm ⊕ D := match srX (tellD d) p x b with
  | .inl b' => .inl b'
  | .inr r => .inr (encK r)
theorem run_srL (d : Nm) (p : Ky) : ∀ (xs : List (Nm × Sta × List Tel)) (b : Sr Sta Nm), runL (turnF d p) xs b = (match srL (tellD d) p xs b with
    | .inl b' => .inl b'
    | .inr r => .inr (encK r))
  | [], b => rfl
  | x :: xs, b => by
    rw [runL, srL]
    unfold turnF
    cases hx : srX (tellD d) p x b with
    | inl b' => exact run_srL d p xs b'
    | inr r => rfl
theorem runL_inv {α β : Type} {F : α → β → β ⊕ D} {J : β → Prop} : ∀ {xs : List α} {b b' : β}, J b → (∀ x ∈ xs, ∀ b, J b → ∀ b', F x b = .inl b' → J b') → runL F xs b = .inl b' → J b'
  | [], b, b', hb, _, e => by cases e; exact hb
  | x :: xs, b, b', hb, h, e => by
    rw [runL] at e
    cases hx : F x b with
    | inl c =>
      rw [hx] at e
      exact runL_inv (h x List.mem_cons_self b hb c hx) (fun y hy => h y (List.mem_cons_of_mem _ hy)) e
    | inr r =>
      rw [hx] at e
      cases e
/-- what the search keeps -/
structure Jn (h : House) (bs : List Bnd) (b : Sr Sta Nm) : Prop where
  nd : b.2.Nodup
  ok : ∀ t ∈ b.2, StOk h bs t
  todo : ∀ q ∈ b.1, StOk h bs q.1 ∧ q.2.length ≤ b.2.length
  le : b.1.length ≤ b.2.length
theorem jn_turn {d : Nm} {p : Ky} {x : Nm × Sta × List Tel} {b b' : Sr Sta Nm} (j : Jn h bs b) (hx : StOk h bs x.2.1) (hp : p.length ≤ b.2.length) (e : turnF d p x b = .inl b') : Jn h bs b' ∧ p.length ≤ b'.2.length := by
  unfold turnF srX at e
  by_cases ht : tellD d x.2.2 = true
  · rw [if_pos ht] at e; cases e
  · rw [if_neg ht] at e
    by_cases hm : x.2.1 ∈ b.2
    · rw [if_pos hm] at e
      cases e
      exact ⟨j, hp⟩
    · rw [if_neg hm] at e
      cases e
      refine ⟨⟨?_, fun t ht => ?_, fun q hq => ?_, ?_⟩, ?_⟩
      · rw [List.nodup_append]
        refine ⟨j.nd, by simp, fun a ha c hc e => ?_⟩
        rw [List.mem_singleton] at hc
        exact hm (hc ▸ e ▸ ha)
      · rcases List.mem_append.mp ht with ht | ht
        · exact j.ok t ht
        · rw [List.mem_singleton] at ht
          exact ht ▸ hx
      · show StOk h bs q.1 ∧ q.2.length ≤ (b.2 ++ [x.2.1]).length
        rw [List.length_append, List.length_singleton]
        rcases List.mem_append.mp hq with hq | hq
        · exact ⟨(j.todo q hq).1, Nat.le_succ_of_le (j.todo q hq).2⟩
        · rw [List.mem_singleton] at hq
          subst hq
          refine ⟨hx, ?_⟩
          show (p ++ [x.1]).length ≤ _
          rw [List.length_append, List.length_singleton]
          omega
      · show (b.1 ++ [(x.2.1, p ++ [x.1])]).length ≤ (b.2 ++ [x.2.1]).length
        rw [List.length_append, List.length_append, List.length_singleton, List.length_singleton]
        have := j.le
        omega
      · show p.length ≤ (b.2 ++ [x.2.1]).length
        rw [List.length_append, List.length_singleton]
        omega
theorem ev_to (n : Nat) (c : CX h bs) (d : Nm) (hr : h.rooms.length ≤ 5) (hb : bs.length ≤ 8) (hk : ∀ b ∈ bs, b.keys.length ≤ 3) (hl : (flatK bs).length < 64) :
    ∃ r, Found (stepsP h bs) (tellD d) (beginP h) encK r ∧ evFn PP WF (n + 8) 75 [encH h, encM bs, st d] = .ok (match r with
      | .inl _ => .none
      | .inr v => v) := by
  obtain ⟨r, hr1, hr2⟩ := search (stepsP h bs) (tellD d) (beginP h) encK (allS h bs) (fun k s hs => allS_mem ((lay_st c d k).1 s hs)) 1000 0 [(beginP h, [])] [] [beginP h] (inv_begin (stepsP h bs) (tellD d) (beginP h)) (by simp) (by
    have := allS_len hr hb hk
    simp
    omega)
  refine ⟨r, hr2, ?_⟩
  have := ev_open (n := n + 7) (f := 75) (fn := f75_steps_to) (ds := [encH h, encM bs, st d]) rfl rfl
  unfold Ev at this
  rw [this]
  have hst := fun {s : Sta} (g : StOk h bs s) => ev_steps n c (g.gs c) hl
  have hbe := ev_begin (n + 6) c
  generalize hcall : evFn PP WF (n + 7) = call at *
  have hp0 : dputs [] [(encS (beginP h), PyData.bool true)] = some [(encS (beginP h), PyData.bool true)] := puts_d (E := ES) (ev := fun _ : Unit => PyData.bool true) [(beginP h, ())] []
  simp [f75_steps_to, hbe, hp0, KD.fresh, isCont]
  rw [guard_ok' (show dictOk [(encS (beginP h), PyData.bool true)] = true from rfl)]
  rw [show PyData.dict [(encS (beginP h), PyData.bool true)] = seenD [beginP h] from rfl, show PyData.list [PyData.tuple [encS (beginP h), PyData.tuple []]] = .list (([(beginP h, [])] : List (Sta × Ky)).map encQ) from rfl]
  refine bind_whl (P := fun x => x = R.ok (match r with
      | .inl _ => PyData.none
      | .inr v => v)) (fun b : Sr Sta Nm => [some (.val (encH h)), some (.val (encM bs)), some (.val (st d)), some (.val (encS (beginP h))), some (.own (seenD b.2)), some (.own (.list (b.1.map encQ))), none, none, none, none, none]) srT (srF (stepsP h bs) (tellD d) encK)
    (Jn h bs) ([(beginP h, [])], [beginP h]) r ?_ hr1 (fun b hb => ?_) (fun b hb ht => ?_) (fun b' e => ?_) fun v e => ?_
  · refine ⟨by simp, fun t ht => ?_, fun q hq => ?_, Nat.le_refl _⟩
    · rw [List.mem_singleton] at ht
      exact ht ▸ begin_st c
    · rw [List.mem_singleton] at hq
      subst hq
      exact ⟨begin_st c, Nat.zero_le _⟩
  · obtain ⟨todo, seen⟩ := b
    cases todo with
    | nil => simp [srT]
    | cons q todo => simp [srT]
  · obtain ⟨todo, seen⟩ := b
    cases todo with
    | nil => cases ht
    | cons q A =>
      obtain ⟨s, p⟩ := q
      obtain ⟨hs, hp⟩ := hb.todo (s, p) List.mem_cons_self
      have hstep := hst hs
      have hst2 := steps_st c hs
      have few : ∀ b : Sr Sta Nm, Jn h bs b → b.2.length ≤ 125 := fun b j => Nat.le_trans (nodup_sub j.nd fun t ht => allS_mem (j.ok t ht)) (allS_len hr ‹_› hk)
      have j0 : Jn h bs (A, seen) := ⟨hb.nd, hb.ok, fun q hq => hb.todo q (List.mem_cons_of_mem _ hq), Nat.le_of_succ_le hb.le⟩
      have eF : srF (stepsP h bs) (tellD d) encK ((s, p) :: A, seen) = runL (turnF d p) (stepsP h bs s) (A, seen) := by
        rw [run_srL]
        unfold srF
        dsimp only
        cases srL (tellD d) p (stepsP h bs s) (A, seen) <;> rfl
      rw [eF]
      refine ⟨?_, fun b' e => (runL_inv (J := fun b => Jn h bs b ∧ p.length ≤ b.2.length) ⟨j0, hp⟩ (fun x hx b ⟨j1, j2⟩ b' e => jn_turn j1 (hst2 x hx) j2 e) e).1⟩
      have hq0 : encQ (s, p) = .tuple [encS s, encK p] := rfl
      simp [hq0, hstep]
      refine bind_runI (P := Turn _ _ _) encSt (fun b : Sr Sta Nm => [some (.val (encH h)), some (.val (encM bs)), some (.val (st d)), some (.val (encS (beginP h))), some (.own (seenD b.2)), some (.own (.list (b.1.map encQ))), some (.val (encS s)), some (.val (encK p)), none, none, none]) (turnF d p) (fun _ b => Jn h bs b ∧ p.length ≤ b.2.length) (A, seen) ⟨j0, hp⟩ (fun i x hx b ⟨j1, j2⟩ => ⟨?_, fun b' e => jn_turn j1 (hst2 x (List.mem_of_getElem? hx)) j2 e⟩) (fun b' e _ => ?_) (fun v e => ?_)
      · have few1 := few b j1
        have hpl : p.length ≤ 100000 := by omega
        have hadd := add_K p x.1 hpl
        have hin := in_told d x.2.2
        have hnew := in_seen b.2 x.2.1
        have hlt : b.2.length < 1000000 := by omega
        have hlt2 : b.1.length < lim := by have := j1.le; show _ < 1000000; omega
        unfold turnF srX
        by_cases ht : tellD d x.2.2 = true
        · rw [ht] at hin
          simp [fstep, encSt, hin, ht, hadd, Turn]
        · rw [Bool.not_eq_true] at ht
          rw [ht] at hin
          by_cases hm : x.2.1 ∈ b.2
          · simp [fstep, encSt, hin, ht, hnew, hm, Turn]
          · have hput := fun ρ => put_seen 4 b.2 x.2.1 ρ hlt hm
            simp [fstep, encSt, hin, ht, hnew, hm, Turn, dic_seen, hput, hadd, hlt2, encQ]
      · rw [e]
        simp [Turn]
      · rw [e]
        simp [Turn]
  · subst e; simp
  · subst e; simp
end KP
/-! KdBfs2: the law's own search, and steps followed. -/
namespace KP
section
variable {S K T : Type} [DecidableEq S] (steps stepsB : S → List (K × S × T)) (tell : T → Bool) (s0 : S)
/-- the same steps, told in another order: the same layers -/
theorem lay_same (hs : ∀ s x, x ∈ steps s ↔ x ∈ stepsB s) : ∀ k, (∀ t, t ∈ (lay steps tell s0 k).more ↔ t ∈ (lay stepsB tell s0 k).more) ∧ ∀ t, t ∈ (lay steps tell s0 k).seen ↔ t ∈ (lay stepsB tell s0 k).seen
  | 0 => ⟨fun t => Iff.rfl, fun t => Iff.rfl⟩
  | k + 1 => by
    obtain ⟨i1, i2⟩ := lay_same hs k
    have h1 : ∀ t, t ∈ (lay steps tell s0 (k + 1)).more ↔ t ∈ (lay stepsB tell s0 (k + 1)).more := fun t => by
      rw [lay_more, lay_more, i2]
      refine and_congr_right fun _ => ?_
      constructor
      · rintro ⟨s, hm, x, hx, e⟩
        exact ⟨s, (i1 s).mp hm, x, (hs s x).mp hx, e⟩
      · rintro ⟨s, hm, x, hx, e⟩
        exact ⟨s, (i1 s).mpr hm, x, (hs s x).mpr hx, e⟩
    exact ⟨h1, fun t => by rw [lay_seen, lay_seen, i2, h1]⟩
theorem tells_same (hs : ∀ s x, x ∈ steps s ↔ x ∈ stepsB s) (s : S) : tells steps tell s = tells stepsB tell s := by
  unfold tells
  rw [Bool.eq_iff_iff, List.any_eq_true, List.any_eq_true]
  constructor
  · rintro ⟨x, hx, e⟩
    exact ⟨x, (hs s x).mp hx, e⟩
  · rintro ⟨x, hx, e⟩
    exact ⟨x, (hs s x).mpr hx, e⟩
/-! how many are seen -/
structure LyG (r : Ly S) (n : Nat) : Prop where
  nd : r.seen.Nodup
  sub : ∀ t ∈ r.more, t ∈ r.seen
  len : r.seen.length = n + r.more.length
theorem lyX_good (x : K × S × T) {r : Ly S} {n : Nat} (g : LyG r n) : LyG (lyX tell x r) n := by
  unfold lyX
  by_cases q : x.2.1 ∈ r.seen
  · simp only [if_pos q]
    exact ⟨g.nd, g.sub, g.len⟩
  · simp only [if_neg q]
    refine ⟨?_, fun t ht => ?_, ?_⟩
    · rw [List.nodup_append]
      refine ⟨g.nd, by simp, fun a ha c hc e => ?_⟩
      rw [List.mem_singleton] at hc
      exact q (hc ▸ e ▸ ha)
    · rcases List.mem_append.mp ht with ht | ht
      · exact List.mem_append_left _ (g.sub t ht)
      · exact List.mem_append_right _ ht
    · have := g.len
      simp only [List.length_append, List.length_singleton]
      omega
theorem lyS_good : ∀ (xs : List (K × S × T)) {r : Ly S} {n : Nat}, LyG r n → LyG (lyS tell xs r) n
  | [], r, n, g => g
  | x :: xs, r, n, g => lyS_good xs (lyX_good tell x g)
theorem lyL_good : ∀ (l : List S) {r : Ly S} {n : Nat}, LyG r n → LyG (lyL steps tell l r) n
  | [], r, n, g => g
  | s :: l, r, n, g => lyL_good l (lyS_good tell (steps s) g)
theorem lay_good : ∀ k, (lay steps tell s0 k).seen.Nodup ∧ (lay steps tell s0 (k + 1)).seen.length = (lay steps tell s0 k).seen.length + (lay steps tell s0 (k + 1)).more.length
  | 0 => by
    have g : LyG (⟨(lay steps tell s0 0).seen, [], false⟩ : Ly S) (lay steps tell s0 0).seen.length := ⟨by simp [lay], (fun t ht => nomatch ht), rfl⟩
    exact ⟨by simp [lay], (lyL_good steps tell _ g).len⟩
  | k + 1 => by
    obtain ⟨i1, _⟩ := lay_good k
    have g0 : LyG (⟨(lay steps tell s0 k).seen, [], false⟩ : Ly S) (lay steps tell s0 k).seen.length := ⟨i1, (fun t ht => nomatch ht), rfl⟩
    have g1 := lyL_good steps tell (lay steps tell s0 k).more g0
    have n1 : (lay steps tell s0 (k + 1)).seen.Nodup := g1.nd
    have g2 : LyG (⟨(lay steps tell s0 (k + 1)).seen, [], false⟩ : Ly S) (lay steps tell s0 (k + 1)).seen.length := ⟨n1, (fun t ht => nomatch ht), rfl⟩
    exact ⟨n1, (lyL_good steps tell _ g2).len⟩
/-! the law's search -/
structure Lq (S : Type) where
  layer : List S
  seen : List S
  due : Nat
  count : Nat
def lqT (b : Lq S) : Bool := !b.layer.isEmpty && decide (b.due = 0)
def lqF {D : Type} (b : Lq S) : Lq S ⊕ D := .inl ⟨(lyL steps tell b.layer ⟨b.seen, [], false⟩).more, (lyL steps tell b.layer ⟨b.seen, [], false⟩).seen, if (lyL steps tell b.layer ⟨b.seen, [], false⟩).hit then b.count + 1 else b.due, b.count + 1⟩
def lq (k : Nat) : Lq S := ⟨(lay steps tell s0 k).more, (lay steps tell s0 k).seen, if (lay steps tell s0 k).hit then k else 0, k⟩
theorem lqF_lq {D : Type} (k : Nat) (h : (lq steps tell s0 k).due = 0) : lqF (D := D) steps tell (lq steps tell s0 k) = .inl (lq steps tell s0 (k + 1)) := by
  unfold lqF
  rw [h]
  rfl
/-- what the law's search gives -/
def LFound (k : Nat) (b : Lq S) : Prop :=
  (b.due = 0 ∧ ∀ j, k ≤ j → ∀ s ∈ (lay steps tell s0 j).more, tells steps tell s = false) ∨
  ∃ m, k ≤ m ∧ b.due = m + 1 ∧ (∃ s ∈ (lay steps tell s0 m).more, tells steps tell s = true) ∧ ∀ j, k ≤ j → j < m → ∀ s ∈ (lay steps tell s0 j).more, tells steps tell s = false
theorem lawsearch (U : List S) (hU : ∀ k, ∀ s ∈ (lay steps tell s0 k).seen, s ∈ U) : ∀ (n k : Nat), (lay steps tell s0 k).hit = false → U.length + 3 ≤ n + (lay steps tell s0 k).seen.length →
    ∃ b, whlL (lqT (S := S)) (lqF steps tell) n (lq steps tell s0 k) = some (.inl b) ∧ LFound steps tell s0 k b
  | 0, k, h0, hn => by
    have := nodup_sub (lay_good steps tell s0 k).1 (hU k)
    omega
  | n + 1, k, h0, hn => by
    have le0 := nodup_sub (lay_good steps tell s0 k).1 (hU k)
    have d0 : (lq steps tell s0 k).due = 0 := by unfold lq; rw [h0]; rfl
    by_cases he : (lay steps tell s0 k).more = []
    · refine ⟨lq steps tell s0 k, ?_, .inl ⟨d0, fun j hj s hs => ?_⟩⟩
      · rw [whlL, show lqT (lq steps tell s0 k) = false from by unfold lqT lq; rw [he]; rfl]
      · have := lay_end steps tell s0 (k := k) (fun t ht => by rw [he] at ht; cases ht) (j - k) s
        rw [show k + (j - k) = j by omega] at this
        exact absurd hs this
    · have hT : lqT (lq steps tell s0 k) = true := by
        unfold lqT
        rw [d0]
        have : (lq steps tell s0 k).layer ≠ [] := he
        cases q : (lq steps tell s0 k).layer with
        | nil => exact absurd q this
        | cons a l => rfl
      have step : whlL (lqT (S := S)) (lqF steps tell) (n + 1) (lq steps tell s0 k) = whlL (lqT (S := S)) (lqF steps tell) n (lq steps tell s0 (k + 1)) := by
        rw [whlL, hT]
        simp only [lqF_lq steps tell s0 k d0]
      rw [step]
      cases hh : (lay steps tell s0 (k + 1)).hit with
      | true =>
        have d1 : (lq steps tell s0 (k + 1)).due = k + 1 := by unfold lq; rw [hh]; rfl
        have hn1 : n ≠ 0 := by omega
        obtain ⟨n', rfl⟩ := Nat.exists_eq_succ_of_ne_zero hn1
        refine ⟨lq steps tell s0 (k + 1), ?_, .inr ⟨k, Nat.le_refl _, d1, ?_, fun j h1 h2 => absurd h2 (by omega)⟩⟩
        · rw [whlL, show lqT (lq steps tell s0 (k + 1)) = false from by
            unfold lqT
            rw [d1, show decide (k + 1 = 0) = false from rfl, Bool.and_false]]
        · rw [lay_hit, List.any_eq_true] at hh
          exact hh
      | false =>
        have hno : ∀ s ∈ (lay steps tell s0 k).more, tells steps tell s = false := fun s hs => by
          rw [lay_hit, List.any_eq_false] at hh
          simpa using hh s hs
        have fin : ∀ b, LFound steps tell s0 (k + 1) b → LFound steps tell s0 k b := fun b hb => by
          rcases hb with ⟨h1, h2⟩ | ⟨m, h1, h2, h3, h4⟩
          · refine .inl ⟨h1, fun j hj s hs => ?_⟩
            by_cases e : j = k
            · subst e; exact hno s hs
            · exact h2 j (by omega) s hs
          · refine .inr ⟨m, by omega, h2, h3, fun j hj hm s hs => ?_⟩
            by_cases e : j = k
            · subst e; exact hno s hs
            · exact h4 j (by omega) hm s hs
        by_cases he2 : (lay steps tell s0 (k + 1)).more = []
        · have hn1 : n ≠ 0 := by omega
          obtain ⟨n', rfl⟩ := Nat.exists_eq_succ_of_ne_zero hn1
          refine ⟨lq steps tell s0 (k + 1), ?_, fin _ (.inl ⟨by unfold lq; rw [hh]; rfl, fun j hj s hs => ?_⟩)⟩
          · rw [whlL, show lqT (lq steps tell s0 (k + 1)) = false from by unfold lqT lq; rw [he2]; rfl]
          · have := lay_end steps tell s0 (k := k + 1) (fun t ht => by rw [he2] at ht; cases ht) (j - (k + 1)) s
            rw [show k + 1 + (j - (k + 1)) = j by omega] at this
            exact absurd hs this
        · have hl := (lay_good steps tell s0 k).2
          have hp := List.length_pos_iff.mpr he2
          obtain ⟨b, h1, h2⟩ := lawsearch U hU n (k + 1) hh (by omega)
          exact ⟨b, h1, fin b h2⟩
/-! steps followed -/
variable [DecidableEq K] (nxt : S → K → S × T) (okK : S → K → Prop)
/-- each step is what its name makes of the state -/
structure Det (P : S → Prop) : Prop where
  nx : ∀ s, P s → ∀ x ∈ steps s, x.2 = nxt s x.1
  ok : ∀ s, P s → ∀ x ∈ steps s, okK s x.1
  st : ∀ s, P s → ∀ x ∈ steps s, P x.2.1
def folw (t0 : T) (p : List K) : S × T := p.foldl (fun b k => nxt b.1 k) (s0, t0)
theorem rch_folw {P : S → Prop} (hD : Det steps nxt okK P) (h0 : P s0) {t0 : T} (ht0 : tell t0 = false) {p : List K} {s : S} (hr : Rch steps tell s0 p s) :
    P s ∧ (folw s0 nxt t0 p).1 = s ∧ tell (folw s0 nxt t0 p).2 = false ∧ ∀ i k, p[i]? = some k → P (folw s0 nxt t0 (p.take i)).1 ∧ tell (folw s0 nxt t0 (p.take i)).2 = false ∧ okK (folw s0 nxt t0 (p.take i)).1 k := by
  induction hr with
  | nil => exact ⟨h0, rfl, ht0, fun i k e => by simp at e⟩
  | @snoc p s x h hx ht ih =>
    obtain ⟨i1, i2, i3, i4⟩ := ih
    have e1 : folw s0 nxt t0 (p ++ [x.1]) = nxt s x.1 := by
      unfold folw
      rw [List.foldl_append]
      show nxt (folw s0 nxt t0 p).1 x.1 = _
      rw [i2]
    have e2 := hD.nx s i1 x hx
    refine ⟨hD.st s i1 x hx, ?_, ?_, fun i k e => ?_⟩
    · rw [e1, ← e2]
    · rw [e1, ← e2]; exact ht
    · by_cases hi : i < p.length
      · rw [List.getElem?_append_left hi] at e
        rw [List.take_append_of_le_length (by omega)]
        exact i4 i k e
      · have hlt := (List.getElem?_eq_some_iff.mp e).1
        rw [List.length_append, List.length_singleton] at hlt
        have hi2 : i = p.length := by omega
        subst hi2
        rw [List.getElem?_append_right (Nat.le_refl _), Nat.sub_self] at e
        cases e
        rw [List.take_append_of_le_length (Nat.le_refl _), List.take_length, i2]
        exact ⟨i1, i3, hD.ok s i1 x hx⟩
/-- to the step that tells -/
theorem last_folw {P : S → Prop} (hD : Det steps nxt okK P) (h0 : P s0) {t0 : T} (ht0 : tell t0 = false) {p : List K} {s : S} {x : K × S × T} (hr : Rch steps tell s0 p s) (hx : x ∈ steps s) (ht : tell x.2.2 = true) :
    tell (folw s0 nxt t0 (p ++ [x.1])).2 = true ∧ ∀ i k, (p ++ [x.1])[i]? = some k → P (folw s0 nxt t0 ((p ++ [x.1]).take i)).1 ∧ tell (folw s0 nxt t0 ((p ++ [x.1]).take i)).2 = false ∧ okK (folw s0 nxt t0 ((p ++ [x.1]).take i)).1 k := by
  obtain ⟨i1, i2, i3, i4⟩ := rch_folw steps tell s0 nxt okK hD h0 ht0 hr
  have e1 : folw s0 nxt t0 (p ++ [x.1]) = nxt s x.1 := by
    unfold folw
    rw [List.foldl_append]
    show nxt (folw s0 nxt t0 p).1 x.1 = _
    rw [i2]
  refine ⟨by rw [e1, ← hD.nx s i1 x hx]; exact ht, fun i k e => ?_⟩
  by_cases hi : i < p.length
  · rw [List.getElem?_append_left hi] at e
    rw [List.take_append_of_le_length (by omega)]
    exact i4 i k e
  · have hlt := (List.getElem?_eq_some_iff.mp e).1
    rw [List.length_append, List.length_singleton] at hlt
    have hi2 : i = p.length := by omega
    subst hi2
    rw [List.getElem?_append_right (Nat.le_refl _), Nat.sub_self] at e
    cases e
    rw [List.take_append_of_le_length (Nat.le_refl _), List.take_length, i2]
    exact ⟨i1, i3, hD.ok s i1 x hx⟩
end
end KP
/-! KdM41c: law k41 at last. -/
namespace KP
open PySem hiding Env Flow
open KD
variable {h : House} {bs : List Bnd}
/-! the steps that are told, followed by the law -/
def nxtP (h : House) (bs : List Bnd) (s : Sta) (k : Nm) : Sta × List Tel := if k = waitT then settledP h bs s else takenP h bs s k 0
def okW (s : Sta) (k : Nm) : Prop := k = waitT → s.keys ≠ []
theorem det_steps (c : CX h bs) (hk : ∀ k ∈ flatK bs, k ≠ waitT) : Det (stepsP h bs) (nxtP h bs) okW (StOk h bs) := by
  have spl : ∀ s, StOk h bs s → ∀ x ∈ stepsP h bs s, x.2 = nxtP h bs s x.1 ∧ okW s x.1 := fun s g x hx => by
    unfold stepsP at hx
    rcases List.mem_append.mp hx with hx | hx
    · obtain ⟨k, hk1, rfl⟩ := List.mem_map.mp hx
      have hne := hk k (keysM_mem.mp hk1)
      exact ⟨by unfold nxtP; rw [if_neg hne], fun e => absurd e hne⟩
    · split at hx
      · exact nomatch hx
      · rename_i q
        rw [List.mem_singleton] at hx
        subst hx
        exact ⟨by unfold nxtP; rw [if_pos rfl], fun _ => q⟩
  exact ⟨fun s g x hx => (spl s g x hx).1, fun s g x hx => (spl s g x hx).2, fun s g x hx => steps_st c g x hx⟩
/-! the law's layers -/
abbrev e41 (ns : List Int) (h : House) (bs : List Bnd) (d : Nm) (layer : D) (seen : D) (due cnt : Int) (rest : KD.Env) : KD.Env := [some (.val (scr (ns.map .int))), some (.val (encH h)), some (.val (encM bs)), some (.val (st d)), some (.val layer), some (.own seen), some (.val (.int due)), some (.val (.int cnt)), none] ++ rest
def JL (h : House) (bs : List Bnd) (n0 : Nat) (r : Ly Sta) : Prop := LyG r n0 ∧ ∀ t ∈ r.seen, StOk h bs t
theorem jl_turn {d : Nm} {x : Nm × Sta × List Tel} {n0 : Nat} {r : Ly Sta} (j : JL h bs n0 r) (hx : StOk h bs x.2.1) : JL h bs n0 (lyX (tellD d) x r) := by
  refine ⟨lyX_good _ x j.1, fun t ht => ?_⟩
  unfold lyX at ht
  by_cases q : x.2.1 ∈ r.seen
  · simp only [if_pos q] at ht
    exact j.2 t ht
  · simp only [if_neg q] at ht
    rcases List.mem_append.mp ht with ht | ht
    · exact j.2 t ht
    · rw [List.mem_singleton] at ht
      exact ht ▸ hx
theorem steps_stL (c : CX h bs) {s : Sta} (g : StOk h bs s) : ∀ x ∈ stepsL h bs s, StOk h bs x.2.1 := fun x hx => steps_st c g x ((steps_same s x).mpr hx)
abbrev layL (h : House) (bs : List Bnd) (d : Nm) (k : Nat) : Ly Sta := lay (stepsL h bs) (tellD d) (beginP h) k
theorem layL_st (c : CX h bs) (d : Nm) (k : Nat) : (∀ s ∈ (layL h bs d k).seen, StOk h bs s) ∧ ∀ s ∈ (layL h bs d k).more, StOk h bs s := by
  obtain ⟨i1, i2⟩ := lay_st c d k
  obtain ⟨j1, j2⟩ := lay_same (stepsP h bs) (stepsL h bs) (tellD d) (beginP h) (fun s x => steps_same s x) k
  exact ⟨fun s hs => i1 s ((j2 s).mpr hs), fun s hs => i2 s ((j1 s).mpr hs)⟩
/-- the law's loop -/
theorem loop41 (call : Nat → List D → R D) (ns : List Int) (c : CX h bs) (d : Nm) (hal : (allS h bs).length ≤ 125) (hall : ∀ s, StOk h bs s → call 96 [encH h, encM bs, encS s] = .ok (.list ((stepsL h bs s).map encSl)))
    {cond : Ex} {body : List Stm} {w : List Nat} {k : Flow → R D} (hb : (f97_law.body[8]?) = some (.whl cond body w))
    (P : R D → Prop)
    (q : ∀ b : Lq Sta, LFound (stepsL h bs) (tellD d) (beginP h) 0 b → P (k (.nx (e41 ns h bs d (seenD b.layer) (seenD b.seen) b.due b.count [none, none, none, none, none])))) :
    P ((whlF (fun ρ => (ev call ρ true cond).bind asB) (exsC call WF body) w WF (e41 ns h bs d (seenD [beginP h]) (seenD [beginP h]) 0 0 [none, none, none, none, none])).bind k) := by
  cases hb
  obtain ⟨b, h1, h2⟩ := lawsearch (stepsL h bs) (tellD d) (beginP h) (allS h bs) (fun k s hs => allS_mem ((layL_st c d k).1 s hs)) 1000 0 rfl (by simp [lay]; omega)
  refine bind_whl (P := P) (fun b : Lq Sta => e41 ns h bs d (seenD b.layer) (seenD b.seen) b.due b.count [none, none, none, none, none]) lqT (lqF (stepsL h bs) (tellD d)) (fun b => ∃ k, b = lq (stepsL h bs) (tellD d) (beginP h) k) (lq (stepsL h bs) (tellD d) (beginP h) 0) (.inl b) ⟨0, rfl⟩ h1 (fun b _ => ?_) (fun b hb ht => ?_) (fun b' e => by cases e; exact q b h2) fun v e => nomatch e
  · have h1 : eqD (seenD b.layer) (.dict []) = .ok b.layer.isEmpty := by
      have := eqe_d (E := ES) (ev := fun _ : Unit => PyData.bool true) (b.layer.map (·, ()))
      rw [List.isEmpty_map] at this
      exact this
    unfold lqT
    generalize seenD b.layer = dl at *
    cases he : b.layer.isEmpty with
    | true => rw [he] at h1; simp [e41, h1, dputs]
    | false =>
      rw [he] at h1
      by_cases hz : b.due = 0
      · simp [e41, h1, hz, dputs]
      · have hz2 : ¬ (b.due : Int) = 0 := by omega
        simp [e41, h1, hz, dputs]
  · obtain ⟨m, rfl⟩ := hb
    have hd0 : (lq (stepsL h bs) (tellD d) (beginP h) m).due = 0 := by
      unfold lqT at ht
      rw [Bool.and_eq_true, decide_eq_true_eq] at ht
      exact ht.2
    refine ⟨?_, fun b' e => ⟨m + 1, by rw [lqF_lq _ _ _ _ hd0] at e; cases e; rfl⟩⟩
    obtain ⟨s1, s2⟩ := layL_st c d m
    have s3 := (lay_good (stepsL h bs) (tellD d) (beginP h) m).1
    unfold lqF
    rw [hd0]
    show Turn _ _ (.inl (⟨(lyL (stepsL h bs) (tellD d) (layL h bs d m).more ⟨(layL h bs d m).seen, [], false⟩).more, (lyL (stepsL h bs) (tellD d) (layL h bs d m).more ⟨(layL h bs d m).seen, [], false⟩).seen, if (lyL (stepsL h bs) (tellD d) (layL h bs d m).more ⟨(layL h bs d m).seen, [], false⟩).hit = true then m + 1 else 0, m + 1⟩ : Lq Sta)) (exsC call WF _ (e41 ns h bs d (seenD (layL h bs d m).more) (seenD (layL h bs d m).seen) ((0 : Nat) : Int) (m : Int) [none, none, none, none, none]))
    generalize (layL h bs d m).more = lm at *
    generalize (layL h bs d m).seen = ls at *
    have hw : walkD .seq [seenD lm] = .ok (lm.map encS) := by
      have := keys_d (E := ES) (ev := fun _ : Unit => PyData.bool true) (lm.map (·, ()))
      rw [List.map_map] at this
      exact this
    have d0 : PyData.dict [] = seenD [] := rfl
    generalize hdl : seenD lm = dl at *
    simp [e41, KD.fresh, dputs, isCont, dictOk, hw]
    rw [d0]
    refine bind_foldI (P := Turn _ _ _) encS (fun r : Ly Sta => [some (.val (scr (ns.map .int))), some (.val (encH h)), some (.val (encM bs)), some (.val (st d)), some (.val dl), some (.own (seenD r.seen)), some (.val (.int (if r.hit = true then (m : Int) + 1 else 0))), some (.val (.int ((m : Int) + 1))), none, none, none, none, some (.own (seenD r.more)), none])
      (fun s r => lyS (tellD d) (stepsL h bs s) r) (fun _ r => JL h bs ls.length r) ⟨ls, [], false⟩ ⟨⟨s3, (fun t ht => nomatch ht), rfl⟩, s1⟩ (fun i s hs r jr => ?_) fun jr => ?_
    · have hsm := List.mem_of_getElem? hs
      have hcall := hall s (s2 s hsm)
      have hst := steps_stL c (s2 s hsm)
      have few : ∀ r : Ly Sta, JL h bs ls.length r → r.seen.length ≤ 125 := fun r j => Nat.le_trans (nodup_sub j.1.nd fun t ht => allS_mem (j.2 t ht)) hal
      have key : ∀ r, JL h bs ls.length r → JL h bs ls.length (lyS (tellD d) (stepsL h bs s) r) := fun r j => by
        have gen : ∀ (xs : List (Nm × Sta × List Tel)) (r : Ly Sta), (∀ x ∈ xs, StOk h bs x.2.1) → JL h bs ls.length r → JL h bs ls.length (lyS (tellD d) xs r) := by
          intro xs
          induction xs with
          | nil => exact fun r _ j => j
          | cons x xs ih => exact fun r hx j => ih _ (fun y hy => hx y (List.mem_cons_of_mem _ hy)) (jl_turn j (hx x List.mem_cons_self))
        exact gen _ r hst j
      refine ⟨?_, key r jr⟩
      simp [fstep, hcall]
      refine bind_foldI (P := OkNx _) encSl (fun r : Ly Sta => [some (.val (scr (ns.map .int))), some (.val (encH h)), some (.val (encM bs)), some (.val (st d)), some (.val dl), some (.own (seenD r.seen)), some (.val (.int (if r.hit = true then (m : Int) + 1 else 0))), some (.val (.int ((m : Int) + 1))), none, some (.val (encS s)), none, none, some (.own (seenD r.more)), none])
        (fun x r => lyX (tellD d) x r) (fun _ r => JL h bs ls.length r) r jr (fun i x hx r jr => ⟨?_, jl_turn jr (hst x (List.mem_of_getElem? hx))⟩) fun jr2 => ?_
      · have hin := in_toldL d x.2.2
        have hnew := in_seen r.seen x.2.1
        have few1 := few r jr
        have hlt : r.seen.length < 1000000 := by omega
        have hlt2 : r.more.length < 1000000 := by have := jr.1.len; omega
        unfold lyX
        by_cases hm : x.2.1 ∈ r.seen
        · cases ht : tellD d x.2.2 with
          | true => rw [ht] at hin; simp [fstep, encSl, hin, hnew, hm]
          | false => rw [ht] at hin; simp [fstep, encSl, hin, hnew, hm]
        · have hm2 : x.2.1 ∉ r.more := fun z => hm (jr.1.sub _ z)
          have hput := fun ρ => put_seen 5 r.seen x.2.1 ρ hlt hm
          have hput2 := fun ρ => put_seen 12 r.more x.2.1 ρ hlt2 hm2
          cases ht : tellD d x.2.2 with
          | true => rw [ht] at hin; simp [fstep, encSl, hin, hnew, hm, dic_seen, hput, hput2]
          | false => rw [ht] at hin; simp [fstep, encSl, hin, hnew, hm, dic_seen, hput, hput2]
      · show OkNx _ _
        simp [lyS]
        rfl
    · rw [show List.foldl (fun (r : Ly Sta) s => lyS (tellD d) (stepsL h bs s) r) ⟨ls, [], false⟩ lm = lyL (stepsL h bs) (tellD d) lm ⟨ls, [], false⟩ from rfl]
      generalize lyL (stepsL h bs) (tellD d) lm ⟨ls, [], false⟩ = r
      cases hh : r.hit with
      | true => simp [Turn, hh]
      | false => simp [Turn, hh]
/-- the law's last loop -/
theorem replay41 (call : Nat → List D → R D) (ns : List Int) (c : CX h bs) (d : Nm) (dl ds : D) (due cnt : Int) (p : Ky)
    (hp : ∀ (s : Sta) (k : Nm), StOk h bs s → call 82 [encH h, encM bs, .int 9, encS s, st k, .int 0] = .ok (encML (takenP h bs s k 0)))
    (hse : ∀ s : Sta, StOk h bs s → call 81 [encH h, encM bs, encS s] = .ok (encML (settledP h bs s)))
    (h1 : tellD d (folw (beginP h) (nxtP h bs) [] p).2 = true)
    (h2 : ∀ i k, p[i]? = some k → StOk h bs (folw (beginP h) (nxtP h bs) [] (p.take i)).1 ∧ tellD d (folw (beginP h) (nxtP h bs) [] (p.take i)).2 = false ∧ okW (folw (beginP h) (nxtP h bs) [] (p.take i)).1 k)
    : (cont call WF (f97_law.body.drop 14) (.nx [some (.val (scr (ns.map .int))), some (.val (encH h)), some (.val (encM bs)), some (.val (st d)), some (.val dl), some (.own ds), some (.val (.int due)), some (.val (.int cnt)), some (.val (encK p)), some (.val (encS (beginP h))), some (.val (.list [])), none, none, none])).bind endF = .ok (.bool true) := by
  have hw : walkD .seq [encK p] = .ok (p.map st) := rfl
  show IsT _
  simp [f97_law, hw]
  rw [show PyData.list [] = .list (([] : List Tel).map encT) from rfl]
  refine bind_foldI (P := IsT) st (fun r : Sta × List Tel => [some (.val (scr (ns.map .int))), some (.val (encH h)), some (.val (encM bs)), some (.val (st d)), some (.val dl), some (.own ds), some (.val (.int due)), some (.val (.int cnt)), some (.val (encK p)), some (.val (encS r.1)), some (.val (.list (r.2.map encT))), none, none, none])
    (fun k r => nxtP h bs r.1 k) (fun i r => r = folw (beginP h) (nxtP h bs) [] (p.take i)) (beginP h, []) rfl (fun i k hk r hr => ?_) fun hr => ?_
  · obtain ⟨g1, g2, g3⟩ := h2 i k hk
    rw [← hr] at g1 g2 g3
    refine ⟨?_, ?_⟩
    · have hin := in_toldL d r.2
      rw [g2] at hin
      have hq : eqD (encK r.1.keys) (.tuple []) = .ok (decide (r.1.keys = [])) := eqD_K r.1.keys []
      have hkw : eqD (st k) (st waitT) = .ok (decide (k = waitT)) := eqD_st k waitT
      unfold nxtP
      by_cases e : k = waitT
      · have hne := g3 e
        have hs := hse r.1 g1
        rw [decide_eq_true e] at hkw
        unfold waitT at hkw
        rw [if_pos e]
        simp [fstep, hin, hkw, encS_1, hq, hne, hs, encML]
      · have hs := hp r.1 k g1
        rw [decide_eq_false e] at hkw
        unfold waitT at hkw
        rw [if_neg e]
        simp [fstep, hin, hkw, hs, encML]
    · have ht : p.take (i + 1) = p.take i ++ [k] := by rw [List.take_add_one, hk]; rfl
      rw [ht, hr]
      unfold folw
      rw [List.foldl_append]
      rfl
  · rw [List.take_length] at hr
    rw [hr]
    have hin := in_toldL d (folw (beginP h) (nxtP h bs) [] p).2
    rw [h1] at hin
    simp [hin]
    rfl
/-- behind the law's loop -/
theorem tail41 (call : Nat → List D → R D) (ns : List Int) (c : CX h bs) (d : Nm) (hkw : ∀ k ∈ flatK bs, k ≠ waitT)
    (hp : ∀ (s : Sta) (k : Nm), StOk h bs s → call 82 [encH h, encM bs, .int 9, encS s, st k, .int 0] = .ok (encML (takenP h bs s k 0)))
    (hse : ∀ s : Sta, StOk h bs s → call 81 [encH h, encM bs, encS s] = .ok (encML (settledP h bs s)))
    {r : Sr Sta Nm ⊕ D} (hto : call 75 [encH h, encM bs, st d] = .ok (match r with
      | .inl _ => .none
      | .inr v => v)) (hF : Found (stepsP h bs) (tellD d) (beginP h) encK r) (b : Lq Sta) (hL : LFound (stepsL h bs) (tellD d) (beginP h) 0 b) :
    (cont call WF (f97_law.body.drop 9) (.nx (e41 ns h bs d (seenD b.layer) (seenD b.seen) b.due b.count [none, none, none, none, none]))).bind endF = .ok (.bool true) := by
  have smM : ∀ k t, t ∈ (lay (stepsP h bs) (tellD d) (beginP h) k).more ↔ t ∈ (lay (stepsL h bs) (tellD d) (beginP h) k).more := fun k => (lay_same (stepsP h bs) (stepsL h bs) (tellD d) (beginP h) (fun s x => steps_same s x) k).1
  have smT : ∀ s, tells (stepsP h bs) (tellD d) s = tells (stepsL h bs) (tellD d) s := fun s => tells_same (stepsP h bs) (stepsL h bs) (tellD d) (fun s x => steps_same s x) s
  show IsT _
  rcases hF with ⟨r', rfl, hno⟩ | ⟨k, p, s, x, rfl, hk, hR, hx, ht, hs, hmin⟩
  · have hd : b.due = 0 := by
      rcases hL with ⟨h1, _⟩ | ⟨m, _, _, ⟨s, h3, h4⟩, _⟩
      · exact h1
      · have := hno m s ((smM m s).mpr h3)
        rw [smT, h4] at this
        cases this
    simp only at hto
    generalize seenD b.layer = dl at *
    generalize seenD b.seen = ds at *
    simp [f97_law, e41, hto, hd]
    rfl
  · have hd : b.due = k + 1 := by
      have htl : tells (stepsP h bs) (tellD d) s = true := List.any_eq_true.mpr ⟨x, hx, ht⟩
      rcases hL with ⟨_, h2⟩ | ⟨m, _, h2, ⟨s', h3, h4⟩, h5⟩
      · have := h2 k (Nat.zero_le _) s ((smM k s).mp hs)
        rw [← smT, htl] at this
        cases this
      · by_cases e1 : k < m
        · have := h5 k (Nat.zero_le _) e1 s ((smM k s).mp hs)
          rw [← smT, htl] at this
          cases this
        · by_cases e2 : m < k
          · have := hmin m e2 s' ((smM m s').mpr h3)
            rw [smT, h4] at this
            cases this
          · rw [h2]
            omega
    obtain ⟨f1, f2⟩ := last_folw (stepsP h bs) (tellD d) (beginP h) (nxtP h bs) okW (det_steps c hkw) (begin_st c) (t0 := []) rfl hR hx ht
    have hrp := replay41 call ns c d (seenD b.layer) (seenD b.seen) b.due b.count (p ++ [x.1]) hp hse f1 f2
    have hlen : bltD .len [encK (p ++ [x.1])] = .ok (.int (b.due : Int)) := by
      rw [len_K, List.length_append, List.length_singleton, hk, hd]
    have hit : bltD .isTuple [encK (p ++ [x.1])] = .ok (.bool true) := rfl
    have hnn : isNone (encK (p ++ [x.1])) = false := rfl
    have hd1 : ¬ (b.due : Int) = 0 := by omega
    have hf : ∃ r0 t0, h.rooms = r0 :: t0 := by
      cases hr : h.rooms with
      | nil => exact absurd hr c.ne
      | cons r t => exact ⟨r, t, rfl⟩
    obtain ⟨r0, t0, hr0⟩ := hf
    have hbs : PyData.tuple [st r0.1, .tuple [], .int 0] = encS (beginP h) := by
      unfold beginP first
      rw [hr0]
      rfl
    simp only at hto
    generalize encK (p ++ [x.1]) = pk at *
    generalize seenD b.layer = dl at *
    generalize seenD b.seen = ds at *
    generalize (b.due : Int) = due at *
    have hrp2 : IsT _ := hrp
    simp only [f97_law, List.drop, cont_nx] at hrp2
    simp [-exS_for, -exS_wip, f97_law, e41, hto, hnn, hd1, hit, hlen, H0, hr0, encR, hbs]
    rw [exs_cons, bind_assoc] at hrp2
    exact hrp2
theorem law41 (n : Nat) (ns : List Int) : evFn PP WF (n + 10) 97 [scr (ns.map .int)] = .ok (.bool true) := by
  have := ev_open (n := n + 9) (f := 97) (fn := f97_law) (ds := [scr (ns.map .int)]) rfl rfl
  unfold Ev at this
  rw [this]
  have b0 := mixed_nn ns 0
  have b1 := mixed_nn ns 1
  have b2 := mixed_nn ns 2
  obtain ⟨h, h1, h2⟩ := ev_house (n + 7) (mixed ns 0) b0.1 b0.2
  obtain ⟨bs, k1, k2, k3⟩ := ev_map (n + 6) h h1.ne (mixed ns 1) 8 b1.1 (by decide) (by decide)
  have e0 := ev_mixed (n + 7) ns 0 (by decide)
  have e1 := ev_mixed (n + 7) ns 1 (by decide)
  have e2 := ev_mixed (n + 7) ns 2 (by decide)
  unfold Ev at h2 k3 e0 e1 e2
  have c := cx_of h1 k1 (by omega)
  simp at e0 e1 e2
  have hb8 : bs.length ≤ 8 := by omega
  have hk3 : ∀ b ∈ bs, b.keys.length ≤ 3 := fun b hb => (k1.each b hb).len.2
  have hfl : (flatK bs).length < 64 := by
    have := len_flat_le (fun b : Bnd => b.keys) 3 bs hk3
    unfold flatK
    omega
  have hkw : ∀ k ∈ flatK bs, k ≠ waitT := fun k hk => by
    obtain ⟨b, hb, hk⟩ := List.mem_flatMap.mp hk
    have := (k1.each b hb).keys k hk
    intro e
    subst e
    revert this
    decide
  obtain ⟨d, _, hd⟩ := tab_at [[103, 111], [105, 110], [111, 117, 116], [115, 101, 116], [99, 111, 112, 121], [117, 110, 100, 111], [110, 111, 110, 101]] (mixed ns 2) 7 rfl (by decide)
  simp only [List.map_cons, List.map_nil] at hd
  obtain ⟨r, hF, hto⟩ := ev_to (n + 1) c d h1.len hb8 hk3 hfl
  have hlall := fun (s : Sta) (g : StOk h bs s) => ev_lall (n + 4) c (g.gs c) g.2.2 hfl c.kl
  have hpr := fun (s : Sta) (k : Nm) (g : StOk h bs s) => ev_lpressed (n + 5) c (g.gs c) 9 k 0
  have hse := fun (s : Sta) (g : StOk h bs s) => ev_lsettled (n + 6) c g.1
  have hal := allS_len h1.len hb8 hk3
  have hf : ∃ r0 t0, h.rooms = r0 :: t0 := by
    cases hr : h.rooms with
    | nil => exact absurd hr c.ne
    | cons r t => exact ⟨r, t, rfl⟩
  obtain ⟨r0, t0, hr0⟩ := hf
  have hbs : PyData.tuple [st r0.1, .tuple [], .int 0] = encS (beginP h) := by
    unfold beginP first
    rw [hr0]
    rfl
  have hp0 : dputs [] [(encS (beginP h), PyData.bool true)] = some [(encS (beginP h), PyData.bool true)] := puts_d (E := ES) (ev := fun _ : Unit => PyData.bool true) [(beginP h, ())] []
  have hpr2 : ∀ (s : Sta) (k : Nm), StOk h bs s → evFn PP WF (n + 9) 82 [encH h, encM bs, .int 9, encS s, st k, .int 0] = .ok (encML (takenP h bs s k 0)) := fun s k g => by
    rw [hpr s k g, pressed_now s g.2.2]
  show IsT _
  generalize hcall : evFn PP WF (n + 9) = call at *
  have hdd : bltD .dict [seenD [beginP h]] = .ok (seenD [beginP h]) := rfl
  have hT := fun b hb => tail41 call ns c d hkw hpr2 hse hto hF b hb
  have hL := loop41 call ns c d hal hlall rfl IsT (k := fun a => (cont call WF (f97_law.body.drop 9) a).bind endF) hT
  simp [-ev_band, f97_law, e0, e1, e2, h2, k3, hd, H0, hr0, encR, hbs, hp0]
  rw [guard_ok' (show KD.fresh (Ex.blt Blt.dict [Ex.var 4]) = true from rfl), show PyData.dict [(encS (beginP h), PyData.bool true)] = seenD [beginP h] from rfl, hdd, R.bind_ok, guard_ok' (show isCont (seenD [beginP h]) = true from rfl)]
  exact hL
end KP
namespace KL
open PySem KD
abbrev WF : Nat := 1000
abbrev DEP : Nat := 20
theorem law_true : ∀ ns : List Int, ns.length ≤ 63 → evFn PP WF DEP 97 [scr (ns.map .int)] = .ok (.bool true) := fun ns _ => KP.law41 10 ns
end KL
/-! the law -/
namespace KL
open PySem PySem.Spec PyProof.Rows L2 KD
def topS (i : Nat) : Stmt := PySem.Challenge.pw_keydeeds_k41_whole_steps_to_deeds.main.body.getD i (.Pass ⟨0, 0, 0, 0⟩)
def nm : Nat → Option Str
  | 52 => some "outward"
  | 53 => some "holder"
  | 54 => some "rows"
  | 59 => some "begin"
  | 60 => some "goes_on"
  | 61 => some "with_deed"
  | 62 => some "settled"
  | 64 => some "taken"
  | 73 => some "all_keys"
  | 74 => some "steps_from"
  | 75 => some "steps_to"
  | 1 => some "_law_cell_at"
  | 2 => some "_law_mixed"
  | 3 => some "_law_drawn"
  | 19 => some "_law_key"
  | 20 => some "_law_house"
  | 21 => some "_law_bind"
  | 22 => some "_law_map"
  | 55 => some "_law_holder"
  | 56 => some "_law_rows"
  | 81 => some "_law_settled"
  | 82 => some "_law_pressed"
  | 96 => some "_law_all"
  | 97 => some "law"
  | _ => none
def pp : Nat → List Str
  | 52 => ["house", "room"]
  | 53 => ["house", "binds", "room", "keys"]
  | 54 => ["house", "binds", "room"]
  | 59 => ["house"]
  | 60 => ["book", "keys"]
  | 61 => ["house", "room", "deed"]
  | 62 => ["house", "binds", "state"]
  | 64 => ["house", "binds", "state", "key", "time"]
  | 73 => ["binds"]
  | 74 => ["house", "binds", "state"]
  | 75 => ["house", "binds", "deed"]
  | 1 => ["_law_script", "_law_k"]
  | 2 => ["_law_script", "_law_k"]
  | 3 => ["_law_number", "_law_k"]
  | 19 => ["_law_number"]
  | 20 => ["_law_number"]
  | 21 => ["_law_house_here", "_law_number"]
  | 22 => ["_law_house_here", "_law_number", "_law_most"]
  | 55 => ["_law_house_here", "_law_binds", "_law_room", "_law_keys"]
  | 56 => ["_law_house_here", "_law_binds", "_law_room"]
  | 81 => ["_law_house_here", "_law_binds", "_law_state"]
  | 82 => ["_law_house_here", "_law_binds", "_law_wait", "_law_state", "_law_key_here", "_law_time"]
  | 96 => ["_law_house_here", "_law_binds", "_law_state"]
  | 97 => ["_law_script"]
  | _ => []
def TT : Tb := { P := PP, wf := WF, nm := nm, cs := [] }
theorem ck52 : FnChk TT 52 (topS 1) (pp 52) f52_outward := fnB_ok (N := ["house", "room", "outers", "found"]) rfl (by decide +kernel)
theorem ck53 : FnChk TT 53 (topS 2) (pp 53) f53_holder := fnB_ok (N := ["house", "binds", "room", "keys", "book", "here", "at", "bind"]) rfl (by decide +kernel)
theorem ck54 : FnChk TT 54 (topS 3) (pp 54) f54_rows := fnB_ok (N := ["house", "binds", "room", "found", "keys", "at", "bind"]) rfl (by decide +kernel)
theorem ck59 : FnChk TT 59 (topS 5) (pp 59) f59_begin := fnB_ok (N := ["house"]) rfl (by decide +kernel)
theorem ck60 : FnChk TT 60 (topS 6) (pp 60) f60_goes_on := fnB_ok (N := ["book", "keys", "row"]) rfl (by decide +kernel)
theorem ck61 : FnChk TT 61 (topS 7) (pp 61) f61_with_deed := fnB_ok (N := ["house", "room", "deed"]) rfl (by decide +kernel)
theorem ck62 : FnChk TT 62 (topS 8) (pp 62) f62_settled := fnB_ok (N := ["house", "binds", "state", "book", "room", "keys", "since"]) rfl (by decide +kernel)
theorem ck64 : FnChk TT 64 (topS 9) (pp 64) f64_taken := fnB_ok (N := ["house", "binds", "state", "key", "time", "book", "keys", "room", "waiting", "since", "told", "new", "more"]) rfl (by decide +kernel)
theorem ck73 : FnChk TT 73 (topS 11) (pp 73) f73_all_keys := fnB_ok (N := ["binds", "found", "bind"]) rfl (by decide +kernel)
theorem ck74 : FnChk TT 74 (topS 12) (pp 74) f74_steps_from := fnB_ok (N := ["house", "binds", "state", "found", "key", "new", "told"]) rfl (by decide +kernel)
theorem ck75 : FnChk TT 75 (topS 13) (pp 75) f75_steps_to := fnB_ok (N := ["house", "binds", "deed", "first", "seen", "todo", "state", "steps", "step", "new", "told"]) rfl (by decide +kernel)
theorem ck1 : FnChk TT 1 (topS 15) (pp 1) f1_l_cell_at := fnB_ok (N := ["_law_script", "_law_k"]) rfl (by decide +kernel)
theorem ck2 : FnChk TT 2 (topS 16) (pp 2) f2_l_mixed := fnB_ok (N := ["_law_script", "_law_k", "_law_drawn_here"]) rfl (by decide +kernel)
theorem ck3 : FnChk TT 3 (topS 17) (pp 3) f3_l_drawn := fnB_ok (N := ["_law_number", "_law_k", "_law_drawn_here"]) rfl (by decide +kernel)
theorem ck19 : FnChk TT 19 (topS 18) (pp 19) f19_l_key := fnB_ok (N := ["_law_number"]) rfl (by decide +kernel)
theorem ck20 : FnChk TT 20 (topS 19) (pp 20) f20_l_house := fnB_ok (N := ["_law_number", "_law_names", "_law_rooms", "_law_k", "_law_ways", "_law_drawn_here", "_law_name", "_law_outer", "_law_deed"]) rfl (by decide +kernel)
theorem ck21 : FnChk TT 21 (topS 20) (pp 21) f21_l_bind := fnB_ok (N := ["_law_house_here", "_law_number", "_law_room", "_law_keys", "_law_deed", "_law_k"]) rfl (by decide +kernel)
theorem ck22 : FnChk TT 22 (topS 21) (pp 22) f22_l_map := fnB_ok (N := ["_law_house_here", "_law_number", "_law_most", "_law_found", "_law_k", "_law_bind_here", "_law_one"]) rfl (by decide +kernel)
theorem ck55 : FnChk TT 55 (topS 22) (pp 55) f55_l_holder := fnB_ok (N := ["_law_house_here", "_law_binds", "_law_room", "_law_keys", "_law_at", "_law_bind_here", "_law_name", "_law_outer"]) rfl (by decide +kernel)
theorem ck56 : FnChk TT 56 (topS 23) (pp 56) f56_l_rows := fnB_ok (N := ["_law_house_here", "_law_binds", "_law_room", "_law_found", "_law_bind_here", "_law_at"]) rfl (by decide +kernel)
theorem ck81 : FnChk TT 81 (topS 24) (pp 81) f81_l_settled := fnB_ok (N := ["_law_house_here", "_law_binds", "_law_state", "_law_book", "_law_room", "_law_keys", "_law_since"]) rfl (by decide +kernel)
theorem ck82 : FnChk TT 82 (topS 25) (pp 82) f82_l_pressed := fnB_ok (N := ["_law_house_here", "_law_binds", "_law_wait", "_law_state", "_law_key_here", "_law_time", "_law_found", "_law_keys", "_law_book", "_law_more", "_law_new", "_law_row"]) rfl (by decide +kernel)
theorem ck96 : FnChk TT 96 (topS 27) (pp 96) f96_l_all := fnB_ok (N := ["_law_house_here", "_law_binds", "_law_state", "_law_keys", "_law_bind_here", "_law_found", "_law_key_here"]) rfl (by decide +kernel)
theorem ck97 : FnChk TT 97 (topS 28) (pp 97) f97_law := fnB_ok (N := ["_law_script", "_law_house_here", "_law_binds", "_law_deed", "_law_layer", "_law_seen", "_law_due", "_law_count", "_law_found", "_law_state", "_law_told", "_law_step", "_law_more", "_law_new"]) rfl (by decide +kernel)
theorem all_mk {P : Program} {w : World} {K : PySem.W.Frag} {h : Heap} {mg : Str → Option Value} {fa : Addr} (X : K.In h) (G : h.Ns mainGlobals mg) (hfa : mg "law" = some (.ref fa))
    {f0 : Addr} {oc0 kV0 dc0 pm0 cd0 ct0 : Value} {od0 an0 : Option Addr} {sl0 : Array (Option Value)}
    (a0 : PySem.W.nsIn K mainGlobals "outward" = some (some (.ref f0))) (l0 : K.lookup f0 = some ⟨oc0, od0, .func (PySem.W.fnOf "outward" "outward" (defArgs (topS 1)) (defBody (topS 1)) (defScope (topS 1)) .none kV0 dc0 pm0 an0 cd0 ct0), sl0⟩)
    (c0 : PySem.W.codeIn K cd0 "outward" = true) (k0 : PySem.W.keepIn K (.ref f0) = true)
    {f1 : Addr} {oc1 kV1 dc1 pm1 cd1 ct1 : Value} {od1 an1 : Option Addr} {sl1 : Array (Option Value)}
    (a1 : PySem.W.nsIn K mainGlobals "holder" = some (some (.ref f1))) (l1 : K.lookup f1 = some ⟨oc1, od1, .func (PySem.W.fnOf "holder" "holder" (defArgs (topS 2)) (defBody (topS 2)) (defScope (topS 2)) .none kV1 dc1 pm1 an1 cd1 ct1), sl1⟩)
    (c1 : PySem.W.codeIn K cd1 "holder" = true) (k1 : PySem.W.keepIn K (.ref f1) = true)
    {f2 : Addr} {oc2 kV2 dc2 pm2 cd2 ct2 : Value} {od2 an2 : Option Addr} {sl2 : Array (Option Value)}
    (a2 : PySem.W.nsIn K mainGlobals "rows" = some (some (.ref f2))) (l2 : K.lookup f2 = some ⟨oc2, od2, .func (PySem.W.fnOf "rows" "rows" (defArgs (topS 3)) (defBody (topS 3)) (defScope (topS 3)) .none kV2 dc2 pm2 an2 cd2 ct2), sl2⟩)
    (c2 : PySem.W.codeIn K cd2 "rows" = true) (k2 : PySem.W.keepIn K (.ref f2) = true)
    {f3 : Addr} {oc3 kV3 dc3 pm3 cd3 ct3 : Value} {od3 an3 : Option Addr} {sl3 : Array (Option Value)}
    (a3 : PySem.W.nsIn K mainGlobals "begin" = some (some (.ref f3))) (l3 : K.lookup f3 = some ⟨oc3, od3, .func (PySem.W.fnOf "begin" "begin" (defArgs (topS 5)) (defBody (topS 5)) (defScope (topS 5)) .none kV3 dc3 pm3 an3 cd3 ct3), sl3⟩)
    (c3 : PySem.W.codeIn K cd3 "begin" = true) (k3 : PySem.W.keepIn K (.ref f3) = true)
    {f4 : Addr} {oc4 kV4 dc4 pm4 cd4 ct4 : Value} {od4 an4 : Option Addr} {sl4 : Array (Option Value)}
    (a4 : PySem.W.nsIn K mainGlobals "goes_on" = some (some (.ref f4))) (l4 : K.lookup f4 = some ⟨oc4, od4, .func (PySem.W.fnOf "goes_on" "goes_on" (defArgs (topS 6)) (defBody (topS 6)) (defScope (topS 6)) .none kV4 dc4 pm4 an4 cd4 ct4), sl4⟩)
    (c4 : PySem.W.codeIn K cd4 "goes_on" = true) (k4 : PySem.W.keepIn K (.ref f4) = true)
    {f5 : Addr} {oc5 kV5 dc5 pm5 cd5 ct5 : Value} {od5 an5 : Option Addr} {sl5 : Array (Option Value)}
    (a5 : PySem.W.nsIn K mainGlobals "with_deed" = some (some (.ref f5))) (l5 : K.lookup f5 = some ⟨oc5, od5, .func (PySem.W.fnOf "with_deed" "with_deed" (defArgs (topS 7)) (defBody (topS 7)) (defScope (topS 7)) .none kV5 dc5 pm5 an5 cd5 ct5), sl5⟩)
    (c5 : PySem.W.codeIn K cd5 "with_deed" = true) (k5 : PySem.W.keepIn K (.ref f5) = true)
    {f6 : Addr} {oc6 kV6 dc6 pm6 cd6 ct6 : Value} {od6 an6 : Option Addr} {sl6 : Array (Option Value)}
    (a6 : PySem.W.nsIn K mainGlobals "settled" = some (some (.ref f6))) (l6 : K.lookup f6 = some ⟨oc6, od6, .func (PySem.W.fnOf "settled" "settled" (defArgs (topS 8)) (defBody (topS 8)) (defScope (topS 8)) .none kV6 dc6 pm6 an6 cd6 ct6), sl6⟩)
    (c6 : PySem.W.codeIn K cd6 "settled" = true) (k6 : PySem.W.keepIn K (.ref f6) = true)
    {f7 : Addr} {oc7 kV7 dc7 pm7 cd7 ct7 : Value} {od7 an7 : Option Addr} {sl7 : Array (Option Value)}
    (a7 : PySem.W.nsIn K mainGlobals "taken" = some (some (.ref f7))) (l7 : K.lookup f7 = some ⟨oc7, od7, .func (PySem.W.fnOf "taken" "taken" (defArgs (topS 9)) (defBody (topS 9)) (defScope (topS 9)) .none kV7 dc7 pm7 an7 cd7 ct7), sl7⟩)
    (c7 : PySem.W.codeIn K cd7 "taken" = true) (k7 : PySem.W.keepIn K (.ref f7) = true)
    {f8 : Addr} {oc8 kV8 dc8 pm8 cd8 ct8 : Value} {od8 an8 : Option Addr} {sl8 : Array (Option Value)}
    (a8 : PySem.W.nsIn K mainGlobals "all_keys" = some (some (.ref f8))) (l8 : K.lookup f8 = some ⟨oc8, od8, .func (PySem.W.fnOf "all_keys" "all_keys" (defArgs (topS 11)) (defBody (topS 11)) (defScope (topS 11)) .none kV8 dc8 pm8 an8 cd8 ct8), sl8⟩)
    (c8 : PySem.W.codeIn K cd8 "all_keys" = true) (k8 : PySem.W.keepIn K (.ref f8) = true)
    {f9 : Addr} {oc9 kV9 dc9 pm9 cd9 ct9 : Value} {od9 an9 : Option Addr} {sl9 : Array (Option Value)}
    (a9 : PySem.W.nsIn K mainGlobals "steps_from" = some (some (.ref f9))) (l9 : K.lookup f9 = some ⟨oc9, od9, .func (PySem.W.fnOf "steps_from" "steps_from" (defArgs (topS 12)) (defBody (topS 12)) (defScope (topS 12)) .none kV9 dc9 pm9 an9 cd9 ct9), sl9⟩)
    (c9 : PySem.W.codeIn K cd9 "steps_from" = true) (k9 : PySem.W.keepIn K (.ref f9) = true)
    {f10 : Addr} {oc10 kV10 dc10 pm10 cd10 ct10 : Value} {od10 an10 : Option Addr} {sl10 : Array (Option Value)}
    (a10 : PySem.W.nsIn K mainGlobals "steps_to" = some (some (.ref f10))) (l10 : K.lookup f10 = some ⟨oc10, od10, .func (PySem.W.fnOf "steps_to" "steps_to" (defArgs (topS 13)) (defBody (topS 13)) (defScope (topS 13)) .none kV10 dc10 pm10 an10 cd10 ct10), sl10⟩)
    (c10 : PySem.W.codeIn K cd10 "steps_to" = true) (k10 : PySem.W.keepIn K (.ref f10) = true)
    {f11 : Addr} {oc11 kV11 dc11 pm11 cd11 ct11 : Value} {od11 an11 : Option Addr} {sl11 : Array (Option Value)}
    (a11 : PySem.W.nsIn K mainGlobals "_law_cell_at" = some (some (.ref f11))) (l11 : K.lookup f11 = some ⟨oc11, od11, .func (PySem.W.fnOf "_law_cell_at" "_law_cell_at" (defArgs (topS 15)) (defBody (topS 15)) (defScope (topS 15)) .none kV11 dc11 pm11 an11 cd11 ct11), sl11⟩)
    (c11 : PySem.W.codeIn K cd11 "_law_cell_at" = true) (k11 : PySem.W.keepIn K (.ref f11) = true)
    {f12 : Addr} {oc12 kV12 dc12 pm12 cd12 ct12 : Value} {od12 an12 : Option Addr} {sl12 : Array (Option Value)}
    (a12 : PySem.W.nsIn K mainGlobals "_law_mixed" = some (some (.ref f12))) (l12 : K.lookup f12 = some ⟨oc12, od12, .func (PySem.W.fnOf "_law_mixed" "_law_mixed" (defArgs (topS 16)) (defBody (topS 16)) (defScope (topS 16)) .none kV12 dc12 pm12 an12 cd12 ct12), sl12⟩)
    (c12 : PySem.W.codeIn K cd12 "_law_mixed" = true) (k12 : PySem.W.keepIn K (.ref f12) = true)
    {f13 : Addr} {oc13 kV13 dc13 pm13 cd13 ct13 : Value} {od13 an13 : Option Addr} {sl13 : Array (Option Value)}
    (a13 : PySem.W.nsIn K mainGlobals "_law_drawn" = some (some (.ref f13))) (l13 : K.lookup f13 = some ⟨oc13, od13, .func (PySem.W.fnOf "_law_drawn" "_law_drawn" (defArgs (topS 17)) (defBody (topS 17)) (defScope (topS 17)) .none kV13 dc13 pm13 an13 cd13 ct13), sl13⟩)
    (c13 : PySem.W.codeIn K cd13 "_law_drawn" = true) (k13 : PySem.W.keepIn K (.ref f13) = true)
    {f14 : Addr} {oc14 kV14 dc14 pm14 cd14 ct14 : Value} {od14 an14 : Option Addr} {sl14 : Array (Option Value)}
    (a14 : PySem.W.nsIn K mainGlobals "_law_key" = some (some (.ref f14))) (l14 : K.lookup f14 = some ⟨oc14, od14, .func (PySem.W.fnOf "_law_key" "_law_key" (defArgs (topS 18)) (defBody (topS 18)) (defScope (topS 18)) .none kV14 dc14 pm14 an14 cd14 ct14), sl14⟩)
    (c14 : PySem.W.codeIn K cd14 "_law_key" = true) (k14 : PySem.W.keepIn K (.ref f14) = true)
    {f15 : Addr} {oc15 kV15 dc15 pm15 cd15 ct15 : Value} {od15 an15 : Option Addr} {sl15 : Array (Option Value)}
    (a15 : PySem.W.nsIn K mainGlobals "_law_house" = some (some (.ref f15))) (l15 : K.lookup f15 = some ⟨oc15, od15, .func (PySem.W.fnOf "_law_house" "_law_house" (defArgs (topS 19)) (defBody (topS 19)) (defScope (topS 19)) .none kV15 dc15 pm15 an15 cd15 ct15), sl15⟩)
    (c15 : PySem.W.codeIn K cd15 "_law_house" = true) (k15 : PySem.W.keepIn K (.ref f15) = true)
    {f16 : Addr} {oc16 kV16 dc16 pm16 cd16 ct16 : Value} {od16 an16 : Option Addr} {sl16 : Array (Option Value)}
    (a16 : PySem.W.nsIn K mainGlobals "_law_bind" = some (some (.ref f16))) (l16 : K.lookup f16 = some ⟨oc16, od16, .func (PySem.W.fnOf "_law_bind" "_law_bind" (defArgs (topS 20)) (defBody (topS 20)) (defScope (topS 20)) .none kV16 dc16 pm16 an16 cd16 ct16), sl16⟩)
    (c16 : PySem.W.codeIn K cd16 "_law_bind" = true) (k16 : PySem.W.keepIn K (.ref f16) = true)
    {f17 : Addr} {oc17 kV17 dc17 pm17 cd17 ct17 : Value} {od17 an17 : Option Addr} {sl17 : Array (Option Value)}
    (a17 : PySem.W.nsIn K mainGlobals "_law_map" = some (some (.ref f17))) (l17 : K.lookup f17 = some ⟨oc17, od17, .func (PySem.W.fnOf "_law_map" "_law_map" (defArgs (topS 21)) (defBody (topS 21)) (defScope (topS 21)) .none kV17 dc17 pm17 an17 cd17 ct17), sl17⟩)
    (c17 : PySem.W.codeIn K cd17 "_law_map" = true) (k17 : PySem.W.keepIn K (.ref f17) = true)
    {f18 : Addr} {oc18 kV18 dc18 pm18 cd18 ct18 : Value} {od18 an18 : Option Addr} {sl18 : Array (Option Value)}
    (a18 : PySem.W.nsIn K mainGlobals "_law_holder" = some (some (.ref f18))) (l18 : K.lookup f18 = some ⟨oc18, od18, .func (PySem.W.fnOf "_law_holder" "_law_holder" (defArgs (topS 22)) (defBody (topS 22)) (defScope (topS 22)) .none kV18 dc18 pm18 an18 cd18 ct18), sl18⟩)
    (c18 : PySem.W.codeIn K cd18 "_law_holder" = true) (k18 : PySem.W.keepIn K (.ref f18) = true)
    {f19 : Addr} {oc19 kV19 dc19 pm19 cd19 ct19 : Value} {od19 an19 : Option Addr} {sl19 : Array (Option Value)}
    (a19 : PySem.W.nsIn K mainGlobals "_law_rows" = some (some (.ref f19))) (l19 : K.lookup f19 = some ⟨oc19, od19, .func (PySem.W.fnOf "_law_rows" "_law_rows" (defArgs (topS 23)) (defBody (topS 23)) (defScope (topS 23)) .none kV19 dc19 pm19 an19 cd19 ct19), sl19⟩)
    (c19 : PySem.W.codeIn K cd19 "_law_rows" = true) (k19 : PySem.W.keepIn K (.ref f19) = true)
    {f20 : Addr} {oc20 kV20 dc20 pm20 cd20 ct20 : Value} {od20 an20 : Option Addr} {sl20 : Array (Option Value)}
    (a20 : PySem.W.nsIn K mainGlobals "_law_settled" = some (some (.ref f20))) (l20 : K.lookup f20 = some ⟨oc20, od20, .func (PySem.W.fnOf "_law_settled" "_law_settled" (defArgs (topS 24)) (defBody (topS 24)) (defScope (topS 24)) .none kV20 dc20 pm20 an20 cd20 ct20), sl20⟩)
    (c20 : PySem.W.codeIn K cd20 "_law_settled" = true) (k20 : PySem.W.keepIn K (.ref f20) = true)
    {f21 : Addr} {oc21 kV21 dc21 pm21 cd21 ct21 : Value} {od21 an21 : Option Addr} {sl21 : Array (Option Value)}
    (a21 : PySem.W.nsIn K mainGlobals "_law_pressed" = some (some (.ref f21))) (l21 : K.lookup f21 = some ⟨oc21, od21, .func (PySem.W.fnOf "_law_pressed" "_law_pressed" (defArgs (topS 25)) (defBody (topS 25)) (defScope (topS 25)) .none kV21 dc21 pm21 an21 cd21 ct21), sl21⟩)
    (c21 : PySem.W.codeIn K cd21 "_law_pressed" = true) (k21 : PySem.W.keepIn K (.ref f21) = true)
    {f22 : Addr} {oc22 kV22 dc22 pm22 cd22 ct22 : Value} {od22 an22 : Option Addr} {sl22 : Array (Option Value)}
    (a22 : PySem.W.nsIn K mainGlobals "_law_all" = some (some (.ref f22))) (l22 : K.lookup f22 = some ⟨oc22, od22, .func (PySem.W.fnOf "_law_all" "_law_all" (defArgs (topS 27)) (defBody (topS 27)) (defScope (topS 27)) .none kV22 dc22 pm22 an22 cd22 ct22), sl22⟩)
    (c22 : PySem.W.codeIn K cd22 "_law_all" = true) (k22 : PySem.W.keepIn K (.ref f22) = true)
    {f23 : Addr} {oc23 kV23 dc23 pm23 cd23 ct23 : Value} {od23 an23 : Option Addr} {sl23 : Array (Option Value)}
    (a23 : PySem.W.nsIn K mainGlobals "law" = some (some (.ref f23))) (l23 : K.lookup f23 = some ⟨oc23, od23, .func (PySem.W.fnOf "law" "law" (defArgs (topS 28)) (defBody (topS 28)) (defScope (topS 28)) .none kV23 dc23 pm23 an23 cd23 ct23), sl23⟩)
    (c23 : PySem.W.codeIn K cd23 "law" = true) (k23 : PySem.W.keepIn K (.ref f23) = true)
    (z0 : PySem.W.nsIn K mainGlobals "len" = some none)
    (z1 : PySem.W.nsIn K mainGlobals "tuple" = some none)
    (z2 : PySem.W.nsIn K mainGlobals "list" = some none)
    (z3 : PySem.W.nsIn K mainGlobals "dict" = some none)
    (z4 : PySem.W.nsIn K mainGlobals "sorted" = some none)
    (z5 : PySem.W.nsIn K mainGlobals "set" = some none)
    (z6 : PySem.W.nsIn K mainGlobals "sum" = some none)
    (z7 : PySem.W.nsIn K mainGlobals "max" = some none)
    (z8 : PySem.W.nsIn K mainGlobals "min" = some none)
    (z9 : PySem.W.nsIn K mainGlobals "all" = some none)
    (z10 : PySem.W.nsIn K mainGlobals "any" = some none)
    (z11 : PySem.W.nsIn K mainGlobals "int" = some none)
    (z12 : PySem.W.nsIn K mainGlobals "str" = some none)
    (z13 : PySem.W.nsIn K mainGlobals "isinstance" = some none)
    (z14 : PySem.W.nsIn K mainGlobals "range" = some none)
    (z15 : PySem.W.nsIn K mainGlobals "enumerate" = some none)
    (z16 : PySem.W.nsIn K mainGlobals "zip" = some none)
    (z17 : PySem.W.nsIn K mainGlobals "bool" = some none)
    (hlaw : ∀ ns : List Int, ns.length ≤ 63 → evFn PP WF (KL.DEP) 97 [scr (ns.map .int)] = .ok (.bool true)) :
    ∃ fd : FuncData, (∀ (s : Shared) (v : Value), BindsTo s fd ⟨[v], []⟩ [("_law_script", v)]) ∧ ∀ base : Heap, K.In base → base.Ns mainGlobals mg → FnOk P w K mg base CX0 (KL.DEP) fa fd ["_law_script"] (KD.spLaw K) := by
  refine law_end (T := TT) (pp := pp) (n := (KL.DEP)) (f := 97) (x := "law") hfa rfl rfl (fun f x hx => ?_) (fun x hx => ?_) (fun p hp => ?_) hlaw
  · unfold TT nm at hx
    simp only at hx
    split at hx
    · cases hx
      exact ⟨_, _, defK_mk X G a0 l0 c0 k0 (fun us hl => match us, hl with | [_, _], _ => rfl), ck52⟩
    · cases hx
      exact ⟨_, _, defK_mk X G a1 l1 c1 k1 (fun us hl => match us, hl with | [_, _, _, _], _ => rfl), ck53⟩
    · cases hx
      exact ⟨_, _, defK_mk X G a2 l2 c2 k2 (fun us hl => match us, hl with | [_, _, _], _ => rfl), ck54⟩
    · cases hx
      exact ⟨_, _, defK_mk X G a3 l3 c3 k3 (fun us hl => match us, hl with | [_], _ => rfl), ck59⟩
    · cases hx
      exact ⟨_, _, defK_mk X G a4 l4 c4 k4 (fun us hl => match us, hl with | [_, _], _ => rfl), ck60⟩
    · cases hx
      exact ⟨_, _, defK_mk X G a5 l5 c5 k5 (fun us hl => match us, hl with | [_, _, _], _ => rfl), ck61⟩
    · cases hx
      exact ⟨_, _, defK_mk X G a6 l6 c6 k6 (fun us hl => match us, hl with | [_, _, _], _ => rfl), ck62⟩
    · cases hx
      exact ⟨_, _, defK_mk X G a7 l7 c7 k7 (fun us hl => match us, hl with | [_, _, _, _, _], _ => rfl), ck64⟩
    · cases hx
      exact ⟨_, _, defK_mk X G a8 l8 c8 k8 (fun us hl => match us, hl with | [_], _ => rfl), ck73⟩
    · cases hx
      exact ⟨_, _, defK_mk X G a9 l9 c9 k9 (fun us hl => match us, hl with | [_, _, _], _ => rfl), ck74⟩
    · cases hx
      exact ⟨_, _, defK_mk X G a10 l10 c10 k10 (fun us hl => match us, hl with | [_, _, _], _ => rfl), ck75⟩
    · cases hx
      exact ⟨_, _, defK_mk X G a11 l11 c11 k11 (fun us hl => match us, hl with | [_, _], _ => rfl), ck1⟩
    · cases hx
      exact ⟨_, _, defK_mk X G a12 l12 c12 k12 (fun us hl => match us, hl with | [_, _], _ => rfl), ck2⟩
    · cases hx
      exact ⟨_, _, defK_mk X G a13 l13 c13 k13 (fun us hl => match us, hl with | [_, _], _ => rfl), ck3⟩
    · cases hx
      exact ⟨_, _, defK_mk X G a14 l14 c14 k14 (fun us hl => match us, hl with | [_], _ => rfl), ck19⟩
    · cases hx
      exact ⟨_, _, defK_mk X G a15 l15 c15 k15 (fun us hl => match us, hl with | [_], _ => rfl), ck20⟩
    · cases hx
      exact ⟨_, _, defK_mk X G a16 l16 c16 k16 (fun us hl => match us, hl with | [_, _], _ => rfl), ck21⟩
    · cases hx
      exact ⟨_, _, defK_mk X G a17 l17 c17 k17 (fun us hl => match us, hl with | [_, _, _], _ => rfl), ck22⟩
    · cases hx
      exact ⟨_, _, defK_mk X G a18 l18 c18 k18 (fun us hl => match us, hl with | [_, _, _, _], _ => rfl), ck55⟩
    · cases hx
      exact ⟨_, _, defK_mk X G a19 l19 c19 k19 (fun us hl => match us, hl with | [_, _, _], _ => rfl), ck56⟩
    · cases hx
      exact ⟨_, _, defK_mk X G a20 l20 c20 k20 (fun us hl => match us, hl with | [_, _, _], _ => rfl), ck81⟩
    · cases hx
      exact ⟨_, _, defK_mk X G a21 l21 c21 k21 (fun us hl => match us, hl with | [_, _, _, _, _, _], _ => rfl), ck82⟩
    · cases hx
      exact ⟨_, _, defK_mk X G a22 l22 c22 k22 (fun us hl => match us, hl with | [_, _, _], _ => rfl), ck96⟩
    · cases hx
      exact ⟨_, _, defK_mk X G a23 l23 c23 k23 (fun us hl => match us, hl with | [_], _ => rfl), ck97⟩
    · cases hx
  · simp only [bltNames, List.mem_cons, List.not_mem_nil, or_false] at hx
    rcases hx with rfl | rfl | rfl | rfl | rfl | rfl | rfl | rfl | rfl | rfl | rfl | rfl | rfl | rfl | rfl | rfl | rfl | rfl
    · exact PySem.W.mg_none_of X G z0
    · exact PySem.W.mg_none_of X G z1
    · exact PySem.W.mg_none_of X G z2
    · exact PySem.W.mg_none_of X G z3
    · exact PySem.W.mg_none_of X G z4
    · exact PySem.W.mg_none_of X G z5
    · exact PySem.W.mg_none_of X G z6
    · exact PySem.W.mg_none_of X G z7
    · exact PySem.W.mg_none_of X G z8
    · exact PySem.W.mg_none_of X G z9
    · exact PySem.W.mg_none_of X G z10
    · exact PySem.W.mg_none_of X G z11
    · exact PySem.W.mg_none_of X G z12
    · exact PySem.W.mg_none_of X G z13
    · exact PySem.W.mg_none_of X G z14
    · exact PySem.W.mg_none_of X G z15
    · exact PySem.W.mg_none_of X G z16
    · exact PySem.W.mg_none_of X G z17
  · cases hp
end KL
open PySem PySem.W PyProof.Rows
set_option maxHeartbeats 0 in
theorem PySem.Challenge.cw_keydeeds_k41_whole_steps_to_deeds_holds : PySem.Challenge.rw_keydeeds_k41_whole_steps_to_deeds.Holds := by
  w_on; o_law; k_head; (case hw => w_witness2)
  k_fill
  refine L2.walk_of (l := PySem.Challenge.rw_keydeeds_k41_whole_steps_to_deeds) (n := 63) (k := (KL.DEP)) (x := "_law_script") (CX := fun _ => L2.CX0) (sp := fun w => KD.spLaw _) rfl (by decide) rfl ⟨rfl, by decide, by decide⟩ (fun w h Y => PySem.W.kIn_of Y) ?F (fun _ _ a ns hl _ hS => ⟨a, ns, rfl, hS, hl, fun _ => rfl⟩) (fun _ _ _ _ _ h => h)
  case F =>
    intro w mg fa h KX G hmg
    refine' KL.all_mk KX G hmg ?a0 ?l0 ?c0 ?k0 ?a1 ?l1 ?c1 ?k1 ?a2 ?l2 ?c2 ?k2 ?a3 ?l3 ?c3 ?k3 ?a4 ?l4 ?c4 ?k4 ?a5 ?l5 ?c5 ?k5 ?a6 ?l6 ?c6 ?k6 ?a7 ?l7 ?c7 ?k7 ?a8 ?l8 ?c8 ?k8 ?a9 ?l9 ?c9 ?k9 ?a10 ?l10 ?c10 ?k10 ?a11 ?l11 ?c11 ?k11 ?a12 ?l12 ?c12 ?k12 ?a13 ?l13 ?c13 ?k13 ?a14 ?l14 ?c14 ?k14 ?a15 ?l15 ?c15 ?k15 ?a16 ?l16 ?c16 ?k16 ?a17 ?l17 ?c17 ?k17 ?a18 ?l18 ?c18 ?k18 ?a19 ?l19 ?c19 ?k19 ?a20 ?l20 ?c20 ?k20 ?a21 ?l21 ?c21 ?k21 ?a22 ?l22 ?c22 ?k22 ?a23 ?l23 ?c23 ?k23 ?z0 ?z1 ?z2 ?z3 ?z4 ?z5 ?z6 ?z7 ?z8 ?z9 ?z10 ?z11 ?z12 ?z13 ?z14 ?z15 ?z16 ?z17 KL.law_true
    (case a0 => k_is); (case l0 => k_is); (case c0 => k_is); (case k0 => k_is); (case a1 => k_is); (case l1 => k_is); (case c1 => k_is); (case k1 => k_is); (case a2 => k_is); (case l2 => k_is); (case c2 => k_is); (case k2 => k_is); (case a3 => k_is); (case l3 => k_is); (case c3 => k_is); (case k3 => k_is); (case a4 => k_is); (case l4 => k_is); (case c4 => k_is); (case k4 => k_is); (case a5 => k_is); (case l5 => k_is); (case c5 => k_is); (case k5 => k_is); (case a6 => k_is); (case l6 => k_is); (case c6 => k_is); (case k6 => k_is); (case a7 => k_is); (case l7 => k_is); (case c7 => k_is); (case k7 => k_is); (case a8 => k_is); (case l8 => k_is); (case c8 => k_is); (case k8 => k_is); (case a9 => k_is); (case l9 => k_is); (case c9 => k_is); (case k9 => k_is); (case a10 => k_is); (case l10 => k_is); (case c10 => k_is); (case k10 => k_is); (case a11 => k_is); (case l11 => k_is); (case c11 => k_is); (case k11 => k_is); (case a12 => k_is); (case l12 => k_is); (case c12 => k_is); (case k12 => k_is); (case a13 => k_is); (case l13 => k_is); (case c13 => k_is); (case k13 => k_is); (case a14 => k_is); (case l14 => k_is); (case c14 => k_is); (case k14 => k_is); (case a15 => k_is); (case l15 => k_is); (case c15 => k_is); (case k15 => k_is); (case a16 => k_is); (case l16 => k_is); (case c16 => k_is); (case k16 => k_is); (case a17 => k_is); (case l17 => k_is); (case c17 => k_is); (case k17 => k_is); (case a18 => k_is); (case l18 => k_is); (case c18 => k_is); (case k18 => k_is); (case a19 => k_is); (case l19 => k_is); (case c19 => k_is); (case k19 => k_is); (case a20 => k_is); (case l20 => k_is); (case c20 => k_is); (case k20 => k_is); (case a21 => k_is); (case l21 => k_is); (case c21 => k_is); (case k21 => k_is); (case a22 => k_is); (case l22 => k_is); (case c22 => k_is); (case k22 => k_is); (case a23 => k_is); (case l23 => k_is); (case c23 => k_is); (case k23 => k_is); (case z0 => k_is); (case z1 => k_is); (case z2 => k_is); (case z3 => k_is); (case z4 => k_is); (case z5 => k_is); (case z6 => k_is); (case z7 => k_is); (case z8 => k_is); (case z9 => k_is); (case z10 => k_is); (case z11 => k_is); (case z12 => k_is); (case z13 => k_is); (case z14 => k_is); (case z15 => k_is); (case z16 => k_is); (case z17 => k_is)
