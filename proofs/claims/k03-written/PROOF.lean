import PyProof.Rows.All
import HandS.ForMost
import HandS.StrMore
import HandS.TupAny
import KE.SortData
import KE.KeyNested
import KE.KDictKeyed
import HandS.Deep
import HandS.TupMul
import PyProof.StrOps2
import KE.GoesEnum
import KE.GoesMore
import HandS.Zip
import HandS.RaiseMore
import HandS.IsInst
import HandS.TryOnly
import PySem.Challenge.RW_keydeeds_k03_written
set_option linter.all false
set_option maxRecDepth 100000
set_option maxHeartbeats 8000000
/-! KdCore: a small language (positions stripped, names as slot numbers) and its evaluator over plain data. -/
namespace KD
open PySem
abbrev D := PyData
/-- what an evaluation comes to -/
inductive R (α : Type) where
  | ok (a : α)
  | err (c : Nat)
  | bot
namespace R
def bind {α β : Type} (x : R α) (f : α → R β) : R β :=
  match x with
  | .ok a => f a
  | .err c => .err c
  | .bot => .bot
@[simp] theorem bind_ok {α β : Type} (a : α) (f : α → R β) : (R.ok a).bind f = f a := rfl
@[simp] theorem bind_err {α β : Type} (c : Nat) (f : α → R β) : (R.err c : R α).bind f = .err c := rfl
@[simp] theorem bind_bot {α β : Type} (f : α → R β) : (R.bot : R α).bind f = .bot := rfl
def guard {α : Type} (c : Bool) (x : R α) : R α := match c with
  | true => x
  | false => .bot
@[simp] theorem guard_true {α : Type} (x : R α) : R.guard true x = x := rfl
@[simp] theorem guard_false {α : Type} (x : R α) : R.guard false x = .bot := rfl
end R
/-- the largest size of lists and texts here -/
abbrev lim : Nat := 1000000
inductive BOp where
  | add | sub | mul | fdiv | mod | pow
  deriving DecidableEq
inductive COp where
  | eq | ne | lt | le | gt | ge | is | isnot | isin | notin
  deriving DecidableEq
/-- targets -/
inductive Tg where
  | name (i : Nat)
  | tup (ts : List Tg)
mutual
def Tg.names : Tg → List Nat
  | .name i => [i]
  | .tup ts => Tg.namesAll ts
def Tg.namesAll : List Tg → List Nat
  | [] => []
  | t :: ts => t.names ++ Tg.namesAll ts
end
/-- what is walked -/
inductive IK where
  | seq | range1 | range2 | enum | zip | items
  deriving DecidableEq
/-- built-in functions and types that are called -/
inductive Blt where
  | len | tuple | list | dict | sorted | sortedRev | sortedSet | lenSet | sum | maxL | minL | max2 | min2 | all | any | int | str
  | isStr | isTuple | isBool | isInt | listZip | values | itemsSorted | tupRange
  deriving DecidableEq
/-- methods -/
inductive Mth where
  | join | split | startswith | ljust | rstrip | upper | get | count | index
  deriving DecidableEq
inductive Ex where
  | cst (d : D)
  | glob (x : Str) (d : D)
  | var (i : Nat)
  | tup (es : List Ex)
  | lst (es : List Ex)
  | dct (ks vs : List Ex)
  | bin (op : BOp) (a b : Ex)
  | neg (a : Ex)
  | cmp (op : COp) (a b : Ex)
  | chain (op op' : COp) (a b c : Ex)
  | band (a b : Ex)
  | bor (a b : Ex)
  | bnot (a : Ex)
  | ife (c a b : Ex)
  | ix (a i : Ex)
  | slc (a lo hi : Ex)
  | stp (a lo st : Ex)
  | call (f : Nat) (es : List Ex)
  | blt (b : Blt) (es : List Ex)
  | mth (m : Mth) (a : Ex) (es : List Ex)
  | comp (elt : Ex) (t : Tg) (k : IK) (its : List Ex) (cond : Ex)
  | sortk (a : Ex) (i : Nat) (key : Ex)
inductive Stm where
  | asg (t : Tg) (e : Ex)
  | own (i : Nat) (e : Ex)
  | app (i : Nat) (e : Ex)
  | ext (i : Nat) (e : Ex)
  | updD (i : Nat) (e : Ex)
  | seti (i : Nat) (k v : Ex)
  | pop (t : Tg) (i : Nat) (arg : Option Int)
  | iff (c : Ex) (a b : List Stm)
  | whl (c : Ex) (body : List Stm) (w : List Nat)
  | for_ (t : Tg) (k : IK) (its : List Ex) (body : List Stm) (w : List Nat)
  | ret (e : Ex)
  | pas
  | brk
  | cnt
  | frz (i : Nat)
  | wip (is : List Nat)
/-- a slot: a value that stands, or an object that only this slot holds -/
inductive Sl where
  | val (d : D)
  | own (d : D)
abbrev Env := List (Option Sl)
inductive Flow where
  | nx (e : Env)
  | br (e : Env)
  | cn (e : Env)
  | rt (d : D)
structure Fn where
  np : Nat
  nl : Nat
  body : List Stm
/-! ### values -/
/-- the script, as it is handed to the law (no other datum is of this form) -/
def scr (xs : List D) : D := .dict [(.dict [], .list xs)]
def isScr : D → Option (List D)
  | .dict [(.dict [], .list xs)] => some xs
  | _ => none
@[simp] theorem isScr_scr (xs : List D) : isScr (scr xs) = some xs := rfl
def chars (s : Str) : List D := s.cps.toList.map fun c => .str ⟨#[c]⟩
mutual
def keyOf : D → Option NestedKey
  | .none => some .none
  | .bool b => some (.num (if b then 1 else 0))
  | .int i => some (.num i)
  | .str s => some (.text s)
  | .tuple xs => (keysOf xs).map .tup
  | .list _ => none
  | .dict _ => none
def keysOf : List D → Option (List NestedKey)
  | [] => some []
  | x :: xs => (keyOf x).bind fun k => (keysOf xs).map (k :: ·)
end
/-- the value at a key -/
def dfind (k : NestedKey) : List (D × D) → Option D
  | [] => none
  | (a, v) :: r => if keyOf a = some k then some v else dfind k r
def dhas (k : NestedKey) (kvs : List (D × D)) : Bool := (dfind k kvs).isSome
def dset (k : NestedKey) (a v : D) : List (D × D) → List (D × D)
  | [] => [(a, v)]
  | (b, w) :: r => if keyOf b = some k then (b, v) :: r else (b, w) :: dset k a v r
def dputs : List (D × D) → List (D × D) → Option (List (D × D))
  | acc, [] => some acc
  | acc, (a, v) :: r => match keyOf a with
    | some k => dputs (dset k a v acc) r
    | none => none
def pairsOf : List D → Option (List (D × D))
  | [] => some []
  | .tuple [a, b] :: r => (pairsOf r).map ((a, b) :: ·)
  | _ :: _ => none
def addD : D → D → R D
  | .int i, .int j => .ok (.int (i + j))
  | .str x, .str y => .guard (decide (x.length + y.length ≤ lim)) (.ok (.str (x ++ y)))
  | .tuple xs, .tuple ys => .guard (decide (xs.length + ys.length ≤ lim)) (.ok (.tuple (xs ++ ys)))
  | .list xs, .list ys => .guard (decide (xs.length + ys.length ≤ lim)) (.ok (.list (xs ++ ys)))
  | _, _ => .bot
def subD : D → D → R D
  | .int i, .int j => .ok (.int (i - j))
  | _, _ => .bot
def wide : Int := 18446744073709551616
def smallI (i : Int) : Bool := decide (-wide < i) && decide (i < wide)
def mulD : D → D → R D
  | .int i, .int j => .guard (smallI i || smallI j) (.ok (.int (i * j)))
  | .list xs, .int j => .guard (decide (xs.length * j.toNat ≤ lim) && smallI (j * 4)) (.ok (.list (List.replicate j.toNat xs).flatten))
  | .tuple xs, .int j => .guard (decide (xs.length ≤ 1000) && !xs.isEmpty && decide (2 ≤ j) && decide (j ≤ 1000)) (.ok (.tuple (List.replicate j.toNat xs).flatten))
  | _, _ => .bot
def fdivD : D → D → R D
  | .int i, .int j => .guard (decide (0 < j) && decide (j < 1073741824)) (.ok (.int (i / j)))
  | _, _ => .bot
def modD : D → D → R D
  | .int i, .int j => .guard (decide (0 < j)) (.ok (.int (i % j)))
  | _, _ => .bot
def powD : D → D → R D
  | .int i, .int j => .guard (decide (0 ≤ j) && decide (j ≤ 1000) && smallI i && decide (i.natAbs < 18446744073709551616)) (.ok (.int (i ^ j.toNat)))
  | _, _ => .bot
def binD : BOp → D → D → R D
  | .add => addD
  | .sub => subD
  | .mul => mulD
  | .fdiv => fdivD
  | .mod => modD
  | .pow => powD
def negD : D → R D
  | .int i => .ok (.int (-i))
  | _ => .bot
/-! no dict within, not too deep -/
mutual
def plain : D → Bool
  | .none | .bool _ | .int _ | .str _ => true
  | .list xs | .tuple xs => plains xs
  | .dict _ => false
def plains : List D → Bool
  | [] => true
  | x :: xs => plain x && plains xs
end
def shp (d : D) : Bool := plain d && decide (d.depth ≤ 60)
/-- two dicts of the same keys and equal values -/
def dictEq (xs ys : List (D × D)) : Bool := decide (xs.length = ys.length) && xs.all fun p => match keyOf p.1 with
  | some k => (match dfind k ys with
    | some v => PyData.eqv p.2 v
    | none => false)
  | none => false
def eqD (a b : D) : R Bool := .guard (shp a && shp b) (.ok (PyData.eqv a b))
def ltS (x y : Str) : Bool := decide (x.cps.toList < y.cps.toList)
def ltD : D → D → R Bool
  | .int i, .int j => .ok (decide (i < j))
  | .str x, .str y => .ok (ltS x y)
  | _, _ => .bot
def leD : D → D → R Bool
  | .int i, .int j => .ok (decide (i ≤ j))
  | .str x, .str y => .ok (!ltS y x)
  | _, _ => .bot
def isNone : D → Bool
  | .none => true
  | _ => false
/-- a text within a text -/
def subS (x y : Str) : Bool := !(Builtin.Str.occurrences y x 0 y.length 1).isEmpty
def inD : D → D → R Bool
  | .str x, .str y => .ok (subS x y)
  | x, .list ys => .guard (shp x && shp (.list ys)) (.ok (ys.any fun z => PyData.eqv z x))
  | x, .tuple ys => .guard (shp x && shp (.tuple ys)) (.ok (ys.any fun z => PyData.eqv z x))
  | _, .dict _ => .bot
  | _, _ => .bot
def cmpB : COp → D → D → R Bool
  | .eq, a, b => eqD a b
  | .ne, a, b => (eqD a b).bind fun r => .ok (!r)
  | .lt, a, b => ltD a b
  | .le, a, b => leD a b
  | .gt, a, b => ltD b a
  | .ge, a, b => leD b a
  | .is, a, b => .guard (isNone b) (.ok (isNone a))
  | .isnot, a, b => .guard (isNone b) (.ok (!isNone a))
  | .isin, a, b => inD a b
  | .notin, a, b => (inD a b).bind fun r => .ok (!r)
def ofOpt {α : Type} : Option α → R α
  | some a => .ok a
  | none => .bot
def ixD : D → D → R D
  | .list xs, .int i => ofOpt (L2.atI xs i)
  | .tuple xs, .int i => ofOpt (L2.atI xs i)
  | .str s, .int i => .guard (decide (s.length ≤ lim)) (ofOpt ((L2.atI s.cps.toList i).map fun c => .str ⟨#[c]⟩))
  | .dict kvs, k => match isScr (.dict kvs) with
    | some xs => (match k with
      | .int i => ofOpt (L2.atI xs i)
      | _ => .bot)
    | none => .bot
  | _, _ => .bot
def cutL {α : Type} (xs : List α) (lo hi : Option Int) : List α := (xs.drop (HT.sIx xs.length 0 lo)).take (HT.sIx xs.length xs.length hi - HT.sIx xs.length 0 lo)
def cutD (a : D) (l h : Option Int) : R D := match a with
  | .list xs => .ok (.list (cutL xs l h))
  | .tuple xs => .ok (.tuple (cutL xs l h))
  | .str s => .guard (decide (s.length ≤ lim)) (.ok (.str (L2.cutS s l h)))
  | _ => .bot
/-- a part of a slice: left out, or a number -/
def partX (e : Ex) (d : D) : R (Option Int) := match e with
  | .cst .none => .ok none
  | _ => (match d with
    | .int i => .ok (some i)
    | _ => .bot)
/-- every st-th item -/
def every {α : Type} (st : Nat) : Nat → List α → List α
  | _, [] => []
  | 0, x :: xs => x :: every st (st - 1) xs
  | n + 1, _ :: xs => every st n xs
def stpD (a lo st : D) : R D := match a, lo, st with
  | .list xs, .none, .int (-1) => .ok (.list xs.reverse)
  | .tuple xs, .none, .int (-1) => .ok (.tuple xs.reverse)
  | .list xs, .int i, .int j => .guard (decide (0 ≤ i) && decide (i < 1000000) && decide (0 < j) && decide (j < 1000000)) (.ok (.list (every j.toNat 0 (xs.drop i.toNat))))
  | .tuple xs, .none, .int j => .guard (decide (2 ≤ j) && decide (j < 1000000)) (.ok (.tuple (every j.toNat 0 xs)))
  | a, .none, .int (-1) => (match isScr a with
    | some xs => .ok (.list xs.reverse)
    | none => .bot)
  | _, _, _ => .bot
/-- the items of what is walked -/
def seqD : D → R (List D)
  | .list xs => .ok xs
  | .tuple xs => .ok xs
  | .str s => .guard (decide (s.length ≤ lim)) (.ok (chars s))
  | .dict kvs => match isScr (.dict kvs) with
    | some xs => .ok xs
    | none => .bot
  | _ => .bot
def far : Int := 4611686018427387904
def enumFrom (i : Nat) : List D → List D
  | [] => []
  | x :: xs => .tuple [.int i, x] :: enumFrom (i + 1) xs
def zipD : List D → List D → List D
  | x :: xs, y :: ys => .tuple [x, y] :: zipD xs ys
  | _, _ => []
def walkD : IK → List D → R (List D)
  | .seq, [a] => seqD a
  | .range1, [.int n] => .guard (decide (-far ≤ n) && decide (n ≤ 1000000)) (.ok ((List.range n.toNat).map fun (i : Nat) => PyData.int (i : Int)))
  | .range2, [.int a, .int b] => .guard (decide (0 ≤ a) && decide (a < far) && decide (-far ≤ b) && decide (b ≤ 1000000)) (.ok ((List.range (b - a).toNat).map fun (i : Nat) => PyData.int (a + (i : Int))))
  | .enum, [.list xs] => .ok (enumFrom 0 xs)
  | .enum, [.tuple xs] => .ok (enumFrom 0 xs)
  | .zip, [.list xs, .list ys] => .ok (zipD xs ys)
  | .zip, [.tuple xs, .tuple ys] => .ok (zipD xs ys)
  | .items, [.dict kvs] => .guard (isScr (.dict kvs)).isNone (.ok (kvs.map fun p => .tuple [p.1, p.2]))
  | _, _ => .bot
/-! ### built-ins -/
def alikes (xs : List D) : Bool := xs.all fun a => xs.all fun b => W.alike a b
def tupNE : D → Bool
  | .tuple (_ :: _) => true
  | _ => false
def flatS : D → Bool
  | .none => false
  | .tuple _ => false
  | _ => true
def sortable (xs : List D) : Bool := alikes xs && (xs.all tupNE || xs.all flatS) && xs.all shp
def leqD (a b : D) : Bool := !W.dataLt b a
def sortD (xs : List D) : R D := .guard (sortable xs) (.ok (.list (xs.mergeSort leqD)))
def sortDR (xs : List D) : R D := .guard (sortable xs) (.ok (.list (xs.mergeSort fun a b => !W.dataLt a b)))
/-- each once, the first ones -/
def dedup : List D → Option (List D)
  | [] => some []
  | x :: xs => match keyOf x, dedup xs with
    | some k, some r => some (x :: r.filter fun y => !decide (keyOf y = some k))
    | _, _ => none
def intsD : List D → Option (List Int)
  | [] => some []
  | .int i :: r => (intsD r).map (i :: ·)
  | _ :: _ => none
def boolsD : List D → Option (List Bool)
  | [] => some []
  | .bool i :: r => (boolsD r).map (i :: ·)
  | _ :: _ => none
def strs_ : List D → Option (List Str)
  | [] => some []
  | .str i :: r => (strs_ r).map (i :: ·)
  | _ :: _ => none
def maxI : List Int → Option Int
  | [] => none
  | x :: xs => some (xs.foldl (fun a b => if b > a then b else a) x)
def minI : List Int → Option Int
  | [] => none
  | x :: xs => some (xs.foldl (fun a b => if b < a then b else a) x)
def dictD (ps : List D) : R D := match (pairsOf ps).bind fun l => dputs [] l with
  | some kvs => .ok (.dict kvs)
  | none => .bot
def tkeys (kvs : List (D × D)) : Bool := kvs.all fun p => tupNE p.1
def bltD : Blt → List D → R D
  | .len, [.list xs] => .ok (.int xs.length)
  | .len, [.tuple xs] => .ok (.int xs.length)
  | .len, [.str s] => .guard (decide (s.length ≤ lim)) (.ok (.int s.length))
  | .len, [.dict kvs] => (match isScr (.dict kvs) with
    | some xs => .ok (.int xs.length)
    | none => .bot)
  | .tuple, [.list xs] => .ok (.tuple xs)
  | .tuple, [.tuple xs] => .ok (.tuple xs)
  | .list, [.list xs] => .ok (.list xs)
  | .list, [.tuple xs] => .ok (.list xs)
  | .dict, [.list xs] => dictD xs
  | .dict, [.tuple xs] => dictD xs
  | .dict, [.dict kvs] => .guard (isScr (.dict kvs)).isNone (.ok (.dict kvs))
  | .sorted, [.list xs] => sortD xs
  | .sorted, [.dict kvs] => .guard (isScr (.dict kvs)).isNone (sortD (kvs.map (·.1)))
  | .itemsSorted, [.dict kvs] => .guard (isScr (.dict kvs)).isNone (sortD (kvs.map fun p => .tuple [p.1, p.2]))
  | .sortedRev, [.list xs] => sortDR xs
  | .sortedSet, [.list xs] => (match dedup xs with
    | some ys => sortD ys
    | none => .bot)
  | .sortedSet, [.tuple xs] => (match dedup xs with
    | some ys => sortD ys
    | none => .bot)
  | .lenSet, [.list xs] => (match dedup xs with
    | some ys => .ok (.int ys.length)
    | none => .bot)
  | .sum, [.list xs] => ofOpt ((intsD xs).map fun ns => .int ns.sum)
  | .maxL, [.list xs] => ofOpt (((intsD xs).bind maxI).map .int)
  | .minL, [.list xs] => (match intsD xs with
    | some ns => ofOpt ((minI ns).map .int)
    | none => .bot)
  | .max2, [.int i, .int j] => .ok (.int (if j > i then j else i))
  | .min2, [.int i, .int j] => .ok (.int (if j < i then j else i))
  | .all, [.list xs] => ofOpt ((boolsD xs).map fun bs => .bool (bs.all id))
  | .any, [.list xs] => ofOpt ((boolsD xs).map fun bs => .bool (bs.any id))
  | .int, [.int i] => .ok (.int i)
  | .int, [.bool b] => .ok (.int (if b then 1 else 0))
  | .str, [.str s] => .ok (.str s)
  | .str, [.none] => .ok (.str ⟨#[78, 111, 110, 101]⟩)
  | .isStr, [a] => (match a with
    | .str _ => .ok (.bool true)
    | .dict _ => .bot
    | _ => .ok (.bool false))
  | .isTuple, [a] => (match a with
    | .tuple _ => .ok (.bool true)
    | .dict _ => .bot
    | _ => .ok (.bool false))
  | .isBool, [a] => (match a with
    | .bool _ => .ok (.bool true)
    | .dict _ => .bot
    | _ => .ok (.bool false))
  | .isInt, [a] => (match a with
    | .bool _ => .ok (.bool true)
    | .int _ => .ok (.bool true)
    | .dict _ => .bot
    | _ => .ok (.bool false))
  | _, _ => .bot
def mthD : Mth → D → List D → R D
  | .join, .str s, [.list xs] => (match strs_ xs with
    | some ys => .guard (decide ((ys.map (·.length)).sum + ys.length * s.length ≤ lim)) (.ok (.str (Txt.join s ys)))
    | none => .bot)
  | .join, .str s, [.tuple xs] => (match strs_ xs with
    | some ys => .guard (decide ((ys.map (·.length)).sum + ys.length * s.length ≤ lim)) (.ok (.str (Txt.join s ys)))
    | none => .bot)
  | .split, .str s, [.str y] => .guard (!decide (y.length = 0) && decide (s.length ≤ lim)) (.guard ((Txt.split s y).all PyData.strOk) (.ok (.list ((Txt.split s y).map .str))))
  | .startswith, .str s, [.str y] => .ok (.bool (Txt.startswith s y))
  | .ljust, .str s, [.int n] => .guard (decide (0 ≤ n) && decide (n ≤ 1000000)) (.guard (PyData.strOk (Txt.ljust s n)) (.ok (.str (Txt.ljust s n))))
  | .rstrip, .str s, [.str y] => .guard (decide (s.length ≤ lim)) (.guard (PyData.strOk (Txt.rstripChars s y)) (.ok (.str (Txt.rstripChars s y))))
  | .upper, .str s, [] => .guard (decide (s.length ≤ lim)) (.guard (PyData.strOk (Txt.upper s)) (.ok (.str (Txt.upper s))))
  | .get, .dict kvs, [k, x] => .guard (isScr (.dict kvs)).isNone (match keyOf k with
    | some q => .ok ((dfind q kvs).getD x)
    | none => .bot)
  | _, _, _ => .bot
/-! ### slots -/
def getV (b : Bool) (ρ : Env) (i : Nat) : R D := match ρ[i]? with
  | some (some (.val d)) => .ok d
  | some (some (.own d)) => .guard b (.ok d)
  | _ => .bot
mutual
def asgT (ρ : Env) : Tg → D → R Env
  | .name i, d => .ok (ρ.set i (some (.val d)))
  | .tup ts, d => match d with
    | .tuple xs => asgTs ρ ts xs
    | .list xs => asgTs ρ ts xs
    | _ => .bot
def asgTs (ρ : Env) : List Tg → List D → R Env
  | [], [] => .ok ρ
  | t :: ts, x :: xs => (asgT ρ t x).bind fun ρ' => asgTs ρ' ts xs
  | _, _ => .bot
end
def wipeE (ρ : Env) : List Nat → Env
  | [] => ρ
  | i :: is => (wipeE ρ is).set i none
def asB : D → R Bool
  | .bool b => .ok b
  | _ => .bot
/-! ### loops -/
def compF (step : D → R (Option D)) : List D → R (List D)
  | [] => .ok []
  | x :: xs => (step x).bind fun r => (compF step xs).bind fun ys => .ok (match r with
    | some y => y :: ys
    | none => ys)
def forF (step : D → Env → R Flow) (w : List Nat) : List D → Env → R Flow
  | [], ρ => .ok (.nx ρ)
  | x :: xs, ρ => (step x ρ).bind fun f => match f with
    | .nx ρ' => forF step w xs (wipeE ρ' w)
    | .cn ρ' => forF step w xs (wipeE ρ' w)
    | .br ρ' => .ok (.nx (wipeE ρ' w))
    | .rt d => .ok (.rt d)
def whlF (test : Env → R Bool) (step : Env → R Flow) (w : List Nat) : Nat → Env → R Flow
  | 0, _ => .bot
  | n + 1, ρ => (test ρ).bind fun b => match b with
    | false => .ok (.nx ρ)
    | true => (step ρ).bind fun f => match f with
      | .nx ρ' => whlF test step w n (wipeE ρ' w)
      | .cn ρ' => whlF test step w n (wipeE ρ' w)
      | .br ρ' => .ok (.nx (wipeE ρ' w))
      | .rt d => .ok (.rt d)
/-! ### expressions; b: the value is only looked at -/
section
variable (call : Nat → List D → R D)
mutual
def ev (ρ : Env) : Bool → Ex → R D
  | _, .cst d => .ok d
  | _, .glob _ d => .ok d
  | b, .var i => getV b ρ i
  | _, .tup es => (evs ρ false es).bind fun ds => .guard (decide (ds.length ≤ 1000)) (.ok (.tuple ds))
  | _, .lst es => (evs ρ false es).bind fun ds => .guard (decide (ds.length ≤ 1000)) (.ok (.list ds))
  | _, .dct ks vs => (evs ρ false ks).bind fun kd => (evs ρ false vs).bind fun vd =>
      .guard (decide (kd.length = vd.length) && decide (kd.length ≤ 15)) (ofOpt ((dputs [] (kd.zip vd)).map .dict))
  | _, .bin op a b => (ev ρ true a).bind fun x => (ev ρ true b).bind fun y => binD op x y
  | _, .neg a => (ev ρ true a).bind negD
  | _, .cmp op a b => (ev ρ true a).bind fun x => (ev ρ true b).bind fun y => (cmpB op x y).bind fun r => .ok (.bool r)
  | _, .chain op op' a b c => (ev ρ true a).bind fun x => (ev ρ true b).bind fun y => (cmpB op x y).bind fun r => match r with
    | true => (ev ρ true c).bind fun z => (cmpB op' y z).bind fun r' => .ok (.bool r')
    | false => .ok (.bool false)
  | _, .band a b => (ev ρ true a).bind fun x => (asB x).bind fun r => match r with
    | true => (ev ρ true b).bind fun y => (asB y).bind fun r' => .ok (.bool r')
    | false => .ok (.bool false)
  | _, .bor a b => (ev ρ true a).bind fun x => (asB x).bind fun r => match r with
    | true => .ok (.bool true)
    | false => (ev ρ true b).bind fun y => (asB y).bind fun r' => .ok (.bool r')
  | _, .bnot a => (ev ρ true a).bind fun x => (asB x).bind fun r => .ok (.bool (!r))
  | _, .ife c a b => (ev ρ true c).bind fun x => (asB x).bind fun r => match r with
    | true => ev ρ false a
    | false => ev ρ false b
  | _, .ix a i => (ev ρ true a).bind fun x => (ev ρ true i).bind fun y => ixD x y
  | _, .slc a lo hi => (ev ρ true a).bind fun x => (ev ρ true lo).bind fun y => (partX lo y).bind fun l => (ev ρ true hi).bind fun z => (partX hi z).bind fun h => cutD x l h
  | _, .stp a lo st => (ev ρ true a).bind fun x => (ev ρ true lo).bind fun y => (ev ρ true st).bind fun z => stpD x y z
  | _, .call f es => (evs ρ false es).bind fun ds => call f ds
  | _, .blt b es => (evs ρ true es).bind fun ds => bltD b ds
  | _, .mth m a es => (ev ρ true a).bind fun x => (evs ρ false es).bind fun ds => mthD m x ds
  | _, .comp elt t k its cond => (evs ρ true its).bind fun ds => (walkD k ds).bind fun xs =>
      (compF (fun x => (asgT (wipeE ρ t.names) t x).bind fun ρ' => (ev ρ' true cond).bind fun c => (asB c).bind fun r => match r with
        | true => (ev ρ' false elt).bind fun y => .ok (some y)
        | false => .ok none) xs).bind fun ys => .ok (.list ys)
  | _, .sortk a i key => (ev ρ true a).bind fun x => match x with
    | .list xs => (compF (fun x => (ev ((List.replicate ρ.length none).set i (some (.val x))) false key).bind fun y => .ok (some y)) xs).bind fun ks =>
        .guard (sortable ks) (.ok (.list ((xs.zip ks).mergeSort (fun p q => leqD p.2 q.2) |>.map (·.1))))
    | _ => .bot
def evs (ρ : Env) : Bool → List Ex → R (List D)
  | _, [] => .ok []
  | b, e :: es => (ev ρ b e).bind fun d => (evs ρ b es).bind fun ds => .ok (d :: ds)
end
/-- an object that nothing else holds -/
def fresh : Ex → Bool
  | .lst _ => true
  | .dct _ _ => true
  | .comp _ _ _ _ _ => true
  | _ => false
def isCont : D → Bool
  | .list _ => true
  | .dict kvs => (isScr (.dict kvs)).isNone
  | _ => false
def ownSet (ρ : Env) (i : Nat) (d : D) : Env := ρ.set i (some (.own d))
mutual
def exS (wf : Nat) : Env → Stm → R Flow
  | ρ, .asg t e => (ev call ρ false e).bind fun d => (asgT ρ t d).bind fun ρ' => .ok (.nx ρ')
  | ρ, .own i e => .guard (fresh e) ((ev call ρ false e).bind fun d => .guard (isCont d) (.ok (.nx (ownSet ρ i d))))
  | ρ, .app i e => (match ρ[i]? with
    | some (some (.own (.list xs))) => (ev call ρ false e).bind fun d => .guard (decide (xs.length < lim)) (.ok (.nx (ownSet ρ i (.list (xs ++ [d])))))
    | _ => .bot)
  | ρ, .ext i e => (match ρ[i]? with
    | some (some (.own (.list xs))) => (ev call ρ false e).bind fun d => (match d with
      | .list ys => .guard (decide (xs.length + ys.length ≤ lim)) (.ok (.nx (ownSet ρ i (.list (xs ++ ys)))))
      | .tuple ys => .guard (decide (xs.length + ys.length ≤ lim)) (.ok (.nx (ownSet ρ i (.list (xs ++ ys)))))
      | _ => .bot)
    | _ => .bot)
  | ρ, .updD i e => (match ρ[i]? with
    | some (some (.own (.dict kvs))) => (ev call ρ false e).bind fun d => (match d with
      | .dict ls => .guard ((isScr (.dict kvs)).isNone && (isScr (.dict ls)).isNone) (match dputs kvs ls with
        | some r => .ok (.nx (ownSet ρ i (.dict r)))
        | none => .bot)
      | _ => .bot)
    | _ => .bot)
  | ρ, .seti i k v => (match ρ[i]? with
    | some (some (.own (.dict kvs))) => (ev call ρ false v).bind fun dv => (ev call ρ false k).bind fun dk => (match keyOf dk with
      | some q => .guard (decide (kvs.length < lim) && (isScr (.dict kvs)).isNone) (.ok (.nx (ownSet ρ i (.dict (dset q dk dv kvs)))))
      | none => .bot)
    | _ => .bot)
  | ρ, .pop t i arg => (match ρ[i]? with
    | some (some (.own (.list xs))) => (match arg with
      | none => (match xs.getLast? with
        | some x => (asgT (ownSet ρ i (.list xs.dropLast)) t x).bind fun ρ' => .ok (.nx ρ')
        | none => .bot)
      | some j => .guard (decide (j = 0)) (match xs with
        | x :: r => (asgT (ownSet ρ i (.list r)) t x).bind fun ρ' => .ok (.nx ρ')
        | [] => .bot))
    | _ => .bot)
  | ρ, .iff c a b => (ev call ρ true c).bind fun x => (asB x).bind fun r => match r with
    | true => exs wf ρ a
    | false => exs wf ρ b
  | ρ, .whl c body w => whlF (fun ρ => (ev call ρ true c).bind asB) (fun ρ => exs wf ρ body) w wf ρ
  | ρ, .for_ t k its body w => (evs call ρ false its).bind fun ds => (walkD k ds).bind fun xs => forF (fun x ρ => (asgT ρ t x).bind fun ρ' => exs wf ρ' body) w xs ρ
  | ρ, .ret e => (ev call ρ false e).bind fun d => .ok (.rt d)
  | ρ, .pas => .ok (.nx ρ)
  | ρ, .brk => .ok (.br ρ)
  | ρ, .cnt => .ok (.cn ρ)
  | ρ, .frz i => (match ρ[i]? with
    | some (some (.own d)) => .ok (.nx (ρ.set i (some (.val d))))
    | _ => .ok (.nx ρ))
  | ρ, .wip is => .ok (.nx (wipeE ρ is))
def exs (wf : Nat) : Env → List Stm → R Flow
  | ρ, [] => .ok (.nx ρ)
  | ρ, s :: r => (exS wf ρ s).bind fun f => match f with
    | .nx ρ' => exs wf ρ' r
    | .br ρ' => .ok (.br ρ')
    | .cn ρ' => .ok (.cn ρ')
    | .rt d => .ok (.rt d)
end
end
/-- what a def's end gives -/
def endF : Flow → R D
  | .rt d => .ok d
  | .nx _ => .ok .none
  | _ => .bot
/-- a call: P the program, wf the turns that a while may take, n the depth of calls -/
def evFn (P : Nat → Option Fn) (wf : Nat) : Nat → Nat → List D → R D
  | 0, _, _ => .bot
  | n + 1, f, ds => match P f with
    | none => .bot
    | some fn => .guard (decide (ds.length = fn.np)) ((exs (evFn P wf n) wf (ds.map (fun d => some (.val d)) ++ List.replicate (fn.nl - fn.np) none) fn.body).bind endF)
end KD
/-! KdRep: how data stand in the tracked heap. F: the part of the heap that nobody changes any more. -/
namespace KD
open PySem PySem.Spec
open PyProof.Rows L2
/-- a dict of tuple keys at a, by its entries -/
def dN (P : Program) (w : World) (a : Addr) (es : List (NestedKey × Addr × Value)) : HO :=
  .ext fun h => ((a == sysModules) = false ∧ es.length ≤ sizeLine) ∧ ∃ o arr ep, h.get? a = some o ∧ o.ExactDict ∧ o.data = .dict arr ep ∧ arr.toList = es.map (entryOfKey (nestedKind P w)) ∧ (es.map (·.1)).Nodup
/-- the datum of a plain key -/
def keyD : Key → D
  | .inl i => .int i
  | .inr x => .str x
def keyOkD : Key → Bool
  | .inl _ => true
  | .inr x => PyData.strOk x
section
variable (P : Program) (w : World) (K : PySem.W.Frag) (F : Hp)
inductive Dr : V → D → Prop
  | non : Dr .non .none
  | bl (b : Bool) : Dr (.bl b) (.bool b)
  | int (i : Int) : Dr (.int i) (.int i)
  | str (x : Str) (h : PyData.strOk x = true) : Dr (.str x) (.str x)
  | lst {a : Addr} {xs : List V} {ds : List D} (h : F a = some (.lst xs)) (hl : xs.length = ds.length)
      (hi : ∀ (i : Nat) (v : V) (d : D), xs[i]? = some v → ds[i]? = some d → Dr v d) : Dr (.ref a) (.list ds)
  | tup {a : Addr} {xs : List V} {ds : List D} (h : SqT K F a xs) (hl : xs.length = ds.length)
      (hi : ∀ (i : Nat) (v : V) (d : D), xs[i]? = some v → ds[i]? = some d → Dr v d) : Dr (.ref a) (.tuple ds)
  | dK {a : Addr} {kvs : List (Key × V)} {ds : List (D × D)} (h : F a = some (.dK kvs)) (hl : kvs.length = ds.length)
      (hk : ∀ (i : Nat) (k : Key) (v : V) (d e : D), kvs[i]? = some (k, v) → ds[i]? = some (d, e) → d = keyD k ∧ keyOkD k = true)
      (hi : ∀ (i : Nat) (k : Key) (v : V) (d e : D), kvs[i]? = some (k, v) → ds[i]? = some (d, e) → Dr v e) : Dr (.ref a) (.dict ds)
  | dN {a : Addr} {es : List (NestedKey × Addr × Value)} {ds : List (D × D)} (h : F a = some (dN P w a es)) (hl : es.length = ds.length)
      (hk : ∀ (i : Nat) (k : NestedKey) (b : Addr) (u : Value) (d e : D), es[i]? = some (k, b, u) → ds[i]? = some (d, e) → keyOf d = some k ∧ k.depth ≤ 8)
      (hd : ∀ (i : Nat) (k : NestedKey) (b : Addr) (u : Value) (d e : D), es[i]? = some (k, b, u) → ds[i]? = some (d, e) → Dr (.ref b) d)
      (vs : Nat → V) (hv : ∀ (i : Nat) (k : NestedKey) (b : Addr) (u : Value), es[i]? = some (k, b, u) → RelV (vs i) u)
      (hi : ∀ (i : Nat) (k : NestedKey) (b : Addr) (u : Value) (d e : D), es[i]? = some (k, b, u) → ds[i]? = some (d, e) → Dr (vs i) e) : Dr (.ref a) (.dict ds)
  | scr {a : Addr} {ns : List Int} (h : SqL K F a (ns.map V.int)) : Dr (.ref a) (KD.scr (ns.map .int))
end
section
variable {P : Program} {w : World} {K : PySem.W.Frag} {F F' H H' G : Hp} {v : V} {d : D} {a : Addr} {o : HO}
theorem Rd.same {u : HO} (e : Same F F') (h : Rd F a u) : Rd F' a u := by
  rcases h with h | ⟨o, h⟩
  · exact .inl (e _ _ h)
  · exact .inr ⟨o, e _ _ h⟩
theorem Same.sqT {xs : List V} (e : Same F F') (h : SqT K F a xs) : SqT K F' a xs := by
  rcases h with h | h
  · exact .inl (Rd.same e h)
  · exact .inr h
theorem Same.sqL {xs : List V} (e : Same F F') (h : SqL K F a xs) : SqL K F' a xs := Same.seq e h
theorem Dr.mono (h : Dr P w K F v d) (e : Same F F') : Dr P w K F' v d := by
  induction h with
  | non => exact .non
  | bl b => exact .bl b
  | int i => exact .int i
  | str x h => exact .str x h
  | lst h hl hi ih => exact .lst (e _ _ h) hl ih
  | tup h hl hi ih => exact .tup (Same.sqT e h) hl ih
  | dK h hl hk hi ih => exact .dK (e _ _ h) hl hk ih
  | dN h hl hk hd vs hv hi ihd ihi => exact .dN (e _ _ h) hl hk ihd vs hv ihi
  | scr h => exact .scr (Same.sqL e h)
/-- lists of data -/
def DrAll (P : Program) (w : World) (K : PySem.W.Frag) (F : Hp) (xs : List V) (ds : List D) : Prop :=
  xs.length = ds.length ∧ ∀ (i : Nat) (v : V) (d : D), xs[i]? = some v → ds[i]? = some d → Dr P w K F v d
theorem DrAll.mono {xs : List V} {ds : List D} (h : DrAll P w K F xs ds) (e : Same F F') : DrAll P w K F' xs ds := ⟨h.1, fun i v d a b => (h.2 i v d a b).mono e⟩
theorem DrAll.nil : DrAll P w K F [] [] := ⟨rfl, fun i v d a _ => by simp at a⟩
theorem DrAll.cons {xs : List V} {ds : List D} (h : Dr P w K F v d) (t : DrAll P w K F xs ds) : DrAll P w K F (v :: xs) (d :: ds) := by
  refine ⟨by simp [t.1], fun i x y a b => ?_⟩
  cases i with
  | zero =>
    simp at a b
    rw [← a, ← b]
    exact h
  | succ i => exact t.2 i x y (by simpa using a) (by simpa using b)
theorem DrAll.nil_inv {xs : List V} (h : DrAll P w K F xs []) : xs = [] := List.eq_nil_of_length_eq_zero h.1
theorem DrAll.cons_inv {xs : List V} {ds : List D} (h : DrAll P w K F xs (d :: ds)) : ∃ v r, xs = v :: r ∧ Dr P w K F v d ∧ DrAll P w K F r ds := by
  obtain ⟨hl, hi⟩ := h
  cases xs with
  | nil => simp at hl
  | cons v r =>
    refine ⟨v, r, rfl, hi 0 v d rfl rfl, by simpa using hl, fun i x y a b => ?_⟩
    exact hi (i + 1) x y (by simpa using a) (by simpa using b)
theorem DrAll.get {xs : List V} {ds : List D} {i : Nat} (h : DrAll P w K F xs ds) (e : ds[i]? = some d) : ∃ v, xs[i]? = some v ∧ Dr P w K F v d := by
  have hi : i < xs.length := by
    rw [h.1]
    exact (List.getElem?_eq_some_iff.mp e).1
  exact ⟨xs[i], List.getElem?_eq_getElem hi, h.2 i _ _ (List.getElem?_eq_getElem hi) e⟩
theorem DrAll.append : ∀ {xs ys : List V} {ds es : List D}, DrAll P w K F xs ds → DrAll P w K F ys es → DrAll P w K F (xs ++ ys) (ds ++ es)
  | xs, ys, [], es, h, t => by
    rw [h.nil_inv]
    exact t
  | xs, ys, d :: ds, es, h, t => by
    obtain ⟨v, r, rfl, h1, h2⟩ := h.cons_inv
    exact .cons h1 (DrAll.append h2 t)
theorem DrAll.drop : ∀ {xs : List V} {ds : List D} (n : Nat), DrAll P w K F xs ds → DrAll P w K F (xs.drop n) (ds.drop n)
  | xs, ds, 0, h => h
  | xs, [], n + 1, h => by
    rw [h.nil_inv]
    exact .nil
  | xs, d :: ds, n + 1, h => by
    obtain ⟨v, r, rfl, h1, h2⟩ := h.cons_inv
    exact DrAll.drop n h2
theorem DrAll.take : ∀ {xs : List V} {ds : List D} (n : Nat), DrAll P w K F xs ds → DrAll P w K F (xs.take n) (ds.take n)
  | xs, ds, 0, h => .nil
  | xs, [], n + 1, h => by
    rw [h.nil_inv]
    exact .nil
  | xs, d :: ds, n + 1, h => by
    obtain ⟨v, r, rfl, h1, h2⟩ := h.cons_inv
    exact .cons h1 (DrAll.take n h2)
theorem DrAll.reverse : ∀ {xs : List V} {ds : List D}, DrAll P w K F xs ds → DrAll P w K F xs.reverse ds.reverse
  | xs, [], h => by
    rw [h.nil_inv]
    exact .nil
  | xs, d :: ds, h => by
    obtain ⟨v, r, rfl, h1, h2⟩ := h.cons_inv
    rw [List.reverse_cons, List.reverse_cons]
    exact (DrAll.reverse h2).append (.cons h1 .nil)
theorem DrAll.rep {xs : List V} {ds : List D} (h : DrAll P w K F xs ds) : ∀ k : Nat, DrAll P w K F (List.replicate k xs).flatten (List.replicate k ds).flatten
  | 0 => .nil
  | k + 1 => by
    rw [List.replicate_succ, List.replicate_succ, List.flatten_cons, List.flatten_cons]
    exact h.append (DrAll.rep h k)
theorem DrAll.of_pointwise {α : Type} (l : List α) (f : α → V) (g : α → D) (h : ∀ x ∈ l, Dr P w K F (f x) (g x)) : DrAll P w K F (l.map f) (l.map g) := by
  induction l with
  | nil => exact .nil
  | cons x r ih => exact .cons (h x List.mem_cons_self) (ih fun y hy => h y (List.mem_cons_of_mem _ hy))
/-! ### what stands at an address as a container -/
/-- the contents of a list or dict object -/
inductive Cont (P : Program) (w : World) (K : PySem.W.Frag) (F : Hp) (a : Addr) : HO → D → Prop
  | lst {xs : List V} {ds : List D} (h : DrAll P w K F xs ds) : Cont P w K F a (.lst xs) (.list ds)
  | dK {kvs : List (Key × V)} {ds : List (D × D)} (hl : kvs.length = ds.length)
      (hk : ∀ (i : Nat) (k : Key) (v : V) (d e : D), kvs[i]? = some (k, v) → ds[i]? = some (d, e) → d = keyD k ∧ keyOkD k = true)
      (hi : ∀ (i : Nat) (k : Key) (v : V) (d e : D), kvs[i]? = some (k, v) → ds[i]? = some (d, e) → Dr P w K F v e) : Cont P w K F a (.dK kvs) (.dict ds)
  | dN {es : List (NestedKey × Addr × Value)} {ds : List (D × D)} (hl : es.length = ds.length)
      (hk : ∀ (i : Nat) (k : NestedKey) (b : Addr) (u : Value) (d e : D), es[i]? = some (k, b, u) → ds[i]? = some (d, e) → keyOf d = some k ∧ k.depth ≤ 8)
      (hd : ∀ (i : Nat) (k : NestedKey) (b : Addr) (u : Value) (d e : D), es[i]? = some (k, b, u) → ds[i]? = some (d, e) → Dr P w K F (.ref b) d)
      (vs : Nat → V) (hv : ∀ (i : Nat) (k : NestedKey) (b : Addr) (u : Value), es[i]? = some (k, b, u) → RelV (vs i) u)
      (hi : ∀ (i : Nat) (k : NestedKey) (b : Addr) (u : Value) (d e : D), es[i]? = some (k, b, u) → ds[i]? = some (d, e) → Dr P w K F (vs i) e) : Cont P w K F a (KD.dN P w a es) (.dict ds)
theorem Cont.mono (h : Cont P w K F a o d) (e : Same F F') : Cont P w K F' a o d := by
  cases h with
  | lst h => exact .lst (h.mono e)
  | dK hl hk hi => exact .dK hl hk fun i k v d e' x y => (hi i k v d e' x y).mono e
  | dN hl hk hd vs hv hi => exact .dN hl hk (fun i k b u d e' x y => (hd i k b u d e' x y).mono e) vs hv fun i k b u d e' x y => (hi i k b u d e' x y).mono e
theorem Cont.dr (h : Cont P w K F a o d) (e : F a = some o) : Dr P w K F (.ref a) d := by
  cases h with
  | lst h => exact .lst e h.1 h.2
  | dK hl hk hi => exact .dK e hl hk hi
  | dN hl hk hd vs hv hi => exact .dN e hl hk hd vs hv hi
/-- a value that is only looked at: it stands, or it is an object whose contents stand -/
def Br (P : Program) (w : World) (K : PySem.W.Frag) (F H : Hp) (v : V) (d : D) : Prop :=
  Dr P w K F v d ∨ ∃ a o, v = .ref a ∧ H a = some o ∧ Cont P w K F a o d
def Vr (P : Program) (w : World) (K : PySem.W.Frag) (b : Bool) (F H : Hp) (v : V) (d : D) : Prop := match b with
  | true => Br P w K F H v d
  | false => Dr P w K F v d
/-- the frozen part and the heap grow by new objects alone -/
structure Ext (F H F' H' : Hp) : Prop where
  f : Same F F'
  h : Same H H'
  fh : Same F' H'
  new : ∀ a, H a ≠ none → F' a = F a
theorem Ext.refl (e : Same F H) : Ext F H F H := ⟨Same.refl F, Same.refl H, e, fun _ _ => rfl⟩
theorem Ext.trans {F1 H1 F2 H2 : Hp} (a : Ext F H F1 H1) (b : Ext F1 H1 F2 H2) : Ext F H F2 H2 :=
  ⟨a.f.trans b.f, a.h.trans b.h, b.fh, fun c hc => by
    have hc1 : H1 c ≠ none := by
      cases q : H c with
      | none => exact absurd q hc
      | some u => rw [a.h c u q]; simp
    rw [b.new c hc1, a.new c hc]⟩
theorem same_new {p : Addr} (h : H p = none) : Same H (upd H p o) := fun b x e => by
  rw [upd_ne (ne_of_none e h)]
  exact e
theorem same_free {p : Addr} (e : Same F H) (h : H p = none) : F p = none := Same.free e h
/-- a new object that stands from now on -/
theorem Ext.laid {p : Addr} (e : Same F H) (h : H p = none) : Ext F H (upd F p o) (upd H p o) := by
  refine ⟨same_new (same_free e h), same_new h, fun b x q => ?_, fun b hb => ?_⟩
  · by_cases hbp : b = p
    · subst hbp
      rw [upd_same] at q ⊢
      exact q
    · rw [upd_ne hbp] at q ⊢
      exact e _ _ q
  · rw [upd_ne]
    rintro rfl
    exact hb h
/-- a new object that its maker still changes -/
theorem Ext.open_ {p : Addr} (e : Same F H) (h : H p = none) : Ext F H F (upd H p o) :=
  ⟨Same.refl F, same_new h, e.trans (same_new h), fun _ _ => rfl⟩
theorem Br.mono (h : Br P w K F H v d) (e : Ext F H F' H') : Br P w K F' H' v d := by
  rcases h with h | ⟨a, o, rfl, h1, h2⟩
  · exact .inl (h.mono e.f)
  · exact .inr ⟨a, o, rfl, e.h _ _ h1, h2.mono e.f⟩
theorem Vr.of {b : Bool} (h : Dr P w K F v d) : Vr P w K b F H v d := by
  cases b with
  | true => exact .inl h
  | false => exact h
theorem Vr.br {b : Bool} (h : Vr P w K b F H v d) : Br P w K F H v d := by
  cases b with
  | true => exact h
  | false => exact .inl h
/-! ### what a looked-at value is -/
theorem Br.none_inv (h : Br P w K F H v .none) : v = .non := by
  rcases h with h | ⟨a, o, rfl, h1, h2⟩
  · cases h; rfl
  · cases h2
theorem Br.bool_inv {b : Bool} (h : Br P w K F H v (.bool b)) : v = .bl b := by
  rcases h with h | ⟨a, o, rfl, h1, h2⟩
  · cases h; rfl
  · cases h2
theorem Br.int_inv {i : Int} (h : Br P w K F H v (.int i)) : v = .int i := by
  rcases h with h | ⟨a, o, rfl, h1, h2⟩
  · cases h; rfl
  · cases h2
theorem Br.str_inv {x : Str} (h : Br P w K F H v (.str x)) : v = .str x ∧ PyData.strOk x = true := by
  rcases h with h | ⟨a, o, rfl, h1, h2⟩
  · cases h with
    | str _ q => exact ⟨rfl, q⟩
  · cases h2
theorem Br.list_inv {ds : List D} (e : Same F H) (h : Br P w K F H v (.list ds)) : ∃ a xs, v = .ref a ∧ H a = some (.lst xs) ∧ DrAll P w K F xs ds := by
  rcases h with h | ⟨a, o, rfl, h1, h2⟩
  · cases h with
    | lst h hl hi => exact ⟨_, _, rfl, e _ _ h, hl, hi⟩
  · cases h2 with
    | lst h => exact ⟨_, _, rfl, h1, h⟩
theorem Br.tuple_inv {ds : List D} (h : Br P w K F H v (.tuple ds)) : ∃ a xs, v = .ref a ∧ SqT K F a xs ∧ DrAll P w K F xs ds := by
  rcases h with h | ⟨a, o, rfl, h1, h2⟩
  · cases h with
    | tup h hl hi => exact ⟨_, _, rfl, h, hl, hi⟩
  · cases h2
theorem keyOf_dict (l : List (D × D)) : keyOf (.dict l) = none := by simp [keyOf]
theorem keyD_dict {k : Key} {l : List (D × D)} : .dict l ≠ keyD k := by
  cases k <;> simp [keyD]
/-- a dict that is no script -/
theorem Br.dict_inv {ds : List (D × D)} (e : Same F H) (h : Br P w K F H v (.dict ds)) (hs : isScr (.dict ds) = none) : ∃ a o, v = .ref a ∧ H a = some o ∧ Cont P w K F a o (.dict ds) := by
  rcases h with h | ⟨a, o, rfl, h1, h2⟩
  · generalize hd : (PyData.dict ds) = d at h
    cases h with
    | dK h hl hk hi => cases hd; exact ⟨_, _, rfl, e _ _ h, .dK hl hk hi⟩
    | dN h hl hk hd' vs hv hi => cases hd; exact ⟨_, _, rfl, e _ _ h, .dN hl hk hd' vs hv hi⟩
    | scr h =>
      rw [hd, isScr_scr] at hs
      cases hs
    | _ => cases hd
  · exact ⟨_, _, rfl, h1, h2⟩
theorem isScr_inv {d : D} {xs : List D} (h : isScr d = some xs) : d = KD.scr xs := by
  unfold isScr at h
  split at h
  · cases h
    rfl
  · cases h
theorem Br.scr_inv {xs : List D} (e : Same F H) (h : Br P w K F H v (KD.scr xs)) : ∃ (a : Addr) (ns : List Int), v = .ref a ∧ xs = ns.map .int ∧ SqL K F a (ns.map V.int) := by
  have no1 : ∀ {i : Nat} {k : Key} {d e : D}, ([((PyData.dict []), PyData.list xs)] : List (D × D))[i]? = some (d, e) → d = keyD k → False := fun {i k d e} h1 h2 => by
    cases i with
    | zero =>
      simp at h1
      rw [← h1.1] at h2
      exact keyD_dict h2
    | succ i => simp at h1
  have no2 : ∀ {i : Nat} {k : NestedKey} {d e : D}, ([((PyData.dict []), PyData.list xs)] : List (D × D))[i]? = some (d, e) → keyOf d = some k → False := fun {i k d e} h1 h2 => by
    cases i with
    | zero =>
      simp at h1
      rw [← h1.1, keyOf_dict] at h2
      cases h2
    | succ i => simp at h1
  rcases h with h | ⟨a, o, rfl, h1, h2⟩
  · generalize hd : KD.scr xs = d at h
    cases h with
    | scr h =>
      unfold KD.scr at hd
      injection hd with hd
      simp at hd
      exact ⟨_, _, rfl, hd, h⟩
    | @dK _ kvs _ h hl hk hi =>
      unfold KD.scr at hd
      injection hd with hd
      subst hd
      cases kvs with
      | nil => simp at hl
      | cons p r => exact (no1 (i := 0) rfl (hk 0 p.1 p.2 _ _ rfl rfl).1).elim
    | @dN _ es _ h hl hk hd' vs hv hi =>
      unfold KD.scr at hd
      injection hd with hd
      subst hd
      cases es with
      | nil => simp at hl
      | cons p r => exact (no2 (i := 0) rfl (hk 0 p.1 p.2.1 p.2.2 _ _ rfl rfl).1).elim
    | _ => unfold KD.scr at hd; cases hd
  · generalize hd : KD.scr xs = d at h2
    cases h2 with
    | @dK kvs _ hl hk hi =>
      unfold KD.scr at hd
      injection hd with hd
      subst hd
      cases kvs with
      | nil => simp at hl
      | cons p r => exact (no1 (i := 0) rfl (hk 0 p.1 p.2 _ _ rfl rfl).1).elim
    | @dN es _ hl hk hd' vs hv hi =>
      unfold KD.scr at hd
      injection hd with hd
      subst hd
      cases es with
      | nil => simp at hl
      | cons p r => exact (no2 (i := 0) rfl (hk 0 p.1 p.2.1 p.2.2 _ _ rfl rfl).1).elim
    | lst h => unfold KD.scr at hd; cases hd
/-! ### data without dicts, as the library's == reads them -/
theorem Dr.plain_dp (h : Dr P w K F v d) (e : Same F H) : plain d = true → Dp K H v d := by
  have all : ∀ (ds : List D) (xs : List V), xs.length = ds.length → (∀ (i : Nat) (v : V) (d : D), xs[i]? = some v → ds[i]? = some d → plain d = true → Dp K H v d) → plains ds = true → DpAll K H xs ds := by
    intro ds
    induction ds with
    | nil =>
      intro xs hl _ _
      rw [List.eq_nil_of_length_eq_zero hl]
      exact .nil
    | cons d ds ih =>
      intro xs hl hi hp
      cases xs with
      | nil => simp at hl
      | cons x xs =>
        rw [plains, Bool.and_eq_true] at hp
        exact .cons (hi 0 x d rfl rfl hp.1) (ih xs (by simpa using hl) (fun i v d a b => hi (i + 1) v d (by simpa using a) (by simpa using b)) hp.2)
  induction h with
  | non => intro _; exact .non
  | bl b => intro _; exact .bl b
  | int i => intro _; exact .int i
  | str x h => intro _; exact .str x
  | lst h hl hi ih =>
    intro hp
    rw [plain] at hp
    exact .lst (.inl (.inl (e _ _ h))) (all _ _ hl ih hp)
  | tup h hl hi ih =>
    intro hp
    rw [plain] at hp
    exact .tup (Same.sqT e h) (all _ _ hl ih hp)
  | dK => intro hp; simp [plain] at hp
  | dN => intro hp; simp [plain] at hp
  | scr => intro hp; simp [plain, KD.scr] at hp
theorem Dr.all_dp {xs : List V} {ds : List D} (h : DrAll P w K F xs ds) (e : Same F H) (hp : plains ds = true) : DpAll K H xs ds := by
  induction ds generalizing xs with
  | nil => rw [h.nil_inv]; exact .nil
  | cons d ds ih =>
    obtain ⟨v, r, rfl, h1, h2⟩ := h.cons_inv
    rw [plains, Bool.and_eq_true] at hp
    exact .cons (h1.plain_dp e hp.1) (ih h2 hp.2)
theorem Br.dp (h : Br P w K F H v d) (e : Same F H) (hp : plain d = true) : Dp K H v d := by
  rcases h with h | ⟨a, o, rfl, h1, h2⟩
  · exact h.plain_dp e hp
  · cases h2 with
    | lst h =>
      rw [plain] at hp
      exact .lst (.inl (.inl h1)) (Dr.all_dp h e hp)
    | dK => simp [plain] at hp
    | dN => simp [plain] at hp
/-- all texts within are texts -/
theorem Dr.lay (h : Dr P w K F v d) : plain d = true → PyData.canLay0 d = true := by
  have all : ∀ (ds : List D) (xs : List V), xs.length = ds.length → (∀ (i : Nat) (v : V) (d : D), xs[i]? = some v → ds[i]? = some d → plain d = true → PyData.canLay0 d = true) → plains ds = true → PyData.canLayAll0 ds = true := by
    intro ds
    induction ds with
    | nil => intro _ _ _ _; simp [PyData.canLayAll0]
    | cons d ds ih =>
      intro xs hl hi hp
      cases xs with
      | nil => simp at hl
      | cons x xs =>
        rw [plains, Bool.and_eq_true] at hp
        rw [PyData.canLayAll0, hi 0 x d rfl rfl hp.1, ih xs (by simpa using hl) (fun i v d a b => hi (i + 1) v d (by simpa using a) (by simpa using b)) hp.2]
        rfl
  induction h with
  | non => intro _; simp [PyData.canLay0]
  | bl b => intro _; simp [PyData.canLay0]
  | int i => intro _; simp [PyData.canLay0]
  | str x h => intro _; simp [PyData.canLay0, h]
  | lst h hl hi ih =>
    intro hp
    rw [plain] at hp
    rw [PyData.canLay0]
    exact all _ _ hl ih hp
  | tup h hl hi ih =>
    intro hp
    rw [plain] at hp
    rw [PyData.canLay0]
    exact all _ _ hl ih hp
  | dK => intro hp; simp [plain] at hp
  | dN => intro hp; simp [plain] at hp
  | scr => intro hp; simp [plain, KD.scr] at hp
theorem DrAll.lay {xs : List V} {ds : List D} (h : DrAll P w K F xs ds) (hp : plains ds = true) : PyData.canLayAll0 ds = true := by
  induction ds generalizing xs with
  | nil => simp [PyData.canLayAll0]
  | cons d ds ih =>
    obtain ⟨v, r, rfl, h1, h2⟩ := h.cons_inv
    rw [plains, Bool.and_eq_true] at hp
    rw [PyData.canLayAll0, h1.lay hp.1, ih h2 hp.2]
    rfl
theorem Br.lay (h : Br P w K F H v d) (hp : plain d = true) : PyData.canLay0 d = true := by
  rcases h with h | ⟨a, o, rfl, h1, h2⟩
  · exact h.lay hp
  · cases h2 with
    | lst h =>
      rw [plain] at hp
      rw [PyData.canLay0]
      exact h.lay hp
    | dK => simp [plain] at hp
    | dN => simp [plain] at hp
theorem Br.shaped (h : Br P w K F H v d) (hs : shp d = true) : plain d = true ∧ SeqAt.shaped d = true := by
  unfold shp at hs
  rw [Bool.and_eq_true, decide_eq_true_eq] at hs
  refine ⟨hs.1, ?_⟩
  unfold SeqAt.shaped
  rw [h.lay hs.1, Bool.true_and]
  exact decide_eq_true (by omega)
end
end KD
/-! KdOps: the operators on data, by values. -/
namespace KD
open PySem PySem.Spec
open PyProof.Rows L2
theorem R.guard_ok {α : Type} {c : Bool} {x : R α} {d : α} (h : R.guard c x = .ok d) : c = true ∧ x = .ok d := by
  cases c with
  | true => exact ⟨rfl, h⟩
  | false => cases h
theorem R.bind_eq {α β : Type} {x : R α} {f : α → R β} {d : β} (h : x.bind f = .ok d) : ∃ a, x = .ok a ∧ f a = .ok d := by
  cases x with
  | ok a => exact ⟨a, rfl, h⟩
  | err c => cases h
  | bot => cases h
theorem ofOpt_ok {α : Type} {x : Option α} {d : α} (h : ofOpt x = .ok d) : x = some d := by
  cases x with
  | some a => cases h; rfl
  | none => cases h
theorem lim_size : lim ≤ sizeLine := by rw [sizeLine_eq]; decide
theorem strOk_append (x y : Str) : PyData.strOk (x ++ y) = (PyData.strOk x && PyData.strOk y) := by
  show ((x.cps ++ y.cps).all _) = _
  rw [Array.all_append]
  rfl
theorem strOk_mk {l : List Nat} (h : ∀ c ∈ l, c < 0x110000) : PyData.strOk ⟨l.toArray⟩ = true := by
  show (l.toArray.all _) = true
  rw [List.all_toArray, List.all_eq_true]
  exact fun c hc => decide_eq_true (h c hc)
theorem strOk_mem {x : Str} (h : PyData.strOk x = true) : ∀ c ∈ x.cps.toList, c < 0x110000 := by
  intro c hc
  have h : (x.cps.all (· < 0x110000)) = true := h
  rw [← Array.all_toList, List.all_eq_true] at h
  exact of_decide_eq_true (h c hc)
section
variable {X : Cx}
/-- the wish behind an operation that gives the datum d -/
abbrev Fin (X : Cx) (F H : Hp) (d : D) (Q : VK) : Prop := ∀ (v : V) (F' H' : Hp), Ext F H F' H' → Dr X.prog X.w X.K F' v d → Q v H'
abbrev BrX (X : Cx) (F H : Hp) (v : V) (d : D) : Prop := Br X.prog X.w X.K F H v d
abbrev DrX (X : Cx) (F : Hp) (v : V) (d : D) : Prop := Dr X.prog X.w X.K F v d
abbrev DrAllX (X : Cx) (F : Hp) (v : List V) (d : List D) : Prop := DrAll X.prog X.w X.K F v d
def r2D (X : Cx) (f : D → D → R D) : R2 := fun x y H Q => ∃ F dx dy d, Same F H ∧ BrX X F H x dx ∧ BrX X F H y dy ∧ f dx dy = .ok d ∧ Fin X F H d Q
def r1D (X : Cx) (f : D → R D) : V → Hp → VK → Prop := fun x H Q => ∃ F dx d, Same F H ∧ BrX X F H x dx ∧ f dx = .ok d ∧ Fin X F H d Q
theorem Fin.same {F H : Hp} {d : D} {Q : VK} {v : V} (q : Fin X F H d Q) (e : Same F H) (h : DrX X F v d) : Q v H := q v F H (Ext.refl e) h
theorem Fin.lst {F H : Hp} {ds : List D} {Q : VK} {xs : List V} (q : Fin X F H (.list ds) Q) (e : Same F H) (h : DrAllX X F xs ds) : ∀ p, H p = none → Q (.ref p) (upd H p (.lst xs)) := fun p hp =>
  q _ _ _ (Ext.laid e hp) (.lst upd_same h.1 (h.mono (same_new (same_free e hp))).2)
theorem Fin.tup {F H : Hp} {ds : List D} {Q : VK} {xs : List V} (q : Fin X F H (.tuple ds) Q) (e : Same F H) (h : DrAllX X F xs ds) : ∀ p, H p = none → Q (.ref p) (upd H p (.tup xs)) := fun p hp =>
  q _ _ _ (Ext.laid e hp) (.tup (.inl (.inl upd_same)) h.1 (h.mono (same_new (same_free e hp))).2)
/-! ### + -/
theorem opD_add : OpR X (binaryOp .Add) (r2D X addD) := by
  intro pins s σ H x y v u Q I rx ry h
  obtain ⟨F, dx, dy, d, e, bx, bY, hf, q⟩ := h
  have hs := lim_size
  unfold addD at hf
  split at hf
  · cases hf
    cases bx.int_inv
    cases bY.int_inv
    exact op_add pins s σ H _ _ v u Q I rx ry ⟨_, _, rfl, rfl, q.same e (.int _)⟩
  · obtain ⟨hc, hf⟩ := R.guard_ok hf
    cases hf
    obtain ⟨rfl, h1⟩ := bx.str_inv
    obtain ⟨rfl, h2⟩ := bY.str_inv
    have hc := of_decide_eq_true hc
    exact op_add_str pins s σ H _ _ v u Q I rx ry ⟨_, _, rfl, rfl, Nat.le_trans hc hs, q.same e (.str _ (by rw [strOk_append, h1, h2]; rfl))⟩
  · rename_i ds es
    obtain ⟨hc, hf⟩ := R.guard_ok hf
    cases hf
    obtain ⟨a, xs, rfl, h1, h2⟩ := bx.tuple_inv
    obtain ⟨b, ys, rfl, k1, k2⟩ := bY.tuple_inv
    have hc := of_decide_eq_true hc
    refine op_catA pins s σ H _ _ v u Q I rx ry ⟨a, b, xs, ys, rfl, rfl, Same.sqT e h1, Same.sqT e k1, ?_, fun z => ?_, fun _ z => ?_, fun _ _ => q.tup e (h2.append k2)⟩
    · rw [h2.1, k2.1]
      exact Nat.le_trans hc hs
    · have : ds = [] := List.eq_nil_of_length_eq_zero (by rw [← h2.1, z]; rfl)
      subst this
      exact q.same e (.tup k1 k2.1 k2.2)
    · have : es = [] := List.eq_nil_of_length_eq_zero (by rw [← k2.1, z]; rfl)
      subst this
      rw [List.append_nil] at q
      exact q.same e (.tup h1 h2.1 h2.2)
  · obtain ⟨hc, hf⟩ := R.guard_ok hf
    cases hf
    obtain ⟨a, xs, rfl, h1, h2⟩ := bx.list_inv e
    obtain ⟨b, ys, rfl, k1, k2⟩ := bY.list_inv e
    have hc := of_decide_eq_true hc
    refine op_cat pins s σ H _ _ v u Q I rx ry ⟨a, b, xs, ys, rfl, rfl, h1, k1, ?_, q.lst e (h2.append k2)⟩
    rw [h2.1, k2.1]
    exact Nat.le_trans hc hs
  · cases hf
theorem opD_sub : OpR X (binaryOp .Sub) (r2D X subD) := by
  intro pins s σ H x y v u Q I rx ry h
  obtain ⟨F, dx, dy, d, e, bx, bY, hf, q⟩ := h
  unfold subD at hf
  split at hf
  · cases hf
    cases bx.int_inv
    cases bY.int_inv
    exact op_sub pins s σ H _ _ v u Q I rx ry ⟨_, _, rfl, rfl, q.same e (.int _)⟩
  · cases hf
theorem small_of {i : Int} (h : smallI i = true) : -(2 ^ 64) < i ∧ i < 2 ^ 64 := by
  unfold smallI wide at h
  rw [Bool.and_eq_true, decide_eq_true_eq, decide_eq_true_eq] at h
  omega
theorem mem_rep {α : Type} {x : α} {l : List α} {n : Nat} (h : x ∈ (List.replicate n l).flatten) : x ∈ l := by
  obtain ⟨r, h1, h2⟩ := List.mem_flatten.mp h
  rw [List.eq_of_mem_replicate h1] at h2
  exact h2
theorem rep_len {α : Type} (l : List α) : ∀ n : Nat, (List.replicate n l).flatten.length = n * l.length
  | 0 => by simp
  | n + 1 => by
    rw [List.replicate_succ, List.flatten_cons, List.length_append, rep_len l n, Nat.succ_mul]
    omega
theorem opD_mul : OpR X (binaryOp .Mult) (r2D X mulD) := by
  intro pins s σ H x y v u Q I rx ry h
  obtain ⟨F, dx, dy, d, e, bx, bY, hf, q⟩ := h
  have hs := lim_size
  unfold mulD at hf
  split at hf
  · obtain ⟨hc, hf⟩ := R.guard_ok hf
    cases hf
    cases bx.int_inv
    cases bY.int_inv
    refine op_mul pins s σ H _ _ v u Q I rx ry ⟨_, _, rfl, rfl, ?_, q.same e (.int _)⟩
    rcases (Bool.or_eq_true _ _).mp hc with hc | hc
    · exact .inl (small_of hc)
    · exact .inr (small_of hc)
  · obtain ⟨hc, hf⟩ := R.guard_ok hf
    cases hf
    rw [Bool.and_eq_true, decide_eq_true_eq] at hc
    have hb := small_of hc.2
    obtain ⟨a, xs, rfl, h1, h2⟩ := bx.list_inv e
    cases bY.int_inv
    refine op_rep pins s σ H _ _ v u Q I rx ry ⟨a, _, xs, rfl, rfl, h1, by omega, by omega, ?_, q.lst e (h2.rep _)⟩
    rw [h2.1]
    exact Nat.le_trans hc.1 hs
  · rename_i ds j
    obtain ⟨hc, hf⟩ := R.guard_ok hf
    cases hf
    simp only [Bool.and_eq_true, decide_eq_true_eq] at hc
    obtain ⟨a, xs, rfl, h1, h2⟩ := bx.tuple_inv
    cases bY.int_inv
    refine op_repT pins s σ H _ _ v u Q I rx ry ⟨a, _, xs, rfl, rfl, Same.sqT e h1, fun z => ?_, hc.1.2, hc.2, ?_, q.tup e (h2.rep _)⟩
    · have : ds = [] := List.eq_nil_of_length_eq_zero (by rw [← h2.1, z]; rfl)
      subst this
      simp at hc
    · rw [h2.1]; exact hc.1.1.1
  · cases hf
theorem opD_fdiv : OpR X (binaryOp .FloorDiv) (r2D X fdivD) := by
  intro pins s σ H x y v u Q I rx ry h
  obtain ⟨F, dx, dy, d, e, bx, bY, hf, q⟩ := h
  unfold fdivD at hf
  split at hf
  · obtain ⟨hc, hf⟩ := R.guard_ok hf
    cases hf
    rw [Bool.and_eq_true, decide_eq_true_eq, decide_eq_true_eq] at hc
    cases bx.int_inv
    cases bY.int_inv
    exact op_fdiv pins s σ H _ _ v u Q I rx ry ⟨_, _, rfl, rfl, hc, q.same e (.int _)⟩
  · cases hf
theorem opD_mod : OpR X (binaryOp .Mod) (r2D X modD) := by
  intro pins s σ H x y v u Q I rx ry h
  obtain ⟨F, dx, dy, d, e, bx, bY, hf, q⟩ := h
  unfold modD at hf
  split at hf
  · obtain ⟨hc, hf⟩ := R.guard_ok hf
    cases hf
    rw [decide_eq_true_eq] at hc
    cases bx.int_inv
    cases bY.int_inv
    exact op_mod pins s σ H _ _ v u Q I rx ry ⟨_, _, rfl, rfl, hc, q.same e (.int _)⟩
  · cases hf
theorem opD_pow : OpR X (binaryOp .Pow) (r2D X powD) := by
  intro pins s σ H x y v u Q I rx ry h
  obtain ⟨F, dx, dy, d, e, bx, bY, hf, q⟩ := h
  unfold powD at hf
  split at hf
  · obtain ⟨hc, hf⟩ := R.guard_ok hf
    cases hf
    simp only [Bool.and_eq_true, decide_eq_true_eq] at hc
    cases bx.int_inv
    cases bY.int_inv
    exact op_pow pins s σ H _ _ v u Q I rx ry ⟨_, _, rfl, rfl, ⟨hc.1.1.1, by omega, hc.2⟩, q.same e (.int _)⟩
  · cases hf
def opOf : BOp → Operator
  | .add => .Add
  | .sub => .Sub
  | .mul => .Mult
  | .fdiv => .FloorDiv
  | .mod => .Mod
  | .pow => .Pow
theorem opD_bin : ∀ op : BOp, OpR X (binaryOp (opOf op)) (r2D X (binD op))
  | .add => opD_add
  | .sub => opD_sub
  | .mul => opD_mul
  | .fdiv => opD_fdiv
  | .mod => opD_mod
  | .pow => opD_pow
theorem unD_neg : UnR X (unaryOp .USub) (r1D X negD) := by
  intro pins s σ H x v Q I rx h
  obtain ⟨F, dx, d, e, bx, hf, q⟩ := h
  unfold negD at hf
  split at hf
  · cases hf
    cases bx.int_inv
    exact un_neg pins s σ H _ v Q I rx ⟨_, rfl, q.same e (.int _)⟩
  · cases hf
/-! ### comparisons -/
def r2B (X : Cx) (f : D → D → R Bool) : R2 := fun x y H Q => ∃ F dx dy r, Same F H ∧ BrX X F H x dx ∧ BrX X F H y dy ∧ f dx dy = .ok r ∧ Q (.bl r) H
/-- room on the stack for what a comparison of data asks -/
def Big (X : Cx) : Prop := X.A.units + 100 < cLine
theorem Big.le (h : Big X) : X.A.units + 64 < cLine ∧ X.A.units + 65 < cLine ∧ X.A.units + 1 < cLine := by
  have h : X.A.units + 100 < cLine := h
  omega
theorem eqD_cases {a b : D} {r : Bool} (h : eqD a b = .ok r) : shp a = true ∧ shp b = true ∧ r = PyData.eqv a b := by
  unfold eqD at h
  obtain ⟨hc, h⟩ := R.guard_ok h
  cases h
  rw [Bool.and_eq_true] at hc
  exact ⟨hc.1, hc.2, rfl⟩
theorem opD_eq (hu : Big X) : OpR X (compareOp .Eq) (r2B X (cmpB .eq)) := by
  intro pins s σ H x y v u Q I rx ry h
  obtain ⟨F, dx, dy, r, e, bx, bY, hf, q⟩ := h
  obtain ⟨h1, h2, rfl⟩ := eqD_cases hf
  · obtain ⟨p1, s1⟩ := bx.shaped h1
    obtain ⟨p2, s2⟩ := bY.shaped h2
    exact op_eqD hu.le.1 pins s σ H x y v u Q I rx ry ⟨dx, dy, bx.dp e p1, bY.dp e p2, s1, s2, q⟩
theorem opD_ne (hu : Big X) : OpR X (compareOp .NotEq) (r2B X (cmpB .ne)) := by
  intro pins s σ H x y v u Q I rx ry h
  obtain ⟨F, dx, dy, r, e, bx, bY, hf, q⟩ := h
  obtain ⟨r', hf', hr⟩ := R.bind_eq hf
  cases hr
  clear hf
  have hf := hf'
  obtain ⟨h1, h2, rfl⟩ := eqD_cases hf
  · obtain ⟨p1, s1⟩ := bx.shaped h1
    obtain ⟨p2, s2⟩ := bY.shaped h2
    exact op_neD hu.le.1 pins s σ H x y v u Q I rx ry ⟨dx, dy, bx.dp e p1, bY.dp e p2, s1, s2, q⟩
theorem ltD_cases {a b : D} {r : Bool} (h : ltD a b = .ok r) : (∃ i j, a = .int i ∧ b = .int j ∧ r = decide (i < j)) ∨ ∃ x y, a = .str x ∧ b = .str y ∧ r = ltS x y := by
  unfold ltD at h
  split at h
  · cases h; exact .inl ⟨_, _, rfl, rfl, rfl⟩
  · cases h; exact .inr ⟨_, _, rfl, rfl, rfl⟩
  · cases h
theorem leD_cases {a b : D} {r : Bool} (h : leD a b = .ok r) : (∃ i j, a = .int i ∧ b = .int j ∧ r = decide (i ≤ j)) ∨ ∃ x y, a = .str x ∧ b = .str y ∧ r = !ltS y x := by
  unfold leD at h
  split at h
  · cases h; exact .inl ⟨_, _, rfl, rfl, rfl⟩
  · cases h; exact .inr ⟨_, _, rfl, rfl, rfl⟩
  · cases h
theorem opD_lt : OpR X (compareOp .Lt) (r2B X (cmpB .lt)) := by
  intro pins s σ H x y v u Q I rx ry h
  obtain ⟨F, dx, dy, r, e, bx, bY, hf, q⟩ := h
  rcases ltD_cases hf with ⟨i, j, rfl, rfl, rfl⟩ | ⟨i, j, rfl, rfl, rfl⟩
  · cases bx.int_inv; cases bY.int_inv
    exact op_lt pins s σ H _ _ v u Q I rx ry ⟨_, _, rfl, rfl, q⟩
  · obtain ⟨rfl, _⟩ := bx.str_inv; obtain ⟨rfl, _⟩ := bY.str_inv
    exact op_lt_str pins s σ H _ _ v u Q I rx ry ⟨_, _, rfl, rfl, q⟩
theorem opD_gt : OpR X (compareOp .Gt) (r2B X (cmpB .gt)) := by
  intro pins s σ H x y v u Q I rx ry h
  obtain ⟨F, dx, dy, r, e, bx, bY, hf, q⟩ := h
  rcases ltD_cases hf with ⟨i, j, rfl, rfl, rfl⟩ | ⟨i, j, rfl, rfl, rfl⟩
  · cases bx.int_inv; cases bY.int_inv
    exact op_gt pins s σ H _ _ v u Q I rx ry ⟨_, _, rfl, rfl, q⟩
  · obtain ⟨rfl, _⟩ := bx.str_inv; obtain ⟨rfl, _⟩ := bY.str_inv
    exact op_gt_str pins s σ H _ _ v u Q I rx ry ⟨_, _, rfl, rfl, q⟩
theorem opD_le : OpR X (compareOp .LtE) (r2B X (cmpB .le)) := by
  intro pins s σ H x y v u Q I rx ry h
  obtain ⟨F, dx, dy, r, e, bx, bY, hf, q⟩ := h
  rcases leD_cases hf with ⟨i, j, rfl, rfl, rfl⟩ | ⟨i, j, rfl, rfl, rfl⟩
  · cases bx.int_inv; cases bY.int_inv
    exact op_le pins s σ H _ _ v u Q I rx ry ⟨_, _, rfl, rfl, q⟩
  · obtain ⟨rfl, _⟩ := bx.str_inv; obtain ⟨rfl, _⟩ := bY.str_inv
    exact op_le_str pins s σ H _ _ v u Q I rx ry ⟨_, _, rfl, rfl, q⟩
theorem opD_ge : OpR X (compareOp .GtE) (r2B X (cmpB .ge)) := by
  intro pins s σ H x y v u Q I rx ry h
  obtain ⟨F, dx, dy, r, e, bx, bY, hf, q⟩ := h
  rcases leD_cases hf with ⟨i, j, rfl, rfl, rfl⟩ | ⟨i, j, rfl, rfl, rfl⟩
  · cases bx.int_inv; cases bY.int_inv
    exact op_ge pins s σ H _ _ v u Q I rx ry ⟨_, _, rfl, rfl, q⟩
  · obtain ⟨rfl, _⟩ := bx.str_inv; obtain ⟨rfl, _⟩ := bY.str_inv
    exact op_ge_str pins s σ H _ _ v u Q I rx ry ⟨_, _, rfl, rfl, q⟩
theorem Br.none_dec {P : Program} {w : World} {K : PySem.W.Frag} {F H : Hp} {v : V} {d : D} (h : Br P w K F H v d) : decide (v = .non) = isNone d := by
  rcases h with h | ⟨a, o, rfl, h1, h2⟩
  · cases h <;> first | rfl | simp [isNone, KD.scr]
  · cases h2 <;> simp [isNone]
theorem isNone_inv {d : D} (h : isNone d = true) : d = .none := by
  unfold isNone at h
  split at h
  · rfl
  · cases h
theorem opD_is : OpR X (compareOp .Is) (r2B X (cmpB .is)) := by
  intro pins s σ H x y v u Q I rx ry h
  obtain ⟨F, dx, dy, r, e, bx, bY, hf, q⟩ := h
  obtain ⟨hc, hf⟩ := R.guard_ok hf
  cases hf
  rw [isNone_inv hc] at bY
  exact op_isN pins s σ H _ _ v u Q I rx ry ⟨bY.none_inv, by rw [bx.none_dec]; exact q⟩
theorem opD_isnot : OpR X (compareOp .IsNot) (r2B X (cmpB .isnot)) := by
  intro pins s σ H x y v u Q I rx ry h
  obtain ⟨F, dx, dy, r, e, bx, bY, hf, q⟩ := h
  obtain ⟨hc, hf⟩ := R.guard_ok hf
  cases hf
  rw [isNone_inv hc] at bY
  exact op_notN pins s σ H _ _ v u Q I rx ry ⟨bY.none_inv, by rw [bx.none_dec]; exact q⟩
theorem shaped_lay {d : D} (h : SeqAt.shaped d = true) : PyData.canLay0 d = true := SeqAt.canLay_of_shaped h
theorem shp_tup {ds : List D} (h : shp (.tuple ds) = true) : plain (.tuple ds) = true ∧ PyData.depth (.tuple ds) ≤ 60 := by
  unfold shp at h
  rwa [Bool.and_eq_true, decide_eq_true_eq] at h
theorem opD_in (hu : Big X) : OpR X (compareOp .In) (r2B X (cmpB .isin)) := by
  intro pins s σ H x y v u Q I rx ry h
  obtain ⟨F, dx, dy, r, e, bx, bY, hf, q⟩ := h
  have hf : inD dx dy = .ok r := hf
  unfold inD at hf
  split at hf
  · cases hf
    obtain ⟨rfl, _⟩ := bx.str_inv; obtain ⟨rfl, _⟩ := bY.str_inv
    exact op_in_str pins s σ H _ _ v u Q I rx ry ⟨_, _, rfl, rfl, q⟩
  · obtain ⟨hc, hf⟩ := R.guard_ok hf
    cases hf
    rw [Bool.and_eq_true] at hc
    obtain ⟨p1, s1⟩ := bx.shaped hc.1
    obtain ⟨p2, s2⟩ := bY.shaped hc.2
    exact op_inD hu.le.2.1 pins s σ H x y v u Q I rx ry ⟨_, _, bx.dp e p1, bY.dp e p2, s1, s2, q⟩
  · obtain ⟨hc, hf⟩ := R.guard_ok hf
    cases hf
    rw [Bool.and_eq_true] at hc
    obtain ⟨p1, s1⟩ := bx.shaped hc.1
    obtain ⟨p2, s2⟩ := bY.shaped hc.2
    obtain ⟨as, r1⟩ := Dp.reads I _ x v (bx.dp e p1) rx
    obtain ⟨bs, r2⟩ := Dp.reads I _ y u (bY.dp e p2) ry
    exact SeqAt.in_tuple_reads r2 r1 (shaped_lay s2) (shaped_lay s1) (room_in_shaped s1 hu.le.2.1) ⟨.bl _, H, I, rfl, q⟩
  · cases hf
  · cases hf
theorem opD_notin (hu : Big X) : OpR X (compareOp .NotIn) (r2B X (cmpB .notin)) := by
  intro pins s σ H x y v u Q I rx ry h
  obtain ⟨F, dx, dy, r, e, bx, bY, hf, q⟩ := h
  obtain ⟨r', hf', hr⟩ := R.bind_eq hf
  cases hr
  clear hf
  have hf := hf'
  have hf : inD dx dy = .ok r' := hf
  unfold inD at hf
  split at hf
  · cases hf
    obtain ⟨rfl, _⟩ := bx.str_inv; obtain ⟨rfl, _⟩ := bY.str_inv
    exact L2.op_notIn_str pins s σ H _ _ v u Q I rx ry ⟨_, _, rfl, rfl, q⟩
  · obtain ⟨hc, hf⟩ := R.guard_ok hf
    cases hf
    rw [Bool.and_eq_true] at hc
    obtain ⟨p1, s1⟩ := bx.shaped hc.1
    obtain ⟨p2, s2⟩ := bY.shaped hc.2
    exact op_notInD hu.le.2.1 pins s σ H x y v u Q I rx ry ⟨_, _, bx.dp e p1, bY.dp e p2, s1, s2, q⟩
  · obtain ⟨hc, hf⟩ := R.guard_ok hf
    cases hf
    rw [Bool.and_eq_true] at hc
    obtain ⟨p1, s1⟩ := bx.shaped hc.1
    obtain ⟨p2, s2⟩ := bY.shaped hc.2
    obtain ⟨as, r1⟩ := Dp.reads I _ x v (bx.dp e p1) rx
    obtain ⟨bs, r2⟩ := Dp.reads I _ y u (bY.dp e p2) ry
    exact SeqAt.notIn_tuple_reads r2 r1 (shaped_lay s2) (shaped_lay s1) (room_in_shaped s1 hu.le.2.1) ⟨.bl _, H, I, rfl, q⟩
  · cases hf
  · cases hf
def copOf : COp → CmpOp
  | .eq => .Eq
  | .ne => .NotEq
  | .lt => .Lt
  | .le => .LtE
  | .gt => .Gt
  | .ge => .GtE
  | .is => .Is
  | .isnot => .IsNot
  | .isin => .In
  | .notin => .NotIn
theorem opD_cmp (hu : Big X) : ∀ op : COp, OpR X (compareOp (copOf op)) (r2B X (cmpB op))
  | .eq => opD_eq hu
  | .ne => opD_ne hu
  | .lt => opD_lt
  | .le => opD_le
  | .gt => opD_gt
  | .ge => opD_ge
  | .is => opD_is
  | .isnot => opD_isnot
  | .isin => opD_in hu
  | .notin => opD_notin hu
/-! ### subscripts -/
theorem atI_map {α β : Type} {xs : List α} {ds : List β} (hl : xs.length = ds.length) {i : Int} {d : β} (h : atI ds i = some d) : ∃ (j : Nat) (v : α), atI xs i = some v ∧ xs[j]? = some v ∧ ds[j]? = some d := by
  unfold atI at h ⊢
  rw [hl]
  cases e : ixN ds.length i with
  | none => rw [e] at h; cases h
  | some j =>
    rw [e] at h
    have h : ds[j]? = some d := h
    have hj : j < xs.length := by
      rw [hl]
      exact (List.getElem?_eq_some_iff.mp h).1
    exact ⟨j, xs[j], List.getElem?_eq_getElem hj, List.getElem?_eq_getElem hj, h⟩
theorem ixR_D (hu : Big X) : IxR X (r2D X ixD) := by
  intro value slice pins s σ H x y v u Q I rx ry h hs
  obtain ⟨F, dx, dy, d, e, bx, bY, hf, q⟩ := h
  unfold ixD at hf
  split at hf
  · obtain ⟨a, xs, rfl, h1, h2⟩ := bx.list_inv e
    cases bY.int_inv
    obtain ⟨j, w, k1, k2, k3⟩ := atI_map h2.1 (ofOpt_ok hf)
    exact ix_list value slice pins s σ H _ _ v u Q I rx ry ⟨a, xs, _, w, rfl, rfl, SqL.of h1, k1, q.same e (h2.2 j _ _ k2 k3)⟩ hs
  · obtain ⟨a, xs, rfl, h1, h2⟩ := bx.tuple_inv
    cases bY.int_inv
    obtain ⟨j, w, k1, k2, k3⟩ := atI_map h2.1 (ofOpt_ok hf)
    exact ix_tup value slice pins s σ H _ _ v u Q I rx ry ⟨a, xs, _, w, rfl, rfl, Same.sqT e h1, k1, q.same e (h2.2 j _ _ k2 k3)⟩ hs
  · obtain ⟨hc, hf⟩ := R.guard_ok hf
    rw [decide_eq_true_eq] at hc
    obtain ⟨c, hc2, rfl⟩ := Option.map_eq_some_iff.mp (ofOpt_ok hf)
    obtain ⟨rfl, h1⟩ := bx.str_inv
    cases bY.int_inv
    obtain ⟨j, _, h3⟩ := atI_get hc2
    exact ix_str value slice pins s σ H _ _ v u Q I rx ry ⟨_, _, c, rfl, rfl, Nat.le_trans hc lim_size, hc2, q.same e (.str _ (strOk_mk (l := [c]) fun z hz => by
      rw [List.mem_singleton.mp hz]
      exact strOk_mem h1 c (List.mem_of_getElem? h3.1)))⟩ hs
  · split at hf
    · rename_i kvs _ xs hscr
      rw [isScr_inv hscr] at bx
      obtain ⟨a, ns, rfl, rfl, h1⟩ := bx.scr_inv e
      split at hf
      · cases bY.int_inv
        obtain ⟨j, w, k1, k2, k3⟩ := atI_map (xs := ns.map V.int) (by rw [List.length_map, List.length_map]) (ofOpt_ok hf)
        rw [List.getElem?_map] at k2 k3
        obtain ⟨n, hn, rfl⟩ := Option.map_eq_some_iff.mp k3
        rw [hn] at k2
        cases k2
        exact ix_list value slice pins s σ H _ _ v u Q I rx ry ⟨a, _, _, _, rfl, rfl, Same.sqL e h1, k1, q.same e (.int _)⟩ hs
      · cases hf
    · cases hf
  · cases hf
end
end KD
/-! KdWalk: what is walked: enumerate over a tuple; one word for all walks. -/
namespace KD
open PySem PySem.Spec
open PyProof.Rows L2
theorem enum_new1 {v : Value} {o : Obj} {G : Heap → Prop} (B : Begins v o G) : Meets (Builtin.«enumerate.__new__» ⟨[.type "enumerate", v], []⟩) (fun _ R s =>
    G s.heap ∧ R (.ok (.ret (.ref (s.heap.push o).objs.size)))
      { s with heap := (s.heap.push o).push { cls := .type "enumerate", data := .fields #[.none, .bool false, .ref s.heap.objs.size, rawInt 0, .none, .none] } }) :=
  .of_wp fun prog w A R s h => by
    obtain ⟨hp, g, dr, tk, os⟩ := s
    obtain ⟨h1, h⟩ := h
    have sub := sub_enumerate
    have q1 : ∀ {A' : Around} {E : Value → Shared → Prop} {Q : Value → Shared → Prop}, Q (.ref hp.objs.size) ⟨hp.push o, g, dr, tk, os⟩ →
        wpAny (model prog w) A' (pyIter v) Q E ⟨hp, g, dr, tk, os⟩ := fun q => B.iter prog w _ _ ⟨hp, g, dr, tk, os⟩ _ h1 q
    wp_walk using q1
    refine wpAny_stack_any fun st => wpAny_pure ?_
    split
    · rename_i c _ _ _ _ _
      cases c == Value.type "enumerate"
      · wp_walk using q1
        exact ⟨_, rfl, h⟩
      · wp_walk using q1
        exact ⟨_, rfl, h⟩
    · wp_walk using q1
      exact ⟨_, rfl, h⟩
theorem enum_call1 {prog : Program} {w : World} {A : Around} {E : Value → Shared → Prop} {s : Shared} {v : Value} {o : Obj} {G : Heap → Prop} {Q : Value → Shared → Prop} (B : Begins v o G) (h1 : G s.heap)
    (h : ∀ h', IsEnum h' (s.heap.objs.size + 1) s.heap.objs.size 0 .none → h'.get? s.heap.objs.size = some o →
      (∀ b ob, s.heap.get? b = some ob → h'.get? b = some ob) → Q (.ref (s.heap.objs.size + 1)) { s with heap := h' }) :
    wpAny (model prog w) A (call (.type "enumerate") [v]) Q E s := by
  refine callType_new F.called_enumerate (by decide) (F.typeCall_enumerate_1 _) (F.newCall_enumerate_1 _) (fun obj => F.args_object_init_2 obj _)
    F.entry_enumerate_new (enum_new1 B) ⟨h1, ?_⟩
  have hz : (s.heap.push o).objs.size = s.heap.objs.size + 1 := Heap.size_push ..
  show _ ∧ _
  rw [hz]
  have he := Heap.get?_push_size (s.heap.push o) (o := { cls := .type "enumerate", data := .fields #[.none, .bool false, .ref s.heap.objs.size, rawInt 0, .none, .none] }) rfl
  rw [hz] at he
  exact ⟨⟨_, he, rfl⟩, h _ he (Heap.get?_push_of_some _ (Heap.get?_push_size _ B.free)) fun b ob x => Heap.get?_push_of_some _ (Heap.get?_push_of_some _ x)⟩
/-- the tuple at a, each item in a new pair with its place -/
def IteT (K : PySem.W.Frag) (a : Addr) : It where
  go := fun i H => ∃ (xs : List V) (x : V), SqT K H a xs ∧ xs[i]? = some x
  yld := fun i H v H' => ∃ T x, v = .ref T ∧ H T = none ∧ H' = upd H T (.tup [.int (i : Nat), x]) ∧ ∀ xs, SqT K H a xs → xs[i]? = some x
  stop := fun i H => ∃ xs : List V, SqT K H a xs ∧ xs.length = i
theorem turn_enumT {P : Program} {w : World} {K : PySem.W.Frag} {elts : List Expr} {kk : Nat} {tpos : Pos} (a e it : Addr) (hae : a ≠ e) (hai : a ≠ it) (hne : e ≠ it) :
    Turn P w K (.Tuple elts kk tpos) (IteT K a) [e, it] e (fun i h => (∃ old, IsEnum h e it ((i : Nat) : Int) old) ∧ h.IsTupleIter it a i) where
  mem := by simp
  obj := fun i h st b hb => by
    obtain ⟨⟨old, he⟩, ⟨o, ho, hc, hd⟩⟩ := st
    have e' : b = e ∨ b = it := by simpa using hb
    rcases e' with rfl | rfl
    · exact ⟨_, he, fun v q => nomatch q⟩
    · exact ⟨o, ho, fun v q => by rw [hd] at q; cases q⟩
  keep := fun i h h' st k => ⟨st.1.imp fun old he => k e (by simp) _ he, st.2.at fun o q => k it (by simp) o q⟩
  item := by
    intro X hP hw hK hc i pins s σ H E I hf st hg
    subst hP hw hK
    obtain ⟨⟨old, he⟩, hit⟩ := st
    obtain ⟨xs, x, hq, hx⟩ := hg
    obtain ⟨its, rv, p, hz⟩ := I.tuple hq
    obtain ⟨u, hu, ru⟩ := rv.get hx
    have hel : e < s.heap.objs.size := Heap.lt_size he
    have hil : it < s.heap.objs.size := by
      obtain ⟨_, q, _⟩ := hit
      exact Heap.lt_size q
    have hlen : i < its.toArray.size := by
      rw [List.size_toArray]
      exact (List.getElem?_eq_some_iff.mp hu).1
    have Dw := Draws.tuple (prog := X.prog) (w := X.w) (A := X.A.in1) (I.ok.hd hc) it a hai its.toArray
    refine wpAny_pyNext_enum_itemD Dw he ⟨hit, p⟩ hlen hne (by simp [hne, Ne.symm hae]) fun y h' tk hy ho hit' hT hsz hk => ?_
    have hy' : its.toArray[i]? = some y := hy
    have eyu : y = u := Option.some.inj (hy'.symm.trans (by simpa using hu))
    subst eyu
    refine ⟨_, rfl, wpAny_letOwnedTupleGo_enum (s := { s with heap := h', toks := tk + 1 }) ho fun h2 he2 sb => ?_⟩
    have hT2 : h2.get? s.heap.objs.size = some { cls := .type "tuple", data := .seq #[.int i tk, y] } := (sb.2 _ (Nat.ne_of_gt hel)).trans hT
    have new : ObjOk X.prog X.w (upd H s.heap.objs.size (.tup [.int (i : Nat), x])) h2 s.heap.objs.size (.tup [.int (i : Nat), x]) :=
      ⟨by show 2 ≤ sizeLine; decide, [.int i tk, y], .cons ⟨_, rfl⟩ (.cons ru .nil), ⟨_, hT2, rfl, _, rfl⟩⟩
    have keep : ∀ b ob, b ∉ [e, it] → s.heap.get? b = some ob → h2.get? b = some ob := fun b ob hb q =>
      (sb.2 b (fun z => hb (by simp [z]))).trans (hk b ob (fun z => hb (by simp [z])) (fun z => hb (by simp [z])) q)
    have I1 : Inv X pins σ (upd H s.heap.objs.size (.tup [.int (i : Nat), x])) { s with heap := h2, toks := tk + 1 } := I.turnedNew (ch := [e, it]) keep hf (Nat.le_refl _) new
    refine ⟨.ref s.heap.objs.size, _, I1, rfl, ⟨_, x, rfl, I.hok.fresh (Nat.le_refl _), rfl, fun ys hy => by rw [I.tuple_inj hy hq]; exact hx⟩,
      ⟨⟨y, ?_⟩, hit'.1.at fun o q => (sb.2 it (Ne.symm hne)).trans q⟩, fun b hb => ?_⟩
    · have e1 : ((i + 1 : Nat) : Int) = (i : Int) + 1 := by omega
      rw [e1]
      exact he2
    · have hb2 : b < s.heap.objs.size := by
        have e' : b = e ∨ b = it := by simpa using hb
        rcases e' with rfl | rfl
        · exact hel
        · exact hil
      rw [upd_ne (Nat.ne_of_lt hb2)]
      exact (hf b hb).1
  done := by
    intro X hP hw hK hc i pins s σ H E I hf st hg
    subst hP hw hK
    obtain ⟨⟨old, he⟩, hit⟩ := st
    obtain ⟨xs, hq, hx⟩ := hg
    obtain ⟨its, rv, p, hz⟩ := I.tuple hq
    obtain ⟨f0, f1, f2, f3, f4, f5⟩ := hf it (by simp)
    have hl := rv.length
    have Dw := Draws.tuple (prog := X.prog) (w := X.w) (A := X.A.in1) (I.ok.hd hc) it a hai its.toArray
    have en : i = its.toArray.size := by
      rw [List.size_toArray]
      omega
    refine wpAny_pyNext_enum_endD Dw he (en ▸ ⟨hit, p⟩) fun h' eb => ⟨rfl, I.turned (t' := s.toks) (fun b o hb q => eb b o hb q) f0 f1 f3 f4 f5⟩
  self := fun A i s Q E st h => by
    obtain ⟨⟨_, he⟩, _⟩ := st
    exact wpAny_pyIter_enum he h
def iEnumT (K : PySem.W.Frag) (ta : TA) : TI := fun σ H R => ta σ H fun vs H1 => ∃ a xs, vs = [.ref a] ∧ SqT K H1 a xs ∧ R (IteT K a) H1
theorem pi_enumT {X : Cx} {e : Expr} {ta : TA} {p pos tpos : Pos} {elts : List Expr} {kk : Nat} (hg : Gl X "enumerate") (hm : X.mg "enumerate" = none) (ha : PA X [e] ta) (hs : starEach [e] X.env = [(false, eval e X.env)]) :
    PI X (.Tuple elts kk tpos) (.Call (.Name "enumerate" p) [e] [] pos) (iEnumT X.K ta) := by
  refine ⟨fun pins s σ H R I h => ?_⟩
  refine Call_ (ld_blt I hg hm boot_enumerate (PyProof.Rows.callWith_type1 (thn (ha.run pos pins s σ H _ I h) fun us s1 ⟨vs, H1, I1, r1, q1⟩ => ?_) hs rfl))
  obtain ⟨a, xs, ex, hq, q⟩ := q1
  subst ex
  obtain ⟨u, rfl, ru⟩ := vals1 r1
  cases ru
  obtain ⟨its, rv, p', hz⟩ := I1.tuple hq
  have hal : a < s1.heap.objs.size := by
    obtain ⟨o, ho, _⟩ := id p'
    exact Heap.lt_size ho
  refine enum_call1 (begins_tuple a its.toArray) p' fun h' he hit hk => wpAny_pyIter_enum he ?_
  have I2 : Inv X pins σ H1 { s1 with heap := h' } := I1.kept (t' := s1.toks) hk
  refine ⟨s1.heap.objs.size + 1, [s1.heap.objs.size + 1, s1.heap.objs.size], _, _, H1, rfl, I2,
    turn_enumT a (s1.heap.objs.size + 1) s1.heap.objs.size (Nat.ne_of_lt (Nat.lt_succ_of_lt hal)) (Nat.ne_of_lt hal) (Nat.succ_ne_self _), ⟨⟨.none, he⟩, ⟨_, hit, rfl, rfl⟩⟩, fun b hb => ?_, q⟩
  have e' : b = s1.heap.objs.size + 1 ∨ b = s1.heap.objs.size := by simpa using hb
  have hle : s1.heap.objs.size ≤ b := by
    rcases e' with rfl | rfl
    · exact Nat.le_add_right _ _
    · exact Nat.le_refl _
  exact I1.fpOk hle (I1.hok.fresh hle)
theorem _root_.L2.PI.or {X : Cx} {tg it : Expr} {wi wi' : TI} (h : PI X tg it wi) (h' : PI X tg it wi') : PI X tg it (fun σ H R => wi σ H R ∨ wi' σ H R) :=
  ⟨fun pins s σ H R I q => q.elim (h.run pins s σ H R I) (h'.run pins s σ H R I)⟩
theorem _root_.L2.PI.weak {X : Cx} {tg it : Expr} {wi wi' : TI} (h : PI X tg it wi) (hw : ∀ σ H R, wi' σ H R → wi σ H R) : PI X tg it wi' :=
  ⟨fun pins s σ H R I q => h.run pins s σ H R I (hw σ H R q)⟩
theorem _root_.L2.PE.weak {X : Cx} {e : Expr} {t t' : TE} (h : PE X e t) (hw : ∀ σ H Q, t' σ H Q → t σ H Q) : PE X e t' := ⟨fun pins s σ H Q I q => h.run pins s σ H Q I (hw σ H Q q)⟩
theorem _root_.L2.PT.weak {X : Cx} {e : Expr} {t t' : TT} (h : PT X e t) (hw : ∀ σ H Q, t' σ H Q → t σ H Q) : PT X e t' := ⟨fun pins s σ H Q I q => h.run pins s σ H Q I (hw σ H Q q)⟩
theorem _root_.L2.PW.weak {X : Cx} {e : Expr} {t t' : TT} (h : PW X e t) (hw : ∀ σ H Q, t' σ H Q → t σ H Q) : PW X e t' := ⟨fun wh pins s σ H Q I q => h.run wh pins s σ H Q I (hw σ H Q q)⟩
theorem _root_.L2.PA.weak {X : Cx} {e : List Expr} {t t' : TA} (h : PA X e t) (hw : ∀ σ H Q, t' σ H Q → t σ H Q) : PA X e t' := ⟨fun pos pins s σ H Q I q => h.run pos pins s σ H Q I (hw σ H Q q)⟩
theorem _root_.L2.PS.weak {X : Cx} {e : Stmt} {t t' : TS} (h : PS X e t) (hw : ∀ D σ H, t' D σ H → t D σ H) : PS X e t' := ⟨fun pins s σ H D I q => h.run pins s σ H D I (hw D σ H q)⟩
theorem _root_.L2.PSs.weak {X : Cx} {e : List Stmt} {t t' : TS} (h : PSs X e t) (hw : ∀ D σ H, t' D σ H → t D σ H) : PSs X e t' := ⟨fun pins s σ H D I q => h.run pins s σ H D I (hw D σ H q)⟩
theorem _root_.L2.PG.weak {X : Cx} {e : Expr} {t t' : TG} (h : PG X e t) (hw : ∀ v σ H Q, t' v σ H Q → t v σ H Q) : PG X e t' := ⟨fun pins s σ H v u Q I r q => h.run pins s σ H v u Q I r (hw v σ H Q q)⟩
theorem _root_.L2.PGs.weak {X : Cx} {e : List Expr} {t t' : TGs} (h : PGs X e t) (hw : ∀ v σ H Q, t' v σ H Q → t v σ H Q) : PGs X e t' := ⟨fun pins s σ H v u Q I r q => h.run pins s σ H v u Q I r (hw v σ H Q q)⟩
/-- J walks the data xs; it stands while the heap B stands -/
def WalkOk (P : Program) (w : World) (K : PySem.W.Frag) (F B : Hp) (J : It) (xs : List D) : Prop :=
  ∀ (H F' : Hp), Same F F' → Same F' H → Same B H → (J.stop xs.length H) ∧ ∀ (i : Nat) (d : D), xs[i]? = some d → J.go i H ∧ ∀ (x : V) (H' : Hp), J.yld i H x H' → ∃ F2, Ext F' H F2 H' ∧ Dr P w K F2 x d
section
variable {P : Program} {w : World} {K : PySem.W.Frag} {F B : Hp} {a b : Addr} {xs ys : List V} {ds es : List D}
theorem walk_list (hB : SqL K B a xs) (h : DrAll P w K F xs ds) : WalkOk P w K F B (Itl K a) ds := by
  intro H F' e1 e2 e3
  have hH := Same.sqL e3 hB
  refine ⟨⟨xs, hH, Nat.le_of_eq h.1⟩, fun i d hd => ?_⟩
  obtain ⟨v, hv, hr⟩ := h.get hd
  refine ⟨⟨xs, v, hH, hv⟩, fun x H' hy => ?_⟩
  obtain ⟨rfl, hy⟩ := hy
  have := hy xs hH
  rw [hv] at this
  cases this
  exact ⟨F', Ext.refl e2, hr.mono e1⟩
theorem walk_tup (hB : SqT K B a xs) (h : DrAll P w K F xs ds) : WalkOk P w K F B (Itt K a) ds := by
  intro H F' e1 e2 e3
  have hH := Same.sqT e3 hB
  refine ⟨⟨xs, hH, Nat.le_of_eq h.1⟩, fun i d hd => ?_⟩
  obtain ⟨v, hv, hr⟩ := h.get hd
  refine ⟨⟨xs, v, hH, hv⟩, fun x H' hy => ?_⟩
  obtain ⟨rfl, hy⟩ := hy
  have := hy xs hH
  rw [hv] at this
  cases this
  exact ⟨F', Ext.refl e2, hr.mono e1⟩
theorem walk_str {x : Str} (h : PyData.strOk x = true) : WalkOk P w K F B (Its x) (chars x) := by
  intro H F' e1 e2 e3
  unfold chars
  refine ⟨by show x.cps.size ≤ _; simp, fun i d hd => ?_⟩
  rw [List.getElem?_map] at hd
  obtain ⟨c, hc, rfl⟩ := Option.map_eq_some_iff.mp hd
  have hi : i < x.cps.size := by
    have := (List.getElem?_eq_some_iff.mp hc).1
    simpa using this
  refine ⟨hi, fun v H' hy => ?_⟩
  obtain ⟨rfl, c', hc', rfl⟩ := hy
  rw [Array.getElem?_toList] at hc
  rw [hc] at hc'
  cases hc'
  refine ⟨F', Ext.refl e2, .str _ (strOk_mk (l := [c]) fun z hz => ?_)⟩
  rw [List.mem_singleton.mp hz]
  exact strOk_mem h c (List.mem_of_getElem? (by rw [Array.getElem?_toList]; exact hc))
theorem walk_range {lo : Int} {n : Nat} : WalkOk P w K F B (Itr lo n) ((List.range n).map fun (i : Nat) => PyData.int (lo + (i : Int))) := by
  intro H F' e1 e2 e3
  refine ⟨by show n ≤ _; simp, fun i d hd => ?_⟩
  rw [List.getElem?_map] at hd
  obtain ⟨c, hc, rfl⟩ := Option.map_eq_some_iff.mp hd
  obtain ⟨hi, hci⟩ := List.getElem?_eq_some_iff.mp hc
  rw [List.length_range] at hi
  rw [List.getElem_range] at hci
  subst hci
  refine ⟨hi, fun v H' hy => ?_⟩
  obtain ⟨rfl, rfl⟩ := hy
  exact ⟨F', Ext.refl e2, .int _⟩
theorem enumFrom_get : ∀ (ds : List D) (k i : Nat) (d : D), (enumFrom k ds)[i]? = some d → ∃ e, ds[i]? = some e ∧ d = .tuple [.int ((k + i : Nat) : Int), e]
  | [], _, _, _, h => by simp [enumFrom] at h
  | e :: ds, k, 0, d, h => by
    simp [enumFrom] at h
    exact ⟨e, rfl, by rw [← h]; rfl⟩
  | e :: ds, k, i + 1, d, h => by
    obtain ⟨e', h1, h2⟩ := enumFrom_get ds (k + 1) i d (by simpa [enumFrom] using h)
    refine ⟨e', by simpa using h1, ?_⟩
    rw [h2]
    have : k + 1 + i = k + (i + 1) := by omega
    rw [this]
theorem enumFrom_len : ∀ (ds : List D) (k : Nat), (enumFrom k ds).length = ds.length
  | [], _ => rfl
  | _ :: ds, k => by simp [enumFrom, enumFrom_len ds (k + 1)]
theorem pair_new {H F' : Hp} {T : Addr} {x y : V} {d e : D} (e2 : Same F' H) (hT : H T = none) (h1 : Dr P w K F' x d) (h2 : Dr P w K F' y e) : ∃ F2, Ext F' H F2 (upd H T (.tup [x, y])) ∧ Dr P w K F2 (.ref T) (.tuple [d, e]) := by
  refine ⟨_, Ext.laid e2 hT, .tup (.inl (.inl upd_same)) rfl ?_⟩
  exact ((DrAll.cons h1 (.cons h2 .nil)).mono (same_new (same_free e2 hT))).2
theorem walk_enumL (hB : SqL K B a xs) (h : DrAll P w K F xs ds) : WalkOk P w K F B (Ite K a) (enumFrom 0 ds) := by
  intro H F' e1 e2 e3
  have hH := Same.sqL e3 hB
  refine ⟨⟨xs, hH, by rw [enumFrom_len]; exact Nat.le_of_eq h.1⟩, fun i d hd => ?_⟩
  obtain ⟨e, he, rfl⟩ := enumFrom_get _ _ _ _ hd
  obtain ⟨v, hv, hr⟩ := h.get he
  refine ⟨⟨xs, v, hH, hv⟩, fun x H' hy => ?_⟩
  obtain ⟨T, y, rfl, hT, rfl, hy⟩ := hy
  have := hy xs hH
  rw [hv] at this
  cases this
  rw [Nat.zero_add]
  exact pair_new e2 hT (.int _) (hr.mono e1)
theorem walk_enumT (hB : SqT K B a xs) (h : DrAll P w K F xs ds) : WalkOk P w K F B (IteT K a) (enumFrom 0 ds) := by
  intro H F' e1 e2 e3
  have hH := Same.sqT e3 hB
  refine ⟨⟨xs, hH, by rw [enumFrom_len]; exact h.1⟩, fun i d hd => ?_⟩
  obtain ⟨e, he, rfl⟩ := enumFrom_get _ _ _ _ hd
  obtain ⟨v, hv, hr⟩ := h.get he
  refine ⟨⟨xs, v, hH, hv⟩, fun x H' hy => ?_⟩
  obtain ⟨T, y, rfl, hT, rfl, hy⟩ := hy
  have := hy xs hH
  rw [hv] at this
  cases this
  rw [Nat.zero_add]
  exact pair_new e2 hT (.int _) (hr.mono e1)
theorem zipD_get : ∀ (ds es : List D) (i : Nat) (d : D), (zipD ds es)[i]? = some d → ∃ x y, ds[i]? = some x ∧ es[i]? = some y ∧ d = .tuple [x, y]
  | [], _, _, _, h => by simp [zipD] at h
  | _ :: _, [], _, _, h => by simp [zipD] at h
  | x :: ds, y :: es, 0, d, h => by
    simp [zipD] at h
    exact ⟨x, y, rfl, rfl, h.symm⟩
  | x :: ds, y :: es, i + 1, d, h => by
    obtain ⟨x', y', h1, h2, h3⟩ := zipD_get ds es i d (by simpa [zipD] using h)
    exact ⟨x', y', by simpa using h1, by simpa using h2, h3⟩
theorem zipD_len : ∀ (ds es : List D), (zipD ds es).length = min ds.length es.length
  | [], _ => by simp [zipD]
  | _ :: _, [] => by simp [zipD]
  | x :: ds, y :: es => by
    simp only [zipD, List.length_cons, zipD_len ds es]
    omega
theorem walk_zipL (hB : SqL K B a xs) (h : DrAll P w K F xs ds) (hB' : SqL K B b ys) (h' : DrAll P w K F ys es) : WalkOk P w K F B (Itz K a b) (zipD ds es) := by
  intro H F' e1 e2 e3
  have hH := Same.sqL e3 hB
  have hH' := Same.sqL e3 hB'
  refine ⟨⟨xs, ys, hH, hH', ?_⟩, fun i d hd => ?_⟩
  · rw [zipD_len, ← h.1, ← h'.1]
    omega
  obtain ⟨e, e', he, he', rfl⟩ := zipD_get _ _ _ _ hd
  obtain ⟨v, hv, hr⟩ := h.get he
  obtain ⟨v', hv', hr'⟩ := h'.get he'
  refine ⟨⟨xs, ys, v, v', hH, hH', hv, hv'⟩, fun x H' hy => ?_⟩
  obtain ⟨T, y, y', rfl, hT, rfl, hy, hy'⟩ := hy
  have := hy xs hH
  rw [hv] at this
  cases this
  have := hy' ys hH'
  rw [hv'] at this
  cases this
  exact pair_new e2 hT (hr.mono e1) (hr'.mono e1)
theorem walk_zipT (hB : SqT K B a xs) (h : DrAll P w K F xs ds) (hB' : SqT K B b ys) (h' : DrAll P w K F ys es) : WalkOk P w K F B (RZ.ItzT K a b) (zipD ds es) := by
  intro H F' e1 e2 e3
  have hH := Same.sqT e3 hB
  have hH' := Same.sqT e3 hB'
  refine ⟨⟨xs, ys, hH, hH', ?_⟩, fun i d hd => ?_⟩
  · rw [zipD_len, ← h.1, ← h'.1]
    omega
  obtain ⟨e, e', he, he', rfl⟩ := zipD_get _ _ _ _ hd
  obtain ⟨v, hv, hr⟩ := h.get he
  obtain ⟨v', hv', hr'⟩ := h'.get he'
  refine ⟨⟨xs, ys, v, v', hH, hH', hv, hv'⟩, fun x H' hy => ?_⟩
  obtain ⟨T, y, y', rfl, hT, rfl, hy, hy'⟩ := hy
  have := hy xs hH
  rw [hv] at this
  cases this
  have := hy' ys hH'
  rw [hv'] at this
  cases this
  exact pair_new e2 hT (hr.mono e1) (hr'.mono e1)
end
end KD
/-! KdSnd: whatever the evaluator gives, the model gives. -/
namespace KD
open PySem PySem.Spec
open PyProof.Rows L2
/-! ### the state -/
/-- H0, F0: the heap and its frozen part at the def's entry -/
structure Good (P : Program) (w : World) (K : PySem.W.Frag) (H0 F0 : Hp) (σ : L2.St) (H F : Hp) (ρ : Env) : Prop where
  fh : Same F H
  h0 : Same H0 H
  ff : Same F0 F
  f0 : ∀ b, H0 b ≠ none → F b = F0 b
  len : ρ.length = σ.length
  val : ∀ (i : Nat) (d : D), ρ[i]? = some (some (.val d)) → ∃ v, σ[i]? = some (some v) ∧ Dr P w K F v d
  own : ∀ (i : Nat) (d : D), ρ[i]? = some (some (.own d)) → ∃ l o, σ[i]? = some (some (.ref l)) ∧ F l = none ∧ H0 l = none ∧ H l = some o ∧ Cont P w K F l o d
  dis : ∀ (i j : Nat) (d e : D) (l : Addr), ρ[i]? = some (some (.own d)) → ρ[j]? = some (some (.own e)) → σ[i]? = some (some (.ref l)) → σ[j]? = some (some (.ref l)) → i = j
section
variable {P : Program} {w : World} {K : PySem.W.Frag} {H0 F0 H F H' F' : Hp} {σ : L2.St} {ρ : Env}
theorem Good.ext (g : Good P w K H0 F0 σ H F ρ) (e : Ext F H F' H') : Good P w K H0 F0 σ H' F' ρ := by
  have hne : ∀ b, H0 b ≠ none → H b ≠ none := fun b hb => by
    cases q : H0 b with
    | none => exact absurd q hb
    | some o => rw [g.h0 b o q]; simp
  refine ⟨e.fh, g.h0.trans e.h, g.ff.trans e.f, fun b hb => ?_, g.len, fun i d h => ?_, fun i d h => ?_, g.dis⟩
  · rw [e.new b (hne b hb), g.f0 b hb]
  · obtain ⟨v, h1, h2⟩ := g.val i d h
    exact ⟨v, h1, h2.mono e.f⟩
  · obtain ⟨l, o, h1, h2, h3, h4, h5⟩ := g.own i d h
    exact ⟨l, o, h1, by rw [e.new l (by rw [h4]; simp), h2], h3, e.h _ _ h4, h5.mono e.f⟩
/-- what a def's end owes its caller -/
theorem Good.out (g : Good P w K H0 F0 σ H F ρ) (e : Ext F H F' H') : Ext F0 H0 F' H' := by
  have g' := g.ext e
  exact ⟨g'.ff, g'.h0, g'.fh, g'.f0⟩
/-- forgetting slots -/
theorem set_none_get {α : Type} {l : List (Option α)} {i j : Nat} {x : α} (h : (l.set j none)[i]? = some (some x)) : l[i]? = some (some x) ∧ i ≠ j := by
  by_cases e : j = i
  · subst e
    by_cases hl : j < l.length
    · rw [List.getElem?_set_self hl] at h
      cases h
    · rw [List.getElem?_eq_none (by rw [List.length_set]; omega)] at h
      cases h
  · rw [List.getElem?_set_ne e] at h
    exact ⟨h, fun q => e q.symm⟩
theorem wipeE_len (ρ : Env) : ∀ is : List Nat, (wipeE ρ is).length = ρ.length
  | [] => rfl
  | i :: is => by rw [wipeE, List.length_set, wipeE_len ρ is]
theorem wipeE_get {i : Nat} {x : Sl} : ∀ {is : List Nat}, (wipeE ρ is)[i]? = some (some x) → ρ[i]? = some (some x) ∧ i ∉ is
  | [], h => ⟨h, by simp⟩
  | j :: is, h => by
    rw [wipeE] at h
    obtain ⟨h1, h2⟩ := set_none_get h
    obtain ⟨h3, h4⟩ := wipeE_get h1
    exact ⟨h3, by simp [h2, h4]⟩
theorem Good.wip (g : Good P w K H0 F0 σ H F ρ) (is : List Nat) : Good P w K H0 F0 σ H F (wipeE ρ is) :=
  ⟨g.fh, g.h0, g.ff, g.f0, by rw [wipeE_len, g.len], fun i d h => g.val i d (wipeE_get h).1, fun i d h => g.own i d (wipeE_get h).1, fun i j d e l h1 h2 => g.dis i j d e l (wipeE_get h1).1 (wipeE_get h2).1⟩
theorem wipe_keep {is : List Nat} {i : Nat} (h : i ∉ is) : (L2.wipe σ is)[i]? = σ[i]? := by
  induction is with
  | nil => rfl
  | cons j is ih =>
    rw [List.mem_cons, not_or] at h
    rw [L2.wipe, List.getElem?_set_ne (Ne.symm h.1), ih h.2]
/-- the slots of a comprehension's own names are forgotten on both sides -/
theorem Good.blk (g : Good P w K H0 F0 σ H F ρ) (is : List Nat) : Good P w K H0 F0 (L2.wipe σ is) H F (wipeE ρ is) := by
  refine ⟨g.fh, g.h0, g.ff, g.f0, by rw [wipeE_len, L2.wipe_length, g.len], fun i d h => ?_, fun i d h => ?_, fun i j d e l h1 h2 h3 h4 => ?_⟩
  · obtain ⟨h1, h2⟩ := wipeE_get h
    obtain ⟨v, h3, h4⟩ := g.val i d h1
    exact ⟨v, by rw [wipe_keep h2]; exact h3, h4⟩
  · obtain ⟨h1, h2⟩ := wipeE_get h
    obtain ⟨l, o, h3, h4⟩ := g.own i d h1
    exact ⟨l, o, by rw [wipe_keep h2]; exact h3, h4⟩
  · obtain ⟨k1, k2⟩ := wipeE_get h1
    obtain ⟨k3, k4⟩ := wipeE_get h2
    rw [wipe_keep k2] at h3
    rw [wipe_keep k4] at h4
    exact g.dis i j d e l k1 k3 h3 h4
/-- a name gets a value that stands -/
theorem Good.set (g : Good P w K H0 F0 σ H F ρ) {i : Nat} {v : V} {d : D} (h : Dr P w K F v d) : Good P w K H0 F0 (σ.set i (some v)) H F (ρ.set i (some (.val d))) := by
  refine ⟨g.fh, g.h0, g.ff, g.f0, by rw [List.length_set, List.length_set, g.len], fun j e hj => ?_, fun j e hj => ?_, fun j k e f l h1 h2 h3 h4 => ?_⟩
  · by_cases q : i = j
    · subst q
      by_cases hl : i < ρ.length
      · rw [List.getElem?_set_self hl] at hj
        cases hj
        exact ⟨v, List.getElem?_set_self (by rw [← g.len]; exact hl), h⟩
      · rw [List.getElem?_eq_none (by rw [List.length_set]; omega)] at hj
        cases hj
    · rw [List.getElem?_set_ne q] at hj ⊢
      exact g.val j e hj
  · by_cases q : i = j
    · subst q
      by_cases hl : i < ρ.length
      · rw [List.getElem?_set_self hl] at hj
        cases hj
      · rw [List.getElem?_eq_none (by rw [List.length_set]; omega)] at hj
        cases hj
    · rw [List.getElem?_set_ne q] at hj ⊢
      exact g.own j e hj
  · have ne : ∀ {j : Nat} {e : D}, (ρ.set i (some (.val d)))[j]? = some (some (.own e)) → i ≠ j ∧ ρ[j]? = some (some (.own e)) := fun {j e} hj => by
      by_cases q : i = j
      · subst q
        by_cases hl : i < ρ.length
        · rw [List.getElem?_set_self hl] at hj
          cases hj
        · rw [List.getElem?_eq_none (by rw [List.length_set]; omega)] at hj
          cases hj
      · rw [List.getElem?_set_ne q] at hj
        exact ⟨q, hj⟩
    obtain ⟨n1, k1⟩ := ne h1
    obtain ⟨n2, k2⟩ := ne h2
    rw [List.getElem?_set_ne n1] at h3
    rw [List.getElem?_set_ne n2] at h4
    exact g.dis j k e f l k1 k2 h3 h4
/-- a name gets an object that only it holds -/
theorem Good.setOwn (g : Good P w K H0 F0 σ H F ρ) {i : Nat} {l : Addr} {o : HO} {d : D} (hl : H l = some o) (hF : F l = none) (h00 : H0 l = none) (h : Cont P w K F l o d)
    (ho : ∀ (j : Nat) (e : D), j ≠ i → ρ[j]? = some (some (.own e)) → σ[j]? ≠ some (some (.ref l))) : Good P w K H0 F0 (σ.set i (some (.ref l))) H F (ρ.set i (some (.own d))) := by
  refine ⟨g.fh, g.h0, g.ff, g.f0, by rw [List.length_set, List.length_set, g.len], fun j e hj => ?_, fun j e hj => ?_, fun j k e f m h1 h2 h3 h4 => ?_⟩
  · by_cases q : i = j
    · subst q
      by_cases hl : i < ρ.length
      · rw [List.getElem?_set_self hl] at hj
        cases hj
      · rw [List.getElem?_eq_none (by rw [List.length_set]; omega)] at hj
        cases hj
    · rw [List.getElem?_set_ne q] at hj ⊢
      exact g.val j e hj
  · by_cases q : i = j
    · subst q
      by_cases hl2 : i < ρ.length
      · rw [List.getElem?_set_self hl2] at hj
        cases hj
        exact ⟨l, o, List.getElem?_set_self (by rw [← g.len]; exact hl2), hF, h00, hl, h⟩
      · rw [List.getElem?_eq_none (by rw [List.length_set]; omega)] at hj
        cases hj
    · rw [List.getElem?_set_ne q] at hj ⊢
      exact g.own j e hj
  · by_cases q1 : i = j
    · subst q1
      by_cases q2 : i = k
      · exact q2
      · have hi : i < σ.length := by
          rw [← g.len]
          have := (List.getElem?_eq_some_iff.mp h1).1
          rwa [List.length_set] at this
        rw [List.getElem?_set_self hi] at h3
        cases h3
        rw [List.getElem?_set_ne q2] at h2 h4
        exact absurd h4 (ho k f (Ne.symm q2) h2)
    · by_cases q2 : i = k
      · subst q2
        have hi : i < σ.length := by
          rw [← g.len]
          have := (List.getElem?_eq_some_iff.mp h2).1
          rwa [List.length_set] at this
        rw [List.getElem?_set_self hi] at h4
        cases h4
        rw [List.getElem?_set_ne q1] at h1 h3
        exact absurd h3 (ho j e (Ne.symm q1) h1)
      · rw [List.getElem?_set_ne q1] at h1 h3
        rw [List.getElem?_set_ne q2] at h2 h4
        exact g.dis j k e f m h1 h2 h3 h4
/-- the object that a name holds alone is changed -/
theorem Good.write (g : Good P w K H0 F0 σ H F ρ) {i : Nat} {l : Addr} {o : HO} {d d' : D} (hi : ρ[i]? = some (some (.own d))) (hσ : σ[i]? = some (some (.ref l))) (h : Cont P w K F l o d') : Good P w K H0 F0 σ (upd H l o) F (ρ.set i (some (.own d'))) := by
  obtain ⟨l', o', k1, k2, k3, k4, k5⟩ := g.own i d hi
  rw [hσ] at k1
  cases k1
  have hil : i < ρ.length := (List.getElem?_eq_some_iff.mp hi).1
  refine ⟨fun b x hb => ?_, fun b x hb => ?_, g.ff, g.f0, by rw [List.length_set, g.len], fun j e hj => ?_, fun j e hj => ?_, fun j k e f m h1 h2 h3 h4 => ?_⟩
  · rw [upd_ne (ne_of_none hb k2)]
    exact g.fh b x hb
  · rw [upd_ne (ne_of_none hb k3)]
    exact g.h0 b x hb
  · by_cases q : i = j
    · subst q
      rw [List.getElem?_set_self hil] at hj
      cases hj
    · rw [List.getElem?_set_ne q] at hj
      exact g.val j e hj
  · by_cases q : i = j
    · subst q
      rw [List.getElem?_set_self hil] at hj
      cases hj
      exact ⟨l, o, hσ, k2, k3, upd_same, h⟩
    · rw [List.getElem?_set_ne q] at hj
      obtain ⟨m, om, m1, m2, m3, m4, m5⟩ := g.own j e hj
      refine ⟨m, om, m1, m2, m3, ?_, m5⟩
      rw [upd_ne]
      · exact m4
      · rintro rfl
        exact q (g.dis i j d e m hi hj hσ m1)
  · have back : ∀ {j : Nat} {e : D}, (ρ.set i (some (.own d')))[j]? = some (some (.own e)) → ∃ e', ρ[j]? = some (some (.own e')) := fun {j e} hj => by
      by_cases q : i = j
      · subst q
        exact ⟨d, hi⟩
      · rw [List.getElem?_set_ne q] at hj
        exact ⟨e, hj⟩
    obtain ⟨e', h1'⟩ := back h1
    obtain ⟨f', h2'⟩ := back h2
    exact g.dis j k e' f' m h1' h2' h3 h4
/-- an object of a name's own stands from now on -/
theorem Good.freeze (g : Good P w K H0 F0 σ H F ρ) {i : Nat} {d : D} (hi : ρ[i]? = some (some (.own d))) : ∃ F', Same F F' ∧ Good P w K H0 F0 σ H F' (ρ.set i (some (.val d))) := by
  obtain ⟨l, o, k1, k2, k3, k4, k5⟩ := g.own i d hi
  have hil : i < ρ.length := (List.getElem?_eq_some_iff.mp hi).1
  have sm : Same F (upd F l o) := same_new k2
  refine ⟨upd F l o, sm, fun b x hb => ?_, g.h0, g.ff.trans sm, fun b hb => ?_, by rw [List.length_set, g.len], fun j e hj => ?_, fun j e hj => ?_, fun j k e f m h1 h2 h3 h4 => ?_⟩
  · by_cases q : b = l
    · subst q
      rw [upd_same] at hb
      cases hb
      exact k4
    · rw [upd_ne q] at hb
      exact g.fh b x hb
  · rw [upd_ne]
    · exact g.f0 b hb
    · rintro rfl
      exact hb k3
  · by_cases q : i = j
    · subst q
      rw [List.getElem?_set_self hil] at hj
      cases hj
      exact ⟨_, k1, (k5.mono sm).dr upd_same⟩
    · rw [List.getElem?_set_ne q] at hj
      obtain ⟨v, h1, h2⟩ := g.val j e hj
      exact ⟨v, h1, h2.mono sm⟩
  · by_cases q : i = j
    · subst q
      rw [List.getElem?_set_self hil] at hj
      cases hj
    · rw [List.getElem?_set_ne q] at hj
      obtain ⟨m, om, m1, m2, m3, m4, m5⟩ := g.own j e hj
      refine ⟨m, om, m1, ?_, m3, m4, m5.mono sm⟩
      rw [upd_ne]
      · exact m2
      · rintro rfl
        exact q (g.dis i j d e m hi hj k1 m1)
  · have back : ∀ {j : Nat} {e : D}, (ρ.set i (some (.val d)))[j]? = some (some (.own e)) → ρ[j]? = some (some (.own e)) := fun {j e} hj => by
      by_cases q : i = j
      · subst q
        rw [List.getElem?_set_self hil] at hj
        cases hj
      · rw [List.getElem?_set_ne q] at hj
        exact hj
    exact g.dis j k e f m (back h1) (back h2) h3 h4
end
/-! ### the readings -/
section
variable (P : Program) (w : World) (K : PySem.W.Frag) (call : Nat → List D → R D)
/-- an expression's datum, from any good state -/
def tE (b : Bool) (ex : Ex) : TE := fun σ H Q => ∃ H0 F0 F ρ d, Good P w K H0 F0 σ H F ρ ∧ ev call ρ b ex = .ok d ∧ ∀ v F' H', Ext F H F' H' → Vr P w K b F' H' v d → Q v H'
/-- .. one that stands -/
def tD (ex : Ex) : TE := fun σ H Q => ∃ H0 F0 F ρ b d, Good P w K H0 F0 σ H F ρ ∧ ev call ρ b ex = .ok d ∧ ∀ v F' H', Ext F H F' H' → Dr P w K F' v d → Q v H'
def tT (ex : Ex) : TT := fun σ H Q => ∃ H0 F0 F ρ b, Good P w K H0 F0 σ H F ρ ∧ ev call ρ true ex = .ok (.bool b) ∧ ∀ F' H', Ext F H F' H' → Q b H'
def tEs (b : Bool) (es : List Ex) : TA := fun σ H Q => ∃ H0 F0 F ρ ds, Good P w K H0 F0 σ H F ρ ∧ evs call ρ b es = .ok ds ∧ ∀ vs F' H', Ext F H F' H' → vs.length = ds.length →
  (∀ (i : Nat) (v : V) (d : D), vs[i]? = some v → ds[i]? = some d → Vr P w K b F' H' v d) → Q vs H'
/-- what is walked -/
def tW (b : Bool) (k : IK) (its : List Ex) : TI := fun σ H R => ∃ H0 F0 F ρ ds xs, Good P w K H0 F0 σ H F ρ ∧ evs call ρ b its = .ok ds ∧ walkD k ds = .ok xs ∧
  ∀ J F' H', Ext F H F' H' → xs.length ≤ sizeLine → WalkOk P w K F' (if b = true then H' else F') J xs → R J H'
def tG (t : Tg) : TG := fun v σ H Q => ∃ H0 F0 F ρ d ρ', Good P w K H0 F0 σ H F ρ ∧ Dr P w K F v d ∧ asgT ρ t d = .ok ρ' ∧ ∀ σ', Good P w K H0 F0 σ' H F ρ' → (∀ i, i ∉ t.names → σ'[i]? = σ[i]?) → σ'.length = σ.length → Q σ' H
def tGs (ts : List Tg) : TGs := fun vs σ H Q => ∃ H0 F0 F ρ ds ρ', Good P w K H0 F0 σ H F ρ ∧ DrAll P w K F vs ds ∧ asgTs ρ ts ds = .ok ρ' ∧ ∀ σ', Good P w K H0 F0 σ' H F ρ' → (∀ i, i ∉ Tg.namesAll ts → σ'[i]? = σ[i]?) → σ'.length = σ.length → Q σ' H
/-- a statement's end, from where F is frozen -/
def EndS (H0 F0 F : Hp) (D : Ends) : R Flow → Prop
  | .ok (.nx ρ') => ∀ σ' H' F', Good P w K H0 F0 σ' H' F' ρ' → Same F F' → D.nx σ' H'
  | .ok (.br ρ') => ∀ σ' H' F', Good P w K H0 F0 σ' H' F' ρ' → Same F F' → D.bk σ' H'
  | .ok (.cn ρ') => ∀ σ' H' F', Good P w K H0 F0 σ' H' F' ρ' → Same F F' → D.ct σ' H'
  | .ok (.rt d) => ∀ v H' F', Ext F0 H0 F' H' → Dr P w K F' v d → D.rt v H'
  | .err _ => False
  | .bot => False
def tS (wf : Nat) (H0 F0 : Hp) (s : Stm) : TS := fun D σ H => ∃ F ρ, Good P w K H0 F0 σ H F ρ ∧ EndS P w K H0 F0 F D (exS call wf ρ s)
def tSs (wf : Nat) (H0 F0 : Hp) (s : List Stm) : TS := fun D σ H => ∃ F ρ, Good P w K H0 F0 σ H F ρ ∧ EndS P w K H0 F0 F D (exs call wf ρ s)
/-- a def's promise -/
def spF (E : Nat → Nat → List D → R D) (n f : Nat) : Sp := fun vs H Q _ => ∃ F ds d, Same F H ∧ DrAll P w K F vs ds ∧ E n f ds = .ok d ∧ ∀ v F' H', Ext F H F' H' → Dr P w K F' v d → Q v H'
end
end KD
/-! KdChk: a def of the text held against the small language. -/
namespace KD
open PySem PySem.Spec
open PyProof.Rows L2
structure Tb where
  P : Nat → Option Fn
  wf : Nat
  nm : Nat → Option Str
  cs : List (Str × D)
def bltNames : List Str := ["len", "tuple", "list", "dict", "sorted", "set", "sum", "max", "min", "all", "any", "int", "str", "isinstance", "range", "enumerate", "zip", "bool"]
/-- no star, no slice, no display of a set -/
def nst : Expr → Bool
  | .Starred _ _ => false
  | .Set _ _ _ => false
  | .Slice _ _ _ _ => false
  | _ => true
/-- its truth is that of its value -/
def plainT : Expr → Bool
  | .UnaryOp .Not _ _ => false
  | .BoolOp _ _ _ => false
  | .IfExp _ _ _ _ => false
  | .Compare _ _ _ _ => false
  | _ => true
/-- no a if c else b -/
def tst : Expr → Bool
  | .IfExp _ _ _ _ => false
  | _ => true
def visB (sc : Scope) (x : Str) : Bool := decide (sc.names.lookup x = some .local) || decide (sc.names.lookup x = some .cell) || decide (sc.names.lookup x = some .free)
def glB (sc : Scope) (x : Str) : Bool := decide (sc.names.lookup x = some .globalImplicit)
def noDbg (x : Str) : Bool := !(x == ("__debug__" : Str)) && !(x == ("__classdict__" : Str))
def constB : Const → D → Bool
  | .none, .none => true
  | .bool a, .bool b => a == b
  | .int a, .int b => decide (a = b)
  | .str a, .str b => decide (a = b) && PyData.strOk b
  | _, _ => false
def isYes : Ex → Bool
  | .cst (.bool true) => true
  | _ => false
def isAbs : Ex → Bool
  | .cst .none => true
  | _ => false
mutual
/-- the same datum (no dicts) -/
def sameD : D → D → Bool
  | .none, .none => true
  | .bool a, .bool b => a == b
  | .int a, .int b => decide (a = b)
  | .str a, .str b => decide (a = b)
  | .tuple a, .tuple b => samesD a b
  | _, _ => false
def samesD : List D → List D → Bool
  | [], [] => true
  | a :: r, b :: t => sameD a b && samesD r t
  | _, _ => false
end
mutual
theorem sameD_eq : ∀ {a b : D}, sameD a b = true → a = b
  | a, b, h => by
    unfold sameD at h
    split at h
    · rfl
    · rw [beq_iff_eq.mp h]
    · rw [of_decide_eq_true h]
    · rw [of_decide_eq_true h]
    · rw [samesD_eq h]
    · cases h
theorem samesD_eq : ∀ {a b : List D}, samesD a b = true → a = b
  | a, b, h => by
    unfold samesD at h
    split at h
    · rfl
    · rw [Bool.and_eq_true] at h
      rw [sameD_eq h.1, samesD_eq h.2]
    · cases h
end
/-- names and values of a module's own constants -/
def csB (l : List (Str × D)) (x : Str) (d : D) : Bool := l.any fun p => decide (p.1 = x) && sameD p.2 d
theorem csB_mem {l : List (Str × D)} {x : Str} {d : D} (h : csB l x d = true) : (x, d) ∈ l := by
  unfold csB at h
  rw [List.any_eq_true] at h
  obtain ⟨p, hp, h⟩ := h
  rw [Bool.and_eq_true, decide_eq_true_eq] at h
  rw [← h.1, ← sameD_eq h.2]
  exact hp
def ownOf (N : List Str) (is : List Nat) : Option (List (Str × Nat)) := is.mapM fun i => (N[i]?).map fun x => (x, i)
mutual
def tgB (N : List Str) (sc : Scope) (fnp : Str → Bool) : Expr → Tg → Bool
  | .Name x _, .name i => decide (N[i]? = some x) && (decide (sc.names.lookup x = some .local) || (decide (sc.names.lookup x = some .cell) && fnp x))
  | .Tuple es _ _, .tup ts => tgsB N sc fnp es ts
  | _, _ => false
def tgsB (N : List Str) (sc : Scope) (fnp : Str → Bool) : List Expr → List Tg → Bool
  | [], [] => true
  | e :: es, t :: ts => tgB N sc fnp e t && tgsB N sc fnp es ts
  | _, _ => false
end
def isTup : Expr → Bool
  | .Tuple _ _ _ => true
  | _ => false
/-- the builtins whose call is f(e, ..) -/
def bltName : Blt → Option (Str × Bool)
  | .len => some ("len", false)
  | .tuple => some ("tuple", true)
  | .sum => some ("sum", false)
  | .maxL => some ("max", false)
  | .minL => some ("min", false)
  | .max2 => some ("max", false)
  | .min2 => some ("min", false)
  | .all => some ("all", false)
  | .any => some ("any", false)
  | .int => some ("int", true)
  | .str => some ("str", true)
  | .list => some ("list", true)
  | _ => none
def mthName : Mth → Str
  | .join => "join"
  | .split => "split"
  | .startswith => "startswith"
  | .ljust => "ljust"
  | .rstrip => "rstrip"
  | .upper => "upper"
  | .get => "get"
  | .count => "count"
  | .index => "index"
/-- methods of one argument of texts -/
def str1 : Mth → Bool
  | .join | .split | .startswith | .ljust | .rstrip => true
  | _ => false
/-- no super() -/
def nosup : Expr → Bool
  | .Call (.Name _ _) [] [] _ => false
  | _ => true
def isaName : Blt → Option Str
  | .isStr => some "str"
  | .isTuple => some "tuple"
  | .isBool => some "bool"
  | .isInt => some "int"
  | _ => none
section
variable (T : Tb) (N : List Str)
mutual
def chkE (sc : Scope) : Expr → Ex → Bool
  | .Constant c _ _, .cst d => constB c d
  | .Name y _, .glob x d => decide (x = y) && glB sc x && csB T.cs x d && noDbg x
  | .Name x _, .var i => decide (N[i]? = some x) && visB sc x && noDbg x
  | .Tuple l _ _, .tup es => chkEs sc l es
  | .List l _, .lst es => chkEs sc l es
  | .BinOp x o y _, .bin op a b => decide (o = opOf op) && chkE sc x a && chkE sc y b
  | .UnaryOp .USub x _, .neg a => chkE sc x a
  | .Compare x [o] [y] _, .cmp op a b => decide (o = copOf op) && nst y && chkE sc x a && chkE sc y b
  | .Compare x [o, o'] [y, z] _, .chain op op' a b c => decide (o = copOf op) && decide (o' = copOf op') && nst z && chkE sc x a && chkE sc y b && chkE sc z c
  | .BoolOp .And [v, w] _, .band a b => tst v && tst w && chkE sc v a && chkE sc w b
  | .BoolOp .And (v :: w :: u :: rest) pos, .band a b => tst v && chkE sc v a && chkE sc (.BoolOp .And (w :: u :: rest) pos) b
  | .BoolOp .Or [v, w] _, .bor a b => tst v && tst w && chkE sc v a && chkE sc w b
  | .BoolOp .Or (v :: w :: u :: rest) pos, .bor a b => tst v && chkE sc v a && chkE sc (.BoolOp .Or (w :: u :: rest) pos) b
  | .UnaryOp .Not x _, .bnot a => tst x && chkE sc x a
  | .IfExp c x y _, .ife c' a b => tst c && chkE sc c c' && chkE sc x a && chkE sc y b
  | .Subscript x (.Slice lo hi none _) _, .slc a l h => chkE sc x a && (match lo with
    | none => isAbs l
    | some e => !isAbs l && chkE sc e l) && (match hi with
    | none => isAbs h
    | some e => !isAbs h && chkE sc e h)
  | .Subscript x s _, .ix a i => nst s && chkE sc x a && chkE sc s i
  | .Call (.Name x _) args [] _, .call f es => decide (T.nm f = some x) && glB sc x && noDbg x && !args.isEmpty && chkEs sc args es
  | .Call (.Name x _) [e, .Name y _] [] _, .blt b [a] => decide (x = "isinstance") && decide (isaName b = some y) && glB sc x && glB sc y && nst e && chkE sc e a
  | .Call (.Name x _) args [] _, .blt b es => (match bltName b with
    | some (y, _) => decide (x = y) && glB sc x && !args.isEmpty && chkEs sc args es
    | none => false)
  | .Call (.Attribute x name apos) [] [] cpos, .mth m a [] => decide (name = mthName m) && decide (m = .upper) && (apos.endLine == cpos.line) && nosup x && chkE sc x a
  | .Call (.Attribute x name apos) [e] [] cpos, .mth m a [b] => decide (name = mthName m) && str1 m && (apos.endLine == cpos.line) && nosup x && nst e && chkE sc x a && chkE sc e b
  | .ListComp elt [⟨tg, iter, ifs, asy⟩] scope _, .comp e t k its cond => (match ownOf N t.names with
    | some own => decide (asy = 0) && blkC N sc scope own && tgB N (relS scope sc) (fun x => scope.names.lookup x == some .cell) tg t && chkI sc tg iter k its && chkE (relS scope sc) elt e &&
      (match ifs with
        | [] => isYes cond
        | [c] => tst c && chkE (relS scope sc) c cond
        | _ => false)
    | none => false)
  | _, _ => false
def chkEs (sc : Scope) : List Expr → List Ex → Bool
  | [], [] => true
  | e :: l, x :: es => nst e && chkE sc e x && chkEs sc l es
  | _, _ => false
def chkI (sc : Scope) (tg : Expr) : Expr → IK → List Ex → Bool
  | e, .seq, [a] => nst e && chkE sc e a
  | .Call (.Name x _) [e] [] _, .range1, [a] => decide (x = "range") && glB sc x && nst e && chkE sc e a
  | .Call (.Name x _) [e, f] [] _, .range2, [a, b] => decide (x = "range") && glB sc x && nst e && nst f && chkE sc e a && chkE sc f b
  | .Call (.Name x _) [e] [] _, .enum, [a] => decide (x = "enumerate") && glB sc x && isTup tg && nst e && chkE sc e a
  | .Call (.Name x _) [e, f] [] _, .zip, [a, b] => decide (x = "zip") && glB sc x && isTup tg && nst e && nst f && chkE sc e a && chkE sc f b
  | _, _, _ => false
end
end
end KD
/-! KdExp: expressions. -/
namespace KD
open PySem PySem.Spec
open PyProof.Rows L2
structure XOk (T : Tb) (n : Nat) (X : Cx) : Prop where
  calm : X.calm = true
  room : Room n X.A
  nd : X.N.Nodup
  bl : ∀ x ∈ bltNames, X.mg x = none
  gl : ∀ p ∈ T.cs, ∃ v u, X.mg p.1 = some u ∧ RelV v u ∧ Dr X.prog X.w X.K (fun _ => none) v p.2
  fn : ∀ f x, T.nm f = some x → ∃ fn a fd ps, T.P f = some fn ∧ ps.length = fn.np ∧ X.mg x = some (.ref a) ∧ PySem.W.keepIn X.K (.ref a) = true ∧ Binds X.K fd ps [] ∧
    FnOk X.prog X.w X.K X.mg X.base CX0 n a fd ps (spF X.prog X.w X.K (evFn T.P T.wf) n f)
theorem XOk.big {T : Tb} {n : Nat} {X : Cx} (h : XOk T n X) : Big X := by
  have := h.room.un
  show X.A.units + 100 < cLine
  omega
theorem XOk.blk {T : Tb} {n : Nat} {X : Cx} (h : XOk T n X) {s : Shared} {H : Hp} {scope : Scope} {env : PySem.Env} {fp : List Addr} : XOk T n (X.blk s H scope env fp) :=
  ⟨h.calm, h.room, h.nd, h.bl, h.gl, h.fn⟩
/-- the readings at a context -/
abbrev XE (T : Tb) (n : Nat) (X : Cx) (b : Bool) (ex : Ex) : TE := tE X.prog X.w X.K (evFn T.P T.wf n) b ex
abbrev XD (T : Tb) (n : Nat) (X : Cx) (ex : Ex) : TE := tD X.prog X.w X.K (evFn T.P T.wf n) ex
abbrev XT (T : Tb) (n : Nat) (X : Cx) (ex : Ex) : TT := tT X.prog X.w X.K (evFn T.P T.wf n) ex
abbrev XEs (T : Tb) (n : Nat) (X : Cx) (b : Bool) (es : List Ex) : TA := tEs X.prog X.w X.K (evFn T.P T.wf n) b es
abbrev XW (T : Tb) (n : Nat) (X : Cx) (b : Bool) (k : IK) (its : List Ex) : TI := tW X.prog X.w X.K (evFn T.P T.wf n) b k its
section
variable {T : Tb} {n : Nat} {X : Cx} {e x y z : Expr} {ex a b c : Ex} {pos : Pos}
theorem both (h : PE X e (XD T n X ex)) (m : Bool) : PE X e (XE T n X m ex) := h.weak fun σ H Q ⟨H0, F0, F, ρ, d, g, hd, q⟩ =>
  ⟨H0, F0, F, ρ, m, d, g, hd, fun v F' H' e r => q v F' H' e (Vr.of r)⟩
theorem pt_plain (hp : plainT e = true) (h : PE X e (XE T n X true ex)) : PT X e (XT T n X ex) := by
  refine (pt_val h ?_).weak fun σ H Q ⟨H0, F0, F, ρ, d, g, hd, q⟩ => ⟨H0, F0, F, ρ, _, g, hd, fun v F' H' e r => ⟨d, r.br.bool_inv, q F' H' e⟩⟩
  intro whole
  cases e with
  | UnaryOp op _ _ => cases op <;> first | rfl | cases hp
  | BoolOp _ _ _ => cases hp
  | IfExp _ _ _ _ => cases hp
  | Compare _ _ _ _ => cases hp
  | _ => rfl
theorem snd_bin {op : BOp} (ha : PE X x (XE T n X true a)) (hb : PE X y (XE T n X true b)) : PE X (.BinOp x (opOf op) y pos) (XD T n X (.bin op a b)) :=
  (pe_op (opD_bin op) ha hb).weak fun σ H Q ⟨H0, F0, F, ρ, m, d, g, h, q⟩ => by
    simp only [ev] at h
    obtain ⟨dx, hx, h⟩ := R.bind_eq h
    obtain ⟨dy, hy, h⟩ := R.bind_eq h
    exact ⟨H0, F0, F, ρ, dx, g, hx, fun v F1 H1 e1 r1 => ⟨H0, F0, F1, ρ, dy, g.ext e1, hy, fun u F2 H2 e2 r2 =>
      ⟨F2, dx, dy, d, e2.fh, r1.br.mono e2, r2.br, h, fun v' F' H' e' r' => q v' F' H' ((e1.trans e2).trans e') r'⟩⟩⟩
theorem snd_neg (ha : PE X x (XE T n X true a)) : PE X (.UnaryOp .USub x pos) (XD T n X (.neg a)) :=
  (pe_un unD_neg ha).weak fun σ H Q ⟨H0, F0, F, ρ, m, d, g, h, q⟩ => by
    simp only [ev] at h
    obtain ⟨dx, hx, h⟩ := R.bind_eq h
    exact ⟨H0, F0, F, ρ, dx, g, hx, fun v F1 H1 e1 r1 => ⟨F1, dx, d, e1.fh, r1.br, h, fun v' F' H' e' r' => q v' F' H' (e1.trans e') r'⟩⟩
theorem behind_nst {o : CmpOp} (h : nst y = true) : behindInMarks o y = false := by
  cases y <;> first | rfl | cases h
theorem snd_cmp (hX : XOk T n X) {op : COp} (hy : nst y = true) (ha : PE X x (XE T n X true a)) (hb : PE X y (XE T n X true b)) : PE X (.Compare x [copOf op] [y] pos) (XD T n X (.cmp op a b)) :=
  (pe_cmpR (opD_cmp hX.big op) ha hb (behind_nst hy)).weak fun σ H Q ⟨H0, F0, F, ρ, m, d, g, h, q⟩ => by
    simp only [ev] at h
    obtain ⟨dx, hx, h⟩ := R.bind_eq h
    obtain ⟨dy, hy, h⟩ := R.bind_eq h
    obtain ⟨r, hr, h⟩ := R.bind_eq h
    cases h
    exact ⟨H0, F0, F, ρ, dx, g, hx, fun v F1 H1 e1 r1 => ⟨H0, F0, F1, ρ, dy, g.ext e1, hy, fun u F2 H2 e2 r2 =>
      ⟨F2, dx, dy, r, e2.fh, r1.br.mono e2, r2.br, hr, q _ _ _ (e1.trans e2) (.bl r)⟩⟩⟩
theorem snd_cmpT (hX : XOk T n X) {op : COp} (hy : nst y = true) (ha : PE X x (XE T n X true a)) (hb : PE X y (XE T n X true b)) : PT X (.Compare x [copOf op] [y] pos) (XT T n X (.cmp op a b)) :=
  (pt_cmpR (opD_cmp hX.big op) ha hb (behind_nst hy)).weak fun σ H Q ⟨H0, F0, F, ρ, r', g, h, q⟩ => by
    simp only [ev] at h
    obtain ⟨dx, hx, h⟩ := R.bind_eq h
    obtain ⟨dy, hy, h⟩ := R.bind_eq h
    obtain ⟨r, hr, h⟩ := R.bind_eq h
    cases h
    exact ⟨H0, F0, F, ρ, dx, g, hx, fun v F1 H1 e1 r1 => ⟨H0, F0, F1, ρ, dy, g.ext e1, hy, fun u F2 H2 e2 r2 =>
      ⟨F2, dx, dy, _, e2.fh, r1.br.mono e2, r2.br, hr, _, rfl, q _ _ (e1.trans e2)⟩⟩⟩
theorem last_nst {o o' : CmpOp} (h : nst z = true) : lastMarks [o, o'] [y, z] = false := behind_nst (o := o') h
theorem snd_chain (hX : XOk T n X) {op op' : COp} (hz : nst z = true) (ha : PE X x (XE T n X true a)) (hb : PE X y (XE T n X true b)) (hc : PE X z (XE T n X true c)) :
    PE X (.Compare x [copOf op, copOf op'] [y, z] pos) (XD T n X (.chain op op' a b c)) :=
  (pe_chain (opD_cmp hX.big op) (opD_cmp hX.big op') ha hb hc (last_nst hz)).weak fun σ H Q ⟨H0, F0, F, ρ, m, d, g, h, q⟩ => by
    simp only [ev] at h
    obtain ⟨dx, hx, h⟩ := R.bind_eq h
    obtain ⟨dy, hy, h⟩ := R.bind_eq h
    obtain ⟨r, hr, h⟩ := R.bind_eq h
    refine ⟨H0, F0, F, ρ, dx, g, hx, fun v F1 H1 e1 r1 => ⟨H0, F0, F1, ρ, dy, g.ext e1, hy, fun u F2 H2 e2 r2 =>
      ⟨F2, dx, dy, r, e2.fh, r1.br.mono e2, r2.br, hr, r, rfl, ?_⟩⟩⟩
    cases r with
    | false =>
      cases h
      exact iteF (q _ _ _ (e1.trans e2) (.bl false))
    | true =>
      obtain ⟨dz, hz, h⟩ := R.bind_eq h
      obtain ⟨r', hr', h⟩ := R.bind_eq h
      cases h
      exact iteT ⟨H0, F0, F2, ρ, dz, (g.ext e1).ext e2, hz, fun t F3 H3 e3 r3 => ⟨F3, dy, dz, r', e3.fh, r2.br.mono e3, r3.br, hr', q _ _ _ ((e1.trans e2).trans e3) (.bl r')⟩⟩
theorem snd_chainT (hX : XOk T n X) {op op' : COp} (hz : nst z = true) (ha : PE X x (XE T n X true a)) (hb : PE X y (XE T n X true b)) (hc : PE X z (XE T n X true c)) :
    PT X (.Compare x [copOf op, copOf op'] [y, z] pos) (XT T n X (.chain op op' a b c)) :=
  (pt_chain (opD_cmp hX.big op) (opD_cmp hX.big op') ha hb hc (last_nst hz)).weak fun σ H Q ⟨H0, F0, F, ρ, d, g, h, q⟩ => by
    simp only [ev] at h
    obtain ⟨dx, hx, h⟩ := R.bind_eq h
    obtain ⟨dy, hy, h⟩ := R.bind_eq h
    obtain ⟨r, hr, h⟩ := R.bind_eq h
    refine ⟨H0, F0, F, ρ, dx, g, hx, fun v F1 H1 e1 r1 => ⟨H0, F0, F1, ρ, dy, g.ext e1, hy, fun u F2 H2 e2 r2 =>
      ⟨F2, dx, dy, r, e2.fh, r1.br.mono e2, r2.br, hr, r, rfl, ?_⟩⟩⟩
    cases r with
    | false =>
      cases h
      exact iteF ⟨_, rfl, q _ _ (e1.trans e2)⟩
    | true =>
      obtain ⟨dz, hz, h⟩ := R.bind_eq h
      obtain ⟨r', hr', h⟩ := R.bind_eq h
      cases h
      exact iteT ⟨H0, F0, F2, ρ, dz, (g.ext e1).ext e2, hz, fun t F3 H3 e3 r3 => ⟨F3, dy, dz, _, e3.fh, r2.br.mono e3, r3.br, hr', _, rfl, q _ _ ((e1.trans e2).trans e3)⟩⟩
theorem asB_ok {d : D} {r : Bool} (h : asB d = .ok r) : d = .bool r := by
  unfold asB at h
  split at h
  · cases h; rfl
  · cases h
theorem asB_bind {α : Type} {x : R D} {f : Bool → R α} {d : α} (h : (x.bind fun y => (asB y).bind f) = .ok d) : ∃ r, x = .ok (.bool r) ∧ f r = .ok d := by
  obtain ⟨y, hx, h1⟩ := R.bind_eq h
  obtain ⟨r, hr, h2⟩ := R.bind_eq h1
  rw [asB_ok hr] at hx
  exact ⟨r, hx, h2⟩
theorem snd_and {rest : List Expr} (ha : PE X x (XE T n X true a)) (hb : PE X (.BoolOp .And (y :: rest) pos) (XE T n X true b)) : PE X (.BoolOp .And (x :: y :: rest) pos) (XD T n X (.band a b)) :=
  (pe_and ha hb).weak fun σ H Q ⟨H0, F0, F, ρ, m, d, g, h, q⟩ => by
    simp only [ev] at h
    obtain ⟨r, hx, h⟩ := asB_bind h
    refine ⟨H0, F0, F, ρ, _, g, hx, fun v F1 H1 e1 r1 => ⟨r, r1.br.bool_inv, ?_⟩⟩
    cases r with
    | false =>
      cases h
      exact iteF (q _ _ _ e1 (.bl false))
    | true =>
      obtain ⟨r', hy, h⟩ := asB_bind h
      cases h
      exact iteT ⟨H0, F0, F1, ρ, _, g.ext e1, hy, fun u F2 H2 e2 r2 => by
        rw [r2.br.bool_inv]
        exact q _ _ _ (e1.trans e2) (.bl r')⟩
theorem snd_or {rest : List Expr} (ha : PE X x (XE T n X true a)) (hb : PE X (.BoolOp .Or (y :: rest) pos) (XE T n X true b)) : PE X (.BoolOp .Or (x :: y :: rest) pos) (XD T n X (.bor a b)) :=
  (pe_or ha hb).weak fun σ H Q ⟨H0, F0, F, ρ, m, d, g, h, q⟩ => by
    simp only [ev] at h
    obtain ⟨r, hx, h⟩ := asB_bind h
    refine ⟨H0, F0, F, ρ, _, g, hx, fun v F1 H1 e1 r1 => ⟨r, r1.br.bool_inv, ?_⟩⟩
    cases r with
    | true =>
      cases h
      exact iteT (q _ _ _ e1 (.bl true))
    | false =>
      obtain ⟨r', hy, h⟩ := asB_bind h
      cases h
      exact iteF ⟨H0, F0, F1, ρ, _, g.ext e1, hy, fun u F2 H2 e2 r2 => by
        rw [r2.br.bool_inv]
        exact q _ _ _ (e1.trans e2) (.bl r')⟩
theorem snd_not (ha : PE X x (XE T n X true a)) : PE X (.UnaryOp .Not x pos) (XD T n X (.bnot a)) :=
  (pe_not ha).weak fun σ H Q ⟨H0, F0, F, ρ, m, d, g, h, q⟩ => by
    simp only [ev] at h
    obtain ⟨r, hx, h⟩ := asB_bind h
    cases h
    exact ⟨H0, F0, F, ρ, _, g, hx, fun v F1 H1 e1 r1 => ⟨r, r1.br.bool_inv, q _ _ _ e1 (.bl _)⟩⟩
theorem snd_andT {rest : List Expr} (ha : PT X x (XT T n X a)) (hb : PW X (.BoolOp .And (y :: rest) pos) (XT T n X b)) : PW X (.BoolOp .And (x :: y :: rest) pos) (XT T n X (.band a b)) :=
  (pw_and ha hb).weak fun σ H Q ⟨H0, F0, F, ρ, d, g, h, q⟩ => by
    simp only [ev] at h
    obtain ⟨r, hx, h⟩ := asB_bind h
    refine ⟨H0, F0, F, ρ, r, g, hx, fun F1 H1 e1 => ?_⟩
    cases r with
    | false =>
      cases h
      exact iteF (q _ _ e1)
    | true =>
      obtain ⟨r', hy, h⟩ := asB_bind h
      cases h
      exact iteT ⟨H0, F0, F1, ρ, _, g.ext e1, hy, fun F2 H2 e2 => q _ _ (e1.trans e2)⟩
theorem snd_orT {rest : List Expr} (ha : PT X x (XT T n X a)) (hb : PW X (.BoolOp .Or (y :: rest) pos) (XT T n X b)) : PW X (.BoolOp .Or (x :: y :: rest) pos) (XT T n X (.bor a b)) :=
  (pw_or ha hb).weak fun σ H Q ⟨H0, F0, F, ρ, d, g, h, q⟩ => by
    simp only [ev] at h
    obtain ⟨r, hx, h⟩ := asB_bind h
    refine ⟨H0, F0, F, ρ, r, g, hx, fun F1 H1 e1 => ?_⟩
    cases r with
    | true =>
      cases h
      exact iteT (q _ _ e1)
    | false =>
      obtain ⟨r', hy, h⟩ := asB_bind h
      cases h
      exact iteF ⟨H0, F0, F1, ρ, _, g.ext e1, hy, fun F2 H2 e2 => q _ _ (e1.trans e2)⟩
theorem snd_notT (ha : PT X x (XT T n X a)) : PT X (.UnaryOp .Not x pos) (XT T n X (.bnot a)) :=
  (pt_not ha).weak fun σ H Q ⟨H0, F0, F, ρ, d, g, h, q⟩ => by
    simp only [ev] at h
    obtain ⟨r, hx, h⟩ := asB_bind h
    cases h
    exact ⟨H0, F0, F, ρ, _, g, hx, fun F1 H1 e1 => q _ _ e1⟩
theorem snd_ife (hc : PT X x (XT T n X c)) (ha : PE X y (XE T n X false a)) (hb : PE X z (XE T n X false b)) : PE X (.IfExp x y z pos) (XD T n X (.ife c a b)) :=
  (pe_ifExp hc ha hb).weak fun σ H Q ⟨H0, F0, F, ρ, m, d, g, h, q⟩ => by
    simp only [ev] at h
    obtain ⟨r, hx, h⟩ := asB_bind h
    refine ⟨H0, F0, F, ρ, r, g, hx, fun F1 H1 e1 => ?_⟩
    cases r with
    | true => exact iteT ⟨H0, F0, F1, ρ, _, g.ext e1, h, fun v F2 H2 e2 r2 => q _ _ _ (e1.trans e2) r2⟩
    | false => exact iteF ⟨H0, F0, F1, ρ, _, g.ext e1, h, fun v F2 H2 e2 r2 => q _ _ _ (e1.trans e2) r2⟩
theorem plainIx_nst (h : nst y = true) : PlainIx y := by
  intro o i
  cases y <;> first | rfl | cases h
theorem snd_ix (hX : XOk T n X) (hy : nst y = true) (ha : PE X x (XE T n X true a)) (hb : PE X y (XE T n X true b)) : PE X (.Subscript x y pos) (XD T n X (.ix a b)) :=
  (pe_ix (ixR_D hX.big) ha hb (plainIx_nst hy)).weak fun σ H Q ⟨H0, F0, F, ρ, m, d, g, h, q⟩ => by
    simp only [ev] at h
    obtain ⟨dx, hx, h⟩ := R.bind_eq h
    obtain ⟨dy, hy, h⟩ := R.bind_eq h
    exact ⟨H0, F0, F, ρ, dx, g, hx, fun v F1 H1 e1 r1 => ⟨H0, F0, F1, ρ, dy, g.ext e1, hy, fun u F2 H2 e2 r2 =>
      ⟨F2, dx, dy, d, e2.fh, r1.br.mono e2, r2.br, h, fun v' F' H' e' r' => q v' F' H' ((e1.trans e2).trans e') r'⟩⟩⟩
theorem snd_var {i : Nat} {nm : Str} (hN : X.N[i]? = some nm) (hv : visB X.env.scope nm = true) (hd : noDbg nm = true) (m : Bool) : PE X (.Name nm pos) (XE T n X m (.var i)) := by
  unfold noDbg at hd
  rw [Bool.and_eq_true, Bool.not_eq_true', Bool.not_eq_true'] at hd
  have hv : Vis X.env.scope nm := by
    unfold visB at hv
    simp only [Bool.or_eq_true, decide_eq_true_eq] at hv
    rcases hv with (h | h) | h
    · exact .inl h
    · exact .inr (.inl h)
    · exact .inr (.inr h)
  refine (pe_var hN hv hd.1 hd.2).weak fun σ H Q ⟨H0, F0, F, ρ, d, g, h, q⟩ => ?_
  have h : getV m ρ i = .ok d := by simpa only [ev] using h
  unfold getV at h
  split at h
  · rename_i d' e
    cases h
    obtain ⟨v, h1, h2⟩ := g.val i _ e
    exact ⟨v, h1, q v F H (Ext.refl g.fh) (Vr.of h2)⟩
  · rename_i d' e
    obtain ⟨hm, h⟩ := R.guard_ok h
    cases h
    subst hm
    obtain ⟨l, o, h1, h2, h3, h4, h5⟩ := g.own i _ e
    exact ⟨.ref l, h1, q _ F H (Ext.refl g.fh) (.inr ⟨l, o, rfl, h4, h5⟩)⟩
  · cases h
theorem snd_cst {k : Const} {j : Nat} {d : D} (h : constB k d = true) : PE X (.Constant k j pos) (XD T n X (.cst d)) := by
  have fin : ∀ (v : V), Dr X.prog X.w X.K (fun _ => none) v d → PE X (.Constant k j pos) (tC v) → PE X (.Constant k j pos) (XD T n X (.cst d)) := fun v hv hp =>
    hp.weak fun σ H Q ⟨H0, F0, F, ρ, m, d', g, h, q⟩ => by
      simp only [ev] at h
      cases h
      exact q v F H (Ext.refl g.fh) (hv.mono fun b o z => nomatch z)
  unfold constB at h
  split at h
  · exact fin _ .non pe_non
  · rename_i a b
    obtain rfl : a = b := by simpa using h
    exact fin _ (.bl _) pe_bl
  · obtain rfl := of_decide_eq_true h
    exact fin _ (.int _) pe_int
  · rw [Bool.and_eq_true, decide_eq_true_eq] at h
    obtain ⟨rfl, h⟩ := h
    exact fin _ (.str _ h) pe_str
  · cases h
end
end KD
/-! KdExp2: displays, slices, calls. -/
namespace KD
open PySem PySem.Spec
open PyProof.Rows L2
theorem star_nst {e : Expr} {es : List Expr} {env : PySem.Env} (h : nst e = true) : starEach (e :: es) env = (false, eval e env) :: starEach es env := by
  cases e <;> first | rfl | cases h
theorem star_plain {pos : Pos} {env : PySem.Env} : ∀ {es : List Expr}, es.all nst = true → (backTo pos (starEach es env)).any (·.1) = false
  | [], _ => rfl
  | e :: es, h => by
    rw [List.all_cons, Bool.and_eq_true] at h
    rw [star_nst h.1]
    show (false || (backTo pos (starEach es env)).any (·.1)) = false
    rw [star_plain h.2]
    rfl
theorem Vr.mono {P : Program} {w : World} {K : PySem.W.Frag} {F H F' H' : Hp} {v : V} {d : D} {b : Bool} (h : Vr P w K b F H v d) (e : Ext F H F' H') : Vr P w K b F' H' v d := by
  cases b with
  | true => exact Br.mono h e
  | false => exact Dr.mono h e.f
/-- a new object that nobody else holds -/
def tN (P : Program) (w : World) (K : PySem.W.Frag) (call : Nat → List D → R D) (ex : Ex) : TE := fun σ H Q => ∃ H0 F0 F ρ d, Good P w K H0 F0 σ H F ρ ∧ ev call ρ false ex = .ok d ∧
  ∀ l o F' H', Ext F H F' H' → H l = none → F' l = none → H' l = some o → Cont P w K F' l o d → Q (.ref l) H'
abbrev XN (T : Tb) (n : Nat) (X : Cx) (ex : Ex) : TE := tN X.prog X.w X.K (evFn T.P T.wf n) ex
section
variable {T : Tb} {n : Nat} {X : Cx} {e x y z : Expr} {es l : List Expr} {ex a b c : Ex} {exs : List Ex} {pos p : Pos}
theorem new_D (h : PE X e (XN T n X ex)) (hb : ∀ ρ, ev (evFn T.P T.wf n) ρ true ex = ev (evFn T.P T.wf n) ρ false ex) : PE X e (XD T n X ex) := h.weak fun σ H Q ⟨H0, F0, F, ρ, m, d, g, hd, q⟩ => by
  refine ⟨H0, F0, F, ρ, d, g, by cases m with
    | true => rw [← hb]; exact hd
    | false => exact hd, fun l o F' H' e hl hF hH c => ?_⟩
  have sm : Same F' (upd F' l o) := same_new hF
  refine q (.ref l) (upd F' l o) H' ⟨e.f.trans sm, e.h, fun b u hb => ?_, fun b hb => ?_⟩ ((c.mono sm).dr upd_same)
  · by_cases q : b = l
    · subst q
      rw [upd_same] at hb
      cases hb
      exact hH
    · rw [upd_ne q] at hb
      exact e.fh b u hb
  · rw [upd_ne, e.new b hb]
    rintro rfl
    exact hb hl
theorem new_false (h : PE X e (XD T n X ex)) : PE X e (XE T n X false ex) := both h false
theorem snd_nil {m : Bool} : PA X [] (XEs T n X m []) := pa_nil.weak fun σ H Q ⟨H0, F0, F, ρ, ds, g, h, q⟩ => by
  simp only [evs] at h
  cases h
  exact q [] F H (Ext.refl g.fh) rfl fun i v d hv => by simp at hv
theorem snd_cons {m : Bool} (hn : nst e = true) (he : PE X e (XE T n X m ex)) (hr : PA X l (XEs T n X m exs)) : PA X (e :: l) (XEs T n X m (ex :: exs)) :=
  (pa_cons he hr (star_nst hn)).weak fun σ H Q ⟨H0, F0, F, ρ, ds, g, h, q⟩ => by
    simp only [evs] at h
    obtain ⟨d, hd, h⟩ := R.bind_eq h
    obtain ⟨dr, hr, h⟩ := R.bind_eq h
    cases h
    exact ⟨H0, F0, F, ρ, d, g, hd, fun v F1 H1 e1 r1 => ⟨H0, F0, F1, ρ, dr, g.ext e1, hr, fun vs F2 H2 e2 hl r2 => q (v :: vs) F2 H2 (e1.trans e2) (by simp [hl]) fun i u d' hu hd' => by
      cases i with
      | zero =>
        simp at hu hd'
        rw [← hu, ← hd']
        exact r1.mono e2
      | succ i => exact r2 i u d' (by simpa using hu) (by simpa using hd')⟩⟩
theorem all_dr {F H : Hp} {vs : List V} {ds : List D} (hl : vs.length = ds.length) (h : ∀ (i : Nat) (v : V) (d : D), vs[i]? = some v → ds[i]? = some d → Vr X.prog X.w X.K false F H v d) : DrAllX X F vs ds := ⟨hl, h⟩
theorem snd_glob (hX : XOk T n X) {nm : Str} {d : D} (hg : Gl X nm) (hc : csB T.cs nm d = true) (hd : noDbg nm = true) : PE X (.Name nm pos) (XD T n X (.glob nm d)) := by
  unfold noDbg at hd
  rw [Bool.and_eq_true, Bool.not_eq_true', Bool.not_eq_true'] at hd
  obtain ⟨v, u, h1, h2, h3⟩ := hX.gl _ (csB_mem hc)
  exact (pe_glob hg h1 h2 hd.1).weak fun σ H Q ⟨H0, F0, F, ρ, m, d', g, h, q⟩ => by
    simp only [ev] at h
    cases h
    exact q v F H (Ext.refl g.fh) (h3.mono fun b o z => nomatch z)
theorem len_ok {m : Nat} (h : m ≤ 1000) : m ≤ sizeLine := Nat.le_trans (Nat.le_trans h (by decide)) lim_size
theorem snd_tup {k : Nat} (h : PA X l (XEs T n X false exs)) : PE X (.Tuple l k pos) (XD T n X (.tup exs)) :=
  (pe_tup h).weak fun σ H Q ⟨H0, F0, F, ρ, m, d, g, h, q⟩ => by
    simp only [ev] at h
    obtain ⟨ds, hd, h⟩ := R.bind_eq h
    obtain ⟨hz, h⟩ := R.guard_ok h
    cases h
    refine ⟨H0, F0, F, ρ, ds, g, hd, fun vs F1 H1 e1 hl r => ⟨by rw [hl]; exact len_ok (of_decide_eq_true hz), fun p hp => ?_⟩⟩
    have e2 := Ext.laid (o := .tup vs) e1.fh hp
    exact q _ _ _ (e1.trans e2) (.tup (.inl (.inl upd_same)) hl fun i v d hv hd => Dr.mono (r i v d hv hd) e2.f)
theorem snd_lst (h : PA X l (XEs T n X false exs)) : PE X (.List l pos) (XN T n X (.lst exs)) :=
  (pe_lst h).weak fun σ H Q ⟨H0, F0, F, ρ, d, g, h, q⟩ => by
    simp only [ev] at h
    obtain ⟨ds, hd, h⟩ := R.bind_eq h
    obtain ⟨hz, h⟩ := R.guard_ok h
    cases h
    refine ⟨H0, F0, F, ρ, ds, g, hd, fun vs F1 H1 e1 hl r => ⟨by rw [hl]; exact len_ok (of_decide_eq_true hz), fun p hp => ?_⟩⟩
    have hH : H p = none := Same.free e1.h hp
    exact q p (.lst vs) F1 (upd H1 p (.lst vs)) (e1.trans (Ext.open_ e1.fh hp)) hH (same_free e1.fh hp) upd_same (.lst ⟨hl, r⟩)
/-! ### slices -/
def rSlD (X : Cx) : V → Option Int → Option Int → Hp → VK → Prop := fun x lo hi H Q => ∃ F dx d, Same F H ∧ BrX X F H x dx ∧ cutD dx lo hi = .ok d ∧ Fin X F H d Q
theorem cut_all {F : Hp} {xs : List V} {ds : List D} {lo hi : Option Int} (h : DrAllX X F xs ds) : DrAllX X F (cutV xs lo hi) (cutL ds lo hi) := by
  unfold cutV cutL
  rw [h.1]
  exact (h.drop _).take _
theorem strOk_cut {s : Str} {lo hi : Option Int} (h : PyData.strOk s = true) : PyData.strOk (cutS s lo hi) = true := by
  exact strOk_mk fun c hc => strOk_mem h c (List.mem_of_mem_drop (List.mem_of_mem_take hc))
theorem sl_D : SlR X (rSlD X) := by
  intro pins s σ H x v vl vu lo hi sl Q I rx hs pl pu ⟨F, dx, d, e, hx, h, q⟩
  cases dx with
  | list ds =>
    cases h
    obtain ⟨a, xs, rfl, h1, h2⟩ := hx.list_inv e
    exact sl_list pins s σ H _ v vl vu lo hi sl Q I rx hs pl pu ⟨a, xs, rfl, .inl (.inl h1), fun p hp => q.lst e (cut_all h2) p hp⟩
  | tuple ds =>
    cases h
    obtain ⟨a, xs, rfl, h1, h2⟩ := hx.tuple_inv
    refine sl_tupA pins s σ H _ v vl vu lo hi sl Q I rx hs pl pu ⟨a, xs, rfl, Same.sqT e h1, fun ⟨c1, c2⟩ => ?_, fun _ p hp => q.tup e (cut_all h2) p hp⟩
    have hc : cutL ds lo hi = ds := by
      unfold cutL
      rw [← h2.1, c1, c2, List.drop_zero, Nat.sub_zero, h2.1, List.take_length]
    rw [hc] at q
    exact q.same e (.tup h1 h2.1 h2.2)
  | str z =>
    obtain ⟨hz, h⟩ := R.guard_ok h
    cases h
    obtain ⟨rfl, hk⟩ := hx.str_inv
    exact sl_str pins s σ H _ v vl vu lo hi sl Q I rx hs pl pu ⟨z, rfl, Nat.le_trans (of_decide_eq_true hz) lim_size, q.same e (.str _ (strOk_cut hk))⟩
  | _ => cases h
/-- a slice's part -/
def tOx (P : Program) (w : World) (K : PySem.W.Frag) (call : Nat → List D → R D) (ex : Ex) : TO := fun σ H Q => ∃ H0 F0 F ρ d o, Good P w K H0 F0 σ H F ρ ∧ ev call ρ true ex = .ok d ∧ partX ex d = .ok o ∧ ∀ F' H', Ext F H F' H' → Q o H'
abbrev XO (T : Tb) (n : Nat) (X : Cx) (ex : Ex) : TO := tOx X.prog X.w X.K (evFn T.P T.wf n) ex
theorem PO.weak {o : Option Expr} {t t' : TO} (h : PO X o t) (hw : ∀ σ H Q, t' σ H Q → t σ H Q) : PO X o t' := ⟨fun pins s σ H Q I q => h.run pins s σ H Q I (hw σ H Q q)⟩
theorem isAbs_inv (h : isAbs ex = true) : ex = .cst .none := by
  unfold isAbs at h
  split at h
  · rfl
  · cases h
theorem snd_absent (h : isAbs ex = true) : PO X none (XO T n X ex) := PO.weak po_none fun σ H Q ⟨H0, F0, F, ρ, d, o, g, hd, ho, q⟩ => by
  rw [isAbs_inv h] at ho
  cases ho
  exact q F H (Ext.refl g.fh)
theorem snd_part (h : isAbs ex = false) (he : PE X e (XE T n X true ex)) : PO X (some e) (XO T n X ex) := PO.weak (po_some he) fun σ H Q ⟨H0, F0, F, ρ, d, o, g, hd, ho, q⟩ => by
  refine ⟨H0, F0, F, ρ, d, g, hd, fun v F1 H1 e1 r1 => ?_⟩
  unfold partX at ho
  split at ho
  · cases h
  · split at ho
    · cases ho
      exact ⟨_, r1.br.int_inv, q F1 H1 e1⟩
    · cases ho
theorem snd_slc {lo hi : Option Expr} {p2 : Pos} (ha : PE X x (XE T n X true a)) (hl : PO X lo (XO T n X b)) (hh : PO X hi (XO T n X c)) : PE X (.Subscript x (.Slice lo hi none p2) pos) (XD T n X (.slc a b c)) :=
  (pe_slice sl_D ha hl hh).weak fun σ H Q ⟨H0, F0, F, ρ, m, d, g, h, q⟩ => by
    simp only [ev] at h
    obtain ⟨dx, hx, h⟩ := R.bind_eq h
    obtain ⟨dy, hy, h⟩ := R.bind_eq h
    obtain ⟨ol, hol, h⟩ := R.bind_eq h
    obtain ⟨dz, hz, h⟩ := R.bind_eq h
    obtain ⟨oh, hoh, h⟩ := R.bind_eq h
    exact ⟨H0, F0, F, ρ, dx, g, hx, fun v F1 H1 e1 r1 => ⟨H0, F0, F1, ρ, dy, ol, g.ext e1, hy, hol, fun F2 H2 e2 => ⟨H0, F0, F2, ρ, dz, oh, (g.ext e1).ext e2, hz, hoh, fun F3 H3 e3 =>
      ⟨F3, dx, d, e3.fh, r1.br.mono (e2.trans e3), h, fun v' F' H' e' r' => q v' F' H' ((e1.trans (e2.trans e3)).trans e') r'⟩⟩⟩⟩
/-! ### calls of defs -/
theorem snd_call (hX : XOk T n X) {f : Nat} {nm : Str} (hf : T.nm f = some nm) (hg : Gl X nm) (hd : noDbg nm = true) (hn : nst e = true) (hr : es.all nst = true) (h : PA X (e :: es) (XEs T n X false exs)) :
    PE X (.Call (.Name nm p) (e :: es) [] pos) (XD T n X (.call f exs)) := by
  unfold noDbg at hd
  rw [Bool.and_eq_true, Bool.not_eq_true', Bool.not_eq_true'] at hd
  obtain ⟨fn, fa, fd, ps, h1, h2, h3, h4, h5, h6⟩ := hX.fn f nm hf
  exact (pe_call h6 hX.room hg h3 h4 h5 .nil (pass0 : Passes CX0 X E0) h hd.1 (star_nst hn) (star_plain hr)).weak fun σ H Q ⟨H0, F0, F, ρ, m, d, g, hv, q⟩ => by
    simp only [ev] at hv
    obtain ⟨ds, hds, hv⟩ := R.bind_eq hv
    refine ⟨H0, F0, F, ρ, ds, g, hds, fun vs F1 H1 e1 hl r => ?_⟩
    show spF X.prog X.w X.K (evFn T.P T.wf) n f (vs ++ []) H1 Q E0
    rw [List.append_nil]
    exact ⟨F1, ds, d, e1.fh, all_dr hl r, hv, fun v F' H' e' r' => q v F' H' (e1.trans e') r'⟩
end
end KD
/-! KdBlt: built-in functions and methods. -/
namespace KD
open PySem PySem.Spec
open PyProof.Rows L2
/-- values that are looked at -/
def BrAll (X : Cx) (F H : Hp) (vs : List V) (ds : List D) : Prop := vs.length = ds.length ∧ ∀ (i : Nat) (v : V) (d : D), vs[i]? = some v → ds[i]? = some d → BrX X F H v d
def rBlt (X : Cx) (b : Blt) : List V → Hp → VK → Prop := fun vs H Q => ∃ F ds d, Same F H ∧ BrAll X F H vs ds ∧ bltD b ds = .ok d ∧ Fin X F H d Q
def rMth (X : Cx) (m : Mth) : V → List V → Hp → VK → Prop := fun x vs H Q => ∃ F dx ds d, Same F H ∧ BrX X F H x dx ∧ DrAllX X F vs ds ∧ mthD m dx ds = .ok d ∧ Fin X F H d Q
section
variable {X : Cx} {F H : Hp} {vs : List V} {ds : List D} {d a b : D} {Q : VK}
theorem BrAll.one (h : BrAll X F H vs [a]) : ∃ v, vs = [v] ∧ BrX X F H v a := by
  obtain ⟨hl, h⟩ := h
  cases vs with
  | nil => simp at hl
  | cons v r =>
    cases r with
    | nil => exact ⟨v, rfl, h 0 v a rfl rfl⟩
    | cons u r => simp at hl
theorem BrAll.two (h : BrAll X F H vs [a, b]) : ∃ v u, vs = [v, u] ∧ BrX X F H v a ∧ BrX X F H u b := by
  obtain ⟨hl, h⟩ := h
  cases vs with
  | nil => simp at hl
  | cons v r =>
    cases r with
    | nil => simp at hl
    | cons u r =>
      cases r with
      | nil => exact ⟨v, u, rfl, h 0 v a rfl rfl, h 1 u b rfl rfl⟩
      | cons w r => simp at hl
theorem DrAll.one {P : Program} {w : World} {K : PySem.W.Frag} (h : DrAll P w K F vs [a]) : ∃ v, vs = [v] ∧ Dr P w K F v a := by
  obtain ⟨v, r, rfl, h1, h2⟩ := h.cons_inv
  rw [h2.nil_inv]
  exact ⟨v, rfl, h1⟩
theorem ints_of : ∀ {ds : List D} {ns : List Int} {xs : List V}, intsD ds = some ns → DrAllX X F xs ds → xs = ns.map V.int
  | [], ns, xs, h, r => by
    cases h
    rw [r.nil_inv]
    rfl
  | d :: ds, ns, xs, h, r => by
    obtain ⟨v, t, rfl, h1, h2⟩ := r.cons_inv
    cases d <;> try (cases h; done)
    rename_i i
    rw [intsD] at h
    cases hm : intsD ds with
    | none => rw [hm] at h; cases h
    | some ms =>
      rw [hm] at h
      cases h
      cases h1
      rw [ints_of hm h2]
      rfl
theorem bools_of : ∀ {ds : List D} {ns : List Bool} {xs : List V}, boolsD ds = some ns → DrAllX X F xs ds → xs = ns.map V.bl
  | [], ns, xs, h, r => by
    cases h
    rw [r.nil_inv]
    rfl
  | d :: ds, ns, xs, h, r => by
    obtain ⟨v, t, rfl, h1, h2⟩ := r.cons_inv
    cases d <;> try (cases h; done)
    rename_i i
    rw [boolsD] at h
    cases hm : boolsD ds with
    | none => rw [hm] at h; cases h
    | some ms =>
      rw [hm] at h
      cases h
      cases h1
      rw [bools_of hm h2]
      rfl
theorem strs_of : ∀ {ds : List D} {ns : List Str} {xs : List V}, strs_ ds = some ns → DrAllX X F xs ds → xs = ns.map V.str ∧ ∀ z ∈ ns, PyData.strOk z = true
  | [], ns, xs, h, r => by
    cases h
    rw [r.nil_inv]
    exact ⟨rfl, fun z hz => by simp at hz⟩
  | d :: ds, ns, xs, h, r => by
    obtain ⟨v, t, rfl, h1, h2⟩ := r.cons_inv
    cases d <;> try (cases h; done)
    rename_i i
    rw [strs_] at h
    cases hm : strs_ ds with
    | none => rw [hm] at h; cases h
    | some ms =>
      rw [hm] at h
      cases h
      cases h1 with
      | str _ hk =>
        obtain ⟨h3, h4⟩ := strs_of hm h2
        rw [h3]
        exact ⟨rfl, fun z hz => by
          rw [List.mem_cons] at hz
          rcases hz with rfl | hz
          · exact hk
          · exact h4 z hz⟩
theorem dr_strs {ys : List Str} (h : ∀ z ∈ ys, PyData.strOk z = true) : DrAllX X F (ys.map V.str) (ys.map PyData.str) := DrAll.of_pointwise ys V.str PyData.str fun z hz => .str z (h z hz)
/-! one place -/
theorem one_ds {c : Blt} (hc : ∀ (x y : D) (r : List D), bltD c (x :: y :: r) = .bot) (h0 : bltD c [] = .bot) (h : bltD c ds = .ok d) : ∃ x, ds = [x] := by
  cases ds with
  | nil => rw [h0] at h; cases h
  | cons x r =>
    cases r with
    | nil => exact ⟨x, rfl⟩
    | cons y r => rw [hc] at h; cases h
theorem c_len : CallR X (.builtin "len") (rBlt X .len) := by
  intro pins s σ H xs us Q I r ⟨F, ds, d, e, hb, h, q⟩
  obtain ⟨x, rfl⟩ := one_ds (fun x y r => by cases x <;> rfl) rfl h
  obtain ⟨v, rfl, hv⟩ := hb.one
  cases x with
  | list l =>
    cases h
    obtain ⟨a, ys, rfl, h1, h2⟩ := hv.list_inv e
    exact call_len_seq pins s σ H _ us Q I r ⟨a, ys, rfl, .inl (.inl (.inl h1)), by rw [h2.1]; exact q.same e (.int _)⟩
  | tuple l =>
    cases h
    obtain ⟨a, ys, rfl, h1, h2⟩ := hv.tuple_inv
    exact call_len_seq pins s σ H _ us Q I r ⟨a, ys, rfl, .inr (Same.sqT e h1), by rw [h2.1]; exact q.same e (.int _)⟩
  | str z =>
    obtain ⟨hz, h⟩ := R.guard_ok h
    cases h
    obtain ⟨rfl, hk⟩ := hv.str_inv
    exact call_len_str pins s σ H _ us Q I r ⟨z, rfl, Nat.le_trans (of_decide_eq_true hz) lim_size, q.same e (.int _)⟩
  | dict kvs =>
    have h : (match isScr (.dict kvs) with
      | some xs => R.ok (.int xs.length)
      | none => .bot) = R.ok d := h
    split at h
    · rename_i l hl
      cases h
      rw [isScr_inv hl] at hv
      obtain ⟨a, ns, rfl, rfl, h1⟩ := hv.scr_inv e
      refine call_len_seq pins s σ H _ us Q I r ⟨a, _, rfl, .inl (Same.sqL e h1), ?_⟩
      have := q.same e (.int _)
      rw [List.length_map] at this ⊢
      exact this
    · cases h
  | _ => cases h
theorem c_tuple : CallR X (.type "tuple") (rBlt X .tuple) := by
  intro pins s σ H xs us Q I r ⟨F, ds, d, e, hb, h, q⟩
  obtain ⟨x, rfl⟩ := one_ds (fun x y r => by cases x <;> rfl) rfl h
  obtain ⟨v, rfl, hv⟩ := hb.one
  cases x with
  | list l =>
    cases h
    obtain ⟨a, ys, rfl, h1, h2⟩ := hv.list_inv e
    exact call_tuple_of pins s σ H _ us Q I r ⟨a, ys, rfl, .inl ⟨.inl (.inl h1), fun p hp => q.tup e h2 p hp⟩⟩
  | tuple l =>
    cases h
    obtain ⟨a, ys, rfl, h1, h2⟩ := hv.tuple_inv
    exact call_tuple_of pins s σ H _ us Q I r ⟨a, ys, rfl, .inr ⟨Same.sqT e h1, q.same e (.tup h1 h2.1 h2.2)⟩⟩
  | _ => cases h
theorem c_int : CallR X (.type "int") (rBlt X .int) := by
  intro pins s σ H xs us Q I r ⟨F, ds, d, e, hb, h, q⟩
  obtain ⟨x, rfl⟩ := one_ds (fun x y r => by cases x <;> rfl) rfl h
  obtain ⟨v, rfl, hv⟩ := hb.one
  cases x with
  | int i =>
    cases h
    cases hv.int_inv
    exact call_int1 pins s σ H _ us Q I r (.inl ⟨i, rfl, q.same e (.int i)⟩)
  | bool k =>
    cases h
    cases hv.bool_inv
    exact call_int1 pins s σ H _ us Q I r (.inr ⟨k, rfl, q.same e (.int _)⟩)
  | _ => cases h
theorem c_sum (hX : X.calm = true) : CallR X (.builtin "sum") (rBlt X .sum) := by
  intro pins s σ H xs us Q I r ⟨F, ds, d, e, hb, h, q⟩
  obtain ⟨x, rfl⟩ := one_ds (fun x y r => by cases x <;> rfl) rfl h
  obtain ⟨v, rfl, hv⟩ := hb.one
  cases x with
  | list l =>
    have h := ofOpt_ok h
    obtain ⟨ns, h3, h4⟩ := Option.map_eq_some_iff.mp h
    subst h4
    obtain ⟨a, ys, rfl, h1, h2⟩ := hv.list_inv e
    obtain rfl := ints_of h3 h2
    exact cr_sum hX pins s σ H _ us Q I r ⟨a, ns, rfl, .inl (.inl h1), q.same e (.int _)⟩
  | _ => cases h
theorem c_all (hX : X.calm = true) : CallR X (.builtin "all") (rBlt X .all) := by
  intro pins s σ H xs us Q I r ⟨F, ds, d, e, hb, h, q⟩
  obtain ⟨x, rfl⟩ := one_ds (fun x y r => by cases x <;> rfl) rfl h
  obtain ⟨v, rfl, hv⟩ := hb.one
  cases x with
  | list l =>
    have h := ofOpt_ok h
    obtain ⟨ns, h3, h4⟩ := Option.map_eq_some_iff.mp h
    subst h4
    obtain ⟨a, ys, rfl, h1, h2⟩ := hv.list_inv e
    obtain rfl := bools_of h3 h2
    exact cr_all hX pins s σ H _ us Q I r ⟨a, ns, rfl, .inl (.inl h1), q.same e (.bl _)⟩
  | _ => cases h
theorem c_any (hX : X.calm = true) : CallR X (.builtin "any") (rBlt X .any) := by
  intro pins s σ H xs us Q I r ⟨F, ds, d, e, hb, h, q⟩
  obtain ⟨x, rfl⟩ := one_ds (fun x y r => by cases x <;> rfl) rfl h
  obtain ⟨v, rfl, hv⟩ := hb.one
  cases x with
  | list l =>
    have h := ofOpt_ok h
    obtain ⟨ns, h3, h4⟩ := Option.map_eq_some_iff.mp h
    subst h4
    obtain ⟨a, ys, rfl, h1, h2⟩ := hv.list_inv e
    obtain rfl := bools_of h3 h2
    exact cr_any hX pins s σ H _ us Q I r ⟨a, ns, rfl, .inl (.inl h1), q.same e (.bl _)⟩
  | _ => cases h
theorem fold_max : ∀ (xs : List Int) (x : Int), xs.foldl (fun a b => if b > a then b else a) x ∈ x :: xs ∧ ∀ y ∈ x :: xs, y ≤ xs.foldl (fun a b => if b > a then b else a) x
  | [], x => ⟨by simp, fun y hy => by
    rw [List.mem_singleton] at hy
    subst hy
    exact Int.le_refl _⟩
  | z :: xs, x => by
    rw [List.foldl_cons]
    obtain ⟨h1, h2⟩ := fold_max xs (if z > x then z else x)
    refine ⟨?_, fun y hy => ?_⟩
    · rw [List.mem_cons] at h1
      rcases h1 with h1 | h1
      · rw [h1]
        split <;> simp
      · simp [h1]
    · have h3 := h2 _ List.mem_cons_self
      rw [List.mem_cons, List.mem_cons] at hy
      rcases hy with rfl | rfl | hy
      · refine Int.le_trans ?_ h3
        split <;> omega
      · refine Int.le_trans ?_ h3
        split <;> omega
      · exact h2 y (List.mem_cons_of_mem _ hy)
theorem fold_min : ∀ (xs : List Int) (x : Int), xs.foldl (fun a b => if b < a then b else a) x ∈ x :: xs ∧ ∀ y ∈ x :: xs, xs.foldl (fun a b => if b < a then b else a) x ≤ y
  | [], x => ⟨by simp, fun y hy => by
    rw [List.mem_singleton] at hy
    subst hy
    exact Int.le_refl _⟩
  | z :: xs, x => by
    rw [List.foldl_cons]
    obtain ⟨h1, h2⟩ := fold_min xs (if z < x then z else x)
    refine ⟨?_, fun y hy => ?_⟩
    · rw [List.mem_cons] at h1
      rcases h1 with h1 | h1
      · rw [h1]
        split <;> simp
      · simp [h1]
    · have h3 := h2 _ List.mem_cons_self
      rw [List.mem_cons, List.mem_cons] at hy
      rcases hy with rfl | rfl | hy
      · refine Int.le_trans h3 ?_
        split <;> omega
      · refine Int.le_trans h3 ?_
        split <;> omega
      · exact h2 y (List.mem_cons_of_mem _ hy)
theorem c_maxL (hX : X.calm = true) : CallR X (.builtin "max") (rBlt X .maxL) := by
  intro pins s σ H xs us Q I r ⟨F, ds, d, e, hb, h, q⟩
  obtain ⟨x, rfl⟩ := one_ds (fun x y r => by cases x <;> rfl) rfl h
  obtain ⟨v, rfl, hv⟩ := hb.one
  cases x with
  | list l =>
    have h := ofOpt_ok h
    obtain ⟨m, h3, h4⟩ := Option.map_eq_some_iff.mp h
    subst h4
    obtain ⟨ns, h5, h6⟩ := Option.bind_eq_some_iff.mp h3
    obtain ⟨a, ys, rfl, h1, h2⟩ := hv.list_inv e
    obtain rfl := ints_of h5 h2
    cases ns with
    | nil => cases h6
    | cons n ns =>
      cases h6
      obtain ⟨k1, k2⟩ := fold_max ns n
      refine cr_max hX pins s σ H _ us Q I r ⟨a, n :: ns, rfl, .inl (.inl h1), by simp, fun m hm hall => ?_⟩
      have : m = ns.foldl (fun a b => if b > a then b else a) n := Int.le_antisymm (k2 m hm) (hall _ k1)
      rw [this]
      exact q.same e (.int _)
  | _ => cases h
theorem c_minL (hX : X.calm = true) : CallR X (.builtin "min") (rBlt X .minL) := by
  intro pins s σ H xs us Q I r ⟨F, ds, d, e, hb, h, q⟩
  obtain ⟨x, rfl⟩ := one_ds (fun x y r => by cases x <;> rfl) rfl h
  obtain ⟨v, rfl, hv⟩ := hb.one
  cases x with
  | list l =>
    have h : (match intsD l with
      | some ns => ofOpt ((minI ns).map PyData.int)
      | none => .bot) = R.ok d := h
    split at h
    · rename_i ns h5
      have h := ofOpt_ok h
      obtain ⟨m, h6, h4⟩ := Option.map_eq_some_iff.mp h
      subst h4
      obtain ⟨a, ys, rfl, h1, h2⟩ := hv.list_inv e
      obtain rfl := ints_of h5 h2
      cases ns with
      | nil => cases h6
      | cons n ns =>
        cases h6
        obtain ⟨k1, k2⟩ := fold_min ns n
        refine cr_min hX pins s σ H _ us Q I r ⟨a, n :: ns, rfl, .inl (.inl h1), by simp, fun m hm hall => ?_⟩
        have : m = ns.foldl (fun a b => if b < a then b else a) n := Int.le_antisymm (hall _ k1) (k2 m hm)
        rw [this]
        exact q.same e (.int _)
    · cases h
  | _ => cases h
theorem two_ds {c : Blt} (h0 : bltD c [] = .bot) (h1 : ∀ x : D, bltD c [x] = .bot) (hc : ∀ (x y z : D) (r : List D), bltD c (x :: y :: z :: r) = .bot) (h : bltD c ds = .ok d) : ∃ x y, ds = [x, y] := by
  cases ds with
  | nil => rw [h0] at h; cases h
  | cons x r =>
    cases r with
    | nil => rw [h1] at h; cases h
    | cons y r =>
      cases r with
      | nil => exact ⟨x, y, rfl⟩
      | cons z r => rw [hc] at h; cases h
theorem c_max2 (hX : X.calm = true) : CallR X (.builtin "max") (rBlt X .max2) := by
  intro pins s σ H xs us Q I r ⟨F, ds, d, e, hb, h, q⟩
  obtain ⟨x, y, rfl⟩ := two_ds rfl (fun x => by cases x <;> rfl) (fun x y z r => by cases x <;> cases y <;> rfl) h
  obtain ⟨v, u, rfl, hv, hu⟩ := hb.two
  cases x <;> try (cases h; done)
  cases y <;> try (cases h; done)
  cases h
  cases hv.int_inv
  cases hu.int_inv
  exact call_max2 hX pins s σ H _ us Q I r ⟨_, _, rfl, q.same e (.int _)⟩
theorem c_min2 (hX : X.calm = true) : CallR X (.builtin "min") (rBlt X .min2) := by
  intro pins s σ H xs us Q I r ⟨F, ds, d, e, hb, h, q⟩
  obtain ⟨x, y, rfl⟩ := two_ds rfl (fun x => by cases x <;> rfl) (fun x y z r => by cases x <;> cases y <;> rfl) h
  obtain ⟨v, u, rfl, hv, hu⟩ := hb.two
  cases x <;> try (cases h; done)
  cases y <;> try (cases h; done)
  cases h
  cases hv.int_inv
  cases hu.int_inv
  exact call_min2 hX pins s σ H _ us Q I r ⟨_, _, rfl, q.same e (.int _)⟩
theorem none_text : (Str.ofString "None") = ⟨#[78, 111, 110, 101]⟩ := by decide +kernel
theorem c_str : CallR X (.type "str") (rBlt X .str) := by
  intro pins s σ H xs us Q I r ⟨F, ds, d, e, hb, h, q⟩
  obtain ⟨x, rfl⟩ := one_ds (fun x y r => by cases x <;> rfl) rfl h
  obtain ⟨v, rfl, hv⟩ := hb.one
  cases x with
  | str z =>
    cases h
    obtain ⟨rfl, hk⟩ := hv.str_inv
    exact SkE.call_str_str pins s σ H _ us Q I r ⟨z, rfl, q.same e (.str _ hk)⟩
  | none =>
    cases h
    cases hv.none_inv
    obtain ⟨u, rfl, r1⟩ := vals1 r
    cases r1
    have h2 := q.same e (.str _ (by decide +kernel))
    rw [← none_text] at h2
    exact PySem.P.str_of_none ⟨.str "None", H, I.tok _, ⟨_, rfl⟩, h2⟩
  | _ => cases h
theorem c_list : CallR X (.type "list") (rBlt X .list) := by
  intro pins s σ H xs us Q I r ⟨F, ds, d, e, hb, h, q⟩
  obtain ⟨x, rfl⟩ := one_ds (fun x y r => by cases x <;> rfl) rfl h
  obtain ⟨v, rfl, hv⟩ := hb.one
  cases x with
  | list l =>
    cases h
    obtain ⟨a, ys, rfl, h1, h2⟩ := hv.list_inv e
    exact call_list_of pins s σ H _ us Q I r ⟨a, ys, rfl, .inl (.inl (.inl h1)), fun p hp => q.lst e h2 p hp⟩
  | tuple l =>
    cases h
    obtain ⟨a, ys, rfl, h1, h2⟩ := hv.tuple_inv
    exact call_list_of pins s σ H _ us Q I r ⟨a, ys, rfl, .inr (Same.sqT e h1), fun p hp => q.lst e h2 p hp⟩
  | str z => cases h
  | dict kvs => cases h
  | _ => cases h
/-! texts -/
theorem strOk_glued {s : Str} (hs : PyData.strOk s = true) : ∀ {ys : List Str}, (∀ z ∈ ys, PyData.strOk z = true) → PyData.strOk (Str.join s ys) = true
  | [], _ => by simp [Str.join, Str.empty, PyData.strOk]
  | [x], h => h x (by simp)
  | x :: y :: r, h => by
    show PyData.strOk (x ++ s ++ Str.join s (y :: r)) = true
    rw [strOk_append, strOk_append, h x (by simp), hs, strOk_glued hs fun z hz => h z (List.mem_cons_of_mem _ hz)]
    rfl
theorem m_join : MtR X "str.join" (rMth X .join) := by
  intro pins s σ H x xs v us Q I rx rs ⟨F, dx, ds, d, e, hx, hs, h, q⟩
  have fin : ∀ (z : Str) (l : List D) (a : Addr) (ys : List V), PyData.strOk z = true → x = .str z → xs = [.ref a] → (SqL X.K H a ys ∨ SqT X.K H a ys) → DrAllX X F ys l →
      (match strs_ l with
        | some ys => R.guard (decide ((ys.map (·.length)).sum + ys.length * z.length ≤ lim)) (.ok (.str (Txt.join z ys)))
        | none => .bot) = R.ok d → wpAny (model X.prog X.w) X.A (call (.builtin "str.join") (v :: us)) (EP X pins σ Q) X.xe s := by
    intro z l a ys hk ex exs hseq hl h
    split at h
    · rename_i zs hz
      obtain ⟨hc, h⟩ := R.guard_ok h
      cases h
      obtain ⟨rfl, hok⟩ := strs_of hz hl
      refine mt_join pins s σ H x xs v us Q I rx rs ⟨z, a, zs, ex, exs, hseq, Nat.le_trans (of_decide_eq_true hc) (by decide), q.same e (.str _ ?_)⟩
      rw [show Txt.join z zs = Str.join z zs from PySem.StrLaws.glued_eq_join z zs]
      exact strOk_glued hk hok
    · cases h
  cases dx <;> try (cases h; done)
  obtain ⟨rfl, hk⟩ := hx.str_inv
  cases ds with
  | nil => cases h
  | cons y r =>
    cases r with
    | cons z r => cases y <;> cases h
    | nil =>
      obtain ⟨u, rfl, hu⟩ := hs.one
      cases y <;> try (cases h; done)
      · obtain ⟨a, ys, rfl, h1, h2⟩ := Br.list_inv e (.inl hu)
        exact fin _ _ a ys hk rfl rfl (.inl (.inl (.inl h1))) h2 h
      · obtain ⟨a, ys, rfl, h1, h2⟩ := Br.tuple_inv (F := F) (H := H) (.inl hu)
        exact fin _ _ a ys hk rfl rfl (.inr (Same.sqT e h1)) h2 h
theorem m_split : MtR X "str.split" (rMth X .split) := by
  intro pins s σ H x xs v us Q I rx rs ⟨F, dx, ds, d, e, hx, hs, h, q⟩
  cases dx <;> try (cases h; done)
  obtain ⟨rfl, hk⟩ := hx.str_inv
  cases ds with
  | nil => cases h
  | cons y r =>
    cases r with
    | cons z r => cases y <;> cases h
    | nil =>
      obtain ⟨u, rfl, hu⟩ := hs.one
      cases y <;> try (cases h; done)
      rename_i z y
      obtain ⟨hc, h⟩ := R.guard_ok h
      obtain ⟨hsp, h⟩ := R.guard_ok h
      cases h
      simp only [Bool.and_eq_true, Bool.not_eq_true', decide_eq_true_eq, decide_eq_false_iff_not] at hc
      cases hu
      rw [List.all_eq_true] at hsp
      refine mt_split pins s σ H _ _ v us Q I rx rs ⟨z, y, rfl, rfl, by simp [hc.1], ?_, fun p hp => q.lst e (dr_strs hsp) p hp⟩
      exact Nat.le_trans (Nat.add_le_add_right hc.2 2) (by rw [sizeLine_eq]; decide)
theorem m_startswith : MtR X "str.startswith" (rMth X .startswith) := by
  intro pins s σ H x xs v us Q I rx rs ⟨F, dx, ds, d, e, hx, hs, h, q⟩
  cases dx <;> try (cases h; done)
  obtain ⟨rfl, hk⟩ := hx.str_inv
  cases ds with
  | nil => cases h
  | cons y r =>
    cases r with
    | cons z r => cases y <;> cases h
    | nil =>
      obtain ⟨u, rfl, hu⟩ := hs.one
      cases y <;> try (cases h; done)
      cases h
      cases hu
      exact mt_startswith pins s σ H _ _ v us Q I rx rs ⟨_, _, rfl, rfl, q.same e (.bl _)⟩
theorem m_rstrip : MtR X "str.rstrip" (rMth X .rstrip) := by
  intro pins s σ H x xs v us Q I rx rs ⟨F, dx, ds, d, e, hx, hs, h, q⟩
  cases dx <;> try (cases h; done)
  obtain ⟨rfl, hk⟩ := hx.str_inv
  cases ds with
  | nil => cases h
  | cons y r =>
    cases r with
    | cons z r => cases y <;> cases h
    | nil =>
      obtain ⟨u, rfl, hu⟩ := hs.one
      cases y <;> try (cases h; done)
      obtain ⟨hc, h⟩ := R.guard_ok h
      obtain ⟨hsp, h⟩ := R.guard_ok h
      cases h
      cases hu
      exact mt_rstripChars pins s σ H _ _ v us Q I rx rs ⟨_, _, rfl, rfl, Nat.le_trans (of_decide_eq_true hc) lim_size, q.same e (.str _ hsp)⟩
theorem m_ljust : MtR X "str.ljust" (rMth X .ljust) := by
  intro pins s σ H x xs v us Q I rx rs ⟨F, dx, ds, d, e, hx, hs, h, q⟩
  cases dx <;> try (cases h; done)
  obtain ⟨rfl, hk⟩ := hx.str_inv
  cases ds with
  | nil => cases h
  | cons y r =>
    cases r with
    | cons z r => cases y <;> cases h
    | nil =>
      obtain ⟨u, rfl, hu⟩ := hs.one
      cases y <;> try (cases h; done)
      rename_i z i
      obtain ⟨hc, h⟩ := R.guard_ok h
      obtain ⟨hsp, h⟩ := R.guard_ok h
      cases h
      cases hu
      rw [Bool.and_eq_true, decide_eq_true_eq, decide_eq_true_eq] at hc
      refine mt_ljust pins s σ H _ _ v us Q I rx rs ⟨_, _, rfl, rfl, ?_, q.same e (.str _ hsp)⟩
      exact padOk_of (by omega) (by omega)
theorem m_upper : MtR X "str.upper" (rMth X .upper) := by
  intro pins s σ H x xs v us Q I rx rs ⟨F, dx, ds, d, e, hx, hs, h, q⟩
  cases dx <;> try (cases h; done)
  obtain ⟨rfl, hk⟩ := hx.str_inv
  cases ds with
  | cons y r => cases y <;> cases r <;> cases h
  | nil =>
    obtain ⟨hc, h⟩ := R.guard_ok h
    obtain ⟨hsp, h⟩ := R.guard_ok h
    cases h
    obtain rfl := hs.nil_inv
    exact mt_upper pins s σ H _ _ v us Q I rx rs ⟨_, rfl, rfl, Nat.le_trans (of_decide_eq_true hc) (by decide), q.same e (.str _ hsp)⟩
end
/-! ### in the text -/
section
variable {T : Tb} {n : Nat} {X : Cx} {e x y z : Expr} {es l : List Expr} {ex a b c : Ex} {exs : List Ex} {pos p apos : Pos}
theorem bltin_none (hX : XOk T n X) {nm : Str} (h : nm ∈ bltNames) : X.mg nm = none := hX.bl nm h
theorem snd_bltB (hX : XOk T n X) {nm : Str} {k : Blt} {id : String} (hm : nm ∈ bltNames) (hc : CallR X (.builtin id) (rBlt X k)) (hv : bootBuiltins nm = some (.builtin id)) (hg : Gl X nm) (hnm : nm ≠ "__name__") (hdb : (nm == ("__debug__" : Str)) = false)
    (hn : nst e = true) (hr : es.all nst = true) (h : PA X (e :: es) (XEs T n X true exs)) : PE X (.Call (.Name nm p) (e :: es) [] pos) (XD T n X (.blt k exs)) :=
  (pe_callB hc hg (hX.bl nm hm) hv h hnm hdb (star_nst hn) (star_plain hr)).weak fun σ H Q ⟨H0, F0, F, ρ, m, d, g, hv, q⟩ => by
    simp only [ev] at hv
    obtain ⟨ds, hds, hv⟩ := R.bind_eq hv
    exact ⟨H0, F0, F, ρ, ds, g, hds, fun vs F1 H1 e1 hl r => ⟨F1, ds, d, e1.fh, ⟨hl, r⟩, hv, fun v F' H' e' r' => q v F' H' (e1.trans e') r'⟩⟩
theorem snd_bltT (hX : XOk T n X) {nm : Str} {k : Blt} {id : String} (hm : nm ∈ bltNames) (hc : CallR X (.type id) (rBlt X k)) (hv : bootBuiltins nm = some (.type id)) (hg : Gl X nm) (hnm : nm ≠ "__name__") (hdb : (nm == ("__debug__" : Str)) = false)
    (hn : nst e = true) (hr : es.all nst = true) (h : PA X (e :: es) (XEs T n X true exs)) : PE X (.Call (.Name nm p) (e :: es) [] pos) (XD T n X (.blt k exs)) :=
  (pe_callTy hc hg (hX.bl nm hm) hv h hnm hdb (star_nst hn) (star_plain hr)).weak fun σ H Q ⟨H0, F0, F, ρ, m, d, g, hv, q⟩ => by
    simp only [ev] at hv
    obtain ⟨ds, hds, hv⟩ := R.bind_eq hv
    exact ⟨H0, F0, F, ρ, ds, g, hds, fun vs F1 H1 e1 hl r => ⟨F1, ds, d, e1.fh, ⟨hl, r⟩, hv, fun v F' H' e' r' => q v F' H' (e1.trans e') r'⟩⟩
theorem base_nosup {env : PySem.Env} {nm : Str} (h : nosup x = true) : attributeBase x nm env (eval x env) = eval x env := by
  unfold attributeBase
  split
  · cases h
  · rfl
theorem args_one {vs : List V} {F H : Hp} {u : V} {d : D} (h : Dr X.prog X.w X.K F u d) : DrAllX X F [u] [d] := .cons h .nil
theorem evs_one {call : Nat → List D → R D} {ρ : Env} {m : Bool} {ds : List D} (h : evs call ρ m [ex] = .ok ds) : ∃ d, ev call ρ m ex = .ok d ∧ ds = [d] := by
  simp only [evs] at h
  obtain ⟨d, hd, h⟩ := R.bind_eq h
  cases h
  exact ⟨d, hd, rfl⟩
theorem mth_str {k : Mth} {dx d : D} {ds : List D} (hk : k ≠ .get) (h : mthD k dx ds = .ok d) : ∃ z, dx = .str z := by
  cases dx <;> first | exact ⟨_, rfl⟩ | (cases k <;> first | exact absurd rfl hk | cases h)
theorem snd_mth1 {k : Mth} {id : String} (hk : k ≠ .get) (slot : Slot "str" (mthName k) id) (ty : typeOf (.builtin id) = pure (.type "method_descriptor")) (rule : MtR X id (rMth X k)) (hs : nosup x = true) (hn : nst e = true) (hline : (apos.endLine == pos.line) = true)
    (ho : PE X x (XE T n X true a)) (he : PE X e (XE T n X false b)) : PE X (.Call (.Attribute x (mthName k) apos) [e] [] pos) (XD T n X (.mth k a [b])) :=
  (pe_m1 slot ty rule ho he (star_nst hn) (base_nosup hs) hline).weak fun σ H Q ⟨H0, F0, F, ρ, m, d, g, hv, q⟩ => by
    simp only [ev] at hv
    obtain ⟨dx, hx, hv⟩ := R.bind_eq hv
    obtain ⟨ds, hds, hv⟩ := R.bind_eq hv
    obtain ⟨dy, hy, rfl⟩ := evs_one hds
    refine ⟨H0, F0, F, ρ, dx, g, hx, fun v F1 H1 e1 r1 => ⟨?_, H0, F0, F1, ρ, dy, g.ext e1, hy, fun u F2 H2 e2 r2 => ⟨F2, dx, [dy], d, e2.fh, r1.br.mono e2, .cons r2 .nil, hv, fun v' F' H' e' r' => q v' F' H' ((e1.trans e2).trans e') r'⟩⟩⟩
    obtain ⟨z, rfl⟩ := mth_str hk hv
    exact ⟨z, r1.br.str_inv.1⟩
theorem snd_mth0 {k : Mth} {id : String} (hk : k ≠ .get) (slot : Slot "str" (mthName k) id) (ty : typeOf (.builtin id) = pure (.type "method_descriptor")) (rule : MtR X id (rMth X k)) (hs : nosup x = true) (hline : (apos.endLine == pos.line) = true)
    (ho : PE X x (XE T n X true a)) : PE X (.Call (.Attribute x (mthName k) apos) [] [] pos) (XD T n X (.mth k a [])) :=
  (pe_m0 slot ty rule ho (base_nosup hs) hline).weak fun σ H Q ⟨H0, F0, F, ρ, m, d, g, hv, q⟩ => by
    simp only [ev] at hv
    obtain ⟨dx, hx, hv⟩ := R.bind_eq hv
    obtain ⟨ds, hds, hv⟩ := R.bind_eq hv
    simp only [evs] at hds
    cases hds
    refine ⟨H0, F0, F, ρ, dx, g, hx, fun v F1 H1 e1 r1 => ⟨?_, F1, dx, [], d, e1.fh, r1.br, .nil, hv, fun v' F' H' e' r' => q v' F' H' (e1.trans e') r'⟩⟩
    obtain ⟨z, rfl⟩ := mth_str hk hv
    exact ⟨z, r1.br.str_inv.1⟩
end
end KD
/-! KdIsa: isinstance. -/
namespace KD
open PySem PySem.Spec
open PyProof.Rows L2
def isaTy : Blt → Option String
  | .isStr => some "str"
  | .isTuple => some "tuple"
  | .isBool => some "bool"
  | .isInt => some "int"
  | _ => none
def tyD : D → Option String
  | .none => some "NoneType"
  | .bool _ => some "bool"
  | .int _ => some "int"
  | .str _ => some "str"
  | .list _ => some "list"
  | .tuple _ => some "tuple"
  | .dict _ => none
section
variable {T : Tb} {n : Nat} {X : Cx} {F H : Hp} {v : V} {d : D}
theorem br_ty (e : Same F H) (h : BrX X F H v d) {t : String} (ht : tyD d = some t) : TyX X.K H v (.type t) := by
  cases d with
  | none => cases ht; cases h.none_inv; exact .base .non
  | bool b => cases ht; cases h.bool_inv; exact .base (.bl b)
  | int i => cases ht; cases h.int_inv; exact .base (.int i)
  | str x => cases ht; obtain ⟨rfl, _⟩ := h.str_inv; exact .base (.str x)
  | list l =>
    cases ht
    obtain ⟨a, xs, rfl, h1, _⟩ := h.list_inv e
    exact .base (.lst h1)
  | tuple l =>
    cases ht
    obtain ⟨a, xs, rfl, h1, _⟩ := h.tuple_inv
    have h1 := Same.sqT e h1
    rcases h1 with h1 | h1
    · rcases h1 with h1 | ⟨o, h1⟩
      · exact .base (.tup h1)
      · exact .fTuple h1
    · obtain ⟨o, its, n, k1, k2, _⟩ := h1
      exact .kTuple k1 k2
  | dict l => cases ht
theorem kit_isa {b : Blt} {d r : D} {c t : String} (hb : isaTy b = some c) (ht : tyD d = some t) (h : bltD b [d] = .ok r) : ∃ x, r = .bool x ∧ kitB t c = some x := by
  cases b <;> first
    | (cases hb; done)
    | (cases hb; cases d <;> first | (cases ht; done) | (cases ht; cases h; exact ⟨_, rfl, by decide +kernel⟩))
theorem ty_isa {b : Blt} {d r : D} {c : String} (hb : isaTy b = some c) (h : bltD b [d] = .ok r) : ∃ t, tyD d = some t := by
  cases b <;> first
    | (cases hb; done)
    | (cases d <;> first | exact ⟨_, rfl⟩ | cases h)
theorem isa_name {b : Blt} {y : Str} (h : isaName b = some y) : ∃ c, isaTy b = some c ∧ y = Str.ofString c ∧ bootBuiltins y = some (.type c) ∧ y ∈ bltNames ∧ y ≠ "__name__" ∧ (y == ("__debug__" : Str)) = false := by
  cases b <;> first
    | (cases h; done)
    | (cases h; exact ⟨"str", rfl, rfl, boot_str, by decide, by decide, by decide⟩)
    | (cases h; exact ⟨"tuple", rfl, rfl, boot_tuple, by decide, by decide, by decide⟩)
    | (cases h; exact ⟨"bool", rfl, rfl, boot_bool, by decide, by decide, by decide⟩)
    | (cases h; exact ⟨"int", rfl, rfl, boot_int, by decide, by decide, by decide⟩)
theorem snd_isa {e : Expr} {a : Ex} {b : Blt} {y : Str} {p p2 pos : Pos} (hX : XOk T n X) (hb : isaName b = some y) (hg : Gl X "isinstance") (hg2 : Gl X y) (hn : nst e = true) (he : PE X e (XE T n X true a)) :
    PE X (.Call (.Name "isinstance" p) [e, .Name y p2] [] pos) (XD T n X (.blt b [a])) := by
  obtain ⟨c, h1, h2, h3, h4, h5, h6⟩ := isa_name hb
  refine (pe_callB call_isi hg (hX.bl _ (by decide)) boot_isinstance (pa_cons he (pa_cons (pe_bltn (v := .ty c) hg2 (hX.bl _ h4) h3 rfl h5 h6) pa_nil) (star_nst hn)) (by decide) (by decide) (star_nst hn) (star_plain (es := [.Name y p2]) rfl)).weak ?_
  rintro σ H Q ⟨H0, F0, F, ρ, m, d, g, h, q⟩
  simp only [ev] at h
  obtain ⟨ds, hds, h⟩ := R.bind_eq h
  obtain ⟨dx, hx, rfl⟩ := evs_one hds
  refine ⟨H0, F0, F, ρ, dx, g, hx, fun v F1 H1 e1 r1 => ?_⟩
  obtain ⟨t, ht⟩ := ty_isa h1 h
  obtain ⟨x, rfl, hk⟩ := kit_isa h1 ht h
  exact ⟨v, .ty c, .type t, .type c, x, rfl, .ty c, br_ty e1.fh r1.br ht, kit_ty hk, q _ _ _ e1 (.bl x)⟩
end
end KD
/-! KdComp: what is walked, comprehensions. -/
namespace KD
open PySem PySem.Spec
open PyProof.Rows L2
/-- lists and tuples are not too long -/
def Szd (K : PySem.W.Frag) (H : Hp) : Prop := ∀ (a : Addr) (xs : List V), SqL K H a xs ∨ SqT K H a xs → xs.length ≤ sizeLine
theorem szd_of {X : Cx} {pins : List (Addr × Obj)} {σ : L2.St} {H : Hp} {s : Shared} (I : L2.Inv X pins σ H s) : Szd X.K H := fun a xs h => by
  rcases h with h | h
  · obtain ⟨its, r, _, hz⟩ := I.list h
    exact hz
  · obtain ⟨its, r, _, hz⟩ := I.tuple h
    exact hz
theorem _root_.L2.PI.sized {X : Cx} {tg it : Expr} {wi : TI} (h : PI X tg it wi) : PI X tg it (fun σ H R => wi σ H fun J H1 => Szd X.K H1 → R J H1) :=
  ⟨fun pins s σ H R I q => thn (h.run pins s σ H _ I q) fun v s1 q1 => thn q1 fun itv s2 ⟨it, fp, tn, J, H', e, I', t, t0, f, r⟩ => ⟨it, fp, tn, J, H', e, I', t, t0, f, r (szd_of I')⟩⟩
section
variable {P : Program} {w : World} {K : PySem.W.Frag} {F H : Hp} {v : V} {d : D} {m : Bool} {ds xs : List D}
theorem Vr.list_inv (e : Same F H) (h : Vr P w K m F H v (.list ds)) : ∃ a xs, v = .ref a ∧ SqL K (if m = true then H else F) a xs ∧ SqL K H a xs ∧ DrAll P w K F xs ds := by
  cases m with
  | true =>
    obtain ⟨a, xs, h1, h2, h3⟩ := Br.list_inv e h
    exact ⟨a, xs, h1, .inl (.inl h2), .inl (.inl h2), h3⟩
  | false =>
    cases h with
    | lst h hl hi => exact ⟨_, _, rfl, .inl (.inl h), .inl (.inl (e _ _ h)), hl, hi⟩
theorem Vr.tuple_inv (e : Same F H) (h : Vr P w K m F H v (.tuple ds)) : ∃ a xs, v = .ref a ∧ SqT K (if m = true then H else F) a xs ∧ SqT K H a xs ∧ DrAll P w K F xs ds := by
  obtain ⟨a, xs, h1, h2, h3⟩ := Br.tuple_inv h.br
  refine ⟨a, xs, h1, ?_, Same.sqT e h2, h3⟩
  cases m with
  | true => exact Same.sqT e h2
  | false => exact h2
theorem Vr.scr_inv (e : Same F H) (h : Vr P w K m F H v (KD.scr xs)) : ∃ (a : Addr) (ns : List Int), v = .ref a ∧ xs = ns.map .int ∧ SqL K (if m = true then H else F) a (ns.map V.int) ∧ SqL K H a (ns.map V.int) := by
  obtain ⟨a, ns, h1, h2, h3⟩ := Br.scr_inv e h.br
  cases m with
  | true => exact ⟨a, ns, h1, h2, Same.sqL e h3, Same.sqL e h3⟩
  | false =>
    have h' : Br P w K F F v (KD.scr xs) := .inl h
    obtain ⟨a', ns', k1, k2, k3⟩ := Br.scr_inv (Same.refl F) h'
    exact ⟨a', ns', k1, k2, k3, Same.sqL e k3⟩
end
section
variable {T : Tb} {n : Nat} {X : Cx} {e f x y z tg : Expr} {ex fx : Ex} {pos p : Pos} {m : Bool}
theorem ints_dr {K : PySem.W.Frag} {P : Program} {w : World} {F : Hp} (ns : List Int) : DrAll P w K F (ns.map V.int) (ns.map PyData.int) := DrAll.of_pointwise ns V.int PyData.int fun i _ => .int i
theorem walk_seq (he : PE X e (XE T n X m ex)) : PI X tg e (XW T n X m .seq [ex]) := by
  refine PI.weak ((pi_list he).sized.or ((pi_tup he).sized.or (pi_str he).sized)) fun σ H K ⟨H0, F0, F, ρ, ds, xs, g, hd, hw, q⟩ => ?_
  obtain ⟨d, hd1, rfl⟩ := evs_one hd
  clear hd
  have hd := hd1
  clear hd1
  cases d with
  | list l =>
    cases hw
    exact .inl ⟨H0, F0, F, ρ, _, g, hd, fun v F1 H1 e1 r1 => by
      obtain ⟨a, ys, rfl, h1, h2, h3⟩ := r1.list_inv e1.fh
      exact ⟨a, rfl, ⟨ys, h2⟩, fun z => q _ F1 H1 e1 (by rw [← h3.1]; exact z a ys (.inl h2)) (walk_list h1 h3)⟩⟩
  | tuple l =>
    cases hw
    exact .inr (.inl ⟨H0, F0, F, ρ, _, g, hd, fun v F1 H1 e1 r1 => by
      obtain ⟨a, ys, rfl, h1, h2, h3⟩ := r1.tuple_inv e1.fh
      exact ⟨a, rfl, ⟨ys, h2⟩, fun z => q _ F1 H1 e1 (by rw [← h3.1]; exact z a ys (.inr h2)) (walk_tup h1 h3)⟩⟩)
  | str z =>
    obtain ⟨hz, hw⟩ := R.guard_ok hw
    cases hw
    exact .inr (.inr ⟨H0, F0, F, ρ, _, g, hd, fun v F1 H1 e1 r1 => by
      obtain ⟨rfl, hk⟩ := r1.br.str_inv
      refine ⟨z, rfl, fun _ => q _ F1 H1 e1 ?_ (walk_str hk)⟩
      have : (chars z).length = z.length := by unfold chars; simp [Str.length]
      rw [this]
      exact Nat.le_trans (of_decide_eq_true hz) lim_size⟩)
  | dict kvs =>
    have hw : (match isScr (.dict kvs) with
      | some xs => R.ok xs
      | none => .bot) = R.ok xs := hw
    split at hw
    · rename_i l hl
      cases hw
      have hs := isScr_inv hl
      rw [hs] at hd
      exact .inl ⟨H0, F0, F, ρ, _, g, hd, fun v F1 H1 e1 r1 => by
        obtain ⟨a, ns, rfl, rfl, h1, h2⟩ := r1.scr_inv e1.fh
        exact ⟨a, rfl, ⟨_, h2⟩, fun z => q _ F1 H1 e1 (by rw [List.length_map, ← List.length_map (f := V.int)]; exact z a _ (.inl h2)) (walk_list h1 (ints_dr ns))⟩⟩
    · cases hw
  | _ => cases hw
theorem walk_range1 (hX : XOk T n X) (hg : Gl X "range") (hn : nst e = true) (he : PA X [e] (XEs T n X m [ex])) : PI X tg (.Call (.Name "range" p) [e] [] pos) (XW T n X m .range1 [ex]) := by
  refine PI.weak (pi_range1 hg (hX.bl _ (by decide)) he (star_nst hn)) fun σ H K ⟨H0, F0, F, ρ, ds, xs, g, hd, hw, q⟩ => ⟨H0, F0, F, ρ, ds, g, hd, fun vs F1 H1 e1 hl r1 => ?_⟩
  have hbr : BrAll X F1 H1 vs ds := ⟨hl, fun i v d a b => (r1 i v d a b).br⟩
  obtain ⟨d, hd0, rfl⟩ := evs_one hd
  clear hd0
  obtain ⟨v, rfl, hv⟩ := hbr.one
  cases d <;> try (cases hw; done)
  rename_i j
  obtain ⟨hc, hw⟩ := R.guard_ok hw
  cases hw
  rw [Bool.and_eq_true, decide_eq_true_eq, decide_eq_true_eq] at hc
  unfold far at hc
  cases hv.int_inv
  refine ⟨j, rfl, by omega, by omega, q _ F1 H1 e1 ?_ ?_⟩
  · rw [List.length_map, List.length_range]
    exact Nat.le_trans (by show j.toNat ≤ 1000000; omega) lim_size
  · have h := walk_range (P := X.prog) (w := X.w) (K := X.K) (F := F1) (B := if m = true then H1 else F1) (lo := 0) (n := j.toNat)
    simp only [Int.zero_add] at h
    exact h
theorem walk_range2 (hX : XOk T n X) (hg : Gl X "range") (hn : nst e = true) (hn2 : nst f = true) (he : PA X [e, f] (XEs T n X m [ex, fx])) : PI X tg (.Call (.Name "range" p) [e, f] [] pos) (XW T n X m .range2 [ex, fx]) := by
  refine PI.weak (pi_range2 hg (hX.bl _ (by decide)) he (by rw [star_nst hn, star_nst hn2]; rfl) (star_nst hn2)) fun σ H K ⟨H0, F0, F, ρ, ds, xs, g, hd, hw, q⟩ => ⟨H0, F0, F, ρ, ds, g, hd, fun vs F1 H1 e1 hl r1 => ?_⟩
  have hbr : BrAll X F1 H1 vs ds := ⟨hl, fun i v d a b => (r1 i v d a b).br⟩
  have h2 : ∃ d1 d2, ds = [d1, d2] := by
    simp only [evs] at hd
    obtain ⟨d1, _, hd⟩ := R.bind_eq hd
    obtain ⟨r, hr, hd⟩ := R.bind_eq hd
    obtain ⟨d2, _, hr⟩ := R.bind_eq hr
    cases hr
    cases hd
    exact ⟨_, _, rfl⟩
  obtain ⟨d1, d2, rfl⟩ := h2
  obtain ⟨v, u, rfl, hv, hu⟩ := hbr.two
  cases d1 <;> try (cases hw; done)
  cases d2 <;> try (cases hw; done)
  rename_i i j
  obtain ⟨hc, hw⟩ := R.guard_ok hw
  cases hw
  simp only [Bool.and_eq_true, decide_eq_true_eq] at hc
  unfold far at hc
  cases hv.int_inv
  cases hu.int_inv
  refine ⟨i, j, rfl, ⟨by omega, by omega, by omega, by omega⟩, q _ F1 H1 e1 ?_ walk_range⟩
  rw [List.length_map, List.length_range]
  exact Nat.le_trans (by show (j - i).toNat ≤ 1000000; omega) lim_size
theorem isTup_inv (h : isTup tg = true) : ∃ es k p, tg = .Tuple es k p := by
  unfold isTup at h
  split at h
  · exact ⟨_, _, _, rfl⟩
  · cases h
theorem walk_enum (hX : XOk T n X) (hg : Gl X "enumerate") (ht : isTup tg = true) (hn : nst e = true) (he : PA X [e] (XEs T n X m [ex])) : PI X tg (.Call (.Name "enumerate" p) [e] [] pos) (XW T n X m .enum [ex]) := by
  obtain ⟨es, k, tp, rfl⟩ := isTup_inv ht
  have hm : X.mg "enumerate" = none := hX.bl _ (by decide)
  refine PI.weak ((pi_enum hg hm he (star_nst hn)).sized.or (pi_enumT hg hm he (star_nst hn)).sized) fun σ H K ⟨H0, F0, F, ρ, ds, xs, g, hd, hw, q⟩ => ?_
  obtain ⟨d, hd0, rfl⟩ := evs_one hd
  have inv : ∀ {vs : List V} {F1 H1 : Hp}, vs.length = [d].length → (∀ (i : Nat) (v : V) (d' : D), vs[i]? = some v → [d][i]? = some d' → Vr X.prog X.w X.K m F1 H1 v d') → ∃ v, vs = [v] ∧ Vr X.prog X.w X.K m F1 H1 v d := fun {vs F1 H1} hl r => by
    cases vs with
    | nil => simp at hl
    | cons v r' =>
      cases r' with
      | nil => exact ⟨v, rfl, r 0 v d rfl rfl⟩
      | cons u r'' => simp at hl
  cases d with
  | list l =>
    cases hw
    exact .inl ⟨H0, F0, F, ρ, _, g, hd, fun vs F1 H1 e1 hl r1 => by
      obtain ⟨v, rfl, r2⟩ := inv hl r1
      obtain ⟨a, ys, rfl, h1, h2, h3⟩ := r2.list_inv e1.fh
      exact ⟨a, ys, rfl, h2, fun z => q _ F1 H1 e1 (by rw [enumFrom_len, ← h3.1]; exact z a ys (.inl h2)) (walk_enumL h1 h3)⟩⟩
  | tuple l =>
    cases hw
    exact .inr ⟨H0, F0, F, ρ, _, g, hd, fun vs F1 H1 e1 hl r1 => by
      obtain ⟨v, rfl, r2⟩ := inv hl r1
      obtain ⟨a, ys, rfl, h1, h2, h3⟩ := r2.tuple_inv e1.fh
      exact ⟨a, ys, rfl, h2, fun z => q _ F1 H1 e1 (by rw [enumFrom_len, ← h3.1]; exact z a ys (.inr h2)) (walk_enumT h1 h3)⟩⟩
  | _ => cases hw
theorem walk_zip (hX : XOk T n X) (hg : Gl X "zip") (ht : isTup tg = true) (hn : nst e = true) (hn2 : nst f = true) (he : PA X [e, f] (XEs T n X m [ex, fx])) : PI X tg (.Call (.Name "zip" p) [e, f] [] pos) (XW T n X m .zip [ex, fx]) := by
  obtain ⟨es, k, tp, rfl⟩ := isTup_inv ht
  have hm : X.mg "zip" = none := hX.bl _ (by decide)
  have hpl : (backTo pos (starEach [f] X.env)).any (·.1) = false := star_plain (by simp [hn2])
  refine PI.weak (RZ.pi_zipA hg hm he (star_nst hn) hpl).sized fun σ H K ⟨H0, F0, F, ρ, ds, xs, g, hd, hw, q⟩ => ⟨H0, F0, F, ρ, ds, g, hd, fun vs F1 H1 e1 hl r1 => ?_⟩
  have h2 : ∃ d1 d2, ds = [d1, d2] := by
    simp only [evs] at hd
    obtain ⟨d1, _, hd⟩ := R.bind_eq hd
    obtain ⟨r, hr, hd⟩ := R.bind_eq hd
    obtain ⟨d2, _, hr⟩ := R.bind_eq hr
    cases hr
    cases hd
    exact ⟨_, _, rfl⟩
  obtain ⟨d1, d2, rfl⟩ := h2
  have inv : ∃ v u, vs = [v, u] ∧ Vr X.prog X.w X.K m F1 H1 v d1 ∧ Vr X.prog X.w X.K m F1 H1 u d2 := by
    cases vs with
    | nil => simp at hl
    | cons v r' =>
      cases r' with
      | nil => simp at hl
      | cons u r'' =>
        cases r'' with
        | nil => exact ⟨v, u, rfl, r1 0 v d1 rfl rfl, r1 1 u d2 rfl rfl⟩
        | cons _ _ => simp at hl
  obtain ⟨v, u, rfl, hv, hu⟩ := inv
  have mn : ∀ (l l' : List D), l.length ≤ sizeLine → (zipD l l').length ≤ sizeLine := fun l l' h => by
    rw [zipD_len]
    exact Nat.le_trans (Nat.min_le_left _ _) h
  cases d1 <;> try (cases hw; done)
  · cases d2 <;> try (cases hw; done)
    · cases hw
      obtain ⟨a, ys, rfl, h1, h2, h3⟩ := hv.list_inv e1.fh
      obtain ⟨b, zs, rfl, k1, k2, k3⟩ := hu.list_inv e1.fh
      exact ⟨a, b, ys, zs, rfl, .inl ⟨h2, k2, fun z => q _ F1 H1 e1 (mn _ _ (by rw [← h3.1]; exact z a ys (.inl h2))) (walk_zipL h1 h3 k1 k3)⟩⟩
  · cases d2 <;> try (cases hw; done)
    · cases hw
      obtain ⟨a, ys, rfl, h1, h2, h3⟩ := hv.tuple_inv e1.fh
      obtain ⟨b, zs, rfl, k1, k2, k3⟩ := hu.tuple_inv e1.fh
      exact ⟨a, b, ys, zs, rfl, .inr ⟨h2, k2, fun z => q _ F1 H1 e1 (mn _ _ (by rw [← h3.1]; exact z a ys (.inr h2))) (walk_zipT h1 h3 k1 k3)⟩⟩
end
/-! ### comprehensions -/
theorem compF_drop {step : D → R (Option D)} {xs : List D} {i : Nat} {x : D} {yr : List D} (hx : xs[i]? = some x) (h : compF step (xs.drop i) = .ok yr) :
    ∃ r yr', step x = .ok r ∧ compF step (xs.drop (i + 1)) = .ok yr' ∧ yr = (match r with
      | some y => y :: yr'
      | none => yr') := by
  have hi : i < xs.length := (List.getElem?_eq_some_iff.mp hx).1
  rw [List.drop_eq_getElem_cons hi] at h
  rw [List.getElem?_eq_getElem hi] at hx
  cases hx
  rw [compF] at h
  obtain ⟨r, hr, h⟩ := R.bind_eq h
  obtain ⟨ys, hy, h⟩ := R.bind_eq h
  cases h
  exact ⟨r, ys, hr, hy, rfl⟩
theorem wipe_get (σ : L2.St) (i : Nat) : ∀ is : List Nat, (L2.wipe σ is)[i]? = if i ∈ is ∧ i < σ.length then some none else σ[i]?
  | [] => by simp [L2.wipe]
  | j :: is => by
    rw [L2.wipe]
    by_cases q : j = i
    · subst q
      by_cases hl : j < σ.length
      · rw [List.getElem?_set_self (by rw [L2.wipe_length]; exact hl), if_pos ⟨List.mem_cons_self, hl⟩]
      · rw [List.getElem?_eq_none (by rw [List.length_set, L2.wipe_length]; omega), if_neg (fun z => hl z.2), List.getElem?_eq_none (by omega)]
    · rw [List.getElem?_set_ne q, wipe_get σ i is]
      have : i ∈ j :: is ↔ i ∈ is := by simp [Ne.symm q]
      simp [this]
theorem wipe_same {σ σ' : L2.St} {is : List Nat} (hl : σ'.length = σ.length) (h : ∀ i, i ∉ is → σ'[i]? = (L2.wipe σ is)[i]?) : L2.wipe σ' is = L2.wipe σ is := by
  apply List.ext_getElem?
  intro i
  rw [wipe_get, wipe_get]
  by_cases q : i ∈ is
  · by_cases hi : i < σ.length
    · rw [if_pos ⟨q, by omega⟩, if_pos ⟨q, hi⟩]
    · rw [if_neg (fun z => hi (by omega)), if_neg (fun z => hi z.2), List.getElem?_eq_none (by omega), List.getElem?_eq_none (by omega)]
  · rw [if_neg (fun z => q z.1), if_neg (fun z => q z.1), h i q, wipe_keep q]
abbrev XG (X : Cx) (t : Tg) : TG := tG X.prog X.w X.K t
theorem ownOf_names {N : List Str} : ∀ {is : List Nat} {own : List (Str × Nat)}, ownOf N is = some own → own.map (·.2) = is
  | [], own, h => by
    unfold ownOf at h
    simp at h
    subst h
    rfl
  | i :: is, own, h => by
    unfold ownOf at h
    rw [List.mapM_cons] at h
    cases hi : N[i]? with
    | none => simp [hi] at h
    | some x =>
      simp only [hi, Option.map_some, Option.bind_eq_bind, Option.bind_some] at h
      obtain ⟨r, hr, h⟩ := Option.bind_eq_some_iff.mp h
      cases h
      rw [List.map_cons, ownOf_names (own := r) hr]
section
variable {T : Tb} {n : Nat} {X : Cx} {tg iter elt : Expr} {ifs : List Expr} {scope : Scope} {own : List (Str × Nat)} {pos : Pos} {ex cond : Ex} {t : Tg} {k : IK} {its : List Ex}
theorem lc_imp (hX : XOk T n X) (ho : own.map (·.2) = t.names) : ∀ (σ : L2.St) (H : Hp) (Q : VK), XN T n X (.comp ex t k its cond) σ H Q → tLc (XW T n X true k its) (XG X t) (XT T n X cond) (XE T n X false ex) (own.map (·.2)) σ H Q := by
  rintro σ H Q ⟨H0, F0, F, ρ, d, g, h, q⟩
  simp only [ev] at h
  obtain ⟨ds, hds, h⟩ := R.bind_eq h
  obtain ⟨xs, hxs, h⟩ := R.bind_eq h
  obtain ⟨ys, hys, h⟩ := R.bind_eq h
  cases h
  rw [ho]
  refine ⟨H0, F0, F, ρ, ds, xs, g, hds, hxs, fun J F1 H1 e1 hz hw D hD => ?_⟩
  refine ⟨fun i m H' => m = xs.length - i ∧ i ≤ xs.length ∧ ∃ F' acc ysd yr, Ext F1 H1 F' H' ∧ F' D = none ∧ H' D = some (.lst acc) ∧ acc.length ≤ i ∧ DrAllX X F' acc ysd ∧ compF _ (xs.drop i) = .ok yr ∧ ys = ysd ++ yr,
    ⟨xs.length, rfl, Nat.zero_le _, F1, [], [], ys, Ext.open_ e1.fh hD, same_free e1.fh hD, upd_same, Nat.le_refl _, .nil, hys, rfl⟩, ?_⟩
  rintro i m H2 ⟨rfl, hi, F2, acc, ysd, yr, e2, hFD, hHD, hacc, hdr, hc, hyy⟩
  have hB : Same (if true = true then H1 else F1) H2 := e2.h
  obtain ⟨w1, w2⟩ := hw H2 F2 e2.f e2.fh hB
  by_cases hlt : i < xs.length
  · right
    obtain ⟨hgo, hyl⟩ := w2 i xs[i] (List.getElem?_eq_getElem hlt)
    obtain ⟨r, yr', hst, hrest, hyr⟩ := compF_drop (List.getElem?_eq_getElem hlt) hc
    obtain ⟨ρ', hρ, hst⟩ := R.bind_eq hst
    obtain ⟨b, hb, hst⟩ := asB_bind hst
    refine ⟨hgo, _, fun H' hN => ⟨xs.length - (i + 1), by omega, hN⟩, fun x H3 hx => ?_⟩
    obtain ⟨F3, e3, hx⟩ := hyl x H3 hx
    have g3 := ((g.ext e1).ext (e2.trans e3)).blk t.names
    refine ⟨H0, F0, F3, _, _, ρ', g3, hx, hρ, fun σ2 g4 hout hlen => ⟨wipe_same (by rw [hlen, L2.wipe_length]) hout, H0, F0, F3, ρ', b, g4, hb, fun F4 H4 e4 => ?_⟩⟩
    have fresh : ∀ {F' H' F'' H'' : Hp}, Ext F' H' F'' H'' → H' D = some (.lst acc) → F' D = none → H'' D = some (.lst acc) ∧ F'' D = none := fun e h1 h2 => ⟨e.h _ _ h1, by rw [e.new D (by rw [h1]; simp), h2]⟩
    obtain ⟨a1, a2⟩ := fresh (e3.trans e4) hHD hFD
    cases b with
    | false =>
      cases hst
      refine iteF ⟨rfl, hlt, F4, acc, ysd, yr', (e2.trans e3).trans e4, a2, a1, Nat.le_succ_of_le hacc, hdr.mono (e3.f.trans e4.f), hrest, ?_⟩
      rw [hyy, hyr]
    | true =>
      obtain ⟨y, hy, hst⟩ := R.bind_eq hst
      cases hst
      refine iteT ⟨H0, F0, F4, ρ', y, g4.ext e4, hy, fun v F5 H5 e5 hv => ?_⟩
      obtain ⟨b1, b2⟩ := fresh e5 a1 a2
      refine ⟨acc, b1, Nat.lt_of_le_of_lt hacc (Nat.lt_of_lt_of_le hlt hz), rfl, hlt, F5, acc ++ [v], ysd ++ [y], yr', ?_, b2, upd_same, by rw [List.length_append]; exact Nat.succ_le_succ hacc, (hdr.mono ((e3.f.trans e4.f).trans e5.f)).append (.cons hv .nil), hrest, ?_⟩
      · have E := ((e2.trans e3).trans e4).trans e5
        refine ⟨E.f, fun c u hc => ?_, fun c u hc => ?_, E.new⟩
        · rw [upd_ne (ne_of_none hc hD)]
          exact E.h c u hc
        · rw [upd_ne (ne_of_none hc b2)]
          exact E.fh c u hc
      · rw [hyy, hyr, List.append_assoc]
        rfl
  · left
    have hie : i = xs.length := by omega
    subst hie
    rw [List.drop_length] at hc
    cases hc
    rw [List.append_nil] at hyy
    subst hyy
    exact ⟨w1, q D (.lst acc) F2 H2 (e1.trans e2) (Same.free e1.h hD) hFD hHD (.lst hdr)⟩
/-- what a comprehension in the text must be -/
structure CompOk (T : Tb) (n : Nat) (X : Cx) (elt tg iter : Expr) (ifs : List Expr) (scope : Scope) (own : List (Str × Nat)) (ex : Ex) (t : Tg) (k : IK) (its : List Ex) (cond : Ex) : Prop where
  ok : BlkOk X.N X.env.scope scope own
  ho : own.map (·.2) = t.names
  hi : PI X tg iter (XW T n X true k its)
  hg : ∀ (s : Shared) (H : Hp) (C : Addr) (cl : List (Str × Addr)) (fp : List Addr), PG (X.blk s H scope (compEnvC scope cl C X.env) fp) tg (XG X t)
  ht : ∀ (s : Shared) (H : Hp) (C : Addr) (cl : List (Str × Addr)) (fp : List Addr), PTs (X.blk s H scope (compEnvC scope cl C X.env) fp) ifs (XT T n X cond)
  he : ∀ (s : Shared) (H : Hp) (C : Addr) (cl : List (Str × Addr)) (fp : List Addr), PE (X.blk s H scope (compEnvC scope cl C X.env) fp) elt (XE T n X false ex)
  hs : ∀ x, foldedSetIterable iter X.env x = pure x
theorem snd_comp (hX : XOk T n X) (c : CompOk T n X elt tg iter ifs scope own ex t k its cond) : PE X (.ListComp elt [⟨tg, iter, ifs, 0⟩] scope pos) (XN T n X (.comp ex t k its cond)) :=
  (pe_lc hX.calm hX.nd c.hi c.ok c.hg c.ht c.he c.hs).weak (lc_imp hX c.ho)
/-- name = [..], the list handed straight to the name -/
theorem set_comp (hX : XOk T n X) (c : CompOk T n X elt tg iter ifs scope own ex t k its cond) {i : Nat} {y : Str} {py spos : Pos} (hy : X.N[i]? = some y) (hyl : X.env.scope.names.lookup y = some .local)
    (hsw : swapsWith (.ListComp elt [⟨tg, iter, ifs, 0⟩] scope pos) (some (.Name y py)) spos.line X.env = pure true) : PS X (.Assign [.Name y py] (.ListComp elt [⟨tg, iter, ifs, 0⟩] scope pos) spos) (tAsg (XN T n X (.comp ex t k its cond)) (gName i)) :=
  PS.weak (ps_setLc hX.calm hX.nd hy hyl hsw c.hi c.ok c.hg c.ht c.he c.hs) fun D σ H q => lc_imp hX c.ho σ H _ q
end
end KD
/-! KdMain: what the check lets through is sound. -/
namespace KD
open PySem PySem.Spec
open PyProof.Rows L2
/-! ### targets -/
section
variable {X : Cx}
theorem isT_asg {e : Expr} {es : List Expr} {env : PySem.Env} (h : ∀ x p, e ≠ .Starred x p) : assignEach (e :: es) env = (false, assign e env) :: assignEach es env := by
  cases e <;> first | rfl | exact absurd rfl (h _ _)
theorem tgB_star {N : List Str} {sc : Scope} {fnp : Str → Bool} {e : Expr} {t : Tg} (h : tgB N sc fnp e t = true) : ∀ x p, e ≠ .Starred x p := by
  rintro x p rfl
  unfold tgB at h
  cases t <;> cases h
theorem tgsB_each {N : List Str} {sc : Scope} {fnp : Str → Bool} {env : PySem.Env} : ∀ {es : List Expr} {ts : List Tg}, tgsB N sc fnp es ts = true → (assignEach es env).length = ts.length ∧ (assignEach es env).findIdx? (·.1) = none
  | [], [], _ => ⟨rfl, rfl⟩
  | e :: es, t :: ts, h => by
    rw [tgsB, Bool.and_eq_true] at h
    rw [isT_asg (tgB_star h.1)]
    obtain ⟨h1, h2⟩ := tgsB_each (env := env) h.2
    refine ⟨by simp [h1], ?_⟩
    rw [List.findIdx?_cons]
    simp [h2]
  | [], _ :: _, h => by simp [tgsB] at h
  | _ :: _, [], h => by simp [tgsB] at h
theorem asgTs_len {ρ' : Env} : ∀ {ts : List Tg} {ds : List D} {ρ : Env}, asgTs ρ ts ds = .ok ρ' → ds.length = ts.length
  | [], [], _, _ => rfl
  | t :: ts, d :: ds, ρ, h => by
    rw [asgTs] at h
    obtain ⟨_, _, h⟩ := R.bind_eq h
    simp [asgTs_len (ρ' := ρ') h]
  | [], _ :: _, _, h => by simp [asgTs] at h
  | _ :: _, [], _, h => by simp [asgTs] at h
theorem _root_.L2.PG.or2 {e : Expr} {t t' : TG} (h : PG X e t) (h' : PG X e t') : PG X e (fun v σ H Q => t v σ H Q ∨ t' v σ H Q) :=
  ⟨fun pins s σ H v u Q I r q => q.elim (h.run pins s σ H v u Q I r) (h'.run pins s σ H v u Q I r)⟩
abbrev XGs (X : Cx) (ts : List Tg) : TGs := tGs X.prog X.w X.K ts
mutual
theorem snd_tg (hc : X.calm = true) (nd : X.N.Nodup) : ∀ (t : Tg) {e : Expr}, tgB X.N X.env.scope X.fn e t = true → PG X e (XG X t)
  | .name i, e, h => by
    unfold tgB at h
    split at h
    · rename_i x p j q
      cases q
      simp only [Bool.and_eq_true, Bool.or_eq_true, decide_eq_true_eq] at h
      obtain ⟨hi, h⟩ := h
      have hx : Loc X.env.scope x := by
        rcases h with h | h
        · exact .inl h
        · exact .inr h.1
      have hf : X.fn x = true ∨ X.env.scope.names.lookup x = some .local := by
        rcases h with h | h
        · exact .inr h
        · exact .inl h.2
      refine PG.weak (pg_name nd hi hx hf) fun v σ H Q ⟨H0, F0, F, ρ, d, ρ', g, hv, ha, q⟩ => ?_
      rw [asgT] at ha
      cases ha
      exact q _ (g.set hv) (fun k hk => List.getElem?_set_ne fun z => hk (by rw [z]; simp [Tg.names])) (List.length_set)
    · rename_i q
      cases q
    · cases h
  | .tup ts, e, h => by
    unfold tgB at h
    split at h
    · rename_i q
      cases q
    · rename_i es k p ts' q
      cases q
      obtain ⟨h1, h2⟩ := tgsB_each (env := X.env) h
      have hs := snd_tgs hc nd ts h
      refine PG.weak (PG.or2 (pg_tup hc hs h1 h2) (pg_lst hc hs h1 h2)) fun v σ H Q ⟨H0, F0, F, ρ, d, ρ', g, hv, ha, q⟩ => ?_
      cases d with
      | tuple xs =>
        have ha : asgTs ρ ts xs = .ok ρ' := by simpa only [asgT] using ha
        cases hv with
        | tup hq hl hi => exact .inl ⟨_, _, rfl, Same.sqT g.fh hq, by rw [hl, asgTs_len ha], H0, F0, F, ρ, xs, ρ', g, ⟨hl, hi⟩, ha, q⟩
      | list xs =>
        have ha : asgTs ρ ts xs = .ok ρ' := by simpa only [asgT] using ha
        cases hv with
        | lst hq hl hi => exact .inr ⟨_, _, rfl, .inl (.inl (g.fh _ _ hq)), by rw [hl, asgTs_len ha], H0, F0, F, ρ, xs, ρ', g, ⟨hl, hi⟩, ha, q⟩
      | _ => simp [asgT] at ha
    · cases h
theorem snd_tgs (hc : X.calm = true) (nd : X.N.Nodup) : ∀ (ts : List Tg) {es : List Expr}, tgsB X.N X.env.scope X.fn es ts = true → PGs X es (XGs X ts)
  | [], [], h => PGs.weak pgs_nil fun vs σ H Q ⟨H0, F0, F, ρ, ds, ρ', g, hv, ha, q⟩ => by
    cases ds with
    | nil =>
      rw [asgTs] at ha
      cases ha
      exact ⟨hv.nil_inv, q σ g (fun _ _ => rfl) rfl⟩
    | cons d ds => simp [asgTs] at ha
  | t :: ts, e :: es, h => by
    rw [tgsB, Bool.and_eq_true] at h
    refine PGs.weak (pgs_cons (snd_tg hc nd t h.1) (snd_tgs hc nd ts h.2) (by rw [isT_asg (tgB_star h.1)]; rfl)) fun vs σ H Q ⟨H0, F0, F, ρ, ds, ρ', g, hv, ha, q⟩ => ?_
    cases ds with
    | nil => simp [asgTs] at ha
    | cons d ds =>
      rw [asgTs] at ha
      obtain ⟨ρ1, h1, ha⟩ := R.bind_eq ha
      obtain ⟨v, r, rfl, hv1, hv2⟩ := hv.cons_inv
      refine ⟨v, r, rfl, H0, F0, F, ρ, d, ρ1, g, hv1, h1, fun σ1 g1 o1 l1 => ⟨H0, F0, F, ρ1, ds, ρ', g1, hv2, ha, fun σ2 g2 o2 l2 => q σ2 g2 (fun i hi => ?_) (l2.trans l1)⟩⟩
      rw [Tg.namesAll, List.mem_append, not_or] at hi
      rw [o2 i hi.2, o1 i hi.1]
  | [], _ :: _, h => by simp [tgsB] at h
  | _ :: _, [], h => by simp [tgsB] at h
end
end
/-! ### expressions -/
structure Snd (T : Tb) (n : Nat) (X : Cx) (e : Expr) (ex : Ex) : Prop where
  v : ∀ m, PE X e (XE T n X m ex)
  t : tst e = true → PT X e (XT T n X ex)
  nw : fresh ex = true → PE X e (XN T n X ex)
  w : ∀ op vs p, e = .BoolOp op vs p → PW X e (XT T n X ex)
section
variable {T : Tb} {n : Nat} {X : Cx} {e : Expr} {ex : Ex}
theorem no_bool (hp : plainT e = true) {t : TT} : ∀ op vs p, e = .BoolOp op vs p → PW X e t := by
  rintro op vs p rfl
  cases hp
theorem Snd.of (hp : plainT e = true) (hf : fresh ex = false) (h : PE X e (XD T n X ex)) : Snd T n X e ex :=
  ⟨both h, fun _ => pt_plain hp (both h true), fun z => (by rw [hf] at z; cases z), no_bool hp⟩
theorem Snd.ofT (hp : ∀ op vs p, e ≠ .BoolOp op vs p) (hf : fresh ex = false) (h : PE X e (XD T n X ex)) (ht : tst e = true → PT X e (XT T n X ex)) : Snd T n X e ex :=
  ⟨both h, ht, fun z => (by rw [hf] at z; cases z), fun op vs p z => absurd z (hp op vs p)⟩
theorem Snd.ofB (hf : fresh ex = false) (h : PE X e (XD T n X ex)) (hw : PW X e (XT T n X ex)) : Snd T n X e ex :=
  ⟨both h, fun _ => hw.pt, fun z => (by rw [hf] at z; cases z), fun _ _ _ _ => hw⟩
theorem Snd.ofN (hp : plainT e = true) (hb : ∀ ρ, ev (evFn T.P T.wf n) ρ true ex = ev (evFn T.P T.wf n) ρ false ex) (h : PE X e (XN T n X ex)) : Snd T n X e ex :=
  ⟨both (new_D h hb), fun _ => pt_plain hp (both (new_D h hb) true), fun _ => h, no_bool hp⟩
theorem gl_of {sc : Scope} {x : Str} (h : glB sc x = true) (he : X.env.scope = sc) : Gl X x := by
  subst he
  unfold glB at h
  show X.env.scope.names.lookup x = some .globalImplicit
  exact of_decide_eq_true h
theorem snd_blt (hX : XOk T n X) {b : Blt} {y : Str} {ty : Bool} {es : List Expr} {exs : List Ex} {p pos : Pos} (h : bltName b = some (y, ty)) (hg : Gl X y) (hn : nst e = true) (hr : es.all nst = true) (ha : PA X (e :: es) (XEs T n X true exs)) :
    PE X (.Call (.Name y p) (e :: es) [] pos) (XD T n X (.blt b exs)) := by
  cases b <;> first
    | (cases h; done)
    | (cases h; first
        | exact snd_bltB hX (by decide) c_len (by decide +kernel) hg (by decide) (by decide) hn hr ha
        | exact snd_bltT hX (by decide) c_tuple boot_tuple hg (by decide) (by decide) hn hr ha
        | exact snd_bltT hX (by decide) c_int boot_int hg (by decide) (by decide) hn hr ha
        | exact snd_bltT hX (by decide) c_str boot_str hg (by decide) (by decide) hn hr ha
        | exact snd_bltT hX (by decide) c_list boot_list hg (by decide) (by decide) hn hr ha
        | exact snd_bltB hX (by decide) (c_sum hX.calm) (by decide +kernel) hg (by decide) (by decide) hn hr ha
        | exact snd_bltB hX (by decide) (c_all hX.calm) (by decide +kernel) hg (by decide) (by decide) hn hr ha
        | exact snd_bltB hX (by decide) (c_any hX.calm) (by decide +kernel) hg (by decide) (by decide) hn hr ha
        | exact snd_bltB hX (by decide) (c_maxL hX.calm) boot_max hg (by decide) (by decide) hn hr ha
        | exact snd_bltB hX (by decide) (c_minL hX.calm) boot_min hg (by decide) (by decide) hn hr ha
        | exact snd_bltB hX (by decide) (c_max2 hX.calm) boot_max hg (by decide) (by decide) hn hr ha
        | exact snd_bltB hX (by decide) (c_min2 hX.calm) boot_min hg (by decide) (by decide) hn hr ha)
theorem snd_str1 {m : Mth} {x : Expr} {a b : Ex} {apos pos : Pos} (hm : str1 m = true) (hs : nosup x = true) (hn : nst e = true) (hl : (apos.endLine == pos.line) = true) (ho : PE X x (XE T n X true a)) (he : PE X e (XE T n X false b)) :
    PE X (.Call (.Attribute x (mthName m) apos) [e] [] pos) (XD T n X (.mth m a [b])) := by
  cases m <;> first
    | (cases hm; done)
    | exact snd_mth1 (by decide) F.slot_str_join F.type_str_join m_join hs hn hl ho he
    | exact snd_mth1 (by decide) F.slot_str_split F.type_str_split m_split hs hn hl ho he
    | exact snd_mth1 (by decide) F.slot_str_startswith F.type_str_startswith m_startswith hs hn hl ho he
    | exact snd_mth1 (by decide) F.slot_str_ljust F.type_str_ljust m_ljust hs hn hl ho he
    | exact snd_mth1 (by decide) F.slot_str_rstrip F.type_str_rstrip m_rstrip hs hn hl ho he
theorem set_nst {e : Expr} {env : PySem.Env} (h : nst e = true) : ∀ x, foldedSetIterable e env x = pure x := by
  intro x
  cases e <;> first | rfl | cases h
mutual
theorem snd_E : ∀ (ex : Ex) {X : Cx} {e : Expr}, XOk T n X → chkE T X.N X.env.scope e ex = true → Snd T n X e ex := fun ex X e hX h => by
  unfold chkE at h
  split at h
  · exact Snd.of rfl rfl (snd_cst h)
  · simp only [Bool.and_eq_true, decide_eq_true_eq] at h
    obtain ⟨⟨⟨rfl, h2⟩, h3⟩, h4⟩ := h
    exact Snd.of rfl rfl (snd_glob hX (gl_of h2 rfl) h3 h4)
  · simp only [Bool.and_eq_true, decide_eq_true_eq] at h
    obtain ⟨⟨h1, h2⟩, h3⟩ := h
    exact ⟨fun m => snd_var h1 h2 h3 m, fun _ => pt_plain rfl (snd_var h1 h2 h3 true), fun z => (by cases z), no_bool (e := .Name _ _) rfl⟩
  · rename_i l k pos es
    exact Snd.of rfl rfl (snd_tup ((snd_Es es hX h).2 false))
  · rename_i l pos es
    exact Snd.ofN rfl (fun ρ => by simp only [ev]) (snd_lst ((snd_Es es hX h).2 false))
  · rename_i x o y pos op a b
    simp only [Bool.and_eq_true, decide_eq_true_eq] at h
    obtain ⟨⟨rfl, h2⟩, h3⟩ := h
    exact Snd.of rfl rfl (snd_bin ((snd_E a hX h2).v true) ((snd_E b hX h3).v true))
  · rename_i x pos a
    exact Snd.of rfl rfl (snd_neg ((snd_E a hX h).v true))
  · rename_i x o y pos op a b
    simp only [Bool.and_eq_true, decide_eq_true_eq] at h
    obtain ⟨⟨⟨rfl, h1⟩, h2⟩, h3⟩ := h
    exact Snd.ofT (by intros; intro z; cases z) rfl (snd_cmp hX h1 ((snd_E a hX h2).v true) ((snd_E b hX h3).v true)) fun _ => snd_cmpT hX h1 ((snd_E a hX h2).v true) ((snd_E b hX h3).v true)
  · rename_i x o o' y z pos op op' a b c
    simp only [Bool.and_eq_true, decide_eq_true_eq] at h
    obtain ⟨⟨⟨⟨⟨rfl, rfl⟩, h1⟩, h2⟩, h3⟩, h4⟩ := h
    exact Snd.ofT (by intros; intro z; cases z) rfl (snd_chain hX h1 ((snd_E a hX h2).v true) ((snd_E b hX h3).v true) ((snd_E c hX h4).v true)) fun _ => snd_chainT hX h1 ((snd_E a hX h2).v true) ((snd_E b hX h3).v true) ((snd_E c hX h4).v true)
  · rename_i v w pos a b
    simp only [Bool.and_eq_true] at h
    obtain ⟨⟨⟨t1, t2⟩, h2⟩, h3⟩ := h
    exact Snd.ofB rfl (snd_and ((snd_E a hX h2).v true) (pe_one ((snd_E b hX h3).v true))) (snd_andT ((snd_E a hX h2).t t1) (pw_and1 ((snd_E b hX h3).t t2)))
  · rename_i v w u rest pos a b
    simp only [Bool.and_eq_true] at h
    obtain ⟨⟨t1, h2⟩, h3⟩ := h
    exact Snd.ofB rfl (snd_and ((snd_E a hX h2).v true) ((snd_E b hX h3).v true)) (snd_andT ((snd_E a hX h2).t t1) ((snd_E b hX h3).w _ _ _ rfl))
  · rename_i v w pos a b
    simp only [Bool.and_eq_true] at h
    obtain ⟨⟨⟨t1, t2⟩, h2⟩, h3⟩ := h
    exact Snd.ofB rfl (snd_or ((snd_E a hX h2).v true) (pe_one ((snd_E b hX h3).v true))) (snd_orT ((snd_E a hX h2).t t1) (pw_or1 ((snd_E b hX h3).t t2)))
  · rename_i v w u rest pos a b
    simp only [Bool.and_eq_true] at h
    obtain ⟨⟨t1, h2⟩, h3⟩ := h
    exact Snd.ofB rfl (snd_or ((snd_E a hX h2).v true) ((snd_E b hX h3).v true)) (snd_orT ((snd_E a hX h2).t t1) ((snd_E b hX h3).w _ _ _ rfl))
  · rename_i x pos a
    simp only [Bool.and_eq_true] at h
    exact Snd.ofT (by intros; intro z; cases z) rfl (snd_not ((snd_E a hX h.2).v true)) fun _ => snd_notT ((snd_E a hX h.2).t h.1)
  · rename_i c x y pos c' a b
    simp only [Bool.and_eq_true] at h
    obtain ⟨⟨⟨t1, h2⟩, h3⟩, h4⟩ := h
    exact Snd.ofT (by intros; intro z; cases z) rfl (snd_ife ((snd_E c' hX h2).t t1) ((snd_E a hX h3).v false) ((snd_E b hX h4).v false)) fun z => by cases z
  · rename_i x lo hi pos pos' a l u
    simp only [Bool.and_eq_true] at h
    obtain ⟨⟨h1, h2⟩, h3⟩ := h
    have hl : PO X lo (XO T n X l) := by
      cases lo with
      | none => exact snd_absent h2
      | some e =>
        simp only [Bool.and_eq_true, Bool.not_eq_true'] at h2
        exact snd_part h2.1 ((snd_E l hX h2.2).v true)
    have hu : PO X hi (XO T n X u) := by
      cases hi with
      | none => exact snd_absent h3
      | some e =>
        simp only [Bool.and_eq_true, Bool.not_eq_true'] at h3
        exact snd_part h3.1 ((snd_E u hX h3.2).v true)
    exact Snd.of rfl rfl (snd_slc ((snd_E a hX h1).v true) hl hu)
  · rename_i x s pos a i
    simp only [Bool.and_eq_true] at h
    obtain ⟨⟨h1, h2⟩, h3⟩ := h
    exact Snd.of rfl rfl (snd_ix hX h1 ((snd_E a hX h2).v true) ((snd_E i hX h3).v true))
  · rename_i x p args pos f es
    simp only [Bool.and_eq_true, decide_eq_true_eq, Bool.not_eq_true'] at h
    obtain ⟨⟨⟨⟨h1, h2⟩, h3⟩, h4⟩, h5⟩ := h
    obtain ⟨k1, k2⟩ := snd_Es es hX h5
    cases args with
    | nil => cases h4
    | cons e args =>
      rw [List.all_cons, Bool.and_eq_true] at k1
      exact Snd.of rfl rfl (snd_call hX h1 (gl_of h2 rfl) h3 k1.1 k1.2 (k2 false))
  · rename_i x p e y p2 pos b a
    simp only [Bool.and_eq_true, decide_eq_true_eq] at h
    obtain ⟨⟨⟨⟨⟨rfl, h1⟩, h2⟩, h3⟩, h4⟩, h5⟩ := h
    exact Snd.of rfl rfl (snd_isa hX h1 (gl_of h2 rfl) (gl_of h3 rfl) h4 ((snd_E a hX h5).v true))
  · rename_i x p args pos b es _
    split at h
    · rename_i y ty hb
      simp only [Bool.and_eq_true, decide_eq_true_eq, Bool.not_eq_true'] at h
      obtain ⟨⟨⟨rfl, h2⟩, h4⟩, h5⟩ := h
      obtain ⟨k1, k2⟩ := snd_Es es hX h5
      cases args with
      | nil => cases h4
      | cons e args =>
        rw [List.all_cons, Bool.and_eq_true] at k1
        have hp := snd_blt (p := p) (pos := pos) hX hb (gl_of h2 rfl) k1.1 k1.2 (k2 true)
        refine Snd.of rfl ?_ hp
        cases b <;> first | rfl | cases hb
    · cases h
  · rename_i x name apos cpos m a
    simp only [Bool.and_eq_true, decide_eq_true_eq] at h
    obtain ⟨⟨⟨⟨rfl, rfl⟩, h2⟩, h3⟩, h4⟩ := h
    exact Snd.of rfl rfl (snd_mth0 (by decide) F.slot_str_upper F.type_str_upper m_upper h3 h2 ((snd_E a hX h4).v true))
  · rename_i x name apos e cpos m a b
    simp only [Bool.and_eq_true, decide_eq_true_eq] at h
    obtain ⟨⟨⟨⟨⟨⟨rfl, h1⟩, h2⟩, h3⟩, h4⟩, h5⟩, h6⟩ := h
    exact Snd.of rfl rfl (snd_str1 h1 h3 h4 h2 ((snd_E a hX h5).v true) ((snd_E b hX h6).v false))
  · rename_i elt tg iter ifs asy scope pos e t k its cond
    split at h
    · rename_i own ho
      simp only [Bool.and_eq_true, decide_eq_true_eq] at h
      obtain ⟨⟨⟨⟨⟨rfl, h1⟩, h2⟩, h3⟩, h4⟩, h5⟩ := h
      obtain ⟨i1, i2⟩ := snd_I k its hX h3 (m := true)
      have hts : ∀ (s : Shared) (H : Hp) (C : Addr) (cl : List (Str × Addr)) (fp : List Addr), PTs (X.blk s H scope (compEnvC scope cl C X.env) fp) ifs (XT T n X cond) := by
        intro s' H' C cl fp
        split at h5
        · refine ⟨fun pins s σ H Q I q => pts_nil.run pins s σ H Q I ?_⟩
          obtain ⟨H0, F0, F, ρ, b, g, hb, q⟩ := q
          unfold isYes at h5
          split at h5
          · simp only [ev] at hb
            cases hb
            exact q F H (Ext.refl g.fh)
          · cases h5
        · simp only [Bool.and_eq_true] at h5
          exact pts_one ((snd_E cond (X := X.blk s' H' scope (compEnvC scope cl C X.env) fp) hX.blk h5.2).t h5.1)
        · cases h5
      refine Snd.ofN rfl (fun ρ => by simp only [ev]) (snd_comp hX ⟨blkOk_by h1, ownOf_names ho, i2, fun s H C cl fp => ?_, fun s H C cl fp => ?_, fun s H C cl fp => ?_, i1⟩)
      · exact snd_tg (X := X.blk s H scope (compEnvC scope cl C X.env) fp) hX.calm hX.nd t h2
      · exact hts s H C cl fp
      · exact (snd_E e (X := X.blk s H scope (compEnvC scope cl C X.env) fp) hX.blk h4).v false
    · cases h
  · cases h
theorem snd_I : ∀ (k : IK) (its : List Ex) {X : Cx} {tg e : Expr} {m : Bool}, XOk T n X → chkI T X.N X.env.scope tg e k its = true → (∀ x, foldedSetIterable e X.env x = pure x) ∧ PI X tg e (XW T n X m k its) := fun k its X tg e m hX h => by
  unfold chkI at h
  split at h
  · rename_i a
    simp only [Bool.and_eq_true] at h
    exact ⟨set_nst h.1, walk_seq ((snd_E a hX h.2).v m)⟩
  · rename_i x p e pos a
    simp only [Bool.and_eq_true, decide_eq_true_eq] at h
    obtain ⟨⟨⟨rfl, h1⟩, h2⟩, h3⟩ := h
    exact ⟨fun _ => rfl, walk_range1 hX (gl_of h1 rfl) h2 (snd_cons h2 ((snd_E a hX h3).v m) snd_nil)⟩
  · rename_i x p e f pos a b
    simp only [Bool.and_eq_true, decide_eq_true_eq] at h
    obtain ⟨⟨⟨⟨⟨rfl, h1⟩, h2⟩, h3⟩, h4⟩, h5⟩ := h
    exact ⟨fun _ => rfl, walk_range2 hX (gl_of h1 rfl) h2 h3 (snd_cons h2 ((snd_E a hX h4).v m) (snd_cons h3 ((snd_E b hX h5).v m) snd_nil))⟩
  · rename_i x p e pos a
    simp only [Bool.and_eq_true, decide_eq_true_eq] at h
    obtain ⟨⟨⟨⟨rfl, h1⟩, h2⟩, h3⟩, h4⟩ := h
    exact ⟨fun _ => rfl, walk_enum hX (gl_of h1 rfl) h2 h3 (snd_cons h3 ((snd_E a hX h4).v m) snd_nil)⟩
  · rename_i x p e f pos a b
    simp only [Bool.and_eq_true, decide_eq_true_eq] at h
    obtain ⟨⟨⟨⟨⟨⟨rfl, h1⟩, h2⟩, h3⟩, h4⟩, h5⟩, h6⟩ := h
    exact ⟨fun _ => rfl, walk_zip hX (gl_of h1 rfl) h2 h3 h4 (snd_cons h3 ((snd_E a hX h5).v m) (snd_cons h4 ((snd_E b hX h6).v m) snd_nil))⟩
  · cases h
theorem snd_Es : ∀ (es : List Ex) {X : Cx} {l : List Expr}, XOk T n X → chkEs T X.N X.env.scope l es = true → l.all nst = true ∧ ∀ m, PA X l (XEs T n X m es)
  | [], X, l, hX, h => by
    cases l with
    | nil => exact ⟨rfl, fun m => snd_nil⟩
    | cons _ _ => simp [chkEs] at h
  | ex :: es, X, l, hX, h => by
    cases l with
    | nil => simp [chkEs] at h
    | cons e l =>
      rw [chkEs, Bool.and_eq_true, Bool.and_eq_true] at h
      obtain ⟨h1, h2⟩ := snd_Es es hX h.2
      exact ⟨by rw [List.all_cons, h.1.1, h1]; rfl, fun m => snd_cons h.1.1 ((snd_E ex hX h.1.2).v m) (h2 m)⟩
end
end
end KD
/-! KdStm: statements. -/
namespace KD
open PySem PySem.Spec
open PyProof.Rows L2
/-! ### the check -/
def noLC : Expr → Bool
  | .ListComp _ _ _ _ => false
  | .SetComp _ _ _ _ => false
  | .DictComp _ _ _ _ _ => false
  | _ => true
def noTup : Expr → Bool
  | .Tuple _ _ _ => false
  | _ => true
/-- target = value, the value handed to the store -/
def plainA (tg e : Expr) : Bool := (noLC e && (noTup tg || noTup e)) || (!noLC e && isTup tg)
/-- name = [..] on one line -/
def lcA (sc : Scope) (line : Nat) : Expr → Expr → Bool
  | .Name y py, .ListComp _ _ scope pos => decide (sc.names.lookup y = some .local) && (py.line == pos.line) && !(scope.names.any fun (n, k) => n == y && (k == .local || k == .cell))
  | _, _ => false
/-- name = [..], the name a cell -/
def lcC (sc : Scope) : Expr → Expr → Bool
  | .Name y _, .ListComp _ _ _ _ => decide (sc.names.lookup y = some .cell)
  | _, _ => false
def parB : Expr → Expr → Bool
  | .Tuple [.Name x px, .Name y py] _ _, .Tuple [a, b] _ _ => (py.line == px.line) && !decide (x = y) && nst a && nst b && !(foldedForSure 8 a && foldedForSure 8 b) && !(constantsAlone 8 a && constantsAlone 8 b)
  | _, _ => false
def isGhost : Stm → Bool
  | .frz _ => true
  | .wip _ => true
  | _ => false
section
variable (T : Tb) (N : List Str) (sc : Scope)
def nmB (x : Str) (i : Nat) : Bool := decide (N[i]? = some x) && (decide (sc.names.lookup x = some .local) || decide (sc.names.lookup x = some .cell)) && noDbg x
mutual
def chkS : Stmt → Stm → Bool
  | .Assign [tg] e pos, .asg t ex =>
    if plainA tg e || lcC sc tg e then tgB N sc (fun _ => true) tg t && chkE T N sc e ex
    else if lcA sc pos.line tg e then tgB N sc (fun _ => true) tg t && chkE T N sc e ex
    else (match tg, e, t, ex with
      | .Tuple [.Name x px, .Name y py] _ _, .Tuple [a, b] _ _, .tup [.name i, .name j], .tup [ea, eb] => parB tg e && decide (N[i]? = some x) && decide (N[j]? = some y) &&
          decide (sc.names.lookup x = some .local) && decide (sc.names.lookup y = some .local) && chkE T N sc a ea && chkE T N sc b eb
      | _, _, _, _ => false)
  | .Assign [tg] e pos, .own i ex => fresh ex && tgB N sc (fun _ => true) tg (.name i) && (plainA tg e || lcC sc tg e || lcA sc pos.line tg e) && chkE T N sc e ex
  | .Expr (.Call (.Attribute (.Name x _) name apos) [e] [] cpos) _, .app i ex => decide (name = ("append" : Str)) && nmB N sc x i && (apos.endLine == cpos.line) && nst e && chkE T N sc e ex
  | .If c a b _, .iff c' a' b' => tst c && chkE T N sc c c' && chkSs a a' && chkSs b b'
  | .While c body [] _, .whl c' body' _ => tst c && chkE T N sc c c' && chkSs body body'
  | .For tg iter body [] _, .for_ t k its body' _ => tgB N sc (fun _ => true) tg t && chkI T N sc tg iter k its && chkSs body body'
  | .Return (some e) _, .ret ex => chkE T N sc e ex
  | .Pass _, .pas => true
  | .Break _, .brk => true
  | .Continue _, .cnt => true
  | _, _ => false
def chkSs : List Stmt → List Stm → Bool
  | [], [] => true
  | l, .frz _ :: r => chkSs l r
  | l, .wip _ :: r => chkSs l r
  | s :: l, t :: r => chkS s t && chkSs l r
  | _, _ => false
end
end
/-! ### ends -/
section
variable {P : Program} {w : World} {K : PySem.W.Frag} {H0 F0 F F' : Hp} {D : Ends} {r : R Flow}
theorem EndS.mono (h : EndS P w K H0 F0 F D r) (e : Same F F') : EndS P w K H0 F0 F' D r := by
  cases r with
  | ok f =>
    cases f with
    | nx ρ => exact fun σ' H' F1 g s => h σ' H' F1 g (e.trans s)
    | br ρ => exact fun σ' H' F1 g s => h σ' H' F1 g (e.trans s)
    | cn ρ => exact fun σ' H' F1 g s => h σ' H' F1 g (e.trans s)
    | rt d => exact h
  | err _ => exact h
  | bot => exact h
theorem EndS.bind {α : Type} {x : R α} {f : α → R Flow} (h : EndS P w K H0 F0 F D (x.bind f)) : ∃ a, x = .ok a ∧ EndS P w K H0 F0 F D (f a) := by
  cases x with
  | ok a => exact ⟨a, rfl, h⟩
  | err _ => exact h.elim
  | bot => exact h.elim
theorem EndS.guard {c : Bool} (h : EndS P w K H0 F0 F D (R.guard c r)) : c = true ∧ EndS P w K H0 F0 F D r := by
  cases c with
  | true => exact ⟨rfl, h⟩
  | false => exact h.elim
end
section
variable {X : Cx}
theorem sw_no {e : Expr} {t : Option Expr} {l : Nat} {env : PySem.Env} (h : noLC e = true) : swapsWith e t l env = pure false := by
  cases e <;> first | rfl | cases h
theorem sw_tup {e : Expr} {es : List Expr} {k : Nat} {p : Pos} {l : Nat} {env : PySem.Env} : swapsWith e (some (.Tuple es k p)) l env = pure false := by
  cases e <;> rfl
theorem sw_cell {e : Expr} {y : Str} {p : Pos} {l : Nat} {env : PySem.Env} (h : env.scope.names.lookup y = some .cell) : swapsWith e (some (.Name y p)) l env = pure false := by
  have ky : env.kindOf y = some .cell := h
  unfold swapsWith
  split
  · have q : (NameKind.cell == NameKind.local) = false := by decide
    simp only [ky]
    rw [show (some NameKind.cell == some NameKind.local) = false from by decide, Bool.and_false, Bool.false_and, Bool.false_and]
  · rfl
theorem stores_no {tg e : Expr} {env : PySem.Env} (h : noTup e = true) : swappedStores [tg] e env = pure none := by
  unfold swappedStores
  cases tg <;> cases e <;> first | rfl | cases h
theorem stores_no2 {tg e : Expr} {env : PySem.Env} (h : noTup tg = true) (hl : ∀ es p, tg ≠ .List es p) : swappedStores [tg] e env = pure none := by
  unfold swappedStores
  cases tg <;> first | exact absurd rfl (hl _ _) | (cases h; done) | rfl
theorem sw_par {x y : Str} {px py pt p2 : Pos} {kt k2 : Nat} {a b : Expr} {env : PySem.Env} (hk : env.blockKind = .function) (hx : env.scope.names.lookup x = some .local) (hy : env.scope.names.lookup y = some .local)
    (h : parB (.Tuple [.Name x px, .Name y py] kt pt) (.Tuple [a, b] k2 p2) = true) : swappedStores [.Tuple [.Name x px, .Name y py] kt pt] (.Tuple [a, b] k2 p2) env = pure (some [x, y]) := by
  have kx : env.kindOf x = some .local := hx
  have ky : env.kindOf y = some .local := hy
  unfold parB at h
  simp only [Bool.and_eq_true, Bool.not_eq_true', decide_eq_false_iff_not, beq_iff_eq] at h
  obtain ⟨⟨⟨⟨⟨h1, h2⟩, h3⟩, h4⟩, h5⟩, h6⟩ := h
  have st : ∀ e : Expr, nst e = true → (match e with | .Starred .. => true | _ => false) = false := by
    intro e he
    cases e <;> first | rfl | cases he
  have hxy : (x == y) = false := by simpa using h2
  have hyx : (y == x) = false := by simpa using fun z => h2 z.symm
  unfold swappedStores
  have e1 : ([a, b].any fun | .Starred .. => true | _ => false) = false := by
    rw [List.any_cons, List.any_cons, List.any_nil, st a h3, st b h4]
    rfl
  have e2 : [a, b].all (foldedForSure 8) = false := by simpa using h5
  have e3 : [a, b].all (constantsAlone 8) = false := by simpa using h6
  have hb : (env.blockKind != ScopeKind.function) = false := by rw [hk]; rfl
  have ed : [x, y].eraseDups = [x, y] := by
    rw [List.eraseDups_cons, List.filter_cons, if_pos (by simp [hyx])]
    rfl
  show (do
    if false || (env.blockKind != .function) then return none
    if [a, b].any fun | .Starred .. => true | _ => false then return none
    let names := [Expr.Name x px, Expr.Name y py].filterMap fun
      | .Name id pos => if env.kindOf id == some .local && pos.line == px.line then some id else none
      | _ => none
    if names.length != 2 || names.eraseDups.length != names.length then return none
    if [a, b].all (foldedForSure 8) then return none
    if [a, b].all (constantsAlone 8) then unsupported "assign.tuple-of-constant-expressions:order-of-the-stores"
    return some names : Sem (Option (List Str))) = _
  have en : ([Expr.Name x px, Expr.Name y py].filterMap fun
      | .Name id pos => if env.kindOf id == some .local && pos.line == px.line then some id else none
      | _ => none) = [x, y] := by
    simp only [List.filterMap_cons, List.filterMap_nil, kx, ky, h1]
    simp
  rw [hb, e1, e2, e3]
  simp only [en, ed]
  rfl
end
/-! ### statements -/
structure SOk (T : Tb) (n : Nat) (X : Cx) : Prop where
  ok : XOk T n X
  px : PassesOwn (model X.prog X.w) X.A X.env X.xe
  fn : X.fn = fun _ => true
  bk : X.env.blockKind = .function
section
variable {T : Tb} {n : Nat} {X : Cx} {H0 F0 : Hp}
abbrev XS (T : Tb) (n : Nat) (X : Cx) (H0 F0 : Hp) (s : Stm) : TS := tS X.prog X.w X.K (evFn T.P T.wf n) T.wf H0 F0 s
abbrev XSs (T : Tb) (n : Nat) (X : Cx) (H0 F0 : Hp) (s : List Stm) : TS := tSs X.prog X.w X.K (evFn T.P T.wf n) T.wf H0 F0 s
theorem lay_new {P : Program} {w : World} {K : PySem.W.Frag} {F H F' H' : Hp} {l : Addr} {o : HO} {d : D} (e : Ext F H F' H') (hl : H l = none) (hF : F' l = none) (hH : H' l = some o) (c : Cont P w K F' l o d) : Ext F H (upd F' l o) H' ∧ Dr P w K (upd F' l o) (.ref l) d := by
  have sm : Same F' (upd F' l o) := same_new hF
  refine ⟨⟨e.f.trans sm, e.h, fun b u hb => ?_, fun b hb => ?_⟩, (c.mono sm).dr upd_same⟩
  · by_cases q : b = l
    · subst q
      rw [upd_same] at hb
      cases hb
      exact hH
    · rw [upd_ne q] at hb
      exact e.fh b u hb
  · rw [upd_ne, e.new b hb]
    rintro rfl
    exact hb hl
theorem tg_name {N : List Str} {sc : Scope} {tg : Expr} {i : Nat} (h : tgB N sc (fun _ => true) tg (.name i) = true) : ∃ x p, tg = .Name x p ∧ N[i]? = some x ∧ Loc sc x := by
  unfold tgB at h
  split at h
  · rename_i x p j q
    cases q
    simp only [Bool.and_eq_true, Bool.or_eq_true, decide_eq_true_eq] at h
    refine ⟨x, p, rfl, h.1, ?_⟩
    rcases h.2 with h | h
    · exact .inl h
    · exact .inr h.1
  · rename_i q
    cases q
  · cases h
theorem tg_set {ρ ρ' : Env} {i : Nat} {d : D} (h : asgT ρ (.name i) d = .ok ρ') : ρ' = ρ.set i (some (.val d)) := by
  rw [asgT] at h
  cases h
  rfl
theorem comp_parts (hX : XOk T n X) {elt : Expr} {scope : Scope} {pos : Pos} {gs : List Comprehension} {e : Ex} {t : Tg} {k : IK} {its : List Ex} {cond : Ex}
    (h : chkE T X.N X.env.scope (.ListComp elt gs scope pos) (.comp e t k its cond) = true) : ∃ tg iter ifs own, gs = [⟨tg, iter, ifs, 0⟩] ∧ CompOk T n X elt tg iter ifs scope own e t k its cond := by
  cases gs with
  | nil => simp [chkE] at h
  | cons c r =>
    obtain ⟨tg, iter, ifs, as⟩ := c
    cases r with
    | cons _ _ => simp [chkE] at h
    | nil =>
      simp only [chkE] at h
      split at h
      · rename_i own ho
        simp only [Bool.and_eq_true, decide_eq_true_eq] at h
        obtain ⟨⟨⟨⟨⟨rfl, h1⟩, h2⟩, h3⟩, h4⟩, h5⟩ := h
        obtain ⟨i1, i2⟩ := snd_I k its hX h3 (m := true)
        have hts : ∀ (s : Shared) (H : Hp) (C : Addr) (cl : List (Str × Addr)) (fp : List Addr), PTs (X.blk s H scope (compEnvC scope cl C X.env) fp) ifs (XT T n X cond) := by
          intro s' H' C cl fp
          split at h5
          · refine ⟨fun pins s σ H Q I q => pts_nil.run pins s σ H Q I ?_⟩
            obtain ⟨H0, F0, F, ρ, b, g, hb, q⟩ := q
            unfold isYes at h5
            split at h5
            · simp only [ev] at hb
              cases hb
              exact q F H (Ext.refl g.fh)
            · cases h5
          · simp only [Bool.and_eq_true] at h5
            exact pts_one ((snd_E cond (X := X.blk s' H' scope (compEnvC scope cl C X.env) fp) hX.blk h5.2).t h5.1)
          · cases h5
        exact ⟨tg, iter, ifs, own, rfl, blkOk_by h1, ownOf_names ho, i2, fun s H C cl fp => snd_tg (X := X.blk s H scope (compEnvC scope cl C X.env) fp) hX.calm hX.nd t h2, hts,
          fun s H C cl fp => (snd_E e (X := X.blk s H scope (compEnvC scope cl C X.env) fp) hX.blk h4).v false, i1⟩
      · cases h
/-- target = value -/
theorem asg_plain (hX : SOk T n X) {tg e : Expr} {te : TE} {g : TG} {pos : Pos} {t : Tg} (hs : (plainA tg e || lcC X.env.scope tg e) = true) (ht : tgB X.N X.env.scope (fun _ => true) tg t = true) (he : PE X e te) (hg : PG X tg g) : PS X (.Assign [tg] e pos) (tAsg te g) := by
  have nl : ∀ es p, tg ≠ .List es p := by
    rintro es p rfl
    unfold tgB at ht
    cases t <;> cases ht
  have hst := tgB_star ht
  have h1 : (assignEach [tg] X.env).map (·.2) = [assign tg X.env] := by rw [isT_asg hst]; rfl
  rw [Bool.or_eq_true] at hs
  rcases hs with hs | hs
  · unfold plainA at hs
    simp only [Bool.or_eq_true, Bool.and_eq_true, Bool.not_eq_true'] at hs
    rcases hs with ⟨h2, h3⟩ | ⟨h2, h3⟩
    · refine ps_asg he hg (sw_no h2) ?_ h1
      rcases h3 with h3 | h3
      · exact stores_no2 h3 nl
      · exact stores_no h3
    · obtain ⟨es, k, p, rfl⟩ := isTup_inv h3
      refine ps_asg he hg (show swapsWithSole [.Tuple es k p] e pos.line X.env = pure false from sw_tup (e := e) (es := es) (k := k) (p := p) (l := pos.line) (env := X.env)) ?_ h1
      refine stores_no ?_
      cases e <;> first | rfl | cases h2
  · unfold lcC at hs
    split at hs
    · rename_i y py elt gs sc2 cpos
      refine ps_asg he hg ?_ (stores_no rfl) h1
      exact sw_cell (e := .ListComp elt gs sc2 cpos) (y := y) (p := py) (l := pos.line) (env := X.env) (of_decide_eq_true hs)
    · cases hs
theorem lc_shape {sc : Scope} {line : Nat} {tg e : Expr} (h : lcA sc line tg e = true) : ∃ y py elt gs scope pos, tg = .Name y py ∧ e = .ListComp elt gs scope pos ∧ sc.names.lookup y = some .local ∧ (py.line == pos.line) = true ∧ (scope.names.any fun (n, k) => n == y && (k == .local || k == .cell)) = false := by
  unfold lcA at h
  split at h
  · simp only [Bool.and_eq_true, decide_eq_true_eq, Bool.not_eq_true'] at h
    exact ⟨_, _, _, _, _, _, rfl, rfl, h.1.1, h.1.2, h.2⟩
  · cases h
theorem comp_only {T : Tb} {N : List Str} {sc : Scope} {elt : Expr} {gs : List Comprehension} {scope : Scope} {pos : Pos} {ex : Ex} (h : chkE T N sc (.ListComp elt gs scope pos) ex = true) : ∃ e t k its cond, ex = .comp e t k its cond := by
  cases ex <;> first | exact ⟨_, _, _, _, _, rfl⟩ | (simp [chkE] at h)
/-- name = [..] on one line, by what the list is -/
theorem asg_lc (hX : SOk T n X) {tg e : Expr} {ex : Ex} {pos : Pos} {i : Nat} (hs : lcA X.env.scope pos.line tg e = true) (ht : tgB X.N X.env.scope (fun _ => true) tg (.name i) = true) (he : chkE T X.N X.env.scope e ex = true) : PS X (.Assign [tg] e pos) (tAsg (XN T n X ex) (gName i)) := by
  obtain ⟨y, py, elt, gs, scope, cpos, rfl, rfl, hl, hln, ha⟩ := lc_shape hs
  obtain ⟨e, t, k, its, cond, rfl⟩ := comp_only he
  obtain ⟨tg, iter, ifs, own, rfl, c⟩ := comp_parts hX.ok he
  obtain ⟨x, p, q, hi, hx⟩ := tg_name ht
  cases q
  exact set_comp hX.ok c hi hl (by
    have hk : X.env.blockKind = .function := hX.bk
    have ky : X.env.kindOf y = some .local := hl
    unfold swapsWith
    simp only [hk, ky, ha, Expr.pos, hln]
    rfl)
theorem vis_of {sc : Scope} {x : Str} (h : Loc sc x) : Vis sc x := by
  rcases h with h | h
  · exact .inl h
  · exact .inr (.inl h)
/-- a fresh object becomes a name's own -/
theorem Good.fresh {P : Program} {w : World} {K : PySem.W.Frag} {σ : L2.St} {H F H' F' : Hp} {ρ : Env} {i : Nat} {l : Addr} {o : HO} {d : D} (g : Good P w K H0 F0 σ H F ρ) (e : Ext F H F' H') (hl : H l = none) (hF : F' l = none) (hH : H' l = some o) (c : Cont P w K F' l o d) :
    Good P w K H0 F0 (σ.set i (some (.ref l))) H' F' (ownSet ρ i d) :=
  (g.ext e).setOwn hH hF (Same.free g.h0 hl) c fun j e' hj hown hs => by
    obtain ⟨l', o', h1, h2, h3, h4, h5⟩ := g.own j e' hown
    rw [hs] at h1
    cases h1
    rw [hl] at h4
    cases h4
theorem own_imp {i : Nat} {ex : Ex} (hf : fresh ex = true) : ∀ (D : Ends) (σ : L2.St) (H : Hp), XS T n X H0 F0 (.own i ex) D σ H → tAsg (XN T n X ex) (gName i) D σ H := by
  rintro D σ H ⟨F, ρ, g, hE⟩
  simp only [exS] at hE
  obtain ⟨_, hE⟩ := hE.guard
  obtain ⟨d, hd, hE⟩ := hE.bind
  obtain ⟨_, hE⟩ := hE.guard
  exact ⟨H0, F0, F, ρ, d, g, hd, fun l o F1 H1 e1 h1 h2 h3 c => hE _ H1 F1 (g.fresh e1 h1 h2 h3 c) e1.f⟩
theorem asg_imp {i : Nat} {ex : Ex} : ∀ (D : Ends) (σ : L2.St) (H : Hp), XS T n X H0 F0 (.asg (.name i) ex) D σ H → tAsg (XN T n X ex) (gName i) D σ H := by
  rintro D σ H ⟨F, ρ, g, hE⟩
  simp only [exS] at hE
  obtain ⟨d, hd, hE⟩ := hE.bind
  obtain ⟨ρ', ha, hE⟩ := hE.bind
  obtain rfl := tg_set ha
  refine ⟨H0, F0, F, ρ, d, g, hd, fun l o F1 H1 e1 h1 h2 h3 c => ?_⟩
  obtain ⟨e2, r2⟩ := lay_new e1 h1 h2 h3 c
  exact hE _ H1 _ ((g.ext e2).set r2) e2.f
theorem forF_drop {step : D → Env → R Flow} {w : List Nat} {xs : List D} {i : Nat} (hi : i < xs.length) (ρ : Env) : forF step w (xs.drop i) ρ = (step xs[i] ρ).bind fun f => match f with
    | .nx ρ' => forF step w (xs.drop (i + 1)) (wipeE ρ' w)
    | .cn ρ' => forF step w (xs.drop (i + 1)) (wipeE ρ' w)
    | .br ρ' => .ok (.nx (wipeE ρ' w))
    | .rt d => .ok (.rt d) := by
  rw [List.drop_eq_getElem_cons hi, forF]
  first | done | congr 1
mutual
theorem snd_S (hX : SOk T n X) : ∀ (s : Stm) {st : Stmt}, chkS T X.N X.env.scope st s = true → PS X st (XS T n X H0 F0 s) := fun s st h => by
  unfold chkS at h
  split at h
  · rename_i tg e pos t ex
    split at h
    · rename_i hs
      rw [Bool.and_eq_true] at h
      refine PS.weak (asg_plain hX hs h.1 ((snd_E ex hX.ok h.2).v false) (snd_tg hX.ok.calm hX.ok.nd t (by rw [hX.fn]; exact h.1))) fun D σ H ⟨F, ρ, g, hE⟩ => ?_
      simp only [exS] at hE
      obtain ⟨d, hd, hE⟩ := hE.bind
      obtain ⟨ρ', ha, hE⟩ := hE.bind
      exact ⟨H0, F0, F, ρ, d, g, hd, fun v F1 H1 e1 r1 => ⟨H0, F0, F1, ρ, d, ρ', g.ext e1, r1, ha, fun σ' g' _ _ => hE σ' H1 F1 g' e1.f⟩⟩
    · split at h
      · rename_i hs
        rw [Bool.and_eq_true] at h
        obtain ⟨y, py, elt, gs, scope, cpos, rfl, rfl, _⟩ := lc_shape hs
        cases t with
        | tup ts =>
          have := h.1
          simp [tgB] at this
        | name i => exact PS.weak (asg_lc hX hs h.1 h.2) asg_imp
      · split at h
        · rename_i x px y py kt pt a b k2 p2 i j ea eb _ _
          simp only [Bool.and_eq_true, decide_eq_true_eq] at h
          obtain ⟨⟨⟨⟨⟨⟨h1, h2⟩, h3⟩, h4⟩, h5⟩, h6⟩, h7⟩ := h
          have hw := sw_par hX.bk h4 h5 h1
          have hij : i ≠ j := by
            rintro rfl
            unfold parB at h1
            rw [h2] at h3
            cases h3
            simp at h1
          have hn : nst a = true ∧ nst b = true := by
            unfold parB at h1
            simp only [Bool.and_eq_true] at h1
            exact ⟨h1.1.1.1.2, h1.1.1.2⟩
          refine PS.weak (ps_par hX.ok.calm hX.ok.nd h2 h3 hij h4 h5 (snd_cons hn.1 ((snd_E ea hX.ok h6).v false) (snd_cons hn.2 ((snd_E eb hX.ok h7).v false) snd_nil)) hw) fun D σ H ⟨F, ρ, g, hE⟩ => ?_
          simp only [exS] at hE
          obtain ⟨d, hd, hE⟩ := hE.bind
          obtain ⟨ρ', ha, hE⟩ := hE.bind
          simp only [ev] at hd
          obtain ⟨ds, hds, hd⟩ := R.bind_eq hd
          obtain ⟨_, hd⟩ := R.guard_ok hd
          cases hd
          simp only [asgT] at ha
          refine ⟨H0, F0, F, ρ, ds, g, hds, fun vs F1 H1 e1 hl r => ?_⟩
          have hall : DrAllX X F1 vs ds := ⟨hl, r⟩
          have h2l := asgTs_len ha
          cases ds with
          | nil => cases h2l
          | cons d1 ds =>
            cases ds with
            | nil => cases h2l
            | cons d2 ds =>
              cases ds with
              | cons _ _ => cases h2l
              | nil =>
                obtain ⟨v, vr, rfl, q1, hall⟩ := hall.cons_inv
                obtain ⟨u, rfl, q2⟩ := hall.one
                refine ⟨v, u, rfl, ?_⟩
                simp only [asgTs, asgT, R.bind_ok] at ha
                cases ha
                exact hE _ H1 F1 (((g.ext e1).set q1).set q2) e1.f
        · cases h
  · rename_i tg e pos i ex
    simp only [Bool.and_eq_true] at h
    obtain ⟨⟨⟨hf, ht⟩, hs⟩, he⟩ := h
    rw [Bool.or_eq_true] at hs
    rcases hs with hs | hs
    · obtain ⟨x, p, rfl, hi, hx⟩ := tg_name ht
      exact PS.weak (asg_plain hX hs ht ((snd_E ex hX.ok he).nw hf) (pg_name hX.ok.nd hi hx (.inl (by rw [hX.fn])))) (own_imp hf)
    · exact PS.weak (asg_lc hX hs ht he) (own_imp hf)
  · rename_i x p name apos e cpos pos i ex
    simp only [Bool.and_eq_true, decide_eq_true_eq] at h
    obtain ⟨⟨⟨⟨rfl, h1⟩, h2⟩, h3⟩, h4⟩ := h
    unfold nmB noDbg at h1
    simp only [Bool.and_eq_true, decide_eq_true_eq, Bool.or_eq_true, Bool.not_eq_true'] at h1
    obtain ⟨⟨hi, hx⟩, hd1, hd2⟩ := h1
    refine PS.weak (ps_expr (pe_bm F.plainAttrs_list F.slot_list_append F.type_list_append mt_append (pe_var hi (vis_of hx) hd1 hd2) (pa_cons ((snd_E ex hX.ok h4).v false) pa_nil (star_nst h3)) (by rfl) ?_ h2 (star_nst h3) (by rfl)) (sw_no rfl)) fun D σ H ⟨F, ρ, g, hE⟩ => ?_
    · rw [star_nst h3]
      rfl
    · simp only [exS] at hE
      split at hE
      · rename_i xs ho
        obtain ⟨d, hd, hE⟩ := hE.bind
        obtain ⟨hz, hE⟩ := hE.guard
        obtain ⟨l, o, k1, k2, k3, k4, k5⟩ := g.own i _ ho
        cases k5 with
        | lst hl =>
          refine ⟨_, k1, .inl ⟨rfl, _, .inl (.inl k4)⟩, H0, F0, F, ρ, d, g, hd, fun v F1 H1 e1 r1 => ⟨l, _, v, rfl, rfl, e1.h _ _ k4, ?_, ?_⟩⟩
          · rw [hl.1]
            exact Nat.lt_of_lt_of_le (of_decide_eq_true hz) lim_size
          · exact hE _ _ F1 ((g.ext e1).write ho k1 (.lst ((hl.mono e1.f).append (.cons r1 .nil)))) e1.f
      · exact hE.elim
  · rename_i c a b pos c' a' b'
    simp only [Bool.and_eq_true] at h
    obtain ⟨⟨⟨h1, h2⟩, h3⟩, h4⟩ := h
    refine PS.weak (ps_if ((snd_E c' hX.ok h2).t h1) (snd_Ss hX a' h3) (snd_Ss hX b' h4)) fun D σ H ⟨F, ρ, g, hE⟩ => ?_
    simp only [exS] at hE
    obtain ⟨x, hx, hE⟩ := hE.bind
    obtain ⟨r, hr, hE⟩ := hE.bind
    rw [asB_ok hr] at hx
    refine ⟨H0, F0, F, ρ, r, g, hx, fun F1 H1 e1 => ?_⟩
    cases r with
    | true => exact iteT ⟨F1, ρ, g.ext e1, hE.mono e1.f⟩
    | false => exact iteF ⟨F1, ρ, g.ext e1, hE.mono e1.f⟩
  · rename_i c body pos c' body' w
    simp only [Bool.and_eq_true] at h
    obtain ⟨⟨h1, h2⟩, h3⟩ := h
    refine PS.weak (ps_while hX.px ((snd_E c' hX.ok h2).t h1) (snd_Ss hX body' h3)) fun D σ H ⟨F, ρ, g, hE⟩ => ?_
    simp only [exS] at hE
    refine ⟨fun m σ H => ∃ F ρ, Good X.prog X.w X.K H0 F0 σ H F ρ ∧ EndS X.prog X.w X.K H0 F0 F D (whlF (fun ρ => (ev (evFn T.P T.wf n) ρ true c').bind asB) (fun ρ => exs (evFn T.P T.wf n) T.wf ρ body') w m ρ), ⟨T.wf, F, ρ, g, hE⟩, ?_⟩
    rintro m σ1 H1 ⟨F1, ρ1, g1, hE1⟩
    cases m with
    | zero => exact hE1.elim
    | succ m =>
      rw [whlF] at hE1
      obtain ⟨b, hb, hE1⟩ := hE1.bind
      obtain ⟨x, hx, hb⟩ := R.bind_eq hb
      rw [asB_ok hb] at hx
      refine ⟨H0, F0, F1, ρ1, b, g1, hx, fun F2 H2 e2 => ?_⟩
      cases b with
      | false => exact iteF (hE1 σ1 H2 F2 (g1.ext e2) e2.f)
      | true =>
        obtain ⟨f, hf, hE1⟩ := hE1.bind
        refine iteT ⟨_, fun σ' H' hN => ⟨m, Nat.lt_succ_self m, hN⟩, F2, ρ1, g1.ext e2, ?_⟩
        rw [hf]
        cases f with
        | nx ρ2 => exact fun σ' H' F' g' s => ⟨F', _, g'.wip w, hE1.mono (e2.f.trans s)⟩
        | cn ρ2 => exact fun σ' H' F' g' s => ⟨F', _, g'.wip w, hE1.mono (e2.f.trans s)⟩
        | br ρ2 => exact fun σ' H' F' g' s => hE1 σ' H' F' (g'.wip w) (e2.f.trans s)
        | rt d => exact hE1
  · rename_i tg iter body pos t k its body' w
    simp only [Bool.and_eq_true] at h
    obtain ⟨⟨h1, h2⟩, h3⟩ := h
    obtain ⟨i1, i2⟩ := snd_I k its (m := false) hX.ok h2
    refine PS.weak (ps_for hX.px hX.ok.calm i2 (snd_tg hX.ok.calm hX.ok.nd t (by rw [hX.fn]; exact h1)) (snd_Ss hX body' h3) i1) fun D σ H ⟨F, ρ, g, hE⟩ => ?_
    simp only [exS] at hE
    obtain ⟨ds, hds, hE⟩ := hE.bind
    obtain ⟨xs, hxs, hE⟩ := hE.bind
    refine ⟨H0, F0, F, ρ, ds, xs, g, hds, hxs, fun J F1 H1 e1 hz hw => ?_⟩
    refine ⟨fun i m σ H => m = xs.length - i ∧ i ≤ xs.length ∧ ∃ F' ρ', Good X.prog X.w X.K H0 F0 σ H F' ρ' ∧ Same F1 F' ∧ EndS X.prog X.w X.K H0 F0 F' D (forF (fun x ρ => (asgT ρ t x).bind fun ρ' => exs (evFn T.P T.wf n) T.wf ρ' body') w (xs.drop i) ρ'),
      ⟨xs.length, rfl, Nat.zero_le _, F1, ρ, g.ext e1, Same.refl F1, hE.mono e1.f⟩, ?_⟩
    rintro i m σ2 H2 ⟨rfl, hi, F2, ρ2, g2, s2, hE2⟩
    obtain ⟨w1, w2⟩ := hw H2 F2 s2 g2.fh (s2.trans g2.fh)
    by_cases hlt : i < xs.length
    · right
      obtain ⟨hgo, hyl⟩ := w2 i xs[i] (List.getElem?_eq_getElem hlt)
      rw [forF_drop hlt] at hE2
      obtain ⟨f, hf, hE2⟩ := hE2.bind
      obtain ⟨ρ3, ha, hf⟩ := R.bind_eq hf
      refine ⟨hgo, _, fun σ' H' hN => ⟨xs.length - (i + 1), by omega, hN⟩, fun x H3 hx => ?_⟩
      obtain ⟨F3, e3, hx⟩ := hyl x H3 hx
      refine ⟨H0, F0, F3, ρ2, xs[i], ρ3, g2.ext e3, hx, ha, fun σ3 g3 _ _ => ⟨F3, ρ3, g3, ?_⟩⟩
      rw [hf]
      cases f with
      | nx ρ4 => exact fun σ' H' F' g' s => ⟨rfl, hlt, F', _, g'.wip w, (s2.trans e3.f).trans s, hE2.mono (e3.f.trans s)⟩
      | cn ρ4 => exact fun σ' H' F' g' s => ⟨rfl, hlt, F', _, g'.wip w, (s2.trans e3.f).trans s, hE2.mono (e3.f.trans s)⟩
      | br ρ4 => exact fun σ' H' F' g' s => hE2 σ' H' F' (g'.wip w) (e3.f.trans s)
      | rt d => exact hE2
    · left
      have hie : i = xs.length := by omega
      subst hie
      rw [List.drop_length] at hE2
      exact ⟨w1, hE2 σ2 H2 F2 g2 (Same.refl F2)⟩
  · rename_i e pos ex
    refine PS.weak (ps_ret ((snd_E ex hX.ok h).v false)) fun D σ H ⟨F, ρ, g, hE⟩ => ?_
    simp only [exS] at hE
    obtain ⟨d, hd, hE⟩ := hE.bind
    exact ⟨H0, F0, F, ρ, d, g, hd, fun v F1 H1 e1 r1 => hE v H1 F1 (g.out e1) r1⟩
  · exact PS.weak ps_pass fun D σ H ⟨F, ρ, g, hE⟩ => hE σ H F g (Same.refl F)
  · exact PS.weak ps_break fun D σ H ⟨F, ρ, g, hE⟩ => hE σ H F g (Same.refl F)
  · exact PS.weak ps_continue fun D σ H ⟨F, ρ, g, hE⟩ => hE σ H F g (Same.refl F)
  · cases h
theorem snd_Ss (hX : SOk T n X) : ∀ (ss : List Stm) {l : List Stmt}, chkSs T X.N X.env.scope l ss = true → PSs X l (XSs T n X H0 F0 ss) := fun ss l h => by
  unfold chkSs at h
  split at h
  · refine PSs.weak pss_nil fun D σ H ⟨F, ρ, g, hE⟩ => ?_
    rw [exs] at hE
    exact hE σ H F g (Same.refl F)
  · rename_i i r
    refine PSs.weak (snd_Ss hX r h) fun D σ H ⟨F, ρ, g, hE⟩ => ?_
    rw [exs] at hE
    obtain ⟨f, hf, hE⟩ := hE.bind
    rw [exS] at hf
    split at hf
    · rename_i d hi
      cases hf
      obtain ⟨F', s, g'⟩ := g.freeze hi
      exact ⟨F', _, g', hE.mono s⟩
    · cases hf
      exact ⟨F, ρ, g, hE⟩
  · rename_i is r
    refine PSs.weak (snd_Ss hX r h) fun D σ H ⟨F, ρ, g, hE⟩ => ?_
    rw [exs] at hE
    obtain ⟨f, hf, hE⟩ := hE.bind
    rw [exS] at hf
    cases hf
    exact ⟨F, _, g.wip is, hE⟩
  · rename_i s l t r _ _
    rw [Bool.and_eq_true] at h
    refine PSs.weak (pss_cons (snd_S hX t h.1) (snd_Ss hX r h.2)) fun D σ H ⟨F, ρ, g, hE⟩ => ?_
    rw [exs] at hE
    obtain ⟨f, hf, hE⟩ := hE.bind
    refine ⟨F, ρ, g, ?_⟩
    rw [hf]
    cases f with
    | nx ρ' => exact fun σ' H' F' g' s => ⟨F', ρ', g', hE.mono s⟩
    | br ρ' => exact hE
    | cn ρ' => exact hE
    | rt d => exact hE
  · cases h
end
end
end KD
/-! KdFn: defs, and a law's end. -/
namespace KD
open PySem PySem.Spec
open PyProof.Rows L2
/-- a def of the text that stands behind the top -/
structure DefK (K : PySem.W.Frag) (mg : Str → Option Value) (x : Str) (st : Stmt) (ps : List Str) : Prop where
  ex : ∃ (f : Addr) (fd : FuncData), Fun K x x st f fd ∧ mg x = some (.ref f) ∧ ∀ us : List Value, us.length = ps.length → bindArgs fd ⟨us, []⟩ = pure (ps.zip us)
theorem defK_mk {K : PySem.W.Frag} {h : Heap} {mg : Str → Option Value} {x : Str} {st : Stmt} {ps : List Str} {f : Addr} {oc : Value} {od an : Option Addr} {osl : Array (Option Value)} {kV doc pm cdv ct : Value} (X : K.In h) (G : h.Ns mainGlobals mg)
    (a : PySem.W.nsIn K mainGlobals x = some (some (.ref f))) (l : K.lookup f = some ⟨oc, od, .func (PySem.W.fnOf x x (defArgs st) (defBody st) (defScope st) .none kV doc pm an cdv ct), osl⟩)
    (c : PySem.W.codeIn K cdv x = true) (k : PySem.W.keepIn K (.ref f) = true)
    (b : ∀ us : List Value, us.length = ps.length → bindArgs (PySem.W.fnOf x x (defArgs st) (defBody st) (defScope st) .none kV doc pm an cdv ct) ⟨us, []⟩ = pure (ps.zip us)) : DefK K mg x st ps :=
  ⟨f, _, fun_mk l c k, PySem.W.mg_of X G a, b⟩
/-- what a def's look tells -/
structure FnChk (T : Tb) (f : Nat) (st : Stmt) (ps : List Str) (fn : Fn) : Prop where
  p : T.P f = some fn
  np : ps.length = fn.np
  ex : ∃ N, FnScope N ps (defScope st) ∧ N.length = fn.nl ∧ chkSs T N (defScope st) (defBody st) fn.body = true
/-- the look itself -/
def fnB (T : Tb) (st : Stmt) (ps N : List Str) (fn : Fn) : Bool :=
  decide (ps.length = fn.np) && decide (N.length = fn.nl) && scW N ps (defScope st) && chkSs T N (defScope st) (defBody st) fn.body
where scW (N P : List Str) (sc : Scope) : Bool :=
  (match sc.kind with | .function => true | _ => false) && !sc.isCoroutine && !sc.isGenerator && decide N.Nodup && decide (N.take P.length = P) && P.all (fun x => decide (sc.names.lookup x = some .local) || decide (sc.names.lookup x = some .cell)) && sc.names.all (fun y => !decide (y.2 = .free))
theorem fnB_ok {T : Tb} {f : Nat} {st : Stmt} {ps N : List Str} {fn : Fn} (hp : T.P f = some fn) (h : fnB T st ps N fn = true) : FnChk T f st ps fn := by
  unfold fnB fnB.scW at h
  simp only [Bool.and_eq_true, decide_eq_true_eq, Bool.not_eq_true', List.all_eq_true, Bool.or_eq_true, decide_eq_false_iff_not] at h
  obtain ⟨⟨⟨h1, h2⟩, h3⟩, h4⟩ := h
  obtain ⟨⟨⟨⟨⟨⟨k1, k2⟩, k3⟩, k4⟩, k5⟩, k6⟩, k7⟩ := h3
  refine ⟨hp, h1, N, ⟨?_, k2, k3, k4, k5, k6, k7⟩, h2, h4⟩
  split at k1
  · assumption
  · cases k1
section
variable {P : Program} {w : World} {K : PySem.W.Frag} {mg : Str → Option Value} {base : Heap} {T : Tb}
theorem sp_len {n f : Nat} {fn : Fn} (hp : T.P f = some fn) : ∀ vs H Q E, spF P w K (evFn T.P T.wf) n f vs H Q E → vs.length = fn.np := by
  rintro vs H Q E ⟨F, ds, d, e, hd, h, q⟩
  cases n with
  | zero => cases h
  | succ n =>
    rw [evFn, hp] at h
    obtain ⟨hl, _⟩ := R.guard_ok h
    rw [hd.1]
    exact of_decide_eq_true hl
theorem start_good {H F : Hp} {N : List Str} {vs : List V} {ds : List D} {fn : Fn} (e : Same F H) (hd : DrAll P w K F vs ds) (hl : ds.length = fn.np) (hN : N.length = fn.nl) :
    Good P w K H F (L2.start N vs) H F (ds.map (fun d => some (Sl.val d)) ++ List.replicate (fn.nl - fn.np) none) := by
  have hv : vs.length = ds.length := hd.1
  have own_no : ∀ (i : Nat) (d : D), (ds.map (fun d => some (Sl.val d)) ++ List.replicate (fn.nl - fn.np) none)[i]? ≠ some (some (.own d)) := fun i d h => by
    by_cases hi : i < ds.length
    · rw [List.getElem?_append_left (by simpa using hi), List.getElem?_map] at h
      cases q : ds[i]? with
      | none => rw [q] at h; cases h
      | some y => rw [q] at h; cases h
    · rw [List.getElem?_append_right (by simpa using hi)] at h
      rw [List.getElem?_replicate] at h
      split at h <;> cases h
  refine ⟨e, Same.refl H, Same.refl F, fun _ _ => rfl, ?_, fun i d h => ?_, fun i d h => absurd h (own_no i d), fun i j d e l h => absurd h (own_no i d)⟩
  · unfold L2.start
    simp [hv, hl, hN]
  · by_cases hi : i < ds.length
    · rw [List.getElem?_append_left (by simpa using hi), List.getElem?_map] at h
      cases q : ds[i]? with
      | none => rw [q] at h; cases h
      | some y =>
        rw [q] at h
        cases h
        obtain ⟨v, h1, h2⟩ := hd.get q
        refine ⟨v, ?_, h2⟩
        unfold L2.start
        rw [List.getElem?_append_left (by rw [List.length_map, hv]; exact hi), List.getElem?_map, h1]
        rfl
    · rw [List.getElem?_append_right (by simpa using hi)] at h
      rw [List.getElem?_replicate] at h
      split at h <;> cases h
def LooksAt (K : PySem.W.Frag) (a : Addr) (fd : FuncData) : Prop := ∃ oc od osl, K.lookup a = some ⟨oc, od, .func fd, osl⟩
theorem looks_fun {x q : Str} {st : Stmt} {a : Addr} {fd : FuncData} (F : Fun K x q st a fd) : LooksAt K a fd := by
  obtain ⟨oc, od, kV, doc, pm, an, cdv, ct, osl, rfl, l, c⟩ := F.ex
  exact ⟨_, _, _, l⟩
theorem looks_eq {a : Addr} {fd fd' : FuncData} (h : LooksAt K a fd) (h' : LooksAt K a fd') : fd = fd' := by
  obtain ⟨_, _, _, h⟩ := h
  obtain ⟨_, _, _, h'⟩ := h'
  rw [h] at h'
  cases h'
  rfl
/-- every def keeps what the evaluator tells -/
theorem fns_ok {pp : Nat → List Str} (hD : ∀ f x, T.nm f = some x → ∃ st fn, DefK K mg x st (pp f) ∧ FnChk T f st (pp f) fn) (hb : ∀ x ∈ bltNames, mg x = none)
    (hc : ∀ p ∈ T.cs, ∃ v u, mg p.1 = some u ∧ RelV v u ∧ Dr P w K (fun _ => none) v p.2) : ∀ (n f : Nat) (x : Str), T.nm f = some x →
    ∃ fn a fd, T.P f = some fn ∧ (pp f).length = fn.np ∧ mg x = some (.ref a) ∧ PySem.W.keepIn K (.ref a) = true ∧ (∀ us : List Value, us.length = (pp f).length → bindArgs fd ⟨us, []⟩ = pure ((pp f).zip us)) ∧ LooksAt K a fd ∧ FnOk P w K mg base CX0 n a fd (pp f) (spF P w K (evFn T.P T.wf) n f) := by
  intro n
  induction n with
  | zero =>
    intro f x hx
    obtain ⟨st, fn, ⟨a, fd, F, hm, b⟩, C⟩ := hD f x hx
    refine ⟨fn, a, fd, C.p, C.np, hm, F.kp, b, looks_fun F, fun vs H Q E h => by rw [sp_len C.p vs H Q E h, C.np], fun A outer s H args us vs Q E _ _ _ _ h => ?_⟩
    obtain ⟨_, _, _, _, _, h, _⟩ := h
    cases h
  | succ n ih =>
    intro f x hx
    obtain ⟨st, fn, ⟨a, fd, F, hm, b⟩, C⟩ := hD f x hx
    obtain ⟨N, S, hN, hk⟩ := C.ex
    refine ⟨fn, a, fd, C.p, C.np, hm, F.kp, b, looks_fun F, F.ok S (fun vs H Q E h => by rw [sp_len C.p vs H Q E h, C.np]) fun cdv A outer s H vs Q E hr h => ?_⟩
    obtain ⟨F1, ds, d, e, hd, hev, q⟩ := h
    rw [evFn, C.p] at hev
    obtain ⟨hl, hev⟩ := R.guard_ok hev
    obtain ⟨fl, hfl, hev⟩ := R.bind_eq hev
    have hl := of_decide_eq_true hl
    have g := start_good (H := H) (N := N) e hd hl hN
    have hX : SOk T n (cxOf CX0 P w K mg base N x (defScope st) a cdv A outer s H E).nox := ⟨⟨rfl, hr, S.nd, hb, hc, fun g y hy => by
      obtain ⟨fn', a', fd', i1, i2, i3, i4, i5, _, i6⟩ := ih g y hy
      exact ⟨fn', a', fd', pp g, i1, i2, i3, i4, .all i5, i6⟩⟩, PassesOwn.never, rfl, by
      unfold PySem.Env.blockKind
      rw [show (cxOf CX0 P w K mg base N x (defScope st) a cdv A outer s H E).nox.env.scope.kind = .function from S.kind]
      rfl⟩
    refine ⟨_, snd_Ss (H0 := H) (F0 := F1) hX fn.body hk, F1, _, g, ?_⟩
    rw [hfl]
    cases fl with
    | rt d' =>
      have hev : R.ok d' = R.ok d := hev
      cases hev
      exact fun v H' F' e' r' => q v F' H' e' r'
    | nx ρ' =>
      have hev : (R.ok .none : R D) = R.ok d := hev
      cases hev
      exact fun σ' H' F' g' _ => q .non F' H' ⟨g'.ff, g'.h0, g'.fh, g'.f0⟩ .non
    | br _ => cases hev
    | cn _ => cases hev
/-- the law's promise -/
def spLaw (K : PySem.W.Frag) : Sp := fun vs H Q _ => ∃ (a : Addr) (ns : List Int), vs = [.ref a] ∧ SqL K H a (ns.map V.int) ∧ ns.length ≤ 63 ∧ ∀ H', Q (.bl true) H'
theorem law_ok {n f : Nat} (hlaw : ∀ ns : List Int, ns.length ≤ 63 → evFn T.P T.wf n f [scr (ns.map .int)] = .ok (.bool true)) {a : Addr} {fd : FuncData} {ps : List Str} (h : FnOk P w K mg base CX0 n a fd ps (spF P w K (evFn T.P T.wf) n f)) : FnOk P w K mg base CX0 n a fd ps (spLaw K) :=
  h.imp fun vs H Q E ⟨b, ns, ev, hS, hl, q⟩ => by
    subst ev
    refine ⟨H, [scr (ns.map .int)], .bool true, Same.refl H, .cons (.scr hS) .nil, hlaw ns hl, fun v F' H' _ r => ?_⟩
    cases r
    exact q H'
end
/-- all there is behind the top -/
theorem law_end {P : Program} {w : World} {K : PySem.W.Frag} {mg : Str → Option Value} {fa : Addr} {T : Tb} {pp : Nat → List Str} {n f : Nat} {x y : Str} (hfa : mg x = some (.ref fa)) (hx : T.nm f = some x) (hy : pp f = [y])
    (hD : ∀ f x, T.nm f = some x → ∃ st fn, DefK K mg x st (pp f) ∧ FnChk T f st (pp f) fn) (hb : ∀ x ∈ bltNames, mg x = none)
    (hc : ∀ p ∈ T.cs, ∃ v u, mg p.1 = some u ∧ RelV v u ∧ Dr P w K (fun _ => none) v p.2)
    (hlaw : ∀ ns : List Int, ns.length ≤ 63 → evFn T.P T.wf n f [scr (ns.map .int)] = .ok (.bool true)) :
    ∃ fd : FuncData, (∀ (s : Shared) (v : Value), BindsTo s fd ⟨[v], []⟩ [(y, v)]) ∧ ∀ base : Heap, K.In base → base.Ns mainGlobals mg → FnOk P w K mg base CX0 n fa fd [y] (spLaw K) := by
  obtain ⟨st, fn, ⟨a, fd, F, hm, b⟩, C⟩ := hD f x hx
  refine ⟨fd, fun s v => .of_eq (by rw [b [v] (by rw [hy]; rfl), hy]; rfl), fun base _ _ => ?_⟩
  obtain ⟨fn', a', fd', i1, i2, i3, i4, i5, i6, i7⟩ := fns_ok (P := P) (w := w) (base := base) hD hb hc n f x hx
  rw [hm] at i3
  cases i3
  rw [hm] at hfa
  cases hfa
  rw [looks_eq (looks_fun F) i6]
  have := law_ok hlaw i7
  rw [hy] at this
  exact this
end KD
/-! KdProg: the defs, as gen.py prints them. -/
namespace KD
open PySem
def sx (l : List Nat) : Str := ⟨l.toArray⟩
def st (l : List Nat) : D := .str (sx l)
abbrev yes : Ex := .cst (.bool true)
def f0_is_key : Fn := { np := 1, nl := 3, body := [.iff (.bnot (.blt .isStr [(.var 0)])) [.ret (.cst (.bool false))] [], .asg (.name 1) (.var 0), .wip [2], .for_ (.name 2) .seq [(.glob "HELPERS" (.tuple [(st [99, 45]), (st [109, 45]), (st [115, 45])]))] [.iff (.mth .startswith (.var 1) [(.var 2)]) [.asg (.name 1) (.slc (.var 1) (.cst (.int 2)) (.cst .none))] []] [2], .iff (.cmp .isin (.var 1) (.glob "WORDS" (.tuple [(st [101, 110, 116, 101, 114]), (st [101, 115, 99]), (st [116, 97, 98]), (st [117, 112]), (st [100, 111, 119, 110])]))) [.ret (.cst (.bool true))] [], .ret (.band (.cmp .eq (.blt .len [(.var 1)]) (.cst (.int 1))) (.cmp .isin (.var 1) (.bin .add (.glob "LETTERS" (st [97, 98, 99, 100, 101, 102, 103, 104, 105, 106, 107, 108, 109, 110, 111, 112, 113, 114, 115, 116, 117, 118, 119, 120, 121, 122])) (.glob "FIGURES" (st [48, 49, 50, 51, 52, 53, 54, 55, 56, 57])))))] }
def f1_l_cell_at : Fn := { np := 2, nl := 2, body := [.iff (.cmp .lt (.var 1) (.blt .len [(.var 0)])) [.ret (.ix (.var 0) (.var 1))] [], .ret (.cst (.int 0))] }
def f2_l_mixed : Fn := { np := 2, nl := 3, body := [.asg (.name 2) (.bin .mod (.bin .mul (.bin .add (.bin .add (.call 1 [(.var 0), (.var 1)]) (.bin .mul (.cst (.int 7919)) (.var 1))) (.cst (.int 1))) (.cst (.int 48271))) (.cst (.int 2147483647))), .ret (.bin .mod (.bin .add (.bin .add (.bin .mul (.var 2) (.var 2)) (.bin .mul (.cst (.int 7)) (.var 2))) (.var 1)) (.cst (.int 2147483629)))] }
def f3_l_drawn : Fn := { np := 2, nl := 3, body := [.asg (.name 2) (.bin .mod (.bin .mul (.bin .add (.bin .add (.var 0) (.bin .mul (.cst (.int 104729)) (.var 1))) (.cst (.int 17))) (.cst (.int 69621))) (.cst (.int 2147483647))), .ret (.bin .mod (.bin .add (.bin .add (.bin .mul (.var 2) (.var 2)) (.bin .mul (.cst (.int 3)) (.var 2))) (.var 1)) (.cst (.int 2147483629)))] }
def f4_l_is_name : Fn := { np := 1, nl := 2, body := [.iff (.bor (.bnot (.blt .isStr [(.var 0)])) (.bnot (.chain .le .le (.cst (.int 1)) (.blt .len [(.var 0)]) (.cst (.int 6))))) [.ret (.cst (.bool false))] [], .ret (.cmp .eq (.comp (.var 1) (.name 1) .seq [(.var 0)] (.bnot (.chain .le .le (.cst (st [97])) (.var 1) (.cst (st [122]))))) (.lst []))] }
def f5_l_is_key : Fn := { np := 1, nl := 5, body := [.iff (.bnot (.blt .isStr [(.var 0)])) [.ret (.cst (.bool false))] [], .asg (.name 1) (.mth .split (.var 0) [(.cst (st [45]))]), .asg (.name 2) (.comp (.var 4) (.name 4) .seq [(.tup [(.cst (st [99])), (.cst (st [109])), (.cst (st [115]))])] (.cmp .isin (.var 4) (.slc (.var 1) (.cst .none) (.neg (.cst (.int 1)))))), .iff (.cmp .ne (.var 2) (.slc (.var 1) (.cst .none) (.neg (.cst (.int 1))))) [.ret (.cst (.bool false))] [], .asg (.name 3) (.ix (.var 1) (.neg (.cst (.int 1)))), .iff (.cmp .isin (.var 3) (.tup [(.cst (st [101, 110, 116, 101, 114])), (.cst (st [101, 115, 99])), (.cst (st [116, 97, 98])), (.cst (st [117, 112])), (.cst (st [100, 111, 119, 110]))])) [.ret (.cst (.bool true))] [], .ret (.band (.cmp .eq (.blt .len [(.var 3)]) (.cst (.int 1))) (.bor (.chain .le .le (.cst (st [97])) (.var 3) (.cst (st [122]))) (.chain .le .le (.cst (st [48])) (.var 3) (.cst (st [57])))))] }
def f6_l_are_pairs : Fn := { np := 2, nl := 3, body := [.iff (.bor (.bnot (.blt .isTuple [(.var 0)])) (.cmp .gt (.blt .len [(.var 0)]) (.var 1))) [.ret (.cst (.bool false))] [], .wip [2], .for_ (.name 2) .seq [(.var 0)] [.iff (.bor (.bnot (.blt .isTuple [(.var 2)])) (.bor (.cmp .ne (.blt .len [(.var 2)]) (.cst (.int 2))) (.bnot (.call 4 [(.ix (.var 2) (.cst (.int 0)))])))) [.ret (.cst (.bool false))] []] [2], .ret (.cst (.bool true))] }
def f7_l_is_house : Fn := { np := 1, nl := 6, body := [.iff (.bor (.bnot (.blt .isTuple [(.var 0)])) (.bor (.cmp .ne (.blt .len [(.var 0)]) (.cst (.int 2))) (.cmp .eq (.ix (.var 0) (.cst (.int 0))) (.tup [])))) [.ret (.cst (.bool false))] [], .iff (.bor (.bnot (.call 6 [(.ix (.var 0) (.cst (.int 0))), (.cst (.int 6))])) (.bnot (.call 6 [(.ix (.var 0) (.cst (.int 1))), (.cst (.int 4))]))) [.ret (.cst (.bool false))] [], .own 1 (.lst []), .wip [3, 4], .for_ (.tup [(.name 3), (.name 4)]) .seq [(.ix (.var 0) (.cst (.int 0)))] [.iff (.bor (.cmp .isin (.var 3) (.var 1)) (.band (.cmp .isnot (.var 4) (.cst .none)) (.bor (.bnot (.call 4 [(.var 4)])) (.cmp .notin (.var 4) (.var 1))))) [.ret (.cst (.bool false))] [], .app 1 (.var 3)] [3, 4], .wip [3], .for_ (.tup [(.name 5), (.name 3)]) .seq [(.ix (.var 0) (.cst (.int 1)))] [.iff (.bor (.bnot (.call 4 [(.var 3)])) (.cmp .notin (.var 3) (.var 1))) [.ret (.cst (.bool false))] []] [3], .asg (.name 2) (.comp (.var 5) (.tup [(.name 5), (.name 3)]) .seq [(.ix (.var 0) (.cst (.int 1)))] yes), .ret (.cmp .eq (.var 2) (.blt .sortedSet [(.var 2)]))] }
def f8_l_is_map : Fn := { np := 2, nl := 7, body := [.iff (.bor (.bnot (.blt .isTuple [(.var 1)])) (.cmp .gt (.blt .len [(.var 1)]) (.cst (.int 12)))) [.ret (.cst (.bool false))] [], .asg (.name 2) (.comp (.var 4) (.tup [(.name 4), (.name 5)]) .seq [(.ix (.var 0) (.cst (.int 0)))] yes), .wip [], .for_ (.name 3) .seq [(.var 1)] [.iff (.bor (.bnot (.blt .isTuple [(.var 3)])) (.bor (.cmp .ne (.blt .len [(.var 3)]) (.cst (.int 3))) (.bor (.bnot (.call 4 [(.ix (.var 3) (.cst (.int 0)))])) (.cmp .notin (.ix (.var 3) (.cst (.int 0))) (.var 2))))) [.ret (.cst (.bool false))] [], .iff (.bor (.bnot (.blt .isTuple [(.ix (.var 3) (.cst (.int 1)))])) (.bnot (.chain .le .le (.cst (.int 1)) (.blt .len [(.ix (.var 3) (.cst (.int 1)))]) (.cst (.int 3))))) [.ret (.cst (.bool false))] [], .iff (.cmp .ne (.comp (.var 6) (.name 6) .seq [(.ix (.var 3) (.cst (.int 1)))] (.bnot (.call 5 [(.var 6)]))) (.lst [])) [.ret (.cst (.bool false))] [], .iff (.band (.cmp .isnot (.ix (.var 3) (.cst (.int 2))) (.cst .none)) (.bnot (.call 4 [(.ix (.var 3) (.cst (.int 2)))]))) [.ret (.cst (.bool false))] []] [], .ret (.cmp .eq (.blt .lenSet [(.comp (.slc (.var 3) (.cst .none) (.cst (.int 2))) (.name 3) .seq [(.var 1)] yes)]) (.blt .len [(.var 1)]))] }
def f9_l_odd : Fn := { np := 1, nl := 2, body := [.asg (.name 1) (.lst [(.neg (.cst (.int 1))), (.cst (.int 0)), (.cst (.int 1)), (.cst (.bool true)), (.cst .none), (.cst (st [])), (.cst (st [97])), (.cst (st [97, 108, 108])), (.cst (st [116, 101, 120, 116])), (.cst (st [110, 111, 110, 101])), (.cst (st [99, 45, 97])), (.cst (st [109, 45, 99, 45, 97])), (.cst (st [99, 45, 99, 45, 97])), (.cst (st [45])), (.cst (st [101, 115, 99])), (.cst (st [69, 115, 99])), (.cst (st [115, 101, 118, 101, 110, 116, 104]))]), .asg (.name 1) (.bin .add (.var 1) (.lst [(.tup []), (.lst []), (.tup [(.cst (st [97]))]), (.tup [(.cst (st [97])), (.cst (st [98])), (.cst (st [99])), (.cst (st [97]))]), (.tup [(.cst (st [97, 108, 108])), (.cst .none)]), (.tup [(.cst (st [116, 101, 120, 116])), (.cst (st [97, 108, 108]))]), (.tup [(.cst (st [103, 111])), (.cst (st [97, 108, 108]))]), (.tup [(.cst (st [120])), (.cst (st [120]))])])), .ret (.ix (.bin .add (.var 1) (.lst [(.tup [(.cst (st [97, 108, 108])), (.tup [(.cst (st [97]))]), (.cst (st [103, 111]))]), (.tup [(.cst (st [97, 108, 108])), (.tup []), (.cst (st [103, 111]))]), (.tup [(.cst (st [97, 108, 108])), (.tup [(.cst (st [97]))]), (.cst .none)]), (.cst (st [99, 45])), (.cst (st [97, 97])), (.cst (st [43])), (.cst (st [55]))])) (.bin .mod (.var 0) (.cst (.int 32))))] }
def f10_l_spoilt : Fn := { np := 3, nl := 5, body := [.iff (.band (.cmp .gt (.var 2) (.cst (.int 0))) (.band (.blt .isTuple [(.var 0)]) (.band (.cmp .gt (.blt .len [(.var 0)]) (.cst (.int 0))) (.cmp .gt (.bin .mod (.var 1) (.cst (.int 6))) (.cst (.int 0)))))) [.asg (.name 3) (.bin .mod (.bin .fdiv (.var 1) (.cst (.int 6))) (.blt .len [(.var 0)])), .asg (.name 4) (.call 10 [(.ix (.var 0) (.var 3)), (.bin .fdiv (.call 3 [(.var 1), (.var 2)]) (.cst (.int 4))), (.bin .sub (.var 2) (.cst (.int 1)))]), .ret (.bin .add (.bin .add (.slc (.var 0) (.cst .none) (.var 3)) (.tup [(.var 4)])) (.slc (.var 0) (.bin .add (.var 3) (.cst (.int 1))) (.cst .none)))] [], .iff (.band (.blt .isTuple [(.var 0)]) (.band (.cmp .gt (.blt .len [(.var 0)]) (.cst (.int 0))) (.cmp .eq (.bin .mod (.bin .fdiv (.var 1) (.cst (.int 6))) (.cst (.int 2))) (.cst (.int 0))))) [.ret (.ix (.lst [(.blt .list [(.var 0)]), (.slc (.var 0) (.cst .none) (.neg (.cst (.int 1)))), (.bin .add (.var 0) (.slc (.var 0) (.neg (.cst (.int 1))) (.cst .none))), (.slc (.var 0) (.cst (.int 1)) (.cst .none)), (.stp (.var 0) (.cst .none) (.neg (.cst (.int 1)))), (.bin .mul (.var 0) (.cst (.int 3)))]) (.bin .mod (.bin .fdiv (.var 1) (.cst (.int 12))) (.cst (.int 6))))] [], .iff (.band (.blt .isStr [(.var 0)]) (.cmp .eq (.bin .mod (.bin .fdiv (.var 1) (.cst (.int 6))) (.cst (.int 2))) (.cst (.int 0)))) [.ret (.ix (.lst [(.bin .add (.var 0) (.cst (st [97]))), (.slc (.var 0) (.cst (.int 1)) (.cst .none)), (.bin .add (.cst (st [99, 45])) (.var 0)), (.mth .upper (.var 0) []), (.bin .add (.var 0) (.cst (st [45]))), (.bin .add (.cst (st [109, 45])) (.var 0))]) (.bin .mod (.bin .fdiv (.var 1) (.cst (.int 12))) (.cst (.int 6))))] [], .ret (.call 9 [(.bin .fdiv (.var 1) (.cst (.int 6)))])] }
def f11_l_once : Fn := { np := 1, nl := 6, body := [.asg (.name 1) (.call 2 [(.var 0), (.cst (.int 0))]), .asg (.name 2) (.cst (st [])), .wip [3], .for_ (.name 3) .range1 [(.bin .mod (.var 1) (.cst (.int 5)))] [.asg (.name 2) (.bin .add (.var 2) (.ix (.lst [(.cst (st [99, 45])), (.cst (st [109, 45])), (.cst (st [115, 45])), (.cst (st [99, 45])), (.cst (st [45]))]) (.bin .mod (.bin .fdiv (.call 3 [(.var 1), (.var 3)]) (.cst (.int 4))) (.ix (.tup [(.cst (.int 5)), (.cst (.int 3)), (.cst (.int 4)), (.cst (.int 5))]) (.bin .mod (.bin .fdiv (.var 1) (.cst (.int 8))) (.cst (.int 4)))))))] [3], .asg (.name 4) (.lst [(.cst (st [97])), (.cst (st [122])), (.cst (st [48])), (.cst (st [57])), (.cst (st [101, 110, 116, 101, 114])), (.cst (st [101, 115, 99])), (.cst (st [116, 97, 98])), (.cst (st [117, 112])), (.cst (st [100, 111, 119, 110])), (.cst (st [99])), (.cst (st [])), (.cst (st [97, 98])), (.cst (st [65])), (.cst (st [108, 101, 102, 116])), (.cst (st [115])), (.cst (st [109]))]), .asg (.name 2) (.bin .add (.var 2) (.ix (.var 4) (.bin .mod (.bin .fdiv (.var 1) (.cst (.int 32))) (.cst (.int 16))))), .iff (.cmp .eq (.bin .mod (.bin .fdiv (.var 1) (.cst (.int 512))) (.cst (.int 4))) (.cst (.int 1))) [.asg (.name 2) (.call 9 [(.bin .fdiv (.var 1) (.cst (.int 2048)))])] [], .asg (.name 5) (.call 0 [(.var 2)]), .ret (.band (.blt .isBool [(.var 5)]) (.cmp .eq (.var 5) (.call 5 [(.var 2)])))] }
def f12_law : Fn := { np := 1, nl := 2, body := [.ret (.band (.call 11 [(.var 0)]) (.call 11 [(.comp (.bin .add (.var 1) (.cst (.int 1))) (.name 1) .seq [(.stp (.var 0) (.cst .none) (.neg (.cst (.int 1))))] yes)]))] }
def f13_is_name : Fn := { np := 1, nl := 2, body := [.ret (.band (.blt .isStr [(.var 0)]) (.band (.chain .le .le (.cst (.int 1)) (.blt .len [(.var 0)]) (.glob "LONGEST" (.int 6))) (.blt .all [(.comp (.cmp .isin (.var 1) (.glob "LETTERS" (st [97, 98, 99, 100, 101, 102, 103, 104, 105, 106, 107, 108, 109, 110, 111, 112, 113, 114, 115, 116, 117, 118, 119, 120, 121, 122]))) (.name 1) .seq [(.var 0)] yes)])))] }
def f14_is_pair : Fn := { np := 1, nl := 1, body := [.ret (.band (.blt .isTuple [(.var 0)]) (.band (.cmp .eq (.blt .len [(.var 0)]) (.cst (.int 2))) (.call 13 [(.ix (.var 0) (.cst (.int 0)))])))] }
def f15_are_rooms : Fn := { np := 1, nl := 4, body := [.iff (.bor (.bnot (.blt .isTuple [(.var 0)])) (.bor (.bnot (.chain .le .le (.cst (.int 1)) (.blt .len [(.var 0)]) (.glob "MOST_ROOMS" (.int 6)))) (.bnot (.blt .all [(.comp (.call 14 [(.var 3)]) (.name 3) .seq [(.var 0)] yes)])))) [.ret (.cst (.bool false))] [], .asg (.name 1) (.comp (.ix (.var 3) (.cst (.int 0))) (.name 3) .seq [(.var 0)] yes), .wip [2, 3], .for_ (.tup [(.name 2), (.name 3)]) .enum [(.var 0)] [.iff (.band (.cmp .isnot (.ix (.var 3) (.cst (.int 1))) (.cst .none)) (.bor (.bnot (.call 13 [(.ix (.var 3) (.cst (.int 1)))])) (.cmp .notin (.ix (.var 3) (.cst (.int 1))) (.slc (.var 1) (.cst .none) (.var 2))))) [.ret (.cst (.bool false))] []] [2, 3], .ret (.cmp .eq (.blt .lenSet [(.var 1)]) (.blt .len [(.var 1)]))] }
def f16_is_house : Fn := { np := 1, nl := 6, body := [.iff (.bor (.bnot (.blt .isTuple [(.var 0)])) (.bor (.cmp .ne (.blt .len [(.var 0)]) (.cst (.int 2))) (.bnot (.call 15 [(.ix (.var 0) (.cst (.int 0)))])))) [.ret (.cst (.bool false))] [], .asg (.name 1) (.ix (.var 0) (.cst (.int 1))), .iff (.bor (.bnot (.blt .isTuple [(.var 1)])) (.bor (.cmp .gt (.blt .len [(.var 1)]) (.glob "MOST_WAYS" (.int 4))) (.bnot (.blt .all [(.comp (.call 14 [(.var 3)]) (.name 3) .seq [(.var 1)] yes)])))) [.ret (.cst (.bool false))] [], .asg (.name 2) (.comp (.ix (.var 3) (.cst (.int 0))) (.name 3) .seq [(.ix (.var 0) (.cst (.int 0)))] yes), .iff (.bnot (.blt .all [(.comp (.band (.call 13 [(.ix (.var 3) (.cst (.int 1)))]) (.cmp .isin (.ix (.var 3) (.cst (.int 1))) (.var 2))) (.name 3) .seq [(.var 1)] yes)])) [.ret (.cst (.bool false))] [], .ret (.blt .all [(.comp (.cmp .lt (.ix (.var 4) (.cst (.int 0))) (.ix (.var 5) (.cst (.int 0)))) (.tup [(.name 4), (.name 5)]) .zip [(.slc (.var 1) (.cst .none) (.neg (.cst (.int 1)))), (.slc (.var 1) (.cst (.int 1)) (.cst .none))] yes)])] }
def f17_is_bind : Fn := { np := 2, nl := 3, body := [.iff (.bor (.bnot (.blt .isTuple [(.var 0)])) (.bor (.cmp .ne (.blt .len [(.var 0)]) (.cst (.int 3))) (.bor (.bnot (.call 13 [(.ix (.var 0) (.cst (.int 0)))])) (.cmp .notin (.ix (.var 0) (.cst (.int 0))) (.var 1))))) [.ret (.cst (.bool false))] [], .iff (.bor (.bnot (.blt .isTuple [(.ix (.var 0) (.cst (.int 1)))])) (.bnot (.chain .le .le (.cst (.int 1)) (.blt .len [(.ix (.var 0) (.cst (.int 1)))]) (.glob "MOST_KEYS" (.int 3))))) [.ret (.cst (.bool false))] [], .iff (.bnot (.blt .all [(.comp (.call 0 [(.var 2)]) (.name 2) .seq [(.ix (.var 0) (.cst (.int 1)))] yes)])) [.ret (.cst (.bool false))] [], .ret (.bor (.cmp .is (.ix (.var 0) (.cst (.int 2))) (.cst .none)) (.call 13 [(.ix (.var 0) (.cst (.int 2)))]))] }
def f18_is_map : Fn := { np := 2, nl := 4, body := [.asg (.name 2) (.comp (.ix (.var 3) (.cst (.int 0))) (.name 3) .seq [(.ix (.var 0) (.cst (.int 0)))] yes), .iff (.bor (.bnot (.blt .isTuple [(.var 1)])) (.bor (.cmp .gt (.blt .len [(.var 1)]) (.glob "MOST_BINDS" (.int 12))) (.bnot (.blt .all [(.comp (.call 17 [(.var 3), (.var 2)]) (.name 3) .seq [(.var 1)] yes)])))) [.ret (.cst (.bool false))] [], .ret (.cmp .eq (.blt .lenSet [(.comp (.slc (.var 3) (.cst .none) (.cst (.int 2))) (.name 3) .seq [(.var 1)] yes)]) (.blt .len [(.var 1)]))] }
def f19_l_key : Fn := { np := 1, nl := 1, body := [.ret (.ix (.lst [(.cst (st [97])), (.cst (st [98])), (.cst (st [99])), (.cst (st [97])), (.cst (st [98])), (.cst (st [101, 110, 116, 101, 114])), (.cst (st [99, 45, 97])), (.cst (st [109, 45, 120])), (.cst (st [99, 45, 109, 45, 115, 45, 117, 112])), (.cst (st [49]))]) (.bin .mod (.var 0) (.cst (.int 10))))] }
def f20_l_house : Fn := { np := 1, nl := 9, body := [.asg (.name 1) (.lst [(.cst (st [97, 108, 108])), (.cst (st [116, 101, 120, 116])), (.cst (st [109, 97, 105, 108])), (.cst (st [113, 117, 105, 116])), (.cst (st [102, 105, 110, 100])), (.cst (st [122, 111, 111, 109]))]), .own 2 (.lst [(.tup [(.ix (.var 1) (.bin .mod (.var 0) (.cst (.int 6)))), (.cst .none)])]), .wip [3, 5, 6, 7], .for_ (.name 3) .range1 [(.bin .mod (.bin .fdiv (.var 0) (.cst (.int 6))) (.cst (.int 5)))] [.asg (.name 5) (.bin .fdiv (.call 3 [(.var 0), (.var 3)]) (.cst (.int 4))), .asg (.name 6) (.ix (.var 1) (.bin .mod (.bin .add (.bin .add (.var 0) (.var 3)) (.cst (.int 1))) (.cst (.int 6)))), .asg (.name 7) (.ix (.ix (.var 2) (.bin .mod (.var 5) (.blt .len [(.var 2)]))) (.cst (.int 0))), .app 2 (.tup [(.var 6), (.ix (.lst [(.var 7), (.cst .none)]) (.blt .int [(.cmp .eq (.bin .mod (.bin .fdiv (.var 5) (.cst (.int 16))) (.cst (.int 4))) (.cst (.int 0)))]))])] [3, 5, 6, 7], .own 4 (.lst []), .wip [3, 5, 8], .for_ (.tup [(.name 3), (.name 8)]) .enum [(.tup [(.cst (st [103, 111])), (.cst (st [105, 110])), (.cst (st [111, 117, 116])), (.cst (st [115, 101, 116]))])] [.asg (.name 5) (.bin .fdiv (.call 3 [(.var 0), (.bin .add (.cst (.int 10)) (.var 3))]) (.cst (.int 4))), .iff (.cmp .eq (.bin .mod (.var 5) (.cst (.int 3))) (.cst (.int 0))) [.app 4 (.tup [(.var 8), (.ix (.ix (.var 2) (.bin .mod (.bin .fdiv (.var 5) (.cst (.int 4))) (.blt .len [(.var 2)]))) (.cst (.int 0)))])] []] [3, 5, 8], .ret (.tup [(.blt .tuple [(.var 2)]), (.blt .tuple [(.var 4)])])] }
def f21_l_bind : Fn := { np := 2, nl := 6, body := [.asg (.name 2) (.ix (.ix (.ix (.var 0) (.cst (.int 0))) (.bin .mod (.var 1) (.blt .len [(.ix (.var 0) (.cst (.int 0)))]))) (.cst (.int 0))), .asg (.name 3) (.blt .tuple [(.comp (.call 19 [(.bin .fdiv (.call 3 [(.var 1), (.var 5)]) (.cst (.int 4)))]) (.name 5) .range1 [(.ix (.tup [(.cst (.int 1)), (.cst (.int 2)), (.cst (.int 1)), (.cst (.int 3)), (.cst (.int 2))]) (.bin .mod (.bin .fdiv (.var 1) (.cst (.int 8))) (.cst (.int 5))))] yes)]), .asg (.name 4) (.ix (.lst [(.cst (st [103, 111])), (.cst (st [105, 110])), (.cst (st [111, 117, 116])), (.cst (st [115, 101, 116])), (.cst (st [99, 111, 112, 121])), (.cst (st [117, 110, 100, 111])), (.cst .none), (.cst (st [103, 111])), (.cst (st [105, 110]))]) (.bin .mod (.bin .fdiv (.var 1) (.cst (.int 64))) (.cst (.int 9)))), .ret (.tup [(.var 2), (.var 3), (.var 4)])] }
def f22_l_map : Fn := { np := 3, nl := 7, body := [.own 3 (.lst []), .wip [4, 5], .for_ (.name 4) .range1 [(.bin .mod (.var 1) (.bin .add (.var 2) (.cst (.int 1))))] [.asg (.name 5) (.call 21 [(.var 0), (.bin .fdiv (.call 3 [(.var 1), (.bin .add (.cst (.int 20)) (.var 4))]) (.cst (.int 4)))]), .iff (.cmp .notin (.slc (.var 5) (.cst .none) (.cst (.int 2))) (.comp (.slc (.var 6) (.cst .none) (.cst (.int 2))) (.name 6) .seq [(.var 3)] yes)) [.app 3 (.var 5)] []] [4, 5], .ret (.blt .tuple [(.var 3)])] }
def f23_l_is_map : Fn := { np := 2, nl := 7, body := [.iff (.bor (.bnot (.blt .isTuple [(.var 1)])) (.cmp .gt (.blt .len [(.var 1)]) (.cst (.int 12)))) [.ret (.cst (.bool false))] [], .asg (.name 2) (.comp (.var 4) (.tup [(.name 4), (.name 5)]) .seq [(.ix (.var 0) (.cst (.int 0)))] yes), .wip [], .for_ (.name 3) .seq [(.var 1)] [.iff (.bor (.bnot (.blt .isTuple [(.var 3)])) (.bor (.cmp .ne (.blt .len [(.var 3)]) (.cst (.int 3))) (.bor (.bnot (.call 4 [(.ix (.var 3) (.cst (.int 0)))])) (.cmp .notin (.ix (.var 3) (.cst (.int 0))) (.var 2))))) [.ret (.cst (.bool false))] [], .iff (.bor (.bnot (.blt .isTuple [(.ix (.var 3) (.cst (.int 1)))])) (.bnot (.chain .le .le (.cst (.int 1)) (.blt .len [(.ix (.var 3) (.cst (.int 1)))]) (.cst (.int 3))))) [.ret (.cst (.bool false))] [], .iff (.cmp .ne (.comp (.var 6) (.name 6) .seq [(.ix (.var 3) (.cst (.int 1)))] (.bnot (.call 5 [(.var 6)]))) (.lst [])) [.ret (.cst (.bool false))] [], .iff (.band (.cmp .isnot (.ix (.var 3) (.cst (.int 2))) (.cst .none)) (.bnot (.call 4 [(.ix (.var 3) (.cst (.int 2)))]))) [.ret (.cst (.bool false))] []] [], .ret (.cmp .eq (.blt .lenSet [(.comp (.slc (.var 3) (.cst .none) (.cst (.int 2))) (.name 3) .seq [(.var 1)] yes)]) (.blt .len [(.var 1)]))] }
def f24_law : Fn := { np := 1, nl := 13, body := [.asg (.name 1) (.call 20 [(.call 2 [(.var 0), (.cst (.int 0))])]), .asg (.name 2) (.call 2 [(.var 0), (.cst (.int 1))]), .asg (.name 3) (.var 1), .iff (.cmp .eq (.bin .mod (.var 2) (.cst (.int 2))) (.cst (.int 1))) [.asg (.name 3) (.call 10 [(.var 1), (.call 2 [(.var 0), (.cst (.int 2))]), (.bin .mod (.bin .fdiv (.var 2) (.cst (.int 2))) (.cst (.int 4)))])] [], .iff (.cmp .eq (.bin .mod (.bin .fdiv (.var 2) (.cst (.int 64))) (.cst (.int 8))) (.cst (.int 1))) [.asg (.name 3) (.tup [(.stp (.ix (.var 1) (.cst (.int 0))) (.cst .none) (.neg (.cst (.int 1)))), (.ix (.var 1) (.cst (.int 1)))])] [], .asg (.name 4) (.call 16 [(.var 3)]), .iff (.bor (.bnot (.blt .isBool [(.var 4)])) (.cmp .ne (.var 4) (.call 7 [(.var 3)]))) [.ret (.cst (.bool false))] [], .asg (.name 5) (.blt .tuple [(.comp (.tup [(.ix (.cst (st [97, 98, 99, 100, 101, 102, 103])) (.var 12)), (.cst .none)]) (.name 12) .range1 [(.bin .add (.cst (.int 5)) (.bin .mod (.bin .fdiv (.var 2) (.cst (.int 1024))) (.cst (.int 3))))] yes)]), .asg (.name 6) (.blt .tuple [(.comp (.tup [(.ix (.cst (st [97, 98, 99, 100, 101, 102, 103])) (.var 12)), (.cst (st [97]))]) (.name 12) .range1 [(.bin .add (.cst (.int 3)) (.bin .mod (.bin .fdiv (.var 2) (.cst (.int 4096))) (.cst (.int 3))))] yes)]), .asg (.name 7) (.slc (.cst (st [97, 98, 99, 100, 101, 102, 103, 104])) (.cst .none) (.bin .add (.cst (.int 5)) (.bin .mod (.bin .fdiv (.var 2) (.cst (.int 16384))) (.cst (.int 3))))), .wip [8], .for_ (.name 8) .seq [(.tup [(.tup [(.var 5), (.var 6)]), (.tup [(.tup [(.tup [(.var 7), (.cst .none)])]), (.tup [])]), (.tup [(.var 5), (.tup [(.tup [(.var 7), (.cst (st [97]))])])])])] [.iff (.cmp .ne (.call 16 [(.var 8)]) (.call 7 [(.var 8)])) [.ret (.cst (.bool false))] []] [8], .asg (.name 3) (.call 22 [(.var 1), (.call 2 [(.var 0), (.cst (.int 3))]), (.cst (.int 16))]), .iff (.cmp .eq (.bin .mod (.bin .fdiv (.var 2) (.cst (.int 8))) (.cst (.int 2))) (.cst (.int 1))) [.asg (.name 3) (.call 10 [(.var 3), (.call 2 [(.var 0), (.cst (.int 4))]), (.bin .mod (.bin .fdiv (.var 2) (.cst (.int 16))) (.cst (.int 4)))])] [], .asg (.name 9) (.ix (.ix (.ix (.var 1) (.cst (.int 0))) (.cst (.int 0))) (.cst (.int 0))), .asg (.name 10) (.ix (.tup [(.cst (st [103, 111])), (.cst (st [111, 110])), (.cst .none)]) (.bin .mod (.bin .fdiv (.var 2) (.cst (.int 65536))) (.cst (.int 3)))), .asg (.name 11) (.tup [(.tup [(.var 9), (.tup [(.cst (st [97]))]), (.cst (st [103, 111]))]), (.tup [(.var 9), (.slc (.tup [(.cst (st [97])), (.cst (st [98]))]) (.cst .none) (.bin .add (.cst (.int 1)) (.bin .mod (.bin .fdiv (.var 2) (.cst (.int 32768))) (.cst (.int 2))))), (.var 10)])]), .iff (.cmp .ne (.call 18 [(.var 1), (.var 11)]) (.call 23 [(.var 1), (.var 11)])) [.ret (.cst (.bool false))] [], .asg (.name 4) (.call 18 [(.var 1), (.var 3)]), .ret (.band (.blt .isBool [(.var 4)]) (.cmp .eq (.var 4) (.call 23 [(.var 1), (.var 3)])))] }
def f25_room_text : Fn := { np := 2, nl := 2, body := [.iff (.cmp .is (.var 1) (.cst .none)) [.ret (.var 0)] [], .ret (.bin .add (.bin .add (.var 0) (.cst (st [32, 60, 32]))) (.var 1))] }
def f26_written_house : Fn := { np := 1, nl := 6, body := [.asg (.name 1) (.mth .join (.cst (st [44, 32])) [(.comp (.call 25 [(.var 3), (.var 4)]) (.tup [(.name 3), (.name 4)]) .seq [(.ix (.var 0) (.cst (.int 0)))] yes)]), .asg (.name 2) (.mth .join (.cst (st [44, 32])) [(.comp (.bin .add (.bin .add (.var 5) (.cst (st [32, 62, 32]))) (.var 3)) (.tup [(.name 5), (.name 3)]) .seq [(.ix (.var 0) (.cst (.int 1)))] yes)]), .iff (.cmp .eq (.blt .len [(.ix (.var 0) (.cst (.int 1)))]) (.cst (.int 0))) [.asg (.name 2) (.cst (st [110, 111, 110, 101]))] [], .ret (.bin .add (.bin .add (.var 1) (.cst (st [32, 124, 32]))) (.var 2))] }
def f27_bind_text : Fn := { np := 1, nl := 4, body := [.asg (.tup [(.name 1), (.name 2), (.name 3)]) (.var 0), .iff (.cmp .is (.var 3) (.cst .none)) [.asg (.name 3) (.cst (st [45]))] [], .ret (.bin .add (.bin .add (.bin .add (.bin .add (.var 1) (.cst (st [58, 32]))) (.mth .join (.cst (st [32])) [(.var 2)])) (.cst (st [32, 61, 32]))) (.var 3))] }
def f28_written : Fn := { np := 1, nl := 2, body := [.iff (.cmp .eq (.blt .len [(.var 0)]) (.cst (.int 0))) [.ret (.cst (st [110, 111, 110, 101]))] [], .ret (.mth .join (.cst (st [32, 59, 32])) [(.comp (.call 27 [(.var 1)]) (.name 1) .seq [(.var 0)] yes)])] }
def f29_l_house_text : Fn := { np := 1, nl := 6, body := [.asg (.name 1) (.comp (.bin .add (.var 3) (.ix (.lst [(.bin .add (.cst (st [32, 60, 32])) (.blt .str [(.var 4)])), (.cst (st []))]) (.blt .int [(.cmp .is (.var 4) (.cst .none))]))) (.tup [(.name 3), (.name 4)]) .seq [(.ix (.var 0) (.cst (.int 0)))] yes), .asg (.name 2) (.comp (.bin .add (.bin .add (.var 5) (.cst (st [32, 62, 32]))) (.var 3)) (.tup [(.name 5), (.name 3)]) .seq [(.ix (.var 0) (.cst (.int 1)))] yes), .ret (.bin .add (.bin .add (.mth .join (.cst (st [44, 32])) [(.var 1)]) (.cst (st [32, 124, 32]))) (.mth .join (.cst (st [44, 32])) [(.bin .add (.var 2) (.bin .mul (.lst [(.cst (st [110, 111, 110, 101]))]) (.blt .int [(.cmp .eq (.var 2) (.lst []))])))]))] }
def f30_l_text : Fn := { np := 1, nl := 5, body := [.asg (.name 1) (.comp (.bin .add (.bin .add (.bin .add (.bin .add (.var 2) (.cst (st [58, 32]))) (.mth .join (.cst (st [32])) [(.var 3)])) (.cst (st [32, 61, 32]))) (.ix (.lst [(.blt .str [(.var 4)]), (.cst (st [45]))]) (.blt .int [(.cmp .is (.var 4) (.cst .none))]))) (.tup [(.name 2), (.name 3), (.name 4)]) .seq [(.var 0)] yes), .ret (.mth .join (.cst (st [32, 59, 32])) [(.bin .add (.var 1) (.bin .mul (.lst [(.cst (st [110, 111, 110, 101]))]) (.blt .int [(.cmp .eq (.var 1) (.lst []))])))])] }
def f31_law : Fn := { np := 1, nl := 3, body := [.asg (.name 1) (.call 20 [(.call 2 [(.var 0), (.cst (.int 0))])]), .asg (.name 2) (.call 22 [(.var 1), (.call 2 [(.var 0), (.cst (.int 1))]), (.cst (.int 10))]), .ret (.band (.cmp .eq (.call 26 [(.var 1)]) (.call 29 [(.var 1)])) (.cmp .eq (.call 28 [(.var 2)]) (.call 30 [(.var 2)])))] }
-- 32 two_of: stmt Raise
def f33_room_of : Fn := { np := 1, nl := 1, body := [.iff (.cmp .notin (.cst (st [32, 60, 32])) (.var 0)) [.ret (.tup [(.var 0), (.cst .none)])] [], .ret (.blt .tuple [(.call 32 [(.var 0), (.cst (st [32, 60, 32]))])])] }
-- 34 read_house: stmt Raise
def f35_l_changed : Fn := { np := 2, nl := 9, body := [.asg (.name 2) (.mth .split (.var 0) [(.cst (st [32]))]), .asg (.name 3) (.bin .mod (.bin .fdiv (.var 1) (.cst (.int 8))) (.blt .len [(.var 2)])), .asg (.name 4) (.lst [(.cst (st [60])), (.cst (st [62])), (.cst (st [124])), (.cst (st [110, 111, 110, 101])), (.cst (st [59])), (.cst (st [61])), (.cst (st [45])), (.cst (st [97])), (.cst (st [97, 108, 108])), (.cst (st [97, 108, 108, 58])), (.cst (st [116, 101, 120, 116, 44])), (.cst (st [103, 111])), (.cst (st [])), (.cst (st [99, 45, 97])), (.cst (st [98])), (.cst (st [44]))]), .asg (.name 5) (.slc (.var 2) (.cst .none) (.var 3)), .asg (.name 6) (.ix (.var 2) (.var 3)), .asg (.name 7) (.slc (.var 2) (.bin .add (.var 3) (.cst (.int 1))) (.cst .none)), .own 8 (.lst [(.bin .add (.var 5) (.var 7)), (.bin .add (.bin .add (.var 5) (.lst [(.var 6), (.var 6)])) (.var 7)), (.bin .add (.bin .add (.var 5) (.lst [(.ix (.var 4) (.bin .mod (.bin .fdiv (.var 1) (.cst (.int 256))) (.cst (.int 16))))])) (.var 7))]), .asg (.name 8) (.bin .add (.var 8) (.lst [(.bin .add (.bin .add (.var 5) (.lst [(.slc (.var 6) (.cst .none) (.neg (.cst (.int 1))))])) (.var 7)), (.bin .add (.bin .add (.var 5) (.lst [(.bin .add (.var 6) (.cst (st [97])))])) (.var 7))])), .app 8 (.bin .add (.bin .add (.bin .add (.var 5) (.slc (.var 7) (.cst .none) (.cst (.int 1)))) (.lst [(.var 6)])) (.slc (.var 7) (.cst (.int 1)) (.cst .none))), .ret (.mth .join (.cst (st [32])) [(.ix (.var 8) (.bin .mod (.var 1) (.cst (.int 6))))])] }
-- 36 _law_told: stmt Try
def f37_l_due : Fn := { np := 1, nl := 7, body := [.asg (.name 1) (.mth .split (.var 0) [(.cst (st [32, 124, 32]))]), .iff (.cmp .ne (.blt .len [(.var 1)]) (.cst (.int 2))) [.ret (.cst .none)] [], .asg (.name 2) (.tup []), .wip [3, 6], .for_ (.name 3) .seq [(.mth .split (.ix (.var 1) (.cst (.int 0))) [(.cst (st [44, 32]))])] [.asg (.name 6) (.mth .split (.var 3) [(.cst (st [32, 60, 32]))]), .iff (.cmp .gt (.blt .len [(.var 6)]) (.cst (.int 2))) [.ret (.cst .none)] [], .asg (.name 2) (.bin .add (.var 2) (.tup [(.blt .tuple [(.slc (.bin .add (.var 6) (.lst [(.cst .none)])) (.cst .none) (.cst (.int 2)))])]))] [3, 6], .asg (.name 4) (.tup []), .wip [3], .for_ (.name 3) .seq [(.mth .split (.ix (.var 1) (.cst (.int 1))) [(.cst (st [44, 32]))])] [.iff (.cmp .ne (.ix (.var 1) (.cst (.int 1))) (.cst (st [110, 111, 110, 101]))) [.asg (.name 4) (.bin .add (.var 4) (.tup [(.blt .tuple [(.mth .split (.var 3) [(.cst (st [32, 62, 32]))])])]))] []] [3], .asg (.name 5) (.tup [(.var 2), (.var 4)]), .iff (.bor (.bnot (.call 7 [(.var 5)])) (.cmp .ne (.call 29 [(.var 5)]) (.var 0))) [.ret (.cst .none)] [], .ret (.var 5)] }
-- 38 law: Lambda
def f39_bind_of : Fn := { np := 1, nl := 5, body := [.asg (.tup [(.name 1), (.name 2)]) (.call 32 [(.var 0), (.cst (st [58, 32]))]), .asg (.tup [(.name 3), (.name 4)]) (.call 32 [(.var 2), (.cst (st [32, 61, 32]))]), .iff (.cmp .eq (.var 4) (.cst (st [45]))) [.ret (.tup [(.var 1), (.blt .tuple [(.mth .split (.var 3) [(.cst (st [32]))])]), (.cst .none)])] [], .ret (.tup [(.var 1), (.blt .tuple [(.mth .split (.var 3) [(.cst (st [32]))])]), (.var 4)])] }
-- 40 read: stmt Raise
def f41_l_due : Fn := { np := 2, nl := 7, body := [.asg (.name 2) (.tup []), .wip [3, 4, 5, 6], .for_ (.name 3) .seq [(.mth .split (.var 1) [(.cst (st [32, 59, 32]))])] [.asg (.name 4) (.mth .split (.var 3) [(.cst (st [32, 61, 32]))]), .iff (.cmp .ne (.var 1) (.cst (st [110, 111, 110, 101]))) [.asg (.name 5) (.mth .split (.ix (.var 4) (.cst (.int 0))) [(.cst (st [58, 32]))]), .iff (.bor (.cmp .ne (.blt .len [(.var 4)]) (.cst (.int 2))) (.cmp .ne (.blt .len [(.var 5)]) (.cst (.int 2)))) [.ret (.cst .none)] [], .asg (.name 6) (.ix (.lst [(.ix (.var 4) (.cst (.int 1))), (.cst .none)]) (.blt .int [(.cmp .eq (.ix (.var 4) (.cst (.int 1))) (.cst (st [45])))])), .asg (.name 2) (.bin .add (.var 2) (.tup [(.tup [(.ix (.var 5) (.cst (.int 0))), (.blt .tuple [(.mth .split (.ix (.var 5) (.cst (.int 1))) [(.cst (st [32]))])]), (.var 6)])]))] []] [3, 4, 5, 6], .iff (.bor (.bnot (.call 23 [(.var 0), (.var 2)])) (.cmp .ne (.call 30 [(.var 2)]) (.var 1))) [.ret (.cst .none)] [], .ret (.var 2)] }
-- 42 law: Lambda
-- 43 law: Lambda
def f44_l_mixed : Fn := { np := 2, nl := 3, body := [.asg (.name 2) (.bin .mod (.bin .mul (.bin .add (.bin .add (.call 1 [(.var 0), (.var 1)]) (.bin .mul (.cst (.int 7919)) (.var 1))) (.cst (.int 1))) (.cst (.int 48271))) (.cst (.int 2147483647))), .ret (.bin .mod (.bin .add (.bin .add (.bin .mul (.var 2) (.var 2)) (.bin .mul (.cst (.int 7)) (.var 2))) (.var 1)) (.cst (.int 2147483629)))] }
-- 45 law: Lambda
def f46_l_places_in : Fn := { np := 2, nl := 5, body := [.asg (.name 2) (.lst [(.var 1)]), .iff (.blt .isTuple [(.var 0)]) [.wip [3, 4], .for_ (.tup [(.name 3), (.name 4)]) .enum [(.var 0)] [.asg (.name 2) (.bin .add (.var 2) (.call 46 [(.var 4), (.bin .add (.var 1) (.tup [(.var 3)]))]))] [3, 4]] [], .ret (.var 2)] }
-- 47 _law_put_at: call _law_bent_by
def f48_l_otherwise : Fn := { np := 2, nl := 3, body := [.iff (.blt .isTuple [(.var 0)]) [.asg (.name 2) (.lst [(.blt .list [(.var 0)]), (.blt .list [(.var 0)]), (.bin .add (.var 0) (.slc (.var 0) (.cst .none) (.cst (.int 1))))]), .ret (.ix (.bin .add (.var 2) (.lst [(.slc (.var 0) (.cst (.int 1)) (.cst .none)), (.lst [(.var 0)])])) (.bin .mod (.var 1) (.cst (.int 5))))] [], .iff (.blt .isBool [(.var 0)]) [.ret (.ix (.lst [(.blt .int [(.var 0)]), (.cst .none), (.blt .str [(.var 0)])]) (.bin .mod (.var 1) (.cst (.int 3))))] [], .iff (.blt .isInt [(.var 0)]) [.asg (.name 2) (.lst [(.cst (.bool true)), (.cst .none), (.blt .str [(.var 0)]), (.tup [(.var 0)])]), .ret (.ix (.bin .add (.var 2) (.lst [(.bin .sub (.neg (.cst (.int 1))) (.var 0))])) (.bin .mod (.var 1) (.cst (.int 5))))] [], .ret (.ix (.lst [(.cst .none), (.tup [(.var 0)]), (.lst [(.var 0)]), (.cst (st [])), (.cst (.int 0))]) (.bin .mod (.var 1) (.cst (.int 5))))] }
-- 49 _law_spoilt: Lambda
def f50_l_once : Fn := { np := 1, nl := 13, body := [.asg (.name 1) (.call 20 [(.call 2 [(.var 0), (.cst (.int 0))])]), .asg (.name 2) (.call 2 [(.var 0), (.cst (.int 1))]), .asg (.name 3) (.var 1), .iff (.cmp .eq (.bin .mod (.var 2) (.cst (.int 2))) (.cst (.int 1))) [.asg (.name 3) (.call 49 [(.var 1), (.call 2 [(.var 0), (.cst (.int 2))]), (.bin .mod (.bin .fdiv (.var 2) (.cst (.int 2))) (.cst (.int 4)))])] [], .iff (.cmp .eq (.bin .mod (.bin .fdiv (.var 2) (.cst (.int 64))) (.cst (.int 8))) (.cst (.int 1))) [.asg (.name 3) (.tup [(.stp (.ix (.var 1) (.cst (.int 0))) (.cst .none) (.neg (.cst (.int 1)))), (.ix (.var 1) (.cst (.int 1)))])] [], .asg (.name 4) (.call 16 [(.var 3)]), .iff (.bor (.bnot (.blt .isBool [(.var 4)])) (.cmp .ne (.var 4) (.call 7 [(.var 3)]))) [.ret (.cst (.bool false))] [], .asg (.name 5) (.blt .tuple [(.comp (.tup [(.ix (.cst (st [97, 98, 99, 100, 101, 102, 103])) (.var 12)), (.cst .none)]) (.name 12) .range1 [(.bin .add (.cst (.int 5)) (.bin .mod (.bin .fdiv (.var 2) (.cst (.int 1024))) (.cst (.int 3))))] yes)]), .asg (.name 6) (.blt .tuple [(.comp (.tup [(.ix (.cst (st [97, 98, 99, 100, 101, 102, 103])) (.var 12)), (.cst (st [97]))]) (.name 12) .range1 [(.bin .add (.cst (.int 3)) (.bin .mod (.bin .fdiv (.var 2) (.cst (.int 4096))) (.cst (.int 3))))] yes)]), .asg (.name 7) (.slc (.cst (st [97, 98, 99, 100, 101, 102, 103, 104])) (.cst .none) (.bin .add (.cst (.int 5)) (.bin .mod (.bin .fdiv (.var 2) (.cst (.int 16384))) (.cst (.int 3))))), .wip [8], .for_ (.name 8) .seq [(.tup [(.tup [(.var 5), (.var 6)]), (.tup [(.tup [(.tup [(.var 7), (.cst .none)])]), (.tup [])]), (.tup [(.var 5), (.tup [(.tup [(.var 7), (.cst (st [97]))])])])])] [.iff (.cmp .ne (.call 16 [(.var 8)]) (.call 7 [(.var 8)])) [.ret (.cst (.bool false))] []] [8], .asg (.name 3) (.call 22 [(.var 1), (.call 2 [(.var 0), (.cst (.int 3))]), (.cst (.int 16))]), .iff (.cmp .eq (.bin .mod (.bin .fdiv (.var 2) (.cst (.int 8))) (.cst (.int 2))) (.cst (.int 1))) [.asg (.name 3) (.call 49 [(.var 3), (.call 2 [(.var 0), (.cst (.int 4))]), (.bin .mod (.bin .fdiv (.var 2) (.cst (.int 16))) (.cst (.int 4)))])] [], .asg (.name 9) (.ix (.ix (.ix (.var 1) (.cst (.int 0))) (.cst (.int 0))) (.cst (.int 0))), .asg (.name 10) (.ix (.tup [(.cst (st [103, 111])), (.cst (st [111, 110])), (.cst .none)]) (.bin .mod (.bin .fdiv (.var 2) (.cst (.int 65536))) (.cst (.int 3)))), .asg (.name 11) (.tup [(.tup [(.var 9), (.tup [(.cst (st [97]))]), (.cst (st [103, 111]))]), (.tup [(.var 9), (.slc (.tup [(.cst (st [97])), (.cst (st [98]))]) (.cst .none) (.bin .add (.cst (.int 1)) (.bin .mod (.bin .fdiv (.var 2) (.cst (.int 32768))) (.cst (.int 2))))), (.var 10)])]), .iff (.cmp .ne (.call 18 [(.var 1), (.var 11)]) (.call 23 [(.var 1), (.var 11)])) [.ret (.cst (.bool false))] [], .asg (.name 4) (.call 18 [(.var 1), (.var 3)]), .ret (.band (.blt .isBool [(.var 4)]) (.cmp .eq (.var 4) (.call 23 [(.var 1), (.var 3)])))] }
def f51_law : Fn := { np := 1, nl := 3, body := [.wip [1], .for_ (.name 1) .range1 [(.cst (.int 8))] [.iff (.bnot (.call 50 [(.bin .add (.comp (.bin .add (.var 2) (.bin .mul (.cst (.int 104729)) (.var 1))) (.name 2) .seq [(.var 0)] yes) (.lst [(.var 1)]))])) [.ret (.cst (.bool false))] []] [1], .ret (.cst (.bool true))] }
def f52_outward : Fn := { np := 2, nl := 4, body := [.asg (.name 2) (.blt .dict [(.ix (.var 0) (.cst (.int 0)))]), .own 3 (.lst []), .wip [], .whl (.cmp .isnot (.var 1) (.cst .none)) [.app 3 (.var 1), .asg (.name 1) (.ix (.var 2) (.var 1))] [], .frz 3, .ret (.var 3)] }
def f53_holder : Fn := { np := 4, nl := 8, body := [.asg (.name 4) (.blt .dict [(.comp (.tup [(.slc (.var 7) (.cst .none) (.cst (.int 2))), (.var 6)]) (.tup [(.name 6), (.name 7)]) .enum [(.var 1)] yes)]), .wip [5], .for_ (.name 5) .seq [(.call 52 [(.var 0), (.var 2)])] [.iff (.cmp .isin (.tup [(.var 5), (.var 3)]) (.var 4)) [.ret (.ix (.var 4) (.tup [(.var 5), (.var 3)]))] []] [5], .ret (.cst .none)] }
def f54_rows : Fn := { np := 3, nl := 7, body := [.own 3 (.lst []), .wip [4, 5], .for_ (.name 4) .seq [(.blt .sortedSet [(.comp (.ix (.var 6) (.cst (.int 1))) (.name 6) .seq [(.var 1)] yes)])] [.asg (.name 5) (.call 53 [(.var 0), (.var 1), (.var 2), (.var 4)]), .iff (.band (.cmp .isnot (.var 5) (.cst .none)) (.cmp .isnot (.ix (.ix (.var 1) (.var 5)) (.cst (.int 2))) (.cst .none))) [.app 3 (.tup [(.var 4), (.ix (.ix (.var 1) (.var 5)) (.cst (.int 2)))])] []] [4, 5, 6], .ret (.blt .tuple [(.var 3)])] }
def f55_l_holder : Fn := { np := 4, nl := 8, body := [.wip [4, 5], .whl (.cmp .isnot (.var 2) (.cst .none)) [.wip [4, 5], .for_ (.tup [(.name 4), (.name 5)]) .enum [(.var 1)] [.iff (.band (.cmp .eq (.ix (.var 5) (.cst (.int 0))) (.var 2)) (.cmp .eq (.ix (.var 5) (.cst (.int 1))) (.var 3))) [.ret (.var 4)] []] [4, 5], .asg (.name 2) (.ix (.comp (.var 7) (.tup [(.name 6), (.name 7)]) .seq [(.ix (.var 0) (.cst (.int 0)))] (.cmp .eq (.var 6) (.var 2))) (.cst (.int 0)))] [4, 5], .ret (.cst .none)] }
def f56_l_rows : Fn := { np := 3, nl := 6, body := [.own 3 (.dct [] []), .wip [4, 5], .for_ (.name 4) .seq [(.var 1)] [.asg (.name 5) (.call 55 [(.var 0), (.var 1), (.var 2), (.ix (.var 4) (.cst (.int 1)))]), .iff (.band (.cmp .isnot (.var 5) (.cst .none)) (.cmp .isnot (.ix (.ix (.var 1) (.var 5)) (.cst (.int 2))) (.cst .none))) [.seti 3 (.ix (.var 4) (.cst (.int 1))) (.ix (.ix (.var 1) (.var 5)) (.cst (.int 2)))] []] [4, 5], .frz 3, .ret (.var 3)] }
-- 57 law: call _law_rows(_law_house_here, _law_binds, _law_room).items
def f58_law : Fn := { np := 1, nl := 15, body := [.asg (.name 1) (.call 20 [(.call 2 [(.var 0), (.cst (.int 0))])]), .asg (.name 2) (.call 22 [(.var 1), (.call 2 [(.var 0), (.cst (.int 1))]), (.cst (.int 10))]), .asg (.name 3) (.blt .dict [(.ix (.var 1) (.cst (.int 0)))]), .wip [4, 5, 6, 8, 9, 10, 11, 12, 13, 14], .for_ (.tup [(.name 4), (.name 5)]) .seq [(.ix (.var 1) (.cst (.int 0)))] [.asg (.name 6) (.call 54 [(.var 1), (.var 2), (.var 4)]), .iff (.cmp .ne (.call 54 [(.var 1), (.stp (.var 2) (.cst .none) (.neg (.cst (.int 1)))), (.var 4)]) (.var 6)) [.ret (.cst (.bool false))] [], .wip [13, 14], .for_ (.name 7) .seq [(.var 2)] [.asg (.tup [(.name 13), (.name 14)]) (.tup [(.call 53 [(.var 1), (.var 2), (.var 4), (.ix (.var 7) (.cst (.int 1)))]), (.call 53 [(.var 1), (.stp (.var 2) (.cst .none) (.neg (.cst (.int 1)))), (.var 4), (.ix (.var 7) (.cst (.int 1)))])]), .iff (.bor (.cmp .ne (.cmp .is (.var 13) (.cst .none)) (.cmp .is (.var 14) (.cst .none))) (.band (.cmp .isnot (.var 13) (.cst .none)) (.cmp .ne (.bin .add (.var 13) (.var 14)) (.bin .sub (.blt .len [(.var 2)]) (.cst (.int 1)))))) [.ret (.cst (.bool false))] []] [13, 14], .own 8 (.lst [(.var 4)]), .wip [], .whl (.cmp .isnot (.ix (.var 3) (.ix (.var 8) (.neg (.cst (.int 1))))) (.cst .none)) [.app 8 (.ix (.var 3) (.ix (.var 8) (.neg (.cst (.int 1)))))] [], .iff (.cmp .ne (.call 54 [(.var 1), (.blt .tuple [(.comp (.var 7) (.name 7) .seq [(.var 2)] (.cmp .isin (.ix (.var 7) (.cst (.int 0))) (.var 8)))]), (.var 4)]) (.var 6)) [.ret (.cst (.bool false))] [], .iff (.cmp .eq (.comp (.var 7) (.name 7) .seq [(.var 2)] (.cmp .eq (.ix (.var 7) (.cst (.int 0))) (.var 4))) (.lst [])) [.asg (.name 12) (.tup []), .iff (.cmp .isnot (.var 5) (.cst .none)) [.asg (.name 12) (.call 54 [(.var 1), (.var 2), (.var 5)])] [], .iff (.cmp .ne (.var 6) (.var 12)) [.ret (.cst (.bool false))] []] [], .asg (.name 9) (.slc (.blt .tuple [(.comp (.var 7) (.name 7) .seq [(.var 2)] (.cmp .ne (.slc (.var 7) (.cst .none) (.cst (.int 2))) (.tup [(.var 4), (.tup [(.cst (st [97]))])])))]) (.cst .none) (.cst (.int 11))), .asg (.name 10) (.bin .add (.var 9) (.tup [(.tup [(.var 4), (.tup [(.cst (st [97]))]), (.cst (st [102, 114, 101, 115, 104]))])])), .iff (.bor (.cmp .ne (.ix (.blt .dict [(.call 54 [(.var 1), (.var 10), (.var 4)])]) (.tup [(.cst (st [97]))])) (.cst (st [102, 114, 101, 115, 104]))) (.cmp .ne (.call 53 [(.var 1), (.var 10), (.var 4), (.tup [(.cst (st [97]))])]) (.blt .len [(.var 9)]))) [.ret (.cst (.bool false))] [], .asg (.name 11) (.bin .add (.var 9) (.tup [(.tup [(.var 4), (.tup [(.cst (st [97]))]), (.cst .none)])])), .iff (.bor (.cmp .isin (.tup [(.cst (st [97]))]) (.blt .dict [(.call 54 [(.var 1), (.var 11), (.var 4)])])) (.cmp .ne (.call 53 [(.var 1), (.var 11), (.var 4), (.tup [(.cst (st [97]))])]) (.blt .len [(.var 9)]))) [.ret (.cst (.bool false))] []] [4, 5, 6, 8, 9, 10, 11, 12, 13, 14], .ret (.cst (.bool true))] }
def f59_begin : Fn := { np := 1, nl := 1, body := [.ret (.tup [(.ix (.ix (.ix (.var 0) (.cst (.int 0))) (.cst (.int 0))) (.cst (.int 0))), (.tup []), (.cst (.int 0))])] }
def f60_goes_on : Fn := { np := 2, nl := 3, body := [.ret (.blt .any [(.comp (.band (.cmp .gt (.blt .len [(.var 2)]) (.blt .len [(.var 1)])) (.cmp .eq (.slc (.var 2) (.cst .none) (.blt .len [(.var 1)])) (.var 1))) (.name 2) .seq [(.var 0)] yes)])] }
def f61_with_deed : Fn := { np := 3, nl := 3, body := [.ret (.tup [(.tup [(.mth .get (.blt .dict [(.ix (.var 0) (.cst (.int 1)))]) [(.var 2), (.var 1)]), (.tup []), (.cst (.int 0))]), (.tup [(.tup [(.cst (st [100, 101, 101, 100])), (.var 2)])])])] }
def f62_settled : Fn := { np := 3, nl := 7, body := [.asg (.tup [(.name 4), (.name 5), (.name 6)]) (.var 2), .asg (.name 3) (.blt .dict [(.call 54 [(.var 0), (.var 1), (.var 4)])]), .iff (.cmp .isin (.var 5) (.var 3)) [.ret (.call 61 [(.var 0), (.var 4), (.ix (.var 3) (.var 5))])] [], .ret (.tup [(.tup [(.var 4), (.tup []), (.cst (.int 0))]), (.tup [(.tup [(.cst (st [108, 111, 115, 116])), (.var 5)])])])] }
def f63_passed : Fn := { np := 5, nl := 5, body := [.iff (.band (.cmp .gt (.blt .len [(.ix (.var 3) (.cst (.int 1)))]) (.cst (.int 0))) (.cmp .ge (.var 4) (.bin .add (.ix (.var 3) (.cst (.int 2))) (.var 2)))) [.ret (.call 62 [(.var 0), (.var 1), (.var 3)])] [], .ret (.tup [(.var 3), (.tup [])])] }
def f64_taken : Fn := { np := 5, nl := 13, body := [.asg (.tup [(.name 7), (.name 8), (.name 9)]) (.var 2), .asg (.name 5) (.blt .dict [(.call 54 [(.var 0), (.var 1), (.var 7)])]), .asg (.name 6) (.bin .add (.var 8) (.tup [(.var 3)])), .iff (.call 60 [(.var 5), (.var 6)]) [.ret (.tup [(.tup [(.var 7), (.var 6), (.var 4)]), (.tup [])])] [], .iff (.cmp .isin (.var 6) (.var 5)) [.ret (.call 61 [(.var 0), (.var 7), (.ix (.var 5) (.var 6))])] [], .iff (.cmp .eq (.blt .len [(.var 8)]) (.cst (.int 0))) [.ret (.tup [(.tup [(.var 7), (.tup []), (.cst (.int 0))]), (.tup [(.tup [(.cst (st [108, 111, 115, 116])), (.var 6)])])])] [], .asg (.tup [(.name 2), (.name 10)]) (.call 62 [(.var 0), (.var 1), (.var 2)]), .asg (.tup [(.name 11), (.name 12)]) (.call 64 [(.var 0), (.var 1), (.var 2), (.var 3), (.var 4)]), .ret (.tup [(.var 11), (.bin .add (.var 10) (.var 12))])] }
def f65_pressed : Fn := { np := 6, nl := 9, body := [.asg (.tup [(.name 3), (.name 6)]) (.call 63 [(.var 0), (.var 1), (.var 2), (.var 3), (.var 5)]), .asg (.tup [(.name 7), (.name 8)]) (.call 64 [(.var 0), (.var 1), (.var 3), (.var 4), (.var 5)]), .ret (.tup [(.var 7), (.bin .add (.var 6) (.var 8))])] }
def f66_run : Fn := { np := 4, nl := 9, body := [.asg (.name 4) (.call 59 [(.var 0)]), .asg (.name 5) (.tup []), .wip [6, 7, 8], .for_ (.tup [(.name 6), (.name 7)]) .seq [(.var 3)] [.asg (.tup [(.name 4), (.name 8)]) (.call 65 [(.var 0), (.var 1), (.var 2), (.var 4), (.var 6), (.var 7)]), .asg (.name 5) (.bin .add (.var 5) (.var 8))] [6, 7, 8], .asg (.tup [(.name 4), (.name 8)]) (.call 63 [(.var 0), (.var 1), (.var 2), (.var 4), (.bin .add (.ix (.var 4) (.cst (.int 2))) (.var 2))]), .ret (.bin .add (.var 5) (.var 8))] }
def f67_without : Fn := { np := 2, nl := 4, body := [.ret (.blt .tuple [(.comp (.var 3) (.tup [(.name 2), (.name 3)]) .enum [(.var 0)] (.cmp .notin (.var 2) (.var 1)))])] }
-- 68 changes: sorted key
def f69_hold_in : Fn := { np := 3, nl := 5, body := [.ret (.comp (.var 3) (.tup [(.name 3), (.name 4)]) .enum [(.var 1)] (.band (.cmp .isnot (.ix (.var 4) (.cst (.int 2))) (.cst .none)) (.cmp .eq (.call 53 [(.var 0), (.var 1), (.var 2), (.ix (.var 4) (.cst (.int 1)))]) (.var 3))))] }
def f70_clashes : Fn := { np := 2, nl := 10, body := [.own 2 (.dct [] []), .wip [3, 4, 5, 6, 7, 8, 9], .for_ (.tup [(.name 3), (.name 4)]) .seq [(.ix (.var 0) (.cst (.int 0)))] [.asg (.name 5) (.call 69 [(.var 0), (.var 1), (.var 3)]), .wip [6, 7, 8, 9], .for_ (.name 6) .seq [(.var 5)] [.wip [7, 8, 9], .for_ (.name 7) .seq [(.var 5)] [.asg (.name 8) (.ix (.ix (.var 1) (.var 6)) (.cst (.int 1))), .asg (.name 9) (.ix (.ix (.var 1) (.var 7)) (.cst (.int 1))), .iff (.band (.cmp .lt (.blt .len [(.var 8)]) (.blt .len [(.var 9)])) (.cmp .eq (.slc (.var 9) (.cst .none) (.blt .len [(.var 8)])) (.var 8))) [.seti 2 (.tup [(.var 6), (.var 7)]) (.cst (.bool true))] []] [7, 8, 9]] [6, 7, 8, 9]] [3, 4, 5, 6, 7, 8, 9], .ret (.blt .tuple [(.blt .sorted [(.var 2)])])] }
def f71_all_rows : Fn := { np := 2, nl := 4, body := [.ret (.comp (.call 54 [(.var 0), (.var 1), (.var 2)]) (.tup [(.name 2), (.name 3)]) .seq [(.ix (.var 0) (.cst (.int 0)))] yes)] }
def f72_useless : Fn := { np := 2, nl := 4, body := [.asg (.name 2) (.call 71 [(.var 0), (.var 1)]), .ret (.blt .tuple [(.comp (.var 3) (.name 3) .range1 [(.blt .len [(.var 1)])] (.cmp .eq (.call 71 [(.var 0), (.call 67 [(.var 1), (.tup [(.var 3)])])]) (.var 2)))])] }
def f73_all_keys : Fn := { np := 1, nl := 3, body := [.own 1 (.lst []), .wip [2], .for_ (.name 2) .seq [(.var 0)] [.ext 1 (.ix (.var 2) (.cst (.int 1)))] [2], .ret (.blt .sortedSet [(.var 1)])] }
def f74_steps_from : Fn := { np := 3, nl := 7, body := [.own 3 (.lst []), .wip [4, 5, 6], .for_ (.name 4) .seq [(.call 73 [(.var 1)])] [.asg (.tup [(.name 5), (.name 6)]) (.call 64 [(.var 0), (.var 1), (.var 2), (.var 4), (.cst (.int 0))]), .app 3 (.tup [(.var 4), (.var 5), (.var 6)])] [4, 5, 6], .iff (.cmp .gt (.blt .len [(.ix (.var 2) (.cst (.int 1)))]) (.cst (.int 0))) [.asg (.tup [(.name 5), (.name 6)]) (.call 62 [(.var 0), (.var 1), (.var 2)]), .app 3 (.tup [(.cst (st [119, 97, 105, 116])), (.var 5), (.var 6)])] [], .frz 3, .ret (.var 3)] }
def f75_steps_to : Fn := { np := 3, nl := 11, body := [.asg (.name 3) (.call 59 [(.var 0)]), .own 4 (.dct [(.var 3)] [(.cst (.bool true))]), .own 5 (.lst [(.tup [(.var 3), (.tup [])])]), .wip [6, 7, 8, 9, 10], .whl (.cmp .gt (.blt .len [(.var 5)]) (.cst (.int 0))) [.pop (.tup [(.name 6), (.name 7)]) 5 (some 0), .wip [8, 9, 10], .for_ (.tup [(.name 8), (.name 9), (.name 10)]) .seq [(.call 74 [(.var 0), (.var 1), (.var 6)])] [.iff (.cmp .isin (.tup [(.cst (st [100, 101, 101, 100])), (.var 2)]) (.var 10)) [.ret (.bin .add (.var 7) (.tup [(.var 8)]))] [], .iff (.cmp .notin (.var 9) (.var 4)) [.seti 4 (.var 9) (.cst (.bool true)), .app 5 (.tup [(.var 9), (.bin .add (.var 7) (.tup [(.var 8)]))])] []] [8, 9, 10]] [6, 7, 8, 9, 10], .ret (.cst .none)] }
def f76_l_presses : Fn := { np := 3, nl := 7, body := [.own 3 (.lst []), .asg (.name 4) (.bin .mod (.bin .fdiv (.var 0) (.cst (.int 64))) (.cst (.int 5))), .wip [5, 6], .for_ (.name 5) .range1 [(.var 1)] [.asg (.name 6) (.bin .fdiv (.call 3 [(.var 0), (.bin .add (.cst (.int 40)) (.var 5))]) (.cst (.int 4))), .asg (.name 4) (.bin .add (.var 4) (.ix (.tup [(.cst (.int 0)), (.cst (.int 1)), (.bin .sub (.var 2) (.cst (.int 1))), (.var 2), (.bin .mul (.cst (.int 2)) (.var 2)), (.cst (.int 0))]) (.bin .mod (.var 6) (.cst (.int 6))))), .app 3 (.tup [(.call 19 [(.bin .fdiv (.var 6) (.cst (.int 8)))]), (.var 4)])] [5, 6], .frz 3, .ret (.var 3)] }
def f77_law : Fn := { np := 1, nl := 21, body := [.asg (.name 1) (.call 20 [(.call 2 [(.var 0), (.cst (.int 0))])]), .asg (.tup [(.name 13), (.name 14)]) (.tup [(.call 22 [(.var 1), (.call 2 [(.var 0), (.cst (.int 1))]), (.cst (.int 8))]), (.call 22 [(.var 1), (.call 2 [(.var 0), (.cst (.int 2))]), (.cst (.int 8))])]), .asg (.name 2) (.dct [(.cst (st [97, 108, 108])), (.cst (st [116, 101, 120, 116])), (.cst (st [109, 97, 105, 108])), (.cst (st [113, 117, 105, 116])), (.cst (st [102, 105, 110, 100])), (.cst (st [122, 111, 111, 109])), (.cst .none)] [(.cst (st [122, 122])), (.cst (st [98])), (.cst (st [121, 97, 114, 100])), (.cst (st [97])), (.cst (st [114, 111, 111, 109])), (.cst (st [99, 101, 108, 108, 97, 114])), (.cst .none)]), .asg (.name 3) (.blt .tuple [(.comp (.tup [(.ix (.var 2) (.var 15)), (.ix (.var 2) (.var 16))]) (.tup [(.name 15), (.name 16)]) .seq [(.ix (.var 1) (.cst (.int 0)))] yes)]), .asg (.name 4) (.tup [(.var 3), (.blt .tuple [(.comp (.tup [(.var 10), (.ix (.var 2) (.var 15))]) (.tup [(.name 10), (.name 15)]) .seq [(.ix (.var 1) (.cst (.int 1)))] yes)])]), .asg (.name 5) (.blt .tuple [(.comp (.bin .add (.tup [(.ix (.var 2) (.ix (.var 20) (.cst (.int 0))))]) (.slc (.var 20) (.cst (.int 1)) (.cst .none))) (.name 20) .seq [(.var 13)] yes)]), .asg (.name 6) (.blt .tuple [(.comp (.bin .add (.tup [(.ix (.var 2) (.ix (.var 20) (.cst (.int 0))))]) (.slc (.var 20) (.cst (.int 1)) (.cst .none))) (.name 20) .seq [(.var 14)] yes)]), .wip [15, 16], .for_ (.tup [(.name 15), (.name 16)]) .seq [(.ix (.var 1) (.cst (.int 0)))] [.iff (.cmp .ne (.call 54 [(.var 4), (.var 5), (.ix (.var 2) (.var 15))]) (.call 54 [(.var 1), (.var 13), (.var 15)])) [.ret (.cst (.bool false))] []] [15, 16], .asg (.name 7) (.call 2 [(.var 0), (.cst (.int 3))]), .asg (.name 8) (.bin .add (.cst (.int 1)) (.bin .mod (.var 7) (.cst (.int 7)))), .asg (.name 9) (.blt .tuple [(.call 76 [(.bin .fdiv (.var 7) (.cst (.int 8))), (.bin .mod (.bin .fdiv (.var 7) (.cst (.int 2048))) (.cst (.int 13))), (.var 8)])]), .iff (.cmp .ne (.call 66 [(.var 4), (.var 5), (.var 8), (.var 9)]) (.call 66 [(.var 1), (.var 13), (.var 8), (.var 9)])) [.ret (.cst (.bool false))] [], .iff (.bor (.cmp .ne (.call 70 [(.var 4), (.var 5)]) (.call 70 [(.var 1), (.var 13)])) (.cmp .ne (.call 72 [(.var 4), (.var 5)]) (.call 72 [(.var 1), (.var 13)]))) [.ret (.cst (.bool false))] [], .wip [10, 17, 18], .for_ (.name 10) .seq [(.tup [(.cst (st [103, 111])), (.cst (st [117, 110, 100, 111]))])] [.asg (.tup [(.name 17), (.name 18)]) (.tup [(.call 75 [(.var 1), (.var 13), (.var 10)]), (.call 75 [(.var 4), (.var 5), (.var 10)])]), .iff (.bor (.cmp .ne (.cmp .is (.var 17) (.cst .none)) (.cmp .is (.var 18) (.cst .none))) (.band (.cmp .isnot (.var 17) (.cst .none)) (.cmp .ne (.blt .len [(.var 17)]) (.blt .len [(.var 18)])))) [.ret (.cst (.bool false))] []] [10, 17, 18], .asg (.name 11) (.comp (.bin .add (.tup [(.ix (.var 2) (.ix (.var 19) (.cst (.int 0))))]) (.slc (.var 19) (.cst (.int 1)) (.cst .none))) (.name 19) .seq [(.call 68 [(.var 1), (.var 13), (.var 14)])] yes), .asg (.name 12) (.blt .list [(.call 68 [(.var 4), (.var 5), (.var 6)])]), .ret (.band (.cmp .eq (.comp (.var 19) (.name 19) .seq [(.var 11)] (.cmp .notin (.var 19) (.var 12))) (.lst [])) (.cmp .eq (.blt .len [(.var 12)]) (.blt .len [(.var 11)])))] }
def f78_hints : Fn := { np := 3, nl := 11, body := [.asg (.tup [(.name 6), (.name 7), (.name 8)]) (.var 2), .asg (.name 3) (.blt .dict [(.call 54 [(.var 0), (.var 1), (.var 6)])]), .own 4 (.lst []), .wip [5, 9], .for_ (.name 5) .seq [(.blt .sortedSet [(.comp (.ix (.var 10) (.blt .len [(.var 7)])) (.name 10) .seq [(.var 3)] (.call 60 [(.dct [(.var 10)] [(.cst (.bool true))]), (.var 7)]))])] [.asg (.name 9) (.bin .add (.var 7) (.tup [(.var 5)])), .iff (.bnot (.call 60 [(.var 3), (.var 9)])) [.app 4 (.tup [(.var 5), (.tup [(.cst (st [100, 101, 101, 100])), (.ix (.var 3) (.var 9))])])] [.iff (.cmp .isin (.var 9) (.var 3)) [.app 4 (.tup [(.var 5), (.tup [(.cst (st [98, 111, 116, 104])), (.ix (.var 3) (.var 9))])])] [.app 4 (.tup [(.var 5), (.tup [(.cst (st [111, 110]))])])]]] [5, 9, 10], .ret (.blt .tuple [(.var 4)])] }
def f79_l_new_told : Fn := { np := 1, nl := 3, body := [.ret (.blt .tuple [(.comp (.ife (.cmp .eq (.var 1) (.cst (st [100, 101, 101, 100]))) (.tup [(.var 1), (.bin .add (.cst (st [120])) (.var 2))]) (.tup [(.var 1), (.var 2)])) (.tup [(.name 1), (.name 2)]) .seq [(.var 0)] yes)])] }
def f80_law : Fn := { np := 1, nl := 20, body := [.asg (.name 1) (.call 20 [(.call 2 [(.var 0), (.cst (.int 0))])]), .asg (.name 2) (.call 22 [(.var 1), (.call 2 [(.var 0), (.cst (.int 1))]), (.cst (.int 10))]), .asg (.name 3) (.tup [(.ix (.var 1) (.cst (.int 0))), (.blt .tuple [(.comp (.tup [(.bin .add (.cst (st [120])) (.var 10)), (.var 8)]) (.tup [(.name 10), (.name 8)]) .seq [(.ix (.var 1) (.cst (.int 1)))] yes)])]), .asg (.name 4) (.tup []), .wip [8, 11], .for_ (.tup [(.name 8), (.name 9), (.name 10)]) .seq [(.var 2)] [.asg (.name 11) (.cst .none), .iff (.cmp .isnot (.var 10) (.cst .none)) [.asg (.name 11) (.bin .add (.cst (st [120])) (.var 10))] [], .asg (.name 4) (.bin .add (.var 4) (.tup [(.tup [(.var 8), (.var 9), (.var 11)])]))] [8, 11], .wip [8, 12], .for_ (.tup [(.name 8), (.name 12)]) .seq [(.ix (.var 1) (.cst (.int 0)))] [.iff (.cmp .ne (.call 54 [(.var 3), (.var 4), (.var 8)]) (.blt .tuple [(.comp (.tup [(.var 9), (.bin .add (.cst (st [120])) (.var 10))]) (.tup [(.name 9), (.name 10)]) .seq [(.call 54 [(.var 1), (.var 2), (.var 8)])] yes)])) [.ret (.cst (.bool false))] []] [8, 12], .asg (.name 5) (.call 2 [(.var 0), (.cst (.int 2))]), .asg (.name 6) (.bin .add (.cst (.int 1)) (.bin .mod (.var 5) (.cst (.int 7)))), .asg (.name 7) (.blt .tuple [(.call 76 [(.bin .fdiv (.var 5) (.cst (.int 8))), (.bin .mod (.bin .fdiv (.var 5) (.cst (.int 2048))) (.cst (.int 13))), (.var 6)])]), .iff (.cmp .ne (.call 66 [(.var 3), (.var 4), (.var 6), (.var 7)]) (.call 79 [(.call 66 [(.var 1), (.var 2), (.var 6), (.var 7)])])) [.ret (.cst (.bool false))] [], .asg (.tup [(.name 13), (.name 14)]) (.tup [(.call 59 [(.var 1)]), (.call 59 [(.var 3)])]), .wip [15, 16, 17, 18, 19], .for_ (.tup [(.name 15), (.name 16)]) .seq [(.var 7)] [.asg (.name 17) (.tup []), .wip [18, 19], .for_ (.tup [(.name 18), (.name 19)]) .seq [(.call 78 [(.var 1), (.var 2), (.var 13)])] [.iff (.cmp .eq (.blt .len [(.var 19)]) (.cst (.int 2))) [.asg (.name 19) (.tup [(.ix (.var 19) (.cst (.int 0))), (.bin .add (.cst (st [120])) (.ix (.var 19) (.cst (.int 1))))])] [], .asg (.name 17) (.bin .add (.var 17) (.tup [(.tup [(.var 18), (.var 19)])]))] [18, 19], .iff (.bor (.cmp .ne (.call 78 [(.var 3), (.var 4), (.var 14)]) (.var 17)) (.cmp .ne (.var 13) (.var 14))) [.ret (.cst (.bool false))] [], .asg (.name 13) (.ix (.call 65 [(.var 1), (.var 2), (.var 6), (.var 13), (.var 15), (.var 16)]) (.cst (.int 0))), .asg (.name 14) (.ix (.call 65 [(.var 3), (.var 4), (.var 6), (.var 14), (.var 15), (.var 16)]) (.cst (.int 0)))] [15, 16, 17, 18, 19], .ret (.band (.cmp .eq (.call 70 [(.var 3), (.var 4)]) (.call 70 [(.var 1), (.var 2)])) (.cmp .eq (.call 72 [(.var 3), (.var 4)]) (.call 72 [(.var 1), (.var 2)])))] }
def f81_l_settled : Fn := { np := 3, nl := 7, body := [.asg (.tup [(.name 4), (.name 5), (.name 6)]) (.var 2), .asg (.name 3) (.call 56 [(.var 0), (.var 1), (.var 4)]), .iff (.cmp .isin (.var 5) (.var 3)) [.ret (.tup [(.tup [(.mth .get (.blt .dict [(.ix (.var 0) (.cst (.int 1)))]) [(.ix (.var 3) (.var 5)), (.var 4)]), (.tup []), (.cst (.int 0))]), (.lst [(.tup [(.cst (st [100, 101, 101, 100])), (.ix (.var 3) (.var 5))])])])] [], .ret (.tup [(.tup [(.var 4), (.tup []), (.cst (.int 0))]), (.lst [(.tup [(.cst (st [108, 111, 115, 116])), (.var 5)])])])] }
def f82_l_pressed : Fn := { np := 6, nl := 12, body := [.asg (.name 6) (.lst []), .iff (.band (.cmp .ne (.ix (.var 3) (.cst (.int 1))) (.tup [])) (.cmp .ge (.bin .sub (.var 5) (.ix (.var 3) (.cst (.int 2)))) (.var 2))) [.asg (.tup [(.name 3), (.name 6)]) (.call 81 [(.var 0), (.var 1), (.var 3)])] [], .wip [7, 8, 9, 10], .whl (.cst (.bool true)) [.asg (.name 7) (.bin .add (.ix (.var 3) (.cst (.int 1))) (.tup [(.var 4)])), .asg (.name 8) (.call 56 [(.var 0), (.var 1), (.ix (.var 3) (.cst (.int 0)))]), .iff (.cmp .ne (.comp (.var 11) (.name 11) .seq [(.var 8)] (.band (.cmp .ne (.var 11) (.var 7)) (.cmp .eq (.slc (.var 11) (.cst .none) (.blt .len [(.var 7)])) (.var 7)))) (.lst [])) [.ret (.tup [(.tup [(.ix (.var 3) (.cst (.int 0))), (.var 7), (.var 5)]), (.var 6)])] [], .iff (.bor (.cmp .isin (.var 7) (.var 8)) (.cmp .eq (.ix (.var 3) (.cst (.int 1))) (.tup []))) [.asg (.tup [(.name 10), (.name 9)]) (.call 81 [(.var 0), (.var 1), (.tup [(.ix (.var 3) (.cst (.int 0))), (.var 7), (.var 5)])]), .ret (.tup [(.var 10), (.bin .add (.var 6) (.var 9))])] [], .asg (.tup [(.name 3), (.name 9)]) (.call 81 [(.var 0), (.var 1), (.var 3)]), .asg (.name 6) (.bin .add (.var 6) (.var 9))] [7, 8, 9, 10]] }
def f83_law : Fn := { np := 1, nl := 10, body := [.asg (.name 1) (.call 20 [(.call 2 [(.var 0), (.cst (.int 0))])]), .asg (.name 2) (.call 22 [(.var 1), (.call 2 [(.var 0), (.cst (.int 1))]), (.cst (.int 10))]), .asg (.name 3) (.call 2 [(.var 0), (.cst (.int 2))]), .asg (.name 4) (.bin .add (.cst (.int 1)) (.bin .mod (.var 3) (.cst (.int 7)))), .asg (.name 5) (.call 59 [(.var 1)]), .iff (.cmp .ne (.var 5) (.tup [(.ix (.ix (.ix (.var 1) (.cst (.int 0))) (.cst (.int 0))) (.cst (.int 0))), (.tup []), (.cst (.int 0))])) [.ret (.cst (.bool false))] [], .wip [6, 7, 8, 9], .for_ (.tup [(.name 6), (.name 7)]) .seq [(.call 76 [(.call 2 [(.var 0), (.cst (.int 3))]), (.bin .mod (.bin .fdiv (.var 3) (.cst (.int 8))) (.cst (.int 13))), (.var 4)])] [.asg (.name 8) (.blt .max2 [(.ix (.var 5) (.cst (.int 2))), (.bin .sub (.var 7) (.bin .mod (.bin .fdiv (.var 3) (.cst (.int 128))) (.cst (.int 4))))]), .asg (.name 9) (.tup [(.var 5), (.lst [])]), .iff (.band (.cmp .ne (.ix (.var 5) (.cst (.int 1))) (.tup [])) (.cmp .ge (.bin .sub (.var 8) (.ix (.var 5) (.cst (.int 2)))) (.var 4))) [.asg (.name 9) (.call 81 [(.var 1), (.var 2), (.var 5)])] [], .iff (.cmp .ne (.call 63 [(.var 1), (.var 2), (.var 4), (.var 5), (.var 8)]) (.tup [(.ix (.var 9) (.cst (.int 0))), (.blt .tuple [(.ix (.var 9) (.cst (.int 1)))])])) [.ret (.cst (.bool false))] [], .asg (.name 9) (.call 82 [(.var 1), (.var 2), (.var 4), (.var 5), (.var 6), (.var 7)]), .iff (.cmp .ne (.call 65 [(.var 1), (.var 2), (.var 4), (.var 5), (.var 6), (.var 7)]) (.tup [(.ix (.var 9) (.cst (.int 0))), (.blt .tuple [(.ix (.var 9) (.cst (.int 1)))])])) [.ret (.cst (.bool false))] [], .asg (.name 5) (.ix (.var 9) (.cst (.int 0)))] [6, 7, 8, 9], .ret (.cst (.bool true))] }
def f84_law : Fn := { np := 1, nl := 20, body := [.asg (.name 1) (.call 20 [(.call 2 [(.var 0), (.cst (.int 0))])]), .asg (.name 2) (.call 22 [(.var 1), (.call 2 [(.var 0), (.cst (.int 1))]), (.cst (.int 10))]), .asg (.name 3) (.call 2 [(.var 0), (.cst (.int 2))]), .asg (.name 4) (.bin .add (.cst (.int 1)) (.bin .mod (.var 3) (.cst (.int 7)))), .asg (.name 5) (.call 76 [(.call 2 [(.var 0), (.cst (.int 3))]), (.bin .mod (.bin .fdiv (.var 3) (.cst (.int 8))) (.cst (.int 13))), (.var 4)]), .asg (.name 6) (.call 59 [(.var 1)]), .asg (.name 7) (.tup []), .wip [10, 11], .for_ (.tup [(.name 9), (.name 10)]) .seq [(.var 5)] [.asg (.tup [(.name 6), (.name 11)]) (.call 65 [(.var 1), (.var 2), (.var 4), (.var 6), (.var 9), (.var 10)]), .asg (.name 7) (.bin .add (.var 7) (.var 11))] [10, 11], .asg (.tup [(.name 6), (.name 11)]) (.call 63 [(.var 1), (.var 2), (.var 4), (.var 6), (.bin .add (.ix (.var 6) (.cst (.int 2))) (.bin .mul (.cst (.int 2)) (.var 4)))]), .asg (.name 7) (.bin .add (.var 7) (.var 11)), .iff (.bor (.cmp .ne (.call 66 [(.var 1), (.var 2), (.var 4), (.blt .tuple [(.var 5)])]) (.var 7)) (.cmp .ne (.ix (.var 6) (.cst (.int 1))) (.tup []))) [.ret (.cst (.bool false))] [], .asg (.name 8) (.lst [(.tup [(.ix (.ix (.ix (.var 1) (.cst (.int 0))) (.cst (.int 0))) (.cst (.int 0))), (.cst (.int 0))])]), .wip [10, 12, 13, 14, 15, 17, 18, 19], .for_ (.tup [(.name 12), (.name 13)]) .seq [(.var 7)] [.own 14 (.lst []), .wip [10, 15, 17, 18, 19], .for_ (.tup [(.name 15), (.name 16)]) .seq [(.var 8)] [.asg (.name 17) (.call 56 [(.var 1), (.var 2), (.var 15)]), .wip [10, 18, 19], .for_ (.name 18) .seq [(.tup [(.cst (.int 1)), (.cst (.int 2)), (.cst (.int 3))])] [.asg (.name 19) (.blt .tuple [(.comp (.var 9) (.tup [(.name 9), (.name 10)]) .seq [(.slc (.var 5) (.var 16) (.bin .add (.var 16) (.var 18)))] yes)]), .iff (.band (.cmp .eq (.blt .len [(.var 19)]) (.var 18)) (.band (.cmp .eq (.var 12) (.cst (st [100, 101, 101, 100]))) (.cmp .eq (.mth .get (.var 17) [(.var 19), (.cst .none)]) (.var 13)))) [.app 14 (.tup [(.mth .get (.blt .dict [(.ix (.var 1) (.cst (.int 1)))]) [(.var 13), (.var 15)]), (.bin .add (.var 16) (.var 18))])] [], .iff (.band (.cmp .eq (.var 12) (.cst (st [108, 111, 115, 116]))) (.band (.cmp .eq (.var 19) (.var 13)) (.cmp .eq (.blt .len [(.var 19)]) (.var 18)))) [.app 14 (.tup [(.var 15), (.bin .add (.var 16) (.var 18))])] []] [10, 18, 19]] [10, 15, 17, 18, 19], .frz 14, .asg (.name 8) (.var 14)] [10, 12, 13, 14, 15, 17, 18, 19], .ret (.cmp .isin (.blt .len [(.var 5)]) (.comp (.var 16) (.tup [(.name 15), (.name 16)]) .seq [(.var 8)] yes))] }
def f85_law : Fn := { np := 1, nl := 18, body := [.asg (.name 1) (.call 20 [(.call 2 [(.var 0), (.cst (.int 0))])]), .asg (.name 2) (.call 22 [(.var 1), (.call 2 [(.var 0), (.cst (.int 1))]), (.cst (.int 10))]), .asg (.name 3) (.call 2 [(.var 0), (.cst (.int 2))]), .asg (.name 4) (.bin .add (.cst (.int 1)) (.bin .mod (.var 3) (.cst (.int 7)))), .asg (.name 5) (.blt .tuple [(.call 76 [(.bin .fdiv (.var 3) (.cst (.int 8))), (.bin .mod (.bin .fdiv (.var 3) (.cst (.int 2048))) (.cst (.int 13))), (.var 4)])]), .asg (.name 6) (.bin .add (.cst (.int 1)) (.bin .mod (.call 2 [(.var 0), (.cst (.int 3))]) (.cst (.int 90)))), .asg (.name 7) (.call 66 [(.var 1), (.var 2), (.var 4), (.var 5)]), .asg (.name 8) (.blt .tuple [(.comp (.tup [(.var 15), (.bin .add (.var 16) (.var 6))]) (.tup [(.name 15), (.name 16)]) .seq [(.var 5)] yes)]), .iff (.cmp .ne (.call 66 [(.var 1), (.var 2), (.var 4), (.var 8)]) (.var 7)) [.ret (.cst (.bool false))] [], .asg (.tup [(.name 9), (.name 10)]) (.tup [(.call 59 [(.var 1)]), (.tup [])]), .iff (.bor (.cmp .ne (.var 9) (.tup [(.ix (.ix (.ix (.var 1) (.cst (.int 0))) (.cst (.int 0))) (.cst (.int 0))), (.tup []), (.cst (.int 0))])) (.cmp .ne (.call 66 [(.var 1), (.var 2), (.var 4), (.tup [])]) (.tup []))) [.ret (.cst (.bool false))] [], .wip [11, 12, 13, 14, 15, 16, 17], .for_ (.tup [(.name 11), (.tup [(.name 15), (.name 16)])]) .enum [(.var 5)] [.asg (.name 12) (.call 63 [(.var 1), (.var 2), (.var 4), (.var 9), (.var 16)]), .iff (.cmp .ne (.call 63 [(.var 1), (.var 2), (.var 4), (.ix (.var 12) (.cst (.int 0))), (.var 16)]) (.tup [(.ix (.var 12) (.cst (.int 0))), (.tup [])])) [.ret (.cst (.bool false))] [], .iff (.cmp .eq (.ix (.ix (.var 12) (.cst (.int 0))) (.cst (.int 1))) (.tup [])) [.iff (.cmp .ne (.call 63 [(.var 1), (.var 2), (.var 4), (.ix (.var 12) (.cst (.int 0))), (.bin .add (.var 16) (.var 6))]) (.tup [(.ix (.var 12) (.cst (.int 0))), (.tup [])])) [.ret (.cst (.bool false))] []] [], .asg (.name 13) (.call 63 [(.var 1), (.var 2), (.var 4), (.var 9), (.bin .add (.var 16) (.bin .mul (.cst (.int 2)) (.var 4)))]), .asg (.name 14) (.call 66 [(.var 1), (.var 2), (.var 4), (.slc (.var 5) (.cst .none) (.var 11))]), .iff (.bor (.cmp .ne (.ix (.ix (.var 13) (.cst (.int 0))) (.cst (.int 1))) (.tup [])) (.cmp .ne (.var 14) (.bin .add (.var 10) (.ix (.var 13) (.cst (.int 1)))))) [.ret (.cst (.bool false))] [], .asg (.tup [(.name 9), (.name 17)]) (.call 65 [(.var 1), (.var 2), (.var 4), (.ix (.var 12) (.cst (.int 0))), (.var 15), (.var 16)]), .asg (.name 10) (.bin .add (.bin .add (.var 10) (.ix (.var 12) (.cst (.int 1)))) (.var 17)), .iff (.cmp .ne (.slc (.var 7) (.cst .none) (.blt .len [(.var 10)])) (.var 10)) [.ret (.cst (.bool false))] []] [11, 12, 13, 14, 15, 16, 17], .ret (.cmp .eq (.var 7) (.bin .add (.var 10) (.ix (.call 63 [(.var 1), (.var 2), (.var 4), (.var 9), (.bin .add (.ix (.var 9) (.cst (.int 2))) (.var 4))]) (.cst (.int 1)))))] }
def f86_law : Fn := { np := 1, nl := 16, body := [.asg (.name 1) (.call 20 [(.call 2 [(.var 0), (.cst (.int 0))])]), .asg (.name 2) (.call 22 [(.var 1), (.call 2 [(.var 0), (.cst (.int 1))]), (.cst (.int 10))]), .asg (.name 3) (.call 2 [(.var 0), (.cst (.int 2))]), .asg (.name 4) (.bin .add (.cst (.int 1)) (.bin .mod (.var 3) (.cst (.int 7)))), .asg (.name 5) (.comp (.call 19 [(.bin .fdiv (.call 3 [(.var 3), (.var 15)]) (.cst (.int 4)))]) (.name 15) .range1 [(.bin .mod (.bin .fdiv (.var 3) (.cst (.int 8))) (.cst (.int 10)))] yes), .asg (.tup [(.name 10), (.name 11)]) (.tup [(.ix (.ix (.ix (.var 1) (.cst (.int 0))) (.cst (.int 0))) (.cst (.int 0))), (.tup [])]), .wip [12], .for_ (.name 6) .seq [(.var 5)] [.asg (.name 12) (.blt .dict [(.call 54 [(.var 1), (.var 2), (.var 10)])]), .iff (.cmp .isin (.tup [(.var 6)]) (.var 12)) [.asg (.name 11) (.bin .add (.var 11) (.tup [(.tup [(.cst (st [100, 101, 101, 100])), (.ix (.var 12) (.tup [(.var 6)]))])])), .asg (.name 10) (.mth .get (.blt .dict [(.ix (.var 1) (.cst (.int 1)))]) [(.ix (.var 12) (.tup [(.var 6)])), (.var 10)])] [.asg (.name 11) (.bin .add (.var 11) (.tup [(.tup [(.cst (st [108, 111, 115, 116])), (.tup [(.var 6)])])]))]] [12], .asg (.name 7) (.blt .tuple [(.comp (.tup [(.var 6), (.bin .mul (.var 4) (.var 15))]) (.tup [(.name 15), (.name 6)]) .enum [(.var 5)] yes)]), .iff (.bor (.cmp .ne (.call 66 [(.var 1), (.var 2), (.var 4), (.var 7)]) (.var 11)) (.cmp .ne (.call 66 [(.var 1), (.var 2), (.cst (.int 1)), (.var 7)]) (.var 11))) [.ret (.cst (.bool false))] [], .asg (.name 8) (.blt .tuple [(.comp (.tup [(.var 6), (.bin .mul (.bin .add (.var 4) (.cst (.int 3))) (.var 15))]) (.tup [(.name 15), (.name 6)]) .enum [(.var 5)] yes)]), .iff (.cmp .ne (.call 66 [(.var 1), (.var 2), (.var 4), (.var 8)]) (.var 11)) [.ret (.cst (.bool false))] [], .asg (.name 9) (.tup []), .wip [13, 14], .for_ (.tup [(.name 13), (.name 14)]) .seq [(.call 66 [(.var 1), (.tup []), (.var 4), (.blt .tuple [(.comp (.tup [(.var 6), (.cst (.int 0))]) (.name 6) .seq [(.var 5)] yes)])])] [.iff (.bor (.cmp .ne (.var 13) (.cst (st [108, 111, 115, 116]))) (.cmp .ne (.blt .len [(.var 14)]) (.cst (.int 1)))) [.ret (.cst (.bool false))] [], .asg (.name 9) (.bin .add (.var 9) (.var 14))] [6, 13, 14], .ret (.cmp .eq (.var 9) (.blt .tuple [(.var 5)]))] }
def f87_l_clashes : Fn := { np := 2, nl := 10, body := [.own 2 (.dct [] []), .wip [3, 4, 5, 6, 7, 8, 9], .for_ (.tup [(.name 3), (.name 4)]) .seq [(.ix (.var 0) (.cst (.int 0)))] [.wip [5, 6, 7, 8, 9], .for_ (.tup [(.name 5), (.name 6)]) .enum [(.var 1)] [.wip [7, 8, 9], .for_ (.name 7) .seq [(.tup [(.cst (.int 1)), (.cst (.int 2))])] [.asg (.name 8) (.call 55 [(.var 0), (.var 1), (.var 3), (.slc (.ix (.var 6) (.cst (.int 1))) (.cst .none) (.var 7))]), .asg (.name 9) (.band (.cmp .isnot (.ix (.var 6) (.cst (.int 2))) (.cst .none)) (.cmp .eq (.call 55 [(.var 0), (.var 1), (.var 3), (.ix (.var 6) (.cst (.int 1)))]) (.var 5))), .iff (.band (.var 9) (.band (.cmp .lt (.var 7) (.blt .len [(.ix (.var 6) (.cst (.int 1)))])) (.band (.cmp .isnot (.var 8) (.cst .none)) (.cmp .isnot (.ix (.ix (.var 1) (.var 8)) (.cst (.int 2))) (.cst .none))))) [.seti 2 (.tup [(.var 8), (.var 5)]) (.cst (.bool true))] []] [7, 8, 9]] [5, 6, 7, 8, 9]] [3, 4, 5, 6, 7, 8, 9], .ret (.blt .tuple [(.blt .sorted [(.var 2)])])] }
def f88_law : Fn := { np := 1, nl := 9, body := [.asg (.name 1) (.call 20 [(.call 2 [(.var 0), (.cst (.int 0))])]), .asg (.name 2) (.call 22 [(.var 1), (.call 2 [(.var 0), (.cst (.int 1))]), (.cst (.int 10))]), .iff (.cmp .ne (.call 70 [(.var 1), (.var 2)]) (.call 87 [(.var 1), (.var 2)])) [.ret (.cst (.bool false))] [], .asg (.name 3) (.comp (.call 56 [(.var 1), (.var 2), (.var 7)]) (.tup [(.name 7), (.name 8)]) .seq [(.ix (.var 1) (.cst (.int 0)))] yes), .own 4 (.lst []), .wip [5, 6, 8], .for_ (.name 5) .range1 [(.blt .len [(.var 2)])] [.asg (.name 6) (.bin .add (.slc (.var 2) (.cst .none) (.var 5)) (.slc (.var 2) (.bin .add (.var 5) (.cst (.int 1))) (.cst .none))), .iff (.cmp .eq (.comp (.call 56 [(.var 1), (.var 6), (.var 7)]) (.tup [(.name 7), (.name 8)]) .seq [(.ix (.var 1) (.cst (.int 0)))] yes) (.var 3)) [.app 4 (.var 5)] []] [5, 6, 8], .ret (.cmp .eq (.call 72 [(.var 1), (.var 2)]) (.blt .tuple [(.var 4)]))] }
def f89_law : Fn := { np := 1, nl := 15, body := [.asg (.name 1) (.call 20 [(.call 2 [(.var 0), (.cst (.int 0))])]), .asg (.name 2) (.call 22 [(.var 1), (.call 2 [(.var 0), (.cst (.int 1))]), (.cst (.int 10))]), .wip [3, 10, 13], .for_ (.name 3) .range1 [(.cst (.int 12))] [.asg (.name 10) (.call 70 [(.var 1), (.var 2)]), .asg (.name 2) (.call 67 [(.var 2), (.blt .tuple [(.comp (.var 14) (.tup [(.name 13), (.name 14)]) .seq [(.var 10)] yes)])])] [3, 10, 13], .iff (.cmp .ne (.call 70 [(.var 1), (.var 2)]) (.tup [])) [.ret (.cst (.bool false))] [], .asg (.name 4) (.call 2 [(.var 0), (.cst (.int 2))]), .asg (.name 5) (.bin .add (.cst (.int 2)) (.bin .mod (.var 4) (.cst (.int 7)))), .asg (.name 6) (.call 59 [(.var 1)]), .asg (.name 7) (.tup []), .asg (.name 8) (.tup []), .wip [9, 11, 12], .for_ (.name 9) .range1 [(.bin .mod (.bin .fdiv (.var 4) (.cst (.int 8))) (.cst (.int 13)))] [.asg (.name 11) (.call 19 [(.bin .fdiv (.call 3 [(.var 4), (.var 9)]) (.cst (.int 4)))]), .asg (.tup [(.name 6), (.name 12)]) (.call 65 [(.var 1), (.var 2), (.var 5), (.var 6), (.var 11), (.cst (.int 5))]), .iff (.cmp .isin (.ix (.var 6) (.cst (.int 1))) (.blt .dict [(.call 54 [(.var 1), (.var 2), (.ix (.var 6) (.cst (.int 0)))])])) [.ret (.cst (.bool false))] [], .asg (.name 7) (.bin .add (.var 7) (.tup [(.tup [(.var 11), (.cst (.int 0))])])), .asg (.name 8) (.bin .add (.var 8) (.tup [(.tup [(.var 11), (.bin .mul (.var 9) (.bin .sub (.var 5) (.cst (.int 1))))])]))] [9, 11, 12], .ret (.cmp .eq (.call 66 [(.var 1), (.var 2), (.var 5), (.var 7)]) (.call 66 [(.var 1), (.var 2), (.var 5), (.var 8)]))] }
def f90_choices : Fn := { np := 2, nl := 8, body := [.asg (.name 2) (.lst [(.tup [])]), .wip [3, 4, 5, 6], .for_ (.name 3) .range1 [(.var 1)] [.own 4 (.lst []), .wip [5, 6], .for_ (.name 5) .seq [(.var 2)] [.asg (.name 6) (.cst (.int 0)), .iff (.cmp .gt (.blt .len [(.var 5)]) (.cst (.int 0))) [.asg (.name 6) (.bin .add (.ix (.var 5) (.neg (.cst (.int 1)))) (.cst (.int 1)))] [], .ext 4 (.comp (.bin .add (.var 5) (.tup [(.var 7)])) (.name 7) .range2 [(.var 6), (.var 0)] yes)] [5, 6], .frz 4, .asg (.name 2) (.var 4)] [3, 4, 5, 6], .ret (.var 2)] }
def f91_cleared : Fn := { np := 2, nl := 4, body := [.wip [2, 3], .for_ (.name 2) .range1 [(.bin .add (.blt .len [(.var 1)]) (.cst (.int 1)))] [.wip [3], .for_ (.name 3) .seq [(.call 90 [(.blt .len [(.var 1)]), (.var 2)])] [.iff (.cmp .eq (.call 70 [(.var 0), (.call 67 [(.var 1), (.var 3)])]) (.tup [])) [.ret (.var 3)] []] [3]] [2, 3], .ret (.tup [])] }
def f92_l_once : Fn := { np := 1, nl := 8, body := [.asg (.name 1) (.call 20 [(.call 2 [(.var 0), (.cst (.int 0))])]), .asg (.name 2) (.call 22 [(.var 1), (.call 2 [(.var 0), (.cst (.int 1))]), (.cst (.int 6))]), .asg (.name 3) (.call 91 [(.var 1), (.var 2)]), .iff (.bor (.bnot (.blt .isTuple [(.var 3)])) (.cmp .ne (.blt .list [(.var 3)]) (.blt .sortedSet [(.var 3)]))) [.ret (.cst (.bool false))] [], .iff (.cmp .ne (.comp (.var 6) (.name 6) .seq [(.var 3)] (.bor (.bnot (.blt .isInt [(.var 6)])) (.bor (.blt .isBool [(.var 6)]) (.bnot (.chain .le .lt (.cst (.int 0)) (.var 6) (.blt .len [(.var 2)])))))) (.lst [])) [.ret (.cst (.bool false))] [], .iff (.cmp .ne (.call 87 [(.var 1), (.blt .tuple [(.comp (.var 7) (.tup [(.name 6), (.name 7)]) .enum [(.var 2)] (.cmp .notin (.var 6) (.var 3)))])]) (.tup [])) [.ret (.cst (.bool false))] [], .own 4 (.lst [(.tup [(.tup []), (.cst (.int 0))])]), .wip [5, 6], .whl (.cmp .ne (.var 4) (.lst [])) [.pop (.tup [(.name 5), (.name 6)]) 4 none, .iff (.cmp .eq (.var 6) (.blt .len [(.var 2)])) [.iff (.band (.cmp .lt (.bin .sub (.blt .len [(.var 2)]) (.blt .len [(.var 5)])) (.blt .len [(.var 3)])) (.cmp .eq (.call 87 [(.var 1), (.var 5)]) (.tup []))) [.ret (.cst (.bool false))] []] [.app 4 (.tup [(.bin .add (.var 5) (.tup [(.ix (.var 2) (.var 6))])), (.bin .add (.var 6) (.cst (.int 1)))]), .iff (.cmp .lt (.bin .sub (.bin .add (.var 6) (.cst (.int 1))) (.blt .len [(.var 5)])) (.blt .len [(.var 3)])) [.app 4 (.tup [(.var 5), (.bin .add (.var 6) (.cst (.int 1)))])] []]] [5, 6], .ret (.cst (.bool true))] }
def f93_law : Fn := { np := 1, nl := 2, body := [.ret (.band (.call 92 [(.var 0)]) (.call 92 [(.comp (.bin .add (.var 1) (.cst (.int 1))) (.name 1) .seq [(.stp (.var 0) (.cst .none) (.neg (.cst (.int 1))))] yes)]))] }
def f94_law : Fn := { np := 1, nl := 15, body := [.asg (.name 1) (.call 20 [(.call 2 [(.var 0), (.cst (.int 0))])]), .asg (.name 2) (.call 22 [(.var 1), (.call 2 [(.var 0), (.cst (.int 1))]), (.cst (.int 7))]), .asg (.name 3) (.comp (.var 12) (.tup [(.name 12), (.name 13)]) .seq [(.ix (.var 1) (.cst (.int 0)))] yes), .asg (.name 4) (.comp (.call 54 [(.var 1), (.var 2), (.var 12)]) (.name 12) .seq [(.var 3)] yes), .asg (.name 5) (.tup []), .wip [6, 9], .for_ (.name 6) .range1 [(.blt .len [(.var 2)])] [.asg (.name 9) (.call 67 [(.var 2), (.tup [(.var 6)])]), .iff (.cmp .ne (.var 9) (.bin .add (.slc (.var 2) (.cst .none) (.var 6)) (.slc (.var 2) (.bin .add (.var 6) (.cst (.int 1))) (.cst .none)))) [.ret (.cst (.bool false))] [], .iff (.cmp .eq (.comp (.call 54 [(.var 1), (.var 9), (.var 12)]) (.name 12) .seq [(.var 3)] yes) (.var 4)) [.asg (.name 5) (.bin .add (.var 5) (.tup [(.var 6)]))] []] [6, 9], .iff (.bor (.cmp .ne (.call 72 [(.var 1), (.var 2)]) (.var 5)) (.bor (.cmp .ne (.call 67 [(.var 2), (.tup [])]) (.var 2)) (.cmp .ne (.call 67 [(.var 2), (.blt .tupRange [(.blt .len [(.var 2)])])]) (.tup [])))) [.ret (.cst (.bool false))] [], .asg (.name 7) (.call 70 [(.var 1), (.var 2)]), .wip [9, 10, 11], .for_ (.tup [(.name 10), (.name 11)]) .seq [(.var 7)] [.iff (.bor (.cmp .ne (.slc (.ix (.ix (.var 2) (.var 11)) (.cst (.int 1))) (.cst .none) (.blt .len [(.ix (.ix (.var 2) (.var 10)) (.cst (.int 1)))])) (.ix (.ix (.var 2) (.var 10)) (.cst (.int 1)))) (.cmp .le (.blt .len [(.ix (.ix (.var 2) (.var 11)) (.cst (.int 1)))]) (.blt .len [(.ix (.ix (.var 2) (.var 10)) (.cst (.int 1)))]))) [.ret (.cst (.bool false))] [], .asg (.name 9) (.call 67 [(.var 2), (.tup [(.var 11)])]), .iff (.cmp .ne (.comp (.var 14) (.name 14) .seq [(.call 70 [(.var 1), (.var 9)])] (.cmp .eq (.ix (.var 9) (.ix (.var 14) (.cst (.int 1)))) (.ix (.var 2) (.var 11)))) (.lst [])) [.ret (.cst (.bool false))] []] [9, 10, 11], .asg (.name 8) (.call 91 [(.var 1), (.var 2)]), .iff (.bor (.cmp .ne (.call 70 [(.var 1), (.call 67 [(.var 2), (.var 8)])]) (.tup [])) (.cmp .ne (.cmp .eq (.var 8) (.tup [])) (.cmp .eq (.var 7) (.tup [])))) [.ret (.cst (.bool false))] [], .ret (.cmp .eq (.blt .tuple [(.blt .sortedSet [(.var 8)])]) (.var 8))] }
-- 95 law: call _law_due.items
def f96_l_all : Fn := { np := 3, nl := 7, body := [.own 3 (.dct [] []), .wip [4, 6], .for_ (.name 4) .seq [(.var 1)] [.wip [6], .for_ (.name 6) .seq [(.ix (.var 4) (.cst (.int 1)))] [.seti 3 (.var 6) (.cst (.bool true))] [6]] [4, 6], .own 5 (.lst []), .frz 3, .wip [6], .for_ (.name 6) .seq [(.var 3)] [.app 5 (.bin .add (.tup [(.var 6)]) (.call 82 [(.var 0), (.var 1), (.cst (.int 9)), (.tup [(.ix (.var 2) (.cst (.int 0))), (.ix (.var 2) (.cst (.int 1))), (.cst (.int 0))]), (.var 6), (.cst (.int 0))]))] [6], .iff (.cmp .ne (.ix (.var 2) (.cst (.int 1))) (.tup [])) [.app 5 (.bin .add (.tup [(.cst (st [119, 97, 105, 116]))]) (.call 81 [(.var 0), (.var 1), (.var 2)]))] [], .frz 5, .ret (.var 5)] }
def f97_law : Fn := { np := 1, nl := 14, body := [.asg (.name 1) (.call 20 [(.call 2 [(.var 0), (.cst (.int 0))])]), .asg (.name 2) (.call 22 [(.var 1), (.call 2 [(.var 0), (.cst (.int 1))]), (.cst (.int 8))]), .asg (.name 3) (.ix (.lst [(.cst (st [103, 111])), (.cst (st [105, 110])), (.cst (st [111, 117, 116])), (.cst (st [115, 101, 116])), (.cst (st [99, 111, 112, 121])), (.cst (st [117, 110, 100, 111])), (.cst (st [110, 111, 110, 101]))]) (.bin .mod (.call 2 [(.var 0), (.cst (.int 2))]) (.cst (.int 7)))), .asg (.name 4) (.dct [(.tup [(.ix (.ix (.ix (.var 1) (.cst (.int 0))) (.cst (.int 0))) (.cst (.int 0))), (.tup []), (.cst (.int 0))])] [(.cst (.bool true))]), .own 5 (.blt .dict [(.var 4)]), .asg (.name 6) (.cst (.int 0)), .asg (.name 7) (.cst (.int 0)), .wip [9, 10, 11, 12, 13], .whl (.band (.cmp .ne (.var 4) (.dct [] [])) (.cmp .eq (.var 6) (.cst (.int 0)))) [.asg (.name 7) (.bin .add (.var 7) (.cst (.int 1))), .own 12 (.dct [] []), .wip [9, 10, 11, 13], .for_ (.name 9) .seq [(.var 4)] [.wip [10, 11, 13], .for_ (.tup [(.name 11), (.name 13), (.name 10)]) .seq [(.call 96 [(.var 1), (.var 2), (.var 9)])] [.iff (.cmp .isin (.tup [(.cst (st [100, 101, 101, 100])), (.var 3)]) (.var 10)) [.asg (.name 6) (.var 7)] [], .iff (.cmp .notin (.var 13) (.var 5)) [.seti 5 (.var 13) (.cst (.bool true)), .seti 12 (.var 13) (.cst (.bool true))] []] [10, 11, 13]] [9, 10, 11, 13], .frz 12, .asg (.name 4) (.var 12)] [9, 10, 11, 12, 13], .asg (.name 8) (.call 75 [(.var 1), (.var 2), (.var 3)]), .iff (.bor (.cmp .eq (.var 6) (.cst (.int 0))) (.cmp .is (.var 8) (.cst .none))) [.ret (.band (.cmp .eq (.var 6) (.cst (.int 0))) (.cmp .is (.var 8) (.cst .none)))] [], .iff (.bor (.bnot (.blt .isTuple [(.var 8)])) (.cmp .ne (.blt .len [(.var 8)]) (.var 6))) [.ret (.cst (.bool false))] [], .asg (.name 9) (.tup [(.ix (.ix (.ix (.var 1) (.cst (.int 0))) (.cst (.int 0))) (.cst (.int 0))), (.tup []), (.cst (.int 0))]), .asg (.name 10) (.lst []), .wip [11], .for_ (.name 11) .seq [(.var 8)] [.iff (.bor (.cmp .isin (.tup [(.cst (st [100, 101, 101, 100])), (.var 3)]) (.var 10)) (.band (.cmp .eq (.var 11) (.cst (st [119, 97, 105, 116]))) (.cmp .eq (.ix (.var 9) (.cst (.int 1))) (.tup [])))) [.ret (.cst (.bool false))] [], .iff (.cmp .eq (.var 11) (.cst (st [119, 97, 105, 116]))) [.asg (.tup [(.name 9), (.name 10)]) (.call 81 [(.var 1), (.var 2), (.var 9)])] [.asg (.tup [(.name 9), (.name 10)]) (.call 82 [(.var 1), (.var 2), (.cst (.int 9)), (.var 9), (.var 11), (.cst (.int 0))])]] [11], .ret (.cmp .isin (.tup [(.cst (st [100, 101, 101, 100])), (.var 3)]) (.var 10))] }
def f98_over : Fn := { np := 2, nl := 6, body := [.asg (.name 2) (.blt .dict [(.comp (.tup [(.slc (.var 5) (.cst .none) (.cst (.int 2))), (.ix (.var 5) (.cst (.int 2)))]) (.name 5) .seq [(.var 1)] yes)]), .asg (.name 3) (.comp (.bin .add (.slc (.var 5) (.cst .none) (.cst (.int 2))) (.tup [(.mth .get (.var 2) [(.slc (.var 5) (.cst .none) (.cst (.int 2))), (.ix (.var 5) (.cst (.int 2)))])])) (.name 5) .seq [(.var 0)] yes), .asg (.name 4) (.comp (.slc (.var 5) (.cst .none) (.cst (.int 2))) (.name 5) .seq [(.var 0)] yes), .ret (.blt .tuple [(.bin .add (.var 3) (.comp (.var 5) (.name 5) .seq [(.var 1)] (.cmp .notin (.slc (.var 5) (.cst .none) (.cst (.int 2))) (.var 4))))])] }
def f99_exchanged_key : Fn := { np := 3, nl := 3, body := [.ret (.mth .get (.dct [(.var 1), (.var 2)] [(.var 2), (.var 1)]) [(.var 0), (.var 0)])] }
def f100_exchanged : Fn := { np := 3, nl := 8, body := [.own 3 (.lst []), .wip [4, 5, 6], .for_ (.tup [(.name 4), (.name 5), (.name 6)]) .seq [(.var 0)] [.app 3 (.tup [(.var 4), (.blt .tuple [(.comp (.call 99 [(.var 7), (.var 1), (.var 2)]) (.name 7) .seq [(.var 5)] yes)]), (.var 6)])] [4, 5, 6], .ret (.blt .tuple [(.var 3)])] }
def f101_l_over : Fn := { np := 2, nl := 6, body := [.own 2 (.lst []), .wip [4], .for_ (.name 3) .seq [(.var 0)] [.asg (.name 4) (.comp (.var 5) (.name 5) .seq [(.var 1)] (.cmp .eq (.slc (.var 5) (.cst .none) (.cst (.int 2))) (.slc (.var 3) (.cst .none) (.cst (.int 2))))), .app 2 (.ix (.bin .add (.var 4) (.lst [(.var 3)])) (.cst (.int 0)))] [4], .ret (.blt .tuple [(.bin .add (.var 2) (.comp (.var 5) (.name 5) .seq [(.var 1)] (.cmp .notin (.slc (.var 5) (.cst .none) (.cst (.int 2))) (.comp (.slc (.var 3) (.cst .none) (.cst (.int 2))) (.name 3) .seq [(.var 0)] yes))))])] }
-- 102 _law_changes: sorted key
def f103_l_turned : Fn := { np := 3, nl := 5, body := [.asg (.name 3) (.tup []), .wip [4], .for_ (.name 4) .seq [(.var 0)] [.iff (.cmp .eq (.var 4) (.var 1)) [.asg (.name 4) (.var 2)] [.iff (.cmp .eq (.var 4) (.var 2)) [.asg (.name 4) (.var 1)] []], .asg (.name 3) (.bin .add (.var 3) (.tup [(.var 4)]))] [4], .ret (.var 3)] }
def f104_law : Fn := { np := 1, nl := 16, body := [.asg (.name 1) (.call 20 [(.call 2 [(.var 0), (.cst (.int 0))])]), .asg (.name 2) (.call 22 [(.var 1), (.call 2 [(.var 0), (.cst (.int 1))]), (.cst (.int 10))]), .asg (.name 3) (.call 22 [(.var 1), (.call 2 [(.var 0), (.cst (.int 2))]), (.cst (.int 7))]), .asg (.name 4) (.comp (.slc (.var 7) (.cst .none) (.cst (.int 2))) (.name 7) .seq [(.var 3)] yes), .iff (.cmp .eq (.bin .mod (.call 2 [(.var 0), (.cst (.int 3))]) (.cst (.int 2))) (.cst (.int 1))) [.asg (.name 3) (.bin .add (.var 3) (.blt .tuple [(.comp (.bin .add (.slc (.var 14) (.cst .none) (.cst (.int 2))) (.tup [(.cst (st [110, 101, 119]))])) (.name 14) .seq [(.stp (.var 2) (.cst .none) (.cst (.int 2)))] (.cmp .notin (.slc (.var 14) (.cst .none) (.cst (.int 2))) (.var 4)))]))] [], .iff (.cmp .ne (.call 98 [(.var 2), (.var 3)]) (.call 101 [(.var 2), (.var 3)])) [.ret (.cst (.bool false))] [], .asg (.name 5) (.call 2 [(.var 0), (.cst (.int 4))]), .asg (.name 6) (.blt .tuple [(.comp (.var 10) (.name 10) .range1 [(.cst (.int 12))] (.cmp .eq (.bin .mod (.bin .fdiv (.call 3 [(.var 5), (.var 10)]) (.cst (.int 4))) (.cst (.int 3))) (.cst (.int 0))))]), .iff (.cmp .ne (.call 67 [(.var 2), (.var 6)]) (.blt .tuple [(.comp (.var 14) (.tup [(.name 15), (.name 14)]) .enum [(.var 2)] (.cmp .notin (.var 15) (.var 6)))])) [.ret (.cst (.bool false))] [], .iff (.cmp .ne (.call 68 [(.var 1), (.var 2), (.var 3)]) (.call 102 [(.var 1), (.var 2), (.var 3)])) [.ret (.cst (.bool false))] [], .asg (.name 7) (.call 19 [(.bin .fdiv (.var 5) (.cst (.int 16)))]), .asg (.name 8) (.call 19 [(.bin .fdiv (.var 5) (.cst (.int 256)))]), .asg (.name 9) (.blt .tuple [(.comp (.tup [(.var 11), (.call 103 [(.var 12), (.var 7), (.var 8)]), (.var 13)]) (.tup [(.name 11), (.name 12), (.name 13)]) .seq [(.var 2)] yes)]), .ret (.cmp .eq (.call 100 [(.var 2), (.var 7), (.var 8)]) (.var 9))] }
def f105_l_turned : Fn := { np := 3, nl := 5, body := [.asg (.name 3) (.tup []), .wip [4], .for_ (.name 4) .seq [(.var 0)] [.iff (.cmp .eq (.var 4) (.var 1)) [.asg (.name 4) (.var 2)] [.iff (.cmp .eq (.var 4) (.var 2)) [.asg (.name 4) (.var 1)] []], .asg (.name 3) (.bin .add (.var 3) (.tup [(.var 4)]))] [4], .ret (.var 3)] }
def f106_law : Fn := { np := 1, nl := 18, body := [.asg (.name 1) (.call 20 [(.call 2 [(.var 0), (.cst (.int 0))])]), .asg (.name 2) (.call 22 [(.var 1), (.call 2 [(.var 0), (.cst (.int 1))]), (.cst (.int 10))]), .asg (.name 3) (.call 2 [(.var 0), (.cst (.int 2))]), .asg (.name 4) (.bin .add (.cst (.int 1)) (.bin .mod (.var 3) (.cst (.int 7)))), .asg (.name 5) (.call 19 [(.bin .fdiv (.var 3) (.cst (.int 8)))]), .asg (.name 6) (.call 19 [(.bin .fdiv (.var 3) (.cst (.int 128)))]), .asg (.name 7) (.call 76 [(.call 2 [(.var 0), (.cst (.int 3))]), (.bin .mod (.bin .fdiv (.var 3) (.cst (.int 2048))) (.cst (.int 13))), (.var 4)]), .asg (.name 8) (.call 100 [(.var 2), (.var 5), (.var 6)]), .iff (.bor (.cmp .ne (.call 100 [(.var 8), (.var 5), (.var 6)]) (.var 2)) (.cmp .ne (.call 98 [(.var 2), (.var 2)]) (.var 2))) [.ret (.cst (.bool false))] [], .asg (.name 9) (.blt .tuple [(.comp (.bin .add (.call 105 [(.tup [(.var 16)]), (.var 5), (.var 6)]) (.tup [(.var 17)])) (.tup [(.name 16), (.name 17)]) .seq [(.var 7)] yes)]), .asg (.name 10) (.tup []), .wip [12, 13], .for_ (.tup [(.name 12), (.name 13)]) .seq [(.call 66 [(.var 1), (.var 2), (.var 4), (.blt .tuple [(.var 7)])])] [.iff (.cmp .eq (.var 12) (.cst (st [108, 111, 115, 116]))) [.asg (.name 13) (.call 105 [(.var 13), (.var 5), (.var 6)])] [], .asg (.name 10) (.bin .add (.var 10) (.tup [(.tup [(.var 12), (.var 13)])]))] [12, 13], .iff (.cmp .ne (.call 66 [(.var 1), (.var 8), (.var 4), (.var 9)]) (.var 10)) [.ret (.cst (.bool false))] [], .asg (.name 11) (.cst (.bool true)), .wip [14, 15], .for_ (.tup [(.name 14), (.name 15)]) .seq [(.ix (.var 1) (.cst (.int 0)))] [.asg (.name 11) (.band (.var 11) (.cmp .eq (.call 54 [(.var 1), (.var 2), (.var 14)]) (.call 54 [(.var 1), (.var 8), (.var 14)])))] [14, 15], .ret (.cmp .eq (.cmp .eq (.call 68 [(.var 1), (.var 2), (.var 8)]) (.tup [])) (.var 11))] }
def f107_law : Fn := { np := 1, nl := 18, body := [.asg (.name 1) (.call 20 [(.call 2 [(.var 0), (.cst (.int 0))])]), .asg (.tup [(.name 6), (.name 7), (.name 8)]) (.comp (.call 22 [(.var 1), (.call 2 [(.var 0), (.bin .add (.cst (.int 1)) (.var 15))]), (.cst (.int 4))]) (.name 15) .range1 [(.cst (.int 3))] yes), .iff (.cmp .ne (.call 98 [(.call 98 [(.var 6), (.var 7)]), (.var 8)]) (.call 98 [(.var 6), (.call 98 [(.var 7), (.var 8)])])) [.ret (.cst (.bool false))] [], .iff (.bor (.cmp .ne (.call 98 [(.var 6), (.tup [])]) (.var 6)) (.bor (.cmp .ne (.call 98 [(.tup []), (.var 6)]) (.var 6)) (.cmp .ne (.call 98 [(.call 98 [(.var 6), (.var 7)]), (.var 7)]) (.call 98 [(.var 6), (.var 7)])))) [.ret (.cst (.bool false))] [], .asg (.name 2) (.call 98 [(.var 6), (.var 7)]), .asg (.name 3) (.comp (.slc (.var 16) (.cst .none) (.cst (.int 2))) (.name 16) .seq [(.var 6)] yes), .iff (.bor (.cmp .ne (.comp (.var 16) (.name 16) .seq [(.var 7)] (.cmp .notin (.var 16) (.var 2))) (.lst [])) (.cmp .ne (.comp (.slc (.var 16) (.cst .none) (.cst (.int 2))) (.name 16) .seq [(.slc (.var 2) (.cst .none) (.blt .len [(.var 6)]))] yes) (.var 3))) [.ret (.cst (.bool false))] [], .iff (.cmp .ne (.blt .len [(.var 2)]) (.blt .lenSet [(.comp (.slc (.var 16) (.cst .none) (.cst (.int 2))) (.name 16) .seq [(.bin .add (.var 6) (.var 7))] yes)])) [.ret (.cst (.bool false))] [], .asg (.name 4) (.call 2 [(.var 0), (.cst (.int 4))]), .asg (.tup [(.name 9), (.name 10)]) (.tup [(.call 19 [(.var 4)]), (.call 19 [(.bin .fdiv (.var 4) (.cst (.int 16)))])]), .asg (.tup [(.name 11), (.name 12)]) (.tup [(.call 100 [(.var 6), (.var 9), (.var 10)]), (.call 100 [(.var 7), (.var 9), (.var 10)])]), .iff (.cmp .ne (.call 98 [(.var 11), (.var 12)]) (.call 100 [(.var 2), (.var 9), (.var 10)])) [.ret (.cst (.bool false))] [], .iff (.cmp .ne (.call 100 [(.var 6), (.var 9), (.var 9)]) (.var 6)) [.ret (.cst (.bool false))] [], .asg (.name 5) (.call 98 [(.var 7), (.var 6)]), .wip [13, 14], .for_ (.tup [(.name 13), (.name 14)]) .seq [(.ix (.var 1) (.cst (.int 0)))] [.iff (.cmp .eq (.comp (.var 16) (.name 16) .seq [(.var 6)] (.cmp .isin (.slc (.var 16) (.cst .none) (.cst (.int 2))) (.comp (.slc (.var 17) (.cst .none) (.cst (.int 2))) (.name 17) .seq [(.var 7)] yes))) (.lst [])) [.iff (.cmp .ne (.call 54 [(.var 1), (.var 5), (.var 13)]) (.call 54 [(.var 1), (.var 2), (.var 13)])) [.ret (.cst (.bool false))] []] []] [13, 14], .ret (.cmp .eq (.call 100 [(.var 6), (.var 9), (.var 10)]) (.call 100 [(.var 6), (.var 10), (.var 9)]))] }
def f108_law : Fn := { np := 1, nl := 20, body := [.asg (.name 1) (.call 20 [(.call 2 [(.var 0), (.cst (.int 0))])]), .asg (.tup [(.name 6), (.name 7), (.name 8)]) (.comp (.call 22 [(.var 1), (.call 2 [(.var 0), (.bin .add (.cst (.int 1)) (.var 14))]), (.cst (.int 8))]) (.name 14) .range1 [(.cst (.int 3))] yes), .asg (.name 2) (.call 68 [(.var 1), (.var 6), (.var 7)]), .iff (.cmp .ne (.call 68 [(.var 1), (.var 7), (.var 6)]) (.blt .tuple [(.comp (.tup [(.var 9), (.var 10), (.var 12), (.var 11)]) (.tup [(.name 9), (.name 10), (.name 11), (.name 12)]) .seq [(.var 2)] yes)])) [.ret (.cst (.bool false))] [], .iff (.bor (.cmp .ne (.call 68 [(.var 1), (.var 6), (.var 6)]) (.tup [])) (.cmp .ne (.call 68 [(.var 1), (.var 6), (.stp (.var 6) (.cst .none) (.neg (.cst (.int 1))))]) (.tup []))) [.ret (.cst (.bool false))] [], .own 3 (.lst []), .wip [9, 10, 11, 12], .for_ (.tup [(.name 9), (.name 10), (.name 11), (.name 12)]) .seq [(.var 2)] [.iff (.cmp .ne (.mth .get (.blt .dict [(.call 54 [(.var 1), (.var 6), (.var 9)])]) [(.var 10), (.cst .none)]) (.var 11)) [.ret (.cst (.bool false))] [], .iff (.cmp .ne (.mth .get (.blt .dict [(.call 54 [(.var 1), (.var 7), (.var 9)])]) [(.var 10), (.cst .none)]) (.var 12)) [.ret (.cst (.bool false))] [], .iff (.cmp .eq (.var 11) (.var 12)) [.ret (.cst (.bool false))] [], .app 3 (.tup [(.var 9), (.var 10)])] [9, 10, 11, 12], .wip [9, 10, 13, 17, 18], .for_ (.tup [(.name 9), (.name 13)]) .seq [(.ix (.var 1) (.cst (.int 0)))] [.asg (.tup [(.name 17), (.name 18)]) (.tup [(.blt .dict [(.call 54 [(.var 1), (.var 6), (.var 9)])]), (.blt .dict [(.call 54 [(.var 1), (.var 7), (.var 9)])])]), .wip [10], .for_ (.name 10) .seq [(.bin .add (.blt .list [(.var 17)]) (.blt .list [(.var 18)]))] [.iff (.band (.cmp .ne (.mth .get (.var 17) [(.var 10), (.cst .none)]) (.mth .get (.var 18) [(.var 10), (.cst .none)])) (.cmp .notin (.tup [(.var 9), (.var 10)]) (.var 3))) [.ret (.cst (.bool false))] []] [10]] [9, 10, 13, 17, 18], .asg (.name 4) (.bin .add (.var 3) (.comp (.slc (.var 16) (.cst .none) (.cst (.int 2))) (.name 16) .seq [(.call 68 [(.var 1), (.var 7), (.var 8)])] yes)), .iff (.cmp .ne (.comp (.var 16) (.name 16) .seq [(.call 68 [(.var 1), (.var 6), (.var 8)])] (.cmp .notin (.slc (.var 16) (.cst .none) (.cst (.int 2))) (.var 4))) (.lst [])) [.ret (.cst (.bool false))] [], .asg (.name 5) (.blt .dict [(.ix (.var 1) (.cst (.int 0)))]), .wip [14, 15, 16, 19], .for_ (.tup [(.name 14), (.name 15)]) .enum [(.var 6)] [.wip [16, 19], .for_ (.name 16) .seq [(.call 68 [(.var 1), (.var 6), (.call 67 [(.var 6), (.tup [(.var 14)])])])] [.own 19 (.lst [(.ix (.var 16) (.cst (.int 0)))]), .wip [], .whl (.cmp .isnot (.ix (.var 5) (.ix (.var 19) (.neg (.cst (.int 1))))) (.cst .none)) [.app 19 (.ix (.var 5) (.ix (.var 19) (.neg (.cst (.int 1)))))] [], .iff (.bor (.cmp .notin (.ix (.var 15) (.cst (.int 0))) (.var 19)) (.cmp .ne (.ix (.var 16) (.cst (.int 1))) (.ix (.var 15) (.cst (.int 1))))) [.ret (.cst (.bool false))] []] [16, 19]] [14, 15, 16, 19], .ret (.cst (.bool true))] }
def f109_free : Fn := { np := 3, nl := 7, body := [.asg (.name 3) (.comp (.ix (.var 4) (.cst (.int 0))) (.tup [(.name 4), (.name 5)]) .seq [(.call 54 [(.var 0), (.var 1), (.var 2)])] yes), .ret (.blt .tuple [(.comp (.var 6) (.name 6) .seq [(.blt .sorted [(.blt .list [(.bin .add (.glob "LETTERS" (st [97, 98, 99, 100, 101, 102, 103, 104, 105, 106, 107, 108, 109, 110, 111, 112, 113, 114, 115, 116, 117, 118, 119, 120, 121, 122])) (.glob "FIGURES" (st [48, 49, 50, 51, 52, 53, 54, 55, 56, 57])))])])] (.cmp .notin (.var 6) (.var 3)))])] }
def f110_entries : Fn := { np := 3, nl := 10, body := [.asg (.name 3) (.comp (.tup [(.mth .join (.cst (st [32])) [(.var 8)]), (.var 9)]) (.tup [(.name 8), (.name 9)]) .seq [(.call 54 [(.var 0), (.var 1), (.var 2)])] yes), .asg (.name 4) (.blt .maxL [(.bin .add (.lst [(.cst (.int 0))]) (.comp (.blt .len [(.var 8)]) (.tup [(.name 8), (.name 9)]) .seq [(.var 3)] yes))]), .asg (.name 5) (.comp (.bin .add (.bin .add (.mth .ljust (.var 8) [(.var 4)]) (.glob "GAP" (st [32, 32]))) (.var 9)) (.tup [(.name 8), (.name 9)]) .seq [(.var 3)] yes), .asg (.name 6) (.blt .maxL [(.bin .add (.lst [(.cst (.int 0))]) (.comp (.blt .len [(.var 7)]) (.name 7) .seq [(.var 5)] yes))]), .ret (.comp (.mth .ljust (.var 7) [(.var 6)]) (.name 7) .seq [(.var 5)] yes)] }
def f111_sheet : Fn := { np := 4, nl := 8, body := [.asg (.name 4) (.call 110 [(.var 0), (.var 1), (.var 2)]), .iff (.cmp .eq (.blt .len [(.var 4)]) (.cst (.int 0))) [.ret (.tup [])] [], .asg (.name 5) (.blt .max2 [(.cst (.int 1)), (.bin .fdiv (.bin .add (.var 3) (.blt .len [(.glob "GAP" (st [32, 32]))])) (.bin .add (.blt .len [(.ix (.var 4) (.cst (.int 0)))]) (.blt .len [(.glob "GAP" (st [32, 32]))])))]), .asg (.name 6) (.bin .fdiv (.bin .sub (.bin .add (.blt .len [(.var 4)]) (.var 5)) (.cst (.int 1))) (.var 5)), .ret (.blt .tuple [(.comp (.mth .rstrip (.mth .join (.glob "GAP" (st [32, 32])) [(.stp (.var 4) (.var 7) (.var 6))]) [(.cst (st [32]))]) (.name 7) .range1 [(.var 6)] yes)])] }
def f112_law : Fn := { np := 1, nl := 22, body := [.asg (.name 1) (.call 20 [(.call 2 [(.var 0), (.cst (.int 0))])]), .asg (.name 2) (.call 22 [(.var 1), (.call 2 [(.var 0), (.cst (.int 1))]), (.cst (.int 10))]), .asg (.name 3) (.bin .add (.cst (.int 1)) (.bin .mod (.call 2 [(.var 0), (.cst (.int 2))]) (.cst (.int 90)))), .wip [4, 5, 6, 7, 8, 9, 10, 11, 12, 13, 14, 15, 18, 19], .for_ (.tup [(.name 4), (.name 5)]) .seq [(.ix (.var 1) (.cst (.int 0)))] [.asg (.name 6) (.call 56 [(.var 1), (.var 2), (.var 4)]), .asg (.name 7) (.comp (.ix (.var 17) (.cst (.int 0))) (.name 17) .seq [(.var 6)] yes), .asg (.name 8) (.cst (st [48, 49, 50, 51, 52, 53, 54, 55, 56, 57, 97, 98, 99, 100, 101, 102, 103, 104, 105, 106, 107, 108, 109, 110, 111, 112, 113, 114, 115, 116, 117, 118, 119, 120, 121, 122])), .iff (.cmp .ne (.call 109 [(.var 1), (.var 2), (.var 4)]) (.blt .tuple [(.comp (.var 21) (.name 21) .seq [(.var 8)] (.cmp .notin (.var 21) (.var 7)))])) [.ret (.cst (.bool false))] [], .asg (.name 9) (.comp (.tup [(.mth .join (.cst (st [32])) [(.var 17)]), (.ix (.var 6) (.var 17))]) (.name 17) .seq [(.blt .sorted [(.var 6)])] yes), .asg (.name 10) (.blt .maxL [(.bin .add (.lst [(.cst (.int 0))]) (.comp (.blt .len [(.var 16)]) (.tup [(.name 16), (.name 20)]) .seq [(.var 9)] yes))]), .asg (.name 9) (.comp (.bin .add (.bin .add (.var 16) (.bin .mul (.cst (st [32])) (.bin .add (.bin .sub (.var 10) (.blt .len [(.var 16)])) (.cst (.int 2))))) (.var 20)) (.tup [(.name 16), (.name 20)]) .seq [(.var 9)] yes), .asg (.name 11) (.blt .maxL [(.bin .add (.lst [(.cst (.int 0))]) (.comp (.blt .len [(.var 16)]) (.name 16) .seq [(.var 9)] yes))]), .asg (.name 12) (.cst (.int 1)), .wip [], .whl (.band (.cmp .le (.bin .add (.bin .mul (.bin .add (.var 12) (.cst (.int 1))) (.var 11)) (.bin .mul (.cst (.int 2)) (.var 12))) (.var 3)) (.cmp .lt (.var 12) (.cst (.int 20)))) [.asg (.name 12) (.bin .add (.var 12) (.cst (.int 1)))] [], .asg (.name 13) (.cst (.int 0)), .wip [], .whl (.cmp .lt (.bin .mul (.var 13) (.var 12)) (.blt .len [(.var 9)])) [.asg (.name 13) (.bin .add (.var 13) (.cst (.int 1)))] [], .own 14 (.lst []), .wip [15, 18, 19], .for_ (.name 15) .range1 [(.var 13)] [.asg (.name 16) (.cst (st [])), .wip [18, 19], .for_ (.tup [(.name 18), (.name 19)]) .enum [(.var 9)] [.iff (.cmp .eq (.bin .mod (.var 18) (.var 13)) (.var 15)) [.asg (.name 16) (.bin .add (.bin .add (.var 16) (.var 19)) (.bin .mul (.cst (st [32])) (.bin .add (.bin .sub (.var 11) (.blt .len [(.var 19)])) (.cst (.int 2)))))] []] [18, 19], .wip [], .whl (.cmp .eq (.ix (.var 16) (.neg (.cst (.int 1)))) (.cst (st [32]))) [.asg (.name 16) (.slc (.var 16) (.cst .none) (.neg (.cst (.int 1))))] [], .app 14 (.var 16)] [15, 18, 19], .iff (.cmp .ne (.call 111 [(.var 1), (.var 2), (.var 4), (.var 3)]) (.blt .tuple [(.var 14)])) [.ret (.cst (.bool false))] []] [4, 5, 6, 7, 8, 9, 10, 11, 12, 13, 14, 15, 18, 19], .ret (.cst (.bool true))] }
def f113_lengths_for : Fn := { np := 2, nl := 6, body := [.own 2 (.lst []), .wip [3, 4, 5], .for_ (.name 3) .range1 [(.bin .add (.var 0) (.cst (.int 1)))] [.wip [4, 5], .for_ (.name 4) .range1 [(.bin .sub (.bin .add (.var 0) (.cst (.int 1))) (.var 3))] [.asg (.name 5) (.bin .sub (.bin .sub (.var 0) (.var 3)) (.var 4)), .iff (.cmp .le (.bin .add (.bin .add (.bin .mul (.bin .mul (.var 3) (.var 1)) (.var 1)) (.bin .mul (.var 4) (.var 1))) (.var 5)) (.bin .mul (.bin .mul (.var 1) (.var 1)) (.var 1))) [.app 2 (.bin .add (.bin .add (.bin .mul (.lst [(.cst (.int 1))]) (.var 3)) (.bin .mul (.lst [(.cst (.int 2))]) (.var 4))) (.bin .mul (.lst [(.cst (.int 3))]) (.var 5)))] []] [4, 5]] [3, 4, 5], .frz 2, .ret (.var 2)] }
def f114_rows_for : Fn := { np := 2, nl := 9, body := [.own 2 (.lst []), .asg (.name 3) (.cst (.int 0)), .wip [4, 5, 6, 7, 8], .for_ (.name 4) .seq [(.var 0)] [.own 5 (.lst []), .asg (.name 6) (.var 3), .wip [7], .for_ (.name 7) .range1 [(.glob "LONGEST" (.int 3))] [.app 5 (.ix (.var 1) (.bin .mod (.var 6) (.blt .len [(.var 1)]))), .asg (.name 6) (.bin .fdiv (.var 6) (.blt .len [(.var 1)]))] [7], .app 2 (.blt .tuple [(.slc (.stp (.var 5) (.cst .none) (.neg (.cst (.int 1)))) (.cst .none) (.var 4))]), .asg (.name 8) (.cst (.int 1)), .wip [7], .for_ (.name 7) .range1 [(.bin .sub (.glob "LONGEST" (.int 3)) (.var 4))] [.asg (.name 8) (.bin .mul (.var 8) (.blt .len [(.var 1)]))] [7], .asg (.name 3) (.bin .add (.var 3) (.var 8))] [4, 5, 6, 7, 8], .frz 2, .ret (.var 2)] }
-- 115 coded: sorted key
def f116_presses : Fn := { np := 2, nl := 5, body := [.asg (.name 2) (.blt .dict [(.var 1)]), .ret (.blt .sum [(.comp (.bin .mul (.var 4) (.blt .len [(.ix (.var 2) (.var 3))])) (.tup [(.name 3), (.name 4)]) .seq [(.var 0)] yes)])] }
def f117_l_least : Fn := { np := 2, nl := 10, body := [.asg (.name 2) (.dct [(.tup [(.cst (.int 0)), (.cst (.int 0))])] [(.cst (.int 0))]), .wip [3, 4, 5, 6, 7, 8, 9], .for_ (.name 3) .seq [(.var 0)] [.own 4 (.dct [] []), .wip [5, 6, 7, 8, 9], .for_ (.tup [(.name 5), (.name 6)]) .items [(.var 2)] [.wip [7, 8, 9], .for_ (.name 7) .seq [(.tup [(.cst (.int 1)), (.cst (.int 2)), (.cst (.int 3))])] [.asg (.name 8) (.bin .add (.ix (.var 5) (.cst (.int 0))) (.bin .fdiv (.bin .mul (.bin .mul (.var 1) (.var 1)) (.var 1)) (.ix (.tup [(.cst (.int 1)), (.var 1), (.bin .mul (.var 1) (.var 1)), (.bin .mul (.bin .mul (.var 1) (.var 1)) (.var 1))]) (.var 7)))), .iff (.band (.cmp .ge (.var 7) (.ix (.var 5) (.cst (.int 1)))) (.cmp .le (.var 8) (.bin .mul (.bin .mul (.var 1) (.var 1)) (.var 1)))) [.asg (.name 9) (.tup [(.var 8), (.var 7)]), .seti 4 (.var 9) (.blt .min2 [(.mth .get (.var 4) [(.var 9), (.bin .pow (.cst (.int 10)) (.cst (.int 9)))]), (.bin .add (.var 6) (.bin .mul (.var 3) (.var 7)))])] []] [7, 8, 9]] [5, 6, 7, 8, 9], .frz 4, .asg (.name 2) (.var 4)] [3, 4, 5, 6, 7, 8, 9], .ret (.ix (.lst [(.cst .none), (.blt .minL [(.bin .add (.blt .values [(.var 2)]) (.lst [(.bin .pow (.cst (.int 10)) (.cst (.int 9)))]))])]) (.blt .int [(.cmp .ne (.var 2) (.dct [] []))]))] }
-- 118 law: sorted kw
def f119_law : Fn := { np := 1, nl := 19, body := [.asg (.name 1) (.call 20 [(.call 2 [(.var 0), (.cst (.int 0))])]), .asg (.name 2) (.call 22 [(.var 1), (.call 2 [(.var 0), (.cst (.int 1))]), (.cst (.int 10))]), .wip [3, 4, 5, 6, 7, 8, 9, 10, 11, 13, 14, 15, 17], .for_ (.tup [(.name 3), (.name 4)]) .seq [(.ix (.var 1) (.cst (.int 0)))] [.asg (.name 5) (.call 54 [(.var 1), (.var 2), (.var 3)]), .asg (.name 6) (.call 111 [(.var 1), (.var 2), (.var 3), (.cst (.int 1))]), .iff (.cmp .ne (.blt .len [(.var 6)]) (.blt .len [(.var 5)])) [.ret (.cst (.bool false))] [], .wip [13, 17], .for_ (.tup [(.name 12), (.tup [(.name 16), (.name 17)])]) .zip [(.var 6), (.var 5)] [.asg (.name 13) (.comp (.var 18) (.name 18) .seq [(.mth .split (.var 12) [(.cst (st [32]))])] (.cmp .ne (.var 18) (.cst (st [])))), .iff (.bor (.cmp .eq (.slc (.var 12) (.cst .none) (.cst (.int 1))) (.cst (st [32]))) (.cmp .ne (.var 13) (.bin .add (.blt .list [(.var 16)]) (.lst [(.var 17)])))) [.ret (.cst (.bool false))] []] [13, 17], .asg (.name 7) (.blt .sorted [(.comp (.var 18) (.name 18) .seq [(.mth .split (.mth .join (.cst (st [32])) [(.var 6)]) [(.cst (st [32]))])] (.cmp .ne (.var 18) (.cst (st []))))]), .asg (.name 8) (.blt .len [(.var 6)]), .wip [9, 14, 15], .for_ (.name 9) .seq [(.tup [(.cst (.int 9)), (.cst (.int 20)), (.cst (.int 40)), (.cst (.int 90)), (.cst (.int 1000))])] [.asg (.name 14) (.call 111 [(.var 1), (.var 2), (.var 3), (.var 9)]), .iff (.bor (.cmp .gt (.blt .len [(.var 14)]) (.var 8)) (.cmp .ne (.comp (.var 12) (.name 12) .seq [(.var 14)] (.cmp .ne (.var 12) (.mth .rstrip (.var 12) [(.cst (st [32]))]))) (.lst []))) [.ret (.cst (.bool false))] [], .iff (.cmp .ne (.blt .sorted [(.comp (.var 18) (.name 18) .seq [(.mth .split (.mth .join (.cst (st [32])) [(.var 14)]) [(.cst (st [32]))])] (.cmp .ne (.var 18) (.cst (st []))))]) (.var 7)) [.ret (.cst (.bool false))] [], .asg (.name 15) (.blt .maxL [(.bin .add (.lst [(.cst (.int 0))]) (.comp (.blt .len [(.var 12)]) (.name 12) .seq [(.var 6)] yes))]), .iff (.band (.cmp .ge (.var 9) (.var 15)) (.cmp .ne (.comp (.var 12) (.name 12) .seq [(.var 14)] (.cmp .gt (.blt .len [(.var 12)]) (.var 9))) (.lst []))) [.ret (.cst (.bool false))] [], .asg (.name 8) (.blt .len [(.var 14)])] [9, 14, 15], .iff (.cmp .ne (.var 8) (.blt .min2 [(.cst (.int 1)), (.blt .len [(.var 5)])])) [.ret (.cst (.bool false))] [], .asg (.name 10) (.call 109 [(.var 1), (.var 2), (.var 3)]), .iff (.cmp .ne (.bin .add (.blt .len [(.var 10)]) (.blt .lenSet [(.comp (.ix (.var 16) (.cst (.int 0))) (.tup [(.name 16), (.name 17)]) .seq [(.var 5)] (.cmp .eq (.blt .len [(.ix (.var 16) (.cst (.int 0)))]) (.cst (.int 1))))])) (.cst (.int 36))) [.ret (.cst (.bool false))] [], .asg (.name 11) (.bin .add (.slc (.var 2) (.cst .none) (.cst (.int 11))) (.tup [(.tup [(.var 3), (.tup [(.ix (.var 10) (.cst (.int 0))), (.cst (st [97]))]), (.cst (st [102, 114, 101, 115, 104]))])])), .iff (.bor (.cmp .isin (.ix (.var 10) (.cst (.int 0))) (.call 109 [(.var 1), (.var 11), (.var 3)])) (.cmp .ne (.blt .list [(.var 10)]) (.blt .sortedSet [(.var 10)]))) [.ret (.cst (.bool false))] []] [3, 4, 5, 6, 7, 8, 9, 10, 11, 13, 14, 15, 17], .ret (.cst (.bool true))] }
-- 120 law: Lambda
def PP : Nat → Option Fn
  | 0 => some f0_is_key
  | 1 => some f1_l_cell_at
  | 2 => some f2_l_mixed
  | 3 => some f3_l_drawn
  | 4 => some f4_l_is_name
  | 5 => some f5_l_is_key
  | 6 => some f6_l_are_pairs
  | 7 => some f7_l_is_house
  | 8 => some f8_l_is_map
  | 9 => some f9_l_odd
  | 10 => some f10_l_spoilt
  | 11 => some f11_l_once
  | 12 => some f12_law
  | 13 => some f13_is_name
  | 14 => some f14_is_pair
  | 15 => some f15_are_rooms
  | 16 => some f16_is_house
  | 17 => some f17_is_bind
  | 18 => some f18_is_map
  | 19 => some f19_l_key
  | 20 => some f20_l_house
  | 21 => some f21_l_bind
  | 22 => some f22_l_map
  | 23 => some f23_l_is_map
  | 24 => some f24_law
  | 25 => some f25_room_text
  | 26 => some f26_written_house
  | 27 => some f27_bind_text
  | 28 => some f28_written
  | 29 => some f29_l_house_text
  | 30 => some f30_l_text
  | 31 => some f31_law
  | 33 => some f33_room_of
  | 35 => some f35_l_changed
  | 37 => some f37_l_due
  | 39 => some f39_bind_of
  | 41 => some f41_l_due
  | 44 => some f44_l_mixed
  | 46 => some f46_l_places_in
  | 48 => some f48_l_otherwise
  | 50 => some f50_l_once
  | 51 => some f51_law
  | 52 => some f52_outward
  | 53 => some f53_holder
  | 54 => some f54_rows
  | 55 => some f55_l_holder
  | 56 => some f56_l_rows
  | 58 => some f58_law
  | 59 => some f59_begin
  | 60 => some f60_goes_on
  | 61 => some f61_with_deed
  | 62 => some f62_settled
  | 63 => some f63_passed
  | 64 => some f64_taken
  | 65 => some f65_pressed
  | 66 => some f66_run
  | 67 => some f67_without
  | 69 => some f69_hold_in
  | 70 => some f70_clashes
  | 71 => some f71_all_rows
  | 72 => some f72_useless
  | 73 => some f73_all_keys
  | 74 => some f74_steps_from
  | 75 => some f75_steps_to
  | 76 => some f76_l_presses
  | 77 => some f77_law
  | 78 => some f78_hints
  | 79 => some f79_l_new_told
  | 80 => some f80_law
  | 81 => some f81_l_settled
  | 82 => some f82_l_pressed
  | 83 => some f83_law
  | 84 => some f84_law
  | 85 => some f85_law
  | 86 => some f86_law
  | 87 => some f87_l_clashes
  | 88 => some f88_law
  | 89 => some f89_law
  | 90 => some f90_choices
  | 91 => some f91_cleared
  | 92 => some f92_l_once
  | 93 => some f93_law
  | 94 => some f94_law
  | 96 => some f96_l_all
  | 97 => some f97_law
  | 98 => some f98_over
  | 99 => some f99_exchanged_key
  | 100 => some f100_exchanged
  | 101 => some f101_l_over
  | 103 => some f103_l_turned
  | 104 => some f104_law
  | 105 => some f105_l_turned
  | 106 => some f106_law
  | 107 => some f107_law
  | 108 => some f108_law
  | 109 => some f109_free
  | 110 => some f110_entries
  | 111 => some f111_sheet
  | 112 => some f112_law
  | 113 => some f113_lengths_for
  | 114 => some f114_rows_for
  | 116 => some f116_presses
  | 117 => some f117_l_least
  | 119 => some f119_law
  | _ => none
end KD
/-! KdEv: the evaluator's rules, for simp. -/
namespace KD
open PySem hiding Env Flow
section
variable {call : Nat → List D → R D} {ρ : Env} {m : Bool} {wf : Nat}
@[simp] theorem ev_cst (d : D) : ev call ρ m (.cst d) = .ok d := by simp only [ev]
@[simp] theorem ev_glob (x : Str) (d : D) : ev call ρ m (.glob x d) = .ok d := by simp only [ev]
@[simp] theorem ev_var (i : Nat) : ev call ρ m (.var i) = getV m ρ i := by simp only [ev]
@[simp] theorem ev_tup (es : List Ex) : ev call ρ m (.tup es) = (evs call ρ false es).bind fun ds => .guard (decide (ds.length ≤ 1000)) (.ok (.tuple ds)) := by simp only [ev]
@[simp] theorem ev_lst (es : List Ex) : ev call ρ m (.lst es) = (evs call ρ false es).bind fun ds => .guard (decide (ds.length ≤ 1000)) (.ok (.list ds)) := by simp only [ev]
@[simp] theorem ev_bin (op : BOp) (a b : Ex) : ev call ρ m (.bin op a b) = (ev call ρ true a).bind fun x => (ev call ρ true b).bind fun y => binD op x y := by simp only [ev]
@[simp] theorem ev_neg (a : Ex) : ev call ρ m (.neg a) = (ev call ρ true a).bind negD := by simp only [ev]
@[simp] theorem ev_cmp (op : COp) (a b : Ex) : ev call ρ m (.cmp op a b) = (ev call ρ true a).bind fun x => (ev call ρ true b).bind fun y => (cmpB op x y).bind fun r => .ok (.bool r) := by simp only [ev]
@[simp] theorem ev_bnot (a : Ex) : ev call ρ m (.bnot a) = (ev call ρ true a).bind fun x => (asB x).bind fun r => .ok (.bool (!r)) := by simp only [ev]
@[simp] theorem ev_ix (a i : Ex) : ev call ρ m (.ix a i) = (ev call ρ true a).bind fun x => (ev call ρ true i).bind fun y => ixD x y := by simp only [ev]
@[simp] theorem ev_slc (a l h : Ex) : ev call ρ m (.slc a l h) = (ev call ρ true a).bind fun x => (ev call ρ true l).bind fun y => (partX l y).bind fun lo => (ev call ρ true h).bind fun z => (partX h z).bind fun hi => cutD x lo hi := by simp only [ev]
@[simp] theorem ev_call (f : Nat) (es : List Ex) : ev call ρ m (.call f es) = (evs call ρ false es).bind fun ds => call f ds := by simp only [ev]
@[simp] theorem ev_blt (b : Blt) (es : List Ex) : ev call ρ m (.blt b es) = (evs call ρ true es).bind fun ds => bltD b ds := by simp only [ev]
@[simp] theorem ev_mth (k : Mth) (a : Ex) (es : List Ex) : ev call ρ m (.mth k a es) = (ev call ρ true a).bind fun x => (evs call ρ false es).bind fun ds => mthD k x ds := by simp only [ev]
/-- a comprehension's item at a state -/
def cbody (call : Nat → List D → R D) (elt cond : Ex) (ρ' : Env) : R (Option D) := (ev call ρ' true cond).bind fun c => (asB c).bind fun r => match r with
        | true => (ev call ρ' false elt).bind fun y => .ok (some y)
        | false => .ok none
/-- one turn of a comprehension -/
def cstep (call : Nat → List D → R D) (ρ : Env) (elt : Ex) (t : Tg) (cond : Ex) (x : D) : R (Option D) := (asgT (wipeE ρ t.names) t x).bind (cbody call elt cond)
@[simp] theorem ev_comp (elt : Ex) (t : Tg) (k : IK) (its : List Ex) (cond : Ex) : ev call ρ m (.comp elt t k its cond) = (evs call ρ true its).bind fun ds => (walkD k ds).bind fun xs => (compF (cstep call ρ elt t cond) xs).bind fun ys => .ok (.list ys) := by
  simp only [ev]
  try rfl
@[simp] theorem evs_nil : evs call ρ m [] = .ok [] := by simp only [evs]
@[simp] theorem evs_cons (e : Ex) (es : List Ex) : evs call ρ m (e :: es) = (ev call ρ m e).bind fun d => (evs call ρ m es).bind fun ds => .ok (d :: ds) := by simp only [evs]
/-- a choice, later -/
def pick {α : Type} (r : Bool) (a b : R α) : R α := match r with
  | true => a
  | false => b
@[simp] theorem pick_true {α : Type} (a b : R α) : pick true a b = a := rfl
@[simp] theorem pick_false {α : Type} (a b : R α) : pick false a b = b := rfl
@[simp] theorem ev_band (a b : Ex) : ev call ρ m (.band a b) = (ev call ρ true a).bind fun x => (asB x).bind fun r => pick r ((ev call ρ true b).bind fun y => (asB y).bind fun r' => .ok (.bool r')) (.ok (.bool false)) := by
  simp only [ev]
  try rfl
@[simp] theorem ev_bor (a b : Ex) : ev call ρ m (.bor a b) = (ev call ρ true a).bind fun x => (asB x).bind fun r => pick r (.ok (.bool true)) ((ev call ρ true b).bind fun y => (asB y).bind fun r' => .ok (.bool r')) := by
  simp only [ev]
  try rfl
@[simp] theorem ev_ife (c a b : Ex) : ev call ρ m (.ife c a b) = (ev call ρ true c).bind fun x => (asB x).bind fun r => pick r (ev call ρ false a) (ev call ρ false b) := by
  simp only [ev]
  try rfl
@[simp] theorem ev_chain (op op' : COp) (a b c : Ex) : ev call ρ m (.chain op op' a b c) = (ev call ρ true a).bind fun x => (ev call ρ true b).bind fun y => (cmpB op x y).bind fun r => pick r ((ev call ρ true c).bind fun z => (cmpB op' y z).bind fun r' => .ok (.bool r')) (.ok (.bool false)) := by
  simp only [ev]
  try rfl
@[simp] theorem bind_assoc {α β γ : Type} (x : R α) (f : α → R β) (g : β → R γ) : (x.bind f).bind g = x.bind fun a => (f a).bind g := by cases x <;> rfl
@[simp] theorem bind_guard {α β : Type} (c : Bool) (x : R α) (f : α → R β) : (R.guard c x).bind f = R.guard c (x.bind f) := by cases c <;> rfl
@[simp] theorem cbody_eq (elt cond : Ex) : cbody call elt cond ρ = (ev call ρ true cond).bind fun c => (asB c).bind fun r => pick r ((ev call ρ false elt).bind fun y => .ok (some y)) (.ok none) := by
  unfold cbody pick
  rfl
/-! statements -/
/-- the statements behind -/
def cont (call : Nat → List D → R D) (wf : Nat) (r : List Stm) : Flow → R Flow
  | .nx ρ' => exs call wf ρ' r
  | .br ρ' => .ok (.br ρ')
  | .cn ρ' => .ok (.cn ρ')
  | .rt d => .ok (.rt d)
@[simp] theorem cont_nx (r : List Stm) : cont call wf r (.nx ρ) = exs call wf ρ r := rfl
@[simp] theorem cont_br (r : List Stm) : cont call wf r (.br ρ) = .ok (.br ρ) := rfl
@[simp] theorem cont_cn (r : List Stm) : cont call wf r (.cn ρ) = .ok (.cn ρ) := rfl
@[simp] theorem cont_rt (r : List Stm) (d : D) : cont call wf r (.rt d) = .ok (.rt d) := rfl
/-- a loop's turn -/
def exsC (call : Nat → List D → R D) (wf : Nat) (body : List Stm) (ρ : Env) : R Flow := exs call wf ρ body
@[simp] theorem exsC_eq (r : List Stm) : exsC call wf r ρ = exs call wf ρ r := rfl
def fstep (call : Nat → List D → R D) (wf : Nat) (t : Tg) (body : List Stm) (x : D) (ρ : Env) : R Flow := (asgT ρ t x).bind (exsC call wf body)
@[simp] theorem endF_rt (d : D) : endF (.rt d) = .ok d := rfl
@[simp] theorem endF_nx (ρ : Env) : endF (.nx ρ) = .ok .none := rfl
@[simp] theorem exs_nil : exs call wf ρ [] = .ok (.nx ρ) := by simp only [exs]
@[simp] theorem exs_cons (s : Stm) (r : List Stm) : exs call wf ρ (s :: r) = (exS call wf ρ s).bind (cont call wf r) := by
  simp only [exs]
  try rfl
@[simp] theorem exS_asg (t : Tg) (e : Ex) : exS call wf ρ (.asg t e) = (ev call ρ false e).bind fun d => (asgT ρ t d).bind fun ρ' => .ok (.nx ρ') := by simp only [exS]
@[simp] theorem exS_own (i : Nat) (e : Ex) : exS call wf ρ (.own i e) = .guard (fresh e) ((ev call ρ false e).bind fun d => .guard (isCont d) (.ok (.nx (ownSet ρ i d)))) := by simp only [exS]
@[simp] theorem exS_iff (c : Ex) (a b : List Stm) : exS call wf ρ (.iff c a b) = (ev call ρ true c).bind fun x => (asB x).bind fun r => pick r (exs call wf ρ a) (exs call wf ρ b) := by
  simp only [exS]
  try rfl
@[simp] theorem exS_for (t : Tg) (k : IK) (its : List Ex) (body : List Stm) (w : List Nat) : exS call wf ρ (.for_ t k its body w) = (evs call ρ false its).bind fun ds => (walkD k ds).bind fun xs => forF (fstep call wf t body) w xs ρ := by
  simp only [exS]
  try rfl
@[simp] theorem exS_ret (e : Ex) : exS call wf ρ (.ret e) = (ev call ρ false e).bind fun d => .ok (.rt d) := by simp only [exS]
@[simp] theorem exS_wip (is : List Nat) : exS call wf ρ (.wip is) = .ok (.nx (wipeE ρ is)) := by simp only [exS]
@[simp] theorem exS_pas : exS call wf ρ .pas = .ok (.nx ρ) := by simp only [exS]
@[simp] theorem exS_brk : exS call wf ρ .brk = .ok (.br ρ) := by simp only [exS]
@[simp] theorem exS_cnt : exS call wf ρ .cnt = .ok (.cn ρ) := by simp only [exS]
/-- an item more -/
def appS (o : Option (Option Sl)) (k : List D → R Flow) : R Flow := match o with
  | some (some (.own (.list xs))) => k xs
  | _ => .bot
@[simp] theorem appS_own (xs : List D) (k : List D → R Flow) : appS (some (some (.own (.list xs)))) k = k xs := rfl
@[simp] theorem exS_app (i : Nat) (e : Ex) : exS call wf ρ (.app i e) = appS ρ[i]? fun xs => (ev call ρ false e).bind fun d => .guard (decide (xs.length < lim)) (.ok (.nx (ownSet ρ i (.list (xs ++ [d]))))) := by
  simp only [exS, appS]
  try rfl
def frzS (ρ : Env) (i : Nat) (o : Option (Option Sl)) : R Flow := match o with
  | some (some (.own d)) => .ok (.nx (ρ.set i (some (.val d))))
  | _ => .ok (.nx ρ)
@[simp] theorem frzS_own (i : Nat) (d : D) : frzS ρ i (some (some (.own d))) = .ok (.nx (ρ.set i (some (.val d)))) := rfl
@[simp] theorem frzS_val (i : Nat) (d : D) : frzS ρ i (some (some (.val d))) = .ok (.nx ρ) := rfl
@[simp] theorem exS_frz (i : Nat) : exS call wf ρ (.frz i) = frzS ρ i ρ[i]? := by
  simp only [exS, frzS]
  try rfl
end
/-! slots -/
@[simp] theorem getV_0v (b : Bool) (d : D) (ρ : Env) : getV b (some (.val d) :: ρ) 0 = .ok d := rfl
@[simp] theorem getV_0o (d : D) (ρ : Env) : getV true (some (.own d) :: ρ) 0 = .ok d := rfl
@[simp] theorem getV_s (b : Bool) (o : Option Sl) (ρ : Env) (i : Nat) : getV b (o :: ρ) (i + 1) = getV b ρ i := rfl
@[simp] theorem asgT_name (ρ : Env) (i : Nat) (d : D) : asgT ρ (.name i) d = .ok (ρ.set i (some (.val d))) := by simp only [asgT]
@[simp] theorem asgT_tup (ρ : Env) (ts : List Tg) (xs : List D) : asgT ρ (.tup ts) (.tuple xs) = asgTs ρ ts xs := by simp only [asgT]
@[simp] theorem asgT_lst (ρ : Env) (ts : List Tg) (xs : List D) : asgT ρ (.tup ts) (.list xs) = asgTs ρ ts xs := by simp only [asgT]
@[simp] theorem asgTs_nil (ρ : Env) : asgTs ρ [] [] = .ok ρ := by simp only [asgTs]
@[simp] theorem asgTs_cons (ρ : Env) (t : Tg) (ts : List Tg) (x : D) (xs : List D) : asgTs ρ (t :: ts) (x :: xs) = (asgT ρ t x).bind fun ρ' => asgTs ρ' ts xs := by simp only [asgTs]
@[simp] theorem wipeE_nil (ρ : Env) : wipeE ρ [] = ρ := rfl
@[simp] theorem wipeE_cons (ρ : Env) (i : Nat) (is : List Nat) : wipeE ρ (i :: is) = (wipeE ρ is).set i none := rfl
@[simp] theorem names_name (i : Nat) : (Tg.name i).names = [i] := by simp only [Tg.names]
@[simp] theorem names_tup (ts : List Tg) : (Tg.tup ts).names = Tg.namesAll ts := by simp only [Tg.names]
@[simp] theorem namesAll_nil : Tg.namesAll [] = [] := by simp only [Tg.namesAll]
@[simp] theorem namesAll_cons (t : Tg) (ts : List Tg) : Tg.namesAll (t :: ts) = t.names ++ Tg.namesAll ts := by simp only [Tg.namesAll]
@[simp] theorem ownSet_eq (ρ : Env) (i : Nat) (d : D) : ownSet ρ i d = ρ.set i (some (.own d)) := rfl
/-! values -/
@[simp] theorem asB_bool (b : Bool) : asB (.bool b) = .ok b := rfl
@[simp] theorem partX_none : partX (.cst .none) .none = .ok none := rfl
@[simp] theorem partX_int (e : Ex) (i : Int) (h : e ≠ .cst .none) : partX e (.int i) = .ok (some i) := by
  unfold partX
  split
  · exact absurd rfl h
  · rfl
@[simp] theorem binD_add (a b : D) : binD .add a b = addD a b := rfl
@[simp] theorem binD_sub (a b : D) : binD .sub a b = subD a b := rfl
@[simp] theorem binD_mul (a b : D) : binD .mul a b = mulD a b := rfl
@[simp] theorem binD_fdiv (a b : D) : binD .fdiv a b = fdivD a b := rfl
@[simp] theorem binD_mod (a b : D) : binD .mod a b = modD a b := rfl
@[simp] theorem addD_int (i j : Int) : addD (.int i) (.int j) = .ok (.int (i + j)) := rfl
@[simp] theorem subD_int (i j : Int) : subD (.int i) (.int j) = .ok (.int (i - j)) := rfl
@[simp] theorem mulD_int (i j : Int) : mulD (.int i) (.int j) = .guard (smallI i || smallI j) (.ok (.int (i * j))) := rfl
@[simp] theorem fdivD_int (i j : Int) : fdivD (.int i) (.int j) = .guard (decide (0 < j) && decide (j < 1073741824)) (.ok (.int (i / j))) := rfl
@[simp] theorem modD_int (i j : Int) : modD (.int i) (.int j) = .guard (decide (0 < j)) (.ok (.int (i % j))) := rfl
@[simp] theorem addD_str (x y : Str) : addD (.str x) (.str y) = .guard (decide (x.length + y.length ≤ lim)) (.ok (.str (x ++ y))) := rfl
@[simp] theorem addD_tup (x y : List D) : addD (.tuple x) (.tuple y) = .guard (decide (x.length + y.length ≤ lim)) (.ok (.tuple (x ++ y))) := rfl
@[simp] theorem addD_lst (x y : List D) : addD (.list x) (.list y) = .guard (decide (x.length + y.length ≤ lim)) (.ok (.list (x ++ y))) := rfl
@[simp] theorem negD_int (i : Int) : negD (.int i) = .ok (.int (-i)) := rfl
@[simp] theorem cmpB_lt (a b : D) : cmpB .lt a b = ltD a b := rfl
@[simp] theorem cmpB_le (a b : D) : cmpB .le a b = leD a b := rfl
@[simp] theorem cmpB_gt (a b : D) : cmpB .gt a b = ltD b a := rfl
@[simp] theorem cmpB_ge (a b : D) : cmpB .ge a b = leD b a := rfl
@[simp] theorem cmpB_eq (a b : D) : cmpB .eq a b = eqD a b := rfl
@[simp] theorem cmpB_ne (a b : D) : cmpB .ne a b = (eqD a b).bind fun r => .ok (!r) := rfl
@[simp] theorem cmpB_is (a b : D) : cmpB .is a b = .guard (isNone b) (.ok (isNone a)) := rfl
@[simp] theorem cmpB_isnot (a b : D) : cmpB .isnot a b = .guard (isNone b) (.ok (!isNone a)) := rfl
@[simp] theorem cmpB_in (a b : D) : cmpB .isin a b = inD a b := rfl
@[simp] theorem cmpB_notin (a b : D) : cmpB .notin a b = (inD a b).bind fun r => .ok (!r) := rfl
@[simp] theorem ltD_int (i j : Int) : ltD (.int i) (.int j) = .ok (decide (i < j)) := rfl
@[simp] theorem leD_int (i j : Int) : leD (.int i) (.int j) = .ok (decide (i ≤ j)) := rfl
@[simp] theorem len_lst (xs : List D) : bltD .len [.list xs] = .ok (.int xs.length) := rfl
@[simp] theorem len_tup (xs : List D) : bltD .len [.tuple xs] = .ok (.int xs.length) := rfl
@[simp] theorem len_scr (xs : List D) : bltD .len [scr xs] = .ok (.int xs.length) := rfl
@[simp] theorem tup_lst (xs : List D) : bltD .tuple [.list xs] = .ok (.tuple xs) := rfl
@[simp] theorem tup_tup (xs : List D) : bltD .tuple [.tuple xs] = .ok (.tuple xs) := rfl
@[simp] theorem int_int (i : Int) : bltD .int [.int i] = .ok (.int i) := rfl
@[simp] theorem int_bool (b : Bool) : bltD .int [.bool b] = .ok (.int (if b then 1 else 0)) := rfl
@[simp] theorem str_str (x : Str) : bltD .str [.str x] = .ok (.str x) := rfl
@[simp] theorem str_none : bltD .str [.none] = .ok (.str ⟨#[78, 111, 110, 101]⟩) := rfl
@[simp] theorem ix_lst (xs : List D) (i : Int) : ixD (.list xs) (.int i) = ofOpt (L2.atI xs i) := rfl
@[simp] theorem ix_tup (xs : List D) (i : Int) : ixD (.tuple xs) (.int i) = ofOpt (L2.atI xs i) := rfl
@[simp] theorem ix_scr (xs : List D) (i : Int) : ixD (scr xs) (.int i) = ofOpt (L2.atI xs i) := rfl
@[simp] theorem cut_lst (xs : List D) (l h : Option Int) : cutD (.list xs) l h = .ok (.list (cutL xs l h)) := rfl
@[simp] theorem cut_tup (xs : List D) (l h : Option Int) : cutD (.tuple xs) l h = .ok (.tuple (cutL xs l h)) := rfl
@[simp] theorem seq_lst (xs : List D) : walkD .seq [.list xs] = .ok xs := rfl
@[simp] theorem seq_tup (xs : List D) : walkD .seq [.tuple xs] = .ok xs := rfl
@[simp] theorem seq_scr (xs : List D) : walkD .seq [scr xs] = .ok xs := rfl
@[simp] theorem enum_tup (xs : List D) : walkD .enum [.tuple xs] = .ok (enumFrom 0 xs) := rfl
@[simp] theorem enum_lst (xs : List D) : walkD .enum [.list xs] = .ok (enumFrom 0 xs) := rfl
@[simp] theorem rng1 (n : Int) : walkD .range1 [.int n] = .guard (decide (-far ≤ n) && decide (n ≤ 1000000)) (.ok ((List.range n.toNat).map fun (i : Nat) => PyData.int (i : Int))) := rfl
@[simp] theorem ofOpt_some {α : Type} (a : α) : ofOpt (some a) = .ok a := rfl
@[simp] theorem isNone_none : isNone .none = true := rfl
@[simp] theorem isNone_str (x : Str) : isNone (.str x) = false := rfl
@[simp] theorem isNone_tup (x : List D) : isNone (.tuple x) = false := rfl
@[simp] theorem isNone_int (x : Int) : isNone (.int x) = false := rfl
@[simp] theorem isCont_list (x : List D) : isCont (.list x) = true := rfl
@[simp] theorem fresh_lst (x : List Ex) : fresh (.lst x) = true := rfl
@[simp] theorem fresh_comp (a : Ex) (t : Tg) (k : IK) (i : List Ex) (c : Ex) : fresh (.comp a t k i c) = true := rfl
@[simp] theorem shp_int (i : Int) : shp (.int i) = true := by simp [shp, plain, PyData.depth]
@[simp] theorem shp_str (x : Str) : shp (.str x) = true := by simp [shp, plain, PyData.depth]
@[simp] theorem shp_none : shp .none = true := by simp [shp, plain, PyData.depth]
@[simp] theorem shp_bool (b : Bool) : shp (.bool b) = true := by simp [shp, plain, PyData.depth]
@[simp] theorem shp_st (l : List Nat) : shp (st l) = true := shp_str _
@[simp] theorem eqD_int (i j : Int) : eqD (.int i) (.int j) = .ok (decide (i = j)) := by
  simp only [eqD, shp_int, Bool.and_self, R.guard_true, PyData.eqv]
  rw [Bool.beq_eq_decide_eq]
@[simp] theorem eqD_str (i j : Str) : eqD (.str i) (.str j) = .ok (decide (i = j)) := by
  simp only [eqD, shp_str, Bool.and_self, R.guard_true, PyData.eqv]
  rw [Bool.beq_eq_decide_eq]
@[simp] theorem isNone_st (l : List Nat) : isNone (st l) = false := rfl
@[simp] theorem range_len {α : Type} (n : Nat) (f : Nat → α) : ((List.range n).map f).length = n := by simp
theorem atI_some {α : Type} {xs : List α} {i : Int} (h0 : 0 ≤ i) (h1 : i < xs.length) : ∃ d, L2.atI xs i = some d ∧ xs[i.toNat]? = some d := by
  obtain ⟨k, rfl⟩ : ∃ k : Nat, i = k := ⟨i.toNat, by omega⟩
  have hl : k < xs.length := by omega
  refine ⟨xs[k], ?_, List.getElem?_eq_getElem hl⟩
  unfold L2.atI L2.ixN
  rw [if_pos (by omega), if_pos (by omega)]
  simp [hl]
@[simp] theorem atI_0 {α : Type} (a : α) (l : List α) : L2.atI (a :: l) 0 = some a := by
  have := atI_some (xs := a :: l) (i := 0) (by decide) (by simp <;> omega)
  obtain ⟨d, h1, h2⟩ := this
  rw [h1]
  simpa using h2.symm
@[simp] theorem atI_1 {α : Type} (a b : α) (l : List α) : L2.atI (a :: b :: l) 1 = some b := by
  have := atI_some (xs := a :: b :: l) (i := 1) (by decide) (by simp <;> omega)
  obtain ⟨d, h1, h2⟩ := this
  rw [h1]
  simpa using h2.symm
@[simp] theorem atI_2 {α : Type} (a b c : α) (l : List α) : L2.atI (a :: b :: c :: l) 2 = some c := by
  have := atI_some (xs := a :: b :: c :: l) (i := 2) (by decide) (by simp <;> omega)
  obtain ⟨d, h1, h2⟩ := this
  rw [h1]
  simpa using h2.symm
theorem guard_ok' {α : Type} {c : Bool} (h : c = true) (x : R α) : R.guard c x = x := by rw [h]; rfl
theorem atI_nat' {α : Type} (xs : List α) (i : Nat) : L2.atI xs (i : Int) = xs[i]? := by
  unfold L2.atI L2.ixN
  by_cases h : i < xs.length
  · rw [if_pos (by omega), if_pos (by omega)]
    simp
  · rw [if_pos (by omega), if_neg (by omega)]
    simp
    omega
end KD
/-! KdPl: what the shared defs compute. -/
namespace KP
open PySem hiding Env Flow
open KD
abbrev WF : Nat := 1000
abbrev Ev (n f : Nat) (ds : List D) : R D := evFn PP WF n f ds
/-- a call, opened -/
theorem ev_open {n f : Nat} {fn : Fn} {ds : List D} (h : PP f = some fn) (hl : ds.length = fn.np) : Ev (n + 1) f ds = (exs (evFn PP WF n) WF (ds.map (fun d => some (.val d)) ++ List.replicate (fn.nl - fn.np) none) fn.body).bind endF := by
  unfold Ev
  rw [evFn, h]
  simp only [hl, decide_true, R.guard_true]
/-- loops by an invariant -/
theorem forF_inv {step : D → Env → R Flow} {w : List Nat} (I : Nat → Env → Prop) {xs : List D} {ρ : Env} (h0 : I 0 ρ)
    (hs : ∀ (i : Nat) (x : D) (ρ : Env), xs[i]? = some x → I i ρ → ∃ ρ', (step x ρ = .ok (.nx ρ') ∨ step x ρ = .ok (.cn ρ')) ∧ I (i + 1) (wipeE ρ' w)) : ∃ ρ', forF step w xs ρ = .ok (.nx ρ') ∧ I xs.length ρ' := by
  induction xs generalizing I ρ with
  | nil => exact ⟨ρ, rfl, h0⟩
  | cons x xs ih =>
    obtain ⟨ρ1, h1, h2⟩ := hs 0 x ρ rfl h0
    obtain ⟨ρ2, h3, h4⟩ := ih (fun i => I (i + 1)) h2 fun i y ρ hy hi => hs (i + 1) y ρ (by simpa using hy) hi
    refine ⟨ρ2, ?_, h4⟩
    rw [forF]
    rcases h1 with h1 | h1 <;> rw [h1] <;> exact h3
theorem compF_map {step : D → R (Option D)} {xs : List D} (g : D → Option D) (h : ∀ x ∈ xs, step x = .ok (g x)) : compF step xs = .ok (xs.filterMap g) := by
  induction xs with
  | nil => rfl
  | cons x xs ih =>
    rw [compF, h x List.mem_cons_self, ih fun y hy => h y (List.mem_cons_of_mem _ hy)]
    cases hg : g x <;> simp [hg]
/-- over coded items -/
theorem compF_of {α : Type} {step : D → R (Option D)} (enc : α → D) (g : α → Option D) {xs : List α} (h : ∀ x ∈ xs, step (enc x) = .ok (g x)) : compF step (xs.map enc) = .ok (xs.filterMap g) := by
  induction xs with
  | nil => rfl
  | cons x xs ih =>
    rw [List.map_cons, compF, h x List.mem_cons_self, ih fun y hy => h y (List.mem_cons_of_mem _ hy)]
    cases hg : g x <;> simp [hg]
theorem compF_all {α : Type} {step : D → R (Option D)} (enc : α → D) (g : α → D) {xs : List α} (h : ∀ x ∈ xs, step (enc x) = .ok (some (g x))) : compF step (xs.map enc) = .ok (xs.map g) := by
  rw [compF_of enc (fun x => some (g x)) h]
  simp
/-! ### numbers -/
def cell (ns : List Int) (k : Nat) : Int := ns.getD k 0
def mix1 (ns : List Int) (k : Nat) : Int := ((cell ns k + 7919 * k + 1) * 48271) % 2147483647
def mixed (ns : List Int) (k : Nat) : Int := (mix1 ns k * mix1 ns k + 7 * mix1 ns k + k) % 2147483629
def drw1 (n : Int) (k : Int) : Int := ((n + 104729 * k + 17) * 69621) % 2147483647
def drw (n : Int) (k : Int) : Int := (drw1 n k * drw1 n k + 3 * drw1 n k + k) % 2147483629
theorem mixed_nn (ns : List Int) (k : Nat) : 0 ≤ mixed ns k ∧ mixed ns k < 2147483629 := ⟨Int.emod_nonneg _ (by decide), Int.emod_lt_of_pos _ (by decide)⟩
theorem drw_nn (n k : Int) : 0 ≤ drw n k ∧ drw n k < 2147483629 := ⟨Int.emod_nonneg _ (by decide), Int.emod_lt_of_pos _ (by decide)⟩
theorem ev_cell (n : Nat) (ns : List Int) (k : Nat) : Ev (n + 1) 1 [scr (ns.map .int), .int k] = .ok (.int (cell ns k)) := by
  rw [ev_open (fn := f1_l_cell_at) rfl rfl]
  simp [f1_l_cell_at]
  by_cases h : k < ns.length
  · simp [h, atI_nat', cell]
  · simp [h, cell]
theorem small_of {i : Int} (h1 : -18446744073709551616 < i) (h2 : i < 18446744073709551616) : smallI i = true := by
  unfold smallI wide
  simp [h1, h2]
theorem ev_mixed (n : Nat) (ns : List Int) (k : Nat) (hk : k ≤ 1000) : Ev (n + 2) 2 [scr (ns.map .int), .int k] = .ok (.int (mixed ns k)) := by
  rw [ev_open (fn := f2_l_mixed) rfl rfl]
  have h := ev_cell n ns k
  unfold Ev at h
  have b1 : 0 ≤ mix1 ns k ∧ mix1 ns k < 2147483647 := ⟨Int.emod_nonneg _ (by decide), Int.emod_lt_of_pos _ (by decide)⟩
  have s1 : smallI (mix1 ns k) = true := small_of (by omega) (by omega)
  have s2 : smallI 7919 = true := by decide
  have s3 : smallI 48271 = true := by decide
  have s4 : smallI 7 = true := by decide
  have e1 : (cell ns k + 7919 * (k : Int) + 1) * 48271 % 2147483647 = mix1 ns k := rfl
  simp [f2_l_mixed, h, s2, s3, s4, e1, s1]
  rfl
theorem ev_drw (n : Nat) (m k : Int) : Ev (n + 1) 3 [.int m, .int k] = .ok (.int (drw m k)) := by
  rw [ev_open (fn := f3_l_drawn) rfl rfl]
  have b1 : 0 ≤ drw1 m k ∧ drw1 m k < 2147483647 := ⟨Int.emod_nonneg _ (by decide), Int.emod_lt_of_pos _ (by decide)⟩
  have s1 : smallI (drw1 m k) = true := small_of (by omega) (by omega)
  have s2 : smallI 104729 = true := by decide
  have s3 : smallI 69621 = true := by decide
  have s4 : smallI 3 = true := by decide
  have e1 : (m + 104729 * k + 17) * 69621 % 2147483647 = drw1 m k := rfl
  simp [f3_l_drawn, s2, s3, s4, e1, s1]
  rfl
/-! ### keys, houses -/
/-- an item of a written list of texts -/
theorem tab_at (ss : List (List Nat)) (m : Int) (k : Int) (hk : k = ss.length) (h0 : 0 < k) : ∃ s, ss[(m % k).toNat]? = some s ∧ L2.atI (ss.map st) (m % k) = some (st s) := by
  obtain ⟨d, h1, h2⟩ := atI_some (xs := ss.map st) (i := m % k) (Int.emod_nonneg _ (by omega)) (by rw [List.length_map, ← hk]; exact Int.emod_lt_of_pos _ h0)
  rw [List.getElem?_map] at h2
  obtain ⟨s, hs, rfl⟩ := Option.map_eq_some_iff.mp h2
  exact ⟨s, hs, h1⟩
theorem enc_at {α : Type} (enc : α → D) (xs : List α) (m : Int) (h : xs ≠ []) : ∃ r ∈ xs, L2.atI (xs.map enc) (m % xs.length) = some (enc r) := by
  have hl : 0 < (xs.length : Int) := by
    have := List.length_pos_iff.mpr h
    omega
  obtain ⟨d, h1, h2⟩ := atI_some (xs := xs.map enc) (i := m % xs.length) (Int.emod_nonneg _ (by omega)) (by rw [List.length_map]; exact Int.emod_lt_of_pos _ hl)
  rw [List.getElem?_map] at h2
  obtain ⟨s, hs, rfl⟩ := Option.map_eq_some_iff.mp h2
  exact ⟨s, List.mem_of_getElem? hs, h1⟩
theorem rng_get {n i : Nat} {f : Nat → D} {x : D} (h : ((List.range n).map f)[i]? = some x) : x = f i ∧ i < n := by
  rw [List.getElem?_map] at h
  obtain ⟨j, hj, rfl⟩ := Option.map_eq_some_iff.mp h
  obtain ⟨hi, rfl⟩ := List.getElem?_eq_some_iff.mp hj
  rw [List.length_range] at hi
  simp [hi]
theorem rng_ok {k : Int} (h0 : 0 ≤ k) (h1 : k ≤ 1000000) : (decide (-far ≤ k) && decide (k ≤ 1000000)) = true := by
  unfold far
  rw [Bool.and_eq_true, decide_eq_true_eq, decide_eq_true_eq]
  exact ⟨by omega, h1⟩
def keyT : List (List Nat) := [[97], [98], [99], [97], [98], [101, 110, 116, 101, 114], [99, 45, 97], [109, 45, 120], [99, 45, 109, 45, 115, 45, 117, 112], [49]]
theorem ev_key (n : Nat) (m : Int) : ∃ s ∈ keyT, Ev (n + 1) 19 [.int m] = .ok (st s) := by
  rw [ev_open (fn := f19_l_key) rfl rfl]
  obtain ⟨s, hs, h⟩ := tab_at keyT m 10 rfl (by decide)
  refine ⟨s, List.mem_of_getElem? hs, ?_⟩
  simp only [keyT, List.map_cons, List.map_nil] at h
  simp [f19_l_key, h]
structure House where
  rooms : List (List Nat × Option (List Nat))
  ways : List (List Nat × List Nat)
def encO : Option (List Nat) → D
  | none => .none
  | some s => st s
def encR (r : List Nat × Option (List Nat)) : D := .tuple [st r.1, encO r.2]
def encW (r : List Nat × List Nat) : D := .tuple [st r.1, st r.2]
def encH (h : House) : D := .tuple [.tuple (h.rooms.map encR), .tuple (h.ways.map encW)]
def nameT : List (List Nat) := [[97, 108, 108], [116, 101, 120, 116], [109, 97, 105, 108], [113, 117, 105, 116], [102, 105, 110, 100], [122, 111, 111, 109]]
def deedT : List (List Nat) := [[103, 111], [105, 110], [111, 117, 116], [115, 101, 116]]
/-- what a room of the list is -/
def RoomsOk (n : Int) (rs : List (List Nat × Option (List Nat))) : Prop :=
  ∀ (j : Nat) (r : List Nat × Option (List Nat)), rs[j]? = some r → nameT[((n + j) % 6).toNat]? = some r.1 ∧ ∀ o, r.2 = some o → ∃ r' ∈ rs.take j, r'.1 = o
theorem rooms_more {n : Int} {rs : List (List Nat × Option (List Nat))} {r : List Nat × Option (List Nat)} (h : RoomsOk n rs) (h1 : nameT[((n + rs.length) % 6).toNat]? = some r.1) (h2 : ∀ o, r.2 = some o → ∃ r' ∈ rs, r'.1 = o) : RoomsOk n (rs ++ [r]) := by
  intro j x hx
  by_cases hj : j < rs.length
  · rw [List.getElem?_append_left hj] at hx
    obtain ⟨k1, k2⟩ := h j x hx
    refine ⟨k1, fun o ho => ?_⟩
    rw [List.take_append_of_le_length (by omega)]
    exact k2 o ho
  · have hj2 : j = rs.length := by
      have := (List.getElem?_eq_some_iff.mp hx).1
      rw [List.length_append, List.length_singleton] at this
      omega
    subst hj2
    rw [List.getElem?_append_right (by omega), Nat.sub_self] at hx
    cases hx
    refine ⟨h1, fun o ho => ?_⟩
    rw [List.take_append_of_le_length (by omega), List.take_length]
    exact h2 o ho
/-- a turn's end -/
def OkNx (J : Env → Prop) : R Flow → Prop
  | .ok (.nx ρ) => J ρ
  | .ok (.cn ρ) => J ρ
  | _ => False
@[simp] theorem OkNx_nx (J : Env → Prop) (ρ : Env) : OkNx J (.ok (.nx ρ)) = J ρ := rfl
@[simp] theorem OkNx_cn (J : Env → Prop) (ρ : Env) : OkNx J (.ok (.cn ρ)) = J ρ := rfl
theorem OkNx_inv {J : Env → Prop} {r : R Flow} (h : OkNx J r) : ∃ ρ, (r = .ok (.nx ρ) ∨ r = .ok (.cn ρ)) ∧ J ρ := by
  unfold OkNx at h
  split at h
  · exact ⟨_, .inl rfl, h⟩
  · exact ⟨_, .inr rfl, h⟩
  · exact h.elim
theorem bind_for {step : D → Env → R Flow} {w : List Nat} {xs : List D} {ρ : Env} {α : Type} {k : Flow → R α} (P : R α → Prop) (I : Nat → Env → Prop) (h0 : I 0 ρ)
    (hs : ∀ (i : Nat) (x : D) (ρ : Env), xs[i]? = some x → I i ρ → OkNx (fun ρ' => I (i + 1) (wipeE ρ' w)) (step x ρ)) (hk : ∀ ρ', I xs.length ρ' → P (k (.nx ρ'))) : P ((forF step w xs ρ).bind k) := by
  obtain ⟨ρ', h, hi⟩ := forF_inv I h0 fun i x ρ hx hi => OkNx_inv (hs i x ρ hx hi)
  rw [h]
  exact hk ρ' hi
structure HouseOk (m : Int) (h : House) : Prop where
  len : h.rooms.length ≤ 5
  ne : h.rooms ≠ []
  rooms : RoomsOk m h.rooms
  deeds : (h.ways.map (·.1)).Sublist deedT
  ways : ∀ w ∈ h.ways, ∃ r ∈ h.rooms, r.1 = w.2
abbrev nameL : D := .list [st [97, 108, 108], st [116, 101, 120, 116], st [109, 97, 105, 108], st [113, 117, 105, 116], st [102, 105, 110, 100], st [122, 111, 111, 109]]
def IH1 (m : Int) (i : Nat) (ρ : Env) : Prop := ∃ rs, RoomsOk m rs ∧ rs.length = i + 1 ∧ ρ = [some (.val (.int m)), some (.val nameL), some (.own (.list (rs.map encR))), none, none, none, none, none, none]
def IH2 (m : Int) (rs : List (List Nat × Option (List Nat))) (i : Nat) (ρ : Env) : Prop := ∃ ws : List (List Nat × List Nat), (ws.map (·.1)).Sublist (deedT.take i) ∧ (∀ w ∈ ws, ∃ r ∈ rs, r.1 = w.2) ∧
  ρ = [some (.val (.int m)), some (.val nameL), some (.own (.list (rs.map encR))), none, some (.own (.list (ws.map encW))), none, none, none, none]
theorem ev_house (n : Nat) (m : Int) (hm : 0 ≤ m) (hm2 : m < 2147483629) : ∃ h, HouseOk m h ∧ Ev (n + 2) 20 [.int m] = .ok (encH h) := by
  rw [ev_open (fn := f20_l_house) rfl rfl]
  obtain ⟨s0, hs0, h0⟩ := tab_at nameT m 6 rfl (by decide)
  simp only [nameT, List.map_cons, List.map_nil] at h0
  simp [f20_l_house, h0]
  rw [guard_ok' (rng_ok (by omega) (by omega))]
  have hd := fun k => ev_drw n m k
  unfold Ev at hd
  refine bind_for (P := fun r => ∃ h, HouseOk m h ∧ r = .ok (encH h)) (IH1 m) ?_ ?_ ?_
  · refine ⟨[(s0, none)], ?_, rfl, rfl⟩
    have := rooms_more (n := m) (rs := []) (r := (s0, none)) (fun j r h => by simp at h) (by simpa using hs0) (by simp)
    exact this
  · rintro i x ρ hx ⟨rs, h1, h2, rfl⟩
    obtain ⟨rfl, hi⟩ := rng_get hx
    have hne : rs ≠ [] := fun z => by rw [z] at h2; simp at h2
    obtain ⟨q, hq⟩ : ∃ q, drw m i / 4 = q := ⟨_, rfl⟩
    obtain ⟨r, hr, hat⟩ := enc_at encR rs q hne
    obtain ⟨s, hs, hsat⟩ := tab_at nameT (m + i + 1) 6 rfl (by decide)
    simp only [nameT, List.map_cons, List.map_nil] at hsat
    have hp : 0 < rs.length := by omega
    have hl : rs.length < lim := by
      have : i < 5 := by omega
      show rs.length < 1000000
      omega
    have hs' : nameT[((m + (rs.length : Nat)) % 6).toNat]? = some s := by
      rw [h2, show (m + ((i + 1 : Nat) : Int)) = m + i + 1 by omega]
      exact hs
    by_cases hc : q / 16 % 4 = 0
    · simp [fstep, hd, hq, hsat, hat, encR, hl, hp, hc]
      exact ⟨rs ++ [(s, none)], rooms_more h1 hs' (fun z hz => by cases hz), by simp [h2], by rw [List.map_append]; rfl⟩
    · simp [fstep, hd, hq, hsat, hat, encR, hl, hp, hc]
      exact ⟨rs ++ [(s, some r.1)], rooms_more h1 hs' (fun z hz => ⟨r, hr, by cases hz; rfl⟩), by simp [h2], by rw [List.map_append]; rfl⟩
  · rintro ρ ⟨rs, h1, h2, rfl⟩
    have h2 : rs.length = (m / 6 % 5).toNat + 1 := by simpa using h2
    have hne : rs ≠ [] := fun z => by rw [z] at h2; simp at h2
    have hp : 0 < rs.length := by omega
    simp
    refine bind_for (P := fun r => ∃ h, HouseOk m h ∧ r = .ok (encH h)) (IH2 m rs) ?_ ?_ ?_
    · exact ⟨[], by simp, by simp, rfl⟩
    · rintro i x ρ hx ⟨ws, k1, k2, rfl⟩
      have hx' : ∃ z, deedT[i]? = some z ∧ x = .tuple [.int i, st z] := by
        match i, hx with
        | 0, hx => simp [enumFrom] at hx; exact ⟨_, rfl, hx.symm⟩
        | 1, hx => simp [enumFrom] at hx; exact ⟨_, rfl, hx.symm⟩
        | 2, hx => simp [enumFrom] at hx; exact ⟨_, rfl, hx.symm⟩
        | 3, hx => simp [enumFrom] at hx; exact ⟨_, rfl, hx.symm⟩
        | i + 4, hx => simp [enumFrom] at hx
      obtain ⟨z, hz, rfl⟩ := hx'
      obtain ⟨q, hq⟩ : ∃ q, drw m (10 + i) / 4 = q := ⟨_, rfl⟩
      obtain ⟨r, hr, hat⟩ := enc_at encR rs (q / 4) hne
      have hwl : ws.length < lim := by
        have := k1.length_le
        rw [List.length_map, List.length_take] at this
        show ws.length < 1000000
        have : deedT.length = 4 := rfl
        omega
      have ht : deedT.take (i + 1) = deedT.take i ++ [z] := by
        rw [List.take_add_one, hz]
        rfl
      by_cases hc : q % 3 = 0
      · simp [fstep, hd, hq, hat, encR, hc, hp, hwl]
        refine ⟨ws ++ [(z, r.1)], ?_, ?_, by rw [List.map_append]; rfl⟩
        · rw [ht, List.map_append]
          exact k1.append (List.Sublist.refl _)
        · intro w hw
          rw [List.mem_append, List.mem_singleton] at hw
          rcases hw with hw | rfl
          · exact k2 w hw
          · exact ⟨r, hr, rfl⟩
      · simp [fstep, hd, hq, hat, encR, hc, hp, hwl]
        refine ⟨ws, ?_, k2, rfl⟩
        rw [ht]
        exact k1.trans (List.sublist_append_left _ _)
    · rintro ρ ⟨ws, k1, k2, rfl⟩
      simp
      exact ⟨⟨rs, ws⟩, ⟨by simp only [h2]; omega, hne, h1, k1.trans (List.take_sublist _ _), k2⟩, rfl⟩
/-! ### comprehensions -/
def OkSome (J : D → Prop) : R (Option D) → Prop
  | .ok (some d) => J d
  | _ => False
@[simp] theorem OkSome_ok (J : D → Prop) (d : D) : OkSome J (.ok (some d)) = J d := rfl
theorem OkSome_inv {J : D → Prop} {r : R (Option D)} (h : OkSome J r) : ∃ d, r = .ok (some d) ∧ J d := by
  unfold OkSome at h
  split at h
  · exact ⟨_, rfl, h⟩
  · exact h.elim
theorem compF_ex {β : Type} {step : D → R (Option D)} (enc : β → D) (Q : Nat → β → Prop) {xs : List D} (h : ∀ (i : Nat) (x : D), xs[i]? = some x → OkSome (fun d => ∃ y, d = enc y ∧ Q i y) (step x)) :
    ∃ ys : List β, compF step xs = .ok (ys.map enc) ∧ ys.length = xs.length ∧ ∀ (i : Nat) (y : β), ys[i]? = some y → Q i y := by
  induction xs generalizing Q with
  | nil => exact ⟨[], rfl, rfl, fun i y h => by simp at h⟩
  | cons x xs ih =>
    obtain ⟨d, hd, y, rfl, hy⟩ := OkSome_inv (h 0 x rfl)
    obtain ⟨ys, h1, h2, h3⟩ := ih (fun i => Q (i + 1)) fun i z hz => h (i + 1) z (by simpa using hz)
    refine ⟨y :: ys, ?_, by simp [h2], fun i z hz => ?_⟩
    · rw [compF, hd, R.bind_ok, h1]
      rfl
    · cases i with
      | zero => simp at hz; rw [← hz]; exact hy
      | succ i => exact h3 i z (by simpa using hz)
theorem bind_comp {β : Type} {step : D → R (Option D)} {xs : List D} {α : Type} {k : List D → R α} (P : R α → Prop) (enc : β → D) (Q : Nat → β → Prop)
    (h : ∀ (i : Nat) (x : D), xs[i]? = some x → OkSome (fun d => ∃ y, d = enc y ∧ Q i y) (step x)) (hk : ∀ ys : List β, ys.length = xs.length → (∀ (i : Nat) (y : β), ys[i]? = some y → Q i y) → P (k (ys.map enc))) : P ((compF step xs).bind k) := by
  obtain ⟨ys, h1, h2, h3⟩ := compF_ex enc Q h
  rw [h1]
  exact hk ys h2 h3
/-! ### binds -/
structure Bnd where
  room : List Nat
  keys : List (List Nat)
  deed : Option (List Nat)
def encK (ks : List (List Nat)) : D := .tuple (ks.map st)
def encB (b : Bnd) : D := .tuple [st b.room, encK b.keys, encO b.deed]
def encP (p : List Nat × List (List Nat)) : D := .tuple [st p.1, encK p.2]
def Bnd.place (b : Bnd) : List Nat × List (List Nat) := (b.room, b.keys)
def bdeedT : List (List Nat) := [[103, 111], [105, 110], [111, 117, 116], [115, 101, 116], [99, 111, 112, 121], [117, 110, 100, 111]]
structure BndOk (h : House) (b : Bnd) : Prop where
  room : ∃ r ∈ h.rooms, r.1 = b.room
  len : 1 ≤ b.keys.length ∧ b.keys.length ≤ 3
  keys : ∀ k ∈ b.keys, k ∈ keyT
  deed : ∀ d, b.deed = some d → d ∈ bdeedT
theorem tabD_at (ss : List D) (m : Int) (k : Int) (hk : k = ss.length) (h0 : 0 < k) : ∃ d ∈ ss, L2.atI ss (m % k) = some d := by
  obtain ⟨d, h1, h2⟩ := atI_some (xs := ss) (i := m % k) (Int.emod_nonneg _ (by omega)) (by rw [← hk]; exact Int.emod_lt_of_pos _ h0)
  exact ⟨d, List.mem_of_getElem? h2, h1⟩
theorem ev_bind (n : Nat) (h : House) (hne : h.rooms ≠ []) (m : Int) (hm : 0 ≤ m) : ∃ b, BndOk h b ∧ Ev (n + 2) 21 [encH h, .int m] = .ok (encB b) := by
  rw [ev_open (fn := f21_l_bind) rfl rfl]
  obtain ⟨r, hr, hat⟩ := enc_at encR h.rooms m hne
  have hp : 0 < h.rooms.length := List.length_pos_iff.mpr hne
  obtain ⟨c, hc, hcat⟩ := tabD_at [.int 1, .int 2, .int 1, .int 3, .int 2] (m / 8) 5 rfl (by decide)
  obtain ⟨d, hd, hdat⟩ := tabD_at [st [103, 111], st [105, 110], st [111, 117, 116], st [115, 101, 116], st [99, 111, 112, 121], st [117, 110, 100, 111], .none, st [103, 111], st [105, 110]] (m / 64) 9 rfl (by decide)
  have hcr : ∃ j : Nat, c = .int j ∧ 1 ≤ j ∧ j ≤ 3 := by
    simp at hc
    rcases hc with rfl | rfl | rfl | rfl | rfl
    · exact ⟨1, rfl, by decide, by decide⟩
    · exact ⟨2, rfl, by decide, by decide⟩
    · exact ⟨1, rfl, by decide, by decide⟩
    · exact ⟨3, rfl, by decide, by decide⟩
    · exact ⟨2, rfl, by decide, by decide⟩
  have hdr : ∃ o : Option (List Nat), d = encO o ∧ ∀ z, o = some z → z ∈ bdeedT := by
    simp only [List.mem_cons, List.not_mem_nil, or_false] at hd
    rcases hd with rfl | rfl | rfl | rfl | rfl | rfl | rfl | rfl | rfl
    all_goals first
      | exact ⟨none, rfl, fun z hz => by cases hz⟩
      | exact ⟨some _, rfl, fun z hz => by cases hz; simp [bdeedT]⟩
  obtain ⟨j, rfl, hj1, hj2⟩ := hcr
  obtain ⟨o, rfl, ho⟩ := hdr
  have hd := fun k => ev_drw n m k
  have hk := fun k => ev_key n k
  unfold Ev at hd hk
  simp [f21_l_bind, encH, hat, hp, hcat, hdat, encR]
  rw [guard_ok' (rng_ok (by omega) (by omega))]
  refine bind_comp (P := fun r => ∃ b, BndOk h b ∧ r = .ok (encB b)) st (fun _ k => k ∈ keyT) (fun i x hx => ?_) fun ys h1 h2 => ?_
  · obtain ⟨rfl, hi⟩ := rng_get hx
    obtain ⟨s, hs, he⟩ := hk (drw m i / 4)
    simp [cstep, hd, he]
    exact ⟨s, rfl, hs⟩
  · rw [range_len] at h1
    simp [hdat]
    exact ⟨⟨r.1, ys, o⟩, ⟨⟨r, hr, rfl⟩, by simp only [h1]; omega, fun k hk => by
      obtain ⟨i, hi⟩ := List.getElem?_of_mem hk
      exact h2 i k hi, ho⟩, rfl⟩
/-! ### plain data -/
theorem sx_inj {a b : List Nat} (h : sx a = sx b) : a = b := by
  have h2 : (sx a).cps.toList = (sx b).cps.toList := by rw [h]
  simpa [sx] using h2
theorem eqv_st (a b : List Nat) : PySem.PyData.eqv (st a) (st b) = decide (a = b) := by
  show (sx a == sx b) = _
  rw [Bool.beq_eq_decide_eq]
  exact decide_eq_decide.mpr ⟨sx_inj, fun h => by rw [h]⟩
theorem eqv_sts : ∀ a b : List (List Nat), PySem.PyData.eqvAll (a.map st) (b.map st) = decide (a = b)
  | [], [] => by simp [PySem.PyData.eqvAll]
  | x :: a, y :: b => by
    rw [List.map_cons, List.map_cons, PySem.PyData.eqvAll, eqv_st, eqv_sts a b]
    by_cases h : x = y <;> simp [h]
  | [], _ :: _ => by simp [PySem.PyData.eqvAll]
  | _ :: _, [] => by simp [PySem.PyData.eqvAll]
theorem eqv_K (a b : List (List Nat)) : PySem.PyData.eqv (encK a) (encK b) = decide (a = b) := by
  unfold encK
  rw [PySem.PyData.eqv, eqv_sts]
theorem eqv_P (p q : List Nat × List (List Nat)) : PySem.PyData.eqv (encP p) (encP q) = decide (p = q) := by
  obtain ⟨a, ks⟩ := p
  obtain ⟨b, ls⟩ := q
  unfold encP
  simp only [PySem.PyData.eqv, PySem.PyData.eqvAll, eqv_st, eqv_K, Bool.and_true, Prod.mk.injEq]
  by_cases h : a = b <;> simp [h]
/-- plain and of little depth -/
def Flat (k : Nat) (d : D) : Prop := plain d = true ∧ d.depth ≤ k
theorem Flat.shp {k : Nat} {d : D} (h : Flat k d) (hk : k ≤ 60) : shp d = true := by
  unfold KD.shp
  rw [h.1, Bool.true_and]
  exact decide_eq_true (Nat.le_trans h.2 hk)
theorem flats {k : Nat} : ∀ {xs : List D}, (∀ x ∈ xs, Flat k x) → plains xs = true ∧ PySem.PyData.depthAll xs ≤ k
  | [], _ => ⟨rfl, Nat.zero_le _⟩
  | x :: xs, h => by
    obtain ⟨h1, h2⟩ := flats fun y hy => h y (List.mem_cons_of_mem _ hy)
    obtain ⟨h3, h4⟩ := h x List.mem_cons_self
    rw [plains, PySem.PyData.depthAll, h3, h1]
    exact ⟨rfl, Nat.max_le.mpr ⟨h4, h2⟩⟩
theorem Flat.tup {k : Nat} {xs : List D} (h : ∀ x ∈ xs, Flat k x) : Flat (k + 1) (.tuple xs) := by
  obtain ⟨h1, h2⟩ := flats h
  exact ⟨by rw [KD.plain]; exact h1, by rw [PySem.PyData.depth]; omega⟩
theorem Flat.lst {k : Nat} {xs : List D} (h : ∀ x ∈ xs, Flat k x) : Flat (k + 1) (.list xs) := by
  obtain ⟨h1, h2⟩ := flats h
  exact ⟨by rw [KD.plain]; exact h1, by rw [PySem.PyData.depth]; omega⟩
theorem Flat.up {k l : Nat} {d : D} (h : Flat k d) (hk : k ≤ l) : Flat l d := ⟨h.1, Nat.le_trans h.2 hk⟩
theorem flat_st (a : List Nat) : Flat 0 (st a) := ⟨by simp [st, KD.plain], by simp [st, PySem.PyData.depth]⟩
theorem flat_O (o : Option (List Nat)) : Flat 0 (encO o) := by
  cases o with
  | none => exact ⟨by simp [encO, KD.plain], by simp [encO, PySem.PyData.depth]⟩
  | some s => exact flat_st s
theorem flat_K (a : List (List Nat)) : Flat 1 (encK a) := Flat.tup fun x hx => by
  obtain ⟨s, _, rfl⟩ := List.mem_map.mp hx
  exact flat_st s
theorem flat_P (p : List Nat × List (List Nat)) : Flat 2 (encP p) := Flat.tup fun x hx => by
  simp only [List.mem_cons, List.not_mem_nil, or_false] at hx
  rcases hx with rfl | rfl
  · exact (flat_st _).up (by decide)
  · exact flat_K _
theorem inD_lst {x : D} {ys : List D} (h1 : KD.shp x = true) (h2 : KD.shp (.list ys) = true) (h3 : ∀ z, x ≠ .str z) : inD x (.list ys) = .ok (ys.any fun z => PySem.PyData.eqv z x) := by
  cases x <;> first
    | exact absurd rfl (h3 _)
    | (simp only [inD]; rw [h1, h2]; rfl)
theorem in_places (p : List Nat × List (List Nat)) (ps : List (List Nat × List (List Nat))) : inD (encP p) (.list (ps.map encP)) = .ok (decide (p ∈ ps)) := by
  rw [inD_lst ((flat_P p).shp (by decide)) ((Flat.lst (k := 2) fun x hx => by
    obtain ⟨q, _, rfl⟩ := List.mem_map.mp hx
    exact flat_P q).shp (by decide)) (fun z => by unfold encP; simp)]
  congr 1
  rw [List.any_map, Bool.eq_iff_iff, List.any_eq_true, decide_eq_true_eq]
  constructor
  · rintro ⟨q, hq, h⟩
    rw [Function.comp, eqv_P, decide_eq_true_eq] at h
    exact h ▸ hq
  · intro h
    exact ⟨p, h, by rw [Function.comp, eqv_P]; exact decide_eq_true rfl⟩
theorem cut_2 {α : Type} (a b : α) (l : List α) : cutL (a :: b :: l) none (some 2) = [a, b] := by
  unfold cutL
  rw [show HT.sIx (a :: b :: l).length (a :: b :: l).length (some 2) = min 2 (a :: b :: l).length from HT.sIx_nat _ _ 2, HT.sIx_none]
  simp
/-! ### maps -/
structure MapOk (h : House) (bs : List Bnd) : Prop where
  each : ∀ b ∈ bs, BndOk h b
  once : (bs.map Bnd.place).Nodup
def encM (bs : List Bnd) : D := .tuple (bs.map encB)
def IM (h : House) (m most : Int) (i : Nat) (ρ : Env) : Prop := ∃ bs, MapOk h bs ∧ bs.length ≤ i ∧ ρ = [some (.val (encH h)), some (.val (.int m)), some (.val (.int most)), some (.own (.list (bs.map encB))), none, none, none]
theorem ev_map (n : Nat) (h : House) (hne : h.rooms ≠ []) (m most : Int) (hm : 0 ≤ m) (h0 : 0 ≤ most) (h1 : most ≤ 1000) : ∃ bs, MapOk h bs ∧ (bs.length : Int) ≤ most ∧ Ev (n + 3) 22 [encH h, .int m, .int most] = .ok (encM bs) := by
  rw [ev_open (fn := f22_l_map) rfl rfl]
  have hp : 0 < most + 1 := by omega
  have e0 := Int.emod_nonneg m (show most + 1 ≠ 0 by omega)
  have e1 := Int.emod_lt_of_pos m hp
  simp [f22_l_map, hp]
  rw [guard_ok' (rng_ok e0 (by omega))]
  refine bind_for (P := fun r => ∃ bs, MapOk h bs ∧ (bs.length : Int) ≤ most ∧ r = .ok (encM bs)) (IM h m most) ?_ ?_ ?_
  · exact ⟨[], ⟨fun b hb => by simp at hb, by simp⟩, Nat.le_refl _, rfl⟩
  · rintro i x ρ hx ⟨bs, k1, k2, rfl⟩
    obtain ⟨rfl, hi⟩ := rng_get hx
    have hd := fun k => ev_drw (n + 1) m k
    obtain ⟨b, hb, he⟩ := ev_bind n h hne (drw m (20 + i) / 4) (Int.ediv_nonneg (drw_nn _ _).1 (by decide))
    unfold Ev at hd he
    have hl : bs.length < lim := by
      show bs.length < 1000000
      omega
    have hin := in_places b.place (bs.map Bnd.place)
    rw [List.map_map] at hin
    have hin2 : inD (.tuple [st b.room, encK b.keys]) (.list (bs.map fun b => encP b.place)) = .ok (decide (b.place ∈ bs.map Bnd.place)) := hin
    simp [fstep, hd, he, encB, cut_2]
    rw [compF_all encB (fun b => encP b.place) fun c _ => by simp [cstep, encB, cut_2, encP, Bnd.place]]
    rw [R.bind_ok, hin2, R.bind_ok]
    by_cases hc : b.place ∈ bs.map Bnd.place
    · rw [decide_eq_true hc]
      simp
      exact ⟨bs, k1, Nat.le_succ_of_le k2, rfl⟩
    · rw [decide_eq_false hc]
      simp [hl]
      refine ⟨bs ++ [b], ⟨fun c hc' => ?_, ?_⟩, by rw [List.length_append]; exact Nat.succ_le_succ k2, by rw [List.map_append]; rfl⟩
      · rw [List.mem_append, List.mem_singleton] at hc'
        rcases hc' with hc' | rfl
        · exact k1.each c hc'
        · exact hb
      · rw [List.map_append, List.nodup_append]
        refine ⟨k1.once, by simp, fun x hx y hy => ?_⟩
        simp at hy
        rintro rfl
        exact hc (hy ▸ hx)
  · rintro ρ ⟨bs, k1, k2, rfl⟩
    rw [range_len] at k2
    simp
    exact ⟨bs, k1, by omega, rfl⟩
end KP
/-! Law_k03: the texts of houses and maps. -/
namespace KP
open PySem hiding Env Flow
open KD
@[simp] theorem sx_len (l : List Nat) : (sx l).length = l.length := by simp [sx, Str.length]
theorem guard_le {α : Type} {a : Nat} {x : R α} (h : a ≤ 1000000) : R.guard (decide (a ≤ lim)) x = x := guard_ok' (decide_eq_true h) x
theorem sum_le {α : Type} {f : α → Nat} {k : Nat} : ∀ {xs : List α}, (∀ x ∈ xs, f x ≤ k) → (xs.map f).sum ≤ xs.length * k
  | [], _ => Nat.zero_le _
  | x :: xs, h => by
    have h1 := sum_le (f := f) (xs := xs) fun y hy => h y (List.mem_cons_of_mem _ hy)
    have h2 := h x List.mem_cons_self
    rw [List.map_cons, List.sum_cons, List.length_cons, Nat.succ_mul]
    omega
theorem strs_map {α : Type} (f : α → Str) : ∀ xs : List α, strs_ (xs.map fun x => PyData.str (f x)) = some (xs.map f)
  | [] => rfl
  | x :: xs => by rw [List.map_cons, strs_, strs_map f xs]; rfl
theorem join_map {α : Type} (s : Str) (f : α → Str) (xs : List α) {k : Nat} (h : ∀ x ∈ xs, (f x).length ≤ k) (hk : xs.length * k + xs.length * s.length ≤ 1000000) : mthD .join (.str s) [.list (xs.map fun x => PyData.str (f x))] = .ok (.str (Str.join s (xs.map f))) := by
  have e : mthD .join (.str s) [.list (xs.map fun x => PyData.str (f x))] = (match strs_ (xs.map fun x => PyData.str (f x)) with
    | some ys => .guard (decide ((ys.map (·.length)).sum + ys.length * s.length ≤ lim)) (.ok (.str (Txt.join s ys)))
    | none => .bot) := rfl
  rw [e, strs_map]
  have h1 := sum_le (f := fun x => (f x).length) h
  show R.guard _ _ = _
  rw [List.map_map, List.length_map]
  rw [guard_le (by have : ((xs.map ((·.length) ∘ f)).sum) = (xs.map fun x => (f x).length).sum := rfl
                   omega)]
  rw [show Txt.join s (xs.map f) = Str.join s (xs.map f) from PySem.StrLaws.glued_eq_join _ _]
theorem join_tup {α : Type} (s : Str) (f : α → Str) (xs : List α) {k : Nat} (h : ∀ x ∈ xs, (f x).length ≤ k) (hk : xs.length * k + xs.length * s.length ≤ 1000000) : mthD .join (.str s) [.tuple (xs.map fun x => PyData.str (f x))] = .ok (.str (Str.join s (xs.map f))) := by
  rw [← join_map s f xs h hk]
  rfl
theorem join_len {α : Type} (s : Str) (f : α → Str) (xs : List α) {k : Nat} (h : ∀ x ∈ xs, (f x).length ≤ k) : (Str.join s (xs.map f)).length ≤ xs.length * k + xs.length * s.length := by
  have h1 := PySem.StrLaws.join_length_le s (xs.map f)
  rw [List.map_map, List.length_map] at h1
  have h2 := sum_le (f := fun x => (f x).length) h
  have : ((xs.map ((·.length) ∘ f)).sum) = (xs.map fun x => (f x).length).sum := rfl
  omega
/-! ### rooms and ways -/
def rtext (r : List Nat × Option (List Nat)) : Str := match r.2 with
  | none => sx r.1
  | some o => sx r.1 ++ sx [32, 60, 32] ++ sx o
def wtext (w : List Nat × List Nat) : Str := sx w.1 ++ sx [32, 62, 32] ++ sx w.2
def short (r : List Nat × Option (List Nat)) : Prop := r.1.length ≤ 9 ∧ ∀ o, r.2 = some o → o.length ≤ 9
theorem rtext_len {r : List Nat × Option (List Nat)} (h : short r) : (rtext r).length ≤ 30 := by
  obtain ⟨a, o⟩ := r
  obtain ⟨h1, h2⟩ := h
  have h1 : a.length ≤ 9 := h1
  cases o with
  | none => simp [rtext]; omega
  | some o =>
    have h2 : o.length ≤ 9 := h2 o rfl
    simp [rtext, Str.length_append]
    omega
theorem ev_rtext (n : Nat) (r : List Nat × Option (List Nat)) (h : short r) : evFn PP WF (n + 1) 25 [st r.1, encO r.2] = .ok (.str (rtext r)) := by
  have := ev_open (n := n) (f := 25) (fn := f25_room_text) (ds := [st r.1, encO r.2]) rfl rfl
  unfold Ev at this
  rw [this]
  obtain ⟨a, o⟩ := r
  obtain ⟨h1, h2⟩ := h
  have h1 : a.length ≤ 9 := h1
  cases o with
  | none => simp [f25_room_text, encO, rtext, st]
  | some o =>
    have h2 : o.length ≤ 9 := h2 o rfl
    simp (disch := omega) [f25_room_text, encO, rtext, st, guard_le, Str.length_append]
structure HText (h : House) : Prop where
  rl : h.rooms.length ≤ 9
  wl : h.ways.length ≤ 9
  rs : ∀ r ∈ h.rooms, short r
  ws : ∀ w ∈ h.ways, w.1.length ≤ 9 ∧ w.2.length ≤ 9
def wsText (h : House) : Str := if h.ways = [] then sx [110, 111, 110, 101] else Str.join (sx [44, 32]) (h.ways.map wtext)
def hText (h : House) : Str := Str.join (sx [44, 32]) (h.rooms.map rtext) ++ sx [32, 124, 32] ++ wsText h
theorem wtext_len {w : List Nat × List Nat} (h : w.1.length ≤ 9 ∧ w.2.length ≤ 9) : (wtext w).length ≤ 30 := by
  obtain ⟨h1, h2⟩ := h
  simp [wtext, Str.length_append]
  omega
theorem ev_written_house (n : Nat) (h : House) (ok : HText h) : evFn PP WF (n + 2) 26 [encH h] = .ok (.str (hText h)) := by
  have := ev_open (n := n + 1) (f := 26) (fn := f26_written_house) (ds := [encH h]) rfl rfl
  unfold Ev at this
  rw [this]
  have hr : ∀ r ∈ h.rooms, (rtext r).length ≤ 30 := fun r hr => rtext_len (ok.rs r hr)
  have hw : ∀ w ∈ h.ways, (wtext w).length ≤ 30 := fun w hw => wtext_len (ok.ws w hw)
  have l1 := ok.rl
  have l2 := ok.wl
  simp [f26_written_house, encH]
  rw [compF_all encR (fun r => .str (rtext r)) fun r hr => by
    have := ev_rtext n r (ok.rs r hr)
    simp [cstep, encR, this]]
  rw [R.bind_ok]
  rw [show st [44, 32] = .str (sx [44, 32]) from rfl, join_map _ rtext _ hr (by simp; omega), R.bind_ok]
  rw [compF_all encW (fun r => .str (wtext r)) fun r hr => by
    obtain ⟨k1, k2⟩ := ok.ws r hr
    simp (disch := omega) [cstep, encW, st, guard_le, Str.length_append, wtext]]
  rw [R.bind_ok, join_map _ wtext _ hw (by simp; omega), R.bind_ok]
  have j1 := join_len (sx [44, 32]) rtext h.rooms hr
  have j2 := join_len (sx [44, 32]) wtext h.ways hw
  simp at j1 j2
  by_cases hz : h.ways = []
  · simp (disch := omega) [hz, st, guard_le, Str.length_append, hText, wsText]
  · simp (disch := omega) [hz, st, guard_le, Str.length_append, hText, wsText]
theorem app_nil (x : Str) : x ++ sx [] = x := PySem.Str.append_empty x
theorem eqD_nil {xs : List D} (h : ∀ x ∈ xs, Flat 0 x) : eqD (.list xs) (.list []) = .ok xs.isEmpty := by
  unfold eqD
  rw [(Flat.lst h).shp (by decide), (Flat.lst (k := 0) (xs := []) (by simp)).shp (by decide)]
  simp only [Bool.and_self, R.guard_true, PySem.PyData.eqv]
  cases xs <;> rfl
@[simp] theorem mulD_lst (xs : List D) (j : Int) : mulD (.list xs) (.int j) = .guard (decide (xs.length * j.toNat ≤ lim) && smallI (j * 4)) (.ok (.list (List.replicate j.toNat xs).flatten)) := rfl
theorem join_one (s : Str) (a : List Nat) (h : a.length + s.length ≤ 1000000) : mthD .join (.str s) [.list [st a]] = .ok (.str (sx a)) := by
  have := join_map s (fun l => sx l) [a] (k := a.length) (by simp) (by simpa using h)
  exact this
theorem len4 : (⟨#[78, 111, 110, 101]⟩ : Str).length = 4 := rfl
theorem ev_house_text (n : Nat) (h : House) (ok : HText h) : evFn PP WF (n + 1) 29 [encH h] = .ok (.str (hText h)) := by
  have := ev_open (n := n) (f := 29) (fn := f29_l_house_text) (ds := [encH h]) rfl rfl
  unfold Ev at this
  rw [this]
  have hr : ∀ r ∈ h.rooms, (rtext r).length ≤ 30 := fun r hr => rtext_len (ok.rs r hr)
  have hw : ∀ w ∈ h.ways, (wtext w).length ≤ 30 := fun w hw => wtext_len (ok.ws w hw)
  have l1 := ok.rl
  have l2 := ok.wl
  simp [f29_l_house_text, encH]
  rw [compF_all encR (fun r => .str (rtext r)) fun r hr => by
    obtain ⟨a, o⟩ := r
    obtain ⟨k1, k2⟩ := ok.rs _ hr
    have k1 : a.length ≤ 9 := k1
    cases o with
    | none => simp (disch := omega) [cstep, encR, encO, st, guard_le, Str.length_append, rtext, app_nil, len4]
    | some o =>
      have k2 : o.length ≤ 9 := k2 o rfl
      simp (disch := omega) [cstep, encR, encO, st, guard_le, Str.length_append, rtext, PySem.Str.append_assoc]]
  rw [R.bind_ok]
  rw [compF_all encW (fun r => .str (wtext r)) fun r hr => by
    obtain ⟨k1, k2⟩ := ok.ws r hr
    simp (disch := omega) [cstep, encW, st, guard_le, Str.length_append, wtext]]
  rw [R.bind_ok]
  have hf : ∀ x ∈ h.ways.map (fun r => PyData.str (wtext r)), Flat 0 x := fun x hx => by
    obtain ⟨w, _, rfl⟩ := List.mem_map.mp hx
    exact ⟨by simp [KD.plain], by simp [PySem.PyData.depth]⟩
  have j1 := join_len (sx [44, 32]) rtext h.rooms hr
  have j2 := join_len (sx [44, 32]) wtext h.ways hw
  have m1 := join_map (sx [44, 32]) rtext h.rooms hr (by simp; omega)
  have m2 := join_map (sx [44, 32]) wtext h.ways hw (by simp; omega)
  have m3 := join_one (sx [44, 32]) [110, 111, 110, 101] (by simp)
  have sm : smallI 4 = true := by decide
  have s0 : smallI 0 = true := by decide
  simp at j1 j2
  have e2 := eqD_nil hf
  by_cases hz : h.ways = []
  · rw [hz] at e2
    simp at e2
    simp (disch := omega) [hz, st, guard_le, Str.length_append, hText, wsText, m1, e2, sm] at m3 ⊢
    rw [m3]
    simp (disch := omega) [hz, st, guard_le, Str.length_append, hText, wsText, m1, e2, sm]
  · have hb : (h.ways.map (fun r => PyData.str (wtext r))).isEmpty = false := by
      cases hq : h.ways with
      | nil => exact absurd hq hz
      | cons _ _ => rfl
    rw [hb] at e2
    simp (disch := omega) [hz, st, guard_le, Str.length_append, hText, wsText, m1, m2, e2, s0]
/-! ### binds -/
def dtext : Option (List Nat) → Str
  | none => sx [45]
  | some d => sx d
def btext (b : Bnd) : Str := sx b.room ++ sx [58, 32] ++ Str.join (sx [32]) (b.keys.map sx) ++ sx [32, 61, 32] ++ dtext b.deed
structure BText (b : Bnd) : Prop where
  r : b.room.length ≤ 9
  kl : b.keys.length ≤ 9
  ks : ∀ k ∈ b.keys, (sx k).length ≤ 9
  d : ∀ d, b.deed = some d → d.length ≤ 9
theorem keys_len {b : Bnd} (ok : BText b) : (Str.join (sx [32]) (b.keys.map sx)).length ≤ 100 := by
  have := join_len (sx [32]) sx b.keys ok.ks
  have := ok.kl
  simp at *
  omega
theorem dtext_len {b : Bnd} (ok : BText b) : (dtext b.deed).length ≤ 9 := by
  cases hd : b.deed with
  | none => simp [dtext]
  | some d => simpa [dtext] using ok.d d hd
theorem btext_len {b : Bnd} (ok : BText b) : (btext b).length ≤ 200 := by
  have h1 := keys_len ok
  have h2 := dtext_len ok
  have h3 := ok.r
  simp [btext, Str.length_append]
  omega
theorem join_K {b : Bnd} (ok : BText b) : mthD .join (.str (sx [32])) [encK b.keys] = .ok (.str (Str.join (sx [32]) (b.keys.map sx))) := by
  have h := ok.kl
  exact join_tup (sx [32]) sx b.keys ok.ks (by simp; omega)
theorem ev_btext (n : Nat) (b : Bnd) (ok : BText b) : evFn PP WF (n + 1) 27 [encB b] = .ok (.str (btext b)) := by
  have := ev_open (n := n) (f := 27) (fn := f27_bind_text) (ds := [encB b]) rfl rfl
  unfold Ev at this
  rw [this]
  have hj := join_K ok
  have h1 := keys_len ok
  have h2 := ok.r
  have h3 := ok.d
  obtain ⟨room, keys, deed⟩ := b
  simp only at hj h1 h2 h3
  cases deed with
  | none => simp (disch := omega) [f27_bind_text, encB, encO, st, guard_le, hj, Str.length_append, btext, dtext]
  | some d =>
    have h3 := h3 d rfl
    simp (disch := omega) [f27_bind_text, encB, encO, st, guard_le, hj, Str.length_append, btext, dtext]
def mText (bs : List Bnd) : Str := if bs = [] then sx [110, 111, 110, 101] else Str.join (sx [32, 59, 32]) (bs.map btext)
theorem ev_written (n : Nat) (bs : List Bnd) (hl : bs.length ≤ 100) (ok : ∀ b ∈ bs, BText b) : evFn PP WF (n + 2) 28 [encM bs] = .ok (.str (mText bs)) := by
  have := ev_open (n := n + 1) (f := 28) (fn := f28_written) (ds := [encM bs]) rfl rfl
  unfold Ev at this
  rw [this]
  have hb : ∀ b ∈ bs, (btext b).length ≤ 200 := fun b h => btext_len (ok b h)
  have m1 := join_map (sx [32, 59, 32]) btext bs hb (by simp; omega)
  by_cases hz : bs = []
  · simp [f28_written, encM, hz, mText, st]
  · simp [f28_written, encM, hz, mText]
    rw [compF_all encB (fun b => .str (btext b)) fun b hb => by
      have := ev_btext n b (ok b hb)
      simp [cstep, this]]
    rw [R.bind_ok, show st [32, 59, 32] = .str (sx [32, 59, 32]) from rfl, m1]
    simp
theorem ev_text (n : Nat) (bs : List Bnd) (hl : bs.length ≤ 100) (ok : ∀ b ∈ bs, BText b) : evFn PP WF (n + 1) 30 [encM bs] = .ok (.str (mText bs)) := by
  have := ev_open (n := n) (f := 30) (fn := f30_l_text) (ds := [encM bs]) rfl rfl
  unfold Ev at this
  rw [this]
  have hb : ∀ b ∈ bs, (btext b).length ≤ 200 := fun b h => btext_len (ok b h)
  have m1 := join_map (sx [32, 59, 32]) btext bs hb (by simp; omega)
  have m3 := join_one (sx [32, 59, 32]) [110, 111, 110, 101] (by simp)
  simp [f30_l_text, encM]
  rw [compF_all encB (fun b => .str (btext b)) fun b hb => by
    have hj := join_K (ok b hb)
    have h1 := keys_len (ok b hb)
    have h2 := (ok b hb).r
    have h3 := (ok b hb).d
    obtain ⟨room, keys, deed⟩ := b
    simp only at hj h1 h2 h3
    cases deed with
    | none => simp (disch := omega) [cstep, encB, encO, st, guard_le, hj, Str.length_append, btext, dtext]
    | some d =>
      have h3 := h3 d rfl
      simp (disch := omega) [cstep, encB, encO, st, guard_le, hj, Str.length_append, btext, dtext]]
  rw [R.bind_ok]
  have hf : ∀ x ∈ bs.map (fun r => PyData.str (btext r)), Flat 0 x := fun x hx => by
    obtain ⟨w, _, rfl⟩ := List.mem_map.mp hx
    exact ⟨by simp [KD.plain], by simp [PySem.PyData.depth]⟩
  have sm : smallI 4 = true := by decide
  have s0 : smallI 0 = true := by decide
  have e2 := eqD_nil hf
  by_cases hz : bs = []
  · rw [hz] at e2
    simp at e2
    simp (disch := omega) [hz, st, guard_le, mText, e2, sm] at m3 ⊢
    rw [m3]
    simp
  · have hb : (bs.map (fun r => PyData.str (btext r))).isEmpty = false := by
      cases hq : bs with
      | nil => exact absurd hq hz
      | cons _ _ => rfl
    rw [hb] at e2
    simp (disch := omega) [hz, st, guard_le, mText, m1, e2, s0]
/-! ### the law -/
theorem keyT_len : ∀ k ∈ keyT, k.length ≤ 9 := by decide
theorem nameT_len : ∀ k ∈ nameT, k.length ≤ 9 := by decide
theorem bdeedT_len : ∀ k ∈ bdeedT, k.length ≤ 9 := by decide
theorem deedT_len : ∀ k ∈ deedT, k.length ≤ 9 := by decide
theorem house_name {m : Int} {h : House} (ok : HouseOk m h) : ∀ r ∈ h.rooms, r.1 ∈ nameT := fun r hr => by
  obtain ⟨i, hi⟩ := List.getElem?_of_mem hr
  exact List.mem_of_getElem? (ok.rooms i r hi).1
theorem house_text {m : Int} {h : House} (ok : HouseOk m h) : HText h := by
  refine ⟨Nat.le_trans ok.len (by decide), ?_, fun r hr => ⟨nameT_len _ (house_name ok r hr), fun o ho => ?_⟩, fun w hw => ⟨?_, ?_⟩⟩
  · have := ok.deeds.length_le
    rw [List.length_map] at this
    have h4 : deedT.length = 4 := rfl
    omega
  · obtain ⟨i, hi⟩ := List.getElem?_of_mem hr
    obtain ⟨r', hr', rfl⟩ := (ok.rooms i r hi).2 o ho
    exact nameT_len _ (house_name ok r' (List.mem_of_mem_take hr'))
  · exact deedT_len _ (ok.deeds.subset (List.mem_map.mpr ⟨w, hw, rfl⟩))
  · obtain ⟨r, hr, e⟩ := ok.ways w hw
    rw [← e]
    exact nameT_len _ (house_name ok r hr)
theorem bind_text {m : Int} {h : House} (ok : HouseOk m h) {b : Bnd} (hb : BndOk h b) : BText b := by
  refine ⟨?_, Nat.le_trans hb.len.2 (by decide), fun k hk => ?_, fun d hd => bdeedT_len _ (hb.deed d hd)⟩
  · obtain ⟨r, hr, e⟩ := hb.room
    rw [← e]
    exact nameT_len _ (house_name ok r hr)
  · rw [sx_len]
    exact keyT_len _ (hb.keys k hk)
theorem law03 (n : Nat) (ns : List Int) : evFn PP WF (n + 4) 31 [scr (ns.map .int)] = .ok (.bool true) := by
  have := ev_open (n := n + 3) (f := 31) (fn := f31_law) (ds := [scr (ns.map .int)]) rfl rfl
  unfold Ev at this
  rw [this]
  have hm := fun k hk => ev_mixed (n + 1) ns k hk
  have b0 := mixed_nn ns 0
  have b1 := mixed_nn ns 1
  obtain ⟨h, h1, h2⟩ := ev_house (n + 1) (mixed ns 0) b0.1 b0.2
  obtain ⟨bs, k1, k2, k3⟩ := ev_map n h h1.ne (mixed ns 1) 10 b1.1 (by decide) (by decide)
  have e0 := hm 0 (by decide)
  have e1 := hm 1 (by decide)
  unfold Ev at h2 k3 e0 e1
  have ok := house_text h1
  have okb : ∀ b ∈ bs, BText b := fun b hb => bind_text h1 (k1.each b hb)
  have t1 := ev_written_house (n + 1) h ok
  have t2 := ev_house_text (n + 2) h ok
  have t3 := ev_written (n + 1) bs (by omega) okb
  have t4 := ev_text (n + 2) bs (by omega) okb
  simp at e0 e1
  simp [f31_law, e0, e1, h2, k3, t1, t2, t3, t4]
end KP
namespace KL
open PySem KD
abbrev WF : Nat := 1000
abbrev DEP : Nat := 20
theorem law_true : ∀ ns : List Int, ns.length ≤ 63 → evFn PP WF DEP 31 [scr (ns.map .int)] = .ok (.bool true) := fun ns _ => KP.law03 16 ns
end KL
/-! the law -/
namespace KL
open PySem PySem.Spec PyProof.Rows L2 KD
def topS (i : Nat) : Stmt := PySem.Challenge.pw_keydeeds_k03_written.main.body.getD i (.Pass ⟨0, 0, 0, 0⟩)
def nm : Nat → Option Str
  | 25 => some "room_text"
  | 26 => some "written_house"
  | 27 => some "bind_text"
  | 28 => some "written"
  | 1 => some "_law_cell_at"
  | 2 => some "_law_mixed"
  | 3 => some "_law_drawn"
  | 19 => some "_law_key"
  | 20 => some "_law_house"
  | 21 => some "_law_bind"
  | 22 => some "_law_map"
  | 29 => some "_law_house_text"
  | 30 => some "_law_text"
  | 31 => some "law"
  | _ => none
def pp : Nat → List Str
  | 25 => ["room", "outer"]
  | 26 => ["house"]
  | 27 => ["bind"]
  | 28 => ["binds"]
  | 1 => ["_law_script", "_law_k"]
  | 2 => ["_law_script", "_law_k"]
  | 3 => ["_law_number", "_law_k"]
  | 19 => ["_law_number"]
  | 20 => ["_law_number"]
  | 21 => ["_law_house_here", "_law_number"]
  | 22 => ["_law_house_here", "_law_number", "_law_most"]
  | 29 => ["_law_house_here"]
  | 30 => ["_law_binds"]
  | 31 => ["_law_script"]
  | _ => []
def TT : Tb := { P := PP, wf := WF, nm := nm, cs := [] }
theorem ck25 : FnChk TT 25 (topS 1) (pp 25) f25_room_text := fnB_ok (N := ["room", "outer"]) rfl (by decide +kernel)
theorem ck26 : FnChk TT 26 (topS 2) (pp 26) f26_written_house := fnB_ok (N := ["house", "rooms", "ways", "room", "outer", "deed"]) rfl (by decide +kernel)
theorem ck27 : FnChk TT 27 (topS 3) (pp 27) f27_bind_text := fnB_ok (N := ["bind", "room", "keys", "deed"]) rfl (by decide +kernel)
theorem ck28 : FnChk TT 28 (topS 4) (pp 28) f28_written := fnB_ok (N := ["binds", "bind"]) rfl (by decide +kernel)
theorem ck1 : FnChk TT 1 (topS 6) (pp 1) f1_l_cell_at := fnB_ok (N := ["_law_script", "_law_k"]) rfl (by decide +kernel)
theorem ck2 : FnChk TT 2 (topS 7) (pp 2) f2_l_mixed := fnB_ok (N := ["_law_script", "_law_k", "_law_drawn_here"]) rfl (by decide +kernel)
theorem ck3 : FnChk TT 3 (topS 8) (pp 3) f3_l_drawn := fnB_ok (N := ["_law_number", "_law_k", "_law_drawn_here"]) rfl (by decide +kernel)
theorem ck19 : FnChk TT 19 (topS 9) (pp 19) f19_l_key := fnB_ok (N := ["_law_number"]) rfl (by decide +kernel)
theorem ck20 : FnChk TT 20 (topS 10) (pp 20) f20_l_house := fnB_ok (N := ["_law_number", "_law_names", "_law_rooms", "_law_k", "_law_ways", "_law_drawn_here", "_law_name", "_law_outer", "_law_deed"]) rfl (by decide +kernel)
theorem ck21 : FnChk TT 21 (topS 11) (pp 21) f21_l_bind := fnB_ok (N := ["_law_house_here", "_law_number", "_law_room", "_law_keys", "_law_deed", "_law_k"]) rfl (by decide +kernel)
theorem ck22 : FnChk TT 22 (topS 12) (pp 22) f22_l_map := fnB_ok (N := ["_law_house_here", "_law_number", "_law_most", "_law_found", "_law_k", "_law_bind_here", "_law_one"]) rfl (by decide +kernel)
theorem ck29 : FnChk TT 29 (topS 13) (pp 29) f29_l_house_text := fnB_ok (N := ["_law_house_here", "_law_rooms", "_law_ways", "_law_room", "_law_outer", "_law_deed"]) rfl (by decide +kernel)
theorem ck30 : FnChk TT 30 (topS 14) (pp 30) f30_l_text := fnB_ok (N := ["_law_binds", "_law_some", "_law_room", "_law_keys", "_law_deed"]) rfl (by decide +kernel)
theorem ck31 : FnChk TT 31 (topS 15) (pp 31) f31_law := fnB_ok (N := ["_law_script", "_law_house_here", "_law_binds"]) rfl (by decide +kernel)
theorem all_mk {P : Program} {w : World} {K : PySem.W.Frag} {h : Heap} {mg : Str → Option Value} {fa : Addr} (X : K.In h) (G : h.Ns mainGlobals mg) (hfa : mg "law" = some (.ref fa))
    {f0 : Addr} {oc0 kV0 dc0 pm0 cd0 ct0 : Value} {od0 an0 : Option Addr} {sl0 : Array (Option Value)}
    (a0 : PySem.W.nsIn K mainGlobals "room_text" = some (some (.ref f0))) (l0 : K.lookup f0 = some ⟨oc0, od0, .func (PySem.W.fnOf "room_text" "room_text" (defArgs (topS 1)) (defBody (topS 1)) (defScope (topS 1)) .none kV0 dc0 pm0 an0 cd0 ct0), sl0⟩)
    (c0 : PySem.W.codeIn K cd0 "room_text" = true) (k0 : PySem.W.keepIn K (.ref f0) = true)
    {f1 : Addr} {oc1 kV1 dc1 pm1 cd1 ct1 : Value} {od1 an1 : Option Addr} {sl1 : Array (Option Value)}
    (a1 : PySem.W.nsIn K mainGlobals "written_house" = some (some (.ref f1))) (l1 : K.lookup f1 = some ⟨oc1, od1, .func (PySem.W.fnOf "written_house" "written_house" (defArgs (topS 2)) (defBody (topS 2)) (defScope (topS 2)) .none kV1 dc1 pm1 an1 cd1 ct1), sl1⟩)
    (c1 : PySem.W.codeIn K cd1 "written_house" = true) (k1 : PySem.W.keepIn K (.ref f1) = true)
    {f2 : Addr} {oc2 kV2 dc2 pm2 cd2 ct2 : Value} {od2 an2 : Option Addr} {sl2 : Array (Option Value)}
    (a2 : PySem.W.nsIn K mainGlobals "bind_text" = some (some (.ref f2))) (l2 : K.lookup f2 = some ⟨oc2, od2, .func (PySem.W.fnOf "bind_text" "bind_text" (defArgs (topS 3)) (defBody (topS 3)) (defScope (topS 3)) .none kV2 dc2 pm2 an2 cd2 ct2), sl2⟩)
    (c2 : PySem.W.codeIn K cd2 "bind_text" = true) (k2 : PySem.W.keepIn K (.ref f2) = true)
    {f3 : Addr} {oc3 kV3 dc3 pm3 cd3 ct3 : Value} {od3 an3 : Option Addr} {sl3 : Array (Option Value)}
    (a3 : PySem.W.nsIn K mainGlobals "written" = some (some (.ref f3))) (l3 : K.lookup f3 = some ⟨oc3, od3, .func (PySem.W.fnOf "written" "written" (defArgs (topS 4)) (defBody (topS 4)) (defScope (topS 4)) .none kV3 dc3 pm3 an3 cd3 ct3), sl3⟩)
    (c3 : PySem.W.codeIn K cd3 "written" = true) (k3 : PySem.W.keepIn K (.ref f3) = true)
    {f4 : Addr} {oc4 kV4 dc4 pm4 cd4 ct4 : Value} {od4 an4 : Option Addr} {sl4 : Array (Option Value)}
    (a4 : PySem.W.nsIn K mainGlobals "_law_cell_at" = some (some (.ref f4))) (l4 : K.lookup f4 = some ⟨oc4, od4, .func (PySem.W.fnOf "_law_cell_at" "_law_cell_at" (defArgs (topS 6)) (defBody (topS 6)) (defScope (topS 6)) .none kV4 dc4 pm4 an4 cd4 ct4), sl4⟩)
    (c4 : PySem.W.codeIn K cd4 "_law_cell_at" = true) (k4 : PySem.W.keepIn K (.ref f4) = true)
    {f5 : Addr} {oc5 kV5 dc5 pm5 cd5 ct5 : Value} {od5 an5 : Option Addr} {sl5 : Array (Option Value)}
    (a5 : PySem.W.nsIn K mainGlobals "_law_mixed" = some (some (.ref f5))) (l5 : K.lookup f5 = some ⟨oc5, od5, .func (PySem.W.fnOf "_law_mixed" "_law_mixed" (defArgs (topS 7)) (defBody (topS 7)) (defScope (topS 7)) .none kV5 dc5 pm5 an5 cd5 ct5), sl5⟩)
    (c5 : PySem.W.codeIn K cd5 "_law_mixed" = true) (k5 : PySem.W.keepIn K (.ref f5) = true)
    {f6 : Addr} {oc6 kV6 dc6 pm6 cd6 ct6 : Value} {od6 an6 : Option Addr} {sl6 : Array (Option Value)}
    (a6 : PySem.W.nsIn K mainGlobals "_law_drawn" = some (some (.ref f6))) (l6 : K.lookup f6 = some ⟨oc6, od6, .func (PySem.W.fnOf "_law_drawn" "_law_drawn" (defArgs (topS 8)) (defBody (topS 8)) (defScope (topS 8)) .none kV6 dc6 pm6 an6 cd6 ct6), sl6⟩)
    (c6 : PySem.W.codeIn K cd6 "_law_drawn" = true) (k6 : PySem.W.keepIn K (.ref f6) = true)
    {f7 : Addr} {oc7 kV7 dc7 pm7 cd7 ct7 : Value} {od7 an7 : Option Addr} {sl7 : Array (Option Value)}
    (a7 : PySem.W.nsIn K mainGlobals "_law_key" = some (some (.ref f7))) (l7 : K.lookup f7 = some ⟨oc7, od7, .func (PySem.W.fnOf "_law_key" "_law_key" (defArgs (topS 9)) (defBody (topS 9)) (defScope (topS 9)) .none kV7 dc7 pm7 an7 cd7 ct7), sl7⟩)
    (c7 : PySem.W.codeIn K cd7 "_law_key" = true) (k7 : PySem.W.keepIn K (.ref f7) = true)
    {f8 : Addr} {oc8 kV8 dc8 pm8 cd8 ct8 : Value} {od8 an8 : Option Addr} {sl8 : Array (Option Value)}
    (a8 : PySem.W.nsIn K mainGlobals "_law_house" = some (some (.ref f8))) (l8 : K.lookup f8 = some ⟨oc8, od8, .func (PySem.W.fnOf "_law_house" "_law_house" (defArgs (topS 10)) (defBody (topS 10)) (defScope (topS 10)) .none kV8 dc8 pm8 an8 cd8 ct8), sl8⟩)
    (c8 : PySem.W.codeIn K cd8 "_law_house" = true) (k8 : PySem.W.keepIn K (.ref f8) = true)
    {f9 : Addr} {oc9 kV9 dc9 pm9 cd9 ct9 : Value} {od9 an9 : Option Addr} {sl9 : Array (Option Value)}
    (a9 : PySem.W.nsIn K mainGlobals "_law_bind" = some (some (.ref f9))) (l9 : K.lookup f9 = some ⟨oc9, od9, .func (PySem.W.fnOf "_law_bind" "_law_bind" (defArgs (topS 11)) (defBody (topS 11)) (defScope (topS 11)) .none kV9 dc9 pm9 an9 cd9 ct9), sl9⟩)
    (c9 : PySem.W.codeIn K cd9 "_law_bind" = true) (k9 : PySem.W.keepIn K (.ref f9) = true)
    {f10 : Addr} {oc10 kV10 dc10 pm10 cd10 ct10 : Value} {od10 an10 : Option Addr} {sl10 : Array (Option Value)}
    (a10 : PySem.W.nsIn K mainGlobals "_law_map" = some (some (.ref f10))) (l10 : K.lookup f10 = some ⟨oc10, od10, .func (PySem.W.fnOf "_law_map" "_law_map" (defArgs (topS 12)) (defBody (topS 12)) (defScope (topS 12)) .none kV10 dc10 pm10 an10 cd10 ct10), sl10⟩)
    (c10 : PySem.W.codeIn K cd10 "_law_map" = true) (k10 : PySem.W.keepIn K (.ref f10) = true)
    {f11 : Addr} {oc11 kV11 dc11 pm11 cd11 ct11 : Value} {od11 an11 : Option Addr} {sl11 : Array (Option Value)}
    (a11 : PySem.W.nsIn K mainGlobals "_law_house_text" = some (some (.ref f11))) (l11 : K.lookup f11 = some ⟨oc11, od11, .func (PySem.W.fnOf "_law_house_text" "_law_house_text" (defArgs (topS 13)) (defBody (topS 13)) (defScope (topS 13)) .none kV11 dc11 pm11 an11 cd11 ct11), sl11⟩)
    (c11 : PySem.W.codeIn K cd11 "_law_house_text" = true) (k11 : PySem.W.keepIn K (.ref f11) = true)
    {f12 : Addr} {oc12 kV12 dc12 pm12 cd12 ct12 : Value} {od12 an12 : Option Addr} {sl12 : Array (Option Value)}
    (a12 : PySem.W.nsIn K mainGlobals "_law_text" = some (some (.ref f12))) (l12 : K.lookup f12 = some ⟨oc12, od12, .func (PySem.W.fnOf "_law_text" "_law_text" (defArgs (topS 14)) (defBody (topS 14)) (defScope (topS 14)) .none kV12 dc12 pm12 an12 cd12 ct12), sl12⟩)
    (c12 : PySem.W.codeIn K cd12 "_law_text" = true) (k12 : PySem.W.keepIn K (.ref f12) = true)
    {f13 : Addr} {oc13 kV13 dc13 pm13 cd13 ct13 : Value} {od13 an13 : Option Addr} {sl13 : Array (Option Value)}
    (a13 : PySem.W.nsIn K mainGlobals "law" = some (some (.ref f13))) (l13 : K.lookup f13 = some ⟨oc13, od13, .func (PySem.W.fnOf "law" "law" (defArgs (topS 15)) (defBody (topS 15)) (defScope (topS 15)) .none kV13 dc13 pm13 an13 cd13 ct13), sl13⟩)
    (c13 : PySem.W.codeIn K cd13 "law" = true) (k13 : PySem.W.keepIn K (.ref f13) = true)
    (z0 : PySem.W.nsIn K mainGlobals "len" = some none)
    (z1 : PySem.W.nsIn K mainGlobals "tuple" = some none)
    (z2 : PySem.W.nsIn K mainGlobals "list" = some none)
    (z3 : PySem.W.nsIn K mainGlobals "dict" = some none)
    (z4 : PySem.W.nsIn K mainGlobals "sorted" = some none)
    (z5 : PySem.W.nsIn K mainGlobals "set" = some none)
    (z6 : PySem.W.nsIn K mainGlobals "sum" = some none)
    (z7 : PySem.W.nsIn K mainGlobals "max" = some none)
    (z8 : PySem.W.nsIn K mainGlobals "min" = some none)
    (z9 : PySem.W.nsIn K mainGlobals "all" = some none)
    (z10 : PySem.W.nsIn K mainGlobals "any" = some none)
    (z11 : PySem.W.nsIn K mainGlobals "int" = some none)
    (z12 : PySem.W.nsIn K mainGlobals "str" = some none)
    (z13 : PySem.W.nsIn K mainGlobals "isinstance" = some none)
    (z14 : PySem.W.nsIn K mainGlobals "range" = some none)
    (z15 : PySem.W.nsIn K mainGlobals "enumerate" = some none)
    (z16 : PySem.W.nsIn K mainGlobals "zip" = some none)
    (z17 : PySem.W.nsIn K mainGlobals "bool" = some none)
    (hlaw : ∀ ns : List Int, ns.length ≤ 63 → evFn PP WF (KL.DEP) 31 [scr (ns.map .int)] = .ok (.bool true)) :
    ∃ fd : FuncData, (∀ (s : Shared) (v : Value), BindsTo s fd ⟨[v], []⟩ [("_law_script", v)]) ∧ ∀ base : Heap, K.In base → base.Ns mainGlobals mg → FnOk P w K mg base CX0 (KL.DEP) fa fd ["_law_script"] (KD.spLaw K) := by
  refine law_end (T := TT) (pp := pp) (n := (KL.DEP)) (f := 31) (x := "law") hfa rfl rfl (fun f x hx => ?_) (fun x hx => ?_) (fun p hp => ?_) hlaw
  · unfold TT nm at hx
    simp only at hx
    split at hx
    · cases hx
      exact ⟨_, _, defK_mk X G a0 l0 c0 k0 (fun us hl => match us, hl with | [_, _], _ => rfl), ck25⟩
    · cases hx
      exact ⟨_, _, defK_mk X G a1 l1 c1 k1 (fun us hl => match us, hl with | [_], _ => rfl), ck26⟩
    · cases hx
      exact ⟨_, _, defK_mk X G a2 l2 c2 k2 (fun us hl => match us, hl with | [_], _ => rfl), ck27⟩
    · cases hx
      exact ⟨_, _, defK_mk X G a3 l3 c3 k3 (fun us hl => match us, hl with | [_], _ => rfl), ck28⟩
    · cases hx
      exact ⟨_, _, defK_mk X G a4 l4 c4 k4 (fun us hl => match us, hl with | [_, _], _ => rfl), ck1⟩
    · cases hx
      exact ⟨_, _, defK_mk X G a5 l5 c5 k5 (fun us hl => match us, hl with | [_, _], _ => rfl), ck2⟩
    · cases hx
      exact ⟨_, _, defK_mk X G a6 l6 c6 k6 (fun us hl => match us, hl with | [_, _], _ => rfl), ck3⟩
    · cases hx
      exact ⟨_, _, defK_mk X G a7 l7 c7 k7 (fun us hl => match us, hl with | [_], _ => rfl), ck19⟩
    · cases hx
      exact ⟨_, _, defK_mk X G a8 l8 c8 k8 (fun us hl => match us, hl with | [_], _ => rfl), ck20⟩
    · cases hx
      exact ⟨_, _, defK_mk X G a9 l9 c9 k9 (fun us hl => match us, hl with | [_, _], _ => rfl), ck21⟩
    · cases hx
      exact ⟨_, _, defK_mk X G a10 l10 c10 k10 (fun us hl => match us, hl with | [_, _, _], _ => rfl), ck22⟩
    · cases hx
      exact ⟨_, _, defK_mk X G a11 l11 c11 k11 (fun us hl => match us, hl with | [_], _ => rfl), ck29⟩
    · cases hx
      exact ⟨_, _, defK_mk X G a12 l12 c12 k12 (fun us hl => match us, hl with | [_], _ => rfl), ck30⟩
    · cases hx
      exact ⟨_, _, defK_mk X G a13 l13 c13 k13 (fun us hl => match us, hl with | [_], _ => rfl), ck31⟩
    · cases hx
  · simp only [bltNames, List.mem_cons, List.not_mem_nil, or_false] at hx
    rcases hx with rfl | rfl | rfl | rfl | rfl | rfl | rfl | rfl | rfl | rfl | rfl | rfl | rfl | rfl | rfl | rfl | rfl | rfl
    · exact PySem.W.mg_none_of X G z0
    · exact PySem.W.mg_none_of X G z1
    · exact PySem.W.mg_none_of X G z2
    · exact PySem.W.mg_none_of X G z3
    · exact PySem.W.mg_none_of X G z4
    · exact PySem.W.mg_none_of X G z5
    · exact PySem.W.mg_none_of X G z6
    · exact PySem.W.mg_none_of X G z7
    · exact PySem.W.mg_none_of X G z8
    · exact PySem.W.mg_none_of X G z9
    · exact PySem.W.mg_none_of X G z10
    · exact PySem.W.mg_none_of X G z11
    · exact PySem.W.mg_none_of X G z12
    · exact PySem.W.mg_none_of X G z13
    · exact PySem.W.mg_none_of X G z14
    · exact PySem.W.mg_none_of X G z15
    · exact PySem.W.mg_none_of X G z16
    · exact PySem.W.mg_none_of X G z17
  · cases hp
end KL
open PySem PySem.W PyProof.Rows
set_option maxHeartbeats 0 in
theorem PySem.Challenge.cw_keydeeds_k03_written_holds : PySem.Challenge.rw_keydeeds_k03_written.Holds := by
  w_on; o_law; k_head; (case hw => w_witness2)
  k_fill
  refine L2.walk_of (l := PySem.Challenge.rw_keydeeds_k03_written) (n := 63) (k := (KL.DEP)) (x := "_law_script") (CX := fun _ => L2.CX0) (sp := fun w => KD.spLaw _) rfl (by decide) rfl ⟨rfl, by decide, by decide⟩ (fun w h Y => PySem.W.kIn_of Y) ?F (fun _ _ a ns hl _ hS => ⟨a, ns, rfl, hS, hl, fun _ => rfl⟩) (fun _ _ _ _ _ h => h)
  case F =>
    intro w mg fa h KX G hmg
    refine' KL.all_mk KX G hmg ?a0 ?l0 ?c0 ?k0 ?a1 ?l1 ?c1 ?k1 ?a2 ?l2 ?c2 ?k2 ?a3 ?l3 ?c3 ?k3 ?a4 ?l4 ?c4 ?k4 ?a5 ?l5 ?c5 ?k5 ?a6 ?l6 ?c6 ?k6 ?a7 ?l7 ?c7 ?k7 ?a8 ?l8 ?c8 ?k8 ?a9 ?l9 ?c9 ?k9 ?a10 ?l10 ?c10 ?k10 ?a11 ?l11 ?c11 ?k11 ?a12 ?l12 ?c12 ?k12 ?a13 ?l13 ?c13 ?k13 ?z0 ?z1 ?z2 ?z3 ?z4 ?z5 ?z6 ?z7 ?z8 ?z9 ?z10 ?z11 ?z12 ?z13 ?z14 ?z15 ?z16 ?z17 KL.law_true
    (case a0 => k_is); (case l0 => k_is); (case c0 => k_is); (case k0 => k_is); (case a1 => k_is); (case l1 => k_is); (case c1 => k_is); (case k1 => k_is); (case a2 => k_is); (case l2 => k_is); (case c2 => k_is); (case k2 => k_is); (case a3 => k_is); (case l3 => k_is); (case c3 => k_is); (case k3 => k_is); (case a4 => k_is); (case l4 => k_is); (case c4 => k_is); (case k4 => k_is); (case a5 => k_is); (case l5 => k_is); (case c5 => k_is); (case k5 => k_is); (case a6 => k_is); (case l6 => k_is); (case c6 => k_is); (case k6 => k_is); (case a7 => k_is); (case l7 => k_is); (case c7 => k_is); (case k7 => k_is); (case a8 => k_is); (case l8 => k_is); (case c8 => k_is); (case k8 => k_is); (case a9 => k_is); (case l9 => k_is); (case c9 => k_is); (case k9 => k_is); (case a10 => k_is); (case l10 => k_is); (case c10 => k_is); (case k10 => k_is); (case a11 => k_is); (case l11 => k_is); (case c11 => k_is); (case k11 => k_is); (case a12 => k_is); (case l12 => k_is); (case c12 => k_is); (case k12 => k_is); (case a13 => k_is); (case l13 => k_is); (case c13 => k_is); (case k13 => k_is); (case z0 => k_is); (case z1 => k_is); (case z2 => k_is); (case z3 => k_is); (case z4 => k_is); (case z5 => k_is); (case z6 => k_is); (case z7 => k_is); (case z8 => k_is); (case z9 => k_is); (case z10 => k_is); (case z11 => k_is); (case z12 => k_is); (case z13 => k_is); (case z14 => k_is); (case z15 => k_is); (case z16 => k_is); (case z17 => k_is)
