import PyProof.Rows.All
import Wide.All
import OpenK.AllK
import Wide.FinOn
import HandS.ForMost
import HandS.Exc
import HandS.TryOnly
import HandS.ExcOwn
import HandS.Style
import HandS.TupAny
import HandS.TupMul
import HandS.DictComp
import HandS.SortInts
import HandS.Walk
import HandS.Zip
import HandS.IsInst
import HandS.Wide
import HandS.Strs
import HandS.RaiseMore
import HandS.Flow
import HandS.EndBits
import HandS.TryMany
import HandS.WideBits
import HandS.SetFor
import HandS.Conv
import KE.GoesMore
import HandS.Small
import HandS.WordsExc
import KE.KOwnIn
import PySem.Challenge.RW_timestold_k01_whole_tellings_and_courses
set_option Elab.async false
set_option linter.all false
set_option maxRecDepth 100000
set_option maxHeartbeats 4000000
/-! A small interpreter of the programs' language over plain data: values, cells, expressions, statements. -/
namespace Tp
abbrev Nm := List Nat
abbrev Kk := Sum Int Nm
/-- plain data -/
inductive P where
  | non | bl (b : Bool) | int (i : Int) | str (x : Nm)
  | tup (xs : List P) | lst (xs : List P)
  | dk (ks : List Kk) (vs : List P)
  | fn (i : Nat)
  deriving Inhabited
/-- what a program may change -/
inductive Cell where
  | lst (xs : List P) | dk (kvs : List (Kk × P))
abbrev Store := List Cell
/-- what a name holds -/
inductive W where
  | p (x : P) | loc (k : Nat) | tl (ws : List (Sum P Nat)) | scr (xs : List Int) | pr (xs : List P)
inductive Res (α : Type) where
  | ok (a : α) (S : Store) | ex (c : Nat) (fs : List (Nm × P)) (S : Store) | bad
def Res.bind {α β : Type} (r : Res α) (f : α → Store → Res β) : Res β :=
  match r with
  | .ok a S => f a S
  | .ex c fs S => .ex c fs S
  | .bad => .bad
def rOpt {α : Type} (o : Option α) (S : Store) : Res α := match o with | some a => .ok a S | none => .bad
abbrev Fr := List (Option W)

/-! ### plain helpers -/
def nmEq : Nm → Nm → Bool
  | [], [] => true
  | a :: x, b :: y => (a == b) && nmEq x y
  | _, _ => false
def nmLt : Nm → Nm → Bool
  | [], [] => false
  | [], _ :: _ => true
  | _ :: _, [] => false
  | a :: x, b :: y => if a < b then true else if b < a then false else nmLt x y
def kkEq : Kk → Kk → Bool
  | .inl i, .inl j => i == j
  | .inr x, .inr y => nmEq x y
  | _, _ => false
def toKk : P → Option Kk
  | .int i => some (.inl i)
  | .str x => some (.inr x)
  | _ => none
def ofKk : Kk → P
  | .inl i => .int i
  | .inr x => .str x
def dGet : List (Kk × P) → Kk → Option P
  | [], _ => none
  | (k, v) :: r, j => if kkEq k j then some v else dGet r j
def dRepl : List (Kk × P) → Kk → P → List (Kk × P)
  | [], _, _ => []
  | (j, u) :: r, k, v => (if kkEq j k then (j, v) else (j, u)) :: dRepl r k v
def dPut (kvs : List (Kk × P)) (k : Kk) (v : P) : List (Kk × P) :=
  match dGet kvs k with
  | some _ => dRepl kvs k v
  | none => kvs ++ [(k, v)]

mutual
/-- == of data (numbers and truth values alike) -/
def peq : P → P → Bool
  | .non, y => match y with | .non => true | _ => false
  | .bl a, y => match y with | .bl b => a == b | .int j => (if a then 1 else 0 : Int) == j | _ => false
  | .int i, y => match y with | .bl b => i == (if b then 1 else 0 : Int) | .int j => i == j | _ => false
  | .str x, y => match y with | .str z => nmEq x z | _ => false
  | .lst xs, y => match y with | .lst ys => peqs xs ys | _ => false
  | .tup xs, y => match y with | .tup ys => peqs xs ys | _ => false
  | .dk _ _, _ => false
  | .fn _, _ => false
def peqs : List P → List P → Bool
  | [], ys => match ys with | [] => true | _ :: _ => false
  | x :: xs, ys => match ys with | [] => false | y :: ys => peq x y && peqs xs ys
end
mutual
/-- data without dicts and defs, at most so deep, texts of plain signs -/
def shp : P → Nat → Bool
  | .non, _ | .bl _, _ | .int _, _ => true
  | .str x, _ => x.all (· < 55296)
  | .lst xs, n => match n with | 0 => false | n + 1 => shps xs n
  | .tup xs, n => match n with | 0 => false | n + 1 => shps xs n
  | .dk .., _ | .fn _, _ => false
def shps : List P → Nat → Bool
  | [], _ => true
  | x :: xs, n => shp x n && shps xs n
end
def flat : P → Bool
  | .non | .bl _ | .int _ | .str _ => true
  | _ => false
def line : Nat := 16777216
def dPairs (ks : List Kk) (vs : List P) : List (Kk × P) := ks.zip vs
/-- the dict that a value is -/
def dView (S : Store) : W → Option (List (Kk × P))
  | .p (.dk ks vs) => some (dPairs ks vs)
  | .loc k => match S[k]? with | some (.dk kvs) => some kvs | _ => none
  | _ => none
/-- the list that a value is -/
def lView (S : Store) : W → Option (List P)
  | .p (.lst xs) => some xs
  | .loc k => match S[k]? with | some (.lst xs) => some xs | _ => none
  | _ => none
def tView : W → Option (List P)
  | .p (.tup xs) => some xs
  | _ => none
/-- a list or a tuple -/
def sView (S : Store) (w : W) : Option (List P) := match tView w with | some xs => some xs | none => lView S w
def pInts : List P → Option (List Int)
  | [] => some []
  | .int i :: r => match pInts r with | some is => some (i :: is) | none => none
  | _ => none
def pBls : List P → Option (List Bool)
  | [] => some []
  | .bl i :: r => match pBls r with | some is => some (i :: is) | none => none
  | _ => none
def pNms : List P → Option (List Nm)
  | [] => some []
  | .str i :: r => match pNms r with | some is => some (i :: is) | none => none
  | _ => none
def insI (i : Int) : List Int → List Int
  | [] => [i]
  | j :: r => if i ≤ j then i :: j :: r else j :: insI i r
def srtI : List Int → List Int
  | [] => []
  | i :: r => insI i (srtI r)
def insN (i : Nm) : List Nm → List Nm
  | [] => [i]
  | j :: r => if nmLt j i then j :: insN i r else i :: j :: r
def srtN : List Nm → List Nm
  | [] => []
  | i :: r => insN i (srtN r)
def dedI : List Int → List Int
  | [] => []
  | i :: r => if r.contains i then dedI r else i :: dedI r
def minI : Int → List Int → Int
  | m, [] => m
  | m, i :: r => minI (if i < m then i else m) r
def maxI : Int → List Int → Int
  | m, [] => m
  | m, i :: r => maxI (if i > m then i else m) r
def sumI : List Int → Int
  | [] => 0
  | i :: r => i + sumI r
def repL {α : Type} (xs : List α) : Nat → List α
  | 0 => []
  | n + 1 => xs ++ repL xs n
def sIx (n : Nat) (d : Nat) : Option Int → Nat
  | none => d
  | some i => if i < 0 then (i + n).toNat else min i.toNat n
def cutL {α : Type} (xs : List α) (lo hi : Option Int) : List α := (xs.drop (sIx xs.length 0 lo)).take (sIx xs.length xs.length hi - sIx xs.length 0 lo)
def ixOf (n : Nat) (i : Int) : Option Nat := if 0 ≤ i then (if i < n then some i.toNat else none) else if -(n : Int) ≤ i then some (i + n).toNat else none
def atP {α : Type} (xs : List α) (i : Int) : Option α := match ixOf xs.length i with | some j => xs[j]? | none => none
def decN (i : Int) : Option Nm := if 0 ≤ i ∧ i < 100 then (if i < 10 then some [48 + i.toNat] else some [48 + i.toNat / 10, 48 + i.toNat % 10]) else none
def subAt : Nm → Nm → Bool
  | [], _ => true
  | _ :: _, [] => false
  | a :: x, b :: y => (a == b) && subAt x y
def subIn (x : Nm) : Nm → Bool
  | [] => subAt x []
  | b :: y => subAt x (b :: y) || subIn x y
def idxN (z : Nm) : List Nm → Nat → Option Nat
  | [], _ => none
  | y :: r, j => if nmEq y z then some j else idxN z r (j + 1)

/-! ### operations by values -/
inductive Bop | add | sub | mul | fdiv | mod | pow
inductive Cop | eq | ne | lt | le | gt | ge | isin | notin | is | isnot
def wP : W → Option P
  | .p x => some x
  | _ => none
def binI : Bop → Int → Int → Option Int
  | .add, i, j => some (i + j)
  | .sub, i, j => some (i - j)
  | .mul, i, j => if i.natAbs.log2 + j.natAbs.log2 < 100000000 then some (i * j) else none
  | .fdiv, i, j => if 0 < j ∧ j.natAbs.log2 < 9000 then some (i / j) else none
  | .mod, i, j => if 0 < j then some (i % j) else none
  | .pow, i, j => if 0 ≤ j ∧ j ≤ 1000000 ∧ i.natAbs < 18446744073709551616 then some (i ^ j.toNat) else none
def binP : Bop → P → P → Option P
  | op, .int i, .int j => (binI op i j).map .int
  | .add, .str x, .str y => if x.length + y.length ≤ line then some (.str (x ++ y)) else none
  | .add, .tup x, .tup y => if x.length + y.length ≤ line then some (.tup (x ++ y)) else none
  | .mul, .tup x, .int k => if x ≠ [] ∧ 2 ≤ k ∧ k ≤ 1000 ∧ x.length ≤ 1000 then some (.tup (repL x k.toNat)) else none
  | .mul, .str x, .int k => if x ≠ [] ∧ 2 ≤ k ∧ k ≤ 1000 ∧ x.length ≤ 1000 then some (.str (repL x k.toNat)) else none
  | _, _, _ => none
def binW (op : Bop) (S : Store) (x y : W) : Option P :=
  match x, y with
  | .p a, .p b => match binP op a b with
    | some r => some r
    | none => binL op S x y
  | _, _ => binL op S x y
where binL (op : Bop) (S : Store) (x y : W) : Option P :=
  match op with
  | .add => match lView S x, lView S y with
    | some a, some b => if a.length + b.length ≤ line then some (.lst (a ++ b)) else none
    | _, _ => none
  | .mul => match lView S x, y with
    | some a, .p (.int k) => if 0 ≤ k ∧ k ≤ 1000 ∧ a.length ≤ 1000 then some (.lst (repL a k.toNat)) else none
    | _, _ => none
  | _ => none
def isScal : P → Bool
  | .non | .int _ | .bl _ | .str _ => true
  | _ => false
def mixed : P → P → Bool
  | .int _, .bl _ | .bl _, .int _ => true
  | _, _ => false
def eqP (a b : P) : Option Bool :=
  if isScal a && isScal b && !mixed a b then some (peq a b) else if shp a 60 && shp b 60 then some (peq a b) else none
/-- a cell as data -/
def cellP : Cell → P
  | .lst xs => .lst xs
  | .dk kvs => .dk (kvs.map (·.1)) (kvs.map (·.2))
def dataOf (S : Store) : W → Option P
  | .p x => some x
  | .loc k => match S[k]? with | some (.lst xs) => some (.lst xs) | _ => none
  | _ => none
def inP (x : P) : List P → Bool
  | [] => false
  | y :: r => peq y x || inP x r
def ordI (op : Cop) (i j : Int) : Option Bool :=
  match op with
  | .lt => some (decide (i < j)) | .le => some (decide (i ≤ j)) | .gt => some (decide (j < i)) | .ge => some (decide (j ≤ i))
  | _ => none
def ordN (op : Cop) (x y : Nm) : Option Bool :=
  match op with
  | .lt => some (nmLt x y)
  | _ => none
def cmpW (op : Cop) (S : Store) (x y : W) : Option Bool :=
  match op with
  | .eq => match dataOf S x, dataOf S y with | some a, some b => eqP a b | _, _ => none
  | .ne => match dataOf S x, dataOf S y with | some a, some b => (eqP a b).map (!·) | _, _ => none
  | .isin => contW S x y
  | .notin => (contW S x y).map (!·)
  | .is => isW x y
  | .isnot => (isW x y).map (!·)
  | _ => match x, y with
    | .p (.int i), .p (.int j) => ordI op i j
    | .p (.str a), .p (.str b) => ordN op a b
    | _, _ => none
where
  contW (S : Store) (x y : W) : Option Bool :=
    match wP x with
    | none => none
    | some a => match dView S y with
      | some kvs => match toKk a with | some k => some (dGet kvs k).isSome | none => none
      | none => match sView S y with
        | some xs => if flat a && xs.all flat then some (inP a xs) else none
        | none => match a, y with
          | .str u, .p (.str v) => match u with | [c] => some (v.contains c) | _ => none
          | _, _ => none
  isW (x y : W) : Option Bool :=
    match x, y with
    | .p (.bl a), .p (.bl b) => some (a == b)
    | .p .non, .p .non => some true
    | .loc _, .p .non => some false
    | .p a, .p .non => match a with | .non => some true | _ => some false
    | _, _ => none
/-- the truth of a value -/
def truW (S : Store) : W → Option Bool
  | .p .non => some false
  | .p (.bl b) => some b
  | .p (.int i) => some (i != 0)
  | .p (.str x) => if x.length ≤ line then some (!x.isEmpty) else none
  | .p (.tup xs) => some (!xs.isEmpty)
  | .p (.lst xs) => some (!xs.isEmpty)
  | .p (.dk ks _) => some (!ks.isEmpty)
  | .loc k => match S[k]? with | some (.lst xs) => some (!xs.isEmpty) | some (.dk kvs) => some (!kvs.isEmpty) | none => none
  | _ => none
inductive Ty | int | bool | str | tuple | list | dict
def tyP : P → Option Ty
  | .bl _ => some .bool | .int _ => some .int | .str _ => some .str | .tup _ => some .tuple | .lst _ => some .list | .dk .. => some .dict
  | _ => none
def isTy : Ty → Ty → Bool
  | .int, .int | .bool, .bool | .bool, .int | .str, .str | .tuple, .tuple | .list, .list | .dict, .dict => true
  | _, _ => false
def isiW (S : Store) (w : W) (T : Ty) : Option Bool :=
  match w with
  | .p .non => some false
  | .p (.fn _) => none
  | .p x => match tyP x with | some t => some (isTy t T) | none => none
  | .loc k => match S[k]? with | some (.lst _) => some (isTy .list T) | some (.dk _) => some (isTy .dict T) | none => none
  | _ => none
/-! ### built-in functions of one argument -/
inductive F1 | len | abs | int | str | tuple | list | sorted | sum | min | max | all | any | lenset | sortset
def f1W (f : F1) (S : Store) (w : W) : Option P :=
  match f with
  | .len => match w with
    | .p (.str x) => if x.length ≤ line then some (.int x.length) else none
    | _ => match sView S w with
      | some xs => some (.int xs.length)
      | none => (dView S w).map fun kvs => .int kvs.length
  | .abs => match w with | .p (.int i) => some (.int (if i < 0 then -i else i)) | _ => none
  | .int => match w with | .p (.int i) => some (.int i) | .p (.bl b) => some (.int (if b then 1 else 0)) | _ => none
  | .str => match w with | .p (.int i) => (decN i).map .str | .p (.str x) => some (.str x) | _ => none
  | .tuple => (sView S w).map .tup
  | .list => match w with
    | .scr xs => some (.lst (xs.map .int))
    | _ => (sView S w).map .lst
  | .sorted => match lView S w with
    | some xs => match pInts xs with
      | some is => some (.lst ((srtI is).map .int))
      | none => match pNms xs with
        | some ns => if ns.length < 64 then some (.lst ((srtN ns).map .str)) else none
        | none => none
    | none => match dView S w with
      | some kvs => if kvs.length < 64 then (match pInts (kvs.map fun kv => ofKk kv.1) with
        | some is => some (.lst ((srtI is).map .int))
        | none => match pNms (kvs.map fun kv => ofKk kv.1) with
          | some ns => some (.lst ((srtN ns).map .str))
          | none => none) else none
      | none => none
  | .sum => match sView S w with | some xs => (pInts xs).map fun is => .int (sumI is) | none => none
  | .min => match sView S w with | some xs => (match pInts xs with | some (i :: r) => some (.int (minI i r)) | _ => none) | none => none
  | .max => match sView S w with | some xs => (match pInts xs with | some (i :: r) => some (.int (maxI i r)) | _ => none) | none => none
  | .all => match lView S w with | some xs => (pBls xs).map fun bs => .bl (bs.all id) | none => none
  | .any => match lView S w with | some xs => (pBls xs).map fun bs => .bl (bs.any id) | none => none
  | .lenset => none
  | .sortset => match tView w with | some xs => (match pInts xs with | some is => if is.length < 64 then some (.lst ((srtI (dedI is)).map .int)) else none | none => none) | none => none
def min2 (S : Store) (x y : W) : Option P := match x, y with | .p (.int i), .p (.int j) => some (.int (if j < i then j else i)) | _, _ => none
def max2 (S : Store) (x y : W) : Option P := match x, y with | .p (.int i), .p (.int j) => some (.int (if j > i then j else i)) | _, _ => none
def ixW (S : Store) (x y : W) : Option P :=
  match dView S x with
  | some kvs => match y with | .p b => (match toKk b with | some k => dGet kvs k | none => none) | _ => none
  | none => match y with
    | .p (.int i) => match x with
      | .p (.str z) => if z.length ≤ line then (atP z i).map fun c => .str [c] else none
      | _ => match sView S x with | some xs => atP xs i | none => none
    | _ => none
def slW (S : Store) (x : W) (lo hi : Option Int) : Option P :=
  match x with
  | .p (.str z) => if z.length ≤ line then some (.str (cutL z lo hi)) else none
  | .p (.tup xs) => some (.tup (cutL xs lo hi))
  | _ => (lView S x).map fun xs => .lst (cutL xs lo hi)
/-! ### what is walked -/
inductive Src | vals (xs : List P) | cell (k i : Nat) | rng (lo : Int) (n : Nat) | enm (i : Nat) (xs : List P) | zip (xs ys : List P)
def Src.next (S : Store) : Src → Option (Option (W × Src))
  | .vals [] => some none
  | .vals (x :: xs) => some (some (.p x, .vals xs))
  | .cell k i => match S[k]? with
    | some (.lst xs) => match xs[i]? with | some x => some (some (.p x, .cell k (i + 1))) | none => some none
    | _ => none
  | .rng _ 0 => some none
  | .rng lo (n + 1) => some (some (.p (.int lo), .rng (lo + 1) n))
  | .enm _ [] => some none
  | .enm i (x :: xs) => some (some (.pr [.int i, x], .enm (i + 1) xs))
  | .zip [] _ => some none
  | .zip (_ :: _) [] => some none
  | .zip (x :: xs) (y :: ys) => some (some (.pr [x, y], .zip xs ys))
/-- the ints i .. j - 1 as data -/
def rgP (i j : Int) : List P := (List.range (j - i).toNat).map fun (k : Nat) => P.int (i + (k : Int))
def rgW (t : Bool) (x y : W) : Option W := match x, y with
  | .p (.int i), .p (.int j) => if -4611686018427387904 ≤ i ∧ i < 4611686018427387904 ∧ -4611686018427387904 ≤ j ∧ j < 4611686018427387904 ∧ (j - i).toNat ≤ line then some (.p (if t then .tup (rgP i j) else .lst (rgP i j))) else none
  | _, _ => none
def strSrc (x : Nm) : List P := x.map fun c => .str [c]

/-! ### the syntax -/
mutual
inductive Ex where
  | var (i : Nat) | cst (x : P) | glob (x : P) | fnv (i : Nat)
  | tup (es : Exs) | lst (es : Exs) | dnew | new (e : Ex)
  | bin (op : Bop) (a b : Ex) | neg (a : Ex)
  | cmp (op : Cop) (a b : Ex) | cmp2 (op op2 : Cop) (a b c : Ex)
  | and (es : Exs) | or (es : Exs) | not (a : Ex) | ite (c a b : Ex)
  | ix (a i : Ex) | sl (a : Ex) (lo hi : Exo) | rev (a : Ex)
  | call (f : Nat) (es : Exs) | ncall (f : Nat) (es : Exs) | callv (i : Nat) (es : Exs)
  | f1 (f : F1) (a : Ex) | mn2 (a b : Ex) | mx2 (a b : Ex)
  | isi (a : Ex) (T : Ty)
  | rg1 (t : Bool) (a : Ex) | rg2 (t : Bool) (a b : Ex)
  | get1 (a k : Ex) | get2 (a k d : Ex) | index (a x : Ex) | app (a x : Ex)
  | lc (elt : Ex) (tg : Tg) (it : Itr) (ifs : Exs) (own : List Nat)
  | dc (k v : Ex) (tg : Tg) (it : Itr) (ifs : Exs) (own : List Nat)
inductive Exs where
  | nil | cons (e : Ex) (es : Exs)
inductive Exo where
  | none | some (e : Ex)
inductive Itr where
  | of (e : Ex) | range1 (a : Ex) | range2 (a b : Ex) | enm (e : Ex) | zip (a b : Ex)
inductive Tg where
  | name (i : Nat) | tup (ts : Tgs)
inductive Tgs where
  | nil | cons (t : Tg) (ts : Tgs)
end
mutual
inductive St where
  | asg (t : Tg) (e : Ex) | par (is : List Nat) (es : Exs) | setI (o i e : Ex) | aug (i : Nat) (op : Bop) (e : Ex)
  | expr (e : Ex) | ret (e : Ex) | retN | pass | brk | cont
  | ifS (c : Ex) (a b : Sts) | forS (t : Tg) (it : Itr) (b : Sts) | whileS (c : Ex) (b : Sts)
  | raise (c : Nat)
inductive Sts where
  | nil | cons (s : St) (ss : Sts)
end

/-! ### evaluation -/
def tgSlots : Tg → List Nat
  | .name i => [i]
  | .tup ts => tgsSlots ts
where tgsSlots : Tgs → List Nat
  | .nil => []
  | .cons t ts => tgSlots t ++ tgsSlots ts
def sumW : Sum P Nat → W
  | .inl p => .p p
  | .inr k => .loc k
def tgsLen : Tgs → Nat
  | .nil => 0
  | .cons _ ts => tgsLen ts + 1
mutual
def asgT : Tg → W → Fr → Option Fr
  | .name i, w, σ => if i < σ.length then some (σ.set i (some w)) else none
  | .tup ts, w, σ => match w with
    | .p (.tup xs) => asgTs ts (xs.map .inl) σ
    | .tl ws => asgTs ts ws σ
    | .pr xs => asgTs ts (xs.map .inl) σ
    | .p (.lst xs) => asgTs ts (xs.map .inl) σ
    | _ => none
def asgTs : Tgs → List (Sum P Nat) → Fr → Option Fr
  | .nil, [], σ => some σ
  | .cons t ts, x :: xs, σ => match asgT t (sumW x) σ with
    | some σ1 => asgTs ts xs σ1
    | none => none
  | _, _, _ => none
end
def wipeF (σ : Fr) : List Nat → Fr
  | [] => σ
  | v :: vs => (wipeF σ vs).set v none
/-- back from a call: the callee's own cells become data -/
def leaveS (m : Nat) (S : Store) : Sum P Nat → Option (Sum P Nat)
  | .inl x => some (.inl x)
  | .inr k => if k < m then some (.inr k) else (S[k]?).map fun c => .inl (cellP c)
def leaveTl (m : Nat) (S : Store) : List (Sum P Nat) → Option (List (Sum P Nat))
  | [] => some []
  | x :: xs => match leaveS m S x, leaveTl m S xs with
    | some y, some ys => some (y :: ys)
    | _, _ => none
def allP : List (Sum P Nat) → Option (List P)
  | [] => some []
  | .inl x :: xs => (allP xs).map (x :: ·)
  | .inr _ :: _ => none
def leaveW (m : Nat) (S : Store) : W → Option W
  | .p x => some (.p x)
  | .loc k => if k < m then some (.loc k) else (S[k]?).map fun c => .p (cellP c)
  | .tl ws => match leaveTl m S ws with
    | some ys => match allP ys with | some xs => some (.p (.tup xs)) | none => some (.tl ys)
    | none => none
  | .scr xs => some (.scr xs)
  | .pr xs => some (.pr xs)
def back (m : Nat) (w : W) (S : Store) : Res W := match leaveW m S w with | some v => .ok v (S.take m) | none => .bad
def backNew (m : Nat) (w : W) (S : Store) : Res W := match w with
  | .loc k => if m ≤ k then (match S[k]? with | some c => .ok (.loc m) (S.take m ++ [c]) | none => .bad) else .bad
  | _ => .bad
def sumsOf : List W → Option (List (Sum P Nat))
  | [] => some []
  | .p x :: r => (sumsOf r).map (.inl x :: ·)
  | .loc k :: r => (sumsOf r).map (.inr k :: ·)
  | _ => none
def psOf : List W → Option (List P)
  | [] => some []
  | .p x :: r => (psOf r).map (x :: ·)
  | _ => none
def mkTup (ws : List W) : Option W := match psOf ws with
  | some xs => if xs.length ≤ line then some (.p (.tup xs)) else none
  | none => match sumsOf ws with | some ys => if ys.length ≤ line then some (.tl ys) else none | none => none
def mkLst (ws : List W) : Option W := match psOf ws with
  | some xs => if xs.length ≤ line then some (.p (.lst xs)) else none
  | none => none
def allocW (S : Store) : W → Res W
  | .p (.lst xs) => .ok (.loc S.length) (S ++ [.lst xs])
  | .p (.dk ks vs) => .ok (.loc S.length) (S ++ [.dk (ks.zip vs)])
  | _ => .bad
def callTrunc {α : Type} (m : Nat) (r : Res α) (f : α → Store → Res W) : Res W :=
  match r with
  | .ok a S => f a S
  | .ex c fs S => .ex c fs (S.take m)
  | .bad => .bad
inductive Fl | nx | rt (w : W) | bk | ct
def bigN : Nat := 1000000
/-- a comprehension's turns -/
def compGo (t : Tg) (conds : Fr → Store → Res Bool) (elt : Fr → Store → Res W) (σ0 : Fr) : Nat → Src → List P → Store → Res (List P)
  | 0, _, _, _ => .bad
  | n + 1, src, acc, S => match src.next S with
    | none => .bad
    | some none => .ok acc S
    | some (some (x, src')) => match asgT t x σ0 with
      | none => .bad
      | some σ1 => match conds σ1 S with
        | .ok b S1 => if b then (match elt σ1 S1 with
          | .ok w S2 => (match w with
            | .p y => if acc.length < line then compGo t conds elt σ0 n src' (acc ++ [y]) S2 else .bad
            | _ => .bad)
          | _ => .bad) else compGo t conds elt σ0 n src' acc S1
        | _ => .bad
def dcompGo (t : Tg) (conds : Fr → Store → Res Bool) (ke ve : Fr → Store → Res W) (σ0 : Fr) : Nat → Src → List (Kk × P) → Store → Res (List (Kk × P))
  | 0, _, _, _ => .bad
  | n + 1, src, acc, S => match src.next S with
    | none => .bad
    | some none => .ok acc S
    | some (some (x, src')) => match asgT t x σ0 with
      | none => .bad
      | some σ1 => match conds σ1 S with
        | .ok b S1 => if b then (match ke σ1 S1 with
          | .ok kw S2 => (match ve σ1 S2 with
            | .ok vw S3 => (match kw, vw with
              | .p kp, .p y => (match toKk kp with
                | some k => if acc.length < line then dcompGo t conds ke ve σ0 n src' (dPut acc k y) S3 else .bad
                | none => .bad)
              | _, _ => .bad)
            | _ => .bad)
          | _ => .bad) else dcompGo t conds ke ve σ0 n src' acc S1
        | _ => .bad
def forGo (t : Tg) (body : Fr → Store → Res (Fl × Fr)) : Nat → Src → Fr → Store → Res (Fl × Fr)
  | 0, _, _, _ => .bad
  | n + 1, src, σ, S => match src.next S with
    | none => .bad
    | some none => .ok (.nx, σ) S
    | some (some (x, src')) => match asgT t x σ with
      | none => .bad
      | some σ1 => (body σ1 S).bind fun r S1 => match r with
        | (.nx, σ2) => forGo t body n src' σ2 S1
        | (.ct, σ2) => forGo t body n src' σ2 S1
        | (.bk, σ2) => .ok (.nx, σ2) S1
        | (.rt w, σ2) => .ok (.rt w, σ2) S1
def whileGo (c : Fr → Store → Res Bool) (body : Fr → Store → Res (Fl × Fr)) : Nat → Fr → Store → Res (Fl × Fr)
  | 0, _, _ => .bad
  | n + 1, σ, S => (c σ S).bind fun b S1 => if b then (body σ S1).bind fun r S2 => (match r with
        | (.nx, σ2) => whileGo c body n σ2 S2
        | (.ct, σ2) => whileGo c body n σ2 S2
        | (.bk, σ2) => .ok (.nx, σ2) S2
        | (.rt w, σ2) => .ok (.rt w, σ2) S2) else .ok (.nx, σ) S1
def srcOf (S : Store) : W → Option Src
  | .p (.lst xs) => some (.vals xs)
  | .p (.tup xs) => some (.vals xs)
  | .p (.str x) => some (.vals (strSrc x))
  | .loc k => match S[k]? with | some (.lst _) => some (.cell k 0) | _ => none
  | _ => none
def intOf : W → Option Int
  | .p (.int i) => some i
  | _ => none
def get1W (S : Store) (x y : W) : Option W := match dView S x, wP y with
  | some kvs, some b => (match toKk b with | some k => some (.p ((dGet kvs k).getD .non)) | none => none)
  | _, _ => none
def get2W (S : Store) (x y z : W) : Option W := match dView S x, wP y, wP z with
  | some kvs, some b, some e => (match toKk b with | some k => some (.p ((dGet kvs k).getD e)) | none => none)
  | _, _, _ => none
def idxW (xs : List P) (y : W) : Option W := match y with
  | .p (.str z) => (match pNms xs with | some ns => (match idxN z ns 0 with | some j => some (.p (.int (j : Nat))) | none => none) | none => none)
  | _ => none
def appW (S : Store) (k : Nat) (y : W) : Res W := match y with
  | .p v => (match S[k]? with
    | some (.lst xs) => if xs.length < line then .ok (.p .non) (S.set k (.lst (xs ++ [v]))) else .bad
    | _ => .bad)
  | _ => .bad
abbrev CallF := Nat → List W → Store → Res W
section
variable (cf : CallF)
mutual
def dE : Ex → Fr → Store → Res W
  | .var i, σ, S => match σ[i]? with | some (some w) => .ok w S | _ => .bad
  | .cst x, _, S => .ok (.p x) S
  | .glob x, _, S => .ok (.p x) S
  | .fnv i, _, S => .ok (.p (.fn i)) S
  | .tup es, σ, S => (dEs es σ S).bind fun ws S1 => rOpt (mkTup ws) S1
  | .lst es, σ, S => (dEs es σ S).bind fun ws S1 => rOpt (mkLst ws) S1
  | .dnew, _, S => .ok (.p (.dk [] [])) S
  | .new e, σ, S => (dE e σ S).bind fun w S1 => allocW S1 w
  | .bin op a b, σ, S => (dE a σ S).bind fun x S1 => (dE b σ S1).bind fun y S2 => rOpt ((binW op S2 x y).map .p) S2
  | .neg a, σ, S => (dE a σ S).bind fun x S1 => match x with | .p (.int i) => .ok (.p (.int (-i))) S1 | _ => .bad
  | .cmp op a b, σ, S => (dE a σ S).bind fun x S1 => (dE b σ S1).bind fun y S2 => rOpt ((cmpW op S2 x y).map fun r => .p (.bl r)) S2
  | .cmp2 op op2 a b c, σ, S => (dE a σ S).bind fun x S1 => (dE b σ S1).bind fun y S2 => (rOpt (cmpW op S2 x y) S2).bind fun r S3 =>
      if r then (dE c σ S3).bind fun z S4 => rOpt ((cmpW op2 S4 y z).map fun r => .p (.bl r)) S4 else .ok (.p (.bl false)) S3
  | .and es, σ, S => dAnd es σ S
  | .or es, σ, S => dOr es σ S
  | .not a, σ, S => (dE a σ S).bind fun x S1 => rOpt ((truW S1 x).map fun b => .p (.bl (!b))) S1
  | .ite c a b, σ, S => (dT c σ S).bind fun r S1 => if r then dE a σ S1 else dE b σ S1
  | .ix a i, σ, S => (dE a σ S).bind fun x S1 => (dE i σ S1).bind fun y S2 => rOpt ((ixW S2 x y).map .p) S2
  | .sl a lo hi, σ, S => (dE a σ S).bind fun x S1 => (dEo lo σ S1).bind fun l S2 => (dEo hi σ S2).bind fun h S3 => rOpt ((slW S3 x l h).map .p) S3
  | .rev a, σ, S => (dE a σ S).bind fun x S1 => rOpt ((lView S1 x).map fun xs => .p (.lst xs.reverse)) S1
  | .call f es, σ, S => (dEs es σ S).bind fun ws S1 => callTrunc S1.length (cf f ws S1) fun w S2 => back S1.length w S2
  | .ncall f es, σ, S => (dEs es σ S).bind fun ws S1 => callTrunc S1.length (cf f ws S1) fun w S2 => backNew S1.length w S2
  | .callv i es, σ, S => match σ[i]? with
    | some (some (.p (.fn f))) => (dEs es σ S).bind fun ws S1 => callTrunc S1.length (cf f ws S1) fun w S2 => back S1.length w S2
    | _ => .bad
  | .f1 f a, σ, S => (dE a σ S).bind fun x S1 => rOpt ((f1W f S1 x).map .p) S1
  | .mn2 a b, σ, S => (dE a σ S).bind fun x S1 => (dE b σ S1).bind fun y S2 => rOpt ((min2 S2 x y).map .p) S2
  | .mx2 a b, σ, S => (dE a σ S).bind fun x S1 => (dE b σ S1).bind fun y S2 => rOpt ((max2 S2 x y).map .p) S2
  | .isi a T, σ, S => (dE a σ S).bind fun x S1 => rOpt ((isiW S1 x T).map fun r => .p (.bl r)) S1
  | .rg1 t a, σ, S => (dE a σ S).bind fun x S1 => rOpt (rgW t (.p (.int 0)) x) S1
  | .rg2 t a b, σ, S => (dE a σ S).bind fun x S1 => (dE b σ S1).bind fun y S2 => rOpt (rgW t x y) S2
  | .get1 a k, σ, S => (dE a σ S).bind fun x S1 => match dView S1 x with
    | none => .bad
    | some _ => (dE k σ S1).bind fun y S2 => rOpt (get1W S2 x y) S2
  | .get2 a k d, σ, S => (dE a σ S).bind fun x S1 => match dView S1 x with
    | none => .bad
    | some _ => (dE k σ S1).bind fun y S2 => (dE d σ S2).bind fun z S3 => rOpt (get2W S3 x y z) S3
  | .index a k, σ, S => (dE a σ S).bind fun x S1 => match tView x with
    | none => .bad
    | some xs => (dE k σ S1).bind fun y S2 => rOpt (idxW xs y) S2
  | .app a x, σ, S => (dE a σ S).bind fun o S1 => match o with
    | .loc k => (match S1[k]? with
      | some (.lst _) => (dE x σ S1).bind fun y S2 => appW S2 k y
      | _ => .bad)
    | _ => .bad
  | .lc elt tg it ifs own, σ, S => (dI it σ S).bind fun src S1 => (compGo tg (fun σ1 S2 => dConds ifs σ1 S2) (fun σ1 S2 => dE elt σ1 S2) (wipeF σ own) bigN src [] S1).bind fun ys S2 => .ok (.p (.lst ys)) S2
  | .dc k v tg it ifs own, σ, S => (dI it σ S).bind fun src S1 => (dcompGo tg (fun σ1 S2 => dConds ifs σ1 S2) (fun σ1 S2 => dE k σ1 S2) (fun σ1 S2 => dE v σ1 S2) (wipeF σ own) bigN src [] S1).bind fun kvs S2 => .ok (.p (.dk (kvs.map (·.1)) (kvs.map (·.2)))) S2
/-- as a test -/
def dT : Ex → Fr → Store → Res Bool
  | .not a, σ, S => (dT a σ S).bind fun b S1 => .ok (!b) S1
  | .and es, σ, S => dTAnd es σ S
  | .or es, σ, S => dTOr es σ S
  | .cmp op a b, σ, S => (dE a σ S).bind fun x S1 => (dE b σ S1).bind fun y S2 => rOpt (cmpW op S2 x y) S2
  | .cmp2 op op2 a b c, σ, S => (dE a σ S).bind fun x S1 => (dE b σ S1).bind fun y S2 => (rOpt (cmpW op S2 x y) S2).bind fun r S3 =>
      if r then (dE c σ S3).bind fun z S4 => rOpt (cmpW op2 S4 y z) S4 else .ok false S3
  | .var i, σ, S => match σ[i]? with | some (some w) => rOpt (truW S w) S | _ => .bad
  | .ix a i, σ, S => (dE a σ S).bind fun x S1 => (dE i σ S1).bind fun y S2 => rOpt ((ixW S2 x y).bind fun p => truW S2 (.p p)) S2
  | .call f es, σ, S => (dEs es σ S).bind fun ws S1 => (callTrunc S1.length (cf f ws S1) fun w S2 => back S1.length w S2).bind fun w S2 => rOpt (truW S2 w) S2
  | .f1 f a, σ, S => (dE a σ S).bind fun x S1 => rOpt ((f1W f S1 x).bind fun p => truW S1 (.p p)) S1
  | .isi a T, σ, S => (dE a σ S).bind fun x S1 => rOpt (isiW S1 x T) S1
  | _, _, _ => .bad
def dEs : Exs → Fr → Store → Res (List W)
  | .nil, _, S => .ok [] S
  | .cons e es, σ, S => (dE e σ S).bind fun w S1 => (dEs es σ S1).bind fun ws S2 => .ok (w :: ws) S2
def dEo : Exo → Fr → Store → Res (Option Int)
  | .none, _, S => .ok none S
  | .some e, σ, S => (dE e σ S).bind fun w S1 => match intOf w with | some i => .ok (some i) S1 | none => .bad
def dAnd : Exs → Fr → Store → Res W
  | .nil, _, _ => .bad
  | .cons e es, σ, S => match es with
    | .nil => dE e σ S
    | .cons _ _ => (dE e σ S).bind fun w S1 => match w with | .p (.bl b) => if b then dAnd es σ S1 else .ok (.p (.bl false)) S1 | _ => .bad
def dOr : Exs → Fr → Store → Res W
  | .nil, _, _ => .bad
  | .cons e es, σ, S => match es with
    | .nil => dE e σ S
    | .cons _ _ => (dE e σ S).bind fun w S1 => match w with | .p (.bl b) => if b then .ok (.p (.bl true)) S1 else dOr es σ S1 | _ => .bad
def dTAnd : Exs → Fr → Store → Res Bool
  | .nil, _, _ => .bad
  | .cons e es, σ, S => match es with
    | .nil => dT e σ S
    | .cons _ _ => (dT e σ S).bind fun b S1 => if b then dTAnd es σ S1 else .ok false S1
def dTOr : Exs → Fr → Store → Res Bool
  | .nil, _, _ => .bad
  | .cons e es, σ, S => match es with
    | .nil => dT e σ S
    | .cons _ _ => (dT e σ S).bind fun b S1 => if b then .ok true S1 else dTOr es σ S1
/-- the tests of a comprehension: none or one -/
def dConds : Exs → Fr → Store → Res Bool
  | .nil, _, S => .ok true S
  | .cons e es, σ, S => match es with
    | .nil => dT e σ S
    | .cons _ _ => .bad
def dI : Itr → Fr → Store → Res Src
  | .of e, σ, S => (dE e σ S).bind fun w S1 => rOpt (srcOf S1 w) S1
  | .range1 a, σ, S => (dE a σ S).bind fun x S1 => match x with | .p (.int j) => if -4611686018427387904 ≤ j ∧ j < 4611686018427387904 then .ok (.rng 0 j.toNat) S1 else .bad | _ => .bad
  | .range2 a b, σ, S => (dE a σ S).bind fun x S1 => (dE b σ S1).bind fun y S2 => match x, y with
      | .p (.int i), .p (.int j) => if -4611686018427387904 ≤ i ∧ i < 4611686018427387904 ∧ -4611686018427387904 ≤ j ∧ j < 4611686018427387904 then .ok (.rng i (j - i).toNat) S2 else .bad
      | _, _ => .bad
  | .enm e, σ, S => (dE e σ S).bind fun w S1 => match w with | .p (.lst xs) => .ok (.enm 0 xs) S1 | .p (.tup xs) => .ok (.enm 0 xs) S1 | _ => .bad
  | .zip a b, σ, S => (dE a σ S).bind fun x S1 => (dE b σ S1).bind fun y S2 => match x, y with
      | .p (.lst xs), .p (.lst ys) => .ok (.zip xs ys) S2
      | .p (.tup xs), .p (.tup ys) => .ok (.zip xs ys) S2
      | _, _ => .bad
end
def setAll : List Nat → List W → Fr → Option Fr
  | [], [], σ => some σ
  | i :: is, w :: ws, σ => if i < σ.length then setAll is ws (σ.set i (some w)) else none
  | _, _, _ => none
def setW (S : Store) (o i v : W) : Option Store :=
  match o, v with
  | .loc k, .p x => match S[k]? with
    | some (.lst xs) => (match i with | .p (.int z) => (ixOf xs.length z).map fun j => S.set k (.lst (xs.set j x)) | _ => none)
    | some (.dk kvs) => (match i with | .p b => (match toKk b with | some j => if kvs.length < line then some (S.set k (.dk (dPut kvs j x))) else none | none => none) | _ => none)
    | none => none
  | _, _ => none
def augOk : Bop → Bool
  | .add | .sub => true
  | _ => false
def augI : Bop → Int → Int → Int
  | .sub, a, b => a - b
  | _, a, b => a + b
mutual
def dS : St → Fr → Store → Res (Fl × Fr)
  | .asg t e, σ, S => (dE cf e σ S).bind fun w S1 => rOpt ((asgT t w σ).map fun σ1 => (.nx, σ1)) S1
  | .par is es, σ, S => (dEs cf es σ S).bind fun ws S1 => rOpt ((setAll is ws σ).map fun σ1 => (.nx, σ1)) S1
  | .setI o i e, σ, S => (dE cf e σ S).bind fun v S1 => (dE cf o σ S1).bind fun a S2 => (dE cf i σ S2).bind fun k S3 => match setW S3 a k v with
      | some S4 => .ok (.nx, σ) S4
      | none => .bad
  | .aug i op e, σ, S => match σ[i]? with
    | some (some (.p (.int a))) => if augOk op then (dE cf e σ S).bind fun w S1 => (match w with
      | .p (.int b) => .ok (.nx, σ.set i (some (.p (.int (augI op a b))))) S1
      | _ => .bad) else .bad
    | _ => .bad
  | .expr e, σ, S => (dE cf e σ S).bind fun _ S1 => .ok (.nx, σ) S1
  | .ret e, σ, S => (dE cf e σ S).bind fun w S1 => .ok (.rt w, σ) S1
  | .retN, σ, S => .ok (.rt (.p .non), σ) S
  | .pass, σ, S => .ok (.nx, σ) S
  | .brk, σ, S => .ok (.bk, σ) S
  | .cont, σ, S => .ok (.ct, σ) S
  | .ifS c a b, σ, S => (dT cf c σ S).bind fun r S1 => if r then dSs a σ S1 else dSs b σ S1
  | .forS t it b, σ, S => (dI cf it σ S).bind fun src S1 => forGo t (fun σ1 S2 => dSs b σ1 S2) bigN src σ S1
  | .whileS c b, σ, S => whileGo (fun σ1 S2 => dT cf c σ1 S2) (fun σ1 S2 => dSs b σ1 S2) bigN σ S
  | .raise c, _, S => .ex c [] S
def dSs : Sts → Fr → Store → Res (Fl × Fr)
  | .nil, σ, S => .ok (.nx, σ) S
  | .cons s ss, σ, S => (dS s σ S).bind fun r S1 => match r with
    | (.nx, σ1) => dSs ss σ1 S1
    | (f, σ1) => .ok (f, σ1) S1
end
end
/-- a def: how many names, how many parameters, its body -/
structure Def where
  names : Nat
  pars : Nat
  body : Sts
def startF (d : Def) (ws : List W) : Fr := ws.map some ++ List.replicate (d.names - d.pars) none
def callN (tab : List Def) : Nat → CallF
  | 0, _, _, _ => .bad
  | n + 1, f, ws, S => match tab[f]? with
    | none => .bad
    | some d => if ws.length = d.pars then (dSs (callN tab n) d.body (startF d ws) S).bind fun r S1 => (match r with
        | (.nx, _) => .ok (.p .non) S1
        | (.rt w, _) => .ok w S1
        | _ => .bad) else .bad
end Tp

/-! What the data are in the machine's heap, and how it grows. -/
namespace Tp
open PySem PySem.Spec PyProof.Rows L2
def toS (x : Nm) : Str := ⟨x.toArray⟩
def kS : Kk → Key
  | .inl i => .inl i
  | .inr x => .inr (toS x)
/-- what the module holds: its written part, its names, where its defs and classes stand -/
structure Gm where
  K : PySem.W.Frag
  mg : Str → Option Value
  fa : Nat → Addr
  ca : Nat → Addr
/-- a tuple of which it is known that nothing hangs on it -/
def TupD (K : PySem.W.Frag) (H : Hp) (a : Addr) (vs : List V) : Prop :=
  (∃ o : Obj, H a = some (.frz o (.tup vs)) ∧ o.dict = none) ∨
    ∃ (o : Obj) (its : Array Value) (n : Nat), K.lookup a = some o ∧ o.cls = .type "tuple" ∧ o.dict = none ∧ o.data = .seq its n ∧ its.size ≤ sizeLine ∧ Vals vs its.toList
theorem TupD.sq {K : PySem.W.Frag} {H : Hp} {a : Addr} {vs : List V} (h : TupD K H a vs) : SqT K H a vs := by
  rcases h with ⟨o, h, _⟩ | ⟨o, its, n, h1, h2, _, h3, h4, h5⟩
  · exact .inl (.inr ⟨o, h⟩)
  · exact .inr ⟨o, its, n, h1, h2, h3, h4, h5⟩
mutual
def RP (Γ : Gm) (H : Hp) (F : Addr → Prop) : P → V → Prop
  | .non, v => v = .non
  | .bl b, v => v = .bl b
  | .int i, v => v = .int i
  | .str x, v => v = .str (toS x)
  | .tup xs, v => ∃ a vs, v = .ref a ∧ TupD Γ.K H a vs ∧ RPs Γ H F xs vs
  | .lst xs, v => ∃ a vs, v = .ref a ∧ H a = some (.lst vs) ∧ ¬ F a ∧ RPs Γ H F xs vs
  | .dk ks xs, v => ∃ a us, v = .ref a ∧ H a = some (.dK us) ∧ ¬ F a ∧ us.map (·.1) = ks.map kS ∧ RPs Γ H F xs (us.map (·.2))
  | .fn i, v => v = .ref (Γ.fa i)
def RPs (Γ : Gm) (H : Hp) (F : Addr → Prop) : List P → List V → Prop
  | [], vs => vs = []
  | x :: xs, vs => ∃ v r, vs = v :: r ∧ RP Γ H F x v ∧ RPs Γ H F xs r
end
/-- what must not be read as data: the cells, and what is reserved -/
def fb (α ψ : List Addr) : Addr → Prop := fun a => a ∈ α ∨ a ∈ ψ
def RSum (Γ : Gm) (H : Hp) (α ψ : List Addr) : Sum P Nat → V → Prop
  | .inl x, v => RP Γ H (fb α ψ) x v
  | .inr k, v => ∃ a, v = .ref a ∧ α[k]? = some a
def RSums (Γ : Gm) (H : Hp) (α ψ : List Addr) : List (Sum P Nat) → List V → Prop
  | [], vs => vs = []
  | x :: xs, vs => ∃ v r, vs = v :: r ∧ RSum Γ H α ψ x v ∧ RSums Γ H α ψ xs r
def ScrAt (Γ : Gm) (H : Hp) (a : Addr) (ns : List Int) : Prop :=
  (∃ o, H a = some (.frz o (.lst (ns.map V.int)))) ∨
    ∃ (o : Obj) (its : Array Value) (n : Nat), Γ.K.lookup a = some o ∧ o.cls = .type "list" ∧ o.dict = none ∧ o.data = .seq its n ∧ its.size ≤ sizeLine ∧ Vals (ns.map V.int) its.toList
def RW (Γ : Gm) (H : Hp) (α ψ : List Addr) : W → V → Prop
  | .p x, v => RP Γ H (fb α ψ) x v
  | .loc k, v => ∃ a, v = .ref a ∧ α[k]? = some a
  | .tl ws, v => ∃ a vs, v = .ref a ∧ TupD Γ.K H a vs ∧ RSums Γ H α ψ ws vs
  | .pr xs, v => ∃ a vs, v = .ref a ∧ SqT Γ.K H a vs ∧ RPs Γ H (fb α ψ) xs vs
  | .scr ns, v => ∃ a, v = .ref a ∧ ScrAt Γ H a ns
def RWs (Γ : Gm) (H : Hp) (α ψ : List Addr) : List W → List V → Prop
  | [], vs => vs = []
  | x :: xs, vs => ∃ v r, vs = v :: r ∧ RW Γ H α ψ x v ∧ RWs Γ H α ψ xs r
def RC (Γ : Gm) (H : Hp) (F : Addr → Prop) : Cell → HO → Prop
  | .lst xs, o => ∃ vs, o = .lst vs ∧ RPs Γ H F xs vs
  | .dk kvs, o => ∃ us, o = .dK us ∧ us.map (·.1) = kvs.map (fun kv => kS kv.1) ∧ RPs Γ H F (kvs.map (·.2)) (us.map (·.2))
structure RS (Γ : Gm) (H : Hp) (α ψ : List Addr) (S : Store) : Prop where
  len : α.length = S.length
  nd : α.Nodup
  cell : ∀ (k : Nat) (a : Addr) (c : Cell), α[k]? = some a → S[k]? = some c → ∃ o, H a = some o ∧ RC Γ H (fb α ψ) c o
  dis : ∀ a, a ∈ α → a ∉ ψ
  kn : ∀ b, b ∈ ψ → H b ≠ none
def RF (Γ : Gm) (H : Hp) (α ψ : List Addr) (σw : Fr) (σ : L2.St) : Prop :=
  σw.length = σ.length ∧ ∀ (i : Nat) (w : W), σw[i]? = some (some w) → ∃ v, σ[i]? = some (some v) ∧ RW Γ H α ψ w v
def isCellO : HO → Bool
  | .lst _ => true
  | .dK _ => true
  | _ => false
def isTbl : HO → Bool
  | .tbl _ => true
  | _ => false
structure Ext (α : List Addr) (H : Hp) (α' : List Addr) (H' : Hp) : Prop where
  pre : ∃ β, α' = α ++ β ∧ ∀ b ∈ β, H b = none
  keep : ∀ a o, H a = some o → (a ∉ α ∨ isCellO o = false) → isTbl o = false → H' a = some o
  dom : ∀ a, H' a = none → H a = none
theorem Ext.refl {α : List Addr} {H : Hp} : Ext α H α H := ⟨⟨[], by simp⟩, fun _ _ h _ _ => h, fun _ h => h⟩
theorem Ext.trans {α α1 α2 : List Addr} {H H1 H2 : Hp} (x : Ext α H α1 H1) (y : Ext α1 H1 α2 H2) : Ext α H α2 H2 := by
  obtain ⟨β, e1, f1⟩ := x.pre
  obtain ⟨γ, e2, f2⟩ := y.pre
  refine ⟨⟨β ++ γ, by rw [e2, e1, List.append_assoc], fun b hb => ?_⟩, fun a o h c t => ?_, fun a h => x.dom a (y.dom a h)⟩
  · rcases List.mem_append.mp hb with h | h
    · exact f1 b h
    · exact x.dom b (f2 b h)
  · refine y.keep a o (x.keep a o h c t) ?_ t
    rcases c with c | c
    · refine .inl fun q => ?_
      rw [e1] at q
      rcases List.mem_append.mp q with q | q
      · exact c q
      · rw [f1 a q] at h; cases h
    · exact .inr c
theorem Ext.sub {α α' : List Addr} {H H' : Hp} (x : Ext α H α' H') {a : Addr} {o : HO} (h : H a = some o) (hn : a ∉ α) : a ∉ α' := by
  obtain ⟨β, e, f⟩ := x.pre
  intro q
  rw [e] at q
  rcases List.mem_append.mp q with q | q
  · exact hn q
  · rw [f a q] at h; cases h
theorem Ext.at {α α' : List Addr} {H H' : Hp} (x : Ext α H α' H') {k : Nat} {a : Addr} (h : α[k]? = some a) : α'[k]? = some a := by
  obtain ⟨β, e, f⟩ := x.pre
  rw [e, List.getElem?_append_left (by have := (List.getElem?_eq_some_iff.mp h).1; exact this)]
  exact h
/-- a new object -/
theorem Ext.new {α : List Addr} {H : Hp} {p : Addr} {o : HO} (hp : H p = none) : Ext α H α (upd H p o) :=
  ⟨⟨[], by simp⟩, fun a u h _ _ => by rw [upd_ne (ne_of_none h hp)]; exact h, fun a h => by
    by_cases e : a = p
    · rw [e]; exact hp
    · rw [upd_ne e] at h; exact h⟩
/-- a new cell -/
theorem Ext.cell {α : List Addr} {H : Hp} {p : Addr} {o : HO} (hp : H p = none) : Ext α H (α ++ [p]) (upd H p o) :=
  ⟨⟨[p], rfl, fun b hb => by simp at hb; rw [hb]; exact hp⟩, (Ext.new hp (α := α)).keep, (Ext.new hp (α := α)).dom⟩
/-- a cell is changed -/
theorem Ext.set {α : List Addr} {H : Hp} {a : Addr} {o u : HO} (h : H a = some o) (hc : isCellO o = true) (ha : a ∈ α) : Ext α H α (upd H a u) :=
  ⟨⟨[], by simp⟩, fun b q hb c _ => by
    by_cases e : b = a
    · subst e
      rw [h] at hb
      cases hb
      rcases c with c | c
      · exact absurd ha c
      · rw [hc] at c; cases c
    · rw [upd_ne e]; exact hb, fun b q => by
    by_cases e : b = a
    · rw [e, upd_same] at q; cases q
    · rw [upd_ne e] at q; exact q⟩
theorem SqT.ext {Γ : Gm} {α α' : List Addr} {H H' : Hp} {a : Addr} {vs : List V} (h : SqT Γ.K H a vs) (x : Ext α H α' H') : SqT Γ.K H' a vs := by
  rcases h with (h | ⟨o, h⟩) | h
  · exact .inl (.inl (x.keep _ _ h (.inr rfl) rfl))
  · exact .inl (.inr ⟨o, x.keep _ _ h (.inr rfl) rfl⟩)
  · exact .inr h
theorem TupD.ext {Γ : Gm} {α α' : List Addr} {H H' : Hp} {a : Addr} {vs : List V} (h : TupD Γ.K H a vs) (x : Ext α H α' H') : TupD Γ.K H' a vs := by
  rcases h with ⟨o, h, d⟩ | h
  · exact .inl ⟨o, x.keep _ _ h (.inr rfl) rfl, d⟩
  · exact .inr h
mutual
theorem RP.mono {Γ : Gm} {H H' : Hp} {F F' : Addr → Prop} (hk : ∀ a o, H a = some o → (¬ F a ∨ isCellO o = false) → isTbl o = false → H' a = some o) (hf : ∀ a o, H a = some o → ¬ F a → ¬ F' a) :
    ∀ (x : P) (v : V), RP Γ H F x v → RP Γ H' F' x v
  | .non, v, h => h
  | .bl b, v, h => h
  | .int i, v, h => h
  | .str x, v, h => h
  | .fn i, v, h => h
  | .tup xs, v, h => by
    obtain ⟨a, vs, e, q, r⟩ := h
    refine ⟨a, vs, e, ?_, RPs.mono hk hf xs vs r⟩
    rcases q with ⟨o, q, d⟩ | q
    · exact .inl ⟨o, hk _ _ q (.inr rfl) rfl, d⟩
    · exact .inr q
  | .lst xs, v, h => by
    obtain ⟨a, vs, e, q, n, r⟩ := h
    exact ⟨a, vs, e, hk _ _ q (.inl n) rfl, hf _ _ q n, RPs.mono hk hf xs vs r⟩
  | .dk ks xs, v, h => by
    obtain ⟨a, us, e, q, n, k, r⟩ := h
    exact ⟨a, us, e, hk _ _ q (.inl n) rfl, hf _ _ q n, k, RPs.mono hk hf xs _ r⟩
theorem RPs.mono {Γ : Gm} {H H' : Hp} {F F' : Addr → Prop} (hk : ∀ a o, H a = some o → (¬ F a ∨ isCellO o = false) → isTbl o = false → H' a = some o) (hf : ∀ a o, H a = some o → ¬ F a → ¬ F' a) :
    ∀ (xs : List P) (vs : List V), RPs Γ H F xs vs → RPs Γ H' F' xs vs
  | [], vs, h => h
  | x :: xs, vs, h => by
    obtain ⟨v, r, e, h1, h2⟩ := h
    exact ⟨v, r, e, RP.mono hk hf x v h1, RPs.mono hk hf xs r h2⟩
end
section
variable {Γ : Gm} {α α' ψ : List Addr} {H H' : Hp}
theorem fb_keep (x : Ext α H α' H') (a : Addr) (o : HO) (h : H a = some o) (c : ¬ fb α ψ a ∨ isCellO o = false) (t : isTbl o = false) : H' a = some o :=
  x.keep a o h (c.elim (fun n => .inl fun q => n (.inl q)) .inr) t
theorem fb_sub (x : Ext α H α' H') (a : Addr) (o : HO) (h : H a = some o) (n : ¬ fb α ψ a) : ¬ fb α' ψ a := fun q => q.elim (x.sub h fun z => n (.inl z)) fun z => n (.inr z)
theorem RP.ext (x : Ext α H α' H') {p : P} {v : V} (h : RP Γ H (fb α ψ) p v) : RP Γ H' (fb α' ψ) p v := RP.mono (fb_keep x) (fb_sub x) p v h
theorem RPs.ext (x : Ext α H α' H') {p : List P} {v : List V} (h : RPs Γ H (fb α ψ) p v) : RPs Γ H' (fb α' ψ) p v := RPs.mono (fb_keep x) (fb_sub x) p v h
theorem RP.sub {F F' : Addr → Prop} (hf : ∀ a, F' a → F a) {p : P} {v : V} (h : RP Γ H F p v) : RP Γ H F' p v := RP.mono (fun _ _ h _ _ => h) (fun a _ _ n q => n (hf a q)) p v h
theorem RPs.sub {F F' : Addr → Prop} (hf : ∀ a, F' a → F a) {p : List P} {v : List V} (h : RPs Γ H F p v) : RPs Γ H F' p v := RPs.mono (fun _ _ h _ _ => h) (fun a _ _ n q => n (hf a q)) p v h
theorem RSum.ext (x : Ext α H α' H') : ∀ {w : Sum P Nat} {v : V}, RSum Γ H α ψ w v → RSum Γ H' α' ψ w v
  | .inl _, _, h => RP.ext x h
  | .inr _, _, ⟨a, e, h⟩ => ⟨a, e, x.at h⟩
theorem RSums.ext (x : Ext α H α' H') : ∀ {ws : List (Sum P Nat)} {vs : List V}, RSums Γ H α ψ ws vs → RSums Γ H' α' ψ ws vs
  | [], _, h => h
  | _ :: _, _, ⟨v, r, e, h1, h2⟩ => ⟨v, r, e, RSum.ext x h1, RSums.ext x h2⟩
theorem RW.ext (x : Ext α H α' H') : ∀ {w : W} {v : V}, RW Γ H α ψ w v → RW Γ H' α' ψ w v
  | .p _, _, h => RP.ext x h
  | .loc _, _, ⟨a, e, h⟩ => ⟨a, e, x.at h⟩
  | .tl _, _, ⟨a, vs, e, h, r⟩ => ⟨a, vs, e, TupD.ext h x, RSums.ext x r⟩
  | .pr _, _, ⟨a, vs, e, h, r⟩ => ⟨a, vs, e, SqT.ext h x, RPs.ext x r⟩
  | .scr _, _, ⟨a, e, h⟩ => ⟨a, e, h.elim (fun ⟨o, q⟩ => .inl ⟨o, x.keep _ _ q (.inr rfl) rfl⟩) .inr⟩
theorem RWs.ext (x : Ext α H α' H') : ∀ {ws : List W} {vs : List V}, RWs Γ H α ψ ws vs → RWs Γ H' α' ψ ws vs
  | [], _, h => h
  | _ :: _, _, ⟨v, r, e, h1, h2⟩ => ⟨v, r, e, RW.ext x h1, RWs.ext x h2⟩
theorem RF.ext (x : Ext α H α' H') {σw : Fr} {σ : L2.St} (h : RF Γ H α ψ σw σ) : RF Γ H' α' ψ σw σ :=
  ⟨h.1, fun i w e => let ⟨v, e1, r⟩ := h.2 i w e; ⟨v, e1, r.ext x⟩⟩
theorem RF.set {σw : Fr} {σ : L2.St} (h : RF Γ H α ψ σw σ) {i : Nat} {w : W} {v : V} (r : RW Γ H α ψ w v) : RF Γ H α ψ (σw.set i (some w)) (σ.set i (some v)) := by
  refine ⟨by simp [h.1], fun j u e => ?_⟩
  by_cases hj : i = j
  · subst hj
    by_cases hl : i < σw.length
    · rw [List.getElem?_set_self hl] at e
      cases e
      exact ⟨v, List.getElem?_set_self (by rw [← h.1]; exact hl), r⟩
    · rw [List.getElem?_eq_none (by simpa using hl)] at e
      cases e
  · rw [List.getElem?_set_ne hj] at e
    obtain ⟨y, e1, q⟩ := h.2 j u e
    exact ⟨y, by rw [List.getElem?_set_ne hj]; exact e1, q⟩
theorem RF.clear {σw : Fr} {σ : L2.St} (h : RF Γ H α ψ σw σ) {i : Nat} : RF Γ H α ψ (σw.set i none) (σ.set i none) := by
  refine ⟨by simp [h.1], fun j u e => ?_⟩
  by_cases hj : i = j
  · subst hj
    by_cases hl : i < σw.length
    · rw [List.getElem?_set_self hl] at e
      cases e
    · rw [List.getElem?_eq_none (by simpa using hl)] at e
      cases e
  · rw [List.getElem?_set_ne hj] at e
    obtain ⟨y, e1, q⟩ := h.2 j u e
    exact ⟨y, by rw [List.getElem?_set_ne hj]; exact e1, q⟩
theorem RF.wipe {σw : Fr} {σ : L2.St} (h : RF Γ H α ψ σw σ) : ∀ vs : List Nat, RF Γ H α ψ (wipeF σw vs) (L2.wipe σ vs)
  | [] => h
  | v :: vs => (RF.wipe h vs).clear
theorem RC.mono {F F' : Addr → Prop} (hk : ∀ a o, H a = some o → (¬ F a ∨ isCellO o = false) → isTbl o = false → H' a = some o) (hf : ∀ a o, H a = some o → ¬ F a → ¬ F' a) : ∀ {c : Cell} {o : HO}, RC Γ H F c o → RC Γ H' F' c o
  | .lst _, _, ⟨vs, e, r⟩ => ⟨vs, e, RPs.mono hk hf _ _ r⟩
  | .dk _, _, ⟨us, e, k, r⟩ => ⟨us, e, k, RPs.mono hk hf _ _ r⟩
theorem RC.cellO {F : Addr → Prop} : ∀ {c : Cell} {o : HO}, RC Γ H F c o → isCellO o = true
  | .lst _, _, ⟨_, e, _⟩ => by rw [e]; rfl
  | .dk _, _, ⟨_, e, _⟩ => by rw [e]; rfl
/-- a cell's address is known -/
theorem RS.known {S : Store} (R : RS Γ H α ψ S) {a : Addr} (h : a ∈ α) : ∃ o, H a = some o ∧ isCellO o = true := by
  obtain ⟨k, hk, e⟩ := List.getElem_of_mem h
  have hk' : k < S.length := by rw [← R.len]; exact hk
  obtain ⟨o, h1, h2⟩ := R.cell k a S[k] (by rw [List.getElem?_eq_getElem hk, e]) (List.getElem?_eq_getElem hk')
  exact ⟨o, h1, h2.cellO⟩
/-- where the cells are as they were -/
theorem RS.keep {S : Store} (R : RS Γ H α ψ S) (x : Ext α H α H') (hc : ∀ a ∈ α, H' a = H a) : RS Γ H' α ψ S :=
  ⟨R.len, R.nd, fun k a c h1 h2 => by
    obtain ⟨o, e, r⟩ := R.cell k a c h1 h2
    exact ⟨o, by rw [hc a (List.mem_of_getElem? h1)]; exact e, RC.mono (fb_keep x) (fb_sub x) r⟩, R.dis, fun b hb q => R.kn b hb (x.dom b q)⟩
theorem RS.new {S : Store} (R : RS Γ H α ψ S) {p : Addr} {o : HO} (hp : H p = none) : RS Γ (upd H p o) α ψ S :=
  R.keep (Ext.new hp) fun a ha => upd_ne fun e => by
    obtain ⟨u, h, _⟩ := R.known ha
    rw [e, hp] at h; cases h
/-- a new cell -/
theorem RS.push {S : Store} (R : RS Γ H α ψ S) {p : Addr} {o : HO} {c : Cell} (hp : H p = none) (rc : RC Γ H (fb α ψ) c o) : RS Γ (upd H p o) (α ++ [p]) ψ (S ++ [c]) := by
  have x : Ext α H (α ++ [p]) (upd H p o) := Ext.cell hp
  have np : p ∉ α := fun h => by
    obtain ⟨u, q, _⟩ := R.known h
    rw [hp] at q; cases q
  refine ⟨by simp [R.len], List.nodup_append.mpr ⟨R.nd, by simp, fun a ha b hb => by simp at hb; rw [hb]; intro e; exact np (e ▸ ha)⟩, fun k a d h1 h2 => ?_, fun a ha => ?_, fun b hb q => R.kn b hb (x.dom b q)⟩
  · by_cases hk : k < α.length
    · rw [List.getElem?_append_left hk] at h1
      rw [List.getElem?_append_left (by rw [← R.len]; exact hk)] at h2
      obtain ⟨u, e, r⟩ := R.cell k a d h1 h2
      exact ⟨u, by rw [upd_ne (ne_of_none e hp)]; exact e, RC.mono (fb_keep x) (fb_sub x) r⟩
    · have hk2 : k = α.length := by
        have := (List.getElem?_eq_some_iff.mp h1).1
        simp at this
        omega
      subst hk2
      have e1 : a = p := by simpa using h1.symm
      have e2 : d = c := by
        rw [R.len] at h2
        simpa using h2.symm
      subst e1 e2
      exact ⟨o, upd_same, RC.mono (fb_keep x) (fb_sub x) rc⟩
  · rcases List.mem_append.mp ha with h | h
    · exact R.dis a h
    · simp at h
      rw [h]
      intro q
      exact R.kn p q hp
/-- a cell is changed -/
theorem RS.set {S : Store} (R : RS Γ H α ψ S) {k : Nat} {a : Addr} {o u : HO} {c : Cell} (hk : α[k]? = some a) (h : H a = some o) (hc : isCellO o = true) (rc : RC Γ H (fb α ψ) c u) : RS Γ (upd H a u) α ψ (S.set k c) := by
  have ha : a ∈ α := List.mem_of_getElem? hk
  have x : Ext α H α (upd H a u) := Ext.set h hc ha
  refine ⟨by simp [R.len], R.nd, fun j b d h1 h2 => ?_, R.dis, fun b hb q => R.kn b hb (x.dom b q)⟩
  by_cases hj : k = j
  · subst hj
    rw [hk] at h1
    cases h1
    have hl : k < S.length := by rw [← R.len]; exact (List.getElem?_eq_some_iff.mp hk).1
    rw [List.getElem?_set_self hl] at h2
    cases h2
    exact ⟨u, upd_same, RC.mono (fb_keep x) (fb_sub x) rc⟩
  · rw [List.getElem?_set_ne hj] at h2
    obtain ⟨w, e, r⟩ := R.cell j b d h1 h2
    have nb : b ≠ a := fun e => hj (by
      have h3 := (List.getElem?_eq_some_iff.mp hk)
      have h4 := (List.getElem?_eq_some_iff.mp h1)
      exact (List.getElem_inj R.nd).mp (h3.2.trans (e ▸ h4.2.symm)))
    exact ⟨w, by rw [upd_ne nb]; exact e, RC.mono (fb_keep x) (fb_sub x) r⟩
theorem RPs.length : ∀ {F : Addr → Prop} {xs : List P} {vs : List V}, RPs Γ H F xs vs → xs.length = vs.length
  | _, [], vs, h => by
    have e : vs = [] := h
    rw [e]; rfl
  | _, _ :: _, _, ⟨_, _, e, _, h⟩ => by rw [e, List.length_cons, List.length_cons, RPs.length h]
theorem RPs.get : ∀ {F : Addr → Prop} {xs : List P} {vs : List V} {i : Nat} {x : P}, RPs Γ H F xs vs → xs[i]? = some x → ∃ v, vs[i]? = some v ∧ RP Γ H F x v
  | _, [], _, _, _, _, e => by simp at e
  | _, _ :: _, _, 0, _, ⟨v, r, e, h, _⟩, q => by
    simp at q; subst q
    exact ⟨v, by rw [e]; rfl, h⟩
  | _, _ :: _, _, i + 1, x, ⟨v, r, e, _, h⟩, q => by
    obtain ⟨u, a, b⟩ := RPs.get (i := i) (x := x) h (by simpa using q)
    exact ⟨u, by rw [e]; simpa using a, b⟩
theorem RPs.append : ∀ {F : Addr → Prop} {xs ys : List P} {vs us : List V}, RPs Γ H F xs vs → RPs Γ H F ys us → RPs Γ H F (xs ++ ys) (vs ++ us)
  | _, [], _, _, _, h, g => by rw [show _ = [] from h]; exact g
  | _, _ :: _, _, _, _, ⟨v, r, e, h, t⟩, g => ⟨v, r ++ _, by rw [e]; rfl, h, RPs.append t g⟩
theorem RPs.drop : ∀ {F : Addr → Prop} {xs : List P} {vs : List V} (n : Nat), RPs Γ H F xs vs → RPs Γ H F (xs.drop n) (vs.drop n)
  | _, _, _, 0, h => h
  | _, [], _, _ + 1, h => by rw [show _ = [] from h]; rfl
  | _, _ :: _, _, n + 1, ⟨v, r, e, _, h⟩ => by rw [e]; exact RPs.drop n h
theorem RPs.take : ∀ {F : Addr → Prop} {xs : List P} {vs : List V} (n : Nat), RPs Γ H F xs vs → RPs Γ H F (xs.take n) (vs.take n)
  | _, _, _, 0, h => rfl
  | _, [], _, _ + 1, h => by rw [show _ = [] from h]; rfl
  | _, _ :: _, _, n + 1, ⟨v, r, e, g, h⟩ => by rw [e]; exact ⟨v, r.take n, rfl, g, RPs.take n h⟩
theorem RPs.set : ∀ {F : Addr → Prop} {xs : List P} {vs : List V} (n : Nat) {x : P} {v : V}, RPs Γ H F xs vs → RP Γ H F x v → RPs Γ H F (xs.set n x) (vs.set n v)
  | _, [], _, _, _, _, h, _ => by rw [show _ = [] from h]; rfl
  | _, _ :: _, _, 0, _, v, ⟨_, r, e, _, h⟩, g => by rw [e]; exact ⟨v, r, rfl, g, h⟩
  | _, _ :: _, _, n + 1, _, _, ⟨u, r, e, k, h⟩, g => by rw [e]; exact ⟨u, _, rfl, k, RPs.set n h g⟩
theorem RPs.rev : ∀ {F : Addr → Prop} {xs : List P} {vs : List V}, RPs Γ H F xs vs → RPs Γ H F xs.reverse vs.reverse
  | _, [], _, h => by rw [show _ = [] from h]; rfl
  | _, _ :: _, _, ⟨v, r, e, g, h⟩ => by rw [e, List.reverse_cons, List.reverse_cons]; exact RPs.append (RPs.rev h) ⟨v, [], rfl, g, rfl⟩
theorem RPs.repL : ∀ {F : Addr → Prop} {xs : List P} {vs : List V} (n : Nat), RPs Γ H F xs vs → RPs Γ H F (repL xs n) (List.replicate n vs).flatten
  | _, _, _, 0, h => rfl
  | _, _, _, n + 1, h => by rw [List.replicate_succ, List.flatten_cons]; exact RPs.append h (RPs.repL n h)
theorem RPs.nil {F : Addr → Prop} : RPs Γ H F [] [] := rfl
theorem RPs.cons {F : Addr → Prop} {x : P} {xs : List P} {v : V} {vs : List V} (h : RP Γ H F x v) (t : RPs Γ H F xs vs) : RPs Γ H F (x :: xs) (v :: vs) := ⟨v, vs, rfl, h, t⟩
theorem RPs.one {F : Addr → Prop} {x : P} {v : V} (h : RP Γ H F x v) : RPs Γ H F [x] [v] := ⟨v, [], rfl, h, rfl⟩
theorem RPs.ints : ∀ {F : Addr → Prop} {is : List Int}, RPs Γ H F (is.map P.int) (is.map V.int)
  | _, [] => rfl
  | _, i :: is => ⟨.int i, _, rfl, rfl, RPs.ints⟩
theorem RPs.strs : ∀ {F : Addr → Prop} {is : List Nm}, RPs Γ H F (is.map P.str) (is.map fun x => V.str (toS x))
  | _, [] => rfl
  | _, i :: is => ⟨.str (toS i), _, rfl, rfl, RPs.strs⟩
theorem RWs.length : ∀ {xs : List W} {vs : List V}, RWs Γ H α ψ xs vs → xs.length = vs.length
  | [], vs, h => by
    have e : vs = [] := h
    rw [e]; rfl
  | _ :: _, _, ⟨_, _, e, _, h⟩ => by rw [e, List.length_cons, List.length_cons, RWs.length h]
theorem RWs.get : ∀ {xs : List W} {vs : List V} {i : Nat} {x : W}, RWs Γ H α ψ xs vs → xs[i]? = some x → ∃ v, vs[i]? = some v ∧ RW Γ H α ψ x v
  | [], _, _, _, _, e => by simp at e
  | _ :: _, _, 0, _, ⟨v, r, e, h, _⟩, q => by
    simp at q; subst q
    exact ⟨v, by rw [e]; rfl, h⟩
  | _ :: _, _, i + 1, x, ⟨v, r, e, _, h⟩, q => by
    obtain ⟨u, a, b⟩ := RWs.get (i := i) (x := x) h (by simpa using q)
    exact ⟨u, by rw [e]; simpa using a, b⟩
end
end Tp

/-! Judgements: what must hold ahead of a piece of syntax; the interpreter's answers as such. -/
namespace Tp
open PySem PySem.Spec PyProof.Rows L2
section
variable {X : Cx}
def GE (X : Cx) (e : Expr) : TE := fun σ H Q => ∀ (pins : List (Addr × Obj)) (s : Shared), Inv X pins σ H s → wpAny (model X.prog X.w) X.A (eval e X.env) (EP X pins σ Q) X.xe s
def GT (X : Cx) (e : Expr) : TT := fun σ H Q => ∀ (pins : List (Addr × Obj)) (s : Shared), Inv X pins σ H s → wpAny (model X.prog X.w) X.A (isTrue e X.env (eval e X.env)) (TP X pins σ Q) X.xe s
def GA (X : Cx) (es : List Expr) : TA := fun σ H Q => ∀ (pos : Pos) (pins : List (Addr × Obj)) (s : Shared), Inv X pins σ H s → wpAny (model X.prog X.w) X.A (spliced (backTo pos (starEach es X.env))) (AP X pins σ Q) X.xe s
def GS (X : Cx) (st : Stmt) : TS := fun D σ H => ∀ (pins : List (Addr × Obj)) (s : Shared), Inv X pins σ H s → wpAny (model X.prog X.w) X.A (exec st X.env) (SP X pins D) X.xe s
def GSs (X : Cx) (st : List Stmt) : TS := fun D σ H => ∀ (pins : List (Addr × Obj)) (s : Shared), Inv X pins σ H s → wpAny (model X.prog X.w) X.A (execs st X.env) (SP X pins D) X.xe s
def GI (X : Cx) (tg it : Expr) : TI := fun σ H R => ∀ (pins : List (Addr × Obj)) (s : Shared), Inv X pins σ H s →
  wpAny (model X.prog X.w) X.A (eval it X.env) (fun v s1 => wpAny (model X.prog X.w) X.A (pyIter v) (PIE X pins σ tg R) X.xe s1) X.xe s
def GO (X : Cx) (e : Option Expr) : TO := fun σ H Q => ∀ (pins : List (Addr × Obj)) (s : Shared), Inv X pins σ H s →
  wpAny (model X.prog X.w) X.A (evalPart e X.env) (fun u s' => ∃ o H', Inv X pins σ H' s' ∧ IsPart u o ∧ Q o H') X.xe s
def GG (X : Cx) (tg : Expr) : TG := fun v σ H Q => ∀ (pins : List (Addr × Obj)) (s : Shared) (u : Value), Inv X pins σ H s → RelV v u →
  wpAny (model X.prog X.w) X.A (assign tg X.env u) (fun _ s' => ∃ σ' H', Inv X pins σ' H' s' ∧ Q σ' H') X.xe s
theorem pe_ge (e : Expr) : PE X e (GE X e) := ⟨fun pins s _ _ _ I h => h pins s I⟩
theorem pt_gt (e : Expr) : PT X e (GT X e) := ⟨fun pins s _ _ _ I h => h pins s I⟩
theorem pa_ga (es : List Expr) : PA X es (GA X es) := ⟨fun pos pins s _ _ _ I h => h pos pins s I⟩
theorem ps_gs (st : Stmt) : PS X st (GS X st) := ⟨fun pins s _ _ _ I h => h pins s I⟩
theorem pss_gs (st : List Stmt) : PSs X st (GSs X st) := ⟨fun pins s _ _ _ I h => h pins s I⟩
theorem pi_gi (tg it : Expr) : PI X tg it (GI X tg it) := ⟨fun pins s _ _ _ I h => h pins s I⟩
theorem po_go (e : Option Expr) : PO X e (GO X e) := ⟨fun pins s _ _ _ I h => h pins s I⟩
theorem pg_gg (tg : Expr) : PG X tg (GG X tg) := ⟨fun pins s _ _ _ _ _ I r h => h pins s _ I r⟩
theorem GE.of {e : Expr} {t : TE} {σ : L2.St} {H : Hp} {Q : VK} (h : PE X e t) (q : t σ H Q) : GE X e σ H Q := fun pins s I => h.run pins s σ H Q I q
theorem GT.of {e : Expr} {t : TT} {σ : L2.St} {H : Hp} {Q : Bool → Hp → Prop} (h : PT X e t) (q : t σ H Q) : GT X e σ H Q := fun pins s I => h.run pins s σ H Q I q
theorem GA.of {e : List Expr} {t : TA} {σ : L2.St} {H : Hp} {Q : List V → Hp → Prop} (h : PA X e t) (q : t σ H Q) : GA X e σ H Q := fun pos pins s I => h.run pos pins s σ H Q I q
theorem GS.of {e : Stmt} {t : TS} {σ : L2.St} {H : Hp} {D : Ends} (h : PS X e t) (q : t D σ H) : GS X e D σ H := fun pins s I => h.run pins s σ H D I q
theorem GSs.of {e : List Stmt} {t : TS} {σ : L2.St} {H : Hp} {D : Ends} (h : PSs X e t) (q : t D σ H) : GSs X e D σ H := fun pins s I => h.run pins s σ H D I q
theorem GI.of {tg e : Expr} {t : TI} {σ : L2.St} {H : Hp} {R : It → Hp → Prop} (h : PI X tg e t) (q : t σ H R) : GI X tg e σ H R := fun pins s I => h.run pins s σ H R I q
theorem GG.of {tg : Expr} {t : TG} {v : V} {σ : L2.St} {H : Hp} {Q : L2.St → Hp → Prop} (h : PG X tg t) (q : t v σ H Q) : GG X tg v σ H Q := fun pins s _ I r => h.run pins s σ H v _ Q I r q
theorem GE.mono {e : Expr} {σ : L2.St} {H : Hp} {Q Q' : VK} (h : GE X e σ H Q) (q : ∀ v H, Q v H → Q' v H) : GE X e σ H Q' := fun pins s I =>
  thn (h pins s I) fun _ _ ⟨v, H', I', r, z⟩ => ⟨v, H', I', r, q _ _ z⟩
/-! ### rules chosen behind the values -/
theorem op_dyn {f : Value → Value → Sem Value} : OpR X f (fun x y H Q => ∃ r : R2, OpR X f r ∧ r x y H Q) := fun pins s σ H x y v u Q I rx ry ⟨r, h, q⟩ => h pins s σ H x y v u Q I rx ry q
theorem un_dyn {f : Value → Sem Value} : UnR X f (fun x H Q => ∃ r : V → Hp → VK → Prop, UnR X f r ∧ r x H Q) := fun pins s σ H x v Q I rx ⟨r, h, q⟩ => h pins s σ H x v Q I rx q
theorem call_dyn {f : Value} : CallR X f (fun xs H Q => ∃ r : List V → Hp → VK → Prop, CallR X f r ∧ r xs H Q) := fun pins s σ H xs us Q I rx ⟨r, h, q⟩ => h pins s σ H xs us Q I rx q
theorem ix_dyn : IxR X (fun x y H Q => ∃ r : R2, IxR X r ∧ r x y H Q) := fun v sl pins s σ H x y u w Q I rx ry ⟨r, h, q⟩ => h v sl pins s σ H x y u w Q I rx ry q
theorem sl_dyn : SlR X (fun x lo hi H Q => ∃ r : V → Option Int → Option Int → Hp → VK → Prop, SlR X r ∧ r x lo hi H Q) := fun pins s σ H x v vl vu lo hi sl Q I rx hs pl pu ⟨r, h, q⟩ => h pins s σ H x v vl vu lo hi sl Q I rx hs pl pu q
theorem set_dyn : PSet X (fun o i v H Q => ∃ r : TSet, PSet X r ∧ r o i v H Q) := fun pins s σ H o i v ov iv u Q I r1 r2 r3 ⟨r, h, q⟩ => h pins s σ H o i v ov iv u Q I r1 r2 r3 q
end
/-! ### the interpreter's answers -/
section
variable (Γ : Gm) (Wx : WX) (σ : L2.St) (ψ α : List Addr) (H : Hp)
def Post {β : Type} (r : Res β) (K : β → Store → List Addr → Hp → Prop) : Prop := match r with
  | .ok b S' => ∀ (H' : Hp) (α' : List Addr), Ext α H α' H' → RS Γ H' α' ψ S' → K b S' α' H'
  | .ex c _ S' => ∀ (H' : Hp) (α' : List Addr) (d : Option Addr), Ext α H α' H' → RS Γ H' α' ψ S' → Wx (.ref (Γ.ca c)) d σ H'
  | .bad => False
abbrev KE (Q : VK) : W → Store → List Addr → Hp → Prop := fun w _ α' H' => ∀ v, RW Γ H' α' ψ w v → Q v H'
abbrev KT (Q : Bool → Hp → Prop) : Bool → Store → List Addr → Hp → Prop := fun b _ _ H' => Q b H'
abbrev KA (Q : List V → Hp → Prop) : List W → Store → List Addr → Hp → Prop := fun ws _ α' H' => ∀ vs, RWs Γ H' α' ψ ws vs → Q vs H'
end
section
variable {Γ : Gm} {Wx : WX} {σ : L2.St} {ψ α α1 : List Addr} {H H1 : Hp}
theorem Post.ext {β : Type} {r : Res β} {K : β → Store → List Addr → Hp → Prop} (h : Post Γ Wx σ ψ α H r K) (x : Ext α H α1 H1) : Post Γ Wx σ ψ α1 H1 r K := by
  cases r with
  | ok b S => exact fun H' α' y R => h H' α' (x.trans y) R
  | ex c fs S => exact fun H' α' d y R => h H' α' d (x.trans y) R
  | bad => exact h
theorem Post.bind {β γ : Type} {r : Res β} {f : β → Store → Res γ} {K : γ → Store → List Addr → Hp → Prop} (h : Post Γ Wx σ ψ α H (r.bind f) K) :
    Post Γ Wx σ ψ α H r (fun b S1 α1 H1 => Post Γ Wx σ ψ α1 H1 (f b S1) K) := by
  cases r with
  | ok b S => exact fun H' α' x R => Post.ext (r := f b S) h x
  | ex c fs S => exact h
  | bad => exact h
theorem Post.bind0 {β γ : Type} {r : Res β} {f : β → Store → Res γ} {K : γ → Store → List Addr → Hp → Prop} (h : Post Γ Wx σ ψ α H (r.bind f) K) :
    Post Γ Wx σ ψ α H r (fun b S1 _ _ => Post Γ Wx σ ψ α H (f b S1) K) := by
  cases r with
  | ok b S => exact fun H' α' x R => h
  | ex c fs S => exact h
  | bad => exact h
theorem Post.mono {β : Type} {r : Res β} {K K' : β → Store → List Addr → Hp → Prop} (h : Post Γ Wx σ ψ α H r K) (k : ∀ b S α' H', Ext α H α' H' → RS Γ H' α' ψ S → K b S α' H' → K' b S α' H') : Post Γ Wx σ ψ α H r K' := by
  cases r with
  | ok b S => exact fun H' α' x R => k _ _ _ _ x R (h H' α' x R)
  | ex c fs S => exact h
  | bad => exact h
theorem Post.now {β : Type} {b : β} {S : Store} {K : β → Store → List Addr → Hp → Prop} (h : Post Γ Wx σ ψ α H (.ok b S) K) (R : RS Γ H α ψ S) : K b S α H := h H α Ext.refl R
/-- an answer that is an option -/
theorem Post.opt {β : Type} {o : Option β} {S : Store} {K : β → Store → List Addr → Hp → Prop} (h : Post Γ Wx σ ψ α H (rOpt o S) K) : ∃ b, o = some b ∧ Post Γ Wx σ ψ α H (.ok b S) K := by
  cases o with
  | some b => exact ⟨b, rfl, h⟩
  | none => exact h.elim
theorem Post.at {β : Type} {b : β} {S : Store} {K : β → Store → List Addr → Hp → Prop} (h : Post Γ Wx σ ψ α H (.ok b S) K) {H' : Hp} {α' : List Addr} (x : Ext α H α' H') (R : RS Γ H' α' ψ S) : K b S α' H' := h H' α' x R
end
/-! ### what is shown of each piece -/
section
variable (Γ : Gm) (Wx : WX) (X : Cx)
def OkE (e : Expr) (f : Fr → Store → Res W) : Prop := ∀ (ψ α : List Addr) (σw : Fr) (S : Store) (σ : L2.St) (H : Hp) (Q : VK), RF Γ H α ψ σw σ → RS Γ H α ψ S → Post Γ Wx σ ψ α H (f σw S) (KE Γ ψ Q) → GE X e σ H Q
def OkT (e : Expr) (f : Fr → Store → Res Bool) : Prop := ∀ (ψ α : List Addr) (σw : Fr) (S : Store) (σ : L2.St) (H : Hp) (Q : Bool → Hp → Prop), RF Γ H α ψ σw σ → RS Γ H α ψ S → Post Γ Wx σ ψ α H (f σw S) (KT Q) → GT X e σ H Q
def OkA (es : List Expr) (f : Fr → Store → Res (List W)) : Prop := ∀ (ψ α : List Addr) (σw : Fr) (S : Store) (σ : L2.St) (H : Hp) (Q : List V → Hp → Prop), RF Γ H α ψ σw σ → RS Γ H α ψ S → Post Γ Wx σ ψ α H (f σw S) (KA Γ ψ Q) → GA X es σ H Q
def OkO (e : Option Expr) (f : Fr → Store → Res (Option Int)) : Prop := ∀ (ψ α : List Addr) (σw : Fr) (S : Store) (σ : L2.St) (H : Hp) (Q : Option Int → Hp → Prop), RF Γ H α ψ σw σ → RS Γ H α ψ S →
  Post Γ Wx σ ψ α H (f σw S) (fun i _ _ H' => Q i H') → GO X e σ H Q
/-- a new list or dict of its own: what it is at its address -/
def New (H : Hp) (H' : Hp) (α' ψ : List Addr) (S' : Store) (w : W) (v : V) : Prop := match w with
  | .p (.lst xs) => ∃ a vs, v = .ref a ∧ H a = none ∧ H' a = some (.lst vs) ∧ a ∉ α' ∧ RS Γ H' α' (a :: ψ) S' ∧ RPs Γ H' (fb α' (a :: ψ)) xs vs
  | .p (.dk ks xs) => ∃ a us, v = .ref a ∧ H a = none ∧ H' a = some (.dK us) ∧ a ∉ α' ∧ RS Γ H' α' (a :: ψ) S' ∧ us.map (·.1) = ks.map kS ∧ RPs Γ H' (fb α' (a :: ψ)) xs (us.map (·.2))
  | _ => True
def OkN (e : Expr) (f : Fr → Store → Res W) : Prop := ∀ (ψ α : List Addr) (σw : Fr) (S : Store) (σ : L2.St) (H : Hp) (Q : VK), RF Γ H α ψ σw σ → RS Γ H α ψ S →
  Post Γ Wx σ ψ α H (f σw S) (fun w S' α' H' => ∀ v, RW Γ H' α' ψ w v → New Γ H H' α' ψ S' w v → Q v H') → GE X e σ H Q
end
section
variable {Γ : Gm} {Wx : WX} {X : Cx}
theorem OkN.e {e : Expr} {f : Fr → Store → Res W} (h : OkN Γ Wx X e f) : OkE Γ Wx X e f := fun ψ α σw S σ H Q hf hs hp =>
  h ψ α σw S σ H Q hf hs (hp.mono fun _ _ _ _ _ _ k v r _ => k v r)
/-- sequencing -/
theorem OkE.then {e : Expr} {f : Fr → Store → Res W} {β : Type} {g : W → Store → Res β} {K : β → Store → List Addr → Hp → Prop} (h : OkE Γ Wx X e f) {ψ α : List Addr} {σw : Fr} {S : Store} {σ : L2.St} {H : Hp} {Q : VK}
    (hf : RF Γ H α ψ σw σ) (hs : RS Γ H α ψ S) (hp : Post Γ Wx σ ψ α H ((f σw S).bind g) K)
    (hk : ∀ w S1 v α1 H1, Ext α H α1 H1 → RF Γ H1 α1 ψ σw σ → RS Γ H1 α1 ψ S1 → RW Γ H1 α1 ψ w v → Post Γ Wx σ ψ α1 H1 (g w S1) K → Q v H1) : GE X e σ H Q :=
  h ψ α σw S σ H Q hf hs (hp.bind.mono fun w S1 α1 H1 x R k v r => hk w S1 v α1 H1 x (hf.ext x) R r k)
theorem OkT.then {e : Expr} {f : Fr → Store → Res Bool} {β : Type} {g : Bool → Store → Res β} {K : β → Store → List Addr → Hp → Prop} (h : OkT Γ Wx X e f) {ψ α : List Addr} {σw : Fr} {S : Store} {σ : L2.St} {H : Hp} {Q : Bool → Hp → Prop}
    (hf : RF Γ H α ψ σw σ) (hs : RS Γ H α ψ S) (hp : Post Γ Wx σ ψ α H ((f σw S).bind g) K)
    (hk : ∀ b S1 α1 H1, Ext α H α1 H1 → RF Γ H1 α1 ψ σw σ → RS Γ H1 α1 ψ S1 → Post Γ Wx σ ψ α1 H1 (g b S1) K → Q b H1) : GT X e σ H Q :=
  h ψ α σw S σ H Q hf hs (hp.bind.mono fun w S1 α1 H1 x R k => hk w S1 α1 H1 x (hf.ext x) R k)
theorem OkA.then {e : List Expr} {f : Fr → Store → Res (List W)} {β : Type} {g : List W → Store → Res β} {K : β → Store → List Addr → Hp → Prop} (h : OkA Γ Wx X e f) {ψ α : List Addr} {σw : Fr} {S : Store} {σ : L2.St} {H : Hp} {Q : List V → Hp → Prop}
    (hf : RF Γ H α ψ σw σ) (hs : RS Γ H α ψ S) (hp : Post Γ Wx σ ψ α H ((f σw S).bind g) K)
    (hk : ∀ w S1 v α1 H1, Ext α H α1 H1 → RF Γ H1 α1 ψ σw σ → RS Γ H1 α1 ψ S1 → RWs Γ H1 α1 ψ w v → Post Γ Wx σ ψ α1 H1 (g w S1) K → Q v H1) : GA X e σ H Q :=
  h ψ α σw S σ H Q hf hs (hp.bind.mono fun w S1 α1 H1 x R k v r => hk w S1 v α1 H1 x (hf.ext x) R r k)
theorem OkO.then {e : Option Expr} {f : Fr → Store → Res (Option Int)} {β : Type} {g : Option Int → Store → Res β} {K : β → Store → List Addr → Hp → Prop} (h : OkO Γ Wx X e f) {ψ α : List Addr} {σw : Fr} {S : Store} {σ : L2.St} {H : Hp} {Q : Option Int → Hp → Prop}
    (hf : RF Γ H α ψ σw σ) (hs : RS Γ H α ψ S) (hp : Post Γ Wx σ ψ α H ((f σw S).bind g) K)
    (hk : ∀ b S1 α1 H1, Ext α H α1 H1 → RF Γ H1 α1 ψ σw σ → RS Γ H1 α1 ψ S1 → Post Γ Wx σ ψ α1 H1 (g b S1) K → Q b H1) : GO X e σ H Q :=
  h ψ α σw S σ H Q hf hs (hp.bind.mono fun w S1 α1 H1 x R k => hk w S1 α1 H1 x (hf.ext x) R k)
/-- a new object behind an answer -/
theorem Post.new {β : Type} {b : β} {S : Store} {K : β → Store → List Addr → Hp → Prop} {σ : L2.St} {ψ α : List Addr} {H : Hp} (h : Post Γ Wx σ ψ α H (.ok b S) K) (R : RS Γ H α ψ S) {p : Addr} {o : HO} (hp : H p = none) : K b S α (upd H p o) :=
  h _ _ (Ext.new hp) (R.new hp)
/-! ### names and constants -/
theorem ok_var {i : Nat} {x : Str} {pos : Pos} (hN : X.N[i]? = some x) (hv : Vis X.env.scope x) (hd : (x == ("__debug__" : Str)) = false) (hcd : (x == ("__classdict__" : Str)) = false) :
    OkE Γ Wx X (.Name x pos) (fun σ S => match σ[i]? with | some (some w) => .ok w S | _ => .bad) := by
  intro ψ α σw S σ H Q hf hs hp
  refine GE.of (pe_var hN hv hd hcd) ?_
  dsimp only at hp
  split at hp
  · rename_i w e
    obtain ⟨v, e1, r⟩ := hf.2 i w e
    exact ⟨v, e1, hp.now hs v r⟩
  · exact hp.elim
theorem ok_cst {c : Const} {x : P} {j : Nat} {pos : Pos} {v : V} (hv : ∀ H F u, RP Γ H F x u ↔ u = v) (hp : PE X (.Constant c j pos) (tC v)) : OkE Γ Wx X (.Constant c j pos) (fun _ S => .ok (.p x) S) := by
  intro ψ α σw S σ H Q hf hs h
  exact GE.of hp (h.now hs v ((hv _ _ _).mpr rfl))
theorem ok_glob {x : Str} {p : P} {pos : Pos} {v : V} {u : Value} (hg : Gl X x) (hm : X.mg x = some u) (r : RelV v u) (hd : (x == ("__debug__" : Str)) = false) (hv : ∀ H F, RP Γ H F p v) : OkE Γ Wx X (.Name x pos) (fun _ S => .ok (.p p) S) := by
  intro ψ α σw S σ H Q hf hs h
  exact GE.of (pe_glob hg hm r hd) (h.now hs v (hv _ _))
/-! ### argument lists, displays -/
theorem ok_nil : OkA Γ Wx X [] (fun _ S => .ok [] S) := by
  intro ψ α σw S σ H Q hf hs h
  exact GA.of pa_nil (h.now hs [] rfl)
theorem ok_cons {e : Expr} {es : List Expr} {f : Fr → Store → Res W} {g : Fr → Store → Res (List W)} (he : OkE Γ Wx X e f) (hes : OkA Γ Wx X es g) (hst : starEach (e :: es) X.env = (false, eval e X.env) :: starEach es X.env) :
    OkA Γ Wx X (e :: es) (fun σ S => (f σ S).bind fun w S1 => (g σ S1).bind fun ws S2 => .ok (w :: ws) S2) := by
  intro ψ α σw S σ H Q hf hs hp
  refine GA.of (pa_cons (pe_ge e) (pa_ga es) hst) ?_
  refine he.then hf hs hp fun w S1 v α1 H1 x1 hf1 hs1 r1 hp1 => ?_
  refine hes.then hf1 hs1 hp1 fun ws S2 vs α2 H2 x2 hf2 hs2 r2 hp2 => ?_
  exact hp2.now hs2 (v :: vs) ⟨v, vs, rfl, r1.ext x2, r2⟩
theorem psOf_rel {α ψ : List Addr} {H : Hp} : ∀ {ws : List W} {vs : List V} {xs : List P}, RWs Γ H α ψ ws vs → psOf ws = some xs → RPs Γ H (fb α ψ) xs vs
  | [], _, _, h, e => by cases e; exact h
  | .p x :: ws, _, xs, ⟨v, r, e, h1, h2⟩, q => by
    simp only [psOf] at q
    cases z : psOf ws with
    | none => rw [z] at q; cases q
    | some ys =>
      rw [z] at q; cases q
      exact ⟨v, r, e, h1, psOf_rel h2 z⟩
  | .loc _ :: _, _, _, _, q => nomatch q
  | .tl _ :: _, _, _, _, q => nomatch q
  | .scr _ :: _, _, _, _, q => nomatch q
  | .pr _ :: _, _, _, _, q => nomatch q
theorem sumsOf_rel {α ψ : List Addr} {H : Hp} : ∀ {ws : List W} {vs : List V} {xs : List (Sum P Nat)}, RWs Γ H α ψ ws vs → sumsOf ws = some xs → RSums Γ H α ψ xs vs
  | [], _, _, h, e => by cases e; exact h
  | .p x :: ws, _, xs, ⟨v, r, e, h1, h2⟩, q => by
    simp only [sumsOf] at q
    cases z : sumsOf ws with
    | none => rw [z] at q; cases q
    | some ys =>
      rw [z] at q; cases q
      exact ⟨v, r, e, h1, sumsOf_rel h2 z⟩
  | .loc k :: ws, _, xs, ⟨v, r, e, h1, h2⟩, q => by
    simp only [sumsOf] at q
    cases z : sumsOf ws with
    | none => rw [z] at q; cases q
    | some ys =>
      rw [z] at q; cases q
      exact ⟨v, r, e, h1, sumsOf_rel h2 z⟩
  | .tl _ :: _, _, _, _, q => nomatch q
  | .scr _ :: _, _, _, _, q => nomatch q
  | .pr _ :: _, _, _, _, q => nomatch q
theorem RSums.length {α ψ : List Addr} {H : Hp} : ∀ {xs : List (Sum P Nat)} {vs : List V}, RSums Γ H α ψ xs vs → xs.length = vs.length
  | [], vs, h => by
    have e : vs = [] := h
    rw [e]; rfl
  | _ :: _, _, ⟨_, _, e, _, h⟩ => by rw [e, List.length_cons, List.length_cons, RSums.length h]
theorem line_eq : line = sizeLine := by rw [sizeLine_eq]; rfl
/-- a tuple display, its object known: nothing hangs on it -/
def tTupF (t : TA) : TE := fun σ H Q => t σ H fun xs H1 => xs.length ≤ sizeLine ∧ ∀ (p : Addr) (o : Obj), H1 p = none → o.dict = none → Q (.ref p) (upd H1 p (.frz o (.tup xs)))
theorem pe_tupF {es : List Expr} {t : TA} {pos : Pos} {x1} (h : PA X es t) : PE X (.Tuple es x1 pos) (tTupF t) := by
  refine ⟨fun pins s σ H Q I hq => ?_⟩
  refine wpAny_Tuple_spliced (thn (h.run pos pins s σ H _ I hq) fun us s1 ⟨xs, H1, I1, r, z, q⟩ => ⟨by rw [← r.length]; exact z, ?_⟩)
  have hf : H1 s1.heap.objs.size = none := I1.hok.fresh (Nat.le_refl _)
  refine ⟨.ref s1.heap.objs.size, upd H1 s1.heap.objs.size (.frz _ (.tup xs)), I1.laid (t' := s1.toks) (fun b u e => Heap.get?_push_of_some _ e) (Nat.le_refl _) ?_, rfl, q _ { cls := .type "tuple", data := .seq us.toArray } hf rfl⟩
  exact ⟨Heap.get?_push_size _ rfl, z, us, r, ⟨_, Heap.get?_push_size _ rfl, rfl, _, rfl⟩⟩
theorem ok_tup {es : List Expr} {f : Fr → Store → Res (List W)} {k : Nat} {pos : Pos} (he : OkA Γ Wx X es f) : OkE Γ Wx X (.Tuple es k pos) (fun σ S => (f σ S).bind fun ws S1 => rOpt (mkTup ws) S1) := by
  intro ψ α σw S σ H Q hf hs hp
  refine GE.of (pe_tupF (pa_ga es)) ?_
  refine he.then hf hs hp fun ws S1 vs α1 H1 x1 hf1 hs1 r1 hp1 => ?_
  obtain ⟨w, e, hp2⟩ := hp1.opt
  unfold mkTup at e
  split at e
  · rename_i xs hx
    have rx := psOf_rel r1 hx
    split at e
    · rename_i hl
      cases e
      refine ⟨by rw [← rx.length, ← line_eq]; exact hl, fun p o hn hd => hp2.new hs1 hn _ ⟨p, vs, rfl, .inl ⟨o, upd_same, hd⟩, RPs.ext (Ext.new hn) rx⟩⟩
    · cases e
  · split at e
    · rename_i xs hx
      have rx := sumsOf_rel r1 hx
      split at e
      · rename_i hl
        cases e
        refine ⟨by rw [← rx.length, ← line_eq]; exact hl, fun p o hn hd => hp2.new hs1 hn _ ⟨p, vs, rfl, .inl ⟨o, upd_same, hd⟩, RSums.ext (Ext.new hn) rx⟩⟩
      · cases e
    · cases e
/-- data by a new list -/
theorem RPs.fresh {α ψ : List Addr} {H : Hp} {p : Addr} {o : HO} {xs : List P} {vs : List V} (hn : H p = none) (h : RPs Γ H (fb α ψ) xs vs) : RPs Γ (upd H p o) (fb α (p :: ψ)) xs vs := by
  refine RPs.mono (fun a u q c t => by rw [upd_ne (ne_of_none q hn)]; exact q) (fun a u q c z => ?_) xs vs h
  rcases z with z | z
  · exact c (.inl z)
  · rcases List.mem_cons.mp z with z | z
    · rw [z, hn] at q; cases q
    · exact c (.inr z)
theorem RS.fresh {α ψ : List Addr} {H : Hp} {S : Store} {p : Addr} {o : HO} (R : RS Γ H α ψ S) (hn : H p = none) : RS Γ (upd H p o) α (p :: ψ) S := by
  have np : p ∉ α := fun q => by
    obtain ⟨u, z, _⟩ := R.known q
    rw [hn] at z; cases z
  refine ⟨R.len, R.nd, fun k a c h1 h2 => ?_, fun a ha q => ?_, fun b hb q => ?_⟩
  · obtain ⟨u, e, r⟩ := R.cell k a c h1 h2
    refine ⟨u, by rw [upd_ne (ne_of_none e hn)]; exact e, RC.mono (fun a u q c t => by rw [upd_ne (ne_of_none q hn)]; exact q) (fun a u q c z => ?_) r⟩
    rcases z with z | z
    · exact c (.inl z)
    · rcases List.mem_cons.mp z with z | z
      · rw [z, hn] at q; cases q
      · exact c (.inr z)
  · rcases List.mem_cons.mp q with q | q
    · rw [q] at ha; exact np ha
    · exact R.dis a ha q
  · rcases List.mem_cons.mp hb with e | h
    · rw [e, upd_same] at q; cases q
    · by_cases e : b = p
      · rw [e, upd_same] at q; cases q
      · rw [upd_ne e] at q; exact R.kn b h q
theorem newLst {α ψ : List Addr} {S : Store} {H0 H : Hp} {p : Addr} {xs : List P} {vs : List V} (R : RS Γ H α ψ S) (x : Ext α H0 α H ∨ ∀ a, H a = none → H0 a = none) (hn : H p = none) (h : RPs Γ H (fb α ψ) xs vs) :
    RW Γ (upd H p (.lst vs)) α ψ (.p (.lst xs)) (.ref p) ∧ New Γ H0 (upd H p (.lst vs)) α ψ S (.p (.lst xs)) (.ref p) := by
  have np : p ∉ α := fun q => by
    obtain ⟨o, z, _⟩ := R.known q
    rw [hn] at z; cases z
  have np2 : ¬ fb α ψ p := fun q => q.elim np fun z => R.kn p z hn
  exact ⟨⟨p, vs, rfl, upd_same, np2, RPs.ext (Ext.new hn) h⟩, p, vs, rfl, x.elim (fun x => x.dom p hn) fun x => x p hn, upd_same, np, R.fresh hn, RPs.fresh hn h⟩
theorem ok_lst {es : List Expr} {f : Fr → Store → Res (List W)} {pos : Pos} (he : OkA Γ Wx X es f) : OkN Γ Wx X (.List es pos) (fun σ S => (f σ S).bind fun ws S1 => rOpt (mkLst ws) S1) := by
  intro ψ α σw S σ H Q hf hs hp
  refine GE.of (pe_lst (pa_ga es)) ?_
  refine he.then hf hs hp fun ws S1 vs α1 H1 x1 hf1 hs1 r1 hp1 => ?_
  obtain ⟨w, e, hp2⟩ := hp1.opt
  unfold mkLst at e
  split at e
  · rename_i xs hx
    have rx := psOf_rel r1 hx
    split at e
    · rename_i hl
      cases e
      refine ⟨by rw [← rx.length, ← line_eq]; exact hl, fun p hn => ?_⟩
      obtain ⟨a, b⟩ := newLst hs1 (.inr x1.dom) hn rx
      exact hp2.new hs1 hn _ a b
    · cases e
  · cases e
theorem ok_dnew {pos : Pos} : OkN Γ Wx X (.Dict [] [] pos) (fun _ S => .ok (.p (.dk [] [])) S) := by
  intro ψ α σw S σ H Q hf hs hp
  refine GE.of pe_dnewK fun p hn => ?_
  have np : p ∉ α := fun q => by
    obtain ⟨o, z, _⟩ := hs.known q
    rw [hn] at z; cases z
  exact hp.new hs hn _ ⟨p, [], rfl, upd_same, fun q => q.elim np fun z => hs.kn p z hn, rfl, rfl⟩ ⟨p, [], rfl, hn, upd_same, np, hs.fresh hn, rfl, rfl⟩
/-- a new list or dict becomes a cell -/
theorem zip_keys : ∀ {ks : List Kk} {xs : List P}, ks.length = xs.length → (ks.zip xs).map (fun kv => kS kv.1) = ks.map kS ∧ (ks.zip xs).map (·.2) = xs
  | [], [], _ => ⟨rfl, rfl⟩
  | [], _ :: _, h => by simp at h
  | _ :: _, [], h => by simp at h
  | k :: ks, x :: xs, h => by
    obtain ⟨a, b⟩ := zip_keys (ks := ks) (xs := xs) (by simpa using h)
    refine ⟨?_, ?_⟩
    · rw [List.zip_cons_cons, List.map_cons, List.map_cons, a]
    · rw [List.zip_cons_cons, List.map_cons, b]
theorem fb_cons {α ψ : List Addr} {a b : Addr} (h : fb (α ++ [a]) ψ b) : fb α (a :: ψ) b := by
  rcases h with h | h
  · rcases List.mem_append.mp h with h | h
    · exact .inl h
    · exact .inr (List.mem_cons.mpr (.inl (by simpa using h)))
  · exact .inr (List.mem_cons_of_mem _ h)
theorem RS.adopt {α ψ : List Addr} {H : Hp} {S : Store} {a : Addr} {c : Cell} {o : HO} (R : RS Γ H α ψ S) (na : a ∉ α) (ha : H a = some o) (nps : a ∉ ψ) (h1 : RC Γ H (fb (α ++ [a]) ψ) c o)
    (hc : ∀ (k : Nat) (b : Addr) (c : Cell), α[k]? = some b → S[k]? = some c → ∃ o, H b = some o ∧ RC Γ H (fb (α ++ [a]) ψ) c o) : RS Γ H (α ++ [a]) ψ (S ++ [c]) := by
  refine ⟨by simp [R.len], List.nodup_append.mpr ⟨R.nd, by simp, fun x hx b hb => by simp at hb; rw [hb]; intro e; exact na (e ▸ hx)⟩, fun k b d e1 e2 => ?_, fun x hx => ?_, R.kn⟩
  · by_cases hk : k < α.length
    · rw [List.getElem?_append_left hk] at e1
      rw [List.getElem?_append_left (by rw [← R.len]; exact hk)] at e2
      exact hc k b d e1 e2
    · have hk2 : k = α.length := by
        have := (List.getElem?_eq_some_iff.mp e1).1
        simp at this
        omega
      subst hk2
      have e3 : b = a := by simpa using e1.symm
      have e4 : d = c := by
        rw [R.len] at e2
        simpa using e2.symm
      subst e3 e4
      exact ⟨o, ha, h1⟩
  · rcases List.mem_append.mp hx with h | h
    · exact R.dis x h
    · simp at h; rw [h]; exact nps
theorem RS.adopt' {α ψ : List Addr} {H : Hp} {S : Store} {a : Addr} {c : Cell} {o : HO} (R : RS Γ H α ψ S) (R2 : RS Γ H α (a :: ψ) S) (na : a ∉ α) (ha : H a = some o) (nps : a ∉ ψ) (h1 : RC Γ H (fb α (a :: ψ)) c o) : RS Γ H (α ++ [a]) ψ (S ++ [c]) := by
  have sub : ∀ {c : Cell} {o : HO}, RC Γ H (fb α (a :: ψ)) c o → RC Γ H (fb (α ++ [a]) ψ) c o := fun h => RC.mono (fun _ _ q _ _ => q) (fun _ _ _ n q => n (fb_cons q)) h
  exact R.adopt na ha nps (sub h1) fun k b c e1 e2 => by
    obtain ⟨o, h, r⟩ := R2.cell k b c e1 e2
    exact ⟨o, h, sub r⟩
theorem ok_new {e : Expr} {f : Fr → Store → Res W} (he : OkN Γ Wx X e f) : OkE Γ Wx X e (fun σ S => (f σ S).bind fun w S1 => allocW S1 w) := by
  intro ψ α σw S σ H Q hf hs hp
  refine he ψ α σw S σ H Q hf hs (hp.bind0.mono fun w S1 α1 H1 x1 hs1 hp1 v r1 nw => ?_)
  have go : ∀ (a : Addr) (c : Cell) (o : HO), v = .ref a → H a = none → H1 a = some o → a ∉ α1 → RS Γ H1 α1 (a :: ψ) S1 → RC Γ H1 (fb α1 (a :: ψ)) c o → Post Γ Wx σ ψ α H (.ok (.loc S1.length) (S1 ++ [c])) (KE Γ ψ Q) → Q v H1 := by
    intro a c o ev h0 h1 na R2 rc hp1
    have nps : a ∉ ψ := fun z => hs.kn a z h0
    have R3 := hs1.adopt' R2 na h1 nps rc
    have x3 : Ext α H (α1 ++ [a]) H1 := by
      obtain ⟨β, e1, f1⟩ := x1.pre
      refine ⟨⟨β ++ [a], by rw [e1, List.append_assoc], fun b hb => ?_⟩, x1.keep, x1.dom⟩
      rcases List.mem_append.mp hb with z | z
      · exact f1 b z
      · simp at z; rw [z]; exact h0
    exact hp1 _ _ x3 R3 v ⟨a, ev, by rw [← R2.len]; simp⟩
  cases w with
  | p x =>
    cases x with
    | lst xs =>
      obtain ⟨a, vs, ev, h0, h1, na, R2, rx⟩ := nw
      exact go a (.lst xs) _ ev h0 h1 na R2 ⟨vs, rfl, rx⟩ hp1
    | dk ks xs =>
      obtain ⟨a, us, ev, h0, h1, na, R2, hk, rx⟩ := nw
      have hl : ks.length = xs.length := by
        have z1 := congrArg List.length hk
        have z2 := rx.length
        simp at z1 z2
        omega
      obtain ⟨z1, z2⟩ := zip_keys hl
      exact go a (.dk (ks.zip xs)) _ ev h0 h1 na R2 ⟨us, rfl, by rw [hk]; exact z1.symm, by rw [z2]; exact rx⟩ hp1
    | _ => exact hp1.elim
  | _ => exact hp1.elim
end
end Tp

/-! Operators. -/
namespace Tp
open PySem PySem.Spec PyProof.Rows L2
/-! ### tuples made, their object known -/
section
variable {X : Cx}
def rCatF (K : PySem.W.Frag) : R2 := fun x y H Q => ∃ a b xs ys, x = .ref a ∧ y = .ref b ∧ SqT K H a xs ∧ SqT K H b ys ∧ xs.length + ys.length ≤ sizeLine ∧
  (xs = [] → Q (.ref b) H) ∧ (xs ≠ [] → ys = [] → Q (.ref a) H) ∧ (xs ≠ [] → ys ≠ [] → ∀ (p : Addr) (o : Obj), H p = none → o.dict = none → Q (.ref p) (upd H p (.frz o (.tup (xs ++ ys)))))
theorem op_catF : OpR X (binaryOp .Add) (rCatF X.K) := by
  intro pins s σ H x y v u Q I rx ry h
  obtain ⟨a, b, xs, ys, rfl, rfl, ha, hb, hz, q0, q1, q2⟩ := h
  by_cases hx : xs = []
  · subst hx
    cases rx
    cases ry
    obtain ⟨its, r1, p1, _⟩ := I.tuple ha
    obtain ⟨its2, r2, p2, _⟩ := I.tuple hb
    cases r1
    exact cat_tup0 p1 p2 ⟨.ref b, H, I, rfl, q0 rfl⟩
  · cases rx
    cases ry
    obtain ⟨its, r1, p1, _⟩ := I.tuple ha
    obtain ⟨its2, r2, p2, _⟩ := I.tuple hb
    refine HT.cat_tup p1 p2 (fun z => hx (r1.nil_iff.mp z)) (fun z => ⟨.ref a, H, I, rfl, q1 hx (r2.nil_iff.mp z)⟩) (fun z => ?_) (by rw [← r1.length, ← r2.length]; exact hz)
    refine ⟨.ref s.heap.objs.size, _, I.laid (t' := s.toks) (o := .frz { cls := .type "tuple", data := .seq (its ++ its2).toArray } (.tup (xs ++ ys))) (fun b ob q => Heap.get?_push_of_some _ q) (Nat.le_refl _) ?_, rfl, q2 hx (fun w => z (r2.nil_iff.mpr w)) _ _ (I.hok.fresh (Nat.le_refl _)) rfl⟩
    exact ⟨Heap.get?_push_size _ rfl, by rw [List.length_append]; exact hz, _, r1.append r2, IsTup.new _ _⟩
def rSlF (K : PySem.W.Frag) : V → Option Int → Option Int → Hp → VK → Prop := fun x lo hi H Q => ∃ a xs, x = .ref a ∧ SqT K H a xs ∧
  (HT.sIx xs.length 0 lo = 0 ∧ HT.sIx xs.length xs.length hi = xs.length → Q (.ref a) H) ∧ (¬ (HT.sIx xs.length 0 lo = 0 ∧ HT.sIx xs.length xs.length hi = xs.length) → ∀ (p : Addr) (o : Obj), H p = none → o.dict = none → Q (.ref p) (upd H p (.frz o (.tup (cutV xs lo hi)))))
theorem sl_tupF : SlR X (rSlF X.K) := by
  intro pins s σ H x v vl vu lo hi sl Q I rx hs pl pu h
  obtain ⟨a, xs, rfl, hx, q1, q2⟩ := h
  cases rx
  obtain ⟨its, r, ht, hz⟩ := I.tuple hx
  have hlen : its.toArray.size = xs.length := by rw [List.size_toArray]; exact r.length.symm
  refine ⟨"tuple", _, PyProof.Rows.slot_tuple_getitem.lookup, ht.typeIs, ?_⟩
  by_cases hw : HT.sIx xs.length 0 lo = 0 ∧ HT.sIx xs.length xs.length hi = xs.length
  · exact getItem_tuple_whole ht hs pl pu (by rw [hlen]; exact hw) ⟨.ref a, H, I, rfl, q1 hw⟩
  · refine HT.getItem_tuple_cut ht hs pl pu (by rw [hlen]; exact hw) ?_ (by rw [hlen]; exact hz)
    rw [hlen]
    refine ⟨.ref s.heap.objs.size, _, I.laid (t' := s.toks) (o := .frz { cls := .type "tuple", data := .seq ((its.drop (HT.sIx xs.length 0 lo)).take (HT.sIx xs.length xs.length hi - HT.sIx xs.length 0 lo)).toArray } (.tup (cutV xs lo hi))) (fun b ob q => Heap.get?_push_of_some _ q) (Nat.le_refl _) ?_, rfl, q2 hw _ _ (I.hok.fresh (Nat.le_refl _)) rfl⟩
    exact ⟨Heap.get?_push_size _ rfl, Nat.le_trans (cutV_length xs lo hi) hz, _, (r.drop (HT.sIx xs.length 0 lo)).take (HT.sIx xs.length xs.length hi - HT.sIx xs.length 0 lo), IsTup.new _ _⟩
def rRepF (K : PySem.W.Frag) : R2 := fun x y H Q => ∃ l k xs, x = .ref l ∧ y = .int k ∧ SqT K H l xs ∧ xs ≠ [] ∧ 2 ≤ k ∧ k ≤ 1000 ∧ xs.length ≤ 1000 ∧ ∀ (p : Addr) (o : Obj), H p = none → o.dict = none → Q (.ref p) (upd H p (.frz o (.tup (List.replicate k.toNat xs).flatten)))
theorem op_repF : OpR X (binaryOp .Mult) (rRepF X.K) := by
  intro pins s σ H x y v u Q I rx ry h
  obtain ⟨l, k, xs, rfl, rfl, hT, hne, h1, h2, hz, q⟩ := h
  cases rx
  obtain ⟨t, rfl⟩ := ry
  obtain ⟨its, r, ⟨⟨cls, dd, data, sl⟩, ho, hc, n, hd⟩, hs⟩ := I.tuple hT
  simp only at hc hd
  subst hc hd
  have hle : its.length = xs.length := r.length.symm
  have hn : its ≠ [] := fun e => hne (by
    rw [e] at hle
    exact List.eq_nil_of_length_eq_zero hle.symm)
  have hi : its.toArray.isEmpty = false := by
    cases its with
    | nil => exact absurd rfl hn
    | cons a b => rfl
  have hsz0 : its.toArray.size = xs.length := by rw [List.size_toArray, hle]
  have hm : ((its.toArray.size : Nat) : Int) * k ≤ 1000000 := by
    rw [hsz0]
    have a1 : ((xs.length : Nat) : Int) * k ≤ 1000 * k := Int.mul_le_mul_of_nonneg_right (by omega) (by omega)
    omega
  have flen : (List.replicate k.toNat its).flatten.length ≤ sizeLine := by
    rw [PyProof.Rows.lm_len_rep_flat, hle, sizeLine_eq]
    have a1 : k.toNat * xs.length ≤ 1000 * 1000 := Nat.mul_le_mul (by omega) hz
    omega
  have c0 : (decide (k < -(2 ^ 63)) || decide (k ≥ 2 ^ 63)) = false := by
    rw [decide_eq_false (by omega), decide_eq_false (by omega)] <;> rfl
  have c1 : (its.toArray.isEmpty || k == 1) = false := by
    rw [hi, Bool.false_or]
    exact beq_eq_false_iff_ne.mpr (by omega)
  have c2 : (decide (k ≤ 0) || its.toArray.isEmpty) = false := by
    rw [hi, Bool.or_false]
    exact decide_eq_false (by omega)
  have c4 : Builtin.Tuple.tupleTooMany (((its.toArray.size : Nat) : Int) * k) = false := by
    unfold Builtin.Tuple.tupleTooMany
    rw [sizeLine_eq]
    exact decide_eq_false (by omega)
  refine wpAny_binaryOp_repeat_ref (T := "tuple") (U := "int") (by decide) ⟨_, ho, rfl⟩ (fun s' => typeIs_int s' k t) noFill_tuple_mul F.fills_int_mul F.slot_int_rmul repeat_tuple F.slot_int_index.lookup
    (call_meets F.slot_int_rmul (typeIs_int s k t) F.entry_int_rmul (F.args_int_rmul_2 _ _) (int_rmul_tuple k t l its.toArray n dd sl)
      ⟨ho, rfl, ⟨_, ho, rfl⟩, call_meets F.slot_tuple_mul ⟨_, ho, rfl⟩ F.entry_tuple_mul (F.args_tuple_mul_2 _ _) (tuple_mulW l its.toArray n dd sl k t c0 c1 c2 (by omega) c4 (by rw [size_rep, List.size_toArray]; exact flen)) ⟨ho, ?_⟩⟩)
  rw [size_rep]
  refine ⟨.ref s.heap.objs.size, _, I.laid (t' := s.toks) (o := .frz { cls := .type "tuple", data := .seq (List.replicate k.toNat its).flatten.toArray } (.tup (List.replicate k.toNat xs).flatten)) (fun b ob q => Heap.get?_push_of_some _ q) (Nat.le_refl _) ?_, rfl, q _ _ (I.hok.fresh (Nat.le_refl _)) rfl⟩
  exact ⟨Heap.get?_push_size _ rfl, by rw [PyProof.Rows.lm_len_rep_flat, sizeLine_eq]; have a1 : k.toNat * xs.length ≤ 1000 * 1000 := Nat.mul_le_mul (by omega) hz; omega, _, r.rep k.toNat, IsTup.new _ _⟩
theorem call_tupleF : CallR X (.type "tuple") (fun xs H Q => ∃ p ys, xs = [.ref p] ∧ ((SqL X.K H p ys ∧ ∀ (l : Addr) (o : Obj), H l = none → o.dict = none → Q (.ref l) (upd H l (.frz o (.tup ys)))) ∨ (SqT X.K H p ys ∧ Q (.ref p) H))) := by
  intro pins s σ H xs us Q I r h
  obtain ⟨p, ys, rfl, h⟩ := h
  obtain ⟨u, rfl, rx⟩ := vals1 r
  cases rx
  rcases h with ⟨hq, q⟩ | ⟨hq, q⟩
  · obtain ⟨its, r', pl, hz⟩ := I.list hq
    have hlen := r'.length
    refine call_tuple_list pl.isList (fun h' kp => ?_) (by simp only [List.size_toArray] <;> omega)
    have I1 : Inv X pins σ H { s with heap := h' } := I.kept (t' := s.toks) kp
    have I2 : Inv X pins σ (upd H h'.objs.size (.frz { cls := .type "tuple", data := .seq its.toArray } (.tup ys))) { s with heap := h'.push { cls := .type "tuple", data := .seq its.toArray } } :=
      I1.laid (t' := s.toks) (fun b o e => Heap.get?_push_of_some _ e) (Nat.le_refl _) (show ObjOk X.prog X.w _ _ _ (.frz _ (.tup ys)) from ⟨Heap.get?_push_size _ rfl, hz, its, r', IsTup.new _ _⟩)
    exact ⟨.ref h'.objs.size, _, I2, rfl, q _ _ (I1.hok.fresh (Nat.le_refl _)) rfl⟩
  · obtain ⟨its, r', pl, hz⟩ := I.tuple hq
    exact call_tuple_same pl ⟨.ref p, H, I, rfl, q⟩
/-- a text times a number -/
theorem fold_rep (x : Array Nat) : ∀ (n : Nat) (acc : Array Nat), (List.replicate n x).foldl (· ++ ·) acc = acc ++ (List.replicate n x.toList).flatten.toArray
  | 0, acc => by simp
  | n + 1, acc => by
    rw [List.replicate_succ, List.foldl_cons, fold_rep x n, List.replicate_succ, List.flatten_cons]
    apply Array.toList_inj.mp
    simp
theorem repL_eq {α : Type} (xs : List α) : ∀ n : Nat, repL xs n = (List.replicate n xs).flatten
  | 0 => rfl
  | n + 1 => by rw [List.replicate_succ, List.flatten_cons, ← repL_eq xs n]; rfl
theorem toS_len (x : Nm) : (toS x).length = x.length := by show x.toArray.size = _; simp
theorem toS_app (x y : Nm) : toS x ++ toS y = toS (x ++ y) := by
  show (⟨x.toArray ++ y.toArray⟩ : Str) = ⟨(x ++ y).toArray⟩
  simp
theorem op_repS : OpR X (binaryOp .Mult) (fun x y H Q => ∃ (z : Nm) (k : Int), x = .str (toS z) ∧ y = .int k ∧ z ≠ [] ∧ 2 ≤ k ∧ k ≤ 1000 ∧ z.length ≤ 1000 ∧ Q (.str (toS (repL z k.toNat))) H) := by
  intro pins s σ H x y v u Q I rx ry h
  obtain ⟨z, k, rfl, rfl, hne, h1, h2, hz, q⟩ := h
  obtain ⟨t, rfl⟩ := rx
  obtain ⟨t', rfl⟩ := ry
  have hl := toS_len z
  have hm : ((z.length : Nat) : Int) * k ≤ 1000000 := by
    have a1 : ((z.length : Nat) : Int) * k ≤ 1000 * k := Int.mul_le_mul_of_nonneg_right (by omega) (by omega)
    omega
  have hk : z.length * k.toNat ≤ 1000 * 1000 := Nat.mul_le_mul hz (by omega)
  have hn : z.length ≠ 0 := fun e => hne (List.eq_nil_of_length_eq_zero e)
  refine PySem.P.mul_str (by rw [decide_eq_false (by omega), decide_eq_false (by omega)] <;> rfl) (fun _ _ => ?_) (fun _ _ => ?_) ?_
  · rw [hl]
    intro c
    have c2 : (1000 : Int) ≥ z.length := by omega
    have c3 : (2 ^ 63 - 1 : Int) / k ≥ 9007199254740992 := by
      refine (Int.le_ediv_iff_mul_le (by omega)).mpr ?_
      omega
    omega
  · rw [hl]
    show decide (_ > sizeLine) = false
    rw [sizeLine_eq]
    exact decide_eq_false (by omega)
  · rw [if_neg (by omega)]
    have c : (k == 1 || (toS z).length == 0) = false := by
      rw [hl, beq_eq_false_iff_ne.mpr (show k ≠ 1 by omega), beq_eq_false_iff_ne.mpr hn]; rfl
    rw [c, if_neg Bool.false_ne_true]
    have e : (⟨(List.replicate k.toNat (toS z).cps).foldl (· ++ ·) #[]⟩ : Str) = toS (repL z k.toNat) := by
      rw [fold_rep, repL_eq]
      show (⟨#[] ++ (List.replicate k.toNat (toS z).cps.toList).flatten.toArray⟩ : Str) = ⟨_⟩
      congr 1
      apply Array.toList_inj.mp
      simp [toS]
    rw [e]
    refine ⟨?_, .str (toS (repL z k.toNat)), H, I.tok _, ⟨_, rfl⟩, q⟩
    show (toS (repL z k.toNat)).length ≤ sizeLine
    rw [toS_len, repL_eq, PyProof.Rows.lm_len_rep_flat, sizeLine_eq]
    rw [Nat.mul_comm]
    omega
end
section
variable {Γ : Gm} {Wx : WX} {X : Cx}
theorem lView_rel {H : Hp} {α ψ : List Addr} {S : Store} (R : RS Γ H α ψ S) : ∀ {w : W} {v : V} {xs : List P}, RW Γ H α ψ w v → lView S w = some xs → ∃ a vs, v = .ref a ∧ H a = some (.lst vs) ∧ RPs Γ H (fb α ψ) xs vs
  | .p x, v, xs, r, e => by
    cases x with
    | lst ys =>
      cases e
      obtain ⟨a, vs, ev, h, _, q⟩ := r
      exact ⟨a, vs, ev, h, q⟩
    | _ => cases e
  | .loc k, v, xs, ⟨a, ev, ha⟩, e => by
    simp only [lView] at e
    split at e
    · rename_i ys hk
      cases e
      obtain ⟨o, h, vs, eo, q⟩ := R.cell k a _ ha hk
      exact ⟨a, vs, ev, by rw [h, eo], q⟩
    · cases e
  | .tl _, _, _, _, e => nomatch e
  | .scr _, _, _, _, e => nomatch e
  | .pr _, _, _, _, e => nomatch e
theorem kS_inj : ∀ {a b : Kk}, kS a = kS b → a = b
  | .inl i, .inl j, h => by cases h; rfl
  | .inr x, .inr y, h => by
    have e : x.toArray = y.toArray := by
      have := Sum.inr.inj h
      exact congrArg Str.cps this
    have : x = y := by simpa using congrArg Array.toList e
    rw [this]
  | .inl _, .inr _, h => nomatch h
  | .inr _, .inl _, h => nomatch h
theorem nmEq_iff : ∀ {x y : Nm}, nmEq x y = true ↔ x = y
  | [], [] => by simp [nmEq]
  | [], _ :: _ => by simp [nmEq]
  | _ :: _, [] => by simp [nmEq]
  | a :: x, b :: y => by simp [nmEq, nmEq_iff (x := x) (y := y)]
theorem nmEq_dec (x y : Nm) : nmEq x y = decide (x = y) := by
  rw [Bool.eq_iff_iff, nmEq_iff]; simp
theorem kkEq_iff : ∀ {a b : Kk}, kkEq a b = true ↔ a = b
  | .inl i, .inl j => by simp [kkEq]
  | .inr x, .inr y => by simp [kkEq, nmEq_iff]
  | .inl _, .inr _ => by simp [kkEq]
  | .inr _, .inl _ => by simp [kkEq]
theorem dGet_rel {H : Hp} {F : Addr → Prop} {k : Kk} : ∀ {kvs : List (Kk × P)} {us : List (Key × V)}, us.map (·.1) = kvs.map (fun kv => kS kv.1) → RPs Γ H F (kvs.map (·.2)) (us.map (·.2)) →
    (∀ x, dGet kvs k = some x → ∃ v, valV us (kS k) = some v ∧ RP Γ H F x v) ∧ (dGet kvs k = none → valV us (kS k) = none)
  | [], [], _, _ => ⟨(fun _ h => by cases h), (fun _ => rfl)⟩
  | [], _ :: _, e, _ => by simp at e
  | _ :: _, [], e, _ => by simp at e
  | (j, x) :: r, u :: us, e, h => by
    rw [List.map_cons, List.map_cons] at e
    obtain ⟨e1, e2⟩ := List.cons.inj e
    obtain ⟨v, vs, e3, h1, h2⟩ := h
    rw [List.map_cons] at e3
    obtain ⟨e4, e5⟩ := List.cons.inj e3
    obtain ⟨ih1, ih2⟩ := dGet_rel (k := k) e2 (e5 ▸ h2)
    by_cases c : j = k
    · have e6 : u.1 = kS k := by rw [e1, c]
      have e7 : dGet ((j, x) :: r) k = some x := by simp only [dGet]; rw [if_pos (kkEq_iff.mpr c)]
      rw [e7, valV_pos e6]
      exact ⟨fun y q => by cases q; exact ⟨u.2, rfl, by rw [e4]; exact h1⟩, fun q => nomatch q⟩
    · have e6 : ¬ u.1 = kS k := fun q => c (kS_inj (e1.symm.trans q))
      have e7 : dGet ((j, x) :: r) k = dGet r k := by simp only [dGet]; rw [if_neg (fun q => c (kkEq_iff.mp q))]
      rw [e7, valV_neg e6]
      exact ⟨ih1, ih2⟩
theorem toKk_rel {H : Hp} {F : Addr → Prop} : ∀ {b : P} {v : V} {k : Kk}, RP Γ H F b v → toKk b = some k → v = kV (kS k)
  | .int i, v, k, h, e => by cases e; exact h
  | .str x, v, k, h, e => by cases e; exact h
  | .non, _, _, _, e => nomatch e
  | .bl _, _, _, _, e => nomatch e
  | .tup _, _, _, _, e => nomatch e
  | .lst _, _, _, _, e => nomatch e
  | .dk _ _, _, _, _, e => nomatch e
  | .fn _, _, _, _, e => nomatch e
theorem dView_rel {H : Hp} {α ψ : List Addr} {S : Store} (R : RS Γ H α ψ S) : ∀ {w : W} {v : V} {kvs : List (Kk × P)}, RW Γ H α ψ w v → dView S w = some kvs →
    ∃ a us, v = .ref a ∧ H a = some (.dK us) ∧ us.map (·.1) = kvs.map (fun kv => kS kv.1) ∧ RPs Γ H (fb α ψ) (kvs.map (·.2)) (us.map (·.2))
  | .p x, v, xs, r, e => by
    cases x with
    | dk ks ys =>
      cases e
      obtain ⟨a, us, ev, h, _, hk, q⟩ := r
      have hl : ks.length = ys.length := by
        have z1 := congrArg List.length hk
        have z2 := q.length
        simp at z1 z2
        omega
      obtain ⟨z1, z2⟩ := zip_keys hl
      exact ⟨a, us, ev, h, by rw [hk]; exact z1.symm, by rw [show (dPairs ks ys).map (·.2) = ys from z2]; exact q⟩
    | _ => cases e
  | .loc k, v, xs, ⟨a, ev, ha⟩, e => by
    simp only [dView] at e
    split at e
    · rename_i ys hk
      cases e
      obtain ⟨o, h, us, eo, q1, q2⟩ := R.cell k a _ ha hk
      exact ⟨a, us, ev, by rw [h, eo], q1, q2⟩
    · cases e
  | .tl _, _, _, _, e => nomatch e
  | .scr _, _, _, _, e => nomatch e
  | .pr _, _, _, _, e => nomatch e
theorem tView_rel {H : Hp} {α ψ : List Addr} : ∀ {w : W} {v : V} {xs : List P}, RW Γ H α ψ w v → tView w = some xs → ∃ a vs, v = .ref a ∧ TupD Γ.K H a vs ∧ RPs Γ H (fb α ψ) xs vs
  | .p x, v, xs, r, e => by
    cases x with
    | tup ys => cases e; exact r
    | _ => cases e
  | .loc k, v, xs, _, e => nomatch e
  | .tl _, _, _, _, e => nomatch e
  | .scr _, _, _, _, e => nomatch e
  | .pr _, _, _, _, e => nomatch e
theorem sView_rel {H : Hp} {α ψ : List Addr} {S : Store} (R : RS Γ H α ψ S) {w : W} {v : V} {xs : List P} (r : RW Γ H α ψ w v) (e : sView S w = some xs) :
    ∃ a vs, v = .ref a ∧ ((H a = some (.lst vs) ∧ lView S w = some xs) ∨ TupD Γ.K H a vs) ∧ RPs Γ H (fb α ψ) xs vs := by
  unfold sView at e
  split at e
  · rename_i ys hy
    cases e
    obtain ⟨a, vs, ev, h, q⟩ := tView_rel r hy
    exact ⟨a, vs, ev, .inr h, q⟩
  · obtain ⟨a, vs, ev, h, q⟩ := lView_rel R r e
    exact ⟨a, vs, ev, .inl ⟨h, e⟩, q⟩
theorem Bl_rel {H : Hp} {F : Addr → Prop} {b : Bool} : RP Γ H F (.bl b) (.bl b) := rfl
/-- a binary operator -/
def opOf : Bop → Operator
  | .add => .Add | .sub => .Sub | .mul => .Mult | .fdiv => .FloorDiv | .mod => .Mod | .pow => .Pow
theorem bits_log (x : Int) : Builtin.Int.intBits x ≤ x.natAbs.log2 + 1 := by
  unfold Builtin.Int.intBits
  split <;> omega
theorem mulX_of {i j : Int} (h : i.natAbs.log2 + j.natAbs.log2 < 100000000) : CMulX i j := by
  have h1 := bits_log i
  have h2 := bits_log j
  show (Builtin.Int.intBits i : Int) + (Builtin.Int.intBits j : Int) ≤ 134217728
  omega
theorem binI_rule (op : Bop) {i j r : Int} (h : binI op i j = some r) : ∃ rr : R2, OpR X (binaryOp (opOf op)) rr ∧ ∀ (H : Hp) (Q : VK), Q (.int r) H → rr (.int i) (.int j) H Q := by
  cases op with
  | add => cases h; exact ⟨_, op_add, fun H Q q => ⟨i, j, rfl, rfl, q⟩⟩
  | sub => cases h; exact ⟨_, op_sub, fun H Q q => ⟨i, j, rfl, rfl, q⟩⟩
  | mul =>
    simp only [binI] at h
    split at h
    · rename_i c; cases h; exact ⟨_, op_mulX, fun H Q q => ⟨i, j, rfl, rfl, mulX_of c, q⟩⟩
    · cases h
  | fdiv =>
    simp only [binI] at h
    split at h
    · rename_i c; cases h; exact ⟨_, op_fdivW, fun H Q q => ⟨i, j, rfl, rfl, c, q⟩⟩
    · cases h
  | mod =>
    simp only [binI] at h
    split at h
    · rename_i c; cases h; exact ⟨_, op_mod, fun H Q q => ⟨i, j, rfl, rfl, c, q⟩⟩
    · cases h
  | pow =>
    simp only [binI] at h
    split at h
    · rename_i c; cases h; exact ⟨_, op_pow, fun H Q q => ⟨i, j, rfl, rfl, ⟨c.1, c.2.1, c.2.2⟩, q⟩⟩
    · cases h
theorem tup_new {α ψ : List Addr} {H : Hp} {p : Addr} {o : Obj} {xs : List P} {vs : List V} (hn : H p = none) (hd : o.dict = none) (h : RPs Γ H (fb α ψ) xs vs) : RW Γ (upd H p (.frz o (.tup vs))) α ψ (.p (.tup xs)) (.ref p) :=
  ⟨p, vs, rfl, .inl ⟨o, upd_same, hd⟩, RPs.ext (Ext.new hn) h⟩
theorem RPs.nil_iff {H : Hp} {F : Addr → Prop} {xs : List P} {vs : List V} (h : RPs Γ H F xs vs) : xs = [] ↔ vs = [] := by
  have e := h.length
  constructor
  · intro z; rw [z] at e; exact List.eq_nil_of_length_eq_zero e.symm
  · intro z; rw [z] at e; exact List.eq_nil_of_length_eq_zero e
theorem bin_rule (hK : X.K = Γ.K) (op : Bop) {α ψ : List Addr} {H : Hp} {S : Store} {x y : W} {u v : V} {r : P} {H0 : Hp} {Q : VK} (R : RS Γ H α ψ S) (hdom : ∀ a, H a = none → H0 a = none) (rx : RW Γ H α ψ x u) (ry : RW Γ H α ψ y v) (h : binW op S x y = some r)
    (q : ∀ H', Ext α H α H' → RS Γ H' α ψ S → ∀ v, RW Γ H' α ψ (.p r) v → New Γ H0 H' α ψ S (.p r) v → Q v H') : ∃ rr : R2, OpR X (binaryOp (opOf op)) rr ∧ rr u v H Q := by
  have hL : binW.binL op S x y = some r → ∃ rr : R2, OpR X (binaryOp (opOf op)) rr ∧ rr u v H Q := fun h => by
    cases op with
    | add =>
      simp only [binW.binL] at h
      split at h
      · rename_i a b ha hb
        split at h
        · rename_i hl
          cases h
          obtain ⟨p, vs, ev, hp, rv⟩ := lView_rel R rx ha
          obtain ⟨p2, us, eu, hp2, ru⟩ := lView_rel R ry hb
          refine ⟨_, op_cat, p, p2, vs, us, ev, eu, hp, hp2, by rw [← rv.length, ← ru.length, ← line_eq]; exact hl, fun l hn => ?_⟩
          obtain ⟨z1, z2⟩ := newLst R (.inr hdom) hn (RPs.append rv ru)
          exact q _ (Ext.new hn) (R.new hn) _ z1 z2
        · cases h
      · cases h
    | mul =>
      simp only [binW.binL] at h
      split at h
      · rename_i a k ha _
        split at h
        · rename_i hl
          cases h
          obtain ⟨p, vs, ev, hp, rv⟩ := lView_rel R rx ha
          cases ry
          refine ⟨_, op_rep, p, k, vs, ev, rfl, hp, by omega, by omega, ?_, fun l hn => ?_⟩
          · rw [← rv.length, sizeLine_eq]
            have : a.length * k.toNat ≤ 1000 * 1000 := Nat.mul_le_mul hl.2.2 (by omega)
            omega
          · obtain ⟨z1, z2⟩ := newLst R (.inr hdom) hn (RPs.repL k.toNat rv)
            exact q _ (Ext.new hn) (R.new hn) _ z1 z2
        · cases h
      · cases h
    | _ => cases h
  have hP : ∀ {a b : P}, x = .p a → y = .p b → binP op a b = some r → ∃ rr : R2, OpR X (binaryOp (opOf op)) rr ∧ rr u v H Q := fun {a b} ex ey h' => by
    clear h hL
    revert h'
    intro h
    subst ex ey
    unfold binP at h
    split at h
    · rename_i i j
      cases e : binI op i j with
      | none => rw [e] at h; cases h
      | some k =>
        rw [e] at h; cases h
        obtain ⟨rr, h1, h2⟩ := binI_rule (X := X) op e
        cases rx; cases ry
        exact ⟨rr, h1, h2 H Q (q H Ext.refl R _ rfl trivial)⟩
    · rename_i a b
      split at h
      · rename_i hl
        cases h
        cases rx; cases ry
        refine ⟨_, op_add_str, toS a, toS b, rfl, rfl, by rw [toS_len, toS_len, ← line_eq]; exact hl, ?_⟩
        rw [toS_app]
        exact q H Ext.refl R _ rfl trivial
      · cases h
    · rename_i a b
      split at h
      · rename_i hl
        cases h
        obtain ⟨p, vs, ev, hp, rv⟩ := rx
        obtain ⟨p2, us, eu, hp2, ru⟩ := ry
        refine ⟨_, op_catF, p, p2, vs, us, ev, eu, hK ▸ hp.sq, hK ▸ hp2.sq, by rw [← rv.length, ← ru.length, ← line_eq]; exact hl, fun z => ?_, fun z1 z2 => ?_, fun z1 z2 l o hn hd => ?_⟩
        · have e := rv.nil_iff.mpr z
          subst e
          exact q H Ext.refl R _ ⟨p2, us, rfl, hp2, ru⟩ trivial
        · have e := ru.nil_iff.mpr z2
          subst e
          rw [List.append_nil] at q
          exact q H Ext.refl R _ ⟨p, vs, rfl, hp, rv⟩ trivial
        · exact q _ (Ext.new hn) (R.new hn) _ (tup_new hn hd (RPs.append rv ru)) trivial
      · cases h
    · rename_i a k
      split at h
      · rename_i hl
        cases h
        obtain ⟨p, vs, ev, hp, rv⟩ := rx
        cases ry
        refine ⟨_, op_repF, p, k, vs, ev, rfl, hK ▸ hp.sq, fun z => hl.1 (rv.nil_iff.mpr z), hl.2.1, hl.2.2.1, by rw [← rv.length]; exact hl.2.2.2, fun l o hn hd => ?_⟩
        exact q _ (Ext.new hn) (R.new hn) _ (tup_new hn hd (RPs.repL k.toNat rv)) trivial
      · cases h
    · rename_i a k
      split at h
      · rename_i hl
        cases h
        cases rx; cases ry
        exact ⟨_, op_repS, a, k, rfl, rfl, hl.1, hl.2.1, hl.2.2.1, hl.2.2.2, q H Ext.refl R _ rfl trivial⟩
      · cases h
    · cases h
  unfold binW at h
  split at h
  · split at h
    · rename_i e
      cases h
      exact hP rfl rfl e
    · exact hL h
  · exact hL h
theorem ok_bin (hK : X.K = Γ.K) (op : Bop) {a b : Expr} {f g : Fr → Store → Res W} {pos : Pos} (ha : OkE Γ Wx X a f) (hb : OkE Γ Wx X b g) :
    OkN Γ Wx X (.BinOp a (opOf op) b pos) (fun σ S => (f σ S).bind fun x S1 => (g σ S1).bind fun y S2 => rOpt ((binW op S2 x y).map .p) S2) := by
  intro ψ α σw S σ H Q hf hs hp
  refine GE.of (pe_op op_dyn (pe_ge a) (pe_ge b)) ?_
  refine ha.then hf hs hp fun w S1 v α1 H1 x1 hf1 hs1 r1 hp1 => ?_
  refine hb.then hf1 hs1 hp1 fun w2 S2 v2 α2 H2 x2 hf2 hs2 r2 hp2 => ?_
  obtain ⟨w3, e3, hp3⟩ := hp2.opt
  cases e4 : binW op S2 w w2 with
  | none => rw [e4] at e3; cases e3
  | some r =>
    rw [e4] at e3; cases e3
    exact bin_rule hK op hs2 (fun a h => x1.dom a (x2.dom a h)) (r1.ext x2) r2 e4 fun H' x R v rv nv => hp3 H' α2 x R v rv nv
theorem ok_neg {a : Expr} {f : Fr → Store → Res W} {pos : Pos} (ha : OkE Γ Wx X a f) : OkE Γ Wx X (.UnaryOp .USub a pos) (fun σ S => (f σ S).bind fun x S1 => match x with | .p (.int i) => .ok (.p (.int (-i))) S1 | _ => .bad) := by
  intro ψ α σw S σ H Q hf hs hp
  refine GE.of (pe_un un_neg (pe_ge a)) ?_
  refine ha.then hf hs hp fun w S1 v α1 H1 x1 hf1 hs1 r1 hp1 => ?_
  split at hp1
  · rename_i i
    cases r1
    exact ⟨i, rfl, hp1.now hs1 _ rfl⟩
  · exact hp1.elim
end
end Tp

/-! Comparisons, truth, and, or, isinstance. -/
namespace Tp
open PySem PySem.Spec PyProof.Rows L2
/-! ### data as the library's -/
mutual
def toD : P → PyData
  | .non => .none
  | .bl b => .bool b
  | .int i => .int i
  | .str x => .str (toS x)
  | .tup xs => .tuple (toDs xs)
  | .lst xs => .list (toDs xs)
  | .dk _ _ => .none
  | .fn _ => .none
def toDs : List P → List PyData
  | [] => []
  | x :: xs => toD x :: toDs xs
end
theorem toS_inj {x y : Nm} : toS x = toS y ↔ x = y := by
  constructor
  · intro h
    have e : x.toArray = y.toArray := congrArg Str.cps h
    simpa using congrArg Array.toList e
  · intro h; rw [h]
theorem toS_beq (x y : Nm) : (toS x == toS y) = nmEq x y := by
  rw [Bool.eq_iff_iff, nmEq_iff, beq_iff_eq, toS_inj]
mutual
theorem peq_eqv : ∀ (a b : P) (n m : Nat), shp a n = true → shp b m = true → PyData.eqv (toD a) (toD b) = peq a b
  | .non, b, n, m, ha, hb => by cases b <;> simp_all [toD, peq, PyData.eqv, shp]
  | .bl x, b, n, m, ha, hb => by cases b <;> simp_all [toD, peq, PyData.eqv, shp]
  | .int x, b, n, m, ha, hb => by cases b <;> simp_all [toD, peq, PyData.eqv, shp]
  | .str x, b, n, m, ha, hb => by cases b <;> simp_all [toD, peq, PyData.eqv, shp, toS_beq]
  | .dk _ _, b, n, m, ha, hb => by simp [shp] at ha
  | .fn _, b, n, m, ha, hb => by simp [shp] at ha
  | .lst xs, b, n, m, ha, hb => by
    cases b with
    | lst ys =>
      cases n with
      | zero => simp [shp] at ha
      | succ n =>
        cases m with
        | zero => simp [shp] at hb
        | succ m =>
          simp only [shp] at ha hb
          simp only [toD, peq, PyData.eqv]
          exact peqs_eqv xs ys n m ha hb
    | _ => simp_all [toD, peq, PyData.eqv, shp]
  | .tup xs, b, n, m, ha, hb => by
    cases b with
    | tup ys =>
      cases n with
      | zero => simp [shp] at ha
      | succ n =>
        cases m with
        | zero => simp [shp] at hb
        | succ m =>
          simp only [shp] at ha hb
          simp only [toD, peq, PyData.eqv]
          exact peqs_eqv xs ys n m ha hb
    | _ => simp_all [toD, peq, PyData.eqv, shp]
theorem peqs_eqv : ∀ (a b : List P) (n m : Nat), shps a n = true → shps b m = true → PyData.eqvAll (toDs a) (toDs b) = peqs a b
  | [], b, n, m, ha, hb => by cases b <;> simp [toDs, peqs, PyData.eqvAll]
  | x :: xs, b, n, m, ha, hb => by
    cases b with
    | nil => simp [toDs, peqs, PyData.eqvAll]
    | cons y ys =>
      simp only [shps, Bool.and_eq_true] at ha hb
      simp only [toDs, peqs, PyData.eqvAll]
      rw [peq_eqv x y n m ha.1 hb.1, peqs_eqv xs ys n m ha.2 hb.2]
end
theorem strOk_small {x : Nm} (h : x.all (· < 55296) = true) : PyData.strOk (toS x) = true := by
  have h2 : ∀ c ∈ x, c < 55296 := by simpa using h
  unfold PyData.strOk
  simp [toS]
  intro c hc
  have := h2 c hc
  omega
mutual
theorem shp_lay : ∀ (a : P) (n : Nat), shp a n = true → (toD a).canLay0 = true ∧ (toD a).depth ≤ n
  | .non, n, h => by simp [toD, PyData.canLay0, PyData.depth]
  | .bl _, n, h => by simp [toD, PyData.canLay0, PyData.depth]
  | .int _, n, h => by simp [toD, PyData.canLay0, PyData.depth]
  | .str x, n, h => by
    simp only [shp] at h
    simp [toD, PyData.canLay0, PyData.depth, strOk_small h]
  | .dk _ _, n, h => by simp [shp] at h
  | .fn _, n, h => by simp [shp] at h
  | .lst xs, n, h => by
    cases n with
    | zero => simp [shp] at h
    | succ n =>
      simp only [shp] at h
      obtain ⟨h1, h2⟩ := shps_lay xs n h
      simp only [toD, PyData.canLay0, PyData.depth]
      exact ⟨h1, by omega⟩
  | .tup xs, n, h => by
    cases n with
    | zero => simp [shp] at h
    | succ n =>
      simp only [shp] at h
      obtain ⟨h1, h2⟩ := shps_lay xs n h
      simp only [toD, PyData.canLay0, PyData.depth]
      exact ⟨h1, by omega⟩
theorem shps_lay : ∀ (a : List P) (n : Nat), shps a n = true → PyData.canLayAll0 (toDs a) = true ∧ PyData.depthAll (toDs a) ≤ n
  | [], n, h => by simp [toDs, PyData.canLayAll0, PyData.depthAll]
  | x :: xs, n, h => by
    simp only [shps, Bool.and_eq_true] at h
    obtain ⟨h1, h2⟩ := shp_lay x n h.1
    obtain ⟨h3, h4⟩ := shps_lay xs n h.2
    simp only [toDs, PyData.canLayAll0, PyData.depthAll]
    refine ⟨by rw [h1, h3]; rfl, by omega⟩
end
theorem shaped_of {a : P} (h : shp a 60 = true) : SeqAt.shaped (toD a) = true := by
  obtain ⟨h1, h2⟩ := shp_lay a 60 h
  unfold SeqAt.shaped
  rw [h1, decide_eq_true (by omega)]
  rfl
section
variable {Γ : Gm} {Wx : WX} {X : Cx}
mutual
theorem RP.dp {H : Hp} {F : Addr → Prop} : ∀ (a : P) (n : Nat) (v : V), shp a n = true → RP Γ H F a v → Dp Γ.K H v (toD a)
  | .non, n, v, h, r => by cases r; exact .non
  | .bl b, n, v, h, r => by cases r; exact .bl b
  | .int i, n, v, h, r => by cases r; exact .int i
  | .str x, n, v, h, r => by cases r; exact .str _
  | .dk _ _, n, v, h, r => by simp [shp] at h
  | .fn _, n, v, h, r => by simp [shp] at h
  | .lst xs, n, v, h, r => by
    cases n with
    | zero => simp [shp] at h
    | succ n =>
      simp only [shp] at h
      obtain ⟨a, vs, e, ha, _, q⟩ := r
      subst e
      exact .lst (SqL.of ha) (RPs.dp xs n vs h q)
  | .tup xs, n, v, h, r => by
    cases n with
    | zero => simp [shp] at h
    | succ n =>
      simp only [shp] at h
      obtain ⟨a, vs, e, ha, q⟩ := r
      subst e
      exact .tup ha.sq (RPs.dp xs n vs h q)
theorem RPs.dp {H : Hp} {F : Addr → Prop} : ∀ (a : List P) (n : Nat) (v : List V), shps a n = true → RPs Γ H F a v → DpAll Γ.K H v (toDs a)
  | [], n, v, h, r => by
    have e : v = [] := r
    rw [e]; exact .nil
  | x :: xs, n, v, h, r => by
    simp only [shps, Bool.and_eq_true] at h
    obtain ⟨u, us, e, h1, h2⟩ := r
    rw [e]
    exact .cons (RP.dp x n u h.1 h1) (RPs.dp xs n us h.2 h2)
end
theorem dataOf_dp {H : Hp} {α ψ : List Addr} {S : Store} (R : RS Γ H α ψ S) {w : W} {v : V} {a : P} {n : Nat} (r : RW Γ H α ψ w v) (e : dataOf S w = some a) (hs : shp a n = true) : Dp Γ.K H v (toD a) := by
  cases w with
  | p x => cases e; exact RP.dp _ n v hs r
  | loc k =>
    obtain ⟨b, ev, hb⟩ := r
    simp only [dataOf] at e
    split at e
    · rename_i xs hk
      cases e
      obtain ⟨o, h1, vs, eo, q⟩ := R.cell k b _ hb hk
      cases n with
      | zero => simp [shp] at hs
      | succ n =>
        simp only [shp] at hs
        rw [ev]
        exact .lst (SqL.of (by rw [h1, eo])) (RPs.dp xs n vs hs q)
    · cases e
  | _ => cases e
theorem eq_scal {H : Hp} {F : Addr → Prop} {a b : P} {u v : V} (ra : RP Γ H F a u) (rb : RP Γ H F b v) (h : (isScal a && isScal b && !mixed a b) = true) : scal u v = true ∧ decide (u = v) = peq a b := by
  cases a <;> first
    | (simp [isScal] at h; done)
    | (cases b <;> first
        | (simp [isScal, mixed] at h; done)
        | (cases ra; cases rb; refine ⟨rfl, ?_⟩; simp only [peq]; first
            | rfl
            | (simp; done)
            | (rw [Bool.eq_iff_iff]; simp [nmEq_iff, toS_inj]; done)))
/-- == by values -/
theorem eq_rule (hK : X.K = Γ.K) (hu : X.A.units + 64 < cLine) {α ψ : List Addr} {H : Hp} {S : Store} {x y : W} {u v : V} {a b : P} {r : Bool} {Q : VK} (R : RS Γ H α ψ S) (rx : RW Γ H α ψ x u) (ry : RW Γ H α ψ y v) (ha : dataOf S x = some a) (hb : dataOf S y = some b) (h : eqP a b = some r) :
    (Q (.bl r) H → ∃ rr : R2, OpR X (compareOp .Eq) rr ∧ rr u v H Q) ∧ (Q (.bl (!r)) H → ∃ rr : R2, OpR X (compareOp .NotEq) rr ∧ rr u v H Q) := by
  unfold eqP at h
  split at h
  · rename_i c
    cases h
    have hx : RP Γ H (fb α ψ) a u := by
      cases x with
      | p z => cases ha; exact rx
      | loc k =>
        simp only [dataOf] at ha
        split at ha
        · cases ha; simp [isScal] at c
        · cases ha
      | _ => cases ha
    have hy : RP Γ H (fb α ψ) b v := by
      cases y with
      | p z => cases hb; exact ry
      | loc k =>
        simp only [dataOf] at hb
        split at hb
        · cases hb; simp [isScal] at c
        · cases hb
      | _ => cases hb
    obtain ⟨c1, c2⟩ := eq_scal hx hy c
    exact ⟨fun q => ⟨_, op_eq, c1, by rw [c2]; exact q⟩, fun q => ⟨_, op_ne, c1, by rw [c2]; exact q⟩⟩
  · split at h
    · rename_i c
      cases h
      simp only [Bool.and_eq_true] at c
      have d1 := dataOf_dp R rx ha c.1
      have d2 := dataOf_dp R ry hb c.2
      have e := peq_eqv a b 60 60 c.1 c.2
      rw [← hK] at d1 d2
      exact ⟨fun q => ⟨_, op_eqD hu, _, _, d1, d2, shaped_of c.1, shaped_of c.2, by rw [e]; exact q⟩, fun q => ⟨_, op_neD hu, _, _, d1, d2, shaped_of c.1, shaped_of c.2, by rw [e]; exact q⟩⟩
    · cases h
theorem nmLt_dec : ∀ x y : Nm, nmLt x y = decide (x < y)
  | [], [] => by simp [nmLt]
  | [], _ :: _ => by simp [nmLt]
  | _ :: _, [] => by simp [nmLt]
  | a :: x, b :: y => by
    rw [Bool.eq_iff_iff, decide_eq_true_iff, List.cons_lt_cons_iff]
    simp only [nmLt]
    have ih := nmLt_dec x y
    by_cases h1 : a < b
    · simp [h1]
    · by_cases h2 : b < a
      · rw [if_neg h1, if_pos h2]
        constructor
        · intro h; cases h
        · rintro (h | ⟨h, _⟩) <;> omega
      · rw [if_neg h1, if_neg h2, ih, decide_eq_true_iff]
        constructor
        · intro h; exact .inr ⟨by omega, h⟩
        · rintro (h | ⟨_, h⟩)
          · omega
          · exact h
/-- the flat values -/
theorem flat_rel {H : Hp} {F : Addr → Prop} {a : P} {v : V} (r : RP Γ H F a v) (h : flat a = true) : flatV v = true := by
  cases a <;> first
    | (simp [flat] at h; done)
    | (cases r; rfl)
theorem eqV_rel {H : Hp} {F : Addr → Prop} {a b : P} {u v : V} (ra : RP Γ H F a u) (rb : RP Γ H F b v) (ha : flat a = true) (hb : flat b = true) : eqV u v = peq a b := by
  cases a <;> first
    | (simp [flat] at ha; done)
    | (cases b <;> first
        | (simp [flat] at hb; done)
        | (cases ra; cases rb; simp only [peq, eqV]; done)
        | (cases ra; cases rb; exact toS_beq _ _))
theorem flats_rel {H : Hp} {F : Addr → Prop} : ∀ {xs : List P} {vs : List V}, RPs Γ H F xs vs → xs.all flat = true → vs.all flatV = true
  | [], vs, r, _ => by
    have e : vs = [] := r
    rw [e]; rfl
  | x :: xs, vs, ⟨v, r, e, h1, h2⟩, h => by
    rw [List.all_cons, Bool.and_eq_true] at h
    rw [e, List.all_cons, flat_rel h1 h.1, flats_rel h2 h.2]
    rfl
theorem inP_rel {H : Hp} {F : Addr → Prop} {a : P} {u : V} (ra : RP Γ H F a u) (ha : flat a = true) : ∀ {xs : List P} {vs : List V}, RPs Γ H F xs vs → xs.all flat = true → inV u vs = inP a xs
  | [], vs, r, _ => by
    have e : vs = [] := r
    rw [e]; rfl
  | x :: xs, vs, ⟨v, r, e, h1, h2⟩, h => by
    rw [List.all_cons, Bool.and_eq_true] at h
    have ih := inP_rel ra ha h2 h.2
    unfold inV at ih ⊢
    rw [e, List.any_cons, eqV_rel h1 ra h.1 ha, ih]
    rfl
def copOf : Cop → CmpOp
  | .eq => .Eq | .ne => .NotEq | .lt => .Lt | .le => .LtE | .gt => .Gt | .ge => .GtE | .isin => .In | .notin => .NotIn | .is => .Is | .isnot => .IsNot
theorem ord_rule (op : Cop) {i j : Int} {r : Bool} (h : ordI op i j = some r) {H : Hp} {Q : VK} (q : Q (.bl r) H) : ∃ rr : R2, OpR X (compareOp (copOf op)) rr ∧ rr (.int i) (.int j) H Q := by
  cases op with
  | lt => cases h; exact ⟨_, op_lt, i, j, rfl, rfl, q⟩
  | le => cases h; exact ⟨_, op_le, i, j, rfl, rfl, q⟩
  | gt => cases h; exact ⟨_, op_gt, i, j, rfl, rfl, q⟩
  | ge => cases h; exact ⟨_, op_ge, i, j, rfl, rfl, q⟩
  | _ => cases h
theorem is_rule {α ψ : List Addr} {H : Hp} {x y : W} {u v : V} {r : Bool} {Q : VK} (rx : RW Γ H α ψ x u) (ry : RW Γ H α ψ y v) (h : cmpW.isW x y = some r) :
    (Q (.bl r) H → ∃ rr : R2, OpR X (compareOp .Is) rr ∧ rr u v H Q) ∧ (Q (.bl (!r)) H → ∃ rr : R2, OpR X (compareOp .IsNot) rr ∧ rr u v H Q) := by
  unfold cmpW.isW at h
  split at h
  · rename_i a b
    cases h
    cases rx; cases ry
    have e : decide (a = b) = (a == b) := by rw [Bool.eq_iff_iff]; simp
    exact ⟨fun q => ⟨_, op_isBl, a, b, rfl, rfl, by rw [e]; exact q⟩, fun q => ⟨_, op_notBl, a, b, rfl, rfl, by rw [e]; exact q⟩⟩
  · cases h
    cases rx; cases ry
    exact ⟨fun q => ⟨_, op_isN, rfl, by simpa using q⟩, fun q => ⟨_, op_notN, rfl, by simpa using q⟩⟩
  · cases h
    obtain ⟨a, e, _⟩ := rx
    cases ry
    subst e
    exact ⟨fun q => ⟨_, op_isN, rfl, by simpa using q⟩, fun q => ⟨_, op_notN, rfl, by simpa using q⟩⟩
  · rename_i a _
    cases ry
    have go : ∀ k : Bool, decide (u = V.non) = k → r = k → (Q (.bl r) H → ∃ rr : R2, OpR X (compareOp .Is) rr ∧ rr u .non H Q) ∧ (Q (.bl (!r)) H → ∃ rr : R2, OpR X (compareOp .IsNot) rr ∧ rr u .non H Q) := fun k e1 e2 =>
      ⟨fun q => ⟨_, op_isN, rfl, by rw [e1, ← e2]; exact q⟩, fun q => ⟨_, op_notN, rfl, by rw [e1, ← e2]; exact q⟩⟩
    split at h
    · cases h; cases rx; exact go true (by simp) rfl
    · rename_i hne
      cases h
      refine go false (decide_eq_false fun e => ?_) rfl
      subst e
      cases a <;> first
        | exact hne rfl
        | (obtain ⟨_, _, e, _⟩ := rx; cases e; done)
        | (cases rx; done)
  · cases h
theorem cmp_rule (hK : X.K = Γ.K) (hu : X.A.units + 64 < cLine) (op : Cop) {α ψ : List Addr} {H : Hp} {S : Store} {x y : W} {u v : V} {r : Bool} {Q : VK} (R : RS Γ H α ψ S) (rx : RW Γ H α ψ x u) (ry : RW Γ H α ψ y v) (h : cmpW op S x y = some r)
    (q : Q (.bl r) H) : ∃ rr : R2, OpR X (compareOp (copOf op)) rr ∧ rr u v H Q := by
  have hin : ∀ {k : Bool}, cmpW.contW S x y = some k → (Q (.bl k) H → ∃ rr : R2, OpR X (compareOp .In) rr ∧ rr u v H Q) ∧ (Q (.bl (!k)) H → ∃ rr : R2, OpR X (compareOp .NotIn) rr ∧ rr u v H Q) := fun {k} h => by
    unfold cmpW.contW at h
    cases x with
    | p a =>
      simp only [wP] at h
      split at h
      · rename_i kvs hd
        split at h
        · rename_i kk hk
          cases h
          obtain ⟨d, us, ev, hd2, k1, k2⟩ := dView_rel R ry hd
          have eu := toKk_rel (Γ := Γ) rx hk
          obtain ⟨g1, g2⟩ := dGet_rel (k := kk) k1 k2
          have e : (valV us (kS kk)).isSome = (dGet kvs kk).isSome := by
            cases z : dGet kvs kk with
            | none => rw [g2 z]; rfl
            | some p => obtain ⟨w, hw, _⟩ := g1 p z; rw [hw]; rfl
          subst eu ev
          have din : OpR X (compareOp .In) (fun x y H Q => ∃ a o k, x = kV k ∧ y = .ref a ∧ DGet H a x o ∧ Q (.bl o.isSome) H) := fun pins s σ H x y v u Q I rx ry ⟨a, o, k, ex, ey, g, q⟩ => by
            subst ey
            obtain rfl : u = Value.ref a := ry
            exact d_in (by omega) I g rx fun s3 I3 => ⟨.bl o.isSome, H, I3, rfl, q⟩
          have dnin : OpR X (compareOp .NotIn) (fun x y H Q => ∃ a o k, x = kV k ∧ y = .ref a ∧ DGet H a x o ∧ Q (.bl (!o.isSome)) H) := fun pins s σ H x y v u Q I rx ry ⟨a, o, k, ex, ey, g, q⟩ => by
            subst ey
            obtain rfl : u = Value.ref a := ry
            exact d_notIn (by omega) I g rx fun s3 I3 => ⟨.bl (!o.isSome), H, I3, rfl, q⟩
          exact ⟨fun q => ⟨_, din, d, _, kS kk, rfl, rfl, DGet.k hd2, by rw [e]; exact q⟩, fun q => ⟨_, dnin, d, _, kS kk, rfl, rfl, DGet.k hd2, by rw [e]; exact q⟩⟩
        · cases h
      · split at h
        · rename_i xs hv
          split at h
          · rename_i c
            cases h
            simp only [Bool.and_eq_true] at c
            obtain ⟨b, vs, ev, hq, rv⟩ := sView_rel R ry hv
            have hq' : SqL X.K H b vs ∨ SqT X.K H b vs := hq.elim (fun z => .inl (SqL.of z.1)) fun z => .inr (hK ▸ z.sq)
            have e := inP_rel (Γ := Γ) rx c.1 rv c.2
            exact ⟨fun q => ⟨_, op_in_seq, b, vs, ev, hq', flat_rel rx c.1, flats_rel rv c.2, by rw [e]; exact q⟩, fun q => ⟨_, op_notIn_seq, b, vs, ev, hq', flat_rel rx c.1, flats_rel rv c.2, by rw [e]; exact q⟩⟩
          · cases h
        · split at h
          · split at h
            · cases h
              cases rx; cases ry
              have e : ∀ (c : Nat) (z : Nm), decide (c ∈ (toS z).cps.toList) = z.contains c := fun c z => by
                rw [Bool.eq_iff_iff, decide_eq_true_iff, List.contains_iff_mem]
                show c ∈ z.toArray.toList ↔ c ∈ z
                rw [List.toList_toArray]
              exact ⟨fun q => ⟨_, op_in_sign, _, toS _, rfl, rfl, by rw [e]; exact q⟩, fun q => ⟨_, op_notIn_sign, _, toS _, rfl, rfl, by rw [e]; exact q⟩⟩
            · cases h
          · cases h
    | _ => cases h
  cases op with
  | eq =>
    simp only [cmpW] at h
    split at h
    · rename_i ha hb; exact (eq_rule hK hu R rx ry ha hb h).1 q
    · cases h
  | ne =>
    simp only [cmpW] at h
    split at h
    · rename_i a b ha hb
      cases e : eqP a b with
      | none => rw [e] at h; cases h
      | some k => rw [e] at h; cases h; exact (eq_rule hK hu R rx ry ha hb e).2 q
    · cases h
  | isin => exact (hin h).1 q
  | notin =>
    simp only [cmpW] at h
    cases e : cmpW.contW S x y with
    | none => rw [e] at h; cases h
    | some k => rw [e] at h; cases h; exact (hin e).2 q
  | is => exact (is_rule rx ry h).1 q
  | isnot =>
    simp only [cmpW] at h
    cases e : cmpW.isW x y with
    | none => rw [e] at h; cases h
    | some k => rw [e] at h; cases h; exact (is_rule rx ry e).2 q
  | lt =>
    simp only [cmpW] at h
    split at h
    · cases rx; cases ry; exact ord_rule .lt h q
    · rename_i a b
      cases rx; cases ry
      simp only [ordN] at h
      cases h
      refine ⟨_, op_lt_str, toS a, toS b, rfl, rfl, ?_⟩
      have e : decide ((toS a).cps.toList < (toS b).cps.toList) = nmLt a b := by rw [nmLt_dec]; rfl
      rw [e]; exact q
    · cases h
  | le =>
    simp only [cmpW] at h
    split at h
    · cases rx; cases ry; exact ord_rule .le h q
    · cases h
    · cases h
  | gt =>
    simp only [cmpW] at h
    split at h
    · cases rx; cases ry; exact ord_rule .gt h q
    · cases h
    · cases h
  | ge =>
    simp only [cmpW] at h
    split at h
    · cases rx; cases ry; exact ord_rule .ge h q
    · cases h
    · cases h
theorem ok_cmp (hK : X.K = Γ.K) (hu : X.A.units + 64 < cLine) (op : Cop) {a b : Expr} {f g : Fr → Store → Res W} {pos : Pos} (ha : OkE Γ Wx X a f) (hb : OkE Γ Wx X b g) (hm : behindInMarks (copOf op) b = false) :
    OkE Γ Wx X (.Compare a [copOf op] [b] pos) (fun σ S => (f σ S).bind fun x S1 => (g σ S1).bind fun y S2 => rOpt ((cmpW op S2 x y).map fun r => .p (.bl r)) S2) := by
  intro ψ α σw S σ H Q hf hs hp
  refine GE.of (pe_cmpR op_dyn (pe_ge a) (pe_ge b) hm) ?_
  refine ha.then hf hs hp fun w S1 v α1 H1 x1 hf1 hs1 r1 hp1 => ?_
  refine hb.then hf1 hs1 hp1 fun w2 S2 v2 α2 H2 x2 hf2 hs2 r2 hp2 => ?_
  obtain ⟨w3, e3, hp3⟩ := hp2.opt
  cases e4 : cmpW op S2 w w2 with
  | none => rw [e4] at e3; cases e3
  | some r =>
    rw [e4] at e3; cases e3
    exact cmp_rule hK hu op hs2 (r1.ext x2) r2 e4 (hp3.now hs2 _ rfl)
theorem ok_cmpT (hK : X.K = Γ.K) (hu : X.A.units + 64 < cLine) (op : Cop) {a b : Expr} {f g : Fr → Store → Res W} {pos : Pos} (ha : OkE Γ Wx X a f) (hb : OkE Γ Wx X b g) (hm : behindInMarks (copOf op) b = false) :
    OkT Γ Wx X (.Compare a [copOf op] [b] pos) (fun σ S => (f σ S).bind fun x S1 => (g σ S1).bind fun y S2 => rOpt (cmpW op S2 x y) S2) := by
  intro ψ α σw S σ H Q hf hs hp
  refine GT.of (pt_cmpR op_dyn (pe_ge a) (pe_ge b) hm) ?_
  refine ha.then hf hs hp fun w S1 v α1 H1 x1 hf1 hs1 r1 hp1 => ?_
  refine hb.then hf1 hs1 hp1 fun w2 S2 v2 α2 H2 x2 hf2 hs2 r2 hp2 => ?_
  obtain ⟨r, e4, hp3⟩ := hp2.opt
  exact cmp_rule hK hu op hs2 (r1.ext x2) r2 e4 ⟨r, rfl, hp3.now hs2⟩
theorem ok_cmp2 (hK : X.K = Γ.K) (hu : X.A.units + 64 < cLine) (op op2 : Cop) {a b c : Expr} {f g h : Fr → Store → Res W} {pos : Pos} (ha : OkE Γ Wx X a f) (hb : OkE Γ Wx X b g) (hc : OkE Γ Wx X c h) (hm : lastMarks [copOf op, copOf op2] [b, c] = false) :
    OkE Γ Wx X (.Compare a [copOf op, copOf op2] [b, c] pos) (fun σ S => (f σ S).bind fun x S1 => (g σ S1).bind fun y S2 => (rOpt (cmpW op S2 x y) S2).bind fun r S3 =>
      if r then (h σ S3).bind fun z S4 => rOpt ((cmpW op2 S4 y z).map fun r => .p (.bl r)) S4 else .ok (.p (.bl false)) S3) := by
  intro ψ α σw S σ H Q hf hs hp
  refine GE.of (pe_chain op_dyn op_dyn (pe_ge a) (pe_ge b) (pe_ge c) hm) ?_
  refine ha.then hf hs hp fun w S1 v α1 H1 x1 hf1 hs1 r1 hp1 => ?_
  refine hb.then hf1 hs1 hp1 fun w2 S2 v2 α2 H2 x2 hf2 hs2 r2 hp2 => ?_
  obtain ⟨r, e4, hp3⟩ := (show ∃ r, cmpW op S2 w w2 = some r ∧ _ from by
    cases e : cmpW op S2 w w2 with
    | none => rw [e] at hp2; exact hp2.elim
    | some r => rw [e] at hp2; exact ⟨r, rfl, hp2⟩)
  refine cmp_rule hK hu op hs2 (r1.ext x2) r2 e4 ⟨r, rfl, ?_⟩
  cases r with
  | false =>
    rw [if_neg Bool.false_ne_true]
    exact Post.now (Γ := Γ) hp3 hs2 _ rfl
  | true =>
    rw [if_pos rfl]
    refine hc.then hf2 hs2 hp3 fun w3 S3 v3 α3 H3 x3 hf3 hs3 r3 hp4 => ?_
    obtain ⟨w5, e5, hp5⟩ := hp4.opt
    cases e6 : cmpW op2 S3 w2 w3 with
    | none => rw [e6] at e5; cases e5
    | some k =>
      rw [e6] at e5; cases e5
      exact cmp_rule hK hu op2 hs3 (r2.ext x3) r3 e6 (hp5.now hs3 _ rfl)
theorem ok_cmp2T (hK : X.K = Γ.K) (hu : X.A.units + 64 < cLine) (op op2 : Cop) {a b c : Expr} {f g h : Fr → Store → Res W} {pos : Pos} (ha : OkE Γ Wx X a f) (hb : OkE Γ Wx X b g) (hc : OkE Γ Wx X c h) (hm : lastMarks [copOf op, copOf op2] [b, c] = false) :
    OkT Γ Wx X (.Compare a [copOf op, copOf op2] [b, c] pos) (fun σ S => (f σ S).bind fun x S1 => (g σ S1).bind fun y S2 => (rOpt (cmpW op S2 x y) S2).bind fun r S3 =>
      if r then (h σ S3).bind fun z S4 => rOpt (cmpW op2 S4 y z) S4 else .ok false S3) := by
  intro ψ α σw S σ H Q hf hs hp
  refine GT.of (pt_chain op_dyn op_dyn (pe_ge a) (pe_ge b) (pe_ge c) hm) ?_
  refine ha.then hf hs hp fun w S1 v α1 H1 x1 hf1 hs1 r1 hp1 => ?_
  refine hb.then hf1 hs1 hp1 fun w2 S2 v2 α2 H2 x2 hf2 hs2 r2 hp2 => ?_
  obtain ⟨r, e4, hp3⟩ := (show ∃ r, cmpW op S2 w w2 = some r ∧ _ from by
    cases e : cmpW op S2 w w2 with
    | none => rw [e] at hp2; exact hp2.elim
    | some r => rw [e] at hp2; exact ⟨r, rfl, hp2⟩)
  refine cmp_rule hK hu op hs2 (r1.ext x2) r2 e4 ⟨r, rfl, ?_⟩
  cases r with
  | false =>
    rw [if_neg Bool.false_ne_true]
    exact ⟨false, rfl, Post.now (Γ := Γ) hp3 hs2⟩
  | true =>
    rw [if_pos rfl]
    refine hc.then hf2 hs2 hp3 fun w3 S3 v3 α3 H3 x3 hf3 hs3 r3 hp4 => ?_
    obtain ⟨k, e6, hp5⟩ := hp4.opt
    exact cmp_rule hK hu op2 hs3 (r2.ext x3) r3 e6 ⟨k, rfl, hp5.now hs3⟩
/-! ### truth -/
theorem tru_rel (hK : X.K = Γ.K) {α ψ : List Addr} {H : Hp} {S : Store} {w : W} {v : V} {k : Bool} (R : RS Γ H α ψ S) (r : RW Γ H α ψ w v) (h : truW S w = some k) : TruV X.K v H k := by
  have em : ∀ {F : Addr → Prop} {xs : List P} {vs : List V}, RPs Γ H F xs vs → (!xs.isEmpty) = !vs.isEmpty := fun {F xs vs} r => by
    have e := r.length
    cases xs <;> cases vs <;> first | rfl | simp at e
  unfold truW at h
  split at h
  · cases h; cases r; rfl
  · cases h; cases r; rfl
  · cases h; cases r; rfl
  · rename_i x
    split at h
    · rename_i hl
      cases h; cases r
      refine ⟨by rw [toS_len, ← line_eq]; exact hl, ?_⟩
      rw [toS_len]
      cases x with
      | nil => rfl
      | cons c x =>
        show true = _
        symm
        rw [bne_iff_ne]
        simp only [List.length_cons]
        omega
    · cases h
  · cases h
    obtain ⟨a, vs, e, ha, q⟩ := r
    subst e
    exact .inr (.inl ⟨vs, hK ▸ ha.sq, em q⟩)
  · cases h
    obtain ⟨a, vs, e, ha, _, q⟩ := r
    subst e
    exact .inl ⟨vs, SqL.of ha, em q⟩
  · rename_i ks xs
    cases h
    obtain ⟨a, us, e, ha, _, hk, q⟩ := r
    subst e
    refine .inr (.inr ⟨us, ha, ?_⟩)
    have z := congrArg List.length hk
    simp at z
    cases ks <;> cases us <;> first | rfl | simp at z
  · rename_i k
    obtain ⟨a, e, ha⟩ := r
    subst e
    split at h
    · rename_i xs hk
      cases h
      obtain ⟨o, h1, vs, eo, q⟩ := R.cell _ a _ ha hk
      exact .inl ⟨vs, SqL.of (by rw [h1, eo]), em q⟩
    · rename_i kvs hk
      cases h
      obtain ⟨o, h1, us, eo, q1, q2⟩ := R.cell _ a _ ha hk
      refine .inr (.inr ⟨us, by rw [h1, eo], ?_⟩)
      have z := congrArg List.length q1
      simp at z
      cases kvs <;> cases us <;> first | rfl | simp at z
    · cases h
  · cases h
theorem ok_truth (hK : X.K = Γ.K) {e : Expr} {f : Fr → Store → Res W} (he : OkE Γ Wx X e f) (hp : ∀ whole, isTrue e X.env whole = (do let v ← whole; standAt e.pos; holding [v] (truthy v))) :
    OkT Γ Wx X e (fun σ S => (f σ S).bind fun w S1 => rOpt (truW S1 w) S1) := by
  intro ψ α σw S σ H Q hf hs h
  refine GT.of (pt_truth (pe_ge e) hp) ?_
  refine he.then hf hs h fun w S1 v α1 H1 x1 hf1 hs1 r1 hp1 => ?_
  obtain ⟨k, e4, hp3⟩ := hp1.opt
  exact ⟨k, tru_rel hK hs1 r1 e4, hp3.now hs1⟩
theorem ok_notV (hK : X.K = Γ.K) {e : Expr} {f : Fr → Store → Res W} {pos : Pos} (he : OkE Γ Wx X e f) : OkE Γ Wx X (.UnaryOp .Not e pos) (fun σ S => (f σ S).bind fun x S1 => rOpt ((truW S1 x).map fun b => .p (.bl (!b))) S1) := by
  intro ψ α σw S σ H Q hf hs h
  refine GE.of (pe_notT (pe_ge e)) ?_
  refine he.then hf hs h fun w S1 v α1 H1 x1 hf1 hs1 r1 hp1 => ?_
  obtain ⟨w2, e2, hp2⟩ := hp1.opt
  cases e3 : truW S1 w with
  | none => rw [e3] at e2; cases e2
  | some k =>
    rw [e3] at e2; cases e2
    exact ⟨k, tru_rel hK hs1 r1 e3, hp2.now hs1 _ rfl⟩
theorem ok_notT {e : Expr} {f : Fr → Store → Res Bool} {pos : Pos} (he : OkT Γ Wx X e f) : OkT Γ Wx X (.UnaryOp .Not e pos) (fun σ S => (f σ S).bind fun b S1 => .ok (!b) S1) := by
  intro ψ α σw S σ H Q hf hs h
  refine GT.of (pt_not (pt_gt e)) ?_
  exact he.then hf hs h fun b S1 α1 H1 x1 hf1 hs1 hp1 => hp1.now hs1
/-! ### and, or, if else -/
/-- a test whatever stands around it (and, or) -/
def OkW (e : Expr) (f : Fr → Store → Res Bool) : Prop := ∀ (whole : Sem Value) (ψ α : List Addr) (σw : Fr) (S : Store) (σ : L2.St) (H : Hp) (Q : Bool → Hp → Prop), RF Γ H α ψ σw σ → RS Γ H α ψ S → Post Γ Wx σ ψ α H (f σw S) (KT Q) →
  ∀ (pins : List (Addr × Obj)) (s : Shared), Inv X pins σ H s → wpAny (model X.prog X.w) X.A (isTrue e X.env whole) (TP X pins σ Q) X.xe s
theorem OkW.t {e : Expr} {f : Fr → Store → Res Bool} (h : OkW (Γ := Γ) (Wx := Wx) (X := X) e f) : OkT Γ Wx X e f := fun ψ α σw S σ H Q hf hs hp pins s I => h _ ψ α σw S σ H Q hf hs hp pins s I
def GW (X : Cx) (e : Expr) : TT := fun σ H Q => ∀ (whole : Sem Value) (pins : List (Addr × Obj)) (s : Shared), Inv X pins σ H s → wpAny (model X.prog X.w) X.A (isTrue e X.env whole) (TP X pins σ Q) X.xe s
theorem pw_gw (e : Expr) : PW X e (GW X e) := ⟨fun wh pins s _ _ _ I h => h wh pins s I⟩
theorem ok_and1T {e : Expr} {f : Fr → Store → Res Bool} {pos : Pos} (he : OkT Γ Wx X e f) : OkW (Γ := Γ) (Wx := Wx) (X := X) (.BoolOp .And [e] pos) f := fun wh ψ α σw S σ H Q hf hs hp pins s I =>
  (pw_and1 (pt_gt e)).run wh pins s σ H Q I (he ψ α σw S σ H Q hf hs hp)
theorem ok_or1T {e : Expr} {f : Fr → Store → Res Bool} {pos : Pos} (he : OkT Γ Wx X e f) : OkW (Γ := Γ) (Wx := Wx) (X := X) (.BoolOp .Or [e] pos) f := fun wh ψ α σw S σ H Q hf hs hp pins s I =>
  (pw_or1 (pt_gt e)).run wh pins s σ H Q I (he ψ α σw S σ H Q hf hs hp)
theorem ok_andT {a b : Expr} {rest : List Expr} {f g : Fr → Store → Res Bool} {pos : Pos} (ha : OkT Γ Wx X a f) (hb : OkW (Γ := Γ) (Wx := Wx) (X := X) (.BoolOp .And (b :: rest) pos) g) :
    OkW (Γ := Γ) (Wx := Wx) (X := X) (.BoolOp .And (a :: b :: rest) pos) (fun σ S => (f σ S).bind fun r S1 => if r then g σ S1 else .ok false S1) := fun wh ψ α σw S σ H Q hf hs hp pins s I => by
  refine (pw_and (pt_gt a) (pw_gw (.BoolOp .And (b :: rest) pos))).run wh pins s σ H Q I ?_
  refine ha.then hf hs hp fun r S1 α1 H1 x1 hf1 hs1 hp1 => ?_
  cases r with
  | true =>
    rw [if_pos rfl]
    exact fun wh' pins' s' I' => hb wh' ψ α1 σw S1 σ H1 Q hf1 hs1 hp1 pins' s' I'
  | false =>
    rw [if_neg Bool.false_ne_true]
    exact Post.now (Γ := Γ) hp1 hs1
theorem ok_orT {a b : Expr} {rest : List Expr} {f g : Fr → Store → Res Bool} {pos : Pos} (ha : OkT Γ Wx X a f) (hb : OkW (Γ := Γ) (Wx := Wx) (X := X) (.BoolOp .Or (b :: rest) pos) g) :
    OkW (Γ := Γ) (Wx := Wx) (X := X) (.BoolOp .Or (a :: b :: rest) pos) (fun σ S => (f σ S).bind fun r S1 => if r then .ok true S1 else g σ S1) := fun wh ψ α σw S σ H Q hf hs hp pins s I => by
  refine (pw_or (pt_gt a) (pw_gw (.BoolOp .Or (b :: rest) pos))).run wh pins s σ H Q I ?_
  refine ha.then hf hs hp fun r S1 α1 H1 x1 hf1 hs1 hp1 => ?_
  cases r with
  | false =>
    rw [if_neg Bool.false_ne_true]
    exact fun wh' pins' s' I' => hb wh' ψ α1 σw S1 σ H1 Q hf1 hs1 hp1 pins' s' I'
  | true =>
    rw [if_pos rfl]
    exact Post.now (Γ := Γ) hp1 hs1
theorem ok_one {op : BoolOp} {e : Expr} {f : Fr → Store → Res W} {pos : Pos} (he : OkE Γ Wx X e f) : OkE Γ Wx X (.BoolOp op [e] pos) f := fun ψ α σw S σ H Q hf hs hp => GE.of (pe_one (pe_ge e)) (he ψ α σw S σ H Q hf hs hp)
theorem ok_and {a b : Expr} {rest : List Expr} {f g : Fr → Store → Res W} {pos : Pos} (ha : OkE Γ Wx X a f) (hb : OkE Γ Wx X (.BoolOp .And (b :: rest) pos) g) :
    OkE Γ Wx X (.BoolOp .And (a :: b :: rest) pos) (fun σ S => (f σ S).bind fun w S1 => match w with | .p (.bl b) => if b then g σ S1 else .ok (.p (.bl false)) S1 | _ => .bad) := by
  intro ψ α σw S σ H Q hf hs hp
  refine GE.of (pe_and (pe_ge a) (pe_ge (.BoolOp .And (b :: rest) pos))) ?_
  refine ha.then hf hs hp fun w S1 v α1 H1 x1 hf1 hs1 r1 hp1 => ?_
  split at hp1
  · rename_i k
    cases r1
    refine ⟨k, rfl, ?_⟩
    cases k with
    | true => rw [if_pos rfl]; exact hb ψ α1 σw S1 σ H1 Q hf1 hs1 hp1
    | false => rw [if_neg Bool.false_ne_true]; exact Post.now (Γ := Γ) hp1 hs1 _ rfl
  · exact hp1.elim
theorem ok_or {a b : Expr} {rest : List Expr} {f g : Fr → Store → Res W} {pos : Pos} (ha : OkE Γ Wx X a f) (hb : OkE Γ Wx X (.BoolOp .Or (b :: rest) pos) g) :
    OkE Γ Wx X (.BoolOp .Or (a :: b :: rest) pos) (fun σ S => (f σ S).bind fun w S1 => match w with | .p (.bl b) => if b then .ok (.p (.bl true)) S1 else g σ S1 | _ => .bad) := by
  intro ψ α σw S σ H Q hf hs hp
  refine GE.of (pe_or (pe_ge a) (pe_ge (.BoolOp .Or (b :: rest) pos))) ?_
  refine ha.then hf hs hp fun w S1 v α1 H1 x1 hf1 hs1 r1 hp1 => ?_
  split at hp1
  · rename_i k
    cases r1
    refine ⟨k, rfl, ?_⟩
    cases k with
    | false => rw [if_neg Bool.false_ne_true]; exact hb ψ α1 σw S1 σ H1 Q hf1 hs1 hp1
    | true => rw [if_pos rfl]; exact Post.now (Γ := Γ) hp1 hs1 _ rfl
  · exact hp1.elim
theorem ok_ite {c a b : Expr} {h : Fr → Store → Res Bool} {f g : Fr → Store → Res W} {pos : Pos} (hc : OkT Γ Wx X c h) (ha : OkE Γ Wx X a f) (hb : OkE Γ Wx X b g) :
    OkE Γ Wx X (.IfExp c a b pos) (fun σ S => (h σ S).bind fun r S1 => if r then f σ S1 else g σ S1) := by
  intro ψ α σw S σ H Q hf hs hp
  refine GE.of (pe_ifExp (pt_gt c) (pe_ge a) (pe_ge b)) ?_
  refine hc.then hf hs hp fun r S1 α1 H1 x1 hf1 hs1 hp1 => ?_
  cases r with
  | true => rw [if_pos rfl]; exact ha ψ α1 σw S1 σ H1 Q hf1 hs1 hp1
  | false => rw [if_neg Bool.false_ne_true]; exact hb ψ α1 σw S1 σ H1 Q hf1 hs1 hp1
/-! ### isinstance -/
def tyS : Ty → String
  | .int => "int" | .bool => "bool" | .str => "str" | .tuple => "tuple" | .list => "list" | .dict => "dict"
theorem kit_all (a b : Ty) : kitB (tyS a) (tyS b) = some (isTy a b) := by
  cases a <;> cases b <;> decide +kernel
theorem kit_non (b : Ty) : kitB "NoneType" (tyS b) = some false := by
  cases b <;> decide +kernel
theorem isi_rule (hK : X.K = Γ.K) {α ψ : List Addr} {H : Hp} {S : Store} {w : W} {v : V} {T : Ty} {k : Bool} {Q : VK} (R : RS Γ H α ψ S) (r : RW Γ H α ψ w v) (h : isiW S w T = some k) (q : Q (.bl k) H) : rIsi X.K [v, .ty (tyS T)] H Q := by
  have go0 : ∀ (t : String) (j : Bool), kitB t (tyS T) = some j → j = k → TyX X.K H v (.type t) → rIsi X.K [v, .ty (tyS T)] H Q := fun t j e ej ty => ⟨v, .ty (tyS T), .type t, .type (tyS T), k, rfl, .ty _, ty, kit_ty (ej ▸ e), q⟩
  have go : ∀ (t : Ty) (s : String), tyS t = s → isTy t T = k → TyX X.K H v (.type s) → rIsi X.K [v, .ty (tyS T)] H Q := fun t s es e ty => go0 s _ (es ▸ kit_all t T) e ty
  unfold isiW at h
  split at h
  · cases r; exact go0 "NoneType" false (kit_non T) (Option.some.inj h) (.base .non)
  · cases h
  · rename_i x _ _
    cases x with
    | non => simp [tyP] at h
    | fn i => simp [tyP] at h
    | bl b => simp only [tyP] at h; cases r; exact go .bool "bool" rfl (Option.some.inj h) (.base (.bl _))
    | int b => simp only [tyP] at h; cases r; exact go .int "int" rfl (Option.some.inj h) (.base (.int _))
    | str b => simp only [tyP] at h; cases r; exact go .str "str" rfl (Option.some.inj h) (.base (.str _))
    | tup xs =>
      simp only [tyP] at h
      obtain ⟨a, vs, e, ha, _⟩ := r
      subst e
      refine go .tuple "tuple" rfl (Option.some.inj h) ?_
      rcases ha with ⟨o, ha, _⟩ | ⟨o, its, n, ha, hc, _⟩
      · exact .fTuple ha
      · exact .kTuple (hK ▸ ha) hc
    | lst xs =>
      simp only [tyP] at h
      obtain ⟨a, vs, e, ha, _⟩ := r
      subst e
      exact go .list "list" rfl (Option.some.inj h) (.base (.lst ha))
    | dk ks xs =>
      simp only [tyP] at h
      obtain ⟨a, us, e, ha, _⟩ := r
      subst e
      exact go .dict "dict" rfl (Option.some.inj h) (.base (.dK ha))
  · obtain ⟨a, e, ha⟩ := r
    subst e
    split at h
    · rename_i hk
      obtain ⟨o, h1, vs, eo, _⟩ := R.cell _ a _ ha hk
      exact go .list "list" rfl (Option.some.inj h) (.base (.lst (by rw [h1, eo])))
    · rename_i hk
      obtain ⟨o, h1, vs, eo, _⟩ := R.cell _ a _ ha hk
      exact go .dict "dict" rfl (Option.some.inj h) (.base (.dK (by rw [h1, eo])))
    · cases h
  · cases h
end
end Tp

/-! Subscripts, built-in functions. -/
namespace Tp
open PySem PySem.Spec PyProof.Rows L2
/-- not a starred argument -/
def nst : Expr → Bool
  | .Starred .. => false
  | _ => true
theorem nst_each {e : Expr} {es : List Expr} {env : Env} (h : nst e = true) : starEach (e :: es) env = (false, eval e env) :: starEach es env := by
  cases e <;> first
    | rfl
    | (simp [nst] at h; done)
theorem star_plain {env : Env} {pos : Pos} : ∀ {es : List Expr}, es.all nst = true → (backTo pos (starEach es env)).any (·.1) = false
  | [], _ => rfl
  | e :: es, h => by
    rw [List.all_cons, Bool.and_eq_true] at h
    rw [nst_each h.1]
    show (false || (backTo pos (starEach es env)).any (·.1)) = false
    rw [star_plain h.2]; rfl
/-- the names of built-in functions that programs call -/
def bltN : List Str := ["len", "abs", "int", "str", "tuple", "list", "sorted", "sum", "min", "max", "all", "any", "isinstance", "range", "enumerate", "zip", "set", "bool", "dict"]
structure Gd (Γ : Gm) (X : Cx) : Prop where
  hK : X.K = Γ.K
  calm : X.calm = true
  un : X.A.units + 64 < cLine
  blt : ∀ x ∈ bltN, X.mg x = none
section
variable {Γ : Gm} {Wx : WX} {X : Cx}
/-! ### isinstance -/
theorem ok_isi (G : Gd Γ X) {a : Expr} {f : Fr → Store → Res W} {T : Ty} {p p2 pos : Pos} (ha : OkE Γ Wx X a f) (hg : Gl X "isinstance") (hgT : Gl X (Str.ofString (tyS T))) (hn : nst a = true) :
    OkE Γ Wx X (.Call (.Name "isinstance" p) [a, .Name (Str.ofString (tyS T)) p2] [] pos) (fun σ S => (f σ S).bind fun x S1 => rOpt ((isiW S1 x T).map fun r => .p (.bl r)) S1) := by
  intro ψ α σw S σ H Q hf hs hp
  have hT : PE X (.Name (Str.ofString (tyS T)) p2) (tC (.ty (tyS T))) := by
    refine pe_bltn hgT ?_ (u := .type (tyS T)) ?_ rfl ?_ ?_
    · cases T <;> exact G.blt _ (by decide)
    · cases T <;> rfl
    · cases T <;> decide
    · cases T <;> decide
  refine GE.of (pe_callB call_isi hg (G.blt _ (by decide)) rfl (pa_cons (pe_ge a) (pa_cons hT pa_nil) (nst_each hn)) (by decide) (by decide) (nst_each hn)) ?_
  refine ha.then hf hs hp fun w S1 v α1 H1 x1 hf1 hs1 r1 hp1 => ?_
  obtain ⟨w2, e, hp2⟩ := hp1.opt
  cases e3 : isiW S1 w T with
  | none => rw [e3] at e; cases e
  | some k =>
    rw [e3] at e; cases e
    exact isi_rule G.hK hs1 r1 e3 (hp2.now hs1 _ rfl)
/-! ### subscripts -/
theorem ixOf_eq (n : Nat) (i : Int) : ixOf n i = ixN n i := rfl
theorem atP_rel {H : Hp} {F : Addr → Prop} {xs : List P} {vs : List V} {i : Int} {x : P} (h : RPs Γ H F xs vs) (e : atP xs i = some x) : ∃ v, atI vs i = some v ∧ RP Γ H F x v := by
  unfold atP at e
  unfold atI
  rw [← h.length]
  rw [ixOf_eq] at e
  split at e
  · rename_i j hj
    obtain ⟨v, e1, r⟩ := h.get e
    exact ⟨v, by rw [hj]; exact e1, r⟩
  · cases e
def IsDict (e : Expr) : Bool := false
/-- a subscript: a dict's item, or a place -/
theorem ok_ix (G : Gd Γ X) {a b : Expr} {f g : Fr → Store → Res W} {pos : Pos} (ha : OkE Γ Wx X a f) (hb : OkE Γ Wx X b g) (hs0 : PlainIx b) :
    OkE Γ Wx X (.Subscript a b pos) (fun σ S => (f σ S).bind fun x S1 => (g σ S1).bind fun y S2 => rOpt ((ixW S2 x y).map .p) S2) := by
  intro ψ α σw S σ H Q hf hs hp
  have hix : IxR X (fun x y H Q => ∃ a v, x = .ref a ∧ DGet H a y (some v) ∧ Q v H) := by
    intro value slice pins s σ H x y v u Q I rx ry ⟨a, w, ex, g, q⟩ hsl
    subst ex
    obtain rfl : v = Value.ref a := rx
    refine tail_any (dict_typeIs I g) PySem.F.slot_dict_getitem.lookup ?_ hsl
    exact d_getItem (by have := G.un; omega) I g ry fun w' s3 I3 rw' => ⟨_, H, I3, rw', q⟩
  refine GE.of (pe_ix ix_dyn (pe_ge a) (pe_ge b) hs0) ?_
  refine ha.then hf hs hp fun w S1 v α1 H1 x1 hf1 hs1 r1 hp1 => ?_
  refine hb.then hf1 hs1 hp1 fun w2 S2 v2 α2 H2 x2 hf2 hs2 r2 hp2 => ?_
  obtain ⟨w3, e3, hp3⟩ := hp2.opt
  cases e4 : ixW S2 w w2 with
  | none => rw [e4] at e3; cases e3
  | some r =>
    rw [e4] at e3; cases e3
    have r1' := r1.ext x2
    unfold ixW at e4
    split at e4
    · rename_i kvs hd
      split at e4
      · rename_i b2
        split at e4
        · rename_i k hk
          obtain ⟨d, us, ev, hd2, k1, k2⟩ := dView_rel hs2 r1' hd
          have eu := toKk_rel (Γ := Γ) r2 hk
          obtain ⟨u, hu, ru⟩ := (dGet_rel (k := k) k1 k2).1 r e4
          subst eu ev
          exact ⟨_, hix, d, u, rfl, hu ▸ DGet.k hd2, hp3.now hs2 u ru⟩
        · cases e4
      · cases e4
    · split at e4
      · rename_i i
        obtain rfl : v2 = V.int i := r2
        split at e4
        · rename_i z _
          split at e4
          · rename_i hl
            cases e5 : atP z i with
            | none => rw [e5] at e4; cases e4
            | some c =>
              rw [e5] at e4; cases e4
              obtain rfl : v = V.str (toS z) := r1'
              refine ⟨_, ix_str, toS z, i, c, rfl, rfl, by rw [toS_len, ← line_eq]; exact hl, ?_, hp3.now hs2 _ rfl⟩
              show atI (toS z).cps.toList i = some c
              rw [show (toS z).cps.toList = z by simp [toS]]
              unfold atP at e5
              unfold atI
              rw [ixOf_eq] at e5
              split at e5
              · rename_i j hj; rw [hj]; exact e5
              · cases e5
          · cases e4
        · split at e4
          · rename_i xs hv
            obtain ⟨p, vs, ev, hq, rv⟩ := sView_rel hs2 r1' hv
            obtain ⟨u, hu, ru⟩ := atP_rel rv e4
            rcases hq with hq | hq
            · exact ⟨_, ix_list, p, vs, i, u, ev, rfl, SqL.of hq.1, hu, hp3.now hs2 u ru⟩
            · exact ⟨_, ix_tup, p, vs, i, u, ev, rfl, G.hK ▸ hq.sq, hu, hp3.now hs2 u ru⟩
          · cases e4
      · cases e4
/-! ### slices -/
theorem ok_onone : OkO Γ Wx X none (fun _ S => .ok none S) := by
  intro ψ α σw S σ H Q hf hs hp
  exact fun pins s I => po_none.run pins s σ H Q I (hp.now hs)
theorem ok_osome {e : Expr} {f : Fr → Store → Res W} (he : OkE Γ Wx X e f) : OkO Γ Wx X (some e) (fun σ S => (f σ S).bind fun w S1 => match intOf w with | some i => .ok (some i) S1 | none => .bad) := by
  intro ψ α σw S σ H Q hf hs hp
  refine fun pins s I => (po_some (pe_ge e)).run pins s σ H Q I ?_
  refine he.then hf hs hp fun w S1 v α1 H1 x1 hf1 hs1 r1 hp1 => ?_
  cases e4 : intOf w with
  | none => rw [e4] at hp1; exact hp1.elim
  | some i =>
    rw [e4] at hp1
    unfold intOf at e4
    split at e4
    · cases e4
      exact ⟨i, r1, Post.now (Γ := Γ) hp1 hs1⟩
    · cases e4
theorem sIx_eq (n d : Nat) (o : Option Int) : sIx n d o = HT.sIx n d o := by
  cases o with
  | none => rfl
  | some i => rfl
theorem cutL_rel {H : Hp} {F : Addr → Prop} {xs : List P} {vs : List V} {lo hi : Option Int} (h : RPs Γ H F xs vs) : RPs Γ H F (cutL xs lo hi) (cutV vs lo hi) := by
  unfold cutL cutV
  rw [sIx_eq, sIx_eq, h.length]
  exact (h.drop _).take _
theorem ok_sl (G : Gd Γ X) {a : Expr} {lo hi : Option Expr} {f : Fr → Store → Res W} {g h : Fr → Store → Res (Option Int)} {pos p2 : Pos} (ha : OkE Γ Wx X a f) (hl : OkO Γ Wx X lo g) (hh : OkO Γ Wx X hi h) :
    OkN Γ Wx X (.Subscript a (.Slice lo hi none p2) pos) (fun σ S => (f σ S).bind fun x S1 => (g σ S1).bind fun l S2 => (h σ S2).bind fun h S3 => rOpt ((slW S3 x l h).map .p) S3) := by
  intro ψ α σw S σ H Q hf hs hp
  refine GE.of (pe_slice sl_dyn (pe_ge a) (po_go lo) (po_go hi)) ?_
  refine ha.then hf hs hp fun w S1 v α1 H1 x1 hf1 hs1 r1 hp1 => ?_
  refine hl.then hf1 hs1 hp1 fun l S2 α2 H2 x2 hf2 hs2 hp2 => ?_
  refine hh.then hf2 hs2 hp2 fun u S3 α3 H3 x3 hf3 hs3 hp3 => ?_
  obtain ⟨w3, e3, hp4⟩ := hp3.opt
  cases e4 : slW S3 w l u with
  | none => rw [e4] at e3; cases e3
  | some r =>
    rw [e4] at e3; cases e3
    have r3 := r1.ext (x2.trans x3)
    have lst : (lView S3 w).map (fun xs => P.lst (cutL xs l u)) = some r → ∃ rr, SlR X rr ∧ rr v l u H3 Q := fun e4 => by
      cases e5 : lView S3 w with
      | none => rw [e5] at e4; cases e4
      | some xs =>
        rw [e5] at e4; cases e4
        obtain ⟨p, vs, ev, hq, rv⟩ := lView_rel hs3 r3 e5
        refine ⟨_, sl_list, p, vs, ev, SqL.of hq, fun q hn => ?_⟩
        obtain ⟨z1, z2⟩ := newLst hs3 (.inr fun a h => x1.dom a (x2.dom a (x3.dom a h))) hn (cutL_rel rv)
        exact hp4.new hs3 hn _ z1 z2
    unfold slW at e4
    split at e4
    · rename_i z
      split at e4
      · rename_i hz
        cases e4
        obtain rfl : v = V.str (toS z) := r3
        refine ⟨_, sl_str, toS z, rfl, by rw [toS_len, ← line_eq]; exact hz, ?_⟩
        have e : cutS (toS z) l u = toS (cutL z l u) := by
          unfold cutS cutL
          rw [sIx_eq, sIx_eq, toS_len]
          show (⟨((z.toArray.toList.drop _).take _).toArray⟩ : Str) = ⟨_⟩
          rw [List.toList_toArray]
        rw [e]
        exact hp4.now hs3 _ rfl trivial
      · cases e4
    · rename_i xs
      cases e4
      obtain ⟨p, vs, ev, hq, rv⟩ := r3
      refine ⟨_, sl_tupF, p, vs, ev, G.hK ▸ hq.sq, fun hw => ?_, fun hw q o hn hd => ?_⟩
      · have e : cutL xs l u = xs := by
          unfold cutL
          rw [sIx_eq, sIx_eq, rv.length, hw.1, hw.2, List.drop_zero, Nat.sub_zero, ← rv.length, List.take_length]
        rw [e] at hp4
        exact hp4.now hs3 _ ⟨p, vs, rfl, hq, rv⟩ trivial
      · exact hp4.new hs3 hn _ (tup_new hn hd (cutL_rel rv)) trivial
    · exact lst e4
theorem ok_rev {a : Expr} {k : Nat} {f : Fr → Store → Res W} {p1 p2 p3 pos : Pos} (ha : OkE Γ Wx X a f) :
    OkN Γ Wx X (.Subscript a (.Slice none none (some (.UnaryOp .USub (.Constant (.int 1) k p1) p2)) p3) pos) (fun σ S => (f σ S).bind fun x S1 => rOpt ((lView S1 x).map fun xs => .p (.lst xs.reverse)) S1) := by
  intro ψ α σw S σ H Q hf hs hp
  refine GE.of (pe_revL (pe_ge a)) ?_
  refine ha.then hf hs hp fun w S1 v α1 H1 x1 hf1 hs1 r1 hp1 => ?_
  obtain ⟨w3, e3, hp4⟩ := hp1.opt
  cases e5 : lView S1 w with
  | none => rw [e5] at e3; cases e3
  | some xs =>
    rw [e5] at e3; cases e3
    obtain ⟨p, vs, ev, hq, rv⟩ := lView_rel hs1 r1 e5
    refine ⟨p, vs, ev, SqL.of hq, fun q hn => ?_⟩
    obtain ⟨z1, z2⟩ := newLst hs1 (.inr x1.dom) hn rv.rev
    exact hp4.new hs1 hn _ z1 z2
/-! ### sorting -/
theorem insI_perm (i : Int) : ∀ l : List Int, (insI i l).Perm (i :: l)
  | [] => .refl _
  | j :: r => by
    unfold insI
    split
    · exact .refl _
    · exact ((insI_perm i r).cons j).trans (.swap i j r)
theorem srtI_perm : ∀ l : List Int, (srtI l).Perm l
  | [] => .refl _
  | i :: r => (insI_perm i _).trans ((srtI_perm r).cons i)
theorem insI_sorted (i : Int) : ∀ l : List Int, l.Pairwise (· ≤ ·) → (insI i l).Pairwise (· ≤ ·)
  | [], _ => by simp [insI]
  | j :: r, h => by
    obtain ⟨h1, h2⟩ := List.pairwise_cons.mp h
    unfold insI
    split
    · rename_i c
      refine List.pairwise_cons.mpr ⟨fun a ha => ?_, h⟩
      rcases List.mem_cons.mp ha with e | e
      · omega
      · have := h1 a e; omega
    · rename_i c
      refine List.pairwise_cons.mpr ⟨fun a ha => ?_, insI_sorted i r h2⟩
      have := (insI_perm i r).mem_iff.mp ha
      rcases List.mem_cons.mp this with e | e
      · omega
      · exact h1 a e
theorem srtI_sorted : ∀ l : List Int, (srtI l).Pairwise (· ≤ ·)
  | [] => .nil
  | i :: r => insI_sorted i _ (srtI_sorted r)
theorem srtI_uniq {l ns : List Int} (h1 : ns.Perm l) (h2 : ns.Pairwise (· ≤ ·)) : ns = srtI l :=
  List.Perm.eq_of_pairwise (fun a b _ _ h1 h2 => Int.le_antisymm h1 h2) h2 (srtI_sorted l) (h1.trans (srtI_perm l).symm)
theorem pInts_eq : ∀ {xs : List P} {is : List Int}, pInts xs = some is → xs = is.map P.int
  | [], is, h => by cases h; rfl
  | .int i :: r, is, h => by
    simp only [pInts] at h
    cases e : pInts r with
    | none => rw [e] at h; cases h
    | some js => rw [e] at h; cases h; rw [pInts_eq e]; rfl
  | .non :: _, _, h => nomatch h
  | .bl _ :: _, _, h => nomatch h
  | .str _ :: _, _, h => nomatch h
  | .tup _ :: _, _, h => nomatch h
  | .lst _ :: _, _, h => nomatch h
  | .dk _ _ :: _, _, h => nomatch h
  | .fn _ :: _, _, h => nomatch h
theorem pBls_eq : ∀ {xs : List P} {is : List Bool}, pBls xs = some is → xs = is.map P.bl
  | [], is, h => by cases h; rfl
  | .bl i :: r, is, h => by
    simp only [pBls] at h
    cases e : pBls r with
    | none => rw [e] at h; cases h
    | some js => rw [e] at h; cases h; rw [pBls_eq e]; rfl
  | .non :: _, _, h => nomatch h
  | .int _ :: _, _, h => nomatch h
  | .str _ :: _, _, h => nomatch h
  | .tup _ :: _, _, h => nomatch h
  | .lst _ :: _, _, h => nomatch h
  | .dk _ _ :: _, _, h => nomatch h
  | .fn _ :: _, _, h => nomatch h
theorem pNms_eq : ∀ {xs : List P} {is : List Nm}, pNms xs = some is → xs = is.map P.str
  | [], is, h => by cases h; rfl
  | .str i :: r, is, h => by
    simp only [pNms] at h
    cases e : pNms r with
    | none => rw [e] at h; cases h
    | some js => rw [e] at h; cases h; rw [pNms_eq e]; rfl
  | .non :: _, _, h => nomatch h
  | .int _ :: _, _, h => nomatch h
  | .bl _ :: _, _, h => nomatch h
  | .tup _ :: _, _, h => nomatch h
  | .lst _ :: _, _, h => nomatch h
  | .dk _ _ :: _, _, h => nomatch h
  | .fn _ :: _, _, h => nomatch h
theorem RPs.ints_of {H : Hp} {F : Addr → Prop} : ∀ {is : List Int} {vs : List V}, RPs Γ H F (is.map P.int) vs → vs = is.map V.int
  | [], _, h => h
  | i :: is, _, ⟨v, r, e, h1, h2⟩ => by
    rw [e, RPs.ints_of h2]
    obtain rfl : v = V.int i := h1
    rfl
theorem RPs.bls_of {H : Hp} {F : Addr → Prop} : ∀ {is : List Bool} {vs : List V}, RPs Γ H F (is.map P.bl) vs → vs = is.map V.bl
  | [], _, h => h
  | i :: is, _, ⟨v, r, e, h1, h2⟩ => by
    rw [e, RPs.bls_of h2]
    obtain rfl : v = V.bl i := h1
    rfl
theorem RPs.nms_of {H : Hp} {F : Addr → Prop} : ∀ {is : List Nm} {vs : List V}, RPs Γ H F (is.map P.str) vs → vs = (is.map toS).map V.str
  | [], _, h => h
  | i :: is, _, ⟨v, r, e, h1, h2⟩ => by
    rw [e, RPs.nms_of h2]
    obtain rfl : v = V.str (toS i) := h1
    rfl
theorem sumI_eq : ∀ l : List Int, sumI l = l.sum
  | [] => rfl
  | i :: r => by rw [List.sum_cons, ← sumI_eq r]; rfl
theorem minI_le : ∀ (l : List Int) (m : Int), minI m l ≤ m ∧ (∀ y ∈ l, minI m l ≤ y) ∧ (minI m l = m ∨ minI m l ∈ l)
  | [], m => ⟨Int.le_refl _, (fun _ h => nomatch h), Or.inl rfl⟩
  | i :: r, m => by
    have h4 : minI m (i :: r) = minI (if i < m then i else m) r := rfl
    rw [h4]
    by_cases c : i < m
    · rw [if_pos c]
      obtain ⟨h1, h2, h3⟩ := minI_le r i
      refine ⟨by omega, fun y hy => ?_, ?_⟩
      · rcases List.mem_cons.mp hy with e | e
        · omega
        · exact h2 y e
      · rcases h3 with h3 | h3
        · exact Or.inr (List.mem_cons.mpr (Or.inl h3))
        · exact Or.inr (List.mem_cons_of_mem _ h3)
    · rw [if_neg c]
      obtain ⟨h1, h2, h3⟩ := minI_le r m
      refine ⟨by omega, fun y hy => ?_, ?_⟩
      · rcases List.mem_cons.mp hy with e | e
        · omega
        · exact h2 y e
      · rcases h3 with h3 | h3
        · exact Or.inl h3
        · exact Or.inr (List.mem_cons_of_mem _ h3)
theorem maxI_le : ∀ (l : List Int) (m : Int), m ≤ maxI m l ∧ (∀ y ∈ l, y ≤ maxI m l) ∧ (maxI m l = m ∨ maxI m l ∈ l)
  | [], m => ⟨Int.le_refl _, (fun _ h => nomatch h), Or.inl rfl⟩
  | i :: r, m => by
    have h4 : maxI m (i :: r) = maxI (if i > m then i else m) r := rfl
    rw [h4]
    by_cases c : i > m
    · rw [if_pos c]
      obtain ⟨h1, h2, h3⟩ := maxI_le r i
      refine ⟨by omega, fun y hy => ?_, ?_⟩
      · rcases List.mem_cons.mp hy with e | e
        · omega
        · exact h2 y e
      · rcases h3 with h3 | h3
        · exact Or.inr (List.mem_cons.mpr (Or.inl h3))
        · exact Or.inr (List.mem_cons_of_mem _ h3)
    · rw [if_neg c]
      obtain ⟨h1, h2, h3⟩ := maxI_le r m
      refine ⟨by omega, fun y hy => ?_, ?_⟩
      · rcases List.mem_cons.mp hy with e | e
        · omega
        · exact h2 y e
      · rcases h3 with h3 | h3
        · exact Or.inl h3
        · exact Or.inr (List.mem_cons_of_mem _ h3)
theorem dec_all : ∀ n : Fin 100, Str.ofString (toString ((n.val : Nat) : Int)) = toS (if n.val < 10 then [48 + n.val] else [48 + n.val / 10, 48 + n.val % 10]) := by decide +kernel
theorem decN_eq {i : Int} {x : Nm} (h : decN i = some x) : i.natAbs.log2 < 1920 ∧ Str.ofString (toString i) = toS x := by
  unfold decN at h
  split at h
  · rename_i c
    obtain ⟨n, rfl⟩ := Int.eq_ofNat_of_zero_le c.1
    have hn : n < 100 := by omega
    have h1 : ((n : Int)).natAbs.log2 < 1920 := by
      have : ((n : Int)).natAbs = n := rfl
      rw [this]
      exact Nat.lt_of_le_of_lt (Nat.log2_le_self n) (by omega)
    refine ⟨h1, ?_⟩
    have e := dec_all ⟨n, hn⟩
    rw [e]
    split at h
    · rename_i c2; cases h; rw [if_pos (show n < 10 by omega)]; rfl
    · rename_i c2; cases h; rw [if_neg (show ¬ n < 10 by omega)]; rfl
  · cases h
end
end Tp

/-! min, max, sum of a tuple of ints. -/
namespace Tp
open PySem PySem.Spec PyProof.Rows L2
section
variable {prog : Program} {w : World} {A : Around} {E : Value → Shared → Prop} {s : Shared} {l : Addr}
theorem iter_tupI {xs : Array (Int × Tok)} {E : Value → Shared → Prop} {C : Value → Shared → Prop} (hl : s.heap.IsTuple l (intItems xs))
    (go : ∀ s₂, s₂ = { s with heap := s.heap.push { cls := .type "tuple_iterator", data := .fields #[.ref l, .int ((0 : Nat) : Int) 0] } } → s₂.heap.IsTupleIter s.heap.objs.size l 0 → s₂.heap.IsTuple l (intItems xs) → (∀ b ∈ [s.heap.objs.size, l], b < s₂.heap.objs.size) → l ≠ s.heap.objs.size → C (.ref s.heap.objs.size) s₂) :
    wpAny (model prog w) A (pyIter (.ref l)) C E s := by
  have hlt : l < s.heap.objs.size := by obtain ⟨o, ho, _⟩ := hl; exact Heap.lt_size ho
  refine wpAny_pyIter_tuple hl (go _ rfl ⟨_, Heap.get?_push_size _ rfl, rfl, rfl⟩ (hl.push _) (fun b hb => ?_) (Nat.ne_of_lt hlt))
  rw [Heap.size_push]
  rcases List.mem_cons.mp hb with e | hb
  · rw [e]; exact Nat.lt_succ_self _
  · have e : b = l := by simpa using hb
    rw [e]; exact Nat.lt_succ_of_lt hlt
theorem kept_of {o : Obj} {h' : Heap} (k : ∀ b u, b ∉ [s.heap.objs.size] → (s.heap.push o).get? b = some u → h'.get? b = some u) (b : Addr) (u : Obj) (e : s.heap.get? b = some u) : h'.get? b = some u :=
  k b u (fun z => Nat.ne_of_lt (Heap.lt_size e) (by simpa using z)) (Heap.get?_push_of_some _ e)
theorem min_tupI {its : List Value} {ns : List Int} {Q : Value → Shared → Prop} (hh : A.handled = none) (hl : s.heap.IsTuple l its.toArray) (hi : IntsAre its ns) (hne : 0 < ns.length)
    (fin : ∀ h' tk M t', (∀ b o, s.heap.get? b = some o → h'.get? b = some o) → M ∈ ns → (∀ a, a ∈ ns → M ≤ a) → Q (.int M t') { s with heap := h', toks := tk }) : wpAny (model prog w) A (call (.builtin "min") [.ref l]) Q E s := by
  obtain ⟨xs, e⟩ := hi.allInts.items
  have hn : numsOf (intItems xs).toList = ns := by rw [← e]; exact hi.numsOf
  rw [nums_intItems] at hn
  subst hn
  rw [e] at hl
  have hsz : 0 < xs.size := by simpa using hne
  refine call_min_walk (iter_tupI hl fun s₂ e2 st it hfp nl => ?_)
  subst e2
  refine ⟨_, _, _, _, _, _, _, rfl, Walks.tuple (A := A.in1) hh _ l nl (intItems xs), ⟨st, it⟩, hfp, by simpa [intItems] using hsz, CmpOf.ints_lt (numAt xs) (fun _ _ => intItems_at), fun v h' tk hP hk => ?_⟩
  obtain ⟨t, rfl⟩ := intItems_at hP
  obtain ⟨h1, h2⟩ := argBest_lt (numAt xs) (xs.size - 1)
  have es : (intItems xs).size = xs.size := by simp [intItems]
  refine fin h' tk _ t (kept_of hk) ?_ fun a ha => ?_
  · rw [numAt_eq, es]; exact PySem.getD_mem (by rw [List.length_map, Array.length_toList]; omega)
  · obtain ⟨j, hj, rfl⟩ := mem_getD ha
    rw [List.length_map, Array.length_toList] at hj
    rw [← numAt_eq, es]; exact h2 j (by omega)
theorem max_tupI {its : List Value} {ns : List Int} {Q : Value → Shared → Prop} (hh : A.handled = none) (hl : s.heap.IsTuple l its.toArray) (hi : IntsAre its ns) (hne : 0 < ns.length)
    (fin : ∀ h' tk M t', (∀ b o, s.heap.get? b = some o → h'.get? b = some o) → M ∈ ns → (∀ a, a ∈ ns → a ≤ M) → Q (.int M t') { s with heap := h', toks := tk }) : wpAny (model prog w) A (call (.builtin "max") [.ref l]) Q E s := by
  obtain ⟨xs, e⟩ := hi.allInts.items
  have hn : numsOf (intItems xs).toList = ns := by rw [← e]; exact hi.numsOf
  rw [nums_intItems] at hn
  subst hn
  rw [e] at hl
  have hsz : 0 < xs.size := by simpa using hne
  refine call_max_walk (iter_tupI hl fun s₂ e2 st it hfp nl => ?_)
  subst e2
  refine ⟨_, _, _, _, _, _, _, rfl, Walks.tuple (A := A.in1) hh _ l nl (intItems xs), ⟨st, it⟩, hfp, by simpa [intItems] using hsz, CmpOf.ints_gt (numAt xs) (fun _ _ => intItems_at), fun v h' tk hP hk => ?_⟩
  obtain ⟨t, rfl⟩ := intItems_at hP
  obtain ⟨h1, h2⟩ := argBest_gt (numAt xs) (xs.size - 1)
  have es : (intItems xs).size = xs.size := by simp [intItems]
  refine fin h' tk _ t (kept_of hk) ?_ fun a ha => ?_
  · rw [numAt_eq, es]; exact PySem.getD_mem (by rw [List.length_map, Array.length_toList]; omega)
  · obtain ⟨j, hj, rfl⟩ := mem_getD ha
    rw [List.length_map, Array.length_toList] at hj
    rw [← numAt_eq, es]; exact h2 j (by omega)
theorem sum_tupI {its : List Value} {ns : List Int} {Q : Value → Shared → Prop} (hh : A.handled = none) (hl : s.heap.IsTuple l its.toArray) (hi : IntsAre its ns)
    (fin : ∀ h' tk t', (∀ b o, s.heap.get? b = some o → h'.get? b = some o) → Q (.int ns.sum t') { s with heap := h', toks := tk }) : wpAny (model prog w) A (call (.builtin "sum") [.ref l]) Q E s := by
  obtain ⟨xs, e⟩ := hi.allInts.items
  have hn : numsOf (intItems xs).toList = ns := by rw [← e]; exact hi.numsOf
  rw [nums_intItems] at hn
  rw [e] at hl
  refine call_sum_walkG (iter_tupI hl fun s₂ e2 st it hfp nl => ?_)
  subst e2
  refine ⟨_, _, _, _, _, _, numAt xs, rfl, Walks.tuple (A := A.in1) hh _ l nl (intItems xs), ⟨st, it⟩, hfp, (fun _ _ => intItems_at), fun h' tk t' hk => ?_⟩
  have es : (intItems xs).size = xs.size := by simp [intItems]
  have z := fin h' tk t' (kept_of hk)
  rw [es, preSum_eq, List.take_of_length_le (by simp), hn]; exact z
end
section
variable {X : Cx}
theorem cr_sumT (hc : X.calm = true) : CallR X (.builtin "sum") (fun vs H Q => ∃ (a : Addr) (ns : List Int), vs = [V.ref a] ∧ SqT X.K H a (ns.map V.int) ∧ Q (.int ns.sum) H) := by
  intro pins s σ H vs us Q I r h
  obtain ⟨a, ns, rfl, hs, q⟩ := h
  obtain ⟨its, rv, hl, _⟩ := I.tuple hs
  rw [Vals.ref1 r]
  exact sum_tupI (I.ok.hd hc) (show s.heap.IsTuple a its.toArray from hl) rv.ints fun h' tk t' hk => ⟨.int _, H, I.kept hk, ⟨_, rfl⟩, q⟩
theorem cr_minT (hc : X.calm = true) : CallR X (.builtin "min") (fun vs H Q => ∃ (a : Addr) (ns : List Int), vs = [V.ref a] ∧ SqT X.K H a (ns.map V.int) ∧ 0 < ns.length ∧ ∀ m, m ∈ ns → (∀ y, y ∈ ns → m ≤ y) → Q (.int m) H) := by
  intro pins s σ H vs us Q I r h
  obtain ⟨a, ns, rfl, hs, hne, q⟩ := h
  obtain ⟨its, rv, hl, _⟩ := I.tuple hs
  rw [Vals.ref1 r]
  exact min_tupI (I.ok.hd hc) (show s.heap.IsTuple a its.toArray from hl) rv.ints hne fun h' tk m t' hk h1 h2 => ⟨.int _, H, I.kept hk, ⟨_, rfl⟩, q m h1 h2⟩
theorem cr_maxT (hc : X.calm = true) : CallR X (.builtin "max") (fun vs H Q => ∃ (a : Addr) (ns : List Int), vs = [V.ref a] ∧ SqT X.K H a (ns.map V.int) ∧ 0 < ns.length ∧ ∀ m, m ∈ ns → (∀ y, y ∈ ns → y ≤ m) → Q (.int m) H) := by
  intro pins s σ H vs us Q I r h
  obtain ⟨a, ns, rfl, hs, hne, q⟩ := h
  obtain ⟨its, rv, hl, _⟩ := I.tuple hs
  rw [Vals.ref1 r]
  exact max_tupI (I.ok.hd hc) (show s.heap.IsTuple a its.toArray from hl) rv.ints hne fun h' tk m t' hk h1 h2 => ⟨.int _, H, I.kept hk, ⟨_, rfl⟩, q m h1 h2⟩
end
end Tp

/-! Built-in functions, methods. -/
namespace Tp
open PySem PySem.Spec PyProof.Rows L2
/-! ### texts sorted -/
theorem nmLt_irrefl (x : Nm) : nmLt x x = false := by rw [nmLt_dec]; simp
theorem insN_perm (i : Nm) : ∀ l : List Nm, (insN i l).Perm (i :: l)
  | [] => .refl _
  | j :: r => by
    unfold insN
    split
    · exact ((insN_perm i r).cons j).trans (.swap i j r)
    · exact .refl _
theorem srtN_perm : ∀ l : List Nm, (srtN l).Perm l
  | [] => .refl _
  | i :: r => (insN_perm i _).trans ((srtN_perm r).cons i)
def leN (a b : Nm) : Prop := ¬ b < a
theorem leN_trans {a b c : Nm} (h1 : leN a b) (h2 : leN b c) : leN a c := by
  have h1 : a ≤ b := List.not_lt.mp h1
  have h2 : b ≤ c := List.not_lt.mp h2
  exact List.not_lt.mpr (List.le_trans h1 h2)
theorem leN_anti {a b : Nm} (h1 : leN a b) (h2 : leN b a) : a = b := by
  have h1 : a ≤ b := List.not_lt.mp h1
  have h2 : b ≤ a := List.not_lt.mp h2
  exact List.le_antisymm h1 h2
theorem insN_sorted (i : Nm) : ∀ l : List Nm, l.Pairwise leN → (insN i l).Pairwise leN
  | [], _ => by simp [insN]
  | j :: r, h => by
    obtain ⟨h1, h2⟩ := List.pairwise_cons.mp h
    unfold insN
    split
    · rename_i c
      rw [nmLt_dec, decide_eq_true_iff] at c
      refine List.pairwise_cons.mpr ⟨fun a ha => ?_, insN_sorted i r h2⟩
      have := (insN_perm i r).mem_iff.mp ha
      rcases List.mem_cons.mp this with e | e
      · rw [e]; exact fun q => List.lt_irrefl _ (List.lt_trans q c)
      · exact h1 a e
    · rename_i c
      rw [nmLt_dec, decide_eq_true_iff] at c
      refine List.pairwise_cons.mpr ⟨fun a ha => ?_, h⟩
      rcases List.mem_cons.mp ha with e | e
      · rw [e]; exact c
      · exact leN_trans c (h1 a e)
theorem srtN_sorted : ∀ l : List Nm, (srtN l).Pairwise leN
  | [] => .nil
  | i :: r => insN_sorted i _ (srtN_sorted r)
theorem risingS_pair : ∀ (l : List Nm) (p : Nm), risingS (toS p) (l.map toS) = true → (p :: l).Pairwise leN
  | [], p, _ => by simp
  | x :: r, p, h => by
    have h : (!Spec.ltCps (toS x).cps.toList (toS p).cps.toList && risingS (toS x) (r.map toS)) = true := h
    rw [Bool.and_eq_true] at h
    have h1 : leN p x := by
      have h3 := h.1
      rw [PyProof.Rows.ltCps_eq, show (toS x).cps.toList = x by simp [toS], show (toS p).cps.toList = p by simp [toS]] at h3
      cases hd : decide (x < p) with
      | true => rw [hd] at h3; cases h3
      | false => exact of_decide_eq_false hd
    have ih := risingS_pair r x h.2
    refine List.pairwise_cons.mpr ⟨fun a ha => ?_, ih⟩
    rcases List.mem_cons.mp ha with e | e
    · rw [e]; exact h1
    · exact leN_trans h1 ((List.pairwise_cons.mp ih).1 a e)
theorem sortedS_pair {l : List Nm} (h : sortedS (l.map toS) = true) : l.Pairwise leN := by
  cases l with
  | nil => exact .nil
  | cons x r => exact risingS_pair r x h
theorem map_toS_of : ∀ {ys : List Str} {xs : List Nm}, (∀ y ∈ ys, y ∈ xs.map toS) → ∃ zs : List Nm, ys = zs.map toS
  | [], _, _ => ⟨[], rfl⟩
  | y :: ys, xs, h => by
    obtain ⟨z, _, e⟩ := List.mem_map.mp (h y List.mem_cons_self)
    obtain ⟨zs, e2⟩ := map_toS_of (ys := ys) (xs := xs) fun a ha => h a (List.mem_cons_of_mem _ ha)
    exact ⟨z :: zs, by rw [List.map_cons, e, e2]⟩
theorem ofS (z : Str) : toS z.cps.toList = z := by
  show (⟨z.cps.toList.toArray⟩ : Str) = z
  rw [Array.toArray_toList]
theorem srtN_uniq {l : List Nm} {ys : List Str} (h1 : ys.Perm (l.map toS)) (h2 : sortedS ys = true) : ys = (srtN l).map toS := by
  obtain ⟨zs, e⟩ := map_toS_of (fun y hy => h1.mem_iff.mp hy)
  subst e
  have hp : zs.Perm l := by
    have q := h1.map fun z : Str => z.cps.toList
    rw [List.map_map, List.map_map] at q
    have e : ((fun z : Str => z.cps.toList) ∘ toS) = id := by funext z; simp [toS]
    rw [e, List.map_id, List.map_id] at q
    exact q
  have e := List.Perm.eq_of_pairwise (le := leN) (fun a b _ _ h1 h2 => leN_anti h1 h2) (sortedS_pair h2) (srtN_sorted l) (hp.trans (srtN_perm l).symm)
  rw [e]
section
variable {Γ : Gm} {Wx : WX} {X : Cx}
def f1S : F1 → String
  | .len | .lenset => "len" | .abs => "abs" | .int => "int" | .str => "str" | .tuple => "tuple" | .list => "list" | .sorted | .sortset => "sorted" | .sum => "sum" | .min => "min" | .max => "max" | .all => "all" | .any => "any"
def f1V : F1 → Value
  | .int => .type "int" | .str => .type "str" | .tuple => .type "tuple" | .list => .type "list"
  | f => .builtin (f1S f)
theorem keys_strs {kvs : List (Kk × P)} {ns : List Nm} (h : pNms (kvs.map fun kv => ofKk kv.1) = some ns) : kvs.map (fun kv => kS kv.1) = (ns.map toS).map Sum.inr := by
  have e := pNms_eq h
  clear h
  induction kvs generalizing ns with
  | nil => cases ns with | nil => rfl | cons => simp at e
  | cons kv r ih =>
    cases ns with
    | nil => simp at e
    | cons n ns =>
      rw [List.map_cons, List.map_cons] at e
      obtain ⟨e1, e2⟩ := List.cons.inj e
      rw [List.map_cons, List.map_cons, List.map_cons, ih e2]
      cases hk : kv.1 with
      | inl i => rw [hk] at e1; cases e1
      | inr x => rw [hk] at e1; cases e1; rfl
theorem keys_ints {kvs : List (Kk × P)} {ns : List Int} (h : pInts (kvs.map fun kv => ofKk kv.1) = some ns) : kvs.map (fun kv => kS kv.1) = ns.map Sum.inl := by
  have e := pInts_eq h
  clear h
  induction kvs generalizing ns with
  | nil => cases ns with | nil => rfl | cons => simp at e
  | cons kv r ih =>
    cases ns with
    | nil => simp at e
    | cons n ns =>
      rw [List.map_cons, List.map_cons] at e
      obtain ⟨e1, e2⟩ := List.cons.inj e
      rw [List.map_cons, List.map_cons, ih e2]
      cases hk : kv.1 with
      | inl i => rw [hk] at e1; cases e1; rfl
      | inr x => rw [hk] at e1; cases e1
theorem f1_rule (G : Gd Γ X) (f : F1) {α ψ : List Addr} {H H0 : Hp} {S : Store} {w : W} {v : V} {r : P} {Q : VK} (R : RS Γ H α ψ S) (hdom : ∀ a, H a = none → H0 a = none) (rx : RW Γ H α ψ w v) (h : f1W f S w = some r) (hns : f ≠ .sortset)
    (q : ∀ H', Ext α H α H' → RS Γ H' α ψ S → ∀ v, RW Γ H' α ψ (.p r) v → New Γ H0 H' α ψ S (.p r) v → Q v H') : ∃ rr, CallR X (f1V f) rr ∧ rr [v] H Q := by
  have lstQ : ∀ {p : Addr} {xs : List P} {vs : List V}, r = .lst xs → H p = none → RPs Γ H (fb α ψ) xs vs → Q (.ref p) (upd H p (.lst vs)) := fun {p xs vs} e hn rv => by
    subst e
    obtain ⟨z1, z2⟩ := newLst R (.inr hdom) hn rv
    exact q _ (Ext.new hn) (R.new hn) _ z1 z2
  have sq : ∀ {xs : List P}, sView S w = some xs → ∃ a vs, v = .ref a ∧ (SqL X.K H a vs ∨ SqT X.K H a vs) ∧ RPs Γ H (fb α ψ) xs vs := fun {xs} e => by
    obtain ⟨a, vs, ev, hq, rv⟩ := sView_rel R rx e
    exact ⟨a, vs, ev, hq.elim (fun z => .inl (SqL.of z.1)) fun z => .inr (G.hK ▸ z.sq), rv⟩
  cases f with
  | len =>
    simp only [f1W] at h
    split at h
    · rename_i x
      split at h
      · rename_i hl
        cases h
        obtain rfl : v = V.str (toS x) := rx
        refine ⟨_, call_len_str, toS x, rfl, by rw [toS_len, ← line_eq]; exact hl, ?_⟩
        rw [toS_len]
        exact q H Ext.refl R _ rfl trivial
      · cases h
    · split at h
      · rename_i xs hv
        cases h
        obtain ⟨a, vs, ev, hq, rv⟩ := sq hv
        refine ⟨_, call_len_seq, a, vs, by rw [ev], hq, ?_⟩
        rw [← rv.length]
        exact q H Ext.refl R _ rfl trivial
      · cases e : dView S w with
        | none => rw [e] at h; cases h
        | some kvs =>
          rw [e] at h; cases h
          obtain ⟨a, us, ev, ha, k1, k2⟩ := dView_rel R rx e
          have hl : us.length = kvs.length := by simpa using congrArg List.length k1
          refine ⟨_, call_lenD, a, us, by rw [ev], ha, ?_⟩
          rw [hl]
          exact q H Ext.refl R _ rfl trivial
  | abs =>
    simp only [f1W] at h
    split at h
    · rename_i i
      cases h
      obtain rfl : v = V.int i := rx
      exact ⟨_, call_abs, i, rfl, q H Ext.refl R _ rfl trivial⟩
    · cases h
  | int =>
    simp only [f1W] at h
    split at h
    · rename_i i
      cases h
      obtain rfl : v = V.int i := rx
      exact ⟨_, call_int1, .inl ⟨i, rfl, q H Ext.refl R _ rfl trivial⟩⟩
    · rename_i b
      cases h
      obtain rfl : v = V.bl b := rx
      exact ⟨_, call_int1, .inr ⟨b, rfl, q H Ext.refl R _ rfl trivial⟩⟩
    · cases h
  | str =>
    simp only [f1W] at h
    split at h
    · rename_i i
      cases e : decN i with
      | none => rw [e] at h; cases h
      | some x =>
        rw [e] at h; cases h
        obtain rfl : v = V.int i := rx
        obtain ⟨h1, h2⟩ := decN_eq e
        refine ⟨_, call_str_int, i, rfl, h1, ?_⟩
        have q1 := q H Ext.refl R (.str (toS x)) rfl trivial
        rw [← h2] at q1
        exact q1
    · rename_i x
      cases h
      obtain rfl : v = V.str (toS x) := rx
      exact ⟨_, SkE.call_str_str, toS x, rfl, q H Ext.refl R _ rfl trivial⟩
    · cases h
  | tuple =>
    simp only [f1W] at h
    cases e : sView S w with
    | none => rw [e] at h; cases h
    | some xs =>
      rw [e] at h; cases h
      obtain ⟨a, vs, ev, hq, rv⟩ := sView_rel R rx e
      refine ⟨_, call_tupleF, a, vs, by rw [ev], ?_⟩
      rcases hq with hq | hq
      · exact .inl ⟨SqL.of hq.1, fun l o hn hd => q _ (Ext.new hn) (R.new hn) _ (tup_new hn hd rv) trivial⟩
      · exact .inr ⟨G.hK ▸ hq.sq, q H Ext.refl R _ ⟨a, vs, rfl, hq, rv⟩ trivial⟩
  | list =>
    simp only [f1W] at h
    split at h
    · rename_i ns
      cases h
      obtain ⟨a, ev, hs⟩ := rx
      refine ⟨_, call_list_of, a, ns.map V.int, by rw [ev], .inl ?_, fun l hn => lstQ rfl hn RPs.ints⟩
      rcases hs with ⟨o, hs⟩ | ⟨o, its, n, h1, h2⟩
      · exact .inl (.inr ⟨o, hs⟩)
      · exact .inr ⟨o, its, n, G.hK ▸ h1, h2⟩
    · cases e : sView S w with
      | none => rw [e] at h; cases h
      | some xs =>
        rw [e] at h; cases h
        obtain ⟨a, vs, ev, hq, rv⟩ := sq e
        exact ⟨_, call_list_of, a, vs, by rw [ev], hq, fun l hn => lstQ rfl hn rv⟩
  | sorted =>
    simp only [f1W] at h
    split at h
    · rename_i xs hv
      obtain ⟨a, vs, ev, hq, rv⟩ := lView_rel R rx hv
      split at h
      · rename_i is hi
        cases h
        rw [pInts_eq hi] at rv
        have e := RPs.ints_of rv
        subst e
        refine ⟨_, cr_sortedI, a, is, by rw [ev], SqL.of hq, fun ns p h1 h2 hn => ?_⟩
        rw [srtI_uniq h1 h2]
        exact lstQ rfl hn RPs.ints
      · split at h
        · rename_i ns hi
          split at h
          · rename_i hl
            cases h
            rw [pNms_eq hi] at rv
            have e := RPs.nms_of rv
            subst e
            refine ⟨_, cr_sortedS, a, ns.map toS, by rw [ev], SqL.of hq, by simpa using hl, fun ys p h1 h2 hn => ?_⟩
            rw [srtN_uniq h1 h2]
            refine lstQ rfl hn ?_
            rw [List.map_map]
            exact RPs.strs
          · cases h
        · cases h
    · split at h
      · rename_i kvs hv
        obtain ⟨a, us, ev, hq, k1, k2⟩ := dView_rel R rx hv
        split at h
        · rename_i hl
          split at h
          · rename_i is hi
            cases h
            have hk := keys_ints hi
            have hlen : is.length = kvs.length := by simpa using (congrArg List.length hk).symm
            refine ⟨_, call_sortedDI G.calm, a, us, is, by rw [ev], .inl hq, k1.trans hk, by omega, fun ns p h1 h2 hn => ?_⟩
            rw [srtI_uniq h1 h2]
            exact lstQ rfl hn RPs.ints
          · split at h
            · rename_i ns hi
              cases h
              have hk := keys_strs hi
              have hlen : ns.length = kvs.length := by simpa using (congrArg List.length hk).symm
              refine ⟨_, call_sortedD G.calm, a, us, ns.map toS, by rw [ev], .inl hq, k1.trans hk, by rw [List.length_map]; omega, fun ys p h1 h2 hn => ?_⟩
              rw [srtN_uniq h1 h2]
              refine lstQ rfl hn ?_
              rw [List.map_map]
              exact RPs.strs
            · cases h
        · cases h
      · cases h
  | sum =>
    simp only [f1W] at h
    split at h
    · rename_i xs hv
      obtain ⟨a, vs, ev, hq, rv⟩ := sView_rel R rx hv
      cases hi : pInts xs with
      | none => rw [hi] at h; cases h
      | some is =>
        rw [hi] at h; cases h
        rw [pInts_eq hi] at rv
        have e := RPs.ints_of rv
        subst e
        have fin := q H Ext.refl R (.int (sumI is)) rfl trivial
        rw [sumI_eq] at fin
        rcases hq with hq | hq
        · exact ⟨_, cr_sum G.calm, a, is, by rw [ev], SqL.of hq.1, fin⟩
        · exact ⟨_, cr_sumT G.calm, a, is, by rw [ev], G.hK ▸ hq.sq, fin⟩
    · cases h
  | min =>
    simp only [f1W] at h
    split at h
    · rename_i xs hv
      obtain ⟨a, vs, ev, hq, rv⟩ := sView_rel R rx hv
      split at h
      · rename_i i is hi
        cases h
        rw [pInts_eq hi] at rv
        have e := RPs.ints_of rv
        subst e
        have key : ∀ m', m' ∈ i :: is → (∀ y, y ∈ i :: is → m' ≤ y) → Q (.int m') H := fun m h1 h2 => by
          obtain ⟨a1, a2, a3⟩ := minI_le is i
          have e : m = minI i is := by
            refine Int.le_antisymm ?_ ?_
            · rcases a3 with a3 | a3
              · rw [a3]; exact h2 i List.mem_cons_self
              · exact h2 _ (List.mem_cons_of_mem _ a3)
            · rcases List.mem_cons.mp h1 with e | e
              · rw [e]; exact a1
              · exact a2 m e
          rw [e]
          exact q H Ext.refl R _ rfl trivial
        rcases hq with hq | hq
        · exact ⟨_, cr_min G.calm, a, i :: is, by rw [ev], SqL.of hq.1, by simp, key⟩
        · exact ⟨_, cr_minT G.calm, a, i :: is, by rw [ev], G.hK ▸ hq.sq, by simp, key⟩
      · cases h
    · cases h
  | max =>
    simp only [f1W] at h
    split at h
    · rename_i xs hv
      obtain ⟨a, vs, ev, hq, rv⟩ := sView_rel R rx hv
      split at h
      · rename_i i is hi
        cases h
        rw [pInts_eq hi] at rv
        have e := RPs.ints_of rv
        subst e
        have key : ∀ m', m' ∈ i :: is → (∀ y, y ∈ i :: is → y ≤ m') → Q (.int m') H := fun m h1 h2 => by
          obtain ⟨a1, a2, a3⟩ := maxI_le is i
          have e : m = maxI i is := by
            refine Int.le_antisymm ?_ ?_
            · rcases List.mem_cons.mp h1 with e | e
              · rw [e]; exact a1
              · exact a2 m e
            · rcases a3 with a3 | a3
              · rw [a3]; exact h2 i List.mem_cons_self
              · exact h2 _ (List.mem_cons_of_mem _ a3)
          rw [e]
          exact q H Ext.refl R _ rfl trivial
        rcases hq with hq | hq
        · exact ⟨_, cr_max G.calm, a, i :: is, by rw [ev], SqL.of hq.1, by simp, key⟩
        · exact ⟨_, cr_maxT G.calm, a, i :: is, by rw [ev], G.hK ▸ hq.sq, by simp, key⟩
      · cases h
    · cases h
  | all =>
    simp only [f1W] at h
    split at h
    · rename_i xs hv
      obtain ⟨a, vs, ev, hq, rv⟩ := lView_rel R rx hv
      cases hi : pBls xs with
      | none => rw [hi] at h; cases h
      | some is =>
        rw [hi] at h; cases h
        rw [pBls_eq hi] at rv
        have e := RPs.bls_of rv
        subst e
        exact ⟨_, cr_all G.calm, a, is, by rw [ev], SqL.of hq, q H Ext.refl R _ rfl trivial⟩
    · cases h
  | any =>
    simp only [f1W] at h
    split at h
    · rename_i xs hv
      obtain ⟨a, vs, ev, hq, rv⟩ := lView_rel R rx hv
      cases hi : pBls xs with
      | none => rw [hi] at h; cases h
      | some is =>
        rw [hi] at h; cases h
        rw [pBls_eq hi] at rv
        have e := RPs.bls_of rv
        subst e
        exact ⟨_, cr_any G.calm, a, is, by rw [ev], SqL.of hq, q H Ext.refl R _ rfl trivial⟩
    · cases h
  | lenset => cases h
  | sortset => exact absurd rfl hns
end
end Tp

/-! Calls of built-in functions and methods. -/
namespace Tp
open PySem PySem.Spec PyProof.Rows L2
def f1T : F1 → Bool
  | .int | .str | .tuple | .list => true
  | _ => false
def nCall : Expr → Bool
  | .Call .. => false
  | _ => true
def nSlice : Expr → Bool
  | .Slice .. => false
  | _ => true
theorem plain_of {b : Expr} (h : nSlice b = true) : PlainIx b := fun o i => by
  cases b <;> first
    | rfl
    | (simp [nSlice] at h; done)
theorem base_of {e : Expr} {m : Str} {env : Env} {wh : Sem Value} (h : nCall e = true) : attributeBase e m env wh = wh := by
  cases e <;> first
    | rfl
    | (simp [nCall] at h; done)
section
variable {Γ : Gm} {Wx : WX} {X : Cx}
theorem f1_names (G : Gd Γ X) (f : F1) : X.mg (Str.ofString (f1S f)) = none := by
  cases f <;> exact G.blt _ (by decide)
theorem f1_boot (f : F1) (h1 : f ≠ .lenset) (h2 : f ≠ .sortset) : bootBuiltins (Str.ofString (f1S f)) = some (f1V f) := by
  cases f <;> first
    | rfl
    | (exact absurd rfl h1)
    | (exact absurd rfl h2)
theorem ok_f1 (G : Gd Γ X) (f : F1) (h1 : f ≠ .lenset) (h2 : f ≠ .sortset) {a : Expr} {g : Fr → Store → Res W} {p pos : Pos} (ha : OkE Γ Wx X a g) (hg : Gl X (Str.ofString (f1S f))) (hn : nst a = true) :
    OkN Γ Wx X (.Call (.Name (Str.ofString (f1S f)) p) [a] [] pos) (fun σ S => (g σ S).bind fun x S1 => rOpt ((f1W f S1 x).map .p) S1) := by
  intro ψ α σw S σ H Q hf hs hp
  have n1 : Str.ofString (f1S f) ≠ "__name__" := by cases f <;> decide
  have n2 : (Str.ofString (f1S f) == ("__debug__" : Str)) = false := by cases f <;> decide
  have pe : PE X (.Call (.Name (Str.ofString (f1S f)) p) [a] [] pos) (tCB (fun xs H Q => ∃ r, CallR X (f1V f) r ∧ r xs H Q) (tCons (GE X a) tNil)) := by
    have hb := f1_boot f h1 h2
    cases ht : f1T f with
    | true =>
      have e : f1V f = .type (f1S f) := by cases f <;> first | rfl | cases ht
      rw [e] at hb
      exact pe_callTy (e ▸ call_dyn) hg (f1_names G f) hb (pa_cons (pe_ge a) pa_nil (nst_each hn)) n1 n2 (nst_each hn) rfl
    | false =>
      have e : f1V f = .builtin (f1S f) := by cases f <;> first | rfl | cases ht
      rw [e] at hb
      exact pe_callB (e ▸ call_dyn) hg (f1_names G f) hb (pa_cons (pe_ge a) pa_nil (nst_each hn)) n1 n2 (nst_each hn) rfl
  refine GE.of pe ?_
  refine ha.then hf hs hp fun w S1 v α1 H1 x1 hf1 hs1 r1 hp1 => ?_
  obtain ⟨w2, e, hp2⟩ := hp1.opt
  cases e3 : f1W f S1 w with
  | none => rw [e3] at e; cases e
  | some k =>
    rw [e3] at e; cases e
    exact f1_rule G f hs1 x1.dom r1 e3 h2 fun H' x R v rv nv => hp2 H' α1 x R v rv nv
/-- sorted(set(x)) -/
theorem srtD_uniq {is ns : List Int} (h1 : ns.Pairwise (· < ·)) (h2 : ∀ k, k ∈ ns ↔ k ∈ is) : ns = srtI (dedI is) := by
  have d1 : ∀ l : List Int, (dedI l).Nodup ∧ ∀ k, k ∈ dedI l ↔ k ∈ l := fun l => by
    induction l with
    | nil => exact ⟨.nil, fun _ => Iff.rfl⟩
    | cons i r ih =>
      unfold dedI
      split
      · rename_i c
        refine ⟨ih.1, fun k => ?_⟩
        rw [ih.2 k, List.mem_cons]
        have c2 : i ∈ r := by simpa using c
        constructor
        · exact .inr
        · rintro (e | e)
          · rw [e]; exact c2
          · exact e
      · rename_i c
        have c2 : i ∉ r := by simpa using c
        refine ⟨List.nodup_cons.mpr ⟨fun z => c2 ((ih.2 i).mp z), ih.1⟩, fun k => ?_⟩
        rw [List.mem_cons, List.mem_cons, ih.2 k]
  obtain ⟨n1, m1⟩ := d1 is
  have nn : ns.Nodup := h1.imp fun h => Int.ne_of_lt h
  have pm : ns.Perm (dedI is) := (List.perm_ext_iff_of_nodup nn n1).mpr fun k => by rw [h2, m1]
  exact srtI_uniq pm (h1.imp fun h => Int.le_of_lt h)
theorem ok_sortset (G : Gd Γ X) {a : Expr} {g : Fr → Store → Res W} {p p2 q pos : Pos} (ha : OkE Γ Wx X a g) (hg : Gl X "sorted") (hg2 : Gl X "set") (hn : nst a = true) :
    OkN Γ Wx X (.Call (.Name "sorted" p) [.Call (.Name "set" p2) [a] [] q] [] pos) (fun σ S => (g σ S).bind fun x S1 => rOpt ((f1W .sortset S1 x).map .p) S1) := by
  intro ψ α σw S σ H Q hf hs hp pins s I
  have hd := I.ok.hd G.calm
  refine Call_ (ld_blt I hg (G.blt _ (by decide)) (show bootBuiltins (Str.ofString "sorted") = some (.builtin "sorted") from rfl) ?_)
  refine PyProof.Rows.callWith_builtin1 (PyProof.Rows.args_cons ?_ rfl) rfl rfl
  refine Call_ (ld_blt I hg2 (G.blt _ (by decide)) boot_set ?_)
  let R : V → Hp → Prop := fun v H1 => ∃ (is : List Int) (b : Addr) , v = .ref b ∧ SqT X.K H1 b (is.map V.int) ∧ is.length < 64 ∧ ∀ l, H1 l = none → Q (.ref l) (upd H1 l (.lst ((srtI (dedI is)).map V.int)))
  refine PyProof.Rows.callWith_type1 (PyProof.Rows.args_cons (thn ((ha.then (Q := R) hf hs hp ?_) pins s I) fun v s1 ⟨x, H1, I1, r1, q1⟩ => PyProof.Rows.args_nil ?_) (nst_each hn)) (nst_each hn) rfl
  · intro w S1 v α1 H1 x1 hf1 hs1 r1 hp1
    obtain ⟨w2, e, hp2⟩ := hp1.opt
    cases e3 : f1W .sortset S1 w with
    | none => rw [e3] at e; cases e
    | some k =>
      rw [e3] at e; cases e
      simp only [f1W] at e3
      split at e3
      · rename_i xs hv
        obtain ⟨b, vs, ev, hq, rv⟩ := tView_rel r1 hv
        split at e3
        · rename_i is hi
          split at e3
          · rename_i hl
            cases e3
            rw [pInts_eq hi] at rv
            have e := RPs.ints_of rv
            subst e
            refine ⟨is, b, ev, G.hK ▸ hq.sq, hl, fun l hn => ?_⟩
            obtain ⟨z1, z2⟩ := newLst (H0 := H) hs1 (.inr x1.dom) hn (RPs.ints (is := srtI (dedI is)))
            exact hp2.new hs1 hn _ z1 z2
          · cases e3
        · cases e3
      · cases e3
  · obtain ⟨is, b, eb, hq, hl, q⟩ := q1
    subst eb
    cases r1
    obtain ⟨its, rv, pt, hz⟩ := I1.tuple hq
    have hi : IntsAre its.toArray.toList is := ints_of_vals rv
    have hb : is.length + 1 < scanBound := by unfold scanBound; omega
    refine call_set_tupI is hd (show s1.heap.IsTuple b its.toArray from pt) hi hb fun h' tk c R1 hcn k => ?_
    refine PyProof.Rows.args_nil ?_
    refine sorted_set R1 hd (by omega) fun s' p out c2 ns k2 g o hp3 hg3 hi3 hs3 hm hl3 => ?_
    have hnl : ns.length ≤ 64 := by rw [hl3]; omega
    have hlen : (ns.map V.int).length ≤ sizeLine := by rw [List.length_map, sizeLine_eq]; omega
    have hp4 : s1.heap.objs.size ≤ p := by
      have e1 : h'.objs.size ≤ p := hp3
      have e2 : s1.heap.objs.size ≤ h'.objs.size := by
        obtain ⟨o1, _, _, _, ho1, _⟩ := R1
        exact Nat.le_of_lt (Heap.lt_size ho1)
      omega
    have hn3 : H1 p = none := I1.hok.fresh hp4
    have kk : ∀ b o, s1.heap.get? b = some o → s'.heap.get? b = some o := fun b o e => k2 b o (k b o e)
    have J : Inv X pins σ (upd H1 p (.lst (ns.map V.int))) { s1 with heap := s'.heap, gens := s'.gens, drawn := s'.drawn, toks := s'.toks } :=
      I1.call (ch := []) (Un.laid kk hp4 hn3) (I1.hok.laid kk hp4 ⟨hlen, out.toList, c2, vals_of_ints hi3, hg3⟩) (by rw [g]; exact I1.bare) (fun _ z => nomatch z)
    have e : s' = { s1 with heap := s'.heap, gens := s'.gens, drawn := s'.drawn, toks := s'.toks } := by
      cases s'
      cases s1
      cases o
      rfl
    rw [e]
    refine ⟨.ref p, _, J, rfl, ?_⟩
    have e5 : ns = srtI (dedI is) := srtD_uniq hs3 fun k => by rw [hm k, decide_eq_true_iff]
    rw [e5]
    exact q p hn3
/-! ### two numbers -/
theorem ok_mn2 (G : Gd Γ X) {a b : Expr} {f g : Fr → Store → Res W} {p pos : Pos} (ha : OkE Γ Wx X a f) (hb : OkE Γ Wx X b g) (hg : Gl X "min") (hn : nst a = true) (hn2 : nst b = true) :
    OkE Γ Wx X (.Call (.Name "min" p) [a, b] [] pos) (fun σ S => (f σ S).bind fun x S1 => (g σ S1).bind fun y S2 => rOpt ((min2 S2 x y).map .p) S2) := by
  intro ψ α σw S σ H Q hf hs hp
  refine GE.of (pe_callB (call_min2 G.calm) hg (G.blt _ (by decide)) rfl (pa_cons (pe_ge a) (pa_cons (pe_ge b) pa_nil (nst_each hn2)) (nst_each hn)) (by decide) (by decide) (nst_each hn) (star_plain (by simp [hn2]))) ?_
  refine ha.then hf hs hp fun w S1 v α1 H1 x1 hf1 hs1 r1 hp1 => ?_
  refine hb.then hf1 hs1 hp1 fun w2 S2 v2 α2 H2 x2 hf2 hs2 r2 hp2 => ?_
  obtain ⟨w3, e3, hp3⟩ := hp2.opt
  unfold min2 at e3
  split at e3
  · rename_i i j
    cases e3
    obtain rfl : v = V.int i := r1
    obtain rfl : v2 = V.int j := r2
    exact ⟨i, j, rfl, hp3.now hs2 _ rfl⟩
  · cases e3
theorem ok_mx2 (G : Gd Γ X) {a b : Expr} {f g : Fr → Store → Res W} {p pos : Pos} (ha : OkE Γ Wx X a f) (hb : OkE Γ Wx X b g) (hg : Gl X "max") (hn : nst a = true) (hn2 : nst b = true) :
    OkE Γ Wx X (.Call (.Name "max" p) [a, b] [] pos) (fun σ S => (f σ S).bind fun x S1 => (g σ S1).bind fun y S2 => rOpt ((max2 S2 x y).map .p) S2) := by
  intro ψ α σw S σ H Q hf hs hp
  refine GE.of (pe_callB (call_max2 G.calm) hg (G.blt _ (by decide)) rfl (pa_cons (pe_ge a) (pa_cons (pe_ge b) pa_nil (nst_each hn2)) (nst_each hn)) (by decide) (by decide) (nst_each hn) (star_plain (by simp [hn2]))) ?_
  refine ha.then hf hs hp fun w S1 v α1 H1 x1 hf1 hs1 r1 hp1 => ?_
  refine hb.then hf1 hs1 hp1 fun w2 S2 v2 α2 H2 x2 hf2 hs2 r2 hp2 => ?_
  obtain ⟨w3, e3, hp3⟩ := hp2.opt
  unfold max2 at e3
  split at e3
  · rename_i i j
    cases e3
    obtain rfl : v = V.int i := r1
    obtain rfl : v2 = V.int j := r2
    exact ⟨i, j, rfl, hp3.now hs2 _ rfl⟩
  · cases e3
/-! ### methods -/
theorem few1 {cpos : Pos} {e : Expr} {env : Env} (hn : nst e = true) : ((backTo cpos (starEach [e] env)).all (fun x => !x.1) && (backToKw cpos (keywordEach [] env)).all (fun x => x.1.isSome)
      && decide (([e] : List Expr).length + ([] : List Keyword).length + (if ([] : List Keyword).isEmpty then 0 else 1) < 30)) = true := by
  rw [nst_each hn]; rfl
theorem few2 {cpos : Pos} {e e2 : Expr} {env : Env} (hn : nst e = true) (hn2 : nst e2 = true) : ((backTo cpos (starEach [e, e2] env)).all (fun x => !x.1) && (backToKw cpos (keywordEach [] env)).all (fun x => x.1.isSome)
      && decide (([e, e2] : List Expr).length + ([] : List Keyword).length + (if ([] : List Keyword).isEmpty then 0 else 1) < 30)) = true := by
  rw [nst_each hn, nst_each hn2]; rfl
def tBMT (K : PySem.W.Frag) (r : V → List V → Hp → VK → Prop) (to : TE) (t : TA) : TE := fun σ H Q => to σ H fun x H1 => (∃ a vs, x = .ref a ∧ TupD K H1 a vs) ∧ t σ H1 fun xs H2 => r x xs H2 Q
theorem pe_bmT {o e : Expr} {to : TE} {t : TA} {name : Str} {apos cpos : Pos} {id : String} {r : V → List V → Hp → VK → Prop} (slot : Slot "tuple" name id) (hty : typeOf (.builtin id) = pure (.type "method_descriptor")) (hm : MtR X id r) (ho : PE X o to) (ha : PA X [e] t)
    (hbase : attributeBase o name X.env (eval o X.env) = eval o X.env) (hline : (apos.endLine == cpos.line) = true) (hn : nst e = true) : PE X (.Call (.Attribute o name apos) [e] [] cpos) (tBMT X.K r to t) := by
  refine ⟨fun pins s σ H Q I h => ?_⟩
  refine wpAny_Call_method_late hbase (few1 hn) hline rfl (thn (ho.run pins s σ H _ I h) fun v s1 ⟨x, H1, I1, r1, ty, q1⟩ => ?_)
  obtain ⟨a, vs, ex, td⟩ := ty
  subst ex
  cases r1
  have h12 : s1.TypeIs (.ref a) "tuple" ∧ ∀ b, Value.ref a = .ref b → ∃ ob, s1.heap.get? b = some ob ∧ ob.dict = none := by
    rcases td with ⟨ob, hk, hd⟩ | ⟨ob, its, n, hk, hc, hd, _⟩
    · obtain ⟨g, _, _, _, o2, h1, h2, _⟩ := (show ObjOk X.prog X.w H1 s1.heap a (.frz ob (.tup vs)) from I1.hok a _ hk)
      exact ⟨⟨o2, h1, h2⟩, fun b eb => by cases eb; exact ⟨ob, g, hd⟩⟩
    · exact ⟨⟨ob, I1.kIn a ob hk, hc⟩, fun b eb => by cases eb; exact ⟨ob, I1.kIn _ ob hk, hd⟩⟩
  refine ⟨"tuple", id, PySem.F.plainAttrs_tuple, slot, hty, h12.1, h12.2, ?_⟩
  have hA := ha.run cpos pins s1 σ H1 _ I1 q1
  rw [nst_each hn] at hA ⊢
  refine Calls.callWith_builtin rfl (Calls.evalArgs_plain ?_)
  exact thn hA fun us s2 ⟨vs2, H2, I2, r2, q2⟩ => hm pins s2 σ H2 (.ref a) vs2 (.ref a) us Q I2 rfl r2 q2
theorem idxN_spec {z : Nm} : ∀ {ns : List Nm} {j k : Nat}, idxN z ns j = some k → j ≤ k ∧ ns[k - j]? = some z ∧ ∀ m, m < k - j → ns[m]? ≠ some z
  | [], _, _, h => nomatch h
  | y :: r, j, k, h => by
    unfold idxN at h
    split at h
    · rename_i c
      cases h
      have e := nmEq_iff.mp c
      refine ⟨Nat.le_refl _, by simp [e], fun m hm => ?_⟩
      omega
    · rename_i c
      obtain ⟨h1, h2, h3⟩ := idxN_spec h
      have e : k - j = (k - (j + 1)) + 1 := by omega
      refine ⟨by omega, by rw [e]; simpa using h2, fun m hm => ?_⟩
      cases m with
      | zero =>
        intro q
        simp at q
        exact c (nmEq_iff.mpr q)
      | succ m => simpa using h3 m (by omega)
theorem ok_index (G : Gd Γ X) {a b : Expr} {f g : Fr → Store → Res W} {apos cpos : Pos} (ha : OkE Γ Wx X a f) (hb : OkE Γ Wx X b g) (hc : nCall a = true) (hl : (apos.endLine == cpos.line) = true) (hn : nst b = true) :
    OkE Γ Wx X (.Call (.Attribute a "index" apos) [b] [] cpos) (fun σ S => (f σ S).bind fun x S1 => match tView x with
    | none => .bad
    | some xs => (g σ S1).bind fun y S2 => rOpt (idxW xs y) S2) := by
  intro ψ α σw S σ H Q hf hs hp
  refine GE.of (pe_bmT PySem.F.slot_tuple_index PySem.F.type_tuple_index mt_tup_index (pe_ge a) (pa_cons (pe_ge b) pa_nil (nst_each hn)) (base_of hc) hl hn) ?_
  refine ha.then hf hs hp fun w S1 v α1 H1 x1 hf1 hs1 r1 hp1 => ?_
  cases e : tView w with
  | none => rw [e] at hp1; exact hp1.elim
  | some xs =>
    rw [e] at hp1
    obtain ⟨p, vs, ev, hq, rv⟩ := tView_rel r1 e
    refine ⟨⟨p, vs, ev, G.hK ▸ hq⟩, ?_⟩
    refine hb.then hf1 hs1 hp1 fun w2 S2 v2 α2 H2 x2 hf2 hs2 r2 hp2 => ?_
    obtain ⟨w3, e3, hp3⟩ := hp2.opt
    unfold idxW at e3
    split at e3
    · rename_i z
      split at e3
      · rename_i ns hns
        split at e3
        · rename_i j e4
          cases e3
          obtain rfl : v2 = V.str (toS z) := r2
          obtain ⟨_, h2, h3⟩ := idxN_spec e4
          rw [pNms_eq hns] at rv
          have ee := RPs.nms_of rv
          subst ee
          refine ⟨p, ns.map toS, toS z, j, ev, rfl, G.hK ▸ (hq.ext x2).sq, ?_, fun m hm q => ?_, hp3.now hs2 _ rfl⟩
          · rw [List.getElem?_map, show ns[j]? = some z from h2]; rfl
          · rw [List.getElem?_map] at q
            cases e5 : ns[m]? with
            | none => rw [e5] at q; cases q
            | some y =>
              rw [e5] at q
              exact h3 m hm (by rw [e5, toS_inj.mp (Option.some.inj q)])
        · cases e3
      · cases e3
    · cases e3
theorem dView_isD {H : Hp} {α ψ : List Addr} {S : Store} (R : RS Γ H α ψ S) {w : W} {v : V} {kvs : List (Kk × P)} (r : RW Γ H α ψ w v) (e : dView S w = some kvs) : ∃ a, v = .ref a ∧ IsD H a := by
  obtain ⟨a, us, ev, ha, _⟩ := dView_rel R r e
  exact ⟨a, ev, .inl ⟨us, .inl ha⟩⟩
theorem getD_rel {H : Hp} {α ψ : List Addr} {S : Store} (R : RS Γ H α ψ S) {x : W} {v : V} {kvs : List (Kk × P)} {b : P} {u : V} {k : Kk} (r : RW Γ H α ψ x v) (e : dView S x = some kvs) (rb : RP Γ H (fb α ψ) b u) (hk : toKk b = some k) {a : Addr} (ev : v = .ref a) :
    ∃ o, DGet H a u o ∧ ∀ (d : P) (z : V), RP Γ H (fb α ψ) d z → RP Γ H (fb α ψ) ((dGet kvs k).getD d) (o.getD z) := by
  obtain ⟨a2, us, ev2, ha, k1, k2⟩ := dView_rel R r e
  rw [ev] at ev2
  cases ev2
  have eu := toKk_rel (Γ := Γ) rb hk
  subst eu
  refine ⟨valV us (kS k), DGet.k ha, fun d z rd => ?_⟩
  obtain ⟨g1, g2⟩ := dGet_rel (k := k) k1 k2
  cases z2 : dGet kvs k with
  | none => rw [g2 z2]; exact rd
  | some p => obtain ⟨w, hw, rw'⟩ := g1 p z2; rw [hw]; exact rw'
theorem ok_get1 (G : Gd Γ X) {a b : Expr} {f g : Fr → Store → Res W} {apos cpos : Pos} (ha : OkE Γ Wx X a f) (hb : OkE Γ Wx X b g) (hc : nCall a = true) (hl : (apos.endLine == cpos.line) = true) (hn : nst b = true) :
    OkE Γ Wx X (.Call (.Attribute a "get" apos) [b] [] cpos) (fun σ S => (f σ S).bind fun x S1 => match dView S1 x with
    | none => .bad
    | some _ => (g σ S1).bind fun y S2 => rOpt (get1W S2 x y) S2) := by
  intro ψ α σw S σ H Q hf hs hp
  have hu : X.A.units + 1 < cLine := by have := G.un; omega
  refine GE.of (pe_dget1 hu (pe_ge a) (pe_ge b) ⟨base_of hc, few1 hn, hl, by rw [nst_each hn]; rfl⟩) ?_
  refine ha.then hf hs hp fun w S1 v α1 H1 x1 hf1 hs1 r1 hp1 => ?_
  cases e : dView S1 w with
  | none => rw [e] at hp1; exact hp1.elim
  | some kvs0 =>
    rw [e] at hp1
    obtain ⟨a1, ev, hd⟩ := dView_isD hs1 r1 e
    refine ⟨a1, ev, hd, ?_⟩
    refine hb.then hf1 hs1 hp1 fun w2 S2 v2 α2 H2 x2 hf2 hs2 r2 hp2 => ?_
    obtain ⟨w3, e3, hp3⟩ := hp2.opt
    unfold get1W at e3
    split at e3
    · rename_i kvs b e4 e5
      split at e3
      · rename_i k hk
        cases e3
        have rb : RP Γ H2 (fb α2 ψ) b v2 := by
          cases w2 <;> first
            | (cases e5; exact r2)
            | cases e5
        obtain ⟨o, g1, g2⟩ := getD_rel hs2 (r1.ext x2) e4 rb hk ev
        exact ⟨o, g1, hp3.now hs2 _ (g2 _ _ rfl)⟩
      · cases e3
    · cases e3
theorem ok_get2 (G : Gd Γ X) {a b c : Expr} {f g h : Fr → Store → Res W} {apos cpos : Pos} (ha : OkE Γ Wx X a f) (hb : OkE Γ Wx X b g) (hcc : OkE Γ Wx X c h) (hc : nCall a = true) (hl : (apos.endLine == cpos.line) = true) (hn : nst b = true) (hn2 : nst c = true) :
    OkE Γ Wx X (.Call (.Attribute a "get" apos) [b, c] [] cpos) (fun σ S => (f σ S).bind fun x S1 => match dView S1 x with
    | none => .bad
    | some _ => (g σ S1).bind fun y S2 => (h σ S2).bind fun z S3 => rOpt (get2W S3 x y z) S3) := by
  intro ψ α σw S σ H Q hf hs hp
  have hu : X.A.units + 1 < cLine := by have := G.un; omega
  refine GE.of (pe_dget2 hu (pe_ge a) (pe_ge b) (pe_ge c) ⟨base_of hc, few2 hn hn2, hl, by rw [nst_each hn, nst_each hn2]; rfl⟩) ?_
  refine ha.then hf hs hp fun w S1 v α1 H1 x1 hf1 hs1 r1 hp1 => ?_
  cases e : dView S1 w with
  | none => rw [e] at hp1; exact hp1.elim
  | some kvs0 =>
    rw [e] at hp1
    obtain ⟨a1, ev, hd⟩ := dView_isD hs1 r1 e
    refine ⟨a1, ev, hd, ?_⟩
    refine hb.then hf1 hs1 hp1 fun w2 S2 v2 α2 H2 x2 hf2 hs2 r2 hp2 => ?_
    refine hcc.then hf2 hs2 hp2 fun w4 S4 v4 α4 H4 x4 hf4 hs4 r4 hp4 => ?_
    obtain ⟨w3, e3, hp3⟩ := hp4.opt
    unfold get2W at e3
    split at e3
    · rename_i kvs b d e4 e5 e6
      split at e3
      · rename_i k hk
        cases e3
        have rb : RP Γ H4 (fb α4 ψ) b v2 := by
          cases w2 <;> first
            | (cases e5; exact RP.ext x4 r2)
            | cases e5
        have rd : RP Γ H4 (fb α4 ψ) d v4 := by
          cases w4 <;> first
            | (cases e6; exact r4)
            | cases e6
        obtain ⟨o, g1, g2⟩ := getD_rel hs4 (r1.ext (x2.trans x4)) e4 rb hk ev
        exact ⟨o, g1, hp3.now hs4 _ (g2 _ _ rd)⟩
      · cases e3
    · cases e3
theorem ok_app (G : Gd Γ X) {a b : Expr} {f g : Fr → Store → Res W} {apos cpos : Pos} (ha : OkE Γ Wx X a f) (hb : OkE Γ Wx X b g) (hc : nCall a = true) (hl : (apos.endLine == cpos.line) = true) (hn : nst b = true) :
    OkE Γ Wx X (.Call (.Attribute a "append" apos) [b] [] cpos) (fun σ S => (f σ S).bind fun o S1 => match o with
    | .loc k => (match S1[k]? with
      | some (.lst _) => (g σ S1).bind fun y S2 => appW S2 k y
      | _ => .bad)
    | _ => .bad) := by
  intro ψ α σw S σ H Q hf hs hp
  refine GE.of (pe_bm PySem.F.plainAttrs_list PySem.F.slot_list_append PySem.F.type_list_append mt_append (pe_ge a) (pa_cons (pe_ge b) pa_nil (nst_each hn)) (base_of hc) (few1 hn) hl (nst_each hn) rfl) ?_
  refine ha.then hf hs hp fun w S1 v α1 H1 x1 hf1 hs1 r1 hp1 => ?_
  split at hp1
  · rename_i k
    split at hp1
    · rename_i ys hk
      obtain ⟨l, ev, hl1⟩ := r1
      obtain ⟨o, h1, vs, eo, _⟩ := hs1.cell k l _ hl1 hk
      subst eo ev
      refine ⟨.inl ⟨rfl, vs, SqL.of h1⟩, ?_⟩
      refine hb.then hf1 hs1 hp1 fun w2 S2 v2 α2 H2 x2 hf2 hs2 r2 hp2 => ?_
      unfold appW at hp2
      split at hp2
      · rename_i p
        split at hp2
        · rename_i xs hk2
          split at hp2
          · rename_i hlt
            have hl2 := x2.at hl1
            obtain ⟨o, h2, vs2, eo, rv⟩ := hs2.cell k l _ hl2 hk2
            subst eo
            refine ⟨l, vs2, v2, rfl, rfl, h2, by rw [← rv.length, ← line_eq]; exact hlt, ?_⟩
            have hm : l ∈ α2 := List.mem_of_getElem? hl2
            have rc : RC Γ H2 (fb α2 ψ) (.lst (xs ++ [p])) (.lst (vs2 ++ [v2])) := ⟨_, rfl, RPs.append rv (RPs.one r2)⟩
            exact hp2 _ _ (Ext.set h2 rfl hm) (hs2.set hl2 h2 rfl rc) _ rfl
          · exact hp2.elim
        · exact hp2.elim
      · exact hp2.elim
    · exact hp1.elim
  · exact hp1.elim
end
end Tp

/-! tuple(range(..)), list(range(..)). -/
namespace Tp
open PySem PySem.Spec PyProof.Rows L2
section
variable {Γ : Gm} {Wx : WX} {X : Cx}
abbrev RgT := L2.St → Hp → (Int → Int → Hp → Prop) → Prop
def tTupRgF (te : RgT) : TE := fun σ H Q => te σ H fun a b H1 => RgOk a b ∧ ∀ (q : Addr) (o : Obj), H1 q = none → o.dict = none → Q (.ref q) (upd H1 q (.frz o (.tup (rgV a b))))
theorem pe_tupRgF {e : Expr} {te : RgT} {p pos : Pos} (hc : X.calm = true) (hg : Gl X "tuple") (hm : X.mg "tuple" = none) (he : PRg X e te) (na : starEach [e] X.env = (false, eval e X.env) :: starEach [] X.env) : PE X (.Call (.Name "tuple" p) [e] [] pos) (tTupRgF te) := by
  refine ⟨fun pins s σ H Q I h => ?_⟩
  refine Call_ (ld_blt I hg hm boot_tuple (PyProof.Rows.callWith_type1 (PyProof.Rows.args_cons (thn (he pins s σ H _ I h) fun x s1 ⟨r, a, b, t, u, v, H1, ex, hr, I1, ok, q⟩ => PyProof.Rows.args_nil ?_) na) na))
  subst ex
  obtain ⟨b1, b2, b3, b4, b5⟩ := ok
  refine call_tuple_range (n := (b - a).toNat) (I1.ok.hd hc) hr (small_one b1 b2 b3 b4) (rangeSize_nat a b) b5 fun h' tk acc hk hi => ?_
  have I2 : Inv X pins σ H1 { s1 with heap := h', toks := tk } := I1.kept hk
  refine ⟨.ref h'.objs.size, upd H1 h'.objs.size (.frz _ (.tup (rgV a b))), I2.laid (t' := tk) (fun c o e => Heap.get?_push_of_some _ e) (Nat.le_refl _) ?_, rfl, q _ { cls := .type "tuple", data := .seq acc } (I2.hok.fresh (Nat.le_refl _)) rfl⟩
  refine ⟨Heap.get?_push_size _ rfl, ?_, acc.toList, vals_rg hi, ⟨_, by first | exact Heap.get?_push_size _ rfl | (rw [Array.toArray_toList]; exact Heap.get?_push_size _ rfl), rfl, _, by first | rfl | (rw [Array.toArray_toList])⟩⟩
  rw [rgV_length, sizeLine_eq]; omega
theorem rg_rel {H : Hp} {F : Addr → Prop} (i j : Int) : RPs Γ H F (rgP i j) (rgV i j) := by
  unfold rgP rgV
  have : ∀ l : List Nat, RPs Γ H F (l.map fun (k : Nat) => P.int (i + (k : Int))) (l.map fun (k : Nat) => V.int (i + (k : Int))) := fun l => by
    induction l with
    | nil => rfl
    | cons k r ih => exact ⟨_, _, rfl, rfl, ih⟩
  exact this _
theorem rgW_inv {t : Bool} {x y : W} {w : W} (h : rgW t x y = some w) : ∃ i j, x = .p (.int i) ∧ y = .p (.int j) ∧ RgOk i j ∧ w = .p (if t then .tup (rgP i j) else .lst (rgP i j)) := by
  unfold rgW at h
  split at h
  · rename_i i j
    split at h
    · rename_i c
      cases h
      refine ⟨i, j, rfl, rfl, ?_, rfl⟩
      obtain ⟨c1, c2, c3, c4, c5⟩ := c
      have e : (2 : Int) ^ 62 = 4611686018427387904 := by decide
      unfold line at c5
      exact ⟨by rw [e]; exact c1, by rw [e]; exact c2, by rw [e]; exact c3, by rw [e]; exact c4, c5⟩
    · cases h
  · cases h
def rgS (t : Bool) : String := if t then "tuple" else "list"
theorem rg_fin (G : Gd Γ X) {t : Bool} {e : Expr} {te : RgT} {p pos : Pos} (hg : Gl X (Str.ofString (rgS t))) (he : PRg X e te) (hn : nst e = true) {ψ α : List Addr} {S : Store} {σ : L2.St} {H : Hp} {Q : VK}
    (hp : te σ H fun i j H1 => RgOk i j ∧ ∃ (S1 : Store) (α1 : List Addr), Ext α H α1 H1 ∧ RS Γ H1 α1 ψ S1 ∧ Post Γ Wx σ ψ α1 H1 (.ok (W.p (if t then .tup (rgP i j) else .lst (rgP i j))) S1) (fun w S' α' H' => ∀ v, RW Γ H' α' ψ w v → New Γ H H' α' ψ S' w v → Q v H'))
    (hm : ∀ (R R' : Int → Int → Hp → Prop), te σ H R → (∀ i j H, R i j H → R' i j H) → te σ H R') : GE X (.Call (.Name (Str.ofString (rgS t)) p) [e] [] pos) σ H Q := by
  cases t with
  | true =>
    refine GE.of (pe_tupRgF G.calm hg (G.blt _ (by decide)) he (nst_each hn)) (hm _ _ hp fun i j H1 ⟨ok, S1, α1, x, R, k⟩ => ⟨ok, fun q o hn hd => ?_⟩)
    exact k _ _ (Ext.new hn) (R.new hn) _ (tup_new hn hd (rg_rel i j)) trivial
  | false =>
    refine GE.of (pe_listRg G.calm hg (G.blt _ (by decide)) he (nst_each hn)) (hm _ _ hp fun i j H1 ⟨ok, S1, α1, x, R, k⟩ => ⟨ok, fun q hn => ?_⟩)
    obtain ⟨z1, z2⟩ := newLst (H0 := H) R (.inr x.dom) hn (rg_rel (Γ := Γ) i j)
    exact k _ _ (Ext.new hn) (R.new hn) _ z1 z2
theorem ok_rg1 (G : Gd Γ X) {t : Bool} {a : Expr} {f : Fr → Store → Res W} {p p2 pos pos2 : Pos} (ha : OkE Γ Wx X a f) (hg : Gl X (Str.ofString (rgS t))) (hr : Gl X "range") (hn : nst a = true) :
    OkN Γ Wx X (.Call (.Name (Str.ofString (rgS t)) p) [.Call (.Name "range" p2) [a] [] pos2] [] pos) (fun σ S => (f σ S).bind fun x S1 => rOpt (rgW t (.p (.int 0)) x) S1) := by
  intro ψ α σw S σ H Q hf hs hp
  refine rg_fin (Γ := Γ) (Wx := Wx) (ψ := ψ) (α := α) (S := S) G hg (prg_1 hr (G.blt _ (by decide)) (pe_ge a) (nst_each hn)) rfl ?_ fun R R' h k => GE.mono h fun v H ⟨n, e, z⟩ => ⟨n, e, k _ _ _ z⟩
  refine ha ψ α σw S σ H _ hf hs (hp.bind.mono fun w S1 α1 H1 x1 hs1 hp1 v rv => ?_)
  obtain ⟨w2, e, hp2⟩ := hp1.opt
  obtain ⟨i, j, e1, e2, ok, e3⟩ := rgW_inv e
  subst e2 e3
  obtain rfl : v = V.int j := rv
  cases e1
  exact ⟨j, rfl, ok, S1, α1, x1, hs1, hp2⟩
theorem ok_rg2 (G : Gd Γ X) {t : Bool} {a b : Expr} {f g : Fr → Store → Res W} {p p2 pos pos2 : Pos} (ha : OkE Γ Wx X a f) (hb : OkE Γ Wx X b g) (hg : Gl X (Str.ofString (rgS t))) (hr : Gl X "range") (hn : nst a = true) (hn2 : nst b = true) :
    OkN Γ Wx X (.Call (.Name (Str.ofString (rgS t)) p) [.Call (.Name "range" p2) [a, b] [] pos2] [] pos) (fun σ S => (f σ S).bind fun x S1 => (g σ S1).bind fun y S2 => rOpt (rgW t x y) S2) := by
  intro ψ α σw S σ H Q hf hs hp
  refine rg_fin (Γ := Γ) (Wx := Wx) (ψ := ψ) (α := α) (S := S) G hg (prg_2 hr (G.blt _ (by decide)) (pe_ge a) (pe_ge b) (nst_each hn) (nst_each hn2) (by rw [nst_each hn2]; rfl)) rfl ?_ fun R R' h k => GE.mono h fun v H h2 => GE.mono h2 fun v2 H2 ⟨i, j, e1, e2, z⟩ => ⟨i, j, e1, e2, k _ _ _ z⟩
  refine ha ψ α σw S σ H _ hf hs (hp.bind.mono fun w S1 α1 H1 x1 hs1 hp1 v rv => ?_)
  refine hb ψ α1 σw S1 σ H1 _ (hf.ext x1) hs1 (hp1.bind.mono fun w' S2 α2 H2 x2 hs2 hp2 v2 rv2 => ?_)
  obtain ⟨w2, e, hp3⟩ := hp2.opt
  obtain ⟨i, j, e1, e2, ok, e3⟩ := rgW_inv e
  subst e1 e2 e3
  obtain rfl : v = V.int i := rv
  obtain rfl : v2 = V.int j := rv2
  exact ⟨i, j, rfl, rfl, ok, S2, α2, x1.trans x2, hs2, hp3⟩
end
end Tp

/-! Calls of defs. -/
namespace Tp
open PySem PySem.Spec PyProof.Rows L2
section
variable {Γ : Gm} {Wx : WX} {X : Cx} {α β ψ : List Addr} {H H' : Hp} {S : Store}
theorem fb_left {a : Addr} (h : fb α ψ a) : fb (α ++ β) ψ a := h.elim (fun h => .inl (List.mem_append.mpr (.inl h))) .inr
theorem Ext.leave (x : Ext α H (α ++ β) H') : Ext α H α H' := ⟨⟨[], by simp⟩, x.keep, x.dom⟩
theorem RC.sub {F F' : Addr → Prop} (hf : ∀ a, F' a → F a) {c : Cell} {o : HO} (h : RC Γ H F c o) : RC Γ H F' c o := RC.mono (fun _ _ q _ _ => q) (fun a _ _ n q => n (hf a q)) h
theorem RS.leave (R : RS Γ H (α ++ β) ψ S) : RS Γ H α ψ (S.take α.length) := by
  have hl := R.len
  rw [List.length_append] at hl
  refine ⟨by rw [List.length_take]; omega, (List.nodup_append.mp R.nd).1, fun k a c h1 h2 => ?_, fun a ha => R.dis a (List.mem_append.mpr (.inl ha)), R.kn⟩
  have hk : k < α.length := (List.getElem?_eq_some_iff.mp h1).1
  rw [List.getElem?_take_of_lt hk] at h2
  obtain ⟨o, e, r⟩ := R.cell k a c (by rw [List.getElem?_append_left hk]; exact h1) h2
  exact ⟨o, e, r.sub fun b q => fb_left q⟩
theorem RS.out (R : RS Γ H (α ++ β) ψ S) {k : Nat} {a : Addr} (hk : (α ++ β)[k]? = some a) (hn : ¬ k < α.length) : a ∈ β ∧ ¬ fb α ψ a := by
  rw [List.getElem?_append_right (by omega)] at hk
  have hb := List.mem_of_getElem? hk
  refine ⟨hb, fun q => ?_⟩
  rcases q with q | q
  · exact (List.nodup_append.mp R.nd).2.2 a q a hb rfl
  · exact R.dis a (List.mem_append.mpr (.inr hb)) q
theorem RS.cellP (R : RS Γ H (α ++ β) ψ S) {k : Nat} {a : Addr} {c : Cell} (hk : (α ++ β)[k]? = some a) (hn : ¬ k < α.length) (hc : S[k]? = some c) : RP Γ H (fb α ψ) (cellP c) (.ref a) := by
  obtain ⟨o, e, r⟩ := R.cell k a c hk hc
  obtain ⟨_, nf⟩ := R.out hk hn
  cases c with
  | lst xs =>
    obtain ⟨vs, eo, q⟩ := r
    exact ⟨a, vs, rfl, by rw [e, eo], nf, q.sub fun b q => fb_left q⟩
  | dk kvs =>
    obtain ⟨us, eo, q1, q2⟩ := r
    refine ⟨a, us, rfl, by rw [e, eo], nf, ?_, q2.sub fun b q => fb_left q⟩
    rw [q1, List.map_map]; rfl
theorem leaveTl_rel (R : RS Γ H (α ++ β) ψ S) : ∀ {ws ys : List (Sum P Nat)} {vs : List V}, RSums Γ H (α ++ β) ψ ws vs → leaveTl α.length S ws = some ys → RSums Γ H α ψ ys vs
  | [], ys, vs, r, e => by cases e; exact r
  | x :: xs, ys, vs, ⟨v, r, ev, h1, h2⟩, e => by
    simp only [leaveTl] at e
    split at e
    · rename_i y zs e1 e2
      cases e
      refine ⟨v, r, ev, ?_, leaveTl_rel R h2 e2⟩
      cases x with
      | inl p => cases e1; exact RP.sub (fun b q => fb_left q) h1
      | inr k =>
        obtain ⟨a, ea, ha⟩ := h1
        simp only [leaveS] at e1
        split at e1
        · rename_i hk
          cases e1
          exact ⟨a, ea, by rw [List.getElem?_append_left hk] at ha; exact ha⟩
        · rename_i hk
          cases hc : S[k]? with
          | none => rw [hc] at e1; cases e1
          | some c => rw [hc] at e1; cases e1; rw [ea]; exact R.cellP ha hk hc
    · cases e
theorem allP_rel {F : Addr → Prop} : ∀ {ys : List (Sum P Nat)} {xs : List P} {vs : List V}, RSums Γ H α ψ ys vs → allP ys = some xs → RPs Γ H (fb α ψ) xs vs
  | [], xs, vs, r, e => by cases e; exact r
  | .inl x :: ys, xs, vs, ⟨v, r, ev, h1, h2⟩, e => by
    simp only [allP] at e
    cases e2 : allP ys with
    | none => rw [e2] at e; cases e
    | some zs => rw [e2] at e; cases e; exact ⟨v, r, ev, h1, allP_rel (F := F) h2 e2⟩
  | .inr _ :: _, _, _, _, e => nomatch e
theorem RW.leave (R : RS Γ H (α ++ β) ψ S) : ∀ {w w' : W} {v : V}, RW Γ H (α ++ β) ψ w v → leaveW α.length S w = some w' → RW Γ H α ψ w' v
  | .p x, _, _, r, e => by cases e; exact RP.sub (fun b q => fb_left q) r
  | .loc k, w', v, ⟨a, ea, ha⟩, e => by
    simp only [leaveW] at e
    split at e
    · rename_i hk
      cases e
      exact ⟨a, ea, by rw [List.getElem?_append_left hk] at ha; exact ha⟩
    · rename_i hk
      cases hc : S[k]? with
      | none => rw [hc] at e; cases e
      | some c => rw [hc] at e; cases e; rw [ea]; exact R.cellP ha hk hc
  | .tl ws, w', v, ⟨a, vs, ea, ht, r⟩, e => by
    simp only [leaveW] at e
    split at e
    · rename_i ys e1
      have r2 := leaveTl_rel R r e1
      split at e
      · rename_i xs e2
        cases e
        exact ⟨a, vs, ea, ht, allP_rel (F := fun _ => False) r2 e2⟩
      · cases e
        exact ⟨a, vs, ea, ht, r2⟩
    · cases e
  | .scr _, _, _, r, e => by cases e; exact r
  | .pr _, _, _, ⟨a, vs, ea, ht, r⟩, e => by cases e; exact ⟨a, vs, ea, ht, r.sub fun b q => fb_left q⟩
end
/-! ### what a def promises -/
def spOf (Γ : Gm) (cf : CallF) (i : Nat) : Sp := fun vs H Q E => ∃ (ψ α : List Addr) (ws : List W) (S : Store), RWs Γ H α ψ ws vs ∧ RS Γ H α ψ S ∧ Post Γ (fun c d _ H' => E c d H') [] ψ α H (cf i ws S) (KE Γ ψ Q)
section
variable {Γ : Gm} {Wx : WX} {X : Cx}
theorem call_post {cf : CallF} {i : Nat} {ψ α : List Addr} {σ : L2.St} {H : Hp} {S : Store} {ws : List W} {Q : VK} (R : RS Γ H α ψ S) {bk : Nat → W → Store → Res W} (hp : Post Γ Wx σ ψ α H (callTrunc S.length (cf i ws S) fun w S2 => bk S.length w S2) (KE Γ ψ Q))
    (hb : ∀ w S2 β H' v, Ext α H (α ++ β) H' → RS Γ H' (α ++ β) ψ S2 → RW Γ H' (α ++ β) ψ w v → Post Γ Wx σ ψ α H (bk S.length w S2) (KE Γ ψ Q) → Q v H') :
    Post Γ (fun c d _ H' => WE Wx σ c d H') [] ψ α H (cf i ws S) (KE Γ ψ Q) := by
  cases e : cf i ws S with
  | ok w S2 =>
    rw [e] at hp
    intro H' α' x R' v rv
    obtain ⟨β, eb, _⟩ := x.pre
    subst eb
    exact hb w S2 β H' v x R' rv hp
  | ex c fs S2 =>
    rw [e] at hp
    intro H' α' d x R'
    obtain ⟨β, eb, _⟩ := x.pre
    subst eb
    exact hp H' α d x.leave (by rw [← R.len]; exact R'.leave)
  | bad => rw [e] at hp; exact hp
structure FnSp (Γ : Gm) (X : Cx) (cf : CallF) (n : Nat) (i : Nat) (x : Str) : Prop where
  ok : ∃ fd ps, FnOk X.prog X.w X.K X.mg X.base (L2.CX X.prog X.w) n (Γ.fa i) fd ps (spOf Γ cf i) ∧ Binds X.K fd ps []
  mg : X.mg x = some (.ref (Γ.fa i))
  kp : PySem.W.keepIn X.K (.ref (Γ.fa i)) = true
theorem ok_callG {cf : CallF} {n i : Nat} {x : Str} {p pos : Pos} {e : Expr} {es : List Expr} {g : Fr → Store → Res (List W)} (tk : Takes X Wx) (F : FnSp Γ X cf n i x) (hr : Room n X.A) (hg : Gl X x) (hdb : (x == ("__debug__" : Str)) = false) (hn : (e :: es).all nst = true) (hes : OkA Γ Wx X (e :: es) g) {bk : Nat → W → Store → Res W}
    (hb : ∀ {ψ α : List Addr} {σ : L2.St} {H : Hp} {S : Store} {Q : VK}, RS Γ H α ψ S → ∀ w S2 β H' v, Ext α H (α ++ β) H' → RS Γ H' (α ++ β) ψ S2 → RW Γ H' (α ++ β) ψ w v → Post Γ Wx σ ψ α H (bk S.length w S2) (KE Γ ψ Q) → Q v H') :
    OkE Γ Wx X (.Call (.Name x p) (e :: es) [] pos) (fun σ S => (g σ S).bind fun ws S1 => callTrunc S1.length (cf i ws S1) fun w S2 => bk S1.length w S2) := by
  intro ψ α σw S σ H Q hf hs hp
  rw [List.all_cons, Bool.and_eq_true] at hn
  obtain ⟨fd, ps, hF, hbd⟩ := F.ok
  refine GE.of (pe_callS hF hr hg F.mg F.kp hbd (fun σ => L2.passAt tk σ) (pa_ga (e :: es)) hdb (nst_each hn.1) (star_plain hn.2)) ?_
  refine hes.then hf hs hp fun ws S1 vs α1 H1 x1 hf1 hs1 r1 hp1 => ?_
  exact ⟨ψ, α1, ws, S1, r1, hs1, call_post hs1 hp1 (hb hs1)⟩
theorem back_ok {ψ α : List Addr} {σ : L2.St} {H : Hp} {S : Store} {Q : VK} (R : RS Γ H α ψ S) (w : W) (S2 : Store) (β : List Addr) (H' : Hp) (v : V) (x : Ext α H (α ++ β) H') (R' : RS Γ H' (α ++ β) ψ S2) (rv : RW Γ H' (α ++ β) ψ w v) (hp : Post Γ Wx σ ψ α H (back S.length w S2) (KE Γ ψ Q)) : Q v H' := by
  unfold back at hp
  rw [← R.len] at hp
  split at hp
  · rename_i w' e
    exact hp H' α x.leave R'.leave v (rv.leave R' e)
  · exact hp.elim
theorem backNew_ok {ψ α : List Addr} {σ : L2.St} {H : Hp} {S : Store} {Q : VK} (R : RS Γ H α ψ S) (w : W) (S2 : Store) (β : List Addr) (H' : Hp) (v : V) (x : Ext α H (α ++ β) H') (R' : RS Γ H' (α ++ β) ψ S2) (rv : RW Γ H' (α ++ β) ψ w v) (hp : Post Γ Wx σ ψ α H (backNew S.length w S2) (KE Γ ψ Q)) : Q v H' := by
  unfold backNew at hp
  rw [← R.len] at hp
  cases w with
  | loc k =>
    dsimp only at hp
    split at hp
    · rename_i hk
      split at hp
      · rename_i c hc
        obtain ⟨a, ea, ha⟩ := rv
        have hk' : ¬ k < α.length := by omega
        obtain ⟨hb, nf⟩ := R'.out ha hk'
        obtain ⟨o, ho, rc⟩ := R'.cell k a c ha hc
        have sub : ∀ b, fb (α ++ [a]) ψ b → fb (α ++ β) ψ b := fun b q => by
          rcases q with q | q
          · rcases List.mem_append.mp q with q | q
            · exact .inl (List.mem_append.mpr (.inl q))
            · simp at q; rw [q]; exact .inl (List.mem_append.mpr (.inr hb))
          · exact .inr q
        have R3 : RS Γ H' (α ++ [a]) ψ (S2.take α.length ++ [c]) := by
          refine R'.leave.adopt (fun q => nf (.inl q)) ho (fun q => nf (.inr q)) (rc.sub sub) fun j b d h1 h2 => ?_
          have hj : j < α.length := (List.getElem?_eq_some_iff.mp h1).1
          rw [List.getElem?_take_of_lt hj] at h2
          obtain ⟨u, e, r⟩ := R'.cell j b d (by rw [List.getElem?_append_left hj]; exact h1) h2
          exact ⟨u, e, r.sub sub⟩
        have x3 : Ext α H (α ++ [a]) H' := by
          obtain ⟨γ, e1, f1⟩ := x.pre
          have e2 : γ = β := List.append_cancel_left e1.symm
          subst e2
          exact ⟨⟨[a], rfl, fun b hb' => by simp at hb'; rw [hb']; exact f1 a hb⟩, x.keep, x.dom⟩
        exact hp _ _ x3 R3 v ⟨a, ea, by simp⟩
      · exact hp.elim
    · exact hp.elim
  | _ => exact hp.elim
theorem ok_call {cf : CallF} {n i : Nat} {x : Str} {p pos : Pos} {e : Expr} {es : List Expr} {g : Fr → Store → Res (List W)} (tk : Takes X Wx) (F : FnSp Γ X cf n i x) (hr : Room n X.A) (hg : Gl X x) (hdb : (x == ("__debug__" : Str)) = false) (hn : (e :: es).all nst = true) (hes : OkA Γ Wx X (e :: es) g) :
    OkE Γ Wx X (.Call (.Name x p) (e :: es) [] pos) (fun σ S => (g σ S).bind fun ws S1 => callTrunc S1.length (cf i ws S1) fun w S2 => back S1.length w S2) := ok_callG tk F hr hg hdb hn hes (bk := back) fun R w S2 β H' v x R' rv hp => back_ok R w S2 β H' v x R' rv hp
theorem ok_ncall {cf : CallF} {n i : Nat} {x : Str} {p pos : Pos} {e : Expr} {es : List Expr} {g : Fr → Store → Res (List W)} (tk : Takes X Wx) (F : FnSp Γ X cf n i x) (hr : Room n X.A) (hg : Gl X x) (hdb : (x == ("__debug__" : Str)) = false) (hn : (e :: es).all nst = true) (hes : OkA Γ Wx X (e :: es) g) :
    OkE Γ Wx X (.Call (.Name x p) (e :: es) [] pos) (fun σ S => (g σ S).bind fun ws S1 => callTrunc S1.length (cf i ws S1) fun w S2 => backNew S1.length w S2) := ok_callG tk F hr hg hdb hn hes (bk := backNew) fun R w S2 β H' v x R' rv hp => backNew_ok R w S2 β H' v x R' rv hp
end
end Tp

/-! enumerate(tuple). -/
namespace Tp
open PySem PySem.Spec PyProof.Rows L2
theorem meets_enumT {v : Value} {o : Obj} {H : Heap → Prop} (B : Begins v o H) :
    Meets (Builtin.«enumerate.__new__» ⟨[.type "enumerate", v], []⟩) (fun _ R s => H s.heap ∧
      R (.ok (.ret (.ref (s.heap.push o).objs.size))) { s with heap := (s.heap.push o).push { cls := .type "enumerate", data := .fields #[.none, .bool false, .ref s.heap.objs.size, rawInt 0, .none, .none] } }) :=
  .of_wp fun prog w A R s h => by
    obtain ⟨hp, g, d, tk, os⟩ := s; obtain ⟨h1, h⟩ := h
    have hsub := sub_enumerate
    have q1 : ∀ {A' : Around} {E : Value → Shared → Prop} {Q : Value → Shared → Prop}, Q (.ref hp.objs.size) ⟨hp.push o, g, d, tk, os⟩ → wpAny (model prog w) A' (pyIter v) Q E ⟨hp, g, d, tk, os⟩ :=
      fun q => B.iter prog w _ _ ⟨hp, g, d, tk, os⟩ _ h1 q
    wp_walk using q1
    refine wpAny_stack_any fun st => wpAny_pure ?_
    split
    · rename_i c _ _ _ _ _
      cases (c == Value.type "enumerate")
      · wp_walk using q1
        exact ⟨_, rfl, h⟩
      · wp_walk using q1
        exact ⟨_, rfl, h⟩
    · wp_walk using q1
      exact ⟨_, rfl, h⟩
theorem call_enumB {prog : Program} {w : World} {A : Around} {E : Value → Shared → Prop} {s : Shared} {v : Value} {o : Obj} {H : Heap → Prop} {Q : Value → Shared → Prop} (B : Begins v o H) (h1 : H s.heap)
    (h : ∀ h', IsEnum h' (s.heap.objs.size + 1) s.heap.objs.size 0 .none → h'.get? s.heap.objs.size = some o → h'.objs.size = s.heap.objs.size + 2 →
      (∀ b o, s.heap.get? b = some o → h'.get? b = some o) → Q (.ref (s.heap.objs.size + 1)) { s with heap := h' }) :
    wpAny (model prog w) A (call (.type "enumerate") [v]) Q E s := by
  refine callType_new F.called_enumerate (by decide) (F.typeCall_enumerate_1 _) (F.newCall_enumerate_1 _) (fun obj => F.args_object_init_2 obj _) F.entry_enumerate_new
    (meets_enumT B) ⟨h1, ?_⟩
  have hz : (s.heap.push o).objs.size = s.heap.objs.size + 1 := Heap.size_push ..
  show _ ∧ _
  rw [hz]
  have he : IsEnum ((s.heap.push o).push { cls := .type "enumerate", data := .fields #[.none, .bool false, .ref s.heap.objs.size, rawInt 0, .none, .none] }) (s.heap.objs.size + 1) s.heap.objs.size 0 .none := by
    have := Heap.get?_push_size (s.heap.push o) (o := { cls := .type "enumerate", data := .fields #[.none, .bool false, .ref s.heap.objs.size, rawInt 0, .none, .none] }) rfl
    rw [hz] at this; exact this
  refine ⟨⟨_, he, rfl⟩, h _ he (Heap.get?_push_of_some _ (Heap.get?_push_size _ B.free)) (by rw [Heap.size_push, hz]) fun b o x => Heap.get?_push_of_some _ (Heap.get?_push_of_some _ x)⟩
/-- the tuple at a, each item in a new pair -/
def IteT (K : PySem.W.Frag) (a : Addr) : It :=
  ⟨fun i H => ∃ (xs : List V) (x : V), SqT K H a xs ∧ xs[i]? = some x, fun i H v H' => ∃ T x, v = .ref T ∧ H T = none ∧ H' = upd H T (.tup [.int (i : Nat), x]) ∧ ∀ xs, SqT K H a xs → xs[i]? = some x, fun i H => ∃ xs : List V, SqT K H a xs ∧ xs.length ≤ i⟩
theorem turn_enumT {P : Program} {w : World} {K : PySem.W.Frag} {elts : List Expr} {kk : Nat} {tpos : Pos} (a e it : Addr) (hai : a ≠ it) (hea : e ≠ a) :
    Turn P w K (.Tuple elts kk tpos) (IteT K a) [e, it] e (fun i h => (∃ old, IsEnum h e it ((i : Nat) : Int) old) ∧ h.IsTupleIter it a i ∧ e ≠ it) where
  mem := by simp
  obj := fun i h st b hb => by
    obtain ⟨⟨old, he⟩, ⟨o, ho, hc, hd⟩, _⟩ := st
    have e' : b = e ∨ b = it := by simpa using hb
    rcases e' with z | z
    · rw [z]; exact ⟨_, he, fun v q => nomatch q⟩
    · rw [z]; exact ⟨o, ho, fun v q => by rw [hd] at q; cases q⟩
  keep := fun i h h' st k => let ⟨⟨old, he⟩, hi, hne⟩ := st; ⟨⟨old, k e (by simp) _ he⟩, hi.at fun o q => k it (by simp) o q, hne⟩
  item := by
    intro X hP hw hK hc i pins s σ H E I hf st hg
    subst hP hw hK
    obtain ⟨⟨old, he⟩, hit, hne⟩ := st
    obtain ⟨xs, x, hq, hx⟩ := hg
    obtain ⟨its, rv, p, hz⟩ := I.tuple hq
    have p' : s.heap.IsTuple a its.toArray := p
    obtain ⟨u, hu, ru⟩ := rv.get hx
    have hel : e < s.heap.objs.size := Heap.lt_size he
    have hil : it < s.heap.objs.size := by obtain ⟨_, q, _⟩ := hit; exact Heap.lt_size q
    have hlt : i < its.toArray.size := by
      rw [List.size_toArray]
      exact (List.getElem?_eq_some_iff.mp hu).1
    refine wpAny_pyNext_enum_itemD (Draws.tuple (A := X.A.in1) (I.ok.hd hc) it a hai its.toArray) he ⟨hit, p'⟩ hlt hne (by simp; exact ⟨hne, hea⟩) fun u2 h' tk hu2 ho hit' hT hsz hk => ?_
    have eu : u2 = u := by
      have hu3 : its[i]? = some u2 := by simpa using hu2
      rw [hu] at hu3
      exact (Option.some.inj hu3).symm
    subst eu
    refine ⟨_, rfl, wpAny_letOwnedTupleGo_enum (s := { s with heap := h', toks := tk + 1 }) ho fun h'' he' sb => ?_⟩
    have hT2 : h''.get? s.heap.objs.size = some { cls := .type "tuple", data := .seq #[.int i tk, u2] } := (sb.2 _ (Nat.ne_of_gt hel)).trans hT
    have new : ObjOk X.prog X.w (upd H s.heap.objs.size (.tup [.int (i : Nat), x])) h'' s.heap.objs.size (.tup [.int (i : Nat), x]) :=
      ⟨by show 2 ≤ sizeLine; decide, [.int i tk, u2], .cons ⟨_, rfl⟩ (.cons ru .nil), ⟨_, hT2, rfl, _, rfl⟩⟩
    have I1 : Inv X pins σ (upd H s.heap.objs.size (.tup [.int (i : Nat), x])) { s with heap := h'', toks := tk + 1 } :=
      I.turnedNew (ch := [e, it]) (fun b ob hb q => (sb.2 b (fun z => hb (by simp [z]))).trans (hk b ob (fun z => hb (by simp [z])) (fun z => hb (by simp [z])) q)) hf (Nat.le_refl _) new
    refine ⟨.ref s.heap.objs.size, _, I1, rfl, ⟨_, x, rfl, I.hok.fresh (Nat.le_refl _), rfl, fun ys hy => by rw [I.tuple_inj hy hq]; exact hx⟩, ⟨⟨u2, ?_⟩, hit'.1.at fun o q => (sb.2 it (Ne.symm hne)).trans q, hne⟩, fun b hb => ?_⟩
    · have e1 : ((i + 1 : Nat) : Int) = (i : Int) + 1 := by omega
      rw [e1]; exact he'
    · have hb' : b < s.heap.objs.size := by
        have e' : b = e ∨ b = it := by simpa using hb
        rcases e' with z | z
        · rw [z]; exact hel
        · rw [z]; exact hil
      rw [upd_ne (Nat.ne_of_lt hb')]
      exact (hf b hb).1
  done := by
    intro X hP hw hK hc i pins s σ H E I hf st hg
    subst hP hw hK
    obtain ⟨⟨old, he⟩, hit, hne⟩ := st
    obtain ⟨xs, hq, hx⟩ := hg
    obtain ⟨its, rv, p, hz⟩ := I.tuple hq
    have p' : s.heap.IsTuple a its.toArray := p
    obtain ⟨f0, f1, f2, f3, f4, f5⟩ := hf it (by simp)
    have hl := rv.length
    unfold pyNext
    have hT : s.TypeIs (.ref e) "enumerate" := ⟨_, he, rfl⟩
    refine wpAny_bind (wpAny_attempt (wpAny_callSpecial?_slot (name := Str.ofString "__next__") hT F.slot_enumerate_next
      (wpAny_call_entry F.slot_enumerate_next hT F.entry_enumerate_next ?_ (F.args_enumerate_next_1 _))))
    show wpAny _ _ (field (.ref e) 2 >>= _) _ _ _
    refine wpAny_bind (wpAny_field he rfl (x := .ref it) rfl ?_)
    refine wpAny_bind (wpAny_nextOf_tuple_end (A := X.A.in1) (I.ok.hd hc) hit p' (by simp; omega) fun h' x he' hx' => ?_)
    obtain ⟨o, ho, hcx⟩ := hx'
    refine wpAny_bind (wpAny_isInstance (T := "StopIteration") (b := true) ⟨o, ho, hcx⟩ isSubtype_stop ?_)
    exact wpAny_pure ⟨rfl, I.turned (t' := s.toks) (fun b o hb q => he' b o hb q) f0 f1 f3 f4 f5⟩
  self := fun A i s Q E st h => let ⟨⟨_, he⟩, _⟩ := st; wpAny_pyIter_enum he h
def iEnumT (K : PySem.W.Frag) (ta : TA) : TI := fun σ H R => ta σ H fun vs H1 => ∃ a xs, vs = [.ref a] ∧ SqT K H1 a xs ∧ R (IteT K a) H1
theorem pi_enumT {X : Cx} {e : Expr} {ta : TA} {p pos tpos : Pos} {elts : List Expr} {kk : Nat} (hg : Gl X "enumerate") (hm : X.mg "enumerate" = none) (ha : PA X [e] ta) (hs : starEach [e] X.env = [(false, eval e X.env)] := by rfl) :
    PI X (.Tuple elts kk tpos) (.Call (.Name "enumerate" p) [e] [] pos) (iEnumT X.K ta) := by
  refine ⟨fun pins s σ H R I h => ?_⟩
  refine Call_ (ld_blt I hg hm boot_enumerate (PyProof.Rows.callWith_type1 (thn (ha.run pos pins s σ H _ I h) fun us s1 ⟨vs, H1, I1, r1, q1⟩ => ?_) hs rfl))
  obtain ⟨a, xs, ex, hq, q⟩ := q1
  subst ex
  cases r1 with
  | cons r rr =>
    cases rr
    cases r
    obtain ⟨its, rv, p', hz⟩ := I1.tuple hq
    have pt : s1.heap.IsTuple a its.toArray := p'
    refine call_enumB (begins_tuple a its.toArray) pt fun h' he hit hsz hk => wpAny_pyIter_enum he ?_
    have I2 : Inv X pins σ H1 { s1 with heap := h' } := I1.kept (t' := s1.toks) hk
    have hal : a < s1.heap.objs.size := by obtain ⟨o, ho, _⟩ := id pt; exact Heap.lt_size ho
    refine ⟨s1.heap.objs.size + 1, [s1.heap.objs.size + 1, s1.heap.objs.size], _, _, H1, rfl, I2, turn_enumT a (s1.heap.objs.size + 1) s1.heap.objs.size (Nat.ne_of_lt hal) (Nat.ne_of_gt (Nat.lt_succ_of_lt hal)), ⟨⟨.none, he⟩, ⟨_, hit, rfl, rfl⟩, Nat.succ_ne_self _⟩, fun b hb => ?_, q⟩
    have e' : b = s1.heap.objs.size + 1 ∨ b = s1.heap.objs.size := by simpa using hb
    have hle : s1.heap.objs.size ≤ b := by
      rcases e' with z | z
      · rw [z]; exact Nat.le_add_right _ _
      · rw [z]; exact Nat.le_refl _
    exact I1.fpOk hle (I1.hok.fresh hle)
theorem walk_enumT {K : PySem.W.Frag} {a : Addr} {xs : List V} : Walk (IteT K a) xs.length (fun H => SqT K H a xs) (YPair (fun i => some (.int (i : Nat))) (fun i => xs[i]?)) := by
  refine ⟨fun i _ hi q => ⟨xs, xs[i], q, by simp [hi]⟩, fun _ q => ⟨xs, q, Nat.le_refl _⟩, fun i H v H' _ q y => ?_⟩
  obtain ⟨T, x, h1, h2, h3, h4⟩ := y
  exact ⟨T, .int (i : Nat), x, h1, h2, h3, rfl, h4 xs q⟩
theorem walk_zipT {K : PySem.W.Frag} {a b : Addr} {xs ys : List V} {n : Nat} (hn : n = min xs.length ys.length) : Walk (RZ.ItzT K a b) n (fun H => SqT K H a xs ∧ SqT K H b ys) (YPair (fun i => xs[i]?) (fun i => ys[i]?)) := by
  subst hn
  refine ⟨fun i _ hi q => ?_, fun _ q => ⟨xs, ys, q.1, q.2, by omega⟩, fun i H v H' _ q y => ?_⟩
  · have h1 : i < xs.length := by omega
    have h2 : i < ys.length := by omega
    exact ⟨xs, ys, xs[i], ys[i], q.1, q.2, by simp [h1], by simp [h2]⟩
  · obtain ⟨T, x, z, h1, h2, h3, h4, h5⟩ := y
    exact ⟨T, x, z, h1, h2, h3, h4 xs q.1, h5 ys q.2⟩
end Tp

/-! What is walked; targets. -/
namespace Tp
open PySem PySem.Spec PyProof.Rows L2
structure Mv (α ψ : List Addr) (H : Hp) (α' ψ' : List Addr) (H' : Hp) : Prop where
  keep : ∀ a u, H a = some u → (¬ fb α ψ a ∨ isCellO u = false) → isTbl u = false → H' a = some u
  sub : ∀ a u, H a = some u → ¬ fb α ψ a → ¬ fb α' ψ' a
  pre : ∀ (k : Nat) (a : Addr), α[k]? = some a → α'[k]? = some a
section
variable {Γ : Gm} {α α' ψ ψ' : List Addr} {H H' : Hp}
theorem Mv.ext (x : Ext α H α' H') : Mv α ψ H α' ψ H' := ⟨fb_keep x, fb_sub x, fun _ _ h => x.at h⟩
theorem Mv.fresh {D : Addr} {o : HO} (hn : H D = none) : Mv α ψ H α (D :: ψ) (upd H D o) :=
  ⟨(fun a u q _ _ => by rw [upd_ne (ne_of_none q hn)]; exact q), (fun a u q c z => by
    rcases z with z | z
    · exact c (.inl z)
    · rcases List.mem_cons.mp z with z | z
      · rw [z, hn] at q; cases q
      · exact c (.inr z)), (fun _ _ h => h)⟩
theorem Mv.res {D : Addr} {o o1 : HO} (hD : D ∈ ψ) (h1 : H D = some o1) (hc : isCellO o1 = true) : Mv α ψ H α ψ (upd H D o) :=
  ⟨(fun a u q c _ => by
    rw [upd_ne]
    · exact q
    · rintro rfl
      rcases c with c | c
      · exact c (.inr hD)
      · rw [h1] at q; cases q; rw [hc] at c; cases c), (fun _ _ _ n => n), (fun _ _ h => h)⟩
theorem RP.mv (m : Mv α ψ H α' ψ' H') {p : P} {v : V} (h : RP Γ H (fb α ψ) p v) : RP Γ H' (fb α' ψ') p v := RP.mono m.keep m.sub p v h
theorem RPs.mv (m : Mv α ψ H α' ψ' H') {p : List P} {v : List V} (h : RPs Γ H (fb α ψ) p v) : RPs Γ H' (fb α' ψ') p v := RPs.mono m.keep m.sub p v h
theorem TupD.mv (m : Mv α ψ H α' ψ' H') {a : Addr} {vs : List V} (h : TupD Γ.K H a vs) : TupD Γ.K H' a vs := by
  rcases h with ⟨o, h, d⟩ | h
  · exact .inl ⟨o, m.keep _ _ h (.inr rfl) rfl, d⟩
  · exact .inr h
theorem SqT.mv (m : Mv α ψ H α' ψ' H') {a : Addr} {vs : List V} (h : SqT Γ.K H a vs) : SqT Γ.K H' a vs := by
  rcases h with (h | ⟨o, h⟩) | h
  · exact .inl (.inl (m.keep _ _ h (.inr rfl) rfl))
  · exact .inl (.inr ⟨o, m.keep _ _ h (.inr rfl) rfl⟩)
  · exact .inr h
theorem RSum.mv (m : Mv α ψ H α' ψ' H') : ∀ {w : Sum P Nat} {v : V}, RSum Γ H α ψ w v → RSum Γ H' α' ψ' w v
  | .inl _, _, h => RP.mv m h
  | .inr _, _, ⟨a, e, h⟩ => ⟨a, e, m.pre _ _ h⟩
theorem RSums.mv (m : Mv α ψ H α' ψ' H') : ∀ {ws : List (Sum P Nat)} {vs : List V}, RSums Γ H α ψ ws vs → RSums Γ H' α' ψ' ws vs
  | [], _, h => h
  | _ :: _, _, ⟨v, r, e, h1, h2⟩ => ⟨v, r, e, RSum.mv m h1, RSums.mv m h2⟩
theorem RW.mv (m : Mv α ψ H α' ψ' H') : ∀ {w : W} {v : V}, RW Γ H α ψ w v → RW Γ H' α' ψ' w v
  | .p _, _, h => RP.mv m h
  | .loc _, _, ⟨a, e, h⟩ => ⟨a, e, m.pre _ _ h⟩
  | .tl _, _, ⟨a, vs, e, h, r⟩ => ⟨a, vs, e, TupD.mv m h, RSums.mv m r⟩
  | .pr _, _, ⟨a, vs, e, h, r⟩ => ⟨a, vs, e, SqT.mv m h, RPs.mv m r⟩
  | .scr _, _, ⟨a, e, h⟩ => ⟨a, e, h.elim (fun ⟨o, q⟩ => .inl ⟨o, m.keep _ _ q (.inr rfl) rfl⟩) .inr⟩
theorem RF.mv (m : Mv α ψ H α' ψ' H') {σw : Fr} {σ : L2.St} (h : RF Γ H α ψ σw σ) : RF Γ H' α' ψ' σw σ :=
  ⟨h.1, fun i w e => let ⟨v, e1, r⟩ := h.2 i w e; ⟨v, e1, r.mv m⟩⟩
theorem RS.res {S : Store} {D : Addr} {o o1 : HO} (R : RS Γ H α ψ S) (hD : D ∈ ψ) (h1 : H D = some o1) (hc : isCellO o1 = true) : RS Γ (upd H D o) α ψ S := by
  have m : Mv α ψ H α ψ (upd H D o) := .res hD h1 hc
  refine ⟨R.len, R.nd, fun k a c e1 e2 => ?_, R.dis, fun b hb q => ?_⟩
  · obtain ⟨u, e, r⟩ := R.cell k a c e1 e2
    refine ⟨u, ?_, RC.mono m.keep m.sub r⟩
    have ne : a ≠ D := fun z => R.dis a (List.mem_of_getElem? e1) (by rw [z]; exact hD)
    rw [upd_ne ne]
    exact e
  · by_cases e : b = D
    · rw [e, upd_same] at q; cases q
    · rw [upd_ne e] at q; exact R.kn b hb q
/-- what was reserved is no longer -/
theorem RS.drop1 {S : Store} {D : Addr} (R : RS Γ H α (D :: ψ) S) : RS Γ H α ψ S :=
  ⟨R.len, R.nd, fun k a c e1 e2 => let ⟨u, e, r⟩ := R.cell k a c e1 e2; ⟨u, e, RC.mono (fun _ _ q _ _ => q) (fun a u q n z => n (z.elim .inl fun z => .inr (List.mem_cons_of_mem _ z))) r⟩, fun a ha q => R.dis a ha (List.mem_cons_of_mem _ q), fun b hb => R.kn b (List.mem_cons_of_mem _ hb)⟩
theorem RPs.drop1 {D : Addr} {xs : List P} {vs : List V} (h : RPs Γ H (fb α (D :: ψ)) xs vs) : RPs Γ H (fb α ψ) xs vs := h.sub fun a z => z.elim .inl fun z => .inr (List.mem_cons_of_mem _ z)
end
/-! ### what is walked -/
structure SrcInv (Γ : Gm) (J : It) (R : List Addr → Nat → Src → List Addr → Hp → Prop) : Prop where
  mv : ∀ {ψ ψ' α α' : List Addr} {i : Nat} {src : Src} {H H' : Hp}, R ψ i src α H → Mv α ψ H α' ψ' H' → R ψ' i src α' H'
  stop : ∀ {ψ α : List Addr} {i : Nat} {src : Src} {H : Hp} {S : Store}, R ψ i src α H → RS Γ H α ψ S → src.next S = some none → J.stop i H
  go : ∀ {ψ α : List Addr} {i : Nat} {src src' : Src} {w : W} {H : Hp} {S : Store}, R ψ i src α H → RS Γ H α ψ S → src.next S = some (some (w, src')) →
    J.go i H ∧ ∀ x H', J.yld i H x H' → Ext α H α H' ∧ RS Γ H' α ψ S ∧ RW Γ H' α ψ w x ∧ R ψ (i + 1) src' α H'
section
variable {Γ : Gm}
theorem drop_next {α : Type} {xs : List α} {i : Nat} {x : α} {r : List α} (h : xs.drop i = x :: r) : xs[i]? = some x ∧ xs.drop (i + 1) = r := by
  have e1 : xs[i]? = some x := by
    have := congrArg (fun l => l[0]?) h
    simpa [List.getElem?_drop] using this
  refine ⟨e1, ?_⟩
  have := congrArg List.tail h
  simpa using this
theorem drop_end {α : Type} {xs : List α} {i : Nat} (h : xs.drop i = []) : xs.length ≤ i := by
  have := congrArg List.length h
  simp at this
  omega
theorem src_lst {a : Addr} (xs : List P) : SrcInv Γ (Itl Γ.K a) (fun ψ i src α H => src = .vals (xs.drop i) ∧ ∃ vs, H a = some (.lst vs) ∧ ¬ fb α ψ a ∧ RPs Γ H (fb α ψ) xs vs) where
  mv := fun ⟨e, vs, h, n, r⟩ m => ⟨e, vs, m.keep _ _ h (.inl n) rfl, m.sub _ _ h n, r.mv m⟩
  stop := fun {ψ α i src H S} ⟨e, vs, h, n, r⟩ R hx => by
    subst e
    cases hd : xs.drop i with
    | nil => exact ⟨vs, SqL.of h, by rw [← r.length]; exact drop_end hd⟩
    | cons y ys => rw [hd] at hx; cases hx
  go := fun {ψ α i src src' w H S} ⟨e, vs, h, n, r⟩ R hx => by
    subst e
    cases hd : xs.drop i with
    | nil => rw [hd] at hx; cases hx
    | cons y ys =>
      rw [hd] at hx; cases hx
      obtain ⟨e1, e2⟩ := drop_next hd
      obtain ⟨v, hv, rv⟩ := r.get e1
      refine ⟨⟨vs, v, SqL.of h, hv⟩, fun x H' ⟨eh, hx⟩ => ?_⟩
      subst eh
      have := hx vs (SqL.of h)
      rw [hv] at this
      cases this
      exact ⟨Ext.refl, R, rv, by rw [e2], vs, h, n, r⟩
theorem src_tup {a : Addr} (xs : List P) : SrcInv Γ (Itt Γ.K a) (fun ψ i src α H => src = .vals (xs.drop i) ∧ ∃ vs, TupD Γ.K H a vs ∧ RPs Γ H (fb α ψ) xs vs) where
  mv := fun ⟨e, vs, h, r⟩ m => ⟨e, vs, h.mv m, r.mv m⟩
  stop := fun {ψ α i src H S} ⟨e, vs, h, r⟩ R hx => by
    subst e
    cases hd : xs.drop i with
    | nil => exact ⟨vs, h.sq, by rw [← r.length]; exact drop_end hd⟩
    | cons y ys => rw [hd] at hx; cases hx
  go := fun {ψ α i src src' w H S} ⟨e, vs, h, r⟩ R hx => by
    subst e
    cases hd : xs.drop i with
    | nil => rw [hd] at hx; cases hx
    | cons y ys =>
      rw [hd] at hx; cases hx
      obtain ⟨e1, e2⟩ := drop_next hd
      obtain ⟨v, hv, rv⟩ := r.get e1
      refine ⟨⟨vs, v, h.sq, hv⟩, fun x H' ⟨eh, hx⟩ => ?_⟩
      subst eh
      have := hx vs h.sq
      rw [hv] at this
      cases this
      exact ⟨Ext.refl, R, rv, by rw [e2], vs, h, r⟩
theorem src_str (z : Nm) : SrcInv Γ (Its (toS z)) (fun ψ i src α H => src = .vals ((strSrc z).drop i)) where
  mv := fun e m => e
  stop := fun {ψ α i src H S} e R hx => by
    subst e
    cases hd : (strSrc z).drop i with
    | nil =>
      have := drop_end hd
      unfold strSrc at this
      rw [List.length_map] at this
      show (toS z).cps.size ≤ i
      rw [show (toS z).cps.size = z.length from toS_len z]
      exact this
    | cons y ys => rw [hd] at hx; cases hx
  go := fun {ψ α i src src' w H S} e R hx => by
    subst e
    cases hd : (strSrc z).drop i with
    | nil => rw [hd] at hx; cases hx
    | cons y ys =>
      rw [hd] at hx; cases hx
      obtain ⟨e1, e2⟩ := drop_next hd
      unfold strSrc at e1
      rw [List.getElem?_map] at e1
      cases hc : z[i]? with
      | none => rw [hc] at e1; cases e1
      | some c =>
        rw [hc] at e1; cases e1
        have hl : i < z.length := (List.getElem?_eq_some_iff.mp hc).1
        refine ⟨show i < (toS z).cps.size by rw [show (toS z).cps.size = z.length from toS_len z]; exact hl, fun x H' ⟨eh, c2, hc2, ex⟩ => ?_⟩
        subst eh ex
        have e3 : (toS z).cps[i]? = z[i]? := by show z.toArray[i]? = _; simp
        rw [e3, hc] at hc2
        cases hc2
        exact ⟨Ext.refl, R, rfl, by rw [e2]⟩
theorem src_cell {a : Addr} (k : Nat) : SrcInv Γ (Itl Γ.K a) (fun ψ i src α H => src = .cell k i ∧ α[k]? = some a) where
  mv := fun ⟨e, h⟩ m => ⟨e, m.pre _ _ h⟩
  stop := fun {ψ α i src H S} ⟨e, h⟩ R hx => by
    subst e
    simp only [Src.next] at hx
    split at hx
    · rename_i xs hk
      obtain ⟨o, h1, vs, eo, q⟩ := R.cell k a _ h hk
      subst eo
      split at hx
      · cases hx
      · rename_i hn
        exact ⟨vs, SqL.of h1, by rw [← q.length]; exact List.getElem?_eq_none_iff.mp hn⟩
    · cases hx
  go := fun {ψ α i src src' w H S} ⟨e, h⟩ R hx => by
    subst e
    simp only [Src.next] at hx
    split at hx
    · rename_i xs hk
      obtain ⟨o, h1, vs, eo, q⟩ := R.cell k a _ h hk
      subst eo
      split at hx
      · rename_i x hxi
        cases hx
        obtain ⟨v, hv, rv⟩ := q.get hxi
        refine ⟨⟨vs, v, SqL.of h1, hv⟩, fun x H' ⟨eh, hx⟩ => ?_⟩
        subst eh
        have := hx vs (SqL.of h1)
        rw [hv] at this
        cases this
        exact ⟨Ext.refl, R, rv, rfl, h⟩
      · cases hx
    · cases hx
theorem src_rng (lo : Int) (n : Nat) : SrcInv Γ (L2.Itr lo n) (fun ψ i src α H => i ≤ n ∧ src = .rng (lo + i) (n - i)) where
  mv := fun e m => e
  stop := fun {ψ α i src H S} ⟨hi, e⟩ R hx => by
    subst e
    cases hd : n - i with
    | zero => show n ≤ i; omega
    | succ m => rw [hd] at hx; cases hx
  go := fun {ψ α i src src' w H S} ⟨hi, e⟩ R hx => by
    subst e
    cases hd : n - i with
    | zero => rw [hd] at hx; cases hx
    | succ m =>
      rw [hd] at hx; cases hx
      refine ⟨show i < n by omega, fun x H' ⟨eh, ex⟩ => ?_⟩
      subst eh ex
      refine ⟨Ext.refl, R, rfl, by omega, ?_⟩
      have e1 : n - (i + 1) = m := by omega
      rw [e1]
      have e2 : lo + (i : Int) + 1 = lo + ((i + 1 : Nat) : Int) := by omega
      rw [e2]
/-- pairs, each new -/
theorem pair_new {α ψ : List Addr} {H : Hp} {S : Store} {T : Addr} {x y : P} {u v : V} (R : RS Γ H α ψ S) (hn : H T = none) (rx : RP Γ H (fb α ψ) x u) (ry : RP Γ H (fb α ψ) y v) :
    Ext α H α (upd H T (.tup [u, v])) ∧ RS Γ (upd H T (.tup [u, v])) α ψ S ∧ RW Γ (upd H T (.tup [u, v])) α ψ (.pr [x, y]) (.ref T) := by
  have x1 : Ext α H α (upd H T (.tup [u, v])) := Ext.new hn
  exact ⟨x1, R.new hn, T, [u, v], rfl, .inl (.inl upd_same), ⟨u, [v], rfl, RP.ext x1 rx, v, [], rfl, RP.ext x1 ry, rfl⟩⟩
theorem src_enum {J : It} (xs : List P) (G : Hp → List V → Prop) (hw : ∀ vs, Walk J vs.length (fun H => G H vs) (YPair (fun i => some (.int (i : Nat))) (fun i => vs[i]?)))
    (C : List Addr → List Addr → Hp → List V → Prop) (hC : ∀ {α ψ H vs}, C α ψ H vs → G H vs)
    (hG : ∀ {ψ ψ' α α' : List Addr} {H H' : Hp} {vs : List V}, C α ψ H vs → Mv α ψ H α' ψ' H' → C α' ψ' H' vs) :
    SrcInv Γ J (fun ψ i src α H => i ≤ xs.length ∧ src = .enm i (xs.drop i) ∧ ∃ vs, C α ψ H vs ∧ RPs Γ H (fb α ψ) xs vs) where
  mv := fun ⟨hi, e, vs, h, r⟩ m => ⟨hi, e, vs, hG h m, r.mv m⟩
  stop := fun {ψ α i src H S} ⟨hi, e, vs, h, r⟩ R hx => by
    subst e
    cases hd : xs.drop i with
    | nil =>
      have := drop_end hd
      have e1 : i = vs.length := by rw [← r.length]; omega
      rw [e1]
      exact (hw vs).stops H (hC h)
    | cons y ys => rw [hd] at hx; cases hx
  go := fun {ψ α i src src' w H S} ⟨hi, e, vs, h, r⟩ R hx => by
    subst e
    cases hd : xs.drop i with
    | nil => rw [hd] at hx; cases hx
    | cons y ys =>
      rw [hd] at hx; cases hx
      obtain ⟨e1, e2⟩ := drop_next hd
      obtain ⟨v, hv, rv⟩ := r.get e1
      have hlt : i < vs.length := (List.getElem?_eq_some_iff.mp hv).1
      refine ⟨(hw vs).goes i H hlt (hC h), fun x H' hy => ?_⟩
      obtain ⟨T, u1, u2, ex, hn, eh, hu1, hu2⟩ := (hw vs).yields i H x H' hlt (hC h) hy
      have hu2 : vs[i]? = some u2 := hu2
      rw [hv] at hu2
      cases hu2
      cases hu1
      subst ex eh
      obtain ⟨a1, a2, a3⟩ := pair_new (x := .int (i : Nat)) R hn rfl rv
      refine ⟨a1, a2, a3, by have := (List.getElem?_eq_some_iff.mp e1).1; omega, by rw [e2], vs, hG h (.ext a1), r.mv (.ext a1)⟩
theorem src_zip {J : It} (xs ys : List P) (G : Hp → List V → List V → Prop) (a b : Addr) (hw : ∀ vs us, Walk J (min vs.length us.length) (fun H => G H vs us) (YPair (fun i => vs[i]?) (fun i => us[i]?)))
    (C : List Addr → List Addr → Hp → List V → List V → Prop) (hC : ∀ {α ψ H vs us}, C α ψ H vs us → G H vs us)
    (hG : ∀ {ψ ψ' α α' : List Addr} {H H' : Hp} {vs us : List V}, C α ψ H vs us → Mv α ψ H α' ψ' H' → C α' ψ' H' vs us) :
    SrcInv Γ J (fun ψ i src α H => i ≤ min xs.length ys.length ∧ src = .zip (xs.drop i) (ys.drop i) ∧ ∃ vs us, C α ψ H vs us ∧ RPs Γ H (fb α ψ) xs vs ∧ RPs Γ H (fb α ψ) ys us) where
  mv := fun ⟨hi, e, vs, us, h, r1, r2⟩ m => ⟨hi, e, vs, us, hG h m, r1.mv m, r2.mv m⟩
  stop := fun {ψ α i src H S} ⟨hi, e, vs, us, h, r1, r2⟩ R hx => by
    subst e
    have l1 := r1.length
    have l2 := r2.length
    have e1 : i = min vs.length us.length := by
      cases hd : xs.drop i with
      | nil => have := drop_end hd; omega
      | cons y zs =>
        cases hd2 : ys.drop i with
        | nil => have := drop_end hd2; omega
        | cons y2 zs2 => rw [hd, hd2] at hx; cases hx
    rw [e1]
    exact (hw vs us).stops H (hC h)
  go := fun {ψ α i src src' w H S} ⟨hi, e, vs, us, h, r1, r2⟩ R hx => by
    subst e
    cases hd : xs.drop i with
    | nil => rw [hd] at hx; cases hx
    | cons y zs =>
      cases hd2 : ys.drop i with
      | nil => rw [hd, hd2] at hx; cases hx
      | cons y2 zs2 =>
        rw [hd, hd2] at hx; cases hx
        obtain ⟨e1, e2⟩ := drop_next hd
        obtain ⟨e3, e4⟩ := drop_next hd2
        obtain ⟨v, hv, rv⟩ := r1.get e1
        obtain ⟨u, hu, ru⟩ := r2.get e3
        have q1 := (List.getElem?_eq_some_iff.mp hv).1
        have q2 := (List.getElem?_eq_some_iff.mp hu).1
        have hlt : i < min vs.length us.length := by omega
        refine ⟨(hw vs us).goes i H hlt (hC h), fun x H' hy => ?_⟩
        obtain ⟨T, u1, u2, ex, hn, eh, hu1, hu2⟩ := (hw vs us).yields i H x H' hlt (hC h) hy
        have hu1 : vs[i]? = some u1 := hu1
        have hu2 : us[i]? = some u2 := hu2
        rw [hv] at hu1
        cases hu1
        rw [hu] at hu2
        cases hu2
        subst ex eh
        obtain ⟨a1, a2, a3⟩ := pair_new R hn rv ru
        have l1 := r1.length
        have l2 := r2.length
        refine ⟨a1, a2, a3, by omega, by rw [e2, e4], vs, us, hG h (.ext a1), r1.mv (.ext a1), r2.mv (.ext a1)⟩
end
end Tp

/-! What is walked: the rules; targets. -/
namespace Tp
open PySem PySem.Spec PyProof.Rows L2
section
variable (Γ : Gm) (Wx : WX) (X : Cx)
def OkI (tg it : Expr) (f : Fr → Store → Res Src) : Prop := ∀ (ψ α : List Addr) (σw : Fr) (S : Store) (σ : L2.St) (H : Hp) (RR : It → Hp → Prop), RF Γ H α ψ σw σ → RS Γ H α ψ S →
  Post Γ Wx σ ψ α H (f σw S) (fun src S' α' H' => ∀ J R, SrcInv Γ J R → R ψ 0 src α' H' → RR J H') → GI X tg it σ H RR
def OkG (tg : Expr) (f : W → Fr → Option Fr) (sl : List Nat) : Prop := ∀ (ψ α : List Addr) (σw σw' : Fr) (σ : L2.St) (H : Hp) (w : W) (v : V) (Q : L2.St → Hp → Prop), RF Γ H α ψ σw σ → RW Γ H α ψ w v → f w σw = some σw' →
  (∀ σ', RF Γ H α ψ σw' σ' → (∀ j, j ∉ sl → σ'[j]? = σ[j]?) → σ'.length = σ.length → Q σ' H) → GG X tg v σ H Q
def GGs (es : List Expr) : TGs := fun vs σ H Q => ∀ (pins : List (Addr × Obj)) (s : Shared) (us : List Value), Inv X pins σ H s → Vals vs us →
  wpAny (model X.prog X.w) X.A (assignInOrder ((assignEach es X.env).map (·.2)) us) (fun _ s' => ∃ σ' H', Inv X pins σ' H' s' ∧ Q σ' H') X.xe s
def OkGs (es : List Expr) (f : List (Sum P Nat) → Fr → Option Fr) (sl : List Nat) : Prop := ∀ (ψ α : List Addr) (σw σw' : Fr) (σ : L2.St) (H : Hp) (ws : List (Sum P Nat)) (vs : List V) (Q : L2.St → Hp → Prop), RF Γ H α ψ σw σ → RSums Γ H α ψ ws vs → f ws σw = some σw' →
  (∀ σ', RF Γ H α ψ σw' σ' → (∀ j, j ∉ sl → σ'[j]? = σ[j]?) → σ'.length = σ.length → Q σ' H) → GGs X es vs σ H Q
end
section
variable {Γ : Gm} {Wx : WX} {X : Cx}
theorem pgs_ggs (es : List Expr) : PGs X es (GGs X es) := ⟨fun pins s _ _ _ us _ I r h => h pins s us I r⟩
theorem src0 {J : It} {R : List Addr → Nat → Src → List Addr → Hp → Prop} (h : SrcInv Γ J R) : SrcInv Γ J R := h
theorem ok_of (G : Gd Γ X) {tg e : Expr} {f : Fr → Store → Res W} (he : OkE Γ Wx X e f) : OkI Γ Wx X tg e (fun σ S => (f σ S).bind fun w S1 => rOpt (srcOf S1 w) S1) := by
  intro ψ α σw S σ H RR hf hs hp
  dsimp only at hp
  cases hr : f σw S with
  | bad => rw [hr] at hp; exact hp.elim
  | ex c fs S1 =>
    rw [hr] at hp
    exact GI.of (pi_list (pe_ge e)) (he ψ α σw S σ H _ hf hs (by rw [hr]; exact hp))
  | ok w S1 =>
    rw [hr] at hp
    dsimp only [Res.bind] at hp
    cases w with
    | p x =>
      cases x with
      | lst xs =>
        refine GI.of (pi_list (pe_ge e)) (he ψ α σw S σ H _ hf hs ?_)
        rw [hr]
        intro H' α' x R v rv
        obtain ⟨a, vs, ev, h, n, r⟩ := rv
        refine ⟨a, ev, ⟨vs, SqL.of h⟩, ?_⟩
        rw [G.hK]
        exact hp H' α' x R _ _ (src_lst xs) ⟨rfl, vs, h, n, r⟩
      | tup xs =>
        refine GI.of (pi_tup (pe_ge e)) (he ψ α σw S σ H _ hf hs ?_)
        rw [hr]
        intro H' α' x R v rv
        obtain ⟨a, vs, ev, h, r⟩ := rv
        refine ⟨a, ev, ⟨vs, G.hK ▸ h.sq⟩, ?_⟩
        rw [G.hK]
        exact hp H' α' x R _ _ (src_tup xs) ⟨rfl, vs, h, r⟩
      | str z =>
        refine GI.of (pi_str (pe_ge e)) (he ψ α σw S σ H _ hf hs ?_)
        rw [hr]
        intro H' α' x R v rv
        exact ⟨toS z, rv, hp H' α' x R _ _ (src_str z) rfl⟩
      | _ => exact hp.elim
    | loc k =>
      cases hk : S1[k]? with
      | none => simp only [srcOf, hk] at hp; exact hp.elim
      | some c =>
        cases c with
        | dk kvs => simp only [srcOf, hk] at hp; exact hp.elim
        | lst xs =>
          simp only [srcOf, hk] at hp
          refine GI.of (pi_list (pe_ge e)) (he ψ α σw S σ H _ hf hs ?_)
          rw [hr]
          intro H' α' x R v rv
          obtain ⟨a, ev, ha⟩ := rv
          obtain ⟨o, h1, vs, eo, q⟩ := R.cell k a _ ha hk
          subst eo
          refine ⟨a, ev, ⟨vs, SqL.of h1⟩, ?_⟩
          rw [G.hK]
          exact hp H' α' x R _ _ (src_cell k) ⟨rfl, ha⟩
    | _ => exact hp.elim
theorem p62 : (2 : Int) ^ 62 = 4611686018427387904 := by decide
theorem ok_range1 (G : Gd Γ X) {tg a : Expr} {f : Fr → Store → Res W} {p pos : Pos} (ha : OkE Γ Wx X a f) (hg : Gl X "range") (hn : nst a = true) : OkI Γ Wx X tg (.Call (.Name "range" p) [a] [] pos) (fun σ S => (f σ S).bind fun x S1 => match x with
    | .p (.int j) => if -4611686018427387904 ≤ j ∧ j < 4611686018427387904 then .ok (.rng 0 j.toNat) S1 else .bad
    | _ => .bad) := by
  intro ψ α σw S σ H RR hf hs hp
  refine GI.of (pi_range1 hg (G.blt _ (by decide)) (pa_cons (pe_ge a) pa_nil (nst_each hn)) (by rw [nst_each hn]; rfl)) ?_
  refine ha.then hf hs hp fun w S1 v α1 H1 x1 hf1 hs1 r1 hp1 => ?_
  split at hp1
  · rename_i j
    split at hp1
    · rename_i c
      obtain rfl : v = V.int j := r1
      exact ⟨j, rfl, by rw [p62]; exact c.1, by rw [p62]; exact c.2, Post.now (Γ := Γ) hp1 hs1 _ _ (src_rng 0 j.toNat) ⟨Nat.zero_le _, by simp⟩⟩
    · exact hp1.elim
  · exact hp1.elim
theorem ok_range2 (G : Gd Γ X) {tg a b : Expr} {f g : Fr → Store → Res W} {p pos : Pos} (ha : OkE Γ Wx X a f) (hb : OkE Γ Wx X b g) (hg : Gl X "range") (hn : nst a = true) (hn2 : nst b = true) : OkI Γ Wx X tg (.Call (.Name "range" p) [a, b] [] pos)
    (fun σ S => (f σ S).bind fun x S1 => (g σ S1).bind fun y S2 => match x, y with
      | .p (.int i), .p (.int j) => if -4611686018427387904 ≤ i ∧ i < 4611686018427387904 ∧ -4611686018427387904 ≤ j ∧ j < 4611686018427387904 then .ok (.rng i (j - i).toNat) S2 else .bad
      | _, _ => .bad) := by
  intro ψ α σw S σ H RR hf hs hp
  refine GI.of (pi_range2 hg (G.blt _ (by decide)) (pa_cons (pe_ge a) (pa_cons (pe_ge b) pa_nil (nst_each hn2)) (nst_each hn)) (by rw [nst_each hn, nst_each hn2]; rfl) (by rw [nst_each hn2]; rfl)) ?_
  refine ha.then hf hs hp fun w S1 v α1 H1 x1 hf1 hs1 r1 hp1 => ?_
  refine hb.then hf1 hs1 hp1 fun w2 S2 v2 α2 H2 x2 hf2 hs2 r2 hp2 => ?_
  split at hp2
  · rename_i i j
    split at hp2
    · rename_i c
      obtain rfl : v = V.int i := r1
      obtain rfl : v2 = V.int j := r2
      exact ⟨i, j, rfl, by rw [p62]; exact c, Post.now (Γ := Γ) hp2 hs2 _ _ (src_rng i (j - i).toNat) ⟨Nat.zero_le _, by simp⟩⟩
    · exact hp2.elim
  · exact hp2.elim
theorem ok_enm (G : Gd Γ X) {a : Expr} {elts : List Expr} {kk : Nat} {tpos : Pos} {f : Fr → Store → Res W} {p pos : Pos} (ha : OkE Γ Wx X a f) (hg : Gl X "enumerate") (hn : nst a = true) : OkI Γ Wx X (.Tuple elts kk tpos) (.Call (.Name "enumerate" p) [a] [] pos)
    (fun σ S => (f σ S).bind fun w S1 => match w with | .p (.lst xs) => .ok (.enm 0 xs) S1 | .p (.tup xs) => .ok (.enm 0 xs) S1 | _ => .bad) := by
  intro ψ α σw S σ H RR hf hs hp
  have hl := pi_enum (elts := elts) (kk := kk) (tpos := tpos) (p := p) (pos := pos) hg (G.blt _ (by decide)) (pa_cons (pe_ge a) pa_nil (nst_each hn)) (by rw [nst_each hn]; rfl)
  have ht := pi_enumT (elts := elts) (kk := kk) (tpos := tpos) (p := p) (pos := pos) hg (G.blt _ (by decide)) (pa_cons (pe_ge a) pa_nil (nst_each hn)) (by rw [nst_each hn]; rfl)
  dsimp only at hp
  cases hr : f σw S with
  | bad => rw [hr] at hp; exact hp.elim
  | ex c fs S1 =>
    rw [hr] at hp
    exact GI.of hl (ha ψ α σw S σ H _ hf hs (by rw [hr]; exact hp))
  | ok w S1 =>
    rw [hr] at hp
    dsimp only [Res.bind] at hp
    cases w with
    | p x =>
      cases x with
      | lst xs =>
        refine GI.of hl (ha ψ α σw S σ H _ hf hs ?_)
        rw [hr]
        intro H' α' x R v rv
        obtain ⟨a1, vs, ev, h, n, r⟩ := rv
        refine ⟨a1, vs, by rw [ev], SqL.of h, ?_⟩
        rw [G.hK]
        exact hp H' α' x R _ _ (src_enum (Γ := Γ) xs (fun H vs => SqL Γ.K H a1 vs) (fun vs => walk_enum) (fun α ψ H vs => H a1 = some (.lst vs) ∧ ¬ fb α ψ a1) (fun h => SqL.of h.1) fun h m => ⟨m.keep _ _ h.1 (.inl h.2) rfl, m.sub _ _ h.1 h.2⟩) ⟨Nat.zero_le _, rfl, vs, ⟨h, n⟩, r⟩
      | tup xs =>
        refine GI.of ht (ha ψ α σw S σ H _ hf hs ?_)
        rw [hr]
        intro H' α' x R v rv
        obtain ⟨a1, vs, ev, h, r⟩ := rv
        refine ⟨a1, vs, by rw [ev], G.hK ▸ h.sq, ?_⟩
        rw [G.hK]
        exact hp H' α' x R _ _ (src_enum (Γ := Γ) xs (fun H vs => SqT Γ.K H a1 vs) (fun vs => walk_enumT) (fun α ψ H vs => TupD Γ.K H a1 vs) (fun h => h.sq) fun h m => h.mv m) ⟨Nat.zero_le _, rfl, vs, h, r⟩
      | _ => exact hp.elim
    | _ => exact hp.elim
theorem ok_zip (G : Gd Γ X) {a b : Expr} {elts : List Expr} {kk : Nat} {tpos : Pos} {f g : Fr → Store → Res W} {p pos : Pos} (ha : OkE Γ Wx X a f) (hb : OkE Γ Wx X b g) (hg : Gl X "zip") (hn : nst a = true) (hn2 : nst b = true) : OkI Γ Wx X (.Tuple elts kk tpos) (.Call (.Name "zip" p) [a, b] [] pos)
    (fun σ S => (f σ S).bind fun x S1 => (g σ S1).bind fun y S2 => match x, y with
      | .p (.lst xs), .p (.lst ys) => .ok (.zip xs ys) S2
      | .p (.tup xs), .p (.tup ys) => .ok (.zip xs ys) S2
      | _, _ => .bad) := by
  intro ψ α σw S σ H RR hf hs hp
  refine GI.of (RZ.pi_zipA (elts := elts) (kk := kk) (tpos := tpos) (p := p) (pos := pos) hg (G.blt _ (by decide)) (pa_cons (pe_ge a) (pa_cons (pe_ge b) pa_nil (nst_each hn2)) (nst_each hn)) (nst_each hn) (star_plain (by simp [hn2]))) ?_
  refine ha.then hf hs hp fun w S1 v α1 H1 x1 hf1 hs1 r1 hp1 => ?_
  refine hb.then hf1 hs1 hp1 fun w2 S2 v2 α2 H2 x2 hf2 hs2 r2 hp2 => ?_
  replace r1 := r1.ext x2
  split at hp2
  · rename_i xs ys
    obtain ⟨a1, vs, ev, h, n, r⟩ := r1
    obtain ⟨a2, us, eu, h2, n2, r2⟩ := r2
    refine ⟨a1, a2, vs, us, by rw [ev, eu], .inl ⟨SqL.of h, SqL.of h2, ?_⟩⟩
    rw [G.hK]
    exact Post.now (Γ := Γ) hp2 hs2 _ _ (src_zip (Γ := Γ) xs ys (fun H vs us => SqL Γ.K H a1 vs ∧ SqL Γ.K H a2 us) a1 a2 (fun vs us => walk_zip rfl) (fun α ψ H vs us => (H a1 = some (.lst vs) ∧ ¬ fb α ψ a1) ∧ (H a2 = some (.lst us) ∧ ¬ fb α ψ a2)) (fun h => ⟨SqL.of h.1.1, SqL.of h.2.1⟩)
      fun h m => ⟨⟨m.keep _ _ h.1.1 (.inl h.1.2) rfl, m.sub _ _ h.1.1 h.1.2⟩, ⟨m.keep _ _ h.2.1 (.inl h.2.2) rfl, m.sub _ _ h.2.1 h.2.2⟩⟩) ⟨Nat.zero_le _, rfl, vs, us, ⟨⟨h, n⟩, ⟨h2, n2⟩⟩, r, r2⟩
  · rename_i xs ys
    obtain ⟨a1, vs, ev, h, r⟩ := r1
    obtain ⟨a2, us, eu, h2, r2⟩ := r2
    refine ⟨a1, a2, vs, us, by rw [ev, eu], .inr ⟨G.hK ▸ h.sq, G.hK ▸ h2.sq, ?_⟩⟩
    rw [G.hK]
    exact Post.now (Γ := Γ) hp2 hs2 _ _ (src_zip (Γ := Γ) xs ys (fun H vs us => SqT Γ.K H a1 vs ∧ SqT Γ.K H a2 us) a1 a2 (fun vs us => walk_zipT rfl) (fun α ψ H vs us => TupD Γ.K H a1 vs ∧ TupD Γ.K H a2 us) (fun h => ⟨h.1.sq, h.2.sq⟩)
      fun h m => ⟨h.1.mv m, h.2.mv m⟩) ⟨Nat.zero_le _, rfl, vs, us, ⟨h, h2⟩, r, r2⟩
  · exact hp2.elim
/-! ### targets -/
theorem set_len {α : Type} {σ : List α} {i : Nat} {v : α} : (σ.set i v).length = σ.length := by simp
theorem ok_gname {i : Nat} {x : Str} {pos : Pos} (hN : X.N.Nodup) (hi : X.N[i]? = some x) (hx : L2.Loc X.env.scope x) (hf : X.fn x = true ∨ X.env.scope.names.lookup x = some .local) : OkG Γ X (.Name x pos) (fun w σ => asgT (.name i) w σ) [i] := by
  intro ψ α σw σw' σ H w v Q rf rw e k
  refine GG.of (pg_name hN hi hx hf) ?_
  dsimp only [asgT] at e
  split at e
  · cases e
    refine k _ (rf.set rw) (fun j hj => ?_) set_len
    rw [List.getElem?_set_ne (fun z => hj (by rw [z]; exact List.mem_cons_self))]
  · cases e
theorem each_assign {e : Expr} {es : List Expr} {env : Env} (h : nst e = true) : assignEach (e :: es) env = (false, assign e env) :: assignEach es env := by
  cases e <;> first
    | rfl
    | (simp [nst] at h; done)
theorem each_len {env : Env} : ∀ {es : List Expr}, es.all nst = true → (assignEach es env).length = es.length ∧ (assignEach es env).findIdx? (·.1) = none
  | [], _ => ⟨rfl, rfl⟩
  | e :: es, h => by
    rw [List.all_cons, Bool.and_eq_true] at h
    obtain ⟨h1, h2⟩ := each_len (env := env) h.2
    rw [each_assign h.1]
    refine ⟨by rw [List.length_cons, h1]; rfl, ?_⟩
    rw [List.findIdx?_cons, h2]; rfl
theorem ok_gsnil : OkGs Γ X [] (fun ws σ => asgTs .nil ws σ) [] := by
  intro ψ α σw σw' σ H ws vs Q rf rw e k
  cases ws with
  | cons _ _ => cases e
  | nil =>
    have e2 : vs = [] := rw
    subst e2
    dsimp only [asgTs] at e
    cases e
    exact fun pins s us I r => pgs_nil.run pins s σ H [] us Q I r ⟨rfl, k σ rf (fun _ _ => rfl) rfl⟩
theorem sumW_rel {α ψ : List Addr} {H : Hp} {y : Sum P Nat} {v : V} (h : RSum Γ H α ψ y v) : RW Γ H α ψ (sumW y) v := by
  cases y <;> exact h
theorem ok_gscons {e : Expr} {es : List Expr} {t : Tg} {ts : Tgs} {sl sls : List Nat} (h1 : OkG Γ X e (fun w σ => asgT t w σ) sl) (h2 : OkGs Γ X es (fun ws σ => asgTs ts ws σ) sls) (hn : nst e = true) : OkGs Γ X (e :: es) (fun ws σ => asgTs (.cons t ts) ws σ) (sl ++ sls) := by
  intro ψ α σw σw' σ H ws vs Q rf rw ee k
  cases ws with
  | nil => cases ee
  | cons y ys =>
    obtain ⟨v, r, ev, ry, rr⟩ := rw
    subst ev
    dsimp only [asgTs] at ee
    split at ee
    · rename_i σ1 e1
      intro pins s us I ru
      refine (pgs_cons (pg_gg e) (pgs_ggs es) (by rw [each_assign hn]; rfl)).run pins s σ H _ us Q I ru ⟨v, r, rfl, ?_⟩
      refine h1 ψ α σw σ1 σ H _ v _ rf (sumW_rel ry) e1 fun σ' rf' ag ln => ?_
      refine h2 ψ α σ1 σw' σ' H ys r Q rf' rr ee fun σ2 rf2 ag2 ln2 => k σ2 rf2 (fun j hj => ?_) (ln2.trans ln)
      rw [List.mem_append, not_or] at hj
      rw [ag2 j hj.2, ag j hj.1]
    · cases ee
theorem asgTs_len : ∀ {ts : Tgs} {ws : List (Sum P Nat)} {σ σ' : Fr}, asgTs ts ws σ = some σ' → ws.length = tgsLen ts
  | .nil, [], _, _, _ => rfl
  | .nil, _ :: _, _, _, h => nomatch h
  | .cons _ _, [], _, _, h => nomatch h
  | .cons t ts, x :: xs, σ, σ', h => by
    dsimp only [asgTs] at h
    split at h
    · rw [List.length_cons, asgTs_len h]; rfl
    · cases h
theorem inl_rel {α ψ : List Addr} {H : Hp} : ∀ {xs : List P} {vs : List V}, RPs Γ H (fb α ψ) xs vs → RSums Γ H α ψ (xs.map .inl) vs
  | [], _, h => h
  | _ :: _, _, ⟨v, r, e, h1, h2⟩ => ⟨v, r, e, h1, inl_rel h2⟩
theorem ok_gtup (G : Gd Γ X) {es : List Expr} {ts : Tgs} {sl : List Nat} {k : Nat} {pos : Pos} (h : OkGs Γ X es (fun ws σ => asgTs ts ws σ) sl) (hn : es.all nst = true) (hl : tgsLen ts = es.length) : OkG Γ X (.Tuple es k pos) (fun w σ => asgT (.tup ts) w σ) sl := by
  intro ψ α σw σw' σ H w v Q rf rw e kk
  obtain ⟨n1, n2⟩ := each_len (env := X.env) hn
  have tupC : ∀ {a : Addr} {ws : List (Sum P Nat)} {vs : List V}, v = .ref a → SqT Γ.K H a vs → RSums Γ H α ψ ws vs → asgTs ts ws σw = some σw' → GG X (.Tuple es k pos) v σ H Q := fun {a ws vs} ev hq rs e => by
    refine GG.of (pg_tup G.calm (pgs_ggs es) n1 n2) ⟨a, vs, ev, G.hK ▸ hq, ?_, h ψ α σw σw' σ H ws vs Q rf rs e kk⟩
    rw [← rs.length, asgTs_len e, hl]
  dsimp only [asgT] at e
  split at e
  · obtain ⟨a, vs, ev, hq, r⟩ := rw
    exact tupC ev hq.sq (inl_rel r) e
  · obtain ⟨a, vs, ev, hq, r⟩ := rw
    exact tupC ev hq.sq r e
  · obtain ⟨a, vs, ev, hq, r⟩ := rw
    exact tupC ev hq (inl_rel r) e
  · obtain ⟨a, vs, ev, hq, n, r⟩ := rw
    refine GG.of (pg_lst G.calm (pgs_ggs es) n1 n2) ⟨a, vs, ev, SqL.of hq, ?_, h ψ α σw σw' σ H _ vs Q rf (inl_rel r) e kk⟩
    rw [← r.length, ← hl, ← asgTs_len e, List.length_map]
  · cases e
end
end Tp

/-! Comprehensions. -/
namespace Tp
open PySem PySem.Spec PyProof.Rows L2
abbrev W0 : WX := fun _ _ _ _ => False
def GTs (X : Cx) (ifs : List Expr) : TT := fun σ H Q => ∀ (pins : List (Addr × Obj)) (s : Shared), Inv X pins σ H s →
    wpAny (model X.prog X.w) X.A (forIn ifs true fun c r => if r = true then do let ok ← isTrue c X.env (eval c X.env); pure (ForInStep.yield ok) else pure (ForInStep.yield r)) (TP X pins σ Q) X.xe s
theorem pts_gts {X : Cx} (ifs : List Expr) : PTs X ifs (GTs X ifs) := ⟨fun pins s _ _ _ I h => h pins s I⟩
def OkTs (Γ : Gm) (Wx : WX) (X : Cx) (ifs : List Expr) (f : Fr → Store → Res Bool) : Prop := ∀ (ψ α : List Addr) (σw : Fr) (S : Store) (σ : L2.St) (H : Hp) (Q : Bool → Hp → Prop), RF Γ H α ψ σw σ → RS Γ H α ψ S → Post Γ Wx σ ψ α H (f σw S) (KT Q) → GTs X ifs σ H Q
theorem ok_tsnil {Γ : Gm} {Wx : WX} {X : Cx} : OkTs Γ Wx X [] (fun _ S => .ok true S) := fun ψ α σw S σ H Q hf hs hp pins s I => pts_nil.run pins s σ H Q I (hp.now hs)
theorem ok_tsone {Γ : Gm} {Wx : WX} {X : Cx} {c : Expr} {f : Fr → Store → Res Bool} (h : OkT Γ Wx X c f) : OkTs Γ Wx X [c] f := fun ψ α σw S σ H Q hf hs hp pins s I => (pts_one (pt_gt c)).run pins s σ H Q I (h ψ α σw S σ H Q hf hs hp)
section
variable {Γ : Gm} {Wx : WX} {X : Cx}
theorem wipe_agree : ∀ {vs : List Nat} {σ σ' : L2.St}, σ'.length = σ.length → (∀ j, j ∉ vs → σ'[j]? = σ[j]?) → L2.wipe σ' vs = L2.wipe σ vs := by
  intro vs σ σ' hl h
  have key : ∀ (vs : List Nat) (σ : L2.St) (i : Nat), (L2.wipe σ vs)[i]? = if i ∈ vs then (if i < σ.length then some none else none) else σ[i]? := fun vs σ => by
    induction vs with
    | nil => intro i; simp [L2.wipe]
    | cons v vs ih =>
      intro i
      have hlen := wipe_length σ vs
      unfold L2.wipe
      by_cases hv : v = i
      · subst hv
        rw [if_pos List.mem_cons_self]
        by_cases c : v < σ.length
        · rw [if_pos c, List.getElem?_set_self (by rw [hlen]; exact c)]
        · rw [if_neg c, List.getElem?_eq_none (by rw [List.length_set, hlen]; omega)]
      · rw [List.getElem?_set_ne hv, ih i]
        by_cases c : i ∈ vs
        · rw [if_pos c, if_pos (List.mem_cons_of_mem _ c)]
        · rw [if_neg c, if_neg (fun z => by rcases List.mem_cons.mp z with z | z; exact hv z.symm; exact c z)]
  apply List.ext_getElem?
  intro i
  rw [key, key, hl]
  by_cases c : i ∈ vs
  · rw [if_pos c, if_pos c]
  · rw [if_neg c, if_neg c, h i c]
abbrev blkX (X : Cx) (scope : Scope) (s : Shared) (H : Hp) (C : Addr) (cl : List (Str × Addr)) (fp : List Addr) : Cx := X.blk s H scope (compEnvC scope cl C X.env) fp
/-- the readings of a block's parts, whatever the block -/
def bG (X : Cx) (scope : Scope) (tg : Expr) : TG := fun v σ H Q => ∀ s0 H0 C cl fp, GG (blkX X scope s0 H0 C cl fp) tg v σ H Q
def bT (X : Cx) (scope : Scope) (ifs : List Expr) : TT := fun σ H Q => ∀ s0 H0 C cl fp, GTs (blkX X scope s0 H0 C cl fp) ifs σ H Q
def bE (X : Cx) (scope : Scope) (e : Expr) : TE := fun σ H Q => ∀ s0 H0 C cl fp, GE (blkX X scope s0 H0 C cl fp) e σ H Q
theorem pg_bG {scope : Scope} {tg : Expr} (s : Shared) (H : Hp) (C : Addr) (cl : List (Str × Addr)) (fp : List Addr) : PG (X.blk s H scope (compEnvC scope cl C X.env) fp) tg (bG X scope tg) := ⟨fun pins s1 σ H1 v u Q I r h => h s H C cl fp pins s1 u I r⟩
theorem pt_bT {scope : Scope} {ifs : List Expr} (s : Shared) (H : Hp) (C : Addr) (cl : List (Str × Addr)) (fp : List Addr) : PTs (X.blk s H scope (compEnvC scope cl C X.env) fp) ifs (bT X scope ifs) := ⟨fun pins s1 σ H1 Q I h => h s H C cl fp pins s1 I⟩
theorem pe_bE {scope : Scope} {e : Expr} (s : Shared) (H : Hp) (C : Addr) (cl : List (Str × Addr)) (fp : List Addr) : PE (X.blk s H scope (compEnvC scope cl C X.env) fp) e (bE X scope e) := ⟨fun pins s1 σ H1 Q I h => h s H C cl fp pins s1 I⟩
theorem lc_red (G : Gd Γ X) {elt tg it : Expr} {ifs : List Expr} {scope : Scope} {own : List (Str × Nat)} {t : Tg} {fi : Fr → Store → Res Src} {ft : Fr → Store → Res Bool} {fe : Fr → Store → Res W}
    (hi : OkI Γ Wx X tg it fi) (hsl : ∀ j, j ∈ tgSlots t → j ∈ own.map (·.2))
    (hg : ∀ s H C cl fp, OkG Γ (blkX X scope s H C cl fp) tg (fun w σ => asgT t w σ) (tgSlots t)) (ht : ∀ s H C cl fp, OkTs Γ W0 (blkX X scope s H C cl fp) ifs ft) (he : ∀ s H C cl fp, OkE Γ W0 (blkX X scope s H C cl fp) elt fe)
    {ψ α : List Addr} {σw : Fr} {S : Store} {σ : L2.St} {H : Hp} {Q : VK} (hf : RF Γ H α ψ σw σ) (hs : RS Γ H α ψ S)
    (hp : Post Γ Wx σ ψ α H ((fi σw S).bind fun src S1 => (compGo t ft fe (wipeF σw (own.map (·.2))) bigN src [] S1).bind fun ys S2 => .ok (.p (.lst ys)) S2) (fun w S' α' H' => ∀ v, RW Γ H' α' ψ w v → New Γ H H' α' ψ S' w v → Q v H')) :
    tLc (GI X tg it) (bG X scope tg) (bT X scope ifs) (bE X scope elt) (own.map (·.2)) σ H Q := by
  refine hi ψ α σw S σ H _ hf hs (hp.bind.mono fun src S1 α1 H1 x1 hs1 hp1 J R hJ hR D hD => ?_)
  have hf1 := hf.ext x1
  -- the rest of the turns
  let Rest : Nat → Src → List P → Store → Prop := fun m src acc S2 => Post Γ Wx σ ψ α1 H1 ((compGo t ft fe (wipeF σw (own.map (·.2))) m src acc S2).bind fun ys S2 => .ok (.p (.lst ys)) S2) (fun w S' α' H' => ∀ v, RW Γ H' α' ψ w v → New Γ H H' α' ψ S' w v → Q v H')
  let Iv : Nat → Nat → Hp → Prop := fun i m H2 => ∃ (src : Src) (acc : List P) (S2 : Store) (α2 : List Addr) (vs : List V), Rest m src acc S2 ∧ Ext α1 H1 α2 H2 ∧ H2 D = some (.lst vs) ∧ RPs Γ H2 (fb α2 (D :: ψ)) acc vs ∧ RS Γ H2 α2 (D :: ψ) S2 ∧
    RF Γ H2 α2 (D :: ψ) (wipeF σw (own.map (·.2))) (L2.wipe σ (own.map (·.2))) ∧ R (D :: ψ) i src α2 H2
  refine ⟨Iv, ⟨bigN, src, [], S1, α1, [], hp1, Ext.new hD, upd_same, rfl, hs1.fresh hD, (hf1.mv (.fresh hD)).wipe _, hJ.mv hR (.fresh hD)⟩, ?_⟩
  rintro i m H2 ⟨src2, acc, S2, α2, vs, hr, x2, hD2, ra, rs2, rf2, hR2⟩
  cases m with
  | zero => exact hr.elim
  | succ m =>
    have hr : Post Γ Wx σ ψ α1 H1 ((compGo t ft fe (wipeF σw (own.map (·.2))) (m + 1) src2 acc S2).bind fun ys S2 => Res.ok (W.p (.lst ys)) S2) (fun w S' α' H' => ∀ v, RW Γ H' α' ψ w v → New Γ H H' α' ψ S' w v → Q v H') := hr
    unfold compGo at hr
    cases hn : src2.next S2 with
    | none => rw [hn] at hr; exact hr.elim
    | some o =>
      rw [hn] at hr
      cases o with
      | none =>
        refine .inl ⟨hJ.stop hR2 rs2 hn, ?_⟩
        have nD : ¬ fb α2 ψ D := fun z => by
          rcases z with z | z
          · exact rs2.dis D z List.mem_cons_self
          · exact hs1.kn D z hD
        have nH : H D = none := x1.dom D hD
        exact hr H2 α2 x2 rs2.drop1 (.ref D) ⟨D, vs, rfl, hD2, nD, ra.drop1⟩ ⟨D, vs, rfl, nH, hD2, fun z => rs2.dis D z List.mem_cons_self, rs2, ra⟩
      | some ws =>
        obtain ⟨w, src3⟩ := ws
        dsimp only at hr
        obtain ⟨hgo, hy⟩ := hJ.go hR2 rs2 hn
        refine .inr ⟨hgo, fun H' => Iv (i + 1) m H', fun H' z => ⟨m, Nat.lt_succ_self m, z⟩, fun x H3 hyx => ?_⟩
        obtain ⟨x3, rs3, rw3, hR3⟩ := hy x H3 hyx
        have rf3 := rf2.ext x3
        have nDa : D ∉ α2 := fun z => rs2.dis D z List.mem_cons_self
        have hD3 : H3 D = some (.lst vs) := x3.keep D _ hD2 (.inl nDa) rfl
        have ra3 := ra.ext x3
        split at hr
        · exact hr.elim
        · rename_i σ1 hasg
          intro s0 H0 C cl fp
          refine hg s0 H0 C cl fp (D :: ψ) α2 (wipeF σw (own.map (·.2))) σ1 (L2.wipe σ (own.map (·.2))) H3 w x _ rf3 rw3 hasg fun σ2 rf4 ag ln => ?_
          refine ⟨?_, ?_⟩
          · have z : L2.wipe (L2.wipe σ (own.map (·.2))) (own.map (·.2)) = L2.wipe σ (own.map (·.2)) := by
              refine wipe_agree (wipe_length _ _) fun j hj => ?_
              exact wipe_out hj
            rw [wipe_agree (σ := L2.wipe σ (own.map (·.2))) ln fun j hj => ag j fun z => hj (hsl j z), z]
          · intro s0 H0 C cl fp
            refine ht s0 H0 C cl fp (D :: ψ) α2 σ1 S2 σ2 H3 _ rf4 rs3 ?_
            cases hc : ft σ1 S2 with
            | bad => rw [hc] at hr; exact hr.elim
            | ex _ _ _ => rw [hc] at hr; exact hr.elim
            | ok b S3 =>
              rw [hc] at hr
              intro H4 α4 x4 rs4
              have hD4 : H4 D = some (.lst vs) := x4.keep D _ hD3 (.inl nDa) rfl
              show if b = true then _ else _
              cases b with
              | false =>
                rw [if_neg Bool.false_ne_true]
                exact ⟨src3, acc, S3, α4, vs, hr, x2.trans (x3.trans x4), hD4, ra3.ext x4, rs4, rf3.ext x4, hJ.mv hR3 (.ext x4)⟩
              | true =>
                rw [if_pos rfl]
                intro s0 H0 C cl fp
                refine he s0 H0 C cl fp (D :: ψ) α4 σ1 S3 σ2 H4 _ (rf4.ext x4) rs4 ?_
                dsimp only [if_true] at hr
                rw [if_pos rfl] at hr
                cases hc2 : fe σ1 S3 with
                | bad => rw [hc2] at hr; exact hr.elim
                | ex _ _ _ => rw [hc2] at hr; exact hr.elim
                | ok w4 S4 =>
                  rw [hc2] at hr
                  cases w4 with
                  | p y =>
                    dsimp only at hr
                    split at hr
                    · rename_i hlt
                      intro H5 α5 x5 rs5 v rv
                      have nDa4 : D ∉ α4 := fun z => rs4.dis D z List.mem_cons_self
                      have hD5 : H5 D = some (.lst vs) := x5.keep D _ hD4 (.inl nDa4) rfl
                      have ra5 := (ra3.ext x4).ext x5
                      refine ⟨vs, hD5, by rw [← ra5.length, ← line_eq]; exact hlt, ?_⟩
                      have mv : Mv α5 (D :: ψ) H5 α5 (D :: ψ) (upd H5 D (.lst (vs ++ [v]))) := .res List.mem_cons_self hD5 rfl
                      have xx := x2.trans (x3.trans (x4.trans x5))
                      refine ⟨src3, acc ++ [y], S4, α5, vs ++ [v], hr, ?_, upd_same, RPs.mv mv (ra5.append (RPs.one rv)), rs5.res List.mem_cons_self hD5 rfl, RF.mv mv ((rf3.ext x4).ext x5), hJ.mv (hJ.mv (hJ.mv hR3 (.ext x4)) (.ext x5)) mv⟩
                      refine ⟨xx.pre, fun a o h c tb => ?_, fun a h => xx.dom a ?_⟩
                      · rw [upd_ne (ne_of_none h hD)]
                        exact xx.keep a o h c tb
                      · by_cases e : a = D
                        · rw [e, upd_same] at h; cases h
                        · rw [upd_ne e] at h; exact h
                    · exact hr.elim
                  | _ => exact hr.elim
theorem ok_lc (G : Gd Γ X) (hN : X.N.Nodup) {elt tg it : Expr} {ifs : List Expr} {scope : Scope} {own : List (Str × Nat)} {pos : Pos} {t : Tg} {fi : Fr → Store → Res Src} {ft : Fr → Store → Res Bool} {fe : Fr → Store → Res W}
    (ok : BlkOk X.N X.env.scope scope own) (hfs : ∀ x, foldedSetIterable it X.env x = pure x) (hi : OkI Γ Wx X tg it fi) (hsl : ∀ j, j ∈ tgSlots t → j ∈ own.map (·.2))
    (hg : ∀ s H C cl fp, OkG Γ (blkX X scope s H C cl fp) tg (fun w σ => asgT t w σ) (tgSlots t)) (ht : ∀ s H C cl fp, OkTs Γ W0 (blkX X scope s H C cl fp) ifs ft) (he : ∀ s H C cl fp, OkE Γ W0 (blkX X scope s H C cl fp) elt fe) :
    OkN Γ Wx X (.ListComp elt [⟨tg, it, ifs, 0⟩] scope pos) (fun σ S => (fi σ S).bind fun src S1 => (compGo t ft fe (wipeF σ (own.map (·.2))) bigN src [] S1).bind fun ys S2 => .ok (.p (.lst ys)) S2) := by
  intro ψ α σw S σ H Q hf hs hp
  exact GE.of (pe_lc G.calm hN (pi_gi tg it) ok pg_bG pt_bT pe_bE hfs) (lc_red G hi hsl hg ht he hf hs hp)
end
end Tp

/-! Dict comprehensions; statements. -/
namespace Tp
open PySem PySem.Spec PyProof.Rows L2
section
variable {Γ : Gm} {Wx : WX} {X : Cx}
/-! ### a dict's item stored -/
theorem dRepl_rel {H : Hp} {F : Addr → Prop} {k : Kk} {y : P} {v : V} (ry : RP Γ H F y v) : ∀ {kvs : List (Kk × P)} {us : List (Key × V)}, us.map (·.1) = kvs.map (fun kv => kS kv.1) → RPs Γ H F (kvs.map (·.2)) (us.map (·.2)) →
    (us.map fun kv => if kv.1 = kS k then (kv.1, v) else kv).map (·.1) = (dRepl kvs k y).map (fun kv => kS kv.1) ∧ RPs Γ H F ((dRepl kvs k y).map (·.2)) ((us.map fun kv => if kv.1 = kS k then (kv.1, v) else kv).map (·.2))
  | [], [], _, _ => ⟨rfl, rfl⟩
  | [], _ :: _, e, _ => by simp at e
  | _ :: _, [], e, _ => by simp at e
  | (j, x) :: r, u :: us, e, h => by
    rw [List.map_cons, List.map_cons] at e
    obtain ⟨e1, e2⟩ := List.cons.inj e
    obtain ⟨v2, vs, e3, h1, h2⟩ := h
    rw [List.map_cons] at e3
    obtain ⟨e4, e5⟩ := List.cons.inj e3
    obtain ⟨i1, i2⟩ := dRepl_rel (k := k) ry e2 (e5 ▸ h2)
    by_cases c : j = k
    · have c2 : u.1 = kS k := by rw [e1, c]
      have c3 : kkEq j k = true := kkEq_iff.mpr c
      simp only [dRepl, List.map_cons, if_pos c2, if_pos c3]
      exact ⟨by rw [i1, e1], v, _, rfl, ry, i2⟩
    · have c2 : ¬ u.1 = kS k := fun q => c (kS_inj (e1.symm.trans q))
      have c3 : ¬ kkEq j k = true := fun q => c (kkEq_iff.mp q)
      simp only [dRepl, List.map_cons, if_neg c2, if_neg c3]
      exact ⟨by rw [i1, e1], u.2, _, rfl, by rw [e4]; exact h1, i2⟩
theorem dPut_rel {H : Hp} {F : Addr → Prop} {k : Kk} {y : P} {v : V} (ry : RP Γ H F y v) {kvs : List (Kk × P)} {us : List (Key × V)} (e : us.map (·.1) = kvs.map (fun kv => kS kv.1)) (h : RPs Γ H F (kvs.map (·.2)) (us.map (·.2))) :
    (putK us (kS k) v).map (·.1) = (dPut kvs k y).map (fun kv => kS kv.1) ∧ RPs Γ H F ((dPut kvs k y).map (·.2)) ((putK us (kS k) v).map (·.2)) := by
  obtain ⟨g1, g2⟩ := dGet_rel (k := k) e h
  unfold putK dPut
  rw [valV_any]
  cases z : dGet kvs k with
  | some x =>
    obtain ⟨u, hu, _⟩ := g1 x z
    rw [hu, if_pos (show (some u).isSome = true from rfl)]
    exact dRepl_rel ry e h
  | none =>
    rw [g2 z, if_neg (by decide)]
    refine ⟨by rw [List.map_append, List.map_append, e]; rfl, ?_⟩
    rw [List.map_append, List.map_append]
    exact h.append (RPs.one ry)
theorem dc_red (G : Gd Γ X) {kx vx tg it : Expr} {ifs : List Expr} {scope : Scope} {own : List (Str × Nat)} {t : Tg} {fi : Fr → Store → Res Src} {ft : Fr → Store → Res Bool} {fk fv : Fr → Store → Res W}
    (hi : OkI Γ Wx X tg it fi) (hsl : ∀ j, j ∈ tgSlots t → j ∈ own.map (·.2))
    (hg : ∀ s H C cl fp, OkG Γ (blkX X scope s H C cl fp) tg (fun w σ => asgT t w σ) (tgSlots t)) (ht : ∀ s H C cl fp, OkTs Γ W0 (blkX X scope s H C cl fp) ifs ft) (hk : ∀ s H C cl fp, OkE Γ W0 (blkX X scope s H C cl fp) kx fk) (hv : ∀ s H C cl fp, OkE Γ W0 (blkX X scope s H C cl fp) vx fv)
    {ψ α : List Addr} {σw : Fr} {S : Store} {σ : L2.St} {H : Hp} {Q : VK} (hf : RF Γ H α ψ σw σ) (hs : RS Γ H α ψ S)
    (hp : Post Γ Wx σ ψ α H ((fi σw S).bind fun src S1 => (dcompGo t ft fk fv (wipeF σw (own.map (·.2))) bigN src [] S1).bind fun kvs S2 => .ok (.p (.dk (kvs.map (·.1)) (kvs.map (·.2)))) S2) (fun w S' α' H' => ∀ v, RW Γ H' α' ψ w v → New Γ H H' α' ψ S' w v → Q v H')) :
    tDc (GI X tg it) (bG X scope tg) (bT X scope ifs) (bE X scope kx) (bE X scope vx) (own.map (·.2)) σ H Q := by
  refine hi ψ α σw S σ H _ hf hs (hp.bind.mono fun src S1 α1 H1 x1 hs1 hp1 J R hJ hR D hD => ?_)
  have hf1 := hf.ext x1
  let Rest : Nat → Src → List (Kk × P) → Store → Prop := fun m src acc S2 => Post Γ Wx σ ψ α1 H1 ((dcompGo t ft fk fv (wipeF σw (own.map (·.2))) m src acc S2).bind fun kvs S2 => Res.ok (W.p (.dk (kvs.map (·.1)) (kvs.map (·.2)))) S2) (fun w S' α' H' => ∀ v, RW Γ H' α' ψ w v → New Γ H H' α' ψ S' w v → Q v H')
  let Iv : Nat → Nat → Hp → Prop := fun i m H2 => ∃ (src : Src) (acc : List (Kk × P)) (S2 : Store) (α2 : List Addr) (us : List (Key × V)), Rest m src acc S2 ∧ Ext α1 H1 α2 H2 ∧ H2 D = some (.dK us) ∧ (us.map (·.1) = acc.map (fun kv => kS kv.1) ∧ RPs Γ H2 (fb α2 (D :: ψ)) (acc.map (·.2)) (us.map (·.2))) ∧ RS Γ H2 α2 (D :: ψ) S2 ∧
    RF Γ H2 α2 (D :: ψ) (wipeF σw (own.map (·.2))) (L2.wipe σ (own.map (·.2))) ∧ R (D :: ψ) i src α2 H2
  refine ⟨Iv, ⟨bigN, src, [], S1, α1, [], hp1, Ext.new hD, upd_same, ⟨rfl, rfl⟩, hs1.fresh hD, (hf1.mv (.fresh hD)).wipe _, hJ.mv hR (.fresh hD)⟩, ?_⟩
  rintro i m H2 ⟨src2, acc, S2, α2, us, hr, x2, hD2, ⟨rk, ra⟩, rs2, rf2, hR2⟩
  cases m with
  | zero => exact hr.elim
  | succ m =>
    have hr : Post Γ Wx σ ψ α1 H1 ((dcompGo t ft fk fv (wipeF σw (own.map (·.2))) (m + 1) src2 acc S2).bind fun kvs S2 => Res.ok (W.p (.dk (kvs.map (·.1)) (kvs.map (·.2)))) S2) (fun w S' α' H' => ∀ v, RW Γ H' α' ψ w v → New Γ H H' α' ψ S' w v → Q v H') := hr
    unfold dcompGo at hr
    cases hn : src2.next S2 with
    | none => rw [hn] at hr; exact hr.elim
    | some o =>
      rw [hn] at hr
      cases o with
      | none =>
        refine .inl ⟨hJ.stop hR2 rs2 hn, ?_⟩
        have nD : ¬ fb α2 ψ D := fun z => by
          rcases z with z | z
          · exact rs2.dis D z List.mem_cons_self
          · exact hs1.kn D z hD
        have nH : H D = none := x1.dom D hD
        have rk2 : us.map (·.1) = (acc.map (·.1)).map kS := by rw [rk, List.map_map]; rfl
        exact hr H2 α2 x2 rs2.drop1 (.ref D) ⟨D, us, rfl, hD2, nD, rk2, ra.drop1⟩ ⟨D, us, rfl, nH, hD2, fun z => rs2.dis D z List.mem_cons_self, rs2, rk2, ra⟩
      | some ws =>
        obtain ⟨w, src3⟩ := ws
        dsimp only at hr
        obtain ⟨hgo, hy⟩ := hJ.go hR2 rs2 hn
        refine .inr ⟨hgo, fun H' => Iv (i + 1) m H', fun H' z => ⟨m, Nat.lt_succ_self m, z⟩, fun x H3 hyx => ?_⟩
        obtain ⟨x3, rs3, rw3, hR3⟩ := hy x H3 hyx
        have rf3 := rf2.ext x3
        have nDa : D ∉ α2 := fun z => rs2.dis D z List.mem_cons_self
        have hD3 : H3 D = some (.dK us) := x3.keep D _ hD2 (.inl nDa) rfl
        have ra3 := ra.ext x3
        split at hr
        · exact hr.elim
        · rename_i σ1 hasg
          intro s0 H0 C cl fp
          refine hg s0 H0 C cl fp (D :: ψ) α2 (wipeF σw (own.map (·.2))) σ1 (L2.wipe σ (own.map (·.2))) H3 w x _ rf3 rw3 hasg fun σ2 rf4 ag ln => ?_
          refine ⟨?_, ?_⟩
          · have z : L2.wipe (L2.wipe σ (own.map (·.2))) (own.map (·.2)) = L2.wipe σ (own.map (·.2)) := by
              refine wipe_agree (wipe_length _ _) fun j hj => ?_
              exact wipe_out hj
            rw [wipe_agree (σ := L2.wipe σ (own.map (·.2))) ln fun j hj => ag j fun z => hj (hsl j z), z]
          · intro s0 H0 C cl fp
            refine ht s0 H0 C cl fp (D :: ψ) α2 σ1 S2 σ2 H3 _ rf4 rs3 ?_
            cases hc : ft σ1 S2 with
            | bad => rw [hc] at hr; exact hr.elim
            | ex _ _ _ => rw [hc] at hr; exact hr.elim
            | ok b S3 =>
              rw [hc] at hr
              intro H4 α4 x4 rs4
              have hD4 : H4 D = some (.dK us) := x4.keep D _ hD3 (.inl nDa) rfl
              show if b = true then _ else _
              cases b with
              | false =>
                rw [if_neg Bool.false_ne_true]
                exact ⟨src3, acc, S3, α4, us, hr, x2.trans (x3.trans x4), hD4, ⟨rk, ra3.ext x4⟩, rs4, rf3.ext x4, hJ.mv hR3 (.ext x4)⟩
              | true =>
                rw [if_pos rfl]
                intro s0 H0 C cl fp
                refine hk s0 H0 C cl fp (D :: ψ) α4 σ1 S3 σ2 H4 _ (rf4.ext x4) rs4 ?_
                dsimp only at hr
                rw [if_pos rfl] at hr
                cases hc2 : fk σ1 S3 with
                | bad => rw [hc2] at hr; exact hr.elim
                | ex _ _ _ => rw [hc2] at hr; exact hr.elim
                | ok w4 S4 =>
                  rw [hc2] at hr
                  intro H5 α5 x5 rs5 kv rkv
                  have nDa4 : D ∉ α4 := fun z => rs4.dis D z List.mem_cons_self
                  have hD5 : H5 D = some (.dK us) := x5.keep D _ hD4 (.inl nDa4) rfl
                  intro s0 H0 C cl fp
                  refine hv s0 H0 C cl fp (D :: ψ) α5 σ1 S4 σ2 H5 _ ((rf4.ext x4).ext x5) rs5 ?_
                  dsimp only at hr
                  cases hc3 : fv σ1 S4 with
                  | bad => rw [hc3] at hr; exact hr.elim
                  | ex _ _ _ => rw [hc3] at hr; exact hr.elim
                  | ok w5 S5 =>
                    rw [hc3] at hr
                    intro H6 α6 x6 rs6 v rv
                    have nDa5 : D ∉ α5 := fun z => rs5.dis D z List.mem_cons_self
                    have hD6 : H6 D = some (.dK us) := x6.keep D _ hD5 (.inl nDa5) rfl
                    have ra6 := ((ra3.ext x4).ext x5).ext x6
                    cases w4 with
                    | p kp =>
                      cases w5 with
                      | p y =>
                        dsimp only at hr
                        split at hr
                        · rename_i k hk2
                          split at hr
                          · rename_i hlt
                            have ek : kv = kV (kS k) := toKk_rel (Γ := Γ) rkv hk2
                            have hlen : us.length = acc.length := by simpa using congrArg List.length rk
                            refine ⟨us, kS k, ek, hD6, by rw [hlen, ← line_eq]; exact hlt, ?_⟩
                            have mv : Mv α6 (D :: ψ) H6 α6 (D :: ψ) (upd H6 D (.dK (putK us (kS k) v))) := .res List.mem_cons_self hD6 rfl
                            have xx := x2.trans (x3.trans (x4.trans (x5.trans x6)))
                            obtain ⟨p1, p2⟩ := dPut_rel (k := k) (y := y) (v := v) rv rk ra6
                            refine ⟨src3, dPut acc k y, S5, α6, putK us (kS k) v, hr, ?_, upd_same, ⟨p1, RPs.mv mv p2⟩, rs6.res List.mem_cons_self hD6 rfl, RF.mv mv (((rf3.ext x4).ext x5).ext x6), hJ.mv (hJ.mv (hJ.mv (hJ.mv hR3 (.ext x4)) (.ext x5)) (.ext x6)) mv⟩
                            refine ⟨xx.pre, fun a o h c tb => ?_, fun a h => xx.dom a ?_⟩
                            · rw [upd_ne (ne_of_none h hD)]
                              exact xx.keep a o h c tb
                            · by_cases e : a = D
                              · rw [e, upd_same] at h; cases h
                              · rw [upd_ne e] at h; exact h
                          · exact hr.elim
                        · exact hr.elim
                      | _ => exact hr.elim
                    | _ => exact hr.elim
theorem ok_dc (G : Gd Γ X) (hN : X.N.Nodup) {kx vx tg it : Expr} {ifs : List Expr} {scope : Scope} {own : List (Str × Nat)} {pos : Pos} {t : Tg} {fi : Fr → Store → Res Src} {ft : Fr → Store → Res Bool} {fk fv : Fr → Store → Res W}
    (ok : BlkOk X.N X.env.scope scope own) (hfs : ∀ x, foldedSetIterable it X.env x = pure x) (hi : OkI Γ Wx X tg it fi) (hsl : ∀ j, j ∈ tgSlots t → j ∈ own.map (·.2))
    (hg : ∀ s H C cl fp, OkG Γ (blkX X scope s H C cl fp) tg (fun w σ => asgT t w σ) (tgSlots t)) (ht : ∀ s H C cl fp, OkTs Γ W0 (blkX X scope s H C cl fp) ifs ft) (hk : ∀ s H C cl fp, OkE Γ W0 (blkX X scope s H C cl fp) kx fk) (hv : ∀ s H C cl fp, OkE Γ W0 (blkX X scope s H C cl fp) vx fv) :
    OkN Γ Wx X (.DictComp kx vx [⟨tg, it, ifs, 0⟩] scope pos) (fun σ S => (fi σ S).bind fun src S1 => (dcompGo t ft fk fv (wipeF σ (own.map (·.2))) bigN src [] S1).bind fun kvs S2 => .ok (.p (.dk (kvs.map (·.1)) (kvs.map (·.2)))) S2) := by
  intro ψ α σw S σ H Q hf hs hp
  exact GE.of (pe_dc G.calm hN (pi_gi tg it) ok pg_bG pt_bT pe_bE pe_bE hfs) (dc_red G hi hsl hg ht hk hv hf hs hp)
end
end Tp

/-! Statements. -/
namespace Tp
open PySem PySem.Spec PyProof.Rows L2
section
variable (Γ : Gm) (Wx : WX) (ψ α : List Addr) (H : Hp)
def flEnd (D : Ends) (ψ α' : List Addr) (σ' : L2.St) (H' : Hp) : Fl → Prop
  | .nx => D.nx σ' H'
  | .rt w => ∀ v, RW Γ H' α' ψ w v → D.rt v H'
  | .bk => D.bk σ' H'
  | .ct => D.ct σ' H'
def PostS (r : Res (Fl × Fr)) (D : Ends) : Prop := match r with
  | .ok r S' => ∀ (H' : Hp) (α' : List Addr) (σ' : L2.St), Ext α H α' H' → RS Γ H' α' ψ S' → RF Γ H' α' ψ r.2 σ' → flEnd Γ D ψ α' σ' H' r.1
  | .ex c _ S' => ∀ (H' : Hp) (α' : List Addr) (d : Option Addr) (σ' : L2.St), Ext α H α' H' → RS Γ H' α' ψ S' → Wx (.ref (Γ.ca c)) d σ' H'
  | .bad => False
end
def OkS (Γ : Gm) (Wx : WX) (X : Cx) (st : Stmt) (f : Fr → Store → Res (Fl × Fr)) : Prop := ∀ (ψ α : List Addr) (σw : Fr) (S : Store) (σ : L2.St) (H : Hp) (D : Ends), RF Γ H α ψ σw σ → RS Γ H α ψ S → PostS Γ Wx ψ α H (f σw S) D → GS X st D σ H
def OkSs (Γ : Gm) (Wx : WX) (X : Cx) (st : List Stmt) (f : Fr → Store → Res (Fl × Fr)) : Prop := ∀ (ψ α : List Addr) (σw : Fr) (S : Store) (σ : L2.St) (H : Hp) (D : Ends), RF Γ H α ψ σw σ → RS Γ H α ψ S → PostS Γ Wx ψ α H (f σw S) D → GSs X st D σ H
section
variable {Γ : Gm} {Wx : WX} {X : Cx} {ψ α α1 : List Addr} {H H1 : Hp} {σ : L2.St}
theorem PostS.ext {r : Res (Fl × Fr)} {D : Ends} (h : PostS Γ Wx ψ α H r D) (x : Ext α H α1 H1) : PostS Γ Wx ψ α1 H1 r D := by
  cases r with
  | ok b S => exact fun H' α' σ' y R F => h H' α' σ' (x.trans y) R F
  | ex c fs S => exact fun H' α' d σ' y R => h H' α' d σ' (x.trans y) R
  | bad => exact h
theorem PostS.bind {β : Type} {r : Res β} {g : β → Store → Res (Fl × Fr)} {D : Ends} (h : PostS Γ Wx ψ α H (r.bind g) D) :
    Post Γ Wx σ ψ α H r (fun b S1 α1 H1 => PostS Γ Wx ψ α1 H1 (g b S1) D) := by
  cases r with
  | ok b S => exact fun H' α' x R => PostS.ext (r := g b S) h x
  | ex c fs S => exact fun H' α' d x R => h H' α' d σ x R
  | bad => exact h
theorem PostS.now {b : Fl} {σw : Fr} {S : Store} {D : Ends} (h : PostS Γ Wx ψ α H (.ok (b, σw) S) D) (F : RF Γ H α ψ σw σ) (R : RS Γ H α ψ S) : flEnd Γ D ψ α σ H b := h H α σ Ext.refl R F
/-! ### assignment -/
theorem ok_asg {tg e : Expr} {t : Tg} {sl : List Nat} {f : Fr → Store → Res W} {pos : Pos} (he : OkE Γ Wx X e f) (hg : OkG Γ X tg (fun w σ => asgT t w σ) sl) (hs : swapsWithSole [tg] e pos.line X.env = pure false) (hw : swappedStores [tg] e X.env = pure none) (hn : nst tg = true) :
    OkS Γ Wx X (.Assign [tg] e pos) (fun σ S => (f σ S).bind fun w S1 => rOpt ((asgT t w σ).map fun σ1 => (.nx, σ1)) S1) := by
  intro ψ α σw S σ H D hf hs' hp
  refine GS.of (ps_asg (pe_ge e) (pg_gg tg) hs hw (by rw [each_assign hn]; rfl)) ?_
  refine he ψ α σw S σ H _ hf hs' (hp.bind.mono fun w S1 α1 H1 x1 hs1 hp1 v rv => ?_)
  cases ea : asgT t w σw with
  | none => rw [ea] at hp1; exact hp1.elim
  | some σ1 =>
    rw [ea] at hp1
    exact hg ψ α1 σw σ1 σ H1 w v _ (hf.ext x1) rv ea fun σ' rf' _ _ => PostS.now (Γ := Γ) hp1 rf' hs1
theorem ok_set {e : Expr} {i : Nat} {x : Str} {f : Fr → Store → Res W} {pos pos' : Pos} (hN : X.N.Nodup) (hi : X.N[i]? = some x) (hx : L2.Loc X.env.scope x) (hfn : X.fn x = true ∨ X.env.scope.names.lookup x = some .local) (he : OkE Γ Wx X e f) (hs : swapsWith e (some (.Name x pos')) pos.line X.env = pure false) :
    OkS Γ Wx X (.Assign [.Name x pos'] e pos) (fun σ S => (f σ S).bind fun w S1 => rOpt ((asgT (.name i) w σ).map fun σ1 => (.nx, σ1)) S1) := by
  intro ψ α σw S σ H D hf hs' hp
  refine GS.of (ps_set hN hi hx (pe_ge e) hs hfn) ?_
  refine he ψ α σw S σ H _ hf hs' (hp.bind.mono fun w S1 α1 H1 x1 hs1 hp1 v rv => ?_)
  dsimp only [asgT] at hp1
  split at hp1
  · exact PostS.now (Γ := Γ) hp1 ((hf.ext x1).set rv) hs1
  · exact hp1.elim
/-- what a new value becomes behind .new -/
theorem new_post {S0 : Store} {r : Res W} {K : VK} {ψ α : List Addr} {H : Hp} {σ : L2.St} (R0 : RS Γ H α ψ S0) (hp : Post Γ Wx σ ψ α H (r.bind fun w S1 => allocW S1 w) (KE Γ ψ K)) :
    Post Γ Wx σ ψ α H r (fun w S' α' H' => ∀ v, RW Γ H' α' ψ w v → New Γ H H' α' ψ S' w v → K v H') := by
  refine hp.bind0.mono fun w S1 α1 H1 x1 hs1 hp1 v r1 nw => ?_
  have go : ∀ (a : Addr) (c : Cell) (o : HO), v = .ref a → H a = none → H1 a = some o → a ∉ α1 → RS Γ H1 α1 (a :: ψ) S1 → RC Γ H1 (fb α1 (a :: ψ)) c o → Post Γ Wx σ ψ α H (.ok (.loc S1.length) (S1 ++ [c])) (KE Γ ψ K) → K v H1 := by
    intro a c o ev h0 h1 na R2 rc hp1
    have nps : a ∉ ψ := fun z => R0.kn a z h0
    have R3 := hs1.adopt' R2 na h1 nps rc
    have x3 : Ext α H (α1 ++ [a]) H1 := by
      obtain ⟨β, e1, f1⟩ := x1.pre
      refine ⟨⟨β ++ [a], by rw [e1, List.append_assoc], fun b hb => ?_⟩, x1.keep, x1.dom⟩
      rcases List.mem_append.mp hb with z | z
      · exact f1 b z
      · simp at z; rw [z]; exact h0
    exact hp1 _ _ x3 R3 v ⟨a, ev, by rw [← R2.len]; simp⟩
  cases w with
  | p x =>
    cases x with
    | lst xs =>
      obtain ⟨a, vs, ev, h0, h1, na, R2, rx⟩ := nw
      exact go a (.lst xs) _ ev h0 h1 na R2 ⟨vs, rfl, rx⟩ hp1
    | dk ks xs =>
      obtain ⟨a, us, ev, h0, h1, na, R2, hk, rx⟩ := nw
      have hl : ks.length = xs.length := by
        have z1 := congrArg List.length hk
        have z2 := rx.length
        simp at z1 z2
        omega
      obtain ⟨z1, z2⟩ := zip_keys hl
      exact go a (.dk (ks.zip xs)) _ ev h0 h1 na R2 ⟨us, rfl, by rw [hk]; exact z1.symm, by rw [z2]; exact rx⟩ hp1
    | _ => exact hp1.elim
  | _ => exact hp1.elim
/-- name = [..], the list stored at once -/
theorem ok_setLc (G : Gd Γ X) (hN : X.N.Nodup) {elt tg it : Expr} {ifs : List Expr} {scope : Scope} {own : List (Str × Nat)} {pos spos py : Pos} {i : Nat} {y : Str} {t : Tg} {fi : Fr → Store → Res Src} {ft : Fr → Store → Res Bool} {fe : Fr → Store → Res W}
    (hy : X.N[i]? = some y) (hyl : X.env.scope.names.lookup y = some .local) (hsw : swapsWith (.ListComp elt [⟨tg, it, ifs, 0⟩] scope pos) (some (.Name y py)) spos.line X.env = pure true)
    (ok : BlkOk X.N X.env.scope scope own) (hfs : ∀ x, foldedSetIterable it X.env x = pure x) (hi : OkI Γ Wx X tg it fi) (hsl : ∀ j, j ∈ tgSlots t → j ∈ own.map (·.2))
    (hg : ∀ s H C cl fp, OkG Γ (blkX X scope s H C cl fp) tg (fun w σ => asgT t w σ) (tgSlots t)) (ht : ∀ s H C cl fp, OkTs Γ W0 (blkX X scope s H C cl fp) ifs ft) (he : ∀ s H C cl fp, OkE Γ W0 (blkX X scope s H C cl fp) elt fe) :
    OkS Γ Wx X (.Assign [.Name y py] (.ListComp elt [⟨tg, it, ifs, 0⟩] scope pos) spos) (fun σ S => ((fi σ S).bind fun src S1 => (compGo t ft fe (wipeF σ (own.map (·.2))) bigN src [] S1).bind fun ys S2 => .ok (.p (.lst ys)) S2).bind fun w S1 => rOpt ((asgT (.name i) w σ).map fun σ1 => (.nx, σ1)) S1) ∧
    OkS Γ Wx X (.Assign [.Name y py] (.ListComp elt [⟨tg, it, ifs, 0⟩] scope pos) spos) (fun σ S => (((fi σ S).bind fun src S1 => (compGo t ft fe (wipeF σ (own.map (·.2))) bigN src [] S1).bind fun ys S2 => .ok (.p (.lst ys)) S2).bind fun w S1 => allocW S1 w).bind fun w S1 => rOpt ((asgT (.name i) w σ).map fun σ1 => (.nx, σ1)) S1) := by
  have ps := ps_setLc G.calm hN hy hyl hsw (pi_gi tg it) ok pg_bG pt_bT pe_bE hfs
  constructor
  · intro ψ α σw S σ H D hf hs' hp
    refine GS.of ps (lc_red G hi hsl hg ht he hf hs' ?_)
    refine hp.bind.mono fun w S1 α1 H1 x1 hs1 hp1 v rv nv => ?_
    dsimp only [asgT] at hp1
    split at hp1
    · exact PostS.now (Γ := Γ) hp1 ((hf.ext x1).set rv) hs1
    · exact hp1.elim
  · intro ψ α σw S σ H D hf hs' hp
    refine GS.of ps (lc_red G hi hsl hg ht he hf hs' (new_post hs' ?_))
    refine hp.bind.mono fun w S1 α1 H1 x1 hs1 hp1 v rv => ?_
    dsimp only [asgT] at hp1
    split at hp1
    · exact PostS.now (Γ := Γ) hp1 ((hf.ext x1).set rv) hs1
    · exact hp1.elim
theorem RWs.two {ws : List W} {v w : V} (h : RWs Γ H α ψ ws [v, w]) : ∃ a b, ws = [a, b] ∧ RW Γ H α ψ a v ∧ RW Γ H α ψ b w := by
  cases ws with
  | nil => cases (show [v, w] = [] from h)
  | cons a ws =>
    obtain ⟨_, _, e, h1, h2⟩ := h
    cases e
    cases ws with
    | nil => cases (show [w] = [] from h2)
    | cons b ws =>
      obtain ⟨_, _, e, h3, h4⟩ := h2
      cases e
      cases ws with
      | nil => exact ⟨a, b, rfl, h1, h3⟩
      | cons c ws => obtain ⟨_, _, e, _⟩ := h4; cases e
theorem ok_par2 (G : Gd Γ X) (hN : X.N.Nodup) {i j : Nat} {x y : Str} {a b : Expr} {f : Fr → Store → Res (List W)} {px py pt pos : Pos} {kt k2 : Nat} {pt2 : Pos} (hi : X.N[i]? = some x) (hj : X.N[j]? = some y) (hij : i ≠ j)
    (hx : X.env.scope.names.lookup x = some .local) (hy : X.env.scope.names.lookup y = some .local) (ha : OkA Γ Wx X [a, b] f)
    (hw : swappedStores [.Tuple [.Name x px, .Name y py] kt pt] (.Tuple [a, b] k2 pt2) X.env = pure (some [x, y])) (hs : swapsWithSole [.Tuple [.Name x px, .Name y py] kt pt] (.Tuple [a, b] k2 pt2) pos.line X.env = pure false) :
    OkS Γ Wx X (.Assign [.Tuple [.Name x px, .Name y py] kt pt] (.Tuple [a, b] k2 pt2) pos) (fun σ S => (f σ S).bind fun ws S1 => rOpt ((setAll [i, j] ws σ).map fun σ1 => (.nx, σ1)) S1) := by
  intro ψ α σw S σ H D hf hs' hp
  refine GS.of (ps_par G.calm hN hi hj hij hx hy (pa_ga [a, b]) hw hs) ?_
  refine ha ψ α σw S σ H _ hf hs' (hp.bind.mono fun ws S1 α1 H1 x1 hs1 hp1 vs rv => ?_)
  have hf1 := hf.ext x1
  cases e : setAll [i, j] ws σw with
  | none => rw [e] at hp1; exact hp1.elim
  | some σ1 =>
    rw [e] at hp1
    match ws, e, rv with
    | [w1, w2], e, ⟨v1, _, ev, r1, v2, _, ev2, r2, r3⟩ =>
      have r3 : _ = [] := r3
      subst r3 ev2 ev
      refine ⟨v1, v2, rfl, ?_⟩
      simp only [setAll] at e
      split at e
      · split at e
        · cases e
          exact PostS.now (Γ := Γ) hp1 ((hf1.set r1).set r2) hs1
        · cases e
      · cases e
    | [], e, _ => cases e
    | [_], e, _ => simp only [setAll] at e; split at e <;> cases e
    | _ :: _ :: _ :: _, e, _ =>
      simp only [setAll] at e
      split at e
      · split at e <;> cases e
      · cases e
theorem ok_par3 (G : Gd Γ X) (hN : X.N.Nodup) {i j l : Nat} {x y z : Str} {a b c : Expr} {f : Fr → Store → Res (List W)} {px py pz pt pos : Pos} {kt k2 : Nat} {pt2 : Pos} (hi : X.N[i]? = some x) (hj : X.N[j]? = some y) (hl : X.N[l]? = some z) (hij : i ≠ j) (hil : i ≠ l) (hjl : j ≠ l)
    (hx : X.env.scope.names.lookup x = some .local) (hy : X.env.scope.names.lookup y = some .local) (hz : X.env.scope.names.lookup z = some .local) (ha : OkA Γ Wx X [a, b, c] f)
    (hw : swappedStores [.Tuple [.Name x px, .Name y py, .Name z pz] kt pt] (.Tuple [a, b, c] k2 pt2) X.env = pure (some [x, y, z])) (hs : swapsWithSole [.Tuple [.Name x px, .Name y py, .Name z pz] kt pt] (.Tuple [a, b, c] k2 pt2) pos.line X.env = pure false) :
    OkS Γ Wx X (.Assign [.Tuple [.Name x px, .Name y py, .Name z pz] kt pt] (.Tuple [a, b, c] k2 pt2) pos) (fun σ S => (f σ S).bind fun ws S1 => rOpt ((setAll [i, j, l] ws σ).map fun σ1 => (.nx, σ1)) S1) := by
  intro ψ α σw S σ H D hf hs' hp
  refine GS.of (ps_par3 G.calm hN hi hj hl hij hil hjl hx hy hz (pa_ga [a, b, c]) hw hs) ?_
  refine ha ψ α σw S σ H _ hf hs' (hp.bind.mono fun ws S1 α1 H1 x1 hs1 hp1 vs rv => ?_)
  have hf1 := hf.ext x1
  cases e : setAll [i, j, l] ws σw with
  | none => rw [e] at hp1; exact hp1.elim
  | some σ1 =>
    rw [e] at hp1
    match ws, e, rv with
    | [w1, w2, w3], e, ⟨v1, _, ev, r1, v2, _, ev2, r2, v3, _, ev3, r3, r4⟩ =>
      have r4 : _ = [] := r4
      subst r4 ev3 ev2 ev
      refine ⟨v1, v2, v3, rfl, ?_⟩
      simp only [setAll] at e
      split at e
      · split at e
        · split at e
          · cases e
            exact PostS.now (Γ := Γ) hp1 (((hf1.set r1).set r2).set r3) hs1
          · cases e
        · cases e
      · cases e
    | [], e, _ => cases e
    | [_], e, _ => simp only [setAll] at e; split at e <;> cases e
    | [_, _], e, _ =>
      simp only [setAll] at e
      split at e
      · split at e <;> cases e
      · cases e
    | _ :: _ :: _ :: _ :: _, e, _ =>
      simp only [setAll] at e
      split at e
      · split at e
        · split at e <;> cases e
        · cases e
      · cases e
theorem set_rule (G : Gd Γ X) {S S' : Store} {o i v : W} {ov iv vv : V} {Q : Hp → Prop} (R : RS Γ H α ψ S) (ro : RW Γ H α ψ o ov) (ri : RW Γ H α ψ i iv) (rv : RW Γ H α ψ v vv) (h : setW S o i v = some S') (q : ∀ H', Ext α H α H' → RS Γ H' α ψ S' → Q H') :
    ∃ t : TSet, PSet X t ∧ t ov iv vv H Q := by
  unfold setW at h
  split at h
  · rename_i k x
    obtain ⟨a, ea, ha⟩ := ro
    subst ea
    have hm : a ∈ α := List.mem_of_getElem? ha
    split at h
    · rename_i xs hk
      obtain ⟨u, h1, vs, eo, rvs⟩ := R.cell k a _ ha hk
      subst eo
      split at h
      · rename_i z
        cases e : ixOf xs.length z with
        | none => rw [e] at h; cases h
        | some j =>
          rw [e] at h; cases h
          obtain rfl : iv = V.int z := ri
          refine ⟨_, set_list, a, vs, z, j, rfl, rfl, h1, by rw [← rvs.length]; exact e, ?_⟩
          exact q _ (Ext.set h1 rfl hm) (R.set ha h1 rfl ⟨_, rfl, rvs.set j rv⟩)
      · cases h
    · rename_i kvs hk
      obtain ⟨u, h1, us, eo, k1, k2⟩ := R.cell k a _ ha hk
      subst eo
      split at h
      · rename_i b
        split at h
        · rename_i j hj
          split at h
          · rename_i hlt
            cases h
            have ei : iv = kV (kS j) := toKk_rel (Γ := Γ) ri hj
            subst ei
            have hlen : us.length = kvs.length := by simpa using congrArg List.length k1
            obtain ⟨p1, p2⟩ := dPut_rel (k := j) (y := x) (v := vv) rv k1 k2
            refine ⟨_, set_dict (by have := G.un; omega), a, _, rfl, DPut.k h1 (by rw [hlen, ← line_eq]; exact hlt), ?_⟩
            exact q _ (Ext.set h1 rfl hm) (R.set ha h1 rfl ⟨_, rfl, p1, p2⟩)
          · cases h
        · cases h
      · cases h
    · cases h
  · cases h
theorem set_dyn' : PSet X (fun o i v H Q => ∃ t : TSet, PSet X t ∧ t o i v H Q) := set_dyn
theorem ok_setI (G : Gd Γ X) {o i e : Expr} {f g h : Fr → Store → Res W} {tpos pos : Pos} (he : OkE Γ Wx X e f) (ho : OkE Γ Wx X o g) (hi : OkE Γ Wx X i h) (hsl : nSlice i = true) (hs : swapsWithSole [.Subscript o i tpos] e pos.line X.env = pure false) (hw : swappedStores [.Subscript o i tpos] e X.env = pure none) :
    OkS Γ Wx X (.Assign [.Subscript o i tpos] e pos) (fun σ S => (f σ S).bind fun v S1 => (g σ S1).bind fun a S2 => (h σ S2).bind fun k S3 => match setW S3 a k v with
      | some S4 => .ok (.nx, σ) S4
      | none => .bad) := by
  intro ψ α σw S σ H D hf hs' hp
  have ha : ∀ v, assign (.Subscript o i tpos) X.env v = (do
      let ov ← holding [v] (eval o X.env)
      let iv ← holding [v, ov] (eval i X.env)
      standAt tpos
      holding [v, ov, iv] (setItem ov iv v)
      release [v, ov, iv] []) := by
    intro v
    cases i <;> first
      | rfl
      | (simp [nSlice] at hsl; done)
  refine GS.of (ps_asg (pe_ge e) (pg_sub (pe_ge o) (pe_ge i) set_dyn ha) hs hw (by rw [each_assign rfl]; rfl)) ?_
  refine he ψ α σw S σ H _ hf hs' (hp.bind.mono fun v S1 α1 H1 x1 hs1 hp1 vv rv => ?_)
  refine ho ψ α1 σw S1 σ H1 _ (hf.ext x1) hs1 (hp1.bind.mono fun a S2 α2 H2 x2 hs2 hp2 av ra => ?_)
  refine hi ψ α2 σw S2 σ H2 _ ((hf.ext x1).ext x2) hs2 (hp2.bind.mono fun k S3 α3 H3 x3 hs3 hp3 kv rk => ?_)
  split at hp3
  · rename_i S4 e4
    exact set_rule G hs3 (ra.ext x3) rk (rv.ext (x2.trans x3)) e4 fun H' x R => hp3 H' α3 σ x R ((((hf.ext x1).ext x2).ext x3).ext x)
  · exact hp3.elim
theorem ok_aug (hN : X.N.Nodup) {i : Nat} {x : Str} {e : Expr} {f : Fr → Store → Res W} {op : Bop} {pos pos' : Pos} (hi : X.N[i]? = some x) (hx : L2.Loc X.env.scope x) (hfn : X.fn x = true ∨ X.env.scope.names.lookup x = some .local) (he : OkE Γ Wx X e f) :
    OkS Γ Wx X (.AugAssign (.Name x pos') (opOf op) e pos) (fun σ S => match σ[i]? with
    | some (some (.p (.int a))) => if augOk op then (f σ S).bind fun w S1 => (match w with
      | .p (.int b) => .ok (.nx, σ.set i (some (.p (.int (augI op a b))))) S1
      | _ => .bad) else .bad
    | _ => .bad) := by
  intro ψ α σw S σ H D hf hs' hp
  dsimp only at hp
  split at hp
  · rename_i a ea
    obtain ⟨v, ev, rv⟩ := hf.2 i _ ea
    obtain rfl : v = V.int a := rv
    split at hp
    · rename_i hop
      have hip : PIp X (opOf op) (ipI (augI op)) := by
        cases op <;> first
          | exact ip_add
          | exact ip_sub
          | cases hop
      refine GS.of (ps_aug hN hi hx (pe_ge e) hip hfn) ⟨_, ev, ?_⟩
      refine he ψ α σw S σ H _ hf hs' (hp.bind.mono fun w S1 α1 H1 x1 hs1 hp1 vv rv => ?_)
      split at hp1
      · rename_i b
        obtain rfl : vv = V.int b := rv
        exact ⟨a, b, rfl, rfl, PostS.now (Γ := Γ) hp1 ((hf.ext x1).set (w := .p (.int (augI op a b))) rfl) hs1⟩
      · exact hp1.elim
    · exact hp.elim
  · exact hp.elim
/-! ### the rest -/
theorem ok_expr {e : Expr} {f : Fr → Store → Res W} {pos : Pos} (he : OkE Γ Wx X e f) (hs : swapsWith e none pos.line X.env = pure false) : OkS Γ Wx X (.Expr e pos) (fun σ S => (f σ S).bind fun _ S1 => .ok (.nx, σ) S1) := by
  intro ψ α σw S σ H D hf hs' hp
  refine GS.of (ps_expr (pe_ge e) hs) ?_
  exact he ψ α σw S σ H _ hf hs' (hp.bind.mono fun w S1 α1 H1 x1 hs1 hp1 v rv => PostS.now (Γ := Γ) hp1 (hf.ext x1) hs1)
theorem ok_ret {e : Expr} {f : Fr → Store → Res W} {pos : Pos} (he : OkE Γ Wx X e f) : OkS Γ Wx X (.Return (some e) pos) (fun σ S => (f σ S).bind fun w S1 => .ok (.rt w, σ) S1) := by
  intro ψ α σw S σ H D hf hs' hp
  refine GS.of (ps_ret (pe_ge e)) ?_
  exact he ψ α σw S σ H _ hf hs' (hp.bind.mono fun w S1 α1 H1 x1 hs1 hp1 v rv => PostS.now (Γ := Γ) hp1 (hf.ext x1) hs1 v rv)
theorem ok_retN {pos : Pos} : OkS Γ Wx X (.Return none pos) (fun σ S => .ok (.rt (.p .non), σ) S) := by
  intro ψ α σw S σ H D hf hs' hp
  exact GS.of ps_retN (PostS.now (Γ := Γ) hp hf hs' .non rfl)
theorem ok_pass {pos : Pos} : OkS Γ Wx X (.Pass pos) (fun σ S => .ok (.nx, σ) S) := fun ψ α σw S σ H D hf hs' hp => GS.of ps_pass (PostS.now (Γ := Γ) hp hf hs')
theorem ok_brk {pos : Pos} : OkS Γ Wx X (.Break pos) (fun σ S => .ok (.bk, σ) S) := fun ψ α σw S σ H D hf hs' hp => GS.of ps_break (PostS.now (Γ := Γ) hp hf hs')
theorem ok_cont {pos : Pos} : OkS Γ Wx X (.Continue pos) (fun σ S => .ok (.ct, σ) S) := fun ψ α σw S σ H D hf hs' hp => GS.of ps_continue (PostS.now (Γ := Γ) hp hf hs')
theorem ok_if {c : Expr} {a b : List Stmt} {f : Fr → Store → Res Bool} {g h : Fr → Store → Res (Fl × Fr)} {pos : Pos} (hc : OkT Γ Wx X c f) (ha : OkSs Γ Wx X a g) (hb : OkSs Γ Wx X b h) : OkS Γ Wx X (.If c a b pos) (fun σ S => (f σ S).bind fun r S1 => if r then g σ S1 else h σ S1) := by
  intro ψ α σw S σ H D hf hs' hp
  refine GS.of (ps_if (pt_gt c) (pss_gs a) (pss_gs b)) ?_
  refine hc ψ α σw S σ H _ hf hs' (hp.bind.mono fun r S1 α1 H1 x1 hs1 hp1 => ?_)
  show if r = true then _ else _
  cases r with
  | true => rw [if_pos rfl] at hp1 ⊢; exact ha ψ α1 σw S1 σ H1 D (hf.ext x1) hs1 hp1
  | false => rw [if_neg Bool.false_ne_true] at hp1 ⊢; exact hb ψ α1 σw S1 σ H1 D (hf.ext x1) hs1 hp1
theorem ok_snil : OkSs Γ Wx X [] (fun σ S => .ok (.nx, σ) S) := fun ψ α σw S σ H D hf hs' hp => GSs.of pss_nil (PostS.now (Γ := Γ) hp hf hs')
theorem ok_scons {st : Stmt} {sts : List Stmt} {f g : Fr → Store → Res (Fl × Fr)} (h1 : OkS Γ Wx X st f) (h2 : OkSs Γ Wx X sts g) : OkSs Γ Wx X (st :: sts) (fun σ S => (f σ S).bind fun r S1 => match r with
    | (.nx, σ1) => g σ1 S1
    | (f, σ1) => .ok (f, σ1) S1) := by
  intro ψ α σw S σ H D hf hs' hp
  refine GSs.of (pss_cons (ps_gs st) (pss_gs sts)) ?_
  refine h1 ψ α σw S σ H _ hf hs' ?_
  dsimp only at hp
  cases hr : f σw S with
  | bad => rw [hr] at hp; exact hp
  | ex c fs S1 => rw [hr] at hp; exact hp
  | ok r S1 =>
    rw [hr] at hp
    obtain ⟨fl, σ1⟩ := r
    intro H' α' σ' x R F
    cases fl with
    | nx => exact h2 ψ α' σ1 S1 σ' H' D F R (PostS.ext (r := g σ1 S1) hp x)
    | rt w => exact hp H' α' σ' x R F
    | bk => exact hp H' α' σ' x R F
    | ct => exact hp H' α' σ' x R F
theorem ok_for (G : Gd Γ X) (hpo : PassesOwn (model X.prog X.w) X.A X.env X.xe) {tg it : Expr} {body : List Stmt} {t : Tg} {sl : List Nat} {fi : Fr → Store → Res Src} {fb : Fr → Store → Res (Fl × Fr)} {pos : Pos} (hi : OkI Γ Wx X tg it fi) (hg : OkG Γ X tg (fun w σ => asgT t w σ) sl) (hb : OkSs Γ Wx X body fb)
    (hfs : ∀ x, foldedSetIterable it X.env x = pure x) : OkS Γ Wx X (.For tg it body [] pos) (fun σ S => (fi σ S).bind fun src S1 => forGo t fb bigN src σ S1) := by
  intro ψ α σw S σ H D hf hs' hp
  refine GS.of (ps_for hpo G.calm (pi_gi tg it) (pg_gg tg) (pss_gs body) hfs) ?_
  refine hi ψ α σw S σ H _ hf hs' (hp.bind.mono fun src S1 α1 H1 x1 hs1 hp1 J R hJ hR => ?_)
  let Iv : Nat → Nat → L2.St → Hp → Prop := fun i m σ2 H2 => ∃ (src : Src) (S2 : Store) (α2 : List Addr) (σw2 : Fr), PostS Γ Wx ψ α1 H1 (forGo t fb m src σw2 S2) D ∧ Ext α1 H1 α2 H2 ∧ RS Γ H2 α2 ψ S2 ∧ RF Γ H2 α2 ψ σw2 σ2 ∧ R ψ i src α2 H2
  refine ⟨Iv, ⟨bigN, src, S1, α1, σw, hp1, Ext.refl, hs1, hf.ext x1, hR⟩, ?_⟩
  rintro i m σ2 H2 ⟨src2, S2, α2, σw2, hr, x2, rs2, rf2, hR2⟩
  cases m with
  | zero => exact hr.elim
  | succ m =>
    unfold forGo at hr
    cases hn : src2.next S2 with
    | none => rw [hn] at hr; exact hr.elim
    | some o =>
      rw [hn] at hr
      cases o with
      | none => exact .inl ⟨hJ.stop hR2 rs2 hn, hr H2 α2 σ2 x2 rs2 rf2⟩
      | some ws =>
        obtain ⟨w, src3⟩ := ws
        dsimp only at hr
        obtain ⟨hgo, hy⟩ := hJ.go hR2 rs2 hn
        refine .inr ⟨hgo, fun σ' H' => Iv (i + 1) m σ' H', fun σ' H' z => ⟨m, Nat.lt_succ_self m, z⟩, fun x H3 hyx => ?_⟩
        obtain ⟨x3, rs3, rw3, hR3⟩ := hy x H3 hyx
        split at hr
        · exact hr.elim
        · rename_i σ1 hasg
          refine hg ψ α2 σw2 σ1 σ2 H3 w x _ (rf2.ext x3) rw3 hasg fun σ4 rf4 ag ln => ?_
          refine hb ψ α2 σ1 S2 σ4 H3 _ rf4 rs3 ?_
          have x23 := x2.trans x3
          cases hc : fb σ1 S2 with
          | bad => rw [hc] at hr; exact hr.elim
          | ex c fs S3 =>
            rw [hc] at hr
            exact fun H' α' d σ' x R => hr H' α' d σ' (x23.trans x) R
          | ok r S3 =>
            rw [hc] at hr
            obtain ⟨fl, σ5⟩ := r
            intro H' α' σ' x R F
            have x4 := x23.trans x
            have again : ∀ {fl2 : Fl}, PostS Γ Wx ψ α1 H1 (forGo t fb m src3 σ5 S3) D → Iv (i + 1) m σ' H' := fun {_} h => ⟨src3, S3, α', σ5, h, x4, R, F, hJ.mv hR3 (.ext x)⟩
            cases fl with
            | nx => exact again (fl2 := .nx) hr
            | ct => exact again (fl2 := .nx) hr
            | bk => exact hr H' α' σ' x4 R F
            | rt w => exact hr H' α' σ' x4 R F
theorem ok_while (G : Gd Γ X) (hpo : PassesOwn (model X.prog X.w) X.A X.env X.xe) {c : Expr} {body : List Stmt} {fc : Fr → Store → Res Bool} {fb : Fr → Store → Res (Fl × Fr)} {pos : Pos} (hc : OkT Γ Wx X c fc) (hb : OkSs Γ Wx X body fb) :
    OkS Γ Wx X (.While c body [] pos) (fun σ S => whileGo fc fb bigN σ S) := by
  intro ψ α σw S σ H D hf hs' hp
  refine GS.of (ps_while hpo (pt_gt c) (pss_gs body)) ?_
  let Iv : Nat → L2.St → Hp → Prop := fun m σ2 H2 => ∃ (S2 : Store) (α2 : List Addr) (σw2 : Fr), PostS Γ Wx ψ α H (whileGo fc fb m σw2 S2) D ∧ Ext α H α2 H2 ∧ RS Γ H2 α2 ψ S2 ∧ RF Γ H2 α2 ψ σw2 σ2
  refine ⟨Iv, ⟨bigN, S, α, σw, hp, Ext.refl, hs', hf⟩, ?_⟩
  rintro m σ2 H2 ⟨S2, α2, σw2, hr, x2, rs2, rf2⟩
  cases m with
  | zero => exact hr.elim
  | succ m =>
    unfold whileGo at hr
    refine hc ψ α2 σw2 S2 σ2 H2 _ rf2 rs2 ?_
    cases hcc : fc σw2 S2 with
    | bad => rw [hcc] at hr; exact hr.elim
    | ex c fs S3 =>
      rw [hcc] at hr
      exact fun H' α' d x R => hr H' α' d σ2 (x2.trans x) R
    | ok b S3 =>
      rw [hcc] at hr
      dsimp only [Res.bind] at hr
      intro H3 α3 x3 rs3
      show if b = true then _ else _
      cases b with
      | false =>
        rw [if_neg Bool.false_ne_true] at hr ⊢
        exact hr H3 α3 σ2 (x2.trans x3) rs3 (rf2.ext x3)
      | true =>
        rw [if_pos rfl] at hr ⊢
        refine ⟨fun σ' H' => Iv m σ' H', fun σ' H' z => ⟨m, Nat.lt_succ_self m, z⟩, ?_⟩
        refine hb ψ α3 σw2 S3 σ2 H3 _ (rf2.ext x3) rs3 ?_
        cases hc2 : fb σw2 S3 with
        | bad => rw [hc2] at hr; exact hr.elim
        | ex c fs S4 =>
          rw [hc2] at hr
          exact fun H' α' d σ' x R => hr H' α' d σ' ((x2.trans x3).trans x) R
        | ok r S4 =>
          rw [hc2] at hr
          obtain ⟨fl, σ5⟩ := r
          intro H' α' σ' x R F
          have x4 := (x2.trans x3).trans x
          cases fl with
          | nx => exact ⟨S4, α', σ5, hr, x4, R, F⟩
          | ct => exact ⟨S4, α', σ5, hr, x4, R, F⟩
          | bk => exact hr H' α' σ' x4 R F
          | rt w => exact hr H' α' σ' x4 R F
/-- an own exception class -/
structure ClsSp (Γ : Gm) (X : Cx) (c : Nat) (x : Str) : Prop where
  base : ∃ B newId initId bmB, ExcBaseFacts B newId initId bmB ∧ PySem.W.excIn X.K (Γ.ca c) bmB newId = true
  mg : X.mg x = some (.ref (Γ.ca c))
  kp : PySem.W.keepIn X.K (.ref (Γ.ca c)) = true
  rs : Raises X (.ref (Γ.ca c))
theorem ok_raise (G : Gd Γ X) (tk : Takes X Wx) {c : Nat} {x m : Str} {j : Nat} {p p2 pos pos2 : Pos} (C : ClsSp Γ X c x) (hg : Gl X x) (hdb : (x == ("__debug__" : Str)) = false) : OkS Γ Wx X (.Raise (some (.Call (.Name x p) [.Constant (.str m) j p2] [] pos)) none pos2) (fun _ S => .ex c [] S) := by
  intro ψ α σw S σ H D hf hs' hp
  obtain ⟨B, newId, initId, bmB, F, q⟩ := C.base
  refine GS.of (ps_raise G.calm tk (L2.pmk_own F q C.mg C.kp C.rs hg hdb)) ?_
  exact hp H α none σ Ext.refl hs'
end
end Tp

/-! The check of a program's tree against its printed form. -/
namespace Tp
open PySem PySem.Spec PyProof.Rows L2
structure Cc where
  N : List Str
  sc : Scope
  fn : Str → Bool
structure Cg where
  fs : List Str
  gl : List (Str × P)
  cs : List Str
def kindB (sc : Scope) (x : Str) (k : NameKind) : Bool := decide (sc.names.lookup x = some k)
def visB (sc : Scope) (x : Str) : Bool := kindB sc x .local || kindB sc x .cell || kindB sc x .free
def glB (sc : Scope) (x : Str) : Bool := kindB sc x .globalImplicit
def bugB (x : Str) : Bool := !(x == ("__debug__" : Str))
def varB (c : Cc) (i : Nat) (x : Str) : Bool := decide (c.N[i]? = some x) && visB c.sc x && bugB x && !(x == ("__classdict__" : Str))
def stB (c : Cc) (i : Nat) (x : Str) : Bool := decide (c.N[i]? = some x) && (kindB c.sc x .local || kindB c.sc x .cell) && (c.fn x || kindB c.sc x .local)
def cstB : P → Const → Bool
  | .int i, .int j => i == j
  | .str x, .str y => toS x == y
  | .bl b, .bool d => b == d
  | .non, .none => true
  | _, _ => false
def samP : P → P → Bool
  | .int i, .int j => i == j
  | .str x, .str y => nmEq x y
  | .bl b, .bl d => b == d
  | .non, .non => true
  | _, _ => false
def gloB (g : Cg) (p : P) (x : Str) : Bool := g.gl.any fun q => (q.1 == x) && samP q.2 p
def nSet : Expr → Bool
  | .Set .. => false
  | _ => true
def ownP (c : Cc) (own : List Nat) : List (Str × Nat) := own.map fun i => ((c.N[i]?).getD ⟨#[]⟩, i)
def isN : Ex → Bool
  | .lst _ | .dnew | .bin .. | .sl .. | .rev _ | .f1 .. | .lc .. | .dc .. | .rg1 .. | .rg2 .. => true
  | _ => false
/-! ### shapes -/
abbrev Ck := Expr → Bool
abbrev Cks := List Expr → Bool
def shName (p : Str → Bool) : Ck := fun a => match a with | .Name x _ => p x | _ => false
def shConst (p : Const → Bool) : Ck := fun a => match a with | .Constant k _ _ => p k | _ => false
def shTup (p : Cks) : Ck := fun a => match a with | .Tuple l _ _ => p l && l.all nst | _ => false
def shLst (p : Cks) : Ck := fun a => match a with | .List l _ => p l && l.all nst | _ => false
def shDnew : Ck := fun a => match a with | .Dict [] [] _ => true | _ => false
def shBin (op : Bop) (p q : Ck) : Ck := fun a => match a with | .BinOp l o r _ => decide (opOf op = o) && p l && q r | _ => false
def shUn (u : UnaryOp) (p : Ck) : Ck := fun a => match a with | .UnaryOp o l _ => decide (u = o) && p l | _ => false
def shCmp (op : Cop) (p q : Ck) : Ck := fun a => match a with | .Compare l [o] [r] _ => decide (copOf op = o) && p l && q r && !behindInMarks o r | _ => false
def shCmp2 (op op2 : Cop) (p q r : Ck) : Ck := fun a => match a with | .Compare l [o, o2] [m, n] _ => decide (copOf op = o) && decide (copOf op2 = o2) && p l && q m && r n && !lastMarks [o, o2] [m, n] | _ => false
def shBool (u : BoolOp) (p : Cks) : Ck := fun a => match a with | .BoolOp o l _ => decide (u = o) && p l | _ => false
def shIte (t p q : Ck) : Ck := fun a => match a with | .IfExp c l r _ => t c && p l && q r | _ => false
def shIx (p q : Ck) : Ck := fun a => match a with | .Subscript l s _ => p l && q s && nSlice s | _ => false
def shSl (p : Ck) (lo hi : Option Expr → Bool) : Ck := fun a => match a with | .Subscript l (.Slice x y none _) _ => p l && lo x && hi y | _ => false
def shRev (p : Ck) : Ck := fun a => match a with | .Subscript l (.Slice none none (some (.UnaryOp .USub (.Constant (.int 1) _ _) _)) _) _ => p l | _ => false
def shCall (g : Cg) (c : Cc) (f : Nat) (p : Cks) : Ck := fun a => match a with | .Call (.Name x _) (e :: l) [] _ => decide (g.fs[f]? = some x) && glB c.sc x && bugB x && p (e :: l) && (e :: l).all nst | _ => false
def shF1 (c : Cc) (s : String) (p : Ck) : Ck := fun a => match a with | .Call (.Name x _) [l] [] _ => (x == Str.ofString s) && glB c.sc x && p l && nst l | _ => false
def shF2 (c : Cc) (s : String) (p q : Ck) : Ck := fun a => match a with | .Call (.Name x _) [l, r] [] _ => (x == Str.ofString s) && glB c.sc x && p l && q r && nst l && nst r | _ => false
def shIsi (c : Cc) (T : Ty) (p : Ck) : Ck := fun a => match a with | .Call (.Name x _) [l, .Name t _] [] _ => (x == Str.ofString "isinstance") && glB c.sc x && (t == Str.ofString (tyS T)) && glB c.sc t && p l && nst l | _ => false
def shM1 (s : String) (p q : Ck) : Ck := fun a => match a with | .Call (.Attribute o m ap) [l] [] cp => (m == Str.ofString s) && p o && q l && nCall o && (ap.endLine == cp.line) && nst l | _ => false
def shM2 (s : String) (p q r : Ck) : Ck := fun a => match a with | .Call (.Attribute o m ap) [l, k] [] cp => (m == Str.ofString s) && p o && q l && r k && nCall o && (ap.endLine == cp.line) && nst l && nst k | _ => false
def shLc (c : Cc) (own : List Nat) (tg : Scope → Ck) (it : Expr → Ck) (cs : Scope → Cks) (e : Scope → Ck) : Ck := fun a => match a with | .ListComp x [⟨t, i, l, k⟩] sc _ => decide (k = 0) && blkC c.N c.sc sc (ownP c own) && nSet i && it t i && tg sc t && cs sc l && e sc x | _ => false
def shDc (c : Cc) (own : List Nat) (tg : Scope → Ck) (it : Expr → Ck) (cs : Scope → Cks) (e f : Scope → Ck) : Ck := fun a => match a with | .DictComp x y [⟨t, i, l, k⟩] sc _ => decide (k = 0) && blkC c.N c.sc sc (ownP c own) && nSet i && it t i && tg sc t && cs sc l && e sc x && f sc y | _ => false
def Cc.blk (c : Cc) (sc : Scope) : Cc := ⟨c.N, relS sc c.sc, fun x => sc.names.lookup x == some .cell⟩
mutual
def ckG (c : Cc) : Tg → Ck
  | .name i => shName (stB c i)
  | .tup ts => shTup fun l => decide (tgsLen ts = l.length) && ckGs c ts l
def ckGs (c : Cc) : Tgs → Cks
  | .nil => fun l => match l with | [] => true | _ => false
  | .cons t ts => fun l => match l with | [] => false | e :: es => ckG c t e && ckGs c ts es
end
def isTupE : Expr → Bool
  | .Tuple .. => true
  | _ => false
mutual
def ckE (g : Cg) (c : Cc) : Ex → Ck
  | .var i => shName (varB c i)
  | .cst p => shConst (cstB p)
  | .glob p => shName fun x => glB c.sc x && gloB g p x && bugB x
  | .fnv _ => fun _ => false
  | .tup es => shTup (ckEs g c es)
  | .lst es => shLst (ckEs g c es)
  | .dnew => shDnew
  | .new e => fun a => isN e && ckE g c e a
  | .bin op x y => shBin op (ckE g c x) (ckE g c y)
  | .neg x => shUn .USub (ckE g c x)
  | .cmp op x y => shCmp op (ckE g c x) (ckE g c y)
  | .cmp2 op op2 x y z => shCmp2 op op2 (ckE g c x) (ckE g c y) (ckE g c z)
  | .and es => shBool .And (ckEs g c es)
  | .or es => shBool .Or (ckEs g c es)
  | .not x => shUn .Not (ckE g c x)
  | .ite t x y => shIte (ckT g c t) (ckE g c x) (ckE g c y)
  | .ix x y => shIx (ckE g c x) (ckE g c y)
  | .sl x lo hi => shSl (ckE g c x) (ckO g c lo) (ckO g c hi)
  | .rev x => shRev (ckE g c x)
  | .call f es => shCall g c f (ckEs g c es)
  | .ncall f es => shCall g c f (ckEs g c es)
  | .callv _ _ => fun _ => false
  | .f1 f x => match f with
    | .sortset => shF1 c "sorted" (shF1 c "set" (ckE g c x))
    | .lenset => fun _ => false
    | f => shF1 c (f1S f) (ckE g c x)
  | .mn2 x y => shF2 c "min" (ckE g c x) (ckE g c y)
  | .mx2 x y => shF2 c "max" (ckE g c x) (ckE g c y)
  | .isi x T => shIsi c T (ckE g c x)
  | .rg1 t x => shF1 c (rgS t) (shF1 c "range" (ckE g c x))
  | .rg2 t x y => shF1 c (rgS t) (shF2 c "range" (ckE g c x) (ckE g c y))
  | .get1 x y => shM1 "get" (ckE g c x) (ckE g c y)
  | .get2 x y z => shM2 "get" (ckE g c x) (ckE g c y) (ckE g c z)
  | .index x y => shM1 "index" (ckE g c x) (ckE g c y)
  | .app x y => shM1 "append" (ckE g c x) (ckE g c y)
  | .lc e tg it ifs own => shLc c own (fun sc t => (tgSlots tg).all (fun j => own.contains j) && ckG (c.blk sc) tg t) (ckI g c it) (fun sc => ckCs g (c.blk sc) ifs) (fun sc => ckE g (c.blk sc) e)
  | .dc k v tg it ifs own => shDc c own (fun sc t => (tgSlots tg).all (fun j => own.contains j) && ckG (c.blk sc) tg t) (ckI g c it) (fun sc => ckCs g (c.blk sc) ifs) (fun sc => ckE g (c.blk sc) k) (fun sc => ckE g (c.blk sc) v)
def ckT (g : Cg) (c : Cc) : Ex → Ck
  | .not x => shUn .Not (ckT g c x)
  | .and es => shBool .And (ckTs g c es)
  | .or es => shBool .Or (ckTs g c es)
  | .cmp op x y => shCmp op (ckE g c x) (ckE g c y)
  | .cmp2 op op2 x y z => shCmp2 op op2 (ckE g c x) (ckE g c y) (ckE g c z)
  | .var i => shName (varB c i)
  | .ix x y => shIx (ckE g c x) (ckE g c y)
  | .call f es => shCall g c f (ckEs g c es)
  | .f1 f x => match f with
    | .sortset => fun _ => false
    | .lenset => fun _ => false
    | f => shF1 c (f1S f) (ckE g c x)
  | .isi x T => shIsi c T (ckE g c x)
  | _ => fun _ => false
def ckEs (g : Cg) (c : Cc) : Exs → Cks
  | .nil => fun l => match l with | [] => true | _ => false
  | .cons e es => fun l => match l with | [] => false | a :: as => ckE g c e a && ckEs g c es as && nst a
def ckTs (g : Cg) (c : Cc) : Exs → Cks
  | .nil => fun l => match l with | [] => true | _ => false
  | .cons e es => fun l => match l with | [] => false | a :: as => ckT g c e a && ckTs g c es as
def ckCs (g : Cg) (c : Cc) : Exs → Cks
  | .nil => fun l => match l with | [] => true | _ => false
  | .cons e es => fun l => match l, es with | [a], .nil => ckT g c e a | _, _ => false
def ckO (g : Cg) (c : Cc) : Exo → Option Expr → Bool
  | .none => fun o => match o with | none => true | _ => false
  | .some e => fun o => match o with | some a => ckE g c e a | none => false
def ckI (g : Cg) (c : Cc) : Itr → Expr → Ck
  | .of e => fun _ => ckE g c e
  | .range1 x => fun _ => shF1 c "range" (ckE g c x)
  | .range2 x y => fun _ => shF2 c "range" (ckE g c x) (ckE g c y)
  | .enm x => fun t a => isTupE t && shF1 c "enumerate" (ckE g c x) a
  | .zip x y => fun t a => isTupE t && shF2 c "zip" (ckE g c x) (ckE g c y) a
end
/-! ### what the shapes say -/
theorem shName_inv {p : Str → Bool} {a : Expr} (h : shName p a = true) : ∃ x pos, a = .Name x pos ∧ p x = true := by
  cases a <;> first | (exact ⟨_, _, rfl, h⟩) | cases h
theorem shConst_inv {p : Const → Bool} {a : Expr} (h : shConst p a = true) : ∃ k j pos, a = .Constant k j pos ∧ p k = true := by
  cases a <;> first | (exact ⟨_, _, _, rfl, h⟩) | cases h
theorem shTup_inv {p : Cks} {a : Expr} (h : shTup p a = true) : ∃ l j pos, a = .Tuple l j pos ∧ p l = true ∧ l.all nst = true := by
  cases a <;> first | (simp only [shTup, Bool.and_eq_true] at h; exact ⟨_, _, _, rfl, h.1, h.2⟩) | cases h
theorem shLst_inv {p : Cks} {a : Expr} (h : shLst p a = true) : ∃ l pos, a = .List l pos ∧ p l = true ∧ l.all nst = true := by
  cases a <;> first | (simp only [shLst, Bool.and_eq_true] at h; exact ⟨_, _, rfl, h.1, h.2⟩) | cases h
theorem shDnew_inv {a : Expr} (h : shDnew a = true) : ∃ pos, a = .Dict [] [] pos := by
  unfold shDnew at h
  split at h
  · exact ⟨_, rfl⟩
  · cases h
theorem shBin_inv {op : Bop} {p q : Ck} {a : Expr} (h : shBin op p q a = true) : ∃ l r pos, a = .BinOp l (opOf op) r pos ∧ p l = true ∧ q r = true := by
  unfold shBin at h
  split at h
  · simp only [Bool.and_eq_true, decide_eq_true_eq] at h
    exact ⟨_, _, _, by rw [h.1.1], h.1.2, h.2⟩
  · cases h
theorem shUn_inv {u : UnaryOp} {p : Ck} {a : Expr} (h : shUn u p a = true) : ∃ l pos, a = .UnaryOp u l pos ∧ p l = true := by
  unfold shUn at h
  split at h
  · simp only [Bool.and_eq_true, decide_eq_true_eq] at h
    exact ⟨_, _, by rw [h.1], h.2⟩
  · cases h
theorem shCmp_inv {op : Cop} {p q : Ck} {a : Expr} (h : shCmp op p q a = true) : ∃ l r pos, a = .Compare l [copOf op] [r] pos ∧ p l = true ∧ q r = true ∧ behindInMarks (copOf op) r = false := by
  unfold shCmp at h
  split at h
  · simp only [Bool.and_eq_true, decide_eq_true_eq, Bool.not_eq_true'] at h
    exact ⟨_, _, _, by rw [h.1.1.1], h.1.1.2, h.1.2, by rw [h.1.1.1]; exact h.2⟩
  · cases h
theorem shCmp2_inv {op op2 : Cop} {p q r : Ck} {a : Expr} (h : shCmp2 op op2 p q r a = true) : ∃ l m n pos, a = .Compare l [copOf op, copOf op2] [m, n] pos ∧ p l = true ∧ q m = true ∧ r n = true ∧ lastMarks [copOf op, copOf op2] [m, n] = false := by
  unfold shCmp2 at h
  split at h
  · simp only [Bool.and_eq_true, decide_eq_true_eq, Bool.not_eq_true'] at h
    obtain ⟨⟨⟨⟨⟨h1, h2⟩, h3⟩, h4⟩, h5⟩, h6⟩ := h
    exact ⟨_, _, _, _, by rw [h1, h2], h3, h4, h5, by rw [h1, h2]; exact h6⟩
  · cases h
theorem shBool_inv {u : BoolOp} {p : Cks} {a : Expr} (h : shBool u p a = true) : ∃ l pos, a = .BoolOp u l pos ∧ p l = true := by
  unfold shBool at h
  split at h
  · simp only [Bool.and_eq_true, decide_eq_true_eq] at h
    exact ⟨_, _, by rw [h.1], h.2⟩
  · cases h
theorem shIte_inv {t p q : Ck} {a : Expr} (h : shIte t p q a = true) : ∃ c l r pos, a = .IfExp c l r pos ∧ t c = true ∧ p l = true ∧ q r = true := by
  unfold shIte at h
  split at h
  · simp only [Bool.and_eq_true] at h
    exact ⟨_, _, _, _, rfl, h.1.1, h.1.2, h.2⟩
  · cases h
theorem shIx_inv {p q : Ck} {a : Expr} (h : shIx p q a = true) : ∃ l s pos, a = .Subscript l s pos ∧ p l = true ∧ q s = true ∧ nSlice s = true := by
  unfold shIx at h
  split at h
  · simp only [Bool.and_eq_true] at h
    exact ⟨_, _, _, rfl, h.1.1, h.1.2, h.2⟩
  · cases h
theorem shSl_inv {p : Ck} {lo hi : Option Expr → Bool} {a : Expr} (h : shSl p lo hi a = true) : ∃ l x y p2 pos, a = .Subscript l (.Slice x y none p2) pos ∧ p l = true ∧ lo x = true ∧ hi y = true := by
  unfold shSl at h
  split at h
  · simp only [Bool.and_eq_true] at h
    exact ⟨_, _, _, _, _, rfl, h.1.1, h.1.2, h.2⟩
  · cases h
theorem shRev_inv {p : Ck} {a : Expr} (h : shRev p a = true) : ∃ l k p1 p2 p3 pos, a = .Subscript l (.Slice none none (some (.UnaryOp .USub (.Constant (.int 1) k p1) p2)) p3) pos ∧ p l = true := by
  unfold shRev at h
  split at h
  · exact ⟨_, _, _, _, _, _, rfl, h⟩
  · cases h
theorem shCall_inv {g : Cg} {c : Cc} {f : Nat} {p : Cks} {a : Expr} (h : shCall g c f p a = true) : ∃ x q e l pos, a = .Call (.Name x q) (e :: l) [] pos ∧ g.fs[f]? = some x ∧ glB c.sc x = true ∧ bugB x = true ∧ p (e :: l) = true ∧ (e :: l).all nst = true := by
  unfold shCall at h
  split at h
  · simp only [Bool.and_eq_true, decide_eq_true_eq] at h
    obtain ⟨⟨⟨⟨h1, h2⟩, h3⟩, h4⟩, h5⟩ := h
    exact ⟨_, _, _, _, _, rfl, h1, h2, h3, h4, by rw [List.all_cons, Bool.and_eq_true]; simpa using h5⟩
  · cases h
theorem shF1_inv {c : Cc} {s : String} {p : Ck} {a : Expr} (h : shF1 c s p a = true) : ∃ q l pos, a = .Call (.Name (Str.ofString s) q) [l] [] pos ∧ glB c.sc (Str.ofString s) = true ∧ p l = true ∧ nst l = true := by
  unfold shF1 at h
  split at h
  · simp only [Bool.and_eq_true, beq_iff_eq] at h
    obtain ⟨⟨⟨h1, h2⟩, h3⟩, h4⟩ := h
    exact ⟨_, _, _, by rw [h1], by rw [← h1]; exact h2, h3, h4⟩
  · cases h
theorem shF2_inv {c : Cc} {s : String} {p q : Ck} {a : Expr} (h : shF2 c s p q a = true) : ∃ r l m pos, a = .Call (.Name (Str.ofString s) r) [l, m] [] pos ∧ glB c.sc (Str.ofString s) = true ∧ p l = true ∧ q m = true ∧ nst l = true ∧ nst m = true := by
  unfold shF2 at h
  split at h
  · simp only [Bool.and_eq_true, beq_iff_eq] at h
    obtain ⟨⟨⟨⟨⟨h1, h2⟩, h3⟩, h4⟩, h5⟩, h6⟩ := h
    exact ⟨_, _, _, _, by rw [h1], by rw [← h1]; exact h2, h3, h4, h5, h6⟩
  · cases h
theorem shIsi_inv {c : Cc} {T : Ty} {p : Ck} {a : Expr} (h : shIsi c T p a = true) : ∃ q l q2 pos, a = .Call (.Name (Str.ofString "isinstance") q) [l, .Name (Str.ofString (tyS T)) q2] [] pos ∧ glB c.sc (Str.ofString "isinstance") = true ∧ glB c.sc (Str.ofString (tyS T)) = true ∧ p l = true ∧ nst l = true := by
  unfold shIsi at h
  split at h
  · simp only [Bool.and_eq_true, beq_iff_eq] at h
    obtain ⟨⟨⟨⟨⟨h1, h2⟩, h3⟩, h4⟩, h5⟩, h6⟩ := h
    exact ⟨_, _, _, _, by rw [h1, h3], by rw [← h1]; exact h2, by rw [← h3]; exact h4, h5, h6⟩
  · cases h
theorem shM1_inv {s : String} {p q : Ck} {a : Expr} (h : shM1 s p q a = true) : ∃ o ap l cp, a = .Call (.Attribute o (Str.ofString s) ap) [l] [] cp ∧ p o = true ∧ q l = true ∧ nCall o = true ∧ (ap.endLine == cp.line) = true ∧ nst l = true := by
  unfold shM1 at h
  split at h
  · simp only [Bool.and_eq_true] at h
    obtain ⟨⟨⟨⟨⟨h1, h2⟩, h3⟩, h4⟩, h5⟩, h6⟩ := h
    exact ⟨_, _, _, _, by rw [eq_of_beq h1], h2, h3, h4, h5, h6⟩
  · cases h
theorem shM2_inv {s : String} {p q r : Ck} {a : Expr} (h : shM2 s p q r a = true) : ∃ o ap l k cp, a = .Call (.Attribute o (Str.ofString s) ap) [l, k] [] cp ∧ p o = true ∧ q l = true ∧ r k = true ∧ nCall o = true ∧ (ap.endLine == cp.line) = true ∧ nst l = true ∧ nst k = true := by
  unfold shM2 at h
  split at h
  · simp only [Bool.and_eq_true] at h
    obtain ⟨⟨⟨⟨⟨⟨⟨h1, h2⟩, h3⟩, h4⟩, h5⟩, h6⟩, h7⟩, h8⟩ := h
    exact ⟨_, _, _, _, _, by rw [eq_of_beq h1], h2, h3, h4, h5, h6, h7, h8⟩
  · cases h
theorem shLc_inv {c : Cc} {own : List Nat} {tg : Scope → Ck} {it : Expr → Ck} {cs : Scope → Cks} {e : Scope → Ck} {a : Expr} (h : shLc c own tg it cs e a = true) :
    ∃ x t i l sc pos, a = .ListComp x [⟨t, i, l, 0⟩] sc pos ∧ blkC c.N c.sc sc (ownP c own) = true ∧ nSet i = true ∧ it t i = true ∧ tg sc t = true ∧ cs sc l = true ∧ e sc x = true := by
  unfold shLc at h
  split at h
  · simp only [Bool.and_eq_true, decide_eq_true_eq] at h
    obtain ⟨⟨⟨⟨⟨⟨h1, h2⟩, h3⟩, h4⟩, h5⟩, h6⟩, h7⟩ := h
    exact ⟨_, _, _, _, _, _, by rw [h1], h2, h3, h4, h5, h6, h7⟩
  · cases h
theorem shDc_inv {c : Cc} {own : List Nat} {tg : Scope → Ck} {it : Expr → Ck} {cs : Scope → Cks} {e f : Scope → Ck} {a : Expr} (h : shDc c own tg it cs e f a = true) :
    ∃ x y t i l sc pos, a = .DictComp x y [⟨t, i, l, 0⟩] sc pos ∧ blkC c.N c.sc sc (ownP c own) = true ∧ nSet i = true ∧ it t i = true ∧ tg sc t = true ∧ cs sc l = true ∧ e sc x = true ∧ f sc y = true := by
  unfold shDc at h
  split at h
  · simp only [Bool.and_eq_true, decide_eq_true_eq] at h
    obtain ⟨⟨⟨⟨⟨⟨⟨h1, h2⟩, h3⟩, h4⟩, h5⟩, h6⟩, h7⟩, h8⟩ := h
    exact ⟨_, _, _, _, _, _, _, by rw [h1], h2, h3, h4, h5, h6, h7, h8⟩
  · cases h
end Tp

/-! What is checked holds: expressions. -/
namespace Tp
open PySem PySem.Spec PyProof.Rows L2
/-- a module's scalar as a value -/
def scalV : P → Option V
  | .non => some .non
  | .bl b => some (.bl b)
  | .int i => some (.int i)
  | .str x => some (.str (toS x))
  | _ => none
structure Sd (Γ : Gm) (g : Cg) (cf : CallF) (n : Nat) (c : Cc) (Wx : WX) (X : Cx) : Prop where
  gd : Gd Γ X
  nd : X.N.Nodup
  N : X.N = c.N
  sc : X.env.scope = c.sc
  fn : X.fn = c.fn
  tk : Takes X Wx
  room : Room n X.A
  fs : ∀ i x, g.fs[i]? = some x → FnSp Γ X cf n i x
  gl : ∀ q, q ∈ g.gl → ∃ u v, X.mg q.1 = some u ∧ scalV q.2 = some v ∧ RelV v u
theorem takes0 {X : Cx} : Takes X W0 := fun _ _ ⟨_, _, _, _, _, _, _, _, _, _, _, _, _, _, _, _, w⟩ => w.elim
section
variable {Γ : Gm} {g : Cg} {cf : CallF} {n : Nat} {c : Cc} {Wx : WX} {X : Cx}
theorem Sd.vis (D : Sd Γ g cf n c Wx X) {x : Str} (h : visB c.sc x = true) : Vis X.env.scope x := by
  unfold visB kindB at h
  simp only [Bool.or_eq_true, decide_eq_true_eq] at h
  rw [← D.sc] at h
  rcases h with (h | h) | h
  · exact .inl h
  · exact .inr (.inl h)
  · exact .inr (.inr h)
theorem Sd.glo (D : Sd Γ g cf n c Wx X) {x : Str} (h : glB c.sc x = true) : Gl X x := by
  unfold glB kindB at h
  rw [decide_eq_true_eq, ← D.sc] at h
  exact h
theorem Sd.blk (D : Sd Γ g cf n c Wx X) {scope : Scope} (s : Shared) (H : Hp) (C : Addr) (cl : List (Str × Addr)) (fp : List Addr) : Sd Γ g cf n (c.blk scope) W0 (blkX X scope s H C cl fp) where
  gd := ⟨D.gd.hK, D.gd.calm, D.gd.un, D.gd.blt⟩
  nd := D.nd
  N := D.N
  sc := by
    show relS scope X.env.scope = relS scope c.sc
    rw [D.sc]
  fn := rfl
  tk := takes0
  room := D.room
  fs := fun i x h => ⟨(D.fs i x h).ok, (D.fs i x h).mg, (D.fs i x h).kp⟩
  gl := D.gl
theorem bug_of {x : Str} (h : bugB x = true) : (x == ("__debug__" : Str)) = false := by
  unfold bugB at h
  rwa [Bool.not_eq_true'] at h
theorem OkE.congr {a : Expr} {f f' : Fr → Store → Res W} (o : OkE Γ Wx X a f) (h : ∀ σ S, f' σ S = f σ S) : OkE Γ Wx X a f' := by
  have e : f' = f := funext fun σ => funext fun S => h σ S
  rw [e]; exact o
theorem OkN.congr {a : Expr} {f f' : Fr → Store → Res W} (o : OkN Γ Wx X a f) (h : ∀ σ S, f' σ S = f σ S) : OkN Γ Wx X a f' := by
  have e : f' = f := funext fun σ => funext fun S => h σ S
  rw [e]; exact o
theorem OkT.congr {a : Expr} {f f' : Fr → Store → Res Bool} (o : OkT Γ Wx X a f) (h : ∀ σ S, f' σ S = f σ S) : OkT Γ Wx X a f' := by
  have e : f' = f := funext fun σ => funext fun S => h σ S
  rw [e]; exact o
theorem OkW.congr {a : Expr} {f f' : Fr → Store → Res Bool} (o : OkW (Γ := Γ) (Wx := Wx) (X := X) a f) (h : ∀ σ S, f' σ S = f σ S) : OkW (Γ := Γ) (Wx := Wx) (X := X) a f' := by
  have e : f' = f := funext fun σ => funext fun S => h σ S
  rw [e]; exact o
theorem OkA.congr {a : List Expr} {f f' : Fr → Store → Res (List W)} (o : OkA Γ Wx X a f) (h : ∀ σ S, f' σ S = f σ S) : OkA Γ Wx X a f' := by
  have e : f' = f := funext fun σ => funext fun S => h σ S
  rw [e]; exact o
theorem OkI.congr {t a : Expr} {f f' : Fr → Store → Res Src} (o : OkI Γ Wx X t a f) (h : ∀ σ S, f' σ S = f σ S) : OkI Γ Wx X t a f' := by
  have e : f' = f := funext fun σ => funext fun S => h σ S
  rw [e]; exact o
theorem OkO.congr {a : Option Expr} {f f' : Fr → Store → Res (Option Int)} (o : OkO Γ Wx X a f) (h : ∀ σ S, f' σ S = f σ S) : OkO Γ Wx X a f' := by
  have e : f' = f := funext fun σ => funext fun S => h σ S
  rw [e]; exact o
theorem OkTs.congr {a : List Expr} {f f' : Fr → Store → Res Bool} (o : OkTs Γ Wx X a f) (h : ∀ σ S, f' σ S = f σ S) : OkTs Γ Wx X a f' := by
  have e : f' = f := funext fun σ => funext fun S => h σ S
  rw [e]; exact o
theorem sVar (D : Sd Γ g cf n c Wx X) {i : Nat} {x : Str} {pos : Pos} (h : varB c i x = true) : OkE Γ Wx X (.Name x pos) (fun σ S => match σ[i]? with | some (some w) => .ok w S | _ => .bad) := by
  unfold varB at h
  simp only [Bool.and_eq_true, decide_eq_true_eq] at h
  obtain ⟨⟨⟨h1, h2⟩, h3⟩, h4⟩ := h
  rw [Bool.not_eq_true'] at h4
  exact ok_var (by rw [D.N]; exact h1) (D.vis h2) (bug_of h3) h4
theorem sCst {p : P} {k : Const} {j : Nat} {pos : Pos} (h : cstB p k = true) : OkE Γ Wx X (.Constant k j pos) (fun _ S => .ok (.p p) S) := by
  unfold cstB at h
  split at h
  · have e := eq_of_beq h
    subst e
    exact ok_cst (fun H F u => Iff.rfl) pe_int
  · have e := eq_of_beq h
    subst e
    exact ok_cst (fun H F u => Iff.rfl) pe_str
  · have e := eq_of_beq h
    subst e
    exact ok_cst (fun H F u => Iff.rfl) pe_bl
  · exact ok_cst (fun H F u => Iff.rfl) pe_non
  · cases h
theorem samP_eq {p q : P} (h : samP p q = true) : p = q := by
  unfold samP at h
  split at h
  · rw [eq_of_beq h]
  · rw [nmEq_iff.mp h]
  · rw [eq_of_beq h]
  · rfl
  · cases h
theorem sGlo (D : Sd Γ g cf n c Wx X) {p : P} {x : Str} {pos : Pos} (h1 : glB c.sc x = true) (h2 : gloB g p x = true) (h3 : bugB x = true) : OkE Γ Wx X (.Name x pos) (fun _ S => .ok (.p p) S) := by
  unfold gloB at h2
  obtain ⟨q, hq, e⟩ := List.any_eq_true.mp h2
  rw [Bool.and_eq_true] at e
  obtain ⟨u, v, hm, hv, rv⟩ := D.gl q hq
  have e1 := eq_of_beq e.1
  have e2 := samP_eq e.2
  rw [e1] at hm
  rw [e2] at hv
  refine ok_glob (D.glo h1) hm rv (bug_of h3) fun H F => ?_
  cases p <;> first | (cases hv; rfl) | cases hv
/-! ### targets -/
theorem sSt (D : Sd Γ g cf n c Wx X) {i : Nat} {x : Str} (h : stB c i x = true) : X.N[i]? = some x ∧ L2.Loc X.env.scope x ∧ (X.fn x = true ∨ X.env.scope.names.lookup x = some .local) := by
  unfold stB kindB at h
  simp only [Bool.and_eq_true, Bool.or_eq_true, decide_eq_true_eq] at h
  obtain ⟨⟨h1, h2⟩, h3⟩ := h
  rw [← D.sc] at h2 h3
  rw [← D.fn] at h3
  exact ⟨by rw [D.N]; exact h1, h2, h3⟩
mutual
theorem sG : ∀ (t : Tg) {c : Cc} {Wx : WX} {X : Cx}, Sd Γ g cf n c Wx X → ∀ a, ckG c t a = true → OkG Γ X a (fun w σ => asgT t w σ) (tgSlots t)
  | .name i, c, Wx, X, D, a, h => by
    obtain ⟨x, pos, rfl, h⟩ := shName_inv h
    obtain ⟨h1, h2, h3⟩ := sSt D h
    exact ok_gname D.nd h1 h2 h3
  | .tup ts, c, Wx, X, D, a, h => by
    obtain ⟨l, j, pos, rfl, h, hn⟩ := shTup_inv h
    rw [Bool.and_eq_true, decide_eq_true_eq] at h
    exact ok_gtup D.gd (sGs ts D l h.2) hn h.1
theorem sGs : ∀ (ts : Tgs) {c : Cc} {Wx : WX} {X : Cx}, Sd Γ g cf n c Wx X → ∀ l, ckGs c ts l = true → OkGs Γ X l (fun w σ => asgTs ts w σ) (tgSlots.tgsSlots ts)
  | .nil, c, Wx, X, D, l, h => by
    cases l with
    | nil => exact ok_gsnil
    | cons _ _ => cases h
  | .cons t ts, c, Wx, X, D, l, h => by
    cases l with
    | nil => cases h
    | cons e es =>
      have h : (ckG c t e && ckGs c ts es) = true := h
      rw [Bool.and_eq_true] at h
      have hn : nst e = true := by
        cases t with
        | name i => obtain ⟨x, pos, rfl, _⟩ := shName_inv h.1; rfl
        | tup ts => obtain ⟨l, j, pos, rfl, _⟩ := shTup_inv h.1; rfl
      exact ok_gscons (sG t D e h.1) (sGs ts D es h.2) hn
end
theorem ownP_snd (c : Cc) (own : List Nat) : (ownP c own).map (·.2) = own := by
  unfold ownP
  rw [List.map_map]
  induction own with
  | nil => rfl
  | cons i r ih => rw [List.map_cons, ih]; rfl
theorem tup_of {t : Expr} (h : isTupE t = true) : ∃ l k pos, t = .Tuple l k pos := by
  cases t <;> first | exact ⟨_, _, _, rfl⟩ | cases h
theorem set_of {i : Expr} (h : nSet i = true) (env : Env) (x : Value) : foldedSetIterable i env x = pure x := by
  cases i <;> first | rfl | cases h
theorem f1_plain {f : F1} (h1 : f ≠ .lenset) (h2 : f ≠ .sortset) {c : Cc} {g : Cg} {x : Ex} : ckE g c (.f1 f x) = shF1 c (f1S f) (ckE g c x) := by
  cases f <;> first | rfl | exact absurd rfl h1 | exact absurd rfl h2
theorem f1_plainT {f : F1} (h1 : f ≠ .lenset) (h2 : f ≠ .sortset) {c : Cc} {g : Cg} {x : Ex} : ckT g c (.f1 f x) = shF1 c (f1S f) (ckE g c x) := by
  cases f <;> first | rfl | exact absurd rfl h1 | exact absurd rfl h2
theorem bind_truth {f : Fr → Store → Res W} {h : W → Store → Option W} {k : W → Store → Option Bool} (hk : ∀ w S, (h w S).bind (fun v => truW S v) = k w S) (σ : Fr) (S : Store) :
    ((f σ S).bind fun x S1 => rOpt (k x S1) S1) = (((f σ S).bind fun x S1 => rOpt (h x S1) S1).bind fun w S1 => rOpt (truW S1 w) S1) := by
  cases f σ S with
  | ok w S1 =>
    show rOpt (k w S1) S1 = (rOpt (h w S1) S1).bind _
    rw [← hk]
    cases h w S1 with
    | none => rfl
    | some v => rfl
  | ex _ _ _ => rfl
  | bad => rfl
end
end Tp

/-! What is checked holds: expressions, all together. -/
namespace Tp
open PySem PySem.Spec PyProof.Rows L2
variable {Γ : Gm} {g : Cg} {cf : CallF} {n : Nat}
theorem isi_truth (cf : CallF) (x : Ex) (T : Ty) (σ : Fr) (S : Store) : dT cf (.isi x T) σ S = ((dE cf (.isi x T) σ S).bind fun w S1 => rOpt (truW S1 w) S1) := by
  rw [dT, dE]
  refine bind_truth (f := fun σ S => dE cf x σ S) (h := fun x S1 => (isiW S1 x T).map fun r => .p (.bl r)) (k := fun x S1 => isiW S1 x T) (fun w S => ?_) σ S
  cases isiW S w T <;> rfl
theorem f1_truth (cf : CallF) (f : F1) (x : Ex) (σ : Fr) (S : Store) : dT cf (.f1 f x) σ S = ((dE cf (.f1 f x) σ S).bind fun w S1 => rOpt (truW S1 w) S1) := by
  rw [dT, dE]
  refine bind_truth (f := fun σ S => dE cf x σ S) (h := fun x S1 => (f1W f S1 x).map .p) (k := fun x S1 => (f1W f S1 x).bind fun p => truW S1 (.p p)) (fun w S => ?_) σ S
  cases f1W f S w <;> rfl
theorem ix_truth (cf : CallF) (x y : Ex) (σ : Fr) (S : Store) : dT cf (.ix x y) σ S = ((dE cf (.ix x y) σ S).bind fun w S1 => rOpt (truW S1 w) S1) := by
  rw [dT, dE]
  cases dE cf x σ S with
  | ok w S1 =>
    show (dE cf y σ S1).bind _ = ((dE cf y σ S1).bind _).bind _
    refine bind_truth (f := fun σ S => dE cf y σ S1) (h := fun y S2 => (ixW S2 w y).map .p) (k := fun y S2 => (ixW S2 w y).bind fun p => truW S2 (.p p)) (fun w2 S => ?_) σ S1
    cases ixW S w w2 <;> rfl
  | ex _ _ _ => rfl
  | bad => rfl
theorem call_truth (cf : CallF) (f : Nat) (es : Exs) (σ : Fr) (S : Store) : dT cf (.call f es) σ S = ((dE cf (.call f es) σ S).bind fun w S1 => rOpt (truW S1 w) S1) := by
  rw [dT, dE]
  cases dEs cf es σ S with
  | ok w S1 => rfl
  | ex _ _ _ => rfl
  | bad => rfl
theorem var_truth (cf : CallF) (i : Nat) (σ : Fr) (S : Store) : dT cf (.var i) σ S = ((dE cf (.var i) σ S).bind fun w S1 => rOpt (truW S1 w) S1) := by
  rw [dT, dE]
  split <;> rfl
theorem both {Wx : WX} {X : Cx} {a : Expr} {f : Fr → Store → Res W} {p : Bool} (h : OkN Γ Wx X a f) : OkE Γ Wx X a f ∧ (p = true → OkN Γ Wx X a f) := ⟨h.e, fun _ => h⟩
theorem one_ {Wx : WX} {X : Cx} {a : Expr} {f : Fr → Store → Res W} (h : OkE Γ Wx X a f) : OkE Γ Wx X a f ∧ (false = true → OkN Γ Wx X a f) := ⟨h, fun z => nomatch z⟩
mutual
theorem sE : ∀ (e : Ex) {c : Cc} {Wx : WX} {X : Cx}, Sd Γ g cf n c Wx X → ∀ a, ckE g c e a = true → OkE Γ Wx X a (fun σ S => dE cf e σ S) ∧ (isN e = true → OkN Γ Wx X a (fun σ S => dE cf e σ S))
  | .var i, c, Wx, X, D, a, h => by
    obtain ⟨x, pos, rfl, h⟩ := shName_inv (show shName (varB c i) a = true from h)
    exact one_ ((sVar D h).congr fun σ S => by first | rfl | (rw [dE]; try rfl))
  | .cst p, c, Wx, X, D, a, h => by
    obtain ⟨k, j, pos, rfl, h⟩ := shConst_inv (show shConst (cstB p) a = true from h)
    exact one_ ((sCst h).congr fun σ S => by first | rfl | (rw [dE]; try rfl))
  | .glob p, c, Wx, X, D, a, h => by
    obtain ⟨x, pos, rfl, h⟩ := shName_inv (show shName (fun x => glB c.sc x && gloB g p x && bugB x) a = true from h)
    have h : (glB c.sc x && gloB g p x && bugB x) = true := h
    simp only [Bool.and_eq_true] at h
    exact one_ ((sGlo D h.1.1 h.1.2 h.2).congr fun σ S => by first | rfl | (rw [dE]; try rfl))
  | .fnv _, c, Wx, X, D, a, h => nomatch h
  | .tup es, c, Wx, X, D, a, h => by
    obtain ⟨l, j, pos, rfl, h, hn⟩ := shTup_inv (show shTup (ckEs g c es) a = true from h)
    exact one_ ((ok_tup (sEs es D l h)).congr fun σ S => by first | rfl | (rw [dE]; try rfl))
  | .lst es, c, Wx, X, D, a, h => by
    obtain ⟨l, pos, rfl, h, hn⟩ := shLst_inv (show shLst (ckEs g c es) a = true from h)
    exact both ((ok_lst (sEs es D l h)).congr fun σ S => by first | rfl | (rw [dE]; try rfl))
  | .dnew, c, Wx, X, D, a, h => by
    obtain ⟨pos, rfl⟩ := shDnew_inv (show shDnew a = true from h)
    exact both (ok_dnew.congr fun σ S => by first | rfl | (rw [dE]; try rfl))
  | .new e, c, Wx, X, D, a, h => by
    have h : (isN e && ckE g c e a) = true := h
    rw [Bool.and_eq_true] at h
    exact one_ ((ok_new ((sE e D a h.2).2 h.1)).congr fun σ S => by first | rfl | (rw [dE]; try rfl))
  | .bin op x y, c, Wx, X, D, a, h => by
    obtain ⟨l, r, pos, rfl, h1, h2⟩ := shBin_inv (show shBin op (ckE g c x) (ckE g c y) a = true from h)
    exact both ((ok_bin D.gd.hK op (sE x D l h1).1 (sE y D r h2).1).congr fun σ S => by first | rfl | (rw [dE]; try rfl))
  | .neg x, c, Wx, X, D, a, h => by
    obtain ⟨l, pos, rfl, h1⟩ := shUn_inv (show shUn .USub (ckE g c x) a = true from h)
    exact one_ ((ok_neg (sE x D l h1).1).congr fun σ S => by first | rfl | (rw [dE]; try rfl))
  | .cmp op x y, c, Wx, X, D, a, h => by
    obtain ⟨l, r, pos, rfl, h1, h2, h3⟩ := shCmp_inv (show shCmp op (ckE g c x) (ckE g c y) a = true from h)
    exact one_ ((ok_cmp D.gd.hK D.gd.un op (sE x D l h1).1 (sE y D r h2).1 h3).congr fun σ S => by first | rfl | (rw [dE]; try rfl))
  | .cmp2 op op2 x y z, c, Wx, X, D, a, h => by
    obtain ⟨l, m, r, pos, rfl, h1, h2, h3, h4⟩ := shCmp2_inv (show shCmp2 op op2 (ckE g c x) (ckE g c y) (ckE g c z) a = true from h)
    exact one_ ((ok_cmp2 D.gd.hK D.gd.un op op2 (sE x D l h1).1 (sE y D m h2).1 (sE z D r h3).1 h4).congr fun σ S => by first | rfl | (rw [dE]; try rfl))
  | .and es, c, Wx, X, D, a, h => by
    obtain ⟨l, pos, rfl, h⟩ := shBool_inv (show shBool .And (ckEs g c es) a = true from h)
    exact one_ ((sAnd es D l pos h).congr fun σ S => by first | rfl | (rw [dE]; try rfl))
  | .or es, c, Wx, X, D, a, h => by
    obtain ⟨l, pos, rfl, h⟩ := shBool_inv (show shBool .Or (ckEs g c es) a = true from h)
    exact one_ ((sOr es D l pos h).congr fun σ S => by first | rfl | (rw [dE]; try rfl))
  | .not x, c, Wx, X, D, a, h => by
    obtain ⟨l, pos, rfl, h1⟩ := shUn_inv (show shUn .Not (ckE g c x) a = true from h)
    exact one_ ((ok_notV D.gd.hK (sE x D l h1).1).congr fun σ S => by first | rfl | (rw [dE]; try rfl))
  | .ite t x y, c, Wx, X, D, a, h => by
    obtain ⟨q, l, r, pos, rfl, h1, h2, h3⟩ := shIte_inv (show shIte (ckT g c t) (ckE g c x) (ckE g c y) a = true from h)
    exact one_ ((ok_ite (sT t D q h1) (sE x D l h2).1 (sE y D r h3).1).congr fun σ S => by first | rfl | (rw [dE]; try rfl))
  | .ix x y, c, Wx, X, D, a, h => by
    obtain ⟨l, s, pos, rfl, h1, h2, h3⟩ := shIx_inv (show shIx (ckE g c x) (ckE g c y) a = true from h)
    exact one_ ((ok_ix D.gd (sE x D l h1).1 (sE y D s h2).1 (plain_of h3)).congr fun σ S => by first | rfl | (rw [dE]; try rfl))
  | .sl x lo hi, c, Wx, X, D, a, h => by
    obtain ⟨l, p, q, p2, pos, rfl, h1, h2, h3⟩ := shSl_inv (show shSl (ckE g c x) (ckO g c lo) (ckO g c hi) a = true from h)
    exact both ((ok_sl D.gd (sE x D l h1).1 (sO lo D p h2) (sO hi D q h3)).congr fun σ S => by first | rfl | (rw [dE]; try rfl))
  | .rev x, c, Wx, X, D, a, h => by
    obtain ⟨l, k, p1, p2, p3, pos, rfl, h1⟩ := shRev_inv (show shRev (ckE g c x) a = true from h)
    exact both ((ok_rev (sE x D l h1).1).congr fun σ S => by first | rfl | (rw [dE]; try rfl))
  | .call f es, c, Wx, X, D, a, h => by
    obtain ⟨x, q, e, l, pos, rfl, h1, h2, h3, h4, h5⟩ := shCall_inv (show shCall g c f (ckEs g c es) a = true from h)
    exact one_ ((ok_call D.tk (D.fs f x h1) D.room (D.glo h2) (bug_of h3) h5 (sEs es D _ h4)).congr fun σ S => by first | rfl | (rw [dE]; try rfl))
  | .ncall f es, c, Wx, X, D, a, h => by
    obtain ⟨x, q, e, l, pos, rfl, h1, h2, h3, h4, h5⟩ := shCall_inv (show shCall g c f (ckEs g c es) a = true from h)
    exact one_ ((ok_ncall D.tk (D.fs f x h1) D.room (D.glo h2) (bug_of h3) h5 (sEs es D _ h4)).congr fun σ S => by first | rfl | (rw [dE]; try rfl))
  | .callv _ _, c, Wx, X, D, a, h => nomatch h
  | .f1 f x, c, Wx, X, D, a, h => by
    by_cases e1 : f = .lenset
    · subst e1; cases h
    · by_cases e2 : f = .sortset
      · subst e2
        obtain ⟨q, l, pos, rfl, h1, h2, h3⟩ := shF1_inv (show shF1 c "sorted" (shF1 c "set" (ckE g c x)) a = true from h)
        obtain ⟨q2, l2, pos2, rfl, h4, h5, h6⟩ := shF1_inv h2
        exact both ((ok_sortset D.gd (sE x D l2 h5).1 (D.glo h1) (D.glo h4) h6).congr fun σ S => by first | rfl | (rw [dE]; try rfl))
      · rw [f1_plain e1 e2] at h
        obtain ⟨q, l, pos, rfl, h1, h2, h3⟩ := shF1_inv h
        exact both ((ok_f1 D.gd f e1 e2 (sE x D l h2).1 (D.glo h1) h3).congr fun σ S => by first | rfl | (rw [dE]; try rfl))
  | .mn2 x y, c, Wx, X, D, a, h => by
    obtain ⟨q, l, r, pos, rfl, h1, h2, h3, h4, h5⟩ := shF2_inv (show shF2 c "min" (ckE g c x) (ckE g c y) a = true from h)
    exact one_ ((ok_mn2 D.gd (sE x D l h2).1 (sE y D r h3).1 (D.glo h1) h4 h5).congr fun σ S => by first | rfl | (rw [dE]; try rfl))
  | .mx2 x y, c, Wx, X, D, a, h => by
    obtain ⟨q, l, r, pos, rfl, h1, h2, h3, h4, h5⟩ := shF2_inv (show shF2 c "max" (ckE g c x) (ckE g c y) a = true from h)
    exact one_ ((ok_mx2 D.gd (sE x D l h2).1 (sE y D r h3).1 (D.glo h1) h4 h5).congr fun σ S => by first | rfl | (rw [dE]; try rfl))
  | .isi x T, c, Wx, X, D, a, h => by
    obtain ⟨q, l, q2, pos, rfl, h1, h2, h3, h4⟩ := shIsi_inv (show shIsi c T (ckE g c x) a = true from h)
    exact one_ ((ok_isi D.gd (sE x D l h3).1 (D.glo h1) (D.glo h2) h4).congr fun σ S => by first | rfl | (rw [dE]; try rfl))
  | .rg1 t x, c, Wx, X, D, a, h => by
    obtain ⟨q, l, pos, rfl, h1, h2, h3⟩ := shF1_inv (show shF1 c (rgS t) (shF1 c "range" (ckE g c x)) a = true from h)
    obtain ⟨q2, l2, pos2, rfl, h4, h5, h6⟩ := shF1_inv h2
    exact both ((ok_rg1 D.gd (sE x D l2 h5).1 (D.glo h1) (D.glo h4) h6).congr fun σ S => by first | rfl | (rw [dE]; try rfl))
  | .rg2 t x y, c, Wx, X, D, a, h => by
    obtain ⟨q, l, pos, rfl, h1, h2, h3⟩ := shF1_inv (show shF1 c (rgS t) (shF2 c "range" (ckE g c x) (ckE g c y)) a = true from h)
    obtain ⟨q2, l2, r2, pos2, rfl, h4, h5, h6, h7, h8⟩ := shF2_inv h2
    exact both ((ok_rg2 D.gd (sE x D l2 h5).1 (sE y D r2 h6).1 (D.glo h1) (D.glo h4) h7 h8).congr fun σ S => by first | rfl | (rw [dE]; try rfl))
  | .get1 x y, c, Wx, X, D, a, h => by
    obtain ⟨o, ap, l, cp, rfl, h1, h2, h3, h4, h5⟩ := shM1_inv (show shM1 "get" (ckE g c x) (ckE g c y) a = true from h)
    exact one_ ((ok_get1 D.gd (sE x D o h1).1 (sE y D l h2).1 h3 h4 h5).congr fun σ S => by first | rfl | (rw [dE]; try rfl))
  | .get2 x y z, c, Wx, X, D, a, h => by
    obtain ⟨o, ap, l, k, cp, rfl, h1, h2, h3, h4, h5, h6, h7⟩ := shM2_inv (show shM2 "get" (ckE g c x) (ckE g c y) (ckE g c z) a = true from h)
    exact one_ ((ok_get2 D.gd (sE x D o h1).1 (sE y D l h2).1 (sE z D k h3).1 h4 h5 h6 h7).congr fun σ S => by first | rfl | (rw [dE]; try rfl))
  | .index x y, c, Wx, X, D, a, h => by
    obtain ⟨o, ap, l, cp, rfl, h1, h2, h3, h4, h5⟩ := shM1_inv (show shM1 "index" (ckE g c x) (ckE g c y) a = true from h)
    exact one_ ((ok_index D.gd (sE x D o h1).1 (sE y D l h2).1 h3 h4 h5).congr fun σ S => by first | rfl | (rw [dE]; try rfl))
  | .app x y, c, Wx, X, D, a, h => by
    obtain ⟨o, ap, l, cp, rfl, h1, h2, h3, h4, h5⟩ := shM1_inv (show shM1 "append" (ckE g c x) (ckE g c y) a = true from h)
    exact one_ ((ok_app D.gd (sE x D o h1).1 (sE y D l h2).1 h3 h4 h5).congr fun σ S => by first | rfl | (rw [dE]; try rfl))
  | .lc e tg it ifs own, c, Wx, X, D, a, h => by
    obtain ⟨x, t, i, l, sc, pos, rfl, h1, h2, h3, h4, h5, h6⟩ := shLc_inv (show shLc c own (fun sc t => (tgSlots tg).all (fun j => own.contains j) && ckG (c.blk sc) tg t) (ckI g c it) (fun sc => ckCs g (c.blk sc) ifs) (fun sc => ckE g (c.blk sc) e) a = true from h)
    rw [Bool.and_eq_true] at h4
    refine both ((ok_lc (own := ownP c own) D.gd D.nd (by rw [D.N, D.sc]; exact blkOk_by h1) (set_of h2 _) (sI it D t i h3) (fun j hj => ?_) (fun s H C cl fp => sG tg (D.blk s H C cl fp) t h4.2) (fun s H C cl fp => sCs ifs (D.blk s H C cl fp) l h5) (fun s H C cl fp => (sE e (D.blk s H C cl fp) x h6).1)).congr fun σ S => by rw [dE, ownP_snd])
    rw [ownP_snd]
    simpa using List.all_eq_true.mp h4.1 j hj
  | .dc k v tg it ifs own, c, Wx, X, D, a, h => by
    obtain ⟨x, y, t, i, l, sc, pos, rfl, h1, h2, h3, h4, h5, h6, h7⟩ := shDc_inv (show shDc c own (fun sc t => (tgSlots tg).all (fun j => own.contains j) && ckG (c.blk sc) tg t) (ckI g c it) (fun sc => ckCs g (c.blk sc) ifs) (fun sc => ckE g (c.blk sc) k) (fun sc => ckE g (c.blk sc) v) a = true from h)
    rw [Bool.and_eq_true] at h4
    refine both ((ok_dc (own := ownP c own) D.gd D.nd (by rw [D.N, D.sc]; exact blkOk_by h1) (set_of h2 _) (sI it D t i h3) (fun j hj => ?_) (fun s H C cl fp => sG tg (D.blk s H C cl fp) t h4.2) (fun s H C cl fp => sCs ifs (D.blk s H C cl fp) l h5) (fun s H C cl fp => (sE k (D.blk s H C cl fp) x h6).1) (fun s H C cl fp => (sE v (D.blk s H C cl fp) y h7).1)).congr fun σ S => by rw [dE, ownP_snd])
    rw [ownP_snd]
    simpa using List.all_eq_true.mp h4.1 j hj
theorem sT : ∀ (e : Ex) {c : Cc} {Wx : WX} {X : Cx}, Sd Γ g cf n c Wx X → ∀ a, ckT g c e a = true → OkT Γ Wx X a (fun σ S => dT cf e σ S)
  | .not x, c, Wx, X, D, a, h => by
    obtain ⟨l, pos, rfl, h1⟩ := shUn_inv (show shUn .Not (ckT g c x) a = true from h)
    exact (ok_notT (sT x D l h1)).congr fun σ S => by first | rfl | (rw [dT]; try rfl)
  | .and es, c, Wx, X, D, a, h => by
    obtain ⟨l, pos, rfl, h⟩ := shBool_inv (show shBool .And (ckTs g c es) a = true from h)
    exact ((sTAnd es D l pos h).congr fun σ S => by first | rfl | (rw [dT]; try rfl)).t
  | .or es, c, Wx, X, D, a, h => by
    obtain ⟨l, pos, rfl, h⟩ := shBool_inv (show shBool .Or (ckTs g c es) a = true from h)
    exact ((sTOr es D l pos h).congr fun σ S => by first | rfl | (rw [dT]; try rfl)).t
  | .cmp op x y, c, Wx, X, D, a, h => by
    obtain ⟨l, r, pos, rfl, h1, h2, h3⟩ := shCmp_inv (show shCmp op (ckE g c x) (ckE g c y) a = true from h)
    exact (ok_cmpT D.gd.hK D.gd.un op (sE x D l h1).1 (sE y D r h2).1 h3).congr fun σ S => by first | rfl | (rw [dT]; try rfl)
  | .cmp2 op op2 x y z, c, Wx, X, D, a, h => by
    obtain ⟨l, m, r, pos, rfl, h1, h2, h3, h4⟩ := shCmp2_inv (show shCmp2 op op2 (ckE g c x) (ckE g c y) (ckE g c z) a = true from h)
    exact (ok_cmp2T D.gd.hK D.gd.un op op2 (sE x D l h1).1 (sE y D m h2).1 (sE z D r h3).1 h4).congr fun σ S => by first | rfl | (rw [dT]; try rfl)
  | .var i, c, Wx, X, D, a, h => by
    obtain ⟨x, pos, rfl, h⟩ := shName_inv (show shName (varB c i) a = true from h)
    exact (ok_truth D.gd.hK ((sVar D h).congr (f' := fun σ S => dE cf (.var i) σ S) fun σ S => by first | rfl | (rw [dE]; try rfl)) (fun _ => rfl)).congr fun σ S => var_truth cf i σ S
  | .ix x y, c, Wx, X, D, a, h => by
    obtain ⟨l, s, pos, rfl, h1, h2, h3⟩ := shIx_inv (show shIx (ckE g c x) (ckE g c y) a = true from h)
    exact (ok_truth D.gd.hK ((ok_ix D.gd (sE x D l h1).1 (sE y D s h2).1 (plain_of h3)).congr (f' := fun σ S => dE cf (.ix x y) σ S) fun σ S => by first | rfl | (rw [dE]; try rfl)) (fun _ => rfl)).congr fun σ S => ix_truth cf x y σ S
  | .call f es, c, Wx, X, D, a, h => by
    obtain ⟨x, q, e, l, pos, rfl, h1, h2, h3, h4, h5⟩ := shCall_inv (show shCall g c f (ckEs g c es) a = true from h)
    exact (ok_truth D.gd.hK ((ok_call D.tk (D.fs f x h1) D.room (D.glo h2) (bug_of h3) h5 (sEs es D _ h4)).congr (f' := fun σ S => dE cf (.call f es) σ S) fun σ S => by first | rfl | (rw [dE]; try rfl)) (fun _ => rfl)).congr fun σ S => call_truth cf f es σ S
  | .f1 f x, c, Wx, X, D, a, h => by
    by_cases e1 : f = .lenset
    · subst e1; cases h
    · by_cases e2 : f = .sortset
      · subst e2; cases h
      · rw [f1_plainT e1 e2] at h
        obtain ⟨q, l, pos, rfl, h1, h2, h3⟩ := shF1_inv h
        exact (ok_truth D.gd.hK ((ok_f1 D.gd f e1 e2 (sE x D l h2).1 (D.glo h1) h3).e.congr (f' := fun σ S => dE cf (.f1 f x) σ S) fun σ S => by first | rfl | (rw [dE]; try rfl)) (fun _ => rfl)).congr fun σ S => f1_truth cf f x σ S
  | .isi x T, c, Wx, X, D, a, h => by
    obtain ⟨q, l, q2, pos, rfl, h1, h2, h3, h4⟩ := shIsi_inv (show shIsi c T (ckE g c x) a = true from h)
    exact (ok_truth D.gd.hK ((ok_isi D.gd (sE x D l h3).1 (D.glo h1) (D.glo h2) h4).congr (f' := fun σ S => dE cf (.isi x T) σ S) fun σ S => by first | rfl | (rw [dE]; try rfl)) (fun _ => rfl)).congr fun σ S => isi_truth cf x T σ S
  | .cst _, c, Wx, X, D, a, h => nomatch h
  | .glob _, c, Wx, X, D, a, h => nomatch h
  | .fnv _, c, Wx, X, D, a, h => nomatch h
  | .tup _, c, Wx, X, D, a, h => nomatch h
  | .lst _, c, Wx, X, D, a, h => nomatch h
  | .dnew, c, Wx, X, D, a, h => nomatch h
  | .new _, c, Wx, X, D, a, h => nomatch h
  | .bin _ _ _, c, Wx, X, D, a, h => nomatch h
  | .neg _, c, Wx, X, D, a, h => nomatch h
  | .ite _ _ _, c, Wx, X, D, a, h => nomatch h
  | .sl _ _ _, c, Wx, X, D, a, h => nomatch h
  | .rev _, c, Wx, X, D, a, h => nomatch h
  | .ncall _ _, c, Wx, X, D, a, h => nomatch h
  | .callv _ _, c, Wx, X, D, a, h => nomatch h
  | .mn2 _ _, c, Wx, X, D, a, h => nomatch h
  | .mx2 _ _, c, Wx, X, D, a, h => nomatch h
  | .rg1 _ _, c, Wx, X, D, a, h => nomatch h
  | .rg2 _ _ _, c, Wx, X, D, a, h => nomatch h
  | .get1 _ _, c, Wx, X, D, a, h => nomatch h
  | .get2 _ _ _, c, Wx, X, D, a, h => nomatch h
  | .index _ _, c, Wx, X, D, a, h => nomatch h
  | .app _ _, c, Wx, X, D, a, h => nomatch h
  | .lc _ _ _ _ _, c, Wx, X, D, a, h => nomatch h
  | .dc _ _ _ _ _ _, c, Wx, X, D, a, h => nomatch h
theorem sEs : ∀ (es : Exs) {c : Cc} {Wx : WX} {X : Cx}, Sd Γ g cf n c Wx X → ∀ l, ckEs g c es l = true → OkA Γ Wx X l (fun σ S => dEs cf es σ S)
  | .nil, c, Wx, X, D, l, h => by
    cases l with
    | nil => exact ok_nil.congr fun σ S => by first | rfl | (rw [dEs]; try rfl)
    | cons _ _ => cases h
  | .cons e es, c, Wx, X, D, l, h => by
    cases l with
    | nil => cases h
    | cons a as =>
      have h : (ckE g c e a && ckEs g c es as && nst a) = true := h
      simp only [Bool.and_eq_true] at h
      exact (ok_cons (sE e D a h.1.1).1 (sEs es D as h.1.2) (nst_each h.2)).congr fun σ S => by first | rfl | (rw [dEs]; try rfl)
theorem sAnd : ∀ (es : Exs) {c : Cc} {Wx : WX} {X : Cx}, Sd Γ g cf n c Wx X → ∀ l pos, ckEs g c es l = true → OkE Γ Wx X (.BoolOp .And l pos) (fun σ S => dAnd cf es σ S)
  | .nil, c, Wx, X, D, l, pos, h => fun ψ α σw S σ H Q hf hs hp => (show False from hp).elim
  | .cons e .nil, c, Wx, X, D, l, pos, h => by
    match l, h with
    | [a], h =>
      have h : (ckE g c e a && true && nst a) = true := h
      simp only [Bool.and_eq_true] at h
      exact (ok_one (sE e D a h.1.1).1).congr fun σ S => by first | rfl | (rw [dAnd]; try rfl) | (rw [dAnd.eq_def]; try rfl)
    | _ :: _ :: _, h =>
      have h : (_ && false && _) = true := h
      simp at h
  | .cons e (.cons e2 es), c, Wx, X, D, l, pos, h => by
    match l, h with
    | [a], h =>
      have h : (_ && false && _) = true := h
      simp at h
    | a :: b :: r, h =>
      have h : (ckE g c e a && ckEs g c (.cons e2 es) (b :: r) && nst a) = true := h
      simp only [Bool.and_eq_true] at h
      exact (ok_and (sE e D a h.1.1).1 (sAnd (.cons e2 es) D (b :: r) pos h.1.2)).congr fun σ S => by first | rfl | (rw [dAnd]; try rfl) | (rw [dAnd.eq_def]; try rfl)
theorem sOr : ∀ (es : Exs) {c : Cc} {Wx : WX} {X : Cx}, Sd Γ g cf n c Wx X → ∀ l pos, ckEs g c es l = true → OkE Γ Wx X (.BoolOp .Or l pos) (fun σ S => dOr cf es σ S)
  | .nil, c, Wx, X, D, l, pos, h => fun ψ α σw S σ H Q hf hs hp => (show False from hp).elim
  | .cons e .nil, c, Wx, X, D, l, pos, h => by
    match l, h with
    | [a], h =>
      have h : (ckE g c e a && true && nst a) = true := h
      simp only [Bool.and_eq_true] at h
      exact (ok_one (sE e D a h.1.1).1).congr fun σ S => by first | rfl | (rw [dOr]; try rfl) | (rw [dOr.eq_def]; try rfl)
    | _ :: _ :: _, h =>
      have h : (_ && false && _) = true := h
      simp at h
  | .cons e (.cons e2 es), c, Wx, X, D, l, pos, h => by
    match l, h with
    | [a], h =>
      have h : (_ && false && _) = true := h
      simp at h
    | a :: b :: r, h =>
      have h : (ckE g c e a && ckEs g c (.cons e2 es) (b :: r) && nst a) = true := h
      simp only [Bool.and_eq_true] at h
      exact (ok_or (sE e D a h.1.1).1 (sOr (.cons e2 es) D (b :: r) pos h.1.2)).congr fun σ S => by first | rfl | (rw [dOr]; try rfl) | (rw [dOr.eq_def]; try rfl)
theorem sTAnd : ∀ (es : Exs) {c : Cc} {Wx : WX} {X : Cx}, Sd Γ g cf n c Wx X → ∀ l pos, ckTs g c es l = true → OkW (Γ := Γ) (Wx := Wx) (X := X) (.BoolOp .And l pos) (fun σ S => dTAnd cf es σ S)
  | .nil, c, Wx, X, D, l, pos, h => fun wh ψ α σw S σ H Q hf hs hp => (show False from hp).elim
  | .cons e .nil, c, Wx, X, D, l, pos, h => by
    match l, h with
    | [a], h =>
      have h : (ckT g c e a && true) = true := h
      simp only [Bool.and_eq_true] at h
      exact (ok_and1T (sT e D a h.1)).congr fun σ S => by first | rfl | (rw [dTAnd]; try rfl) | (rw [dTAnd.eq_def]; try rfl)
    | _ :: _ :: _, h =>
      have h : (_ && false) = true := h
      simp at h
  | .cons e (.cons e2 es), c, Wx, X, D, l, pos, h => by
    match l, h with
    | [a], h =>
      have h : (_ && false) = true := h
      simp at h
    | a :: b :: r, h =>
      have h : (ckT g c e a && ckTs g c (.cons e2 es) (b :: r)) = true := h
      simp only [Bool.and_eq_true] at h
      exact (ok_andT (sT e D a h.1) (sTAnd (.cons e2 es) D (b :: r) pos h.2)).congr fun σ S => by first | rfl | (rw [dTAnd]; try rfl) | (rw [dTAnd.eq_def]; try rfl)
theorem sTOr : ∀ (es : Exs) {c : Cc} {Wx : WX} {X : Cx}, Sd Γ g cf n c Wx X → ∀ l pos, ckTs g c es l = true → OkW (Γ := Γ) (Wx := Wx) (X := X) (.BoolOp .Or l pos) (fun σ S => dTOr cf es σ S)
  | .nil, c, Wx, X, D, l, pos, h => fun wh ψ α σw S σ H Q hf hs hp => (show False from hp).elim
  | .cons e .nil, c, Wx, X, D, l, pos, h => by
    match l, h with
    | [a], h =>
      have h : (ckT g c e a && true) = true := h
      simp only [Bool.and_eq_true] at h
      exact (ok_or1T (sT e D a h.1)).congr fun σ S => by first | rfl | (rw [dTOr]; try rfl) | (rw [dTOr.eq_def]; try rfl)
    | _ :: _ :: _, h =>
      have h : (_ && false) = true := h
      simp at h
  | .cons e (.cons e2 es), c, Wx, X, D, l, pos, h => by
    match l, h with
    | [a], h =>
      have h : (_ && false) = true := h
      simp at h
    | a :: b :: r, h =>
      have h : (ckT g c e a && ckTs g c (.cons e2 es) (b :: r)) = true := h
      simp only [Bool.and_eq_true] at h
      exact (ok_orT (sT e D a h.1) (sTOr (.cons e2 es) D (b :: r) pos h.2)).congr fun σ S => by first | rfl | (rw [dTOr]; try rfl) | (rw [dTOr.eq_def]; try rfl)
theorem sCs : ∀ (es : Exs) {c : Cc} {Wx : WX} {X : Cx}, Sd Γ g cf n c Wx X → ∀ l, ckCs g c es l = true → OkTs Γ Wx X l (fun σ S => dConds cf es σ S)
  | .nil, c, Wx, X, D, l, h => by
    cases l with
    | nil => exact ok_tsnil.congr fun σ S => by first | rfl | (rw [dConds]; try rfl)
    | cons _ _ => cases h
  | .cons e .nil, c, Wx, X, D, l, h => by
    match l, h with
    | [a], h => exact (ok_tsone (sT e D a h)).congr fun σ S => by first | rfl | (rw [dConds]; try rfl)
    | [], h => cases h
    | _ :: _ :: _, h => cases h
  | .cons e (.cons _ _), c, Wx, X, D, l, h => by
    match l, h with
    | [a], h => cases h
    | [], h => cases h
    | _ :: _ :: _, h => cases h
theorem sO : ∀ (e : Exo) {c : Cc} {Wx : WX} {X : Cx}, Sd Γ g cf n c Wx X → ∀ a, ckO g c e a = true → OkO Γ Wx X a (fun σ S => dEo cf e σ S)
  | .none, c, Wx, X, D, a, h => by
    cases a with
    | none => exact ok_onone.congr fun σ S => by first | rfl | (rw [dEo]; try rfl)
    | some _ => cases h
  | .some e, c, Wx, X, D, a, h => by
    cases a with
    | none => cases h
    | some a => exact (ok_osome (sE e D a h).1).congr fun σ S => by first | rfl | (rw [dEo]; try rfl)
theorem sI : ∀ (i : Itr) {c : Cc} {Wx : WX} {X : Cx}, Sd Γ g cf n c Wx X → ∀ t a, ckI g c i t a = true → OkI Γ Wx X t a (fun σ S => dI cf i σ S)
  | .of e, c, Wx, X, D, t, a, h => (ok_of D.gd (sE e D a h).1).congr fun σ S => by first | rfl | (rw [dI]; try rfl)
  | .range1 x, c, Wx, X, D, t, a, h => by
    obtain ⟨q, l, pos, rfl, h1, h2, h3⟩ := shF1_inv (show shF1 c "range" (ckE g c x) a = true from h)
    exact (ok_range1 D.gd (sE x D l h2).1 (D.glo h1) h3).congr fun σ S => by first | rfl | (rw [dI]; try rfl)
  | .range2 x y, c, Wx, X, D, t, a, h => by
    obtain ⟨q, l, r, pos, rfl, h1, h2, h3, h4, h5⟩ := shF2_inv (show shF2 c "range" (ckE g c x) (ckE g c y) a = true from h)
    exact (ok_range2 D.gd (sE x D l h2).1 (sE y D r h3).1 (D.glo h1) h4 h5).congr fun σ S => by first | rfl | (rw [dI]; try rfl)
  | .enm x, c, Wx, X, D, t, a, h => by
    have h : (isTupE t && shF1 c "enumerate" (ckE g c x) a) = true := h
    rw [Bool.and_eq_true] at h
    obtain ⟨el, kk, tp, rfl⟩ := tup_of h.1
    obtain ⟨q, l, pos, rfl, h1, h2, h3⟩ := shF1_inv h.2
    exact (ok_enm D.gd (sE x D l h2).1 (D.glo h1) h3).congr fun σ S => by first | rfl | (rw [dI]; try rfl)
  | .zip x y, c, Wx, X, D, t, a, h => by
    have h : (isTupE t && shF2 c "zip" (ckE g c x) (ckE g c y) a) = true := h
    rw [Bool.and_eq_true] at h
    obtain ⟨el, kk, tp, rfl⟩ := tup_of h.1
    obtain ⟨q, l, r, pos, rfl, h1, h2, h3, h4, h5⟩ := shF2_inv h.2
    exact (ok_zip D.gd (sE x D l h2).1 (sE y D r h3).1 (D.glo h1) h4 h5).congr fun σ S => by first | rfl | (rw [dI]; try rfl)
end
end Tp

/-! Statements: the check and what it gives. -/
namespace Tp
open PySem PySem.Spec PyProof.Rows L2
/-- which stores of an assignment go from the right: none of them, or these -/
def swS (sc : Scope) (tg v : Expr) : Option (Option (List Str)) :=
  match tg with
  | .List .. => none
  | .Tuple ts _ _ => match v with
    | .Tuple vs _ _ =>
      if (!(ts.length == 2 || ts.length == 3) || vs.length != ts.length) = true then some none
      else if (vs.any fun x => match x with | .Starred .. => true | _ => false) = true then some none
      else
        let line := (Option.map (fun x : Expr => x.pos.line) ts.head?).getD 0
        let names := ts.filterMap fun x => match x with
          | .Name id pos => if (sc.names.lookup id == some NameKind.local && pos.line == line) = true then some id else none
          | _ => none
        if (names.length != ts.length || names.eraseDups.length != names.length) = true then some none
        else if vs.all (foldedForSure 8) = true then some none
        else if vs.all (constantsAlone 8) = true then none else some (some names)
    | _ => some none
  | _ => some none
theorem swS_eq {env : Env} {tg v : Expr} {r : Option (List Str)} (hk : env.scope.kind = .function) (h : swS env.scope tg v = some r) : swappedStores [tg] v env = pure r := by
  have hb : env.blockKind = .function := by unfold Env.blockKind; rw [hk]; rfl
  unfold swS at h
  unfold swappedStores
  rw [hb]
  split at h
  · cases h
  · split at h
    · dsimp only
      rw [show (ScopeKind.function != ScopeKind.function) = false from rfl, Bool.or_false]
      split at h
      · rename_i c1; refine Eq.trans (if_pos c1) ?_; cases h; rfl
      · rename_i c1; refine Eq.trans (if_neg c1) ?_
        split at h
        · rename_i c2; refine Eq.trans (if_pos c2) ?_; cases h; rfl
        · rename_i c2; refine Eq.trans (if_neg c2) ?_
          dsimp only at h
          unfold Env.kindOf
          split at h
          · rename_i c3; refine Eq.trans (if_pos c3) ?_; cases h; rfl
          · rename_i c3; refine Eq.trans (if_neg c3) ?_
            split at h
            · rename_i c4; refine Eq.trans (if_pos c4) ?_; cases h; rfl
            · rename_i c4; refine Eq.trans (if_neg c4) ?_
              split at h
              · cases h
              · rename_i c5; refine Eq.trans (if_neg c5) ?_; cases h; rfl
    · rename_i hv
      cases h
      cases v <;> first
        | rfl
        | exact absurd rfl (hv _ _ _)
  · rename_i h1 h2
    cases h
    cases tg <;> first
      | rfl
      | exact absurd rfl (h1 _ _)
      | exact absurd rfl (h2 _ _ _)
/-- whether a comprehension is stored at once -/
def compS : Expr → Option Scope
  | .ListComp _ _ s _ | .SetComp _ _ s _ | .DictComp _ _ _ s _ => some s
  | _ => none
def swF (sc : Scope) (v tg : Expr) : Bool :=
  match compS v with
  | some s => match tg with
    | .Name t pos => kindB sc t .local && pos.line == v.pos.line && !s.names.any (fun x => x.1 == t && (x.2 == .local || x.2 == .cell))
    | _ => false
  | none => false
theorem swF_eq {env : Env} {tg v : Expr} {l : Nat} (hk : env.scope.kind = .function) : swapsWith v (some tg) l env = pure (swF env.scope v tg) := by
  have hb : env.blockKind = .function := by unfold Env.blockKind; rw [hk]; rfl
  have hkind : ∀ t, (env.kindOf t == some NameKind.local) = kindB env.scope t .local := fun t => by
    unfold kindB Env.kindOf
    rw [Bool.eq_iff_iff, beq_iff_eq, decide_eq_true_iff]
  have key : ∀ s, compS v = some s → swapsWith v (some tg) l env = pure (swF env.scope v tg) := fun s hs => by
    unfold swF
    rw [hs]
    cases v <;> first
      | (cases hs; done)
      | (cases hs
         cases tg <;> first
          | rfl
          | (unfold swapsWith; dsimp only; rw [hb, hkind]; rfl))
  cases hs : compS v with
  | some s => exact key s hs
  | none =>
    unfold swF
    rw [hs]
    cases v <;> first
      | rfl
      | cases hs
theorem swN_eq {env : Env} {v : Expr} {l : Nat} (h : compS v = none) : swapsWith v none l env = pure false := by
  cases v <;> first
    | rfl
    | cases h
def isName : Expr → Bool
  | .Name .. => true
  | _ => false
def noB {α : Type} (o : Option α) : Bool := match o with | none => true | _ => false
/-! ### the check -/
def parB (c : Cc) : List Nat → List Expr → List Str → Bool
  | [], [], [] => true
  | i :: is, .Name x _ :: ts, y :: ys => (x == y) && decide (c.N[i]? = some x) && kindB c.sc x .local && !is.contains i && parB c is ts ys
  | _, _, _ => false
def isLcE : Ex → Bool
  | .lc .. => true
  | .new (.lc ..) => true
  | _ => false
def asg2 (c : Cc) : Tg → Expr → Expr → Bool
  | .name i, tg, v => match tg with | .Name x _ => swF c.sc v tg && decide (c.N[i]? = some x) | _ => false
  | .tup _, _, _ => false
theorem asg2_inv {c : Cc} {t : Tg} {tg v : Expr} (h : asg2 c t tg v = true) : ∃ i x px, t = .name i ∧ tg = .Name x px ∧ swF c.sc v (.Name x px) = true ∧ c.N[i]? = some x := by
  cases t with
  | tup _ => cases h
  | name i =>
    simp only [asg2] at h
    split at h
    · rw [Bool.and_eq_true, decide_eq_true_eq] at h
      exact ⟨_, _, _, rfl, rfl, h.1, h.2⟩
    · cases h
theorem isLcE_inv {e : Ex} (h : isLcE e = true) : ∃ x tg it ifs own, e = .lc x tg it ifs own ∨ e = .new (.lc x tg it ifs own) := by
  unfold isLcE at h
  split at h
  · exact ⟨_, _, _, _, _, .inl rfl⟩
  · exact ⟨_, _, _, _, _, .inr rfl⟩
  · cases h
abbrev CkS := Stmt → Bool
abbrev CkSs := List Stmt → Bool
mutual
def ckS (g : Cg) (c : Cc) : St → CkS
  | .asg t e => fun s => match s with
    | .Assign [tg] v _ => (ckG c t tg && ckE g c e v && !swF c.sc v tg && decide (swS c.sc tg v = some none)) || (asg2 c t tg v && isLcE e && ckE g c e v)
    | _ => false
  | .par is es => fun s => match s with
    | .Assign [.Tuple ts k p] (.Tuple vs k2 p2) _ => (is.length == 2 || is.length == 3) && ckEs g c es vs && (match swS c.sc (.Tuple ts k p) (.Tuple vs k2 p2) with | some (some ns) => parB c is ts ns && decide (vs.length = is.length) | _ => false)
    | _ => false
  | .setI o i e => fun s => match s with
    | .Assign [.Subscript x y _] v _ => ckE g c e v && ckE g c o x && ckE g c i y && nSlice y
    | _ => false
  | .aug i op e => fun s => match s with
    | .AugAssign (.Name x _) o v _ => decide (opOf op = o) && stB c i x && ckE g c e v
    | _ => false
  | .expr e => fun s => match s with
    | .Expr v _ => ckE g c e v && noB (compS v)
    | _ => false
  | .ret e => fun s => match s with
    | .Return (some v) _ => ckE g c e v
    | _ => false
  | .retN => fun s => match s with | .Return none _ => true | _ => false
  | .pass => fun s => match s with | .Pass _ => true | _ => false
  | .brk => fun s => match s with | .Break _ => true | _ => false
  | .cont => fun s => match s with | .Continue _ => true | _ => false
  | .ifS t a b => fun s => match s with
    | .If v x y _ => ckT g c t v && ckSs g c a x && ckSs g c b y
    | _ => false
  | .forS t it b => fun s => match s with
    | .For tg i x [] _ => ckG c t tg && ckI g c it tg i && nSet i && ckSs g c b x
    | _ => false
  | .whileS t b => fun s => match s with
    | .While v x [] _ => ckT g c t v && ckSs g c b x
    | _ => false
  | .raise k => fun s => match s with
    | .Raise (some (.Call (.Name x _) [.Constant (.str _) _ _] [] _)) none _ => decide (g.cs[k]? = some x) && glB c.sc x && bugB x
    | _ => false
def ckSs (g : Cg) (c : Cc) : Sts → CkSs
  | .nil => fun l => match l with | [] => true | _ => false
  | .cons s ss => fun l => match l with | [] => false | a :: as => ckS g c s a && ckSs g c ss as
end
end Tp

/-! What is checked holds: statements, defs. -/
namespace Tp
open PySem PySem.Spec PyProof.Rows L2
structure SdS (Γ : Gm) (g : Cg) (cf : CallF) (n : Nat) (c : Cc) (Wx : WX) (X : Cx) : Prop where
  d : Sd Γ g cf n c Wx X
  po : PassesOwn (model X.prog X.w) X.A X.env X.xe
  kind : X.env.scope.kind = .function
  cl : ∀ k x, g.cs[k]? = some x → ClsSp Γ X k x
variable {Γ : Gm} {g : Cg} {cf : CallF} {n : Nat}
section
variable {Wx : WX} {X : Cx}
theorem OkS.congr {a : Stmt} {f f' : Fr → Store → Res (Fl × Fr)} (o : OkS Γ Wx X a f) (h : ∀ σ S, f' σ S = f σ S) : OkS Γ Wx X a f' := by
  have e : f' = f := funext fun σ => funext fun S => h σ S
  rw [e]; exact o
theorem OkSs.congr {a : List Stmt} {f f' : Fr → Store → Res (Fl × Fr)} (o : OkSs Γ Wx X a f) (h : ∀ σ S, f' σ S = f σ S) : OkSs Γ Wx X a f' := by
  have e : f' = f := funext fun σ => funext fun S => h σ S
  rw [e]; exact o
end
theorem nst_tg {c : Cc} {t : Tg} {a : Expr} (h : ckG c t a = true) : nst a = true := by
  cases t with
  | name i => obtain ⟨x, pos, rfl, _⟩ := shName_inv (show shName (stB c i) a = true from h); rfl
  | tup ts => obtain ⟨l, j, pos, rfl, _⟩ := shTup_inv (show shTup (fun l => decide (tgsLen ts = l.length) && ckGs c ts l) a = true from h); rfl
theorem kindB_eq {sc : Scope} {x : Str} {k : NameKind} (h : kindB sc x k = true) : sc.names.lookup x = some k := by
  unfold kindB at h
  exact decide_eq_true_eq.mp h
theorem sSetLc {c : Cc} {Wx : WX} {X : Cx} (D : SdS Γ g cf n c Wx X) {i : Nat} {x : Str} {px pos : Pos} {v : Expr} {e : Ex} {tg : Tg} {it : Itr} {ifs : Exs} {own : List Nat} (hsw : swF c.sc v (.Name x px) = true) (hN : c.N[i]? = some x) (h : ckE g c (.lc e tg it ifs own) v = true) :
    OkS Γ Wx X (.Assign [.Name x px] v pos) (fun σ S => (dE cf (.lc e tg it ifs own) σ S).bind fun w S1 => rOpt ((asgT (.name i) w σ).map fun σ1 => (.nx, σ1)) S1) ∧
    OkS Γ Wx X (.Assign [.Name x px] v pos) (fun σ S => ((dE cf (.lc e tg it ifs own) σ S).bind fun w S1 => allocW S1 w).bind fun w S1 => rOpt ((asgT (.name i) w σ).map fun σ1 => (.nx, σ1)) S1) := by
  obtain ⟨y, t, i2, l, sc, pos2, rfl, h1, h2, h3, h4, h5, h6⟩ := shLc_inv (show shLc c own (fun sc t => (tgSlots tg).all (fun j => own.contains j) && ckG (c.blk sc) tg t) (ckI g c it) (fun sc => ckCs g (c.blk sc) ifs) (fun sc => ckE g (c.blk sc) e) v = true from h)
  rw [Bool.and_eq_true] at h4
  have hl : kindB c.sc x .local = true := by
    unfold swF at hsw
    have hsw : (kindB c.sc x .local && _ && _) = true := hsw
    simp only [Bool.and_eq_true] at hsw
    exact hsw.1.1
  have k := ok_setLc (Γ := Γ) (Wx := Wx) (own := ownP c own) (pos := pos2) (spos := pos) (py := px) (i := i) (y := x) D.d.gd D.d.nd (by rw [D.d.N]; exact hN) (by rw [D.d.sc]; exact kindB_eq hl)
    (by rw [swF_eq D.kind, D.d.sc, hsw]) (by rw [D.d.N, D.d.sc]; exact blkOk_by h1) (set_of h2 _) (sI it D.d t i2 h3) (fun j hj => by rw [ownP_snd]; simpa using List.all_eq_true.mp h4.1 j hj) (fun s H C cl fp => sG tg (D.d.blk s H C cl fp) t h4.2) (fun s H C cl fp => sCs ifs (D.d.blk s H C cl fp) l h5) (fun s H C cl fp => (sE e (D.d.blk s H C cl fp) y h6).1)
  rw [ownP_snd] at k
  exact ⟨k.1.congr fun σ S => by first | rfl | (rw [dE]; try rfl), k.2.congr fun σ S => by first | rfl | (rw [dE]; try rfl)⟩
theorem parB_cons {c : Cc} {i : Nat} {is : List Nat} {ts : List Expr} {ns : List Str} (h : parB c (i :: is) ts ns = true) :
    ∃ x px ts' ns', ts = .Name x px :: ts' ∧ ns = x :: ns' ∧ c.N[i]? = some x ∧ kindB c.sc x .local = true ∧ i ∉ is ∧ parB c is ts' ns' = true := by
  unfold parB at h
  split at h
  · rename_i e; cases e
  · rename_i i2 is2 x px ts2 y ns2 e
    cases e
    simp only [Bool.and_eq_true, decide_eq_true_eq, Bool.not_eq_true'] at h
    obtain ⟨⟨⟨⟨h1, h2⟩, h3⟩, h4⟩, h5⟩ := h
    have h1 := eq_of_beq h1
    subst h1
    exact ⟨_, _, _, _, rfl, rfl, h2, h3, by simpa using h4, h5⟩
  · cases h
theorem parB_nil {c : Cc} {ts : List Expr} {ns : List Str} (h : parB c [] ts ns = true) : ts = [] ∧ ns = [] := by
  unfold parB at h
  split at h
  · exact ⟨rfl, rfl⟩
  · rename_i e; cases e
  · cases h
theorem sPar {c : Cc} {Wx : WX} {X : Cx} (D : SdS Γ g cf n c Wx X) {is : List Nat} {es : Exs} {ts vs : List Expr} {k k2 : Nat} {p p2 pos : Pos} (hl : (is.length == 2 || is.length == 3) = true) (he : ckEs g c es vs = true) {ns : List Str} (hsw : swS c.sc (.Tuple ts k p) (.Tuple vs k2 p2) = some (some ns)) (hp : parB c is ts ns = true) (hv : vs.length = is.length) :
    OkS Γ Wx X (.Assign [.Tuple ts k p] (.Tuple vs k2 p2) pos) (fun σ S => (dEs cf es σ S).bind fun ws S1 => rOpt ((setAll is ws σ).map fun σ1 => (.nx, σ1)) S1) := by
  have hA := sEs es D.d vs he
  have hw : swappedStores [.Tuple ts k p] (.Tuple vs k2 p2) X.env = pure (some ns) := swS_eq D.kind (by rw [D.d.sc]; exact hsw)
  have hs : swapsWithSole [.Tuple ts k p] (.Tuple vs k2 p2) pos.line X.env = pure false := rfl
  match is, hl, hp, hv with
  | [i, j], _, hp, hv =>
    obtain ⟨x, px, ts1, ns1, rfl, rfl, n1, k1, d1, hp⟩ := parB_cons hp
    obtain ⟨y, py, ts2, ns2, rfl, rfl, n2, k2', d2, hp⟩ := parB_cons hp
    obtain ⟨rfl, rfl⟩ := parB_nil hp
    match vs, hv, hA, hw, hs with
    | [a, b], _, hA, hw, hs =>
      have hij : i ≠ j := fun e => d1 (by rw [e]; exact List.mem_cons_self)
      exact ok_par2 D.d.gd D.d.nd (by rw [D.d.N]; exact n1) (by rw [D.d.N]; exact n2) hij (by rw [D.d.sc]; exact kindB_eq k1) (by rw [D.d.sc]; exact kindB_eq k2') hA hw hs
  | [i, j, l], _, hp, hv =>
    obtain ⟨x, px, ts1, ns1, rfl, rfl, n1, k1, d1, hp⟩ := parB_cons hp
    obtain ⟨y, py, ts2, ns2, rfl, rfl, n2, k2', d2, hp⟩ := parB_cons hp
    obtain ⟨z, pz, ts3, ns3, rfl, rfl, n3, k3, d3, hp⟩ := parB_cons hp
    obtain ⟨rfl, rfl⟩ := parB_nil hp
    match vs, hv, hA, hw, hs with
    | [a, b, d], _, hA, hw, hs =>
      have hij : i ≠ j := fun e => d1 (by rw [e]; exact List.mem_cons_self)
      have hil : i ≠ l := fun e => d1 (by rw [e]; exact List.mem_cons_of_mem _ List.mem_cons_self)
      have hjl : j ≠ l := fun e => d2 (by rw [e]; exact List.mem_cons_self)
      exact ok_par3 D.d.gd D.d.nd (by rw [D.d.N]; exact n1) (by rw [D.d.N]; exact n2) (by rw [D.d.N]; exact n3) hij hil hjl (by rw [D.d.sc]; exact kindB_eq k1) (by rw [D.d.sc]; exact kindB_eq k2') (by rw [D.d.sc]; exact kindB_eq k3) hA hw hs
mutual
theorem sS : ∀ (s : St) {c : Cc} {Wx : WX} {X : Cx}, SdS Γ g cf n c Wx X → ∀ a, ckS g c s a = true → OkS Γ Wx X a (fun σ S => dS cf s σ S)
  | .asg t e, c, Wx, X, D, a, h => by
    cases a with
    | Assign tgs v pos =>
      match tgs, h with
      | [], h => cases h
      | _ :: _ :: _, h => cases h
      | [tg], h =>
        have h : ((ckG c t tg && ckE g c e v && !swF c.sc v tg && decide (swS c.sc tg v = some none)) || (asg2 c t tg v && isLcE e && ckE g c e v)) = true := h
        rw [Bool.or_eq_true] at h
        rcases h with h | h
        · simp only [Bool.and_eq_true, decide_eq_true_eq, Bool.not_eq_true'] at h
          obtain ⟨⟨⟨h1, h2⟩, h3⟩, h4⟩ := h
          have hs : swapsWithSole [tg] v pos.line X.env = pure false := by
            show swapsWith v (some tg) pos.line X.env = pure false
            rw [swF_eq D.kind, D.d.sc, h3]
          exact (ok_asg (sE e D.d v h2).1 (sG t D.d tg h1) hs (swS_eq D.kind (by rw [D.d.sc]; exact h4)) (nst_tg h1)).congr fun σ S => by first | rfl | (rw [dS]; try rfl)
        · simp only [Bool.and_eq_true] at h
          obtain ⟨⟨h1, h2⟩, h3⟩ := h
          obtain ⟨i, x, px, rfl, rfl, h4, h5⟩ := asg2_inv h1
          obtain ⟨y, tg, it, ifs, own, rfl | rfl⟩ := isLcE_inv h2
          · exact (sSetLc D h4 h5 h3).1.congr fun σ S => by first | rfl | (rw [dS]; try rfl)
          · have h3 : (isN (.lc y tg it ifs own) && ckE g c (.lc y tg it ifs own) v) = true := h3
            rw [Bool.and_eq_true] at h3
            exact (sSetLc D h4 h5 h3.2).2.congr fun σ S => by first | rfl | (rw [dS]; try rfl)
    | _ => cases h
  | .par is es, c, Wx, X, D, a, h => by
    cases a with
    | Assign tgs v pos =>
      match tgs, v, h with
      | [.Tuple ts k p], .Tuple vs k2 p2, h =>
        have h : ((is.length == 2 || is.length == 3) && ckEs g c es vs && (match swS c.sc (.Tuple ts k p) (.Tuple vs k2 p2) with | some (some ns) => parB c is ts ns && decide (vs.length = is.length) | _ => false)) = true := h
        simp only [Bool.and_eq_true] at h
        obtain ⟨⟨h1, h2⟩, h3⟩ := h
        split at h3
        · rename_i ns hns
          rw [Bool.and_eq_true, decide_eq_true_eq] at h3
          exact (sPar D h1 h2 hns h3.1 h3.2).congr fun σ S => by first | rfl | (rw [dS]; try rfl)
        · cases h3
    | _ => cases h
  | .setI o i e, c, Wx, X, D, a, h => by
    cases a with
    | Assign tgs v pos =>
      match tgs, h with
      | [.Subscript x y q], h =>
        have h : (ckE g c e v && ckE g c o x && ckE g c i y && nSlice y) = true := h
        simp only [Bool.and_eq_true] at h
        obtain ⟨⟨⟨h1, h2⟩, h3⟩, h4⟩ := h
        have hs : swapsWithSole [.Subscript x y q] v pos.line X.env = pure false := by
          show swapsWith v (some (.Subscript x y q)) pos.line X.env = pure false
          rw [swF_eq D.kind]
          unfold swF
          cases compS v <;> rfl
        exact (ok_setI D.d.gd (sE e D.d v h1).1 (sE o D.d x h2).1 (sE i D.d y h3).1 h4 hs (swS_eq D.kind rfl)).congr fun σ S => by first | rfl | (rw [dS]; try rfl)
    | _ => cases h
  | .aug i op e, c, Wx, X, D, a, h => by
    cases a with
    | AugAssign t o v pos =>
      match t, h with
      | .Name x q, h =>
        have h : (decide (opOf op = o) && stB c i x && ckE g c e v) = true := h
        simp only [Bool.and_eq_true, decide_eq_true_eq] at h
        obtain ⟨⟨h1, h2⟩, h3⟩ := h
        subst h1
        obtain ⟨a1, a2, a3⟩ := sSt D.d h2
        exact (ok_aug D.d.nd a1 a2 a3 (sE e D.d v h3).1).congr fun σ S => by first | rfl | (rw [dS]; try rfl)
    | _ => cases h
  | .expr e, c, Wx, X, D, a, h => by
    cases a with
    | Expr v pos =>
      have h : (ckE g c e v && noB (compS v)) = true := h
      rw [Bool.and_eq_true] at h
      have h2 : compS v = none := by
        cases e : compS v with
        | none => rfl
        | some s => rw [e] at h; cases h.2
      exact (ok_expr (sE e D.d v h.1).1 (swN_eq h2)).congr fun σ S => by first | rfl | (rw [dS]; try rfl)
    | _ => cases h
  | .ret e, c, Wx, X, D, a, h => by
    cases a with
    | Return v pos =>
      cases v with
      | some v => exact (ok_ret (sE e D.d v h).1).congr fun σ S => by first | rfl | (rw [dS]; try rfl)
      | none => cases h
    | _ => cases h
  | .retN, c, Wx, X, D, a, h => by
    cases a with
    | Return v pos =>
      cases v with
      | none => exact ok_retN.congr fun σ S => by first | rfl | (rw [dS]; try rfl)
      | some _ => cases h
    | _ => cases h
  | .pass, c, Wx, X, D, a, h => by
    cases a with
    | Pass pos => exact ok_pass.congr fun σ S => by first | rfl | (rw [dS]; try rfl)
    | _ => cases h
  | .brk, c, Wx, X, D, a, h => by
    cases a with
    | Break pos => exact ok_brk.congr fun σ S => by first | rfl | (rw [dS]; try rfl)
    | _ => cases h
  | .cont, c, Wx, X, D, a, h => by
    cases a with
    | Continue pos => exact ok_cont.congr fun σ S => by first | rfl | (rw [dS]; try rfl)
    | _ => cases h
  | .ifS t x y, c, Wx, X, D, a, h => by
    cases a with
    | If v p q pos =>
      have h : (ckT g c t v && ckSs g c x p && ckSs g c y q) = true := h
      simp only [Bool.and_eq_true] at h
      exact (ok_if (sT t D.d v h.1.1) (sSs x D p h.1.2) (sSs y D q h.2)).congr fun σ S => by first | rfl | (rw [dS]; try rfl)
    | _ => cases h
  | .forS t it b, c, Wx, X, D, a, h => by
    cases a with
    | For tg i p q pos =>
      cases q with
      | cons _ _ => cases h
      | nil =>
        have h : (ckG c t tg && ckI g c it tg i && nSet i && ckSs g c b p) = true := h
        simp only [Bool.and_eq_true] at h
        obtain ⟨⟨⟨h1, h2⟩, h3⟩, h4⟩ := h
        exact (ok_for D.d.gd D.po (sI it D.d tg i h2) (sG t D.d tg h1) (sSs b D p h4) (set_of h3 _)).congr fun σ S => by first | rfl | (rw [dS]; try rfl)
    | _ => cases h
  | .whileS t b, c, Wx, X, D, a, h => by
    cases a with
    | While v p q pos =>
      cases q with
      | cons _ _ => cases h
      | nil =>
        have h : (ckT g c t v && ckSs g c b p) = true := h
        simp only [Bool.and_eq_true] at h
        exact (ok_while D.d.gd D.po (sT t D.d v h.1) (sSs b D p h.2)).congr fun σ S => by first | rfl | (rw [dS]; try rfl)
    | _ => cases h
  | .raise k, c, Wx, X, D, a, h => by
    simp only [ckS] at h
    split at h
    · simp only [Bool.and_eq_true, decide_eq_true_eq] at h
      exact (ok_raise D.d.gd D.d.tk (D.cl k _ h.1.1) (D.d.glo h.1.2) (bug_of h.2)).congr fun σ S => by first | rfl | (rw [dS]; try rfl)
    · cases h
theorem sSs : ∀ (s : Sts) {c : Cc} {Wx : WX} {X : Cx}, SdS Γ g cf n c Wx X → ∀ a, ckSs g c s a = true → OkSs Γ Wx X a (fun σ S => dSs cf s σ S)
  | .nil, c, Wx, X, D, l, h => by
    cases l with
    | nil => exact ok_snil.congr fun σ S => by first | rfl | (rw [dSs]; try rfl)
    | cons _ _ => cases h
  | .cons s ss, c, Wx, X, D, l, h => by
    cases l with
    | nil => cases h
    | cons a as =>
      have h : (ckS g c s a && ckSs g c ss as) = true := h
      rw [Bool.and_eq_true] at h
      exact (ok_scons (sS s D a h.1) (sSs ss D as h.2)).congr fun σ S => by first | rfl | (rw [dSs]; try rfl)
end
end Tp

/-! Defs; the law's end. -/
namespace Tp
open PySem PySem.Spec PyProof.Rows L2
/-- a def of the text: its form, its names, its parameters, its name, its statement -/
structure DefI where
  d : Def
  N : List Str
  ps : List Str
  x : Str
  st : Stmt
def fnScB (N P : List Str) (sc : Scope) : Bool :=
  decide (sc.kind = .function) && !sc.isCoroutine && !sc.isGenerator && decide N.Nodup && decide (N.take P.length = P) && P.all (fun x => kindB sc x .local || kindB sc x .cell) && sc.names.all fun y => decide (y.2 ≠ .free)
theorem fnScB_ok {N P : List Str} {sc : Scope} (h : fnScB N P sc = true) : FnScope N P sc := by
  unfold fnScB kindB at h
  simp only [Bool.and_eq_true, decide_eq_true_eq, Bool.not_eq_true', List.all_eq_true, Bool.or_eq_true] at h
  obtain ⟨⟨⟨⟨⟨⟨h1, h2⟩, h3⟩, h4⟩, h5⟩, h6⟩, h7⟩ := h
  exact ⟨h1, h2, h3, h4, h5, h6, h7⟩
def defB (g : Cg) (e : DefI) : Bool := fnScB e.N e.ps (defScope e.st) && decide (e.d.names = e.N.length) && decide (e.d.pars = e.ps.length) && ckSs g ⟨e.N, defScope e.st, fun _ => true⟩ e.d.body (defBody e.st)
def FnFact (K : PySem.W.Frag) (x : Str) (st : Stmt) (f : Addr) : Prop := PySem.W.nsIn K mainGlobals x = some (some (.ref f)) ∧ ∃ (oc : Value) (od an : Option Addr) (osl : Array (Option Value)) (kV doc pm cdv ct : Value),
  K.lookup f = some ⟨oc, od, .func (PySem.W.fnOf x x (defArgs st) (defBody st) (defScope st) .none kV doc pm an cdv ct), osl⟩ ∧ PySem.W.codeIn K cdv x = true ∧ PySem.W.keepIn K (.ref f) = true
theorem fn_fact {K : PySem.W.Frag} {x : Str} {st : Stmt} {f : Addr} {oc : Value} {od an : Option Addr} {osl : Array (Option Value)} {kV doc pm cdv ct : Value} (a : PySem.W.nsIn K mainGlobals x = some (some (.ref f)))
    (l : K.lookup f = some ⟨oc, od, .func (PySem.W.fnOf x x (defArgs st) (defBody st) (defScope st) .none kV doc pm an cdv ct), osl⟩) (c : PySem.W.codeIn K cdv x = true) (k : PySem.W.keepIn K (.ref f) = true) : FnFact K x st f := ⟨a, oc, od, an, osl, kV, doc, pm, cdv, ct, l, c, k⟩
def AllFn (K : PySem.W.Frag) : List DefI → List Addr → Prop
  | [], [] => True
  | e :: es, f :: fs => FnFact K e.x e.st f ∧ AllFn K es fs
  | _, _ => False
def BindOk (e : DefI) : Prop := ∀ (kV doc pm : Value) (an : Option Addr) (cdv ct : Value) (us : List Value), us.length = e.ps.length → bindArgs (PySem.W.fnOf e.x e.x (defArgs e.st) (defBody e.st) (defScope e.st) .none kV doc pm an cdv ct) ⟨us, []⟩ = pure (e.ps.zip us)
def AllBind : List DefI → Prop
  | [] => True
  | e :: es => BindOk e ∧ AllBind es
def ClsFact (K : PySem.W.Frag) (x : Str) (C : Addr) : Prop := PySem.W.nsIn K mainGlobals x = some (some (.ref C)) ∧ (∃ B newId initId bmB, ExcBaseFacts B newId initId bmB ∧ PySem.W.excIn K C bmB newId = true) ∧ PySem.W.keepIn K (.ref C) = true ∧
  PySem.W.subIn K (.ref C) (.type "BaseException") = some true ∧ PySem.W.typeIn K (.ref C) = some (.type "type")
def AllCls (K : PySem.W.Frag) : List Str → List Addr → Prop
  | [], [] => True
  | x :: xs, c :: cs => ClsFact K x c ∧ AllCls K xs cs
  | _, _ => False
def GlFact (mg : Str → Option Value) (q : Str × P) : Prop := ∃ u v, mg q.1 = some u ∧ scalV q.2 = some v ∧ RelV v u
def AllGl (mg : Str → Option Value) : List (Str × P) → Prop
  | [] => True
  | q :: qs => GlFact mg q ∧ AllGl mg qs
def AllNone (K : PySem.W.Frag) : List Str → Prop
  | [] => True
  | x :: xs => PySem.W.nsIn K mainGlobals x = some none ∧ AllNone K xs
theorem AllFn.get {K : PySem.W.Frag} : ∀ {ds : List DefI} {fs : List Addr} {i : Nat} {e : DefI}, AllFn K ds fs → ds[i]? = some e → ∃ f, fs[i]? = some f ∧ FnFact K e.x e.st f
  | [], _, _, _, _, h => by simp at h
  | _ :: _, [], _, _, h, _ => h.elim
  | _ :: _, f :: _, 0, _, h, q => by simp at q; subst q; exact ⟨f, rfl, h.1⟩
  | _ :: _, _ :: _, i + 1, _, h, q => AllFn.get (i := i) h.2 (by simpa using q)
theorem AllBind.get : ∀ {ds : List DefI} {i : Nat} {e : DefI}, AllBind ds → ds[i]? = some e → BindOk e
  | [], _, _, _, h => by simp at h
  | _ :: _, 0, _, h, q => by simp at q; subst q; exact h.1
  | _ :: _, i + 1, _, h, q => AllBind.get (i := i) h.2 (by simpa using q)
theorem AllCls.get {K : PySem.W.Frag} : ∀ {ds : List Str} {fs : List Addr} {i : Nat} {e : Str}, AllCls K ds fs → ds[i]? = some e → ∃ f, fs[i]? = some f ∧ ClsFact K e f
  | [], _, _, _, _, h => by simp at h
  | _ :: _, [], _, _, h, _ => h.elim
  | _ :: _, f :: _, 0, _, h, q => by simp at q; subst q; exact ⟨f, rfl, h.1⟩
  | _ :: _, _ :: _, i + 1, _, h, q => AllCls.get (i := i) h.2 (by simpa using q)
theorem AllGl.get {mg : Str → Option Value} : ∀ {ds : List (Str × P)} {e : Str × P}, AllGl mg ds → e ∈ ds → GlFact mg e
  | [], _, _, h => nomatch h
  | _ :: _, _, h, q => by
    rcases List.mem_cons.mp q with e | e
    · rw [e]; exact h.1
    · exact AllGl.get h.2 e
theorem AllNone.get {K : PySem.W.Frag} : ∀ {ds : List Str} {e : Str}, AllNone K ds → e ∈ ds → PySem.W.nsIn K mainGlobals e = some none
  | [], _, _, h => nomatch h
  | _ :: _, _, h, q => by
    rcases List.mem_cons.mp q with e | e
    · rw [e]; exact h.1
    · exact AllNone.get h.2 e
/-- the module's facts -/
structure ModF (Γ : Gm) (g : Cg) (ds : List DefI) : Prop where
  blt : ∀ x ∈ bltN, Γ.mg x = none
  names : g.fs = ds.map (·.x)
  fns : ∀ (i : Nat) (e : DefI), ds[i]? = some e → Γ.mg e.x = some (.ref (Γ.fa i)) ∧ ∃ fd, Fun Γ.K e.x e.x e.st (Γ.fa i) fd ∧ ∀ us : List Value, us.length = e.ps.length → bindArgs fd ⟨us, []⟩ = pure (e.ps.zip us)
  ck : ∀ e ∈ ds, defB g e = true
  gl : ∀ q ∈ g.gl, GlFact Γ.mg q
  cl : ∀ (k : Nat) (x : Str), g.cs[k]? = some x → Γ.mg x = some (.ref (Γ.ca k)) ∧ ClsFact Γ.K x (Γ.ca k)
theorem spOf_len {Γ : Gm} {ds : List DefI} {n i : Nat} {e : DefI} (he : ds[i]? = some e) (hp : e.d.pars = e.ps.length) {vs : List V} {H : Hp} {Q : VK} {E : XK} (h : spOf Γ (callN (ds.map (·.d)) n) i vs H Q E) : vs.length = e.ps.length := by
  obtain ⟨ψ, α, ws, S, r, rs, p⟩ := h
  cases n with
  | zero => exact p.elim
  | succ n =>
    simp only [callN, List.getElem?_map, he, Option.map_some] at p
    split at p
    · rename_i hl
      rw [← r.length, hl, hp]
    · exact p.elim
theorem start_rel {Γ : Gm} {H : Hp} {α ψ : List Addr} {d : Def} {N : List Str} {ws : List W} {vs : List V} (r : RWs Γ H α ψ ws vs) (hn : d.names = N.length) (hp : ws.length = d.pars) : RF Γ H α ψ (startF d ws) (L2.start N vs) := by
  have hl := r.length
  unfold startF L2.start
  refine ⟨by simp only [List.length_append, List.length_map, List.length_replicate]; omega, fun i w e => ?_⟩
  by_cases hi : i < ws.length
  · rw [List.getElem?_append_left (by simpa using hi), List.getElem?_map] at e
    cases e2 : ws[i]? with
    | none => rw [e2] at e; cases e
    | some w2 =>
      rw [e2] at e
      have e3 : w2 = w := by simpa using e
      subst e3
      obtain ⟨v, hv, rv⟩ := r.get e2
      refine ⟨v, ?_, rv⟩
      rw [List.getElem?_append_left (by rw [List.length_map, ← hl]; exact hi), List.getElem?_map, hv]
      rfl
  · rw [List.getElem?_append_right (by simpa using hi), List.getElem?_replicate] at e
    split at e
    · cases e
    · cases e
theorem defs_ok {P : Program} {w : World} {base : Heap} {Γ : Gm} {g : Cg} {ds : List DefI} (M : ModF Γ g ds) : ∀ (n i : Nat) (e : DefI), ds[i]? = some e → ∀ fd, Fun Γ.K e.x e.x e.st (Γ.fa i) fd →
    FnOk P w Γ.K Γ.mg base (L2.CX P w) n (Γ.fa i) fd e.ps (spOf Γ (callN (ds.map (·.d)) n) i)
  | 0, i, e, he, fd, F => ⟨fun vs H Q E ⟨_, _, _, _, _, _, p⟩ => p.elim, fun A outer s H args us vs Q E hr e0 hb r ⟨_, _, _, _, _, _, p⟩ => p.elim⟩
  | n + 1, i, e, he, fd, F => by
    have hck := M.ck e (List.mem_of_getElem? he)
    unfold defB at hck
    simp only [Bool.and_eq_true, decide_eq_true_eq] at hck
    obtain ⟨⟨⟨k1, k2⟩, k3⟩, k4⟩ := hck
    have hsc := fnScB_ok k1
    refine F.okX hsc (fun vs H Q E h => spOf_len he k3 h) fun cdv A outer s H vs Q E hr hsp => ⟨_, pss_gs _, ?_⟩
    obtain ⟨ψ, α, ws, S, r, rs, p⟩ := hsp
    simp only [callN, List.getElem?_map, he, Option.map_some] at p
    split at p
    · rename_i hl
      have D : SdS Γ g (callN (ds.map (·.d)) n) n ⟨e.N, defScope e.st, fun _ => true⟩ (fun cls d _ H => E cls d H) (cxOf (L2.CX P w) P w Γ.K Γ.mg base e.N e.x (defScope e.st) (Γ.fa i) cdv A outer s H E) := {
        d := {
          gd := ⟨rfl, rfl, hr.units, M.blt⟩
          nd := hsc.nd
          N := rfl
          sc := rfl
          fn := rfl
          tk := takes_of rfl rfl rfl rfl
          room := hr
          fs := fun j x hx => by
            rw [M.names, List.getElem?_map] at hx
            cases hj : ds[j]? with
            | none => rw [hj] at hx; cases hx
            | some e2 =>
              rw [hj] at hx; cases hx
              obtain ⟨m1, fd2, F2, b2⟩ := M.fns j e2 hj
              exact ⟨⟨fd2, e2.ps, defs_ok M n j e2 hj fd2 F2, .all b2⟩, m1, F2.kp⟩
          gl := M.gl }
        po := passes_of rfl
        kind := hsc.kind
        cl := fun k x hx => by
          obtain ⟨m1, _, c2, c3, c4, c5⟩ := M.cl k x hx
          exact ⟨c2, m1, c3, raises_own c4 c5⟩ }
      refine sSs e.d.body D _ k4 ψ α (startF e.d ws) S (L2.start e.N vs) H _ (start_rel r k2 hl) rs ?_
      show PostS _ _ _ _ _ (dSs (callN (ds.map (·.d)) n) e.d.body (startF e.d ws) S) _
      cases hb : dSs (callN (ds.map (·.d)) n) e.d.body (startF e.d ws) S with
      | bad => rw [hb] at p; exact p.elim
      | ex c fs S1 =>
        rw [hb] at p
        exact fun H' α' d σ' x R => p H' α' d x R
      | ok rr S1 =>
        rw [hb] at p
        obtain ⟨fl, σ1⟩ := rr
        intro H' α' σ' x R _
        cases fl with
        | nx => exact p H' α' x R .non rfl
        | rt w1 => exact fun v rv => p H' α' x R v rv
        | bk => exact p.elim
        | ct => exact p.elim
    · exact p.elim
/-- the module's facts, from what is seen of the written part -/
theorem mod_mk {K : PySem.W.Frag} {h : Heap} {mg : Str → Option Value} (X : K.In h) (G : h.Ns mainGlobals mg) {ds : List DefI} {g : Cg} {fs cs : List Addr} (hn : g.fs = ds.map (·.x)) (hb : AllNone K bltN) (hf : AllFn K ds fs) (hbd : AllBind ds) (hc : AllCls K g.cs cs) (hg : AllGl mg g.gl)
    (hck : ds.all (defB g) = true) : ModF ⟨K, mg, fun i => (fs[i]?).getD 0, fun k => (cs[k]?).getD 0⟩ g ds where
  blt := fun x hx => PySem.W.mg_none_of X G (hb.get hx)
  names := hn
  fns := fun i e he => by
    obtain ⟨f, hfi, a, oc, od, an, osl, kV, doc, pm, cdv, ct, l, c, k⟩ := hf.get he
    show mg e.x = some (.ref ((fs[i]?).getD 0)) ∧ ∃ fd, Fun K e.x e.x e.st ((fs[i]?).getD 0) fd ∧ ∀ us : List Value, us.length = e.ps.length → bindArgs fd ⟨us, []⟩ = pure (e.ps.zip us)
    rw [hfi]
    have F := fun_mk (st := e.st) l c k
    exact ⟨PySem.W.mg_of X G a, _, F, hbd.get he kV doc pm an cdv ct⟩
  ck := fun e he => List.all_eq_true.mp hck e he
  gl := fun q hq => hg.get hq
  cl := fun k x hx => by
    obtain ⟨C, hC, c⟩ := hc.get hx
    show mg x = some (.ref ((cs[k]?).getD 0)) ∧ ClsFact K x ((cs[k]?).getD 0)
    rw [hC]
    exact ⟨PySem.W.mg_of X G c.1, c⟩
/-- THE END: the law's goal behind the head -/
theorem walk_tp {l : PySem.W.OpenLaw} {n k i : Nat} {q : Program} {loose : List Str} {XP : (Str → Option Value) → Heap → Prop} {YP : World → Heap → Prop} {d : DefRec} {K : Params → PySem.W.Frag} {ds : List DefI} {g : Cg} {e : DefI}
    (hn : l.most = some n) (hn2 : n ≤ sizeLine) (hdf : d.params.defaults = []) (hr : Room k callerA)
    (hY : ∀ (w : World) (h : Heap), YP w h → (K w.params).In h) (he : ds[i]? = some e) (hps : e.ps = [("script" : Str)]) (hx : e.x = d.name)
    (F : ∀ (w : World) (mg : Str → Option Value) (h : Heap), (K w.params).In h → h.Ns mainGlobals mg → XP mg h → ∃ fa ca, ModF ⟨K w.params, mg, fa, ca⟩ g ds)
    (hlaw : ∀ ns : List Int, ns.length ≤ n → (∀ z ∈ ns, Builtin.Int.intBits z ≤ 1048576) → ∃ S, callN (ds.map (·.d)) k i [.scr ns] [] = .ok (.p (.bl true)) S) :
    PySem.W.WalkO q loose XP YP l.row.toRowW d [] (fun f vs => PySem.call f vs) := by
  refine Att.attach_callB hn hdf fun w s₀ s₁ mg mb fa o pm cd doc a vs ns G Y ho hd hcd hmg hobj hints hlen hbits hg => ?_
  have KX := hY w _ Y
  obtain ⟨fa2, ca, M⟩ := F w mg _ KX G.T.g G.X
  obtain ⟨m1, fd, Fn, bd⟩ := M.fns i e he
  have efa : fa2 i = fa := by
    have z : mg e.x = some (.ref (fa2 i)) := m1
    rw [hx, hmg] at z
    cases z
    rfl
  refine law_call (fa := fa) (fd := fd) (x := "script") (k := k) (CX := L2.CX l.prog w) (sp := spOf ⟨K w.params, mg, fa2, ca⟩ (callN (ds.map (·.d)) k) i) KX G.T.g G.T.b G.T.builtins G.T.nolimit hg hobj hints (Nat.le_trans hlen hn2) hr (fun base _ _ => ?_) (fun s u => ?_) (fun H hO hS => ?_) fun H e s' ⟨_, _, _, _, _, _, _, _, _, _, _, _, z⟩ => z
  · have h1 := defs_ok (P := l.prog) (w := w) (base := base) M k i e he fd Fn
    rw [hps] at h1
    rw [← efa]
    exact h1
  · refine .of_eq ?_
    have h1 := bd [u] (by rw [hps]; rfl)
    rw [hps] at h1
    exact h1
  · obtain ⟨S, hS1⟩ := hlaw ns hlen hbits
    refine ⟨[], [], [.scr ns], [], ⟨.ref a, [], rfl, ⟨a, rfl, ?_⟩, rfl⟩, ⟨rfl, .nil, fun k a c h1 _ => by simp at h1, fun a h => (nomatch h), fun b h => (nomatch h)⟩, ?_⟩
    · rcases hS with (hS | ⟨o, hS⟩) | hS
      · rcases hO a with z | ⟨o, xs, z⟩
        · rw [z] at hS; cases hS
        · rw [z] at hS; cases hS
      · exact .inl ⟨o, hS⟩
      · exact .inr hS
    · rw [hS1]
      intro H' α' x R v rv
      exact rv
end Tp

/-! The facts of a law's head, one by one. -/
namespace Tp
open PySem PySem.Spec PyProof.Rows L2
theorem AllNone.nil {K : PySem.W.Frag} : AllNone K [] := trivial
theorem AllNone.cons {K : PySem.W.Frag} {x : Str} {xs : List Str} (h : PySem.W.nsIn K mainGlobals x = some none) (t : AllNone K xs) : AllNone K (x :: xs) := ⟨h, t⟩
theorem AllFn.nil {K : PySem.W.Frag} : AllFn K [] [] := trivial
theorem AllFn.cons {K : PySem.W.Frag} {e : DefI} {es : List DefI} {f : Addr} {fs : List Addr} (h : FnFact K e.x e.st f) (t : AllFn K es fs) : AllFn K (e :: es) (f :: fs) := ⟨h, t⟩
theorem AllBind.nil : AllBind [] := trivial
theorem AllBind.cons {e : DefI} {es : List DefI} (h : BindOk e) (t : AllBind es) : AllBind (e :: es) := ⟨h, t⟩
theorem AllCls.nil {K : PySem.W.Frag} : AllCls K [] [] := trivial
theorem AllCls.cons {K : PySem.W.Frag} {e : Str} {es : List Str} {f : Addr} {fs : List Addr} (h : ClsFact K e f) (t : AllCls K es fs) : AllCls K (e :: es) (f :: fs) := ⟨h, t⟩
theorem AllGl.nil {mg : Str → Option Value} : AllGl mg [] := trivial
theorem AllGl.cons {mg : Str → Option Value} {q : Str × P} {qs : List (Str × P)} (h : GlFact mg q) (t : AllGl mg qs) : AllGl mg (q :: qs) := ⟨h, t⟩
theorem cls_fact {K : PySem.W.Frag} {x : Str} {C : Addr} {B newId initId : String} {bmB : List Value} (F : ExcBaseFacts B newId initId bmB) (a : PySem.W.nsIn K mainGlobals x = some (some (.ref C))) (b : PySem.W.excIn K C bmB newId = true) (c : PySem.W.keepIn K (.ref C) = true)
    (d : PySem.W.subIn K (.ref C) (.type "BaseException") = some true) (e : PySem.W.typeIn K (.ref C) = some (.type "type")) : ClsFact K x C := ⟨a, ⟨B, newId, initId, bmB, F, b⟩, c, d, e⟩
/-- a constant that the written part shows -/
theorem gl_int {K : PySem.W.Frag} {h : Heap} {mg : Str → Option Value} (X : K.In h) (G : h.Ns mainGlobals mg) {x : Str} {i : Int} {t : Tok} (a : PySem.W.nsIn K mainGlobals x = some (some (.int i t))) : GlFact mg (x, .int i) :=
  ⟨_, .int i, PySem.W.mg_of X G a, rfl, ⟨t, rfl⟩⟩
theorem gl_str {K : PySem.W.Frag} {h : Heap} {mg : Str → Option Value} (X : K.In h) (G : h.Ns mainGlobals mg) {x : Str} {z : Nm} {u : Str} {t : Tok} (a : PySem.W.nsIn K mainGlobals x = some (some (.str u t))) (e : u = toS z) : GlFact mg (x, .str z) :=
  ⟨_, .str (toS z), PySem.W.mg_of X G a, rfl, ⟨t, by rw [e]⟩⟩
/-- a constant that is worked out at the top -/
theorem gl_looseI {p : Program} {lv : List (Str × PySem.W.WData)} {mg : Str → Option Value} {h : Heap} (X : PySem.W.XL p lv mg h) {x : Str} {i : Int} (m : (x, PySem.W.WData.int i) ∈ lv) : GlFact mg (x, .int i) := by
  obtain ⟨v, hv, r⟩ := X.2.val _ m
  obtain ⟨t, e, -⟩ := PySem.W.readsW_int_inv r
  exact ⟨v, .int i, hv, rfl, ⟨t, e⟩⟩
theorem gl_looseS {p : Program} {lv : List (Str × PySem.W.WData)} {mg : Str → Option Value} {h : Heap} (X : PySem.W.XL p lv mg h) {x : Str} {z : Nm} (m : (x, PySem.W.WData.str (toS z)) ∈ lv) : GlFact mg (x, .str z) := by
  obtain ⟨v, hv, r⟩ := X.2.val _ m
  obtain ⟨t, e, -⟩ := PySem.W.readsW_str_inv r
  exact ⟨v, .str (toS z), hv, rfl, ⟨t, e⟩⟩
end Tp

/-! The interpreter run by hand: lemmas for the plain laws. -/
namespace Tp
open PySem PySem.Spec PyProof.Rows L2
theorem bind_ok {α β : Type} {r : Res α} {f : α → Store → Res β} {a : α} {S : Store} (h : r = .ok a S) : r.bind f = f a S := by rw [h]; rfl
theorem trunc_p {r : Res W} {x : P} {S : Store} (h : r = .ok (.p x) S) : (callTrunc S.length r fun w S2 => back S.length w S2) = .ok (.p x) S := by
  rw [h]
  show back S.length (.p x) S = _
  unfold back leaveW
  simp
/-- a call that may change the cells but makes none that stay -/
theorem trunc_q {r : Res W} {x : P} {S S' : Store} (h : r = .ok (.p x) S') {n : Nat} (hn : n ≤ S'.length) : (callTrunc n r fun w S2 => back n w S2) = .ok (.p x) (S'.take n) := by
  rw [h]; rfl
theorem comp_vals {t : Tg} {conds : Fr → Store → Res Bool} {elt : Fr → Store → Res W} {σ0 : Fr} {S : Store} {c : P → Bool} {f : P → P} : ∀ (xs : List P) (n : Nat) (acc : List P), xs.length < n → acc.length + xs.length ≤ line →
    (∀ x ∈ xs, ∃ σ1, asgT t (.p x) σ0 = some σ1 ∧ conds σ1 S = .ok (c x) S ∧ (c x = true → elt σ1 S = .ok (.p (f x)) S)) → compGo t conds elt σ0 n (.vals xs) acc S = .ok (acc ++ (xs.filter c).map f) S
  | [], n + 1, acc, _, _, _ => by
    unfold compGo
    simp [Src.next]
  | x :: xs, n + 1, acc, hn, hl, h => by
    obtain ⟨σ1, h1, h2, h3⟩ := h x List.mem_cons_self
    have ih := comp_vals (t := t) (conds := conds) (elt := elt) (σ0 := σ0) (S := S) (c := c) (f := f) xs n
    simp only [List.length_cons] at hn hl
    unfold compGo
    simp only [Src.next, h1, h2]
    cases hc : c x with
    | false =>
      rw [if_neg Bool.false_ne_true, ih acc (by omega) (by omega) fun y hy => h y (List.mem_cons_of_mem _ hy), List.filter_cons_of_neg (by rw [hc]; decide)]
    | true =>
      rw [if_pos rfl, h3 hc]
      show (if acc.length < line then _ else _) = _
      rw [if_pos (by omega), ih (acc ++ [f x]) (by omega) (by simp; omega) fun y hy => h y (List.mem_cons_of_mem _ hy), List.filter_cons_of_pos hc]
      simp
theorem comp_enm {t : Tg} {conds : Fr → Store → Res Bool} {elt : Fr → Store → Res W} {σ0 : Fr} {S : Store} {c : Nat → P → Bool} {f : Nat → P → P} : ∀ (xs : List P) (i n : Nat) (acc : List P), xs.length < n → acc.length + xs.length ≤ line →
    (∀ (j : Nat) (x : P), x ∈ xs → ∃ σ1, asgT t (.pr [.int (j : Nat), x]) σ0 = some σ1 ∧ conds σ1 S = .ok (c j x) S ∧ (c j x = true → elt σ1 S = .ok (.p (f j x)) S)) →
    compGo t conds elt σ0 n (.enm i xs) acc S = .ok (acc ++ ((xs.zipIdx i).filter fun p => c p.2 p.1).map fun p => f p.2 p.1) S
  | [], i, n + 1, acc, _, _, _ => by
    unfold compGo
    simp [Src.next]
  | x :: xs, i, n + 1, acc, hn, hl, h => by
    obtain ⟨σ1, h1, h2, h3⟩ := h i x List.mem_cons_self
    have ih := comp_enm (t := t) (conds := conds) (elt := elt) (σ0 := σ0) (S := S) (c := c) (f := f) xs (i + 1) n
    simp only [List.length_cons] at hn hl
    unfold compGo
    simp only [Src.next, h1, h2, List.zipIdx_cons]
    cases hc : c i x with
    | false =>
      rw [if_neg Bool.false_ne_true, ih acc (by omega) (by omega) fun j y hy => h j y (List.mem_cons_of_mem _ hy), List.filter_cons_of_neg (by simp [hc])]
    | true =>
      rw [if_pos rfl, h3 hc]
      show (if acc.length < line then _ else _) = _
      rw [if_pos (by omega), ih (acc ++ [f i x]) (by omega) (by simp; omega) fun j y hy => h j y (List.mem_cons_of_mem _ hy), List.filter_cons_of_pos (by simp [hc])]
      simp
theorem comp_rng {t : Tg} {conds : Fr → Store → Res Bool} {elt : Fr → Store → Res W} {σ0 : Fr} {S : Store} {c : Int → Bool} {f : Int → P} : ∀ (k : Nat) (lo : Int) (n : Nat) (acc : List P), k < n → acc.length + k ≤ line →
    (∀ j : Int, lo ≤ j → j < lo + k → ∃ σ1, asgT t (.p (.int j)) σ0 = some σ1 ∧ conds σ1 S = .ok (c j) S ∧ (c j = true → elt σ1 S = .ok (.p (f j)) S)) →
    compGo t conds elt σ0 n (.rng lo k) acc S = .ok (acc ++ (((List.range k).map fun i : Nat => lo + (i : Int)).filter c).map f) S
  | 0, lo, n + 1, acc, _, _, _ => by
    unfold compGo
    simp [Src.next]
  | k + 1, lo, n + 1, acc, hn, hl, h => by
    obtain ⟨σ1, h1, h2, h3⟩ := h lo (Int.le_refl _) (by omega)
    have ih := comp_rng (t := t) (conds := conds) (elt := elt) (σ0 := σ0) (S := S) (c := c) (f := f) k (lo + 1) n
    have e : (List.range (k + 1)).map (fun i : Nat => lo + (i : Int)) = lo :: (List.range k).map fun i : Nat => lo + 1 + (i : Int) := by
      rw [List.range_succ_eq_map, List.map_cons, List.map_map]
      congr 1
      · simp
      · apply List.map_congr_left
        intro i _
        show lo + ((i + 1 : Nat) : Int) = _
        omega
    rw [e]
    unfold compGo
    simp only [Src.next, h1, h2]
    cases hc : c lo with
    | false =>
      rw [if_neg Bool.false_ne_true, ih acc (by omega) (by omega) fun j h4 h5 => h j (by omega) (by omega), List.filter_cons_of_neg (by rw [hc]; decide)]
    | true =>
      rw [if_pos rfl, h3 hc]
      show (if acc.length < line then _ else _) = _
      rw [if_pos (by omega), ih (acc ++ [f lo]) (by omega) (by simp; omega) fun j h4 h5 => h j (by omega) (by omega), List.filter_cons_of_pos hc]
      simp
theorem comp_zip {t : Tg} {conds : Fr → Store → Res Bool} {elt : Fr → Store → Res W} {σ0 : Fr} {S : Store} {c : P → P → Bool} {f : P → P → P} : ∀ (xs ys : List P) (n : Nat) (acc : List P), xs.length < n → acc.length + xs.length ≤ line →
    (∀ x y, (x, y) ∈ xs.zip ys → ∃ σ1, asgT t (.pr [x, y]) σ0 = some σ1 ∧ conds σ1 S = .ok (c x y) S ∧ (c x y = true → elt σ1 S = .ok (.p (f x y)) S)) →
    compGo t conds elt σ0 n (.zip xs ys) acc S = .ok (acc ++ ((xs.zip ys).filter fun p => c p.1 p.2).map fun p => f p.1 p.2) S
  | [], ys, n + 1, acc, _, _, _ => by
    unfold compGo
    simp [Src.next]
  | x :: xs, [], n + 1, acc, _, _, _ => by
    unfold compGo
    simp [Src.next]
  | x :: xs, y :: ys, n + 1, acc, hn, hl, h => by
    obtain ⟨σ1, h1, h2, h3⟩ := h x y (by simp)
    have ih := comp_zip (t := t) (conds := conds) (elt := elt) (σ0 := σ0) (S := S) (c := c) (f := f) xs ys n
    simp only [List.length_cons] at hn hl
    unfold compGo
    simp only [Src.next, h1, h2, List.zip_cons_cons]
    cases hc : c x y with
    | false =>
      rw [if_neg Bool.false_ne_true, ih acc (by omega) (by omega) fun a b hy => h a b (List.mem_cons_of_mem _ hy), List.filter_cons_of_neg (by simp [hc])]
    | true =>
      rw [if_pos rfl, h3 hc]
      show (if acc.length < line then _ else _) = _
      rw [if_pos (by omega), ih (acc ++ [f x y]) (by omega) (by simp; omega) fun a b hy => h a b (List.mem_cons_of_mem _ hy), List.filter_cons_of_pos (by simp [hc])]
      simp
theorem pBls_map {α : Type} (g : α → Bool) : ∀ l : List α, pBls (l.map fun x => .bl (g x)) = some (l.map g)
  | [] => rfl
  | x :: r => by
    show (match pBls (r.map fun x => .bl (g x)) with | some is => some (g x :: is) | none => none) = _
    rw [pBls_map g r]; rfl
theorem pBls_bl : ∀ l : List Bool, pBls (l.map P.bl) = some l
  | [] => rfl
  | x :: r => by
    show (match pBls (r.map P.bl) with | some is => some (x :: is) | none => none) = _
    rw [pBls_bl r]
theorem pInts_int : ∀ l : List Int, pInts (l.map P.int) = some l
  | [] => rfl
  | x :: r => by
    show (match pInts (r.map P.int) with | some is => some (x :: is) | none => none) = _
    rw [pInts_int r]
theorem pNms_str : ∀ l : List Nm, pNms (l.map P.str) = some l
  | [] => rfl
  | x :: r => by
    show (match pNms (r.map P.str) with | some is => some (x :: is) | none => none) = _
    rw [pNms_str r]
theorem pInts_map {α : Type} (g : α → Int) : ∀ l : List α, pInts (l.map fun x => .int (g x)) = some (l.map g)
  | [] => rfl
  | x :: r => by
    show (match pInts (r.map fun x => .int (g x)) with | some is => some (g x :: is) | none => none) = _
    rw [pInts_map g r]; rfl
theorem pNms_map {α : Type} (g : α → Nm) : ∀ l : List α, pNms (l.map fun x => .str (g x)) = some (l.map g)
  | [] => rfl
  | x :: r => by
    show (match pNms (r.map fun x => .str (g x)) with | some is => some (g x :: is) | none => none) = _
    rw [pNms_map g r]; rfl
theorem cut1 {α : Type} (xs : List α) : cutL xs (some 1) none = xs.drop 1 := by
  cases xs with
  | nil => rfl
  | cons x r =>
    have e : sIx (x :: r).length 0 (some 1) = 1 := by
      show (if (1 : Int) < 0 then ((1 : Int) + ((x :: r).length : Int)).toNat else min (1 : Int).toNat (x :: r).length) = 1
      rw [if_neg (by decide)]
      simp
    unfold cutL
    rw [e]
    show ((x :: r).drop 1).take ((x :: r).length - 1) = _
    simp
/-- a list comprehension, from its walk and its turns -/
theorem lc_of {cf : CallF} {e : Ex} {tg : Tg} {it : Itr} {ifs : Exs} {own : List Nat} {σ : Fr} {S S1 S2 : Store} {src : Src} {ys : List P} (h1 : dI cf it σ S = .ok src S1)
    (h2 : compGo tg (fun σ1 S2 => dConds cf ifs σ1 S2) (fun σ1 S2 => dE cf e σ1 S2) (wipeF σ own) bigN src [] S1 = .ok ys S2) : dE cf (.lc e tg it ifs own) σ S = .ok (.p (.lst ys)) S2 := by
  rw [dE, h1]
  show (compGo _ _ _ _ _ _ _ _).bind _ = _
  rw [h2]
  rfl
theorem filter_true {α : Type} (l : List α) : l.filter (fun _ => true) = l := by simp
end Tp

namespace K01
open PySem L2 Tp
@[reducible] def i_is_whole : Nat := 0
@[reducible] def i_is_tuple_of : Nat := 1
@[reducible] def i_is_rising : Nat := 2
@[reducible] def i_fits_name : Nat := 3
@[reducible] def i_fits_bound : Nat := 4
@[reducible] def i_fits_statement : Nat := 5
@[reducible] def i_fits_events : Nat := 6
@[reducible] def i_fits_telling : Nat := 7
@[reducible] def i_need_telling : Nat := 8
@[reducible] def i_fits_course : Nat := 9
@[reducible] def i_need_course : Nat := 10
@[reducible] def i_gap_in : Nat := 11
@[reducible] def i_keeps : Nat := 12
@[reducible] def i_part_in : Nat := 13
@[reducible] def i_is_telling : Nat := 14
@[reducible] def i_is_kept : Nat := 15
@[reducible] def i_kept_statements : Nat := 16
@[reducible] def i_shifted_course : Nat := 17
@[reducible] def i_homed_course : Nat := 18
@[reducible] def i_order_in : Nat := 19
@[reducible] def i_with_statement : Nat := 20
@[reducible] def i_some_statements : Nat := 21
@[reducible] def i__law_cup : Nat := 22
@[reducible] def i__law_roll : Nat := 23
@[reducible] def i__law_some : Nat := 24
@[reducible] def i__law_same : Nat := 25
@[reducible] def i__law_telling : Nat := 26
@[reducible] def i__law_right : Nat := 27
@[reducible] def i_law : Nat := 28
/-- is_whole -/
def d_is_whole : Def := { names := 3, pars := 3, body := (.cons (.ret (.and (.cons (.isi (.var 0) .int) (.cons (.not (.isi (.var 0) .bool)) (.cons (.cmp2 .le .le (.var 1) (.var 0) (.var 2)) .nil))))) .nil) }
/-- is_tuple_of -/
def d_is_tuple_of : Def := { names := 3, pars := 3, body := (.cons (.ret (.and (.cons (.isi (.var 0) .tuple) (.cons (.cmp2 .le .le (.var 1) (.f1 .len (.var 0)) (.var 2)) .nil)))) .nil) }
/-- in is_rising -/
def q_is_rising_0 : Ex := (.lc (.cmp .lt (.var 1) (.var 2)) (.tup (.cons (.name 1) (.cons (.name 2) .nil))) (.zip (.var 0) (.sl (.var 0) (.some (.cst (.int 1))) .none)) .nil [1, 2])
/-- is_rising -/
def d_is_rising : Def := { names := 3, pars := 1, body := (.cons (.ret (.f1 .all q_is_rising_0)) .nil) }
/-- in fits_name -/
def q_fits_name_0 : Ex := (.lc (.cmp .isin (.var 1) (.glob (.str [97, 98, 99, 100, 101, 102, 103, 104, 105, 106, 107, 108, 109, 110, 111, 112, 113, 114, 115, 116, 117, 118, 119, 120, 121, 122, 48, 49, 50, 51, 52, 53, 54, 55, 56, 57, 45]))) (.name 1) (.of (.var 0)) .nil [1])
/-- fits_name -/
def d_fits_name : Def := { names := 2, pars := 1, body := (.cons (.ifS (.or (.cons (.not (.isi (.var 0) .str)) (.cons (.not (.cmp2 .le .le (.cst (.int 1)) (.f1 .len (.var 0)) (.glob (.int 12)))) .nil))) (.cons (.ret (.cst (.bl false))) .nil) .nil) (.cons (.ret (.and (.cons (.cmp .isin (.ix (.var 0) (.cst (.int 0))) (.glob (.str [97, 98, 99, 100, 101, 102, 103, 104, 105, 106, 107, 108, 109, 110, 111, 112, 113, 114, 115, 116, 117, 118, 119, 120, 121, 122]))) (.cons (.f1 .all q_fits_name_0) .nil)))) .nil)) }
/-- fits_bound -/
def d_fits_bound : Def := { names := 1, pars := 1, body := (.cons (.ret (.or (.cons (.cmp .is (.var 0) (.cst .non)) (.cons (.call i_is_whole (.cons (.var 0) (.cons (.neg (.glob (.int 1000000))) (.cons (.glob (.int 1000000)) .nil)))) .nil)))) .nil) }
/-- fits_statement -/
def d_fits_statement : Def := { names := 2, pars := 2, body := (.cons (.ifS (.or (.cons (.not (.call i_is_tuple_of (.cons (.var 1) (.cons (.cst (.int 4)) (.cons (.cst (.int 4)) .nil))))) (.cons (.not (.isi (.ix (.var 1) (.cst (.int 0))) .str)) (.cons (.not (.isi (.ix (.var 1) (.cst (.int 1))) .str)) .nil)))) (.cons (.ret (.cst (.bl false))) .nil) .nil) (.cons (.ifS (.or (.cons (.cmp .notin (.ix (.var 1) (.cst (.int 0))) (.var 0)) (.cons (.cmp .notin (.ix (.var 1) (.cst (.int 1))) (.var 0)) (.cons (.cmp .eq (.ix (.var 1) (.cst (.int 0))) (.ix (.var 1) (.cst (.int 1)))) .nil)))) (.cons (.ret (.cst (.bl false))) .nil) .nil) (.cons (.ifS (.or (.cons (.not (.call i_fits_bound (.cons (.ix (.var 1) (.cst (.int 2))) .nil))) (.cons (.not (.call i_fits_bound (.cons (.ix (.var 1) (.cst (.int 3))) .nil))) .nil))) (.cons (.ret (.cst (.bl false))) .nil) .nil) (.cons (.ret (.or (.cons (.cmp .is (.ix (.var 1) (.cst (.int 2))) (.cst .non)) (.cons (.cmp .is (.ix (.var 1) (.cst (.int 3))) (.cst .non)) (.cons (.cmp .le (.ix (.var 1) (.cst (.int 2))) (.ix (.var 1) (.cst (.int 3)))) .nil))))) .nil)))) }
/-- in fits_events -/
def q_fits_events_0 : Ex := (.lc (.call i_fits_name (.cons (.var 1) .nil)) (.name 1) (.of (.var 0)) .nil [1])
/-- fits_events -/
def d_fits_events : Def := { names := 2, pars := 1, body := (.cons (.ret (.and (.cons (.call i_is_tuple_of (.cons (.var 0) (.cons (.cst (.int 1)) (.cons (.glob (.int 24)) .nil)))) (.cons (.f1 .all q_fits_events_0) (.cons (.call i_is_rising (.cons (.var 0) .nil)) .nil))))) .nil) }
/-- in fits_telling -/
def q_fits_telling_0 : Ex := (.lc (.call i_fits_statement (.cons (.ix (.var 0) (.cst (.int 0))) (.cons (.var 1) .nil))) (.name 1) (.of (.ix (.var 0) (.cst (.int 1)))) .nil [1])
/-- fits_telling -/
def d_fits_telling : Def := { names := 2, pars := 1, body := (.cons (.ifS (.or (.cons (.not (.call i_is_tuple_of (.cons (.var 0) (.cons (.cst (.int 2)) (.cons (.cst (.int 2)) .nil))))) (.cons (.not (.call i_fits_events (.cons (.ix (.var 0) (.cst (.int 0))) .nil))) (.cons (.not (.call i_is_tuple_of (.cons (.ix (.var 0) (.cst (.int 1))) (.cons (.cst (.int 0)) (.cons (.glob (.int 60)) .nil))))) .nil)))) (.cons (.ret (.cst (.bl false))) .nil) .nil) (.cons (.ret (.f1 .all q_fits_telling_0)) .nil)) }
/-- need_telling -/
def d_need_telling : Def := { names := 1, pars := 1, body := (.cons (.ifS (.not (.call i_fits_telling (.cons (.var 0) .nil))) (.cons (.raise 1) .nil) .nil) .nil) }
/-- in fits_course -/
def q_fits_course_0 : Ex := (.lc (.call i_is_whole (.cons (.var 3) (.cons (.neg (.glob (.int 100000000))) (.cons (.glob (.int 100000000)) .nil)))) (.name 3) (.of (.var 1)) .nil [3])
/-- fits_course -/
def d_fits_course : Def := { names := 4, pars := 2, body := (.cons (.asg (.name 2) (.f1 .len (.ix (.var 0) (.cst (.int 0))))) (.cons (.ret (.and (.cons (.call i_is_tuple_of (.cons (.var 1) (.cons (.var 2) (.cons (.var 2) .nil)))) (.cons (.f1 .all q_fits_course_0) .nil)))) .nil)) }
/-- need_course -/
def d_need_course : Def := { names := 2, pars := 2, body := (.cons (.expr (.call i_need_telling (.cons (.var 0) .nil))) (.cons (.ifS (.not (.call i_fits_course (.cons (.var 0) (.cons (.var 1) .nil)))) (.cons (.raise 2) .nil) .nil) .nil)) }
/-- gap_in -/
def d_gap_in : Def := { names := 4, pars := 4, body := (.cons (.ret (.bin .sub (.ix (.var 1) (.index (.ix (.var 0) (.cst (.int 0))) (.var 3))) (.ix (.var 1) (.index (.ix (.var 0) (.cst (.int 0))) (.var 2))))) .nil) }
/-- keeps -/
def d_keeps : Def := { names := 4, pars := 3, body := (.cons (.asg (.name 3) (.call i_gap_in (.cons (.var 0) (.cons (.var 1) (.cons (.ix (.var 2) (.cst (.int 0))) (.cons (.ix (.var 2) (.cst (.int 1))) .nil)))))) (.cons (.ret (.and (.cons (.or (.cons (.cmp .is (.ix (.var 2) (.cst (.int 2))) (.cst .non)) (.cons (.cmp .ge (.var 3) (.ix (.var 2) (.cst (.int 2)))) .nil))) (.cons (.or (.cons (.cmp .is (.ix (.var 2) (.cst (.int 3))) (.cst .non)) (.cons (.cmp .le (.var 3) (.ix (.var 2) (.cst (.int 3)))) .nil))) .nil)))) .nil)) }
/-- in part_in -/
def q_part_in_0 : Ex := (.lc (.ix (.ix (.var 0) (.cst (.int 1))) (.var 2)) (.name 2) (.of (.var 1)) .nil [2])
/-- part_in -/
def d_part_in : Def := { names := 3, pars := 2, body := (.cons (.ret (.tup (.cons (.ix (.var 0) (.cst (.int 0))) (.cons (.f1 .tuple q_part_in_0) .nil)))) .nil) }
/-- is_telling -/
def d_is_telling : Def := { names := 1, pars := 1, body := (.cons (.ret (.call i_fits_telling (.cons (.var 0) .nil))) .nil) }
/-- in is_kept -/
def q_is_kept_0 : Ex := (.lc (.call i_keeps (.cons (.var 0) (.cons (.var 1) (.cons (.var 2) .nil)))) (.name 2) (.of (.ix (.var 0) (.cst (.int 1)))) .nil [2])
/-- is_kept -/
def d_is_kept : Def := { names := 3, pars := 2, body := (.cons (.expr (.call i_need_course (.cons (.var 0) (.cons (.var 1) .nil)))) (.cons (.ret (.f1 .all q_is_kept_0)) .nil)) }
/-- in kept_statements -/
def q_kept_statements_0 : Ex := (.lc (.var 2) (.tup (.cons (.name 2) (.cons (.name 3) .nil))) (.enm (.ix (.var 0) (.cst (.int 1)))) (.cons (.call i_keeps (.cons (.var 0) (.cons (.var 1) (.cons (.var 3) .nil)))) .nil) [2, 3])
/-- kept_statements -/
def d_kept_statements : Def := { names := 4, pars := 2, body := (.cons (.expr (.call i_need_course (.cons (.var 0) (.cons (.var 1) .nil)))) (.cons (.ret (.f1 .tuple q_kept_statements_0)) .nil)) }
/-- in shifted_course -/
def q_shifted_course_0 : Ex := (.lc (.bin .add (.var 4) (.var 2)) (.name 4) (.of (.var 1)) .nil [4])
/-- shifted_course -/
def d_shifted_course : Def := { names := 5, pars := 3, body := (.cons (.expr (.call i_need_course (.cons (.var 0) (.cons (.var 1) .nil)))) (.cons (.ifS (.not (.call i_is_whole (.cons (.var 2) (.cons (.neg (.glob (.int 100000000))) (.cons (.glob (.int 100000000)) .nil))))) (.cons (.raise 3) .nil) .nil) (.cons (.asg (.name 3) (.f1 .tuple q_shifted_course_0)) (.cons (.ifS (.not (.call i_fits_course (.cons (.var 0) (.cons (.var 3) .nil)))) (.cons (.raise 2) .nil) .nil) (.cons (.ret (.var 3)) .nil))))) }
/-- in homed_course -/
def q_homed_course_0 : Ex := (.lc (.bin .sub (.var 3) (.f1 .min (.var 1))) (.name 3) (.of (.var 1)) .nil [3])
/-- homed_course -/
def d_homed_course : Def := { names := 4, pars := 2, body := (.cons (.expr (.call i_need_course (.cons (.var 0) (.cons (.var 1) .nil)))) (.cons (.asg (.name 2) (.f1 .tuple q_homed_course_0)) (.cons (.ifS (.not (.call i_fits_course (.cons (.var 0) (.cons (.var 2) .nil)))) (.cons (.raise 2) .nil) .nil) (.cons (.ret (.var 2)) .nil)))) }
/-- in order_in -/
def q_order_in_0 : Ex := (.lc (.var 4) (.tup (.cons (.name 4) (.cons (.name 5) .nil))) (.zip (.ix (.var 0) (.cst (.int 0))) (.var 1)) (.cons (.cmp .eq (.var 5) (.var 3)) .nil) [4, 5])
/-- in order_in -/
def q_order_in_1 : Ex := (.lc (.f1 .tuple q_order_in_0) (.name 3) (.of (.var 2)) .nil [3])
/-- in order_in -/
def q_order_in_2 : Ex := (.dc (.var 3) (.cst (.bl true)) (.name 3) (.of (.var 1)) .nil [3])
/-- order_in -/
def d_order_in : Def := { names := 6, pars := 2, body := (.cons (.expr (.call i_need_course (.cons (.var 0) (.cons (.var 1) .nil)))) (.cons (.asg (.name 2) (.f1 .sorted q_order_in_2)) (.cons (.ret (.f1 .tuple q_order_in_1)) .nil))) }
/-- with_statement -/
def d_with_statement : Def := { names := 2, pars := 2, body := (.cons (.expr (.call i_need_telling (.cons (.var 0) .nil))) (.cons (.ifS (.or (.cons (.not (.call i_fits_statement (.cons (.ix (.var 0) (.cst (.int 0))) (.cons (.var 1) .nil)))) (.cons (.cmp .eq (.f1 .len (.ix (.var 0) (.cst (.int 1)))) (.glob (.int 60))) .nil))) (.cons (.raise 1) .nil) .nil) (.cons (.ret (.tup (.cons (.ix (.var 0) (.cst (.int 0))) (.cons (.bin .add (.ix (.var 0) (.cst (.int 1))) (.tup (.cons (.var 1) .nil))) .nil)))) .nil))) }
/-- in some_statements -/
def q_some_statements_0 : Ex := (.lc (.call i_is_whole (.cons (.var 3) (.cons (.cst (.int 0)) (.cons (.bin .sub (.var 2) (.cst (.int 1))) .nil)))) (.name 3) (.of (.var 1)) .nil [3])
/-- some_statements -/
def d_some_statements : Def := { names := 4, pars := 2, body := (.cons (.expr (.call i_need_telling (.cons (.var 0) .nil))) (.cons (.asg (.name 2) (.f1 .len (.ix (.var 0) (.cst (.int 1))))) (.cons (.ifS (.or (.cons (.not (.call i_is_tuple_of (.cons (.var 1) (.cons (.cst (.int 0)) (.cons (.var 2) .nil))))) (.cons (.not (.f1 .all q_some_statements_0)) .nil))) (.cons (.raise 1) .nil) .nil) (.cons (.ifS (.not (.call i_is_rising (.cons (.var 1) .nil))) (.cons (.raise 1) .nil) .nil) (.cons (.ret (.call i_part_in (.cons (.var 0) (.cons (.var 1) .nil)))) .nil))))) }
/-- _law_cup -/
def d__law_cup : Def := { names := 2, pars := 1, body := (.cons (.asg (.name 1) (.f1 .abs (.ix (.bin .add (.f1 .list (.var 0)) (.lst (.cons (.cst (.int 0)) .nil))) (.cst (.int 0))))) (.cons (.ret (.new (.lst (.cons (.ite (.cmp .ge (.var 1) (.bin .pow (.cst (.int 10)) (.cst (.int 18)))) (.bin .fdiv (.var 1) (.cst (.int 97))) (.cst (.int 0))) (.cons (.bin .add (.bin .mod (.f1 .int (.bin .add (.bin .mul (.var 1) (.cst (.int 337))) (.cst (.int 4051)))) (.cst (.int 2077496497))) (.cst (.int 179))) .nil))))) .nil)) }
/-- _law_roll -/
def d__law_roll : Def := { names := 4, pars := 2, body := (.cons (.ifS (.cmp .gt (.ix (.var 0) (.cst (.int 0))) (.cst (.int 0))) (.cons (.asg (.name 3) (.bin .mod (.f1 .int (.ix (.var 0) (.cst (.int 0)))) (.var 1))) (.cons (.setI (.var 0) (.cst (.int 0)) (.bin .fdiv (.ix (.var 0) (.cst (.int 0))) (.var 1))) (.cons (.ret (.var 3)) .nil))) .nil) (.cons (.setI (.var 0) (.cst (.int 1)) (.bin .mod (.f1 .int (.bin .add (.bin .mul (.ix (.var 0) (.cst (.int 1))) (.cst (.int 30931))) (.cst (.int 7907)))) (.cst (.int 2147483399)))) (.cons (.asg (.name 2) (.bin .mod (.f1 .int (.bin .mul (.ix (.var 0) (.cst (.int 1))) (.bin .add (.ix (.var 0) (.cst (.int 1))) (.cst (.int 251))))) (.cst (.int 2147483563)))) (.cons (.ret (.bin .mod (.f1 .int (.bin .fdiv (.var 2) (.cst (.int 829)))) (.var 1))) .nil)))) }
/-- _law_some -/
def d__law_some : Def := { names := 2, pars := 2, body := (.cons (.ret (.ix (.var 1) (.call i__law_roll (.cons (.var 0) (.cons (.f1 .len (.var 1)) .nil))))) .nil) }
/-- in _law_same -/
def q__law_same_0 : Ex := (.lc (.call i__law_same (.cons (.ix (.var 0) (.var 2)) (.cons (.ix (.var 1) (.var 2)) .nil))) (.name 2) (.range1 (.f1 .len (.var 1))) .nil [2])
/-- _law_same -/
def d__law_same : Def := { names := 3, pars := 2, body := (.cons (.ifS (.isi (.var 1) .tuple) (.cons (.ifS (.or (.cons (.not (.isi (.var 0) .tuple)) (.cons (.cmp .ne (.f1 .len (.var 0)) (.f1 .len (.var 1))) .nil))) (.cons (.ret (.cst (.bl false))) .nil) .nil) (.cons (.ret (.f1 .all q__law_same_0)) .nil)) .nil) (.cons (.ifS (.cmp .is (.var 1) (.cst .non)) (.cons (.ret (.cmp .is (.var 0) (.cst .non))) .nil) .nil) (.cons (.ifS (.isi (.var 1) .bool) (.cons (.ret (.ite (.var 1) (.cmp .is (.var 0) (.cst (.bl true))) (.cmp .is (.var 0) (.cst (.bl false))))) .nil) .nil) (.cons (.ifS (.isi (.var 1) .int) (.cons (.ret (.and (.cons (.isi (.var 0) .int) (.cons (.not (.isi (.var 0) .bool)) (.cons (.cmp .eq (.f1 .int (.var 0)) (.var 1)) .nil))))) .nil) .nil) (.cons (.ret (.and (.cons (.isi (.var 0) .str) (.cons (.cmp .eq (.f1 .str (.var 0)) (.var 1)) .nil)))) .nil))))) }
/-- in _law_telling -/
def b__law_telling_0 : Sts := (.cons (.asg (.name 8) (.call i__law_roll (.cons (.var 0) (.cons (.f1 .len (.var 4)) .nil)))) (.cons (.asg (.name 9) (.bin .mod (.f1 .int (.bin .add (.bin .add (.var 8) (.cst (.int 1))) (.call i__law_roll (.cons (.var 0) (.cons (.bin .sub (.f1 .len (.var 4)) (.cst (.int 1))) .nil))))) (.f1 .len (.var 4)))) (.cons (.asg (.name 10) (.bin .add (.bin .sub (.ix (.var 6) (.var 9)) (.ix (.var 6) (.var 8))) (.call i__law_some (.cons (.var 0) (.cons (.lst (.cons (.cst (.int 0)) (.cons (.cst (.int 0)) (.cons (.cst (.int 0)) (.cons (.bin .sub (.call i__law_roll (.cons (.var 0) (.cons (.cst (.int 5)) .nil))) (.cst (.int 2))) .nil))))) .nil))))) (.cons (.par [11, 12] (.cons (.bin .sub (.var 10) (.call i__law_roll (.cons (.var 0) (.cons (.cst (.int 3)) .nil)))) (.cons (.bin .add (.var 10) (.call i__law_roll (.cons (.var 0) (.cons (.cst (.int 3)) .nil)))) .nil))) (.cons (.expr (.app (.var 7) (.bin .add (.tup (.cons (.ix (.var 4) (.var 8)) (.cons (.ix (.var 4) (.var 9)) .nil))) (.call i__law_some (.cons (.var 0) (.cons (.lst (.cons (.tup (.cons (.var 11) (.cons (.var 12) .nil))) (.cons (.tup (.cons (.var 11) (.cons (.cst .non) .nil))) (.cons (.tup (.cons (.cst .non) (.cons (.var 12) .nil))) (.cons (.tup (.cons (.var 10) (.cons (.var 10) .nil))) (.cons (.tup (.cons (.cst .non) (.cons (.cst .non) .nil))) .nil)))))) .nil)))))) .nil)))))
/-- in _law_telling -/
def r__law_telling_1 : Tp.St := (.forS (.name 5) (.range1 (.ite (.cmp .gt (.f1 .len (.var 4)) (.cst (.int 1))) (.call i__law_roll (.cons (.var 0) (.cons (.bin .add (.var 2) (.cst (.int 1))) .nil))) (.cst (.int 0)))) b__law_telling_0)
/-- in _law_telling -/
def q__law_telling_2 : Ex := (.lc (.call i__law_roll (.cons (.var 0) (.cons (.var 3) .nil))) (.name 13) (.of (.var 4)) .nil [13])
/-- _law_telling -/
def d__law_telling : Def := { names := 14, pars := 4, body := (.cons (.asg (.name 4) (.sl (.tup (.cons (.cst (.str [97])) (.cons (.cst (.str [98])) (.cons (.cst (.str [99])) (.cons (.cst (.str [100, 100])) (.cons (.cst (.str [101, 45, 49])) (.cons (.cst (.str [102])) .nil))))))) .none (.some (.bin .add (.cst (.int 1)) (.call i__law_roll (.cons (.var 0) (.cons (.var 1) .nil))))))) (.cons (.par [6, 7] (.cons q__law_telling_2 (.cons (.new (.lst .nil)) .nil))) (.cons r__law_telling_1 (.cons (.ret (.tup (.cons (.var 4) (.cons (.f1 .tuple (.var 7)) .nil)))) .nil)))) }
/-- in _law_right -/
def q__law_right_0 : Ex := (.lc (.var 14) (.name 14) (.of (.var 7)) (.cons (.cmp .notin (.var 14) (.call i_kept_statements (.cons (.var 4) (.cons (.var 11) .nil)))) .nil) [14])
/-- in _law_right -/
def q__law_right_1 : Ex := (.lc (.ix (.ix (.var 4) (.cst (.int 1))) (.var 14)) (.name 14) (.of (.var 7)) .nil [14])
/-- in _law_right -/
def q__law_right_2 : Ex := (.lc (.var 14) (.name 14) (.range1 (.f1 .len (.ix (.var 4) (.cst (.int 1))))) (.cons (.cmp .eq (.call i__law_roll (.cons (.var 0) (.cons (.cst (.int 2)) .nil))) (.cst (.int 0))) .nil) [14])
/-- in _law_right -/
def b__law_right_3 : Sts := (.cons (.ifS (.or (.cons (.cmp .ne (.call i_kept_statements (.cons (.var 4) (.cons (.var 6) .nil))) (.call i_kept_statements (.cons (.var 4) (.cons (.var 11) .nil)))) (.cons (.cmp .ne (.call i_order_in (.cons (.var 4) (.cons (.var 6) .nil))) (.call i_order_in (.cons (.var 4) (.cons (.var 11) .nil)))) (.cons (.cmp .ne (.call i_homed_course (.cons (.var 4) (.cons (.var 6) .nil))) (.var 5)) .nil)))) (.cons (.ret (.cst (.bl false))) .nil) .nil) .nil)
/-- in _law_right -/
def r__law_right_4 : Tp.St := (.forS (.name 6) (.of (.tup (.cons (.call i_shifted_course (.cons (.var 4) (.cons (.var 11) (.cons (.var 12) .nil)))) (.cons (.var 5) .nil)))) b__law_right_3)
/-- in _law_right -/
def q__law_right_5 : Ex := (.lc (.bin .add (.var 13) (.var 12)) (.name 13) (.of (.var 11)) .nil [13])
/-- in _law_right -/
def q__law_right_6 : Ex := (.lc (.bin .sub (.var 13) (.f1 .min (.var 11))) (.name 13) (.of (.var 11)) .nil [13])
/-- in _law_right -/
def q__law_right_7 : Ex := (.lc (.call i__law_roll (.cons (.var 0) (.cons (.var 3) .nil))) (.name 15) (.of (.ix (.var 4) (.cst (.int 0)))) .nil [15])
/-- _law_right -/
def d__law_right : Def := { names := 16, pars := 4, body := (.cons (.asg (.name 4) (.call i__law_telling (.cons (.var 0) (.cons (.var 1) (.cons (.var 2) (.cons (.var 3) .nil)))))) (.cons (.asg (.tup (.cons (.name 11) (.cons (.name 12) .nil))) (.tup (.cons (.f1 .tuple q__law_right_7) (.cons (.bin .sub (.call i__law_roll (.cons (.var 0) (.cons (.cst (.int 2001)) .nil))) (.cst (.int 1000))) .nil)))) (.cons (.asg (.name 5) (.f1 .tuple q__law_right_6)) (.cons (.ifS (.not (.call i__law_same (.cons (.tup (.cons (.call i_shifted_course (.cons (.var 4) (.cons (.var 11) (.cons (.var 12) .nil)))) (.cons (.call i_homed_course (.cons (.var 4) (.cons (.var 11) .nil))) .nil))) (.cons (.tup (.cons (.f1 .tuple q__law_right_5) (.cons (.var 5) .nil))) .nil)))) (.cons (.ret (.cst (.bl false))) .nil) .nil) (.cons r__law_right_4 (.cons (.asg (.name 7) (.f1 .tuple q__law_right_2)) (.cons (.asg (.name 8) (.tup (.cons (.ix (.var 4) (.cst (.int 0))) (.cons (.f1 .tuple q__law_right_1) .nil)))) (.cons (.ifS (.or (.cons (.not (.call i__law_same (.cons (.call i_some_statements (.cons (.var 4) (.cons (.var 7) .nil))) (.cons (.var 8) .nil)))) (.cons (.cmp .ne (.call i_is_kept (.cons (.var 8) (.cons (.var 11) .nil))) (.cmp .eq q__law_right_0 (.lst .nil))) .nil))) (.cons (.ret (.cst (.bl false))) .nil) .nil) (.cons (.ifS (.cmp .lt (.f1 .len (.ix (.var 4) (.cst (.int 0)))) (.cst (.int 2))) (.cons (.ret (.cst (.bl true))) .nil) .nil) (.cons (.asg (.name 9) (.tup (.cons (.ix (.ix (.var 4) (.cst (.int 0))) (.cst (.int 0))) (.cons (.ix (.ix (.var 4) (.cst (.int 0))) (.cst (.int 1))) (.cons (.bin .sub (.ix (.var 11) (.cst (.int 1))) (.ix (.var 11) (.cst (.int 0)))) (.cons (.cst .non) .nil)))))) (.cons (.asg (.name 10) (.call i_with_statement (.cons (.var 4) (.cons (.var 9) .nil)))) (.cons (.ifS (.not (.call i__law_same (.cons (.tup (.cons (.var 10) (.cons (.call i_is_telling (.cons (.var 10) .nil)) .nil))) (.cons (.tup (.cons (.tup (.cons (.ix (.var 4) (.cst (.int 0))) (.cons (.bin .add (.ix (.var 4) (.cst (.int 1))) (.tup (.cons (.var 9) .nil))) .nil))) (.cons (.cst (.bl true)) .nil))) .nil)))) (.cons (.ret (.cst (.bl false))) .nil) .nil) (.cons (.ret (.and (.cons (.cmp .eq (.call i_is_kept (.cons (.var 10) (.cons (.var 11) .nil))) (.call i_is_kept (.cons (.var 4) (.cons (.var 11) .nil)))) (.cons (.cmp .eq (.call i_some_statements (.cons (.var 10) (.cons (.rg1 true (.f1 .len (.ix (.var 4) (.cst (.int 1))))) .nil))) (.var 4)) .nil)))) .nil))))))))))))) }
/-- in law -/
def b_law_0 : Sts := (.cons (.ifS (.not (.call i__law_right (.cons (.var 1) (.cons (.var 4) (.cons (.var 5) (.cons (.var 6) .nil)))))) (.cons (.ret (.cst (.bl false))) .nil) .nil) .nil)
/-- in law -/
def r_law_1 : Tp.St := (.forS (.tup (.cons (.name 4) (.cons (.name 5) (.cons (.name 6) .nil)))) (.of (.tup (.cons (.tup (.cons (.cst (.int 1)) (.cons (.cst (.int 3)) (.cons (.cst (.int 5)) .nil)))) (.cons (.tup (.cons (.cst (.int 3)) (.cons (.cst (.int 4)) (.cons (.cst (.int 6)) .nil)))) (.cons (.tup (.cons (.cst (.int 6)) (.cons (.cst (.int 9)) (.cons (.cst (.int 20)) .nil)))) (.cons (.tup (.cons (.cst (.int 6)) (.cons (.cst (.int 20)) (.cons (.cst (.int 500)) .nil)))) .nil)))))) b_law_0)
/-- law -/
def d_law : Def := { names := 7, pars := 1, body := (.cons (.asg (.name 1) (.ncall i__law_cup (.cons (.var 0) .nil))) (.cons (.asg (.name 2) (.tup (.cons (.tup (.cons (.cst (.str [100, 105, 110, 110, 101, 114])) (.cons (.cst (.str [115, 104, 111, 116])) (.cons (.cst (.str [116, 114, 97, 105, 110])) .nil)))) (.cons (.tup (.cons (.tup (.cons (.cst (.str [100, 105, 110, 110, 101, 114])) (.cons (.cst (.str [115, 104, 111, 116])) (.cons (.cst (.int 30)) (.cons (.cst (.int 60)) .nil))))) (.cons (.tup (.cons (.cst (.str [115, 104, 111, 116])) (.cons (.cst (.str [116, 114, 97, 105, 110])) (.cons (.cst (.int 5)) (.cons (.cst .non) .nil))))) (.cons (.tup (.cons (.cst (.str [100, 105, 110, 110, 101, 114])) (.cons (.cst (.str [116, 114, 97, 105, 110])) (.cons (.cst .non) (.cons (.cst (.int 50)) .nil))))) .nil)))) .nil)))) (.cons (.asg (.name 3) (.tup (.cons (.call i_shifted_course (.cons (.var 2) (.cons (.tup (.cons (.cst (.int 0)) (.cons (.cst (.int 40)) (.cons (.cst (.int 45)) .nil)))) (.cons (.neg (.cst (.int 3))) .nil)))) (.cons (.call i_homed_course (.cons (.var 2) (.cons (.tup (.cons (.cst (.int 7)) (.cons (.cst (.int 47)) (.cons (.cst (.int 50)) .nil)))) .nil))) (.cons (.ix (.call i_some_statements (.cons (.var 2) (.cons (.tup (.cons (.cst (.int 1)) .nil)) .nil))) (.cst (.int 1))) .nil))))) (.cons (.asg (.name 3) (.bin .add (.var 3) (.tup (.cons (.ix (.ix (.call i_with_statement (.cons (.var 2) (.cons (.tup (.cons (.cst (.str [115, 104, 111, 116])) (.cons (.cst (.str [100, 105, 110, 110, 101, 114])) (.cons (.cst .non) (.cons (.cst (.int 0)) .nil))))) .nil))) (.cst (.int 1))) (.cst (.int 3))) (.cons (.ix (.call i_some_statements (.cons (.var 2) (.cons (.tup .nil) .nil))) (.cst (.int 1))) (.cons (.call i_homed_course (.cons (.var 2) (.cons (.tup (.cons (.neg (.cst (.int 4))) (.cons (.neg (.cst (.int 9))) (.cons (.cst (.int 0)) .nil)))) .nil))) .nil)))))) (.cons (.ifS (.not (.call i__law_same (.cons (.var 3) (.cons (.tup (.cons (.tup (.cons (.neg (.cst (.int 3))) (.cons (.cst (.int 37)) (.cons (.cst (.int 42)) .nil)))) (.cons (.tup (.cons (.cst (.int 0)) (.cons (.cst (.int 40)) (.cons (.cst (.int 43)) .nil)))) (.cons (.tup (.cons (.tup (.cons (.cst (.str [115, 104, 111, 116])) (.cons (.cst (.str [116, 114, 97, 105, 110])) (.cons (.cst (.int 5)) (.cons (.cst .non) .nil))))) .nil)) (.cons (.tup (.cons (.cst (.str [115, 104, 111, 116])) (.cons (.cst (.str [100, 105, 110, 110, 101, 114])) (.cons (.cst .non) (.cons (.cst (.int 0)) .nil))))) (.cons (.tup .nil) (.cons (.tup (.cons (.cst (.int 5)) (.cons (.cst (.int 0)) (.cons (.cst (.int 9)) .nil)))) .nil))))))) .nil)))) (.cons (.ret (.cst (.bl false))) .nil) .nil) (.cons r_law_1 (.cons (.ret (.cst (.bl true))) .nil))))))) }
def top (i : Nat) : Stmt := PySem.Challenge.pw_timestold_k01_whole_tellings_and_courses.main.body.getD i (.Pass ⟨0, 0, 0, 0⟩)
def ds : List DefI := [⟨d_is_whole, ["value", "low", "high"], ["value", "low", "high"], "is_whole", top 13⟩,
  ⟨d_is_tuple_of, ["value", "low", "high"], ["value", "low", "high"], "is_tuple_of", top 14⟩,
  ⟨d_is_rising, ["values", "one", "other"], ["values"], "is_rising", top 15⟩,
  ⟨d_fits_name, ["value", "sign"], ["value"], "fits_name", top 16⟩,
  ⟨d_fits_bound, ["value"], ["value"], "fits_bound", top 17⟩,
  ⟨d_fits_statement, ["events", "value"], ["events", "value"], "fits_statement", top 18⟩,
  ⟨d_fits_events, ["value", "one"], ["value"], "fits_events", top 19⟩,
  ⟨d_fits_telling, ["value", "one"], ["value"], "fits_telling", top 20⟩,
  ⟨d_need_telling, ["telling"], ["telling"], "need_telling", top 21⟩,
  ⟨d_fits_course, ["telling", "value", "many", "own"], ["telling", "value"], "fits_course", top 22⟩,
  ⟨d_need_course, ["telling", "course"], ["telling", "course"], "need_course", top 23⟩,
  ⟨d_gap_in, ["telling", "course", "one", "other"], ["telling", "course", "one", "other"], "gap_in", top 24⟩,
  ⟨d_keeps, ["telling", "course", "statement", "gap"], ["telling", "course", "statement"], "keeps", top 25⟩,
  ⟨d_part_in, ["telling", "numbers", "at"], ["telling", "numbers"], "part_in", top 26⟩,
  ⟨d_is_telling, ["value"], ["value"], "is_telling", top 27⟩,
  ⟨d_is_kept, ["telling", "course", "one"], ["telling", "course"], "is_kept", top 28⟩,
  ⟨d_kept_statements, ["telling", "course", "at", "one"], ["telling", "course"], "kept_statements", top 29⟩,
  ⟨d_shifted_course, ["telling", "course", "by", "found", "time"], ["telling", "course", "by"], "shifted_course", top 30⟩,
  ⟨d_homed_course, ["telling", "course", "found", "time"], ["telling", "course"], "homed_course", top 31⟩,
  ⟨d_order_in, ["telling", "course", "times", "time", "own", "at"], ["telling", "course"], "order_in", top 32⟩,
  ⟨d_with_statement, ["telling", "statement"], ["telling", "statement"], "with_statement", top 33⟩,
  ⟨d_some_statements, ["telling", "numbers", "many", "at"], ["telling", "numbers"], "some_statements", top 34⟩,
  ⟨d__law_cup, ["script", "cell"], ["script"], "_law_cup", top 36⟩,
  ⟨d__law_roll, ["cup", "many", "deep", "found"], ["cup", "many"], "_law_roll", top 37⟩,
  ⟨d__law_some, ["cup", "things"], ["cup", "things"], "_law_some", top 38⟩,
  ⟨d__law_same, ["told", "due", "at"], ["told", "due"], "_law_same", top 39⟩,
  ⟨d__law_telling, ["cup", "most", "many", "wide", "events", "turn", "course", "rows", "one", "other", "gap", "least", "more", "event"], ["cup", "most", "many", "wide"], "_law_telling", top 40⟩,
  ⟨d__law_right, ["cup", "most", "many", "wide", "telling", "home", "other", "numbers", "less", "row", "more", "course", "by", "time", "at", "event"], ["cup", "most", "many", "wide"], "_law_right", top 41⟩,
  ⟨d_law, ["script", "cup", "told_of", "told", "most", "many", "wide"], ["script"], "law", top 42⟩]
def g : Cg := ⟨["is_whole", "is_tuple_of", "is_rising", "fits_name", "fits_bound", "fits_statement", "fits_events", "fits_telling", "need_telling", "fits_course", "need_course", "gap_in", "keeps", "part_in", "is_telling", "is_kept", "kept_statements", "shifted_course", "homed_course", "order_in", "with_statement", "some_statements", "_law_cup", "_law_roll", "_law_some", "_law_same", "_law_telling", "_law_right", "law"], [("FIRST", (.str [97, 98, 99, 100, 101, 102, 103, 104, 105, 106, 107, 108, 109, 110, 111, 112, 113, 114, 115, 116, 117, 118, 119, 120, 121, 122])), ("LATER", (.str [97, 98, 99, 100, 101, 102, 103, 104, 105, 106, 107, 108, 109, 110, 111, 112, 113, 114, 115, 116, 117, 118, 119, 120, 121, 122, 48, 49, 50, 51, 52, 53, 54, 55, 56, 57, 45])), ("NAME", (.int 12)), ("EVENTS", (.int 24)), ("STATEMENTS", (.int 60)), ("BOUND", (.int 1000000)), ("TIME", (.int 100000000))], ["ToldError", "InvalidTelling", "InvalidCourse", "InvalidNumber"]⟩
abbrev C (n : Nat) : CallF := callN (ds.map (·.d)) n
theorem tab_at {n f : Nat} {d : Def} (h : (ds.map (·.d))[f]? = some d) (ws : List W) (S : Store) (hl : ws.length = d.pars) : C (n + 1) f ws S = (dSs (C n) d.body (startF d ws) S).bind fun r S1 => (match r with
        | (.nx, _) => .ok (.p .non) S1
        | (.rt w, _) => .ok w S1
        | _ => .bad) := by
  unfold C callN
  rw [h]
  simp only [hl, if_true]
  try rfl
theorem whole_ (n : Nat) (i lo hi : Int) (S : Store) : C (n + 1) i_is_whole [.p (.int i), .p (.int lo), .p (.int hi)] S = .ok (.p (.bl (decide (lo ≤ i) && decide (i ≤ hi)))) S := by
  rw [tab_at (d := d_is_whole) rfl _ _ rfl]
  by_cases h : lo ≤ i <;> simp [d_is_whole, dSs, dS, dE, dT, dAnd, dOr, dTAnd, dTOr, dEs, dEo, dI, dConds, startF, Res.bind, rOpt, isiW, tyP, isTy, truW, cmpW, cmpW.isW, ordI, ordN, f1W, sView, tView, dView, lView, ixW, atP, ixOf, binW, binP, binI, setW, asgT, asgTs, sumW, setAll, slW, wP, srcOf, intOf, mkTup, mkLst, psOf, wipeF, appW, idxW, eqP, isScal, mixed, peq, dataOf, h]
theorem tupof_ (n : Nat) (xs : List P) (lo hi : Int) (S : Store) : C (n + 1) i_is_tuple_of [.p (.tup xs), .p (.int lo), .p (.int hi)] S = .ok (.p (.bl (decide (lo ≤ xs.length) && decide ((xs.length : Int) ≤ hi)))) S := by
  rw [tab_at (d := d_is_tuple_of) rfl _ _ rfl]
  by_cases h : lo ≤ xs.length <;> simp [d_is_tuple_of, dSs, dS, dE, dT, dAnd, dOr, dTAnd, dTOr, dEs, dEo, dI, dConds, startF, Res.bind, rOpt, isiW, tyP, isTy, truW, cmpW, cmpW.isW, ordI, ordN, f1W, sView, tView, dView, lView, ixW, atP, ixOf, binW, binP, binI, setW, asgT, asgTs, sumW, setAll, slW, wP, srcOf, intOf, mkTup, mkLst, psOf, wipeF, appW, idxW, eqP, isScal, mixed, peq, dataOf, h]
/-- the cup: two numbers -/
def cup (a b : Int) : Cell := .lst [.int a, .int b]
def CupOk (a b : Int) : Prop := 0 ≤ a ∧ 0 ≤ b ∧ b < 2147483399 + 2077496497
theorem lg {x : Int} (h : 0 ≤ x) (h2 : x < 2 ^ 64) : x.natAbs.log2 < 64 := by
  by_cases z : x.natAbs = 0
  · rw [z]; decide
  · exact (Nat.log2_lt z).mpr (by omega)
theorem roll_ (n : Nat) (a b m : Int) (S : Store) (h : CupOk a b) (hm : 0 < m) (hm2 : m < 1000000) : ∃ r a' b', 0 ≤ r ∧ r < m ∧ CupOk a' b' ∧ C (n + 1) i__law_roll [.loc 0, .p (.int m)] (cup a b :: S) = .ok (.p (.int r)) (cup a' b' :: S) := by
  rw [tab_at (d := d__law_roll) rfl _ _ rfl]
  obtain ⟨h1, h2, h3⟩ := h
  have l1 : m.natAbs.log2 < 9000 := by
    have := lg (x := m) (by omega) (by omega)
    omega
  by_cases h0 : 0 < a
  · refine ⟨a % m, a / m, b, Int.emod_nonneg _ (by omega), Int.emod_lt_of_pos _ hm, ⟨Int.ediv_nonneg h1 (by omega), h2, h3⟩, ?_⟩
    simp [d__law_roll, cup, dSs, dS, dE, dT, dAnd, dOr, dTAnd, dTOr, dEs, dEo, dI, dConds, startF, Res.bind, rOpt, isiW, tyP, isTy, truW, cmpW, cmpW.isW, ordI, ordN, f1W, sView, tView, dView, lView, ixW, atP, ixOf, binW, binP, binI, setW, asgT, asgTs, sumW, setAll, slW, wP, srcOf, intOf, mkTup, mkLst, psOf, wipeF, appW, idxW, eqP, isScal, mixed, peq, dataOf, h0, hm, l1]
  · have hb1 : 0 ≤ (b * 30931 + 7907) % 2147483399 := Int.emod_nonneg _ (by decide)
    have hb2 : (b * 30931 + 7907) % 2147483399 < 2147483399 := Int.emod_lt_of_pos _ (by decide)
    generalize hB : (b * 30931 + 7907) % 2147483399 = B at hb1 hb2
    have e1 : b.natAbs.log2 + (30931 : Int).natAbs.log2 < 100000000 := by
      have := lg h2 (by omega)
      have e : (30931 : Int).natAbs.log2 < 100 := by decide
      omega
    have e1b : b.natAbs.log2 + Nat.log2 30931 < 100000000 := e1
    have lC : Nat.log2 829 < 9000 := by decide
    have e2 : B.natAbs.log2 + (B + 251).natAbs.log2 < 100000000 := by
      have := lg hb1 (by omega)
      have := lg (x := B + 251) (by omega) (by omega)
      omega
    refine ⟨(B * (B + 251) % 2147483563 / 829) % m, a, B, Int.emod_nonneg _ (by omega), Int.emod_lt_of_pos _ hm, ⟨h1, hb1, by omega⟩, ?_⟩
    simp [d__law_roll, cup, dSs, dS, dE, dT, dAnd, dOr, dTAnd, dTOr, dEs, dEo, dI, dConds, startF, Res.bind, rOpt, isiW, tyP, isTy, truW, cmpW, cmpW.isW, ordI, ordN, f1W, sView, tView, dView, lView, ixW, atP, ixOf, binW, binP, binI, setW, asgT, asgTs, sumW, setAll, slW, wP, srcOf, intOf, mkTup, mkLst, psOf, wipeF, appW, idxW, eqP, isScal, mixed, peq, dataOf, h0, hm, l1, e1, e1b, hB, e2, lC]
theorem some_ (n : Nat) (a b : Int) (xs : List P) (S : Store) (h : CupOk a b) (hx : xs ≠ []) (hx2 : xs.length < 1000) : ∃ x a' b', x ∈ xs ∧ CupOk a' b' ∧ C (n + 2) i__law_some [.loc 0, .p (.lst xs)] (cup a b :: S) = .ok (.p x) (cup a' b' :: S) ∧ True := by
  have hl : 0 < xs.length := List.length_pos_iff.mpr hx
  obtain ⟨r, a', b', h1, h2, h3, h4⟩ := roll_ n a b xs.length S h (by omega) (by omega)
  obtain ⟨k, rfl⟩ := Int.eq_ofNat_of_zero_le h1
  have hk : k < xs.length := by omega
  refine ⟨xs[k], a', b', List.getElem_mem _, h3, ?_, trivial⟩
  rw [tab_at (d := d__law_some) rfl _ _ rfl]
  simp [d__law_some, dSs, dS, dE, dT, dAnd, dOr, dTAnd, dTOr, dEs, dEo, dI, dConds, startF, Res.bind, rOpt, isiW, tyP, isTy, truW, cmpW, cmpW.isW, ordI, ordN, f1W, sView, tView, dView, lView, ixW, atP, ixOf, binW, binP, binI, setW, asgT, asgTs, sumW, setAll, slW, wP, srcOf, intOf, mkTup, mkLst, psOf, wipeF, appW, idxW, eqP, isScal, mixed, peq, dataOf, callTrunc, back, leaveW, h4, hk]
theorem someT_ (n : Nat) (a b : Int) (xs : List P) (S : Store) (h : CupOk a b) (hx : xs ≠ []) (hx2 : xs.length < 1000) : ∃ x a' b', x ∈ xs ∧ CupOk a' b' ∧ C (n + 2) i__law_some [.loc 0, .p (.tup xs)] (cup a b :: S) = .ok (.p x) (cup a' b' :: S) ∧ True := by
  have hl : 0 < xs.length := List.length_pos_iff.mpr hx
  obtain ⟨r, a', b', h1, h2, h3, h4⟩ := roll_ n a b xs.length S h (by omega) (by omega)
  obtain ⟨k, rfl⟩ := Int.eq_ofNat_of_zero_le h1
  have hk : k < xs.length := by omega
  refine ⟨xs[k], a', b', List.getElem_mem _, h3, ?_, trivial⟩
  rw [tab_at (d := d__law_some) rfl _ _ rfl]
  simp [d__law_some, dSs, dS, dE, dT, dAnd, dOr, dTAnd, dTOr, dEs, dEo, dI, dConds, startF, Res.bind, rOpt, isiW, tyP, isTy, truW, cmpW, cmpW.isW, ordI, ordN, f1W, sView, tView, dView, lView, ixW, atP, ixOf, binW, binP, binI, setW, asgT, asgTs, sumW, setAll, slW, wP, srcOf, intOf, mkTup, mkLst, psOf, wipeF, appW, idxW, eqP, isScal, mixed, peq, dataOf, callTrunc, back, leaveW, h4, hk]
/-- a row of a telling -/
def oP : Option Int → P
  | none => .non
  | some i => .int i
def rowP (a b : Nm) (lo hi : Option Int) : P := .tup [.str a, .str b, oP lo, oP hi]
def inB (lo : Option Int) : Prop := ∀ i, lo = some i → -1000000 ≤ i ∧ i ≤ 1000000
theorem inP_str (a : Nm) : ∀ ns : List Nm, inP (.str a) (ns.map .str) = decide (a ∈ ns)
  | [] => rfl
  | x :: r => by
    show (nmEq x a || inP (.str a) (r.map .str)) = _
    rw [inP_str a r, nmEq_dec]
    by_cases e : x = a
    · simp [e]
    · have e2 : a ≠ x := fun z => e z.symm
      simp [e, e2]
theorem flat_strs' (ns : List Nm) : (ns.map P.str).all flat = true := by
  rw [List.all_map]
  exact List.all_eq_true.mpr fun _ _ => rfl
theorem bound_ (n : Nat) (lo : Option Int) (h : inB lo) (S : Store) : C (n + 2) i_fits_bound [.p (oP lo)] S = .ok (.p (.bl true)) S := by
  rw [tab_at (d := d_fits_bound) rfl _ _ rfl]
  cases lo with
  | none => simp [d_fits_bound, dSs, dS, dE, dT, dAnd, dOr, dTAnd, dTOr, dEs, dEo, dI, dConds, startF, Res.bind, rOpt, isiW, tyP, isTy, truW, cmpW, cmpW.isW, ordI, ordN, f1W, sView, tView, dView, lView, ixW, atP, ixOf, binW, binP, binI, setW, asgT, asgTs, sumW, setAll, slW, wP, srcOf, intOf, mkTup, mkLst, psOf, wipeF, appW, idxW, eqP, isScal, mixed, peq, dataOf, oP]
  | some i =>
    obtain ⟨h1, h2⟩ := h i rfl
    have hw := whole_ n i (-1000000) 1000000 S
    simp [d_fits_bound, dSs, dS, dE, dT, dAnd, dOr, dTAnd, dTOr, dEs, dEo, dI, dConds, startF, Res.bind, rOpt, isiW, tyP, isTy, truW, cmpW, cmpW.isW, ordI, ordN, f1W, sView, tView, dView, lView, ixW, atP, ixOf, binW, binP, binI, setW, asgT, asgTs, sumW, setAll, slW, wP, srcOf, intOf, mkTup, mkLst, psOf, wipeF, appW, idxW, eqP, isScal, mixed, peq, dataOf, oP, callTrunc, back, leaveW, hw, h1, h2]
theorem stm_ (n : Nat) (ev : List Nm) (a b : Nm) (lo hi : Option Int) (ha : a ∈ ev) (hb : b ∈ ev) (hab : a ≠ b) (h1 : inB lo) (h2 : inB hi) (h3 : ∀ i j, lo = some i → hi = some j → i ≤ j) (S : Store) :
    C (n + 3) i_fits_statement [.p (.tup (ev.map .str)), .p (rowP a b lo hi)] S = .ok (.p (.bl true)) S := by
  rw [tab_at (d := d_fits_statement) rfl _ _ rfl]
  have b1 := bound_ n lo h1 S
  have b2 := bound_ n hi h2 S
  have t1 := tupof_ (n + 1) [.str a, .str b, oP lo, oP hi] 4 4 S
  have i1 := inP_str a ev
  have i2 := inP_str b ev
  have f1 := flat_strs' ev
  have ne : nmEq a b = false := by rw [nmEq_dec]; simpa using hab
  have pe : peq (.str a) (.str b) = false := ne
  have c3 : ∀ i j, lo = some i → hi = some j → decide (i ≤ j) = true := fun i j e1 e2 => decide_eq_true (h3 i j e1 e2)
  cases lo with
  | none => cases hi with
    | none =>
      simp only [rowP, oP] at t1 b1 b2 ⊢
      simp [d_fits_statement, dSs, dS, dE, dT, dAnd, dOr, dTAnd, dTOr, dEs, dEo, dI, dConds, startF, Res.bind, rOpt, isiW, tyP, isTy, truW, cmpW, cmpW.isW, ordI, ordN, f1W, sView, tView, dView, lView, ixW, atP, ixOf, binW, binP, binI, setW, asgT, asgTs, sumW, setAll, slW, wP, srcOf, intOf, mkTup, mkLst, psOf, wipeF, appW, idxW, eqP, isScal, mixed, peq, dataOf, callTrunc, back, leaveW, cmpW.contW, flat, i1, i2, ha, hb, pe, ne, b1, b2, t1]
    | some j =>
      simp only [rowP, oP] at t1 b1 b2 ⊢
      simp [d_fits_statement, dSs, dS, dE, dT, dAnd, dOr, dTAnd, dTOr, dEs, dEo, dI, dConds, startF, Res.bind, rOpt, isiW, tyP, isTy, truW, cmpW, cmpW.isW, ordI, ordN, f1W, sView, tView, dView, lView, ixW, atP, ixOf, binW, binP, binI, setW, asgT, asgTs, sumW, setAll, slW, wP, srcOf, intOf, mkTup, mkLst, psOf, wipeF, appW, idxW, eqP, isScal, mixed, peq, dataOf, callTrunc, back, leaveW, cmpW.contW, flat, i1, i2, ha, hb, pe, ne, b1, b2, t1]
  | some i => cases hi with
    | none =>
      simp only [rowP, oP] at t1 b1 b2 ⊢
      simp [d_fits_statement, dSs, dS, dE, dT, dAnd, dOr, dTAnd, dTOr, dEs, dEo, dI, dConds, startF, Res.bind, rOpt, isiW, tyP, isTy, truW, cmpW, cmpW.isW, ordI, ordN, f1W, sView, tView, dView, lView, ixW, atP, ixOf, binW, binP, binI, setW, asgT, asgTs, sumW, setAll, slW, wP, srcOf, intOf, mkTup, mkLst, psOf, wipeF, appW, idxW, eqP, isScal, mixed, peq, dataOf, callTrunc, back, leaveW, cmpW.contW, flat, i1, i2, ha, hb, pe, ne, b1, b2, t1]
    | some j =>
      have c := h3 i j rfl rfl
      simp only [rowP, oP] at t1 b1 b2 ⊢
      simp [d_fits_statement, dSs, dS, dE, dT, dAnd, dOr, dTAnd, dTOr, dEs, dEo, dI, dConds, startF, Res.bind, rOpt, isiW, tyP, isTy, truW, cmpW, cmpW.isW, ordI, ordN, f1W, sView, tView, dView, lView, ixW, atP, ixOf, binW, binP, binI, setW, asgT, asgTs, sumW, setAll, slW, wP, srcOf, intOf, mkTup, mkLst, psOf, wipeF, appW, idxW, eqP, isScal, mixed, peq, dataOf, callTrunc, back, leaveW, cmpW.contW, flat, i1, i2, ha, hb, pe, ne, b1, b2, t1, c]
/-! ### names, events -/
def FIRSTs : Nm := [97, 98, 99, 100, 101, 102, 103, 104, 105, 106, 107, 108, 109, 110, 111, 112, 113, 114, 115, 116, 117, 118, 119, 120, 121, 122]
def LATERs : Nm := FIRSTs ++ [48, 49, 50, 51, 52, 53, 54, 55, 56, 57, 45]
def nameB (x : Nm) : Bool := decide (1 ≤ x.length) && decide (x.length ≤ 12) && (match x with | c :: _ => FIRSTs.contains c | [] => false) && x.all fun c => LATERs.contains c
/-- all([..]) of truth values, the list hidden -/
theorem all_of {cf : CallF} {e : Ex} {σ : Fr} {S : Store} {α : Type} {l : List α} {f : α → Bool} (h : dE cf e σ S = .ok (.p (.lst (l.map fun x => .bl (f x)))) S) : ∃ L : List Bool, dE cf e σ S = .ok (.p (.lst (L.map P.bl))) S ∧ L.all id = l.all f :=
  ⟨l.map f, by rw [h, List.map_map]; rfl, by rw [List.all_map]; rfl⟩
theorem q1_ (n : Nat) (x : Nm) (hl : x.length < 1000) (w : Option W) (S : Store) : ∃ L : List Bool, dE (C n) q_fits_name_0 [some (.p (.str x)), w] S = .ok (.p (.lst (L.map P.bl))) S ∧ L.all id = x.all (fun c => LATERs.contains c) := by
  refine all_of (l := x) (f := fun c => LATERs.contains c) (lc_of (src := .vals (x.map fun c => P.str [c])) (S1 := S) (by simp [dSs, dS, dE, dT, dAnd, dOr, dTAnd, dTOr, dEs, dEo, dI, dConds, startF, Res.bind, rOpt, isiW, tyP, isTy, truW, cmpW, cmpW.isW, ordI, ordN, f1W, sView, tView, dView, lView, ixW, atP, ixOf, binW, binP, binI, setW, asgT, asgTs, sumW, setAll, slW, wP, srcOf, intOf, mkTup, mkLst, psOf, wipeF, appW, idxW, eqP, isScal, mixed, peq, dataOf, strSrc]) ?_)
  have k := comp_vals (t := .name 1) (conds := fun σ1 S2 => dConds (C n) .nil σ1 S2) (elt := fun σ1 S2 => dE (C n) (.cmp .isin (.var 1) (.glob (.str LATERs))) σ1 S2) (σ0 := wipeF [some (.p (.str x)), w] [1]) (S := S) (c := fun _ => true) (f := fun y => match y with | .str [c] => .bl (LATERs.contains c) | _ => .non)
      (x.map fun c => P.str [c]) bigN [] (by simp only [List.length_map]; unfold bigN; omega) (by simp only [List.length_map]; show 0 + x.length ≤ line; unfold line; omega) (fun y hy => by
        obtain ⟨z, hz, rfl⟩ := List.mem_map.mp hy
        refine ⟨_, rfl, rfl, fun _ => ?_⟩
        simp [dSs, dS, dE, dT, dAnd, dOr, dTAnd, dTOr, dEs, dEo, dI, dConds, startF, Res.bind, rOpt, isiW, tyP, isTy, truW, cmpW, cmpW.isW, ordI, ordN, f1W, sView, tView, dView, lView, ixW, atP, ixOf, binW, binP, binI, setW, asgT, asgTs, sumW, setAll, slW, wP, srcOf, intOf, mkTup, mkLst, psOf, wipeF, appW, idxW, eqP, isScal, mixed, peq, dataOf, cmpW.contW, toKk])
  rw [filter_true, List.map_map] at k
  exact k
theorem name_ (n : Nat) (x : Nm) (h : nameB x = true) (S : Store) : C (n + 1) i_fits_name [.p (.str x)] S = .ok (.p (.bl true)) S := by
  rw [tab_at (d := d_fits_name) rfl _ _ rfl]
  unfold nameB at h
  cases x with
  | nil => simp at h
  | cons c r =>
    simp only [Bool.and_eq_true, decide_eq_true_eq] at h
    obtain ⟨⟨⟨h1, h2⟩, h3⟩, h4⟩ := h
    have h2' : r.length + 1 ≤ 12 := h2
    obtain ⟨L, hq, hL⟩ := q1_ n (c :: r) (by show r.length + 1 < 1000; omega) none S
    rw [h4] at hL
    have hl : r.length + 1 ≤ line := by unfold line; omega
    have hl2 : (r.length : Int) + 1 ≤ 12 := by omega
    have e2 : (1 : Int) ≤ (r.length : Int) + 1 := by omega
    have e3 : (0 : Int) < (r.length : Int) + 1 := by omega
    have pb := pBls_bl L
    simp [FIRSTs] at h3
    simp [d_fits_name, dSs, dS, dE, dT, dAnd, dOr, dTAnd, dTOr, dEs, dEo, dI, dConds, startF, Res.bind, rOpt, isiW, tyP, isTy, truW, cmpW, cmpW.isW, ordI, ordN, f1W, sView, tView, dView, lView, ixW, atP, ixOf, binW, binP, binI, setW, asgT, asgTs, sumW, setAll, slW, wP, srcOf, intOf, mkTup, mkLst, psOf, wipeF, appW, idxW, eqP, isScal, mixed, peq, dataOf, cmpW.contW, toKk, hq, pb, hL, h3, hl, hl2, e2, e3, callTrunc, back, leaveW]
def risB (ev : List Nm) : Bool := (ev.zip (ev.drop 1)).all fun p => nmLt p.1 p.2
theorem zip_strs (xs ys : List Nm) : (xs.map P.str).zip (ys.map P.str) = (xs.zip ys).map fun p => (P.str p.1, P.str p.2) := by
  rw [List.zip_map]; rfl
theorem q0_ (n : Nat) (ev : List Nm) (hl : ev.length < 1000) (w1 w2 : Option W) (S : Store) : ∃ L : List Bool, dE (C n) q_is_rising_0 [some (.p (.tup (ev.map .str))), w1, w2] S = .ok (.p (.lst (L.map P.bl))) S ∧ L.all id = risB ev := by
  refine all_of (l := ev.zip (ev.drop 1)) (f := fun p => nmLt p.1 p.2) (lc_of (src := .zip (ev.map .str) ((ev.drop 1).map .str)) (S1 := S) ?_ ?_)
  · simp [dSs, dS, dE, dT, dAnd, dOr, dTAnd, dTOr, dEs, dEo, dI, dConds, startF, Res.bind, rOpt, isiW, tyP, isTy, truW, cmpW, cmpW.isW, ordI, ordN, f1W, sView, tView, dView, lView, ixW, atP, ixOf, binW, binP, binI, setW, asgT, asgTs, sumW, setAll, slW, wP, srcOf, intOf, mkTup, mkLst, psOf, wipeF, appW, idxW, eqP, isScal, mixed, peq, dataOf, cut1, List.map_drop]
  · have k := comp_zip (t := .tup (.cons (.name 1) (.cons (.name 2) .nil))) (conds := fun σ1 S2 => dConds (C n) .nil σ1 S2) (elt := fun σ1 S2 => dE (C n) (.cmp .lt (.var 1) (.var 2)) σ1 S2) (σ0 := wipeF [some (.p (.tup (ev.map .str))), w1, w2] [1, 2]) (S := S) (c := fun _ _ => true)
      (f := fun x y => match x, y with | .str a, .str b => .bl (nmLt a b) | _, _ => .non) (ev.map .str) ((ev.drop 1).map .str) bigN [] (by simp only [List.length_map]; unfold bigN; omega) (by simp only [List.length_map]; show 0 + ev.length ≤ line; unfold line; omega) (fun x y hxy => by
        rw [zip_strs] at hxy
        obtain ⟨p, hp, e⟩ := List.mem_map.mp hxy
        cases e
        exact ⟨_, rfl, rfl, fun _ => by simp [dSs, dS, dE, dT, dAnd, dOr, dTAnd, dTOr, dEs, dEo, dI, dConds, startF, Res.bind, rOpt, isiW, tyP, isTy, truW, cmpW, cmpW.isW, ordI, ordN, f1W, sView, tView, dView, lView, ixW, atP, ixOf, binW, binP, binI, setW, asgT, asgTs, sumW, setAll, slW, wP, srcOf, intOf, mkTup, mkLst, psOf, wipeF, appW, idxW, eqP, isScal, mixed, peq, dataOf]⟩)
    rw [filter_true, zip_strs, List.map_map] at k
    exact k
theorem rising_ (n : Nat) (ev : List Nm) (hl : ev.length < 1000) (h : risB ev = true) (S : Store) : C (n + 1) i_is_rising [.p (.tup (ev.map .str))] S = .ok (.p (.bl true)) S := by
  rw [tab_at (d := d_is_rising) rfl _ _ rfl]
  obtain ⟨L, hq, hL⟩ := q0_ n ev hl none none S
  rw [h] at hL
  simp [d_is_rising, dSs, dS, dE, dT, dAnd, dOr, dTAnd, dTOr, dEs, dEo, dI, dConds, startF, Res.bind, rOpt, isiW, tyP, isTy, truW, cmpW, cmpW.isW, ordI, ordN, f1W, sView, tView, dView, lView, ixW, atP, ixOf, binW, binP, binI, setW, asgT, asgTs, sumW, setAll, slW, wP, srcOf, intOf, mkTup, mkLst, psOf, wipeF, appW, idxW, eqP, isScal, mixed, peq, dataOf, hq, pBls_bl L, hL]
theorem q2_ (n : Nat) (ev : List Nm) (hl : ev.length < 1000) (hn : ∀ x ∈ ev, nameB x = true) (w1 : Option W) (S : Store) : ∃ L : List Bool, dE (C (n + 1)) q_fits_events_0 [some (.p (.tup (ev.map .str))), w1] S = .ok (.p (.lst (L.map P.bl))) S ∧ L.all id = true := by
  obtain ⟨L, h1, h2⟩ := all_of (cf := C (n + 1)) (e := q_fits_events_0) (σ := [some (.p (.tup (ev.map .str))), w1]) (S := S) (l := ev) (f := fun _ => true) (lc_of (src := .vals (ev.map .str)) (S1 := S) (by simp [dSs, dS, dE, dT, dAnd, dOr, dTAnd, dTOr, dEs, dEo, dI, dConds, startF, Res.bind, rOpt, isiW, tyP, isTy, truW, cmpW, cmpW.isW, ordI, ordN, f1W, sView, tView, dView, lView, ixW, atP, ixOf, binW, binP, binI, setW, asgT, asgTs, sumW, setAll, slW, wP, srcOf, intOf, mkTup, mkLst, psOf, wipeF, appW, idxW, eqP, isScal, mixed, peq, dataOf]) (by
    have k := comp_vals (t := .name 1) (conds := fun σ1 S2 => dConds (C (n + 1)) .nil σ1 S2) (elt := fun σ1 S2 => dE (C (n + 1)) (.call i_fits_name (.cons (.var 1) .nil)) σ1 S2) (σ0 := wipeF [some (.p (.tup (ev.map .str))), w1] [1]) (S := S) (c := fun _ => true) (f := fun _ => .bl true)
      (ev.map .str) bigN [] (by simp only [List.length_map]; unfold bigN; omega) (by simp only [List.length_map]; show 0 + ev.length ≤ line; unfold line; omega) (fun y hy => by
        obtain ⟨z, hz, rfl⟩ := List.mem_map.mp hy
        have hz2 := name_ n z (hn z hz) S
        refine ⟨_, rfl, rfl, fun _ => ?_⟩
        simp [dSs, dS, dE, dT, dAnd, dOr, dTAnd, dTOr, dEs, dEo, dI, dConds, startF, Res.bind, rOpt, isiW, tyP, isTy, truW, cmpW, cmpW.isW, ordI, ordN, f1W, sView, tView, dView, lView, ixW, atP, ixOf, binW, binP, binI, setW, asgT, asgTs, sumW, setAll, slW, wP, srcOf, intOf, mkTup, mkLst, psOf, wipeF, appW, idxW, eqP, isScal, mixed, peq, dataOf, hz2, callTrunc, back, leaveW])
    rw [filter_true, List.map_map] at k
    exact k))
  exact ⟨L, h1, by rw [h2]; simp⟩
structure EvOk (ev : List Nm) : Prop where
  pos : 1 ≤ ev.length
  few : ev.length ≤ 24
  nm : ∀ x ∈ ev, nameB x = true
  ris : risB ev = true
  nd : ev.Nodup
theorem events_ (n : Nat) (ev : List Nm) (h : EvOk ev) (S : Store) : C (n + 2) i_fits_events [.p (.tup (ev.map .str))] S = .ok (.p (.bl true)) S := by
  rw [tab_at (d := d_fits_events) rfl _ _ rfl]
  obtain ⟨h1, h2, h3, h4, _⟩ := h
  obtain ⟨L, hq, hL⟩ := q2_ n ev (by omega) h3 none S
  have r := rising_ n ev (by omega) h4 S
  have t := tupof_ n (ev.map .str) 1 24 S
  have e1 : (1 : Int) ≤ ev.length := by omega
  have e2 : (ev.length : Int) ≤ 24 := by omega
  simp only [List.length_map, e1, e2, decide_true, Bool.and_true] at t
  simp [d_fits_events, dSs, dS, dE, dT, dAnd, dOr, dTAnd, dTOr, dEs, dEo, dI, dConds, startF, Res.bind, rOpt, isiW, tyP, isTy, truW, cmpW, cmpW.isW, ordI, ordN, f1W, sView, tView, dView, lView, ixW, atP, ixOf, binW, binP, binI, setW, asgT, asgTs, sumW, setAll, slW, wP, srcOf, intOf, mkTup, mkLst, psOf, wipeF, appW, idxW, eqP, isScal, mixed, peq, dataOf, hq, pBls_bl L, hL, r, t, callTrunc, back, leaveW]
/-! ### tellings -/
structure Row where
  a : Nm
  b : Nm
  lo : Option Int
  hi : Option Int
def Row.p (r : Row) : P := rowP r.a r.b r.lo r.hi
structure RowOk (ev : List Nm) (r : Row) : Prop where
  ha : r.a ∈ ev
  hb : r.b ∈ ev
  ne : r.a ≠ r.b
  l1 : inB r.lo
  l2 : inB r.hi
  le : ∀ i j, r.lo = some i → r.hi = some j → i ≤ j
def tell (ev : List Nm) (rs : List Row) : P := .tup [.tup (ev.map .str), .tup (rs.map Row.p)]
structure TellOk (ev : List Nm) (rs : List Row) : Prop where
  evs : EvOk ev
  few : rs.length ≤ 60
  rows : ∀ r ∈ rs, RowOk ev r
theorem q3_ (n : Nat) (ev : List Nm) (rs : List Row) (h : TellOk ev rs) (w1 : Option W) (S : Store) : ∃ L : List Bool, dE (C (n + 3)) q_fits_telling_0 [some (.p (tell ev rs)), w1] S = .ok (.p (.lst (L.map P.bl))) S ∧ L.all id = true := by
  obtain ⟨L, h1, h2⟩ := all_of (cf := C (n + 3)) (e := q_fits_telling_0) (σ := [some (.p (tell ev rs)), w1]) (S := S) (l := rs) (f := fun _ => true) (lc_of (src := .vals (rs.map Row.p)) (S1 := S) (by simp [dSs, dS, dE, dT, dAnd, dOr, dTAnd, dTOr, dEs, dEo, dI, dConds, startF, Res.bind, rOpt, isiW, tyP, isTy, truW, cmpW, cmpW.isW, ordI, ordN, f1W, sView, tView, dView, lView, ixW, atP, ixOf, binW, binP, binI, setW, asgT, asgTs, sumW, setAll, slW, wP, srcOf, intOf, mkTup, mkLst, psOf, wipeF, appW, idxW, eqP, isScal, mixed, peq, dataOf, tell]) (by
    have hf := h.few
    have k := comp_vals (t := .name 1) (conds := fun σ1 S2 => dConds (C (n + 3)) .nil σ1 S2) (elt := fun σ1 S2 => dE (C (n + 3)) (.call i_fits_statement (.cons (.ix (.var 0) (.cst (.int 0))) (.cons (.var 1) .nil))) σ1 S2) (σ0 := wipeF [some (.p (tell ev rs)), w1] [1]) (S := S) (c := fun _ => true) (f := fun _ => .bl true)
      (rs.map Row.p) bigN [] (by simp only [List.length_map]; unfold bigN; omega) (by simp only [List.length_map]; show 0 + rs.length ≤ line; unfold line; omega) (fun y hy => by
        obtain ⟨z, hz, rfl⟩ := List.mem_map.mp hy
        obtain ⟨a1, a2, a3, a4, a5, a6⟩ := h.rows z hz
        have hz2 := stm_ n ev z.a z.b z.lo z.hi a1 a2 a3 a4 a5 a6 S
        refine ⟨_, rfl, rfl, fun _ => ?_⟩
        simp [dSs, dS, dE, dT, dAnd, dOr, dTAnd, dTOr, dEs, dEo, dI, dConds, startF, Res.bind, rOpt, isiW, tyP, isTy, truW, cmpW, cmpW.isW, ordI, ordN, f1W, sView, tView, dView, lView, ixW, atP, ixOf, binW, binP, binI, setW, asgT, asgTs, sumW, setAll, slW, wP, srcOf, intOf, mkTup, mkLst, psOf, wipeF, appW, idxW, eqP, isScal, mixed, peq, dataOf, tell, Row.p, hz2, callTrunc, back, leaveW])
    rw [filter_true, List.map_map] at k
    exact k))
  exact ⟨L, h1, by rw [h2]; simp⟩
theorem telling_ (n : Nat) (ev : List Nm) (rs : List Row) (h : TellOk ev rs) (S : Store) : C (n + 4) i_fits_telling [.p (tell ev rs)] S = .ok (.p (.bl true)) S := by
  rw [tab_at (d := d_fits_telling) rfl _ _ rfl]
  obtain ⟨L, hq, hL⟩ := q3_ n ev rs h none S
  have r := events_ (n + 1) ev h.evs S
  have t := tupof_ (n + 2) [.tup (ev.map .str), .tup (rs.map Row.p)] 2 2 S
  have t2 := tupof_ (n + 2) (rs.map Row.p) 0 60 S
  have hf := h.few
  have e1 : (0 : Int) ≤ rs.length := by omega
  have e2 : (rs.length : Int) ≤ 60 := by omega
  simp only [List.length_map, e1, e2, decide_true, Bool.and_true] at t2
  simp only [tell] at hq ⊢
  simp [d_fits_telling, dSs, dS, dE, dT, dAnd, dOr, dTAnd, dTOr, dEs, dEo, dI, dConds, startF, Res.bind, rOpt, isiW, tyP, isTy, truW, cmpW, cmpW.isW, ordI, ordN, f1W, sView, tView, dView, lView, ixW, atP, ixOf, binW, binP, binI, setW, asgT, asgTs, sumW, setAll, slW, wP, srcOf, intOf, mkTup, mkLst, psOf, wipeF, appW, idxW, eqP, isScal, mixed, peq, dataOf, hq, pBls_bl L, hL, r, t, t2, callTrunc, back, leaveW]
theorem need_ (n : Nat) (ev : List Nm) (rs : List Row) (h : TellOk ev rs) (S : Store) : C (n + 5) i_need_telling [.p (tell ev rs)] S = .ok (.p .non) S := by
  rw [tab_at (d := d_need_telling) rfl _ _ rfl]
  have r := telling_ n ev rs h S
  simp [d_need_telling, dSs, dS, dE, dT, dAnd, dOr, dTAnd, dTOr, dEs, dEo, dI, dConds, startF, Res.bind, rOpt, isiW, tyP, isTy, truW, cmpW, cmpW.isW, ordI, ordN, f1W, sView, tView, dView, lView, ixW, atP, ixOf, binW, binP, binI, setW, asgT, asgTs, sumW, setAll, slW, wP, srcOf, intOf, mkTup, mkLst, psOf, wipeF, appW, idxW, eqP, isScal, mixed, peq, dataOf, r, callTrunc, back, leaveW]
theorem isTelling_ (n : Nat) (ev : List Nm) (rs : List Row) (h : TellOk ev rs) (S : Store) : C (n + 5) i_is_telling [.p (tell ev rs)] S = .ok (.p (.bl true)) S := by
  rw [tab_at (d := d_is_telling) rfl _ _ rfl]
  have r := telling_ n ev rs h S
  simp [d_is_telling, dSs, dS, dE, dT, dAnd, dOr, dTAnd, dTOr, dEs, dEo, dI, dConds, startF, Res.bind, rOpt, isiW, tyP, isTy, truW, cmpW, cmpW.isW, ordI, ordN, f1W, sView, tView, dView, lView, ixW, atP, ixOf, binW, binP, binI, setW, asgT, asgTs, sumW, setAll, slW, wP, srcOf, intOf, mkTup, mkLst, psOf, wipeF, appW, idxW, eqP, isScal, mixed, peq, dataOf, r, callTrunc, back, leaveW]
/-! ### courses -/
def crs (cs : List Int) : P := .tup (cs.map .int)
structure CrOk (ev : List Nm) (cs : List Int) : Prop where
  len : cs.length = ev.length
  bnd : ∀ c ∈ cs, -100000000 ≤ c ∧ c ≤ 100000000
theorem q4_ (n : Nat) (ev : List Nm) (rs : List Row) (cs : List Int) (h : TellOk ev rs) (hc : CrOk ev cs) (w1 w2 : Option W) (S : Store) : ∃ L : List Bool, dE (C (n + 1)) q_fits_course_0 [some (.p (tell ev rs)), some (.p (crs cs)), w1, w2] S = .ok (.p (.lst (L.map P.bl))) S ∧ L.all id = true := by
  obtain ⟨L, h1, h2⟩ := all_of (cf := C (n + 1)) (e := q_fits_course_0) (σ := [some (.p (tell ev rs)), some (.p (crs cs)), w1, w2]) (S := S) (l := cs) (f := fun _ => true) (lc_of (src := .vals (cs.map .int)) (S1 := S) (by simp [dSs, dS, dE, dT, dAnd, dOr, dTAnd, dTOr, dEs, dEo, dI, dConds, startF, Res.bind, rOpt, isiW, tyP, isTy, truW, cmpW, cmpW.isW, ordI, ordN, f1W, sView, tView, dView, lView, ixW, atP, ixOf, binW, binP, binI, setW, asgT, asgTs, sumW, setAll, slW, wP, srcOf, intOf, mkTup, mkLst, psOf, wipeF, appW, idxW, eqP, isScal, mixed, peq, dataOf, crs]) (by
    have hf := h.evs.few
    have hl := hc.len
    have k := comp_vals (t := .name 3) (conds := fun σ1 S2 => dConds (C (n + 1)) .nil σ1 S2) (elt := fun σ1 S2 => dE (C (n + 1)) (.call i_is_whole (.cons (.var 3) (.cons (.neg (.glob (.int 100000000))) (.cons (.glob (.int 100000000)) .nil)))) σ1 S2) (σ0 := wipeF [some (.p (tell ev rs)), some (.p (crs cs)), w1, w2] [3]) (S := S) (c := fun _ => true) (f := fun _ => .bl true)
      (cs.map .int) bigN [] (by simp only [List.length_map]; unfold bigN; omega) (by simp only [List.length_map]; show 0 + cs.length ≤ line; unfold line; omega) (fun y hy => by
        obtain ⟨z, hz, rfl⟩ := List.mem_map.mp hy
        obtain ⟨b1, b2⟩ := hc.bnd z hz
        have hz2 := whole_ n z (-100000000) 100000000 S
        refine ⟨_, rfl, rfl, fun _ => ?_⟩
        simp [dSs, dS, dE, dT, dAnd, dOr, dTAnd, dTOr, dEs, dEo, dI, dConds, startF, Res.bind, rOpt, isiW, tyP, isTy, truW, cmpW, cmpW.isW, ordI, ordN, f1W, sView, tView, dView, lView, ixW, atP, ixOf, binW, binP, binI, setW, asgT, asgTs, sumW, setAll, slW, wP, srcOf, intOf, mkTup, mkLst, psOf, wipeF, appW, idxW, eqP, isScal, mixed, peq, dataOf, hz2, b1, b2, callTrunc, back, leaveW])
    rw [filter_true, List.map_map] at k
    exact k))
  exact ⟨L, h1, by rw [h2]; simp⟩
theorem course_ (n : Nat) (ev : List Nm) (rs : List Row) (cs : List Int) (h : TellOk ev rs) (hc : CrOk ev cs) (S : Store) : C (n + 2) i_fits_course [.p (tell ev rs), .p (crs cs)] S = .ok (.p (.bl true)) S := by
  rw [tab_at (d := d_fits_course) rfl _ _ rfl]
  obtain ⟨L, hq, hL⟩ := q4_ n ev rs cs h hc (some (.p (.int ev.length))) none S
  have t := tupof_ n (cs.map .int) ev.length ev.length S
  have hl := hc.len
  simp only [List.length_map, hl, Int.le_refl, decide_true, Bool.and_true] at t
  simp only [tell, crs] at hq ⊢
  simp [d_fits_course, dSs, dS, dE, dT, dAnd, dOr, dTAnd, dTOr, dEs, dEo, dI, dConds, startF, Res.bind, rOpt, isiW, tyP, isTy, truW, cmpW, cmpW.isW, ordI, ordN, f1W, sView, tView, dView, lView, ixW, atP, ixOf, binW, binP, binI, setW, asgT, asgTs, sumW, setAll, slW, wP, srcOf, intOf, mkTup, mkLst, psOf, wipeF, appW, idxW, eqP, isScal, mixed, peq, dataOf, hq, pBls_bl L, hL, t, callTrunc, back, leaveW]
theorem needC_ (n : Nat) (ev : List Nm) (rs : List Row) (cs : List Int) (h : TellOk ev rs) (hc : CrOk ev cs) (S : Store) : C (n + 6) i_need_course [.p (tell ev rs), .p (crs cs)] S = .ok (.p .non) S := by
  rw [tab_at (d := d_need_course) rfl _ _ rfl]
  have r1 := need_ n ev rs h S
  have r2 := course_ (n + 3) ev rs cs h hc S
  simp [d_need_course, dSs, dS, dE, dT, dAnd, dOr, dTAnd, dTOr, dEs, dEo, dI, dConds, startF, Res.bind, rOpt, isiW, tyP, isTy, truW, cmpW, cmpW.isW, ordI, ordN, f1W, sView, tView, dView, lView, ixW, atP, ixOf, binW, binP, binI, setW, asgT, asgTs, sumW, setAll, slW, wP, srcOf, intOf, mkTup, mkLst, psOf, wipeF, appW, idxW, eqP, isScal, mixed, peq, dataOf, r1, r2, callTrunc, back, leaveW]
/-! ### the time of an event -/
theorem idxN_mem {z : Nm} : ∀ {ev : List Nm} {j : Nat}, z ∈ ev → ∃ k, idxN z ev j = some (j + k) ∧ k < ev.length
  | [], _, h => nomatch h
  | y :: r, j, h => by
    unfold idxN
    by_cases e : y = z
    · rw [if_pos (nmEq_iff.mpr e)]
      exact ⟨0, rfl, by simp⟩
    · rw [if_neg fun q => e (nmEq_iff.mp q)]
      have h2 : z ∈ r := by
        rcases List.mem_cons.mp h with q | q
        · exact absurd q.symm e
        · exact q
      obtain ⟨k, h3, h4⟩ := idxN_mem (j := j + 1) h2
      exact ⟨k + 1, by rw [h3]; congr 1; omega, by simp; omega⟩
def cv (ev : List Nm) (cs : List Int) (a : Nm) : Int := (cs[(idxN a ev 0).getD 0]?).getD 0
theorem at_ {ev : List Nm} {cs : List Int} {a : Nm} (h : a ∈ ev) (hl : cs.length = ev.length) : ∃ j, idxN a ev 0 = some j ∧ ∃ h : j < cs.length, cs[j] = cv ev cs a := by
  obtain ⟨k, h1, h2⟩ := idxN_mem (j := 0) h
  have h1 : idxN a ev 0 = some k := by rw [h1]; simp
  have h3 : k < cs.length := by omega
  refine ⟨k, h1, h3, ?_⟩
  unfold cv
  rw [h1]
  simp [List.getElem?_eq_getElem h3]
theorem gap_ (n : Nat) (ev : List Nm) (rs : List Row) (cs : List Int) (hl : cs.length = ev.length) {a b : Nm} (ha : a ∈ ev) (hb : b ∈ ev) (S : Store) : C (n + 1) i_gap_in [.p (tell ev rs), .p (crs cs), .p (.str a), .p (.str b)] S = .ok (.p (.int (cv ev cs b - cv ev cs a))) S := by
  rw [tab_at (d := d_gap_in) rfl _ _ rfl]
  obtain ⟨j, h1, h2, h3⟩ := at_ ha hl
  obtain ⟨k, h4, h5, h6⟩ := at_ hb hl
  simp [d_gap_in, dSs, dS, dE, dT, dAnd, dOr, dTAnd, dTOr, dEs, dEo, dI, dConds, startF, Res.bind, rOpt, isiW, tyP, isTy, truW, cmpW, cmpW.isW, ordI, ordN, f1W, sView, tView, dView, lView, ixW, atP, ixOf, binW, binP, binI, setW, asgT, asgTs, sumW, setAll, slW, wP, srcOf, intOf, mkTup, mkLst, psOf, wipeF, appW, idxW, eqP, isScal, mixed, peq, dataOf, tell, crs, pNms_str, h1, h2, h3, h4, h5, h6]
def kp (ev : List Nm) (cs : List Int) (r : Row) : Bool := (match r.lo with | none => true | some l => decide (l ≤ cv ev cs r.b - cv ev cs r.a)) && (match r.hi with | none => true | some l => decide (cv ev cs r.b - cv ev cs r.a ≤ l))
theorem keeps_ (n : Nat) (ev : List Nm) (rs : List Row) (cs : List Int) (hl : cs.length = ev.length) (r : Row) (ha : r.a ∈ ev) (hb : r.b ∈ ev) (S : Store) : C (n + 2) i_keeps [.p (tell ev rs), .p (crs cs), .p r.p] S = .ok (.p (.bl (kp ev cs r))) S := by
  rw [tab_at (d := d_keeps) rfl _ _ rfl]
  have g := gap_ n ev rs cs hl ha hb S
  obtain ⟨a, b, lo, hi⟩ := r
  unfold kp
  simp only [Row.p, rowP] at ha hb g ⊢
  generalize cv ev cs b - cv ev cs a = z at g ⊢
  cases lo with
  | none => cases hi with
    | none => simp [d_keeps, dSs, dS, dE, dT, dAnd, dOr, dTAnd, dTOr, dEs, dEo, dI, dConds, startF, Res.bind, rOpt, isiW, tyP, isTy, truW, cmpW, cmpW.isW, ordI, ordN, f1W, sView, tView, dView, lView, ixW, atP, ixOf, binW, binP, binI, setW, asgT, asgTs, sumW, setAll, slW, wP, srcOf, intOf, mkTup, mkLst, psOf, wipeF, appW, idxW, eqP, isScal, mixed, peq, dataOf, oP, g, callTrunc, back, leaveW]
    | some j => by_cases c2 : z ≤ j <;> simp [d_keeps, dSs, dS, dE, dT, dAnd, dOr, dTAnd, dTOr, dEs, dEo, dI, dConds, startF, Res.bind, rOpt, isiW, tyP, isTy, truW, cmpW, cmpW.isW, ordI, ordN, f1W, sView, tView, dView, lView, ixW, atP, ixOf, binW, binP, binI, setW, asgT, asgTs, sumW, setAll, slW, wP, srcOf, intOf, mkTup, mkLst, psOf, wipeF, appW, idxW, eqP, isScal, mixed, peq, dataOf, oP, g, c2, callTrunc, back, leaveW]
  | some i => cases hi with
    | none => by_cases c1 : i ≤ z <;> simp [d_keeps, dSs, dS, dE, dT, dAnd, dOr, dTAnd, dTOr, dEs, dEo, dI, dConds, startF, Res.bind, rOpt, isiW, tyP, isTy, truW, cmpW, cmpW.isW, ordI, ordN, f1W, sView, tView, dView, lView, ixW, atP, ixOf, binW, binP, binI, setW, asgT, asgTs, sumW, setAll, slW, wP, srcOf, intOf, mkTup, mkLst, psOf, wipeF, appW, idxW, eqP, isScal, mixed, peq, dataOf, oP, g, c1, callTrunc, back, leaveW]
    | some j => by_cases c1 : i ≤ z <;> by_cases c2 : z ≤ j <;> simp [d_keeps, dSs, dS, dE, dT, dAnd, dOr, dTAnd, dTOr, dEs, dEo, dI, dConds, startF, Res.bind, rOpt, isiW, tyP, isTy, truW, cmpW, cmpW.isW, ordI, ordN, f1W, sView, tView, dView, lView, ixW, atP, ixOf, binW, binP, binI, setW, asgT, asgTs, sumW, setAll, slW, wP, srcOf, intOf, mkTup, mkLst, psOf, wipeF, appW, idxW, eqP, isScal, mixed, peq, dataOf, oP, g, c1, c2, callTrunc, back, leaveW]
def rOf : P → Option Row
  | .tup [.str a, .str b, l, h] => some ⟨a, b, (match l with | .int i => some i | _ => none), (match h with | .int i => some i | _ => none)⟩
  | _ => none
theorem rOf_p (r : Row) : rOf r.p = some r := by
  obtain ⟨a, b, lo, hi⟩ := r
  cases lo <;> cases hi <;> rfl
def kpP (ev : List Nm) (cs : List Int) (x : P) : Bool := match rOf x with | some r => kp ev cs r | none => false
theorem kpP_p (ev : List Nm) (cs : List Int) (r : Row) : kpP ev cs r.p = kp ev cs r := by unfold kpP; rw [rOf_p]
theorem q5_ (n : Nat) (ev : List Nm) (rs : List Row) (cs : List Int) (h : TellOk ev rs) (hl : cs.length = ev.length) (w1 : Option W) (S : Store) : ∃ L : List Bool, dE (C (n + 2)) q_is_kept_0 [some (.p (tell ev rs)), some (.p (crs cs)), w1] S = .ok (.p (.lst (L.map P.bl))) S ∧ L.all id = rs.all (kp ev cs) := by
  refine all_of (cf := C (n + 2)) (e := q_is_kept_0) (σ := [some (.p (tell ev rs)), some (.p (crs cs)), w1]) (S := S) (l := rs) (f := kp ev cs) (lc_of (src := .vals (rs.map Row.p)) (S1 := S) (by simp [dSs, dS, dE, dT, dAnd, dOr, dTAnd, dTOr, dEs, dEo, dI, dConds, startF, Res.bind, rOpt, isiW, tyP, isTy, truW, cmpW, cmpW.isW, ordI, ordN, f1W, sView, tView, dView, lView, ixW, atP, ixOf, binW, binP, binI, setW, asgT, asgTs, sumW, setAll, slW, wP, srcOf, intOf, mkTup, mkLst, psOf, wipeF, appW, idxW, eqP, isScal, mixed, peq, dataOf, tell]) (by
    have hf := h.few
    have k := comp_vals (t := .name 2) (conds := fun σ1 S2 => dConds (C (n + 2)) .nil σ1 S2) (elt := fun σ1 S2 => dE (C (n + 2)) (.call i_keeps (.cons (.var 0) (.cons (.var 1) (.cons (.var 2) .nil)))) σ1 S2) (σ0 := wipeF [some (.p (tell ev rs)), some (.p (crs cs)), w1] [2]) (S := S) (c := fun _ => true) (f := fun x => .bl (kpP ev cs x))
      (rs.map Row.p) bigN [] (by simp only [List.length_map]; unfold bigN; omega) (by simp only [List.length_map]; show 0 + rs.length ≤ line; unfold line; omega) (fun y hy => by
        obtain ⟨z, hz, rfl⟩ := List.mem_map.mp hy
        have hr := h.rows z hz
        have hz2 := keeps_ n ev rs cs hl z hr.ha hr.hb S
        refine ⟨_, rfl, rfl, fun _ => ?_⟩
        rw [kpP_p]
        simp [dSs, dS, dE, dT, dAnd, dOr, dTAnd, dTOr, dEs, dEo, dI, dConds, startF, Res.bind, rOpt, isiW, tyP, isTy, truW, cmpW, cmpW.isW, ordI, ordN, f1W, sView, tView, dView, lView, ixW, atP, ixOf, binW, binP, binI, setW, asgT, asgTs, sumW, setAll, slW, wP, srcOf, intOf, mkTup, mkLst, psOf, wipeF, appW, idxW, eqP, isScal, mixed, peq, dataOf, hz2, callTrunc, back, leaveW])
    rw [filter_true, List.map_map] at k
    have e : ((fun x => P.bl (kpP ev cs x)) ∘ Row.p) = fun x => P.bl (kp ev cs x) := by funext x; show P.bl (kpP ev cs x.p) = _; rw [kpP_p]
    rw [e] at k
    exact k))
theorem isKept_ (n : Nat) (ev : List Nm) (rs : List Row) (cs : List Int) (h : TellOk ev rs) (hc : CrOk ev cs) (S : Store) : C (n + 7) i_is_kept [.p (tell ev rs), .p (crs cs)] S = .ok (.p (.bl (rs.all (kp ev cs)))) S := by
  rw [tab_at (d := d_is_kept) rfl _ _ rfl]
  have r1 := needC_ n ev rs cs h hc S
  obtain ⟨L, hq, hL⟩ := q5_ (n + 4) ev rs cs h hc.len none S
  simp [d_is_kept, dSs, dS, dE, dT, dAnd, dOr, dTAnd, dTOr, dEs, dEo, dI, dConds, startF, Res.bind, rOpt, isiW, tyP, isTy, truW, cmpW, cmpW.isW, ordI, ordN, f1W, sView, tView, dView, lView, ixW, atP, ixOf, binW, binP, binI, setW, asgT, asgTs, sumW, setAll, slW, wP, srcOf, intOf, mkTup, mkLst, psOf, wipeF, appW, idxW, eqP, isScal, mixed, peq, dataOf, r1, hq, pBls_bl L, hL, callTrunc, back, leaveW]
/-- the places of the kept rows -/
def kIx (ev : List Nm) (rs : List Row) (cs : List Int) : List P := (((rs.map Row.p).zipIdx 0).filter fun p => kpP ev cs p.1).map fun p => .int (p.2 : Nat)
theorem q6_ (n : Nat) (ev : List Nm) (rs : List Row) (cs : List Int) (h : TellOk ev rs) (hl : cs.length = ev.length) (w1 w2 : Option W) (S : Store) : dE (C (n + 2)) q_kept_statements_0 [some (.p (tell ev rs)), some (.p (crs cs)), w1, w2] S = .ok (.p (.lst (kIx ev rs cs))) S := by
  refine lc_of (src := .enm 0 (rs.map Row.p)) (S1 := S) (by simp [dSs, dS, dE, dT, dAnd, dOr, dTAnd, dTOr, dEs, dEo, dI, dConds, startF, Res.bind, rOpt, isiW, tyP, isTy, truW, cmpW, cmpW.isW, ordI, ordN, f1W, sView, tView, dView, lView, ixW, atP, ixOf, binW, binP, binI, setW, asgT, asgTs, sumW, setAll, slW, wP, srcOf, intOf, mkTup, mkLst, psOf, wipeF, appW, idxW, eqP, isScal, mixed, peq, dataOf, tell]) ?_
  have hf := h.few
  have k := comp_enm (t := .tup (.cons (.name 2) (.cons (.name 3) .nil))) (conds := fun σ1 S2 => dConds (C (n + 2)) (.cons (.call i_keeps (.cons (.var 0) (.cons (.var 1) (.cons (.var 3) .nil)))) .nil) σ1 S2) (elt := fun σ1 S2 => dE (C (n + 2)) (.var 2) σ1 S2) (σ0 := wipeF [some (.p (tell ev rs)), some (.p (crs cs)), w1, w2] [2, 3]) (S := S) (c := fun _ x => kpP ev cs x) (f := fun j _ => .int (j : Nat))
    (rs.map Row.p) 0 bigN [] (by simp only [List.length_map]; unfold bigN; omega) (by simp only [List.length_map]; show 0 + rs.length ≤ line; unfold line; omega) (fun j y hy => by
      obtain ⟨z, hz, rfl⟩ := List.mem_map.mp hy
      have hr := h.rows z hz
      have hz2 := keeps_ n ev rs cs hl z hr.ha hr.hb S
      rw [kpP_p]
      refine ⟨_, rfl, ?_, fun _ => ?_⟩
      · simp [dSs, dS, dE, dT, dAnd, dOr, dTAnd, dTOr, dEs, dEo, dI, dConds, startF, Res.bind, rOpt, isiW, tyP, isTy, truW, cmpW, cmpW.isW, ordI, ordN, f1W, sView, tView, dView, lView, ixW, atP, ixOf, binW, binP, binI, setW, asgT, asgTs, sumW, setAll, slW, wP, srcOf, intOf, mkTup, mkLst, psOf, wipeF, appW, idxW, eqP, isScal, mixed, peq, dataOf, hz2, callTrunc, back, leaveW]
      · simp [dSs, dS, dE, dT, dAnd, dOr, dTAnd, dTOr, dEs, dEo, dI, dConds, startF, Res.bind, rOpt, isiW, tyP, isTy, truW, cmpW, cmpW.isW, ordI, ordN, f1W, sView, tView, dView, lView, ixW, atP, ixOf, binW, binP, binI, setW, asgT, asgTs, sumW, setAll, slW, wP, srcOf, intOf, mkTup, mkLst, psOf, wipeF, appW, idxW, eqP, isScal, mixed, peq, dataOf])
  exact k
theorem kept_ (n : Nat) (ev : List Nm) (rs : List Row) (cs : List Int) (h : TellOk ev rs) (hc : CrOk ev cs) (S : Store) : C (n + 7) i_kept_statements [.p (tell ev rs), .p (crs cs)] S = .ok (.p (.tup (kIx ev rs cs))) S := by
  rw [tab_at (d := d_kept_statements) rfl _ _ rfl]
  have r1 := needC_ n ev rs cs h hc S
  have hq := q6_ (n + 4) ev rs cs h hc.len none none S
  simp [d_kept_statements, dSs, dS, dE, dT, dAnd, dOr, dTAnd, dTOr, dEs, dEo, dI, dConds, startF, Res.bind, rOpt, isiW, tyP, isTy, truW, cmpW, cmpW.isW, ordI, ordN, f1W, sView, tView, dView, lView, ixW, atP, ixOf, binW, binP, binI, setW, asgT, asgTs, sumW, setAll, slW, wP, srcOf, intOf, mkTup, mkLst, psOf, wipeF, appW, idxW, eqP, isScal, mixed, peq, dataOf, r1, hq, callTrunc, back, leaveW]
theorem kIx_all (ev : List Nm) (rs : List Row) (cs : List Int) : decide ((kIx ev rs cs).length = rs.length) = rs.all (kp ev cs) := by
  unfold kIx
  rw [List.length_map]
  have e : (((rs.map Row.p).zipIdx 0).filter fun p => kpP ev cs p.1).length = ((rs.map Row.p).filter (kpP ev cs)).length := by
    generalize rs.map Row.p = l
    have : ∀ (l : List P) (i : Nat), ((l.zipIdx i).filter fun p => kpP ev cs p.1).length = (l.filter (kpP ev cs)).length := fun l => by
      induction l with
      | nil => intro i; rfl
      | cons x r ih =>
        intro i
        rw [List.zipIdx_cons]
        by_cases c : kpP ev cs x = true
        · rw [List.filter_cons_of_pos (by exact c), List.filter_cons_of_pos c, List.length_cons, List.length_cons, ih]
        · rw [List.filter_cons_of_neg (by exact c), List.filter_cons_of_neg c, ih]
    exact this l 0
  rw [e]
  have e2 : rs.length = (rs.map Row.p).length := by simp
  rw [e2, Bool.eq_iff_iff, decide_eq_true_iff, List.length_filter_eq_length_iff, List.all_eq_true]
  constructor
  · intro k r hr
    rw [← kpP_p]
    exact k _ (List.mem_map_of_mem hr)
  · intro k x hx
    obtain ⟨r, hr, rfl⟩ := List.mem_map.mp hx
    rw [kpP_p]
    exact k r hr
/-! ### told and due -/
mutual
def okS : Nat → P → Bool
  | _, .non => true
  | _, .bl _ => true
  | _, .int _ => true
  | _, .str _ => true
  | 0, .tup _ => false
  | d + 1, .tup xs => decide (xs.length < 1000) && okSs d xs
  | _, .lst _ => false
  | _, .dk _ _ => false
  | _, .fn _ => false
def okSs : Nat → List P → Bool
  | _, [] => true
  | d, x :: xs => okS d x && okSs d xs
end
theorem okSs_get : ∀ {d : Nat} {xs : List P} {x : P}, okSs d xs = true → x ∈ xs → okS d x = true
  | _, [], _, _, h => nomatch h
  | d, y :: r, x, h, m => by
    have h : (okS d y && okSs d r) = true := by simpa [okSs] using h
    rw [Bool.and_eq_true] at h
    rcases List.mem_cons.mp m with e | e
    · rw [e]; exact h.1
    · exact okSs_get h.2 e
theorem same0_ (d : Nat) (x : P) (h : okS d x = true) (hx : ∀ xs, x ≠ .tup xs) (n : Nat) (S : Store) : C (n + 1) i__law_same [.p x, .p x] S = .ok (.p (.bl true)) S := by
  rw [tab_at (d := d__law_same) rfl _ _ rfl]
  cases x with
  | non => simp [d__law_same, dSs, dS, dE, dT, dAnd, dOr, dTAnd, dTOr, dEs, dEo, dI, dConds, startF, Res.bind, rOpt, isiW, tyP, isTy, truW, cmpW, cmpW.isW, ordI, ordN, f1W, sView, tView, dView, lView, ixW, atP, ixOf, binW, binP, binI, setW, asgT, asgTs, sumW, setAll, slW, wP, srcOf, intOf, mkTup, mkLst, psOf, wipeF, appW, idxW, eqP, isScal, mixed, peq, dataOf]
  | bl b => cases b <;> simp [d__law_same, dSs, dS, dE, dT, dAnd, dOr, dTAnd, dTOr, dEs, dEo, dI, dConds, startF, Res.bind, rOpt, isiW, tyP, isTy, truW, cmpW, cmpW.isW, ordI, ordN, f1W, sView, tView, dView, lView, ixW, atP, ixOf, binW, binP, binI, setW, asgT, asgTs, sumW, setAll, slW, wP, srcOf, intOf, mkTup, mkLst, psOf, wipeF, appW, idxW, eqP, isScal, mixed, peq, dataOf]
  | int i => simp [d__law_same, dSs, dS, dE, dT, dAnd, dOr, dTAnd, dTOr, dEs, dEo, dI, dConds, startF, Res.bind, rOpt, isiW, tyP, isTy, truW, cmpW, cmpW.isW, ordI, ordN, f1W, sView, tView, dView, lView, ixW, atP, ixOf, binW, binP, binI, setW, asgT, asgTs, sumW, setAll, slW, wP, srcOf, intOf, mkTup, mkLst, psOf, wipeF, appW, idxW, eqP, isScal, mixed, peq, dataOf]
  | str x =>
    have e : nmEq x x = true := nmEq_iff.mpr rfl
    simp [d__law_same, dSs, dS, dE, dT, dAnd, dOr, dTAnd, dTOr, dEs, dEo, dI, dConds, startF, Res.bind, rOpt, isiW, tyP, isTy, truW, cmpW, cmpW.isW, ordI, ordN, f1W, sView, tView, dView, lView, ixW, atP, ixOf, binW, binP, binI, setW, asgT, asgTs, sumW, setAll, slW, wP, srcOf, intOf, mkTup, mkLst, psOf, wipeF, appW, idxW, eqP, isScal, mixed, peq, dataOf, e]
  | tup xs => exact absurd rfl (hx xs)
  | lst xs => cases d <;> simp [okS] at h
  | dk ks vs => cases d <;> simp [okS] at h
  | fn i => cases d <;> simp [okS] at h
theorem range1_ {cf : CallF} {a : Ex} {σ : Fr} {S S1 : Store} {j : Int} (h : dE cf a σ S = .ok (.p (.int j)) S1) (h1 : -4611686018427387904 ≤ j) (h2 : j < 4611686018427387904) : dI cf (.range1 a) σ S = .ok (.rng 0 j.toNat) S1 := by
  rw [dI, h]
  show (if -4611686018427387904 ≤ j ∧ j < 4611686018427387904 then Res.ok (Src.rng 0 j.toNat) S1 else .bad) = _
  rw [if_pos ⟨h1, h2⟩]
theorem u3 (n : Nat) (xs : List P) (S : Store) : dE (C n) (.f1 .len (.var 1)) [some (.p (.tup xs)), some (.p (.tup xs)), none] S = .ok (.p (.int xs.length)) S := by
  simp [dSs, dS, dE, dT, dAnd, dOr, dTAnd, dTOr, dEs, dEo, dI, dConds, startF, Res.bind, rOpt, isiW, tyP, isTy, truW, cmpW, cmpW.isW, ordI, ordN, f1W, sView, tView, dView, lView, ixW, atP, ixOf, binW, binP, binI, setW, asgT, asgTs, sumW, setAll, slW, wP, srcOf, intOf, mkTup, mkLst, psOf, wipeF, appW, idxW, eqP, isScal, mixed, peq, dataOf]
theorem q10_ (n : Nat) (xs : List P) (hl : xs.length < 1000) (ih : ∀ x ∈ xs, ∀ S, C n i__law_same [.p x, .p x] S = .ok (.p (.bl true)) S) (S : Store) : ∃ L : List Bool, dE (C n) q__law_same_0 [some (.p (.tup xs)), some (.p (.tup xs)), none] S = .ok (.p (.lst (L.map P.bl))) S ∧ L.all id = true := by
  have hi : dI (C n) (.range1 (.f1 .len (.var 1))) [some (.p (.tup xs)), some (.p (.tup xs)), none] S = .ok (.rng 0 (xs.length : Int).toNat) S := range1_ (u3 n xs S) (by omega) (by omega)
  rw [Int.toNat_natCast] at hi
  have k := comp_rng (t := .name 2) (conds := fun σ1 S2 => dConds (C n) .nil σ1 S2) (elt := fun σ1 S2 => dE (C n) (.call i__law_same (.cons (.ix (.var 0) (.var 2)) (.cons (.ix (.var 1) (.var 2)) .nil))) σ1 S2) (σ0 := wipeF [some (.p (.tup xs)), some (.p (.tup xs)), none] [2]) (S := S) (c := fun _ => true) (f := fun _ => .bl true)
    xs.length 0 bigN [] (by unfold bigN; omega) (by show 0 + xs.length ≤ line; unfold line; omega) (fun j j1 j2 => by
      obtain ⟨m, rfl⟩ := Int.eq_ofNat_of_zero_le j1
      have hm : m < xs.length := by omega
      have hz2 := ih xs[m] (List.getElem_mem hm) S
      refine ⟨_, rfl, rfl, fun _ => ?_⟩
      simp [dSs, dS, dE, dT, dAnd, dOr, dTAnd, dTOr, dEs, dEo, dI, dConds, startF, Res.bind, rOpt, isiW, tyP, isTy, truW, cmpW, cmpW.isW, ordI, ordN, f1W, sView, tView, dView, lView, ixW, atP, ixOf, binW, binP, binI, setW, asgT, asgTs, sumW, setAll, slW, wP, srcOf, intOf, mkTup, mkLst, psOf, wipeF, appW, idxW, eqP, isScal, mixed, peq, dataOf, hm, hz2, callTrunc, back, leaveW])
  obtain ⟨L, h1, h2⟩ := all_of (l := ((List.range xs.length).map fun i : Nat => (0 : Int) + (i : Int)).filter fun _ => true) (f := fun _ => true) (lc_of hi k)
  exact ⟨L, h1, by rw [h2]; simp⟩
theorem u6 (cf : CallF) (e : Ex) (σ : Fr) (S : Store) (L : List Bool) (h1 : dE cf e σ S = .ok (.p (.lst (L.map P.bl))) S) (h2 : L.all id = true) : dE cf (.f1 .all e) σ S = .ok (.p (.bl true)) S := by
  simp [dSs, dS, dE, dT, dAnd, dOr, dTAnd, dTOr, dEs, dEo, dI, dConds, startF, Res.bind, rOpt, isiW, tyP, isTy, truW, cmpW, cmpW.isW, ordI, ordN, f1W, sView, tView, dView, lView, ixW, atP, ixOf, binW, binP, binI, setW, asgT, asgTs, sumW, setAll, slW, wP, srcOf, intOf, mkTup, mkLst, psOf, wipeF, appW, idxW, eqP, isScal, mixed, peq, dataOf, h1, pBls_bl L, h2]
theorem u9 (cf : CallF) (xs : List P) (w : Option W) (S : Store) : dT cf (.or (.cons (.not (.isi (.var 0) .tuple)) (.cons (.cmp .ne (.f1 .len (.var 0)) (.f1 .len (.var 1))) .nil))) [some (.p (.tup xs)), some (.p (.tup xs)), w] S = .ok (false) S := by
  simp [dSs, dS, dE, dT, dAnd, dOr, dTAnd, dTOr, dEs, dEo, dI, dConds, startF, Res.bind, rOpt, isiW, tyP, isTy, truW, cmpW, cmpW.isW, ordI, ordN, f1W, sView, tView, dView, lView, ixW, atP, ixOf, binW, binP, binI, setW, asgT, asgTs, sumW, setAll, slW, wP, srcOf, intOf, mkTup, mkLst, psOf, wipeF, appW, idxW, eqP, isScal, mixed, peq, dataOf]
theorem u10 (cf : CallF) (xs : List P) (w : Option W) (S : Store) : dT cf (.isi (.var 1) .tuple) [some (.p (.tup xs)), some (.p (.tup xs)), w] S = .ok (true) S := by
  simp [dSs, dS, dE, dT, dAnd, dOr, dTAnd, dTOr, dEs, dEo, dI, dConds, startF, Res.bind, rOpt, isiW, tyP, isTy, truW, cmpW, cmpW.isW, ordI, ordN, f1W, sView, tView, dView, lView, ixW, atP, ixOf, binW, binP, binI, setW, asgT, asgTs, sumW, setAll, slW, wP, srcOf, intOf, mkTup, mkLst, psOf, wipeF, appW, idxW, eqP, isScal, mixed, peq, dataOf]
theorem ifT {cf : CallF} {c : Ex} {a b : Sts} {σ : Fr} {S S1 : Store} (h : dT cf c σ S = .ok true S1) : dS cf (.ifS c a b) σ S = dSs cf a σ S1 := by
  rw [dS, h]; rfl
theorem ifF {cf : CallF} {c : Ex} {a b : Sts} {σ : Fr} {S S1 : Store} (h : dT cf c σ S = .ok false S1) : dS cf (.ifS c a b) σ S = dSs cf b σ S1 := by
  rw [dS, h]; rfl
theorem seqNx {cf : CallF} {c : Tp.St} {a : Sts} {σ σ1 : Fr} {S S1 : Store} (h : dS cf c σ S = .ok (.nx, σ1) S1) : dSs cf (.cons c a) σ S = dSs cf a σ1 S1 := by
  rw [dSs, h]; rfl
theorem seqRt {cf : CallF} {c : Tp.St} {a : Sts} {σ σ1 : Fr} {w : W} {S S1 : Store} (h : dS cf c σ S = .ok (.rt w, σ1) S1) : dSs cf (.cons c a) σ S = .ok (.rt w, σ1) S1 := by
  rw [dSs, h]; rfl
theorem retS {cf : CallF} {e : Ex} {σ : Fr} {w : W} {S S1 : Store} (h : dE cf e σ S = .ok w S1) : dS cf (.ret e) σ S = .ok (.rt w, σ) S1 := by
  rw [dS, h]; rfl
theorem nilS {cf : CallF} {σ : Fr} {S : Store} : dSs cf .nil σ S = .ok (.nx, σ) S := by
  rw [dSs]
theorem sameB_ (cf : CallF) (xs : List P) (S : Store) (a : dE cf (.f1 .all q__law_same_0) [some (.p (.tup xs)), some (.p (.tup xs)), none] S = .ok (.p (.bl true)) S) : dSs cf d__law_same.body [some (.p (.tup xs)), some (.p (.tup xs)), none] S = .ok (.rt (.p (.bl true)), [some (.p (.tup xs)), some (.p (.tup xs)), none]) S := by
  unfold d__law_same
  refine seqRt ?_
  refine (ifT (u10 cf xs none S)).trans ?_
  refine (seqNx ((ifF (u9 cf xs none S)).trans nilS)).trans ?_
  exact seqRt (retS a)
theorem sameS_ (n : Nat) (xs : List P) (hl : xs.length < 1000) (ih : ∀ x ∈ xs, ∀ S, C n i__law_same [.p x, .p x] S = .ok (.p (.bl true)) S) (S : Store) : C (n + 1) i__law_same [.p (.tup xs), .p (.tup xs)] S = .ok (.p (.bl true)) S := by
  obtain ⟨L, h1, h2⟩ := q10_ n xs hl ih S
  rw [tab_at (d := d__law_same) rfl _ _ rfl]
  exact bind_ok (sameB_ (C n) xs S (u6 _ _ _ _ _ h1 h2))
theorem same_ (d : Nat) : ∀ (x : P), okS d x = true → ∀ (n : Nat) (S : Store), C (n + (d + 1)) i__law_same [.p x, .p x] S = .ok (.p (.bl true)) S := by
  induction d with
  | zero =>
    intro x h n S
    refine same0_ 0 x h (fun xs e => ?_) n S
    rw [e] at h
    simp [okS] at h
  | succ d ih =>
    intro x h n S
    by_cases hx : ∀ xs, x ≠ .tup xs
    · exact same0_ (d + 1) x h hx (n + (d + 1)) S
    · obtain ⟨xs, hx⟩ := Classical.not_forall.mp hx
      have hx := Classical.not_not.mp hx
      subst hx
      have h : (decide (xs.length < 1000) && okSs d xs) = true := by simpa [okS] using h
      rw [Bool.and_eq_true, decide_eq_true_eq] at h
      exact sameS_ (n + (d + 1)) xs h.1 (fun x hx S => ih x (okSs_get h.2 hx) n S) S
/-! ### dict comprehensions with int keys, one value for all -/
def kf (acc : List Int) : List Int → List Int
  | [] => acc
  | c :: r => kf (if acc.contains c then acc else acc ++ [c]) r
def kv1 (y : P) (ks : List Int) : List (Kk × P) := ks.map fun i => (.inl i, y)
theorem dGet_kv1 (y : P) (c : Int) : ∀ ks : List Int, dGet (kv1 y ks) (.inl c) = if ks.contains c then some y else none
  | [] => rfl
  | k :: r => by
    have ih := dGet_kv1 y c r
    unfold kv1 at ih ⊢
    rw [List.map_cons]
    unfold dGet
    rw [ih, List.contains_cons]
    show (if (k == c) = true then some y else _) = _
    by_cases e : k = c
    · subst e; simp
    · have e2 : c ≠ k := fun q => e q.symm
      simp [e, e2]
theorem dRepl_kv1 (y : P) (c : Int) : ∀ ks : List Int, dRepl (kv1 y ks) (.inl c) y = kv1 y ks
  | [] => rfl
  | k :: r => by
    have ih := dRepl_kv1 y c r
    unfold kv1 at ih ⊢
    rw [List.map_cons]
    unfold dRepl
    rw [ih]
    split <;> rfl
theorem dPut_kv1 (y : P) (c : Int) (ks : List Int) : dPut (kv1 y ks) (.inl c) y = kv1 y (if ks.contains c then ks else ks ++ [c]) := by
  unfold dPut
  rw [dGet_kv1, dRepl_kv1]
  cases e : ks.contains c <;> simp [kv1]
theorem kf_len : ∀ (cs acc : List Int), (kf acc cs).length ≤ acc.length + cs.length
  | [], acc => by simp [kf]
  | c :: r, acc => by
    unfold kf
    have ih := kf_len r (if acc.contains c then acc else acc ++ [c])
    split at ih <;> simp at ih ⊢ <;> simp_all <;> omega
theorem kf_mem (x : Int) : ∀ (cs acc : List Int), x ∈ kf acc cs ↔ x ∈ acc ∨ x ∈ cs
  | [], acc => by simp [kf]
  | c :: r, acc => by
    unfold kf
    rw [kf_mem x r]
    cases e : acc.contains c with
    | true =>
      have e : c ∈ acc := by simpa using e
      rw [if_pos rfl, List.mem_cons]
      constructor
      · rintro (a | a)
        · exact .inl a
        · exact .inr (.inr a)
      · rintro (a | a | a)
        · exact .inl a
        · rw [a]; exact .inl e
        · exact .inr a
    | false =>
      rw [if_neg Bool.false_ne_true]
      simp [or_assoc]
theorem kf_nodup : ∀ (cs acc : List Int), acc.Nodup → (kf acc cs).Nodup
  | [], acc, h => h
  | c :: r, acc, h => by
    unfold kf
    refine kf_nodup r _ ?_
    cases e : acc.contains c with
    | true => simpa using h
    | false =>
      have e : c ∉ acc := by simpa using e
      rw [if_neg Bool.false_ne_true, List.nodup_append]
      refine ⟨h, by simp, fun a ha b hb => ?_⟩
      have : b = c := by simpa using hb
      rw [this]
      rintro rfl
      exact e ha
theorem ded_spec : ∀ l : List Int, (dedI l).Nodup ∧ ∀ k, k ∈ dedI l ↔ k ∈ l := fun l => by
  induction l with
  | nil => exact ⟨.nil, fun _ => Iff.rfl⟩
  | cons i r ih =>
    unfold dedI
    split
    · rename_i c
      refine ⟨ih.1, fun k => ?_⟩
      rw [ih.2 k, List.mem_cons]
      have c2 : i ∈ r := by simpa using c
      constructor
      · exact .inr
      · rintro (e | e)
        · rw [e]; exact c2
        · exact e
    · rename_i c
      have c2 : i ∉ r := by simpa using c
      refine ⟨List.nodup_cons.mpr ⟨fun z => c2 ((ih.2 i).mp z), ih.1⟩, fun k => ?_⟩
      rw [List.mem_cons, List.mem_cons, ih.2 k]
theorem kf_srt (cs : List Int) : srtI (kf [] cs) = srtI (dedI cs) := by
  refine srtI_uniq ?_ (srtI_sorted _)
  refine (srtI_perm _).trans ?_
  obtain ⟨h1, h2⟩ := ded_spec cs
  refine (List.perm_ext_iff_of_nodup (kf_nodup cs [] .nil) h1).mpr fun a => ?_
  rw [kf_mem, h2]
  simp
theorem comp_kv1 {t : Tg} {conds : Fr → Store → Res Bool} {ke ve : Fr → Store → Res W} {σ0 : Fr} {S : Store} {y : P} : ∀ (cs : List Int) (n : Nat) (acc : List Int), cs.length < n → acc.length + cs.length ≤ line →
    (∀ x ∈ cs, ∃ σ1, asgT t (.p (.int x)) σ0 = some σ1 ∧ conds σ1 S = .ok true S ∧ ke σ1 S = .ok (.p (.int x)) S ∧ ve σ1 S = .ok (.p y) S) → dcompGo t conds ke ve σ0 n (.vals (cs.map .int)) (kv1 y acc) S = .ok (kv1 y (kf acc cs)) S
  | [], n + 1, acc, _, _, _ => by
    unfold dcompGo
    simp [Src.next, kf]
  | x :: xs, n + 1, acc, hn, hl, h => by
    obtain ⟨σ1, h1, h2, h3, h4⟩ := h x List.mem_cons_self
    simp only [List.length_cons] at hn hl
    have ih := comp_kv1 (t := t) (conds := conds) (ke := ke) (ve := ve) (σ0 := σ0) (S := S) (y := y) xs n (if acc.contains x then acc else acc ++ [x]) (by omega)
      (by
        split
        · omega
        · rw [List.length_append, List.length_cons, List.length_nil]; omega) fun z hz => h z (List.mem_cons_of_mem _ hz)
    unfold dcompGo
    simp only [List.map_cons, Src.next, h1, h2]
    rw [if_pos trivial, h3]
    simp only [h4]
    show (if (kv1 y acc).length < line then dcompGo t conds ke ve σ0 n (.vals (xs.map .int)) (dPut (kv1 y acc) (.inl x) y) S else _) = _
    rw [if_pos (by unfold kv1; rw [List.length_map]; omega), dPut_kv1, ih]
    rfl
theorem q9_ (n : Nat) (ev : List Nm) (rs : List Row) (cs : List Int) (h : TellOk ev rs) (hc : CrOk ev cs) (S : Store) : dE (C n) q_order_in_2 [some (.p (tell ev rs)), some (.p (crs cs)), none, none, none, none] S = .ok (.p (.dk ((kv1 (.bl true) (kf [] cs)).map (·.1)) ((kv1 (.bl true) (kf [] cs)).map (·.2)))) S := by
  have hf := h.evs.few
  have hl := hc.len
  have k := comp_kv1 (t := .name 3) (conds := fun σ1 S2 => dConds (C n) .nil σ1 S2) (ke := fun σ1 S2 => dE (C n) (.var 3) σ1 S2) (ve := fun σ1 S2 => dE (C n) (.cst (.bl true)) σ1 S2) (σ0 := wipeF [some (.p (tell ev rs)), some (.p (crs cs)), none, none, none, none] [3]) (S := S) (y := .bl true) cs bigN [] (by unfold bigN; omega) (by show 0 + cs.length ≤ line; unfold line; omega) fun z hz => ⟨_, rfl, rfl, by simp [dSs, dS, dE, dT, dAnd, dOr, dTAnd, dTOr, dEs, dEo, dI, dConds, startF, Res.bind, rOpt, isiW, tyP, isTy, truW, cmpW, cmpW.isW, ordI, ordN, f1W, sView, tView, dView, lView, ixW, atP, ixOf, binW, binP, binI, setW, asgT, asgTs, sumW, setAll, slW, wP, srcOf, intOf, mkTup, mkLst, psOf, wipeF, appW, idxW, eqP, isScal, mixed, peq, dataOf], by simp [dSs, dS, dE, dT, dAnd, dOr, dTAnd, dTOr, dEs, dEo, dI, dConds, startF, Res.bind, rOpt, isiW, tyP, isTy, truW, cmpW, cmpW.isW, ordI, ordN, f1W, sView, tView, dView, lView, ixW, atP, ixOf, binW, binP, binI, setW, asgT, asgTs, sumW, setAll, slW, wP, srcOf, intOf, mkTup, mkLst, psOf, wipeF, appW, idxW, eqP, isScal, mixed, peq, dataOf]⟩
  unfold q_order_in_2
  rw [dE]
  have hi : dI (C n) (.of (.var 1)) [some (.p (tell ev rs)), some (.p (crs cs)), none, none, none, none] S = .ok (.vals (cs.map .int)) S := by simp [dSs, dS, dE, dT, dAnd, dOr, dTAnd, dTOr, dEs, dEo, dI, dConds, startF, Res.bind, rOpt, isiW, tyP, isTy, truW, cmpW, cmpW.isW, ordI, ordN, f1W, sView, tView, dView, lView, ixW, atP, ixOf, binW, binP, binI, setW, asgT, asgTs, sumW, setAll, slW, wP, srcOf, intOf, mkTup, mkLst, psOf, wipeF, appW, idxW, eqP, isScal, mixed, peq, dataOf, crs]
  rw [hi]
  exact bind_ok k
theorem dPairs_kv (y : P) : ∀ l : List Int, dPairs ((kv1 y l).map (·.1)) ((kv1 y l).map (·.2)) = kv1 y l
  | [] => rfl
  | i :: r => by
    have ih := dPairs_kv y r
    unfold kv1 at ih ⊢
    simp only [List.map_cons] at ih ⊢
    exact congrArg ((Sum.inl i, y) :: ·) ih
theorem sorted_kv (S : Store) (y : P) (l : List Int) (h : l.length < 64) : f1W .sorted S (.p (.dk ((kv1 y l).map (·.1)) ((kv1 y l).map (·.2)))) = some (.lst ((srtI l).map .int)) := by
  unfold f1W
  simp only [lView, dView, dPairs_kv]
  rw [if_pos (by unfold kv1; rw [List.length_map]; exact h)]
  have : pInts ((kv1 y l).map fun kv => ofKk kv.1) = some l := by
    unfold kv1
    rw [List.map_map]
    exact pInts_int l
  rw [this]
def namesAt (ev : List Nm) (cs : List Int) (z : Int) : List Nm := ((ev.zip cs).filter fun p => p.2 == z).map (·.1)
theorem zip_names (z : Int) : ∀ (ev : List Nm) (cs : List Int), (((ev.map P.str).zip (cs.map P.int)).filter fun p => (match p.2 with | .int i => i == z | _ => false)).map (fun p => p.1) = (namesAt ev cs z).map .str
  | [], cs => by simp [namesAt]
  | e :: ev, [] => by simp [namesAt]
  | e :: ev, c :: cs => by
    have ih := zip_names z ev cs
    unfold namesAt at ih ⊢
    simp only [List.map_cons, List.zip_cons_cons, List.filter_cons]
    by_cases h : c = z
    · subst h
      simpa using ih
    · simpa [h] using ih
theorem q7_ (n : Nat) (ev : List Nm) (rs : List Row) (cs : List Int) (h : TellOk ev rs) (hc : CrOk ev cs) (w : Option W) (z : Int) (S : Store) : dE (C n) q_order_in_0 [some (.p (tell ev rs)), some (.p (crs cs)), w, some (.p (.int z)), none, none] S = .ok (.p (.lst ((namesAt ev cs z).map .str))) S := by
  have hf := h.evs.few
  have hl := hc.len
  have k := comp_zip (t := .tup (.cons (.name 4) (.cons (.name 5) .nil))) (conds := fun σ1 S2 => dConds (C n) (.cons (.cmp .eq (.var 5) (.var 3)) .nil) σ1 S2) (elt := fun σ1 S2 => dE (C n) (.var 4) σ1 S2) (σ0 := wipeF [some (.p (tell ev rs)), some (.p (crs cs)), w, some (.p (.int z)), none, none] [4, 5]) (S := S)
    (c := fun _ y => match y with | .int i => i == z | _ => false) (f := fun x _ => x) (ev.map .str) (cs.map .int) bigN [] (by simp only [List.length_map]; unfold bigN; omega) (by simp only [List.length_map]; show 0 + ev.length ≤ line; unfold line; omega) (by
      intro x y hp
      obtain ⟨h1, h2⟩ := List.of_mem_zip hp
      obtain ⟨a, ha, rfl⟩ := List.mem_map.mp h1
      obtain ⟨b, hb, rfl⟩ := List.mem_map.mp h2
      refine ⟨_, rfl, ?_, fun _ => ?_⟩
      · by_cases e : b = z <;> simp [dSs, dS, dE, dT, dAnd, dOr, dTAnd, dTOr, dEs, dEo, dI, dConds, startF, Res.bind, rOpt, isiW, tyP, isTy, truW, cmpW, cmpW.isW, ordI, ordN, f1W, sView, tView, dView, lView, ixW, atP, ixOf, binW, binP, binI, setW, asgT, asgTs, sumW, setAll, slW, wP, srcOf, intOf, mkTup, mkLst, psOf, wipeF, appW, idxW, eqP, isScal, mixed, peq, dataOf, e]
      · simp [dSs, dS, dE, dT, dAnd, dOr, dTAnd, dTOr, dEs, dEo, dI, dConds, startF, Res.bind, rOpt, isiW, tyP, isTy, truW, cmpW, cmpW.isW, ordI, ordN, f1W, sView, tView, dView, lView, ixW, atP, ixOf, binW, binP, binI, setW, asgT, asgTs, sumW, setAll, slW, wP, srcOf, intOf, mkTup, mkLst, psOf, wipeF, appW, idxW, eqP, isScal, mixed, peq, dataOf])
  have k2 := zip_names z ev cs
  have hi : dI (C n) (.zip (.ix (.var 0) (.cst (.int 0))) (.var 1)) [some (.p (tell ev rs)), some (.p (crs cs)), w, some (.p (.int z)), none, none] S = .ok (.zip (ev.map .str) (cs.map .int)) S := by simp [dSs, dS, dE, dT, dAnd, dOr, dTAnd, dTOr, dEs, dEo, dI, dConds, startF, Res.bind, rOpt, isiW, tyP, isTy, truW, cmpW, cmpW.isW, ordI, ordN, f1W, sView, tView, dView, lView, ixW, atP, ixOf, binW, binP, binI, setW, asgT, asgTs, sumW, setAll, slW, wP, srcOf, intOf, mkTup, mkLst, psOf, wipeF, appW, idxW, eqP, isScal, mixed, peq, dataOf, tell, crs]
  exact (lc_of hi k).trans (by rw [List.nil_append]; exact congrArg (fun l => Res.ok (W.p (P.lst l)) S) k2)
def ordP (ev : List Nm) (cs : List Int) : P := .tup ((srtI (dedI cs)).map fun z => .tup ((namesAt ev cs z).map .str))
theorem ded_len : ∀ l : List Int, (dedI l).length ≤ l.length
  | [] => Nat.le_refl _
  | i :: r => by
    have ih := ded_len r
    unfold dedI
    split <;> simp <;> omega
theorem q8_ (n : Nat) (ev : List Nm) (rs : List Row) (cs ts : List Int) (h : TellOk ev rs) (hc : CrOk ev cs) (ht : ts.length ≤ 100) (S : Store) : dE (C n) q_order_in_1 [some (.p (tell ev rs)), some (.p (crs cs)), some (.p (.lst (ts.map .int))), none, none, none] S = .ok (.p (.lst (ts.map fun z => .tup ((namesAt ev cs z).map .str)))) S := by
  have k := comp_vals (t := .name 3) (conds := fun σ1 S2 => dConds (C n) .nil σ1 S2) (elt := fun σ1 S2 => dE (C n) (.f1 .tuple q_order_in_0) σ1 S2) (σ0 := wipeF [some (.p (tell ev rs)), some (.p (crs cs)), some (.p (.lst (ts.map .int))), none, none, none] [3]) (S := S) (c := fun _ => true)
    (f := fun x => match x with | .int z => .tup ((namesAt ev cs z).map .str) | _ => .non) (ts.map .int) bigN [] (by simp only [List.length_map]; unfold bigN; omega) (by simp only [List.length_map]; show 0 + ts.length ≤ line; unfold line; omega) (fun y hy => by
      obtain ⟨z, hz, rfl⟩ := List.mem_map.mp hy
      have hq := q7_ n ev rs cs h hc (some (.p (.lst (ts.map .int)))) z S
      refine ⟨_, rfl, rfl, fun _ => ?_⟩
      show dE (C n) (.f1 .tuple q_order_in_0) [some (.p (tell ev rs)), some (.p (crs cs)), some (.p (.lst (ts.map .int))), some (.p (.int z)), none, none] S = _
      rw [dE, hq]
      rfl)
  rw [filter_true, List.map_map] at k
  have hi : dI (C n) (.of (.var 2)) [some (.p (tell ev rs)), some (.p (crs cs)), some (.p (.lst (ts.map .int))), none, none, none] S = .ok (.vals (ts.map .int)) S := by simp [dSs, dS, dE, dT, dAnd, dOr, dTAnd, dTOr, dEs, dEo, dI, dConds, startF, Res.bind, rOpt, isiW, tyP, isTy, truW, cmpW, cmpW.isW, ordI, ordN, f1W, sView, tView, dView, lView, ixW, atP, ixOf, binW, binP, binI, setW, asgT, asgTs, sumW, setAll, slW, wP, srcOf, intOf, mkTup, mkLst, psOf, wipeF, appW, idxW, eqP, isScal, mixed, peq, dataOf]
  exact lc_of hi k
theorem order_ (n : Nat) (ev : List Nm) (rs : List Row) (cs : List Int) (h : TellOk ev rs) (hc : CrOk ev cs) (S : Store) : C (n + 7) i_order_in [.p (tell ev rs), .p (crs cs)] S = .ok (.p (ordP ev cs)) S := by
  rw [tab_at (d := d_order_in) rfl _ _ rfl]
  have hf := h.evs.few
  have hl := hc.len
  have r := needC_ n ev rs cs h hc S
  have a := q9_ (n + 6) ev rs cs h hc S
  have l1 : (kf [] cs).length < 64 := by
    have := kf_len cs []
    simp only [List.length_nil] at this
    omega
  have a2 := sorted_kv S (.bl true) (kf [] cs) l1
  rw [kf_srt] at a2
  have l2 : (srtI (dedI cs)).length ≤ 100 := by
    rw [(srtI_perm _).length_eq]
    have := ded_len cs
    omega
  have b := q8_ (n + 6) ev rs cs (srtI (dedI cs)) h hc l2 S
  have a3 : dE (C (n + 6)) (.f1 .sorted q_order_in_2) [some (.p (tell ev rs)), some (.p (crs cs)), none, none, none, none] S = .ok (.p (.lst ((srtI (dedI cs)).map .int))) S := by
    rw [dE, a]
    show rOpt ((f1W .sorted S _).map W.p) S = _
    rw [a2]
    rfl
  have s1 : dS (C (n + 6)) (.expr (.call i_need_course (.cons (.var 0) (.cons (.var 1) .nil)))) [some (.p (tell ev rs)), some (.p (crs cs)), none, none, none, none] S = .ok (.nx, [some (.p (tell ev rs)), some (.p (crs cs)), none, none, none, none]) S := by
    simp [dSs, dS, dE, dT, dAnd, dOr, dTAnd, dTOr, dEs, dEo, dI, dConds, startF, Res.bind, rOpt, isiW, tyP, isTy, truW, cmpW, cmpW.isW, ordI, ordN, f1W, sView, tView, dView, lView, ixW, atP, ixOf, binW, binP, binI, setW, asgT, asgTs, sumW, setAll, slW, wP, srcOf, intOf, mkTup, mkLst, psOf, wipeF, appW, idxW, eqP, isScal, mixed, peq, dataOf, r, callTrunc, back, leaveW]
  have s2 : dS (C (n + 6)) (.asg (.name 2) (.f1 .sorted q_order_in_2)) [some (.p (tell ev rs)), some (.p (crs cs)), none, none, none, none] S = .ok (.nx, [some (.p (tell ev rs)), some (.p (crs cs)), some (.p (.lst ((srtI (dedI cs)).map .int))), none, none, none]) S := by
    rw [dS, a3]
    rfl
  have s3 : dE (C (n + 6)) (.f1 .tuple q_order_in_1) [some (.p (tell ev rs)), some (.p (crs cs)), some (.p (.lst ((srtI (dedI cs)).map .int))), none, none, none] S = .ok (.p (ordP ev cs)) S := by
    rw [dE, b]
    rfl
  exact bind_ok ((seqNx s1).trans ((seqNx s2).trans (seqRt (retS s3))))
def dv : List Int → Int
  | [] => 0
  | z :: _ => if z < 0 then -z else z
theorem cupE_ (cf : CallF) (ns : List Int) (hl : ns.length ≤ 63) (w : Option W) (S : Store) : dE cf (.f1 .abs (.ix (.bin .add (.f1 .list (.var 0)) (.lst (.cons (.cst (.int 0)) .nil))) (.cst (.int 0)))) [some (.scr ns), w] S = .ok (.p (.int (dv ns))) S := by
  cases ns with
  | nil => simp [dSs, dS, dE, dT, dAnd, dOr, dTAnd, dTOr, dEs, dEo, dI, dConds, startF, Res.bind, rOpt, isiW, tyP, isTy, truW, cmpW, cmpW.isW, ordI, ordN, f1W, sView, tView, dView, lView, ixW, atP, ixOf, binW, binP, binI, setW, asgT, asgTs, sumW, setAll, slW, wP, srcOf, intOf, mkTup, mkLst, psOf, wipeF, appW, idxW, eqP, isScal, mixed, peq, dataOf, binW.binL, line, dv]
  | cons z r =>
    simp only [List.length_cons] at hl
    have e : r.length + 1 + 1 ≤ line := by unfold line; omega
    have e1 : 1 ≤ line := by unfold line; omega
    have e2 : (0 : Int) < (r.length : Int) + 1 + 1 := by omega
    simp [dSs, dS, dE, dT, dAnd, dOr, dTAnd, dTOr, dEs, dEo, dI, dConds, startF, Res.bind, rOpt, isiW, tyP, isTy, truW, cmpW, cmpW.isW, ordI, ordN, f1W, sView, tView, dView, lView, ixW, atP, ixOf, binW, binP, binI, setW, asgT, asgTs, sumW, setAll, slW, wP, srcOf, intOf, mkTup, mkLst, psOf, wipeF, appW, idxW, eqP, isScal, mixed, peq, dataOf, binW.binL, dv, e, e1, e2]
theorem cupR_ (cf : CallF) (x : Option W) (d : Int) (h0 : 0 ≤ d) (hb : d.natAbs.log2 < 1048577) (S : Store) : dE cf (.new (.lst (.cons (.ite (.cmp .ge (.var 1) (.bin .pow (.cst (.int 10)) (.cst (.int 18)))) (.bin .fdiv (.var 1) (.cst (.int 97))) (.cst (.int 0))) (.cons (.bin .add (.bin .mod (.f1 .int (.bin .add (.bin .mul (.var 1) (.cst (.int 337))) (.cst (.int 4051)))) (.cst (.int 2077496497))) (.cst (.int 179))) .nil)))) [x, some (.p (.int d))] S = .ok (.loc S.length) (S ++ [cup (if 1000000000000000000 ≤ d then d / 97 else 0) ((d * 337 + 4051) % 2077496497 + 179)]) := by
  have e : d.natAbs.log2 + (337 : Int).natAbs.log2 < 100000000 := by
    have : (337 : Int).natAbs.log2 < 100 := by decide
    omega
  have e2 : d.natAbs.log2 + Nat.log2 337 < 100000000 := e
  have e3 : Nat.log2 97 < 9000 := by decide
  by_cases c : 1000000000000000000 ≤ d <;> simp [dSs, dS, dE, dT, dAnd, dOr, dTAnd, dTOr, dEs, dEo, dI, dConds, startF, Res.bind, rOpt, isiW, tyP, isTy, truW, cmpW, cmpW.isW, ordI, ordN, f1W, sView, tView, dView, lView, ixW, atP, ixOf, binW, binP, binI, setW, asgT, asgTs, sumW, setAll, slW, wP, srcOf, intOf, mkTup, mkLst, psOf, wipeF, appW, idxW, eqP, isScal, mixed, peq, dataOf, allocW, cup, c, e, e2, e3, line]
theorem cup_ (n : Nat) (ns : List Int) (hl : ns.length ≤ 63) (hb : (dv ns).natAbs.log2 < 1048577) : ∃ a b, CupOk a b ∧ C (n + 1) i__law_cup [.scr ns] [] = .ok (.loc 0) [cup a b] := by
  have h0 : 0 ≤ dv ns := by
    cases ns with
    | nil => exact Int.le_refl _
    | cons z r =>
      unfold dv
      split <;> omega
  have m1 : 0 ≤ (dv ns * 337 + 4051) % 2077496497 := Int.emod_nonneg _ (by decide)
  have m2 : (dv ns * 337 + 4051) % 2077496497 < 2077496497 := Int.emod_lt_of_pos _ (by decide)
  refine ⟨if 1000000000000000000 ≤ dv ns then dv ns / 97 else 0, (dv ns * 337 + 4051) % 2077496497 + 179, ⟨?_, by omega, by omega⟩, ?_⟩
  · split
    · exact Int.ediv_nonneg h0 (by decide)
    · exact Int.le_refl _
  · rw [tab_at (d := d__law_cup) rfl _ _ rfl]
    have s1 : dS (C n) (.asg (.name 1) (.f1 .abs (.ix (.bin .add (.f1 .list (.var 0)) (.lst (.cons (.cst (.int 0)) .nil))) (.cst (.int 0))))) [some (.scr ns), none] [] = .ok (.nx, [some (.scr ns), some (.p (.int (dv ns)))]) [] := by
      rw [dS, cupE_ (C n) ns hl none []]
      rfl
    exact bind_ok ((seqNx s1).trans (seqRt (retS (cupR_ (C n) (some (.scr ns)) (dv ns) h0 hb []))))
/-! ### turns that change the store -/
theorem comp_inv {t : Tg} {conds : Fr → Store → Res Bool} {elt : Fr → Store → Res W} {σ0 : Fr} (I : Store → Prop) (R : P → Prop) : ∀ (xs : List P) (n : Nat) (acc : List P) (S : Store), I S → xs.length < n → acc.length + xs.length ≤ line →
    (∀ x ∈ xs, ∀ S, I S → ∃ σ1, asgT t (.p x) σ0 = some σ1 ∧ conds σ1 S = .ok true S ∧ ∃ y S', I S' ∧ R y ∧ elt σ1 S = .ok (.p y) S') →
    ∃ ys S', I S' ∧ ys.length = xs.length ∧ (∀ y ∈ ys, R y) ∧ compGo t conds elt σ0 n (.vals xs) acc S = .ok (acc ++ ys) S'
  | [], n + 1, acc, S, hI, _, _, _ => by
    refine ⟨[], S, hI, rfl, fun _ h => (nomatch h), ?_⟩
    unfold compGo
    simp [Src.next]
  | x :: xs, n + 1, acc, S, hI, hn, hl, h => by
    obtain ⟨σ1, h1, h2, y, S', i2, r2, h3⟩ := h x List.mem_cons_self S hI
    simp only [List.length_cons] at hn hl
    obtain ⟨ys, S'', i3, l3, r3, e3⟩ := comp_inv (t := t) (conds := conds) (elt := elt) (σ0 := σ0) I R xs n (acc ++ [y]) S' i2 (by omega) (by rw [List.length_append, List.length_cons, List.length_nil]; omega) fun z hz => h z (List.mem_cons_of_mem _ hz)
    refine ⟨y :: ys, S'', i3, by rw [List.length_cons, List.length_cons, l3], fun z hz => ?_, ?_⟩
    · rcases List.mem_cons.mp hz with e | e
      · rw [e]; exact r2
      · exact r3 z e
    · unfold compGo
      simp only [Src.next, h1, h2]
      rw [if_pos trivial, h3]
      show (if acc.length < line then _ else _) = _
      rw [if_pos (by omega), e3, List.append_assoc]
      rfl
theorem comp_inv_rng {t : Tg} {conds : Fr → Store → Res Bool} {elt : Fr → Store → Res W} {σ0 : Fr} (I : Store → Prop) (R : P → Prop) : ∀ (k : Nat) (lo : Int) (n : Nat) (acc : List P) (S : Store), I S → k < n → acc.length + k ≤ line →
    (∀ (x : Int) (S : Store), I S → ∃ σ1, asgT t (.p (.int x)) σ0 = some σ1 ∧ conds σ1 S = .ok true S ∧ ∃ y S', I S' ∧ R y ∧ elt σ1 S = .ok (.p y) S') →
    ∃ ys S', I S' ∧ ys.length = k ∧ (∀ y ∈ ys, R y) ∧ compGo t conds elt σ0 n (.rng lo k) acc S = .ok (acc ++ ys) S'
  | 0, lo, n + 1, acc, S, hI, _, _, _ => by
    refine ⟨[], S, hI, rfl, fun _ h => (nomatch h), ?_⟩
    unfold compGo
    simp [Src.next]
  | k + 1, lo, n + 1, acc, S, hI, hn, hl, h => by
    obtain ⟨σ1, h1, h2, y, S', i2, r2, h3⟩ := h lo S hI
    obtain ⟨ys, S'', i3, l3, r3, e3⟩ := comp_inv_rng (t := t) (conds := conds) (elt := elt) (σ0 := σ0) I R k (lo + 1) n (acc ++ [y]) S' i2 (by omega) (by rw [List.length_append, List.length_cons, List.length_nil]; omega) h
    refine ⟨y :: ys, S'', i3, by rw [List.length_cons, l3], fun z hz => ?_, ?_⟩
    · rcases List.mem_cons.mp hz with e | e
      · rw [e]; exact r2
      · exact r3 z e
    · unfold compGo
      simp only [Src.next, h1, h2]
      rw [if_pos trivial, h3]
      show (if acc.length < line then _ else _) = _
      rw [if_pos (by omega), e3, List.append_assoc]
      rfl
/-- a loop over a range: J counts the turns done -/
theorem for_inv_rng {t : Tg} {body : Fr → Store → Res (Fl × Fr)} (J : Nat → Fr → Store → Prop) (N : Nat)
    (h : ∀ (i : Nat) (x : Int) (σ : Fr) (S : Store), i < N → J i σ S → ∃ σ1, asgT t (.p (.int x)) σ = some σ1 ∧ ∃ σ2 S2, body σ1 S = .ok (.nx, σ2) S2 ∧ J (i + 1) σ2 S2) :
    ∀ (k : Nat) (lo : Int) (n i : Nat) (σ : Fr) (S : Store), k < n → i + k ≤ N → J i σ S → ∃ σ' S', J (i + k) σ' S' ∧ forGo t body n (.rng lo k) σ S = .ok (.nx, σ') S'
  | 0, lo, n + 1, i, σ, S, _, _, hJ => by
    refine ⟨σ, S, hJ, ?_⟩
    unfold forGo
    simp [Src.next]
  | k + 1, lo, n + 1, i, σ, S, hn, hi, hJ => by
    obtain ⟨σ1, h1, σ2, S2, h2, j2⟩ := h i lo σ S (by omega) hJ
    obtain ⟨σ3, S3, j3, h3⟩ := for_inv_rng J N h k (lo + 1) n (i + 1) σ2 S2 (by omega) (by omega) j2
    refine ⟨σ3, S3, (show i + (k + 1) = i + 1 + k by omega) ▸ j3, ?_⟩
    unfold forGo
    simp only [Src.next, h1, h2]
    exact h3
/-- a loop over values -/
theorem for_inv_vals {t : Tg} {body : Fr → Store → Res (Fl × Fr)} (J : List P → Fr → Store → Prop)
    (h : ∀ (x : P) (xs : List P) (σ : Fr) (S : Store), J (x :: xs) σ S → ∃ σ1, asgT t (.p x) σ = some σ1 ∧ ∃ σ2 S2, body σ1 S = .ok (.nx, σ2) S2 ∧ J xs σ2 S2) :
    ∀ (xs : List P) (n : Nat) (σ : Fr) (S : Store), xs.length < n → J xs σ S → ∃ σ' S', J [] σ' S' ∧ forGo t body n (.vals xs) σ S = .ok (.nx, σ') S'
  | [], n + 1, σ, S, _, hJ => by
    refine ⟨σ, S, hJ, ?_⟩
    unfold forGo
    simp [Src.next]
  | x :: xs, n + 1, σ, S, hn, hJ => by
    obtain ⟨σ1, h1, σ2, S2, h2, j2⟩ := h x xs σ S hJ
    simp only [List.length_cons] at hn
    obtain ⟨σ3, S3, j3, h3⟩ := for_inv_vals J h xs n σ2 S2 (by omega) j2
    refine ⟨σ3, S3, j3, ?_⟩
    unfold forGo
    simp only [Src.next, h1, h2]
    exact h3
def evs6 : List Nm := [[97], [98], [99], [100, 100], [101, 45, 49], [102]]
def evB (ev : List Nm) : Bool := decide (1 ≤ ev.length) && decide (ev.length ≤ 24) && ev.all nameB && risB ev && decide ev.Nodup
theorem evB_ok {ev : List Nm} (h : evB ev = true) : EvOk ev := by
  unfold evB at h
  simp only [Bool.and_eq_true, decide_eq_true_eq, List.all_eq_true] at h
  obtain ⟨⟨⟨⟨h1, h2⟩, h3⟩, h4⟩, h5⟩ := h
  exact ⟨h1, h2, h3, h4, h5⟩
theorem evs_ok : ∀ k, k < 6 → EvOk (evs6.take (k + 1)) := fun k hk => evB_ok (by
  have : ∀ k, k < 6 → evB (evs6.take (k + 1)) = true := by decide
  exact this k hk)
theorem mod_ne {r s L : Int} (h1 : 0 ≤ r) (h2 : r < L) (h3 : 0 ≤ s) (h4 : s < L - 1) : (r + 1 + s) % L ≠ r := by
  by_cases c : r + 1 + s < L
  · rw [Int.emod_eq_of_lt (by omega) c]; omega
  · rw [← Int.sub_emod_right, Int.emod_eq_of_lt (by omega) (by omega)]; omega
/-- the frame of _law_telling in its loop -/
def fT (w1 w2 w3 : Option W) (ev : List Nm) (w5 : Option W) (ys : List P) (w8 w9 w10 w11 w12 w13 : Option W) : Fr := [some (.loc 0), w1, w2, w3, some (.p (.tup (ev.map .str))), w5, some (.p (.lst ys)), some (.loc 1), w8, w9, w10, w11, w12, w13]
def isI (m : Int) (y : P) : Prop := ∃ i, y = .int i ∧ 0 ≤ i ∧ i < m
theorem b1_ (n : Nat) (a b : Int) (T : Store) (h : CupOk a b) (ev : List Nm) (w1 w2 w3 w5 w8 w9 w10 w11 w12 w13 : Option W) (ys : List P) (h1 : 2 ≤ ev.length) (h2 : ev.length ≤ 6) : ∃ (r : Nat) (a' b' : Int), r < ev.length ∧ CupOk a' b' ∧
    dS (C (n + 1)) (.asg (.name 8) (.call i__law_roll (.cons (.var 0) (.cons (.f1 .len (.var 4)) .nil)))) (fT w1 w2 w3 ev w5 ys w8 w9 w10 w11 w12 w13) (cup a b :: T) = .ok (.nx, fT w1 w2 w3 ev w5 ys (some (.p (.int r))) w9 w10 w11 w12 w13) (cup a' b' :: T) := by
  obtain ⟨r, a', b', z1, z2, z3, z4⟩ := roll_ n a b ev.length T h (by omega) (by omega)
  obtain ⟨k, rfl⟩ := Int.eq_ofNat_of_zero_le z1
  refine ⟨k, a', b', by omega, z3, ?_⟩
  simp [dSs, dS, dE, dT, dAnd, dOr, dTAnd, dTOr, dEs, dEo, dI, dConds, startF, Res.bind, rOpt, isiW, tyP, isTy, truW, cmpW, cmpW.isW, ordI, ordN, f1W, sView, tView, dView, lView, ixW, atP, ixOf, binW, binP, binI, setW, asgT, asgTs, sumW, setAll, slW, wP, srcOf, intOf, mkTup, mkLst, psOf, wipeF, appW, idxW, eqP, isScal, mixed, peq, dataOf, fT, callTrunc, back, leaveW, z4]
theorem b2_ (n : Nat) (a b : Int) (T : Store) (h : CupOk a b) (ev : List Nm) (w1 w2 w3 w5 w9 w10 w11 w12 w13 : Option W) (ys : List P) (h1 : 2 ≤ ev.length) (h2 : ev.length ≤ 6) (r : Nat) (hr : r < ev.length) : ∃ (s : Nat) (a' b' : Int), s < ev.length ∧ s ≠ r ∧ CupOk a' b' ∧
    dS (C (n + 1)) (.asg (.name 9) (.bin .mod (.f1 .int (.bin .add (.bin .add (.var 8) (.cst (.int 1))) (.call i__law_roll (.cons (.var 0) (.cons (.bin .sub (.f1 .len (.var 4)) (.cst (.int 1))) .nil))))) (.f1 .len (.var 4)))) (fT w1 w2 w3 ev w5 ys (some (.p (.int r))) w9 w10 w11 w12 w13) (cup a b :: T) = .ok (.nx, fT w1 w2 w3 ev w5 ys (some (.p (.int r))) (some (.p (.int s))) w10 w11 w12 w13) (cup a' b' :: T) := by
  obtain ⟨s, a', b', z1, z2, z3, z4⟩ := roll_ n a b (ev.length - 1) T h (by omega) (by omega)
  have m0 : 0 ≤ ((r : Int) + 1 + s) % (ev.length : Int) := Int.emod_nonneg _ (by omega)
  have m1 : ((r : Int) + 1 + s) % (ev.length : Int) < ev.length := Int.emod_lt_of_pos _ (by omega)
  have m2 : ((r : Int) + 1 + s) % (ev.length : Int) ≠ r := mod_ne (by omega) (by omega) z1 z2
  have hp : (0 : Int) < ev.length := by omega
  obtain ⟨k, hk⟩ := Int.eq_ofNat_of_zero_le m0
  refine ⟨k, a', b', by omega, by omega, z3, ?_⟩
  have hp2 : 0 < ev.length := by omega
  simp [dSs, dS, dE, dT, dAnd, dOr, dTAnd, dTOr, dEs, dEo, dI, dConds, startF, Res.bind, rOpt, isiW, tyP, isTy, truW, cmpW, cmpW.isW, ordI, ordN, f1W, sView, tView, dView, lView, ixW, atP, ixOf, binW, binP, binI, setW, asgT, asgTs, sumW, setAll, slW, wP, srcOf, intOf, mkTup, mkLst, psOf, wipeF, appW, idxW, eqP, isScal, mixed, peq, dataOf, fT, callTrunc, back, leaveW, z4, hp, hk, hp2]
theorem b3_ (n : Nat) (a b : Int) (T : Store) (h : CupOk a b) (ev : List Nm) (w1 w2 w3 w5 w10 w11 w12 w13 : Option W) (ys : List P) (r s : Nat) (i j : Int) (hi : ys[s]? = some (.int i)) (hj : ys[r]? = some (.int j)) (bi : 0 ≤ i ∧ i < 1000) (bj : 0 ≤ j ∧ j < 1000) : ∃ (g a' b' : Int), -2000 ≤ g ∧ g ≤ 2000 ∧ CupOk a' b' ∧
    dS (C (n + 2)) (.asg (.name 10) (.bin .add (.bin .sub (.ix (.var 6) (.var 9)) (.ix (.var 6) (.var 8))) (.call i__law_some (.cons (.var 0) (.cons (.lst (.cons (.cst (.int 0)) (.cons (.cst (.int 0)) (.cons (.cst (.int 0)) (.cons (.bin .sub (.call i__law_roll (.cons (.var 0) (.cons (.cst (.int 5)) .nil))) (.cst (.int 2))) .nil))))) .nil))))) (fT w1 w2 w3 ev w5 ys (some (.p (.int r))) (some (.p (.int s))) w10 w11 w12 w13) (cup a b :: T) = .ok (.nx, fT w1 w2 w3 ev w5 ys (some (.p (.int r))) (some (.p (.int s))) (some (.p (.int g))) w11 w12 w13) (cup a' b' :: T) := by
  obtain ⟨x, a1, b1, z1, z2, z3, z4⟩ := roll_ (n + 1) a b 5 T h (by omega) (by omega)
  obtain ⟨y, a2, b2, p1, p2, p3, -⟩ := some_ n a1 b1 [.int 0, .int 0, .int 0, .int (x - 2)] T z3 (by simp) (by simp)
  have : ∃ z, y = .int z ∧ -2 ≤ z ∧ z ≤ 2 := by
    simp only [List.mem_cons, List.not_mem_nil, or_false] at p1
    rcases p1 with e | e | e | e
    · exact ⟨0, e, by omega, by omega⟩
    · exact ⟨0, e, by omega, by omega⟩
    · exact ⟨0, e, by omega, by omega⟩
    · exact ⟨x - 2, e, by omega, by omega⟩
  obtain ⟨z, rfl, z1, z2⟩ := this
  refine ⟨i - j + z, a2, b2, by omega, by omega, p2, ?_⟩
  obtain ⟨hr, ej⟩ := List.getElem?_eq_some_iff.mp hj
  obtain ⟨hs, ei⟩ := List.getElem?_eq_some_iff.mp hi
  simp [dSs, dS, dE, dT, dAnd, dOr, dTAnd, dTOr, dEs, dEo, dI, dConds, startF, Res.bind, rOpt, isiW, tyP, isTy, truW, cmpW, cmpW.isW, ordI, ordN, f1W, sView, tView, dView, lView, ixW, atP, ixOf, binW, binP, binI, setW, asgT, asgTs, sumW, setAll, slW, wP, srcOf, intOf, mkTup, mkLst, psOf, wipeF, appW, idxW, eqP, isScal, mixed, peq, dataOf, fT, callTrunc, back, leaveW, z4, p3, hr, hs, ei, ej, line]
theorem b4_ (n : Nat) (a b : Int) (T : Store) (h : CupOk a b) (ev : List Nm) (w1 w2 w3 w5 w8 w9 w11 w12 w13 : Option W) (ys : List P) (g : Int) : ∃ (x y a' b' : Int), 0 ≤ x ∧ x < 3 ∧ 0 ≤ y ∧ y < 3 ∧ CupOk a' b' ∧
    dS (C (n + 1)) (.par [11, 12] (.cons (.bin .sub (.var 10) (.call i__law_roll (.cons (.var 0) (.cons (.cst (.int 3)) .nil)))) (.cons (.bin .add (.var 10) (.call i__law_roll (.cons (.var 0) (.cons (.cst (.int 3)) .nil)))) .nil))) (fT w1 w2 w3 ev w5 ys w8 w9 (some (.p (.int g))) w11 w12 w13) (cup a b :: T) = .ok (.nx, fT w1 w2 w3 ev w5 ys w8 w9 (some (.p (.int g))) (some (.p (.int (g - x)))) (some (.p (.int (g + y)))) w13) (cup a' b' :: T) := by
  obtain ⟨x, a1, b1, z1, z2, z3, z4⟩ := roll_ n a b 3 T h (by omega) (by omega)
  obtain ⟨y, a2, b2, p1, p2, p3, p4⟩ := roll_ n a1 b1 3 T z3 (by omega) (by omega)
  refine ⟨x, y, a2, b2, z1, z2, p1, p2, p3, ?_⟩
  simp [dSs, dS, dE, dT, dAnd, dOr, dTAnd, dTOr, dEs, dEo, dI, dConds, startF, Res.bind, rOpt, isiW, tyP, isTy, truW, cmpW, cmpW.isW, ordI, ordN, f1W, sView, tView, dView, lView, ixW, atP, ixOf, binW, binP, binI, setW, asgT, asgTs, sumW, setAll, slW, wP, srcOf, intOf, mkTup, mkLst, psOf, wipeF, appW, idxW, eqP, isScal, mixed, peq, dataOf, fT, callTrunc, back, leaveW, z4, p4]
theorem es_nil {cf : CallF} {σ : Fr} {S : Store} : dEs cf .nil σ S = .ok [] S := by simp [dEs]
theorem es_cons {cf : CallF} {a : Ex} {r : Exs} {w : W} {ws : List W} {σ : Fr} {S S1 S2 : Store} (h1 : dE cf a σ S = .ok w S1) (h2 : dEs cf r σ S1 = .ok ws S2) : dEs cf (.cons a r) σ S = .ok (w :: ws) S2 := by
  simp [dEs, h1, h2, Res.bind]
def e5 : Ex := .lst (.cons (.tup (.cons (.var 11) (.cons (.var 12) .nil))) (.cons (.tup (.cons (.var 11) (.cons (.cst .non) .nil))) (.cons (.tup (.cons (.cst .non) (.cons (.var 12) .nil))) (.cons (.tup (.cons (.var 10) (.cons (.var 10) .nil))) (.cons (.tup (.cons (.cst .non) (.cons (.cst .non) .nil))) .nil)))))
theorem e5_ (cf : CallF) (w1 w2 w3 w5 w8 w9 w13 : Option W) (ev : List Nm) (ys : List P) (g x y : Int) (S : Store) : dE cf e5 (fT w1 w2 w3 ev w5 ys w8 w9 (some (.p (.int g))) (some (.p (.int x))) (some (.p (.int y))) w13) S = .ok (.p (.lst [.tup [.int x, .int y], .tup [.int x, .non], .tup [.non, .int y], .tup [.int g, .int g], .tup [.non, .non]])) S := by
  simp [e5, dSs, dS, dE, dT, dAnd, dOr, dTAnd, dTOr, dEs, dEo, dI, dConds, startF, Res.bind, rOpt, isiW, tyP, isTy, truW, cmpW, cmpW.isW, ordI, ordN, f1W, sView, tView, dView, lView, ixW, atP, ixOf, binW, binP, binI, setW, asgT, asgTs, sumW, setAll, slW, wP, srcOf, intOf, mkTup, mkLst, psOf, wipeF, appW, idxW, eqP, isScal, mixed, peq, dataOf, fT, line]
theorem e6_ (n : Nat) (a b : Int) (T : Store) (h : CupOk a b) (w1 w2 w3 w5 w8 w9 w13 : Option W) (ev : List Nm) (ys : List P) (g x y : Int) (hg : -2000 ≤ g ∧ g ≤ 2000) (hx : g - 3 ≤ x ∧ x ≤ g) (hy : g ≤ y ∧ y ≤ g + 3) : ∃ (lo hi : Option Int) (a' b' : Int), CupOk a' b' ∧ inB lo ∧ inB hi ∧ (∀ i j, lo = some i → hi = some j → i ≤ j) ∧
    dE (C (n + 2)) (.call i__law_some (.cons (.var 0) (.cons e5 .nil))) (fT w1 w2 w3 ev w5 ys w8 w9 (some (.p (.int g))) (some (.p (.int x))) (some (.p (.int y))) w13) (cup a b :: T) = .ok (.p (.tup [oP lo, oP hi])) (cup a' b' :: T) := by
  obtain ⟨z, a2, b2, p1, p2, p3, -⟩ := some_ n a b [.tup [.int x, .int y], .tup [.int x, .non], .tup [.non, .int y], .tup [.int g, .int g], .tup [.non, .non]] T h (by simp) (by simp)
  have hz : ∃ (lo hi : Option Int), z = .tup [oP lo, oP hi] ∧ inB lo ∧ inB hi ∧ (∀ i j, lo = some i → hi = some j → i ≤ j) := by
    simp only [List.mem_cons, List.not_mem_nil, or_false] at p1
    have ib : ∀ v : Int, -3000 ≤ v → v ≤ 3000 → inB (some v) := fun v v1 v2 i hi => by cases hi; omega
    have inn : inB none := fun i hi => nomatch hi
    rcases p1 with e | e | e | e | e
    · exact ⟨some x, some y, e, ib _ (by omega) (by omega), ib _ (by omega) (by omega), fun i j h1 h2 => by cases h1; cases h2; omega⟩
    · exact ⟨some x, none, e, ib _ (by omega) (by omega), inn, fun i j h1 h2 => nomatch h2⟩
    · exact ⟨none, some y, e, inn, ib _ (by omega) (by omega), fun i j h1 h2 => nomatch h1⟩
    · exact ⟨some g, some g, e, ib _ (by omega) (by omega), ib _ (by omega) (by omega), fun i j h1 h2 => by cases h1; cases h2; omega⟩
    · exact ⟨none, none, e, inn, inn, fun i j h1 h2 => nomatch h1⟩
  obtain ⟨lo, hi, rfl, c1, c2, c3⟩ := hz
  refine ⟨lo, hi, a2, b2, p2, c1, c2, c3, ?_⟩
  have q := e5_ (C (n + 2)) w1 w2 w3 w5 w8 w9 w13 ev ys g x y (cup a b :: T)
  have hd : dEs (C (n + 2)) (.cons (.var 0) (.cons e5 .nil)) (fT w1 w2 w3 ev w5 ys w8 w9 (some (.p (.int g))) (some (.p (.int x))) (some (.p (.int y))) w13) (cup a b :: T) = .ok [.loc 0, .p (.lst [.tup [.int x, .int y], .tup [.int x, .non], .tup [.non, .int y], .tup [.int g, .int g], .tup [.non, .non]])] (cup a b :: T) := by
    refine es_cons (S1 := cup a b :: T) ?_ (es_cons q es_nil)
    simp [dSs, dS, dE, dT, dAnd, dOr, dTAnd, dTOr, dEs, dEo, dI, dConds, startF, Res.bind, rOpt, isiW, tyP, isTy, truW, cmpW, cmpW.isW, ordI, ordN, f1W, sView, tView, dView, lView, ixW, atP, ixOf, binW, binP, binI, setW, asgT, asgTs, sumW, setAll, slW, wP, srcOf, intOf, mkTup, mkLst, psOf, wipeF, appW, idxW, eqP, isScal, mixed, peq, dataOf, fT]
  rw [dE, hd]
  show callTrunc (cup a b :: T).length (C (n + 2) i__law_some _ _) _ = _
  rw [p3]
  simp [callTrunc, back, leaveW]
theorem b5_ (n : Nat) (a b : Int) (h : CupOk a b) (w1 w2 w3 w5 w13 : Option W) (ev : List Nm) (ys : List P) (g x y : Int) (hg : -2000 ≤ g ∧ g ≤ 2000) (hx : g - 3 ≤ x ∧ x ≤ g) (hy : g ≤ y ∧ y ≤ g + 3) (r s : Nat) (hr : r < ev.length) (hs : s < ev.length) (ne : ev[r] ≠ ev[s]) (rs : List Row) (hrs : rs.length < 1000) : ∃ (w : Row) (a' b' : Int), CupOk a' b' ∧ RowOk ev w ∧
    dS (C (n + 2)) (.expr (.app (.var 7) (.bin .add (.tup (.cons (.ix (.var 4) (.var 8)) (.cons (.ix (.var 4) (.var 9)) .nil))) (.call i__law_some (.cons (.var 0) (.cons e5 .nil)))))) (fT w1 w2 w3 ev w5 ys (some (.p (.int r))) (some (.p (.int s))) (some (.p (.int g))) (some (.p (.int x))) (some (.p (.int y))) w13) [cup a b, .lst (rs.map Row.p)] = .ok (.nx, (fT w1 w2 w3 ev w5 ys (some (.p (.int r))) (some (.p (.int s))) (some (.p (.int g))) (some (.p (.int x))) (some (.p (.int y))) w13)) [cup a' b', .lst ((rs ++ [w]).map Row.p)] := by
  obtain ⟨lo, hi, a', b', k1, k2, k3, k4, k5⟩ := e6_ n a b [.lst (rs.map Row.p)] h w1 w2 w3 w5 (some (.p (.int r))) (some (.p (.int s))) w13 ev ys g x y hg hx hy
  refine ⟨⟨ev[r], ev[s], lo, hi⟩, a', b', k1, ⟨List.getElem_mem _, List.getElem_mem _, ne, k2, k3, k4⟩, ?_⟩
  have t : dE (C (n + 2)) (.tup (.cons (.ix (.var 4) (.var 8)) (.cons (.ix (.var 4) (.var 9)) .nil))) (fT w1 w2 w3 ev w5 ys (some (.p (.int r))) (some (.p (.int s))) (some (.p (.int g))) (some (.p (.int x))) (some (.p (.int y))) w13) [cup a b, .lst (rs.map Row.p)] = .ok (.p (.tup [.str ev[r], .str ev[s]])) [cup a b, .lst (rs.map Row.p)] := by
    simp [dSs, dS, dE, dT, dAnd, dOr, dTAnd, dTOr, dEs, dEo, dI, dConds, startF, Res.bind, rOpt, isiW, tyP, isTy, truW, cmpW, cmpW.isW, ordI, ordN, f1W, sView, tView, dView, lView, ixW, atP, ixOf, binW, binP, binI, setW, asgT, asgTs, sumW, setAll, slW, wP, srcOf, intOf, mkTup, mkLst, psOf, wipeF, appW, idxW, eqP, isScal, mixed, peq, dataOf, fT, hr, hs, line]
  have u : dE (C (n + 2)) (.bin .add (.tup (.cons (.ix (.var 4) (.var 8)) (.cons (.ix (.var 4) (.var 9)) .nil))) (.call i__law_some (.cons (.var 0) (.cons e5 .nil)))) (fT w1 w2 w3 ev w5 ys (some (.p (.int r))) (some (.p (.int s))) (some (.p (.int g))) (some (.p (.int x))) (some (.p (.int y))) w13) [cup a b, .lst (rs.map Row.p)] = .ok (.p (.tup [.str ev[r], .str ev[s], oP lo, oP hi])) [cup a' b', .lst (rs.map Row.p)] := by
    rw [dE, t]
    show (dE _ _ _ _).bind _ = _
    rw [k5]
    simp [Res.bind, rOpt, binW, binP, line]
  have v : dE (C (n + 2)) (.app (.var 7) (.bin .add (.tup (.cons (.ix (.var 4) (.var 8)) (.cons (.ix (.var 4) (.var 9)) .nil))) (.call i__law_some (.cons (.var 0) (.cons e5 .nil))))) (fT w1 w2 w3 ev w5 ys (some (.p (.int r))) (some (.p (.int s))) (some (.p (.int g))) (some (.p (.int x))) (some (.p (.int y))) w13) [cup a b, .lst (rs.map Row.p)] = .ok (.p .non) [cup a' b', .lst ((rs ++ [(⟨ev[r], ev[s], lo, hi⟩ : Row)]).map Row.p)] := by
    rw [dE]
    have z : dE (C (n + 2)) (.var 7) (fT w1 w2 w3 ev w5 ys (some (.p (.int r))) (some (.p (.int s))) (some (.p (.int g))) (some (.p (.int x))) (some (.p (.int y))) w13) [cup a b, .lst (rs.map Row.p)] = .ok (.loc 1) [cup a b, .lst (rs.map Row.p)] := by
      simp [dSs, dS, dE, dT, dAnd, dOr, dTAnd, dTOr, dEs, dEo, dI, dConds, startF, Res.bind, rOpt, isiW, tyP, isTy, truW, cmpW, cmpW.isW, ordI, ordN, f1W, sView, tView, dView, lView, ixW, atP, ixOf, binW, binP, binI, setW, asgT, asgTs, sumW, setAll, slW, wP, srcOf, intOf, mkTup, mkLst, psOf, wipeF, appW, idxW, eqP, isScal, mixed, peq, dataOf, fT]
    rw [z]
    show (dE _ _ _ _).bind _ = _
    rw [u]
    have hl : rs.length < line := by unfold line; omega
    simp [Res.bind, appW, hl, Row.p, rowP]
  rw [dS, v]
  rfl
/-- one turn of _law_telling's loop -/
theorem b11_ (n : Nat) (a b : Int) (h : CupOk a b) (w1 w2 w3 w5 w8 w9 w10 w11 w12 w13 : Option W) (ev : List Nm) (nd : ev.Nodup) (h1 : 2 ≤ ev.length) (h2 : ev.length ≤ 6) (ys : List P) (hy : ∀ y ∈ ys, isI 1000 y) (hly : ys.length = ev.length) (rs : List Row) (hrs : rs.length < 1000) : ∃ (w : Row) (a' b' : Int) (v8 v9 v10 v11 v12 : Option W), CupOk a' b' ∧ RowOk ev w ∧
    dSs (C (n + 2)) b__law_telling_0 (fT w1 w2 w3 ev w5 ys w8 w9 w10 w11 w12 w13) [cup a b, .lst (rs.map Row.p)] = .ok (.nx, fT w1 w2 w3 ev w5 ys v8 v9 v10 v11 v12 w13) [cup a' b', .lst ((rs ++ [w]).map Row.p)] := by
  obtain ⟨r, a1, b1, r1, c1, t1⟩ := b1_ (n + 1) a b [.lst (rs.map Row.p)] h ev w1 w2 w3 w5 w8 w9 w10 w11 w12 w13 ys h1 h2
  obtain ⟨s, a2, b2, s1, s2, c2, t2⟩ := b2_ (n + 1) a1 b1 [.lst (rs.map Row.p)] c1 ev w1 w2 w3 w5 w9 w10 w11 w12 w13 ys h1 h2 r r1
  obtain ⟨i, ei, i1, i2⟩ := hy _ (List.getElem_mem (show s < ys.length by omega))
  obtain ⟨j, ej, j1, j2⟩ := hy _ (List.getElem_mem (show r < ys.length by omega))
  obtain ⟨g, a3, b3, g1, g2, c3, t3⟩ := b3_ n a2 b2 [.lst (rs.map Row.p)] c2 ev w1 w2 w3 w5 w10 w11 w12 w13 ys r s i j (List.getElem?_eq_some_iff.mpr ⟨_, ei⟩) (List.getElem?_eq_some_iff.mpr ⟨_, ej⟩) ⟨i1, i2⟩ ⟨j1, j2⟩
  obtain ⟨x, y, a4, b4, x1, x2, y1, y2, c4, t4⟩ := b4_ (n + 1) a3 b3 [.lst (rs.map Row.p)] c3 ev w1 w2 w3 w5 (some (.p (.int r))) (some (.p (.int s))) w11 w12 w13 ys g
  have ne : ev[r] ≠ ev[s] := fun e => s2 ((List.getElem_inj nd).mp e).symm
  obtain ⟨w, a5, b5, c5, k5, t5⟩ := b5_ n a4 b4 c4 w1 w2 w3 w5 w13 ev ys g (g - x) (g + y) ⟨g1, g2⟩ ⟨by omega, by omega⟩ ⟨by omega, by omega⟩ r s r1 s1 ne rs hrs
  exact ⟨w, a5, b5, _, _, _, _, _, c5, k5, (seqNx t1).trans ((seqNx t2).trans ((seqNx t3).trans ((seqNx t4).trans ((seqNx t5).trans nilS))))⟩
/-- the frame of _law_telling before its loop -/
def fS (w1 w2 w3 w4 w6 w7 : Option W) : Fr := [some (.loc 0), w1, w2, w3, w4, none, w6, w7, none, none, none, none, none, none]
theorem sl_to {cf : CallF} {a e : Ex} {σ : Fr} {S S1 S2 : Store} {xs : List P} {j : Int} (h1 : dE cf a σ S = .ok (.p (.tup xs)) S1) (h2 : dE cf e σ S1 = .ok (.p (.int j)) S2) : dE cf (.sl a .none (.some e)) σ S = .ok (.p (.tup (cutL xs none (some j)))) S2 := by
  simp [dE, dEo, Res.bind, h1, h2, intOf, slW, rOpt]
theorem t1_ (n : Nat) (a b : Int) (h : CupOk a b) (most : Int) (m1 : 0 < most) (m2 : most ≤ 6) (w2 w3 : Option W) : ∃ (k : Nat) (a' b' : Int), k < 6 ∧ CupOk a' b' ∧
    dS (C (n + 1)) (.asg (.name 4) (.sl (.tup (.cons (.cst (.str [97])) (.cons (.cst (.str [98])) (.cons (.cst (.str [99])) (.cons (.cst (.str [100, 100])) (.cons (.cst (.str [101, 45, 49])) (.cons (.cst (.str [102])) .nil))))))) .none (.some (.bin .add (.cst (.int 1)) (.call i__law_roll (.cons (.var 0) (.cons (.var 1) .nil))))))) (fS (some (.p (.int most))) w2 w3 none none none) [cup a b] = .ok (.nx, fS (some (.p (.int most))) w2 w3 (some (.p (.tup ((evs6.take (k + 1)).map .str)))) none none) [cup a' b'] := by
  obtain ⟨r, a1, b1, z1, z2, z3, z4⟩ := roll_ n a b most [] h m1 (by omega)
  obtain ⟨k, rfl⟩ := Int.eq_ofNat_of_zero_le z1
  refine ⟨k, a1, b1, by omega, z3, ?_⟩
  have e : (1 : Int) + (k : Int) = ((k + 1 : Nat) : Int) := by omega
  have cut : ∀ k, k < 6 → cutL (evs6.map P.str) none (some ((k + 1 : Nat) : Int)) = (evs6.take (k + 1)).map P.str := by
    intro k hk
    match k, hk with
    | 0, _ => rfl
    | 1, _ => rfl
    | 2, _ => rfl
    | 3, _ => rfl
    | 4, _ => rfl
    | 5, _ => rfl
  have c := cut k (by omega)
  have x1 : dE (C (n + 1)) (.bin .add (.cst (.int 1)) (.call i__law_roll (.cons (.var 0) (.cons (.var 1) .nil)))) (fS (some (.p (.int most))) w2 w3 none none none) [cup a b] = .ok (.p (.int ((k + 1 : Nat) : Int))) [cup a1 b1] := by
    simp [dSs, dS, dE, dT, dAnd, dOr, dTAnd, dTOr, dEs, dEo, dI, dConds, startF, Res.bind, rOpt, isiW, tyP, isTy, truW, cmpW, cmpW.isW, ordI, ordN, f1W, sView, tView, dView, lView, ixW, atP, ixOf, binW, binP, binI, setW, asgT, asgTs, sumW, setAll, slW, wP, srcOf, intOf, mkTup, mkLst, psOf, wipeF, appW, idxW, eqP, isScal, mixed, peq, dataOf, fS, callTrunc, back, leaveW, z4]
    omega
  have x2 : dE (C (n + 1)) (.tup (.cons (.cst (.str [97])) (.cons (.cst (.str [98])) (.cons (.cst (.str [99])) (.cons (.cst (.str [100, 100])) (.cons (.cst (.str [101, 45, 49])) (.cons (.cst (.str [102])) .nil))))))) (fS (some (.p (.int most))) w2 w3 none none none) [cup a b] = .ok (.p (.tup (evs6.map .str))) [cup a b] := by
    simp [dSs, dS, dE, dT, dAnd, dOr, dTAnd, dTOr, dEs, dEo, dI, dConds, startF, Res.bind, rOpt, isiW, tyP, isTy, truW, cmpW, cmpW.isW, ordI, ordN, f1W, sView, tView, dView, lView, ixW, atP, ixOf, binW, binP, binI, setW, asgT, asgTs, sumW, setAll, slW, wP, srcOf, intOf, mkTup, mkLst, psOf, wipeF, appW, idxW, eqP, isScal, mixed, peq, dataOf, fS, evs6, line]
  have x3 := sl_to x2 x1
  rw [c] at x3
  rw [dS, x3]
  rfl
theorem q13_ (n : Nat) (a b : Int) (h : CupOk a b) (wide : Int) (m1 : 0 < wide) (m2 : wide < 1000) (ev : List Nm) (hl : ev.length ≤ 24) (w1 w2 w6 w7 : Option W) : ∃ (ys : List P) (a' b' : Int), CupOk a' b' ∧ ys.length = ev.length ∧ (∀ y ∈ ys, isI 1000 y) ∧
    dE (C (n + 1)) q__law_telling_2 (fS w1 w2 (some (.p (.int wide))) (some (.p (.tup (ev.map .str)))) w6 w7) [cup a b] = .ok (.p (.lst ys)) [cup a' b'] := by
  have k := comp_inv (t := .name 13) (conds := fun σ1 S2 => dConds (C (n + 1)) .nil σ1 S2) (elt := fun σ1 S2 => dE (C (n + 1)) (.call i__law_roll (.cons (.var 0) (.cons (.var 3) .nil))) σ1 S2) (σ0 := wipeF (fS w1 w2 (some (.p (.int wide))) (some (.p (.tup (ev.map .str)))) w6 w7) [13])
    (fun S => ∃ a b, CupOk a b ∧ S = [cup a b]) (isI 1000) (ev.map .str) bigN [] [cup a b] ⟨a, b, h, rfl⟩ (by simp only [List.length_map]; unfold bigN; omega) (by simp only [List.length_map]; show 0 + ev.length ≤ line; unfold line; omega) (by
      rintro x - S ⟨a, b, h, rfl⟩
      obtain ⟨r, a1, b1, z1, z2, z3, z4⟩ := roll_ n a b wide [] h m1 (by omega)
      refine ⟨_, rfl, rfl, .int r, [cup a1 b1], ⟨a1, b1, z3, rfl⟩, ⟨r, rfl, z1, by omega⟩, ?_⟩
      simp [dSs, dS, dE, dT, dAnd, dOr, dTAnd, dTOr, dEs, dEo, dI, dConds, startF, Res.bind, rOpt, isiW, tyP, isTy, truW, cmpW, cmpW.isW, ordI, ordN, f1W, sView, tView, dView, lView, ixW, atP, ixOf, binW, binP, binI, setW, asgT, asgTs, sumW, setAll, slW, wP, srcOf, intOf, mkTup, mkLst, psOf, wipeF, appW, idxW, eqP, isScal, mixed, peq, dataOf, fS, callTrunc, back, leaveW, z4])
  obtain ⟨ys, S', ⟨a', b', c, rfl⟩, l, r, e⟩ := k
  rw [List.length_map] at l
  refine ⟨ys, a', b', c, l, r, ?_⟩
  have hi : dI (C (n + 1)) (.of (.var 4)) (fS w1 w2 (some (.p (.int wide))) (some (.p (.tup (ev.map .str)))) w6 w7) [cup a b] = .ok (.vals (ev.map .str)) [cup a b] := by simp [dSs, dS, dE, dT, dAnd, dOr, dTAnd, dTOr, dEs, dEo, dI, dConds, startF, Res.bind, rOpt, isiW, tyP, isTy, truW, cmpW, cmpW.isW, ordI, ordN, f1W, sView, tView, dView, lView, ixW, atP, ixOf, binW, binP, binI, setW, asgT, asgTs, sumW, setAll, slW, wP, srcOf, intOf, mkTup, mkLst, psOf, wipeF, appW, idxW, eqP, isScal, mixed, peq, dataOf, fS]
  exact lc_of hi e
theorem t2_ (n : Nat) (a b : Int) (h : CupOk a b) (wide : Int) (m1 : 0 < wide) (m2 : wide < 1000) (ev : List Nm) (hl : ev.length ≤ 24) (w1 w2 : Option W) : ∃ (ys : List P) (a' b' : Int), CupOk a' b' ∧ ys.length = ev.length ∧ (∀ y ∈ ys, isI 1000 y) ∧
    dS (C (n + 1)) (.par [6, 7] (.cons q__law_telling_2 (.cons (.new (.lst .nil)) .nil))) (fS w1 w2 (some (.p (.int wide))) (some (.p (.tup (ev.map .str)))) none none) [cup a b] = .ok (.nx, fS w1 w2 (some (.p (.int wide))) (some (.p (.tup (ev.map .str)))) (some (.p (.lst ys))) (some (.loc 1))) [cup a' b', .lst []] := by
  obtain ⟨ys, a', b', c, l, r, e⟩ := q13_ n a b h wide m1 m2 ev hl w1 w2 none none
  refine ⟨ys, a', b', c, l, r, ?_⟩
  have x : dE (C (n + 1)) (.new (.lst .nil)) (fS w1 w2 (some (.p (.int wide))) (some (.p (.tup (ev.map .str)))) none none) [cup a' b'] = .ok (.loc 1) [cup a' b', .lst []] := by
    simp [dSs, dS, dE, dT, dAnd, dOr, dTAnd, dTOr, dEs, dEo, dI, dConds, startF, Res.bind, rOpt, isiW, tyP, isTy, truW, cmpW, cmpW.isW, ordI, ordN, f1W, sView, tView, dView, lView, ixW, atP, ixOf, binW, binP, binI, setW, asgT, asgTs, sumW, setAll, slW, wP, srcOf, intOf, mkTup, mkLst, psOf, wipeF, appW, idxW, eqP, isScal, mixed, peq, dataOf, allocW, line]
  rw [dS, es_cons e (es_cons x es_nil)]
  rfl
theorem i12_ (n : Nat) (a b : Int) (h : CupOk a b) (many : Int) (m1 : 0 < many) (m2 : many < 900) (ev : List Nm) (w1 w3 w6 : Option W) (T : Store) : ∃ (k : Nat) (a' b' : Int), CupOk a' b' ∧ (k : Int) ≤ many ∧ (ev.length ≤ 1 → k = 0) ∧
    dI (C (n + 1)) (.range1 (.ite (.cmp .gt (.f1 .len (.var 4)) (.cst (.int 1))) (.call i__law_roll (.cons (.var 0) (.cons (.bin .add (.var 2) (.cst (.int 1))) .nil))) (.cst (.int 0)))) (fS w1 (some (.p (.int many))) w3 (some (.p (.tup (ev.map .str)))) w6 (some (.loc 1))) (cup a b :: T) = .ok (.rng 0 k) (cup a' b' :: T) := by
  by_cases c : (1 : Int) < ev.length
  · obtain ⟨r, a1, b1, z1, z2, z3, z4⟩ := roll_ n a b (many + 1) T h (by omega) (by omega)
    obtain ⟨k, rfl⟩ := Int.eq_ofNat_of_zero_le z1
    refine ⟨k, a1, b1, z3, by omega, fun _ => by omega, ?_⟩
    have e := range1_ (cf := C (n + 1)) (a := .ite (.cmp .gt (.f1 .len (.var 4)) (.cst (.int 1))) (.call i__law_roll (.cons (.var 0) (.cons (.bin .add (.var 2) (.cst (.int 1))) .nil))) (.cst (.int 0))) (σ := fS w1 (some (.p (.int many))) w3 (some (.p (.tup (ev.map .str)))) w6 (some (.loc 1))) (S := cup a b :: T) (S1 := cup a1 b1 :: T) (j := (k : Int)) (by
      simp [dSs, dS, dE, dT, dAnd, dOr, dTAnd, dTOr, dEs, dEo, dI, dConds, startF, Res.bind, rOpt, isiW, tyP, isTy, truW, cmpW, cmpW.isW, ordI, ordN, f1W, sView, tView, dView, lView, ixW, atP, ixOf, binW, binP, binI, setW, asgT, asgTs, sumW, setAll, slW, wP, srcOf, intOf, mkTup, mkLst, psOf, wipeF, appW, idxW, eqP, isScal, mixed, peq, dataOf, fS, callTrunc, back, leaveW, c, z4]) (by omega) (by omega)
    rw [Int.toNat_natCast] at e
    exact e
  · refine ⟨0, a, b, h, by omega, fun _ => rfl, ?_⟩
    exact range1_ (j := 0) (by simp [dSs, dS, dE, dT, dAnd, dOr, dTAnd, dTOr, dEs, dEo, dI, dConds, startF, Res.bind, rOpt, isiW, tyP, isTy, truW, cmpW, cmpW.isW, ordI, ordN, f1W, sView, tView, dView, lView, ixW, atP, ixOf, binW, binP, binI, setW, asgT, asgTs, sumW, setAll, slW, wP, srcOf, intOf, mkTup, mkLst, psOf, wipeF, appW, idxW, eqP, isScal, mixed, peq, dataOf, fS, c]) (by omega) (by omega)
theorem r12_ (n : Nat) (a b : Int) (h : CupOk a b) (many : Int) (m1 : 0 < many) (m2 : many ≤ 60) (w1 w3 : Option W) (ev : List Nm) (nd : ev.Nodup) (h2 : ev.length ≤ 6) (ys : List P) (hy : ∀ y ∈ ys, isI 1000 y) (hly : ys.length = ev.length) : ∃ (rs : List Row) (a' b' : Int) (v5 v8 v9 v10 v11 v12 v13 : Option W), CupOk a' b' ∧ (rs.length : Int) ≤ many ∧ (∀ r ∈ rs, RowOk ev r) ∧
    dS (C (n + 2)) r__law_telling_1 (fS w1 (some (.p (.int many))) w3 (some (.p (.tup (ev.map .str)))) (some (.p (.lst ys))) (some (.loc 1))) [cup a b, .lst []] = .ok (.nx, fT w1 (some (.p (.int many))) w3 ev v5 ys v8 v9 v10 v11 v12 v13) [cup a' b', .lst (rs.map Row.p)] := by
  obtain ⟨k, a1, b1, c1, k1, k2, e1⟩ := i12_ (n + 1) a b h many m1 (by omega) ev w1 w3 (some (.p (.lst ys))) [.lst []]
  obtain ⟨σ', S', ⟨rs, a2, b2, v5, v8, v9, v10, v11, v12, v13, c2, l2, o2, rfl, rfl⟩, e2⟩ := for_inv_rng (t := .name 5) (body := fun σ1 S2 => dSs (C (n + 2)) b__law_telling_0 σ1 S2) (fun i σ S => ∃ (rs : List Row) (a' b' : Int) (v5 v8 v9 v10 v11 v12 v13 : Option W), CupOk a' b' ∧ rs.length = i ∧ (∀ r ∈ rs, RowOk ev r) ∧ σ = fT w1 (some (.p (.int many))) w3 ev v5 ys v8 v9 v10 v11 v12 v13 ∧ S = [cup a' b', .lst (rs.map Row.p)]) k
    (by
      rintro i x σ S hi ⟨rs, a', b', v5, v8, v9, v10, v11, v12, v13, c, l, o, rfl, rfl⟩
      have h1 : 2 ≤ ev.length := by
        have : ¬ ev.length ≤ 1 := fun z => by
          have := k2 z
          omega
        omega
      obtain ⟨w, a3, b3, x8, x9, x10, x11, x12, c3, o3, e3⟩ := b11_ n a' b' c w1 (some (.p (.int many))) w3 (some (.p (.int x))) v8 v9 v10 v11 v12 v13 ev nd h1 h2 ys hy hly rs (by omega)
      refine ⟨_, rfl, _, _, e3, rs ++ [w], a3, b3, _, _, _, _, _, _, _, c3, by simp [l], fun r hr => ?_, rfl, rfl⟩
      rcases List.mem_append.mp hr with z | z
      · exact o r z
      · rw [List.mem_singleton.mp z]; exact o3)
    k 0 bigN 0 (fS w1 (some (.p (.int many))) w3 (some (.p (.tup (ev.map .str)))) (some (.p (.lst ys))) (some (.loc 1))) [cup a1 b1, .lst []] (by unfold bigN; omega) (by omega) ⟨[], a1, b1, none, none, none, none, none, none, none, c1, rfl, fun _ z => (nomatch z), rfl, rfl⟩
  refine ⟨rs, a2, b2, v5, v8, v9, v10, v11, v12, v13, c2, by omega, o2, ?_⟩
  unfold r__law_telling_1
  rw [dS, e1]
  exact e2
theorem telling0_ (n : Nat) (a b : Int) (h : CupOk a b) (most many wide : Int) (m1 : 0 < most) (m2 : most ≤ 6) (m3 : 0 < many) (m4 : many ≤ 60) (m5 : 0 < wide) (m6 : wide < 1000) : ∃ (ev : List Nm) (rs : List Row) (a' b' : Int), TellOk ev rs ∧ ev.length ≤ 6 ∧ (rs.length : Int) ≤ many ∧ CupOk a' b' ∧
    C (n + 3) i__law_telling [.loc 0, .p (.int most), .p (.int many), .p (.int wide)] [cup a b] = .ok (.p (tell ev rs)) [cup a' b', .lst (rs.map Row.p)] := by
  obtain ⟨k, a1, b1, hk, c1, e1⟩ := t1_ (n + 1) a b h most m1 m2 (some (.p (.int many))) (some (.p (.int wide)))
  have ok := evs_ok k hk
  have hl : (evs6.take (k + 1)).length ≤ 6 := by rw [List.length_take]; show min _ 6 ≤ 6; omega
  obtain ⟨ys, a2, b2, c2, l2, r2, e2⟩ := t2_ (n + 1) a1 b1 c1 wide m5 m6 (evs6.take (k + 1)) (by omega) (some (.p (.int most))) (some (.p (.int many)))
  obtain ⟨rs, a3, b3, v5, v8, v9, v10, v11, v12, v13, c3, l3, o3, e3⟩ := r12_ n a2 b2 c2 many m3 m4 (some (.p (.int most))) (some (.p (.int wide))) (evs6.take (k + 1)) ok.nd hl ys r2 l2
  refine ⟨evs6.take (k + 1), rs, a3, b3, ⟨ok, by omega, o3⟩, hl, l3, c3, ?_⟩
  rw [tab_at (d := d__law_telling) rfl _ _ rfl]
  have x : dE (C (n + 2)) (.tup (.cons (.var 4) (.cons (.f1 .tuple (.var 7)) .nil))) (fT (some (.p (.int most))) (some (.p (.int many))) (some (.p (.int wide))) (evs6.take (k + 1)) v5 ys v8 v9 v10 v11 v12 v13) [cup a3 b3, .lst (rs.map Row.p)] = .ok (.p (tell (evs6.take (k + 1)) rs)) [cup a3 b3, .lst (rs.map Row.p)] := by
    simp [dSs, dS, dE, dT, dAnd, dOr, dTAnd, dTOr, dEs, dEo, dI, dConds, startF, Res.bind, rOpt, isiW, tyP, isTy, truW, cmpW, cmpW.isW, ordI, ordN, f1W, sView, tView, dView, lView, ixW, atP, ixOf, binW, binP, binI, setW, asgT, asgTs, sumW, setAll, slW, wP, srcOf, intOf, mkTup, mkLst, psOf, wipeF, appW, idxW, eqP, isScal, mixed, peq, dataOf, fT, tell, line]
  exact bind_ok ((seqNx e1).trans ((seqNx e2).trans ((seqNx e3).trans (seqRt (retS x)))))

theorem ints_of {Q : Int → Prop} : ∀ ys : List P, (∀ y ∈ ys, ∃ i, y = .int i ∧ Q i) → ∃ cs : List Int, ys = cs.map .int ∧ ∀ c ∈ cs, Q c
  | [], _ => ⟨[], rfl, fun _ h => nomatch h⟩
  | y :: ys, h => by
    obtain ⟨cs, rfl, h2⟩ := ints_of ys fun z hz => h z (List.mem_cons_of_mem _ hz)
    obtain ⟨i, rfl, hi⟩ := h y List.mem_cons_self
    refine ⟨i :: cs, rfl, fun c hc => ?_⟩
    rcases List.mem_cons.mp hc with e | e
    · rw [e]; exact hi
    · exact h2 c e
theorem call_ {cf : CallF} {f : Nat} {es : Exs} {σ : Fr} {S : Store} {ws : List W} {x : P} (h1 : dEs cf es σ S = .ok ws S) (h2 : cf f ws S = .ok (.p x) S) : dE cf (.call f es) σ S = .ok (.p x) S := by
  rw [dE, h1]
  show callTrunc S.length (cf f ws S) _ = _
  rw [h2]
  simp [callTrunc, back, leaveW]
theorem var_ {cf : CallF} {i : Nat} {σ : Fr} {S : Store} {w : W} (h : σ[i]? = some (some w)) : dE cf (.var i) σ S = .ok w S := by
  simp [dE, h]
theorem asg_ {cf : CallF} {i : Nat} {e : Ex} {σ σ' : Fr} {S S' : Store} {w : W} (h : dE cf e σ S = .ok w S') (h2 : asgT (.name i) w σ = some σ') : dS cf (.asg (.name i) e) σ S = .ok (.nx, σ') S' := by
  rw [dS, h]
  show rOpt ((asgT (.name i) w σ).map fun σ1 => (Fl.nx, σ1)) S' = _
  rw [h2]
  rfl
theorem okS_ints : ∀ l : List Int, okSs 0 (l.map .int) = true
  | [] => by simp [okSs]
  | i :: r => by
    have ih := okS_ints r
    simp [okSs, okS, ih]
theorem kIx_few (ev : List Nm) (rs : List Row) (cs : List Int) (h : rs.length ≤ 60) : okS 1 (.tup (kIx ev rs cs)) = true := by
  have : ∃ l : List Int, kIx ev rs cs = l.map .int ∧ l.length ≤ 60 := by
    refine ⟨(((rs.map Row.p).zipIdx 0).filter fun p => kpP ev cs p.1).map fun p => ((p.2 : Nat) : Int), ?_, ?_⟩
    · unfold kIx
      rw [List.map_map]
      rfl
    · rw [List.length_map]
      refine Nat.le_trans (List.length_filter_le _ _) ?_
      rw [List.length_zipIdx, List.length_map]
      exact h
  obtain ⟨l, e, hl⟩ := this
  rw [e]
  have := okS_ints l
  simp [okS, this]
  omega

theorem notcall_ {cf : CallF} {f : Nat} {es : Exs} {σ : Fr} {S : Store} {b : Bool} {ws : List W} (h1 : dEs cf es σ S = .ok ws S) (h2 : cf f ws S = .ok (.p (.bl b)) S) : dT cf (.not (.call f es)) σ S = .ok (!b) S := by
  have e : dT cf (.call f es) σ S = .ok b S := by
    rw [dT, h1]
    show (callTrunc S.length (cf f ws S) _).bind _ = _
    rw [h2]
    simp [callTrunc, back, leaveW, Res.bind, truW, rOpt]
  rw [dT, e]
  rfl
theorem rng_names (z : Int) : ∀ (ev : List Nm) (cs : List Int), cs.length = ev.length → ((List.range ev.length).filter fun i => (cs[i]?).getD 0 == z).map (fun i => P.str ((ev[i]?).getD [])) = (namesAt ev cs z).map .str
  | [], [], _ => by simp [namesAt]
  | e :: ev, [], h => by simp at h
  | [], c :: cs, h => by simp at h
  | e :: ev, c :: cs, h => by
    have ih := rng_names z ev cs (by simpa using h)
    rw [List.length_cons, List.range_succ_eq_map, List.filter_cons, List.filter_map]
    unfold namesAt at ih ⊢
    simp only [List.zip_cons_cons, List.filter_cons, List.getElem?_cons_zero, Option.getD_some]
    by_cases q : c = z
    · subst q
      simp only [beq_self_eq_true, if_true, List.map_cons, List.getElem?_cons_zero, Option.getD_some, List.map_map]
      refine congrArg (P.str e :: ·) ?_
      rw [List.map_map] at ih
      exact ih
    · have hqz : (c == z) = false := by simp [q]
      simp only [hqz, Bool.false_eq_true, if_false, List.map_map]
      rw [List.map_map] at ih
      exact ih
theorem app_ {cf : CallF} {a e : Ex} {σ : Fr} {S S' : Store} {k : Nat} {v : P} {xs ys : List P} (h1 : dE cf a σ S = .ok (.loc k) S) (g : S[k]? = some (.lst xs)) (h2 : dE cf e σ S = .ok (.p v) S') (g2 : S'[k]? = some (.lst ys)) (hl : ys.length < line) : dE cf (.app a e) σ S = .ok (.p .non) (S'.set k (.lst (ys ++ [v]))) := by
  rw [dE, h1]
  show (match S[k]? with
    | some (.lst _) => (dE cf e σ S).bind fun y S2 => appW S2 k y
    | _ => .bad) = _
  rw [g]
  show (dE cf e σ S).bind _ = _
  rw [h2]
  show appW S' k (.p v) = _
  unfold appW
  rw [g2]
  exact if_pos hl
theorem okS_strs : ∀ l : List Nm, okSs 0 (l.map .str) = true
  | [] => by simp [okSs]
  | i :: r => by
    have ih := okS_strs r
    simp [okSs, okS, ih]
theorem names_len (ev : List Nm) (cs : List Int) (z : Int) : (namesAt ev cs z).length ≤ ev.length := by
  unfold namesAt
  rw [List.length_map]
  refine Nat.le_trans (List.length_filter_le _ _) ?_
  rw [List.length_zip]
  exact Nat.min_le_left _ _
theorem orF_ {cf : CallF} {a b : Ex} {σ : Fr} {S : Store} (h1 : dT cf a σ S = .ok false S) (h2 : dT cf b σ S = .ok false S) : dT cf (.or (.cons a (.cons b .nil))) σ S = .ok false S := by
  simp [dT, dTOr, h1, h2, Res.bind]

theorem tup_ {cf : CallF} {es : Exs} {σ : Fr} {S S' : Store} {ws : List W} {w : W} (h : dEs cf es σ S = .ok ws S') (h2 : mkTup ws = some w) : dE cf (.tup es) σ S = .ok w S' := by
  rw [dE, h]
  show rOpt (mkTup ws) S' = _
  rw [h2]
  rfl
theorem bin_ {cf : CallF} {op : Bop} {a b : Ex} {σ : Fr} {S S1 S2 : Store} {x y : W} {p : P} (h1 : dE cf a σ S = .ok x S1) (h2 : dE cf b σ S1 = .ok y S2) (h3 : binW op S2 x y = some p) : dE cf (.bin op a b) σ S = .ok (.p p) S2 := by
  rw [dE, h1]
  show (dE cf b σ S1).bind _ = _
  rw [h2]
  show rOpt ((binW op S2 x y).map W.p) S2 = _
  rw [h3]
  rfl
theorem fun_ {cf : CallF} {f : F1} {a : Ex} {σ : Fr} {S S1 : Store} {x : W} {p : P} (h1 : dE cf a σ S = .ok x S1) (h3 : f1W f S1 x = some p) : dE cf (.f1 f a) σ S = .ok (.p p) S1 := by
  rw [dE, h1]
  show rOpt ((f1W f S1 x).map W.p) S1 = _
  rw [h3]
  rfl
theorem ix_ {cf : CallF} {a b : Ex} {σ : Fr} {S S1 S2 : Store} {x y : W} {p : P} (h1 : dE cf a σ S = .ok x S1) (h2 : dE cf b σ S1 = .ok y S2) (h3 : ixW S2 x y = some p) : dE cf (.ix a b) σ S = .ok (.p p) S2 := by
  rw [dE, h1]
  show (dE cf b σ S1).bind _ = _
  rw [h2]
  show rOpt ((ixW S2 x y).map W.p) S2 = _
  rw [h3]
  rfl
theorem cmp_ {cf : CallF} {op : Cop} {a b : Ex} {σ : Fr} {S S1 S2 : Store} {x y : W} {r : Bool} (h1 : dE cf a σ S = .ok x S1) (h2 : dE cf b σ S1 = .ok y S2) (h3 : cmpW op S2 x y = some r) : dE cf (.cmp op a b) σ S = .ok (.p (.bl r)) S2 := by
  rw [dE, h1]
  show (dE cf b σ S1).bind _ = _
  rw [h2]
  show rOpt ((cmpW op S2 x y).map fun r => W.p (.bl r)) S2 = _
  rw [h3]
  rfl
theorem cmpT_ {cf : CallF} {op : Cop} {a b : Ex} {σ : Fr} {S S1 S2 : Store} {x y : W} {r : Bool} (h1 : dE cf a σ S = .ok x S1) (h2 : dE cf b σ S1 = .ok y S2) (h3 : cmpW op S2 x y = some r) : dT cf (.cmp op a b) σ S = .ok r S2 := by
  rw [dT, h1]
  show (dE cf b σ S1).bind _ = _
  rw [h2]
  show rOpt (cmpW op S2 x y) S2 = _
  rw [h3]
  rfl
theorem cst_ {cf : CallF} {x : P} {σ : Fr} {S : Store} : dE cf (.cst x) σ S = .ok (.p x) S := by rw [dE]
theorem glob_ {cf : CallF} {x : P} {σ : Fr} {S : Store} : dE cf (.glob x) σ S = .ok (.p x) S := by rw [dE]
theorem new_ {cf : CallF} {e : Ex} {σ : Fr} {S S1 S2 : Store} {w x : W} (h1 : dE cf e σ S = .ok w S1) (h2 : allocW S1 w = .ok x S2) : dE cf (.new e) σ S = .ok x S2 := by
  rw [dE, h1]
  exact h2
theorem expr_ {cf : CallF} {e : Ex} {σ : Fr} {S S1 : Store} {w : W} (h1 : dE cf e σ S = .ok w S1) : dS cf (.expr e) σ S = .ok (.nx, σ) S1 := by
  rw [dS, h1]
  rfl
def hdS : Sts → Tp.St
  | .cons s _ => s
  | .nil => .expr (.cst .non)
def tlS : Sts → Sts
  | .cons _ r => r
  | .nil => .nil
def frO (r : Res (Fl × Fr)) : Fr := match r with | .ok (_, σ) _ => σ | _ => []

/-! ### shifted courses -/
def sh (k : Int) (cs : List Int) : List Int := cs.map (· + k)
theorem sh_len (k : Int) (cs : List Int) : (sh k cs).length = cs.length := by unfold sh; rw [List.length_map]
theorem sh_cv {ev : List Nm} {cs : List Int} {a : Nm} (k : Int) (ha : a ∈ ev) (hl : cs.length = ev.length) : cv ev (sh k cs) a = cv ev cs a + k := by
  obtain ⟨j, h1, h2, h3⟩ := at_ ha hl
  unfold cv at h3 ⊢
  unfold sh
  rw [h1] at h3 ⊢
  simp only [Option.getD_some] at h3 ⊢
  rw [List.getElem?_map, List.getElem?_eq_getElem h2]
  simp
theorem kp_sh {ev : List Nm} {cs : List Int} (k : Int) {r : Row} (ha : r.a ∈ ev) (hb : r.b ∈ ev) (hl : cs.length = ev.length) : kp ev (sh k cs) r = kp ev cs r := by
  unfold kp
  rw [sh_cv k ha hl, sh_cv k hb hl]
  have e : cv ev cs r.b + k - (cv ev cs r.a + k) = cv ev cs r.b - cv ev cs r.a := by omega
  rw [e]
theorem kIx_congr {ev : List Nm} {rs : List Row} {cs ds : List Int} (h : ∀ r ∈ rs, kp ev ds r = kp ev cs r) : kIx ev rs ds = kIx ev rs cs := by
  unfold kIx
  congr 1
  refine List.filter_congr fun p hp => ?_
  have hm : p.1 ∈ rs.map Row.p := by
    obtain ⟨x, i⟩ := p
    have := List.mem_zipIdx hp
    exact this.2.2 ▸ List.getElem_mem _
  obtain ⟨r, hr, e⟩ := List.mem_map.mp hm
  rw [← e, kpP_p, kpP_p, h r hr]
theorem kIx_sh (ev : List Nm) (rs : List Row) (cs : List Int) (k : Int) (h : TellOk ev rs) (hl : cs.length = ev.length) : kIx ev rs (sh k cs) = kIx ev rs cs :=
  kIx_congr fun r hr => kp_sh k (h.rows r hr).ha (h.rows r hr).hb hl
theorem all_sh (ev : List Nm) (rs : List Row) (cs : List Int) (k : Int) (h : TellOk ev rs) (hl : cs.length = ev.length) : rs.all (kp ev (sh k cs)) = rs.all (kp ev cs) := by
  rw [Bool.eq_iff_iff, List.all_eq_true, List.all_eq_true]
  constructor
  · intro z r hr; rw [← kp_sh k (h.rows r hr).ha (h.rows r hr).hb hl]; exact z r hr
  · intro z r hr; rw [kp_sh k (h.rows r hr).ha (h.rows r hr).hb hl]; exact z r hr
theorem ded_sh (k : Int) : ∀ cs : List Int, dedI (sh k cs) = sh k (dedI cs)
  | [] => rfl
  | c :: r => by
    have ih := ded_sh k r
    unfold sh at ih ⊢
    rw [List.map_cons]
    unfold dedI
    rw [ih]
    have e : (r.map (· + k)).contains (c + k) = r.contains c := by
      rw [Bool.eq_iff_iff]
      simp only [List.contains_iff_mem, List.mem_map]
      constructor
      · rintro ⟨x, hx, q⟩
        have : x = c := by omega
        rw [← this]; exact hx
      · intro hx; exact ⟨c, hx, rfl⟩
    rw [e]
    split <;> rfl
theorem ins_sh (k i : Int) : ∀ cs : List Int, insI (i + k) (sh k cs) = sh k (insI i cs)
  | [] => rfl
  | c :: r => by
    have ih := ins_sh k i r
    unfold sh at ih ⊢
    rw [List.map_cons]
    unfold insI
    by_cases h : i ≤ c
    · rw [if_pos h, if_pos (show i + k ≤ c + k by omega)]
      rfl
    · rw [if_neg h, if_neg (show ¬ i + k ≤ c + k by omega), ih]
      rfl
theorem srt_sh (k : Int) : ∀ cs : List Int, srtI (sh k cs) = sh k (srtI cs)
  | [] => rfl
  | c :: r => by
    have ih := srt_sh k r
    show insI (c + k) (srtI (sh k r)) = sh k (insI c (srtI r))
    rw [ih, ins_sh]
theorem names_sh (k z : Int) : ∀ (ev : List Nm) (cs : List Int), namesAt ev (sh k cs) (z + k) = namesAt ev cs z
  | [], cs => rfl
  | e :: ev, [] => rfl
  | e :: ev, c :: cs => by
    have ih := names_sh k z ev cs
    unfold namesAt sh at ih ⊢
    rw [List.map_cons, List.zip_cons_cons, List.zip_cons_cons, List.filter_cons, List.filter_cons]
    have e1 : (c + k == z + k) = (c == z) := by
      rw [Bool.eq_iff_iff, beq_iff_eq, beq_iff_eq]
      omega
    simp only [e1]
    split
    · rw [List.map_cons, List.map_cons, ih]
    · exact ih
theorem ord_sh (ev : List Nm) (cs : List Int) (k : Int) : ordP ev (sh k cs) = ordP ev cs := by
  unfold ordP
  rw [ded_sh, srt_sh]
  congr 1
  unfold sh
  rw [List.map_map]
  refine List.map_congr_left fun z _ => ?_
  show P.tup ((namesAt ev (sh k cs) (z + k)).map .str) = _
  rw [names_sh]
/-! ### the least time -/
def mn : List Int → Int
  | [] => 0
  | i :: r => minI i r
theorem minI_sh (k : Int) : ∀ (i : Int) (r : List Int), minI (i + k) (sh k r) = minI i r + k
  | i, [] => rfl
  | i, c :: r => by
    unfold sh
    rw [List.map_cons]
    unfold minI
    by_cases h : c < i
    · rw [if_pos h, if_pos (show c + k < i + k by omega)]; exact minI_sh k c r
    · rw [if_neg h, if_neg (show ¬ c + k < i + k by omega)]; exact minI_sh k i r
theorem mn_sh (k : Int) {cs : List Int} (h : cs ≠ []) : mn (sh k cs) = mn cs + k := by
  cases cs with
  | nil => exact absurd rfl h
  | cons c r => exact minI_sh k c r
def home (cs : List Int) : List Int := sh (- mn cs) cs
theorem home_sh (k : Int) {cs : List Int} (h : cs ≠ []) : home (sh k cs) = home cs := by
  unfold home
  rw [mn_sh k h]
  unfold sh
  rw [List.map_map]
  refine List.map_congr_left fun z _ => ?_
  show z + k + -(mn cs + k) = z + - mn cs
  omega
theorem mn_le : ∀ (i : Int) (r : List Int), minI i r ≤ i ∧ (∀ c ∈ r, minI i r ≤ c) ∧ (minI i r = i ∨ minI i r ∈ r)
  | i, [] => ⟨Int.le_refl _, fun _ h => (nomatch h), .inl rfl⟩
  | i, c :: r => by
    unfold minI
    by_cases h : c < i
    · rw [if_pos h]
      obtain ⟨a, b, d⟩ := mn_le c r
      refine ⟨by omega, fun x hx => ?_, ?_⟩
      · rcases List.mem_cons.mp hx with e | e
        · rw [e]; exact a
        · exact b x e
      · rcases d with e | e
        · exact .inr (by rw [e]; exact List.mem_cons_self)
        · exact .inr (List.mem_cons_of_mem _ e)
    · rw [if_neg h]
      obtain ⟨a, b, d⟩ := mn_le i r
      refine ⟨a, fun x hx => ?_, ?_⟩
      · rcases List.mem_cons.mp hx with e | e
        · rw [e]; omega
        · exact b x e
      · rcases d with e | e
        · exact .inl e
        · exact .inr (List.mem_cons_of_mem _ e)
theorem mn_mem {cs : List Int} (h : cs ≠ []) : mn cs ∈ cs ∧ ∀ c ∈ cs, mn cs ≤ c := by
  cases cs with
  | nil => exact absurd rfl h
  | cons c r =>
    obtain ⟨a, b, d⟩ := mn_le c r
    refine ⟨?_, fun x hx => ?_⟩
    · rcases d with e | e
      · show minI c r ∈ c :: r; rw [e]; exact List.mem_cons_self
      · exact List.mem_cons_of_mem _ e
    · rcases List.mem_cons.mp hx with e | e
      · rw [e]; exact a
      · exact b x e
/-- courses of small times -/
structure CrS (ev : List Nm) (cs : List Int) (m : Int) : Prop where
  len : cs.length = ev.length
  bnd : ∀ c ∈ cs, -m ≤ c ∧ c ≤ m
theorem CrS.ok {ev : List Nm} {cs : List Int} {m : Int} (h : CrS ev cs m) (hm : m ≤ 100000000) : CrOk ev cs := ⟨h.len, fun c hc => by have := h.bnd c hc; omega⟩
theorem CrS.sh {ev : List Nm} {cs : List Int} {m k j : Int} (h : CrS ev cs m) (h1 : -j ≤ k) (h2 : k ≤ j) : CrS ev (sh k cs) (m + j) := ⟨by rw [sh_len]; exact h.len, fun c hc => by
  unfold K01.sh at hc
  obtain ⟨x, hx, rfl⟩ := List.mem_map.mp hc
  have := h.bnd x hx
  show -(m + j) ≤ x + k ∧ x + k ≤ m + j
  omega⟩
theorem CrS.home {ev : List Nm} {cs : List Int} {m : Int} (h : CrS ev cs m) (hn : cs ≠ []) : CrS ev (home cs) (m + m) := by
  have := h.bnd _ (mn_mem hn).1
  exact h.sh (by omega) (by omega)
def addP (k : Int) : P → P
  | .int i => .int (i + k)
  | _ => .non
theorem ints_map (k : Int) (cs : List Int) : (cs.map P.int).map (addP k) = (sh k cs).map .int := by
  unfold sh
  rw [List.map_map, List.map_map]
  rfl
theorem shifted_ (n : Nat) (ev : List Nm) (rs : List Row) (cs : List Int) (k : Int) (h : TellOk ev rs) (hc : CrOk ev cs) (hk : -100000000 ≤ k ∧ k ≤ 100000000) (hc2 : CrOk ev (sh k cs)) (S : Store) :
    C (n + 7) i_shifted_course [.p (tell ev rs), .p (crs cs), .p (.int k)] S = .ok (.p (crs (sh k cs))) S := by
  rw [tab_at (d := d_shifted_course) rfl _ _ rfl]
  have hl := hc.len
  have hf := h.evs.few
  have r1 := needC_ n ev rs cs h hc S
  have r2 := whole_ (n + 5) k (-100000000) 100000000 S
  have r3 := course_ (n + 4) ev rs (sh k cs) h hc2 S
  have q := comp_vals (t := .name 4) (conds := fun σ1 S2 => dConds (C (n + 6)) .nil σ1 S2) (elt := fun σ1 S2 => dE (C (n + 6)) (.bin .add (.var 4) (.var 2)) σ1 S2) (σ0 := wipeF [some (.p (tell ev rs)), some (.p (crs cs)), some (.p (.int k)), none, none] [4]) (S := S) (c := fun _ => true) (f := addP k)
    (cs.map .int) bigN [] (by simp only [List.length_map]; unfold bigN; omega) (by simp only [List.length_map]; show 0 + cs.length ≤ line; unfold line; omega) (fun y hy => by
      obtain ⟨z, hz, rfl⟩ := List.mem_map.mp hy
      exact ⟨_, rfl, rfl, fun _ => by simp [dSs, dS, dE, dT, dAnd, dOr, dTAnd, dTOr, dEs, dEo, dI, dConds, startF, Res.bind, rOpt, isiW, tyP, isTy, truW, cmpW, cmpW.isW, ordI, ordN, f1W, sView, tView, dView, lView, ixW, atP, ixOf, binW, binP, binI, setW, asgT, asgTs, sumW, setAll, slW, wP, srcOf, intOf, mkTup, mkLst, psOf, wipeF, appW, idxW, eqP, isScal, mixed, peq, dataOf, addP]⟩)
  rw [filter_true, ints_map, List.nil_append] at q
  have hi : dI (C (n + 6)) (.of (.var 1)) [some (.p (tell ev rs)), some (.p (crs cs)), some (.p (.int k)), none, none] S = .ok (.vals (cs.map .int)) S := by simp [dSs, dS, dE, dT, dAnd, dOr, dTAnd, dTOr, dEs, dEo, dI, dConds, startF, Res.bind, rOpt, isiW, tyP, isTy, truW, cmpW, cmpW.isW, ordI, ordN, f1W, sView, tView, dView, lView, ixW, atP, ixOf, binW, binP, binI, setW, asgT, asgTs, sumW, setAll, slW, wP, srcOf, intOf, mkTup, mkLst, psOf, wipeF, appW, idxW, eqP, isScal, mixed, peq, dataOf, crs]
  have hq : dE (C (n + 6)) q_shifted_course_0 [some (.p (tell ev rs)), some (.p (crs cs)), some (.p (.int k)), none, none] S = .ok (.p (.lst ((sh k cs).map .int))) S := lc_of hi q
  have b1 : (decide (-100000000 ≤ k) && decide (k ≤ 100000000)) = true := by simp [hk.1, hk.2]
  rw [b1] at r2
  have a0 : ∀ w3 : Option W, dE (C (n + 6)) (.var 0) [some (.p (tell ev rs)), some (.p (crs cs)), some (.p (.int k)), w3, none] S = .ok (.p (tell ev rs)) S := fun _ => var_ rfl
  have a1 : ∀ w3 : Option W, dE (C (n + 6)) (.var 1) [some (.p (tell ev rs)), some (.p (crs cs)), some (.p (.int k)), w3, none] S = .ok (.p (crs cs)) S := fun _ => var_ rfl
  have a2 : ∀ w3 : Option W, dE (C (n + 6)) (.var 2) [some (.p (tell ev rs)), some (.p (crs cs)), some (.p (.int k)), w3, none] S = .ok (.p (.int k)) S := fun _ => var_ rfl
  have c1 := call_ (es_cons (a0 none) (es_cons (a1 none) es_nil)) r1
  have s1 : dS (C (n + 6)) (.expr (.call i_need_course (.cons (.var 0) (.cons (.var 1) .nil)))) [some (.p (tell ev rs)), some (.p (crs cs)), some (.p (.int k)), none, none] S = .ok (.nx, [some (.p (tell ev rs)), some (.p (crs cs)), some (.p (.int k)), none, none]) S := by rw [dS, c1]; rfl
  have n1 : dE (C (n + 6)) (.neg (.glob (.int 100000000))) [some (.p (tell ev rs)), some (.p (crs cs)), some (.p (.int k)), none, none] S = .ok (.p (.int (-100000000))) S := by simp [dSs, dS, dE, dT, dAnd, dOr, dTAnd, dTOr, dEs, dEo, dI, dConds, startF, Res.bind, rOpt, isiW, tyP, isTy, truW, cmpW, cmpW.isW, ordI, ordN, f1W, sView, tView, dView, lView, ixW, atP, ixOf, binW, binP, binI, setW, asgT, asgTs, sumW, setAll, slW, wP, srcOf, intOf, mkTup, mkLst, psOf, wipeF, appW, idxW, eqP, isScal, mixed, peq, dataOf]
  have n2 : dE (C (n + 6)) (.glob (.int 100000000)) [some (.p (tell ev rs)), some (.p (crs cs)), some (.p (.int k)), none, none] S = .ok (.p (.int 100000000)) S := by simp [dSs, dS, dE, dT, dAnd, dOr, dTAnd, dTOr, dEs, dEo, dI, dConds, startF, Res.bind, rOpt, isiW, tyP, isTy, truW, cmpW, cmpW.isW, ordI, ordN, f1W, sView, tView, dView, lView, ixW, atP, ixOf, binW, binP, binI, setW, asgT, asgTs, sumW, setAll, slW, wP, srcOf, intOf, mkTup, mkLst, psOf, wipeF, appW, idxW, eqP, isScal, mixed, peq, dataOf]
  have s2 := (ifF (a := .cons (.raise 3) .nil) (b := .nil) (notcall_ (es_cons (a2 none) (es_cons n1 (es_cons n2 es_nil))) r2)).trans nilS
  have s3 : dS (C (n + 6)) (.asg (.name 3) (.f1 .tuple q_shifted_course_0)) [some (.p (tell ev rs)), some (.p (crs cs)), some (.p (.int k)), none, none] S = .ok (.nx, [some (.p (tell ev rs)), some (.p (crs cs)), some (.p (.int k)), some (.p (crs (sh k cs))), none]) S := by
    rw [dS, dE, hq]; rfl
  have s4 := (ifF (a := .cons (.raise 2) .nil) (b := .nil) (notcall_ (cf := C (n + 6)) (es_cons (a0 (some (.p (crs (sh k cs))))) (es_cons (var_ (i := 3) rfl) es_nil)) r3)).trans nilS
  exact bind_ok ((seqNx s1).trans ((seqNx s2).trans ((seqNx s3).trans ((seqNx s4).trans (seqRt (retS (var_ rfl)))))))
theorem min_ {cf : CallF} {i : Nat} {σ : Fr} {S : Store} {cs : List Int} (h : σ[i]? = some (some (.p (crs cs)))) (hn : cs ≠ []) : dE cf (.f1 .min (.var i)) σ S = .ok (.p (.int (mn cs))) S := by
  rw [dE, var_ h]
  cases cs with
  | nil => exact absurd rfl hn
  | cons c r =>
    show rOpt ((f1W .min S (.p (crs (c :: r)))).map W.p) S = _
    have e : pInts ((c :: r).map P.int) = some (c :: r) := pInts_int _
    have e2 : f1W .min S (.p (crs (c :: r))) = some (.int (minI c r)) := by
      unfold f1W
      show (match sView S (.p (crs (c :: r))) with | some xs => _ | none => none) = _
      have e3 : sView S (.p (crs (c :: r))) = some ((c :: r).map P.int) := rfl
      rw [e3]
      simp only [e]
    rw [e2]
    rfl
theorem homed_ (n : Nat) (ev : List Nm) (rs : List Row) (cs : List Int) (h : TellOk ev rs) (hc : CrOk ev cs) (hn : cs ≠ []) (hc2 : CrOk ev (home cs)) (S : Store) :
    C (n + 7) i_homed_course [.p (tell ev rs), .p (crs cs)] S = .ok (.p (crs (home cs))) S := by
  rw [tab_at (d := d_homed_course) rfl _ _ rfl]
  have hl := hc.len
  have hf := h.evs.few
  have r1 := needC_ n ev rs cs h hc S
  have r3 := course_ (n + 4) ev rs (home cs) h hc2 S
  have q := comp_vals (t := .name 3) (conds := fun σ1 S2 => dConds (C (n + 6)) .nil σ1 S2) (elt := fun σ1 S2 => dE (C (n + 6)) (.bin .sub (.var 3) (.f1 .min (.var 1))) σ1 S2) (σ0 := wipeF [some (.p (tell ev rs)), some (.p (crs cs)), none, none] [3]) (S := S) (c := fun _ => true) (f := addP (- mn cs))
    (cs.map .int) bigN [] (by simp only [List.length_map]; unfold bigN; omega) (by simp only [List.length_map]; show 0 + cs.length ≤ line; unfold line; omega) (fun y hy => by
      obtain ⟨z, hz, rfl⟩ := List.mem_map.mp hy
      refine ⟨_, rfl, rfl, fun _ => ?_⟩
      have m1 : dE (C (n + 6)) (.f1 .min (.var 1)) [some (.p (tell ev rs)), some (.p (crs cs)), none, some (.p (.int z))] S = .ok (.p (.int (mn cs))) S := min_ rfl hn
      have m2 : dE (C (n + 6)) (.var 3) [some (.p (tell ev rs)), some (.p (crs cs)), none, some (.p (.int z))] S = .ok (.p (.int z)) S := var_ rfl
      show dE (C (n + 6)) (.bin .sub (.var 3) (.f1 .min (.var 1))) [some (.p (tell ev rs)), some (.p (crs cs)), none, some (.p (.int z))] S = _
      rw [dE, m2]
      show (dE (C (n + 6)) (.f1 .min (.var 1)) [some (.p (tell ev rs)), some (.p (crs cs)), none, some (.p (.int z))] S).bind _ = _
      rw [m1]
      rfl)
  rw [filter_true, ints_map, List.nil_append] at q
  have hi : dI (C (n + 6)) (.of (.var 1)) [some (.p (tell ev rs)), some (.p (crs cs)), none, none] S = .ok (.vals (cs.map .int)) S := by simp [dSs, dS, dE, dT, dAnd, dOr, dTAnd, dTOr, dEs, dEo, dI, dConds, startF, Res.bind, rOpt, isiW, tyP, isTy, truW, cmpW, cmpW.isW, ordI, ordN, f1W, sView, tView, dView, lView, ixW, atP, ixOf, binW, binP, binI, setW, asgT, asgTs, sumW, setAll, slW, wP, srcOf, intOf, mkTup, mkLst, psOf, wipeF, appW, idxW, eqP, isScal, mixed, peq, dataOf, crs]
  have hq : dE (C (n + 6)) q_homed_course_0 [some (.p (tell ev rs)), some (.p (crs cs)), none, none] S = .ok (.p (.lst ((home cs).map .int))) S := lc_of hi q
  have a0 : ∀ w3 : Option W, dE (C (n + 6)) (.var 0) [some (.p (tell ev rs)), some (.p (crs cs)), w3, none] S = .ok (.p (tell ev rs)) S := fun _ => var_ rfl
  have a1 : ∀ w3 : Option W, dE (C (n + 6)) (.var 1) [some (.p (tell ev rs)), some (.p (crs cs)), w3, none] S = .ok (.p (crs cs)) S := fun _ => var_ rfl
  have c1 := call_ (es_cons (a0 none) (es_cons (a1 none) es_nil)) r1
  have s1 : dS (C (n + 6)) (.expr (.call i_need_course (.cons (.var 0) (.cons (.var 1) .nil)))) [some (.p (tell ev rs)), some (.p (crs cs)), none, none] S = .ok (.nx, [some (.p (tell ev rs)), some (.p (crs cs)), none, none]) S := by rw [dS, c1]; rfl
  have s3 : dS (C (n + 6)) (.asg (.name 2) (.f1 .tuple q_homed_course_0)) [some (.p (tell ev rs)), some (.p (crs cs)), none, none] S = .ok (.nx, [some (.p (tell ev rs)), some (.p (crs cs)), some (.p (crs (home cs))), none]) S := by
    rw [dS, dE, hq]; rfl
  have s4 := (ifF (a := .cons (.raise 2) .nil) (b := .nil) (notcall_ (cf := C (n + 6)) (es_cons (a0 (some (.p (crs (home cs))))) (es_cons (var_ (i := 2) rfl) es_nil)) r3)).trans nilS
  exact bind_ok ((seqNx s1).trans ((seqNx s3).trans ((seqNx s4).trans (seqRt (retS (var_ rfl))))))

/-! ### some statements -/
def pick (rs : List Row) (js : List Nat) : List Row := js.filterMap fun j => rs[j]?
def jP (js : List Nat) : P := .tup (js.map fun (j : Nat) => P.int (j : Int))
structure Jok (m : Nat) (js : List Nat) : Prop where
  lt : ∀ j ∈ js, j < m
  asc : js.Pairwise (· < ·)
theorem asc_len (m : Nat) : ∀ (js : List Nat) (lo : Nat), (∀ j ∈ js, lo ≤ j ∧ j < m) → js.Pairwise (· < ·) → lo ≤ m → lo + js.length ≤ m
  | [], lo, _, _, h => h
  | j :: r, lo, h, p, _ => by
    obtain ⟨h1, h2⟩ := List.pairwise_cons.mp p
    obtain ⟨a, b⟩ := h j List.mem_cons_self
    have := asc_len m r (j + 1) (fun x hx => ⟨h1 x hx, (h x (List.mem_cons_of_mem _ hx)).2⟩) h2 b
    rw [List.length_cons]
    omega
theorem Jok.len {m : Nat} {js : List Nat} (h : Jok m js) : js.length ≤ m := by
  have := asc_len m js 0 (fun j hj => ⟨Nat.zero_le _, h.lt j hj⟩) h.asc (Nat.zero_le _)
  omega
theorem pick_p (rs : List Row) : ∀ (js : List Nat), (∀ j ∈ js, j < rs.length) → js.map (fun j => ((rs.map Row.p)[j]?).getD .non) = (pick rs js).map Row.p
  | [], _ => rfl
  | j :: r, h => by
    have hj := h j List.mem_cons_self
    have ih := pick_p rs r fun x hx => h x (List.mem_cons_of_mem _ hx)
    unfold pick at ih ⊢
    rw [List.map_cons, List.filterMap_cons, ih, List.getElem?_map, List.getElem?_eq_getElem hj]
    rfl
theorem pick_mem {rs : List Row} {js : List Nat} {r : Row} (h : r ∈ pick rs js) : r ∈ rs := by
  unfold pick at h
  obtain ⟨j, _, e⟩ := List.mem_filterMap.mp h
  exact List.mem_of_getElem? e
theorem pick_len (rs : List Row) (js : List Nat) : (pick rs js).length ≤ js.length := List.length_filterMap_le _ _
theorem TellOk.pick {ev : List Nm} {rs : List Row} {js : List Nat} (h : TellOk ev rs) (hj : Jok rs.length js) : TellOk ev (pick rs js) :=
  ⟨h.evs, by have := pick_len rs js; have := hj.len; have := h.few; omega, fun r hr => h.rows r (pick_mem hr)⟩
theorem jmap (js : List Nat) : (js.map fun (j : Nat) => P.int (j : Int)) = (js.map fun (j : Nat) => (j : Int)).map P.int := by rw [List.map_map]; rfl
/-- [telling[1][at] for at in numbers], the telling and the numbers in slots -/
theorem picks_ {cf : CallF} {σ : Fr} {S : Store} {ev : List Nm} {rs : List Row} {js : List Nat} {i l m : Nat} {own : List Nat} (hf : rs.length ≤ 60) (hj : Jok rs.length js) (hm : σ[m]? = some (some (.p (jP js)))) (hσ : ∀ x : P, ∃ σ1, asgT (.name l) (.p x) (wipeF σ own) = some σ1 ∧ σ1[i]? = some (some (.p (tell ev rs))) ∧ σ1[l]? = some (some (.p x))) :
    dE cf (.lc (.ix (.ix (.var i) (.cst (.int 1))) (.var l)) (.name l) (.of (.var m)) .nil own) σ S = .ok (.p (.lst ((pick rs js).map Row.p))) S := by
  have hl := hj.len
  have q := comp_vals (t := .name l) (conds := fun σ1 S2 => dConds cf .nil σ1 S2) (elt := fun σ1 S2 => dE cf (.ix (.ix (.var i) (.cst (.int 1))) (.var l)) σ1 S2) (σ0 := wipeF σ own) (S := S) (c := fun _ => true) (f := fun x => match x with | .int j => ((rs.map Row.p)[j.toNat]?).getD .non | _ => .non)
    (js.map fun (j : Nat) => P.int (j : Int)) bigN [] (by simp only [List.length_map]; unfold bigN; omega) (by simp only [List.length_map]; show 0 + js.length ≤ line; unfold line; omega) (fun y hy => by
      obtain ⟨j, hj2, rfl⟩ := List.mem_map.mp hy
      obtain ⟨σ1, h1, h2, h3⟩ := hσ (.int (j : Int))
      have hlt := hj.lt j hj2
      refine ⟨σ1, h1, rfl, fun _ => ?_⟩
      simp [dSs, dS, dE, dT, dAnd, dOr, dTAnd, dTOr, dEs, dEo, dI, dConds, startF, Res.bind, rOpt, isiW, tyP, isTy, truW, cmpW, cmpW.isW, ordI, ordN, f1W, sView, tView, dView, lView, ixW, atP, ixOf, binW, binP, binI, setW, asgT, asgTs, sumW, setAll, slW, wP, srcOf, intOf, mkTup, mkLst, psOf, wipeF, appW, idxW, eqP, isScal, mixed, peq, dataOf, h2, h3, tell, hlt])
  rw [filter_true, List.nil_append, List.map_map] at q
  have e : ((fun x => match x with | .int j => ((rs.map Row.p)[j.toNat]?).getD .non | _ => P.non) ∘ fun (j : Nat) => P.int (j : Int)) = fun j => ((rs.map Row.p)[j]?).getD .non := by
    funext j
    show ((rs.map Row.p)[((j : Int)).toNat]?).getD .non = _
    rw [Int.toNat_natCast]
  rw [e, pick_p rs js hj.lt] at q
  have hi : dI cf (.of (.var m)) σ S = .ok (.vals (js.map fun (j : Nat) => P.int (j : Int))) S := by
    rw [dI, var_ hm]
    rfl
  exact lc_of hi q
theorem partIn_ (n : Nat) (ev : List Nm) (rs : List Row) (js : List Nat) (h : TellOk ev rs) (hj : Jok rs.length js) (S : Store) : C (n + 1) i_part_in [.p (tell ev rs), .p (jP js)] S = .ok (.p (tell ev (pick rs js))) S := by
  rw [tab_at (d := d_part_in) rfl _ _ rfl]
  have hq : dE (C n) q_part_in_0 [some (.p (tell ev rs)), some (.p (jP js)), none] S = .ok (.p (.lst ((pick rs js).map Row.p))) S := picks_ h.few hj rfl fun x => ⟨_, rfl, rfl, rfl⟩
  have e1 : dE (C n) (.ix (.var 0) (.cst (.int 0))) [some (.p (tell ev rs)), some (.p (jP js)), none] S = .ok (.p (.tup (ev.map .str))) S := by simp [dSs, dS, dE, dT, dAnd, dOr, dTAnd, dTOr, dEs, dEo, dI, dConds, startF, Res.bind, rOpt, isiW, tyP, isTy, truW, cmpW, cmpW.isW, ordI, ordN, f1W, sView, tView, dView, lView, ixW, atP, ixOf, binW, binP, binI, setW, asgT, asgTs, sumW, setAll, slW, wP, srcOf, intOf, mkTup, mkLst, psOf, wipeF, appW, idxW, eqP, isScal, mixed, peq, dataOf, tell]
  have e2 : dE (C n) (.f1 .tuple q_part_in_0) [some (.p (tell ev rs)), some (.p (jP js)), none] S = .ok (.p (.tup ((pick rs js).map Row.p))) S := by rw [dE, hq]; rfl
  exact bind_ok (seqRt (retS (tup_ (es_cons e1 (es_cons e2 es_nil)) rfl)))
theorem zip_int (xs ys : List Int) : (xs.map P.int).zip (ys.map P.int) = (xs.zip ys).map fun p => (P.int p.1, P.int p.2) := by
  rw [List.zip_map]; rfl
theorem risI_ (n : Nat) (js : List Nat) (hl : js.length < 1000) (h : js.Pairwise (· < ·)) (S : Store) : C (n + 1) i_is_rising [.p (jP js)] S = .ok (.p (.bl true)) S := by
  rw [tab_at (d := d_is_rising) rfl _ _ rfl]
  have hz : ∀ p ∈ (js.map fun (j : Nat) => (j : Int)).zip ((js.map fun (j : Nat) => (j : Int)).drop 1), p.1 < p.2 := by
    intro p hp
    obtain ⟨i, hi, e⟩ := List.getElem_of_mem hp
    rw [List.length_zip, List.length_drop, List.length_map] at hi
    rw [List.getElem_zip, List.getElem_drop] at e
    simp only [List.getElem_map] at e
    rw [← e]
    show ((js[i] : Nat) : Int) < ((js[1 + i] : Nat) : Int)
    have := List.pairwise_iff_getElem.mp h i (1 + i) (by omega) (by omega) (by omega)
    omega
  obtain ⟨L, hq, hL⟩ := all_of (cf := C n) (e := q_is_rising_0) (σ := [some (.p (jP js)), none, none]) (S := S) (l := (js.map fun (j : Nat) => (j : Int)).zip ((js.map fun (j : Nat) => (j : Int)).drop 1)) (f := fun _ => true) (lc_of (src := .zip ((js.map fun (j : Nat) => (j : Int)).map .int) (((js.map fun (j : Nat) => (j : Int)).drop 1).map .int)) (S1 := S) (by
      rw [← List.map_drop]
      simp [dSs, dS, dE, dT, dAnd, dOr, dTAnd, dTOr, dEs, dEo, dI, dConds, startF, Res.bind, rOpt, isiW, tyP, isTy, truW, cmpW, cmpW.isW, ordI, ordN, f1W, sView, tView, dView, lView, ixW, atP, ixOf, binW, binP, binI, setW, asgT, asgTs, sumW, setAll, slW, wP, srcOf, intOf, mkTup, mkLst, psOf, wipeF, appW, idxW, eqP, isScal, mixed, peq, dataOf, jP, cut1, List.map_drop]
      rfl) (by
      have k := comp_zip (t := .tup (.cons (.name 1) (.cons (.name 2) .nil))) (conds := fun σ1 S2 => dConds (C n) .nil σ1 S2) (elt := fun σ1 S2 => dE (C n) (.cmp .lt (.var 1) (.var 2)) σ1 S2) (σ0 := wipeF [some (.p (jP js)), none, none] [1, 2]) (S := S) (c := fun _ _ => true)
        (f := fun _ _ => .bl true) ((js.map fun (j : Nat) => (j : Int)).map .int) (((js.map fun (j : Nat) => (j : Int)).drop 1).map .int) bigN [] (by simp only [List.length_map]; unfold bigN; omega) (by simp only [List.length_map]; show 0 + js.length ≤ line; unfold line; omega) (fun x y hxy => by
          rw [zip_int] at hxy
          obtain ⟨p, hp, e⟩ := List.mem_map.mp hxy
          cases e
          have := hz p hp
          exact ⟨_, rfl, rfl, fun _ => by simp [dSs, dS, dE, dT, dAnd, dOr, dTAnd, dTOr, dEs, dEo, dI, dConds, startF, Res.bind, rOpt, isiW, tyP, isTy, truW, cmpW, cmpW.isW, ordI, ordN, f1W, sView, tView, dView, lView, ixW, atP, ixOf, binW, binP, binI, setW, asgT, asgTs, sumW, setAll, slW, wP, srcOf, intOf, mkTup, mkLst, psOf, wipeF, appW, idxW, eqP, isScal, mixed, peq, dataOf, this]⟩)
      rw [filter_true, zip_int] at k
      have e2 : ((((js.map fun (j : Nat) => (j : Int)).zip ((js.map fun (j : Nat) => (j : Int)).drop 1)).map fun p => (P.int p.1, P.int p.2)).map fun _ => P.bl true) = ((js.map fun (j : Nat) => (j : Int)).zip ((js.map fun (j : Nat) => (j : Int)).drop 1)).map fun _ => P.bl true := by rw [List.map_map]; rfl
      rw [e2] at k
      exact k))
  have hL2 : L.all id = true := by rw [hL]; simp
  exact bind_ok (seqRt (retS (u6 _ _ _ _ _ hq hL2)))
theorem someSt_ (n : Nat) (ev : List Nm) (rs : List Row) (js : List Nat) (h : TellOk ev rs) (hj : Jok rs.length js) (S : Store) : C (n + 6) i_some_statements [.p (tell ev rs), .p (jP js)] S = .ok (.p (tell ev (pick rs js))) S := by
  rw [tab_at (d := d_some_statements) rfl _ _ rfl]
  have hl := hj.len
  have hf := h.few
  have r1 := need_ n ev rs h S
  have r2 := tupof_ (n + 4) (js.map fun (j : Nat) => P.int (j : Int)) 0 rs.length S
  have t1 : (decide ((0 : Int) ≤ ((js.map fun (j : Nat) => P.int (j : Int)).length : Int)) && decide (((js.map fun (j : Nat) => P.int (j : Int)).length : Int) ≤ rs.length)) = true := by
    rw [List.length_map]
    have : (js.length : Int) ≤ rs.length := by omega
    simp [this]
  rw [t1] at r2
  have r3 := risI_ (n + 4) js (by omega) hj.asc S
  have r4 := partIn_ (n + 4) ev rs js h hj S
  let σ2 : Fr := [some (.p (tell ev rs)), some (.p (jP js)), some (.p (.int rs.length)), none]
  obtain ⟨L, hq, hL⟩ := all_of (cf := C (n + 5)) (e := q_some_statements_0) (σ := σ2) (S := S) (l := js) (f := fun _ => true) (lc_of (src := .vals (js.map fun (j : Nat) => P.int (j : Int))) (S1 := S) (by simp [dSs, dS, dE, dT, dAnd, dOr, dTAnd, dTOr, dEs, dEo, dI, dConds, startF, Res.bind, rOpt, isiW, tyP, isTy, truW, cmpW, cmpW.isW, ordI, ordN, f1W, sView, tView, dView, lView, ixW, atP, ixOf, binW, binP, binI, setW, asgT, asgTs, sumW, setAll, slW, wP, srcOf, intOf, mkTup, mkLst, psOf, wipeF, appW, idxW, eqP, isScal, mixed, peq, dataOf, jP, σ2]) (by
      have k := comp_vals (t := .name 3) (conds := fun σ1 S2 => dConds (C (n + 5)) .nil σ1 S2) (elt := fun σ1 S2 => dE (C (n + 5)) (.call i_is_whole (.cons (.var 3) (.cons (.cst (.int 0)) (.cons (.bin .sub (.var 2) (.cst (.int 1))) .nil)))) σ1 S2) (σ0 := wipeF σ2 [3]) (S := S) (c := fun _ => true) (f := fun _ => .bl true)
        (js.map fun (j : Nat) => P.int (j : Int)) bigN [] (by simp only [List.length_map]; unfold bigN; omega) (by simp only [List.length_map]; show 0 + js.length ≤ line; unfold line; omega) (fun y hy => by
          obtain ⟨z, hz, rfl⟩ := List.mem_map.mp hy
          have hlt := hj.lt z hz
          have hz2 := whole_ (n + 4) z 0 ((rs.length : Int) - 1) S
          have d1 : (decide ((0 : Int) ≤ z) && decide ((z : Int) ≤ (rs.length : Int) - 1)) = true := by
            have : (z : Int) ≤ (rs.length : Int) - 1 := by omega
            simp [this]
          rw [d1] at hz2
          refine ⟨_, rfl, rfl, fun _ => call_ (es_cons (var_ rfl) (es_cons (w := .p (.int 0)) (by rw [dE]) (es_cons (w := .p (.int ((rs.length : Int) - 1))) ?_ es_nil))) hz2⟩
          simp [dSs, dS, dE, dT, dAnd, dOr, dTAnd, dTOr, dEs, dEo, dI, dConds, startF, Res.bind, rOpt, isiW, tyP, isTy, truW, cmpW, cmpW.isW, ordI, ordN, f1W, sView, tView, dView, lView, ixW, atP, ixOf, binW, binP, binI, setW, asgT, asgTs, sumW, setAll, slW, wP, srcOf, intOf, mkTup, mkLst, psOf, wipeF, appW, idxW, eqP, isScal, mixed, peq, dataOf, σ2])
      rw [filter_true, List.map_map] at k
      exact k))
  have hL2 : L.all id = true := by rw [hL]; simp
  have ua := u6 _ _ _ _ _ hq hL2
  have a0 : ∀ w : Option W, dE (C (n + 5)) (.var 0) [some (.p (tell ev rs)), some (.p (jP js)), w, none] S = .ok (.p (tell ev rs)) S := fun _ => var_ rfl
  have a1 : ∀ w : Option W, dE (C (n + 5)) (.var 1) [some (.p (tell ev rs)), some (.p (jP js)), w, none] S = .ok (.p (jP js)) S := fun _ => var_ rfl
  have c1 := call_ (es_cons (a0 none) es_nil) r1
  have s1 : dS (C (n + 5)) (.expr (.call i_need_telling (.cons (.var 0) .nil))) [some (.p (tell ev rs)), some (.p (jP js)), none, none] S = .ok (.nx, [some (.p (tell ev rs)), some (.p (jP js)), none, none]) S := by rw [dS, c1]; rfl
  have s2 : dS (C (n + 5)) (.asg (.name 2) (.f1 .len (.ix (.var 0) (.cst (.int 1))))) [some (.p (tell ev rs)), some (.p (jP js)), none, none] S = .ok (.nx, σ2) S := asg_ (w := .p (.int rs.length)) (by simp [dSs, dS, dE, dT, dAnd, dOr, dTAnd, dTOr, dEs, dEo, dI, dConds, startF, Res.bind, rOpt, isiW, tyP, isTy, truW, cmpW, cmpW.isW, ordI, ordN, f1W, sView, tView, dView, lView, ixW, atP, ixOf, binW, binP, binI, setW, asgT, asgTs, sumW, setAll, slW, wP, srcOf, intOf, mkTup, mkLst, psOf, wipeF, appW, idxW, eqP, isScal, mixed, peq, dataOf, tell]) rfl
  have t0 : dE (C (n + 5)) (.cst (.int 0)) σ2 S = .ok (.p (.int 0)) S := by rw [dE]
  have n1 : dT (C (n + 5)) (.not (.call i_is_tuple_of (.cons (.var 1) (.cons (.cst (.int 0)) (.cons (.var 2) .nil))))) σ2 S = .ok (!true) S := notcall_ (es_cons (a1 _) (es_cons t0 (es_cons (var_ rfl) es_nil))) r2
  have n2 : dT (C (n + 5)) (.not (.f1 .all q_some_statements_0)) σ2 S = .ok false S := by
    have e : dT (C (n + 5)) (.f1 .all q_some_statements_0) σ2 S = .ok true S := by
      rw [f1_truth, ua]; rfl
    rw [dT, e]; rfl
  have s3 := (ifF (a := .cons (.raise 1) .nil) (b := .nil) (orF_ n1 n2)).trans nilS
  have s4 := (ifF (a := .cons (.raise 1) .nil) (b := .nil) (notcall_ (cf := C (n + 5)) (es_cons (a1 (some (.p (.int rs.length)))) es_nil) r3)).trans nilS
  exact bind_ok ((seqNx s1).trans ((seqNx s2).trans ((seqNx s3).trans ((seqNx s4).trans (seqRt (retS (call_ (es_cons (a0 _) (es_cons (a1 _) es_nil)) r4)))))))
theorem with_ (n : Nat) (ev : List Nm) (rs : List Row) (r : Row) (h : TellOk ev rs) (hr : RowOk ev r) (hf : rs.length < 60) (S : Store) : C (n + 6) i_with_statement [.p (tell ev rs), .p r.p] S = .ok (.p (tell ev (rs ++ [r]))) S := by
  rw [tab_at (d := d_with_statement) rfl _ _ rfl]
  have r1 := need_ n ev rs h S
  obtain ⟨a1, a2, a3, a4, a5, a6⟩ := hr
  have r2 := stm_ (n + 2) ev r.a r.b r.lo r.hi a1 a2 a3 a4 a5 a6 S
  have v0 : dE (C (n + 5)) (.var 0) [some (.p (tell ev rs)), some (.p r.p)] S = .ok (.p (tell ev rs)) S := var_ rfl
  have v1 : dE (C (n + 5)) (.var 1) [some (.p (tell ev rs)), some (.p r.p)] S = .ok (.p r.p) S := var_ rfl
  have e1 : dE (C (n + 5)) (.ix (.var 0) (.cst (.int 0))) [some (.p (tell ev rs)), some (.p r.p)] S = .ok (.p (.tup (ev.map .str))) S := by simp [dSs, dS, dE, dT, dAnd, dOr, dTAnd, dTOr, dEs, dEo, dI, dConds, startF, Res.bind, rOpt, isiW, tyP, isTy, truW, cmpW, cmpW.isW, ordI, ordN, f1W, sView, tView, dView, lView, ixW, atP, ixOf, binW, binP, binI, setW, asgT, asgTs, sumW, setAll, slW, wP, srcOf, intOf, mkTup, mkLst, psOf, wipeF, appW, idxW, eqP, isScal, mixed, peq, dataOf, tell]
  have e2 : dE (C (n + 5)) (.ix (.var 0) (.cst (.int 1))) [some (.p (tell ev rs)), some (.p r.p)] S = .ok (.p (.tup (rs.map Row.p))) S := by simp [dSs, dS, dE, dT, dAnd, dOr, dTAnd, dTOr, dEs, dEo, dI, dConds, startF, Res.bind, rOpt, isiW, tyP, isTy, truW, cmpW, cmpW.isW, ordI, ordN, f1W, sView, tView, dView, lView, ixW, atP, ixOf, binW, binP, binI, setW, asgT, asgTs, sumW, setAll, slW, wP, srcOf, intOf, mkTup, mkLst, psOf, wipeF, appW, idxW, eqP, isScal, mixed, peq, dataOf, tell]
  have e3 : dE (C (n + 5)) (.tup (.cons (.var 1) .nil)) [some (.p (tell ev rs)), some (.p r.p)] S = .ok (.p (.tup [r.p])) S := by rw [dE, es_cons v1 es_nil]; rfl
  have e4 : dE (C (n + 5)) (.bin .add (.ix (.var 0) (.cst (.int 1))) (.tup (.cons (.var 1) .nil))) [some (.p (tell ev rs)), some (.p r.p)] S = .ok (.p (.tup ((rs ++ [r]).map Row.p))) S := by
    refine bin_ e2 e3 ?_
    have hl : (rs.map Row.p).length + [r.p].length ≤ line := by simp only [List.length_map, List.length_cons, List.length_nil]; unfold line; omega
    unfold binW binP
    simp only [hl, if_true, List.map_append]
    rfl
  have c1 := call_ (es_cons v0 es_nil) r1
  have s1 : dS (C (n + 5)) (.expr (.call i_need_telling (.cons (.var 0) .nil))) [some (.p (tell ev rs)), some (.p r.p)] S = .ok (.nx, [some (.p (tell ev rs)), some (.p r.p)]) S := by rw [dS, c1]; rfl
  have n1 := notcall_ (es_cons e1 (es_cons v1 es_nil)) r2
  have n2 : dT (C (n + 5)) (.cmp .eq (.f1 .len (.ix (.var 0) (.cst (.int 1)))) (.glob (.int 60))) [some (.p (tell ev rs)), some (.p r.p)] S = .ok false S := by
    have : ¬ ((rs.length : Int) = 60) := by omega
    simp [dSs, dS, dE, dT, dAnd, dOr, dTAnd, dTOr, dEs, dEo, dI, dConds, startF, Res.bind, rOpt, isiW, tyP, isTy, truW, cmpW, cmpW.isW, ordI, ordN, f1W, sView, tView, dView, lView, ixW, atP, ixOf, binW, binP, binI, setW, asgT, asgTs, sumW, setAll, slW, wP, srcOf, intOf, mkTup, mkLst, psOf, wipeF, appW, idxW, eqP, isScal, mixed, peq, dataOf, tell, this]
  have s2 := (ifF (a := .cons (.raise 1) .nil) (b := .nil) (orF_ n1 n2)).trans nilS
  exact bind_ok ((seqNx s1).trans ((seqNx s2).trans (seqRt (retS (tup_ (es_cons e1 (es_cons e4 es_nil)) rfl)))))

/-! ### data that are like themselves -/
mutual
theorem peq_self : ∀ (x : P) (n : Nat), shp x n = true → peq x x = true
  | .non, _, _ => by simp [peq]
  | .bl b, _, _ => by cases b <;> simp [peq]
  | .int i, _, _ => by simp [peq]
  | .str x, _, _ => by simp [peq, nmEq_iff]
  | .lst xs, n, h => by
    cases n with
    | zero => simp [shp] at h
    | succ n =>
      have := peqs_self xs n (by simpa [shp] using h)
      simpa [peq] using this
  | .tup xs, n, h => by
    cases n with
    | zero => simp [shp] at h
    | succ n =>
      have := peqs_self xs n (by simpa [shp] using h)
      simpa [peq] using this
  | .dk _ _, n, h => by simp [shp] at h
  | .fn _, n, h => by simp [shp] at h
theorem peqs_self : ∀ (xs : List P) (n : Nat), shps xs n = true → peqs xs xs = true
  | [], _, _ => by simp [peqs]
  | x :: xs, n, h => by
    have h : (shp x n && shps xs n) = true := by simpa [shps] using h
    rw [Bool.and_eq_true] at h
    simp [peqs, peq_self x n h.1, peqs_self xs n h.2]
end
theorem eqP_self {x : P} (h : shp x 60 = true) : eqP x x = some true := by
  have e := peq_self x 60 h
  unfold eqP
  rw [e, h]
  split <;> rfl
theorem eq_self {S : Store} {x : P} (h : shp x 60 = true) : cmpW .eq S (.p x) (.p x) = some true := eqP_self h
theorem ne_self {S : Store} {x : P} (h : shp x 60 = true) : cmpW .ne S (.p x) (.p x) = some false := by
  show (eqP x x).map (!·) = _
  rw [eqP_self h]; rfl
theorem shps_map {α : Type} (f : α → P) (n : Nat) : ∀ l : List α, (∀ a ∈ l, shp (f a) n = true) → shps (l.map f) n = true
  | [], _ => by simp [shps]
  | a :: r, h => by simp [shps, h a List.mem_cons_self, shps_map f n r fun x hx => h x (List.mem_cons_of_mem _ hx)]
theorem shp_tup (l : List P) (n : Nat) (h : shps l n = true) : shp (.tup l) (n + 1) = true := by simpa [shp] using h
theorem shp_crs (cs : List Int) (n : Nat) : shp (crs cs) (n + 1) = true := shp_tup _ _ (shps_map _ _ _ fun _ _ => by simp [shp])
theorem shp_kIx (ev : List Nm) (rs : List Row) (cs : List Int) (n : Nat) : shp (.tup (kIx ev rs cs)) (n + 1) = true := shp_tup _ _ (by unfold kIx; exact shps_map _ _ _ fun _ _ => by simp [shp])
theorem name_low {x : Nm} (h : nameB x = true) : x.all (· < 55296) = true := by
  unfold nameB at h
  simp only [Bool.and_eq_true] at h
  rw [List.all_eq_true] at h ⊢
  intro c hc
  have := h.2 c hc
  have m : c ∈ LATERs := by simpa using this
  have : ∀ c ∈ LATERs, decide (c < 55296) = true := by decide
  exact this c m
theorem names_mem {ev : List Nm} {cs : List Int} {z : Int} {x : Nm} (h : x ∈ namesAt ev cs z) : x ∈ ev := by
  unfold namesAt at h
  obtain ⟨p, hp, rfl⟩ := List.mem_map.mp h
  have := (List.mem_filter.mp hp).1
  exact (List.of_mem_zip (a := p.1) (b := p.2) this).1
theorem shp_ord (ev : List Nm) (cs : List Int) (h : EvOk ev) (n : Nat) : shp (ordP ev cs) (n + 2) = true :=
  shp_tup _ _ (shps_map _ _ _ fun z _ => shp_tup _ _ (shps_map _ _ _ fun x hx => by simpa [shp] using name_low (h.nm x (names_mem hx))))
theorem shp_ev (ev : List Nm) (h : EvOk ev) (n : Nat) : shp (.tup (ev.map .str)) (n + 1) = true := shp_tup _ _ (shps_map _ _ _ fun x hx => by simpa [shp] using name_low (h.nm x hx))
theorem shp_row {ev : List Nm} {r : Row} (h : EvOk ev) (ha : r.a ∈ ev) (hb : r.b ∈ ev) (n : Nat) : shp r.p (n + 1) = true := by
  have e1 := name_low (h.nm _ ha)
  have e2 := name_low (h.nm _ hb)
  obtain ⟨a, b, lo, hi⟩ := r
  refine shp_tup _ _ ?_
  cases lo <;> cases hi <;> simp [shps, shp, oP] <;> exact ⟨by simpa using e1, by simpa using e2⟩
theorem shp_tell {ev : List Nm} {rs : List Row} (h : TellOk ev rs) (n : Nat) : shp (tell ev rs) (n + 3) = true := by
  refine shp_tup _ _ ?_
  have a := shp_ev ev h.evs (n + 1)
  have b : shp (.tup (rs.map Row.p)) (n + 2) = true := shp_tup _ _ (shps_map _ _ _ fun r hr => shp_row h.evs (h.rows r hr).ha (h.rows r hr).hb n)
  simp [shps, a, b]
theorem okS_strs' (ev : List Nm) (h : ev.length < 1000) (d : Nat) : okS (d + 1) (.tup (ev.map .str)) = true := by
  have : ∀ (d : Nat) (l : List Nm), okSs d (l.map .str) = true := fun d l => by
    induction l with
    | nil => simp [okSs]
    | cons x r ih => simp [okSs, ih]; cases d <;> simp [okS]
  simp [okS, this d ev, h]
theorem okS_crs (cs : List Int) (h : cs.length < 1000) (d : Nat) : okS (d + 1) (crs cs) = true := by
  have : ∀ (d : Nat) (l : List Int), okSs d (l.map .int) = true := fun d l => by
    induction l with
    | nil => simp [okSs]
    | cons x r ih => simp [okSs, ih]; cases d <;> simp [okS]
  unfold crs
  simp [okS, this d cs, h]
theorem okS_row (r : Row) (d : Nat) : okS (d + 1) r.p = true := by
  obtain ⟨a, b, lo, hi⟩ := r
  cases lo <;> cases hi <;> cases d <;> simp [Row.p, rowP, oP, okS, okSs]
theorem okS_tell (ev : List Nm) (rs : List Row) (h : TellOk ev rs) (d : Nat) : okS (d + 3) (tell ev rs) = true := by
  have h1 := h.evs.few
  have h2 := h.few
  have a := okS_strs' ev (by omega) (d + 1)
  have b : ∀ l : List Row, okSs (d + 1) (l.map Row.p) = true := fun l => by
    induction l with
    | nil => simp [okSs]
    | cons x r ih => simp [okSs, ih, okS_row x d]
  have c : okS (d + 2) (.tup (rs.map Row.p)) = true := by
    have := b rs
    simp [okS, this]
    omega
  unfold tell
  simp [okS, okSs] at a c ⊢
  exact ⟨a, c⟩
/-! ### numbers that are kept, drawn -/
theorem comp_some {t : Tg} {conds : Fr → Store → Res Bool} {elt : Fr → Store → Res W} {σ0 : Fr} (I : Store → Prop) : ∀ (k lo n : Nat) (acc : List P) (S : Store), I S → k < n → acc.length + k ≤ line →
    (∀ (x : Int) (S : Store), I S → ∃ σ1, asgT t (.p (.int x)) σ0 = some σ1 ∧ ∃ b S', I S' ∧ conds σ1 S = .ok b S' ∧ elt σ1 S' = .ok (.p (.int x)) S') →
    ∃ (js : List Nat) (S' : Store), I S' ∧ (∀ j ∈ js, lo ≤ j ∧ j < lo + k) ∧ js.Pairwise (· < ·) ∧ compGo t conds elt σ0 n (.rng (lo : Int) k) acc S = .ok (acc ++ js.map fun (j : Nat) => P.int (j : Int)) S'
  | 0, lo, n + 1, acc, S, hI, _, _, _ => by
    refine ⟨[], S, hI, fun _ h => (nomatch h), .nil, ?_⟩
    unfold compGo
    simp [Src.next]
  | k + 1, lo, n + 1, acc, S, hI, hn, hl, h => by
    obtain ⟨σ1, h1, b, S', i2, h2, h3⟩ := h lo S hI
    cases b with
    | false =>
      obtain ⟨js, S'', i3, l3, p3, e3⟩ := comp_some (t := t) (conds := conds) (elt := elt) (σ0 := σ0) I k (lo + 1) n acc S' i2 (by omega) (by omega) h
      refine ⟨js, S'', i3, fun j hj => by have := l3 j hj; omega, p3, ?_⟩
      unfold compGo
      simp only [Src.next, h1, h2]
      rw [if_neg Bool.false_ne_true]
      exact e3
    | true =>
      obtain ⟨js, S'', i3, l3, p3, e3⟩ := comp_some (t := t) (conds := conds) (elt := elt) (σ0 := σ0) I k (lo + 1) n (acc ++ [.int lo]) S' i2 (by omega) (by rw [List.length_append, List.length_cons, List.length_nil]; omega) h
      refine ⟨lo :: js, S'', i3, fun j hj => ?_, List.pairwise_cons.mpr ⟨fun x hx => by have := l3 x hx; omega, p3⟩, ?_⟩
      · rcases List.mem_cons.mp hj with e | e
        · rw [e]; omega
        · have := l3 j e; omega
      · unfold compGo
        simp only [Src.next, h1, h2]
        rw [if_pos trivial, h3]
        show (if acc.length < line then compGo t conds elt σ0 n (.rng ((lo : Int) + 1) k) (acc ++ [.int lo]) S' else _) = _
        rw [if_pos (by omega)]
        refine Eq.trans (show _ = compGo t conds elt σ0 n (.rng ((lo + 1 : Nat) : Int) k) (acc ++ [.int lo]) S' from rfl) (e3.trans ?_)
        rw [List.append_assoc]
        rfl
theorem inP_kIx (ev : List Nm) (rs : List Row) (cs : List Int) (j : Nat) (hj : j < rs.length) : inP (.int j) (kIx ev rs cs) = kp ev cs rs[j] := by
  have e : ∀ l : List (P × Nat), inP (.int (j : Int)) (l.map fun p => P.int ((p.2 : Nat) : Int)) = l.any fun p => p.2 == j := fun l => by
    induction l with
    | nil => rfl
    | cons p r ih =>
      rw [List.map_cons, List.any_cons]
      show (peq (.int ((p.2 : Nat) : Int)) (.int j) || inP (.int j) _) = _
      rw [ih]
      congr 1
      simp only [peq]
      rw [Bool.eq_iff_iff, beq_iff_eq, beq_iff_eq]
      omega
  unfold kIx
  rw [e, Bool.eq_iff_iff, List.any_eq_true]
  constructor
  · rintro ⟨⟨x, i⟩, hm, hi⟩
    have hi : i = j := by simpa using hi
    subst hi
    obtain ⟨h1, h2⟩ := List.mem_filter.mp hm
    have h3 := List.mem_zipIdx h1
    have h4 : x = rs[i].p := by
      have := h3.2.2
      simp only [Nat.sub_zero, List.getElem_map] at this
      exact this
    rw [h4, kpP_p] at h2
    exact h2
  · intro hk
    refine ⟨(rs[j].p, j), List.mem_filter.mpr ⟨?_, by rw [kpP_p]; exact hk⟩, by simp⟩
    rw [List.mem_iff_getElem]
    refine ⟨j, by rw [List.length_zipIdx, List.length_map]; exact hj, ?_⟩
    rw [List.getElem_zipIdx, List.getElem_map]
    simp
theorem flat_kIx (ev : List Nm) (rs : List Row) (cs : List Int) : (kIx ev rs cs).all flat = true := by
  unfold kIx
  rw [List.all_map]
  exact List.all_eq_true.mpr fun _ _ => rfl
theorem pick_all (rs : List Row) (f : Row → Bool) : ∀ (js : List Nat) (h : ∀ j ∈ js, j < rs.length), (pick rs js).all f = decide ((js.filter fun j => !((rs[j]?).elim true f)) = [])
  | [], _ => by simp [pick]
  | j :: r, h => by
    have hj := h j List.mem_cons_self
    have ih := pick_all rs f r fun x hx => h x (List.mem_cons_of_mem _ hx)
    unfold pick at ih ⊢
    rw [List.filterMap_cons, List.getElem?_eq_getElem hj]
    simp only [List.all_cons]
    rw [ih, List.filter_cons, List.getElem?_eq_getElem hj]
    cases e : f rs[j] <;> simp [e]
theorem pick_range (rs : List Row) (r : Row) : pick (rs ++ [r]) (List.range rs.length) = rs := by
  have : ∀ (m : Nat), m ≤ rs.length → pick (rs ++ [r]) (List.range m) = rs.take m := fun m => by
    induction m with
    | zero => intro _; simp [pick]
    | succ m ih =>
      intro h
      have := ih (by omega)
      unfold pick at this ⊢
      rw [List.range_succ, List.filterMap_append, this, List.take_succ]
      congr 1
      simp [List.getElem?_append_left (show m < rs.length by omega), List.getElem?_eq_getElem (show m < rs.length by omega)]
  rw [this _ (Nat.le_refl _), List.take_length]

/-! ### _law_right -/
/-- the frame: w1 w2, wide, the telling, home, other, numbers, less, row, more, the course, by, time, at, event -/
def fK (w1 w2 : Option W) (wide : Int) (ev : List Nm) (rs : List Row) (w5 w6 w7 w8 w9 w10 w11 w12 w13 w14 w15 : Option W) : Fr := [some (.loc 0), w1, w2, some (.p (.int wide)), some (.p (tell ev rs)), w5, w6, w7, w8, w9, w10, w11, w12, w13, w14, w15]
theorem qK7_ (n : Nat) (a b : Int) (h : CupOk a b) (wide : Int) (m1 : 0 < wide) (m2 : wide < 1000) (ev : List Nm) (rs : List Row) (ht : TellOk ev rs) (w1 w2 w5 w6 w7 w8 w9 w10 w11 w12 w13 w14 w15 : Option W) : ∃ (cs : List Int) (a' b' : Int), CupOk a' b' ∧ CrS ev cs 1000 ∧
    dE (C (n + 1)) q__law_right_7 (fK w1 w2 wide ev rs w5 w6 w7 w8 w9 w10 w11 w12 w13 w14 w15) [cup a b] = .ok (.p (.lst (cs.map .int))) [cup a' b'] := by
  have hl := ht.evs.few
  have k := comp_inv (t := .name 15) (conds := fun σ1 S2 => dConds (C (n + 1)) .nil σ1 S2) (elt := fun σ1 S2 => dE (C (n + 1)) (.call i__law_roll (.cons (.var 0) (.cons (.var 3) .nil))) σ1 S2) (σ0 := wipeF (fK w1 w2 wide ev rs w5 w6 w7 w8 w9 w10 w11 w12 w13 w14 w15) [15])
    (fun S => ∃ a b, CupOk a b ∧ S = [cup a b]) (fun y => ∃ i, y = .int i ∧ -1000 ≤ i ∧ i ≤ 1000) (ev.map .str) bigN [] [cup a b] ⟨a, b, h, rfl⟩ (by simp only [List.length_map]; unfold bigN; omega) (by simp only [List.length_map]; show 0 + ev.length ≤ line; unfold line; omega) (by
      rintro x - S ⟨a, b, h, rfl⟩
      obtain ⟨r, a1, b1, z1, z2, z3, z4⟩ := roll_ n a b wide [] h m1 (by omega)
      refine ⟨_, rfl, rfl, .int r, [cup a1 b1], ⟨a1, b1, z3, rfl⟩, ⟨_, rfl, by omega, by omega⟩, ?_⟩
      simp [dSs, dS, dE, dT, dAnd, dOr, dTAnd, dTOr, dEs, dEo, dI, dConds, startF, Res.bind, rOpt, isiW, tyP, isTy, truW, cmpW, cmpW.isW, ordI, ordN, f1W, sView, tView, dView, lView, ixW, atP, ixOf, binW, binP, binI, setW, asgT, asgTs, sumW, setAll, slW, wP, srcOf, intOf, mkTup, mkLst, psOf, wipeF, appW, idxW, eqP, isScal, mixed, peq, dataOf, fK, callTrunc, back, leaveW, z4])
  obtain ⟨ys, S', ⟨a', b', c, rfl⟩, l, r, e⟩ := k
  obtain ⟨cs, rfl, hcs⟩ := ints_of ys r
  rw [List.length_map, List.length_map] at l
  refine ⟨cs, a', b', c, ⟨l, hcs⟩, ?_⟩
  have hi : dI (C (n + 1)) (.of (.ix (.var 4) (.cst (.int 0)))) (fK w1 w2 wide ev rs w5 w6 w7 w8 w9 w10 w11 w12 w13 w14 w15) [cup a b] = .ok (.vals (ev.map .str)) [cup a b] := by simp [dSs, dS, dE, dT, dAnd, dOr, dTAnd, dTOr, dEs, dEo, dI, dConds, startF, Res.bind, rOpt, isiW, tyP, isTy, truW, cmpW, cmpW.isW, ordI, ordN, f1W, sView, tView, dView, lView, ixW, atP, ixOf, binW, binP, binI, setW, asgT, asgTs, sumW, setAll, slW, wP, srcOf, intOf, mkTup, mkLst, psOf, wipeF, appW, idxW, eqP, isScal, mixed, peq, dataOf, fK, tell]
  exact lc_of hi e
/-- by: 0 .. 2000 less 1000 -/
theorem by_ (n : Nat) (a b : Int) (h : CupOk a b) (wide : Int) (ev : List Nm) (rs : List Row) (w1 w2 w5 w6 w7 w8 w9 w10 w11 w12 w13 w14 w15 : Option W) : ∃ (k a' b' : Int), CupOk a' b' ∧ -1000 ≤ k ∧ k ≤ 1000 ∧
    dE (C (n + 1)) (.bin .sub (.call i__law_roll (.cons (.var 0) (.cons (.cst (.int 2001)) .nil))) (.cst (.int 1000))) (fK w1 w2 wide ev rs w5 w6 w7 w8 w9 w10 w11 w12 w13 w14 w15) [cup a b] = .ok (.p (.int k)) [cup a' b'] := by
  obtain ⟨r, a1, b1, z1, z2, z3, z4⟩ := roll_ n a b 2001 [] h (by omega) (by omega)
  refine ⟨r - 1000, a1, b1, z3, by omega, by omega, ?_⟩
  simp [dSs, dS, dE, dT, dAnd, dOr, dTAnd, dTOr, dEs, dEo, dI, dConds, startF, Res.bind, rOpt, isiW, tyP, isTy, truW, cmpW, cmpW.isW, ordI, ordN, f1W, sView, tView, dView, lView, ixW, atP, ixOf, binW, binP, binI, setW, asgT, asgTs, sumW, setAll, slW, wP, srcOf, intOf, mkTup, mkLst, psOf, wipeF, appW, idxW, eqP, isScal, mixed, peq, dataOf, fK, callTrunc, back, leaveW, z4]
theorem addc_ (n : Nat) (wide : Int) (ev : List Nm) (rs : List Row) (cs : List Int) (k : Int) (hl : cs.length ≤ 24) (S : Store) (w1 w2 w5 w6 w7 w8 w9 w10 w13 w14 w15 : Option W) :
    dE (C n) (.f1 .tuple q__law_right_5) (fK w1 w2 wide ev rs w5 w6 w7 w8 w9 w10 (some (.p (crs cs))) (some (.p (.int k))) w13 w14 w15) S = .ok (.p (crs (sh k cs))) S := by
  have q := comp_vals (t := .name 13) (conds := fun σ1 S2 => dConds (C n) .nil σ1 S2) (elt := fun σ1 S2 => dE (C n) (.bin .add (.var 13) (.var 12)) σ1 S2) (σ0 := wipeF (fK w1 w2 wide ev rs w5 w6 w7 w8 w9 w10 (some (.p (crs cs))) (some (.p (.int k))) w13 w14 w15) [13]) (S := S) (c := fun _ => true) (f := addP k)
    (cs.map .int) bigN [] (by simp only [List.length_map]; unfold bigN; omega) (by simp only [List.length_map]; show 0 + cs.length ≤ line; unfold line; omega) (fun y hy => by
      obtain ⟨z, hz, rfl⟩ := List.mem_map.mp hy
      exact ⟨_, rfl, rfl, fun _ => bin_ (var_ rfl) (var_ rfl) rfl⟩)
  rw [filter_true, ints_map, List.nil_append] at q
  have hi : dI (C n) (.of (.var 11)) (fK w1 w2 wide ev rs w5 w6 w7 w8 w9 w10 (some (.p (crs cs))) (some (.p (.int k))) w13 w14 w15) S = .ok (.vals (cs.map .int)) S := by simp [dSs, dS, dE, dT, dAnd, dOr, dTAnd, dTOr, dEs, dEo, dI, dConds, startF, Res.bind, rOpt, isiW, tyP, isTy, truW, cmpW, cmpW.isW, ordI, ordN, f1W, sView, tView, dView, lView, ixW, atP, ixOf, binW, binP, binI, setW, asgT, asgTs, sumW, setAll, slW, wP, srcOf, intOf, mkTup, mkLst, psOf, wipeF, appW, idxW, eqP, isScal, mixed, peq, dataOf, crs, fK]
  exact fun_ (lc_of hi q) rfl
theorem homec_ (n : Nat) (wide : Int) (ev : List Nm) (rs : List Row) (cs : List Int) (hn : cs ≠ []) (hl : cs.length ≤ 24) (S : Store) (w1 w2 w5 w6 w7 w8 w9 w10 w12 w13 w14 w15 : Option W) :
    dE (C n) (.f1 .tuple q__law_right_6) (fK w1 w2 wide ev rs w5 w6 w7 w8 w9 w10 (some (.p (crs cs))) w12 w13 w14 w15) S = .ok (.p (crs (home cs))) S := by
  have q := comp_vals (t := .name 13) (conds := fun σ1 S2 => dConds (C n) .nil σ1 S2) (elt := fun σ1 S2 => dE (C n) (.bin .sub (.var 13) (.f1 .min (.var 11))) σ1 S2) (σ0 := wipeF (fK w1 w2 wide ev rs w5 w6 w7 w8 w9 w10 (some (.p (crs cs))) w12 w13 w14 w15) [13]) (S := S) (c := fun _ => true) (f := addP (- mn cs))
    (cs.map .int) bigN [] (by simp only [List.length_map]; unfold bigN; omega) (by simp only [List.length_map]; show 0 + cs.length ≤ line; unfold line; omega) (fun y hy => by
      obtain ⟨z, hz, rfl⟩ := List.mem_map.mp hy
      exact ⟨_, rfl, rfl, fun _ => bin_ (var_ rfl) (min_ rfl hn) rfl⟩)
  rw [filter_true, ints_map, List.nil_append] at q
  have hi : dI (C n) (.of (.var 11)) (fK w1 w2 wide ev rs w5 w6 w7 w8 w9 w10 (some (.p (crs cs))) w12 w13 w14 w15) S = .ok (.vals (cs.map .int)) S := by simp [dSs, dS, dE, dT, dAnd, dOr, dTAnd, dTOr, dEs, dEo, dI, dConds, startF, Res.bind, rOpt, isiW, tyP, isTy, truW, cmpW, cmpW.isW, ordI, ordN, f1W, sView, tView, dView, lView, ixW, atP, ixOf, binW, binP, binI, setW, asgT, asgTs, sumW, setAll, slW, wP, srcOf, intOf, mkTup, mkLst, psOf, wipeF, appW, idxW, eqP, isScal, mixed, peq, dataOf, crs, fK]
  exact fun_ (lc_of hi q) rfl
theorem or3F_ {cf : CallF} {a b c : Ex} {σ : Fr} {S : Store} (h1 : dT cf a σ S = .ok false S) (h2 : dT cf b σ S = .ok false S) (h3 : dT cf c σ S = .ok false S) : dT cf (.or (.cons a (.cons b (.cons c .nil)))) σ S = .ok false S := by
  rw [dT, dTOr, h1]
  show dTOr cf (.cons b (.cons c .nil)) σ S = _
  rw [dTOr, h2]
  show dTOr cf (.cons c .nil) σ S = _
  rw [dTOr, h3]
/-- a turn of the loop over the two other courses -/
theorem turn_ (n : Nat) (wide : Int) (ev : List Nm) (rs : List Row) (cs : List Int) (k : Int) (ht : TellOk ev rs) (hc : CrS ev cs 1000) (hn : cs ≠ []) (hd : CrS ev (sh k cs) 3000) (S : Store) (w1 w2 w7 w8 w9 w10 w12 w13 w14 w15 : Option W) :
    dSs (C (n + 8)) b__law_right_3 (fK w1 w2 wide ev rs (some (.p (crs (home cs)))) (some (.p (crs (sh k cs)))) w7 w8 w9 w10 (some (.p (crs cs))) w12 w13 w14 w15) S = .ok (.nx, fK w1 w2 wide ev rs (some (.p (crs (home cs)))) (some (.p (crs (sh k cs)))) w7 w8 w9 w10 (some (.p (crs cs))) w12 w13 w14 w15) S := by
  have hn2 : sh k cs ≠ [] := fun z => hn (by simpa [sh] using z)
  have hh := hc.home hn
  have k1 := kept_ (n + 1) ev rs (sh k cs) ht (hd.ok (by omega)) S
  have k2 := kept_ (n + 1) ev rs cs ht (hc.ok (by omega)) S
  rw [kIx_sh ev rs cs k ht hc.len] at k1
  have o1 := order_ (n + 1) ev rs (sh k cs) ht (hd.ok (by omega)) S
  have o2 := order_ (n + 1) ev rs cs ht (hc.ok (by omega)) S
  rw [ord_sh] at o1
  have h1 := homed_ (n + 1) ev rs (sh k cs) ht (hd.ok (by omega)) hn2 (by rw [home_sh k hn]; exact hh.ok (by omega)) S
  rw [home_sh k hn] at h1
  let σ : Fr := fK w1 w2 wide ev rs (some (.p (crs (home cs)))) (some (.p (crs (sh k cs)))) w7 w8 w9 w10 (some (.p (crs cs))) w12 w13 w14 w15
  have a4 : dE (C (n + 8)) (.var 4) σ S = .ok (.p (tell ev rs)) S := var_ rfl
  have a6 : dE (C (n + 8)) (.var 6) σ S = .ok (.p (crs (sh k cs))) S := var_ rfl
  have a11 : dE (C (n + 8)) (.var 11) σ S = .ok (.p (crs cs)) S := var_ rfl
  have a5 : dE (C (n + 8)) (.var 5) σ S = .ok (.p (crs (home cs))) S := var_ rfl
  have t1 := cmpT_ (call_ (es_cons a4 (es_cons a6 es_nil)) k1) (call_ (es_cons a4 (es_cons a11 es_nil)) k2) (ne_self (S := S) (shp_kIx ev rs cs 59))
  have t2 := cmpT_ (call_ (es_cons a4 (es_cons a6 es_nil)) o1) (call_ (es_cons a4 (es_cons a11 es_nil)) o2) (ne_self (S := S) (shp_ord ev cs ht.evs 58))
  have t3 := cmpT_ (call_ (es_cons a4 (es_cons a6 es_nil)) h1) a5 (ne_self (S := S) (shp_crs (home cs) 59))
  exact (seqNx ((ifF (or3F_ t1 t2 t3)).trans nilS)).trans nilS
theorem loop_ (n : Nat) (wide : Int) (ev : List Nm) (rs : List Row) (cs : List Int) (k : Int) (ht : TellOk ev rs) (hc : CrS ev cs 1000) (hn : cs ≠ []) (hk : -1000 ≤ k ∧ k ≤ 1000) (S : Store) (w1 w2 w6 w7 w8 w9 w10 w13 w14 w15 : Option W) : ∃ v6 : Option W,
    dS (C (n + 8)) r__law_right_4 (fK w1 w2 wide ev rs (some (.p (crs (home cs)))) w6 w7 w8 w9 w10 (some (.p (crs cs))) (some (.p (.int k))) w13 w14 w15) S = .ok (.nx, fK w1 w2 wide ev rs (some (.p (crs (home cs)))) v6 w7 w8 w9 w10 (some (.p (crs cs))) (some (.p (.int k))) w13 w14 w15) S := by
  have hd : CrS ev (sh k cs) 3000 := ⟨(hc.sh (j := 2000) (by omega) (by omega)).len, fun c h => by have := (hc.sh (j := 1000) (k := k) hk.1 hk.2).bnd c h; omega⟩
  have hh : CrS ev (home cs) 3000 := ⟨(hc.home hn).len, fun c h => by have := (hc.home hn).bnd c h; omega⟩
  obtain ⟨σ', S', ⟨v6, rfl, rfl, _⟩, e⟩ := for_inv_vals (t := .name 6) (body := fun σ1 S2 => dSs (C (n + 8)) b__law_right_3 σ1 S2) (fun xs σ S' => ∃ v6 : Option W, σ = fK w1 w2 wide ev rs (some (.p (crs (home cs)))) v6 w7 w8 w9 w10 (some (.p (crs cs))) (some (.p (.int k))) w13 w14 w15 ∧ S' = S ∧ ∀ x ∈ xs, ∃ j, x = crs (sh j cs) ∧ CrS ev (sh j cs) 3000)
    (by
      rintro x xs σ S' ⟨v6, rfl, rfl, hx⟩
      obtain ⟨j, rfl, hj⟩ := hx x List.mem_cons_self
      exact ⟨_, rfl, _, _, turn_ n wide ev rs cs j ht hc hn hj S' w1 w2 w7 w8 w9 w10 (some (.p (.int k))) w13 w14 w15, _, rfl, rfl, fun y hy => hx y (List.mem_cons_of_mem _ hy)⟩)
    [crs (sh k cs), crs (home cs)] bigN (fK w1 w2 wide ev rs (some (.p (crs (home cs)))) w6 w7 w8 w9 w10 (some (.p (crs cs))) (some (.p (.int k))) w13 w14 w15) S (by show 2 < bigN; decide) ⟨w6, rfl, rfl, fun x hx => by
      rcases List.mem_cons.mp hx with e | hx
      · exact ⟨k, e, hd⟩
      · exact ⟨- mn cs, List.mem_singleton.mp hx, hh⟩⟩
  refine ⟨v6, ?_⟩
  let σ : Fr := fK w1 w2 wide ev rs (some (.p (crs (home cs)))) w6 w7 w8 w9 w10 (some (.p (crs cs))) (some (.p (.int k))) w13 w14 w15
  have a4 : dE (C (n + 8)) (.var 4) σ S' = .ok (.p (tell ev rs)) S' := var_ rfl
  have a11 : dE (C (n + 8)) (.var 11) σ S' = .ok (.p (crs cs)) S' := var_ rfl
  have a12 : dE (C (n + 8)) (.var 12) σ S' = .ok (.p (.int k)) S' := var_ rfl
  have a5 : dE (C (n + 8)) (.var 5) σ S' = .ok (.p (crs (home cs))) S' := var_ rfl
  have s1 := call_ (es_cons a4 (es_cons a11 (es_cons a12 es_nil))) (shifted_ (n + 1) ev rs cs k ht (hc.ok (by omega)) (by omega) (hd.ok (by omega)) S')
  have t := tup_ (es_cons s1 (es_cons a5 es_nil)) (show mkTup [.p (crs (sh k cs)), .p (crs (home cs))] = some (.p (.tup [crs (sh k cs), crs (home cs)])) from rfl)
  unfold r__law_right_4
  rw [dS, dI, t]
  exact e

theorem and2_ {cf : CallF} {a b : Ex} {σ : Fr} {S S1 S2 : Store} {r : Bool} (h1 : dE cf a σ S = .ok (.p (.bl true)) S1) (h2 : dE cf b σ S1 = .ok (.p (.bl r)) S2) : dE cf (.and (.cons a (.cons b .nil))) σ S = .ok (.p (.bl r)) S2 := by
  rw [dE, dAnd, h1]
  show dAnd cf (.cons b .nil) σ S1 = _
  rw [dAnd, h2]
theorem fun2_ {cf : CallF} {f : F1} {a : Ex} {σ : Fr} {S S1 : Store} {x : W} {p : P} (h1 : dE cf a σ S = .ok x S1) (h3 : f1W f S1 x = some p) : dE cf (.f1 f a) σ S = .ok (.p p) S1 := fun_ h1 h3
/-- the drawn numbers -/
theorem nums_ (n : Nat) (a b : Int) (h : CupOk a b) (wide : Int) (ev : List Nm) (rs : List Row) (hr : rs.length ≤ 60) (w1 w2 w5 w6 w7 w8 w9 w10 w11 w12 w13 w14 w15 : Option W) : ∃ (js : List Nat) (a' b' : Int), CupOk a' b' ∧ Jok rs.length js ∧
    dS (C (n + 1)) (.asg (.name 7) (.f1 .tuple q__law_right_2)) (fK w1 w2 wide ev rs w5 w6 w7 w8 w9 w10 w11 w12 w13 w14 w15) [cup a b] = .ok (.nx, fK w1 w2 wide ev rs w5 w6 (some (.p (jP js))) w8 w9 w10 w11 w12 w13 w14 w15) [cup a' b'] := by
  obtain ⟨js, S', ⟨a', b', c, rfl⟩, l, p, e⟩ := comp_some (t := .name 14) (conds := fun σ1 S2 => dConds (C (n + 1)) (.cons (.cmp .eq (.call i__law_roll (.cons (.var 0) (.cons (.cst (.int 2)) .nil))) (.cst (.int 0))) .nil) σ1 S2) (elt := fun σ1 S2 => dE (C (n + 1)) (.var 14) σ1 S2) (σ0 := wipeF (fK w1 w2 wide ev rs w5 w6 w7 w8 w9 w10 w11 w12 w13 w14 w15) [14])
    (fun S => ∃ a b, CupOk a b ∧ S = [cup a b]) rs.length 0 bigN [] [cup a b] ⟨a, b, h, rfl⟩ (by unfold bigN; omega) (by show 0 + rs.length ≤ line; unfold line; omega) (by
      rintro x S ⟨a, b, h, rfl⟩
      obtain ⟨r, a1, b1, z1, z2, z3, z4⟩ := roll_ n a b 2 [] h (by omega) (by omega)
      refine ⟨_, rfl, decide (r = 0), [cup a1 b1], ⟨a1, b1, z3, rfl⟩, ?_, var_ rfl⟩
      by_cases hz : r = 0 <;> simp [dSs, dS, dE, dT, dAnd, dOr, dTAnd, dTOr, dEs, dEo, dI, dConds, startF, Res.bind, rOpt, isiW, tyP, isTy, truW, cmpW, cmpW.isW, ordI, ordN, f1W, sView, tView, dView, lView, ixW, atP, ixOf, binW, binP, binI, setW, asgT, asgTs, sumW, setAll, slW, wP, srcOf, intOf, mkTup, mkLst, psOf, wipeF, appW, idxW, eqP, isScal, mixed, peq, dataOf, fK, callTrunc, back, leaveW, z4, hz])
  refine ⟨js, a', b', c, ⟨fun j hj => by have := l j hj; omega, p⟩, ?_⟩
  have hi0 : dE (C (n + 1)) (.f1 .len (.ix (.var 4) (.cst (.int 1)))) (fK w1 w2 wide ev rs w5 w6 w7 w8 w9 w10 w11 w12 w13 w14 w15) [cup a b] = .ok (.p (.int rs.length)) [cup a b] := by simp [dSs, dS, dE, dT, dAnd, dOr, dTAnd, dTOr, dEs, dEo, dI, dConds, startF, Res.bind, rOpt, isiW, tyP, isTy, truW, cmpW, cmpW.isW, ordI, ordN, f1W, sView, tView, dView, lView, ixW, atP, ixOf, binW, binP, binI, setW, asgT, asgTs, sumW, setAll, slW, wP, srcOf, intOf, mkTup, mkLst, psOf, wipeF, appW, idxW, eqP, isScal, mixed, peq, dataOf, fK, tell]
  have hi := range1_ hi0 (by omega) (by omega)
  rw [Int.toNat_natCast] at hi
  exact asg_ (fun_ (lc_of hi e) rfl) rfl
/-- the kept ones are all but .. -/
theorem q0_ns (n : Nat) (wide : Int) (ev : List Nm) (rs : List Row) (cs : List Int) (js : List Nat) (hj : Jok rs.length js) (ht : TellOk ev rs) (hc : CrOk ev cs) (S : Store) (w1 w2 w5 w6 w8 w9 w10 w12 w13 w14 w15 : Option W) :
    dE (C (n + 8)) q__law_right_0 (fK w1 w2 wide ev rs w5 w6 (some (.p (jP js))) w8 w9 w10 (some (.p (crs cs))) w12 w13 w14 w15) S = .ok (.p (.lst ((js.filter fun j => !((rs[j]?).elim true (kp ev cs))).map fun (j : Nat) => P.int (j : Int)))) S := by
  have hf := ht.few
  have hl := hj.len
  have q := comp_vals (t := .name 14) (conds := fun σ1 S2 => dConds (C (n + 8)) (.cons (.cmp .notin (.var 14) (.call i_kept_statements (.cons (.var 4) (.cons (.var 11) .nil)))) .nil) σ1 S2) (elt := fun σ1 S2 => dE (C (n + 8)) (.var 14) σ1 S2) (σ0 := wipeF (fK w1 w2 wide ev rs w5 w6 (some (.p (jP js))) w8 w9 w10 (some (.p (crs cs))) w12 w13 w14 w15) [14]) (S := S)
    (c := fun x => match x with | .int j => !((rs[j.toNat]?).elim true (kp ev cs)) | _ => false) (f := fun x => x)
    (js.map fun (j : Nat) => P.int (j : Int)) bigN [] (by simp only [List.length_map]; unfold bigN; omega) (by simp only [List.length_map]; show 0 + js.length ≤ line; unfold line; omega) (fun y hy => by
      obtain ⟨j, hj2, rfl⟩ := List.mem_map.mp hy
      have hlt := hj.lt j hj2
      refine ⟨_, rfl, ?_, fun _ => var_ rfl⟩
      have hk := kept_ (n + 1) ev rs cs ht hc S
      have hi := inP_kIx ev rs cs j hlt
      have hfl := flat_kIx ev rs cs
      let σ : Fr := fK w1 w2 wide ev rs w5 w6 (some (.p (jP js))) w8 w9 w10 (some (.p (crs cs))) w12 w13 (some (.p (.int (j : Int)))) w15
      have a4 : dE (C (n + 8)) (.var 4) σ S = .ok (.p (tell ev rs)) S := var_ rfl
      have a11 : dE (C (n + 8)) (.var 11) σ S = .ok (.p (crs cs)) S := var_ rfl
      have a14 : dE (C (n + 8)) (.var 14) σ S = .ok (.p (.int (j : Int))) S := var_ rfl
      have e : cmpW .notin S (.p (.int (j : Int))) (.p (.tup (kIx ev rs cs))) = some (!(kp ev cs rs[j])) := by
        show (cmpW.contW S (.p (.int (j : Int))) (.p (.tup (kIx ev rs cs)))).map (!·) = _
        have : cmpW.contW S (.p (.int (j : Int))) (.p (.tup (kIx ev rs cs))) = some (kp ev cs rs[j]) := by
          unfold cmpW.contW
          show (if (flat (.int (j : Int)) && (kIx ev rs cs).all flat) = true then some (inP (.int (j : Int)) (kIx ev rs cs)) else none) = _
          rw [hfl, hi]
          rfl
        rw [this]; rfl
      have t := cmpT_ (op := .notin) a14 (call_ (es_cons a4 (es_cons a11 es_nil)) hk) e
      show dConds (C (n + 8)) (.cons (.cmp .notin (.var 14) (.call i_kept_statements (.cons (.var 4) (.cons (.var 11) .nil)))) .nil) σ S = _
      rw [dConds, t]
      show _ = Res.ok (!((rs[((j : Int)).toNat]?).elim true (kp ev cs))) S
      rw [Int.toNat_natCast, List.getElem?_eq_getElem hlt]
      rfl)
  rw [List.nil_append, List.map_id', List.filter_map] at q
  have hi : dI (C (n + 8)) (.of (.var 7)) (fK w1 w2 wide ev rs w5 w6 (some (.p (jP js))) w8 w9 w10 (some (.p (crs cs))) w12 w13 w14 w15) S = .ok (.vals (js.map fun (j : Nat) => P.int (j : Int))) S := by simp [dSs, dS, dE, dT, dAnd, dOr, dTAnd, dTOr, dEs, dEo, dI, dConds, startF, Res.bind, rOpt, isiW, tyP, isTy, truW, cmpW, cmpW.isW, ordI, ordN, f1W, sView, tView, dView, lView, ixW, atP, ixOf, binW, binP, binI, setW, asgT, asgTs, sumW, setAll, slW, wP, srcOf, intOf, mkTup, mkLst, psOf, wipeF, appW, idxW, eqP, isScal, mixed, peq, dataOf, jP, fK]
  refine lc_of hi (q.trans ?_)
  congr 2
theorem eq_nil {S : Store} (l : List Nat) : cmpW .eq S (.p (.lst (l.map fun (j : Nat) => P.int (j : Int)))) (.p (.lst [])) = some (decide (l = [])) := by
  show eqP _ _ = _
  have h1 : shp (.lst (l.map fun (j : Nat) => P.int (j : Int))) 60 = true := by
    have := shps_map (fun (j : Nat) => P.int (j : Int)) 59 l fun _ _ => by simp [shp]
    simpa [shp] using this
  have h2 : shp (.lst []) 60 = true := by simp [shp, shps]
  unfold eqP
  rw [h1, h2]
  cases l with
  | nil => simp [isScal, peq, peqs]
  | cons j r => simp [isScal, peq, peqs]
theorem ne_bl {S : Store} (b : Bool) : cmpW .ne S (.p (.bl b)) (.p (.bl b)) = some false := ne_self (by simp [shp])
theorem s8_ (n : Nat) (wide : Int) (ev : List Nm) (rs : List Row) (cs : List Int) (js : List Nat) (hj : Jok rs.length js) (ht : TellOk ev rs) (hc : CrOk ev cs) (S : Store) (w1 w2 w5 w6 w9 w10 w12 w13 w14 w15 : Option W) :
    dS (C (n + 8)) (.ifS (.or (.cons (.not (.call i__law_same (.cons (.call i_some_statements (.cons (.var 4) (.cons (.var 7) .nil))) (.cons (.var 8) .nil)))) (.cons (.cmp .ne (.call i_is_kept (.cons (.var 8) (.cons (.var 11) .nil))) (.cmp .eq q__law_right_0 (.lst .nil))) .nil))) (.cons (.ret (.cst (.bl false))) .nil) .nil) (fK w1 w2 wide ev rs w5 w6 (some (.p (jP js))) (some (.p (tell ev (pick rs js)))) w9 w10 (some (.p (crs cs))) w12 w13 w14 w15) S = .ok (.nx, fK w1 w2 wide ev rs w5 w6 (some (.p (jP js))) (some (.p (tell ev (pick rs js)))) w9 w10 (some (.p (crs cs))) w12 w13 w14 w15) S := by
  have hp := ht.pick hj
  let σ : Fr := fK w1 w2 wide ev rs w5 w6 (some (.p (jP js))) (some (.p (tell ev (pick rs js)))) w9 w10 (some (.p (crs cs))) w12 w13 w14 w15
  have a4 : dE (C (n + 8)) (.var 4) σ S = .ok (.p (tell ev rs)) S := var_ rfl
  have a7 : dE (C (n + 8)) (.var 7) σ S = .ok (.p (jP js)) S := var_ rfl
  have a8 : dE (C (n + 8)) (.var 8) σ S = .ok (.p (tell ev (pick rs js))) S := var_ rfl
  have a11 : dE (C (n + 8)) (.var 11) σ S = .ok (.p (crs cs)) S := var_ rfl
  have c1 := call_ (es_cons a4 (es_cons a7 es_nil)) (someSt_ (n + 2) ev rs js ht hj S)
  have t1 := notcall_ (es_cons c1 (es_cons a8 es_nil)) (same_ 3 (tell ev (pick rs js)) (okS_tell _ _ hp 0) (n + 4) S)
  have c2 := call_ (es_cons a8 (es_cons a11 es_nil)) (isKept_ (n + 1) ev (pick rs js) cs hp hc S)
  have q := q0_ns n wide ev rs cs js hj ht hc S w1 w2 w5 w6 (some (.p (tell ev (pick rs js)))) w9 w10 w12 w13 w14 w15
  have l0 : dE (C (n + 8)) (.lst .nil) σ S = .ok (.p (.lst [])) S := by simp [dSs, dS, dE, dT, dAnd, dOr, dTAnd, dTOr, dEs, dEo, dI, dConds, startF, Res.bind, rOpt, isiW, tyP, isTy, truW, cmpW, cmpW.isW, ordI, ordN, f1W, sView, tView, dView, lView, ixW, atP, ixOf, binW, binP, binI, setW, asgT, asgTs, sumW, setAll, slW, wP, srcOf, intOf, mkTup, mkLst, psOf, wipeF, appW, idxW, eqP, isScal, mixed, peq, dataOf, line]
  have e := cmp_ q l0 (eq_nil _)
  rw [← pick_all rs (kp ev cs) js hj.lt] at e
  have t2 := cmpT_ c2 e (ne_bl (S := S) _)
  exact (ifF (orF_ t1 t2)).trans nilS

theorem rg1_ {cf : CallF} {t : Bool} {a : Ex} {σ : Fr} {S S1 : Store} {w w2 : W} (h : dE cf a σ S = .ok w S1) (h2 : rgW t (.p (.int 0)) w = some w2) : dE cf (.rg1 t a) σ S = .ok w2 S1 := by
  rw [dE, h]
  show rOpt (rgW t (.p (.int 0)) w) S1 = _
  rw [h2]
  rfl
theorem rgW_nat (m : Nat) (hm : m ≤ 1000) : rgW true (.p (.int 0)) (.p (.int m)) = some (.p (jP (List.range m))) := by
  have e : ((m : Int) - 0).toNat = m := by omega
  have h : (-4611686018427387904 : Int) ≤ 0 ∧ (0 : Int) < 4611686018427387904 ∧ (-4611686018427387904 : Int) ≤ m ∧ (m : Int) < 4611686018427387904 ∧ ((m : Int) - 0).toNat ≤ line := by
    rw [e]
    unfold line
    omega
  unfold rgW
  simp only [h, and_self, if_true]
  unfold rgP jP
  rw [e]
  simp
/-- the row that is added -/
def rowN (e0 e1 : Nm) (c0 c1 : Int) : Row := ⟨e0, e1, some (c1 - c0), none⟩
theorem rowN_ok {e0 e1 : Nm} {er : List Nm} {c0 c1 : Int} {cr : List Int} (ht : EvOk (e0 :: e1 :: er)) (hc : CrS (e0 :: e1 :: er) (c0 :: c1 :: cr) 1000) : RowOk (e0 :: e1 :: er) (rowN e0 e1 c0 c1) := by
  have h0 := hc.bnd c0 List.mem_cons_self
  have h1 := hc.bnd c1 (List.mem_cons_of_mem _ List.mem_cons_self)
  refine ⟨List.mem_cons_self, List.mem_cons_of_mem _ List.mem_cons_self, ?_, ?_, fun _ e => (nomatch e), fun i j e1 e2 => (nomatch e2)⟩
  · intro e
    have e : e0 = e1 := e
    have := (List.nodup_cons.mp ht.nd).1
    exact this (by rw [e]; exact List.mem_cons_self)
  · intro i e
    have e : some (c1 - c0) = some i := e
    cases e
    omega
theorem rowN_kp {e0 e1 : Nm} {er : List Nm} {c0 c1 : Int} {cr : List Int} (ne : e0 ≠ e1) : kp (e0 :: e1 :: er) (c0 :: c1 :: cr) (rowN e0 e1 c0 c1) = true := by
  have i0 : idxN e0 (e0 :: e1 :: er) 0 = some 0 := by
    unfold idxN
    rw [if_pos (nmEq_iff.mpr rfl)]
  have i1 : idxN e1 (e0 :: e1 :: er) 0 = some 1 := by
    unfold idxN
    rw [if_neg (fun z => ne (nmEq_iff.mp z))]
    unfold idxN
    rw [if_pos (nmEq_iff.mpr rfl)]
  have v0 : cv (e0 :: e1 :: er) (c0 :: c1 :: cr) e0 = c0 := by unfold cv; rw [i0]; rfl
  have v1 : cv (e0 :: e1 :: er) (c0 :: c1 :: cr) e1 = c1 := by unfold cv; rw [i1]; rfl
  unfold kp rowN
  rw [v0, v1]
  simp
/-- from the tenth statement on -/
theorem tail_ (n : Nat) (wide : Int) (e0 e1 : Nm) (er : List Nm) (rs : List Row) (c0 c1 : Int) (cr : List Int) (ht : TellOk (e0 :: e1 :: er) rs) (hf : rs.length < 60) (hc : CrS (e0 :: e1 :: er) (c0 :: c1 :: cr) 1000) (S : Store) (w1 w2 w5 w6 w7 w8 w12 w13 w14 w15 : Option W) : ∃ σ' : Fr,
    dSs (C (n + 8)) (((d__law_right.body |> tlS |> tlS |> tlS |> tlS |> tlS |> tlS |> tlS |> tlS) : Sts)) (fK w1 w2 wide (e0 :: e1 :: er) rs w5 w6 w7 w8 none none (some (.p (crs (c0 :: c1 :: cr)))) w12 w13 w14 w15) S = .ok (.rt (.p (.bl true)), σ') S := by
  have rk := rowN_ok ht.evs hc
  have hc' := hc.ok (by omega)
  have hm : TellOk (e0 :: e1 :: er) (rs ++ [rowN e0 e1 c0 c1]) := ⟨ht.evs, by rw [List.length_append, List.length_cons, List.length_nil]; omega, fun r hr => by
    rcases List.mem_append.mp hr with z | z
    · exact ht.rows r z
    · rw [List.mem_singleton.mp z]; exact rk⟩
  have hl := ht.evs.few
  let σ9 : Fr := fK w1 w2 wide (e0 :: e1 :: er) rs w5 w6 w7 w8 none none (some (.p (crs (c0 :: c1 :: cr)))) w12 w13 w14 w15
  let σA : Fr := fK w1 w2 wide (e0 :: e1 :: er) rs w5 w6 w7 w8 (some (.p (rowN e0 e1 c0 c1).p)) none (some (.p (crs (c0 :: c1 :: cr)))) w12 w13 w14 w15
  let σB : Fr := fK w1 w2 wide (e0 :: e1 :: er) rs w5 w6 w7 w8 (some (.p (rowN e0 e1 c0 c1).p)) (some (.p (tell (e0 :: e1 :: er) (rs ++ [rowN e0 e1 c0 c1])))) (some (.p (crs (c0 :: c1 :: cr)))) w12 w13 w14 w15
  -- if len(telling[0]) < 2
  have f0 : dT (C (n + 8)) (.cmp .lt (.f1 .len (.ix (.var 4) (.cst (.int 0)))) (.cst (.int 2))) σ9 S = .ok false S := by
    have : ¬ ((er.length : Int) + 1 + 1 < 2) := by omega
    simp [dSs, dS, dE, dT, dAnd, dOr, dTAnd, dTOr, dEs, dEo, dI, dConds, startF, Res.bind, rOpt, isiW, tyP, isTy, truW, cmpW, cmpW.isW, ordI, ordN, f1W, sView, tView, dView, lView, ixW, atP, ixOf, binW, binP, binI, setW, asgT, asgTs, sumW, setAll, slW, wP, srcOf, intOf, mkTup, mkLst, psOf, wipeF, appW, idxW, eqP, isScal, mixed, peq, dataOf, σ9, fK, tell, this]
  have s9 := (ifF (a := .cons (.ret (.cst (.bl true))) .nil) (b := .nil) f0).trans nilS
  -- row
  have rw_ : dE (C (n + 8)) (.tup (.cons (.ix (.ix (.var 4) (.cst (.int 0))) (.cst (.int 0))) (.cons (.ix (.ix (.var 4) (.cst (.int 0))) (.cst (.int 1))) (.cons (.bin .sub (.ix (.var 11) (.cst (.int 1))) (.ix (.var 11) (.cst (.int 0)))) (.cons (.cst .non) .nil))))) σ9 S = .ok (.p (rowN e0 e1 c0 c1).p) S := by
    have g1 : (0 : Int) < (er.length : Int) + 1 + 1 := by omega
    have g2 : (1 : Int) < (er.length : Int) + 1 + 1 := by omega
    have g3 : (0 : Int) < (cr.length : Int) + 1 + 1 := by omega
    have g4 : (1 : Int) < (cr.length : Int) + 1 + 1 := by omega
    simp [dSs, dS, dE, dT, dAnd, dOr, dTAnd, dTOr, dEs, dEo, dI, dConds, startF, Res.bind, rOpt, isiW, tyP, isTy, truW, cmpW, cmpW.isW, ordI, ordN, f1W, sView, tView, dView, lView, ixW, atP, ixOf, binW, binP, binI, setW, asgT, asgTs, sumW, setAll, slW, wP, srcOf, intOf, mkTup, mkLst, psOf, wipeF, appW, idxW, eqP, isScal, mixed, peq, dataOf, σ9, fK, tell, crs, g1, g2, g3, g4, rowN, Row.p, rowP, oP, line]
  have sA : dS (C (n + 8)) (.asg (.name 9) (.tup (.cons (.ix (.ix (.var 4) (.cst (.int 0))) (.cst (.int 0))) (.cons (.ix (.ix (.var 4) (.cst (.int 0))) (.cst (.int 1))) (.cons (.bin .sub (.ix (.var 11) (.cst (.int 1))) (.ix (.var 11) (.cst (.int 0)))) (.cons (.cst .non) .nil)))))) σ9 S = .ok (.nx, σA) S := asg_ rw_ rfl
  -- more
  have a4 : dE (C (n + 8)) (.var 4) σA S = .ok (.p (tell (e0 :: e1 :: er) rs)) S := var_ rfl
  have a9 : dE (C (n + 8)) (.var 9) σA S = .ok (.p (rowN e0 e1 c0 c1).p) S := var_ rfl
  have cW := call_ (es_cons a4 (es_cons a9 es_nil)) (with_ (n + 2) _ rs _ ht rk hf S)
  have sB : dS (C (n + 8)) (.asg (.name 10) (.call i_with_statement (.cons (.var 4) (.cons (.var 9) .nil)))) σA S = .ok (.nx, σB) S := asg_ cW rfl
  -- told and due
  have b4 : dE (C (n + 8)) (.var 4) σB S = .ok (.p (tell (e0 :: e1 :: er) rs)) S := var_ rfl
  have b9 : dE (C (n + 8)) (.var 9) σB S = .ok (.p (rowN e0 e1 c0 c1).p) S := var_ rfl
  have b10 : dE (C (n + 8)) (.var 10) σB S = .ok (.p (tell (e0 :: e1 :: er) (rs ++ [rowN e0 e1 c0 c1]))) S := var_ rfl
  have b11 : dE (C (n + 8)) (.var 11) σB S = .ok (.p (crs (c0 :: c1 :: cr))) S := var_ rfl
  have cT := call_ (es_cons b10 es_nil) (isTelling_ (n + 3) _ _ hm S)
  have t1 := tup_ (es_cons b10 (es_cons cT es_nil)) (show mkTup [.p (tell (e0 :: e1 :: er) (rs ++ [rowN e0 e1 c0 c1])), .p (.bl true)] = some (.p (.tup [tell (e0 :: e1 :: er) (rs ++ [rowN e0 e1 c0 c1]), .bl true])) from rfl)
  have d1 : dE (C (n + 8)) (.ix (.var 4) (.cst (.int 0))) σB S = .ok (.p (.tup ((e0 :: e1 :: er).map .str))) S := ix_ b4 cst_ rfl
  have d2 : dE (C (n + 8)) (.ix (.var 4) (.cst (.int 1))) σB S = .ok (.p (.tup (rs.map Row.p))) S := ix_ b4 cst_ rfl
  have d3 : dE (C (n + 8)) (.bin .add (.ix (.var 4) (.cst (.int 1))) (.tup (.cons (.var 9) .nil))) σB S = .ok (.p (.tup ((rs ++ [rowN e0 e1 c0 c1]).map Row.p))) S := by
    refine bin_ d2 (tup_ (es_cons b9 es_nil) rfl) ?_
    have hl : (rs.map Row.p).length + [(rowN e0 e1 c0 c1).p].length ≤ line := by simp only [List.length_map, List.length_cons, List.length_nil]; unfold line; omega
    unfold binW binP
    simp only [hl, if_true, List.map_append]
    rfl
  have t2 := tup_ (es_cons (tup_ (es_cons d1 (es_cons d3 es_nil)) (show mkTup [.p (.tup ((e0 :: e1 :: er).map .str)), .p (.tup ((rs ++ [rowN e0 e1 c0 c1]).map Row.p))] = some (.p (tell (e0 :: e1 :: er) (rs ++ [rowN e0 e1 c0 c1]))) from rfl)) (es_cons (cst_ (x := .bl true)) es_nil)) (show mkTup [.p (tell (e0 :: e1 :: er) (rs ++ [rowN e0 e1 c0 c1])), .p (.bl true)] = some (.p (.tup [tell (e0 :: e1 :: er) (rs ++ [rowN e0 e1 c0 c1]), .bl true])) from rfl)
  have ok4 : okS 4 (.tup [tell (e0 :: e1 :: er) (rs ++ [rowN e0 e1 c0 c1]), .bl true]) = true := by
    have := okS_tell _ _ hm 0
    simp [okS, okSs] at this ⊢
    exact this
  have sC := (ifF (a := .cons (.ret (.cst (.bl false))) .nil) (b := .nil) (notcall_ (es_cons t1 (es_cons t2 es_nil)) (same_ 4 _ ok4 (n + 3) S))).trans nilS
  -- the answer
  have k1 := call_ (es_cons b10 (es_cons b11 es_nil)) (isKept_ (n + 1) _ _ _ hm hc' S)
  have k2 := call_ (es_cons b4 (es_cons b11 es_nil)) (isKept_ (n + 1) _ _ _ ht hc' S)
  have ne : e0 ≠ e1 := rk.ne
  rw [List.all_append, show [rowN e0 e1 c0 c1].all (kp (e0 :: e1 :: er) (c0 :: c1 :: cr)) = true from by simp [rowN_kp ne], Bool.and_true] at k1
  have e1' := cmp_ k1 k2 (eq_self (S := S) (x := .bl (rs.all (kp (e0 :: e1 :: er) (c0 :: c1 :: cr)))) (by simp [shp]))
  have hj : Jok (rs ++ [rowN e0 e1 c0 c1]).length (List.range rs.length) := ⟨fun j hj => by have := List.mem_range.mp hj; rw [List.length_append]; omega, List.pairwise_lt_range⟩
  have l1 : dE (C (n + 8)) (.f1 .len (.ix (.var 4) (.cst (.int 1)))) σB S = .ok (.p (.int rs.length)) S := by simp [dSs, dS, dE, dT, dAnd, dOr, dTAnd, dTOr, dEs, dEo, dI, dConds, startF, Res.bind, rOpt, isiW, tyP, isTy, truW, cmpW, cmpW.isW, ordI, ordN, f1W, sView, tView, dView, lView, ixW, atP, ixOf, binW, binP, binI, setW, asgT, asgTs, sumW, setAll, slW, wP, srcOf, intOf, mkTup, mkLst, psOf, wipeF, appW, idxW, eqP, isScal, mixed, peq, dataOf, σB, fK, tell]
  have rg : dE (C (n + 8)) (.rg1 true (.f1 .len (.ix (.var 4) (.cst (.int 1))))) σB S = .ok (.p (jP (List.range rs.length))) S := rg1_ l1 (rgW_nat rs.length (by omega))
  have k3 := call_ (es_cons b10 (es_cons rg es_nil)) (someSt_ (n + 2) _ _ _ hm hj S)
  rw [pick_range] at k3
  have e2 := cmp_ k3 b4 (eq_self (S := S) (shp_tell ht 57))
  exact ⟨_, (seqNx s9).trans ((seqNx sA).trans ((seqNx sB).trans ((seqNx sC).trans (seqRt (retS (and2_ e1' e2))))))⟩

theorem one_tail (n : Nat) (wide : Int) (e0 : Nm) (rs : List Row) (ht : TellOk [e0] rs) (S : Store) (w1 w2 w5 w6 w7 w8 w9 w10 w11 w12 w13 w14 w15 : Option W) : ∃ σ' : Fr,
    dSs (C (n + 8)) (((d__law_right.body |> tlS |> tlS |> tlS |> tlS |> tlS |> tlS |> tlS |> tlS) : Sts)) (fK w1 w2 wide [e0] rs w5 w6 w7 w8 w9 w10 w11 w12 w13 w14 w15) S = .ok (.rt (.p (.bl true)), σ') S := by
  have f0 : dT (C (n + 8)) (.cmp .lt (.f1 .len (.ix (.var 4) (.cst (.int 0)))) (.cst (.int 2))) (fK w1 w2 wide [e0] rs w5 w6 w7 w8 w9 w10 w11 w12 w13 w14 w15) S = .ok true S := by simp [dSs, dS, dE, dT, dAnd, dOr, dTAnd, dTOr, dEs, dEo, dI, dConds, startF, Res.bind, rOpt, isiW, tyP, isTy, truW, cmpW, cmpW.isW, ordI, ordN, f1W, sView, tView, dView, lView, ixW, atP, ixOf, binW, binP, binI, setW, asgT, asgTs, sumW, setAll, slW, wP, srcOf, intOf, mkTup, mkLst, psOf, wipeF, appW, idxW, eqP, isScal, mixed, peq, dataOf, fK, tell]
  have s : dS (C (n + 8)) (.ifS (.cmp .lt (.f1 .len (.ix (.var 4) (.cst (.int 0)))) (.cst (.int 2))) (.cons (.ret (.cst (.bl true))) .nil) .nil) (fK w1 w2 wide [e0] rs w5 w6 w7 w8 w9 w10 w11 w12 w13 w14 w15) S = .ok (.rt (.p (.bl true)), fK w1 w2 wide [e0] rs w5 w6 w7 w8 w9 w10 w11 w12 w13 w14 w15) S := (ifT f0).trans (seqRt (retS cst_))
  exact ⟨_, seqRt s⟩
theorem fin_ (n : Nat) (wide : Int) (ev : List Nm) (rs : List Row) (cs : List Int) (ht : TellOk ev rs) (hf : rs.length < 60) (hc : CrS ev cs 1000) (S : Store) (w1 w2 w5 w6 w7 w8 w12 w13 w14 w15 : Option W) : ∃ σ' : Fr,
    dSs (C (n + 8)) (((d__law_right.body |> tlS |> tlS |> tlS |> tlS |> tlS |> tlS |> tlS |> tlS) : Sts)) (fK w1 w2 wide ev rs w5 w6 w7 w8 none none (some (.p (crs cs))) w12 w13 w14 w15) S = .ok (.rt (.p (.bl true)), σ') S := by
  have hl := hc.len
  generalize hB : ((d__law_right.body |> tlS |> tlS |> tlS |> tlS |> tlS |> tlS |> tlS |> tlS) : Sts) = B
  cases ev with
  | nil => exact absurd ht.evs.pos (by decide)
  | cons e0 er =>
    cases er with
    | nil => rw [← hB]; exact one_tail n wide e0 rs ht S w1 w2 _ _ _ _ _ _ _ _ _ _ _
    | cons e1 er =>
      cases cs with
      | nil => simp at hl
      | cons c0 cr =>
        cases cr with
        | nil => simp at hl
        | cons c1 cr => rw [← hB]; exact tail_ n wide e0 e1 er rs c0 c1 cr ht hf hc S w1 w2 _ _ _ _ _ _ _ _
theorem right_ (n : Nat) (a b : Int) (h : CupOk a b) (most many wide : Int) (m1 : 0 < most) (m2 : most ≤ 6) (m3 : 0 < many) (m4 : many ≤ 59) (m5 : 0 < wide) (m6 : wide < 1000) : ∃ (a' b' : Int), CupOk a' b' ∧
    C (n + 9) i__law_right [.loc 0, .p (.int most), .p (.int many), .p (.int wide)] [cup a b] = .ok (.p (.bl true)) [cup a' b'] := by
  obtain ⟨ev, rs, a1, b1, ht, hev, hrs, c1, e1⟩ := telling0_ (n + 5) a b h most many wide m1 m2 m3 (by omega) m5 m6
  let w1 : Option W := some (.p (.int most))
  let w2 : Option W := some (.p (.int many))
  have s1 : dS (C (n + 8)) (.asg (.name 4) (.call i__law_telling (.cons (.var 0) (.cons (.var 1) (.cons (.var 2) (.cons (.var 3) .nil)))))) [some (.loc 0), w1, w2, some (.p (.int wide)), none, none, none, none, none, none, none, none, none, none, none, none] [cup a b] = .ok (.nx, fK w1 w2 wide ev rs none none none none none none none none none none none) [cup a1 b1] := by
    refine asg_ (w := .p (tell ev rs)) ?_ rfl
    have hd : dEs (C (n + 8)) (.cons (.var 0) (.cons (.var 1) (.cons (.var 2) (.cons (.var 3) .nil)))) [some (.loc 0), w1, w2, some (.p (.int wide)), none, none, none, none, none, none, none, none, none, none, none, none] [cup a b] = .ok [.loc 0, .p (.int most), .p (.int many), .p (.int wide)] [cup a b] := es_cons (var_ rfl) (es_cons (var_ rfl) (es_cons (var_ rfl) (es_cons (var_ rfl) es_nil)))
    rw [dE, hd]
    show callTrunc [cup a b].length (C (n + 8) i__law_telling _ _) _ = _
    rw [e1]
    rfl
  obtain ⟨cs, a2, b2, c2, hc, e2⟩ := qK7_ (n + 7) a1 b1 c1 wide m5 m6 ev rs ht w1 w2 none none none none none none none none none none none
  obtain ⟨k, a3, b3, c3, k1, k2, e3⟩ := by_ (n + 7) a2 b2 c2 wide ev rs w1 w2 none none none none none none none none none none none
  have hf := ht.evs.few
  have hp := ht.evs.pos
  have hl := hc.len
  have hn : cs ≠ [] := fun z => by rw [z] at hl; simp at hl; omega
  have s2 : dS (C (n + 8)) (.asg (.tup (.cons (.name 11) (.cons (.name 12) .nil))) (.tup (.cons (.f1 .tuple q__law_right_7) (.cons (.bin .sub (.call i__law_roll (.cons (.var 0) (.cons (.cst (.int 2001)) .nil))) (.cst (.int 1000))) .nil)))) (fK w1 w2 wide ev rs none none none none none none none none none none none) [cup a1 b1] = .ok (.nx, fK w1 w2 wide ev rs none none none none none none (some (.p (crs cs))) (some (.p (.int k))) none none none) [cup a3 b3] := by
    have t : dE (C (n + 8)) (.f1 .tuple q__law_right_7) (fK w1 w2 wide ev rs none none none none none none none none none none none) [cup a1 b1] = .ok (.p (crs cs)) [cup a2 b2] := fun_ e2 rfl
    have t2 := tup_ (es_cons t (es_cons e3 es_nil)) (show mkTup [.p (crs cs), .p (.int k)] = some (.p (.tup [crs cs, .int k])) from rfl)
    rw [dS, t2]
    rfl
  have hh := hc.home hn
  have hd : CrS ev (sh k cs) 3000 := ⟨(hc.sh (j := 1000) (k := k) k1 k2).len, fun c h => by have := (hc.sh (j := 1000) (k := k) k1 k2).bnd c h; omega⟩
  have s3 : dS (C (n + 8)) (.asg (.name 5) (.f1 .tuple q__law_right_6)) (fK w1 w2 wide ev rs none none none none none none (some (.p (crs cs))) (some (.p (.int k))) none none none) [cup a3 b3] = .ok (.nx, fK w1 w2 wide ev rs (some (.p (crs (home cs)))) none none none none none (some (.p (crs cs))) (some (.p (.int k))) none none none) [cup a3 b3] := asg_ (homec_ (n + 8) wide ev rs cs hn (by omega) _ w1 w2 none none none none none none _ none none none) rfl
  let σ3 : Fr := fK w1 w2 wide ev rs (some (.p (crs (home cs)))) none none none none none (some (.p (crs cs))) (some (.p (.int k))) none none none
  have a4 : dE (C (n + 8)) (.var 4) σ3 [cup a3 b3] = .ok (.p (tell ev rs)) [cup a3 b3] := var_ rfl
  have a5 : dE (C (n + 8)) (.var 5) σ3 [cup a3 b3] = .ok (.p (crs (home cs))) [cup a3 b3] := var_ rfl
  have a11 : dE (C (n + 8)) (.var 11) σ3 [cup a3 b3] = .ok (.p (crs cs)) [cup a3 b3] := var_ rfl
  have a12 : dE (C (n + 8)) (.var 12) σ3 [cup a3 b3] = .ok (.p (.int k)) [cup a3 b3] := var_ rfl
  have f1 := call_ (es_cons a4 (es_cons a11 (es_cons a12 es_nil))) (shifted_ (n + 1) ev rs cs k ht (hc.ok (by omega)) (by omega) (hd.ok (by omega)) [cup a3 b3])
  have f2 := call_ (es_cons a4 (es_cons a11 es_nil)) (homed_ (n + 1) ev rs cs ht (hc.ok (by omega)) hn (hh.ok (by omega)) [cup a3 b3])
  have t1 := tup_ (es_cons f1 (es_cons f2 es_nil)) (show mkTup [.p (crs (sh k cs)), .p (crs (home cs))] = some (.p (.tup [crs (sh k cs), crs (home cs)])) from rfl)
  have t2 := tup_ (es_cons (addc_ (n + 8) wide ev rs cs k (by omega) [cup a3 b3] w1 w2 (some (.p (crs (home cs)))) none none none none none none none none) (es_cons a5 es_nil)) (show mkTup [.p (crs (sh k cs)), .p (crs (home cs))] = some (.p (.tup [crs (sh k cs), crs (home cs)])) from rfl)
  have ok2 : okS 2 (.tup [crs (sh k cs), crs (home cs)]) = true := by
    have h1 := okS_crs (sh k cs) (by rw [sh_len]; omega) 0
    have h2 := okS_crs (home cs) (by unfold home; rw [sh_len]; omega) 0
    simp [okS, okSs] at h1 h2 ⊢
    exact ⟨h1, h2⟩
  have s4 := (ifF (a := .cons (.ret (.cst (.bl false))) .nil) (b := .nil) (notcall_ (es_cons t1 (es_cons t2 es_nil)) (same_ 2 _ ok2 (n + 5) [cup a3 b3]))).trans nilS
  obtain ⟨v6, s5⟩ := loop_ n wide ev rs cs k ht hc hn ⟨k1, k2⟩ [cup a3 b3] w1 w2 none none none none none none none none
  obtain ⟨js, a4', b4', c4, hj, s6⟩ := nums_ (n + 7) a3 b3 c3 wide ev rs ht.few w1 w2 (some (.p (crs (home cs)))) v6 none none none none (some (.p (crs cs))) (some (.p (.int k))) none none none
  let σ6 : Fr := fK w1 w2 wide ev rs (some (.p (crs (home cs)))) v6 (some (.p (jP js))) none none none (some (.p (crs cs))) (some (.p (.int k))) none none none
  have d1 : dE (C (n + 8)) (.ix (.var 4) (.cst (.int 0))) σ6 [cup a4' b4'] = .ok (.p (.tup (ev.map .str))) [cup a4' b4'] := ix_ (var_ rfl) cst_ rfl
  have d2 : dE (C (n + 8)) q__law_right_1 σ6 [cup a4' b4'] = .ok (.p (.lst ((pick rs js).map Row.p))) [cup a4' b4'] := picks_ ht.few hj rfl fun x => ⟨_, rfl, rfl, rfl⟩
  have s7 : dS (C (n + 8)) (.asg (.name 8) (.tup (.cons (.ix (.var 4) (.cst (.int 0))) (.cons (.f1 .tuple q__law_right_1) .nil)))) σ6 [cup a4' b4'] = .ok (.nx, fK w1 w2 wide ev rs (some (.p (crs (home cs)))) v6 (some (.p (jP js))) (some (.p (tell ev (pick rs js)))) none none (some (.p (crs cs))) (some (.p (.int k))) none none none) [cup a4' b4'] := asg_ (tup_ (es_cons d1 (es_cons (fun_ (p := .tup ((pick rs js).map Row.p)) d2 rfl) es_nil)) rfl) rfl
  have s8 := s8_ n wide ev rs cs js hj ht (hc.ok (by omega)) [cup a4' b4'] w1 w2 (some (.p (crs (home cs)))) v6 none none (some (.p (.int k))) none none none
  refine ⟨a4', b4', c4, ?_⟩
  rw [tab_at (d := d__law_right) rfl _ _ rfl]
  have fin := fin_ n wide ev rs cs ht (by omega) hc [cup a4' b4'] w1 w2 (some (.p (crs (home cs)))) v6 (some (.p (jP js))) (some (.p (tell ev (pick rs js)))) (some (.p (.int k))) none none none
  obtain ⟨σ', fin⟩ := fin
  exact bind_ok ((seqNx s1).trans ((seqNx s2).trans ((seqNx s3).trans ((seqNx s4).trans ((seqNx s5).trans ((seqNx s6).trans ((seqNx s7).trans ((seqNx s8).trans fin))))))))
/-! ### the law -/
def dLb (k : Nat) : Sts := k.repeat tlS d_law.body
def f0 (ns : List Int) : Fr := [some (.scr ns), none, none, none, none, none, none]
def f1 (ns : List Int) (a b : Int) : Fr := [some (.scr ns), some (.loc 0), none, none, none, none, none]
def f2 (ns : List Int) (a b : Int) : Fr := frO (dS (C 39) (hdS (dLb 1)) (f1 ns a b) [cup a b])
theorem m2 (ns : List Int) (a b : Int) : dS (C 39) (hdS (dLb 1)) (f1 ns a b) [cup a b] = .ok (.nx, f2 ns a b) [cup a b] := by kernel_rfl
def f3 (ns : List Int) (a b : Int) : Fr := frO (dS (C 39) (hdS (dLb 2)) (f2 ns a b) [cup a b])
theorem m3 (ns : List Int) (a b : Int) : dS (C 39) (hdS (dLb 2)) (f2 ns a b) [cup a b] = .ok (.nx, f3 ns a b) [cup a b] := by kernel_rfl
def f4 (ns : List Int) (a b : Int) : Fr := frO (dS (C 39) (hdS (dLb 3)) (f3 ns a b) [cup a b])
theorem m4 (ns : List Int) (a b : Int) : dS (C 39) (hdS (dLb 3)) (f3 ns a b) [cup a b] = .ok (.nx, f4 ns a b) [cup a b] := by kernel_rfl
theorem m5 (ns : List Int) (a b : Int) : dS (C 39) (hdS (dLb 4)) (f4 ns a b) [cup a b] = .ok (.nx, f4 ns a b) [cup a b] := by kernel_rfl
def v2 : Option W := ((f4 [] 0 0)[2]?).join
def v3 : Option W := ((f4 [] 0 0)[3]?).join
def fL (ns : List Int) (v4 v5 v6 : Option W) : Fr := [some (.scr ns), some (.loc 0), v2, v3, v4, v5, v6]
theorem f4_ (ns : List Int) (a b : Int) : f4 ns a b = fL ns none none none := by kernel_rfl
theorem seqB_ {cf : CallF} {k : Nat} {σ σ1 : Fr} {S S1 : Store} (e : dLb k = .cons (hdS (dLb k)) (dLb (k + 1))) (h : dS cf (hdS (dLb k)) σ S = .ok (.nx, σ1) S1) : dSs cf (dLb k) σ S = dSs cf (dLb (k + 1)) σ1 S1 := by
  rw [e]
  exact seqNx h
theorem m1_ (ns : List Int) (hl : ns.length ≤ 63) (hb : (dv ns).natAbs.log2 < 1048577) : ∃ a b, CupOk a b ∧ dS (C 39) (hdS (dLb 0)) (f0 ns) [] = .ok (.nx, f1 ns a b) [cup a b] := by
  obtain ⟨a, b, c, e⟩ := cup_ 38 ns hl hb
  refine ⟨a, b, c, ?_⟩
  show dS (C 39) (.asg (.name 1) (.ncall i__law_cup (.cons (.var 0) .nil))) (f0 ns) [] = _
  have hd : dEs (C 39) (.cons (.var 0) .nil) (f0 ns) [] = .ok [.scr ns] [] := es_cons (var_ rfl) es_nil
  have x : dE (C 39) (.ncall i__law_cup (.cons (.var 0) .nil)) (f0 ns) [] = .ok (.loc 0) [cup a b] := by
    rw [dE, hd]
    show callTrunc 0 (C 39 i__law_cup [.scr ns] []) _ = _
    rw [e]
    rfl
  exact asg_ x rfl
def okT (p : P) : Prop := ∃ most many wide : Int, p = .tup [.int most, .int many, .int wide] ∧ 0 < most ∧ most ≤ 6 ∧ 0 < many ∧ many ≤ 59 ∧ 0 < wide ∧ wide < 1000
theorem rL_ (ns : List Int) (a b : Int) (h : CupOk a b) : ∃ (v5 v6 v7 : Option W) (a' b' : Int), CupOk a' b' ∧ dS (C 39) r_law_1 (fL ns none none none) [cup a b] = .ok (.nx, fL ns v5 v6 v7) [cup a' b'] := by
  obtain ⟨σ', S', ⟨a2, b2, v5, v6, v7, c2, -, rfl, rfl⟩, e2⟩ := for_inv_vals (t := .tup (.cons (.name 4) (.cons (.name 5) (.cons (.name 6) .nil)))) (body := fun σ1 S2 => dSs (C 39) b_law_0 σ1 S2) (fun ys σ S => ∃ (a' b' : Int) (v5 v6 v7 : Option W), CupOk a' b' ∧ (∀ y ∈ ys, okT y) ∧ σ = fL ns v5 v6 v7 ∧ S = [cup a' b'])
    (by
      rintro x xs σ S ⟨a', b', v5, v6, v7, c, hy, rfl, rfl⟩
      obtain ⟨most, many, wide, rfl, o1, o2, o3, o4, o5, o6⟩ := hy x List.mem_cons_self
      obtain ⟨a3, b3, c3, e3⟩ := right_ 30 a' b' c most many wide o1 o2 o3 o4 o5 o6
      refine ⟨fL ns (some (.p (.int most))) (some (.p (.int many))) (some (.p (.int wide))), rfl, fL ns (some (.p (.int most))) (some (.p (.int many))) (some (.p (.int wide))), [cup a3 b3], ?_, a3, b3, _, _, _, c3, fun y hy2 => hy y (List.mem_cons_of_mem _ hy2), rfl, rfl⟩
      have hd : dEs (C 39) (.cons (.var 1) (.cons (.var 4) (.cons (.var 5) (.cons (.var 6) .nil)))) (fL ns (some (.p (.int most))) (some (.p (.int many))) (some (.p (.int wide)))) [cup a' b'] = .ok [.loc 0, .p (.int most), .p (.int many), .p (.int wide)] [cup a' b'] := es_cons (var_ rfl) (es_cons (var_ rfl) (es_cons (var_ rfl) (es_cons (var_ rfl) es_nil)))
      have t : dT (C 39) (.not (.call i__law_right (.cons (.var 1) (.cons (.var 4) (.cons (.var 5) (.cons (.var 6) .nil)))))) (fL ns (some (.p (.int most))) (some (.p (.int many))) (some (.p (.int wide)))) [cup a' b'] = .ok false [cup a3 b3] := by
        have t1 : dT (C 39) (.call i__law_right (.cons (.var 1) (.cons (.var 4) (.cons (.var 5) (.cons (.var 6) .nil))))) (fL ns (some (.p (.int most))) (some (.p (.int many))) (some (.p (.int wide)))) [cup a' b'] = .ok true [cup a3 b3] := by
          rw [dT, hd]
          show (callTrunc 1 (C 39 i__law_right _ _) _).bind _ = _
          rw [e3]
          rfl
        rw [dT, t1]
        rfl
      exact (seqNx ((ifF t).trans nilS)).trans nilS)
    [.tup [.int 1, .int 3, .int 5], .tup [.int 3, .int 4, .int 6], .tup [.int 6, .int 9, .int 20], .tup [.int 6, .int 20, .int 500]] bigN (fL ns none none none) [cup a b] (by decide) ⟨a, b, none, none, none, h, by
      intro y hy
      simp only [List.mem_cons, List.not_mem_nil, or_false] at hy
      rcases hy with e | e | e | e
      · exact ⟨1, 3, 5, e, by decide, by decide, by decide, by decide, by decide, by decide⟩
      · exact ⟨3, 4, 6, e, by decide, by decide, by decide, by decide, by decide, by decide⟩
      · exact ⟨6, 9, 20, e, by decide, by decide, by decide, by decide, by decide, by decide⟩
      · exact ⟨6, 20, 500, e, by decide, by decide, by decide, by decide, by decide, by decide⟩, rfl, rfl⟩
  refine ⟨v5, v6, v7, a2, b2, c2, ?_⟩
  unfold r_law_1
  have hi : dI (C 39) (.of (.tup (.cons (.tup (.cons (.cst (.int 1)) (.cons (.cst (.int 3)) (.cons (.cst (.int 5)) .nil)))) (.cons (.tup (.cons (.cst (.int 3)) (.cons (.cst (.int 4)) (.cons (.cst (.int 6)) .nil)))) (.cons (.tup (.cons (.cst (.int 6)) (.cons (.cst (.int 9)) (.cons (.cst (.int 20)) .nil)))) (.cons (.tup (.cons (.cst (.int 6)) (.cons (.cst (.int 20)) (.cons (.cst (.int 500)) .nil)))) .nil)))))) (fL ns none none none) [cup a b] = .ok (.vals [.tup [.int 1, .int 3, .int 5], .tup [.int 3, .int 4, .int 6], .tup [.int 6, .int 9, .int 20], .tup [.int 6, .int 20, .int 500]]) [cup a b] := by
    kernel_rfl
  rw [dS, hi]
  exact e2
theorem log_of {z : Int} (h : Builtin.Int.intBits z ≤ 1048576) : z.natAbs.log2 < 1048577 := by
  unfold Builtin.Int.intBits at h
  split at h
  · rename_i e
    have : z = 0 := by simpa using e
    rw [this]
    decide
  · omega
theorem law_ok : ∀ ns : List Int, ns.length ≤ 63 → (∀ z ∈ ns, Builtin.Int.intBits z ≤ 1048576) → ∃ S, callN (ds.map (·.d)) 40 i_law [.scr ns] [] = .ok (.p (.bl true)) S := by
  intro ns hl hz
  have hb : (dv ns).natAbs.log2 < 1048577 := by
    cases ns with
    | nil => decide
    | cons z r =>
      have k := log_of (hz z List.mem_cons_self)
      show (if z < 0 then -z else z).natAbs.log2 < 1048577
      by_cases q : z < 0
      · rw [if_pos q, Int.natAbs_neg]; exact k
      · rw [if_neg q]; exact k
  obtain ⟨a, b, c, e1⟩ := m1_ ns hl hb
  obtain ⟨v5, v6, v7, a2, b2, c2, e6⟩ := rL_ ns a b c
  refine ⟨[cup a2 b2], ?_⟩
  have t : dSs (C 39) (dLb 6) (fL ns v5 v6 v7) [cup a2 b2] = .ok (.rt (.p (.bl true)), fL ns v5 v6 v7) [cup a2 b2] := seqRt (retS cst_)
  have k6 := (seqB_ (k := 5) rfl e6).trans t
  have k5 := (seqB_ (k := 4) rfl (m5 ns a b)).trans ((congrArg (fun σ => dSs (C 39) (dLb 5) σ [cup a b]) (f4_ ns a b)).trans k6)
  have k1 := (seqB_ (k := 0) rfl e1).trans ((seqB_ (k := 1) rfl (m2 ns a b)).trans ((seqB_ (k := 2) rfl (m3 ns a b)).trans ((seqB_ (k := 3) rfl (m4 ns a b)).trans k5)))
  show C (39 + 1) i_law _ _ = _
  rw [tab_at (d := d_law) rfl _ _ rfl]
  exact bind_ok k1

theorem ck_ok : ds.all (defB g) = true := by decide +kernel
theorem bind_ok : AllBind ds := .cons (fun _ _ _ _ _ _ us hl => match us, hl with | [_, _, _], _ => rfl) (.cons (fun _ _ _ _ _ _ us hl => match us, hl with | [_, _, _], _ => rfl) (.cons (fun _ _ _ _ _ _ us hl => match us, hl with | [_], _ => rfl) (.cons (fun _ _ _ _ _ _ us hl => match us, hl with | [_], _ => rfl) (.cons (fun _ _ _ _ _ _ us hl => match us, hl with | [_], _ => rfl) (.cons (fun _ _ _ _ _ _ us hl => match us, hl with | [_, _], _ => rfl) (.cons (fun _ _ _ _ _ _ us hl => match us, hl with | [_], _ => rfl) (.cons (fun _ _ _ _ _ _ us hl => match us, hl with | [_], _ => rfl) (.cons (fun _ _ _ _ _ _ us hl => match us, hl with | [_], _ => rfl) (.cons (fun _ _ _ _ _ _ us hl => match us, hl with | [_, _], _ => rfl) (.cons (fun _ _ _ _ _ _ us hl => match us, hl with | [_, _], _ => rfl) (.cons (fun _ _ _ _ _ _ us hl => match us, hl with | [_, _, _, _], _ => rfl) (.cons (fun _ _ _ _ _ _ us hl => match us, hl with | [_, _, _], _ => rfl) (.cons (fun _ _ _ _ _ _ us hl => match us, hl with | [_, _], _ => rfl) (.cons (fun _ _ _ _ _ _ us hl => match us, hl with | [_], _ => rfl) (.cons (fun _ _ _ _ _ _ us hl => match us, hl with | [_, _], _ => rfl) (.cons (fun _ _ _ _ _ _ us hl => match us, hl with | [_, _], _ => rfl) (.cons (fun _ _ _ _ _ _ us hl => match us, hl with | [_, _, _], _ => rfl) (.cons (fun _ _ _ _ _ _ us hl => match us, hl with | [_, _], _ => rfl) (.cons (fun _ _ _ _ _ _ us hl => match us, hl with | [_, _], _ => rfl) (.cons (fun _ _ _ _ _ _ us hl => match us, hl with | [_, _], _ => rfl) (.cons (fun _ _ _ _ _ _ us hl => match us, hl with | [_, _], _ => rfl) (.cons (fun _ _ _ _ _ _ us hl => match us, hl with | [_], _ => rfl) (.cons (fun _ _ _ _ _ _ us hl => match us, hl with | [_, _], _ => rfl) (.cons (fun _ _ _ _ _ _ us hl => match us, hl with | [_, _], _ => rfl) (.cons (fun _ _ _ _ _ _ us hl => match us, hl with | [_, _], _ => rfl) (.cons (fun _ _ _ _ _ _ us hl => match us, hl with | [_, _, _, _], _ => rfl) (.cons (fun _ _ _ _ _ _ us hl => match us, hl with | [_, _, _, _], _ => rfl) (.cons (fun _ _ _ _ _ _ us hl => match us, hl with | [_], _ => rfl) .nil))))))))))))))))))))))))))))
end K01
open PySem PySem.W PyProof.Rows in
set_option maxRecDepth 100000 in
set_option maxHeartbeats 0 in
theorem PySem.Challenge.cw_timestold_k01_whole_tellings_and_courses_holds : PySem.Challenge.rw_timestold_k01_whole_tellings_and_courses.Holds := by
  w_on; o_law; k_head; (case hw => w_witness2)
  k_fill
  refine Tp.walk_tp (l := PySem.Challenge.rw_timestold_k01_whole_tellings_and_courses) (k := 40) (i := 28) (ds := K01.ds) (g := K01.g) rfl (by decide) rfl ⟨rfl, by decide, by decide⟩ (fun w h Y => PySem.W.kIn_of Y) rfl rfl rfl ?F K01.law_ok
  case F =>
    intro w mg h KX G hX
    refine' ⟨_, _, Tp.mod_mk KX G rfl ?tpb ?tpf K01.bind_ok ?tpc ?tpg K01.ck_ok⟩
    case tpb =>
      refine' .cons ?tn0 (.cons ?tn1 (.cons ?tn2 (.cons ?tn3 (.cons ?tn4 (.cons ?tn5 (.cons ?tn6 (.cons ?tn7 (.cons ?tn8 (.cons ?tn9 (.cons ?tn10 (.cons ?tn11 (.cons ?tn12 (.cons ?tn13 (.cons ?tn14 (.cons ?tn15 (.cons ?tn16 (.cons ?tn17 (.cons ?tn18 (.nil)))))))))))))))))))
      (case tn0 => k_is)
      (case tn1 => k_is)
      (case tn2 => k_is)
      (case tn3 => k_is)
      (case tn4 => k_is)
      (case tn5 => k_is)
      (case tn6 => k_is)
      (case tn7 => k_is)
      (case tn8 => k_is)
      (case tn9 => k_is)
      (case tn10 => k_is)
      (case tn11 => k_is)
      (case tn12 => k_is)
      (case tn13 => k_is)
      (case tn14 => k_is)
      (case tn15 => k_is)
      (case tn16 => k_is)
      (case tn17 => k_is)
      (case tn18 => k_is)
    case tpf =>
      refine' .cons (Tp.fn_fact ?a0 ?l0 ?c0 ?k0) (.cons (Tp.fn_fact ?a1 ?l1 ?c1 ?k1) (.cons (Tp.fn_fact ?a2 ?l2 ?c2 ?k2) (.cons (Tp.fn_fact ?a3 ?l3 ?c3 ?k3) (.cons (Tp.fn_fact ?a4 ?l4 ?c4 ?k4) (.cons (Tp.fn_fact ?a5 ?l5 ?c5 ?k5) (.cons (Tp.fn_fact ?a6 ?l6 ?c6 ?k6) (.cons (Tp.fn_fact ?a7 ?l7 ?c7 ?k7) (.cons (Tp.fn_fact ?a8 ?l8 ?c8 ?k8) (.cons (Tp.fn_fact ?a9 ?l9 ?c9 ?k9) (.cons (Tp.fn_fact ?a10 ?l10 ?c10 ?k10) (.cons (Tp.fn_fact ?a11 ?l11 ?c11 ?k11) (.cons (Tp.fn_fact ?a12 ?l12 ?c12 ?k12) (.cons (Tp.fn_fact ?a13 ?l13 ?c13 ?k13) (.cons (Tp.fn_fact ?a14 ?l14 ?c14 ?k14) (.cons (Tp.fn_fact ?a15 ?l15 ?c15 ?k15) (.cons (Tp.fn_fact ?a16 ?l16 ?c16 ?k16) (.cons (Tp.fn_fact ?a17 ?l17 ?c17 ?k17) (.cons (Tp.fn_fact ?a18 ?l18 ?c18 ?k18) (.cons (Tp.fn_fact ?a19 ?l19 ?c19 ?k19) (.cons (Tp.fn_fact ?a20 ?l20 ?c20 ?k20) (.cons (Tp.fn_fact ?a21 ?l21 ?c21 ?k21) (.cons (Tp.fn_fact ?a22 ?l22 ?c22 ?k22) (.cons (Tp.fn_fact ?a23 ?l23 ?c23 ?k23) (.cons (Tp.fn_fact ?a24 ?l24 ?c24 ?k24) (.cons (Tp.fn_fact ?a25 ?l25 ?c25 ?k25) (.cons (Tp.fn_fact ?a26 ?l26 ?c26 ?k26) (.cons (Tp.fn_fact ?a27 ?l27 ?c27 ?k27) (.cons (Tp.fn_fact ?a28 ?l28 ?c28 ?k28) (.nil)))))))))))))))))))))))))))))
      (case a0 => k_is)
      (case l0 => k_is)
      (case c0 => k_is)
      (case k0 => k_is)
      (case a1 => k_is)
      (case l1 => k_is)
      (case c1 => k_is)
      (case k1 => k_is)
      (case a2 => k_is)
      (case l2 => k_is)
      (case c2 => k_is)
      (case k2 => k_is)
      (case a3 => k_is)
      (case l3 => k_is)
      (case c3 => k_is)
      (case k3 => k_is)
      (case a4 => k_is)
      (case l4 => k_is)
      (case c4 => k_is)
      (case k4 => k_is)
      (case a5 => k_is)
      (case l5 => k_is)
      (case c5 => k_is)
      (case k5 => k_is)
      (case a6 => k_is)
      (case l6 => k_is)
      (case c6 => k_is)
      (case k6 => k_is)
      (case a7 => k_is)
      (case l7 => k_is)
      (case c7 => k_is)
      (case k7 => k_is)
      (case a8 => k_is)
      (case l8 => k_is)
      (case c8 => k_is)
      (case k8 => k_is)
      (case a9 => k_is)
      (case l9 => k_is)
      (case c9 => k_is)
      (case k9 => k_is)
      (case a10 => k_is)
      (case l10 => k_is)
      (case c10 => k_is)
      (case k10 => k_is)
      (case a11 => k_is)
      (case l11 => k_is)
      (case c11 => k_is)
      (case k11 => k_is)
      (case a12 => k_is)
      (case l12 => k_is)
      (case c12 => k_is)
      (case k12 => k_is)
      (case a13 => k_is)
      (case l13 => k_is)
      (case c13 => k_is)
      (case k13 => k_is)
      (case a14 => k_is)
      (case l14 => k_is)
      (case c14 => k_is)
      (case k14 => k_is)
      (case a15 => k_is)
      (case l15 => k_is)
      (case c15 => k_is)
      (case k15 => k_is)
      (case a16 => k_is)
      (case l16 => k_is)
      (case c16 => k_is)
      (case k16 => k_is)
      (case a17 => k_is)
      (case l17 => k_is)
      (case c17 => k_is)
      (case k17 => k_is)
      (case a18 => k_is)
      (case l18 => k_is)
      (case c18 => k_is)
      (case k18 => k_is)
      (case a19 => k_is)
      (case l19 => k_is)
      (case c19 => k_is)
      (case k19 => k_is)
      (case a20 => k_is)
      (case l20 => k_is)
      (case c20 => k_is)
      (case k20 => k_is)
      (case a21 => k_is)
      (case l21 => k_is)
      (case c21 => k_is)
      (case k21 => k_is)
      (case a22 => k_is)
      (case l22 => k_is)
      (case c22 => k_is)
      (case k22 => k_is)
      (case a23 => k_is)
      (case l23 => k_is)
      (case c23 => k_is)
      (case k23 => k_is)
      (case a24 => k_is)
      (case l24 => k_is)
      (case c24 => k_is)
      (case k24 => k_is)
      (case a25 => k_is)
      (case l25 => k_is)
      (case c25 => k_is)
      (case k25 => k_is)
      (case a26 => k_is)
      (case l26 => k_is)
      (case c26 => k_is)
      (case k26 => k_is)
      (case a27 => k_is)
      (case l27 => k_is)
      (case c27 => k_is)
      (case k27 => k_is)
      (case a28 => k_is)
      (case l28 => k_is)
      (case c28 => k_is)
      (case k28 => k_is)
    case tpc =>
      refine' .cons (Tp.cls_fact PySem.F.excBase_ValueError ?ca0 ?cb0 ?cc0 ?cd0 ?ce0) (.cons (Tp.cls_fact PySem.F.excBase_ValueError ?ca1 ?cb1 ?cc1 ?cd1 ?ce1) (.cons (Tp.cls_fact PySem.F.excBase_ValueError ?ca2 ?cb2 ?cc2 ?cd2 ?ce2) (.cons (Tp.cls_fact PySem.F.excBase_ValueError ?ca3 ?cb3 ?cc3 ?cd3 ?ce3) (.nil))))
      (case ca0 => k_is)
      (case cb0 => k_exc)
      (case cc0 => k_is)
      (case cd0 => k_is)
      (case ce0 => k_is)
      (case ca1 => k_is)
      (case cb1 => k_exc)
      (case cc1 => k_is)
      (case cd1 => k_is)
      (case ce1 => k_is)
      (case ca2 => k_is)
      (case cb2 => k_exc)
      (case cc2 => k_is)
      (case cd2 => k_is)
      (case ce2 => k_is)
      (case ca3 => k_is)
      (case cb3 => k_exc)
      (case cc3 => k_is)
      (case cd3 => k_is)
      (case ce3 => k_is)
    case tpg =>
      refine' .cons (Tp.gl_str KX G ?tpg0 ?tpe0) (.cons (Tp.gl_looseS hX ?tpg1) (.cons (Tp.gl_int KX G ?tpg2) (.cons (Tp.gl_int KX G ?tpg3) (.cons (Tp.gl_int KX G ?tpg4) (.cons (Tp.gl_looseI hX ?tpg5) (.cons (Tp.gl_looseI hX ?tpg6) (.nil)))))))
      (case tpg0 => k_is)
      (case tpe0 => first | rfl | decide +kernel)
      (case tpg1 => first | exact List.mem_cons_self | decide +kernel | simp)
      (case tpg2 => k_is)
      (case tpg3 => k_is)
      (case tpg4 => k_is)
      (case tpg5 => first | exact List.mem_cons_self | decide +kernel | simp)
      (case tpg6 => first | exact List.mem_cons_self | decide +kernel | simp)

