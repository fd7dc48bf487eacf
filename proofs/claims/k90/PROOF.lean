import PyProof.Rows.All
import PySem.Str
import Wide.All
import OpenK.AllK
import Wide.FinOn
import HandS.Base
import HandS.Call
import HandS.List
import HandS.Comp
import HandS.Dict
import HandS.Iter
import HandS.Walk
import HandS.Conv
import HandS.Flow
import HandS.Words
import HandS.TupMul
import HandS.TupAny
import HandS.Style
import HandS.TupLe
import HandS.IsInst
import HandS.Deep
import PyProof.Rows.BitMore
import KE.BitLaws
import KE.SortData
import KE.DataMinMax
import HandS.SetFor
import HandS.TupSets
import HandS.SortOrd
import HandS.SortInts
import HandS.Strs
import KE.KTupSum
import HandS.TryOnly
import HandS.Zip
import HandS.Small
import HandS.Defaults
import KE.KStateDown
import HandS.Head0
import HandS.Head1
import HandS.Head2
import HandS.HeadEnd
import HandS.HeadHook1
import HandS.HeadHook2
import PySem.Challenge.RW_faultworks_k90_whole_standby
set_option Elab.async false
set_option linter.all false
set_option maxRecDepth 100000
set_option maxHeartbeats 0
/-! FW: a small pure language with its meaning. Values, store, code, evaluation. -/
namespace FW
open PySem (Str)

/-- a pure value -/
inductive PV where
  | non | bl (b : Bool) | int (i : Int) | str (s : Str) | tup (xs : List PV) | lst (xs : List PV) | fn (n : Str)
  deriving Inhabited
/-- what stands at a place of the store -/
inductive Ob where
  | lst (xs : List PV) | dic (kvs : List (PV × PV)) | gone
  deriving Inhabited
/-- a value of a name: pure, or a place of the store -/
inductive SV where
  | v (x : PV) | l (n : Nat)
  deriving Inhabited
abbrev Store := List Ob
abbrev Slots := List (Option SV)
inductive Out (α : Type) where
  | ok (a : α) (S : Store) | exc (c : Str) (as : List PV) (S : Store) | bad
  deriving Inhabited
def Out.bind {α β : Type} : Out α → (α → Store → Out β) → Out β
  | .ok a S, f => f a S
  | .exc c as S, _ => .exc c as S
  | .bad, _ => .bad
@[simp] theorem Out.bind_ok {α β : Type} (a : α) (S : Store) (f : α → Store → Out β) : (Out.ok a S).bind f = f a S := rfl
@[simp] theorem Out.bind_exc {α β : Type} (c : Str) (as : List PV) (S : Store) (f : α → Store → Out β) : (Out.exc c as S).bind f = .exc c as S := rfl
@[simp] theorem Out.bind_bad {α β : Type} (f : α → Store → Out β) : (Out.bad).bind f = .bad := rfl
abbrev Fn := List SV → Store → Out SV

/-! ### equality and order, as Python tells them -/
mutual
/-- x == y -/
def eqv : PV → PV → Bool
  | .non, .non => true
  | .bl a, .bl b => a == b
  | .bl a, .int j => decide ((if a = true then 1 else 0) = j)
  | .int i, .bl b => decide (i = (if b = true then 1 else 0))
  | .int i, .int j => decide (i = j)
  | .str a, .str b => decide (a = b)
  | .tup xs, .tup ys => eqvs xs ys
  | .lst xs, .lst ys => eqvs xs ys
  | .fn _, .fn _ => true
  | .fn _, .non => true
  | .non, .fn _ => true
  | _, _ => false
def eqvs : List PV → List PV → Bool
  | [], [] => true
  | x :: xs, y :: ys => eqv x y && eqvs xs ys
  | _, _ => false
end
mutual
/-- not deeper than n -/
def dpLe : Nat → PV → Bool
  | _, .non => true
  | _, .bl _ => true
  | _, .int _ => true
  | _, .str _ => true
  | _, .fn _ => true
  | 0, .tup _ => false
  | 0, .lst _ => false
  | n + 1, .tup xs => dpLes n xs
  | n + 1, .lst xs => dpLes n xs
def dpLes : Nat → List PV → Bool
  | _, [] => true
  | n, x :: xs => dpLe n x && dpLes n xs
end
mutual
/-- no def within -/
def noFn : PV → Bool
  | .fn _ => false
  | .tup xs => noFns xs
  | .lst xs => noFns xs
  | _ => true
def noFns : List PV → Bool
  | [] => true
  | x :: xs => noFn x && noFns xs
end
def eqD : Nat := 24
/-- x == y, where one of both is not too deep -/
def eqP (x y : PV) : Option Bool := if (noFn x && noFn y && (dpLe eqD x || dpLe eqD y)) = true then some (eqv x y) else none
mutual
/-- x < y; none: not told here -/
def ltP : PV → PV → Option Bool
  | .int i, .int j => some (decide (i < j))
  | .str a, .str b => some (decide (a.cps.toList < b.cps.toList))
  | .tup xs, .tup ys => ltPs xs ys
  | _, _ => none
def ltPs : List PV → List PV → Option Bool
  | [], [] => some false
  | [], _ :: _ => some true
  | _ :: _, [] => some false
  | x :: xs, y :: ys => if eqv x y = true then ltPs xs ys else match ltP x y, ltPs xs ys with
    | some b, some _ => some b
    | _, _ => none
end
mutual
/-- the two can be compared, place by place -/
def alikeP : PV → PV → Bool
  | .non, .non => true
  | .bl _, .bl _ => true
  | .int _, .int _ => true
  | .str _, .str _ => true
  | .lst xs, .lst ys => alikePs xs ys
  | .tup xs, .tup ys => alikePs xs ys
  | _, _ => false
def alikePs : List PV → List PV → Bool
  | x :: xs, y :: ys => alikeP x y && alikePs xs ys
  | [], _ => true
  | _ :: _, [] => true
end
mutual
/-- x < y, for values that are alike -/
def ltK : PV → PV → Bool
  | .bl a, .bl b => !a && b
  | .int i, .int j => decide (i < j)
  | .str a, .str b => decide (a.cps.toList < b.cps.toList)
  | .lst xs, .lst ys => ltKs xs ys
  | .tup xs, .tup ys => ltKs xs ys
  | _, _ => false
def ltKs : List PV → List PV → Bool
  | [], [] => false
  | [], _ :: _ => true
  | _ :: _, [] => false
  | x :: xs, y :: ys => if eqv x y = true then ltKs xs ys else ltK x y
end
def isNT : PV → Bool
  | .tup (_ :: _) => true
  | _ => false
def isOne : PV → Bool
  | .bl _ => true
  | .int _ => true
  | .str _ => true
  | .lst _ => true
  | _ => false
def allAlike (xs : List PV) : Bool := xs.all fun x => xs.all fun y => alikeP x y
/-- what is sorted here -/
def sortOk (xs : List PV) : Bool := noFns xs && (decide (xs.length < 2) || (allAlike xs && (xs.all isNT || xs.all isOne) && dpLes eqD xs))
def insB (le : PV → PV → Bool) (x : PV) : List PV → List PV
  | [] => [x]
  | y :: r => if le x y = true then x :: y :: r else y :: insB le x r
/-- sorted, stable -/
def sortB (le : PV → PV → Bool) : List PV → List PV
  | [] => []
  | x :: r => insB le x (sortB le r)
def leK (x y : PV) : Bool := !ltK y x
def isortK (xs : List PV) : List PV := sortB leK xs
def isSome1 : PV → Bool
  | .non => false
  | .fn _ => false
  | _ => true
/-- of these the least is told here -/
def minOk (xs : List PV) : Bool := noFns xs && allAlike xs && dpLes eqD xs && xs.all isSome1
def allInt : List PV → Bool
  | [] => true
  | .int _ :: r => allInt r
  | _ => false
def allIntT : List PV → Bool
  | [] => true
  | .tup xs :: r => allInt xs && allIntT r
  | _ => false
/-- what is made a set of here -/
def setOk (xs : List PV) : Bool := decide (xs.length < 64) && (allInt xs || (allIntT xs && sortOk xs))

/-! ### code -/
inductive BOp where
  | add | sub | mul | fdiv | mod | shl | shr | band | bor | bxor | pow
  deriving DecidableEq
inductive COp where
  | eq | ne | lt | le | gt | ge | is | isnot | isin | notin
  deriving DecidableEq
/-- built-ins of one, two .. arguments -/
inductive BI where
  | len | int | abs | sum | min1 | max1 | min2 | max2 | tuple | list | sorted | sortedSet | lenSet | listRange1 | listRange2 | tupleRange1 | tupleRange2 | sortedRange | str
  deriving DecidableEq
inductive Ty where
  | int | bool | tuple | list | str | dict
  deriving DecidableEq

mutual
inductive CE where
  | var (i : Nat)
  | k (x : PV)
  | glob (n : Str) (x : PV)
  | tup (es : CL)
  | list (m : Bool) (es : CL)
  | bin (o : BOp) (m : Bool) (a b : CE)
  | neg (a : CE)
  | nt (a : CE)
  | and (es : CL)
  | or (es : CL)
  | cmp (o : COp) (a b : CE)
  | chain (o o' : COp) (a b c : CE)
  | ite (c a b : CE)
  | call (i : Nat) (es : CL)
  | fnv (n : Str)
  | callv (e : CE) (es : CL)
  | index (a x : CE)
  | indexG (n : Str) (xs : List PV) (x : CE)
  | bi (b : BI) (m : Bool) (es : CL)
  | isi (ts : List Ty) (e : CE)
  | idx (a i : CE)
  | slc (m : Bool) (a : CE) (lo hi : CE)
  | comp (m : Bool) (own : List Nat) (tg : CG) (it : CI) (cond : CE) (elt : CE)
  | comp2 (m : Bool) (own own2 : List Nat) (tg : CG) (it : CI) (c1 : CE) (tg2 : CG) (it2 : CI) (cond : CE) (elt : CE)
  | dic0
  | get (d k x : CE)
inductive CL where
  | nil | cons (e : CE) (es : CL)
inductive CG where
  | name (i : Nat) | tup (gs : CGs)
inductive CGs where
  | nil | cons (g : CG) (gs : CGs)
/-- what is walked -/
inductive CI where
  | seq (e : CE) | rng1 (a : CE) | rng2 (a b : CE) | rng3 (a b c : CE) | zip2 (a b : CE) | enum (a : CE)
  | keys (d : CE) | items (d : CE) | values (d : CE)
end
mutual
inductive CS where
  | set (i : Nat) (e : CE)
  | unpack (gs : CGs) (e : CE)
  | par (is : List Nat) (es : CL)
  | sub (i : Nat) (a e : CE)
  | aug (i : Nat) (o : BOp) (e : CE)
  | augsub (i : Nat) (a : CE) (o : BOp) (e : CE)
  | app (i : Nat) (e : CE)
  | expr (e : CE)
  | ifs (c : CE) (a b : CB)
  | forr (tg : CG) (it : CI) (body : CB) (wipe : List Nat)
  | whil (c : CE) (body : CB) (wipe : List Nat)
  | ret (e : CE)
  | retN
  | brk
  | cnt
  | raise (c : Str) (es : CL)
  | freeze (i : Nat)
inductive CB where
  | nil | cons (s : CS) (r : CB)
end

/-! ### small meanings -/
/-- the items of a list or tuple; true: a list -/
def seqOf (S : Store) : SV → Option (Bool × List PV)
  | .v (.tup xs) => some (false, xs)
  | .v (.lst xs) => some (true, xs)
  | .l n => match S[n]? with
    | some (.lst xs) => some (true, xs)
    | _ => none
  | _ => none
def dicOf (S : Store) : SV → Option (List (PV × PV))
  | .l n => match S[n]? with
    | some (.dic kvs) => some kvs
    | _ => none
  | _ => none
def truth (S : Store) : SV → Option Bool
  | .v .non => some false
  | .v (.bl b) => some b
  | .v (.int i) => some (i != 0)
  | .v (.str _) => none
  | .v (.fn _) => none
  | .v (.tup xs) => some (!xs.isEmpty)
  | .v (.lst xs) => some (!xs.isEmpty)
  | .l n => match S[n]? with
    | some (.lst xs) => some (!xs.isEmpty)
    | _ => none
def line : Nat := 16777216
/-- a new list: at a new place, or never to be changed -/
@[simp] def mkL (m : Bool) (xs : List PV) (S : Store) : Out SV :=
  if xs.length ≤ line then (if m then .ok (.l S.length) (S ++ [.lst xs]) else .ok (.v (.lst xs)) S) else .bad
@[simp] def mkT (xs : List PV) (S : Store) : Out SV := if xs.length ≤ line then .ok (.v (.tup xs)) S else .bad
def mulOk (i j : Int) : Bool := decide (i.natAbs.log2 + j.natAbs.log2 < 100000000)
def divOk (i j : Int) : Bool := decide (j ≠ 0) && (decide (j.natAbs.log2 < 9000) || decide (i.natAbs.log2 < 13000))
@[simp] def asInt : PV → Option Int
  | .int i => some i
  | .bl b => some (if b then 1 else 0)
  | _ => none
def rep (n : Nat) (xs : List PV) : List PV := (List.replicate n xs).flatten
@[simp] def intOp (o : BOp) (i j : Int) : Option Int := match o with
  | .add => some (i + j)
  | .sub => some (i - j)
  | .mul => if mulOk i j then some (i * j) else none
  | .fdiv => if divOk i j = true then some (i.fdiv j) else none
  | .mod => if j = 0 then none else some (i.fmod j)
  | .shl => if 0 ≤ j ∧ j ≤ 1000000 ∧ i.natAbs < 2 ^ 64 then some (i * 2 ^ j.toNat) else none
  | .shr => if 0 ≤ j then some (i / 2 ^ j.toNat) else none
  | .band => if 0 ≤ i ∧ 0 ≤ j then some (Int.ofNat (i.toNat &&& j.toNat)) else none
  | .bor => if 0 ≤ i ∧ 0 ≤ j then some (Int.ofNat (i.toNat ||| j.toNat)) else none
  | .bxor => if 0 ≤ i ∧ 0 ≤ j then some (Int.ofNat (i.toNat ^^^ j.toNat)) else none
  | .pow => if 0 ≤ j ∧ j ≤ 1000000 ∧ i.natAbs < 2 ^ 64 then some (i ^ j.toNat) else none
@[simp] def binOp (o : BOp) (m : Bool) (x y : SV) (S : Store) : Out SV :=
  match x, y with
  | .v (.int i), .v (.int j) => match intOp o i j with
    | some k => .ok (.v (.int k)) S
    | none => .bad
  | .v (.str a), .v (.str b) => match o with
    | .add => if a.length + b.length ≤ line ∧ (a ++ b).cps.all (· < 0x110000) = true then .ok (.v (.str (a ++ b))) S else .bad
    | _ => .bad
  | .v (.int i), .v (.bl b) => match o with
    | .add => .ok (.v (.int (i + (if b then 1 else 0)))) S
    | _ => .bad
  | x, .v (.int j) => match o, seqOf S x with
    | .mul, some (true, xs) => if xs.length * j.toNat ≤ line ∧ -1000000 ≤ j ∧ j ≤ 1000000 then mkL m (rep j.toNat xs) S else .bad
    | .mul, some (false, xs) => if -1000 ≤ j ∧ j ≤ 1000 ∧ xs.length ≤ 1000 then mkT (rep j.toNat xs) S else .bad
    | _, _ => .bad
  | x, y => match o, seqOf S x, seqOf S y with
    | .add, some (true, xs), some (true, ys) => mkL m (xs ++ ys) S
    | .add, some (false, xs), some (false, ys) => mkT (xs ++ ys) S
    | _, _, _ => .bad
/-- a value as a pure one, for comparisons: a place is read -/
def pure? (S : Store) : SV → Option PV
  | .v x => some x
  | .l n => match S[n]? with
    | some (.lst xs) => some (.lst xs)
    | _ => none
def anyEq (x : PV) (ys : List PV) : Option Bool := if (noFn x && noFns ys && (dpLe eqD x || dpLes eqD ys)) = true then some (ys.any fun y => eqv y x) else none
def keyOk : PV → Bool
  | .int _ => true
  | .str _ => true
  | _ => false
def keyEq : PV → PV → Bool
  | .int i, .int j => decide (i = j)
  | .str a, .str b => decide (a = b)
  | _, _ => false
def keyGet (k : PV) (kvs : List (PV × PV)) : Option PV := (kvs.find? fun kv => keyEq kv.1 k).map (·.2)
def keyPut (k v : PV) (kvs : List (PV × PV)) : List (PV × PV) :=
  if (kvs.any fun kv => keyEq kv.1 k) = true then kvs.map (fun kv => if keyEq kv.1 k = true then (kv.1, v) else kv) else kvs ++ [(k, v)]
@[simp] def isNonS : SV → Bool
  | .v .non => true
  | _ => false
@[simp] def memOp (x y : SV) (S : Store) : Option Bool := match pure? S x with
  | some x => match seqOf S y with
    | some (_, ys) => anyEq x ys
    | none => match dicOf S y with
      | some kvs => if keyOk x = true then some (keyGet x kvs).isSome else none
      | none => none
  | none => none
@[simp] def cmpOp (o : COp) (x y : SV) (S : Store) : Option Bool :=
  match o with
  | .is => match y with
    | .v .non => some (isNonS x)
    | .v (.bl b) => match x with
      | .v (.bl a) => some (a == b)
      | _ => none
    | _ => none
  | .isnot => match y with
    | .v .non => some (!isNonS x)
    | .v (.bl b) => match x with
      | .v (.bl a) => some (!(a == b))
      | _ => none
    | _ => none
  | .isin => memOp x y S
  | .notin => (memOp x y S).map (!·)
  | .eq => match pure? S x, pure? S y with
    | some x, some y => eqP x y
    | _, _ => none
  | .ne => match pure? S x, pure? S y with
    | some x, some y => (eqP x y).map (!·)
    | _, _ => none
  | .lt => match x, y with
    | .v (.int i), .v (.int j) => some (decide (i < j))
    | .v (.tup xs), .v (.tup ys) => if (noFn (.tup xs) && noFn (.tup ys) && (dpLe eqD (.tup xs) && dpLe eqD (.tup ys))) = true then ltP (.tup xs) (.tup ys) else none
    | _, _ => none
  | .le => match x, y with
    | .v (.int i), .v (.int j) => some (decide (i ≤ j))
    | _, _ => none
  | .gt => match x, y with
    | .v (.int i), .v (.int j) => some (decide (j < i))
    | _, _ => none
  | .ge => match x, y with
    | .v (.int i), .v (.int j) => some (decide (j ≤ i))
    | _, _ => none
inductive Tg where
  | non | bl | int | str | tup | lst | dic
def tgOf (S : Store) : SV → Option Tg
  | .v .non => some .non
  | .v (.bl _) => some .bl
  | .v (.int _) => some .int
  | .v (.str _) => some .str
  | .v (.tup _) => some .tup
  | .v (.lst _) => some .lst
  | .v (.fn _) => none
  | .l n => match S[n]? with
    | some (.lst _) => some .lst
    | some (.dic _) => some .dic
    | _ => none
@[simp] def tgIs : Tg → Ty → Bool
  | .bl, .int => true
  | .bl, .bool => true
  | .int, .int => true
  | .str, .str => true
  | .tup, .tuple => true
  | .lst, .list => true
  | .dic, .dict => true
  | _, _ => false
@[simp] def isTys (S : Store) (x : SV) (ts : List Ty) : Option Bool := match tgOf S x with
  | some g => some (ts.any (tgIs g))
  | none => none
/-- the place of an index -/
@[simp] def ix? (n : Nat) (i : Int) : Option Nat := if 0 ≤ i then (if i < n then some i.toNat else none) else (if 0 ≤ i + n then some (i + n).toNat else none)
/-- an end of a slice -/
def sx (n d : Nat) : Option Int → Nat
  | none => d
  | some v => if v < 0 then (v + n).toNat else min v.toNat n
@[simp] def part? : PV → Option (Option Int)
  | .non => some none
  | .int i => some (some i)
  | _ => none
def cut (xs : List PV) (lo hi : Option Int) : List PV := (xs.drop (sx xs.length 0 lo)).take (sx xs.length xs.length hi - sx xs.length 0 lo)
@[simp] def ints? : List PV → Option (List Int)
  | [] => some []
  | .int i :: r => (ints? r).map (i :: ·)
  | _ => none
def sumI : List Int → Int
  | [] => 0
  | i :: r => i + sumI r
/-- the first least one -/
def minP : PV → List PV → PV
  | x, [] => x
  | x, y :: r => if ltK y x then minP y r else minP x r
def maxP : PV → List PV → PV
  | x, [] => x
  | x, y :: r => if ltK x y then maxP y r else maxP x r
/-- the members of a list, each once (the last of equal ones) -/
def dedup : List PV → List PV
  | [] => []
  | x :: r => if (r.any fun y => eqv y x) = true then dedup r else x :: dedup r
def rng (a b : Int) : List PV := (List.range (b - a).toNat).map fun i => .int (a + Int.ofNat i)
def rngN (n : Int) : List PV := (List.range n.toNat).map fun i => .int (Int.ofNat i)
/-- a, a + c, .. ahead of b -/
def rng3 (a b c : Int) : List PV := (List.range (if 0 < c then ((b - a + c - 1) / c).toNat else ((a - b - c - 1) / (-c)).toNat)).map fun i => .int (a + Int.ofNat i * c)
def rngOk (n : Int) : Bool := decide (n ≤ 4000000)
@[simp] def ofOpt (r : Option Bool) (S : Store) : Out SV := match r with
  | some b => .ok (.v (.bl b)) S
  | none => .bad
@[simp] def bLen (x : SV) (S : Store) : Out SV := match seqOf S x with
  | some (_, ys) => .ok (.v (.int ys.length)) S
  | none => match dicOf S x with
    | some kvs => .ok (.v (.int kvs.length)) S
    | none => .bad
@[simp] def bInt (x : SV) (S : Store) : Out SV := match x with
  | .v (.int i) => .ok (.v (.int i)) S
  | .v (.bl b) => .ok (.v (.int (if b = true then 1 else 0))) S
  | _ => .bad
@[simp] def bAbs (x : SV) (S : Store) : Out SV := match x with
  | .v (.int i) => .ok (.v (.int (if i < 0 then -i else i))) S
  | _ => .bad
/-- of the items of a list or a tuple -/
@[simp] def onSeq (f : List PV → Out SV) (x : SV) (S : Store) : Out SV := match seqOf S x with
  | some (_, ys) => f ys
  | none => .bad
@[simp] def bSum (x : SV) (S : Store) : Out SV := onSeq (fun ys => match ints? ys with
  | some is => .ok (.v (.int (sumI is))) S
  | none => .bad) x S
def bMin1 (x : SV) (S : Store) : Out SV := onSeq (fun ys => match ys with
  | [] => .bad
  | y :: ys => if minOk (y :: ys) = true then .ok (.v (minP y ys)) S else .bad) x S
def bMax1 (x : SV) (S : Store) : Out SV := onSeq (fun ys => match ys with
  | [] => .bad
  | y :: ys => if minOk (y :: ys) = true then .ok (.v (maxP y ys)) S else .bad) x S
@[simp] def bMin2 (x y : SV) (S : Store) : Out SV := match x, y with
  | .v (.int i), .v (.int j) => .ok (.v (.int (if j < i then j else i))) S
  | _, _ => .bad
@[simp] def bMax2 (x y : SV) (S : Store) : Out SV := match x, y with
  | .v (.int i), .v (.int j) => .ok (.v (.int (if j > i then j else i))) S
  | _, _ => .bad
@[simp] def bTuple (x : SV) (S : Store) : Out SV := onSeq (fun ys => mkT ys S) x S
@[simp] def bList (m : Bool) (x : SV) (S : Store) : Out SV := onSeq (fun ys => mkL m ys S) x S
def insI (x : Int) : List Int → List Int
  | [] => [x]
  | y :: r => if x ≤ y then x :: y :: r else y :: insI x r
def isortI : List Int → List Int
  | [] => []
  | x :: r => insI x (isortI r)
/-- of a list -/
def bSorted (m : Bool) (x : SV) (S : Store) : Out SV := match seqOf S x with
  | some (true, ys) => if sortOk ys = true then mkL m (isortK ys) S else .bad
  | _ => .bad
/-- sorted(set(x)), x a tuple -/
def bSortedSet (m : Bool) (x : SV) (S : Store) : Out SV := match seqOf S x with
  | some (false, ys) => if setOk ys = true then mkL m (isortK (dedup ys)) S else .bad
  | _ => .bad
def bLenSet (x : SV) (S : Store) : Out SV := match seqOf S x with
  | some (false, ys) => if setOk ys = true then .ok (.v (.int (dedup ys).length)) S else .bad
  | _ => .bad
def bRange (f : List PV → Store → Out SV) (x y : SV) (S : Store) : Out SV := match x, y with
  | .v (.int a), .v (.int b) => if (rngOk b && rngOk a && rngOk (-a) && rngOk (-b)) = true then f (rng a b) S else .bad
  | _, _ => .bad
@[simp] def biOp (b : BI) (m : Bool) (xs : List SV) (S : Store) : Out SV := match xs with
  | [x] => match b with
    | .len => bLen x S
    | .int => bInt x S
    | .abs => bAbs x S
    | .sum => bSum x S
    | .min1 => bMin1 x S
    | .max1 => bMax1 x S
    | .tuple => bTuple x S
    | .list => bList m x S
    | .sorted => bSorted m x S
    | .sortedSet => bSortedSet m x S
    | .lenSet => bLenSet x S
    | .listRange1 => bRange (mkL m) (.v (.int 0)) x S
    | .tupleRange1 => bRange mkT (.v (.int 0)) x S
    | _ => .bad
  | [x, y] => match b with
    | .min2 => bMin2 x y S
    | .max2 => bMax2 x y S
    | .listRange2 => bRange (mkL m) x y S
    | .tupleRange2 => bRange mkT x y S
    | _ => .bad
  | _ => .bad
/-- values that must be pure -/
@[simp] def pures? : List SV → Option (List PV)
  | [] => some []
  | .v x :: r => (pures? r).map (x :: ·)
  | .l _ :: _ => none
@[simp] def getS (ρ : Slots) (i : Nat) : Option SV := match ρ[i]? with
  | some (some x) => some x
  | _ => none
@[simp] def wipeS (ρ : Slots) : List Nat → Slots
  | [] => ρ
  | i :: is => (wipeS ρ is).set i none
mutual
@[simp] def bindG : CG → PV → Slots → Option Slots
  | .name i, x, ρ => some (ρ.set i (some (.v x)))
  | .tup gs, x, ρ => match x with
    | .tup xs => bindGs gs xs ρ
    | .lst xs => bindGs gs xs ρ
    | _ => none
@[simp] def bindGs : CGs → List PV → Slots → Option Slots
  | .nil, [], ρ => some ρ
  | .cons g gs, x :: xs, ρ => match bindG g x ρ with
    | some ρ' => bindGs gs xs ρ'
    | none => none
  | _, _, _ => none
end
def zipL : List PV → List PV → List PV
  | x :: xs, y :: ys => .tup [x, y] :: zipL xs ys
  | _, _ => []
def enumL (i : Nat) : List PV → List PV
  | [] => []
  | x :: xs => .tup [.int (Int.ofNat i), x] :: enumL (i + 1) xs

/-! ### loops -/
/-- a comprehension's turns: f gives an item, or leaves it out -/
def compL (f : PV → Store → Out (Option PV)) : List PV → Store → Out (List PV)
  | [], S => .ok [] S
  | x :: xs, S => (f x S).bind fun y S1 => (compL f xs S1).bind fun ys S2 => .ok (match y with | some y => y :: ys | none => ys) S2
/-- the same where f gives several -/
def compLL (f : PV → Store → Out (List PV)) : List PV → Store → Out (List PV)
  | [], S => .ok [] S
  | x :: xs, S => (f x S).bind fun y S1 => (compLL f xs S1).bind fun ys S2 => .ok (y ++ ys) S2
inductive Flow where
  | next (ρ : Slots) | ret (x : SV) | brk (ρ : Slots) | cnt (ρ : Slots)
  deriving Inhabited
/-- a for: f is one turn -/
def forL (f : PV → Slots → Store → Out Flow) (w : List Nat) : List PV → Slots → Store → Out Flow
  | [], ρ, S => .ok (.next ρ) S
  | x :: xs, ρ, S => (f x ρ S).bind fun r S1 => match r with
    | .next ρ1 => forL f w xs (wipeS ρ1 w) S1
    | .cnt ρ1 => forL f w xs (wipeS ρ1 w) S1
    | .brk ρ1 => .ok (.next ρ1) S1
    | .ret y => .ok (.ret y) S1
/-- a while -/
def whileL (c : Slots → Store → Out Bool) (f : Slots → Store → Out Flow) (w : List Nat) : Nat → Slots → Store → Out Flow
  | 0, _, _ => .bad
  | n + 1, ρ, S => (c ρ S).bind fun b S1 => if b then (f ρ S1).bind fun r S2 => match r with
    | .next ρ1 => whileL c f w n (wipeS ρ1 w) S2
    | .cnt ρ1 => whileL c f w n (wipeS ρ1 w) S2
    | .brk ρ1 => .ok (.next ρ1) S2
    | .ret y => .ok (.ret y) S2
    else .ok (.next ρ) S1
def fuel : Nat := 1000000000000

/-! ### the meaning -/
abbrev VS := Slots → Store → Out SV
abbrev LS := Slots → Store → Out (List SV)
abbrev IS := Slots → Store → Out (List PV)
/-- an expression's value, and its truth where it is a test -/
structure Sm where
  v : VS
  t : Slots → Store → Out Bool
@[simp] def tru (v : VS) : Slots → Store → Out Bool := fun ρ S => (v ρ S).bind fun x S1 => match truth S1 x with
  | some b => .ok b S1
  | none => .bad
@[simp] def ofV (v : VS) : Sm := ⟨v, tru v⟩
/-- a comparison: its value is a bool -/
@[simp] def ofT (t : Slots → Store → Out Bool) : Sm := ⟨fun ρ S => (t ρ S).bind fun b S1 => .ok (.v (.bl b)) S1, t⟩
@[simp] def sVar (i : Nat) : VS := fun ρ S => match getS ρ i with
  | some x => .ok x S
  | none => .bad
@[simp] def sK (x : PV) : VS := fun _ S => .ok (.v x) S
@[simp] def sTup (es : LS) : VS := fun ρ S => (es ρ S).bind fun xs S1 => match pures? xs with
  | some ys => mkT ys S1
  | none => .bad
@[simp] def sList (m : Bool) (es : LS) : VS := fun ρ S => (es ρ S).bind fun xs S1 => match pures? xs with
  | some ys => mkL m ys S1
  | none => .bad
@[simp] def sBin (o : BOp) (m : Bool) (a b : VS) : VS := fun ρ S => (a ρ S).bind fun x S1 => (b ρ S1).bind fun y S2 => binOp o m x y S2
@[simp] def negOp (x : SV) (S : Store) : Out SV := match x with
  | .v (.int i) => .ok (.v (.int (-i))) S
  | _ => .bad
@[simp] def sNeg (a : VS) : VS := fun ρ S => (a ρ S).bind negOp
@[simp] def sNot (a : Sm) : Sm := ⟨fun ρ S => (tru a.v ρ S).bind fun b S1 => .ok (.v (.bl (!b))) S1, fun ρ S => (a.t ρ S).bind fun b S1 => .ok (!b) S1⟩
@[simp] def sCmp (o : COp) (a b : VS) : Sm := ofT fun ρ S => (a ρ S).bind fun x S1 => (b ρ S1).bind fun y S2 => match cmpOp o x y S2 with
  | some b => .ok b S2
  | none => .bad
@[simp] def sChain (o o' : COp) (a b c : VS) : Sm := ofT fun ρ S => (a ρ S).bind fun x S1 => (b ρ S1).bind fun y S2 => match cmpOp o x y S2 with
  | some true => (c ρ S2).bind fun z S3 => match cmpOp o' y z S3 with
    | some b => .ok b S3
    | none => .bad
  | some false => .ok false S2
  | none => .bad
@[simp] def sIte (c a b : Sm) : Sm := ⟨fun ρ S => (c.t ρ S).bind fun t S1 => if t = true then a.v ρ S1 else b.v ρ S1, fun ρ S => (c.t ρ S).bind fun t S1 => if t = true then a.t ρ S1 else b.t ρ S1⟩
@[simp] def sCall (f : Option Fn) (es : LS) : VS := fun ρ S => (es ρ S).bind fun xs S1 => match f with
  | some f => f xs S1
  | none => .bad
@[simp] def sCallv (Γ : List (Str × Fn)) (f : VS) (es : LS) : VS := fun ρ S => (f ρ S).bind fun x S1 => match x with
  | .v (.fn n) => match Γ.lookup n with
    | some g => sCall (some g) es ρ S1
    | none => .bad
  | _ => .bad
/-- the first place of an equal one -/
def ixOf (x : PV) : List PV → Option Nat
  | [] => none
  | y :: r => if eqv y x = true then some 0 else (ixOf x r).map (· + 1)
def allStr : List PV → Bool
  | [] => true
  | .str _ :: r => allStr r
  | _ => false
def isStrV : PV → Bool
  | .str _ => true
  | _ => false
def indexOp (a x : SV) (S : Store) : Out SV := match x with
  | .v y => match seqOf S a with
    | some (true, ys) => if (noFn y && noFns ys && dpLe 8 y && dpLes 8 ys) = true then (match ixOf y ys with
      | some j => .ok (.v (.int j)) S
      | none => .bad) else .bad
    | some (false, ys) => if (isStrV y && allStr ys) = true then (match ixOf y ys with
      | some j => .ok (.v (.int j)) S
      | none => .bad) else .bad
    | none => .bad
  | .l _ => .bad
def isLs (S : Store) (x : SV) : Bool := match seqOf S x with
  | some (true, _) => true
  | _ => false
def sIndex (a x : VS) : VS := fun ρ S => (a ρ S).bind fun y S1 => if isLs S1 y = true then (x ρ S1).bind fun z S2 => if isLs S2 y = true then indexOp y z S2 else .bad else .bad
/-- of a module's tuple of texts -/
def sIndexG (xs : List PV) (x : VS) : VS := fun ρ S => (x ρ S).bind fun z S1 => indexOp (.v (.tup xs)) z S1
@[simp] def sBi (b : BI) (m : Bool) (es : LS) : VS := fun ρ S => (es ρ S).bind fun xs S1 => biOp b m xs S1
@[simp] def sIsi (ts : List Ty) (e : VS) : VS := fun ρ S => (e ρ S).bind fun x S1 => ofOpt (isTys S1 x ts) S1
@[simp] def idxOp (x y : SV) (S : Store) : Out SV := match y with
  | .v k => match seqOf S x with
    | some (_, xs) => match k with
      | .int j => match ix? xs.length j with
        | some n => match xs[n]? with
          | some z => .ok (.v z) S
          | none => .bad
        | none => .bad
      | _ => .bad
    | none => match dicOf S x with
      | some kvs => if keyOk k = true then (match keyGet k kvs with
        | some z => .ok (.v z) S
        | none => .bad) else .bad
      | none => .bad
  | .l _ => .bad
@[simp] def sIdx (a i : VS) : VS := fun ρ S => (a ρ S).bind fun x S1 => (i ρ S1).bind fun y S2 => idxOp x y S2
@[simp] def slcOp (m : Bool) (x l h : SV) (S : Store) : Out SV := match l, h with
  | .v l, .v h => match part? l, part? h with
    | some lo, some hi => match seqOf S x with
      | some (t, xs) => if t = true then mkL m (cut xs lo hi) S else mkT (cut xs lo hi) S
      | none => .bad
    | _, _ => .bad
  | _, _ => .bad
@[simp] def sSlc (m : Bool) (a lo hi : VS) : VS := fun ρ S => (a ρ S).bind fun x S1 => (lo ρ S1).bind fun l S2 => (hi ρ S2).bind fun h S3 => slcOp m x l h S3
/-- a comprehension's turn: test, item -/
@[simp] def cTurn (g : PV → Slots → Option Slots) (c : Slots → Store → Out Bool) (e : VS) (ρ : Slots) : PV → Store → Out (Option PV) := fun x S => match g x ρ with
  | some ρ1 => (c ρ1 S).bind fun t S1 => if t = true then (e ρ1 S1).bind fun y S2 => match y with
    | .v y => .ok (some y) S2
    | .l _ => .bad
    else .ok none S1
  | none => .bad
@[simp] def sComp (m : Bool) (own : List Nat) (g : PV → Slots → Option Slots) (it : IS) (c : Slots → Store → Out Bool) (e : VS) : VS := fun ρ S =>
  (it ρ S).bind fun xs S1 => (compL (cTurn g c e (wipeS ρ own)) xs S1).bind fun ys S2 => mkL m ys S2
def cTurn2 (g : PV → Slots → Option Slots) (c : Slots → Store → Out Bool) (own2 : List Nat) (g2 : PV → Slots → Option Slots) (it2 : IS) (c2 : Slots → Store → Out Bool) (e : VS) (ρ : Slots) : PV → Store → Out (List PV) := fun x S => match g x ρ with
  | some ρ1 => (c ρ1 S).bind fun t S1 => if t = true then (it2 ρ1 S1).bind fun zs S2 => compL (cTurn g2 c2 e (wipeS ρ1 own2)) zs S2 else .ok [] S1
  | none => .bad
def sComp2 (m : Bool) (own own2 : List Nat) (g : PV → Slots → Option Slots) (it : IS) (c : Slots → Store → Out Bool) (g2 : PV → Slots → Option Slots) (it2 : IS) (c2 : Slots → Store → Out Bool) (e : VS) : VS := fun ρ S =>
  (it ρ S).bind fun xs S1 => (compLL (cTurn2 g c own2 g2 it2 c2 e (wipeS ρ own)) xs S1).bind fun ys S2 => mkL m ys S2
def sDic0 : VS := fun _ S => .ok (.l S.length) (S ++ [.dic []])
def getOp (d k x : SV) (S : Store) : Out SV := match k, x with
  | .v k, .v x => match dicOf S d with
    | some kvs => if keyOk k = true then .ok (.v ((keyGet k kvs).getD x)) S else .bad
    | none => .bad
  | _, _ => .bad
def sGet (d k x : VS) : VS := fun ρ S => (d ρ S).bind fun d S1 => (k ρ S1).bind fun k S2 => (x ρ S2).bind fun x S3 => getOp d k x S3
@[simp] def sNil : LS := fun _ S => .ok [] S
@[simp] def sCons (e : VS) (es : LS) : LS := fun ρ S => (e ρ S).bind fun x S1 => (es ρ S1).bind fun xs S2 => .ok (x :: xs) S2
@[simp] def sAnd1 (a b : Sm) : Sm := ⟨fun ρ S => (a.v ρ S).bind fun x S1 => match truth S1 x with
    | some true => b.v ρ S1
    | some false => .ok x S1
    | none => .bad,
  fun ρ S => (a.t ρ S).bind fun t S1 => if t = true then b.t ρ S1 else .ok false S1⟩
@[simp] def sOr1 (a b : Sm) : Sm := ⟨fun ρ S => (a.v ρ S).bind fun x S1 => match truth S1 x with
    | some true => .ok x S1
    | some false => b.v ρ S1
    | none => .bad,
  fun ρ S => (a.t ρ S).bind fun t S1 => if t = true then .ok true S1 else b.t ρ S1⟩
def sBad : Sm := ⟨fun _ _ => .bad, fun _ _ => .bad⟩
@[simp] def rng2Op (x y : SV) (S : Store) : Out (List PV) := match x, y with
  | .v (.int i), .v (.int j) => if (rngOk i && rngOk j && rngOk (-i) && rngOk (-j)) = true then .ok (rng i j) S else .bad
  | _, _ => .bad
@[simp] def iRng2 (a b : VS) : IS := fun ρ S => (a ρ S).bind fun x S1 => (b ρ S1).bind fun y S2 => rng2Op x y S2
def rng3Op (x y z : SV) (S : Store) : Out (List PV) := match x, y, z with
  | .v (.int i), .v (.int j), .v (.int k) => if (rngOk i && rngOk j && rngOk (-i) && rngOk (-j) && decide (k ≠ 0) && rngOk k && rngOk (-k)) = true then .ok (rng3 i j k) S else .bad
  | _, _, _ => .bad
def iRng3 (a b c : VS) : IS := fun ρ S => (a ρ S).bind fun x S1 => (b ρ S1).bind fun y S2 => (c ρ S2).bind fun z S3 => rng3Op x y z S3
@[simp] def zipOp (x y : SV) (S : Store) : Out (List PV) := match x, y with
  | .v (.tup xs), .v (.tup ys) => .ok (zipL xs ys) S
  | .v (.lst xs), .v (.lst ys) => .ok (zipL xs ys) S
  | _, _ => .bad
@[simp] def iZip (a b : VS) : IS := fun ρ S => (a ρ S).bind fun x S1 => (b ρ S1).bind fun y S2 => zipOp x y S2
@[simp] def enumOp (x : SV) (S : Store) : Out (List PV) := match x with
  | .v (.lst xs) => .ok (enumL 0 xs) S
  | _ => .bad
@[simp] def iEnum (a : VS) : IS := fun ρ S => (a ρ S).bind enumOp
@[simp] def seqOp (x : SV) (S : Store) : Out (List PV) := match x with
  | .v (.tup xs) => .ok xs S
  | .v (.lst xs) => .ok xs S
  | _ => .bad
@[simp] def rng1Op (x : SV) (S : Store) : Out (List PV) := match x with
  | .v (.int n) => if (rngOk n && rngOk (-n)) = true then .ok (rngN n) S else .bad
  | _ => .bad
@[simp] def iSeq (e : VS) : IS := fun ρ S => (e ρ S).bind seqOp
@[simp] def iRng1 (a : VS) : IS := fun ρ S => (a ρ S).bind rng1Op
def iBad : IS := fun _ _ => .bad
@[simp] def intOnly (x : SV) (S : Store) : Out SV := match x with
  | .v (.int i) => .ok (.v (.int i)) S
  | _ => .bad
@[simp] def isNonC : CE → Bool
  | .k .non => true
  | _ => false
/-- a slice's part: left out, or an int -/
@[simp] def sPart (b : Bool) (f : VS) : VS := if b = true then sK .non else fun ρ S => (f ρ S).bind intOnly
mutual
def ev (Γ : List (Str × Fn)) : CE → Sm
  | .var i => ofV (sVar i)
  | .k x => ofV (sK x)
  | .glob _ x => ofV (sK x)
  | .tup es => ofV (sTup (evL Γ es))
  | .list m es => ofV (sList m (evL Γ es))
  | .bin o m a b => ofV (sBin o m (ev Γ a).v (ev Γ b).v)
  | .neg a => ofV (sNeg (ev Γ a).v)
  | .nt a => sNot (ev Γ a)
  | .and es => evAnd Γ es
  | .or es => evOr Γ es
  | .cmp o a b => sCmp o (ev Γ a).v (ev Γ b).v
  | .chain o o' a b c => sChain o o' (ev Γ a).v (ev Γ b).v (ev Γ c).v
  | .ite c a b => sIte (ev Γ c) (ev Γ a) (ev Γ b)
  | .call i es => ofV (sCall (Γ[i]?.map Prod.snd) (evL Γ es))
  | .fnv n => ofV (sK (.fn n))
  | .callv e es => ofV (sCallv Γ (ev Γ e).v (evL Γ es))
  | .index a x => ofV (sIndex (ev Γ a).v (ev Γ x).v)
  | .indexG _ xs x => ofV (sIndexG xs (ev Γ x).v)
  | .bi b m es => ofV (sBi b m (evL Γ es))
  | .isi ts e => ofV (sIsi ts (ev Γ e).v)
  | .idx a i => ofV (sIdx (ev Γ a).v (ev Γ i).v)
  | .slc m a lo hi => ofV (sSlc m (ev Γ a).v (sPart (isNonC lo) (ev Γ lo).v) (sPart (isNonC hi) (ev Γ hi).v))
  | .comp m own tg it c e => ofV (sComp m own (bindG tg) (evI Γ it) (ev Γ c).t (ev Γ e).v)
  | .comp2 m own own2 tg it c tg2 it2 c2 e => ofV (sComp2 m own own2 (bindG tg) (evI Γ it) (ev Γ c).t (bindG tg2) (evI Γ it2) (ev Γ c2).t (ev Γ e).v)
  | .dic0 => ofV sDic0
  | .get d k x => ofV (sGet (ev Γ d).v (ev Γ k).v (ev Γ x).v)
def evL (Γ : List (Str × Fn)) : CL → LS
  | .nil => sNil
  | .cons e es => sCons (ev Γ e).v (evL Γ es)
def evAnd (Γ : List (Str × Fn)) : CL → Sm
  | .nil => sBad
  | .cons e es => match es with
    | .nil => ev Γ e
    | _ => sAnd1 (ev Γ e) (evAnd Γ es)
def evOr (Γ : List (Str × Fn)) : CL → Sm
  | .nil => sBad
  | .cons e es => match es with
    | .nil => ev Γ e
    | _ => sOr1 (ev Γ e) (evOr Γ es)
/-- the items that are walked -/
def evI (Γ : List (Str × Fn)) : CI → IS
  | .seq e => iSeq (ev Γ e).v
  | .rng1 a => iRng1 (ev Γ a).v
  | .rng2 a b => iRng2 (ev Γ a).v (ev Γ b).v
  | .rng3 a b c => iRng3 (ev Γ a).v (ev Γ b).v (ev Γ c).v
  | .zip2 a b => iZip (ev Γ a).v (ev Γ b).v
  | .enum a => iEnum (ev Γ a).v
  | .keys _ => iBad
  | .items _ => iBad
  | .values _ => iBad
end

@[simp] def setAll : List Nat → List SV → Slots → Option Slots
  | [], [], ρ => some ρ
  | i :: is, x :: xs, ρ => setAll is xs (ρ.set i (some x))
  | _, _, _ => none
/-! ### statements -/
abbrev FS := Slots → Store → Out Flow
@[simp] def sSeq (f g : FS) : FS := fun ρ S => (f ρ S).bind fun r S1 => match r with
  | .next ρ1 => g ρ1 S1
  | .ret x => .ok (.ret x) S1
  | .brk ρ1 => .ok (.brk ρ1) S1
  | .cnt ρ1 => .ok (.cnt ρ1) S1
@[simp] def sNext : FS := fun ρ S => .ok (.next ρ) S
/-- a list's place is shut: nothing happens in the program -/
@[simp] def sFreeze (i : Nat) : FS := fun ρ S => match getS ρ i with
    | some (.l n) => match S[n]? with
      | some (.lst xs) => .ok (.next (ρ.set i (some (.v (.lst xs))))) (S.set n .gone)
      | _ => .bad
    | some (.v _) => .ok (.next ρ) S
    | none => .ok (.next ρ) S
@[simp] def sSet (i : Nat) (f : VS) : FS := fun ρ S => (f ρ S).bind fun x S1 => .ok (.next (ρ.set i (some x))) S1
@[simp] def sUnpack (g : PV → Slots → Option Slots) (f : VS) : FS := fun ρ S => (f ρ S).bind fun x S1 => match x with
    | .v x => match g x ρ with
      | some ρ1 => .ok (.next ρ1) S1
      | none => .bad
    | .l _ => .bad
@[simp] def sPar (is : List Nat) (ts : LS) : FS := fun ρ S => (ts ρ S).bind fun xs S1 => match setAll is xs ρ with
    | some ρ1 => .ok (.next ρ1) S1
    | none => .bad
@[simp] def sExpr (f : VS) : FS := fun ρ S => (f ρ S).bind fun _ S1 => .ok (.next ρ) S1
@[simp] def sIfs (c : Slots → Store → Out Bool) (f g : FS) : FS := fun ρ S => (c ρ S).bind fun t S1 => if t = true then f ρ S1 else g ρ S1
@[simp] def sRet (f : VS) : FS := fun ρ S => (f ρ S).bind fun x S1 => .ok (.ret x) S1
@[simp] def sRetN : FS := fun _ S => .ok (.ret (.v .non)) S
@[simp] def sBrk : FS := fun ρ S => .ok (.brk ρ) S
@[simp] def sCnt : FS := fun ρ S => .ok (.cnt ρ) S
@[simp] def sTurn (g : PV → Slots → Option Slots) (f : FS) : PV → FS := fun x ρ S => match g x ρ with
    | some ρ1 => f ρ1 S
    | none => .bad
@[simp] def sFor (g : PV → Slots → Option Slots) (it : IS) (f : FS) (w : List Nat) : FS := fun ρ S => (it ρ S).bind fun xs S1 => forL (sTurn g f) w xs (wipeS ρ w) S1
@[simp] def sWhile (c : Slots → Store → Out Bool) (f : FS) (w : List Nat) : FS := fun ρ S => whileL c f w fuel (wipeS ρ w) S
def isLst (S : Store) (n : Nat) : Bool := match S[n]? with
  | some (.lst _) => true
  | _ => false
@[simp] def sApp (i : Nat) (f : VS) : FS := fun ρ S => match getS ρ i with
    | some (.l n) => if isLst S n = true then (f ρ S).bind fun x S1 => match x, S1[n]? with
      | .v x, some (.lst xs) => if xs.length < line then .ok (.next ρ) (S1.set n (.lst (xs ++ [x]))) else .bad
      | _, _ => .bad
      else .bad
    | _ => .bad
/-- o[y] = x -/
@[simp] def putOp (o y x : SV) (S : Store) : Option Store := match o, x, y with
  | .l n, .v x, .v y => match S[n]? with
    | some (.lst xs) => match y with
      | .int j => match ix? xs.length j with
        | some k => some (S.set n (.lst (xs.set k x)))
        | none => none
      | _ => none
    | some (.dic kvs) => if keyOk y = true ∧ kvs.length < line then some (S.set n (.dic (keyPut y x kvs))) else none
    | _ => none
  | _, _, _ => none
@[simp] def sSub (i : Nat) (a f : VS) : FS := fun ρ S => (f ρ S).bind fun x S1 => (a ρ S1).bind fun y S2 => match getS ρ i with
  | some o => match putOp o y x S2 with
    | some S3 => .ok (.next ρ) S3
    | none => .bad
  | none => .bad
@[simp] def augOp (o : BOp) (x y : SV) : Option SV := match x, y with
  | .v (.int a), .v (.int b) => match o with
    | .add => some (.v (.int (a + b)))
    | .sub => some (.v (.int (a - b)))
    | _ => none
  | _, _ => none
@[simp] def sAug (i : Nat) (o : BOp) (f : VS) : FS := fun ρ S => match getS ρ i with
    | some x => (f ρ S).bind fun y S1 => match augOp o x y with
      | some z => .ok (.next (ρ.set i (some z))) S1
      | none => .bad
    | none => .bad
def sRaise (c : Str) (ts : LS) : FS := fun ρ S => (ts ρ S).bind fun xs S1 => match pures? xs with
    | some ys => .exc c ys S1
    | none => .bad
mutual
def evS (Γ : List (Str × Fn)) : CS → FS
  | .set i e => sSet i (ev Γ e).v
  | .unpack gs e => sUnpack (bindG (.tup gs)) (ev Γ e).v
  | .par is es => sPar is (evL Γ es)
  | .sub i a e => sSub i (ev Γ a).v (ev Γ e).v
  | .aug i o e => sAug i o (ev Γ e).v
  | .augsub _ _ _ _ => fun _ _ => .bad
  | .app i e => sApp i (ev Γ e).v
  | .expr e => sExpr (ev Γ e).v
  | .ifs c a b => sIfs (ev Γ c).t (evB Γ a) (evB Γ b)
  | .forr tg it body w => sFor (bindG tg) (evI Γ it) (evB Γ body) w
  | .whil c body w => sWhile (ev Γ c).t (evB Γ body) w
  | .ret e => sRet (ev Γ e).v
  | .retN => sRetN
  | .brk => sBrk
  | .cnt => sCnt
  | .raise c es => sRaise c (evL Γ es)
  | .freeze i => sFreeze i
def evB (Γ : List (Str × Fn)) : CB → FS
  | .nil => sNext
  | .cons s r => sSeq (evS Γ s) (evB Γ r)
end
/-! ### unfolding, loops left as they are -/
@[simp] theorem ev_var (Γ : List (Str × Fn)) {i} : ev Γ (.var i) = ofV (sVar i) := rfl
@[simp] theorem ev_k (Γ : List (Str × Fn)) {x} : ev Γ (.k x) = ofV (sK x) := rfl
@[simp] theorem ev_glob (Γ : List (Str × Fn)) {n} {x} : ev Γ (.glob n x) = ofV (sK x) := rfl
@[simp] theorem ev_tup (Γ : List (Str × Fn)) {es} : ev Γ (.tup es) = ofV (sTup (evL Γ es)) := rfl
@[simp] theorem ev_list (Γ : List (Str × Fn)) {m} {es} : ev Γ (.list m es) = ofV (sList m (evL Γ es)) := rfl
@[simp] theorem ev_bin (Γ : List (Str × Fn)) {o} {m} {a} {b} : ev Γ (.bin o m a b) = ofV (sBin o m (ev Γ a).v (ev Γ b).v) := rfl
@[simp] theorem ev_neg (Γ : List (Str × Fn)) {a} : ev Γ (.neg a) = ofV (sNeg (ev Γ a).v) := rfl
@[simp] theorem ev_nt (Γ : List (Str × Fn)) {a} : ev Γ (.nt a) = sNot (ev Γ a) := rfl
@[simp] theorem ev_and (Γ : List (Str × Fn)) {es} : ev Γ (.and es) = evAnd Γ es := rfl
@[simp] theorem ev_or (Γ : List (Str × Fn)) {es} : ev Γ (.or es) = evOr Γ es := rfl
@[simp] theorem ev_cmp (Γ : List (Str × Fn)) {o} {a} {b} : ev Γ (.cmp o a b) = sCmp o (ev Γ a).v (ev Γ b).v := rfl
@[simp] theorem ev_chain (Γ : List (Str × Fn)) {o} {o'} {a} {b} {c} : ev Γ (.chain o o' a b c) = sChain o o' (ev Γ a).v (ev Γ b).v (ev Γ c).v := rfl
@[simp] theorem ev_ite (Γ : List (Str × Fn)) {c} {a} {b} : ev Γ (.ite c a b) = sIte (ev Γ c) (ev Γ a) (ev Γ b) := rfl
@[simp] theorem ev_call (Γ : List (Str × Fn)) {i} {es} : ev Γ (.call i es) = ofV (sCall (Γ[i]?.map Prod.snd) (evL Γ es)) := rfl
@[simp] theorem ev_fnv (Γ : List (Str × Fn)) {n} : ev Γ (.fnv n) = ofV (sK (.fn n)) := rfl
@[simp] theorem ev_callv (Γ : List (Str × Fn)) {e} {es} : ev Γ (.callv e es) = ofV (sCallv Γ (ev Γ e).v (evL Γ es)) := rfl
@[simp] theorem ev_index (Γ : List (Str × Fn)) {a} {x} : ev Γ (.index a x) = ofV (sIndex (ev Γ a).v (ev Γ x).v) := rfl
@[simp] theorem ev_indexG (Γ : List (Str × Fn)) {n} {xs} {x} : ev Γ (.indexG n xs x) = ofV (sIndexG xs (ev Γ x).v) := rfl
@[simp] theorem ev_bi (Γ : List (Str × Fn)) {b} {m} {es} : ev Γ (.bi b m es) = ofV (sBi b m (evL Γ es)) := rfl
@[simp] theorem ev_isi (Γ : List (Str × Fn)) {ts} {e} : ev Γ (.isi ts e) = ofV (sIsi ts (ev Γ e).v) := rfl
@[simp] theorem ev_idx (Γ : List (Str × Fn)) {a} {i} : ev Γ (.idx a i) = ofV (sIdx (ev Γ a).v (ev Γ i).v) := rfl
@[simp] theorem ev_slc (Γ : List (Str × Fn)) {m} {a} {lo} {hi} : ev Γ (.slc m a lo hi) = ofV (sSlc m (ev Γ a).v (sPart (isNonC lo) (ev Γ lo).v) (sPart (isNonC hi) (ev Γ hi).v)) := rfl
@[simp] theorem evL_nil (Γ : List (Str × Fn)) : evL Γ .nil = sNil := rfl
@[simp] theorem evL_cons (Γ : List (Str × Fn)) {e es} : evL Γ (.cons e es) = sCons (ev Γ e).v (evL Γ es) := rfl
@[simp] theorem evAnd_one (Γ : List (Str × Fn)) {e} : evAnd Γ (.cons e .nil) = ev Γ e := rfl
@[simp] theorem evAnd_cons (Γ : List (Str × Fn)) {e f es} : evAnd Γ (.cons e (.cons f es)) = sAnd1 (ev Γ e) (evAnd Γ (.cons f es)) := rfl
@[simp] theorem evOr_one (Γ : List (Str × Fn)) {e} : evOr Γ (.cons e .nil) = ev Γ e := rfl
@[simp] theorem evOr_cons (Γ : List (Str × Fn)) {e f es} : evOr Γ (.cons e (.cons f es)) = sOr1 (ev Γ e) (evOr Γ (.cons f es)) := rfl
@[simp] theorem evS_set (Γ : List (Str × Fn)) {i} {e} : evS Γ (.set i e) = sSet i (ev Γ e).v := rfl
@[simp] theorem evS_unpack (Γ : List (Str × Fn)) {gs} {e} : evS Γ (.unpack gs e) = sUnpack (bindG (.tup gs)) (ev Γ e).v := rfl
@[simp] theorem evS_par (Γ : List (Str × Fn)) {is} {es} : evS Γ (.par is es) = sPar is (evL Γ es) := rfl
@[simp] theorem evS_sub (Γ : List (Str × Fn)) {i} {a} {e} : evS Γ (.sub i a e) = sSub i (ev Γ a).v (ev Γ e).v := rfl
@[simp] theorem evS_aug (Γ : List (Str × Fn)) {i} {o} {e} : evS Γ (.aug i o e) = sAug i o (ev Γ e).v := rfl
@[simp] theorem evS_app (Γ : List (Str × Fn)) {i} {e} : evS Γ (.app i e) = sApp i (ev Γ e).v := rfl
@[simp] theorem evS_expr (Γ : List (Str × Fn)) {e} : evS Γ (.expr e) = sExpr (ev Γ e).v := rfl
@[simp] theorem evS_ifs (Γ : List (Str × Fn)) {c} {a} {b} : evS Γ (.ifs c a b) = sIfs (ev Γ c).t (evB Γ a) (evB Γ b) := rfl
@[simp] theorem evS_ret (Γ : List (Str × Fn)) {e} : evS Γ (.ret e) = sRet (ev Γ e).v := rfl
@[simp] theorem evS_retN (Γ : List (Str × Fn)) : evS Γ (.retN) = sRetN := rfl
@[simp] theorem evS_brk (Γ : List (Str × Fn)) : evS Γ (.brk) = sBrk := rfl
@[simp] theorem evS_cnt (Γ : List (Str × Fn)) : evS Γ (.cnt) = sCnt := rfl
@[simp] theorem evS_raise (Γ : List (Str × Fn)) {c} {es} : evS Γ (.raise c es) = sRaise c (evL Γ es) := rfl
@[simp] theorem evS_freeze (Γ : List (Str × Fn)) {i} : evS Γ (.freeze i) = sFreeze i := rfl
@[simp] theorem evB_nil (Γ : List (Str × Fn)) : evB Γ .nil = sNext := rfl
@[simp] theorem evB_cons (Γ : List (Str × Fn)) {s r} : evB Γ (.cons s r) = sSeq (evS Γ s) (evB Γ r) := rfl
@[simp] theorem seqOf_tup {S : Store} {xs} : seqOf S (.v (.tup xs)) = some (false, xs) := rfl
@[simp] theorem seqOf_lst {S : Store} {xs} : seqOf S (.v (.lst xs)) = some (true, xs) := rfl
@[simp] theorem seqOf_non {S : Store} : seqOf S (.v .non) = none := rfl
@[simp] theorem seqOf_bl {S : Store} {x} : seqOf S (.v (.bl x)) = none := rfl
@[simp] theorem seqOf_int {S : Store} {x} : seqOf S (.v (.int x)) = none := rfl
@[simp] theorem seqOf_str {S : Store} {x} : seqOf S (.v (.str x)) = none := rfl
@[simp] theorem seqOf_fn {S : Store} {x} : seqOf S (.v (.fn x)) = none := rfl
@[simp] theorem seqOf_l {S : Store} {n xs} (h : S[n]? = some (.lst xs)) : seqOf S (.l n) = some (true, xs) := by simp only [seqOf, h]
@[simp] theorem dicOf_v {S : Store} {x} : dicOf S (.v x) = none := rfl
@[simp] theorem dicOf_l {S : Store} {n kvs} (h : S[n]? = some (.dic kvs)) : dicOf S (.l n) = some kvs := by simp only [dicOf, h]
@[simp] theorem pure_v {S : Store} {x} : pure? S (.v x) = some x := rfl
@[simp] theorem pure_l {S : Store} {n xs} (h : S[n]? = some (.lst xs)) : pure? S (.l n) = some (.lst xs) := by simp only [pure?, h]
@[simp] theorem truth_non {S : Store} : truth S (.v .non) = some false := rfl
@[simp] theorem truth_bl {S : Store} {b} : truth S (.v (.bl b)) = some b := rfl
@[simp] theorem truth_int {S : Store} {i} : truth S (.v (.int i)) = some (i != 0) := rfl
@[simp] theorem truth_tup {S : Store} {xs} : truth S (.v (.tup xs)) = some (!xs.isEmpty) := rfl
@[simp] theorem truth_lst {S : Store} {xs} : truth S (.v (.lst xs)) = some (!xs.isEmpty) := rfl
@[simp] theorem truth_l {S : Store} {n xs} (h : S[n]? = some (.lst xs)) : truth S (.l n) = some (!xs.isEmpty) := by simp only [truth, h]
@[simp] theorem tgOf_non {S : Store} : tgOf S (.v .non) = some .non := rfl
@[simp] theorem tgOf_bl {S : Store} {x} : tgOf S (.v (.bl x)) = some .bl := rfl
@[simp] theorem tgOf_int {S : Store} {x} : tgOf S (.v (.int x)) = some .int := rfl
@[simp] theorem tgOf_str {S : Store} {x} : tgOf S (.v (.str x)) = some .str := rfl
@[simp] theorem tgOf_tup {S : Store} {x} : tgOf S (.v (.tup x)) = some .tup := rfl
@[simp] theorem tgOf_lst {S : Store} {x} : tgOf S (.v (.lst x)) = some .lst := rfl
@[simp] theorem tgOf_l {S : Store} {n xs} (h : S[n]? = some (.lst xs)) : tgOf S (.l n) = some .lst := by simp only [tgOf, h]
@[simp] theorem isLst_l {S : Store} {n xs} (h : S[n]? = some (.lst xs)) : isLst S n = true := by simp only [isLst, h]
@[simp] theorem eqP_int {i j} : eqP (.int i) (.int j) = some (decide (i = j)) := rfl
@[simp] theorem eqP_bl {a b} : eqP (.bl a) (.bl b) = some (a == b) := rfl
@[simp] theorem eqP_str {a b} : eqP (.str a) (.str b) = some (decide (a = b)) := rfl
@[simp] theorem eqP_non : eqP .non .non = some true := rfl
@[simp] theorem eqP_nil : eqP (.lst []) (.lst []) = some true := rfl
@[simp] theorem eqP_nilT : eqP (.tup []) (.tup []) = some true := rfl
@[simp] theorem eqP_non_int {i} : eqP (.int i) .non = some false := rfl
theorem evS_forr (Γ : List (Str × Fn)) {tg it b w} : evS Γ (.forr tg it b w) = sFor (bindG tg) (evI Γ it) (evB Γ b) w := rfl
theorem evS_whil (Γ : List (Str × Fn)) {c b w} : evS Γ (.whil c b w) = sWhile (ev Γ c).t (evB Γ b) w := rfl
theorem ev_comp (Γ : List (Str × Fn)) {m own tg it c e} : ev Γ (.comp m own tg it c e) = ofV (sComp m own (bindG tg) (evI Γ it) (ev Γ c).t (ev Γ e).v) := rfl
@[simp] theorem evI_seq (Γ : List (Str × Fn)) {e} : evI Γ (.seq e) = iSeq (ev Γ e).v := rfl
@[simp] theorem evI_rng1 (Γ : List (Str × Fn)) {a} : evI Γ (.rng1 a) = iRng1 (ev Γ a).v := rfl
@[simp] theorem evI_rng2 (Γ : List (Str × Fn)) {a b} : evI Γ (.rng2 a b) = iRng2 (ev Γ a).v (ev Γ b).v := rfl
@[simp] theorem evI_zip2 (Γ : List (Str × Fn)) {a b} : evI Γ (.zip2 a b) = iZip (ev Γ a).v (ev Γ b).v := rfl
@[simp] theorem evI_enum (Γ : List (Str × Fn)) {a} : evI Γ (.enum a) = iEnum (ev Γ a).v := rfl
/-- what a def hands back, its own places forgotten -/
@[simp] def leave (n : Nat) (x : SV) (S : Store) : Out SV := match x with
  | .v x => .ok (.v x) (S.take n)
  | .l m => if m < n then .ok (.l m) (S.take n) else match S[m]? with
    | some (.lst xs) => .ok (.v (.lst xs)) (S.take n)
    | some (.dic kvs) => .ok (.l n) (S.take n ++ [.dic kvs])
    | _ => .bad
/-- a def: slots, parameters, body -/
structure Def where
  np : Nat
  ns : Nat
  body : CB
@[simp] def fnSem (Γ : List (Str × Fn)) (d : Def) : Fn := fun xs S =>
  if xs.length = d.np then
    match evB Γ d.body (xs.map some ++ List.replicate (d.ns - d.np) none) S with
    | .ok (.ret x) S1 => leave S.length x S1
    | .ok (.next _) S1 => leave S.length (.v .non) S1
    | .ok _ _ => .bad
    | .exc c as S1 => .exc c as (S1.take S.length)
    | .bad => .bad
  else .bad
end FW

/-! FW: what a pure value is on the heap; readings of meanings. -/
namespace FW
open PySem PySem.Spec PyProof.Rows L2

/-- the places of the store, and what stands apart and is left as it is -/
structure Plc where
  l : List Addr
  w : Hp
mutual
def Rep (K : PySem.W.Frag) (mg : PySem.Str → Option Value) (F : Hp) : PV → V → Prop
  | .non, v => v = .non
  | .bl b, v => v = .bl b
  | .int i, v => v = .int i
  | .str s, v => v = .str s ∧ PyData.strOk s = true
  | .tup xs, v => ∃ p vs, v = .ref p ∧ SqT K F p vs ∧ RepL K mg F xs vs
  | .lst xs, v => ∃ p vs, v = .ref p ∧ Rd F p (.lst vs) ∧ RepL K mg F xs vs
  | .fn n, v => ∃ a, v = .ref a ∧ mg n = some (.ref a)
def RepL (K : PySem.W.Frag) (mg : PySem.Str → Option Value) (F : Hp) : List PV → List V → Prop
  | [], vs => vs = []
  | x :: xs, vs => ∃ v r, vs = v :: r ∧ Rep K mg F x v ∧ RepL K mg F xs r
end
section
variable {K : PySem.W.Frag} {mg : PySem.Str → Option Value} {F F' H H' : Hp} {ι ι' : Plc} {S S' : Store}
def Sub (F F' : Hp) : Prop := ∀ a o, F a = some o → F' a = some o
theorem Sub.refl : Sub F F := fun _ _ h => h
theorem Sub.trans {F''} (h : Sub F F') (g : Sub F' F'') : Sub F F'' := fun a o e => g a o (h a o e)
theorem Sub.rd {p : Addr} {o : HO} (h : Sub F F') (r : Rd F p o) : Rd F' p o := by
  rcases r with r | ⟨u, r⟩
  · exact .inl (h _ _ r)
  · exact .inr ⟨u, h _ _ r⟩
theorem Sub.sqT {p : Addr} {vs : List V} (h : Sub F F') (r : SqT K F p vs) : SqT K F' p vs := r.elim (fun r => .inl (h.rd r)) .inr
theorem Sub.sqL {p : Addr} {vs : List V} (h : Sub F F') (r : SqL K F p vs) : SqL K F' p vs := r.elim (fun r => .inl (h.rd r)) .inr
mutual
theorem Rep.mono (h : Sub F F') : ∀ {x : PV} {v : V}, Rep K mg F x v → Rep K mg F' x v
  | .non, _, r => r
  | .bl _, _, r => r
  | .int _, _, r => r
  | .str _, _, r => r
  | .tup _, _, ⟨p, vs, e, s, r⟩ => ⟨p, vs, e, h.sqT s, RepL.mono h r⟩
  | .lst _, _, ⟨p, vs, e, s, r⟩ => ⟨p, vs, e, h.rd s, RepL.mono h r⟩
  | .fn _, _, r => r
theorem RepL.mono (h : Sub F F') : ∀ {xs : List PV} {vs : List V}, RepL K mg F xs vs → RepL K mg F' xs vs
  | [], _, r => r
  | _ :: _, _, ⟨v, r, e, a, b⟩ => ⟨v, r, e, Rep.mono h a, RepL.mono h b⟩
end
theorem RepL.length : ∀ {xs : List PV} {vs : List V}, RepL K mg F xs vs → xs.length = vs.length
  | [], _, r => by cases r; rfl
  | _ :: _, _, ⟨v, r, e, a, b⟩ => by subst e; simp [RepL.length b]
theorem RepL.app : ∀ {xs ys : List PV} {vs ws : List V}, RepL K mg F xs vs → RepL K mg F ys ws → RepL K mg F (xs ++ ys) (vs ++ ws)
  | [], _, _, _, r, q => by cases r; exact q
  | _ :: _, _, _, _, ⟨v, r, e, a, b⟩, q => by subst e; exact ⟨v, _, rfl, a, RepL.app b q⟩
theorem RepL.get : ∀ {xs : List PV} {vs : List V} {i : Nat} {x : PV}, RepL K mg F xs vs → xs[i]? = some x → ∃ v, vs[i]? = some v ∧ Rep K mg F x v
  | [], _, _, _, _, h => by simp at h
  | _ :: _, _, 0, _, ⟨v, r, e, a, b⟩, h => by simp at h; subst h e; exact ⟨v, rfl, a⟩
  | _ :: _, _, i + 1, _, ⟨v, r, e, a, b⟩, h => by subst e; obtain ⟨w, h1, h2⟩ := RepL.get (i := i) b (by simpa using h); exact ⟨w, by simpa using h1, h2⟩
theorem RepL.set {x : PV} {v : V} (q : Rep K mg F x v) : ∀ {xs : List PV} {vs : List V} (i : Nat), RepL K mg F xs vs → RepL K mg F (xs.set i x) (vs.set i v)
  | [], _, _, r => by cases r; exact rfl
  | _ :: _, _, 0, ⟨w, r, e, a, b⟩ => by subst e; exact ⟨v, r, rfl, q, b⟩
  | _ :: _, _, i + 1, ⟨w, r, e, a, b⟩ => by subst e; exact ⟨w, _, rfl, a, RepL.set q i b⟩
theorem RepL.take : ∀ {xs : List PV} {vs : List V} (n : Nat), RepL K mg F xs vs → RepL K mg F (xs.take n) (vs.take n)
  | [], _, _, r => by cases r; simp [RepL]
  | _ :: _, _, 0, _ => by simp [RepL]
  | _ :: _, _, n + 1, ⟨w, r, e, a, b⟩ => by subst e; exact ⟨w, _, rfl, a, RepL.take n b⟩
theorem RepL.drop : ∀ {xs : List PV} {vs : List V} (n : Nat), RepL K mg F xs vs → RepL K mg F (xs.drop n) (vs.drop n)
  | [], _, _, r => by cases r; simp [RepL]
  | _ :: _, _, 0, r => r
  | _ :: _, _, n + 1, ⟨w, r, e, a, b⟩ => by subst e; exact RepL.drop n b
theorem RepL.one {x : PV} {v : V} (q : Rep K mg F x v) : RepL K mg F [x] [v] := ⟨v, [], rfl, q, rfl⟩

def RepS (K : PySem.W.Frag) (mg : PySem.Str → Option Value) (F : Hp) (ι : Plc) : SV → V → Prop
  | .v x, v => Rep K mg F x v
  | .l n, v => ∃ p, ι.l[n]? = some p ∧ v = .ref p
def RepSs (K : PySem.W.Frag) (mg : PySem.Str → Option Value) (F : Hp) (ι : Plc) : List SV → List V → Prop
  | [], vs => vs = []
  | x :: xs, vs => ∃ v r, vs = v :: r ∧ RepS K mg F ι x v ∧ RepSs K mg F ι xs r
def Ext (ι : Plc) (F : Hp) (ι' : Plc) (F' : Hp) : Prop := ((∃ t, ι'.l = ι.l ++ t) ∧ ι'.w = ι.w) ∧ Sub F F'
theorem Ext.refl : Ext ι F ι F := ⟨⟨⟨[], by simp⟩, rfl⟩, Sub.refl⟩
theorem Ext.trans {ι'' F''} (a : Ext ι F ι' F') (b : Ext ι' F' ι'' F'') : Ext ι F ι'' F'' := by
  obtain ⟨⟨⟨t, e⟩, w⟩, s⟩ := a
  obtain ⟨⟨⟨t', e'⟩, w'⟩, s'⟩ := b
  exact ⟨⟨⟨t ++ t', by rw [e', e, List.append_assoc]⟩, w'.trans w⟩, s.trans s'⟩
theorem Ext.ix (a : Ext ι F ι' F') {n : Nat} {p : Addr} (h : ι.l[n]? = some p) : ι'.l[n]? = some p := by
  obtain ⟨⟨⟨t, e⟩, _⟩, _⟩ := a
  rw [e, List.getElem?_append_left (List.getElem?_eq_some_iff.mp h).1]; exact h
theorem RepS.mono (a : Ext ι F ι' F') : ∀ {x : SV} {v : V}, RepS K mg F ι x v → RepS K mg F' ι' x v
  | .v _, _, r => Rep.mono a.2 r
  | .l _, _, ⟨p, h, e⟩ => ⟨p, a.ix h, e⟩
theorem RepSs.mono (a : Ext ι F ι' F') : ∀ {xs : List SV} {vs : List V}, RepSs K mg F ι xs vs → RepSs K mg F' ι' xs vs
  | [], _, r => r
  | _ :: _, _, ⟨v, r, e, q, t⟩ => ⟨v, r, e, RepS.mono a q, RepSs.mono a t⟩
theorem RepSs.length : ∀ {xs : List SV} {vs : List V}, RepSs K mg F ι xs vs → xs.length = vs.length
  | [], _, r => by cases r; rfl
  | _ :: _, _, ⟨v, r, e, a, b⟩ => by subst e; simp [RepSs.length b]
theorem RepSs.get : ∀ {xs : List SV} {vs : List V} {i : Nat} {x : SV}, RepSs K mg F ι xs vs → xs[i]? = some x → ∃ v, vs[i]? = some v ∧ RepS K mg F ι x v
  | [], _, _, _, _, h => by simp at h
  | _ :: _, _, 0, _, ⟨v, r, e, a, b⟩, h => by simp at h; subst h e; exact ⟨v, rfl, a⟩
  | _ :: _, _, i + 1, _, ⟨v, r, e, a, b⟩, h => by subst e; obtain ⟨w, h1, h2⟩ := RepSs.get (i := i) b (by simpa using h); exact ⟨w, by simpa using h1, h2⟩
theorem RepSs.pures : ∀ {xs : List SV} {vs : List V} {ys : List PV}, RepSs K mg F ι xs vs → pures? xs = some ys → RepL K mg F ys vs
  | [], _, _, r, h => by simp [pures?] at h; subst h; exact r
  | .v x :: xs, _, ys, ⟨v, r, e, a, b⟩, h => by
    simp only [pures?, Option.map_eq_some_iff] at h
    obtain ⟨zs, h1, h2⟩ := h
    subst h2 e
    exact ⟨v, r, rfl, a, RepSs.pures b h1⟩
  | .l _ :: _, _, _, _, h => by simp [pures?] at h

/-- a dict's key -/
def keyP : L2.Key → PV
  | .inl i => .int i
  | .inr s => .str s
def RepD (K : PySem.W.Frag) (mg : PySem.Str → Option Value) (F : Hp) : List (PV × PV) → List (L2.Key × V) → Prop
  | [], ws => ws = []
  | (k, x) :: r, ws => ∃ k' v t, ws = (k', v) :: t ∧ k = keyP k' ∧ Rep K mg F x v ∧ RepD K mg F r t
theorem RepD.mono (h : Sub F F') : ∀ {xs : List (PV × PV)} {ws : List (L2.Key × V)}, RepD K mg F xs ws → RepD K mg F' xs ws
  | [], _, r => r
  | (_, _) :: _, _, ⟨k', v, t, e, a, b, c⟩ => ⟨k', v, t, e, a, b.mono h, RepD.mono h c⟩
theorem RepD.length : ∀ {xs : List (PV × PV)} {ws : List (L2.Key × V)}, RepD K mg F xs ws → xs.length = ws.length
  | [], _, r => by cases r; rfl
  | (_, _) :: _, _, ⟨k', v, t, e, a, b, c⟩ => by subst e; simp [RepD.length c]
def RepO (K : PySem.W.Frag) (mg : PySem.Str → Option Value) (F : Hp) : Ob → Addr → HO → Prop
  | .lst xs, a, o => F a = none ∧ ∃ vs, o = .lst vs ∧ RepL K mg F xs vs
  | .dic kvs, a, o => F a = none ∧ ∃ ws, o = .dK ws ∧ RepD K mg F kvs ws
  | .gone, _, _ => True
theorem RepO.mono (h : Sub F F') {x : Ob} {a : Addr} {o : HO} (n : x = .gone ∨ F' a = none) (r : RepO K mg F x a o) : RepO K mg F' x a o := by
  cases x with
  | lst xs => obtain ⟨_, vs, e, q⟩ := r; exact ⟨n.resolve_left (by simp), vs, e, q.mono h⟩
  | dic kvs => obtain ⟨_, ws, e, q⟩ := r; exact ⟨n.resolve_left (by simp), ws, e, q.mono h⟩
  | gone => trivial
structure Sim (K : PySem.W.Frag) (mg : PySem.Str → Option Value) (ι : Plc) (F : Hp) (S : Store) (H : Hp) : Prop where
  sub : Sub F H
  len : ι.l.length = S.length
  nd : ι.l.Nodup
  frm : ∀ a o, ι.w a = some o → H a = some o ∧ F a = none ∧ a ∉ ι.l
  at_ : ∀ (n : Nat) (x : Ob), S[n]? = some x → ∃ a o, ι.l[n]? = some a ∧ H a = some o ∧ RepO K mg F x a o
theorem Sim.has (s : Sim K mg ι F S H) {a : Addr} (h : a ∈ ι.l) : ∃ o, H a = some o := by
  obtain ⟨n, hn⟩ := List.getElem?_of_mem h
  have hl : n < S.length := by rw [← s.len]; exact (List.getElem?_eq_some_iff.mp hn).1
  obtain ⟨b, o, h1, h2, _⟩ := s.at_ n S[n] (List.getElem?_eq_getElem hl)
  rw [hn] at h1; cases h1
  exact ⟨o, h2⟩
theorem Sim.fresh (s : Sim K mg ι F S H) {p : Addr} (h : H p = none) : F p = none ∧ p ∉ ι.l := by
  refine ⟨?_, fun hp => ?_⟩
  · cases e : F p with
    | none => rfl
    | some o => rw [s.sub _ _ e] at h; cases h
  · obtain ⟨o, e⟩ := s.has hp
    rw [e] at h; cases h
theorem sub_upd {p : Addr} {o : HO} (h : F p = none) : Sub F (upd F p o) := fun a u e => by
  rw [upd_ne (ne_of_none e h)]; exact e
/-- a new thing that never changes -/
theorem Sim.newF (s : Sim K mg ι F S H) {p : Addr} {o : HO} (h : H p = none) : Sim K mg ι (upd F p o) S (upd H p o) ∧ Ext ι F ι (upd F p o) := by
  obtain ⟨hF, hp⟩ := s.fresh h
  refine ⟨⟨fun a u e => ?_, s.len, s.nd, fun a u e => ?_, fun n x e => ?_⟩, ⟨⟨⟨[], by simp⟩, rfl⟩, sub_upd hF⟩⟩
  · by_cases ha : a = p
    · subst ha; rw [upd_same] at e ⊢; exact e
    · rw [upd_ne ha] at e ⊢; exact s.sub _ _ e
  · obtain ⟨h1, h2, h3⟩ := s.frm a u e
    have ha : a ≠ p := ne_of_none h1 h
    exact ⟨by rw [upd_ne ha]; exact h1, by rw [upd_ne ha]; exact h2, h3⟩
  · obtain ⟨a, u, h1, h2, h3⟩ := s.at_ n x e
    have hap : a ≠ p := fun z => hp (z ▸ List.mem_of_getElem? h1)
    refine ⟨a, u, h1, by rw [upd_ne hap]; exact h2, h3.mono (sub_upd hF) ?_⟩
    cases x with
    | gone => exact .inl rfl
    | lst _ => right; rw [upd_ne hap]; exact h3.1
    | dic _ => right; rw [upd_ne hap]; exact h3.1
/-- a new place -/
theorem Sim.newL (s : Sim K mg ι F S H) {p : Addr} {x : Ob} {o : HO} (h : H p = none) (r : RepO K mg F x p o) : Sim K mg ⟨ι.l ++ [p], ι.w⟩ F (S ++ [x]) (upd H p o) ∧ Ext ι F ⟨ι.l ++ [p], ι.w⟩ F := by
  obtain ⟨hF, hp⟩ := s.fresh h
  refine ⟨⟨fun a u e => ?_, by simp [s.len], ?_, fun a u e => ?_, fun n y e => ?_⟩, ⟨⟨⟨[p], rfl⟩, rfl⟩, Sub.refl⟩⟩
  · rw [upd_ne (fun z => by subst z; rw [hF] at e; cases e)]; exact s.sub _ _ e
  · show (ι.l ++ [p]).Nodup
    rw [List.nodup_append]
    exact ⟨s.nd, by simp, fun a ha b hb => by simp at hb; subst hb; exact fun z => hp (z ▸ ha)⟩
  · obtain ⟨h1, h2, h3⟩ := s.frm a u e
    have ha : a ≠ p := ne_of_none h1 h
    exact ⟨by rw [upd_ne ha]; exact h1, h2, by simp [h3, ha]⟩
  · by_cases hn : n < S.length
    · rw [List.getElem?_append_left hn] at e
      obtain ⟨a, u, h1, h2, h3⟩ := s.at_ n y e
      have hap : a ≠ p := fun z => hp (z ▸ List.mem_of_getElem? h1)
      exact ⟨a, u, by show (ι.l ++ [p])[n]? = _; rw [List.getElem?_append_left (by rw [s.len]; exact hn)]; exact h1, by rw [upd_ne hap]; exact h2, h3⟩
    · have hn2 : n = S.length := by
        have := (List.getElem?_eq_some_iff.mp e).1
        simp at this; omega
      subst hn2
      simp at e; subst e
      exact ⟨p, o, by show (ι.l ++ [p])[S.length]? = _; rw [← s.len]; simp, upd_same, r⟩
/-- a place written -/
theorem Sim.write (s : Sim K mg ι F S H) {n : Nat} {a : Addr} {x : Ob} {o : HO} (hi : ι.l[n]? = some a) (hF : F a = none) (r : RepO K mg F x a o) : Sim K mg ι F (S.set n x) (upd H a o) := by
  refine ⟨fun b u e => ?_, by simp [s.len], s.nd, fun b u e => ?_, fun m y e => ?_⟩
  · rw [upd_ne (fun z => by subst z; rw [hF] at e; cases e)]; exact s.sub _ _ e
  · obtain ⟨h1, h2, h3⟩ := s.frm b u e
    exact ⟨by rw [upd_ne (fun z => by subst z; exact h3 (List.mem_of_getElem? hi))]; exact h1, h2, h3⟩
  · by_cases hm : m = n
    · subst hm
      have hl : m < S.length := by
        have := (List.getElem?_eq_some_iff.mp e).1
        simpa using this
      rw [List.getElem?_set_self hl] at e
      cases e
      exact ⟨a, o, hi, upd_same, r⟩
    · rw [List.getElem?_set_ne (Ne.symm hm)] at e
      obtain ⟨b, u, h1, h2, h3⟩ := s.at_ m y e
      have hba : b ≠ a := fun z => by
        subst z
        obtain ⟨l1, e1⟩ := List.getElem?_eq_some_iff.mp h1
        obtain ⟨l2, e2⟩ := List.getElem?_eq_some_iff.mp hi
        exact hm ((List.getElem_inj s.nd).mp (e1.trans e2.symm))
      exact ⟨b, u, h1, by rw [upd_ne hba]; exact h2, h3⟩
/-- a list's place is shut for ever -/
theorem Sim.shut (s : Sim K mg ι F S H) {n : Nat} {xs : List PV} (hn : S[n]? = some (.lst xs)) :
    ∃ a vs, ι.l[n]? = some a ∧ Sim K mg ι (upd F a (.lst vs)) (S.set n .gone) H ∧ Ext ι F ι (upd F a (.lst vs)) ∧ Rep K mg (upd F a (.lst vs)) (.lst xs) (.ref a) := by
  obtain ⟨a, o, h1, h2, h3, vs, e, h4⟩ := s.at_ n _ hn
  subst e
  have sb : Sub F (upd F a (.lst vs)) := sub_upd h3
  refine ⟨a, vs, h1, ⟨fun b u e => ?_, by simp [s.len], s.nd, fun b u e => ?_, fun m y e => ?_⟩, ⟨⟨⟨[], by simp⟩, rfl⟩, sb⟩, a, vs, rfl, .inl upd_same, h4.mono sb⟩
  · by_cases hb : b = a
    · subst hb; rw [upd_same] at e; cases e; exact h2
    · rw [upd_ne hb] at e; exact s.sub _ _ e
  · obtain ⟨k1, k2, k3⟩ := s.frm b u e
    exact ⟨k1, by rw [upd_ne (fun z => by subst z; exact k3 (List.mem_of_getElem? h1))]; exact k2, k3⟩
  · by_cases hm : m = n
    · subst hm
      have hl : m < S.length := (List.getElem?_eq_some_iff.mp hn).1
      rw [List.getElem?_set_self hl] at e
      cases e
      exact ⟨a, _, h1, h2, trivial⟩
    · rw [List.getElem?_set_ne (Ne.symm hm)] at e
      obtain ⟨b, u, g1, g2, g3⟩ := s.at_ m y e
      have hba : b ≠ a := fun z => by
        subst z
        obtain ⟨l1, e1⟩ := List.getElem?_eq_some_iff.mp g1
        obtain ⟨l2, e2⟩ := List.getElem?_eq_some_iff.mp h1
        exact hm ((List.getElem_inj s.nd).mp (e1.trans e2.symm))
      refine ⟨b, u, g1, g2, g3.mono sb ?_⟩
      cases y with
      | gone => exact .inl rfl
      | lst _ => right; rw [upd_ne hba]; exact g3.1
      | dic _ => right; rw [upd_ne hba]; exact g3.1
theorem Sim.take (s : Sim K mg ι F S H) (n : Nat) : Sim K mg ⟨ι.l.take n, ι.w⟩ F (S.take n) H := by
  refine ⟨s.sub, by simp [s.len], s.nd.sublist (List.take_sublist _ _), fun a u e => ?_, fun m x e => ?_⟩
  · obtain ⟨h1, h2, h3⟩ := s.frm a u e
    exact ⟨h1, h2, fun h => h3 (List.mem_of_mem_take h)⟩
  · have hm : m < n := by
      have := (List.getElem?_eq_some_iff.mp e).1
      simp at this; omega
    rw [List.getElem?_take_of_lt hm] at e
    show ∃ a o, (ι.l.take n)[m]? = some a ∧ _
    rw [List.getElem?_take_of_lt hm]
    exact s.at_ m x e
/-- one more thing that stands apart -/
theorem Sim.apart (s : Sim K mg ι F S H) {p : Addr} {o : HO} (hH : H p = some o) (hF : F p = none) (hι : p ∉ ι.l) : Sim K mg ⟨ι.l, upd ι.w p o⟩ F S H :=
  ⟨s.sub, s.len, s.nd, fun a u e => by
    by_cases ha : a = p
    · subst ha
      have e : upd ι.w a o a = some u := e
      rw [upd_same] at e; cases e
      exact ⟨hH, hF, hι⟩
    · have e : upd ι.w p o a = some u := e
      rw [upd_ne ha] at e; exact s.frm a u e, s.at_⟩
/-- what stands apart is changed -/
theorem Sim.drop (s : Sim K mg ι F S H) {D : Addr} {o : HO} (hF : F D = none) (hι : D ∉ ι.l) (hw : ι.w D = none) : Sim K mg ι F S (upd H D o) := by
  refine ⟨fun a u e => ?_, s.len, s.nd, fun a u e => ?_, fun n x e => ?_⟩
  · rw [upd_ne (fun z => by subst z; rw [hF] at e; cases e)]; exact s.sub _ _ e
  · obtain ⟨h1, h2, h3⟩ := s.frm a u e
    exact ⟨by rw [upd_ne (fun z => by subst z; rw [hw] at e; cases e)]; exact h1, h2, h3⟩
  · obtain ⟨a, u, h1, h2, h3⟩ := s.at_ n x e
    exact ⟨a, u, h1, by rw [upd_ne (fun z => by subst z; exact hι (List.mem_of_getElem? h1))]; exact h2, h3⟩
/-- less stands apart -/
theorem Sim.forget (s : Sim K mg ι F S H) {w : Hp} (h : Sub w ι.w) : Sim K mg ⟨ι.l, w⟩ F S H := ⟨s.sub, s.len, s.nd, fun a u e => s.frm a u (h a u e), s.at_⟩
/-- the items of a list or a tuple -/
theorem Sim.seq (s : Sim K mg ι F S H) {x : SV} {v : V} {t : Bool} {xs : List PV} (r : RepS K mg F ι x v) (h : seqOf S x = some (t, xs)) :
    ∃ p vs, v = .ref p ∧ RepL K mg F xs vs ∧ (if t = true then Rd H p (.lst vs) else SqT K H p vs) := by
  cases x with
  | v x =>
    cases x <;> simp only [seqOf, Option.some.injEq, Prod.mk.injEq, reduceCtorEq] at h
    · obtain ⟨rfl, rfl⟩ := h
      obtain ⟨p, vs, e, q, z⟩ := r
      exact ⟨p, vs, e, z, by simpa using s.sub.sqT q⟩
    · obtain ⟨rfl, rfl⟩ := h
      obtain ⟨p, vs, e, q, z⟩ := r
      exact ⟨p, vs, e, z, by simpa using s.sub.rd q⟩
  | l n =>
    obtain ⟨p, hp, rfl⟩ := r
    simp only [seqOf] at h
    split at h
    · rename_i ys e
      simp only [Option.some.injEq, Prod.mk.injEq] at h
      obtain ⟨rfl, rfl⟩ := h
      obtain ⟨a, o, h1, h2, h3, vs, e2, h4⟩ := s.at_ n _ e
      rw [hp] at h1; cases h1
      subst e2
      exact ⟨p, vs, rfl, h4, by simpa using Rd.of h2⟩
    · cases h
theorem Sim.dic (s : Sim K mg ι F S H) {x : SV} {v : V} {kvs : List (PV × PV)} (r : RepS K mg F ι x v) (h : dicOf S x = some kvs) :
    ∃ n p ws, x = .l n ∧ ι.l[n]? = some p ∧ S[n]? = some (.dic kvs) ∧ v = .ref p ∧ F p = none ∧ H p = some (.dK ws) ∧ RepD K mg F kvs ws := by
  cases x with
  | v x => simp [dicOf] at h
  | l n =>
    obtain ⟨p, hp, rfl⟩ := r
    simp only [dicOf] at h
    split at h
    · rename_i ys e
      cases h
      obtain ⟨a, o, h1, h2, h3, ws, e2, h4⟩ := s.at_ n _ e
      rw [hp] at h1; cases h1
      subst e2
      exact ⟨n, p, ws, rfl, hp, e, rfl, h3, h2, h4⟩
    · cases h
end

/-! ### slots -/
def RepR (K : PySem.W.Frag) (mg : PySem.Str → Option Value) (F : Hp) (ι : Plc) (ρ : Slots) (σ : L2.St) : Prop :=
  ρ.length = σ.length ∧ ∀ (i : Nat) (x : SV), ρ[i]? = some (some x) → ∃ v, σ[i]? = some (some v) ∧ RepS K mg F ι x v
section
variable {K : PySem.W.Frag} {mg : PySem.Str → Option Value} {F F' H H' : Hp} {ι ι' : Plc} {S S' : Store} {ρ ρ' : Slots} {σ σ' : L2.St}
theorem RepR.mono (a : Ext ι F ι' F') (r : RepR K mg F ι ρ σ) : RepR K mg F' ι' ρ σ := ⟨r.1, fun i x h => by
  obtain ⟨v, h1, h2⟩ := r.2 i x h
  exact ⟨v, h1, h2.mono a⟩⟩
theorem RepR.set {x : SV} {v : V} (r : RepR K mg F ι ρ σ) (q : RepS K mg F ι x v) (i : Nat) : RepR K mg F ι (ρ.set i (some x)) (σ.set i (some v)) := by
  refine ⟨by simp [r.1], fun j y h => ?_⟩
  by_cases hj : j = i
  · subst hj
    have hl : j < ρ.length := by
      have := (List.getElem?_eq_some_iff.mp h).1
      simpa using this
    rw [List.getElem?_set_self hl] at h
    cases h
    exact ⟨v, by rw [List.getElem?_set_self (by rw [← r.1]; exact hl)], q⟩
  · rw [List.getElem?_set_ne (Ne.symm hj)] at h
    obtain ⟨w, h1, h2⟩ := r.2 j y h
    exact ⟨w, by rw [List.getElem?_set_ne (Ne.symm hj)]; exact h1, h2⟩
/-- a slot's new value, the frame's slot as it is -/
theorem RepR.setL {x : SV} {v : V} (r : RepR K mg F ι ρ σ) (q : RepS K mg F ι x v) {i : Nat} (h : σ[i]? = some (some v)) : RepR K mg F ι (ρ.set i (some x)) σ := by
  refine ⟨by simp [r.1], fun j y h' => ?_⟩
  by_cases hj : j = i
  · subst hj
    have hl : j < ρ.length := by
      have := (List.getElem?_eq_some_iff.mp h').1
      simpa using this
    rw [List.getElem?_set_self hl] at h'
    cases h'
    exact ⟨v, h, q⟩
  · rw [List.getElem?_set_ne (Ne.symm hj)] at h'
    exact r.2 j y h'
theorem RepR.forget (r : RepR K mg F ι ρ σ) (i : Nat) : RepR K mg F ι (ρ.set i none) σ := by
  refine ⟨by simp [r.1], fun j y h => ?_⟩
  by_cases hj : j = i
  · subst hj
    have hl : j < ρ.length := by
      have := (List.getElem?_eq_some_iff.mp h).1
      simpa using this
    rw [List.getElem?_set_self hl] at h
    cases h
  · rw [List.getElem?_set_ne (Ne.symm hj)] at h
    exact r.2 j y h
theorem RepR.wipe (r : RepR K mg F ι ρ σ) : ∀ w : List Nat, RepR K mg F ι (wipeS ρ w) σ
  | [] => r
  | i :: is => (RepR.wipe r is).forget i
theorem RepR.wipe2 (r : RepR K mg F ι ρ σ) : ∀ w : List Nat, RepR K mg F ι (wipeS ρ w) (L2.wipe σ w)
  | [] => r
  | i :: is => by
    have q := RepR.wipe2 r is
    refine ⟨by simp [wipeS, L2.wipe, q.1], fun j y h => ?_⟩
    simp only [wipeS] at h
    by_cases hj : j = i
    · subst hj
      have hl : j < (wipeS ρ is).length := by
        have := (List.getElem?_eq_some_iff.mp h).1
        simpa using this
      rw [List.getElem?_set_self hl] at h
      cases h
    · rw [List.getElem?_set_ne (Ne.symm hj)] at h
      obtain ⟨v, h1, h2⟩ := q.2 j y h
      exact ⟨v, by simp only [L2.wipe]; rw [List.getElem?_set_ne (Ne.symm hj)]; exact h1, h2⟩
theorem RepR.get {i : Nat} {x : SV} (r : RepR K mg F ι ρ σ) (h : getS ρ i = some x) : ∃ v, σ[i]? = some (some v) ∧ RepS K mg F ι x v := by
  unfold getS at h
  split at h
  · cases h; rename_i y e; exact r.2 i _ e
  · cases h
end

/-! ### readings -/
section
variable (K : PySem.W.Frag) (mg : PySem.Str → Option Value)
def rdE (f : VS) : TE := fun σ H Q => ∃ ι F S ρ x S', Sim K mg ι F S H ∧ RepR K mg F ι ρ σ ∧ f ρ S = .ok x S' ∧
  ∀ ι' F' v H', Ext ι F ι' F' → Sim K mg ι' F' S' H' → RepS K mg F' ι' x v → Q v H'
def rdT (f : Slots → Store → Out Bool) : TT := fun σ H Q => ∃ ι F S ρ x S', Sim K mg ι F S H ∧ RepR K mg F ι ρ σ ∧ f ρ S = .ok x S' ∧
  ∀ ι' F' H', Ext ι F ι' F' → Sim K mg ι' F' S' H' → Q x H'
def rdA (f : LS) : TA := fun σ H Q => ∃ ι F S ρ xs S', Sim K mg ι F S H ∧ RepR K mg F ι ρ σ ∧ f ρ S = .ok xs S' ∧
  ∀ ι' F' vs H', Ext ι F ι' F' → Sim K mg ι' F' S' H' → RepSs K mg F' ι' xs vs → Q vs H'
/-- by values: one, two, several -/
def rd1 (f : SV → Store → Out SV) : V → Hp → VK → Prop := fun v H Q => ∃ ι F S x y S', Sim K mg ι F S H ∧ RepS K mg F ι x v ∧ f x S = .ok y S' ∧
  ∀ ι' F' w H', Ext ι F ι' F' → Sim K mg ι' F' S' H' → RepS K mg F' ι' y w → Q w H'
def rd2 (f : SV → SV → Store → Out SV) : V → V → Hp → VK → Prop := fun v w H Q => ∃ ι F S x y z S', Sim K mg ι F S H ∧ RepS K mg F ι x v ∧ RepS K mg F ι y w ∧ f x y S = .ok z S' ∧
  ∀ ι' F' u H', Ext ι F ι' F' → Sim K mg ι' F' S' H' → RepS K mg F' ι' z u → Q u H'
def rdV (f : List SV → Store → Out SV) : List V → Hp → VK → Prop := fun vs H Q => ∃ ι F S xs y S', Sim K mg ι F S H ∧ RepSs K mg F ι xs vs ∧ f xs S = .ok y S' ∧
  ∀ ι' F' w H', Ext ι F ι' F' → Sim K mg ι' F' S' H' → RepS K mg F' ι' y w → Q w H'
/-- a statement's -/
def rdEnd (D : Ends) (ι : Plc) (F : Hp) (r : Flow) (S' : Store) : Prop := ∀ ι' F' H', Ext ι F ι' F' → Sim K mg ι' F' S' H' → match r with
  | .next ρ => ∀ σ, RepR K mg F' ι' ρ σ → D.nx σ H'
  | .brk ρ => ∀ σ, RepR K mg F' ι' ρ σ → D.bk σ H'
  | .cnt ρ => ∀ σ, RepR K mg F' ι' ρ σ → D.ct σ H'
  | .ret x => ∀ v, RepS K mg F' ι' x v → D.rt v H'
def rdS (f : Slots → Store → Out Flow) : TS := fun D σ H => ∃ ι F S ρ r S', Sim K mg ι F S H ∧ RepR K mg F ι ρ σ ∧ f ρ S = .ok r S' ∧ rdEnd K mg D ι F r S'
/-- a def's promise -/
def spF (f : Fn) (n : Nat) : Sp := fun vs H Q _ => vs.length = n ∧ rdV K mg f vs H Q
end
section
variable {X : Cx} {e : Expr} {es : List Expr}
theorem pe_mono {t t' : TE} (h : PE X e t) (m : ∀ σ H Q, t' σ H Q → t σ H Q) : PE X e t' := ⟨fun pins s σ H Q I q => h.run pins s σ H Q I (m σ H Q q)⟩
theorem pt_mono {t t' : TT} (h : PT X e t) (m : ∀ σ H Q, t' σ H Q → t σ H Q) : PT X e t' := ⟨fun pins s σ H Q I q => h.run pins s σ H Q I (m σ H Q q)⟩
theorem pw_mono {t t' : TT} (h : PW X e t) (m : ∀ σ H Q, t' σ H Q → t σ H Q) : PW X e t' := ⟨fun wh pins s σ H Q I q => h.run wh pins s σ H Q I (m σ H Q q)⟩
theorem pa_mono {t t' : TA} (h : PA X es t) (m : ∀ σ H Q, t' σ H Q → t σ H Q) : PA X es t' := ⟨fun pos pins s σ H Q I q => h.run pos pins s σ H Q I (m σ H Q q)⟩
theorem ps_mono {st : Stmt} {t t' : TS} (h : PS X st t) (m : ∀ D σ H, t' D σ H → t D σ H) : PS X st t' := ⟨fun pins s σ H D I q => h.run pins s σ H D I (m D σ H q)⟩
theorem pss_mono {st : List Stmt} {t t' : TS} (h : PSs X st t) (m : ∀ D σ H, t' D σ H → t D σ H) : PSs X st t' := ⟨fun pins s σ H D I q => h.run pins s σ H D I (m D σ H q)⟩
theorem opR_mono {f : Value → Value → Sem Value} {r r' : R2} (h : OpR X f r) (m : ∀ x y H Q, r' x y H Q → r x y H Q) : OpR X f r' := fun pins s σ H x y v u Q I rx ry q => h pins s σ H x y v u Q I rx ry (m _ _ _ _ q)
theorem bind_ok {α β : Type} {a : Out α} {f : α → Store → Out β} {y : β} {S' : Store} (h : a.bind f = .ok y S') : ∃ x S1, a = .ok x S1 ∧ f x S1 = .ok y S' := by
  cases a with
  | ok x S1 => exact ⟨x, S1, rfl, h⟩
  | exc c as S => simp [Out.bind] at h
  | bad => simp [Out.bind] at h
end
end FW

/-! FW: a tuple times a small number. -/
namespace FW
open PySem PySem.Spec PyProof.Rows L2
section
variable (l : Addr) (its : Array Value) (ep : Nat) (dc : Option Addr) (sl : Array (Option Value)) (k : Int) (tk : Tok)
theorem tmul_same (big : (decide (k < -(2 ^ 63)) || decide (k ≥ 2 ^ 63)) = false) (one : (its.isEmpty || k == 1) = true) : Meets (Builtin.«tuple.__mul__» ⟨[.ref l, .int k tk], []⟩) (fun _ R s => s.heap.get? l = some { cls := .type "tuple", dict := dc, data := .seq its ep, slots := sl } ∧ R (.ok (.ret (Value.ref l))) s) :=
  .of_wp fun prog w A R s h => by
    obtain ⟨hp, gs, dr, tks, os⟩ := s
    obtain ⟨at_, goal⟩ := h
    have ix := AutoSeq1.idx_int
    wp_walk using wpAny_loadPart' at_
    refine wpAny_ite_false (decide_eq_false (by rw [big]; exact Bool.false_ne_true)) ?_
    wp_walk using wpAny_loadPart' at_
    exact ⟨_, rfl, goal⟩
theorem tmul_none (big : (decide (k < -(2 ^ 63)) || decide (k ≥ 2 ^ 63)) = false) (one : (its.isEmpty || k == 1) = false) (low : (decide (k ≤ 0) || its.isEmpty) = true) : Meets (Builtin.«tuple.__mul__» ⟨[.ref l, .int k tk], []⟩) (fun _ R s => s.heap.get? l = some { cls := .type "tuple", dict := dc, data := .seq its ep, slots := sl } ∧
    R (.ok (.ret (Value.ref s.heap.objs.size))) { s with heap := s.heap.push { cls := Value.type "tuple", data := Data.seq #[] }, toks := s.toks }) :=
  .of_wp fun prog w A R s h => by
    obtain ⟨hp, gs, dr, tks, os⟩ := s
    obtain ⟨at_, goal⟩ := h
    have ix := AutoSeq1.idx_int
    wp_walk using wpAny_loadPart' at_
    refine wpAny_ite_false (decide_eq_false (by rw [big]; exact Bool.false_ne_true)) ?_
    wp_walk using wpAny_loadPart' at_
    exact ⟨_, rfl, goal⟩
end
section
variable {X : Cx}
/-- t * k, where that is t itself or nothing -/
def rMulT (K : PySem.W.Frag) : R2 := fun x y H Q => ∃ l k xs, x = .ref l ∧ y = .int k ∧ SqT K H l xs ∧ -1000 ≤ k ∧ k ≤ 1000 ∧ (((xs = [] ∨ k = 1) ∧ Q (.ref l) H) ∨ (xs ≠ [] ∧ k ≤ 0 ∧ ∀ p, H p = none → Q (.ref p) (upd H p (.tup []))))
theorem op_mulT : OpR X (binaryOp .Mult) (rMulT X.K) := by
  intro pins s σ H x y v u Q I rx ry h
  obtain ⟨l, k, xs, rfl, rfl, hq, lo, hi, h⟩ := h
  cases rx
  obtain ⟨tk, rfl⟩ := ry
  obtain ⟨its, rv, ⟨⟨cl, dc, dt, sl⟩, ho, hcl, ep, hdt⟩, hz⟩ := I.tuple hq
  simp only at hcl hdt
  subst hcl hdt
  have len : its.length = xs.length := rv.length.symm
  have big : (decide (k < -(2 ^ 63)) || decide (k ≥ 2 ^ 63)) = false := by rw [decide_eq_false (by omega), decide_eq_false (by omega)]; rfl
  have e0 : its.toArray.isEmpty = xs.isEmpty := by cases its <;> cases xs <;> simp_all
  rcases h with ⟨h1, q⟩ | ⟨h1, h2, q⟩
  · have one : (its.toArray.isEmpty || k == 1) = true := by
      rw [e0]
      rcases h1 with rfl | rfl
      · rfl
      · simp
    refine wpAny_binaryOp_repeat_ref (T := "tuple") (U := "int") (by decide) ⟨_, ho, rfl⟩ (fun s' => typeIs_int s' k tk) noFill_tuple_mul F.fills_int_mul F.slot_int_rmul repeat_tuple F.slot_int_index.lookup (call_meets F.slot_int_rmul (typeIs_int s k tk) F.entry_int_rmul (F.args_int_rmul_2 _ _) (int_rmul_tuple k tk l its.toArray ep dc sl) ⟨ho, rfl, ⟨_, ho, rfl⟩, ?_⟩)
    exact call_meets F.slot_tuple_mul ⟨_, ho, rfl⟩ F.entry_tuple_mul (F.args_tuple_mul_2 _ _) (tmul_same l its.toArray ep dc sl k tk big one) ⟨ho, ⟨.ref l, H, I, rfl, q⟩⟩
  · have ne : its.toArray.isEmpty = false := by rw [e0]; cases xs <;> simp_all
    have one : (its.toArray.isEmpty || k == 1) = false := by rw [ne, Bool.false_or]; exact beq_eq_false_iff_ne.mpr (by omega)
    have low : (decide (k ≤ 0) || its.toArray.isEmpty) = true := by rw [decide_eq_true h2]; rfl
    refine wpAny_binaryOp_repeat_ref (T := "tuple") (U := "int") (by decide) ⟨_, ho, rfl⟩ (fun s' => typeIs_int s' k tk) noFill_tuple_mul F.fills_int_mul F.slot_int_rmul repeat_tuple F.slot_int_index.lookup (call_meets F.slot_int_rmul (typeIs_int s k tk) F.entry_int_rmul (F.args_int_rmul_2 _ _) (int_rmul_tuple k tk l its.toArray ep dc sl) ⟨ho, rfl, ⟨_, ho, rfl⟩, ?_⟩)
    refine call_meets F.slot_tuple_mul ⟨_, ho, rfl⟩ F.entry_tuple_mul (F.args_tuple_mul_2 _ _) (tmul_none l its.toArray ep dc sl k tk big one low) ⟨ho, ?_⟩
    refine ⟨.ref s.heap.objs.size, _, I.laid (t' := s.toks) (o := .tup []) (fun b ob e => Heap.get?_push_of_some _ e) (Nat.le_refl _) ⟨Nat.zero_le _, [], .nil, IsTup.new _ _⟩, rfl, q _ (I.hok.fresh (Nat.le_refl _))⟩
end
end FW

/-! FW: the operators. -/
namespace FW
open PySem PySem.Spec PyProof.Rows L2

theorem and_or_sum : ∀ a b : Nat, (a &&& b) + (a ||| b) = a + b := by
  intro a
  induction a using Nat.strongRecOn with
  | _ a ih =>
    intro b
    by_cases h : a = 0
    · subst h; simp
    · have i := ih (a / 2) (by omega) (b / 2)
      have e1 : (a &&& b) / 2 = a / 2 &&& b / 2 := Nat.and_div_two
      have e2 : (a ||| b) / 2 = a / 2 ||| b / 2 := Nat.or_div_two
      rw [← e1, ← e2] at i
      have e3 : (a &&& b) % 2 = (a % 2) &&& (b % 2) := Nat.and_mod_two_pow (n := 1)
      have e4 : (a ||| b) % 2 = (a % 2) ||| (b % 2) := Nat.or_mod_two_pow (n := 1)
      rcases Nat.mod_two_eq_zero_or_one a with ha | ha <;> rcases Nat.mod_two_eq_zero_or_one b with hb | hb <;> simp only [ha, hb] at e3 e4 <;> simp only [Nat.and_zero, Nat.zero_and, Nat.and_self, Nat.or_zero, Nat.zero_or, Nat.or_self, Nat.xor_zero, Nat.zero_xor, Nat.xor_self] at e3 e4 <;> (clear e1 e2 ih; omega)
theorem and_xor_sum : ∀ a b : Nat, 2 * (a &&& b) + (a ^^^ b) = a + b := by
  intro a
  induction a using Nat.strongRecOn with
  | _ a ih =>
    intro b
    by_cases h : a = 0
    · subst h; simp
    · have i := ih (a / 2) (by omega) (b / 2)
      have e1 : (a &&& b) / 2 = a / 2 &&& b / 2 := Nat.and_div_two
      have e2 : (a ^^^ b) / 2 = a / 2 ^^^ b / 2 := Nat.xor_div_two
      rw [← e1, ← e2] at i
      have e3 : (a &&& b) % 2 = (a % 2) &&& (b % 2) := Nat.and_mod_two_pow (n := 1)
      have e4 : (a ^^^ b) % 2 = (a % 2) ^^^ (b % 2) := Nat.xor_mod_two_pow (n := 1)
      rcases Nat.mod_two_eq_zero_or_one a with ha | ha <;> rcases Nat.mod_two_eq_zero_or_one b with hb | hb <;> simp only [ha, hb] at e3 e4 <;> simp only [Nat.and_zero, Nat.zero_and, Nat.and_self, Nat.or_zero, Nat.zero_or, Nat.or_self, Nat.xor_zero, Nat.zero_xor, Nat.xor_self] at e3 e4 <;> (clear e1 e2 ih; omega)
theorem line_eq : line = sizeLine := by rw [sizeLine_eq]; rfl
def opOf : BOp → Operator
  | .add => .Add | .sub => .Sub | .mul => .Mult | .fdiv => .FloorDiv | .mod => .Mod | .shl => .LShift | .shr => .RShift | .band => .BitAnd | .bor => .BitOr | .bxor => .BitXor | .pow => .Pow
def opC : COp → CmpOp
  | .eq => .Eq | .ne => .NotEq | .lt => .Lt | .le => .LtE | .gt => .Gt | .ge => .GtE | .is => .Is | .isnot => .IsNot | .isin => .In | .notin => .NotIn

section
variable {K : PySem.W.Frag} {mg : PySem.Str → Option Value} {F H : Hp} {ι : Plc} {S S' : Store}
theorem fin_mkL {m : Bool} {xs : List PV} {vs : List V} {z : SV} {Q : VK} (s : Sim K mg ι F S H) (r : RepL K mg F xs vs) (h : mkL m xs S = .ok z S')
    (q : ∀ ι' F' u H', Ext ι F ι' F' → Sim K mg ι' F' S' H' → RepS K mg F' ι' z u → Q u H') : vs.length ≤ sizeLine ∧ ∀ p, H p = none → Q (.ref p) (upd H p (.lst vs)) := by
  unfold mkL at h
  split at h
  · rename_i hl
    refine ⟨by rw [← r.length, ← line_eq]; exact hl, fun p hp => ?_⟩
    split at h
    · cases h
      obtain ⟨s', e⟩ := s.newL (x := .lst xs) (o := .lst vs) hp ⟨(s.fresh hp).1, vs, rfl, r⟩
      exact q _ _ _ _ e s' ⟨p, by rw [← s.len]; simp, rfl⟩
    · cases h
      obtain ⟨s', e⟩ := s.newF (o := .lst vs) hp
      exact q _ _ _ _ e s' ⟨p, vs, rfl, .inl upd_same, r.mono e.2⟩
  · cases h
theorem fin_mkT {xs : List PV} {vs : List V} {z : SV} {Q : VK} (s : Sim K mg ι F S H) (r : RepL K mg F xs vs) (h : mkT xs S = .ok z S')
    (q : ∀ ι' F' u H', Ext ι F ι' F' → Sim K mg ι' F' S' H' → RepS K mg F' ι' z u → Q u H') :
    vs.length ≤ sizeLine ∧ (∀ p, H p = none → Q (.ref p) (upd H p (.tup vs))) ∧ ∀ p, SqT K F p vs → Q (.ref p) H := by
  unfold mkT at h
  split at h
  · rename_i hl
    cases h
    refine ⟨by rw [← r.length, ← line_eq]; exact hl, fun p hp => ?_, fun p hp => ?_⟩
    · obtain ⟨s', e⟩ := s.newF (o := .tup vs) hp
      exact q _ _ _ _ e s' ⟨p, vs, rfl, .inl (.inl upd_same), r.mono e.2⟩
    · exact q _ _ _ _ Ext.refl s ⟨p, vs, rfl, hp, r⟩
  · cases h
/-- a tuple's own place among the frozen -/
theorem Sim.seqT (s : Sim K mg ι F S H) {x : SV} {v : V} {xs : List PV} (r : RepS K mg F ι x v) (h : seqOf S x = some (false, xs)) :
    ∃ p vs, v = .ref p ∧ RepL K mg F xs vs ∧ SqT K F p vs := by
  cases x with
  | v x =>
    cases x <;> simp only [seqOf, Option.some.injEq, Prod.mk.injEq, reduceCtorEq] at h
    · obtain ⟨_, rfl⟩ := h
      obtain ⟨p, vs, e, q, z⟩ := r
      exact ⟨p, vs, e, z, q⟩
    · cases h.1
  | l n =>
    simp only [seqOf] at h
    split at h <;> simp at h
theorem Sim.seqL (s : Sim K mg ι F S H) {x : SV} {v : V} {xs : List PV} (r : RepS K mg F ι x v) (h : seqOf S x = some (true, xs)) :
    ∃ p vs, v = .ref p ∧ RepL K mg F xs vs ∧ Rd H p (.lst vs) := by
  obtain ⟨p, vs, e, r', q⟩ := s.seq r h
  exact ⟨p, vs, e, r', by simpa using q⟩
end
section
variable {X : Cx}
theorem Inv.rdL {pins : List (Addr × Obj)} {σ : L2.St} {H : Hp} {s : Shared} {l : Addr} {xs : List V} (I : Inv X pins σ H s) (hH : Rd H l (.lst xs)) : xs.length ≤ sizeLine ∧ ∃ (its : List Value) (n : Nat), Vals xs its ∧ xs.length = its.length ∧ s.heap.get? l = some { cls := .type "list", data := .seq its.toArray n } := by
  obtain ⟨z, its, n, r, e⟩ := hH.ok I.hok
  exact ⟨z, its, n, r, r.length, e⟩
/-- list + list -/
def rCatR : R2 := fun x y H Q => ∃ l b xs zs, x = .ref l ∧ y = .ref b ∧ Rd H l (.lst xs) ∧ Rd H b (.lst zs) ∧ xs.length + zs.length ≤ sizeLine ∧ ∀ p, H p = none → Q (.ref p) (upd H p (.lst (xs ++ zs)))
theorem op_catR : OpR X (binaryOp .Add) rCatR := by
  intro pins s σ H x y v u Q I rx ry h
  obtain ⟨l, b, xs, zs, rfl, rfl, hH, hB, hz, q⟩ := h
  cases rx
  cases ry
  obtain ⟨z, its, n, r, hl, e⟩ := Inv.rdL I hH
  obtain ⟨z2, its2, n2, r2, hl2, e2⟩ := Inv.rdL I hB
  refine PySem.P.add_list e e2 ?_ (by rw [List.size_toArray, List.size_toArray]; omega)
  have ea : its.toArray ++ its2.toArray = (its ++ its2).toArray := by simp
  rw [ea]
  exact ⟨.ref _, _, I.lnew (t' := s.toks) (r.append r2) (by rw [List.length_append]; omega), rfl, q _ I.fresh⟩
def rRepR : R2 := fun x y H Q => ∃ l k xs, x = .ref l ∧ y = .int k ∧ Rd H l (.lst xs) ∧ -(2 ^ 63) ≤ k ∧ k < 2 ^ 63 ∧ xs.length * k.toNat ≤ sizeLine ∧
  ∀ p, H p = none → Q (.ref p) (upd H p (.lst (List.replicate k.toNat xs).flatten))
theorem op_repR : OpR X (binaryOp .Mult) rRepR := by
  intro pins s σ H x y v u Q I rx ry h
  obtain ⟨l, k, xs, rfl, rfl, hH, h1, h2, hz, q⟩ := h
  cases rx
  obtain ⟨t, rfl⟩ := ry
  obtain ⟨z, its, n, r, hl, e⟩ := Inv.rdL I hH
  have hlen : its.toArray.size * k.toNat ≤ sizeLine := by rw [List.size_toArray, ← hl]; exact hz
  have hcap : ¬ its.toArray.size * k.toNat > (2 ^ 63 - 1) / 8 := by
    have : (sizeLine : Nat) ≤ (2 ^ 63 - 1) / 8 := by decide
    omega
  have hfit : ¬ (!Builtin.List.listFitsIndex k) = true := by
    rw [fitsIndex_both h1 h2]
    exact Bool.false_ne_true
  have hlong : ¬ Builtin.List.listTooLong (its.toArray.size * k.toNat) = true := by
    rw [notLongL hlen]
    exact Bool.false_ne_true
  have hnew : List.foldl (fun x1 x2 => x1 ++ x2) #[] (List.replicate (if its.toArray.isEmpty = true then 0 else k.toNat) its.toArray) = (List.replicate k.toNat its).flatten.toArray := by
    have f0 : ∀ m : Nat, List.foldl (fun x1 x2 => x1 ++ x2) #[] (List.replicate m its.toArray) = (List.replicate m its).flatten.toArray := fun m => by
      have := foldl_rep its m []
      rw [List.nil_append] at this
      exact this
    rw [f0]
    cases its with
    | nil => simp
    | cons a r' => rw [if_neg (by simp)]
  refine wpAny_binaryOp_repeat_ref (T := "list") (U := "int") (by decide) ⟨_, e, rfl⟩ (fun s' => typeIs_int s' k t) noFill_list_mul F.fills_int_mul F.slot_int_rmul repeat_list F.slot_int_index.lookup
    (call_meets F.slot_int_rmul (typeIs_int s k t) F.entry_int_rmul (F.args_int_rmul_2 _ _) (int___rmul___int_list k t l its.toArray n)
      ⟨e, rfl, ⟨_, e, rfl⟩, call_meets F.slot_list_mul ⟨_, e, rfl⟩ F.entry_list_mul (F.args_list_mul_2 _ _) (AutoListH.list___mul___list_int_3 l its.toArray n k t hfit hcap hlong) ⟨e, ?_⟩⟩)
  rw [hnew]
  exact ⟨.ref _, _, I.lnew (t' := s.toks) (r.rep k.toNat) (by rw [PyProof.Rows.lm_len_rep_flat, Nat.mul_comm]; exact hz), rfl, q _ I.fresh⟩

theorem CMulF.ok {i j : Int} (h : mulOk i j = true) : IntMulOk i j := by
  have b : ∀ x : Int, Builtin.Int.intBits x ≤ x.natAbs.log2 + 1 := fun x => by
    unfold Builtin.Int.intBits
    split <;> omega
  have h1 := b i
  have h2 := b j
  have h3 : i.natAbs.log2 + j.natAbs.log2 < 100000000 := of_decide_eq_true h
  have e : bitsLine = 134217728 := by decide
  unfold IntMulOk
  intro z
  rw [Bool.and_eq_true] at z
  have z2 := z.2
  unfold Builtin.Int.intTooBig at z2
  have z3 := of_decide_eq_true z2
  rw [e] at z3
  omega
theorem noPylongF {i j : Int} (h : divOk i j = true) : j ≠ 0 ∧ Builtin.divisionGoesByPylong i j = false := by
  unfold divOk at h
  simp only [Bool.and_eq_true, Bool.or_eq_true, decide_eq_true_eq] at h
  refine ⟨h.1, ?_⟩
  rcases h.2 with h | h
  · exact PyProof.noPylong_of_log2 h
  · unfold Builtin.divisionGoesByPylong
    have hi : (if (i == 0) = true then 0 else i.natAbs.log2 / 30 + 1) ≤ 434 := by
      split
      · omega
      · omega
    simp only [Bool.and_eq_false_iff, decide_eq_false_iff_not]
    by_cases hj : (if (j == 0) = true then 0 else j.natAbs.log2 / 30 + 1) > 300
    · right; omega
    · left; exact hj
/-- an operator of two ints -/
theorem op_int (o : BOp) : OpR X (binaryOp (opOf o)) (fun x y H Q => ∃ i j k, x = .int i ∧ y = .int j ∧ intOp o i j = some k ∧ Q (.int k) H) := by
  intro pins s σ H x y v u Q I rx ry h
  obtain ⟨i, j, k, rfl, rfl, hk, q⟩ := h
  cases o <;> simp only [intOp] at hk
  · cases hk; exact op_add pins s σ H _ _ v u Q I rx ry ⟨i, j, rfl, rfl, q⟩
  · cases hk; exact op_sub pins s σ H _ _ v u Q I rx ry ⟨i, j, rfl, rfl, q⟩
  · split at hk
    · rename_i hc
      cases hk
      obtain ⟨t, rfl⟩ := rx
      obtain ⟨t', rfl⟩ := ry
      exact mul_int ⟨.int _, H, I.tok _, ⟨_, rfl⟩, q⟩ (CMulF.ok hc)
    · cases hk
  · split at hk
    · rename_i hc
      cases hk
      obtain ⟨t, rfl⟩ := rx
      obtain ⟨t', rfl⟩ := ry
      obtain ⟨h0, h1⟩ := noPylongF hc
      exact floordiv_int h0 ⟨.int _, H, I.tok _, ⟨_, rfl⟩, q⟩ (.inl h1)
    · cases hk
  · split at hk
    · cases hk
    · rename_i hc
      cases hk
      exact op_modN pins s σ H _ _ v u Q I rx ry ⟨i, j, rfl, rfl, hc, q⟩
  · split at hk
    · rename_i hc
      cases hk
      exact op_shl pins s σ H _ _ v u Q I rx ry ⟨i, j, rfl, rfl, hc, q⟩
    · cases hk
  · split at hk
    · rename_i hc
      cases hk
      exact op_shr pins s σ H _ _ v u Q I rx ry ⟨i, j, rfl, rfl, hc, q⟩
    · cases hk
  · split at hk
    · rename_i hc
      cases hk
      exact op_and pins s σ H _ _ v u Q I rx ry ⟨i, j, rfl, rfl, by show Q (V.int (Builtin.bitAnd i j)) H; rw [bitAnd_pp hc.1 hc.2]; exact q⟩
    · cases hk
  · split at hk
    · rename_i hc
      cases hk
      refine op_or pins s σ H _ _ v u Q I rx ry ⟨i, j, rfl, rfl, ?_⟩
      obtain ⟨a, rfl⟩ := Int.eq_ofNat_of_zero_le hc.1
      obtain ⟨b, rfl⟩ := Int.eq_ofNat_of_zero_le hc.2
      have e : Builtin.bitOr (a : Int) (b : Int) = ((a ||| b : Nat) : Int) := by
        rw [bitOr_and, bitAnd_pp (Int.natCast_nonneg a) (Int.natCast_nonneg b), Int.toNat_natCast, Int.toNat_natCast]
        have := and_or_sum a b
        omega
      show Q (V.int (Builtin.bitOr (a : Int) (b : Int))) H
      rw [e]; exact q
    · cases hk
  · split at hk
    · rename_i hc
      cases hk
      refine op_xor pins s σ H _ _ v u Q I rx ry ⟨i, j, rfl, rfl, ?_⟩
      obtain ⟨a, rfl⟩ := Int.eq_ofNat_of_zero_le hc.1
      obtain ⟨b, rfl⟩ := Int.eq_ofNat_of_zero_le hc.2
      have e : Builtin.bitXor (a : Int) (b : Int) = ((a ^^^ b : Nat) : Int) := by
        rw [bitXor_and, bitAnd_pp (Int.natCast_nonneg a) (Int.natCast_nonneg b), Int.toNat_natCast, Int.toNat_natCast]
        have := and_xor_sum a b
        omega
      show Q (V.int (Builtin.bitXor (a : Int) (b : Int))) H
      rw [e]; exact q
    · cases hk
  · split at hk
    · rename_i hc
      cases hk
      exact op_pow pins s σ H _ _ v u Q I rx ry ⟨i, j, rfl, rfl, hc, q⟩
    · cases hk

theorem RepL.rep {K : PySem.W.Frag} {mg : PySem.Str → Option Value} {F : Hp} {xs : List PV} {vs : List V} (r : RepL K mg F xs vs) : ∀ n : Nat, RepL K mg F (FW.rep n xs) (List.replicate n vs).flatten
  | 0 => by simp [FW.rep, RepL]
  | n + 1 => by
    have := RepL.rep r n
    simp only [FW.rep, List.replicate_succ, List.flatten_cons] at this ⊢
    exact r.app this
theorem op_bin (o : BOp) (m : Bool) : OpR X (binaryOp (opOf o)) (rd2 X.K X.mg (binOp o m)) := by
  intro pins s σ H x y v u Q I rx ry h
  obtain ⟨ι, F, S, sx, sy, z, S', sim, r1, r2, h, q⟩ := h
  unfold binOp at h
  split at h
  · split at h
    · rename_i i j _ k hk
      cases h
      cases r1; cases r2
      exact op_int o pins s σ H _ _ v u Q I rx ry ⟨i, j, k, rfl, rfl, hk, q _ _ _ _ Ext.refl sim rfl⟩
    · cases h
  · split at h
    · split at h
      · rename_i a b _ hl
        cases h
        obtain ⟨rfl, _⟩ := r1
        obtain ⟨rfl, _⟩ := r2
        exact op_add_str pins s σ H _ _ v u Q I rx ry ⟨a, b, rfl, rfl, by rw [← line_eq]; exact hl.1, q _ _ _ _ Ext.refl sim ⟨rfl, hl.2⟩⟩
      · cases h
    · cases h
  · split at h
    · rename_i i b _
      cases h
      cases r1; cases r2
      exact op_add_ib pins s σ H _ _ v u Q I rx ry ⟨i, b, rfl, rfl, by unfold b2i; exact q _ _ _ _ Ext.refl sim rfl⟩
    · cases h
  · cases r2
    split at h
    · rename_i _ j _ _ _ xs hs
      obtain ⟨p, vs, rfl, r, hp⟩ := sim.seqL r1 hs
      split at h
      · rename_i hc
        obtain ⟨hl, g⟩ := fin_mkL sim (r.rep j.toNat) h q
        exact op_repR pins s σ H _ _ v u Q I rx ry ⟨p, j, vs, rfl, rfl, hp, by omega, by omega, by rw [← r.length, ← line_eq]; exact hc.1, g⟩
      · cases h
    · rename_i _ j _ _ _ xs hs
      obtain ⟨p, vs, rfl, r, hp⟩ := sim.seqT r1 hs
      split at h
      · rename_i hc
        obtain ⟨hl, g, g2⟩ := fin_mkT sim (r.rep j.toNat) h q
        by_cases hne : vs = [] ∨ j = 1
        · refine op_mulT pins s σ H _ _ v u Q I rx ry ⟨p, j, vs, rfl, rfl, sim.sub.sqT hp, hc.1, hc.2.1, .inl ⟨hne, g2 p ?_⟩⟩
          have e : (List.replicate j.toNat vs).flatten = vs := by
            rcases hne with rfl | rfl
            · simp
            · simp
          rw [e]
          exact hp
        · by_cases h0 : j ≤ 0
          · refine op_mulT pins s σ H _ _ v u Q I rx ry ⟨p, j, vs, rfl, rfl, sim.sub.sqT hp, hc.1, hc.2.1, .inr ⟨fun e => hne (.inl e), h0, fun p' hp' => ?_⟩⟩
            have := g p' hp'
            rw [show j.toNat = 0 by omega] at this
            exact this
          · exact op_repT pins s σ H _ _ v u Q I rx ry ⟨p, j, vs, rfl, rfl, sim.sub.sqT hp, fun e => hne (.inl e), by omega, hc.2.1, by rw [← r.length]; exact hc.2.2, g⟩
      · cases h
    · cases h
  · split at h
    · rename_i xs ys hs ht
      obtain ⟨p, vs, rfl, r, hp⟩ := sim.seqL r1 hs
      obtain ⟨p2, ws, rfl, r', hp2⟩ := sim.seqL r2 ht
      obtain ⟨hl, g⟩ := fin_mkL sim (r.app r') h q
      exact op_catR pins s σ H _ _ v u Q I rx ry ⟨p, p2, vs, ws, rfl, rfl, hp, hp2, by rw [List.length_append] at hl; exact hl, g⟩
    · rename_i xs ys hs ht
      obtain ⟨p, vs, rfl, r, hp⟩ := sim.seqT r1 hs
      obtain ⟨p2, ws, rfl, r', hp2⟩ := sim.seqT r2 ht
      obtain ⟨hl, g, g2⟩ := fin_mkT sim (r.app r') h q
      refine op_catA pins s σ H _ _ v u Q I rx ry ⟨p, p2, vs, ws, rfl, rfl, sim.sub.sqT hp, sim.sub.sqT hp2, by rw [List.length_append] at hl; exact hl, fun e => ?_, fun _ e => ?_, fun _ _ => g⟩
      · subst e; exact g2 p2 hp2
      · subst e; rw [List.append_nil] at g2; exact g2 p hp
    · cases h

/-! ### comparisons -/
mutual
def pd : PV → PyData
  | .non => .none
  | .bl b => .bool b
  | .int i => .int i
  | .str s => .str s
  | .tup xs => .tuple (pds xs)
  | .lst xs => .list (pds xs)
  | .fn _ => .none
def pds : List PV → List PyData
  | [] => []
  | x :: xs => pd x :: pds xs
end
mutual
theorem pd_lay {K : PySem.W.Frag} {mg : PySem.Str → Option Value} {F : Hp} : ∀ {x : PV} {v : V}, Rep K mg F x v → (pd x).canLay0 = true
  | .non, _, _ => by simp [pd, PyData.canLay0]
  | .bl _, _, _ => by simp [pd, PyData.canLay0]
  | .int _, _, _ => by simp [pd, PyData.canLay0]
  | .str s, _, h => by simp only [pd, PyData.canLay0]; exact h.2
  | .tup xs, _, ⟨_, _, _, _, r⟩ => by simp only [pd, PyData.canLay0]; exact pds_lay r
  | .lst xs, _, ⟨_, _, _, _, r⟩ => by simp only [pd, PyData.canLay0]; exact pds_lay r
  | .fn _, _, _ => by simp [pd, PyData.canLay0]
theorem pds_lay {K : PySem.W.Frag} {mg : PySem.Str → Option Value} {F : Hp} : ∀ {xs : List PV} {vs : List V}, RepL K mg F xs vs → PyData.canLayAll0 (pds xs) = true
  | [], _, _ => by simp [pds, PyData.canLayAll0]
  | _ :: _, _, ⟨_, _, _, a, b⟩ => by simp [pds, PyData.canLayAll0, pd_lay a, pds_lay b]
end
mutual
theorem pd_depth : ∀ {n : Nat} {x : PV}, dpLe n x = true → (pd x).depth ≤ n
  | _, .non, _ => by simp [pd, PyData.depth]
  | _, .bl _, _ => by simp [pd, PyData.depth]
  | _, .int _, _ => by simp [pd, PyData.depth]
  | _, .str s, _ => by simp [pd, PyData.depth]
  | _, .fn _, _ => by simp [pd, PyData.depth]
  | 0, .tup xs, h => by simp [dpLe] at h
  | 0, .lst xs, h => by simp [dpLe] at h
  | n + 1, .tup xs, h => by simp only [dpLe] at h; simp only [pd, PyData.depth]; have := pds_depth h; omega
  | n + 1, .lst xs, h => by simp only [dpLe] at h; simp only [pd, PyData.depth]; have := pds_depth h; omega
theorem pds_depth : ∀ {n : Nat} {xs : List PV}, dpLes n xs = true → PyData.depthAll (pds xs) ≤ n
  | _, [], _ => by simp [pds, PyData.depthAll]
  | _, x :: xs, h => by
    simp only [dpLes, Bool.and_eq_true] at h
    simp only [pds, PyData.depthAll]
    have := pd_depth h.1
    have := pds_depth h.2
    omega
end
mutual
theorem pd_eqv : ∀ x y : PV, PyData.eqv (pd x) (pd y) = eqv x y
  | .non, y => by cases y <;> rfl
  | .bl a, y => by cases y <;> first | rfl | (simp only [pd, PyData.eqv, eqv]; rw [Bool.beq_eq_decide_eq])
  | .int i, y => by cases y <;> first | rfl | (simp only [pd, PyData.eqv, eqv]; rw [Bool.beq_eq_decide_eq])
  | .str s, y => by cases y <;> first | rfl | (simp only [pd, PyData.eqv, eqv]; rw [Bool.beq_eq_decide_eq])
  | .tup xs, y => by cases y <;> first | rfl | (simp only [pd, PyData.eqv, eqv]; exact pds_eqv xs _)
  | .lst xs, y => by cases y <;> first | rfl | (simp only [pd, PyData.eqv, eqv]; exact pds_eqv xs _)
  | .fn _, y => by cases y <;> rfl
theorem pds_eqv : ∀ xs ys : List PV, PyData.eqvAll (pds xs) (pds ys) = eqvs xs ys
  | [], ys => by cases ys <;> rfl
  | x :: xs, [] => rfl
  | x :: xs, y :: ys => by simp only [pds, PyData.eqvAll, eqvs]; rw [pd_eqv x y, pds_eqv xs ys]
end
mutual
theorem Rep.dp {K : PySem.W.Frag} {mg : PySem.Str → Option Value} {F H : Hp} (hs : Sub F H) : ∀ {x : PV} {v : V}, Rep K mg F x v → noFn x = true → Dp K H v (pd x)
  | .non, _, h, _ => by cases h; exact .non
  | .bl _, _, h, _ => by cases h; exact .bl _
  | .int _, _, h, _ => by cases h; exact .int _
  | .str s, _, h, _ => by obtain ⟨rfl, _⟩ := h; exact .str _
  | .tup xs, _, ⟨_, _, e, q, r⟩, n => by subst e; exact .tup (hs.sqT q) (RepL.dp hs r n)
  | .lst xs, _, ⟨_, _, e, q, r⟩, n => by subst e; exact .lst (.inl (hs.rd q)) (RepL.dp hs r n)
  | .fn _, _, _, n => by cases n
theorem RepL.dp {K : PySem.W.Frag} {mg : PySem.Str → Option Value} {F H : Hp} (hs : Sub F H) : ∀ {xs : List PV} {vs : List V}, RepL K mg F xs vs → noFns xs = true → DpAll K H vs (pds xs)
  | [], _, h, _ => by cases h; exact .nil
  | _ :: _, _, ⟨_, _, e, a, b⟩, n => by
    subst e
    simp only [noFns, Bool.and_eq_true] at n
    exact .cons (a.dp hs n.1) (RepL.dp hs b n.2)
end
section
variable {X : Cx}
/-- a value read as data -/
theorem pure_dp {K : PySem.W.Frag} {mg : PySem.Str → Option Value} {F H : Hp} {ι : Plc} {S : Store} {x : SV} {v : V} {y : PV} (sim : Sim K mg ι F S H) (r : RepS K mg F ι x v) (h : pure? S x = some y) (hn : noFn y = true) : Dp K H v (pd y) ∧ (pd y).canLay0 = true := by
  cases x with
  | v x => simp only [pure?, Option.some.injEq] at h; subst h; exact ⟨Rep.dp sim.sub r hn, pd_lay r⟩
  | l n =>
    simp only [pure?] at h
    split at h
    · rename_i xs e
      cases h
      obtain ⟨p, vs, rfl, rl, q⟩ := sim.seqL (x := .l n) r (by simp only [seqOf, e]; rfl)
      exact ⟨.lst (.inl q) (RepL.dp sim.sub rl hn), by simp only [pd, PyData.canLay0]; exact pds_lay rl⟩
    · cases h
def rdC (K : PySem.W.Frag) (mg : PySem.Str → Option Value) (f : SV → SV → Store → Option Bool) : V → V → Hp → VK → Prop := fun v w H Q => ∃ ι F S x y b, Sim K mg ι F S H ∧ RepS K mg F ι x v ∧ RepS K mg F ι y w ∧ f x y S = some b ∧ Q (.bl b) H
theorem eq_room {A : Around} {x y : PV} (h : (dpLe eqD x || dpLe eqD y) = true) (hu : A.units + 64 < cLine) : A.units + min (pd x).depth (pd y).depth < cLine := by
  rw [Bool.or_eq_true] at h
  rcases h with h | h
  · have := pd_depth h; simp only [eqD] at this; omega
  · have := pd_depth h; simp only [eqD] at this; omega
theorem op_eqF (hu : X.A.units + 64 < cLine) : OpR X (compareOp .Eq) (rdC X.K X.mg (cmpOp .eq)) := by
  intro pins s σ H x y v u Q I rx ry h
  obtain ⟨ι, F, S, sx, sy, b, sim, r1, r2, h, q⟩ := h
  simp only [cmpOp] at h
  split at h
  · rename_i px py h1 h2
    unfold eqP at h
    split at h
    · rename_i hd
      cases h
      rw [Bool.and_eq_true, Bool.and_eq_true] at hd
      obtain ⟨⟨n1, n2⟩, hd⟩ := hd
      obtain ⟨d1, l1⟩ := pure_dp sim r1 h1 n1
      obtain ⟨d2, l2⟩ := pure_dp sim r2 h2 n2
      obtain ⟨as, g1⟩ := Dp.reads I _ x v d1 rx
      obtain ⟨bs, g2⟩ := Dp.reads I _ y u d2 ry
      exact SeqAt.compareEq_reads g1 g2 l1 l2 (eq_room hd hu) ⟨.bl _, H, I, by rw [pd_eqv]; rfl, q⟩
    · cases h
  · cases h
theorem op_neF (hu : X.A.units + 64 < cLine) : OpR X (compareOp .NotEq) (rdC X.K X.mg (cmpOp .ne)) := by
  intro pins s σ H x y v u Q I rx ry h
  obtain ⟨ι, F, S, sx, sy, b, sim, r1, r2, h, q⟩ := h
  simp only [cmpOp] at h
  split at h
  · rename_i px py h1 h2
    unfold eqP at h
    split at h
    · rename_i hd
      cases h
      rw [Bool.and_eq_true, Bool.and_eq_true] at hd
      obtain ⟨⟨n1, n2⟩, hd⟩ := hd
      obtain ⟨d1, l1⟩ := pure_dp sim r1 h1 n1
      obtain ⟨d2, l2⟩ := pure_dp sim r2 h2 n2
      obtain ⟨as, g1⟩ := Dp.reads I _ x v d1 rx
      obtain ⟨bs, g2⟩ := Dp.reads I _ y u d2 ry
      exact SeqAt.compareNe_reads g1 g2 l1 l2 (eq_room hd hu) ⟨.bl _, H, I, by rw [pd_eqv]; rfl, q⟩
    · cases h
  · cases h

theorem noFns_get : ∀ {ys : List PV} {j : Nat} {y : PV}, noFns ys = true → ys[j]? = some y → noFn y = true
  | [], _, _, _, h => by simp at h
  | _ :: _, 0, _, n, h => by
    simp only [noFns, Bool.and_eq_true] at n
    simp at h; subst h; exact n.1
  | _ :: _, j + 1, _, n, h => by
    simp only [noFns, Bool.and_eq_true] at n
    exact noFns_get (j := j) n.2 (by simpa using h)
/-- membership, by an answer on values -/
theorem in_fun {K : PySem.W.Frag} {mg : PySem.Str → Option Value} {F : Hp} {A : Around} {pins : List (Addr × Obj)} {σ : L2.St} {H : Hp} {s : Shared} {ys : List PV} {ws : List V} {its : List Value} {px : PV} {vx : V} {ux : Value}
    (I : Inv X pins σ H s) (hK : X.K = K) (hs : Sub F H) (r : RepL K mg F ys ws) (rv : Vals ws its) (dx : Dp X.K H vx (pd px)) (lx : (pd px).canLay0 = true) (rx : RelV vx ux) (hd : (dpLe eqD px || dpLes eqD ys) = true) (hnf : noFns ys = true) (hu : A.units + 64 < cLine) :
    ∃ e : Value → Bool, (∀ y, y ∈ its.toArray → SeqAt.EqAt A s y ux (e y)) ∧ its.toArray.any e = ys.any fun y => eqv y px := by
  subst hK
  have got : ∀ (j : Nat) (u : Value), its[j]? = some u → ∃ y v, ys[j]? = some y ∧ Rep X.K mg F y v ∧ RelV v u := fun j u hj => by
    have hl : j < its.length := (List.getElem?_eq_some_iff.mp hj).1
    have hl2 : j < ys.length := by rw [r.length, rv.length]; exact hl
    obtain ⟨v, h1, h2⟩ := r.get (List.getElem?_eq_getElem hl2)
    obtain ⟨u', h3, h4⟩ := rv.get h1
    rw [hj] at h3; cases h3
    exact ⟨_, v, List.getElem?_eq_getElem hl2, h2, h4⟩
  have same : ∀ (i j : Nat) (u : Value) (y z : PV), its[i]? = some u → its[j]? = some u → ys[i]? = some y → ys[j]? = some z → eqv y px = eqv z px := fun i j u y z h1 h2 h3 h4 => by
    obtain ⟨y', v, g1, g2, g3⟩ := got i u h1
    obtain ⟨z', v', k1, k2, k3⟩ := got j u h2
    rw [h3] at g1; cases g1
    rw [h4] at k1; cases k1
    obtain ⟨as, q1⟩ := Dp.reads I _ v u (g2.dp hs (noFns_get hnf h3)) g3
    obtain ⟨bs, q2⟩ := Dp.reads I _ v' u (k2.dp hs (noFns_get hnf h4)) k3
    have e := SeqAt.Reads.unique _ _ _ _ _ (pd_lay g2) q1 q2
    rw [← pd_eqv, ← pd_eqv, e]
  classical
  refine ⟨fun u => decide (∃ (j : Nat) (y : PV), its[j]? = some u ∧ ys[j]? = some y ∧ eqv y px = true), fun u hu' => ?_, ?_⟩
  · obtain ⟨j, hj⟩ := List.getElem?_of_mem (List.mem_toArray.mp hu')
    obtain ⟨y, v, h1, h2, h3⟩ := got j u hj
    have e : decide (∃ (j : Nat) (y : PV), its[j]? = some u ∧ ys[j]? = some y ∧ eqv y px = true) = eqv y px := by
      by_cases hy : eqv y px = true
      · rw [hy]; exact decide_eq_true ⟨j, y, hj, h1, hy⟩
      · have : eqv y px = false := by simpa using hy
        rw [this]
        refine decide_eq_false ?_
        rintro ⟨i, z, g1, g2, g3⟩
        have := same i j u z y g1 hj g2 h1
        rw [g3] at this
        exact hy this.symm
    show SeqAt.EqAt A s u ux (decide (∃ (j : Nat) (y : PV), its[j]? = some u ∧ ys[j]? = some y ∧ eqv y px = true))
    rw [e]
    obtain ⟨as, q1⟩ := Dp.reads I _ v u (h2.dp hs (noFns_get hnf h1)) h3
    obtain ⟨bs, q2⟩ := Dp.reads I _ vx ux dx rx
    have hroom : A.units + min (pd y).depth (pd px).depth < cLine := by
      rw [Bool.or_eq_true] at hd
      rcases hd with h | h
      · have := pd_depth h; simp only [eqD] at this; omega
      · have hm : ∀ {n : Nat} {l : List PV}, dpLes n l = true → ∀ z ∈ l, dpLe n z = true := by
          intro n l
          induction l with
          | nil => intro _ z hz; cases hz
          | cons a t ih =>
            intro hh z hz
            simp only [dpLes, Bool.and_eq_true] at hh
            rcases List.mem_cons.mp hz with rfl | hz
            · exact hh.1
            · exact ih hh.2 z hz
        have := pd_depth (hm h y (List.mem_of_getElem? h1)); simp only [eqD] at this; omega
    have := SeqAt.eqAt_reads (pd y) (pd px) A s u ux as bs q1 q2 (pd_lay h2) lx hroom
    rw [pd_eqv] at this
    exact this
  · rw [Bool.eq_iff_iff]
    simp only [List.any_toArray, List.any_eq_true, decide_eq_true_eq]
    constructor
    · rintro ⟨u, hu', j, y, h1, h2, h3⟩
      exact ⟨y, List.mem_of_getElem? h2, h3⟩
    · rintro ⟨y, hy, h3⟩
      obtain ⟨j, hj⟩ := List.getElem?_of_mem hy
      have hl : j < its.length := by rw [← rv.length, ← r.length]; exact (List.getElem?_eq_some_iff.mp hj).1
      exact ⟨its[j], List.getElem_mem hl, j, y, List.getElem?_eq_getElem hl, hj, h3⟩
theorem key_of? {x : PV} (h : keyOk x = true) : ∃ k, x = keyP k := by
  cases x <;> simp [keyOk] at h
  · exact ⟨.inl _, rfl⟩
  · exact ⟨.inr _, rfl⟩
theorem keyP_inj {a b : L2.Key} : keyEq (keyP a) (keyP b) = decide (a = b) := by
  cases a <;> cases b <;> simp [keyP, keyEq]
theorem keyP_rep {K : PySem.W.Frag} {mg : PySem.Str → Option Value} {F : Hp} {k : L2.Key} {v : V} (h : Rep K mg F (keyP k) v) : v = kV k := by
  cases k with
  | inl i => exact h
  | inr s => exact h.1
theorem RepD.get {K : PySem.W.Frag} {mg : PySem.Str → Option Value} {F : Hp} (k : L2.Key) : ∀ {kvs : List (PV × PV)} {ws : List (L2.Key × V)}, RepD K mg F kvs ws → match keyGet (keyP k) kvs with
    | some x => ∃ v, valV ws k = some v ∧ Rep K mg F x v
    | none => valV ws k = none
  | [], _, r => by cases r; exact rfl
  | (k1, x) :: r, _, ⟨k', v, t, e, e1, a, b⟩ => by
    subst e e1
    have ih := RepD.get k b
    unfold keyGet valV at ih ⊢
    by_cases h : k' = k
    · subst h
      simp only [List.find?_cons, keyP_inj, decide_true, Option.map_some]
      exact ⟨v, rfl, a⟩
    · simp only [List.find?_cons, keyP_inj, decide_eq_false h]
      exact ih
theorem RepD.isSome {K : PySem.W.Frag} {mg : PySem.Str → Option Value} {F : Hp} (k : L2.Key) {kvs : List (PV × PV)} {ws : List (L2.Key × V)} (r : RepD K mg F kvs ws) : (keyGet (keyP k) kvs).isSome = (valV ws k).isSome := by
  have := r.get k
  cases e : keyGet (keyP k) kvs with
  | some x => rw [e] at this; obtain ⟨v, h, _⟩ := this; rw [h]; rfl
  | none => rw [e] at this; rw [this]; rfl
theorem mem_inv {x y : SV} {S : Store} {b : Bool} (h : memOp x y S = some b) :
    (∃ px t ys, pure? S x = some px ∧ seqOf S y = some (t, ys) ∧ (noFn px && noFns ys && (dpLe eqD px || dpLes eqD ys)) = true ∧ b = ys.any fun y => eqv y px) ∨
    ∃ k kvs, pure? S x = some (keyP k) ∧ dicOf S y = some kvs ∧ b = (keyGet (keyP k) kvs).isSome := by
  unfold memOp at h
  cases e1 : pure? S x with
  | none => rw [e1] at h; cases h
  | some px =>
    rw [e1] at h
    simp only at h
    cases e2 : seqOf S y with
    | some p =>
      obtain ⟨t, ys⟩ := p
      rw [e2] at h
      simp only [anyEq] at h
      split at h
      · rename_i hd
        cases h
        exact .inl ⟨px, t, ys, rfl, rfl, hd, rfl⟩
      · cases h
    | none =>
      rw [e2] at h
      simp only at h
      cases e3 : dicOf S y with
      | none => rw [e3] at h; cases h
      | some kvs =>
        rw [e3] at h
        simp only at h
        split at h
        · rename_i hk
          cases h
          obtain ⟨k, rfl⟩ := key_of? hk
          exact .inr ⟨k, kvs, rfl, rfl, rfl⟩
        · cases h
theorem key_val {K : PySem.W.Frag} {mg : PySem.Str → Option Value} {F : Hp} {ι : Plc} {S : Store} {x : SV} {v : V} {k : L2.Key} (r : RepS K mg F ι x v) (h : pure? S x = some (keyP k)) : v = kV k := by
  cases x with
  | v x' => simp only [pure?, Option.some.injEq] at h; subst h; exact keyP_rep r
  | l m =>
    simp only [pure?] at h
    split at h
    · cases k <;> simp [keyP] at h
    · cases h
/-- in, not in -/
def memRd (K : PySem.W.Frag) (mg : PySem.Str → Option Value) : V → V → Hp → (Bool → Prop) → Prop := fun v w H Q => ∃ ι F S x y b, Sim K mg ι F S H ∧ RepS K mg F ι x v ∧ RepS K mg F ι y w ∧ memOp x y S = some b ∧ Q b
theorem op_inF (hu : X.A.units + 65 < cLine) : OpR X (compareOp .In) (rdC X.K X.mg (cmpOp .isin)) := by
  intro pins s σ H x y v u Q I rx ry h
  obtain ⟨ι, F, S, sx, sy, b, sim, r1, r2, h, q⟩ := h
  rcases mem_inv h with ⟨px, t, ys, h1, h2, hd, rfl⟩ | ⟨k, kvs, h1, h2, rfl⟩
  · rw [Bool.and_eq_true, Bool.and_eq_true] at hd
    obtain ⟨⟨n1, n2⟩, hd⟩ := hd
    obtain ⟨d1, l1⟩ := pure_dp sim r1 h1 n1
    cases t with
    | true =>
      obtain ⟨p, vs, rfl, r, hp⟩ := sim.seqL r2 h2
      cases ry
      obtain ⟨_, its, n, rv, _, e⟩ := Inv.rdL I hp
      obtain ⟨f, g1, g2⟩ := in_fun (A := X.A.in1) I rfl sim.sub r rv d1 l1 rx hd n2 (by show X.A.units + 1 + 64 < cLine; omega)
      exact SeqAt.in_listAt f ⟨_, e, rfl, _, rfl⟩ g1 ⟨.bl _, H, I, by rw [g2]; rfl, q⟩
    | false =>
      obtain ⟨p, vs, rfl, r, hp⟩ := sim.seqT r2 h2
      cases ry
      obtain ⟨its, rv, ht, _⟩ := I.tuple (sim.sub.sqT hp)
      obtain ⟨f, g1, g2⟩ := in_fun (A := X.A.in1) I rfl sim.sub r rv d1 l1 rx hd n2 (by show X.A.units + 1 + 64 < cLine; omega)
      exact SeqAt.in_tupleAt f ht g1 ⟨.bl _, H, I, by rw [g2]; rfl, q⟩
  · obtain ⟨n, p, ws, rfl, hι, hS, rfl, hF, hH, rd⟩ := sim.dic r2 h2
    cases ry
    have hv := key_val r1 h1
    subst hv
    exact d_in (by omega) I (DGet.k hH) rx fun s' I' => ⟨.bl _, H, I', rfl, by rw [← rd.isSome k]; exact q⟩
theorem op_notinF (hu : X.A.units + 65 < cLine) : OpR X (compareOp .NotIn) (rdC X.K X.mg (cmpOp .notin)) := by
  intro pins s σ H x y v u Q I rx ry h
  obtain ⟨ι, F, S, sx, sy, b, sim, r1, r2, h, q⟩ := h
  obtain ⟨b, h', rfl⟩ := Option.map_eq_some_iff.mp h
  rcases mem_inv h' with ⟨px, t, ys, h1, h2, hd, rfl⟩ | ⟨k, kvs, h1, h2, rfl⟩
  · rw [Bool.and_eq_true, Bool.and_eq_true] at hd
    obtain ⟨⟨n1, n2⟩, hd⟩ := hd
    obtain ⟨d1, l1⟩ := pure_dp sim r1 h1 n1
    cases t with
    | true =>
      obtain ⟨p, vs, rfl, r, hp⟩ := sim.seqL r2 h2
      cases ry
      obtain ⟨_, its, n, rv, _, e⟩ := Inv.rdL I hp
      obtain ⟨f, g1, g2⟩ := in_fun (A := X.A.in1) I rfl sim.sub r rv d1 l1 rx hd n2 (by show X.A.units + 1 + 64 < cLine; omega)
      exact SeqAt.notIn_listAt f ⟨_, e, rfl, _, rfl⟩ g1 ⟨.bl _, H, I, by rw [g2]; rfl, q⟩
    | false =>
      obtain ⟨p, vs, rfl, r, hp⟩ := sim.seqT r2 h2
      cases ry
      obtain ⟨its, rv, ht, _⟩ := I.tuple (sim.sub.sqT hp)
      obtain ⟨f, g1, g2⟩ := in_fun (A := X.A.in1) I rfl sim.sub r rv d1 l1 rx hd n2 (by show X.A.units + 1 + 64 < cLine; omega)
      exact SeqAt.notIn_tupleAt f ht g1 ⟨.bl _, H, I, by rw [g2]; rfl, q⟩
  · obtain ⟨n, p, ws, rfl, hι, hS, rfl, hF, hH, rd⟩ := sim.dic r2 h2
    cases ry
    have hv := key_val r1 h1
    subst hv
    exact d_notIn (by omega) I (DGet.k hH) rx fun s' I' => ⟨.bl _, H, I', rfl, by rw [← rd.isSome k]; exact q⟩

/-! ### x < y -/
mutual
theorem lt_run {pins : List (Addr × Obj)} {σ : L2.St} {H : Hp} {s : Shared} {mg : PySem.Str → Option Value} {F : Hp} (I : Inv X pins σ H s) (hs : Sub F H) : ∀ (x y : PV) (n : Nat) (A : Around) (b : Bool) (v w : V) (u z : Value), A.units + n + 1 < cLine → dpLe n x = true → noFn x = true → noFn y = true →
    ltP x y = some b → Rep X.K mg F x v → Rep X.K mg F y w → RelV v u → RelV w z → Ob.RcOp .Lt A s u z b
  | .int i, y, n, A, b, v, w, u, z, hu, hd, nx, ny, h, r1, r2, q1, q2 => by
    cases y <;> simp only [ltP, reduceCtorEq, Option.some.injEq] at h
    subst h
    cases r1; cases r2
    obtain ⟨t, rfl⟩ := q1
    obtain ⟨t', rfl⟩ := q2
    exact Ob.RcOp.lt_int _ _ _ _
  | .str i, y, n, A, b, v, w, u, z, hu, hd, nx, ny, h, r1, r2, q1, q2 => by
    cases y <;> simp only [ltP, reduceCtorEq, Option.some.injEq] at h
    subst h
    obtain ⟨rfl, _⟩ := r1
    obtain ⟨rfl, _⟩ := r2
    obtain ⟨t, rfl⟩ := q1
    obtain ⟨t', rfl⟩ := q2
    exact fun prog w E Q hq => PySem.P.lt_str hq
  | .tup xs, y, 0, A, b, v, w, u, z, hu, hd, nx, ny, h, r1, r2, q1, q2 => by simp [dpLe] at hd
  | .tup xs, y, n + 1, A, b, v, w, u, z, hu, hd, nx, ny, h, r1, r2, q1, q2 => by
    cases y with
    | tup ys =>
      simp only [ltP] at h
      simp only [dpLe] at hd
      obtain ⟨p, vs, rfl, t1, l1⟩ := r1
      obtain ⟨p2, ws, rfl, t2, l2⟩ := r2
      cases q1; cases q2
      obtain ⟨its, rv, ht, _⟩ := I.tuple (hs.sqT t1)
      obtain ⟨its2, rv2, ht2, _⟩ := I.tuple (hs.sqT t2)
      obtain ⟨e, r, h1, h2, h3⟩ := lt_runs I hs xs ys n A.in1 b vs ws its its2 (by show A.units + 1 + n + 1 < cLine; omega) hd nx ny h l1 l2 rv rv2
      have g := Ob.RcOp.tuples_lt (A := A) (e := e) (r := r) ht ht2 (by omega) (fun j a b => h1 j (by simpa using a) (by simpa using b)) (fun j a b => h2 j (by simpa using a) (by simpa using b))
      simp only [List.size_toArray] at g
      rw [h3] at g
      exact g
    | _ => simp [ltP] at h
  | .non, y, n, A, b, v, w, u, z, hu, hd, nx, ny, h, r1, r2, q1, q2 => by cases y <;> simp [ltP] at h
  | .bl _, y, n, A, b, v, w, u, z, hu, hd, nx, ny, h, r1, r2, q1, q2 => by cases y <;> simp [ltP] at h
  | .lst _, y, n, A, b, v, w, u, z, hu, hd, nx, ny, h, r1, r2, q1, q2 => by cases y <;> simp [ltP] at h
  | .fn _, y, n, A, b, v, w, u, z, hu, hd, nx, ny, h, r1, r2, q1, q2 => by cases y <;> simp [ltP] at h
theorem lt_runs {pins : List (Addr × Obj)} {σ : L2.St} {H : Hp} {s : Shared} {mg : PySem.Str → Option Value} {F : Hp} (I : Inv X pins σ H s) (hs : Sub F H) : ∀ (xs ys : List PV) (n : Nat) (A : Around) (b : Bool) (vs ws : List V) (us zs : List Value), A.units + n + 1 < cLine → dpLes n xs = true → noFns xs = true → noFns ys = true →
    ltPs xs ys = some b → RepL X.K mg F xs vs → RepL X.K mg F ys ws → Vals vs us → Vals ws zs → ∃ e r : Nat → Bool,
      (∀ j (h1 : j < us.length) (h2 : j < zs.length), SeqAt.EqAt A s us[j] zs[j] (e j)) ∧ (∀ j (h1 : j < us.length) (h2 : j < zs.length), e j = false → Ob.RcOp .Lt A s us[j] zs[j] (r j)) ∧
      Ob.lexAt e r (decide (us.length < zs.length)) 0 (min us.length zs.length) = b
  | [], [], n, A, b, vs, ws, us, zs, hu, hd, nx, ny, h, l1, l2, r1, r2 => by
    cases l1; cases l2; cases r1; cases r2
    simp only [ltPs, Option.some.injEq] at h
    exact ⟨fun _ => true, fun _ => true, fun j h1 => absurd h1 (by simp), fun j h1 => absurd h1 (by simp), by rw [← h]; rfl⟩
  | [], y :: ys, n, A, b, vs, ws, us, zs, hu, hd, nx, ny, h, l1, l2, r1, r2 => by
    cases l1; cases r1
    obtain ⟨w, wr, rfl, _, _⟩ := l2
    cases r2
    simp only [ltPs, Option.some.injEq] at h
    exact ⟨fun _ => true, fun _ => true, fun j h1 => absurd h1 (by simp), fun j h1 => absurd h1 (by simp), by rw [← h]; simp [Ob.lexAt]⟩
  | x :: xs, [], n, A, b, vs, ws, us, zs, hu, hd, nx, ny, h, l1, l2, r1, r2 => by
    cases l2; cases r2
    simp only [ltPs, Option.some.injEq] at h
    exact ⟨fun _ => true, fun _ => true, fun j _ h1 => absurd h1 (by simp), fun j _ h1 => absurd h1 (by simp), by rw [← h]; simp [Ob.lexAt]⟩
  | x :: xs, y :: ys, n, A, b, vs, ws, us, zs, hu, hd, nx, ny, h, l1, l2, r1, r2 => by
    obtain ⟨v, vr, rfl, a1, l1⟩ := l1
    obtain ⟨w, wr, rfl, a2, l2⟩ := l2
    cases r1 with
    | @cons _ u _ ut b1 r1 =>
    cases r2 with
    | @cons _ z _ zt b2 r2 =>
    simp only [dpLes, Bool.and_eq_true] at hd
    simp only [noFns, Bool.and_eq_true] at nx ny
    have eqh : SeqAt.EqAt A s u z (eqv x y) := by
      obtain ⟨as, g1⟩ := Dp.reads I _ v u (a1.dp hs nx.1) b1
      obtain ⟨bs, g2⟩ := Dp.reads I _ w z (a2.dp hs ny.1) b2
      have := SeqAt.eqAt_reads (pd x) (pd y) A s u z as bs g1 g2 (pd_lay a1) (pd_lay a2) (by have := pd_depth hd.1; omega)
      rw [pd_eqv] at this
      exact this
    have shift : ∀ (f : Nat → Bool) (a : Bool) (r : Nat → Bool) (c : Bool) (zz : Bool) (k i : Nat), Ob.lexAt (fun j => if j = 0 then a else f (j - 1)) (fun j => if j = 0 then c else r (j - 1)) zz (i + 1) k = Ob.lexAt f r zz i k := by
      intro f a r c zz k
      induction k with
      | zero => intro i; rfl
      | succ k ih => intro i; rw [Ob.lexAt_succ, Ob.lexAt_succ, ih (i + 1)]; simp
    have hlen : ∀ c : Bool, decide ((u :: ut).length < (z :: zt).length) = decide (ut.length < zt.length) := fun _ => by simp
    have hmin : min (u :: ut).length (z :: zt).length = min ut.length zt.length + 1 := by simp only [List.length_cons]; omega
    simp only [ltPs] at h
    by_cases he : eqv x y = true
    · rw [if_pos he] at h
      obtain ⟨e, r, h1, h2, h3⟩ := lt_runs I hs xs ys n A b vr wr ut zt hu hd.2 nx.2 ny.2 h l1 l2 r1 r2
      refine ⟨fun j => if j = 0 then true else e (j - 1), fun j => if j = 0 then true else r (j - 1), fun j g1 g2 => ?_, fun j g1 g2 g3 => ?_, ?_⟩
      · cases j with
        | zero => simpa [he] using eqh
        | succ j => simpa using h1 j (by simpa using g1) (by simpa using g2)
      · cases j with
        | zero => simp at g3
        | succ j => simpa using h2 j (by simpa using g1) (by simpa using g2) (by simpa using g3)
      · rw [hlen true, hmin, Ob.lexAt_succ, if_pos (by simp), shift e true r true]
        exact h3
    · have he' : eqv x y = false := by simpa using he
      rw [if_neg he] at h
      cases e1 : ltP x y with
      | none => rw [e1] at h; simp at h
      | some b1' =>
        cases e2 : ltPs xs ys with
        | none => rw [e1, e2] at h; simp at h
        | some b2' =>
          rw [e1, e2] at h
          simp only [Option.some.injEq] at h
          subst h
          have g := lt_run I hs x y n A b1' v w u z hu hd.1 nx.1 ny.1 e1 a1 a2 b1 b2
          obtain ⟨e, r, h1, h2, h3⟩ := lt_runs I hs xs ys n A b2' vr wr ut zt hu hd.2 nx.2 ny.2 e2 l1 l2 r1 r2
          refine ⟨fun j => if j = 0 then false else e (j - 1), fun j => if j = 0 then b1' else r (j - 1), fun j g1 g2 => ?_, fun j g1 g2 g3 => ?_, ?_⟩
          · cases j with
            | zero => simpa [he'] using eqh
            | succ j => simpa using h1 j (by simpa using g1) (by simpa using g2)
          · cases j with
            | zero => simpa using g
            | succ j => simpa using h2 j (by simpa using g1) (by simpa using g2) (by simpa using g3)
          · rw [hlen true, hmin, Ob.lexAt_succ, if_neg (by simp)]
            simp
end
theorem is_non {pins : List (Addr × Obj)} {σ : L2.St} {H : Hp} {F : Hp} {ι : Plc} {sx : SV} {x : V} {K : PySem.W.Frag} {mg : PySem.Str → Option Value} (r : RepS K mg F ι sx x) :
    decide (x = V.non) = isNonS sx := by
  cases sx with
  | v p =>
    cases p with
    | non => cases r; rfl
    | bl b => cases r; rfl
    | int i => cases r; rfl
    | str z => obtain ⟨rfl, _⟩ := r; rfl
    | tup xs => obtain ⟨p, vs, rfl, _⟩ := r; rfl
    | lst xs => obtain ⟨p, vs, rfl, _⟩ := r; rfl
    | fn _ => obtain ⟨p, rfl, _⟩ := r; rfl
  | l n => obtain ⟨p, _, rfl⟩ := r; rfl
theorem op_cmpF (hu : X.A.units + 65 < cLine) (o : COp) : OpR X (compareOp (opC o)) (rdC X.K X.mg (cmpOp o)) := by
  cases o with
  | eq => exact op_eqF (by omega)
  | ne => exact op_neF (by omega)
  | isin => exact op_inF hu
  | notin => exact op_notinF hu
  | lt =>
    intro pins s σ H x y v u Q I rx ry h
    obtain ⟨ι, F, S, sx, sy, b, sim, r1, r2, h, q⟩ := h
    simp only [cmpOp] at h
    split at h
    · rename_i i j
      cases h; cases r1; cases r2
      exact op_lt pins s σ H _ _ v u Q I rx ry ⟨i, j, rfl, rfl, q⟩
    · rename_i xs ys
      split at h
      · rename_i hd
        rw [Bool.and_eq_true, Bool.and_eq_true, Bool.and_eq_true] at hd
        have g := lt_run I sim.sub (.tup xs) (.tup ys) eqD X.A b x y v u (by simp only [eqD]; omega) hd.2.1 hd.1.1 hd.1.2 h r1 r2 rx ry
        exact g _ _ _ _ ⟨.bl b, H, I, rfl, q⟩
      · cases h
    · cases h
  | le =>
    intro pins s σ H x y v u Q I rx ry h
    obtain ⟨ι, F, S, sx, sy, b, sim, r1, r2, h, q⟩ := h
    simp only [cmpOp] at h
    split at h
    · rename_i i j
      cases h; cases r1; cases r2
      exact op_le pins s σ H _ _ v u Q I rx ry ⟨i, j, rfl, rfl, q⟩
    · cases h
  | gt =>
    intro pins s σ H x y v u Q I rx ry h
    obtain ⟨ι, F, S, sx, sy, b, sim, r1, r2, h, q⟩ := h
    simp only [cmpOp] at h
    split at h
    · rename_i i j
      cases h; cases r1; cases r2
      exact op_gt pins s σ H _ _ v u Q I rx ry ⟨i, j, rfl, rfl, q⟩
    · cases h
  | ge =>
    intro pins s σ H x y v u Q I rx ry h
    obtain ⟨ι, F, S, sx, sy, b, sim, r1, r2, h, q⟩ := h
    simp only [cmpOp] at h
    split at h
    · rename_i i j
      cases h; cases r1; cases r2
      exact op_ge pins s σ H _ _ v u Q I rx ry ⟨i, j, rfl, rfl, q⟩
    · cases h
  | is =>
    intro pins s σ H x y v u Q I rx ry h
    obtain ⟨ι, F, S, sx, sy, b, sim, r1, r2, h, q⟩ := h
    simp only [cmpOp] at h
    split at h
    · cases r2
      refine op_isN pins s σ H _ _ v u Q I rx ry ⟨rfl, ?_⟩
      rw [is_non (pins := pins) (σ := σ) (H := H) r1]
      cases h; exact q
    · split at h
      · rename_i c _ a
        cases h; cases r1; cases r2
        exact op_isBl pins s σ H _ _ v u Q I rx ry ⟨a, c, rfl, rfl, by rw [← Bool.beq_eq_decide_eq]; exact q⟩
      · cases h
    · cases h
  | isnot =>
    intro pins s σ H x y v u Q I rx ry h
    obtain ⟨ι, F, S, sx, sy, b, sim, r1, r2, h, q⟩ := h
    simp only [cmpOp] at h
    split at h
    · cases r2
      refine op_notN pins s σ H _ _ v u Q I rx ry ⟨rfl, ?_⟩
      rw [is_non (pins := pins) (σ := σ) (H := H) r1]
      cases h; exact q
    · split at h
      · rename_i c _ a
        cases h; cases r1; cases r2
        exact op_notBl pins s σ H _ _ v u Q I rx ry ⟨a, c, rfl, rfl, by rw [← Bool.beq_eq_decide_eq]; exact q⟩
      · cases h
    · cases h
end
end
end FW

/-! FW: what is sorted, the least and the greatest. -/
namespace FW
open PySem PySem.Spec PyProof.Rows L2
/-! ### order, as data -/
mutual
theorem alike_pd : ∀ {x y : PV}, alikeP x y = true → PySem.W.alike (pd x) (pd y) = true
  | .non, y, h => by cases y <;> simp only [alikeP, Bool.false_eq_true] at h; rfl
  | .bl _, y, h => by cases y <;> simp only [alikeP, Bool.false_eq_true] at h; rfl
  | .int _, y, h => by cases y <;> simp only [alikeP, Bool.false_eq_true] at h; rfl
  | .str _, y, h => by cases y <;> simp only [alikeP, Bool.false_eq_true] at h; rfl
  | .lst xs, y, h => by cases y <;> simp only [alikeP, Bool.false_eq_true] at h; simp only [pd, PySem.W.alike]; exact alike_pds h
  | .tup xs, y, h => by cases y <;> simp only [alikeP, Bool.false_eq_true] at h; simp only [pd, PySem.W.alike]; exact alike_pds h
  | .fn _, y, h => by cases y <;> simp only [alikeP, Bool.false_eq_true] at h
theorem alike_pds : ∀ {xs ys : List PV}, alikePs xs ys = true → PySem.W.alikeAll (pds xs) (pds ys) = true
  | [], _, _ => by simp only [pds]; rw [PySem.W.alikeAll]
  | _ :: _, [], _ => by simp only [pds]; rw [PySem.W.alikeAll]
  | x :: xs, y :: ys, h => by
    simp only [alikePs, Bool.and_eq_true] at h
    simp only [pds, PySem.W.alikeAll, Bool.and_eq_true]
    exact ⟨alike_pd h.1, alike_pds h.2⟩
end
mutual
theorem ltK_pd : ∀ {x y : PV}, alikeP x y = true → PySem.W.dataLt (pd x) (pd y) = ltK x y
  | .non, y, h => by cases y <;> simp only [alikeP, Bool.false_eq_true] at h; rfl
  | .bl a, y, h => by
    cases y <;> simp only [alikeP, Bool.false_eq_true] at h
    rename_i b
    simp only [pd, ltK, PySem.W.dataLt_bool]
    cases a <;> cases b <;> rfl
  | .int _, y, h => by cases y <;> simp only [alikeP, Bool.false_eq_true] at h; simp only [pd, ltK, PySem.W.dataLt_int]
  | .str _, y, h => by cases y <;> simp only [alikeP, Bool.false_eq_true] at h; simp only [pd, ltK, PySem.W.dataLt_str]
  | .lst xs, y, h => by cases y <;> simp only [alikeP, Bool.false_eq_true] at h; simp only [pd, ltK, PySem.W.dataLt_list]; exact ltKs_pd h
  | .tup xs, y, h => by cases y <;> simp only [alikeP, Bool.false_eq_true] at h; simp only [pd, ltK, PySem.W.dataLt_tuple]; exact ltKs_pd h
  | .fn _, y, h => by cases y <;> simp only [alikeP, Bool.false_eq_true] at h
theorem ltKs_pd : ∀ {xs ys : List PV}, alikePs xs ys = true → PyProof.Rows.lexLt PyProof.Rows.itemOrd (PySem.W.keyToksAll (pds xs)) (PySem.W.keyToksAll (pds ys)) = ltKs xs ys
  | [], [], _ => by simp only [pds, PySem.W.keyToksAll, ltKs]; decide
  | [], y :: ys, _ => by
    simp only [pds, PySem.W.keyToksAll, ltKs]
    rw [PySem.W.lex_atom (by decide)]
    decide
  | x :: xs, [], _ => by
    simp only [pds, PySem.W.keyToksAll, ltKs]
    rw [PySem.W.lex_atom (by decide)]
    decide
  | x :: xs, y :: ys, h => by
    simp only [alikePs, Bool.and_eq_true] at h
    simp only [pds, ltKs]
    rw [PySem.W.dataLt_cons (alike_pd h.1), pd_eqv]
    split
    · exact ltKs_pd h.2
    · exact ltK_pd h.1
end
abbrev leD : PV → PV → Bool := PySem.W.dataLe false pd
theorem leD_eq (x y : PV) : leD x y = !PySem.W.dataLt (pd y) (pd x) := rfl
theorem leK_leD {x y : PV} (h : alikeP y x = true) : leK x y = leD x y := by rw [leD_eq, ltK_pd h]; rfl
/-! ### insertion sort is the sort -/
section
variable {le le' : PV → PV → Bool}
theorem mem_insB {x y : PV} : ∀ {l : List PV}, y ∈ insB le x l ↔ y = x ∨ y ∈ l
  | [] => by simp [insB]
  | z :: r => by
    unfold insB
    split
    · simp
    · rw [List.mem_cons, mem_insB, List.mem_cons]
      constructor
      · rintro (h | h | h)
        · exact .inr (.inl h)
        · exact .inl h
        · exact .inr (.inr h)
      · rintro (h | h | h)
        · exact .inr (.inl h)
        · exact .inl h
        · exact .inr (.inr h)
theorem mem_sortB {y : PV} : ∀ {l : List PV}, y ∈ sortB le l ↔ y ∈ l
  | [] => by simp [sortB]
  | x :: r => by unfold sortB; rw [mem_insB, mem_sortB, List.mem_cons]
theorem insB_congr {x : PV} : ∀ {l : List PV}, (∀ y ∈ l, le x y = le' x y) → insB le x l = insB le' x l
  | [], _ => rfl
  | z :: r, h => by
    unfold insB
    rw [h z List.mem_cons_self, insB_congr fun y hy => h y (List.mem_cons_of_mem _ hy)]
theorem sortB_congr : ∀ {l : List PV}, (∀ x ∈ l, ∀ y ∈ l, le x y = le' x y) → sortB le l = sortB le' l
  | [], _ => rfl
  | x :: r, h => by
    unfold sortB
    rw [sortB_congr fun a ha b hb => h a (List.mem_cons_of_mem _ ha) b (List.mem_cons_of_mem _ hb)]
    exact insB_congr fun y hy => h x List.mem_cons_self y (List.mem_cons_of_mem _ (mem_sortB.mp hy))
theorem insB_pw (T : PySem.W.TotalLe le) {x : PV} : ∀ {l : List PV}, l.Pairwise (fun a b => le a b = true) → (insB le x l).Pairwise (fun a b => le a b = true)
  | [], _ => by simp [insB]
  | z :: r, h => by
    obtain ⟨h1, h2⟩ := List.pairwise_cons.mp h
    unfold insB
    split
    · rename_i hx
      refine List.pairwise_cons.mpr ⟨fun y hy => ?_, h⟩
      rcases List.mem_cons.mp hy with rfl | hy
      · exact hx
      · exact T.trans _ _ _ hx (h1 y hy)
    · rename_i hx
      have hz : le z x = true := (T.total z x).resolve_right hx
      refine List.pairwise_cons.mpr ⟨fun y hy => ?_, insB_pw T h2⟩
      rcases mem_insB.mp hy with rfl | hy
      · exact hz
      · exact h1 y hy
theorem insB_st (T : PySem.W.TotalLe le) {x c : PV} : ∀ {l : List PV}, (insB le x l).filter (PySem.W.sameRank le c) = (x :: l).filter (PySem.W.sameRank le c)
  | [] => rfl
  | z :: r => by
    unfold insB
    split
    · rfl
    · rename_i hx
      rw [List.filter_cons, insB_st T]
      by_cases hz : PySem.W.sameRank le c z = true
      · have hcx : ¬ PySem.W.sameRank le c x = true := fun h => by
          unfold PySem.W.sameRank at hz h
          rw [Bool.and_eq_true] at hz h
          exact hx (T.trans _ _ _ h.2 hz.1)
        rw [if_pos hz, List.filter_cons_of_neg hcx, List.filter_cons_of_neg hcx, List.filter_cons_of_pos hz]
      · rw [if_neg hz]
        by_cases hcx : PySem.W.sameRank le c x = true
        · rw [List.filter_cons_of_pos hcx, List.filter_cons_of_pos hcx, List.filter_cons_of_neg hz]
        · rw [List.filter_cons_of_neg hcx, List.filter_cons_of_neg hcx, List.filter_cons_of_neg hz]
theorem sortB_pw (T : PySem.W.TotalLe le) : ∀ l : List PV, (sortB le l).Pairwise (fun a b => le a b = true)
  | [] => .nil
  | x :: r => insB_pw T (sortB_pw T r)
theorem sortB_st (T : PySem.W.TotalLe le) (c : PV) : ∀ l : List PV, (sortB le l).filter (PySem.W.sameRank le c) = l.filter (PySem.W.sameRank le c)
  | [] => rfl
  | x :: r => by
    unfold sortB
    rw [insB_st T, List.filter_cons, List.filter_cons, sortB_st T c r]
theorem sortB_eq (T : PySem.W.TotalLe le) (l : List PV) : sortB le l = l.mergeSort le := PySem.W.sort_unique T (sortB_pw T l) fun c => sortB_st T c l
end
theorem leD_total : PySem.W.TotalLe leD := PySem.W.sortLe_total _ _ _
theorem isortK_eq {ys : List PV} (h : allAlike ys = true) : isortK ys = ys.mergeSort leD := by
  rw [← sortB_eq leD_total]
  refine sortB_congr fun x hx y hy => leK_leD ?_
  unfold allAlike at h
  exact List.all_eq_true.mp (List.all_eq_true.mp h y hy) x hx
theorem insB_len {le : PV → PV → Bool} (x : PV) : ∀ l : List PV, (insB le x l).length = l.length + 1
  | [] => rfl
  | z :: r => by unfold insB; split <;> simp [insB_len x r]
theorem isortK_len (l : List PV) : (isortK l).length = l.length := by
  unfold isortK
  induction l with
  | nil => rfl
  | cons x r ih => unfold sortB; rw [insB_len, ih]; rfl
theorem isortK_short {ys : List PV} (h : ys.length < 2) : isortK ys = ys := by
  match ys, h with
  | [], _ => rfl
  | [_], _ => rfl
  | _ :: _ :: _, h => simp at h; omega
/-! ### representation, item by item -/
section
variable {X : Cx} {K : PySem.W.Frag} {mg : PySem.Str → Option Value} {F H : Hp}
/-- a heap's value stands for a pure value -/
def RV (K : PySem.W.Frag) (mg : PySem.Str → Option Value) (F : Hp) (u : Value) (x : PV) : Prop := ∃ v : V, RelV v u ∧ Rep K mg F x v
theorem each_of : ∀ {ys : List PV} {ws : List V} {us : List Value}, RepL K mg F ys ws → Vals ws us → PySem.W.EachIs (RV K mg F) us ys
  | [], _, _, r, q => by cases r; cases q; exact .nil
  | _ :: _, _, _, ⟨v, t, e, a, b⟩, q => by
    subst e
    cases q with
    | cons h1 h2 => exact .cons ⟨v, h1, a⟩ (each_of b h2)
theorem of_each : ∀ {ys : List PV} {us : List Value}, PySem.W.EachIs (RV K mg F) us ys → ∃ ws, RepL K mg F ys ws ∧ Vals ws us
  | [], _, .nil => ⟨[], rfl, .nil⟩
  | _ :: _, _, .cons ⟨v, h1, a⟩ h => by
    obtain ⟨ws, r, q⟩ := of_each h
    exact ⟨v :: ws, ⟨v, ws, rfl, a, r⟩, .cons h1 q⟩
theorem each_reads {pins : List (Addr × Obj)} {σ : L2.St} {H : Hp} {s : Shared} (I : Inv X pins σ H s) (hs : Sub F H) : ∀ {ys : List PV} {us : List Value}, noFns ys = true → PySem.W.EachIs (RV X.K mg F) us ys → PySem.W.EachIs (fun v b => ∃ as, PySem.Reads s.heap v (pd b) as) us ys
  | [], _, _, .nil => .nil
  | y :: ys, _, n, .cons ⟨v, h1, a⟩ h => by
    simp only [noFns, Bool.and_eq_true] at n
    exact .cons (Dp.reads I _ v _ (a.dp hs n.1) h1) (each_reads I hs n.2 h)
end
theorem pds_map : ∀ ys : List PV, pds ys = ys.map pd
  | [] => rfl
  | y :: ys => by show pd y :: pds ys = _; rw [pds_map ys]; rfl
theorem allAlike_pd {ys : List PV} (h : allAlike ys = true) : PySem.W.AllAlike (ys.map pd) := by
  intro d hd d' hd'
  obtain ⟨y, hy, rfl⟩ := List.mem_map.mp hd
  obtain ⟨y', hy', rfl⟩ := List.mem_map.mp hd'
  unfold allAlike at h
  exact alike_pd (List.all_eq_true.mp (List.all_eq_true.mp h y hy) y' hy')
theorem sortable_pd {ys : List PV} (h : (ys.all isNT || ys.all isOne) = true) : PySem.W.Sortable (ys.map pd) := by
  rw [Bool.or_eq_true] at h
  rcases h with h | h
  · refine .inl fun d hd => ?_
    obtain ⟨y, hy, rfl⟩ := List.mem_map.mp hd
    have := List.all_eq_true.mp h y hy
    cases y with
    | tup xs => cases xs with
      | nil => simp [isNT] at this
      | cons x xs => exact ⟨_, _, rfl⟩
    | _ => simp [isNT] at this
  · refine .inr fun d hd => ?_
    obtain ⟨y, hy, rfl⟩ := List.mem_map.mp hd
    have := List.all_eq_true.mp h y hy
    cases y <;> simp [isOne] at this <;> exact ⟨(by simp [pd]), fun xs => by simp [pd]⟩
theorem dpLes_mem : ∀ {n : Nat} {ys : List PV}, dpLes n ys = true → ∀ y ∈ ys, dpLe n y = true
  | _, [], _, _, h => by cases h
  | n, z :: ys, h, y, hy => by
    simp only [dpLes, Bool.and_eq_true] at h
    rcases List.mem_cons.mp hy with rfl | hy
    · exact h.1
    · exact dpLes_mem h.2 y hy
section
variable {X : Cx}
/-- sorted(xs), xs a list -/
theorem call_sorted {pins : List (Addr × Obj)} {σ : L2.St} {H F : Hp} {s : Shared} {E : Value → Shared → Prop} {p : Addr} {ys : List PV} {ws : List V} {us : List Value} {Q : Value → Shared → Prop} (hu : X.A.units + 64 < cLine) (I : Inv X pins σ H s) (hs : Sub F H) (r : RepL X.K X.mg F ys ws) (rv : Vals ws us) (hl : s.heap.IsList p us.toArray) (hz : us.length ≤ sizeLine) (hok : sortOk ys = true)
    (h : ∀ (zs : List V) (q : Addr), RepL X.K X.mg F (isortK ys) zs → H q = none → ∀ s', Inv X pins σ (upd H q (.lst zs)) s' → Q (.ref q) s') : wpAny (model X.prog X.w) X.A (call (.builtin "sorted") [.ref p]) Q E s := by
  have e1 := each_of r rv
  have fin : ∀ out : List Value, out.length = us.length → PySem.W.EachIs (RV X.K X.mg F) out (isortK ys) → Q (.ref (s.heap.objs.size + 1)) { s with heap := sortedAll s.heap us out.toArray } := fun out hl2 eo => by
    obtain ⟨zs, r2, q2⟩ := of_each eo
    obtain ⟨n, hn⟩ := sortedAll_at s.heap us out.toArray
    have hfr : H (s.heap.objs.size + 1) = none := I.hok.fresh (Nat.le_succ _)
    refine h zs _ r2 hfr _ (I.laid (t' := s.toks) (fun b o e => sortedAll_old e) (Nat.le_succ _) ⟨?_, out, n, q2, hn⟩)
    rw [q2.length, hl2]; exact hz
  unfold sortOk at hok
  rw [Bool.and_eq_true] at hok
  obtain ⟨hn, hok⟩ := hok
  have er := each_reads I hs hn e1
  by_cases h2 : ys.length < 2
  · refine SrtO.sorted_ord (ltv := fun _ _ => false) ⟨fun _ _ h => (by cases h), fun _ _ _ _ _ => rfl⟩ hl hz (fun h3 => absurd h3 (by rw [← rv.length, ← r.length]; omega)) fun out _ hb => ?_
    rw [isortK_short h2] at fin
    have : out = us := by
      have hp := hb.perm
      have hlu : us.length < 2 := by rw [← rv.length, ← r.length]; exact h2
      match us, hlu with
      | [], _ => exact hp.eq_nil
      | [u], _ => exact List.perm_singleton.mp hp
      | _ :: _ :: _, h => simp at h; omega
    rw [this]
    exact fin us rfl e1
  · rw [decide_eq_false h2, Bool.false_or, Bool.and_eq_true, Bool.and_eq_true] at hok
    obtain ⟨⟨ha, hk⟩, hd⟩ := hok
    rw [isortK_eq ha] at fin
    refine PySem.W.sorted_data (enc := pd) (bs := ys) (R := RV X.K X.mg F) hl e1 er (allAlike_pd ha) (sortable_pd hk) (by rw [r.length, rv.length]; exact hz) (fun b hb => ?_) fun out hlen eo => fin out (by rw [hlen, r.length, rv.length]) eo
    have := pd_depth (dpLes_mem hd b hb)
    simp only [eqD] at this
    omega
/-! ### the least, the greatest -/
mutual
theorem pd_inj : ∀ {x y : PV}, noFn x = true → noFn y = true → pd x = pd y → x = y
  | .non, y, _, n, h => by cases y <;> first | rfl | (simp [pd] at h; done) | (simp [noFn] at n)
  | .bl _, y, _, _, h => by cases y <;> simp [pd] at h; rw [h]
  | .int _, y, _, _, h => by cases y <;> simp [pd] at h; rw [h]
  | .str _, y, _, _, h => by cases y <;> simp [pd] at h; rw [h]
  | .tup xs, y, n1, n2, h => by cases y <;> simp only [pd, PyData.tuple.injEq, reduceCtorEq] at h; rw [pds_inj n1 n2 h]
  | .lst xs, y, n1, n2, h => by cases y <;> simp only [pd, PyData.list.injEq, reduceCtorEq] at h; rw [pds_inj n1 n2 h]
  | .fn _, _, n, _, _ => by simp [noFn] at n
theorem pds_inj : ∀ {xs ys : List PV}, noFns xs = true → noFns ys = true → pds xs = pds ys → xs = ys
  | [], ys, _, _, h => by cases ys <;> simp [pds] at h; rfl
  | x :: xs, ys, n1, n2, h => by
    cases ys with
    | nil => simp [pds] at h
    | cons y ys =>
      simp only [pds, List.cons.injEq] at h
      simp only [noFns, Bool.and_eq_true] at n1 n2
      rw [pd_inj n1.1 n2.1 h.1, pds_inj n1.2 n2.2 h.2]
end
theorem minP_mem : ∀ {ys : List PV} {y : PV}, minP y ys ∈ y :: ys
  | [], y => by simp [minP]
  | z :: r, y => by
    unfold minP
    split
    · exact List.mem_cons_of_mem _ minP_mem
    · rcases List.mem_cons.mp (minP_mem (ys := r) (y := y)) with h | h
      · rw [h]; exact List.mem_cons_self
      · exact List.mem_cons_of_mem _ (List.mem_cons_of_mem _ h)
theorem maxP_mem : ∀ {ys : List PV} {y : PV}, maxP y ys ∈ y :: ys
  | [], y => by simp [maxP]
  | z :: r, y => by
    unfold maxP
    split
    · exact List.mem_cons_of_mem _ maxP_mem
    · rcases List.mem_cons.mp (maxP_mem (ys := r) (y := y)) with h | h
      · rw [h]; exact List.mem_cons_self
      · exact List.mem_cons_of_mem _ (List.mem_cons_of_mem _ h)
theorem minD_pd : ∀ {ys : List PV} {y : PV}, (∀ a ∈ y :: ys, ∀ b ∈ y :: ys, alikeP a b = true) → PySem.W.minD (pd y) (pds ys) = pd (minP y ys)
  | [], y, _ => rfl
  | z :: r, y, h => by
    have e : PySem.W.minD (pd y) (pds (z :: r)) = PySem.W.minD (if PySem.W.dataLt (pd z) (pd y) = true then pd z else pd y) (pds r) := rfl
    rw [e, ltK_pd (h z (by simp) y (by simp))]
    unfold minP
    split
    · exact minD_pd fun a ha b hb => h a (List.mem_cons_of_mem _ ha) b (List.mem_cons_of_mem _ hb)
    · refine minD_pd fun a ha b hb => h a ?_ b ?_
      · rcases List.mem_cons.mp ha with rfl | ha
        · exact List.mem_cons_self
        · exact List.mem_cons_of_mem _ (List.mem_cons_of_mem _ ha)
      · rcases List.mem_cons.mp hb with rfl | hb
        · exact List.mem_cons_self
        · exact List.mem_cons_of_mem _ (List.mem_cons_of_mem _ hb)
theorem maxD_pd : ∀ {ys : List PV} {y : PV}, (∀ a ∈ y :: ys, ∀ b ∈ y :: ys, alikeP a b = true) → PySem.W.maxD (pd y) (pds ys) = pd (maxP y ys)
  | [], y, _ => rfl
  | z :: r, y, h => by
    have e : PySem.W.maxD (pd y) (pds (z :: r)) = PySem.W.maxD (if PySem.W.dataLt (pd y) (pd z) = true then pd z else pd y) (pds r) := rfl
    rw [e, ltK_pd (h y (by simp) z (by simp))]
    unfold maxP
    split
    · exact maxD_pd fun a ha b hb => h a (List.mem_cons_of_mem _ ha) b (List.mem_cons_of_mem _ hb)
    · refine maxD_pd fun a ha b hb => h a ?_ b ?_
      · rcases List.mem_cons.mp ha with rfl | ha
        · exact List.mem_cons_self
        · exact List.mem_cons_of_mem _ (List.mem_cons_of_mem _ ha)
      · rcases List.mem_cons.mp hb with rfl | hb
        · exact List.mem_cons_self
        · exact List.mem_cons_of_mem _ (List.mem_cons_of_mem _ hb)
theorem noFns_mem : ∀ {ys : List PV}, noFns ys = true → ∀ y ∈ ys, noFn y = true
  | [], _, _, h => by cases h
  | z :: ys, n, y, hy => by
    simp only [noFns, Bool.and_eq_true] at n
    rcases List.mem_cons.mp hy with rfl | hy
    · exact n.1
    · exact noFns_mem n.2 y hy
theorem readsAll_of {pins : List (Addr × Obj)} {σ : L2.St} {H F : Hp} {s : Shared} (I : Inv X pins σ H s) (hs : Sub F H) : ∀ {ys : List PV} {us : List Value}, noFns ys = true → PySem.W.EachIs (RV X.K X.mg F) us ys → ∃ as, ReadsAll s.heap us (pds ys) as
  | [], _, _, .nil => ⟨[], .nil⟩
  | y :: ys, _, n, .cons ⟨v, h1, a⟩ h => by
    simp only [noFns, Bool.and_eq_true] at n
    obtain ⟨as, q⟩ := Dp.reads I _ v _ (a.dp hs n.1) h1
    obtain ⟨bs, q2⟩ := readsAll_of I hs n.2 h
    exact ⟨_, .cons q q2⟩
theorem each_get {R : Value → PV → Prop} : ∀ {us : List Value} {ys : List PV} {i : Nat} {u : Value}, PySem.W.EachIs R us ys → us[i]? = some u → ∃ y, ys[i]? = some y ∧ R u y
  | _, _, _, _, .nil, h => by simp at h
  | _, _, 0, _, .cons a _, h => by simp at h; subst h; exact ⟨_, rfl, a⟩
  | _, _, i + 1, _, .cons _ b, h => by obtain ⟨y, h1, h2⟩ := each_get (i := i) b (by simpa using h); exact ⟨y, by simpa using h1, h2⟩
/-- the item that reads as the least (greatest) one stands for it -/
theorem pick_item {pins : List (Addr × Obj)} {σ : L2.St} {H F : Hp} {s : Shared} {h' : Heap} (I : Inv X pins σ H s) (hs : Sub F H) {ys : List PV} {us : List Value} {i : Nat} {u : Value} {z : PV} {bs : List Addr} (hn : noFns ys = true) (e1 : PySem.W.EachIs (RV X.K X.mg F) us ys) (hi : us[i]? = some u)
    (hz : z ∈ ys) (hr : PySem.Reads h' u (pd z) bs) (hk : ∀ b o, s.heap.get? b = some o → h'.get? b = some o) : ∃ v : V, RelV v u ∧ Rep X.K X.mg F z v := by
  obtain ⟨y, hy, v, h1, h2⟩ := each_get e1 hi
  have hym := List.mem_of_getElem? hy
  obtain ⟨as, q⟩ := Dp.reads I _ v u (h2.dp hs (noFns_mem hn y hym)) h1
  have e := SeqAt.Reads.unique _ _ _ _ _ (pd_lay h2) (PySem.W.reads_keeps hk q) hr
  have e2 := pd_inj (noFns_mem hn y hym) (noFns_mem hn z hz) e
  exact ⟨v, h1, by rw [← e2]; exact h2⟩
theorem alikeAll_pd {ys : List PV} (h : allAlike ys = true) (hn : ∀ y ∈ ys, pd y ≠ .none) : PySem.W.AlikeAll (pds ys) := by
  rw [pds_map]
  refine ⟨fun d hd d' hd' => allAlike_pd h d hd d' hd', fun d hd => ?_⟩
  obtain ⟨y, hy, rfl⟩ := List.mem_map.mp hd
  exact hn y hy
end
end FW

/-! FW: each form of an expression keeps its meaning. -/
namespace FW
open PySem PySem.Spec PyProof.Rows L2
section
variable {X : Cx} {a b c e : Expr} {es : List Expr} {pos : Pos} {fa fb fc : VS} {ts : LS}

theorem pe_ofV {t : TE} {f : VS} (h : PE X e t) (m : ∀ (ι : Plc) (F : Hp) (S : Store) (ρ : Slots) (x : SV) (S' : Store) (σ : L2.St) (H : Hp) (Q : VK), Sim X.K X.mg ι F S H → RepR X.K X.mg F ι ρ σ → f ρ S = .ok x S' →
    (∀ ι' F' v H', Ext ι F ι' F' → Sim X.K X.mg ι' F' S' H' → RepS X.K X.mg F' ι' x v → Q v H') → t σ H Q) : PE X e (rdE X.K X.mg f) :=
  pe_mono h fun σ H Q ⟨ι, F, S, ρ, x, S', sim, r, hf, q⟩ => m ι F S ρ x S' σ H Q sim r hf q
theorem s_var {i : Nat} {x : PySem.Str} (hN : X.N[i]? = some x) (hv : Vis X.env.scope x) (hd : (x == ("__debug__" : PySem.Str)) = false) (hcd : (x == ("__classdict__" : PySem.Str)) = false) : PE X (.Name x pos) (rdE X.K X.mg (sVar i)) := by
  refine pe_ofV (pe_var (i := i) hN hv hd hcd) fun ι F S ρ y S' σ H Q sim r hf q => ?_
  unfold sVar at hf
  split at hf
  · rename_i z hz
    cases hf
    obtain ⟨v, h1, h2⟩ := r.get hz
    exact ⟨v, h1, q _ _ _ _ Ext.refl sim h2⟩
  · cases hf
/-- a constant of the text -/
def kOf : PV → Option Const
  | .non => some .none
  | .bl b => some (.bool b)
  | .int i => some (.int i)
  | .str s => if PyData.strOk s = true then some (.str s) else none
  | _ => none
theorem s_k {x : PV} {k : Const} {j : Nat} (h : kOf x = some k) : PE X (.Constant k j pos) (rdE X.K X.mg (sK x)) := by
  have fin : ∀ {v : V}, Rep X.K X.mg (fun _ => none) x v → PE X (.Constant k j pos) (tC v) → PE X (.Constant k j pos) (rdE X.K X.mg (sK x)) := fun {v} r p =>
    pe_ofV p fun ι F S ρ y S' σ H Q sim rr hf q => by
      cases hf
      exact q _ _ _ _ Ext.refl sim (r.mono fun _ _ z => by cases z)
  cases x with
  | non => cases h; exact fin (v := .non) rfl pe_non
  | bl b => cases h; exact fin (v := .bl b) rfl pe_bl
  | int i => cases h; exact fin (v := .int i) rfl pe_int
  | str s =>
    simp only [kOf] at h
    split at h
    · rename_i hs
      cases h
      exact fin (v := .str s) ⟨rfl, hs⟩ pe_str
    · cases h
  | tup xs => cases h
  | lst xs => cases h
  | fn _ => cases h
/-- a module's constant -/
def TupK (K : PySem.W.Frag) (x : PV) (v : V) : Prop := match x with
  | .tup _ => ∃ p o, v = .ref p ∧ K.lookup p = some o ∧ o.cls = .type "tuple" ∧ o.dict = none
  | _ => True
def GlobOk (K : PySem.W.Frag) (mg : PySem.Str → Option Value) (n : PySem.Str) (x : PV) : Prop := ∃ u v, mg n = some u ∧ RelV v u ∧ Rep K mg (fun _ => none) x v ∧ TupK K x v
theorem s_glob {n : PySem.Str} {x : PV} (hg : Gl X n) (h : GlobOk X.K X.mg n x) (hd : (n == ("__debug__" : PySem.Str)) = false) : PE X (.Name n pos) (rdE X.K X.mg (sK x)) := by
  obtain ⟨u, v, h1, h2, h3, _⟩ := h
  refine pe_ofV (pe_glob hg h1 h2 hd) fun ι F S ρ y S' σ H Q sim rr hf q => ?_
  cases hf
  exact q _ _ _ _ Ext.refl sim (h3.mono fun _ _ z => by cases z)
theorem s_nil : PA X [] (rdA X.K X.mg sNil) := pa_mono pa_nil fun σ H Q h => by
  obtain ⟨ι, F, S, ρ, xs, S', sim, r, hf, q⟩ := h
  cases hf
  exact q _ _ _ _ Ext.refl sim rfl
theorem s_cons (ha : PE X e (rdE X.K X.mg fa)) (hr : PA X es (rdA X.K X.mg ts)) (hs : starEach (e :: es) X.env = (false, eval e X.env) :: starEach es X.env) : PA X (e :: es) (rdA X.K X.mg (sCons fa ts)) :=
  pa_mono (pa_cons ha hr hs) fun σ H Q h => by
    obtain ⟨ι, F, S, ρ, xs, S', sim, r, hf, q⟩ := h
    obtain ⟨x, S1, h1, hf⟩ := bind_ok hf
    obtain ⟨ys, S2, h2, hf⟩ := bind_ok hf
    cases hf
    refine ⟨ι, F, S, ρ, x, S1, sim, r, h1, fun ι1 F1 v H1 e1 s1 r1 => ?_⟩
    refine ⟨ι1, F1, S1, ρ, ys, S', s1, r.mono e1, h2, fun ι2 F2 vs H2 e2 s2 r2 => ?_⟩
    exact q _ _ _ _ (e1.trans e2) s2 ⟨v, vs, rfl, r1.mono e2, r2⟩
theorem s_tup {k : Nat} (h : PA X es (rdA X.K X.mg ts)) : PE X (.Tuple es k pos) (rdE X.K X.mg (sTup ts)) := by
  refine pe_ofV (pe_tup h) fun ι F S ρ y S' σ H Q sim r hf q => ?_
  obtain ⟨xs, S1, h1, hf⟩ := bind_ok hf
  split at hf
  · rename_i ys hp
    refine ⟨ι, F, S, ρ, xs, S1, sim, r, h1, fun ι1 F1 vs H1 e1 s1 r1 => ?_⟩
    obtain ⟨g1, g2, _⟩ := fin_mkT s1 (r1.pures hp) hf fun ι2 F2 u H2 e2 s2 r2 => q _ _ _ _ (e1.trans e2) s2 r2
    exact ⟨g1, g2⟩
  · cases hf
theorem s_list {m : Bool} (h : PA X es (rdA X.K X.mg ts)) : PE X (.List es pos) (rdE X.K X.mg (sList m ts)) := by
  refine pe_ofV (pe_lst h) fun ι F S ρ y S' σ H Q sim r hf q => ?_
  obtain ⟨xs, S1, h1, hf⟩ := bind_ok hf
  split at hf
  · rename_i ys hp
    refine ⟨ι, F, S, ρ, xs, S1, sim, r, h1, fun ι1 F1 vs H1 e1 s1 r1 => ?_⟩
    exact fin_mkL s1 (r1.pures hp) hf fun ι2 F2 u H2 e2 s2 r2 => q _ _ _ _ (e1.trans e2) s2 r2
  · cases hf
/-- two values, one after the other -/
theorem two {σ : L2.St} {H : Hp} {R : V → V → Hp → Prop} {ι : Plc} {F : Hp} {S S' : Store} {ρ : Slots} {β : Type} {g : SV → SV → Store → Out β} {z : β} (sim : Sim X.K X.mg ι F S H) (r : RepR X.K X.mg F ι ρ σ)
    (h : ((fa ρ S).bind fun x S1 => (fb ρ S1).bind fun y S2 => g x y S2) = .ok z S')
    (q : ∀ ι2 F2 x y v w S2 H2, Ext ι F ι2 F2 → Sim X.K X.mg ι2 F2 S2 H2 → RepR X.K X.mg F2 ι2 ρ σ → RepS X.K X.mg F2 ι2 x v → RepS X.K X.mg F2 ι2 y w → g x y S2 = .ok z S' → R v w H2) :
    rdE X.K X.mg fa σ H fun v H1 => rdE X.K X.mg fb σ H1 fun w H2 => R v w H2 := by
  obtain ⟨x, S1, h1, h⟩ := bind_ok h
  obtain ⟨y, S2, h2, h⟩ := bind_ok h
  refine ⟨ι, F, S, ρ, x, S1, sim, r, h1, fun ι1 F1 v H1 e1 s1 r1 => ?_⟩
  refine ⟨ι1, F1, S1, ρ, y, S2, s1, r.mono e1, h2, fun ι2 F2 w H2 e2 s2 r2 => ?_⟩
  exact q _ _ _ _ _ _ _ _ (e1.trans e2) s2 (r.mono (e1.trans e2)) (r1.mono e2) r2 h
theorem s_bin {o : BOp} {m : Bool} (ha : PE X a (rdE X.K X.mg fa)) (hb : PE X b (rdE X.K X.mg fb)) : PE X (.BinOp a (opOf o) b pos) (rdE X.K X.mg (sBin o m fa fb)) := by
  refine pe_ofV (pe_op (op_bin o m) ha hb) fun ι F S ρ y S' σ H Q sim r hf q => ?_
  exact two sim r hf fun ι2 F2 x y v w S2 H2 e s _ r1 r2 h => ⟨ι2, F2, S2, x, y, _, S', s, r1, r2, h, fun ι3 F3 u H3 e3 s3 r3 => q _ _ _ _ (e.trans e3) s3 r3⟩
theorem s_neg (ha : PE X a (rdE X.K X.mg fa)) : PE X (.UnaryOp .USub a pos) (rdE X.K X.mg (sNeg fa)) := by
  refine pe_ofV (pe_un un_neg ha) fun ι F S ρ y S' σ H Q sim r hf q => ?_
  obtain ⟨x, S1, h1, h⟩ := bind_ok hf
  refine ⟨ι, F, S, ρ, x, S1, sim, r, h1, fun ι1 F1 v H1 e1 s1 r1 => ?_⟩
  unfold negOp at h
  split at h
  · rename_i i
    cases h; cases r1
    exact ⟨i, rfl, q _ _ _ _ e1 s1 rfl⟩
  · cases h
theorem tru_of {K : PySem.W.Frag} {mg : PySem.Str → Option Value} {ι : Plc} {F H : Hp} {S : Store} {x : SV} {v : V} {k : Bool} (sim : Sim K mg ι F S H) (r : RepS K mg F ι x v) (h : truth S x = some k) : TruV K v H k := by
  cases x with
  | v x =>
    cases x with
    | non => cases r; cases h; rfl
    | bl b => cases r; cases h; rfl
    | int i => cases r; cases h; rfl
    | str s => cases h
    | tup xs =>
      obtain ⟨p, vs, rfl, r', q⟩ := sim.seqT r rfl
      cases h
      exact .inr (.inl ⟨vs, sim.sub.sqT q, by have := r'.length; cases xs <;> cases vs <;> simp at this ⊢⟩)
    | lst xs =>
      obtain ⟨p, vs, rfl, r', q⟩ := sim.seqL r rfl
      cases h
      exact .inl ⟨vs, .inl q, by have := r'.length; cases xs <;> cases vs <;> simp at this ⊢⟩
    | fn _ => cases h
  | l n =>
    simp only [truth] at h
    split at h
    · rename_i xs e
      cases h
      obtain ⟨p, vs, rfl, r', q⟩ := sim.seqL (x := .l n) (xs := xs) r (by simp only [seqOf, e])
      exact .inl ⟨vs, .inl q, by have := r'.length; cases xs <;> cases vs <;> simp at this ⊢⟩
    · cases h
theorem pt_ofT {t : TT} {f : Slots → Store → Out Bool} (h : PT X e t) (m : ∀ (ι : Plc) (F : Hp) (S : Store) (ρ : Slots) (x : Bool) (S' : Store) (σ : L2.St) (H : Hp) (Q : Bool → Hp → Prop), Sim X.K X.mg ι F S H → RepR X.K X.mg F ι ρ σ → f ρ S = .ok x S' →
    (∀ ι' F' H', Ext ι F ι' F' → Sim X.K X.mg ι' F' S' H' → Q x H') → t σ H Q) : PT X e (rdT X.K X.mg f) :=
  pt_mono h fun σ H Q ⟨ι, F, S, ρ, x, S', sim, r, hf, q⟩ => m ι F S ρ x S' σ H Q sim r hf q
/-- a value's truth as a test -/
theorem s_tru (ha : PE X a (rdE X.K X.mg fa)) (he : ∀ whole, isTrue a X.env whole = (do let v ← whole; standAt a.pos; holding [v] (truthy v))) : PT X a (rdT X.K X.mg (tru fa)) := by
  refine pt_ofT (pt_truth ha he) fun ι F S ρ k S' σ H Q sim r hf q => ?_
  obtain ⟨x, S1, h1, h⟩ := bind_ok hf
  refine ⟨ι, F, S, ρ, x, S1, sim, r, h1, fun ι1 F1 v H1 e1 s1 r1 => ?_⟩
  split at h
  · rename_i b hb
    cases h
    exact ⟨k, tru_of s1 r1 hb, q _ _ _ e1 s1⟩
  · cases h
theorem s_not_v (ha : PE X a (rdE X.K X.mg fa)) : PE X (.UnaryOp .Not a pos) (rdE X.K X.mg fun ρ S => (tru fa ρ S).bind fun b S1 => .ok (.v (.bl (!b))) S1) := by
  refine pe_ofV (pe_notT ha) fun ι F S ρ k S' σ H Q sim r hf q => ?_
  obtain ⟨b, S0, h0, hf⟩ := bind_ok hf
  cases hf
  obtain ⟨x, S1, h1, h⟩ := bind_ok h0
  refine ⟨ι, F, S, ρ, x, S1, sim, r, h1, fun ι1 F1 v H1 e1 s1 r1 => ?_⟩
  split at h
  · rename_i b' hb
    cases h
    exact ⟨b, tru_of s1 r1 hb, q _ _ _ _ e1 s1 rfl⟩
  · cases h
theorem s_not_t {f : Slots → Store → Out Bool} (ha : PT X a (rdT X.K X.mg f)) : PT X (.UnaryOp .Not a pos) (rdT X.K X.mg fun ρ S => (f ρ S).bind fun b S1 => .ok (!b) S1) := by
  refine pt_ofT (pt_not ha) fun ι F S ρ k S' σ H Q sim r hf q => ?_
  obtain ⟨b, S0, h0, hf⟩ := bind_ok hf
  cases hf
  exact ⟨ι, F, S, ρ, b, _, sim, r, h0, fun ι1 F1 H1 e1 s1 => q _ _ _ e1 s1⟩
/-! and, or -/
theorem s_and_v {p : Sm × Sm} (ha : PE X a (rdE X.K X.mg p.1.v)) (hb : PE X (.BoolOp .And (b :: es) pos) (rdE X.K X.mg p.2.v)) : PE X (.BoolOp .And (a :: b :: es) pos) (rdE X.K X.mg (sAnd1 p.1 p.2).v) := by
  refine pe_ofV (pe_andT ha hb) fun ι F S ρ k S' σ H Q sim r hf q => ?_
  obtain ⟨x, S1, h1, h⟩ := bind_ok hf
  refine ⟨ι, F, S, ρ, x, S1, sim, r, h1, fun ι1 F1 v H1 e1 s1 r1 => ?_⟩
  split at h
  · rename_i hb
    refine ⟨true, tru_of s1 r1 hb, ?_⟩
    rw [if_pos rfl]
    exact ⟨ι1, F1, S1, ρ, k, S', s1, r.mono e1, h, fun ι2 F2 v2 H2 e2 s2 r2 => q _ _ _ _ (e1.trans e2) s2 r2⟩
  · rename_i hb
    cases h
    refine ⟨false, tru_of s1 r1 hb, ?_⟩
    rw [if_neg (by simp)]
    exact q _ _ _ _ e1 s1 r1
  · cases h
theorem s_or_v {p : Sm × Sm} (ha : PE X a (rdE X.K X.mg p.1.v)) (hb : PE X (.BoolOp .Or (b :: es) pos) (rdE X.K X.mg p.2.v)) : PE X (.BoolOp .Or (a :: b :: es) pos) (rdE X.K X.mg (sOr1 p.1 p.2).v) := by
  refine pe_ofV (pe_orT ha hb) fun ι F S ρ k S' σ H Q sim r hf q => ?_
  obtain ⟨x, S1, h1, h⟩ := bind_ok hf
  refine ⟨ι, F, S, ρ, x, S1, sim, r, h1, fun ι1 F1 v H1 e1 s1 r1 => ?_⟩
  split at h
  · rename_i hb
    cases h
    refine ⟨true, tru_of s1 r1 hb, ?_⟩
    rw [if_pos rfl]
    exact q _ _ _ _ e1 s1 r1
  · rename_i hb
    refine ⟨false, tru_of s1 r1 hb, ?_⟩
    rw [if_neg (by simp)]
    exact ⟨ι1, F1, S1, ρ, k, S', s1, r.mono e1, h, fun ι2 F2 v2 H2 e2 s2 r2 => q _ _ _ _ (e1.trans e2) s2 r2⟩
  · cases h
theorem s_and_t {p : Sm × Sm} (ha : PT X a (rdT X.K X.mg p.1.t)) (hb : PW X (.BoolOp .And (b :: es) pos) (rdT X.K X.mg p.2.t)) : PW X (.BoolOp .And (a :: b :: es) pos) (rdT X.K X.mg (sAnd1 p.1 p.2).t) := by
  refine pw_mono (pw_and ha hb) fun σ H Q ⟨ι, F, S, ρ, k, S', sim, r, hf, q⟩ => ?_
  obtain ⟨t, S1, h1, h⟩ := bind_ok hf
  refine ⟨ι, F, S, ρ, t, S1, sim, r, h1, fun ι1 F1 H1 e1 s1 => ?_⟩
  split at h
  · rename_i ht
    rw [if_pos ht]
    exact ⟨ι1, F1, S1, ρ, k, S', s1, r.mono e1, h, fun ι2 F2 H2 e2 s2 => q _ _ _ (e1.trans e2) s2⟩
  · rename_i ht
    cases h
    rw [if_neg ht]
    exact q _ _ _ e1 s1
theorem s_or_t {p : Sm × Sm} (ha : PT X a (rdT X.K X.mg p.1.t)) (hb : PW X (.BoolOp .Or (b :: es) pos) (rdT X.K X.mg p.2.t)) : PW X (.BoolOp .Or (a :: b :: es) pos) (rdT X.K X.mg (sOr1 p.1 p.2).t) := by
  refine pw_mono (pw_or ha hb) fun σ H Q ⟨ι, F, S, ρ, k, S', sim, r, hf, q⟩ => ?_
  obtain ⟨t, S1, h1, h⟩ := bind_ok hf
  refine ⟨ι, F, S, ρ, t, S1, sim, r, h1, fun ι1 F1 H1 e1 s1 => ?_⟩
  split at h
  · rename_i ht
    cases h
    rw [if_pos ht]
    exact q _ _ _ e1 s1
  · rename_i ht
    rw [if_neg ht]
    exact ⟨ι1, F1, S1, ρ, k, S', s1, r.mono e1, h, fun ι2 F2 H2 e2 s2 => q _ _ _ (e1.trans e2) s2⟩
/-! comparisons -/
theorem s_cmp_v {o : COp} (hu : X.A.units + 65 < cLine) (ha : PE X a (rdE X.K X.mg fa)) (hb : PE X b (rdE X.K X.mg fb)) (hm : behindInMarks (opC o) b = false) : PE X (.Compare a [opC o] [b] pos) (rdE X.K X.mg (sCmp o fa fb).v) := by
  refine pe_ofV (pe_cmpR (op_cmpF hu o) ha hb hm) fun ι F S ρ k S' σ H Q sim r hf q => ?_
  obtain ⟨bb, S0, h0, hf⟩ := bind_ok hf
  cases hf
  refine two sim r h0 fun ι2 F2 x y v w S2 H2 e s _ r1 r2 h => ?_
  split at h
  · rename_i b' hb
    cases h
    exact ⟨ι2, F2, _, x, y, _, s, r1, r2, hb, q _ _ _ _ e s rfl⟩
  · cases h
theorem s_cmp_t {o : COp} (hu : X.A.units + 65 < cLine) (ha : PE X a (rdE X.K X.mg fa)) (hb : PE X b (rdE X.K X.mg fb)) (hm : behindInMarks (opC o) b = false) : PT X (.Compare a [opC o] [b] pos) (rdT X.K X.mg (sCmp o fa fb).t) := by
  refine pt_ofT (pt_cmpR (op_cmpF hu o) ha hb hm) fun ι F S ρ k S' σ H Q sim r hf q => ?_
  refine two sim r hf fun ι2 F2 x y v w S2 H2 e s _ r1 r2 h => ?_
  split at h
  · rename_i b' hb
    cases h
    exact ⟨ι2, F2, _, x, y, _, s, r1, r2, hb, k, rfl, q _ _ _ e s⟩
  · cases h
theorem s_chain_v {o o' : COp} (hu : X.A.units + 65 < cLine) (ha : PE X a (rdE X.K X.mg fa)) (hb : PE X b (rdE X.K X.mg fb)) (hc : PE X c (rdE X.K X.mg fc)) (hm : lastMarks [opC o, opC o'] [b, c] = false) : PE X (.Compare a [opC o, opC o'] [b, c] pos) (rdE X.K X.mg (sChain o o' fa fb fc).v) := by
  refine pe_ofV (pe_chain (op_cmpF hu o) (op_cmpF hu o') ha hb hc hm) fun ι F S ρ k S' σ H Q sim r hf q => ?_
  obtain ⟨bb, S0, h0, hf⟩ := bind_ok hf
  cases hf
  refine two sim r h0 fun ι2 F2 x y v w S2 H2 e s rr r1 r2 h => ?_
  split at h
  · rename_i hb
    obtain ⟨z, S3, h3, h⟩ := bind_ok h
    refine ⟨ι2, F2, _, x, y, _, s, r1, r2, hb, true, rfl, ?_⟩
    rw [if_pos rfl]
    refine ⟨ι2, F2, _, ρ, z, S3, s, rr, h3, fun ι4 F4 v4 H4 e4 s4 r4 => ?_⟩
    split at h
    · rename_i b' hb
      cases h
      exact ⟨ι4, F4, _, y, z, _, s4, r2.mono e4, r4, hb, q _ _ _ _ (e.trans e4) s4 rfl⟩
    · cases h
  · rename_i hb
    cases h
    refine ⟨ι2, F2, _, x, y, _, s, r1, r2, hb, false, rfl, ?_⟩
    rw [if_neg (by simp)]
    exact q _ _ _ _ e s rfl
  · cases h
theorem s_chain_t {o o' : COp} (hu : X.A.units + 65 < cLine) (ha : PE X a (rdE X.K X.mg fa)) (hb : PE X b (rdE X.K X.mg fb)) (hc : PE X c (rdE X.K X.mg fc)) (hm : lastMarks [opC o, opC o'] [b, c] = false) : PT X (.Compare a [opC o, opC o'] [b, c] pos) (rdT X.K X.mg (sChain o o' fa fb fc).t) := by
  refine pt_ofT (pt_chain (op_cmpF hu o) (op_cmpF hu o') ha hb hc hm) fun ι F S ρ k S' σ H Q sim r hf q => ?_
  refine two sim r hf fun ι2 F2 x y v w S2 H2 e s rr r1 r2 h => ?_
  split at h
  · rename_i hb
    obtain ⟨z, S3, h3, h⟩ := bind_ok h
    refine ⟨ι2, F2, _, x, y, _, s, r1, r2, hb, true, rfl, ?_⟩
    rw [if_pos rfl]
    refine ⟨ι2, F2, _, ρ, z, S3, s, rr, h3, fun ι4 F4 v4 H4 e4 s4 r4 => ?_⟩
    split at h
    · rename_i b' hb
      cases h
      exact ⟨ι4, F4, _, y, z, _, s4, r2.mono e4, r4, hb, k, rfl, q _ _ _ (e.trans e4) s4⟩
    · cases h
  · rename_i hb
    cases h
    refine ⟨ι2, F2, _, x, y, _, s, r1, r2, hb, false, rfl, ?_⟩
    rw [if_neg (by simp)]
    exact ⟨false, rfl, q _ _ _ e s⟩
  · cases h
theorem s_ite_v {cs as bs : Sm} (hc : PT X c (rdT X.K X.mg cs.t)) (ha : PE X a (rdE X.K X.mg as.v)) (hb : PE X b (rdE X.K X.mg bs.v)) : PE X (.IfExp c a b pos) (rdE X.K X.mg (sIte cs as bs).v) := by
  refine pe_ofV (pe_ifExp hc ha hb) fun ι F S ρ k S' σ H Q sim r hf q => ?_
  obtain ⟨t, S1, h1, h⟩ := bind_ok hf
  refine ⟨ι, F, S, ρ, t, S1, sim, r, h1, fun ι1 F1 H1 e1 s1 => ?_⟩
  split at h
  · rename_i ht
    rw [if_pos ht]
    exact ⟨ι1, F1, S1, ρ, k, S', s1, r.mono e1, h, fun ι2 F2 v2 H2 e2 s2 r2 => q _ _ _ _ (e1.trans e2) s2 r2⟩
  · rename_i ht
    rw [if_neg ht]
    exact ⟨ι1, F1, S1, ρ, k, S', s1, r.mono e1, h, fun ι2 F2 v2 H2 e2 s2 r2 => q _ _ _ _ (e1.trans e2) s2 r2⟩
end
end FW

/-! FW: calls, built-ins, subscripts, what is walked, comprehensions. -/
namespace FW
open PySem PySem.Spec PyProof.Rows L2

/-- a def that stands at its name and does what f means -/
def FO (P : Program) (w : World) (K : PySem.W.Frag) (mg : PySem.Str → Option Value) (base : Heap) (k : Nat) (n : PySem.Str) (f : Fn) : Prop :=
  ∃ (a : Addr) (fd : FuncData) (ps : List PySem.Str), mg n = some (.ref a) ∧ PySem.W.keepIn K (.ref a) = true ∧ Binds K fd ps [] ∧ FnOk P w K mg base L2.CX0 k a fd ps (fun vs H Q _ => rdV K mg f vs H Q)
theorem FO.mono {P : Program} {w : World} {K : PySem.W.Frag} {mg : PySem.Str → Option Value} {base : Heap} {j k : Nat} {n : PySem.Str} {f : Fn} (h : FO P w K mg base j n f) (hk : j ≤ k) : FO P w K mg base k n f := by
  obtain ⟨a, fd, ps, h1, h2, h3, h4⟩ := h
  exact ⟨a, fd, ps, h1, h2, h3, h4.mono hk⟩
def noStar : Expr → Bool
  | .Starred _ _ => false
  | _ => true
theorem star_one {e : Expr} (h : noStar e = true) (es : List Expr) (env : Env) : starEach (e :: es) env = (false, eval e env) :: starEach es env := by
  cases e <;> first | rfl | simp [noStar] at h
theorem star_all (pos : Pos) (env : Env) : ∀ {es : List Expr}, (∀ e ∈ es, noStar e = true) → (backTo pos (starEach es env)).any (·.1) = false
  | [], _ => rfl
  | e :: es, h => by
    rw [star_one (h e List.mem_cons_self)]
    have := star_all pos env (es := es) fun x hx => h x (List.mem_cons_of_mem _ hx)
    simp only [backTo, List.map_cons, List.any_cons] at this ⊢
    simpa using this
section
variable {X : Cx} {a b c e : Expr} {es : List Expr} {pos p : Pos} {fa fb fc : VS} {ts : LS} {n : PySem.Str}
theorem call_fin {f : Fn} {ts : LS} {ι : Plc} {F' : Hp} {S S' : Store} {ρ : Slots} {x : SV} {σ : L2.St} {H : Hp} {Q : VK} (sim : Sim X.K X.mg ι F' S H) (r : RepR X.K X.mg F' ι ρ σ) (hf : sCall (some f) ts ρ S = .ok x S')
    (q : ∀ ι' F'' v H', Ext ι F' ι' F'' → Sim X.K X.mg ι' F'' S' H' → RepS X.K X.mg F'' ι' x v → Q v H') : tCall (fun vs H Q _ => rdV X.K X.mg f vs H Q) [] E0 (rdA X.K X.mg ts) σ H Q := by
  obtain ⟨xs, S1, h1, h⟩ := bind_ok hf
  refine ⟨ι, F', S, ρ, xs, S1, sim, r, h1, fun ι1 F1 vs H1 e1 s1 r1 => ?_⟩
  show rdV X.K X.mg f (vs ++ []) H1 Q
  rw [List.append_nil]
  exact ⟨ι1, F1, S1, xs, x, S', s1, r1, h, fun ι2 F2 u H2 e2 s2 r2 => q _ _ _ _ (e1.trans e2) s2 r2⟩
theorem s_call0 {k : Nat} {f : Fn} (hr : Room k X.A) (hf : FO X.prog X.w X.K X.mg X.base k n f) (hg : Gl X n) (hd : (n == ("__debug__" : PySem.Str)) = false) : PE X (.Call (.Name n p) [] [] pos) (rdE X.K X.mg (sCall (some f) sNil)) := by
  obtain ⟨ad, fd, ps, hm, hk, hb, F⟩ := hf
  refine pe_ofV (pe_mono (pe_call0 F hr hg hm hk hb .nil pass0 hd) fun σ H Q h => ?_) fun ι F' S ρ x S' σ H Q sim r hf q => call_fin sim r hf q
  obtain ⟨ι, F', S, ρ, xs, S', sim, r, hh, q⟩ := h
  cases hh
  exact q _ _ _ _ Ext.refl sim rfl
theorem s_call {k : Nat} {f : Fn} (hr : Room k X.A) (hf : FO X.prog X.w X.K X.mg X.base k n f) (hg : Gl X n) (hd : (n == ("__debug__" : PySem.Str)) = false) (ha : PA X (e :: es) (rdA X.K X.mg ts)) (hs : ∀ x ∈ e :: es, noStar x = true) :
    PE X (.Call (.Name n p) (e :: es) [] pos) (rdE X.K X.mg (sCall (some f) ts)) := by
  obtain ⟨ad, fd, ps, hm, hk, hb, F⟩ := hf
  exact pe_ofV (pe_call F hr hg hm hk hb .nil pass0 ha hd (star_one (hs e List.mem_cons_self) es X.env) (star_all pos X.env fun x hx => hs x (List.mem_cons_of_mem _ hx))) fun ι F' S ρ x S' σ H Q sim r hf q => call_fin sim r hf q

/-- a def's name as a value -/
theorem s_fnv {k : Nat} {f : Fn} (hf : FO X.prog X.w X.K X.mg X.base k n f) (hg : Gl X n) (hd : (n == ("__debug__" : PySem.Str)) = false) : PE X (.Name n p) (rdE X.K X.mg (sK (.fn n))) := by
  obtain ⟨ad, fd, ps, hm, hk, hb, F⟩ := hf
  refine pe_ofV (pe_glob hg hm (v := .ref ad) rfl hd) fun ι F S ρ y S' σ H Q sim rr hf q => ?_
  cases hf
  exact q _ _ _ _ Ext.refl sim ⟨ad, rfl, hm⟩
/-- a call of what a name or a subscript gives -/
def callHead : Expr → Bool
  | .Name _ _ => true
  | .Subscript _ _ _ => true
  | _ => false
theorem s_callv {k : Nat} {Γ : List (PySem.Str × Fn)} {fe : Expr} {ff : VS} (hr : Room k X.A) (hΓ : ∀ n f, Γ.lookup n = some f → FO X.prog X.w X.K X.mg X.base k n f) (hf : PE X fe (rdE X.K X.mg ff)) (hh : callHead fe = true) (ha : PA X (e :: es) (rdA X.K X.mg ts)) (hs : ∀ x ∈ e :: es, noStar x = true) :
    PE X (.Call fe (e :: es) [] pos) (rdE X.K X.mg (sCallv Γ ff ts)) := by
  refine ⟨fun pins s σ H Q I h => ?_⟩
  obtain ⟨ι, F, S, ρ, z, S', sim, r, hz, q⟩ := h
  obtain ⟨x, S1, h1, hz⟩ := bind_ok hz
  split at hz
  · rename_i n
    split at hz
    · rename_i g hg
      obtain ⟨ad, fd, ps, hm, hk, hb, Fn⟩ := hΓ n g hg
      have go : wpAny (model X.prog X.w) X.A (eval fe X.env) (fun f s1 => wpAny (model X.prog X.w) X.A (callWith pos f [] (backTo pos (starEach (e :: es) X.env)) []) (EP X pins σ Q) X.xe s1) X.xe s := by
        refine thn (hf.run pins s σ H (fun v H1 => v = .ref ad ∧ ∃ ι1 F1, Ext ι F ι1 F1 ∧ Sim X.K X.mg ι1 F1 S1 H1) I ⟨ι, F, S, ρ, _, S1, sim, r, h1, fun ι1 F1 v H1 e1 s1 r1 => ?_⟩) fun u s1 ⟨v, H1, I1, r1, ev, ι1, F1, e1, sim1⟩ => ?_
        · obtain ⟨a, rfl, ha'⟩ := r1
          rw [hm] at ha'; cases ha'
          exact ⟨rfl, ι1, F1, e1, s1⟩
        · subst ev
          cases r1
          have hc := call_fin (Q := Q) (ts := ts) (σ := σ) sim1 (r.mono e1) hz (fun ι2 F2 v2 H2 e2 s2 r2 => q _ _ _ _ (e1.trans e2) s2 r2)
          exact PySem.W.callWith_K (h₀ := X.base) I1.ok.mod.kin hk (thn (ha.run pos pins s1 σ H1 _ I1 hc) fun us s2 ⟨vs, H2, I2, r2, q2⟩ => ⟨I2.kIn, run_fn Fn hr hb .nil pass0 I2 r2 q2⟩) (star_one (hs e List.mem_cons_self) es X.env) (star_all pos X.env fun x hx => hs x (List.mem_cons_of_mem _ hx))
      cases fe <;> first | (simp [callHead] at hh; done) | exact wpAny_Call_Name_kw go | exact Call_ go rfl
    · cases hz
  · cases hz
theorem ixOf_some {x : PV} : ∀ {ys : List PV} {j : Nat}, ixOf x ys = some j → ∃ z, ys[j]? = some z ∧ eqv z x = true ∧ ∀ m z', m < j → ys[m]? = some z' → eqv z' x = false
  | [], _, h => by simp [ixOf] at h
  | y :: r, j, h => by
    unfold ixOf at h
    split at h
    · rename_i he
      cases h
      exact ⟨y, rfl, he, fun m z' hm => by omega⟩
    · rename_i he
      obtain ⟨i, hi, rfl⟩ := Option.map_eq_some_iff.mp h
      obtain ⟨z, h1, h2, h3⟩ := ixOf_some hi
      refine ⟨z, by simpa using h1, h2, fun m z' hm hz => ?_⟩
      cases m with
      | zero => simp at hz; subst hz; simpa using he
      | succ m => exact h3 m z' (by omega) (by simpa using hz)
theorem pds_get : ∀ {ys : List PV} {j : Nat} {d : PyData}, (pds ys)[j]? = some d → ∃ y, ys[j]? = some y ∧ d = pd y
  | [], _, _, h => by simp [pds] at h
  | y :: _, 0, _, h => by simp [pds] at h; exact ⟨y, rfl, h.symm⟩
  | _ :: r, j + 1, _, h => by simp only [pds, List.getElem?_cons_succ] at h; obtain ⟨y, h1, h2⟩ := pds_get h; exact ⟨y, by simpa using h1, h2⟩
theorem pds_at : ∀ {ys : List PV} {j : Nat} {y : PV}, ys[j]? = some y → (pds ys)[j]? = some (pd y)
  | [], _, _, h => by simp at h
  | y :: _, 0, _, h => by simp at h; subst h; rfl
  | _ :: r, j + 1, _, h => by simp only [pds, List.getElem?_cons_succ]; exact pds_at (by simpa using h)
theorem strs_of {K : PySem.W.Frag} {mg : PySem.Str → Option Value} {F : Hp} : ∀ {ys : List PV} {vs : List V}, RepL K mg F ys vs → allStr ys = true → ∃ ss : List PySem.Str, ys = ss.map PV.str ∧ vs = ss.map V.str
  | [], _, r, _ => by cases r; exact ⟨[], rfl, rfl⟩
  | y :: ys, _, ⟨v, t, e, a, b⟩, h => by
    cases y <;> simp only [allStr, Bool.false_eq_true] at h
    obtain ⟨rfl, _⟩ := a
    obtain ⟨ss, rfl, rfl⟩ := strs_of b h
    subst e
    exact ⟨_ :: ss, rfl, rfl⟩
theorem mt_ix (hu : X.A.units + 65 < cLine) {t : Bool} : MtR X (if t = true then "list.index" else "tuple.index") (fun x xs H Q => ∃ y, xs = [y] ∧ ∃ ι F S sx sy z ys, Sim X.K X.mg ι F S H ∧ RepS X.K X.mg F ι sx x ∧ RepS X.K X.mg F ι sy y ∧ seqOf S sx = some (t, ys) ∧ indexOp sx sy S = .ok z S ∧
    ∀ w, RepS X.K X.mg F ι z w → Q w H) := by
  intro pins s σ H x xs v us Q I rx rxs h
  obtain ⟨y, rfl, ι, F, S, sx, sy, z, ys, sim, r1, r2, hs, hi, q⟩ := h
  unfold indexOp at hi
  split at hi
  · rename_i py
    cases t with
    | true =>
      rw [hs] at hi
      simp only at hi
      split at hi
      · rename_i hc
        simp only [Bool.and_eq_true] at hc
        obtain ⟨⟨⟨n1, n2⟩, d1⟩, d2⟩ := hc
        split at hi
        · rename_i j hj
          cases hi
          obtain ⟨p, vs, rfl, l, hq⟩ := sim.seqL r1 hs
          obtain ⟨zz, g1, g2, g3⟩ := ixOf_some hj
          refine mt_indexD hu pins s σ H _ _ v us Q I rx rxs ⟨p, y, pd py, pds ys, j, pd zz, rfl, rfl, .lst (.inl hq) (RepL.dp sim.sub l n2), Rep.dp sim.sub r2 n1, ?_, ?_, pds_at g1, by rw [pd_eqv]; exact g2, fun m z' hm hz => ?_, q _ rfl⟩
          · simp only [SeqAt.shaped, PyData.canLay0, PyData.depth, Bool.and_eq_true, decide_eq_true_eq]
            exact ⟨pds_lay l, decide_eq_true (by have := pds_depth d2; omega)⟩
          · simp only [SeqAt.shaped, Bool.and_eq_true]
            exact ⟨pd_lay r2, decide_eq_true (by have := pd_depth d1; omega)⟩
          · obtain ⟨y', k1, rfl⟩ := pds_get hz
            rw [pd_eqv]
            exact g3 m y' hm k1
        · cases hi
      · cases hi
    | false =>
      rw [hs] at hi
      simp only at hi
      split at hi
      · rename_i hc
        simp only [Bool.and_eq_true] at hc
        split at hi
        · rename_i j hj
          cases hi
          obtain ⟨p, vs, rfl, l, hq⟩ := sim.seqT r1 hs
          obtain ⟨ss, rfl, rfl⟩ := strs_of l hc.2
          cases py <;> simp only [isStrV, Bool.false_eq_true, false_and] at hc
          rename_i w
          obtain ⟨rfl, _⟩ := r2
          obtain ⟨zz, g1, g2, g3⟩ := ixOf_some hj
          refine mt_tup_index pins s σ H _ _ v us Q I rx rxs ⟨p, ss, w, j, rfl, rfl, sim.sub.sqT hq, ?_, fun m hm hz => ?_, q _ rfl⟩
          · rw [List.getElem?_map] at g1
            obtain ⟨u, hu1, rfl⟩ := Option.map_eq_some_iff.mp g1
            simp only [eqv, decide_eq_true_eq] at g2
            subst g2
            exact hu1
          · have := g3 m (.str w) hm (by rw [List.getElem?_map, hz]; rfl)
            simp [eqv] at this
        · cases hi
      · cases hi
  · cases hi
theorem index_inv {a x z : SV} {S S' : Store} (h : indexOp a x S = .ok z S') : S' = S ∧ ∃ t ys, seqOf S a = some (t, ys) := by
  unfold indexOp at h
  split at h
  · split at h
    · split at h
      · split at h
        · cases h; exact ⟨rfl, _, _, by assumption⟩
        · cases h
      · cases h
    · split at h
      · split at h
        · cases h; exact ⟨rfl, _, _, by assumption⟩
        · cases h
      · cases h
    · cases h
  · cases h
theorem isLs_ty {K : PySem.W.Frag} {mg : PySem.Str → Option Value} {F H : Hp} {ι : Plc} {S : Store} {x : SV} {v : V} (sim : Sim K mg ι F S H) (r : RepS K mg F ι x v) (h : isLs S x = true) : tyV K "list" v H ∧ ∃ ys, seqOf S x = some (true, ys) := by
  unfold isLs at h
  split at h
  · rename_i ys hy
    obtain ⟨p, vs, rfl, l, hq⟩ := sim.seqL r hy
    exact ⟨.inl ⟨rfl, vs, .inl hq⟩, ys, hy⟩
  · cases h
/-- a.index(x) of a list -/
theorem s_index {apos cpos : Pos} {o : Expr} (hu : X.A.units + 65 < cLine) (ho : PE X o (rdE X.K X.mg fa)) (he : PE X e (rdE X.K X.mg fb)) (hs : noStar e = true) (hbase : attributeBase o "index" X.env (eval o X.env) = eval o X.env) (hline : (apos.endLine == cpos.line) = true) :
    PE X (.Call (.Attribute o "index" apos) [e] [] cpos) (rdE X.K X.mg (sIndex fa fb)) := by
  have few : ((backTo cpos (starEach [e] X.env)).all (fun x => !x.1) && (backToKw cpos (keywordEach [] X.env)).all (fun x => x.1.isSome)
      && decide (([e] : List Expr).length + ([] : List Keyword).length + (if ([] : List Keyword).isEmpty then 0 else 1) < 30)) = true := by rw [star_one hs]; rfl
  refine pe_ofV (pe_bm F.plainAttrs_list F.slot_list_index F.type_list_index (mt_ix (t := true) hu) ho (pa_cons he pa_nil (star_one hs _ _)) hbase few hline (star_one hs _ _) rfl) fun ι F S ρ z S' σ H Q sim r hz q => ?_
  obtain ⟨x, S1, h1, hz⟩ := bind_ok hz
  split at hz
  case isFalse => cases hz
  rename_i hL1
  obtain ⟨y, S2, h2, hz⟩ := bind_ok hz
  split at hz
  case isFalse => cases hz
  rename_i hL2
  obtain ⟨rfl, _⟩ := index_inv hz
  refine ⟨ι, F, S, ρ, x, S1, sim, r, h1, fun ι1 F1 v H1 e1 s1 r1 => ⟨(isLs_ty s1 r1 hL1).1, ?_⟩⟩
  refine ⟨ι1, F1, S1, ρ, y, S', s1, r.mono e1, h2, fun ι2 F2 w H2 e2 s2 r2 => ?_⟩
  obtain ⟨_, ys, hy⟩ := isLs_ty s2 (r1.mono e2) hL2
  exact ⟨w, rfl, ι2, F2, S', x, y, z, ys, s2, r1.mono e2, r2, hy, hz, fun u ru => q _ _ _ _ (e1.trans e2) s2 ru⟩
/-- of a module's tuple -/
theorem s_indexG {apos cpos : Pos} {xs : List PV} (hu : X.A.units + 65 < cLine) (hg : Gl X n) (h : GlobOk X.K X.mg n (.tup xs)) (hd : (n == ("__debug__" : PySem.Str)) = false) (he : PE X e (rdE X.K X.mg fb)) (hs : noStar e = true) (hline : (apos.endLine == cpos.line) = true) :
    PE X (.Call (.Attribute (.Name n p) "index" apos) [e] [] cpos) (rdE X.K X.mg (sIndexG xs fb)) := by
  have few : ((backTo cpos (starEach [e] X.env)).all (fun x => !x.1) && (backToKw cpos (keywordEach [] X.env)).all (fun x => x.1.isSome)
      && decide (([e] : List Expr).length + ([] : List Keyword).length + (if ([] : List Keyword).isEmpty then 0 else 1) < 30)) = true := by rw [star_one hs]; rfl
  obtain ⟨u, v, g1, g2, g3, g4⟩ := h
  refine pe_ofV (pe_bm F.plainAttrs_tuple F.slot_tuple_index F.type_tuple_index (mt_ix (t := false) hu) (pe_glob hg g1 g2 hd) (pa_cons he pa_nil (star_one hs _ _)) rfl few hline (star_one hs _ _) rfl) fun ι F S ρ z S' σ H Q sim r hz q => ?_
  obtain ⟨y, S1, h1, hz⟩ := bind_ok hz
  obtain ⟨rfl, _⟩ := index_inv hz
  obtain ⟨pp, o, rfl, k1, k2, k3⟩ := g4
  refine ⟨.inr (.inl ⟨rfl, o, k1, k2, k3⟩), ι, F, S, ρ, y, S', sim, r, h1, fun ι1 F1 w H1 e1 s1 r1 => ?_⟩
  exact ⟨w, rfl, ι1, F1, S', .v (.tup xs), y, z, xs, s1, g3.mono (fun _ _ z => by cases z), r1, rfl, hz, fun u ru => q _ _ _ _ e1 s1 ru⟩
/-! ### built-ins, by values -/
theorem vs_one {K : PySem.W.Frag} {mg : PySem.Str → Option Value} {F : Hp} {ι : Plc} {x : SV} {vs : List V} (h : RepSs K mg F ι [x] vs) : ∃ v, vs = [v] ∧ RepS K mg F ι x v := by
  obtain ⟨v, r, e, q, z⟩ := h
  cases z
  exact ⟨v, e, q⟩
theorem vs_two {K : PySem.W.Frag} {mg : PySem.Str → Option Value} {F : Hp} {ι : Plc} {x y : SV} {vs : List V} (h : RepSs K mg F ι [x, y] vs) : ∃ v w, vs = [v, w] ∧ RepS K mg F ι x v ∧ RepS K mg F ι y w := by
  obtain ⟨v, r, e, q, z⟩ := h
  obtain ⟨w, rfl, q2⟩ := vs_one z
  exact ⟨v, w, e, q, q2⟩
theorem RepL.ints {K : PySem.W.Frag} {mg : PySem.Str → Option Value} {F : Hp} : ∀ {ys : List PV} {vs : List V} {is : List Int}, RepL K mg F ys vs → ints? ys = some is → vs = is.map V.int
  | [], _, is, r, h => by cases r; simp [ints?] at h; subst h; rfl
  | y :: ys, _, is, ⟨v, t, e, a, b⟩, h => by
    cases y <;> simp only [ints?, reduceCtorEq, Option.map_eq_some_iff] at h
    obtain ⟨js, h1, h2⟩ := h
    subst h2 e
    cases a
    rw [RepL.ints b h1]
    rfl
theorem sumI_eq : ∀ is : List Int, sumI is = is.sum
  | [] => rfl
  | i :: r => by rw [sumI, sumI_eq r, List.sum_cons]
theorem seq_or {K : PySem.W.Frag} {mg : PySem.Str → Option Value} {F H : Hp} {ι : Plc} {S : Store} {x : SV} {v : V} {t : Bool} {ys : List PV} (sim : Sim K mg ι F S H) (r : RepS K mg F ι x v) (h : seqOf S x = some (t, ys)) :
    ∃ p vs, v = .ref p ∧ RepL K mg F ys vs ∧ (SqL K H p vs ∨ SqT K H p vs) := by
  cases t with
  | true => obtain ⟨p, vs, e, l, q⟩ := sim.seqL r h; exact ⟨p, vs, e, l, .inl (.inl q)⟩
  | false => obtain ⟨p, vs, e, l, q⟩ := sim.seqT r h; exact ⟨p, vs, e, l, .inr (sim.sub.sqT q)⟩
/-- a call of one value -/
def rdO (K : PySem.W.Frag) (mg : PySem.Str → Option Value) (f : SV → Store → Out SV) : List V → Hp → VK → Prop := fun vs H Q => ∃ v, vs = [v] ∧ rd1 K mg f v H Q
theorem bi_len : CallR X (.builtin "len") (rdO X.K X.mg bLen) := by
  intro pins s σ H vs us Q I r h
  obtain ⟨v, rfl, ι, F, S, x, y, S', sim, rv, h, q⟩ := h
  unfold bLen at h
  cases h1 : seqOf S x with
  | some p =>
    obtain ⟨t, ys⟩ := p
    rw [h1] at h
    cases h
    obtain ⟨p, vs, rfl, l, hq⟩ := seq_or sim rv h1
    exact call_len_seq pins s σ H _ us Q I r ⟨p, vs, rfl, hq, by rw [← l.length]; exact q _ _ _ _ Ext.refl sim rfl⟩
  | none =>
    rw [h1] at h
    simp only at h
    cases h2 : dicOf S x with
    | none => rw [h2] at h; cases h
    | some kvs =>
      rw [h2] at h
      cases h
      obtain ⟨n, p, ws, rfl, hι, hS, rfl, hF, hH, rd⟩ := sim.dic rv h2
      obtain ⟨u, rfl, ru⟩ := vals1 r
      cases ru
      refine d_len I (.inl hH) fun t s' I' => ⟨.int _, H, I', ⟨t, rfl⟩, ?_⟩
      rw [← rd.length]
      exact q _ _ _ _ Ext.refl sim rfl
theorem bi_int : CallR X (.type "int") (rdO X.K X.mg bInt) := by
  intro pins s σ H vs us Q I r h
  obtain ⟨v, rfl, ι, F, S, x, y, S', sim, rv, h, q⟩ := h
  unfold bInt at h
  split at h
  · rename_i i
    cases h; cases rv
    exact call_int1 pins s σ H _ us Q I r (.inl ⟨i, rfl, q _ _ _ _ Ext.refl sim rfl⟩)
  · rename_i b
    cases h; cases rv
    exact call_int1 pins s σ H _ us Q I r (.inr ⟨b, rfl, q _ _ _ _ Ext.refl sim rfl⟩)
  · cases h
theorem bi_abs : CallR X (.builtin "abs") (rdO X.K X.mg bAbs) := by
  intro pins s σ H vs us Q I r h
  obtain ⟨v, rfl, ι, F, S, x, y, S', sim, rv, h, q⟩ := h
  unfold bAbs at h
  split at h
  · rename_i i
    cases h; cases rv
    exact call_abs pins s σ H _ us Q I r ⟨i, rfl, q _ _ _ _ Ext.refl sim rfl⟩
  · cases h
theorem onSeq_inv {f : List PV → Out SV} {x : SV} {S : Store} {z : SV} {S' : Store} (h : onSeq f x S = .ok z S') : ∃ t ys, seqOf S x = some (t, ys) ∧ f ys = .ok z S' := by
  unfold onSeq at h
  cases e : seqOf S x with
  | none => rw [e] at h; cases h
  | some p => obtain ⟨t, ys⟩ := p; rw [e] at h; exact ⟨t, ys, rfl, h⟩
theorem bi_sum (hc : X.calm = true) : CallR X (.builtin "sum") (rdO X.K X.mg bSum) := by
  intro pins s σ H vs us Q I r h
  obtain ⟨v, rfl, ι, F, S, x, y, S', sim, rv, h, q⟩ := h
  obtain ⟨t, ys, h1, h⟩ := onSeq_inv h
  split at h
  · rename_i is hi
    cases h
    obtain ⟨p, vs, rfl, l, hq⟩ := seq_or sim rv h1
    rw [l.ints hi] at hq
    have q' : Q (.int is.sum) H := by
      rw [← sumI_eq]
      exact q _ _ _ _ Ext.refl sim rfl
    rcases hq with hq | hq
    · exact cr_sum hc pins s σ H _ us Q I r ⟨p, is, rfl, hq, q'⟩
    · obtain ⟨its, rv, hl, _⟩ := I.tuple hq
      rw [Vals.ref1 r]
      have hia := rv.ints
      obtain ⟨xs, e⟩ := hia.allInts.items
      have hn : numsOf (intItems xs).toList = is := by rw [← e]; exact hia.numsOf
      rw [nums_intItems] at hn
      have hl' : s.heap.IsTuple p its.toArray := hl
      rw [e] at hl'
      refine PySem.W.ktm_sumG (I.ok.hd hc) hl' fun h' tk t' hk => ⟨.int _, H, I.kept hk, ⟨_, rfl⟩, ?_⟩
      rw [preSum_eq, List.take_of_length_le (by simp), hn]; exact q'
  · cases h
theorem bi_tuple : CallR X (.type "tuple") (rdO X.K X.mg bTuple) := by
  intro pins s σ H vs us Q I r h
  obtain ⟨v, rfl, ι, F, S, x, y, S', sim, rv, h, q⟩ := h
  obtain ⟨t, ys, h1, h⟩ := onSeq_inv h
  cases t with
  | true =>
    obtain ⟨p, vs, rfl, l, hq⟩ := sim.seqL rv h1
    obtain ⟨_, g, _⟩ := fin_mkT sim l h q
    exact call_tuple_of pins s σ H _ us Q I r ⟨p, vs, rfl, .inl ⟨.inl hq, g⟩⟩
  | false =>
    obtain ⟨p, vs, rfl, l, hq⟩ := sim.seqT rv h1
    obtain ⟨_, _, g⟩ := fin_mkT sim l h q
    exact call_tuple_of pins s σ H _ us Q I r ⟨p, vs, rfl, .inr ⟨sim.sub.sqT hq, g p hq⟩⟩
theorem bi_list {m : Bool} : CallR X (.type "list") (rdO X.K X.mg (bList m)) := by
  intro pins s σ H vs us Q I r h
  obtain ⟨v, rfl, ι, F, S, x, y, S', sim, rv, h, q⟩ := h
  obtain ⟨t, ys, h1, h⟩ := onSeq_inv h
  obtain ⟨p, vs, rfl, l, hq⟩ := seq_or sim rv h1
  obtain ⟨_, g⟩ := fin_mkL sim l h q
  exact call_list_of pins s σ H _ us Q I r ⟨p, vs, rfl, hq, g⟩
theorem insI_perm (x : Int) : ∀ l : List Int, (insI x l).Perm (x :: l)
  | [] => .refl _
  | y :: r => by
    unfold insI
    split
    · exact .refl _
    · exact ((insI_perm x r).cons y).trans (.swap x y r)
theorem isortI_perm : ∀ l : List Int, (isortI l).Perm l
  | [] => .refl _
  | x :: r => (insI_perm x _).trans ((isortI_perm r).cons x)
theorem insI_srt (x : Int) : ∀ l : List Int, l.Pairwise (· ≤ ·) → (insI x l).Pairwise (· ≤ ·)
  | [], _ => by simp [insI]
  | y :: r, h => by
    unfold insI
    rw [List.pairwise_cons] at h
    split
    · rename_i hxy
      rw [List.pairwise_cons]
      refine ⟨fun z hz => ?_, List.pairwise_cons.mpr h⟩
      rcases List.mem_cons.mp hz with rfl | hz
      · exact hxy
      · exact Int.le_trans hxy (h.1 z hz)
    · rename_i hxy
      rw [List.pairwise_cons]
      refine ⟨fun z hz => ?_, insI_srt x r h.2⟩
      rcases List.mem_cons.mp ((insI_perm x r).mem_iff.mp hz) with rfl | hz
      · omega
      · exact h.1 z hz
theorem isortI_srt : ∀ l : List Int, (isortI l).Pairwise (· ≤ ·)
  | [] => List.Pairwise.nil
  | x :: r => insI_srt x _ (isortI_srt r)
theorem srt_uniq : ∀ {l m : List Int}, l.Perm m → l.Pairwise (· ≤ ·) → m.Pairwise (· ≤ ·) → l = m
  | [], m, p, _, _ => p.nil_eq
  | x :: l, [], p, _, _ => by have := p.length_eq; simp at this
  | x :: l, y :: m, p, h1, h2 => by
    have e : x = y := by
      rcases List.mem_cons.mp (p.mem_iff.mp List.mem_cons_self) with e | hx
      · exact e
      · rcases List.mem_cons.mp (p.mem_iff.mpr (List.mem_cons_self (a := y) (l := m))) with e | hy
        · exact e.symm
        · have a1 := (List.pairwise_cons.mp h1).1 y hy
          have a2 := (List.pairwise_cons.mp h2).1 x hx
          omega
    subst e
    rw [srt_uniq (List.Perm.cons_inv p) (List.pairwise_cons.mp h1).2 (List.pairwise_cons.mp h2).2]
theorem RepL.ofInts {K : PySem.W.Frag} {mg : PySem.Str → Option Value} {F : Hp} : ∀ is : List Int, RepL K mg F (is.map .int) (is.map V.int)
  | [] => rfl
  | i :: r => ⟨.int i, _, rfl, rfl, RepL.ofInts r⟩
theorem bi_sorted {m : Bool} (hu : X.A.units + 65 < cLine) : CallR X (.builtin "sorted") (rdO X.K X.mg (bSorted m)) := by
  intro pins s σ H vs us Q I r h
  obtain ⟨v, rfl, ι, F, S, x, y, S', sim, rv, h, q⟩ := h
  unfold bSorted at h
  split at h
  · rename_i ys h1
    split at h
    · rename_i hok
      obtain ⟨p, ws, rfl, l, hq⟩ := sim.seqL rv h1
      obtain ⟨its, rvs, hl, hz⟩ := I.list (.inl hq)
      rw [Vals.ref1 r]
      refine call_sorted (us := its) (by omega) I sim.sub l rvs hl.isList (by rw [← rvs.length]; exact hz) hok fun zs p' rz hn s' I' => ?_
      exact ⟨.ref p', _, I', rfl, (fin_mkL sim rz h q).2 p' hn⟩
    · cases h
  · cases h
theorem readsArr {h : Heap} {us : List Value} {ds : List PyData} {as : List Addr} (hr : ReadsAll h us ds as) : ReadsAll h us.toArray.toList ds as := hr
theorem some1_pd {y : PV} (h : isSome1 y = true) : pd y ≠ .none := by cases y <;> simp [isSome1] at h <;> simp [pd]
theorem bi_min1 (hc : X.calm = true) (hu : X.A.units + 65 < cLine) : CallR X (.builtin "min") (rdO X.K X.mg bMin1) := by
  intro pins s σ H vs us Q I r h
  obtain ⟨v, rfl, ι, F, S, x, z, S', sim, rv, h, q⟩ := h
  obtain ⟨t, ys, h1, h⟩ := onSeq_inv h
  obtain ⟨p, ws, rfl, l, hq⟩ := seq_or sim rv h1
  cases ys with
  | nil => cases h
  | cons y ys =>
    simp only at h
    split at h
    · rename_i hok
      cases h
      unfold minOk at hok
      simp only [Bool.and_eq_true] at hok
      obtain ⟨⟨⟨hn, ha⟩, hd⟩, hsn⟩ := hok
      rw [Vals.ref1 r]
      have hA := alikeAll_pd ha fun y hy => some1_pd (List.all_eq_true.mp hsn y hy)
      have hal : ∀ a ∈ y :: ys, ∀ b ∈ y :: ys, alikeP a b = true := fun a ha' b hb' => List.all_eq_true.mp (List.all_eq_true.mp ha a ha') b hb'
      have hdd : X.A.units + 1 + PyData.depthAll (pd y :: pds ys) < cLine := by
        have := pds_depth hd
        simp only [eqD] at this
        show X.A.units + 1 + PyData.depthAll (pds (y :: ys)) < cLine
        omega
      rcases hq with hq | hq
      · obtain ⟨its, rvs, hl, hz⟩ := I.list hq
        have e1 := each_of l rvs
        obtain ⟨as, hr⟩ := readsAll_of I sim.sub hn e1
        refine PySem.W.min_list_data (x := pd y) (xs := pds ys) (I.ok.hd hc) hl.isList (readsArr hr) hA hdd fun i u h' tk bs hi hru hk => ?_
        rw [minD_pd hal] at hru
        obtain ⟨w, hw1, hw2⟩ := pick_item I sim.sub hn e1 (by simpa using hi) minP_mem hru hk
        exact ⟨w, H, I.kept hk, hw1, q _ _ _ _ Ext.refl sim hw2⟩
      · obtain ⟨its, rvs, hl, hz⟩ := I.tuple hq
        have e1 := each_of l rvs
        obtain ⟨as, hr⟩ := readsAll_of I sim.sub hn e1
        refine PySem.W.min_tuple_data (x := pd y) (xs := pds ys) (I.ok.hd hc) hl (readsArr hr) hA hdd fun i u h' tk bs hi hru hk => ?_
        rw [minD_pd hal] at hru
        obtain ⟨w, hw1, hw2⟩ := pick_item I sim.sub hn e1 (by simpa using hi) minP_mem hru hk
        exact ⟨w, H, I.kept hk, hw1, q _ _ _ _ Ext.refl sim hw2⟩
    · cases h
theorem bi_max1 (hc : X.calm = true) (hu : X.A.units + 65 < cLine) : CallR X (.builtin "max") (rdO X.K X.mg bMax1) := by
  intro pins s σ H vs us Q I r h
  obtain ⟨v, rfl, ι, F, S, x, z, S', sim, rv, h, q⟩ := h
  obtain ⟨t, ys, h1, h⟩ := onSeq_inv h
  obtain ⟨p, ws, rfl, l, hq⟩ := seq_or sim rv h1
  cases ys with
  | nil => cases h
  | cons y ys =>
    simp only at h
    split at h
    · rename_i hok
      cases h
      unfold minOk at hok
      simp only [Bool.and_eq_true] at hok
      obtain ⟨⟨⟨hn, ha⟩, hd⟩, hsn⟩ := hok
      rw [Vals.ref1 r]
      have hA := alikeAll_pd ha fun y hy => some1_pd (List.all_eq_true.mp hsn y hy)
      have hal : ∀ a ∈ y :: ys, ∀ b ∈ y :: ys, alikeP a b = true := fun a ha' b hb' => List.all_eq_true.mp (List.all_eq_true.mp ha a ha') b hb'
      have hdd : X.A.units + 1 + PyData.depthAll (pd y :: pds ys) < cLine := by
        have := pds_depth hd
        simp only [eqD] at this
        show X.A.units + 1 + PyData.depthAll (pds (y :: ys)) < cLine
        omega
      rcases hq with hq | hq
      · obtain ⟨its, rvs, hl, hz⟩ := I.list hq
        have e1 := each_of l rvs
        obtain ⟨as, hr⟩ := readsAll_of I sim.sub hn e1
        refine PySem.W.max_list_data (x := pd y) (xs := pds ys) (I.ok.hd hc) hl.isList (readsArr hr) hA hdd fun i u h' tk bs hi hru hk => ?_
        rw [maxD_pd hal] at hru
        obtain ⟨w, hw1, hw2⟩ := pick_item I sim.sub hn e1 (by simpa using hi) maxP_mem hru hk
        exact ⟨w, H, I.kept hk, hw1, q _ _ _ _ Ext.refl sim hw2⟩
      · obtain ⟨its, rvs, hl, hz⟩ := I.tuple hq
        have e1 := each_of l rvs
        obtain ⟨as, hr⟩ := readsAll_of I sim.sub hn e1
        refine PySem.W.max_tuple_data (x := pd y) (xs := pds ys) (I.ok.hd hc) hl (readsArr hr) hA hdd fun i u h' tk bs hi hru hk => ?_
        rw [maxD_pd hal] at hru
        obtain ⟨w, hw1, hw2⟩ := pick_item I sim.sub hn e1 (by simpa using hi) maxP_mem hru hk
        exact ⟨w, H, I.kept hk, hw1, q _ _ _ _ Ext.refl sim hw2⟩
    · cases h
def rdP (K : PySem.W.Frag) (mg : PySem.Str → Option Value) (f : SV → SV → Store → Out SV) : List V → Hp → VK → Prop := fun vs H Q => ∃ v w, vs = [v, w] ∧ rd2 K mg f v w H Q
theorem bi_min2 (hc : X.calm = true) : CallR X (.builtin "min") (rdP X.K X.mg bMin2) := by
  intro pins s σ H vs us Q I r h
  obtain ⟨v, w, rfl, ι, F, S, x, y, z, S', sim, r1, r2, h, q⟩ := h
  unfold bMin2 at h
  split at h
  · rename_i i j
    cases h; cases r1; cases r2
    exact call_min2 hc pins s σ H _ us Q I r ⟨i, j, rfl, q _ _ _ _ Ext.refl sim rfl⟩
  · cases h
theorem bi_max2 (hc : X.calm = true) : CallR X (.builtin "max") (rdP X.K X.mg bMax2) := by
  intro pins s σ H vs us Q I r h
  obtain ⟨v, w, rfl, ι, F, S, x, y, z, S', sim, r1, r2, h, q⟩ := h
  unfold bMax2 at h
  split at h
  · rename_i i j
    cases h; cases r1; cases r2
    exact call_max2 hc pins s σ H _ us Q I r ⟨i, j, rfl, q _ _ _ _ Ext.refl sim rfl⟩
  · cases h
/-- a built-in function or type that stands at its name -/
inductive Blt (X : Cx) (n : PySem.Str) (r : List V → Hp → VK → Prop) : Prop where
  | fn (id : String) (hv : bootBuiltins n = some (.builtin id)) (h : CallR X (.builtin id) r)
  | ty (T : String) (hv : bootBuiltins n = some (.type T)) (h : CallR X (.type T) r)
theorem s_bi1 {f : SV → Store → Out SV} {g : List SV → Store → Out SV} (B : Blt X n (rdO X.K X.mg f)) (hfg : ∀ x S, g [x] S = f x S) (hg : Gl X n) (hm : X.mg n = none) (hn : n ≠ "__name__") (hd : (n == ("__debug__" : PySem.Str)) = false)
    (ha : PA X [e] (rdA X.K X.mg ts)) (h1 : ∀ ρ S xs S', ts ρ S = .ok xs S' → xs.length = 1) (hs : noStar e = true) :
    PE X (.Call (.Name n p) [e] [] pos) (rdE X.K X.mg fun ρ S => (ts ρ S).bind g) := by
  have fin : ∀ (ι : Plc) (F : Hp) (S : Store) (ρ : Slots) (x : SV) (S' : Store) (σ : L2.St) (H : Hp) (Q : VK), Sim X.K X.mg ι F S H → RepR X.K X.mg F ι ρ σ → (ts ρ S).bind g = .ok x S' →
      (∀ ι' F' v H', Ext ι F ι' F' → Sim X.K X.mg ι' F' S' H' → RepS X.K X.mg F' ι' x v → Q v H') → tCB (rdO X.K X.mg f) (rdA X.K X.mg ts) σ H Q := by
    intro ι F S ρ x S' σ H Q sim r hf q
    obtain ⟨xs, S1, g1, h⟩ := bind_ok hf
    refine ⟨ι, F, S, ρ, xs, S1, sim, r, g1, fun ι1 F1 vs H1 e1 s1 r1 => ?_⟩
    match xs, h1 _ _ _ _ g1, h, r1 with
    | [x1], _, h, r1 =>
      obtain ⟨v, rfl, rv⟩ := vs_one r1
      rw [hfg] at h
      exact ⟨v, rfl, ι1, F1, S1, x1, x, S', s1, rv, h, fun ι2 F2 u H2 e2 s2 r2 => q _ _ _ _ (e1.trans e2) s2 r2⟩
  cases B with
  | fn id hv h => exact pe_ofV (pe_callB h hg hm hv ha hn hd (star_one hs [] X.env) rfl) fin
  | ty T hv h => exact pe_ofV (pe_callTy h hg hm hv ha hn hd (star_one hs [] X.env) rfl) fin
theorem s_bi2 {e2 : Expr} {f : SV → SV → Store → Out SV} {g : List SV → Store → Out SV} (B : Blt X n (rdP X.K X.mg f)) (hfg : ∀ x y S, g [x, y] S = f x y S) (hg : Gl X n) (hm : X.mg n = none) (hn : n ≠ "__name__") (hd : (n == ("__debug__" : PySem.Str)) = false)
    (ha : PA X [e, e2] (rdA X.K X.mg ts)) (h1 : ∀ ρ S xs S', ts ρ S = .ok xs S' → xs.length = 2) (hs : noStar e = true) (hs2 : noStar e2 = true) :
    PE X (.Call (.Name n p) [e, e2] [] pos) (rdE X.K X.mg fun ρ S => (ts ρ S).bind g) := by
  have fin : ∀ (ι : Plc) (F : Hp) (S : Store) (ρ : Slots) (x : SV) (S' : Store) (σ : L2.St) (H : Hp) (Q : VK), Sim X.K X.mg ι F S H → RepR X.K X.mg F ι ρ σ → (ts ρ S).bind g = .ok x S' →
      (∀ ι' F' v H', Ext ι F ι' F' → Sim X.K X.mg ι' F' S' H' → RepS X.K X.mg F' ι' x v → Q v H') → tCB (rdP X.K X.mg f) (rdA X.K X.mg ts) σ H Q := by
    intro ι F S ρ x S' σ H Q sim r hf q
    obtain ⟨xs, S1, g1, h⟩ := bind_ok hf
    refine ⟨ι, F, S, ρ, xs, S1, sim, r, g1, fun ι1 F1 vs H1 e1 s1 r1 => ?_⟩
    match xs, h1 _ _ _ _ g1, h, r1 with
    | [x1, x2], _, h, r1 =>
      obtain ⟨v, w, rfl, rv, rw'⟩ := vs_two r1
      rw [hfg] at h
      exact ⟨v, w, rfl, ι1, F1, S1, x1, x2, x, S', s1, rv, rw', h, fun ι2 F2 u H2 e2 s2 r2 => q _ _ _ _ (e1.trans e2) s2 r2⟩
  cases B with
  | fn id hv h => exact pe_ofV (pe_callB h hg hm hv ha hn hd (star_one hs [e2] X.env) (by rw [star_one hs2]; rfl)) fin
  | ty T hv h => exact pe_ofV (pe_callTy h hg hm hv ha hn hd (star_one hs [e2] X.env) (by rw [star_one hs2]; rfl)) fin

/-! ### subscripts -/
def plainIx : Expr → Bool
  | .Slice _ _ _ _ => false
  | _ => true
theorem plainIx_ok {b : Expr} (h : plainIx b = true) : ∀ o i, subscripted b false o i = operate [o, i] (getItem o i) := by
  intro o i
  cases b <;> first | rfl | simp [plainIx] at h
theorem ix_at {xs : List V} {ys : List PV} {K : PySem.W.Frag} {mg : PySem.Str → Option Value} {F : Hp} {j : Int} {n : Nat} {z : PV} (l : RepL K mg F ys xs) (h : ix? ys.length j = some n) (hz : ys[n]? = some z) : ∃ v, atI xs j = some v ∧ Rep K mg F z v := by
  obtain ⟨v, h1, h2⟩ := l.get hz
  refine ⟨v, ?_, h2⟩
  unfold atI ixN
  rw [l.length] at h
  unfold ix? at h
  by_cases h0 : 0 ≤ j
  · rw [if_pos h0] at h ⊢
    split at h
    · rename_i hl
      cases h
      rw [if_pos hl]
      exact h1
    · cases h
  · rw [if_neg h0] at h ⊢
    split at h
    · rename_i hl
      cases h
      rw [if_pos (by omega)]
      exact h1
    · cases h
theorem idx_inv {x y : SV} {S : Store} {z : SV} {S' : Store} (h : idxOp x y S = .ok z S') : S' = S ∧ ∃ w, z = .v w ∧
    ((∃ t xs j n, y = .v (.int j) ∧ seqOf S x = some (t, xs) ∧ ix? xs.length j = some n ∧ xs[n]? = some w) ∨ ∃ k kvs, y = .v (keyP k) ∧ dicOf S x = some kvs ∧ keyGet (keyP k) kvs = some w) := by
  unfold idxOp at h
  cases y with
  | l n => cases h
  | v k =>
    simp only at h
    cases e1 : seqOf S x with
    | some p =>
      obtain ⟨t, xs⟩ := p
      rw [e1] at h
      simp only at h
      split at h
      · rename_i j
        split at h
        · rename_i n hn
          split at h
          · rename_i w hw
            cases h
            exact ⟨rfl, w, rfl, .inl ⟨t, xs, j, n, rfl, rfl, hn, hw⟩⟩
          · cases h
        · cases h
      · cases h
    | none =>
      rw [e1] at h
      simp only at h
      cases e2 : dicOf S x with
      | none => rw [e2] at h; cases h
      | some kvs =>
        rw [e2] at h
        simp only at h
        split at h
        · rename_i hk
          obtain ⟨k', rfl⟩ := key_of? hk
          split at h
          · rename_i w hw
            cases h
            exact ⟨rfl, w, rfl, .inr ⟨k', kvs, rfl, rfl, hw⟩⟩
          · cases h
        · cases h
theorem s_idx (hu : X.A.units + 1 < cLine) (ha : PE X a (rdE X.K X.mg fa)) (hb : PE X b (rdE X.K X.mg fb)) (hp : plainIx b = true) : PE X (.Subscript a b pos) (rdE X.K X.mg (sIdx fa fb)) := by
  refine ⟨fun pins s σ H Q I h => ?_⟩
  obtain ⟨ι, F, S, ρ, z, S', sim, r, hf, q⟩ := h
  obtain ⟨x, S1, h1, hf⟩ := bind_ok hf
  obtain ⟨y, S2, h2, hf⟩ := bind_ok hf
  obtain ⟨rfl, w, rfl, hc⟩ := idx_inv hf
  have go : ∀ (R : V → V → Hp → Prop), (∀ ι2 F2 v u H2, Ext ι F ι2 F2 → Sim X.K X.mg ι2 F2 S' H2 → RepS X.K X.mg F2 ι2 x v → RepS X.K X.mg F2 ι2 y u → R v u H2) → rdE X.K X.mg fa σ H fun v H1 => rdE X.K X.mg fb σ H1 fun u H2 => R v u H2 := fun R hR =>
    ⟨ι, F, S, ρ, x, S1, sim, r, h1, fun ι1 F1 v H1 e1 s1 r1 => ⟨ι1, F1, S1, ρ, y, S', s1, r.mono e1, h2, fun ι2 F2 u H2 e2 s2 r2 => hR ι2 F2 v u H2 (e1.trans e2) s2 (r1.mono e2) r2⟩⟩
  rcases hc with ⟨t, xs, j, n, rfl, hs, hn, hw⟩ | ⟨k, kvs, rfl, hd, hk⟩
  · cases t with
    | true =>
      refine (pe_ix ix_list ha hb (plainIx_ok hp)).run pins s σ H Q I (go _ fun ι2 F2 v u H2 e s2 r1 r2 => ?_)
      obtain ⟨p, vs, rfl, l, hq⟩ := s2.seqL r1 hs
      obtain ⟨v, g1, g2⟩ := ix_at l hn hw
      cases r2
      exact ⟨p, vs, j, v, rfl, rfl, .inl hq, g1, q _ _ _ _ e s2 g2⟩
    | false =>
      refine (pe_ix ix_tup ha hb (plainIx_ok hp)).run pins s σ H Q I (go _ fun ι2 F2 v u H2 e s2 r1 r2 => ?_)
      obtain ⟨p, vs, rfl, l, hq⟩ := s2.seqT r1 hs
      obtain ⟨v, g1, g2⟩ := ix_at l hn hw
      cases r2
      exact ⟨p, vs, j, v, rfl, rfl, s2.sub.sqT hq, g1, q _ _ _ _ e s2 g2⟩
  · refine (pe_dget hu ha hb (plainIx_ok hp)).run pins s σ H Q I (go _ fun ι2 F2 v u H2 e s2 r1 r2 => ?_)
    obtain ⟨n, p, ws, rfl, hι, hS, rfl, hF, hH, rd⟩ := s2.dic r1 hd
    have := rd.get k
    rw [hk] at this
    obtain ⟨v', g1, g2⟩ := this
    have hu := keyP_rep r2
    subst hu
    exact ⟨p, v', rfl, by rw [← g1]; exact DGet.k hH, q _ _ _ _ e s2 g2⟩
/-- a slice's part -/
def rdPart (K : PySem.W.Frag) (mg : PySem.Str → Option Value) (f : VS) : TO := fun σ H Q => ∃ ι F S ρ x o S', Sim K mg ι F S H ∧ RepR K mg F ι ρ σ ∧ f ρ S = .ok (.v x) S' ∧ part? x = some o ∧ ∀ ι' F' H', Ext ι F ι' F' → Sim K mg ι' F' S' H' → Q o H'
theorem po_mono {lo : Option Expr} {t t' : TO} (h : PO X lo t) (m : ∀ σ H Q, t' σ H Q → t σ H Q) : PO X lo t' := ⟨fun pins s σ H Q I q => h.run pins s σ H Q I (m σ H Q q)⟩
theorem s_po_none : PO X none (rdPart X.K X.mg (sK .non)) := po_mono po_none fun σ H Q h => by
  obtain ⟨ι, F, S, ρ, x, o, S', sim, r, hf, ho, q⟩ := h
  cases hf
  cases ho
  exact q _ _ _ Ext.refl sim
theorem s_po_some (ha : PE X a (rdE X.K X.mg fa)) : PO X (some a) (rdPart X.K X.mg (sPart false fa)) := po_mono (po_some ha) fun σ H Q h => by
  obtain ⟨ι, F, S, ρ, x, o, S', sim, r, hf, ho, q⟩ := h
  unfold sPart at hf
  rw [if_neg (by simp)] at hf
  obtain ⟨z, S1, h1, hf⟩ := bind_ok hf
  unfold intOnly at hf
  split at hf
  · rename_i i
    cases hf
    cases ho
    refine ⟨ι, F, S, ρ, _, _, sim, r, h1, fun ι1 F1 v H1 e1 s1 r1 => ?_⟩
    cases r1
    exact ⟨i, rfl, q _ _ _ e1 s1⟩
  · cases hf
theorem RepL.cut {K : PySem.W.Frag} {mg : PySem.Str → Option Value} {F : Hp} {xs : List PV} {vs : List V} (l : RepL K mg F xs vs) (lo hi : Option Int) : RepL K mg F (FW.cut xs lo hi) (cutV vs lo hi) := by
  unfold FW.cut cutV
  have e : ∀ (n d : Nat) (o : Option Int), sx n d o = HT.sIx n d o := fun n d o => by cases o <;> rfl
  rw [e, e, ← l.length]
  exact (l.drop _).take _
theorem s_slc {m : Bool} {lo hi : Option Expr} {fl fh : VS} {p2 : Pos} (ha : PE X a (rdE X.K X.mg fa)) (hl : PO X lo (rdPart X.K X.mg fl)) (hh : PO X hi (rdPart X.K X.mg fh)) : PE X (.Subscript a (.Slice lo hi none p2) pos) (rdE X.K X.mg (sSlc m fa fl fh)) := by
  refine ⟨fun pins s σ H Q I h => ?_⟩
  obtain ⟨ι, F, S, ρ, z, S', sim, r, hf, q⟩ := h
  obtain ⟨x, S1, h1, hf⟩ := bind_ok hf
  obtain ⟨l, S2, h2, hf⟩ := bind_ok hf
  obtain ⟨u, S3, h3, hf⟩ := bind_ok hf
  unfold slcOp at hf
  match l, u, h2, h3, hf with
  | .l _, _, h2, h3, hf => cases hf
  | .v _, .l _, h2, h3, hf => cases hf
  | .v l, .v u, h2, h3, hf =>
    simp only at hf
    split at hf
    · rename_i lo' hi' p1 p2
      cases e : seqOf S3 x with
      | none => rw [e] at hf; cases hf
      | some y =>
        obtain ⟨t, xs⟩ := y
        rw [e] at hf
        have go : ∀ (R : V → Option Int → Option Int → Hp → Prop), (∀ ι2 F2 v H2, Ext ι F ι2 F2 → Sim X.K X.mg ι2 F2 S3 H2 → RepS X.K X.mg F2 ι2 x v → R v lo' hi' H2) →
            rdE X.K X.mg fa σ H fun v H1 => rdPart X.K X.mg fl σ H1 fun a H2 => rdPart X.K X.mg fh σ H2 fun b H3 => R v a b H3 := fun R hR =>
          ⟨ι, F, S, ρ, x, S1, sim, r, h1, fun ι1 F1 v H1 e1 s1 r1 => ⟨ι1, F1, S1, ρ, l, lo', S2, s1, r.mono e1, h2, p1, fun ι2 F2 H2 e2 s2 =>
            ⟨ι2, F2, S2, ρ, u, hi', S3, s2, r.mono (e1.trans e2), h3, p2, fun ι3 F3 H3 e3 s3 => hR ι3 F3 v H3 ((e1.trans e2).trans e3) s3 (r1.mono (e2.trans e3))⟩⟩⟩
        simp only at hf
        cases t with
        | true =>
          rw [if_pos rfl] at hf
          refine (pe_slice sl_list ha hl hh).run pins s σ H Q I (go _ fun ι2 F2 v H2 e2 s2 r2 => ?_)
          obtain ⟨p, vs, rfl, ll, hq⟩ := s2.seqL r2 e
          obtain ⟨_, g⟩ := fin_mkL s2 (ll.cut lo' hi') hf fun ι3 F3 u H3 e3 s3 r3 => q _ _ _ _ (e2.trans e3) s3 r3
          exact ⟨p, vs, rfl, .inl hq, g⟩
        | false =>
          rw [if_neg (by simp)] at hf
          refine (pe_slice sl_tupA ha hl hh).run pins s σ H Q I (go _ fun ι2 F2 v H2 e2 s2 r2 => ?_)
          obtain ⟨p, vs, rfl, ll, hq⟩ := s2.seqT r2 e
          obtain ⟨_, g, g2⟩ := fin_mkT s2 (ll.cut lo' hi') hf fun ι3 F3 u H3 e3 s3 r3 => q _ _ _ _ (e2.trans e3) s3 r3
          refine ⟨p, vs, rfl, s2.sub.sqT hq, fun hw => ?_, fun _ => g⟩
          refine g2 p ?_
          have : cutV vs lo' hi' = vs := by
            unfold cutV
            rw [hw.1, hw.2, Nat.sub_zero, List.drop_zero, List.take_length]
          rw [this]; exact hq
    · cases hf
/-! ### isinstance -/
def tyName : Ty → String
  | .int => "int" | .bool => "bool" | .tuple => "tuple" | .list => "list" | .str => "str" | .dict => "dict"
def tgName : Tg → String
  | .non => "NoneType" | .bl => "bool" | .int => "int" | .str => "str" | .tup => "tuple" | .lst => "list" | .dic => "dict"
theorem tg_kit (g : Tg) (T : Ty) : kitB (tgName g) (tyName T) = some (tgIs g T) := by
  cases g <;> cases T <;> decide +kernel
theorem tg_kits {K : PySem.W.Frag} (g : Tg) : ∀ ts : List Ty, PySem.W.kitAny K (.type (tgName g)) (ts.map fun T => Value.type (tyName T)) = some (ts.any (tgIs g))
  | [] => kitAny_nil
  | T :: ts => by
    rw [List.map_cons, List.any_cons]
    refine kitAny_cons (kit_ty (tg_kit g T)) (fun h => ?_) (fun h => ?_)
    · rw [h, Bool.false_or]; exact tg_kits g ts
    · rw [h, Bool.true_or]
theorem tg_ty {K : PySem.W.Frag} {mg : PySem.Str → Option Value} {ι : Plc} {F H : Hp} {S : Store} {x : SV} {v : V} {g : Tg} (sim : Sim K mg ι F S H) (r : RepS K mg F ι x v) (h : tgOf S x = some g) : TyX K H v (.type (tgName g)) := by
  cases x with
  | v x =>
    cases x with
    | non => cases h; cases r; exact .base .non
    | bl b => cases h; cases r; exact .base (.bl _)
    | int i => cases h; cases r; exact .base (.int _)
    | str s => cases h; obtain ⟨rfl, _⟩ := r; exact .base (.str _)
    | tup xs =>
      cases h
      obtain ⟨p, vs, rfl, l, q⟩ := sim.seqT r rfl
      rcases sim.sub.sqT q with (q | ⟨o, q⟩) | ⟨o, its, n, q1, q2, _⟩
      · exact .base (.tup q)
      · exact .fTuple q
      · exact .kTuple q1 q2
    | lst xs =>
      cases h
      obtain ⟨p, vs, rfl, l, q⟩ := sim.seqL r rfl
      rcases q with q | ⟨o, q⟩
      · exact .base (.lst q)
      · exact .base (.frz q)
    | fn _ => cases h
  | l n =>
    simp only [tgOf] at h
    split at h
    · rename_i xs e
      cases h
      obtain ⟨p, vs, rfl, l, q⟩ := sim.seqL (x := .l n) (xs := xs) r (by simp only [seqOf, e])
      rcases q with q | ⟨o, q⟩
      · exact .base (.lst q)
      · exact .base (.frz q)
    · rename_i kvs e
      cases h
      obtain ⟨n, p, ws, hn, hι, hS, rfl, hF, hH, rd⟩ := sim.dic (x := .l n) (kvs := kvs) r (by simp only [dicOf, e])
      exact .base (.dK hH)
    · cases h
theorem is_inv {S : Store} {x : SV} {ts : List Ty} {z : SV} {S' : Store} (h : ofOpt (isTys S x ts) S = .ok z S') : ∃ g, tgOf S x = some g ∧ z = .v (.bl (ts.any (tgIs g))) ∧ S' = S := by
  unfold isTys at h
  cases e : tgOf S x with
  | none => rw [e] at h; cases h
  | some g => rw [e] at h; cases h; exact ⟨g, rfl, rfl, rfl⟩
theorem boot_ty : ∀ T : Ty, bootBuiltins (PySem.Str.ofString (tyName T)) = some (.type (tyName T)) := by
  intro T
  cases T <;> decide +kernel
/-- a built-in type by its name -/
theorem pe_ty {T : Ty} (hg : Gl X (PySem.Str.ofString (tyName T))) (hm : X.mg (PySem.Str.ofString (tyName T)) = none) : PE X (.Name (PySem.Str.ofString (tyName T)) p) (tC (.ty (tyName T))) :=
  pe_bltn hg hm (boot_ty T) rfl (by cases T <;> decide) (by cases T <;> decide)
theorem boot_isi : bootBuiltins "isinstance" = some (.builtin "isinstance") := by decide +kernel
theorem s_isi1 {T : Ty} {p1 : Pos} (hg : Gl X "isinstance") (hm : X.mg "isinstance" = none) (ha : PE X a (rdE X.K X.mg fa)) (hs : noStar a = true) (hgT : Gl X (PySem.Str.ofString (tyName T))) (hmT : X.mg (PySem.Str.ofString (tyName T)) = none) :
    PE X (.Call (.Name "isinstance" p) [a, .Name (PySem.Str.ofString (tyName T)) p1] [] pos) (rdE X.K X.mg (sIsi [T] fa)) := by
  refine pe_ofV (pe_callB call_isi hg hm boot_isi (pa_cons ha (pa_cons (pe_ty hgT hmT) pa_nil) (star_one hs _ _)) (by decide) (by decide) (star_one hs _ _) rfl) fun ι F S ρ z S' σ H Q sim r hf q => ?_
  obtain ⟨x, S1, h1, h⟩ := bind_ok hf
  obtain ⟨g, hg, rfl, rfl⟩ := is_inv h
  refine ⟨ι, F, S, ρ, x, S', sim, r, h1, fun ι1 F1 v H1 e1 s1 r1 => ?_⟩
  exact ⟨v, .ty (tyName T), _, _, _, rfl, .ty _, tg_ty s1 r1 hg, kit_ty (by rw [tg_kit]), by have := q _ _ _ _ e1 s1 rfl; simpa using this⟩
theorem paired_tys : ∀ ts : List Ty, Paired ClsV (ts.map fun T => V.ty (tyName T)) (ts.map fun T => Value.type (tyName T))
  | [] => .nil
  | T :: ts => .cons (.ty _) (paired_tys ts)
/-- a tuple of built-in types -/
theorem pa_tys : ∀ {ts : List Ty} {es : List Expr}, (∀ i : Nat, ∀ e, es[i]? = some e → ∃ T p, ts[i]? = some T ∧ e = .Name (PySem.Str.ofString (tyName T)) p) → es.length = ts.length →
    (∀ T ∈ ts, Gl X (PySem.Str.ofString (tyName T)) ∧ X.mg (PySem.Str.ofString (tyName T)) = none) → PA X es (fun _ H Q => Q (ts.map fun T => V.ty (tyName T)) H)
  | [], [], _, _, _ => pa_nil
  | T :: ts, e :: es, h, hl, hg => by
    obtain ⟨T', p, h1, rfl⟩ := h 0 e rfl
    cases h1
    have ih := pa_tys (ts := ts) (es := es) (fun i e he => by simpa using h (i + 1) e (by simpa using he)) (by simpa using hl) (fun T hT => hg T (List.mem_cons_of_mem _ hT))
    exact pa_mono (pa_cons (pe_ty (hg T List.mem_cons_self).1 (hg T List.mem_cons_self).2) ih) fun σ H Q q => q
  | [], _ :: _, _, hl, _ => by simp at hl
  | _ :: _, [], _, hl, _ => by simp at hl
theorem s_isi {ts' : List Ty} {es' : List Expr} {k : Nat} {p1 : Pos} (hg : Gl X "isinstance") (hm : X.mg "isinstance" = none) (ha : PE X a (rdE X.K X.mg fa)) (hs : noStar a = true)
    (h : ∀ i : Nat, ∀ e, es'[i]? = some e → ∃ T p, ts'[i]? = some T ∧ e = .Name (PySem.Str.ofString (tyName T)) p) (hl : es'.length = ts'.length) (hgT : ∀ T ∈ ts', Gl X (PySem.Str.ofString (tyName T)) ∧ X.mg (PySem.Str.ofString (tyName T)) = none) (h8 : ts'.length ≤ 8) :
    PE X (.Call (.Name "isinstance" p) [a, .Tuple es' k p1] [] pos) (rdE X.K X.mg (sIsi ts' fa)) := by
  refine pe_ofV (pe_callB call_isiT hg hm boot_isi (pa_cons ha (pa_cons (pe_tup (pa_tys h hl hgT)) pa_nil) (star_one hs _ _)) (by decide) (by decide) (star_one hs _ _) rfl) fun ι F S ρ z S' σ H Q sim r hf q => ?_
  obtain ⟨x, S1, h1, h⟩ := bind_ok hf
  obtain ⟨g, hg, rfl, rfl⟩ := is_inv h
  refine ⟨ι, F, S, ρ, x, S', sim, r, h1, fun ι1 F1 v H1 e1 s1 r1 => ?_⟩
  refine ⟨by rw [List.length_map, sizeLine_eq]; omega, fun tp hp => ?_⟩
  obtain ⟨s2, e2⟩ := s1.newF (o := .tup (ts'.map fun T => V.ty (tyName T))) hp
  refine ⟨v, tp, _, _, ts'.map fun T => Value.type (tyName T), _, rfl, upd_same, ?_, tg_ty s2 (r1.mono e2) hg, tg_kits g ts', q _ _ _ _ (e1.trans e2) s2 rfl⟩
  exact paired_tys ts'
end
end FW

/-! FW: sets of a tuple's items, sorted or counted. -/
namespace FW
open PySem PySem.Spec PyProof.Rows L2
/-! ### the members, once each -/
mutual
theorem eqv_same : ∀ {x y : PV}, alikeP x y = true → eqv x y = true → x = y
  | .non, y, h, _ => by cases y <;> simp only [alikeP, Bool.false_eq_true] at h; rfl
  | .bl _, y, h, e => by cases y <;> simp only [alikeP, Bool.false_eq_true] at h; simp [eqv] at e; rw [e]
  | .int _, y, h, e => by cases y <;> simp only [alikeP, Bool.false_eq_true] at h; simp [eqv] at e; rw [e]
  | .str _, y, h, e => by cases y <;> simp only [alikeP, Bool.false_eq_true] at h; simp [eqv] at e; rw [e]
  | .lst xs, y, h, e => by cases y <;> simp only [alikeP, Bool.false_eq_true] at h; simp only [eqv] at e; rw [eqvs_same h e]
  | .tup xs, y, h, e => by cases y <;> simp only [alikeP, Bool.false_eq_true] at h; simp only [eqv] at e; rw [eqvs_same h e]
  | .fn _, y, h, _ => by cases y <;> simp only [alikeP, Bool.false_eq_true] at h
theorem eqvs_same : ∀ {xs ys : List PV}, alikePs xs ys = true → eqvs xs ys = true → xs = ys
  | [], ys, _, e => by cases ys <;> simp [eqvs] at e; rfl
  | x :: xs, [], _, e => by simp [eqvs] at e
  | x :: xs, y :: ys, h, e => by
    simp only [alikePs, eqvs, Bool.and_eq_true] at h e
    rw [eqv_same h.1 e.1, eqvs_same h.2 e.2]
end
theorem leD_anti {x y : PV} (ha : alikeP x y = true) (h1 : leD x y = true) (h2 : leD y x = true) : x = y := by
  refine eqv_same ha ?_
  rw [leD_eq, Bool.not_eq_true'] at h1 h2
  have k : PySem.W.keyToks (pd x) = PySem.W.keyToks (pd y) := (listOrd itemOrd).total _ _ h2 h1
  cases e : eqv x y with
  | true => rfl
  | false =>
    rw [← pd_eqv] at e
    have := (PySem.W.toks_eqv _ _ (alike_pd ha)).2 e [] [.inl 0]
    have p := PySem.W.lex_pre (PySem.W.keyToks (pd y)) [] [.inl 0]
    have q := PySem.W.lex_pre (PySem.W.keyToks (pd y)) [] []
    rw [List.append_nil] at this p q
    rw [k, p] at this
    rw [q] at this
    exact absurd this (by decide)
theorem sorted_one {l m : List PV} (ha : ∀ x ∈ l, ∀ y ∈ l, alikeP x y = true) (p : l.Perm m) (h1 : l.Pairwise (fun a b => leD a b = true)) (h2 : m.Pairwise (fun a b => leD a b = true)) : l = m := by
  induction l generalizing m with
  | nil => exact p.nil_eq
  | cons x l ih =>
    cases m with
    | nil => have := p.length_eq; simp at this
    | cons y m =>
      have e : x = y := by
        rcases List.mem_cons.mp (p.mem_iff.mp List.mem_cons_self) with e | hx
        · exact e
        · rcases List.mem_cons.mp (p.mem_iff.mpr (List.mem_cons_self (a := y) (l := m))) with e | hy
          · exact e.symm
          · exact leD_anti (ha x List.mem_cons_self y (List.mem_cons_of_mem _ hy)) ((List.pairwise_cons.mp h1).1 y hy) ((List.pairwise_cons.mp h2).1 x hx)
      subst e
      rw [ih (fun a ha' b hb' => ha a (List.mem_cons_of_mem _ ha') b (List.mem_cons_of_mem _ hb')) p.cons_inv (List.pairwise_cons.mp h1).2 (List.pairwise_cons.mp h2).2]
theorem any_eqv {x : PV} {l : List PV} (ha : ∀ y ∈ l, alikeP y x = true) (hx : eqv x x = true) : (l.any fun y => eqv y x) = true ↔ x ∈ l := by
  rw [List.any_eq_true]
  constructor
  · rintro ⟨y, hy, e⟩
    rw [← eqv_same (ha y hy) e]
    exact hy
  · intro h
    exact ⟨x, h, hx⟩
theorem mem_dedup : ∀ {l : List PV}, (∀ x ∈ l, ∀ y ∈ l, alikeP x y = true) → (∀ x ∈ l, eqv x x = true) → ∀ {x : PV}, x ∈ dedup l ↔ x ∈ l
  | [], _, _, _ => by simp [dedup]
  | y :: r, ha, hr, x => by
    have ih := mem_dedup (l := r) (fun a ha' b hb' => ha a (List.mem_cons_of_mem _ ha') b (List.mem_cons_of_mem _ hb')) (fun a h => hr a (List.mem_cons_of_mem _ h)) (x := x)
    unfold dedup
    split
    · rename_i h
      rw [ih, List.mem_cons]
      constructor
      · exact .inr
      · rintro (rfl | h2)
        · exact (any_eqv (fun z hz => ha z (List.mem_cons_of_mem _ hz) _ List.mem_cons_self) (hr _ List.mem_cons_self)).mp h
        · exact h2
    · rw [List.mem_cons, ih, List.mem_cons]
theorem nodup_dedup : ∀ {l : List PV}, (∀ x ∈ l, ∀ y ∈ l, alikeP x y = true) → (∀ x ∈ l, eqv x x = true) → (dedup l).Nodup
  | [], _, _ => by simp [dedup]
  | y :: r, ha, hr => by
    have a' : ∀ a ∈ r, ∀ b ∈ r, alikeP a b = true := fun a ha' b hb' => ha a (List.mem_cons_of_mem _ ha') b (List.mem_cons_of_mem _ hb')
    have r' : ∀ a ∈ r, eqv a a = true := fun a h => hr a (List.mem_cons_of_mem _ h)
    have ih := nodup_dedup a' r'
    unfold dedup
    split
    · exact ih
    · rename_i h
      refine List.nodup_cons.mpr ⟨fun hm => h ?_, ih⟩
      exact (any_eqv (fun z hz => ha z (List.mem_cons_of_mem _ hz) _ List.mem_cons_self) (hr _ List.mem_cons_self)).mpr ((mem_dedup a' r').mp hm)
/-- any sorted list of the members, once each, is the one -/
theorem set_sorted {ys zs : List PV} (ha : ∀ x ∈ ys, ∀ y ∈ ys, alikeP x y = true) (hr : ∀ x ∈ ys, eqv x x = true) (h1 : zs.Pairwise (fun a b => leD a b = true)) (h2 : zs.Nodup) (h3 : ∀ x, x ∈ zs ↔ x ∈ ys) : isortK (dedup ys) = zs := by
  have hd : ∀ x, x ∈ dedup ys ↔ x ∈ ys := fun x => mem_dedup ha hr
  have aa : allAlike (dedup ys) = true := List.all_eq_true.mpr fun x hx => List.all_eq_true.mpr fun y hy => ha x ((hd x).mp hx) y ((hd y).mp hy)
  rw [isortK_eq aa]
  have pm := List.mergeSort_perm (dedup ys) leD
  refine sorted_one (fun x hx y hy => ha x ((hd x).mp (pm.mem_iff.mp hx)) y ((hd y).mp (pm.mem_iff.mp hy))) ?_ (PySem.W.sort_pairwise leD_total _) h1
  exact pm.trans ((List.perm_ext_iff_of_nodup (nodup_dedup ha hr) h2).mpr fun x => (hd x).trans (h3 x).symm)
/-! ### ints -/
theorem allInt_ints : ∀ {ys : List PV}, allInt ys = true → ∃ ns : List Int, ys = ns.map .int
  | [], _ => ⟨[], rfl⟩
  | y :: ys, h => by
    cases y <;> simp only [allInt, Bool.false_eq_true] at h
    obtain ⟨ns, rfl⟩ := allInt_ints h
    exact ⟨_ :: ns, rfl⟩
theorem ints_sorted {ns ns' : List Int} (h1 : ns'.Pairwise (· < ·)) (h2 : ∀ k, k ∈ ns' ↔ k ∈ ns) : isortK (dedup (ns.map .int)) = ns'.map .int := by
  refine set_sorted (fun x hx y hy => ?_) (fun x hx => ?_) ?_ ?_ fun x => ?_
  · obtain ⟨a, _, rfl⟩ := List.mem_map.mp hx
    obtain ⟨b, _, rfl⟩ := List.mem_map.mp hy
    rfl
  · obtain ⟨a, _, rfl⟩ := List.mem_map.mp hx
    simp [eqv]
  · refine List.pairwise_map.mpr (h1.imp fun {a b} h => ?_)
    rw [leD_eq]
    simp only [pd, PySem.W.dataLt_int]
    simp
    omega
  · refine List.Pairwise.map _ (fun a b h => ?_) h1
    intro e
    injection e with e
    have h' : a < b := h
    omega
  · rw [List.mem_map, List.mem_map]
    constructor
    · rintro ⟨a, ha, rfl⟩; exact ⟨a, (h2 a).mp ha, rfl⟩
    · rintro ⟨a, ha, rfl⟩; exact ⟨a, (h2 a).mpr ha, rfl⟩
section
variable {X : Cx}
theorem RepL.vints {K : PySem.W.Frag} {mg : PySem.Str → Option Value} {F : Hp} : ∀ {ns : List Int} {vs : List V}, RepL K mg F (ns.map .int) vs → vs = ns.map V.int
  | [], _, r => by cases r; rfl
  | n :: ns, _, ⟨v, t, e, a, b⟩ => by subst e; cases a; rw [RepL.vints b]; rfl
/-- a new list at p', all else kept -/
theorem inv_laid {pins : List (Addr × Obj)} {σ : L2.St} {H : Hp} {s s' : Shared} {p : Addr} {vs : List V} {us : List Value} {c : Nat} (I : Inv X pins σ H s) (k : ∀ b u, s.heap.get? b = some u → s'.heap.get? b = some u) (hg : s'.gens = s.gens) (ho : s'.os = s.os) (hp : s.heap.objs.size ≤ p)
    (hv : Vals vs us) (hz : vs.length ≤ sizeLine) (hn : s'.heap.get? p = some (seqObj "list" us.toArray c)) : Inv X pins σ (upd H p (.lst vs)) s' :=
  I.call' (ch := []) ho (Un.laid k hp (I.hok.fresh hp)) (I.hok.laid k hp ⟨hz, us, c, hv, hn⟩) (by rw [hg]; exact I.bare) (fun _ z => nomatch z)
theorem ints_of_vals : ∀ {ns : List Int} {us : List Value}, IntsAre us ns → Vals (ns.map V.int) us
  | _, _, .nil => .nil
  | _, _, .cons k t h => .cons ⟨t, rfl⟩ (ints_of_vals h)
/-- sorted(set(t)), t a tuple of ints -/
theorem set_ints {pins : List (Addr × Obj)} {σ : L2.St} {H : Hp} {s : Shared} {E : Value → Shared → Prop} {p : Addr} {ns : List Int} {Q : Value → Shared → Prop} (hc : X.calm = true) (I : Inv X pins σ H s) (hq : SqT X.K H p (ns.map V.int)) (hl : ns.length < 64)
    (h : ∀ (a : Addr) (s1 : Shared) (c : Nat), SetR X.w s1.heap a (fun j => decide (j ∈ ns)) c → c ≤ ns.length → Inv X pins σ H s1 → Q (.ref a) s1) : wpAny (model X.prog X.w) X.A (call (.type "set") [.ref p]) Q E s := by
  obtain ⟨its, rvs, ht, hz⟩ := I.tuple hq
  refine call_set_tupI (P := X.prog) (w := X.w) ns (I.ok.hd hc) ht (by simpa using rvs.ints) (by unfold scanBound; omega) fun h' tk c R hcn hk => ?_
  exact h _ _ c R hcn (I.kept hk)
/-! ### tuples of ints -/
/-- the object that set() begins with -/
abbrev set0 (w : World) : Obj := { cls := .type "set", dict := none, data := .set #[] 0 (.fresh 0 0 (!w.params.followText "set-order")) }
/-- set(t), t a tuple of tuples of ints: by the rows of its members -/
theorem make_set {P : Program} {w : World} {A : Around} {E : Value → Shared → Prop} {s : Shared} {t : Addr} {its : Array Value} (rows : List (Addr × List Int)) {Q : Value → Shared → Prop} (calm : A.handled = none) (ht : s.heap.IsTuple t its) (hi : its.toList = rows.map fun q => Value.ref q.1)
    (hk : ∀ q ∈ rows, IsT P w s.heap q.2 q.1) (few : rows.length < 64) (hu : A.units + 3 < cLine)
    (done : ∀ (g : Heap) (tk : Nat) L es ep tab, SetTR P w g s.heap.objs.size L es ep tab → Got rows rows.length L → (∀ b o, s.heap.get? b = some o → g.get? b = some o) → Q (.ref s.heap.objs.size) { s with heap := g, toks := tk }) :
    wpAny (model P w) A (call (.type "set") [.ref t]) Q E s := by
  have hsz : its.size = rows.length := by have := congrArg List.length hi; simpa using this
  obtain ⟨_, _, mro⟩ := F.called_set.mro
  have made := F.called_set.made
  have sub := F.called_set.sub
  refine wpAny_call (codeAny_of_tree ?_)
  show wpAny (model P w) _ (callAny (Value.type "set") _) _ _ s
  refine wpAny_pure ⟨Code.quiet_builtin _ (by decide +kernel), codeAny_builtin F.entry_type_call ?_⟩
  rw [Around.under_plain (weight_type_call_type "set" [Value.ref t] []) rfl]
  have nt := F.called_set.notType
  have cc := F.called_set.canCreate
  have tc := F.typeCall_set_1 (.ref t)
  repeat (any_goals (first | assumption | wp_step))
  refine codeAny_mono (code_set_led1 (.ref t) (E := E) (Q₁ := fun o1 s1 => o1 = .ref s.heap.objs.size ∧ s1 = { s with heap := s.heap.push (set0 w) }) ⟨rfl, rfl⟩) fun r1 s1 hr1 => ?_
  rcases r1 with e1 | fl1
  · exact hr1
  cases fl1 with
  | ret o1 =>
    obtain ⟨rfl, rfl⟩ := hr1
    have there : (s.heap.push (set0 w)).get? s.heap.objs.size = some (set0 w) := Heap.get?_push_size _ rfl
    have ty : Shared.TypeIs { s with heap := s.heap.push (set0 w) } (Value.ref s.heap.objs.size) "set" := ⟨_, there, rfl⟩
    have il := F.called_set.init.lookup
    have ib := F.called_set.init.bind (Value.ref s.heap.objs.size)
    repeat (any_goals (first | assumption | wp_step))
    refine codeAny_mono (codeAny_call_builtin (R := wants (fun r2 s2 => r2 = .none ∧ ∃ g tk L es ep tab, s2 = { s with heap := g, toks := tk } ∧ SetTR P w g s.heap.objs.size L es ep tab ∧ Got rows rows.length L ∧ (∀ b o, s.heap.get? b = some o → g.get? b = some o)) E)
      F.called_set.init.plain F.entry_set_init (check_set_init_1 ty ?_)) fun r2 s2 hr2 => ?_
    · obtain ⟨ob, hob, hcl, n, hdt⟩ := ht
      obtain ⟨cl, dc, dt, sl⟩ := ob
      simp only at hcl hdt
      subst hcl hdt
      have hob1 : (s.heap.push (set0 w)).get? t = some { cls := .type "tuple", dict := dc, data := .seq its n, slots := sl } := Heap.get?_push_of_some _ hob
      have no1 := F.sub_tuple_set
      have no2 := F.sub_tuple_frozenset
      have no3 : (Value.type "tuple" == Value.type "dict") = false := by decide
      have tup1 : (s.heap.push (set0 w)).IsTuple t its := ⟨_, hob1, rfl, n, rfl⟩
      have lt : t < s.heap.objs.size := Heap.lt_size hob
      have calm3 : A.in1.in1.in1.handled = none := by simp [calm]
      have size1 : (s.heap.push (set0 w)).objs.size = s.heap.objs.size + 1 := Heap.size_push ..
      have apart : t ≠ (s.heap.push (set0 w)).objs.size := by rw [size1]; exact Nat.ne_of_lt (Nat.lt_succ_of_lt lt)
      have gone : ∀ b, s.heap.objs.size ≤ b → s.heap.get? b = none := fun b hb => by
        cases e : s.heap.get? b with
        | none => rfl
        | some o => exact absurd (Heap.lt_size e) (Nat.not_lt_of_le hb)
      have item : ∀ (i : Nat) (v : Value), its[i]? = some v → ∃ q, rows[i]? = some q ∧ v = .ref q.1 := fun i v hv => by
        have e : its.toList[i]? = some v := by rw [Array.getElem?_toList]; exact hv
        rw [hi, List.getElem?_map, Option.map_eq_some_iff] at e
        obtain ⟨q, e1, e2⟩ := e
        exact ⟨q, e1, e2.symm⟩
      unfold Builtin.«set.__init__» noKeywords Builtin.Frozenset.updateFrom
      generalize hIt : pyIter = it
      wp_walk
      subst hIt
      refine wpAny_pyIter_tuple tup1 (wpAny_bind (wpAny_runValue ?_))
      refine set_update_tups (Walks.tuple calm3 _ t apart its).toS s.heap.objs.size (by rw [size1]; simp only [List.mem_cons, List.not_mem_nil, or_false, not_or]; exact ⟨Nat.ne_of_lt (Nat.lt_succ_self _), Nat.ne_of_gt lt⟩) rows hsz few item s.heap hk (gone _ (Nat.le_refl _)) (fun b hb => gone b (by rw [List.mem_singleton.mp hb, size1]; exact Nat.le_succ _)) hu its.size 0 _ (by omega) (Nat.zero_le _)
        ⟨⟨_, Heap.get?_push_size _ rfl, rfl, rfl⟩, tup1.push _⟩ (fun b o e => Heap.get?_push_of_some _ (Heap.get?_push_of_some _ e)) ⟨[], #[], 0, _, setTR_fresh (Heap.get?_push_of_some _ there), Got.zero rows⟩ fun s3 L es ep tab mv hS got kp => ?_
      obtain ⟨g3, gens3, dr3, tk3, os3⟩ := s3
      obtain rfl : gens3 = s.gens := mv.gens
      obtain rfl : dr3 = s.drawn := mv.drawn
      obtain rfl : os3 = s.os := mv.os
      rw [hsz] at got
      show wpAny _ _ _ _ _ _
      refine wpAny_pure ?_
      show wpAny _ _ (ret Value.none) _ _ _
      exact wpAny_pure ⟨rfl, g3, tk3, L, es, ep, tab, rfl, hS, got, kp⟩
    · rcases r2 with e2 | fl2
      · exact hr2
      cases fl2 with
      | ret r =>
        obtain ⟨rfl, g, tk, L, es, ep, tab, rfl, hS, got, kp⟩ := hr2
        repeat (any_goals (first | assumption | wp_step))
        exact done _ _ _ _ _ _ hS got kp
      | _ => exact hr2.elim
  | _ => exact hr1.elim
end
end FW

/-! FW: sorted(set(t)), len(set(t)). -/
namespace FW
open PySem PySem.Spec PyProof.Rows L2
theorem perm_back {α β : Type} {f : α → β} : ∀ {l m : List β}, l.Perm m → ∀ {L : List α}, m = L.map f → ∃ L1 : List α, L1.Perm L ∧ l = L1.map f
  | _, _, .nil, L, e => by
    cases L with
    | nil => exact ⟨[], .refl _, rfl⟩
    | cons a L => cases e
  | _, _, .cons x p, L, e => by
    cases L with
    | nil => cases e
    | cons a L =>
      rw [List.map_cons, List.cons.injEq] at e
      obtain ⟨rfl, e⟩ := e
      obtain ⟨L1, p1, rfl⟩ := perm_back p e
      exact ⟨a :: L1, p1.cons a, rfl⟩
  | _, _, .swap x y l, L, e => by
    match L, e with
    | a :: b :: L, e =>
      rw [List.map_cons, List.map_cons, List.cons.injEq, List.cons.injEq] at e
      obtain ⟨rfl, rfl, rfl⟩ := e
      exact ⟨b :: a :: L, .swap _ _ _, rfl⟩
  | _, _, .trans p q, L, e => by
    obtain ⟨L1, p1, e1⟩ := perm_back q e
    obtain ⟨L2, p2, e2⟩ := perm_back p e1
    exact ⟨L2, p2.trans p1, e2⟩
theorem short_perm {α : Type} {a b : List α} (p : a.Perm b) (h : b.length < 2) : a = b := by
  match b, h with
  | [], _ => exact p.eq_nil
  | [x], _ => exact List.perm_singleton.mp p
  | _ :: _ :: _, h => simp at h; omega
/-- a tuple of ints -/
def tupI (k : List Int) : PV := .tup (k.map .int)
theorem alike_tupI (k l : List Int) : alikeP (tupI k) (tupI l) = true := by
  show alikePs (k.map .int) (l.map .int) = true
  induction k generalizing l with
  | nil => cases l <;> rfl
  | cons a k ih =>
    cases l with
    | nil => rfl
    | cons b l => show (true && alikePs _ _) = true; rw [ih]; rfl
theorem eqv_tupI (k : List Int) : eqv (tupI k) (tupI k) = true := by
  show eqvs (k.map .int) (k.map .int) = true
  induction k with
  | nil => rfl
  | cons a k ih => show (decide (a = a) && eqvs _ _) = true; rw [ih]; simp
theorem map_int_inj : ∀ {a b : List Int}, a.map PV.int = b.map .int → a = b
  | [], [], _ => rfl
  | [], _ :: _, h => by cases h
  | _ :: _, [], h => by cases h
  | x :: a, y :: b, h => by
    rw [List.map_cons, List.map_cons, List.cons.injEq] at h
    obtain ⟨h1, h2⟩ := h
    injection h1 with h1
    rw [h1, map_int_inj h2]
theorem tupI_inj {k l : List Int} (h : tupI k = tupI l) : k = l := map_int_inj (PV.tup.inj h)
theorem rows_sorted {ks : List (List Int)} {L : List (List Int)} (h1 : L.Pairwise fun k l => leD (tupI k) (tupI l) = true) (h2 : L.Nodup) (h3 : ∀ k, k ∈ L ↔ k ∈ ks) : isortK (dedup (ks.map tupI)) = L.map tupI := by
  refine set_sorted (fun x hx y hy => ?_) (fun x hx => ?_) (List.pairwise_map.mpr h1) ?_ fun x => ?_
  · obtain ⟨a, _, rfl⟩ := List.mem_map.mp hx
    obtain ⟨b, _, rfl⟩ := List.mem_map.mp hy
    exact alike_tupI a b
  · obtain ⟨a, _, rfl⟩ := List.mem_map.mp hx
    exact eqv_tupI a
  · exact List.Pairwise.map _ (fun a b h e => h (tupI_inj e)) h2
  · rw [List.mem_map, List.mem_map]
    constructor
    · rintro ⟨a, ha, rfl⟩; exact ⟨a, (h3 a).mp ha, rfl⟩
    · rintro ⟨a, ha, rfl⟩; exact ⟨a, (h3 a).mpr ha, rfl⟩
theorem allIntT_rows : ∀ {ys : List PV}, allIntT ys = true → ∃ ks : List (List Int), ys = ks.map tupI
  | [], _ => ⟨[], rfl⟩
  | y :: ys, h => by
    cases y <;> simp only [allIntT, Bool.false_eq_true] at h
    rw [Bool.and_eq_true] at h
    obtain ⟨ns, rfl⟩ := allInt_ints h.1
    obtain ⟨ks, rfl⟩ := allIntT_rows h.2
    exact ⟨ns :: ks, rfl⟩
theorem rows_rep {K : PySem.W.Frag} {mg : PySem.Str → Option Value} {F : Hp} : ∀ {ks : List (List Int)} {ws : List V}, RepL K mg F (ks.map tupI) ws → ∃ L : List (Addr × List Int), L.map (·.2) = ks ∧ ws = L.map (fun q => V.ref q.1) ∧ ∀ q ∈ L, SqT K F q.1 (q.2.map V.int)
  | [], _, r => by cases r; exact ⟨[], rfl, rfl, fun q h => by cases h⟩
  | k :: ks, _, ⟨v, t, e, a, b⟩ => by
    subst e
    obtain ⟨p, vs, rfl, hq, hr⟩ := a
    obtain ⟨L, e1, e2, h⟩ := rows_rep b
    rw [RepL.vints hr] at hq
    refine ⟨(p, k) :: L, by rw [List.map_cons, e1], by rw [List.map_cons, e2], fun q hm => ?_⟩
    rcases List.mem_cons.mp hm with rfl | hm
    · exact hq
    · exact h q hm
theorem rep_rows {K : PySem.W.Frag} {mg : PySem.Str → Option Value} {F : Hp} : ∀ {L : List (Addr × List Int)}, (∀ q ∈ L, SqT K F q.1 (q.2.map V.int)) → RepL K mg F ((L.map (·.2)).map tupI) (L.map fun q => V.ref q.1)
  | [], _ => rfl
  | q :: L, h => by
    refine ⟨V.ref q.1, _, rfl, ⟨q.1, q.2.map V.int, rfl, h q List.mem_cons_self, ?_⟩, rep_rows fun r hr => h r (List.mem_cons_of_mem _ hr)⟩
    have : ∀ ns : List Int, RepL K mg F (ns.map .int) (ns.map V.int) := fun ns => by
      induction ns with
      | nil => rfl
      | cons n ns ih => exact ⟨V.int n, _, rfl, rfl, ih⟩
    exact this q.2
theorem reads_rows {P : Program} {w : World} {h : Heap} {k : List Int} {b : Addr} (x : IsT P w h k b) : Reads h (.ref b) (pd (tupI k)) [] := by
  obtain ⟨o, items, n, ho, hc, hd, hi⟩ := x
  refine .tuple ho hc hd ?_
  have := ints_of_items hi
  generalize items.toList = l at this
  clear hd hi ho hc
  induction this with
  | nil => exact .nil
  | cons k t _ ih => exact .cons (.int k t) ih
theorem depth_rows (k : List Int) : (pd (tupI k)).depth ≤ 1 := pd_depth (by show dpLes 0 (k.map .int) = true; induction k with | nil => rfl | cons a k ih => show (true && dpLes 0 (k.map .int)) = true; rw [ih]; rfl)
section
variable {P : Program} {w : World} {A : Around} {E : Value → Shared → Prop} {s : Shared}
/-- sorted(a), a set of tuples of ints -/
theorem sorted_rows {a : Addr} {L : List (Addr × List Int)} {es : Array (Int × Value)} {ep : Nat} {tab : SetTable} {Q : Value → Shared → Prop} (R : SetTR P w s.heap a L es ep tab) (calm : A.handled = none) (hu : A.units + 64 < cLine) (hne : L.length < 2 ∨ ∀ q ∈ L, q.2 ≠ [])
    (done : ∀ s' p (c : Nat) (M : List (Addr × List Int)), (∀ b o, s.heap.get? b = some o → s'.heap.get? b = some o) → s'.gens = s.gens → s'.os = s.os → s.heap.objs.size ≤ p → s'.heap.get? p = some (seqObj "list" (M.map fun q => Value.ref q.1).toArray c) → M.Perm L →
      (M.Pairwise fun q r => leD (tupI q.2) (tupI r.2) = true) → Q (.ref p) s') : wpAny (model P w) A (call (.builtin "sorted") [.ref a]) Q E s := by
  obtain ⟨o, ho, hex, hd⟩ := R.ob
  have few := R.few
  have size := R.size
  refine Calls.call_function_entry kind_sorted plain_sorted entry_sorted (args_sorted1 _) ?_
  unfold Builtin.«sorted»
  refine wpAny_bind (m := checkCount "sorted" 1 1 _) (wpAny_pure ?_)
  refine wpAny_bind (collect_set (A := A.in1) calm ⟨o, ho, hex.1, hd⟩ R.fits (by unfold scanBound; omega) R.tab.ris R.led fun s1 vs keep grow hg ho' pm => ?_)
  have rows : es.toList.map (·.2) = L.map fun q => Value.ref q.1 := by rw [R.rows]; unfold rowsOf; rw [List.map_map]; rfl
  rw [rows] at pm
  obtain ⟨L1, p1, rfl⟩ := perm_back pm rfl
  have hl1 : L1.length < 64 := by rw [p1.length_eq]; exact few
  have hvl : (L1.map fun q => Value.ref q.1).length < 64 := by rw [List.length_map]; exact hl1
  refine wpAny_bind (wpAny_newList ?_ (by rw [sizeLine_eq]; omega))
  have new : (s1.heap.push (seqObj "list" (L1.map fun q => Value.ref q.1).toArray 0)).get? s1.heap.objs.size = some (seqObj "list" (L1.map fun q => Value.ref q.1).toArray 0) := Heap.get?_push_size _ rfl
  have fin : ∀ M : List (Addr × List Int), M.Perm L → (M.Pairwise fun q r => leD (tupI q.2) (tupI r.2) = true) → Q (.ref s1.heap.objs.size) { s1 with heap := sortedHeap (s1.heap.push (seqObj "list" (L1.map fun q => Value.ref q.1).toArray 0)) s1.heap.objs.size (L1.map fun q => Value.ref q.1) (M.map fun q => Value.ref q.1).toArray } := fun M pM sM => by
    obtain ⟨c, hc⟩ := sortedHeap_at (vs := L1.map fun q => Value.ref q.1) (out := (M.map fun q => Value.ref q.1).toArray) new
    refine done _ s1.heap.objs.size c M (fun b u e => ?_) hg ho' grow hc pM sM
    have e1 := keep b u e
    have lt := Heap.lt_size e1
    show (sortedHeap _ _ _ _).get? b = some u
    rw [sortedHeap_old (Nat.ne_of_lt lt) (by rw [size_push']; exact Nat.lt_succ_of_lt lt)]
    exact Heap.get?_push_of_some _ e1
  by_cases h2 : L1.length < 2
  · refine wpAny_bind (wpAny_holding (wpAny_call_entry slot_list_sort ⟨_, new, rfl⟩ entry_list_sort (SrtO.list_sort_ord (ltv := fun _ _ => false) ⟨fun _ _ h => (by cases h), fun _ _ _ _ _ => rfl⟩ new (by rw [sizeLine_eq]; omega) (fun h3 => absurd h3 (by rw [List.length_map]; omega)) fun out _ hb => ⟨_, rfl, ?_⟩) (args_list_sort _)))
    have eo : out = L1.map fun q => Value.ref q.1 := short_perm hb.perm (by rw [List.length_map]; exact h2)
    rw [eo]
    refine wpAny_pure ⟨_, rfl, fin L1 p1 ?_⟩
    match L1, h2 with
    | [], _ => exact .nil
    | [q], _ => exact List.pairwise_singleton _ _
    | _ :: _ :: _, h => simp at h; omega
  · have hall : ∀ q ∈ L1, q.2 ≠ [] := fun q hq => (hne.resolve_left (by rw [← p1.length_eq]; exact h2)) q (p1.mem_iff.mp hq)
    have each : ∀ {Z : Value → (Addr × List Int) → Prop} {M : List (Addr × List Int)}, (∀ q ∈ M, Z (.ref q.1) q) → PySem.W.EachIs Z (M.map fun q => Value.ref q.1) M := fun {Z M} h => by
      induction M with
      | nil => exact .nil
      | cons q M ih => exact .cons (h q List.mem_cons_self) (ih fun r hr => h r (List.mem_cons_of_mem _ hr))
    have back : ∀ {out : List Value} {M : List (Addr × List Int)}, PySem.W.EachIs (fun v (q : Addr × List Int) => v = Value.ref q.1) out M → out = M.map fun q => Value.ref q.1 := fun {out M} h => by
      induction h with
      | nil => rfl
      | cons e _ ih => rw [e, ih]; rfl
    refine wpAny_bind (wpAny_holding (PySem.W.list_sort_data (bs := L1) (enc := fun q => pd (tupI q.2)) (R := fun v q => v = Value.ref q.1) new (each fun _ _ => rfl) (each fun q hq => ⟨[], reads_rows (isT_keep (R.tup q (p1.mem_iff.mp hq)) fun b u e => Heap.get?_push_of_some _ (keep b u e)), fun h => by cases h⟩)
      (fun d hd d' hd' => ?_) (.inl fun d hd => ?_) (by rw [sizeLine_eq]; omega) (fun q hq => ?_) fun out hlen eo => ?_))
    · obtain ⟨q, _, rfl⟩ := List.mem_map.mp hd
      obtain ⟨r, _, rfl⟩ := List.mem_map.mp hd'
      exact alike_pd (alike_tupI q.2 r.2)
    · obtain ⟨q, hq, rfl⟩ := List.mem_map.mp hd
      have := hall q hq
      cases e : q.2 with
      | nil => exact absurd e this
      | cons x r => exact ⟨.int x, pds (r.map .int), rfl⟩
    · have := depth_rows q.2
      show A.in1.units + 1 + _ < cLine
      have hi : A.in1.units ≤ A.units + 1 := Nat.le_refl _
      omega
    · rw [back eo]
      refine wpAny_pure ⟨_, rfl, fin _ ((List.mergeSort_perm _ _).trans p1) ?_⟩
      exact PySem.W.sort_pairwise (le := PySem.W.dataLe false fun q : Addr × List Int => pd (tupI q.2)) (PySem.W.sortLe_total _ _ _) L1
end
section
variable {X : Cx} {e : Expr} {p p2 q pos : Pos} {f : VS}
theorem setOk_few {ys : List PV} (h : setOk ys = true) : ys.length < 64 := by
  unfold setOk at h
  rw [Bool.and_eq_true] at h
  exact of_decide_eq_true h.1
/-- set(t): a set of ints, or one of tuples of ints -/
theorem call_set {pins : List (Addr × Obj)} {σ : L2.St} {H F : Hp} {s : Shared} {E : Value → Shared → Prop} {t : Addr} {ys : List PV} {ws : List V} {Q : Value → Shared → Prop} (hc : X.calm = true) (hu : X.A.units + 65 < cLine) (I : Inv X pins σ H s) (hs : Sub F H) (r : RepL X.K X.mg F ys ws) (hq : SqT X.K F t ws) (hok : setOk ys = true)
    (hi : ∀ (a : Addr) (s1 : Shared) (c : Nat) (ns : List Int), ys = ns.map .int → SetR X.w s1.heap a (fun j => decide (j ∈ ns)) c → c ≤ ns.length → Inv X pins σ H s1 → Q (.ref a) s1)
    (ht : ∀ (a : Addr) (s1 : Shared) (ks : List (List Int)) (L : List (Addr × List Int)) es ep tab, ys = ks.map tupI → SetTR X.prog X.w s1.heap a L es ep tab → (∀ k, k ∈ L.map (·.2) ↔ k ∈ ks) → (∀ q ∈ L, SqT X.K F q.1 (q.2.map V.int)) → Inv X pins σ H s1 → Q (.ref a) s1) :
    wpAny (model X.prog X.w) X.A (call (.type "set") [.ref t]) Q E s := by
  have few := setOk_few hok
  unfold setOk at hok
  rw [Bool.and_eq_true, Bool.or_eq_true, Bool.and_eq_true] at hok
  rcases hok.2 with h1 | ⟨h1, _⟩
  · obtain ⟨ns, rfl⟩ := allInt_ints h1
    rw [RepL.vints r] at hq
    exact set_ints hc I (hs.sqT hq) (by simpa using few) fun a s1 c R hcn I1 => hi a s1 c ns rfl R hcn I1
  · obtain ⟨ks, rfl⟩ := allIntT_rows h1
    obtain ⟨L0, e1, e2, h0⟩ := rows_rep r
    subst e2
    obtain ⟨its, rv, pl, hz⟩ := I.tuple (hs.sqT hq)
    refine make_set (P := X.prog) (w := X.w) L0 (I.ok.hd hc) pl (by simpa using refs_of_vals rv) (fun q hm => I.isT (hs.sqT (h0 q hm))) (by rw [← e1, List.length_map, List.length_map] at few; exact few) (by omega) fun g tk L es ep tab R got kp => ?_
    have sub : ∀ q ∈ L, q ∈ L0 := fun q hm => List.mem_of_mem_take (got.sub q hm)
    refine ht _ _ ks L es ep tab rfl R (fun k => ?_) (fun q hm => h0 q (sub q hm)) (I.kept kp)
    rw [← e1]
    constructor
    · intro hk
      obtain ⟨q, hm, rfl⟩ := List.mem_map.mp hk
      exact List.mem_map.mpr ⟨q, sub q hm, rfl⟩
    · intro hk
      obtain ⟨q, hm, rfl⟩ := List.mem_map.mp hk
      exact got.all q (by rw [List.take_length]; exact hm)
theorem s_sortedSet {m : Bool} (hc : X.calm = true) (hu : X.A.units + 65 < cLine) (hg : Gl X "sorted") (hm : X.mg "sorted" = none) (hg2 : Gl X "set") (hm2 : X.mg "set" = none) (ha : PE X e (rdE X.K X.mg f)) (hs : noStar e = true) :
    PE X (.Call (.Name "sorted" p) [.Call (.Name "set" p2) [e] [] q] [] pos) (rdE X.K X.mg fun ρ S => (f ρ S).bind fun x S1 => bSortedSet m x S1) := by
  have na : starEach [e] X.env = (false, eval e X.env) :: starEach [] X.env := star_one hs [] X.env
  refine ⟨fun pins s σ H Q I h => ?_⟩
  obtain ⟨ι, F, S, ρ, z, S', sim, r, hz, fin⟩ := h
  obtain ⟨x, S1, h1, hz⟩ := bind_ok hz
  refine Call_ (ld_blt I hg hm PyProof.Rows.boot_sorted ?_)
  refine PyProof.Rows.callWith_builtin1 (PyProof.Rows.args_cons ?_ rfl) rfl rfl
  refine Call_ (ld_blt I hg2 hm2 PyProof.Rows.boot_set ?_)
  refine PyProof.Rows.callWith_type1 (PyProof.Rows.args_cons (thn (ha.run pins s σ H (fun v H1 => ∃ ι1 F1, Ext ι F ι1 F1 ∧ Sim X.K X.mg ι1 F1 S1 H1 ∧ RepS X.K X.mg F1 ι1 x v) I ⟨ι, F, S, ρ, x, S1, sim, r, h1, fun ι1 F1 v H1 e1 s1 r1 => ⟨ι1, F1, e1, s1, r1⟩⟩) fun u s1 ⟨v, H1, I1, rv, ι1, F1, e1, sim1, r1⟩ => PyProof.Rows.args_nil ?_) na) na rfl
  unfold bSortedSet at hz
  split at hz
  · rename_i ys hseq
    split at hz
    · rename_i hok
      obtain ⟨t, ws, rfl, rl, hq⟩ := sim1.seqT r1 hseq
      cases rv
      have few := setOk_few hok
      refine call_set hc hu I1 sim1.sub rl hq hok (fun a s2 c ns ey R hcn I2 => ?_) fun a s2 ks L es ep tab ey R hmem hrow I2 => ?_
      · subst ey
        rw [List.length_map] at few
        refine PyProof.Rows.args_nil ?_
        refine sorted_set R (I2.ok.hd hc) (by omega) fun s3 p' out c' ns' keep hgn hos hsz hp hia hpw hmm hlen => ?_
        have eq := ints_sorted hpw (ns := ns) fun k => (hmm k).trans (by simp)
        rw [eq] at hz
        obtain ⟨hl, go⟩ := fin_mkL (vs := ns'.map V.int) sim1 (by
          have : ∀ l : List Int, RepL X.K X.mg F1 (l.map .int) (l.map V.int) := fun l => by
            induction l with
            | nil => rfl
            | cons n l ih => exact ⟨V.int n, _, rfl, rfl, ih⟩
          exact this ns') hz fun ι2 F2 u H2 e2 s2 r2 => fin ι2 F2 u H2 (e1.trans e2) s2 r2
        exact ⟨.ref p', _, inv_laid I2 keep hgn hos hsz (ints_of_vals hia) hl (by simpa using hp), rfl, go p' (I2.hok.fresh hsz)⟩
      · subst ey
        have hnd := R.nd
        have hne : L.length < 2 ∨ ∀ q ∈ L, q.2 ≠ [] := by
          unfold setOk at hok
          rw [Bool.and_eq_true, Bool.or_eq_true, Bool.and_eq_true] at hok
          rcases hok.2 with h | ⟨_, h⟩
          · cases ks with
            | nil =>
              left
              cases L with
              | nil => simp
              | cons q L => have := (hmem q.2).mp (by simp); simp at this
            | cons k ks => cases h
          · unfold sortOk at h
            rw [Bool.and_eq_true, Bool.or_eq_true] at h
            rcases h.2 with h | h
            · left
              have hk : ks.length < 2 := by simpa using h
              match ks, hk with
              | [], _ =>
                cases L with
                | nil => simp
                | cons q L => have := (hmem q.2).mp (by simp); simp at this
              | [k], _ =>
                match L, hnd, hmem with
                | [], _, _ => simp
                | [q], _, _ => simp
                | q :: q' :: L, hnd, hmem =>
                  have a1 := (hmem q.2).mp (by simp)
                  have a2 := (hmem q'.2).mp (by simp)
                  simp only [List.mem_singleton] at a1 a2
                  rw [List.map_cons, List.map_cons, List.nodup_cons] at hnd
                  exact absurd (by rw [a1, a2]; exact List.mem_cons_self) hnd.1
              | _ :: _ :: _, hk => simp at hk; omega
            · right
              intro q hq hnil
              have hk := (hmem q.2).mp (List.mem_map.mpr ⟨q, hq, rfl⟩)
              rw [Bool.and_eq_true, Bool.and_eq_true, Bool.or_eq_true] at h
              have hmemy : tupI q.2 ∈ ks.map tupI := List.mem_map.mpr ⟨_, hk, rfl⟩
              rcases h.1.2 with h | h
              · have := List.all_eq_true.mp h _ hmemy
                rw [hnil] at this
                cases this
              · have := List.all_eq_true.mp h _ hmemy
                cases this
        refine PyProof.Rows.args_nil ?_
        refine sorted_rows R (I2.ok.hd hc) (by omega) hne fun s3 p' c M keep hgn hos hsz hp pM sM => ?_
        have hMk : (M.map (·.2)).Nodup := (pM.map (·.2)).nodup_iff.mpr hnd
        have eq := rows_sorted (ks := ks) (L := M.map (·.2)) (List.pairwise_map.mpr sM) hMk fun k => by rw [(pM.map (·.2)).mem_iff]; exact hmem k
        rw [eq] at hz
        obtain ⟨hl, go⟩ := fin_mkL (vs := M.map fun q => V.ref q.1) sim1 (rep_rows fun q hm => hrow q (pM.mem_iff.mp hm)) hz fun ι2 F2 u H2 e2 s2 r2 => fin ι2 F2 u H2 (e1.trans e2) s2 r2
        exact ⟨.ref p', _, inv_laid I2 keep hgn hos hsz (vals_of_refs M) hl hp, rfl, go p' (I2.hok.fresh hsz)⟩
    · cases hz
  · cases hz
end
end FW

/-! FW: targets, what is walked, comprehensions. -/
namespace FW
open PySem PySem.Spec PyProof.Rows L2 RZ

/-! ### targets -/
/-- but for these slots the same -/
def Same (ts : List Nat) (σ σ' : L2.St) : Prop := σ'.length = σ.length ∧ ∀ j, j ∉ ts → σ'[j]? = σ[j]?
section
variable {ts us : List Nat} {σ σ' σ'' : L2.St}
theorem Same.refl : Same ts σ σ := ⟨rfl, fun _ _ => rfl⟩
theorem Same.trans (a : Same ts σ σ') (b : Same ts σ' σ'') : Same ts σ σ'' := ⟨b.1.trans a.1, fun j h => (b.2 j h).trans (a.2 j h)⟩
theorem Same.mono (a : Same ts σ σ') (h : ∀ t ∈ ts, t ∈ us) : Same us σ σ' := ⟨a.1, fun j hj => a.2 j fun z => hj (h j z)⟩
theorem Same.set {i : Nat} {x : Option V} (h : i ∈ ts) : Same ts σ (σ.set i x) := ⟨by simp, fun j hj => by rw [List.getElem?_set_ne (fun z => by subst z; exact hj h)]⟩
theorem wipe_in : ∀ (vs : List Nat) (j : Nat), j ∈ vs → (L2.wipe σ vs)[j]? = if j < σ.length then some none else none
  | [], _, h => by cases h
  | v :: vs, j, h => by
    unfold L2.wipe
    by_cases hj : v = j
    · subst hj
      rw [List.getElem?_set]
      simp [L2.wipe_length]
    · rw [List.getElem?_set_ne hj]
      exact wipe_in vs j ((List.mem_cons.mp h).resolve_left fun z => hj z.symm)
theorem Same.wipe {own : List Nat} (a : Same ts (L2.wipe σ own) σ') (h : ∀ t ∈ ts, t ∈ own) : L2.wipe σ' own = L2.wipe σ own := by
  refine List.ext_getElem? fun j => ?_
  by_cases hj : j ∈ own
  · rw [wipe_in own j hj, wipe_in own j hj, a.1, L2.wipe_length]
  · rw [L2.wipe_out hj, a.2 j fun z => hj (h j z)]
end
section
variable (K : PySem.W.Frag) (mg : PySem.Str → Option Value)
def rdG (g : PV → Slots → Option Slots) (ts : List Nat) : TG := fun v σ H Q => ∃ ι F S ρ x ρ', Sim K mg ι F S H ∧ RepR K mg F ι ρ σ ∧ Rep K mg F x v ∧ g x ρ = some ρ' ∧
  ∀ ι' F' σ' H', Ext ι F ι' F' → Sim K mg ι' F' S H' → RepR K mg F' ι' ρ' σ' → Same ts σ σ' → Q σ' H'
def rdGs (g : List PV → Slots → Option Slots) (ts : List Nat) : TGs := fun vs σ H Q => ∃ ι F S ρ xs ρ', Sim K mg ι F S H ∧ RepR K mg F ι ρ σ ∧ RepL K mg F xs vs ∧ g xs ρ = some ρ' ∧
  ∀ ι' F' σ' H', Ext ι F ι' F' → Sim K mg ι' F' S H' → RepR K mg F' ι' ρ' σ' → Same ts σ σ' → Q σ' H'
end
theorem assign_one {e : Expr} (h : noStar e = true) (es : List Expr) (env : Env) : assignEach (e :: es) env = (false, assign e env) :: assignEach es env := by
  cases e <;> first | rfl | simp [noStar] at h
theorem assign_len (env : Env) : ∀ {es : List Expr}, (∀ e ∈ es, noStar e = true) → (assignEach es env).length = es.length ∧ (assignEach es env).findIdx? (·.1) = none
  | [], _ => ⟨rfl, rfl⟩
  | e :: es, h => by
    obtain ⟨h1, h2⟩ := assign_len env (es := es) fun x hx => h x (List.mem_cons_of_mem _ hx)
    rw [assign_one (h e List.mem_cons_self)]
    refine ⟨by simp [h1], ?_⟩
    rw [List.findIdx?_cons]
    simp [h2]
section
variable {X : Cx} {e : Expr} {es : List Expr} {pos p : Pos}
theorem pg_mono {t t' : TG} (h : PG X e t) (m : ∀ v σ H Q, t' v σ H Q → t v σ H Q) : PG X e t' := ⟨fun pins s σ H v u Q I r q => h.run pins s σ H v u Q I r (m v σ H Q q)⟩
theorem pgs_mono {t t' : TGs} (h : PGs X es t) (m : ∀ v σ H Q, t' v σ H Q → t v σ H Q) : PGs X es t' := ⟨fun pins s σ H v u Q I r q => h.run pins s σ H v u Q I r (m v σ H Q q)⟩
theorem g_name {i : Nat} {x : PySem.Str} (hN : X.N.Nodup) (hi : X.N[i]? = some x) (hx : Loc X.env.scope x) (hf : X.fn x = true ∨ X.env.scope.names.lookup x = some .local) : PG X (.Name x pos) (rdG X.K X.mg (fun y ρ => some (ρ.set i (some (.v y)))) [i]) :=
  pg_mono (pg_name hN hi hx hf) fun v σ H Q h => by
    obtain ⟨ι, F, S, ρ, x, ρ', sim, r, rx, hg, q⟩ := h
    cases hg
    exact q _ _ _ _ Ext.refl sim (r.set (x := .v x) rx i) (Same.set List.mem_cons_self)
theorem g_tup {k : Nat} {ts : List Nat} {g : List PV → Slots → Option Slots} (hc : X.calm = true) (h : PGs X es (rdGs X.K X.mg g ts)) (hs : ∀ e ∈ es, noStar e = true) (hl : ∀ xs ρ ρ', g xs ρ = some ρ' → xs.length = es.length) :
    PG X (.Tuple es k pos) (rdG X.K X.mg (fun x ρ => match x with | .tup xs => g xs ρ | .lst xs => g xs ρ | _ => none) ts) := by
  refine ⟨fun pins s σ H v u Q I ru h' => ?_⟩
  obtain ⟨ι, F, S, ρ, x, ρ', sim, r, rx, hg, q⟩ := h'
  simp only at hg
  split at hg
  · rename_i xs
    obtain ⟨p, vs, rfl, l, hq⟩ := sim.seqT (x := .v (.tup xs)) rx rfl
    exact (pg_tup hc h (assign_len X.env hs).1 (assign_len X.env hs).2).run pins s σ H _ u Q I ru ⟨p, vs, rfl, sim.sub.sqT hq, by rw [← l.length, hl _ _ _ hg], ι, F, S, ρ, xs, ρ', sim, r, l, hg, q⟩
  · rename_i xs
    obtain ⟨p, vs, rfl, l, hq⟩ := sim.seqL (x := .v (.lst xs)) rx rfl
    exact (pg_lst hc h (assign_len X.env hs).1 (assign_len X.env hs).2).run pins s σ H _ u Q I ru ⟨p, vs, rfl, .inl hq, by rw [← l.length, hl _ _ _ hg], ι, F, S, ρ, xs, ρ', sim, r, l, hg, q⟩
  · cases hg
theorem gs_nil : PGs X [] (rdGs X.K X.mg (fun xs ρ => match xs with | [] => some ρ | _ => none) []) := pgs_mono pgs_nil fun v σ H Q h => by
  obtain ⟨ι, F, S, ρ, xs, ρ', sim, r, l, hg, q⟩ := h
  simp only at hg
  split at hg
  · cases hg; cases l
    exact ⟨rfl, q _ _ _ _ Ext.refl sim r Same.refl⟩
  · cases hg
theorem gs_cons {t1 t2 : List Nat} {g : PV → Slots → Option Slots} {gs : List PV → Slots → Option Slots} (h1 : PG X e (rdG X.K X.mg g t1)) (h2 : PGs X es (rdGs X.K X.mg gs t2)) (hs : noStar e = true) :
    PGs X (e :: es) (rdGs X.K X.mg (fun xs ρ => match xs with | x :: xs => (match g x ρ with | some ρ' => gs xs ρ' | none => none) | [] => none) (t1 ++ t2)) :=
  pgs_mono (pgs_cons h1 h2 (by rw [assign_one hs]; rfl)) fun v σ H Q h => by
    obtain ⟨ι, F, S, ρ, xs, ρ', sim, r, l, hg, q⟩ := h
    cases xs with
    | nil => cases hg
    | cons x xs =>
      simp only at hg
      split at hg
      · rename_i ρ1 h1
        obtain ⟨v, vr, rfl, rx, l⟩ := l
        refine ⟨v, vr, rfl, ι, F, S, ρ, x, ρ1, sim, r, rx, h1, fun ι1 F1 σ1 H1 e1 s1 r1 z1 => ?_⟩
        exact ⟨ι1, F1, S, ρ1, xs, ρ', s1, r1, l.mono e1.2, hg, fun ι2 F2 σ2 H2 e2 s2 r2 z2 => q _ _ _ _ (e1.trans e2) s2 r2 ((z1.mono fun _ => List.mem_append_left _).trans (z2.mono fun _ => List.mem_append_right _))⟩
      · cases hg
end

/-! ### what is walked -/
/-- J walks these items, whatever is kept of the frozen -/
structure WalkP (K : PySem.W.Frag) (mg : PySem.Str → Option Value) (F : Hp) (xs : List PV) (J : It) : Prop where
  goes : ∀ i H, i < xs.length → Sub F H → J.go i H
  stops : ∀ H, Sub F H → J.stop xs.length H
  yields : ∀ i H v H', i < xs.length → Sub F H → J.yld i H v H' → ∀ ι F2 S, Sub F F2 → Sim K mg ι F2 S H → ∃ F3 y, Ext ι F2 ι F3 ∧ Sim K mg ι F3 S H' ∧ xs[i]? = some y ∧ Rep K mg F3 y v
  tracked : ∀ i H v H' D o, i < xs.length → Sub F H → J.yld i H v H' → H D = some o → H' D = some o
section
variable (K : PySem.W.Frag) (mg : PySem.Str → Option Value)
def rdI (f : IS) : TI := fun σ H R => ∃ ι F S ρ xs S', Sim K mg ι F S H ∧ RepR K mg F ι ρ σ ∧ f ρ S = .ok xs S' ∧ ∀ ι' F' H' J, Ext ι F ι' F' → Sim K mg ι' F' S' H' → WalkP K mg F' xs J → R J H'
end
section
variable {X : Cx} {K : PySem.W.Frag} {mg : PySem.Str → Option Value} {F H : Hp} {a b e : Expr} {tg : Expr} {fa fb fc : VS} {pos p : Pos}
theorem wp_list {p : Addr} {xs : List PV} {vs : List V} (l : RepL K mg F xs vs) (hq : Rd F p (.lst vs)) : WalkP K mg F xs (Itl K p) where
  goes i H hi hs := by
    obtain ⟨v, h1, _⟩ := l.get (List.getElem?_eq_getElem hi)
    exact ⟨vs, v, .inl (hs.rd hq), h1⟩
  stops H hs := ⟨vs, .inl (hs.rd hq), by rw [l.length]; exact Nat.le_refl _⟩
  yields i H v H' hi hs y ι F2 S s2 sim := by
    obtain ⟨rfl, y⟩ := y
    obtain ⟨w, h1, h2⟩ := l.get (List.getElem?_eq_getElem hi)
    have := y vs (.inl (hs.rd hq))
    rw [h1] at this; cases this
    exact ⟨F2, _, Ext.refl, sim, List.getElem?_eq_getElem hi, h2.mono s2⟩
  tracked i H v H' D o hi hs y h := by obtain ⟨rfl, _⟩ := y; exact h
theorem wp_tup {p : Addr} {xs : List PV} {vs : List V} (l : RepL K mg F xs vs) (hq : SqT K F p vs) : WalkP K mg F xs (Itt K p) where
  goes i H hi hs := by
    obtain ⟨v, h1, _⟩ := l.get (List.getElem?_eq_getElem hi)
    exact ⟨vs, v, hs.sqT hq, h1⟩
  stops H hs := ⟨vs, hs.sqT hq, by rw [l.length]; exact Nat.le_refl _⟩
  yields i H v H' hi hs y ι F2 S s2 sim := by
    obtain ⟨rfl, y⟩ := y
    obtain ⟨w, h1, h2⟩ := l.get (List.getElem?_eq_getElem hi)
    have := y vs (hs.sqT hq)
    rw [h1] at this; cases this
    exact ⟨F2, _, Ext.refl, sim, List.getElem?_eq_getElem hi, h2.mono s2⟩
  tracked i H v H' D o hi hs y h := by obtain ⟨rfl, _⟩ := y; exact h
theorem i_seq (ha : PE X a (rdE X.K X.mg fa)) : PI X tg a (rdI X.K X.mg (iSeq fa)) := by
  refine ⟨fun pins s σ H R I h => ?_⟩
  obtain ⟨ι, F, S, ρ, xs, S', sim, r, hf, q⟩ := h
  obtain ⟨x, S1, h1, hf⟩ := bind_ok hf
  unfold seqOp at hf
  split at hf
  · cases hf
    refine (pi_tup ha).run pins s σ H R I ⟨ι, F, S, ρ, _, _, sim, r, h1, fun ι1 F1 v H1 e1 s1 r1 => ?_⟩
    obtain ⟨p, vs, rfl, l, hq⟩ := s1.seqT r1 rfl
    exact ⟨p, rfl, ⟨vs, s1.sub.sqT hq⟩, q _ _ _ _ e1 s1 (wp_tup l hq)⟩
  · cases hf
    refine (pi_list ha).run pins s σ H R I ⟨ι, F, S, ρ, _, _, sim, r, h1, fun ι1 F1 v H1 e1 s1 r1 => ?_⟩
    obtain ⟨p, vs, rfl, hq, l⟩ := r1
    exact ⟨p, rfl, ⟨vs, .inl (s1.sub.rd hq)⟩, q _ _ _ _ e1 s1 (wp_list l hq)⟩
  · cases hf
theorem wp_range {i j : Int} : WalkP K mg F (rng i j) (Itr i (j - i).toNat) where
  goes n H hi hs := by show n < (j - i).toNat; simpa [rng] using hi
  stops H hs := by show (j - i).toNat ≤ (rng i j).length; simp [rng]
  yields n H v H' hi hs y ι F2 S s2 sim := by
    obtain ⟨rfl, rfl⟩ := y
    refine ⟨F2, .int (i + n), Ext.refl, sim, ?_, rfl⟩
    have hn : n < (j - i).toNat := by simpa [rng] using hi
    simp only [rng, List.getElem?_map, List.getElem?_range hn, Option.map_some]
    rfl
  tracked n H v H' D o hi hs y h := by obtain ⟨rfl, _⟩ := y; exact h
theorem rngN_eq (n : Int) : rngN n = rng 0 n := by
  unfold rngN rng
  rw [Int.sub_zero]
  refine List.map_congr_left fun i _ => ?_
  rw [Int.zero_add]
theorem rngOk_le {n : Int} (h : rngOk n = true) : n ≤ 4000000 := of_decide_eq_true h
theorem i_rng1 (hg : Gl X "range") (hm : X.mg "range" = none) (ha : PE X a (rdE X.K X.mg fa)) (hs : noStar a = true) : PI X tg (.Call (.Name "range" p) [a] [] pos) (rdI X.K X.mg (iRng1 fa)) := by
  refine ⟨fun pins s σ H R I h => ?_⟩
  obtain ⟨ι, F, S, ρ, xs, S', sim, r, hf, q⟩ := h
  obtain ⟨x, S1, h1, hf⟩ := bind_ok hf
  unfold rng1Op at hf
  split at hf
  · rename_i n
    split at hf
    · rename_i hn
      cases hf
      rw [Bool.and_eq_true] at hn
      have h2 := rngOk_le hn.1
      have h3 := rngOk_le hn.2
      refine (pi_range1 hg hm (pa_cons ha pa_nil (star_one hs _ _)) (star_one hs _ _)).run pins s σ H R I ⟨ι, F, S, ρ, _, _, sim, r, h1, fun ι1 F1 v H1 e1 s1 r1 => ?_⟩
      cases r1
      refine ⟨n, rfl, by omega, by omega, q _ _ _ _ e1 s1 ?_⟩
      rw [rngN_eq]
      have := wp_range (K := X.K) (mg := X.mg) (F := F1) (i := 0) (j := n)
      rw [Int.sub_zero] at this
      exact this
    · cases hf
  · cases hf
theorem i_rng2 (hg : Gl X "range") (hm : X.mg "range" = none) (ha : PE X a (rdE X.K X.mg fa)) (hb : PE X b (rdE X.K X.mg fb)) (hs : noStar a = true) (hs2 : noStar b = true) : PI X tg (.Call (.Name "range" p) [a, b] [] pos) (rdI X.K X.mg (iRng2 fa fb)) := by
  refine ⟨fun pins s σ H R I h => ?_⟩
  obtain ⟨ι, F, S, ρ, xs, S', sim, r, hf0, q⟩ := h
  obtain ⟨x, S1, h1, hf1⟩ := bind_ok hf0
  obtain ⟨y, S2, h2, hf⟩ := bind_ok hf1
  clear hf0 hf1
  unfold rng2Op at hf
  split at hf
  · rename_i i j
    split at hf
    · rename_i hn
      cases hf
      simp only [Bool.and_eq_true] at hn
      obtain ⟨⟨⟨n1, n2⟩, n3⟩, n4⟩ := hn
      have h3 := rngOk_le n1
      have h4 := rngOk_le n2
      have h5 := rngOk_le n3
      have h6 := rngOk_le n4
      refine (pi_range2 hg hm (pa_cons ha (pa_cons hb pa_nil (star_one hs2 _ _)) (star_one hs _ _)) (by rw [star_one hs, star_one hs2]; rfl) (star_one hs2 _ _)).run pins s σ H R I ⟨ι, F, S, ρ, _, _, sim, r, h1, fun ι1 F1 v H1 e1 s1 r1 => ?_⟩
      refine ⟨ι1, F1, S1, ρ, _, _, s1, r.mono e1, h2, fun ι2 F2 w H2 e2 s2 r2 => ?_⟩
      cases r1; cases r2
      exact ⟨i, j, rfl, ⟨by omega, by omega, by omega, by omega⟩, q _ _ _ _ (e1.trans e2) s2 wp_range⟩
    · cases hf
  · cases hf
theorem zipL_get : ∀ (xs ys : List PV) (i : Nat), (zipL xs ys)[i]? = match xs[i]?, ys[i]? with | some x, some y => some (.tup [x, y]) | _, _ => none
  | [], ys, i => by cases ys <;> simp [zipL]
  | x :: xs, [], i => by simp [zipL]
  | x :: xs, y :: ys, 0 => by simp [zipL]
  | x :: xs, y :: ys, i + 1 => by simp only [zipL, List.getElem?_cons_succ]; exact zipL_get xs ys i
theorem zipL_len : ∀ (xs ys : List PV), (zipL xs ys).length = min xs.length ys.length
  | [], ys => by cases ys <;> simp [zipL]
  | x :: xs, [] => by simp [zipL]
  | x :: xs, y :: ys => by simp only [zipL, List.length_cons, zipL_len xs ys]; omega
theorem pair_new {ι : Plc} {F2 H : Hp} {S : Store} {T : Addr} {x y : PV} {v w : V} (sim : Sim K mg ι F2 S H) (hT : H T = none) (r1 : Rep K mg F2 x v) (r2 : Rep K mg F2 y w) :
    ∃ F3, Ext ι F2 ι F3 ∧ Sim K mg ι F3 S (upd H T (.tup [v, w])) ∧ Rep K mg F3 (.tup [x, y]) (.ref T) := by
  obtain ⟨s, e⟩ := sim.newF (o := .tup [v, w]) hT
  exact ⟨_, e, s, T, [v, w], rfl, .inl (.inl upd_same), ⟨v, [w], rfl, r1.mono e.2, RepL.one (r2.mono e.2)⟩⟩
theorem wp_zipL {a b : Addr} {xs ys : List PV} {vs ws : List V} (l : RepL K mg F xs vs) (hq : Rd F a (.lst vs)) (l2 : RepL K mg F ys ws) (hq2 : Rd F b (.lst ws)) : WalkP K mg F (zipL xs ys) (Itz K a b) where
  goes i H hi hs := by
    rw [zipL_len] at hi
    obtain ⟨v, h1, _⟩ := l.get (List.getElem?_eq_getElem (show i < xs.length by omega))
    obtain ⟨w, h2, _⟩ := l2.get (List.getElem?_eq_getElem (show i < ys.length by omega))
    exact ⟨vs, ws, v, w, .inl (hs.rd hq), .inl (hs.rd hq2), h1, h2⟩
  stops H hs := ⟨vs, ws, .inl (hs.rd hq), .inl (hs.rd hq2), by rw [zipL_len, l.length, l2.length]; omega⟩
  yields i H v H' hi hs y ι F2 S s2 sim := by
    rw [zipL_len] at hi
    obtain ⟨T, x, z, rfl, hT, rfl, y1, y2⟩ := y
    have e1 := List.getElem?_eq_getElem (show i < xs.length by omega)
    have e2 := List.getElem?_eq_getElem (show i < ys.length by omega)
    obtain ⟨v, h1, g1⟩ := l.get e1
    obtain ⟨w, h2, g2⟩ := l2.get e2
    have k1 := y1 vs (.inl (hs.rd hq))
    have k2 := y2 ws (.inl (hs.rd hq2))
    rw [h1] at k1; cases k1
    rw [h2] at k2; cases k2
    obtain ⟨F3, ex, s3, r3⟩ := pair_new sim hT (g1.mono s2) (g2.mono s2)
    exact ⟨F3, _, ex, s3, by rw [zipL_get, e1, e2], r3⟩
  tracked i H v H' D o hi hs y h := by
    obtain ⟨T, x, z, rfl, hT, rfl, y1, y2⟩ := y
    rw [upd_ne (ne_of_none h hT)]; exact h
theorem wp_zipT {a b : Addr} {xs ys : List PV} {vs ws : List V} (l : RepL K mg F xs vs) (hq : SqT K F a vs) (l2 : RepL K mg F ys ws) (hq2 : SqT K F b ws) : WalkP K mg F (zipL xs ys) (ItzT K a b) where
  goes i H hi hs := by
    rw [zipL_len] at hi
    obtain ⟨v, h1, _⟩ := l.get (List.getElem?_eq_getElem (show i < xs.length by omega))
    obtain ⟨w, h2, _⟩ := l2.get (List.getElem?_eq_getElem (show i < ys.length by omega))
    exact ⟨vs, ws, v, w, hs.sqT hq, hs.sqT hq2, h1, h2⟩
  stops H hs := ⟨vs, ws, hs.sqT hq, hs.sqT hq2, by rw [zipL_len, l.length, l2.length]; omega⟩
  yields i H v H' hi hs y ι F2 S s2 sim := by
    rw [zipL_len] at hi
    obtain ⟨T, x, z, rfl, hT, rfl, y1, y2⟩ := y
    have e1 := List.getElem?_eq_getElem (show i < xs.length by omega)
    have e2 := List.getElem?_eq_getElem (show i < ys.length by omega)
    obtain ⟨v, h1, g1⟩ := l.get e1
    obtain ⟨w, h2, g2⟩ := l2.get e2
    have k1 := y1 vs (hs.sqT hq)
    have k2 := y2 ws (hs.sqT hq2)
    rw [h1] at k1; cases k1
    rw [h2] at k2; cases k2
    obtain ⟨F3, ex, s3, r3⟩ := pair_new sim hT (g1.mono s2) (g2.mono s2)
    exact ⟨F3, _, ex, s3, by rw [zipL_get, e1, e2], r3⟩
  tracked i H v H' D o hi hs y h := by
    obtain ⟨T, x, z, rfl, hT, rfl, y1, y2⟩ := y
    rw [upd_ne (ne_of_none h hT)]; exact h
theorem i_zip {elts : List Expr} {kk : Nat} {tpos : Pos} (hc : X.calm = true) (hg : Gl X "zip") (hm : X.mg "zip" = none) (ha : PE X a (rdE X.K X.mg fa)) (hb : PE X b (rdE X.K X.mg fb)) (hs : noStar a = true) (hs2 : noStar b = true) : PI X (.Tuple elts kk tpos) (.Call (.Name "zip" p) [a, b] [] pos) (rdI X.K X.mg (iZip fa fb)) := by
  refine ⟨fun pins s σ H R I h => ?_⟩
  obtain ⟨ι, F, S, ρ, xs, S', sim, r, hf, q⟩ := h
  obtain ⟨x, S1, h1, hf⟩ := bind_ok hf
  obtain ⟨y, S2, h2, hf⟩ := bind_ok hf
  refine (pi_zipA hg hm (pa_cons ha (pa_cons hb pa_nil (star_one hs2 _ _)) (star_one hs _ _)) (star_one hs _ _) (by rw [star_one hs2]; rfl)).run pins s σ H R I ⟨ι, F, S, ρ, _, _, sim, r, h1, fun ι1 F1 v H1 e1 s1 r1 => ?_⟩
  refine ⟨ι1, F1, S1, ρ, _, _, s1, r.mono e1, h2, fun ι2 F2 w H2 e2 s2 r2 => ?_⟩
  unfold zipOp at hf
  split at hf
  · cases hf
    obtain ⟨p, vs, rfl, l, hq⟩ := s2.seqT (r1.mono e2) rfl
    obtain ⟨p2, ws, rfl, l2, hq2⟩ := s2.seqT r2 rfl
    exact ⟨p, p2, vs, ws, rfl, .inr ⟨s2.sub.sqT hq, s2.sub.sqT hq2, q _ _ _ _ (e1.trans e2) s2 (wp_zipT l hq l2 hq2)⟩⟩
  · cases hf
    obtain ⟨p, vs, rfl, hq, l⟩ := r1.mono e2
    obtain ⟨p2, ws, rfl, hq2, l2⟩ := r2
    exact ⟨p, p2, vs, ws, rfl, .inl ⟨.inl (s2.sub.rd hq), .inl (s2.sub.rd hq2), q _ _ _ _ (e1.trans e2) s2 (wp_zipL l hq l2 hq2)⟩⟩
  · cases hf
theorem enumL_get : ∀ (xs : List PV) (k i : Nat), (enumL k xs)[i]? = (xs[i]?).map fun x => .tup [.int (Int.ofNat (k + i)), x]
  | [], k, i => by simp [enumL]
  | x :: xs, k, 0 => by simp [enumL]
  | x :: xs, k, i + 1 => by
    simp only [enumL, List.getElem?_cons_succ]
    rw [enumL_get xs (k + 1) i, show k + 1 + i = k + (i + 1) by omega]
theorem enumL_len : ∀ (xs : List PV) (k : Nat), (enumL k xs).length = xs.length
  | [], k => rfl
  | x :: xs, k => by simp [enumL, enumL_len xs]
theorem wp_enum {a : Addr} {xs : List PV} {vs : List V} (l : RepL K mg F xs vs) (hq : Rd F a (.lst vs)) : WalkP K mg F (enumL 0 xs) (Ite K a) where
  goes i H hi hs := by
    rw [enumL_len] at hi
    obtain ⟨v, h1, _⟩ := l.get (List.getElem?_eq_getElem hi)
    exact ⟨vs, v, .inl (hs.rd hq), h1⟩
  stops H hs := ⟨vs, .inl (hs.rd hq), by rw [enumL_len, l.length]; exact Nat.le_refl _⟩
  yields i H v H' hi hs y ι F2 S s2 sim := by
    rw [enumL_len] at hi
    obtain ⟨T, x, rfl, hT, rfl, y1⟩ := y
    have e1 := List.getElem?_eq_getElem hi
    obtain ⟨v, h1, g1⟩ := l.get e1
    have k1 := y1 vs (.inl (hs.rd hq))
    rw [h1] at k1; cases k1
    obtain ⟨F3, ex, s3, r3⟩ := pair_new sim hT (show Rep K mg F2 (.int (Int.ofNat i)) (.int (i : Nat)) from rfl) (g1.mono s2)
    exact ⟨F3, _, ex, s3, by rw [enumL_get, e1, Nat.zero_add]; rfl, r3⟩
  tracked i H v H' D o hi hs y h := by
    obtain ⟨T, x, rfl, hT, rfl, y1⟩ := y
    rw [upd_ne (ne_of_none h hT)]; exact h
theorem i_enum {elts : List Expr} {kk : Nat} {tpos : Pos} (hg : Gl X "enumerate") (hm : X.mg "enumerate" = none) (ha : PE X a (rdE X.K X.mg fa)) (hs : noStar a = true) : PI X (.Tuple elts kk tpos) (.Call (.Name "enumerate" p) [a] [] pos) (rdI X.K X.mg (iEnum fa)) := by
  refine ⟨fun pins s σ H R I h => ?_⟩
  obtain ⟨ι, F, S, ρ, xs, S', sim, r, hf, q⟩ := h
  obtain ⟨x, S1, h1, hf⟩ := bind_ok hf
  refine (pi_enum hg hm (pa_cons ha pa_nil (star_one hs _ _)) (star_one hs _ _)).run pins s σ H R I ⟨ι, F, S, ρ, _, _, sim, r, h1, fun ι1 F1 v H1 e1 s1 r1 => ?_⟩
  unfold enumOp at hf
  split at hf
  · cases hf
    obtain ⟨p, vs, rfl, hq, l⟩ := r1
    exact ⟨p, vs, rfl, .inl (s1.sub.rd hq), q _ _ _ _ e1 s1 (wp_enum l hq)⟩
  · cases hf
end

/-! ### comprehensions -/
section
variable {X : Cx} {elt tg iter : Expr} {ifs : List Expr} {scope : Scope} {own : List (PySem.Str × Nat)} {pos : Pos}
theorem compL_nil {f : PV → Store → Out (Option PV)} {S S' : Store} {ys : List PV} (h : compL f [] S = .ok ys S') : ys = [] ∧ S' = S := by cases h; exact ⟨rfl, rfl⟩
theorem compL_cons {f : PV → Store → Out (Option PV)} {x : PV} {xs : List PV} {S S' : Store} {ys : List PV} (h : compL f (x :: xs) S = .ok ys S') :
    ∃ o S1 zs, f x S = .ok o S1 ∧ compL f xs S1 = .ok zs S' ∧ ys = (match o with | some y => y :: zs | none => zs) := by
  obtain ⟨o, S1, h1, h⟩ := bind_ok h
  obtain ⟨zs, S2, h2, h⟩ := bind_ok h
  cases h
  exact ⟨o, S1, zs, h1, h2, rfl⟩
end
/-! one more list stands apart, at D -/
def Plc.on (ι : Plc) (D : Addr) (vs : List V) : Plc := ⟨ι.l, upd ι.w D (.lst vs)⟩
section
variable {K : PySem.W.Frag} {mg : PySem.Str → Option Value} {F F' H H' : Hp} {ι ι' : Plc} {S S' : Store} {ρ ρ' : Slots} {σ σ' : L2.St} {D : Addr} {vs : List V}
theorem RepS.reloc (h : ι'.l = ι.l) : ∀ {x : SV} {v : V}, RepS K mg F ι x v → RepS K mg F ι' x v
  | .v _, _, r => r
  | .l _, _, ⟨p, e, q⟩ => ⟨p, by rw [h]; exact e, q⟩
theorem RepR.reloc (h : ι'.l = ι.l) (r : RepR K mg F ι ρ σ) : RepR K mg F ι' ρ σ := ⟨r.1, fun i x e => by
  obtain ⟨v, h1, h2⟩ := r.2 i x e
  exact ⟨v, h1, h2.reloc h⟩⟩
theorem Ext.off (e : Ext (ι.on D vs) F ι' F') : ∃ ι2, ι' = ι2.on D vs ∧ Ext ι F ι2 F' := by
  obtain ⟨⟨⟨t, e1⟩, e2⟩, e3⟩ := e
  refine ⟨⟨ι'.l, ι.w⟩, ?_, ⟨⟨t, e1⟩, rfl⟩, e3⟩
  cases ι'
  have e2 : _ = _ := e2
  simp only at e2
  subst e2
  rfl
theorem Ext.on (e : Ext ι F ι' F') : Ext (ι.on D vs) F (ι'.on D vs) F' := by
  obtain ⟨⟨⟨t, e1⟩, e2⟩, e3⟩ := e
  exact ⟨⟨⟨t, e1⟩, by show upd ι'.w _ _ = upd ι.w _ _; rw [e2]⟩, e3⟩
theorem Sim.at_on (s : Sim K mg (ι.on D vs) F S H) : H D = some (.lst vs) ∧ F D = none ∧ D ∉ ι.l := s.frm D _ (by show upd ι.w D _ D = _; rw [upd_same])
theorem Sim.off (s : Sim K mg (ι.on D vs) F S H) (hw : ι.w D = none) : Sim K mg ι F S H := s.forget (w := ι.w) fun a o e => by
  show upd ι.w D _ a = _
  rw [upd_ne (fun z => by subst z; rw [hw] at e; cases e)]
  exact e
theorem Sim.re_on (s : Sim K mg (ι.on D vs) F S H) (hw : ι.w D = none) (ws : List V) : Sim K mg (ι.on D ws) F S (upd H D (.lst ws)) := by
  obtain ⟨_, h2, h3⟩ := s.at_on
  exact ((s.off hw).drop h2 h3 hw).apart upd_same h2 h3
theorem Sim.new_on (s : Sim K mg ι F S H) (h : H D = none) : Sim K mg (ι.on D []) F S (upd H D (.lst [])) ∧ ι.w D = none := by
  obtain ⟨h2, h3⟩ := s.fresh h
  have hw : ι.w D = none := by
    cases e : ι.w D with
    | none => rfl
    | some o => rw [(s.frm _ _ e).1] at h; cases h
  exact ⟨(s.drop h2 h3 hw).apart upd_same h2 h3, hw⟩
/-- what stood apart comes to a place, or is shut for ever -/
theorem Sim.enter (s : Sim K mg ι F S H) {xs : List PV} (hH : H D = some (.lst vs)) (hF : F D = none) (hι : D ∉ ι.l) (hw : ι.w D = none) (l : RepL K mg F xs vs) :
    Sim K mg ⟨ι.l ++ [D], ι.w⟩ F (S ++ [.lst xs]) H ∧ Ext ι F ⟨ι.l ++ [D], ι.w⟩ F := by
  refine ⟨⟨s.sub, by simp [s.len], ?_, fun a u e => ?_, fun n y e => ?_⟩, ⟨⟨⟨[D], rfl⟩, rfl⟩, Sub.refl⟩⟩
  · show (ι.l ++ [D]).Nodup
    rw [List.nodup_append]
    exact ⟨s.nd, by simp, fun a ha b hb => by simp at hb; subst hb; exact fun z => hι (z ▸ ha)⟩
  · obtain ⟨h1, h2, h3⟩ := s.frm a u e
    have ha : a ≠ D := fun z => by subst z; rw [hw] at e; cases e
    exact ⟨h1, h2, by simp [h3, ha]⟩
  · by_cases hn : n < S.length
    · rw [List.getElem?_append_left hn] at e
      obtain ⟨a, u, h1, h2, h3⟩ := s.at_ n y e
      exact ⟨a, u, by show (ι.l ++ [D])[n]? = _; rw [List.getElem?_append_left (by rw [s.len]; exact hn)]; exact h1, h2, h3⟩
    · have hn2 : n = S.length := by
        have := (List.getElem?_eq_some_iff.mp e).1
        simp at this; omega
      subst hn2
      simp at e; subst e
      exact ⟨D, _, by show (ι.l ++ [D])[S.length]? = _; rw [← s.len]; simp, hH, hF, vs, rfl, l⟩
theorem Sim.ice (s : Sim K mg ι F S H) {o : HO} (hH : H D = some o) (hF : F D = none) (hι : D ∉ ι.l) (hw : ι.w D = none) : Sim K mg ι (upd F D o) S H ∧ Ext ι F ι (upd F D o) := by
  refine ⟨⟨fun a u e => ?_, s.len, s.nd, fun a u e => ?_, fun n y e => ?_⟩, ⟨⟨⟨[], by simp⟩, rfl⟩, sub_upd hF⟩⟩
  · by_cases ha : a = D
    · subst ha; rw [upd_same] at e; cases e; exact hH
    · rw [upd_ne ha] at e; exact s.sub _ _ e
  · obtain ⟨h1, h2, h3⟩ := s.frm a u e
    have ha : a ≠ D := fun z => by subst z; rw [hw] at e; cases e
    exact ⟨h1, by rw [upd_ne ha]; exact h2, h3⟩
  · obtain ⟨a, u, h1, h2, h3⟩ := s.at_ n y e
    have hap : a ≠ D := fun z => by subst z; exact hι (List.mem_of_getElem? h1)
    refine ⟨a, u, h1, h2, h3.mono (sub_upd hF) ?_⟩
    cases y with
    | gone => exact .inl rfl
    | lst _ => right; rw [upd_ne hap]; exact h3.1
    | dic _ => right; rw [upd_ne hap]; exact h3.1
/-- a comprehension's loop -/
theorem comp_core {F1 : Hp} {ι1 : Plc} {S1 S2 : Store} {H1 : Hp} {xs done0 rest0 : List PV} {vs0 : List V} {J : It} {g : PV → Slots → Option Slots} {ts own : List Nat} {c : Slots → Store → Out Bool} {e : VS} {Qd : Hp → Prop}
    (wp : WalkP K mg F1 xs J) (hts : ∀ t ∈ ts, t ∈ own) (s0 : Sim K mg (ι1.on D vs0) F1 S1 H1) (hw : ι1.w D = none) (l0 : RepL K mg F1 done0 vs0) (hr : RepR K mg F1 ι1 ρ σ)
    (hc : compL (cTurn g c e (wipeS ρ own)) xs S1 = .ok rest0 S2) (hlen : (done0 ++ rest0).length ≤ line)
    (hd : ∀ ι F H vs, Ext ι1 F1 ι F → Sim K mg (ι.on D vs) F S2 H → RepL K mg F (done0 ++ rest0) vs → Qd H) :
    ∃ W : Nat → Nat → Hp → Prop, (∃ m, W 0 m H1) ∧ ∀ i m H, W i m H →
      (J.stop i H ∧ Qd H) ∨ (J.go i H ∧ ∃ Nx : Hp → Prop, (∀ H', Nx H' → ∃ m', m' < m ∧ W (i + 1) m' H') ∧ ∀ x H', J.yld i H x H' → rdG K mg g ts x (L2.wipe σ own) H' fun σ2 H2 => L2.wipe σ2 own = L2.wipe σ own ∧ rdT K mg c σ2 H2 fun b H3 =>
        if b = true then rdE K mg e σ2 H3 fun y H4 => ∃ acc, H4 D = some (.lst acc) ∧ acc.length < sizeLine ∧ Nx (upd H4 D (.lst (acc ++ [y]))) else Nx H3) := by
  refine ⟨fun i m H => m = xs.length - i ∧ i ≤ xs.length ∧ ∃ ι F S done rest vs, Ext ι1 F1 ι F ∧ Sim K mg (ι.on D vs) F S H ∧ RepL K mg F done vs ∧ compL (cTurn g c e (wipeS ρ own)) (xs.drop i) S = .ok rest S2 ∧ done ++ rest = done0 ++ rest0,
    ⟨xs.length, by simp, Nat.zero_le _, ι1, F1, S1, done0, rest0, vs0, Ext.refl, s0, l0, hc, rfl⟩, ?_⟩
  rintro i m H ⟨rfl, hi, ι, F, S, done, rest, vs, ex, sim, l, hcl, hdr⟩
  by_cases hlt : i < xs.length
  · have sb1 : Sub F1 H := ex.2.trans sim.sub
    refine .inr ⟨wp.goes i H hlt sb1, _, fun H' p' => ⟨xs.length - (i + 1), by omega, rfl, hlt, p'⟩, fun v H' y => ?_⟩
    obtain ⟨F3, x, e3, s3, hx, rx⟩ := wp.yields i H v H' hlt sb1 y _ _ _ ex.2 sim
    rw [List.drop_eq_getElem_cons hlt] at hcl
    have hx2 : xs[i] = x := by
      have := List.getElem?_eq_getElem hlt
      rw [hx] at this; cases this; rfl
    rw [hx2] at hcl
    obtain ⟨o, S3, zs, k1, k2, k3⟩ := compL_cons hcl
    unfold cTurn at k1
    split at k1
    · rename_i ρ1 hg
      obtain ⟨t, S4, hct, k1⟩ := bind_ok k1
      have r3 : RepR K mg F3 (ι.on D vs) (wipeS ρ own) (L2.wipe σ own) := ((((hr.wipe2 own).mono ex).reloc (ι' := ι.on D vs) rfl)).mono e3
      refine ⟨ι.on D vs, F3, S, wipeS ρ own, x, ρ1, s3, r3, rx, hg, fun ι4 F4 σ4 H4 e4 s4 r4 z4 => ⟨z4.wipe hts, ?_⟩⟩
      refine ⟨ι4, F4, S, ρ1, t, S4, s4, r4, hct, fun ι5 F5 H5 e5 s5 => ?_⟩
      obtain ⟨ι5', rfl, ex5⟩ := (e3.trans (e4.trans e5)).off
      cases t with
      | false =>
        simp only [Bool.false_eq_true, if_false] at k1 ⊢
        cases k1
        simp only at k3
        subst k3
        exact ⟨ι5', F5, S3, done, rest, vs, ex.trans ex5, s5, l.mono ex5.2, k2, hdr⟩
      | true =>
        simp only [if_true] at k1 ⊢
        obtain ⟨y, S5, hey, k1⟩ := bind_ok k1
        cases y with
        | l n => cases k1
        | v y =>
          cases k1
          simp only at k3
          subst k3
          refine ⟨ι5'.on D vs, F5, S4, ρ1, .v y, S3, s5, r4.mono e5, hey, fun ι6 F6 w H6 e6 s6 r6 => ?_⟩
          obtain ⟨ι6', rfl, ex6⟩ := e6.off
          have hw6 : ι6'.w D = none := by rw [ex6.1.2, ex5.1.2, ex.1.2]; exact hw
          refine ⟨vs, s6.at_on.1, ?_, ι6', F6, S3, done ++ [y], zs, vs ++ [w], ex.trans (ex5.trans ex6), s6.re_on hw6 _, (l.mono (ex5.trans ex6).2).app (RepL.one r6), k2, by rw [List.append_assoc]; exact hdr⟩
          have h1 := l.length
          have h2 := congrArg List.length hdr
          rw [List.length_append] at h2
          simp only [List.length_cons] at h2
          show vs.length < 16777216
          have h3 : (done0 ++ rest0).length ≤ 16777216 := hlen
          omega
    · cases k1
  · have hie : i = xs.length := by omega
    subst hie
    rw [List.drop_length] at hcl
    obtain ⟨rfl, rfl⟩ := compL_nil hcl
    rw [List.append_nil] at hdr
    subst hdr
    exact .inl ⟨wp.stops H (ex.2.trans sim.sub), hd ι F H vs ex sim l⟩
/-- the new list is handed on -/
theorem comp_end {m : Bool} {ys : List PV} {z : SV} {Q : VK} {F1 : Hp} {ι1 : Plc} (hm : mkL m ys S = .ok z S') (ex : Ext ι1 F1 ι F) (sim : Sim K mg (ι.on D vs) F S H) (hw : ι.w D = none) (l : RepL K mg F ys vs)
    (q : ∀ ι' F' v H', Ext ι1 F1 ι' F' → Sim K mg ι' F' S' H' → RepS K mg F' ι' z v → Q v H') : Q (.ref D) H := by
  obtain ⟨h1, h2, h3⟩ := sim.at_on
  have s := sim.off hw
  unfold mkL at hm
  split at hm
  · cases m with
    | true =>
      simp only [if_true] at hm
      cases hm
      obtain ⟨s1, e1⟩ := s.enter h1 h2 h3 hw l
      refine q _ _ _ _ (ex.trans e1) s1 ⟨D, ?_, rfl⟩
      show (ι.l ++ [D])[S.length]? = some D
      rw [← s.len]; simp
    | false =>
      simp only [Bool.false_eq_true, if_false] at hm
      cases hm
      obtain ⟨s1, e1⟩ := s.ice h1 h2 h3 hw
      exact q _ _ _ _ (ex.trans e1) s1 ⟨D, vs, rfl, .inl upd_same, l.mono e1.2⟩
  · cases hm
theorem lc_sound {m : Bool} {own ts : List Nat} {g : PV → Slots → Option Slots} {it : IS} {c : Slots → Store → Out Bool} {e : VS} {σ : L2.St} {H : Hp} {Q : VK} (hts : ∀ t ∈ ts, t ∈ own) (h : rdE K mg (sComp m own g it c e) σ H Q) :
    tLc (rdI K mg it) (rdG K mg g ts) (rdT K mg c) (rdE K mg e) own σ H Q := by
  obtain ⟨ι, F, S, ρ, z, S', sim, r, hf, q⟩ := h
  obtain ⟨xs, S1, h1, hf⟩ := bind_ok hf
  obtain ⟨ys, S2, h2, hf⟩ := bind_ok hf
  refine ⟨ι, F, S, ρ, xs, S1, sim, r, h1, fun ι1 F1 H1 J e1 s1 wp => ?_⟩
  intro D hD
  obtain ⟨s2, hw⟩ := s1.new_on hD
  have hlen : ([] ++ ys).length ≤ line := by
    unfold mkL at hf
    split at hf
    · rename_i hl; exact hl
    · cases hf
  exact comp_core wp hts s2 hw (show RepL K mg F1 [] [] from rfl) (r.mono e1) h2 hlen fun ι3 F3 H3 vs ex s3 l3 => comp_end hf (e1.trans ex) s3 (by rw [ex.1.2]; exact hw) l3 q
theorem compLL_nil {f : PV → Store → Out (List PV)} {S S' : Store} {ys : List PV} (h : compLL f [] S = .ok ys S') : ys = [] ∧ S' = S := by cases h; exact ⟨rfl, rfl⟩
theorem compLL_cons {f : PV → Store → Out (List PV)} {x : PV} {xs : List PV} {S S' : Store} {ys : List PV} (h : compLL f (x :: xs) S = .ok ys S') :
    ∃ o S1 zs, f x S = .ok o S1 ∧ compLL f xs S1 = .ok zs S' ∧ ys = o ++ zs := by
  obtain ⟨o, S1, h1, h⟩ := bind_ok h
  obtain ⟨zs, S2, h2, h⟩ := bind_ok h
  cases h
  exact ⟨o, S1, zs, h1, h2, rfl⟩
theorem lc2_sound {m : Bool} {own own2 ts ts2 : List Nat} {g g2 : PV → Slots → Option Slots} {it it2 : IS} {c c2 : Slots → Store → Out Bool} {e : VS} {σ : L2.St} {H : Hp} {Q : VK} (hts : ∀ t ∈ ts, t ∈ own) (hts2 : ∀ t ∈ ts2, t ∈ own2) (h : rdE K mg (sComp2 m own own2 g it c g2 it2 c2 e) σ H Q) :
    tLc2 (rdI K mg it) (rdG K mg g ts) (rdT K mg c) (rdI K mg it2) (rdG K mg g2 ts2) (rdT K mg c2) (rdE K mg e) own own2 σ H Q := by
  obtain ⟨ι, F, S, ρ, z, S', sim, r, hf, q⟩ := h
  obtain ⟨xs, S1, h1, hf⟩ := bind_ok hf
  obtain ⟨ys, S2, hc, hf⟩ := bind_ok hf
  refine ⟨ι, F, S, ρ, xs, S1, sim, r, h1, fun ι1 F1 H1 J e1 s1 wp => ?_⟩
  intro D hD
  obtain ⟨s2, hw⟩ := s1.new_on hD
  have hlen : ys.length ≤ line := by
    unfold mkL at hf
    split at hf
    · rename_i hl; exact hl
    · cases hf
  have hr := r.mono e1
  refine ⟨fun i m H => m = xs.length - i ∧ i ≤ xs.length ∧ ∃ ι F S done rest vs, Ext ι1 F1 ι F ∧ Sim K mg (ι.on D vs) F S H ∧ RepL K mg F done vs ∧ compLL (cTurn2 g c own2 g2 it2 c2 e (wipeS ρ own)) (xs.drop i) S = .ok rest S2 ∧ done ++ rest = ys,
    ⟨xs.length, by simp, Nat.zero_le _, ι1, F1, S1, [], ys, [], Ext.refl, s2, rfl, hc, rfl⟩, ?_⟩
  rintro i m H ⟨rfl, hi, ι, F, S, done, rest, vs, ex, sim, l, hcl, hdr⟩
  by_cases hlt : i < xs.length
  · have sb1 : Sub F1 H := ex.2.trans sim.sub
    refine .inr ⟨wp.goes i H hlt sb1, _, fun H' p' => ⟨xs.length - (i + 1), by omega, rfl, hlt, p'⟩, fun v H' y => ?_⟩
    obtain ⟨F3, x, e3, s3, hx, rx⟩ := wp.yields i H v H' hlt sb1 y _ _ _ ex.2 sim
    rw [List.drop_eq_getElem_cons hlt] at hcl
    have hx2 : xs[i] = x := by
      have := List.getElem?_eq_getElem hlt
      rw [hx] at this; cases this; rfl
    rw [hx2] at hcl
    obtain ⟨o, S3, zs, k1, k2, k3⟩ := compLL_cons hcl
    unfold cTurn2 at k1
    split at k1
    · rename_i ρ1 hg
      obtain ⟨t, S4, hct, k1⟩ := bind_ok k1
      have r3 : RepR K mg F3 (ι.on D vs) (wipeS ρ own) (L2.wipe σ own) := ((((hr.wipe2 own).mono ex).reloc (ι' := ι.on D vs) rfl)).mono e3
      refine ⟨ι.on D vs, F3, S, wipeS ρ own, x, ρ1, s3, r3, rx, hg, fun ι4 F4 σ4 H4 e4 s4 r4 z4 => ⟨z4.wipe hts, ?_⟩⟩
      refine ⟨ι4, F4, S, ρ1, t, S4, s4, r4, hct, fun ι5 F5 H5 e5 s5 => ?_⟩
      obtain ⟨ι5', rfl, ex5⟩ := (e3.trans (e4.trans e5)).off
      cases t with
      | false =>
        simp only [Bool.false_eq_true, if_false] at k1 ⊢
        cases k1
        rw [k3, List.nil_append] at hdr
        exact ⟨ι5', F5, S3, done, zs, vs, ex.trans ex5, s5, l.mono ex5.2, k2, hdr⟩
      | true =>
        simp only [if_true] at k1 ⊢
        obtain ⟨ws, S5, hit, k1⟩ := bind_ok k1
        subst k3
        refine ⟨ι5'.on D vs, F5, S4, ρ1, ws, S5, s5, r4.mono e5, hit, fun ι6 F6 H6 J2 e6 s6 wp2 => ?_⟩
        obtain ⟨ι6', rfl, ex6⟩ := e6.off
        have hw6 : ι6'.w D = none := by rw [ex6.1.2, ex5.1.2, ex.1.2]; exact hw
        have hlen2 : (done ++ o).length ≤ line := by
          have h2 := congrArg List.length hdr
          simp only [List.length_append] at h2 ⊢
          have : ys.length ≤ line := hlen
          omega
        exact comp_core wp2 hts2 s6 hw6 (l.mono (ex5.trans ex6).2) ((r4.mono (e5.trans e6)).reloc (ι' := ι6') rfl) k1 hlen2 fun ι7 F7 H7 vs7 ex7 s7 l7 =>
          ⟨ι7, F7, S3, done ++ o, zs, vs7, ex.trans (ex5.trans (ex6.trans ex7)), s7, l7, k2, by rw [List.append_assoc]; exact hdr⟩
    · cases k1
  · have hie : i = xs.length := by omega
    subst hie
    rw [List.drop_length] at hcl
    obtain ⟨rfl, rfl⟩ := compLL_nil hcl
    rw [List.append_nil] at hdr
    subst hdr
    exact .inl ⟨wp.stops H (ex.2.trans sim.sub), comp_end hf (e1.trans ex) sim (by rw [ex.1.2]; exact hw) l q⟩
end
end FW

/-! FW: statements. -/
namespace FW
open PySem PySem.Spec PyProof.Rows L2 RZ

section
variable {X : Cx} {e a b : Expr} {es : List Expr} {st : Stmt} {sts orelse : List Stmt} {pos pos' pos2 p : Pos} {f fa fb : VS} {ts : LS}
theorem s_nilB : PSs X [] (rdS X.K X.mg sNext) := pss_mono pss_nil fun D σ H h => by
  obtain ⟨ι, F, S, ρ, r, S', sim, rr, hf, q⟩ := h
  cases hf
  exact q _ _ _ Ext.refl sim _ rr
theorem s_consB {f g : Slots → Store → Out Flow} (h1 : PS X st (rdS X.K X.mg f)) (h2 : PSs X sts (rdS X.K X.mg g)) : PSs X (st :: sts) (rdS X.K X.mg (sSeq f g)) := pss_mono (pss_cons h1 h2) fun D σ H h => by
  obtain ⟨ι, F, S, ρ, r, S', sim, rr, hf, q⟩ := h
  obtain ⟨f1, S1, k1, hf⟩ := bind_ok hf
  refine ⟨ι, F, S, ρ, f1, S1, sim, rr, k1, fun ι1 F1 H1 e1 s1 => ?_⟩
  cases f1 with
  | next ρ1 => exact fun σ1 r1 => ⟨ι1, F1, S1, ρ1, r, S', s1, r1, hf, fun ι2 F2 H2 e2 s2 => q _ _ _ (e1.trans e2) s2⟩
  | ret x => cases hf; exact q _ _ _ e1 s1
  | brk ρ1 => cases hf; exact q _ _ _ e1 s1
  | cnt ρ1 => cases hf; exact q _ _ _ e1 s1
theorem s_freeze {i : Nat} {g : Slots → Store → Out Flow} (h : PSs X sts (rdS X.K X.mg g)) : PSs X sts (rdS X.K X.mg (sSeq (sFreeze i) g)) := pss_mono h fun D σ H h => by
  obtain ⟨ι, F, S, ρ, r, S', sim, rr, hf, q⟩ := h
  obtain ⟨f1, S1, k1, hf⟩ := bind_ok hf
  unfold sFreeze at k1
  split at k1
  · rename_i n hn
    split at k1
    · rename_i xs hS
      cases k1
      obtain ⟨v, h1, pp, h2, rfl⟩ := rr.get hn
      obtain ⟨ad, vs, k2, s2, e2, r2⟩ := sim.shut hS
      rw [h2] at k2; cases k2
      exact ⟨ι, _, _, _, r, S', s2, (rr.mono e2).setL (x := .v (.lst xs)) r2 h1, hf, fun ι3 F3 H3 e3 s3 => q _ _ _ (e2.trans e3) s3⟩
    · cases k1
  · cases k1
    exact ⟨ι, F, _, _, r, S', sim, rr, hf, q⟩
  · cases k1
    exact ⟨ι, F, _, _, r, S', sim, rr, hf, q⟩
theorem set_fin {K : PySem.W.Frag} {mg : PySem.Str → Option Value} {i : Nat} {D : Ends} {σ : L2.St} {H : Hp} (h : rdS K mg (sSet i f) D σ H) : rdE K mg f σ H fun x H1 => D.nx (σ.set i (some x)) H1 := by
  obtain ⟨ι, F, S, ρ, r, S', sim, rr, hf, q⟩ := h
  obtain ⟨x, S1, h1, hf⟩ := bind_ok hf
  cases hf
  exact ⟨ι, F, S, ρ, x, S', sim, rr, h1, fun ι1 F1 v H1 e1 s1 r1 => q ι1 F1 H1 e1 s1 _ ((rr.mono e1).set r1 i)⟩
theorem s_set {i : Nat} {x : PySem.Str} (hN : X.N.Nodup) (hi : X.N[i]? = some x) (hx : Loc X.env.scope x) (he : PE X e (rdE X.K X.mg f)) (hs : swapsWith e (some (.Name x pos')) pos.line X.env = pure false) (hf : X.fn x = true ∨ X.env.scope.names.lookup x = some .local) :
    PS X (.Assign [.Name x pos'] e pos) (rdS X.K X.mg (sSet i f)) :=
  ps_mono (ps_set hN hi hx he hs hf) fun D σ H h => set_fin h
section
variable {elt tg iter tg1 iter1 : Expr} {ifs ifs1 : List Expr} {scope : Scope} {own : List (PySem.Str × Nat)} {own2 ts1 ts2 : List Nat} {g g2 : PV → Slots → Option Slots} {it it2 : IS} {c c2 : Slots → Store → Out Bool} {m : Bool}
theorem s_comp (hc : X.calm = true) (hN : X.N.Nodup) (ok : BlkOk X.N X.env.scope scope own) (hts : ∀ t ∈ ts1, t ∈ own.map (·.2)) (hi : PI X tg iter (rdI X.K X.mg it))
    (hg : ∀ (s : Shared) (H : Hp) (C : Addr) (cl : List (PySem.Str × Addr)) (fp : List Addr), PG (X.blk s H scope (compEnvC scope cl C X.env) fp) tg (rdG X.K X.mg g ts1)) (ht : ∀ (s : Shared) (H : Hp) (C : Addr) (cl : List (PySem.Str × Addr)) (fp : List Addr), PTs (X.blk s H scope (compEnvC scope cl C X.env) fp) ifs (rdT X.K X.mg c))
    (he : ∀ (s : Shared) (H : Hp) (C : Addr) (cl : List (PySem.Str × Addr)) (fp : List Addr), PE (X.blk s H scope (compEnvC scope cl C X.env) fp) elt (rdE X.K X.mg f)) (hs : ∀ x, foldedSetIterable iter X.env x = pure x) :
    PE X (.ListComp elt [⟨tg, iter, ifs, 0⟩] scope pos) (rdE X.K X.mg (sComp m (own.map (·.2)) g it c f)) :=
  pe_mono (pe_lc hc hN hi ok hg ht he hs) fun σ H Q h => lc_sound hts h
theorem s_setComp {i : Nat} {y : PySem.Str} {py spos : Pos} (hc : X.calm = true) (hN : X.N.Nodup) (hy : X.N[i]? = some y) (hyl : X.env.scope.names.lookup y = some .local)
    (hsw : swapsWith (.ListComp elt [⟨tg, iter, ifs, 0⟩] scope pos) (some (.Name y py)) spos.line X.env = pure true) (ok : BlkOk X.N X.env.scope scope own) (hts : ∀ t ∈ ts1, t ∈ own.map (·.2)) (hi : PI X tg iter (rdI X.K X.mg it))
    (hg : ∀ (s : Shared) (H : Hp) (C : Addr) (cl : List (PySem.Str × Addr)) (fp : List Addr), PG (X.blk s H scope (compEnvC scope cl C X.env) fp) tg (rdG X.K X.mg g ts1)) (ht : ∀ (s : Shared) (H : Hp) (C : Addr) (cl : List (PySem.Str × Addr)) (fp : List Addr), PTs (X.blk s H scope (compEnvC scope cl C X.env) fp) ifs (rdT X.K X.mg c))
    (he : ∀ (s : Shared) (H : Hp) (C : Addr) (cl : List (PySem.Str × Addr)) (fp : List Addr), PE (X.blk s H scope (compEnvC scope cl C X.env) fp) elt (rdE X.K X.mg f)) (hs : ∀ x, foldedSetIterable iter X.env x = pure x) :
    PS X (.Assign [.Name y py] (.ListComp elt [⟨tg, iter, ifs, 0⟩] scope pos) spos) (rdS X.K X.mg (sSet i (sComp m (own.map (·.2)) g it c f))) :=
  ps_mono (ps_setLc hc hN hy hyl hsw hi ok hg ht he hs) fun D σ H h => lc_sound hts (set_fin h)
theorem s_comp2 (hc : X.calm = true) (hN : X.N.Nodup) (ok : BlkOk X.N X.env.scope scope own) (hv : ∀ i ∈ own2, i ∈ own.map (·.2)) (hts : ∀ t ∈ ts1, t ∈ own.map (·.2)) (hts2 : ∀ t ∈ ts2, t ∈ own2) (hi : PI X tg iter (rdI X.K X.mg it))
    (hg : ∀ (s : Shared) (H : Hp) (C : Addr) (cl : List (PySem.Str × Addr)) (fp : List Addr), PG (X.blk s H scope (compEnvC scope cl C X.env) fp) tg (rdG X.K X.mg g ts1)) (ht : ∀ (s : Shared) (H : Hp) (C : Addr) (cl : List (PySem.Str × Addr)) (fp : List Addr), PTs (X.blk s H scope (compEnvC scope cl C X.env) fp) ifs (rdT X.K X.mg c))
    (hi1 : ∀ (s : Shared) (H : Hp) (C : Addr) (cl : List (PySem.Str × Addr)) (fp : List Addr), PI (X.blk s H scope (compEnvC scope cl C X.env) fp) tg1 iter1 (rdI X.K X.mg it2))
    (hg1 : ∀ (s : Shared) (H : Hp) (C : Addr) (cl : List (PySem.Str × Addr)) (fp : List Addr), PG (X.blk s H scope (compEnvC scope cl C X.env) fp) tg1 (rdG X.K X.mg g2 ts2)) (ht1 : ∀ (s : Shared) (H : Hp) (C : Addr) (cl : List (PySem.Str × Addr)) (fp : List Addr), PTs (X.blk s H scope (compEnvC scope cl C X.env) fp) ifs1 (rdT X.K X.mg c2))
    (he : ∀ (s : Shared) (H : Hp) (C : Addr) (cl : List (PySem.Str × Addr)) (fp : List Addr), PE (X.blk s H scope (compEnvC scope cl C X.env) fp) elt (rdE X.K X.mg f)) (hs : ∀ x, foldedSetIterable iter X.env x = pure x) (hs1 : ∀ env x, foldedSetIterable iter1 env x = pure x) :
    PE X (.ListComp elt [⟨tg, iter, ifs, 0⟩, ⟨tg1, iter1, ifs1, 0⟩] scope pos) (rdE X.K X.mg (sComp2 m (own.map (·.2)) own2 g it c g2 it2 c2 f)) :=
  pe_mono (pe_lc2 hc hN hi ok hv hg ht hi1 hg1 ht1 he hs hs1) fun σ H Q h => lc2_sound hts hts2 h
theorem s_setComp2 {i : Nat} {y : PySem.Str} {py spos : Pos} (hc : X.calm = true) (hN : X.N.Nodup) (hy : X.N[i]? = some y) (hyl : X.env.scope.names.lookup y = some .local)
    (hsw : swapsWith (.ListComp elt [⟨tg, iter, ifs, 0⟩, ⟨tg1, iter1, ifs1, 0⟩] scope pos) (some (.Name y py)) spos.line X.env = pure true) (ok : BlkOk X.N X.env.scope scope own) (hv : ∀ i ∈ own2, i ∈ own.map (·.2)) (hts : ∀ t ∈ ts1, t ∈ own.map (·.2)) (hts2 : ∀ t ∈ ts2, t ∈ own2) (hi : PI X tg iter (rdI X.K X.mg it))
    (hg : ∀ (s : Shared) (H : Hp) (C : Addr) (cl : List (PySem.Str × Addr)) (fp : List Addr), PG (X.blk s H scope (compEnvC scope cl C X.env) fp) tg (rdG X.K X.mg g ts1)) (ht : ∀ (s : Shared) (H : Hp) (C : Addr) (cl : List (PySem.Str × Addr)) (fp : List Addr), PTs (X.blk s H scope (compEnvC scope cl C X.env) fp) ifs (rdT X.K X.mg c))
    (hi1 : ∀ (s : Shared) (H : Hp) (C : Addr) (cl : List (PySem.Str × Addr)) (fp : List Addr), PI (X.blk s H scope (compEnvC scope cl C X.env) fp) tg1 iter1 (rdI X.K X.mg it2))
    (hg1 : ∀ (s : Shared) (H : Hp) (C : Addr) (cl : List (PySem.Str × Addr)) (fp : List Addr), PG (X.blk s H scope (compEnvC scope cl C X.env) fp) tg1 (rdG X.K X.mg g2 ts2)) (ht1 : ∀ (s : Shared) (H : Hp) (C : Addr) (cl : List (PySem.Str × Addr)) (fp : List Addr), PTs (X.blk s H scope (compEnvC scope cl C X.env) fp) ifs1 (rdT X.K X.mg c2))
    (he : ∀ (s : Shared) (H : Hp) (C : Addr) (cl : List (PySem.Str × Addr)) (fp : List Addr), PE (X.blk s H scope (compEnvC scope cl C X.env) fp) elt (rdE X.K X.mg f)) (hs : ∀ x, foldedSetIterable iter X.env x = pure x) (hs1 : ∀ env x, foldedSetIterable iter1 env x = pure x) :
    PS X (.Assign [.Name y py] (.ListComp elt [⟨tg, iter, ifs, 0⟩, ⟨tg1, iter1, ifs1, 0⟩] scope pos) spos) (rdS X.K X.mg (sSet i (sComp2 m (own.map (·.2)) own2 g it c g2 it2 c2 f))) :=
  ps_mono (ps_setLc2 hc hN hy hyl hsw hi ok hv hg ht hi1 hg1 ht1 he hs hs1) fun D σ H h => lc2_sound hts hts2 (set_fin h)
end
theorem s_unpack {tg : Expr} {g : PV → Slots → Option Slots} {ts1 : List Nat} (he : PE X e (rdE X.K X.mg f)) (hg : PG X tg (rdG X.K X.mg g ts1)) (hs : swapsWithSole [tg] e pos.line X.env = pure false) (hw : swappedStores [tg] e X.env = pure none) (h1 : noStar tg = true) :
    PS X (.Assign [tg] e pos) (rdS X.K X.mg (sUnpack g f)) :=
  ps_mono (ps_asg he hg hs hw (by rw [assign_one h1]; rfl)) fun D σ H h => by
    obtain ⟨ι, F, S, ρ, r, S', sim, rr, hf, q⟩ := h
    obtain ⟨x, S1, h1, hf⟩ := bind_ok hf
    cases x with
    | l n => cases hf
    | v x =>
      simp only at hf
      split at hf
      · rename_i ρ1 hg
        cases hf
        refine ⟨ι, F, S, ρ, .v x, S', sim, rr, h1, fun ι1 F1 v H1 e1 s1 r1 => ?_⟩
        exact ⟨ι1, F1, S', ρ, x, ρ1, s1, rr.mono e1, r1, hg, fun ι2 F2 σ2 H2 e2 s2 r2 _ => q _ _ _ (e1.trans e2) s2 _ r2⟩
      · cases hf
theorem set2 {i j : Nat} {xs : List SV} {ρ ρ1 : Slots} (h : setAll [i, j] xs ρ = some ρ1) : ∃ x y, xs = [x, y] ∧ ρ1 = (ρ.set i (some x)).set j (some y) := by
  match xs, h with
  | [x, y], h => simp only [setAll, Option.some.injEq] at h; exact ⟨x, y, rfl, h.symm⟩
theorem set3 {i j k : Nat} {xs : List SV} {ρ ρ1 : Slots} (h : setAll [i, j, k] xs ρ = some ρ1) : ∃ x y z, xs = [x, y, z] ∧ ρ1 = ((ρ.set i (some x)).set j (some y)).set k (some z) := by
  match xs, h with
  | [x, y, z], h => simp only [setAll, Option.some.injEq] at h; exact ⟨x, y, z, rfl, h.symm⟩
theorem s_par {i j : Nat} {x y : PySem.Str} {px py pt : Pos} {kt : Nat} {k2 : Nat} {pt2 : Pos} (hc : X.calm = true) (hN : X.N.Nodup) (hi : X.N[i]? = some x) (hj : X.N[j]? = some y) (hij : i ≠ j)
    (hx : X.env.scope.names.lookup x = some .local) (hy : X.env.scope.names.lookup y = some .local) (ha : PA X [a, b] (rdA X.K X.mg ts))
    (hw : swappedStores [.Tuple [.Name x px, .Name y py] kt pt] (.Tuple [a, b] k2 pt2) X.env = pure (some [x, y])) :
    PS X (.Assign [.Tuple [.Name x px, .Name y py] kt pt] (.Tuple [a, b] k2 pt2) pos) (rdS X.K X.mg (sPar [i, j] ts)) :=
  ps_mono (ps_par hc hN hi hj hij hx hy ha hw) fun D σ H h => by
    obtain ⟨ι, F, S, ρ, r, S', sim, rr, hf, q⟩ := h
    obtain ⟨xs, S1, h1, hf⟩ := bind_ok hf
    split at hf
    · rename_i ρ1 hs
      cases hf
      obtain ⟨x, y, rfl, rfl⟩ := set2 hs
      refine ⟨ι, F, S, ρ, _, S', sim, rr, h1, fun ι1 F1 vs H1 e1 s1 r1 => ?_⟩
      obtain ⟨v, w, rfl, g1, g2⟩ := vs_two r1
      exact ⟨v, w, rfl, q _ _ _ e1 s1 _ (((rr.mono e1).set g1 i).set g2 j)⟩
    · cases hf
theorem s_par3 {c : Expr} {i j l : Nat} {x y z : PySem.Str} {px py pz pt : Pos} {kt : Nat} {k2 : Nat} {pt2 : Pos} (hc : X.calm = true) (hN : X.N.Nodup) (hi : X.N[i]? = some x) (hj : X.N[j]? = some y) (hl : X.N[l]? = some z) (hij : i ≠ j) (hil : i ≠ l) (hjl : j ≠ l)
    (hx : X.env.scope.names.lookup x = some .local) (hy : X.env.scope.names.lookup y = some .local) (hz : X.env.scope.names.lookup z = some .local) (ha : PA X [a, b, c] (rdA X.K X.mg ts))
    (hw : swappedStores [.Tuple [.Name x px, .Name y py, .Name z pz] kt pt] (.Tuple [a, b, c] k2 pt2) X.env = pure (some [x, y, z])) :
    PS X (.Assign [.Tuple [.Name x px, .Name y py, .Name z pz] kt pt] (.Tuple [a, b, c] k2 pt2) pos) (rdS X.K X.mg (sPar [i, j, l] ts)) :=
  ps_mono (ps_par3 hc hN hi hj hl hij hil hjl hx hy hz ha hw) fun D σ H h => by
    obtain ⟨ι, F, S, ρ, r, S', sim, rr, hf, q⟩ := h
    obtain ⟨xs, S1, h1, hf⟩ := bind_ok hf
    split at hf
    · rename_i ρ1 hs
      cases hf
      obtain ⟨x, y, z, rfl, rfl⟩ := set3 hs
      refine ⟨ι, F, S, ρ, _, S', sim, rr, h1, fun ι1 F1 vs H1 e1 s1 r1 => ?_⟩
      obtain ⟨v, r', rfl, g1, r1⟩ := r1
      obtain ⟨w, u, rfl, g2, g3⟩ := vs_two r1
      exact ⟨v, w, u, rfl, q _ _ _ e1 s1 _ ((((rr.mono e1).set g1 i).set g2 j).set g3 l)⟩
    · cases hf
theorem s_expr (he : PE X e (rdE X.K X.mg f)) (hs : swapsWith e none pos.line X.env = pure false) : PS X (.Expr e pos) (rdS X.K X.mg (sExpr f)) := ps_mono (ps_expr he hs) fun D σ H h => by
  obtain ⟨ι, F, S, ρ, r, S', sim, rr, hf, q⟩ := h
  obtain ⟨x, S1, h1, hf⟩ := bind_ok hf
  cases hf
  exact ⟨ι, F, S, ρ, x, S', sim, rr, h1, fun ι1 F1 v H1 e1 s1 r1 => q _ _ _ e1 s1 _ (rr.mono e1)⟩
/-- a docstring -/
theorem s_doc {x : PySem.Str} {j : Nat} {g : Slots → Store → Out Flow} (h : PSs X sts (rdS X.K X.mg g)) : PSs X (.Expr (.Constant (.str x) j pos) pos' :: sts) (rdS X.K X.mg g) := pss_mono (pss_cons ps_doc h) fun D σ H h => h
theorem s_pass {g : Slots → Store → Out Flow} (h : PSs X sts (rdS X.K X.mg g)) : PSs X (.Pass pos :: sts) (rdS X.K X.mg g) := pss_mono (pss_cons ps_pass h) fun D σ H h => h
theorem s_if {c : Slots → Store → Out Bool} {g h : Slots → Store → Out Flow} (hc : PT X e (rdT X.K X.mg c)) (ha : PSs X sts (rdS X.K X.mg g)) (hb : PSs X orelse (rdS X.K X.mg h)) : PS X (.If e sts orelse pos) (rdS X.K X.mg (sIfs c g h)) := ps_mono (ps_if hc ha hb) fun D σ H h => by
  obtain ⟨ι, F, S, ρ, r, S', sim, rr, hf, q⟩ := h
  obtain ⟨t, S1, h1, hf⟩ := bind_ok hf
  refine ⟨ι, F, S, ρ, t, S1, sim, rr, h1, fun ι1 F1 H1 e1 s1 => ?_⟩
  cases t with
  | true => exact ⟨ι1, F1, S1, ρ, r, S', s1, rr.mono e1, hf, fun ι2 F2 H2 e2 s2 => q _ _ _ (e1.trans e2) s2⟩
  | false => exact ⟨ι1, F1, S1, ρ, r, S', s1, rr.mono e1, hf, fun ι2 F2 H2 e2 s2 => q _ _ _ (e1.trans e2) s2⟩
theorem s_ret (he : PE X e (rdE X.K X.mg f)) : PS X (.Return (some e) pos) (rdS X.K X.mg (sRet f)) := ps_mono (ps_ret he) fun D σ H h => by
  obtain ⟨ι, F, S, ρ, r, S', sim, rr, hf, q⟩ := h
  obtain ⟨x, S1, h1, hf⟩ := bind_ok hf
  cases hf
  exact ⟨ι, F, S, ρ, x, S', sim, rr, h1, fun ι1 F1 v H1 e1 s1 r1 => q _ _ _ e1 s1 _ r1⟩
theorem s_retN : PS X (.Return none pos) (rdS X.K X.mg sRetN) := ps_mono ps_retN fun D σ H h => by
  obtain ⟨ι, F, S, ρ, r, S', sim, rr, hf, q⟩ := h
  cases hf
  exact q _ _ _ Ext.refl sim _ rfl
theorem s_brk : PS X (.Break pos) (rdS X.K X.mg sBrk) := ps_mono ps_break fun D σ H h => by
  obtain ⟨ι, F, S, ρ, r, S', sim, rr, hf, q⟩ := h
  cases hf
  exact q _ _ _ Ext.refl sim _ rr
theorem s_cnt : PS X (.Continue pos) (rdS X.K X.mg sCnt) := ps_mono ps_continue fun D σ H h => by
  obtain ⟨ι, F, S, ρ, r, S', sim, rr, hf, q⟩ := h
  cases hf
  exact q _ _ _ Ext.refl sim _ rr
/-! ### loops -/
theorem s_for {tg iter : Expr} {g : PV → Slots → Option Slots} {ts1 : List Nat} {it : IS} {f : Slots → Store → Out Flow} {w : List Nat} (hp : PassesOwn (model X.prog X.w) X.A X.env X.xe) (hc : X.calm = true) (hi : PI X tg iter (rdI X.K X.mg it)) (hg : PG X tg (rdG X.K X.mg g ts1)) (hb : PSs X sts (rdS X.K X.mg f)) (hs : ∀ x, foldedSetIterable iter X.env x = pure x) :
    PS X (.For tg iter sts [] pos) (rdS X.K X.mg (sFor g it f w)) := ps_mono (ps_for hp hc hi hg hb hs) fun D σ H h => by
  obtain ⟨ι, F, S, ρ, r, S', sim, rr, hf, q⟩ := h
  obtain ⟨xs, S1, h1, hf⟩ := bind_ok hf
  refine ⟨ι, F, S, ρ, xs, S1, sim, rr, h1, fun ι1 F1 H1 J e1 s1 wp => ?_⟩
  refine ⟨fun i m σ H => m = xs.length - i ∧ i ≤ xs.length ∧ ∃ ι2 F2 S2 ρ2, Ext ι1 F1 ι2 F2 ∧ Sim X.K X.mg ι2 F2 S2 H ∧ RepR X.K X.mg F2 ι2 ρ2 σ ∧ forL (sTurn g f) w (xs.drop i) ρ2 S2 = .ok r S',
    ⟨xs.length, by simp, Nat.zero_le _, ι1, F1, S1, _, Ext.refl, s1, (rr.mono e1).wipe w, hf⟩, ?_⟩
  rintro i m σ2 H2 ⟨rfl, hi, ι2, F2, S2, ρ2, ex, s2, r2, hl⟩
  by_cases hlt : i < xs.length
  · have sb1 : Sub F1 H2 := ex.2.trans s2.sub
    refine .inr ⟨wp.goes i H2 hlt sb1, _, fun σ' H' p' => ⟨xs.length - (i + 1), by omega, rfl, hlt, p'⟩, fun v H' y => ?_⟩
    obtain ⟨F3, x, e3, s3, hx, rx⟩ := wp.yields i H2 v H' hlt sb1 y _ _ _ ex.2 s2
    rw [List.drop_eq_getElem_cons hlt] at hl
    have hx2 : xs[i] = x := by
      have := List.getElem?_eq_getElem hlt
      rw [hx] at this; cases this; rfl
    rw [hx2] at hl
    obtain ⟨f1, S3, k1, k2⟩ := bind_ok hl
    unfold sTurn at k1
    split at k1
    · rename_i ρ3 hgx
      refine ⟨ι2, F3, S2, ρ2, x, ρ3, s3, r2.mono e3, rx, hgx, fun ι4 F4 σ4 H4 e4 s4 r4 _ => ?_⟩
      refine ⟨ι4, F4, S2, ρ3, f1, S3, s4, r4, k1, fun ι5 F5 H5 e5 s5 => ?_⟩
      have ex5 := ex.trans (e3.trans (e4.trans e5))
      cases f1 with
      | next ρ4 => exact fun σ5 r5 => ⟨ι5, F5, S3, _, ex5, s5, r5.wipe w, k2⟩
      | cnt ρ4 => exact fun σ5 r5 => ⟨ι5, F5, S3, _, ex5, s5, r5.wipe w, k2⟩
      | brk ρ4 => cases k2; exact fun σ5 r5 => q _ _ _ (e1.trans ex5) s5 _ r5
      | ret z => cases k2; exact fun v5 r5 => q _ _ _ (e1.trans ex5) s5 _ r5
    · cases k1
  · have hie : i = xs.length := by omega
    subst hie
    rw [List.drop_length] at hl
    cases hl
    exact .inl ⟨wp.stops H2 (ex.2.trans s2.sub), q _ _ _ (e1.trans ex) s2 _ r2⟩
theorem s_while {c : Slots → Store → Out Bool} {f : Slots → Store → Out Flow} {w : List Nat} (hp : PassesOwn (model X.prog X.w) X.A X.env X.xe) (hc : PT X e (rdT X.K X.mg c)) (hb : PSs X sts (rdS X.K X.mg f)) :
    PS X (.While e sts [] pos) (rdS X.K X.mg (sWhile c f w)) := ps_mono (ps_while hp hc hb) fun D σ H h => by
  obtain ⟨ι, F, S, ρ, r, S', sim, rr, hf, q⟩ := h
  unfold sWhile at hf
  generalize fuel = n at hf
  refine ⟨fun m σ H => ∃ ι2 F2 S2 ρ2, Ext ι F ι2 F2 ∧ Sim X.K X.mg ι2 F2 S2 H ∧ RepR X.K X.mg F2 ι2 ρ2 σ ∧ whileL c f w m ρ2 S2 = .ok r S', ⟨n, ι, F, S, _, Ext.refl, sim, rr.wipe w, hf⟩, ?_⟩
  rintro m σ2 H2 ⟨ι2, F2, S2, ρ2, ex, s2, r2, hl⟩
  cases m with
  | zero => cases hl
  | succ m =>
    obtain ⟨t, S3, k1, k2⟩ := bind_ok hl
    refine ⟨ι2, F2, S2, ρ2, t, S3, s2, r2, k1, fun ι3 F3 H3 e3 s3 => ?_⟩
    cases t with
    | false =>
      simp only [Bool.false_eq_true, if_false] at k2 ⊢
      cases k2
      exact q _ _ _ (ex.trans e3) s3 _ (r2.mono e3)
    | true =>
      simp only [if_true] at k2 ⊢
      obtain ⟨f1, S4, k3, k4⟩ := bind_ok k2
      refine ⟨fun σ' H' => ∃ ι2 F2 S2 ρ2, Ext ι F ι2 F2 ∧ Sim X.K X.mg ι2 F2 S2 H' ∧ RepR X.K X.mg F2 ι2 ρ2 σ' ∧ whileL c f w m ρ2 S2 = .ok r S', fun σ' H' z => ⟨m, Nat.lt_succ_self m, z⟩, ?_⟩
      refine ⟨ι3, F3, S3, ρ2, f1, S4, s3, r2.mono e3, k3, fun ι5 F5 H5 e5 s5 => ?_⟩
      have ex5 := ex.trans (e3.trans e5)
      cases f1 with
      | next ρ4 => exact fun σ5 r5 => ⟨ι5, F5, S4, _, ex5, s5, r5.wipe w, k4⟩
      | cnt ρ4 => exact fun σ5 r5 => ⟨ι5, F5, S4, _, ex5, s5, r5.wipe w, k4⟩
      | brk ρ4 => cases k4; exact fun σ5 r5 => q _ _ _ ex5 s5 _ r5
      | ret z => cases k4; exact fun v5 r5 => q _ _ _ ex5 s5 _ r5
end
end FW

/-! FW: statements that write. -/
namespace FW
open PySem PySem.Spec PyProof.Rows L2 RZ
section
variable {K : PySem.W.Frag} {mg : PySem.Str → Option Value} {F F' H H' : Hp} {ι ι' : Plc} {S S' : Store}
/-- a place's list -/
theorem Sim.lstAt (s : Sim K mg ι F S H) {n : Nat} {xs : List PV} {v : V} (r : RepS K mg F ι (.l n) v) (h : S[n]? = some (.lst xs)) : ∃ p vs, v = .ref p ∧ ι.l[n]? = some p ∧ F p = none ∧ H p = some (.lst vs) ∧ RepL K mg F xs vs := by
  obtain ⟨p, hp, rfl⟩ := r
  obtain ⟨a, o, h1, h2, h3, vs, e2, h4⟩ := s.at_ n _ h
  rw [hp] at h1; cases h1
  subst e2
  exact ⟨p, vs, rfl, hp, h3, h2, h4⟩
theorem RepD.put {k : L2.Key} {x : PV} {v : V} (q : Rep K mg F x v) : ∀ {kvs : List (PV × PV)} {ws : List (L2.Key × V)}, RepD K mg F kvs ws → RepD K mg F (keyPut (keyP k) x kvs) (putK ws k v) := by
  have any_eq : ∀ {kvs : List (PV × PV)} {ws : List (L2.Key × V)}, RepD K mg F kvs ws → (kvs.any fun kv => keyEq kv.1 (keyP k)) = (ws.any fun kv => decide (kv.1 = k)) := by
    intro kvs
    induction kvs with
    | nil => intro ws r; cases r; rfl
    | cons p r ih =>
      obtain ⟨k1, x1⟩ := p
      rintro _ ⟨k', v', t, rfl, rfl, a, b⟩
      simp only [List.any_cons, keyP_inj, ih b]
  have map_ok : ∀ {kvs : List (PV × PV)} {ws : List (L2.Key × V)}, RepD K mg F kvs ws → RepD K mg F (kvs.map (fun kv => if keyEq kv.1 (keyP k) = true then (kv.1, x) else kv)) (ws.map (fun kv => if kv.1 = k then (kv.1, v) else kv)) := by
    intro kvs
    induction kvs with
    | nil => intro ws r; cases r; rfl
    | cons p r ih =>
      obtain ⟨k1, x1⟩ := p
      rintro _ ⟨k', v', t, rfl, rfl, a, b⟩
      simp only [List.map_cons, keyP_inj, decide_eq_true_eq]
      by_cases h : k' = k
      · rw [if_pos h, if_pos h]
        exact ⟨k', v, _, rfl, rfl, q, ih b⟩
      · rw [if_neg h, if_neg h]
        exact ⟨k', v', _, rfl, rfl, a, ih b⟩
  have app_ok : ∀ {kvs : List (PV × PV)} {ws : List (L2.Key × V)}, RepD K mg F kvs ws → RepD K mg F (kvs ++ [(keyP k, x)]) (ws ++ [(k, v)]) := by
    intro kvs
    induction kvs with
    | nil => intro ws r; cases r; exact ⟨k, v, [], rfl, rfl, q, rfl⟩
    | cons p r ih =>
      obtain ⟨k1, x1⟩ := p
      rintro _ ⟨k', v', t, rfl, rfl, a, b⟩
      exact ⟨k', v', _, rfl, rfl, a, ih b⟩
  intro kvs ws r
  unfold keyPut putK
  rw [any_eq r]
  split
  · exact map_ok r
  · exact app_ok r
end
section
variable {X : Cx} {e a b : Expr} {es : List Expr} {pos pos' pos2 p apos cpos : Pos} {f fa fb : VS} {i : Nat} {x : PySem.Str}
theorem s_app (hi : X.N[i]? = some x) (hv : Vis X.env.scope x) (hd : (x == ("__debug__" : PySem.Str)) = false) (hcd : (x == ("__classdict__" : PySem.Str)) = false) (he : PE X e (rdE X.K X.mg f)) (hs : noStar e = true) (hline : (apos.endLine == cpos.line) = true) :
    PS X (.Expr (.Call (.Attribute (.Name x p) "append" apos) [e] [] cpos) pos) (rdS X.K X.mg (sApp i f)) := by
  refine ps_mono (ps_expr (pe_bm F.plainAttrs_list F.slot_list_append F.type_list_append mt_append (pe_var hi hv hd hcd) (pa_cons he pa_nil (star_one hs _ _)) rfl (by rw [star_one hs]; rfl) hline (star_one hs _ _) rfl) rfl) fun D σ H h => ?_
  obtain ⟨ι, F, S, ρ, r, S', sim, rr, hf, q⟩ := h
  unfold sApp at hf
  split at hf
  · rename_i n hn
    split at hf
    case isFalse => cases hf
    rename_i hL
    obtain ⟨y, S1, h1, hf⟩ := bind_ok hf
    split at hf
    · rename_i y xs hS
      split at hf
      · rename_i hl
        cases hf
        obtain ⟨v, g1, g2⟩ := rr.get hn
        refine ⟨v, g1, ?_⟩
        have hv0 : tyV X.K "list" v H := by
          unfold isLst at hL
          split at hL
          · rename_i zs hz
            obtain ⟨pp, vs, rfl, _, _, hH, _⟩ := sim.lstAt g2 hz
            exact .inl ⟨rfl, vs, .inl (.inl hH)⟩
          · cases hL
        refine ⟨hv0, ι, F, S, ρ, .v y, S1, sim, rr, h1, fun ι1 F1 w H1 e1 s1 r1 => ?_⟩
        obtain ⟨pp, vs, rfl, hp, hF, hH, l⟩ := s1.lstAt (g2.mono e1) hS
        refine ⟨pp, vs, w, rfl, rfl, hH, by rw [← l.length]; exact hl, ?_⟩
        exact q _ _ _ e1 (s1.write hp hF ⟨hF, vs ++ [w], rfl, l.app (RepL.one r1)⟩) _ (rr.mono e1)
      · cases hf
    · cases hf
  · cases hf
theorem set_or {t t' : TSet} (h : PSet X t) (h' : PSet X t') : PSet X (fun o i v H Q => t o i v H Q ∨ t' o i v H Q) := fun pins s σ H o i v ov iv u Q I r1 r2 r3 g => g.elim (h pins s σ H o i v ov iv u Q I r1 r2 r3) (h' pins s σ H o i v ov iv u Q I r1 r2 r3)
theorem put_ok {K : PySem.W.Frag} {mg : PySem.Str → Option Value} {F : Hp} {ι : Plc} {S S' : Store} {o y x : SV} {vo vy vx : V} {H : Hp} {Q : Hp → Prop} (sim : Sim K mg ι F S H) (ro : RepS K mg F ι o vo) (ry : RepS K mg F ι y vy) (rx : RepS K mg F ι x vx) (h : putOp o y x S = some S')
    (q : ∀ H', Sim K mg ι F S' H' → Q H') : rSetL vo vy vx H Q ∨ rSetD vo vy vx H Q := by
  unfold putOp at h
  split at h
  · rename_i n x y
    split at h
    · rename_i xs hS
      split at h
      · rename_i j
        split at h
        · rename_i k hk
          cases h
          cases ry
          obtain ⟨p, vs, rfl, hp, hF, hH, l⟩ := sim.lstAt ro hS
          refine .inl ⟨p, vs, j, k, rfl, rfl, hH, ?_, q _ (sim.write hp hF ⟨hF, _, rfl, l.set rx k⟩)⟩
          rw [← l.length]
          unfold ix? at hk
          unfold ixN
          by_cases h0 : 0 ≤ j
          · rw [if_pos h0] at hk ⊢
            split at hk
            · rename_i hl; cases hk; rw [if_pos hl]
            · cases hk
          · rw [if_neg h0] at hk ⊢
            split at hk
            · rename_i hl; cases hk; rw [if_pos (by omega)]
            · cases hk
        · cases h
      · cases h
    · rename_i kvs hS
      split at h
      · rename_i hk
        cases h
        obtain ⟨k', rfl⟩ := key_of? hk.1
        obtain ⟨n', p, ws, e0, hι, _, rfl, hF, hH, rd⟩ := sim.dic (x := .l n) (kvs := kvs) ro (by simp only [dicOf, hS])
        cases e0
        have := keyP_rep ry
        subst this
        refine .inr ⟨p, _, rfl, DPut.k hH (by rw [← rd.length]; exact hk.2), q _ (sim.write hι hF ⟨hF, _, rfl, rd.put rx⟩)⟩
      · cases h
    · cases h
  · cases h
theorem sw_sub {o j : Expr} {e : Expr} {l : Nat} {env : Env} {p : Pos} : swapsWith e (some (.Subscript o j p)) l env = pure false := by
  cases e <;> rfl
theorem sws_sub {o j : Expr} {e : Expr} {l : Nat} {env : Env} {p : Pos} : swapsWithSole [.Subscript o j p] e l env = pure false := sw_sub (o := o) (j := j) (p := p) (l := l) (env := env)
theorem sst_sub {o j : Expr} {e : Expr} {env : Env} {p : Pos} : swappedStores [.Subscript o j p] e env = pure none := by
  cases e <;> rfl
theorem assign_sub {o j : Expr} {env : Env} {p : Pos} (h : plainIx j = true) : ∀ v, assign (.Subscript o j p) env v = (do
      let ov ← holding [v] (eval o env)
      let iv ← holding [v, ov] (eval j env)
      standAt p
      holding [v, ov, iv] (setItem ov iv v)
      release [v, ov, iv] []) := by
  intro v
  cases j <;> first | rfl | simp [plainIx] at h
theorem s_sub (hu : X.A.units + 1 < cLine) (hi : X.N[i]? = some x) (hv : Vis X.env.scope x) (hd : (x == ("__debug__" : PySem.Str)) = false) (hcd : (x == ("__classdict__" : PySem.Str)) = false) (ha : PE X a (rdE X.K X.mg fa)) (hp : plainIx a = true) (he : PE X e (rdE X.K X.mg f)) :
    PS X (.Assign [.Subscript (.Name x p) a pos'] e pos) (rdS X.K X.mg (sSub i fa f)) := by
  refine ps_mono (ps_asg he (pg_sub (pe_var hi hv hd hcd) ha (set_or set_list (set_dict hu)) (assign_sub hp)) sws_sub sst_sub) fun D σ H h => ?_
  obtain ⟨ι, F, S, ρ, r, S', sim, rr, hf, q⟩ := h
  obtain ⟨y, S1, h1, hf⟩ := bind_ok hf
  obtain ⟨z, S2, h2, hf⟩ := bind_ok hf
  split at hf
  · rename_i o ho
    split at hf
    · rename_i S3 hp
      cases hf
      obtain ⟨v, g1, g2⟩ := rr.get ho
      refine ⟨ι, F, S, ρ, y, S1, sim, rr, h1, fun ι1 F1 w H1 e1 s1 r1 => ?_⟩
      refine ⟨v, g1, ι1, F1, S1, ρ, z, S2, s1, rr.mono e1, h2, fun ι2 F2 u H2 e2 s2 r2 => ?_⟩
      exact put_ok s2 (g2.mono (e1.trans e2)) r2 (r1.mono e2) hp fun H' s3 => q _ _ _ (e1.trans e2) s3 _ (rr.mono (e1.trans e2))
    · cases hf
  · cases hf
theorem s_aug_add (hN : X.N.Nodup) (hi : X.N[i]? = some x) (hx : Loc X.env.scope x) (he : PE X e (rdE X.K X.mg f)) (hf : X.fn x = true ∨ X.env.scope.names.lookup x = some .local) :
    PS X (.AugAssign (.Name x pos') .Add e pos) (rdS X.K X.mg (sAug i .add f)) := by
  refine ps_mono (ps_aug hN hi hx he ip_add hf) fun D σ H h => ?_
  obtain ⟨ι, F, S, ρ, r, S', sim, rr, hf, q⟩ := h
  unfold sAug at hf
  split at hf
  · rename_i y hy
    obtain ⟨z, S1, h1, hf⟩ := bind_ok hf
    unfold augOp at hf
    split at hf
    · rename_i w hw
      split at hw
      · cases hw; cases hf
        obtain ⟨v, g1, g2⟩ := rr.get hy
        cases g2
        refine ⟨_, g1, ι, F, S, ρ, _, S', sim, rr, h1, fun ι1 F1 w H1 e1 s1 r1 => ?_⟩
        cases r1
        exact ⟨_, _, rfl, rfl, q _ _ _ e1 s1 _ ((rr.mono e1).set (x := .v (.int _)) rfl i)⟩
      · cases hw
    · cases hf
  · cases hf
theorem s_aug_sub (hN : X.N.Nodup) (hi : X.N[i]? = some x) (hx : Loc X.env.scope x) (he : PE X e (rdE X.K X.mg f)) (hf : X.fn x = true ∨ X.env.scope.names.lookup x = some .local) :
    PS X (.AugAssign (.Name x pos') .Sub e pos) (rdS X.K X.mg (sAug i .sub f)) := by
  refine ps_mono (ps_aug hN hi hx he ip_sub hf) fun D σ H h => ?_
  obtain ⟨ι, F, S, ρ, r, S', sim, rr, hf, q⟩ := h
  unfold sAug at hf
  split at hf
  · rename_i y hy
    obtain ⟨z, S1, h1, hf⟩ := bind_ok hf
    unfold augOp at hf
    split at hf
    · rename_i w hw
      split at hw
      · cases hw; cases hf
        obtain ⟨v, g1, g2⟩ := rr.get hy
        cases g2
        refine ⟨_, g1, ι, F, S, ρ, _, S', sim, rr, h1, fun ι1 F1 w H1 e1 s1 r1 => ?_⟩
        cases r1
        exact ⟨_, _, rfl, rfl, q _ _ _ e1 s1 _ ((rr.mono e1).set (x := .v (.int _)) rfl i)⟩
      · cases hw
    · cases hf
  · cases hf
end
end FW

/-! FW: code that is told by the text. -/
namespace FW
open PySem PySem.Spec PyProof.Rows L2 RZ

/-- what is known of the names -/
structure Ctx where
  N : List PySem.Str
  sc : Scope
  raw : Option Scope
  glob : List (PySem.Str × PV)
  fs : List PySem.Str
  blt : List PySem.Str
mutual
def pvEq : PV → PV → Bool
  | .non, .non => true
  | .bl a, .bl b => a == b
  | .int i, .int j => decide (i = j)
  | .str a, .str b => decide (a = b)
  | .tup xs, .tup ys => pvEqs xs ys
  | .lst xs, .lst ys => pvEqs xs ys
  | .fn a, .fn b => decide (a = b)
  | _, _ => false
def pvEqs : List PV → List PV → Bool
  | [], [] => true
  | x :: xs, y :: ys => pvEq x y && pvEqs xs ys
  | _, _ => false
end
mutual
theorem pvEq_ok : ∀ {x y : PV}, pvEq x y = true → x = y
  | .non, y, h => by cases y <;> simp [pvEq] at h ⊢
  | .bl a, y, h => by cases y <;> simp [pvEq] at h ⊢; exact h
  | .int i, y, h => by cases y <;> simp [pvEq] at h ⊢; exact h
  | .str a, y, h => by cases y <;> simp [pvEq] at h ⊢; exact h
  | .tup xs, y, h => by cases y <;> simp [pvEq] at h ⊢; exact pvEqs_ok h
  | .lst xs, y, h => by cases y <;> simp [pvEq] at h ⊢; exact pvEqs_ok h
  | .fn a, y, h => by cases y <;> simp [pvEq] at h ⊢; exact h
theorem pvEqs_ok : ∀ {xs ys : List PV}, pvEqs xs ys = true → xs = ys
  | [], ys, h => by cases ys <;> simp [pvEqs] at h ⊢
  | x :: xs, ys, h => by
    cases ys with
    | nil => simp [pvEqs] at h
    | cons y ys =>
      simp only [pvEqs, Bool.and_eq_true] at h
      rw [pvEq_ok h.1, pvEqs_ok h.2]
end
def glB (C : Ctx) (n : PySem.Str) : Bool := decide (C.sc.names.lookup n = some .globalImplicit)
def visB (C : Ctx) (x : PySem.Str) : Bool := match C.sc.names.lookup x with
  | some .local => true
  | some .cell => true
  | some .free => true
  | _ => false
def locB (C : Ctx) (x : PySem.Str) : Bool := match C.sc.names.lookup x with
  | some .local => true
  | some .cell => true
  | _ => false
def lclB (C : Ctx) (x : PySem.Str) : Bool := decide (C.sc.names.lookup x = some .local)
def stB (C : Ctx) (x : PySem.Str) : Bool := match C.raw with
  | none => true
  | some s => (s.names.lookup x == some .cell) || lclB C x
def nameB (x : PySem.Str) : Bool := !(x == ("__debug__" : PySem.Str)) && !(x == ("__classdict__" : PySem.Str))
def bltB (C : Ctx) (n : PySem.Str) : Bool := glB C n && decide (n ∈ C.blt) && nameB n && decide (n ≠ "__name__")
def globB (C : Ctx) (n : PySem.Str) (x : PV) : Bool := C.glob.any fun p => decide (p.1 = n) && pvEq p.2 x
def Ctx.blk (C : Ctx) (scope : Scope) : Ctx := { C with sc := relS scope C.sc, raw := some scope }
def plainT : Expr → Bool
  | .UnaryOp _ _ _ => false
  | .BoolOp _ _ _ => false
  | .IfExp _ _ _ _ => false
  | .Compare _ _ _ _ => false
  | _ => true
theorem plainT_ok {a : Expr} (h : plainT a = true) {env : Env} : ∀ whole, isTrue a env whole = (do let v ← whole; standAt a.pos; holding [v] (truthy v)) := by
  intro whole
  cases a <;> first | rfl | simp [plainT] at h
theorem neg_ok {a : Expr} {pos : Pos} {env : Env} : ∀ whole, isTrue (.UnaryOp .USub a pos) env whole = (do let v ← whole; standAt (Expr.UnaryOp .USub a pos).pos; holding [v] (truthy v)) := fun _ => rfl
def plainIter : Expr → Bool
  | .Set _ _ _ => false
  | _ => true
theorem plainIter_ok {a : Expr} (h : plainIter a = true) {env : Env} : ∀ x, foldedSetIterable a env x = pure x := by
  intro x
  cases a <;> first | rfl | simp [plainIter] at h
/-- the built-ins of one argument -/
def bi1 (b : BI) : Option PySem.Str := match b with
  | .len => some "len" | .int => some "int" | .abs => some "abs" | .sum => some "sum" | .tuple => some "tuple" | .list => some "list" | .sorted => some "sorted" | .min1 => some "min" | .max1 => some "max" | _ => none
def bi2 (b : BI) : Option PySem.Str := match b with
  | .min2 => some "min" | .max2 => some "max" | _ => none
def okTy (C : Ctx) (T : Ty) (e : Expr) : Bool := match e with
  | .Name n _ => decide (n = PySem.Str.ofString (tyName T)) && bltB C n
  | _ => false
def okTys (C : Ctx) : List Ty → List Expr → Bool
  | [], [] => true
  | T :: ts, e :: es => okTy C T e && okTys C ts es
  | _, _ => false
def ownS (C : Ctx) (own : List Nat) : List (PySem.Str × Nat) := own.map fun j => (C.N.getD j ⟨#[]⟩, j)
theorem ownS_2 {C : Ctx} {own : List Nat} : (ownS C own).map (·.2) = own := by
  unfold ownS
  rw [List.map_map]
  show own.map (fun j => j) = own
  simp
mutual
def slG : CG → List Nat
  | .name i => [i]
  | .tup gs => slGs gs
def slGs : CGs → List Nat
  | .nil => []
  | .cons g gs => slG g ++ slGs gs
end
mutual
def okG (C : Ctx) : CG → Expr → Bool
  | .name i, e => match e with
    | .Name x _ => decide (C.N[i]? = some x) && locB C x && stB C x
    | _ => false
  | .tup gs, e => match e with
    | .Tuple es _ _ => okGs C gs es
    | _ => false
def okGs (C : Ctx) : CGs → List Expr → Bool
  | .nil, [] => true
  | .cons g gs, e :: es => okG C g e && okGs C gs es
  | _, _ => false
end
def isNonK : CE → Bool
  | .k .non => true
  | _ => false
def isTrueK : CE → Bool
  | .k (.bl true) => true
  | _ => false
mutual
def okE (C : Ctx) : CE → Expr → Bool
  | .var i, e => match e with
    | .Name x _ => decide (C.N[i]? = some x) && visB C x && nameB x
    | _ => false
  | .k x, e => match e with
    | .Constant k _ _ => decide (kOf x = some k)
    | _ => false
  | .glob n x, e => match e with
    | .Name m _ => decide (m = n) && glB C n && nameB n && globB C n x
    | _ => false
  | .tup es, e => match e with
    | .Tuple xs _ _ => okL C es xs
    | _ => false
  | .list _ es, e => match e with
    | .List xs _ => okL C es xs
    | _ => false
  | .bin o _ a b, e => match e with
    | .BinOp x op y _ => decide (op = opOf o) && okE C a x && okE C b y
    | _ => false
  | .neg a, e => match e with
    | .UnaryOp op x _ => decide (op = .USub) && okE C a x
    | _ => false
  | .nt a, e => match e with
    | .UnaryOp op x _ => decide (op = .Not) && okE C a x
    | _ => false
  | .and es, e => match e with
    | .BoolOp op xs _ => decide (op = .And) && okA C es xs
    | _ => false
  | .or es, e => match e with
    | .BoolOp op xs _ => decide (op = .Or) && okA C es xs
    | _ => false
  | .cmp o a b, e => match e with
    | .Compare x [op] [y] _ => decide (op = opC o) && okE C a x && okE C b y && !(behindInMarks op y)
    | _ => false
  | .chain o o' a b c, e => match e with
    | .Compare x [op, op'] [y, z] _ => decide (op = opC o) && decide (op' = opC o') && okE C a x && okE C b y && okE C c z && !(lastMarks [op, op'] [y, z])
    | _ => false
  | .ite c a b, e => match e with
    | .IfExp x y z _ => okE C c x && okE C a y && okE C b z
    | _ => false
  | .call i es, e => match e with
    | .Call (.Name n _) args [] _ => decide (C.fs[i]? = some n) && glB C n && nameB n && okL C es args
    | _ => false
  | .fnv n, e => match e with
    | .Name m _ => decide (m = n) && glB C n && nameB n && decide (n ∈ C.fs)
    | _ => false
  | .callv f es, e => match e with
    | .Call fe (a :: as) [] _ => okE C f fe && callHead fe && okL C es (a :: as)
    | _ => false
  | .index a x, e => match e with
    | .Call (.Attribute (.Name y p) m apos) [z] [] cpos => decide (m = "index") && okE C a (.Name y p) && okE C x z && noStar z && (apos.endLine == cpos.line)
    | _ => false
  | .indexG n xs x, e => match e with
    | .Call (.Attribute (.Name y _) m apos) [z] [] cpos => decide (m = "index") && decide (y = n) && glB C n && nameB n && globB C n (.tup xs) && okE C x z && noStar z && (apos.endLine == cpos.line)
    | _ => false
  | .bi b _ es, e => match e with
    | .Call (.Name n _) [x] [] _ => (bltB C n && decide (bi1 b = some n) && okL C es [x]) || (decide (b = .sortedSet) && bltB C n && decide (n = "sorted") && (match x with
      | .Call (.Name n2 _) [y] [] _ => bltB C n2 && decide (n2 = "set") && okL C es [y]
      | _ => false))
    | .Call (.Name n _) [x, y] [] _ => bltB C n && decide (bi2 b = some n) && okL C es [x, y]
    | _ => false
  | .isi ts a, e => match e with
    | .Call (.Name n _) [x, T] [] _ => bltB C n && decide (n = "isinstance") && okE C a x && noStar x && (match T with
      | .Tuple Ts _ _ => okTys C ts Ts && decide (ts.length ≤ 8)
      | T => (match ts with
        | [t] => okTy C t T
        | _ => false))
    | _ => false
  | .idx a i, e => match e with
    | .Subscript x y _ => okE C a x && okE C i y && plainIx y
    | _ => false
  | .slc _ a lo hi, e => match e with
    | .Subscript x (.Slice l h none _) _ => okE C a x && (match l with
      | none => isNonK lo
      | some l => okE C lo l && !isNonC lo) && (match h with
      | none => isNonK hi
      | some h => okE C hi h && !isNonC hi)
    | _ => false
  | .comp _ own tg it c elt, e => match e with
    | .ListComp x [⟨g, i, ifs, 0⟩] scope _ => blkC C.N C.sc scope (ownS C own) && (slG tg).all (fun t => decide (t ∈ own)) && okI C it g i && plainIter i && okG (C.blk scope) tg g && (match ifs with
      | [] => isTrueK c
      | [y] => okE (C.blk scope) c y
      | _ => false) && okE (C.blk scope) elt x
    | _ => false
  | .comp2 _ own own2 tg it c tg2 it2 c2 elt, e => match e with
    | .ListComp x [⟨g, i, ifs, 0⟩, ⟨g2, i2, ifs2, 0⟩] scope _ => blkC C.N C.sc scope (ownS C own) && own2.all (fun t => decide (t ∈ own)) && (slG tg).all (fun t => decide (t ∈ own)) && (slG tg2).all (fun t => decide (t ∈ own2)) && okI C it g i && plainIter i && okG (C.blk scope) tg g && (match ifs with
      | [] => isTrueK c
      | [y] => okE (C.blk scope) c y
      | _ => false) && okI (C.blk scope) it2 g2 i2 && plainIter i2 && okG (C.blk scope) tg2 g2 && (match ifs2 with
      | [] => isTrueK c2
      | [y] => okE (C.blk scope) c2 y
      | _ => false) && okE (C.blk scope) elt x
    | _ => false
  | .dic0, _ => false
  | .get _ _ _, _ => false
def okL (C : Ctx) : CL → List Expr → Bool
  | .nil, [] => true
  | .cons c cs, e :: es => okE C c e && noStar e && okL C cs es
  | _, _ => false
/-- the parts of an and / or -/
def okA (C : Ctx) : CL → List Expr → Bool
  | .cons c cs, e :: es => okE C c e && (match cs, es with
    | .nil, [] => true
    | .nil, _ :: _ => false
    | .cons _ _, es => okA C cs es)
  | _, _ => false
def okI (C : Ctx) : CI → Expr → Expr → Bool
  | .seq c, _, e => okE C c e
  | .rng1 a, _, e => match e with
    | .Call (.Name n _) [x] [] _ => bltB C n && decide (n = "range") && okE C a x && noStar x
    | _ => false
  | .rng2 a b, _, e => match e with
    | .Call (.Name n _) [x, y] [] _ => bltB C n && decide (n = "range") && okE C a x && noStar x && okE C b y && noStar y
    | _ => false
  | .zip2 a b, tg, e => match tg, e with
    | .Tuple _ _ _, .Call (.Name n _) [x, y] [] _ => bltB C n && decide (n = "zip") && okE C a x && noStar x && okE C b y && noStar y
    | _, _ => false
  | .enum a, tg, e => match tg, e with
    | .Tuple _ _ _, .Call (.Name n _) [x] [] _ => bltB C n && decide (n = "enumerate") && okE C a x && noStar x
    | _, _ => false
  | _, _, _ => false
end
end FW

/-! FW: checked code keeps its meaning. -/
namespace FW
open PySem PySem.Spec PyProof.Rows L2 RZ

structure Fit (C : Ctx) (Γ : List (PySem.Str × Fn)) (X : Cx) (k : Nat) : Prop where
  N : X.N = C.N
  nd : X.N.Nodup
  sc : X.env.scope = C.sc
  calm : X.calm = true
  xe : X.xe = fun _ _ => False
  room : Room k X.A
  st : ∀ x, stB C x = true → X.fn x = true ∨ X.env.scope.names.lookup x = some .local
  fo : ∀ (i : Nat) (n : PySem.Str), C.fs[i]? = some n → ∃ f, Γ[i]? = some (n, f) ∧ FO X.prog X.w X.K X.mg X.base k n f
  fl : ∀ n f, Γ.lookup n = some f → FO X.prog X.w X.K X.mg X.base k n f
  glob : ∀ p ∈ C.glob, GlobOk X.K X.mg p.1 p.2
  blt : ∀ n ∈ C.blt, X.mg n = none
section
variable {C : Ctx} {Γ : List (PySem.Str × Fn)} {X : Cx} {k : Nat}
theorem Fit.blk (G : Fit C Γ X k) (s : Shared) (H : Hp) (scope : Scope) (D : Addr) (cl : List (PySem.Str × Addr)) (fp : List Addr) : Fit (C.blk scope) Γ (X.blk s H scope (compEnvC scope cl D X.env) fp) k where
  N := G.N
  nd := G.nd
  sc := by show relS scope X.env.scope = relS scope C.sc; rw [G.sc]
  calm := G.calm
  xe := rfl
  room := G.room
  st x h := by
    simp only [stB, Ctx.blk, Bool.or_eq_true] at h
    rcases h with h | h
    · exact .inl h
    · right
      show (relS scope X.env.scope).names.lookup x = _
      rw [G.sc]
      exact of_decide_eq_true h
  fo := G.fo
  fl := G.fl
  glob := G.glob
  blt := G.blt
theorem Fit.ix (G : Fit C Γ X k) {i : Nat} {x : PySem.Str} (h : C.N[i]? = some x) : X.N[i]? = some x := by rw [G.N]; exact h
theorem Fit.gl (G : Fit C Γ X k) {n : PySem.Str} (h : glB C n = true) : Gl X n := by
  show X.env.scope.names.lookup n = _
  rw [G.sc]
  exact of_decide_eq_true h
theorem Fit.vis (G : Fit C Γ X k) {n : PySem.Str} (h : visB C n = true) : Vis X.env.scope n := by
  rw [G.sc]
  unfold visB at h
  split at h
  · exact .inl (by assumption)
  · exact .inr (.inl (by assumption))
  · exact .inr (.inr (by assumption))
  · cases h
theorem Fit.loc (G : Fit C Γ X k) {n : PySem.Str} (h : locB C n = true) : L2.Loc X.env.scope n := by
  rw [G.sc]
  unfold locB at h
  split at h
  · exact .inl (by assumption)
  · exact .inr (by assumption)
  · cases h
theorem Fit.lcl (G : Fit C Γ X k) {n : PySem.Str} (h : lclB C n = true) : X.env.scope.names.lookup n = some .local := by
  rw [G.sc]
  exact of_decide_eq_true h
theorem nameB_ok {x : PySem.Str} (h : nameB x = true) : (x == ("__debug__" : PySem.Str)) = false ∧ (x == ("__classdict__" : PySem.Str)) = false := by
  simp only [nameB, Bool.and_eq_true, Bool.not_eq_true'] at h
  exact h
theorem Fit.bl (G : Fit C Γ X k) {n : PySem.Str} (h : bltB C n = true) : Gl X n ∧ X.mg n = none ∧ (n == ("__debug__" : PySem.Str)) = false ∧ n ≠ "__name__" := by
  simp only [bltB, Bool.and_eq_true, decide_eq_true_eq] at h
  obtain ⟨⟨⟨h1, h2⟩, h3⟩, h4⟩ := h
  exact ⟨G.gl h1, G.blt n h2, (nameB_ok h3).1, h4⟩
theorem Fit.hp (G : Fit C Γ X k) : PassesOwn (model X.prog X.w) X.A X.env X.xe := by rw [G.xe]; exact PassesOwn.never
theorem Fit.hu (G : Fit C Γ X k) : X.A.units + 65 < cLine := by have := G.room.un; omega
theorem Fit.gk (G : Fit C Γ X k) {n : PySem.Str} {x : PV} (h : globB C n x = true) : GlobOk X.K X.mg n x := by
  unfold globB at h
  rw [List.any_eq_true] at h
  obtain ⟨p, hp, h⟩ := h
  simp only [Bool.and_eq_true, decide_eq_true_eq] at h
  obtain ⟨rfl, h2⟩ := h
  have := pvEq_ok h2
  subst this
  exact G.glob p hp
theorem evL_len : ∀ (cs : CL) (es : List Expr), okL C cs es = true → ∀ ρ S xs S', evL Γ cs ρ S = .ok xs S' → xs.length = es.length
  | .nil, [], _, ρ, S, xs, S', h => by cases h; rfl
  | .nil, _ :: _, h, _, _, _, _, _ => by simp [okL] at h
  | .cons _ _, [], h, _, _, _, _, _ => by simp [okL] at h
  | .cons c cs, e :: es, hk, ρ, S, xs, S', h => by
    simp only [okL, Bool.and_eq_true] at hk
    obtain ⟨x, S1, h1, h⟩ := bind_ok h
    obtain ⟨ys, S2, h2, h⟩ := bind_ok h
    cases h
    rw [List.length_cons, List.length_cons, evL_len cs es hk.2 ρ S1 ys S' h2]
theorem okL_star : ∀ (cs : CL) (es : List Expr), okL C cs es = true → ∀ e ∈ es, noStar e = true
  | .nil, [], _, _, h => by cases h
  | .nil, _ :: _, h, _, _ => by simp [okL] at h
  | .cons _ _, [], h, _, _ => by simp [okL] at h
  | .cons c cs, e :: es, hk, x, h => by
    simp only [okL, Bool.and_eq_true] at hk
    rcases List.mem_cons.mp h with rfl | h
    · exact hk.1.2
    · exact okL_star cs es hk.2 x h
theorem boot1 {b : BI} {n : PySem.Str} (h : bi1 b = some n) (m : Bool) (hc : X.calm = true) (hu : X.A.units + 65 < cLine) : ∃ f, Blt X n (rdO X.K X.mg f) ∧ ∀ x S, biOp b m [x] S = f x S := by
  cases b <;> simp only [bi1, Option.some.injEq, reduceCtorEq] at h <;> subst h
  · exact ⟨bLen, .fn "len" (by decide +kernel) bi_len, fun _ _ => rfl⟩
  · exact ⟨bInt, .ty "int" (by decide +kernel) bi_int, fun _ _ => rfl⟩
  · exact ⟨bAbs, .fn "abs" (by decide +kernel) bi_abs, fun _ _ => rfl⟩
  · exact ⟨bSum, .fn "sum" (by decide +kernel) (bi_sum hc), fun _ _ => rfl⟩
  · exact ⟨bMin1, .fn "min" (by decide +kernel) (bi_min1 hc hu), fun _ _ => rfl⟩
  · exact ⟨bMax1, .fn "max" (by decide +kernel) (bi_max1 hc hu), fun _ _ => rfl⟩
  · exact ⟨bTuple, .ty "tuple" (by decide +kernel) bi_tuple, fun _ _ => rfl⟩
  · exact ⟨bList m, .ty "list" (by decide +kernel) bi_list, fun _ _ => rfl⟩
  · exact ⟨bSorted m, .fn "sorted" (by decide +kernel) (bi_sorted hu), fun _ _ => rfl⟩
theorem boot2 {b : BI} {n : PySem.Str} (h : bi2 b = some n) (m : Bool) (hc : X.calm = true) : ∃ f, Blt X n (rdP X.K X.mg f) ∧ ∀ x y S, biOp b m [x, y] S = f x y S := by
  cases b <;> simp only [bi2, Option.some.injEq, reduceCtorEq] at h <;> subst h
  · exact ⟨bMin2, .fn "min" (by decide +kernel) (bi_min2 hc), fun _ _ _ => rfl⟩
  · exact ⟨bMax2, .fn "max" (by decide +kernel) (bi_max2 hc), fun _ _ _ => rfl⟩
theorem okTys_get (G : Fit C Γ X k) : ∀ {ts : List Ty} {es : List Expr}, okTys C ts es = true → (∀ i : Nat, ∀ e, es[i]? = some e → ∃ T p, ts[i]? = some T ∧ e = .Name (PySem.Str.ofString (tyName T)) p) ∧ es.length = ts.length ∧
    (∀ T ∈ ts, Gl X (PySem.Str.ofString (tyName T)) ∧ X.mg (PySem.Str.ofString (tyName T)) = none)
  | [], [], _ => ⟨fun i e h => by simp at h, rfl, fun T h => by cases h⟩
  | [], _ :: _, h => by simp [okTys] at h
  | _ :: _, [], h => by simp [okTys] at h
  | T :: ts, e :: es, h => by
    simp only [okTys, Bool.and_eq_true] at h
    obtain ⟨g1, g2, g3⟩ := okTys_get G h.2
    have h1 := h.1
    unfold okTy at h1
    split at h1
    · rename_i n p
      simp only [Bool.and_eq_true, decide_eq_true_eq] at h1
      obtain ⟨rfl, h1⟩ := h1
      obtain ⟨b1, b2, _, _⟩ := G.bl h1
      refine ⟨fun i e he => ?_, by simp [g2], fun T' hT => ?_⟩
      · cases i with
        | zero => simp at he; subst he; exact ⟨T, p, rfl, rfl⟩
        | succ i => simpa using g1 i e (by simpa using he)
      · rcases List.mem_cons.mp hT with rfl | hT
        · exact ⟨b1, b2⟩
        · exact g3 T' hT
    · cases h1
theorem isTrueK_ok {c : CE} (h : isTrueK c = true) : c = .k (.bl true) := by
  unfold isTrueK at h
  split at h
  · rfl
  · cases h
theorem isNonK_ok {c : CE} (h : isNonK c = true) : c = .k .non := by
  unfold isNonK at h
  split at h
  · rfl
  · cases h
theorem pts_yes : PTs X [] (rdT X.K X.mg (ev Γ (.k (.bl true))).t) := ⟨fun pins s σ H Q I h => by
  obtain ⟨ι, F, S, ρ, x, S', sim, r, hf, q⟩ := h
  cases hf
  exact pts_nil.run pins s σ H Q I (q _ _ _ Ext.refl sim)⟩
theorem s_ite_t {c a b : Expr} {pos : Pos} {cs as bs : Sm} (hc : PT X c (rdT X.K X.mg cs.t)) (ha : PT X a (rdT X.K X.mg as.t)) (hb : PT X b (rdT X.K X.mg bs.t)) : PT X (.IfExp c a b pos) (rdT X.K X.mg (sIte cs as bs).t) := ⟨fun pins s σ H Q I h => by
  obtain ⟨ι, F, S, ρ, x, S', sim, r, hf, q⟩ := h
  obtain ⟨t, S1, h1, hf⟩ := bind_ok hf
  show wpAny _ _ (PySem.isTrue (.IfExp c a b pos) X.env _) _ _ _
  unfold PySem.isTrue
  refine wpAny_bind (thn (hc.run pins s σ H (fun b H1 => b = t ∧ ∃ ι1 F1, Ext ι F ι1 F1 ∧ Sim X.K X.mg ι1 F1 S1 H1) I ⟨ι, F, S, ρ, t, S1, sim, r, h1, fun ι1 F1 H1 e1 s1 => ⟨rfl, ι1, F1, e1, s1⟩⟩) fun b s1 ⟨H1, I1, eb, ι1, F1, e1, sim1⟩ => ?_)
  subst eb
  cases b with
  | true => exact ha.run pins s1 σ H1 Q I1 ⟨ι1, F1, S1, ρ, x, S', sim1, r.mono e1, hf, fun ι2 F2 H2 e2 s2 => q _ _ _ (e1.trans e2) s2⟩
  | false => exact hb.run pins s1 σ H1 Q I1 ⟨ι1, F1, S1, ρ, x, S', sim1, r.mono e1, hf, fun ι2 F2 H2 e2 s2 => q _ _ _ (e1.trans e2) s2⟩⟩
/-- both readings of an expression that is no test form -/
def Both (X : Cx) (e : Expr) (m : Sm) : Prop := PE X e (rdE X.K X.mg m.v) ∧ PT X e (rdT X.K X.mg m.t)
theorem both_v {e : Expr} {f : VS} (h : PE X e (rdE X.K X.mg f)) (hp : plainT e = true) : Both X e (ofV f) := ⟨h, s_tru h (plainT_ok hp)⟩
mutual
theorem g_sound (G : Fit C Γ X k) : ∀ (g : CG) (e : Expr), okG C g e = true → PG X e (rdG X.K X.mg (bindG g) (slG g)) ∧ noStar e = true
  | .name i, e, h => by
    unfold okG at h
    split at h
    · simp only [Bool.and_eq_true, decide_eq_true_eq] at h
      obtain ⟨⟨h1, h2⟩, h3⟩ := h
      have h1' := G.ix h1
      exact ⟨by simpa only [bindG, slG] using g_name G.nd h1' (G.loc h2) (G.st _ h3), rfl⟩
    · cases h
  | .tup gs, e, h => by
    unfold okG at h
    split at h
    · obtain ⟨h1, h2, h3⟩ := gs_sound G gs _ h
      refine ⟨pg_mono (g_tup G.calm h1 h2 h3) fun v σ H Q h => ?_, rfl⟩
      obtain ⟨ι, F, S, ρ, x, ρ', sim, r, rx, hg, q⟩ := h
      refine ⟨ι, F, S, ρ, x, ρ', sim, r, rx, ?_, q⟩
      cases x <;> simp only [bindG, reduceCtorEq] at hg ⊢ <;> exact hg
    · cases h
theorem gs_sound (G : Fit C Γ X k) : ∀ (gs : CGs) (es : List Expr), okGs C gs es = true → PGs X es (rdGs X.K X.mg (bindGs gs) (slGs gs)) ∧ (∀ e ∈ es, noStar e = true) ∧ ∀ xs ρ ρ', bindGs gs xs ρ = some ρ' → xs.length = es.length
  | .nil, [], _ => by
    refine ⟨pgs_mono gs_nil fun v σ H Q h => ?_, fun e h => (by cases h), fun xs ρ ρ' h => ?_⟩
    · obtain ⟨ι, F, S, ρ, xs, ρ', sim, r, l, hg, q⟩ := h
      refine ⟨ι, F, S, ρ, xs, ρ', sim, r, l, ?_, q⟩
      cases xs with
      | nil => simpa [bindGs] using hg
      | cons x xs => simp [bindGs] at hg
    · cases xs with
      | nil => rfl
      | cons x xs => simp [bindGs] at h
  | .nil, _ :: _, h => by simp [okGs] at h
  | .cons _ _, [], h => by simp [okGs] at h
  | .cons g gs, e :: es, h => by
    simp only [okGs, Bool.and_eq_true] at h
    obtain ⟨a1, a2⟩ := g_sound G g e h.1
    obtain ⟨b1, b2, b3⟩ := gs_sound G gs es h.2
    refine ⟨pgs_mono (gs_cons a1 b1 a2) fun v σ H Q h => ?_, fun x hx => ?_, fun xs ρ ρ' h => ?_⟩
    · obtain ⟨ι, F, S, ρ, xs, ρ', sim, r, l, hg, q⟩ := h
      refine ⟨ι, F, S, ρ, xs, ρ', sim, r, l, ?_, q⟩
      cases xs with
      | nil => simp [bindGs] at hg
      | cons x xs => simp only [bindGs] at hg; exact hg
    · rcases List.mem_cons.mp hx with rfl | hx
      · exact a2
      · exact b2 x hx
    · cases xs with
      | nil => simp [bindGs] at h
      | cons x xs =>
        simp only [bindGs] at h
        split at h
        · rw [List.length_cons, List.length_cons, b3 _ _ _ h]
        · cases h
end
/-- a clause's tests -/
def okTests (C : Ctx) (c : CE) (ifs : List Expr) : Bool := match ifs with
  | [] => isTrueK c
  | [y] => okE C c y
  | _ => false
theorem tests_sound {X : Cx} {c : CE} {ifs : List Expr} (ih : ∀ e, okE C c e = true → Both X e (ev Γ c)) (h : okTests C c ifs = true) : PTs X ifs (rdT X.K X.mg (ev Γ c).t) := by
  unfold okTests at h
  split at h
  · have := isTrueK_ok h
    subst this
    exact pts_yes
  · exact pts_one (ih _ h).2
  · cases h
theorem both_cmp {o : COp} {a b : Expr} {op : CmpOp} {pos : Pos} {fa fb : VS} (G : Fit C Γ X k) (e : op = opC o) (ha : PE X a (rdE X.K X.mg fa)) (hb : PE X b (rdE X.K X.mg fb)) (hm : behindInMarks op b = false) : Both X (.Compare a [op] [b] pos) (sCmp o fa fb) := by
  subst e
  exact ⟨s_cmp_v G.hu ha hb hm, s_cmp_t G.hu ha hb hm⟩
theorem both_chain {o o' : COp} {a b c : Expr} {op op' : CmpOp} {pos : Pos} {fa fb fc : VS} (G : Fit C Γ X k) (e : op = opC o) (e' : op' = opC o') (ha : PE X a (rdE X.K X.mg fa)) (hb : PE X b (rdE X.K X.mg fb)) (hc : PE X c (rdE X.K X.mg fc)) (hm : lastMarks [op, op'] [b, c] = false) : Both X (.Compare a [op, op'] [b, c] pos) (sChain o o' fa fb fc) := by
  subst e e'
  exact ⟨s_chain_v G.hu ha hb hc hm, s_chain_t G.hu ha hb hc hm⟩
theorem part_sound {lo : CE} {l : Option Expr} (ih : ∀ e, okE C lo e = true → Both X e (ev Γ lo)) (h : l = none → isNonK lo = true) (h2 : ∀ e, l = some e → (okE C lo e && !isNonC lo) = true) : PO X l (rdPart X.K X.mg (sPart (isNonC lo) (ev Γ lo).v)) := by
  cases l with
  | none =>
    have := isNonK_ok (h rfl)
    subst this
    exact s_po_none
  | some l =>
    have h := h2 l rfl
    simp only [Bool.and_eq_true, Bool.not_eq_true'] at h
    rw [h.2]
    exact s_po_some (ih l h.1).1
mutual
theorem e_sound {C : Ctx} {X : Cx} (G : Fit C Γ X k) : ∀ (c : CE) (e : Expr), okE C c e = true → Both X e (ev Γ c)
  | .var i, e, h => by
    unfold okE at h
    split at h
    · simp only [Bool.and_eq_true, decide_eq_true_eq] at h
      obtain ⟨⟨h1, h2⟩, h3⟩ := h
      exact both_v (s_var (G.ix h1) (G.vis h2) (nameB_ok h3).1 (nameB_ok h3).2) rfl
    · cases h
  | .k x, e, h => by
    unfold okE at h
    split at h
    · exact both_v (s_k (of_decide_eq_true h)) rfl
    · cases h
  | .glob n x, e, h => by
    unfold okE at h
    split at h
    · simp only [Bool.and_eq_true, decide_eq_true_eq] at h
      obtain ⟨⟨⟨rfl, h2⟩, h3⟩, h4⟩ := h
      exact both_v (s_glob (G.gl h2) (G.gk h4) (nameB_ok h3).1) rfl
    · cases h
  | .tup es, e, h => by
    unfold okE at h
    split at h
    · exact both_v (s_tup (l_sound G es _ h)) rfl
    · cases h
  | .list m es, e, h => by
    unfold okE at h
    split at h
    · exact both_v (s_list (l_sound G es _ h)) rfl
    · cases h
  | .bin o m a b, e, h => by
    unfold okE at h
    split at h
    · simp only [Bool.and_eq_true, decide_eq_true_eq] at h
      obtain ⟨⟨rfl, h2⟩, h3⟩ := h
      exact both_v (s_bin (e_sound G a _ h2).1 (e_sound G b _ h3).1) rfl
    · cases h
  | .neg a, e, h => by
    unfold okE at h
    split at h
    · simp only [Bool.and_eq_true, decide_eq_true_eq] at h
      obtain ⟨rfl, h2⟩ := h
      have := s_neg (pos := by assumption) (e_sound G a _ h2).1
      exact ⟨this, s_tru this neg_ok⟩
    · cases h
  | .nt a, e, h => by
    unfold okE at h
    split at h
    · simp only [Bool.and_eq_true, decide_eq_true_eq] at h
      obtain ⟨rfl, h2⟩ := h
      have := e_sound G a _ h2
      exact ⟨s_not_v this.1, s_not_t this.2⟩
    · cases h
  | .and es, e, h => by
    unfold okE at h
    split at h
    · simp only [Bool.and_eq_true, decide_eq_true_eq] at h
      obtain ⟨rfl, h2⟩ := h
      exact ⟨(and_sound G es _ h2 _).1, (and_sound G es _ h2 _).2.pt⟩
    · cases h
  | .or es, e, h => by
    unfold okE at h
    split at h
    · simp only [Bool.and_eq_true, decide_eq_true_eq] at h
      obtain ⟨rfl, h2⟩ := h
      exact ⟨(or_sound G es _ h2 _).1, (or_sound G es _ h2 _).2.pt⟩
    · cases h
  | .cmp o a b, e, h => by
    unfold okE at h
    split at h
    · simp only [Bool.and_eq_true, decide_eq_true_eq, Bool.not_eq_true'] at h
      obtain ⟨⟨⟨h1, h2⟩, h3⟩, h4⟩ := h
      exact both_cmp G h1 (e_sound G a _ h2).1 (e_sound G b _ h3).1 h4
    · cases h
  | .chain o o' a b c, e, h => by
    unfold okE at h
    split at h
    · simp only [Bool.and_eq_true, decide_eq_true_eq, Bool.not_eq_true'] at h
      obtain ⟨⟨⟨⟨⟨h1, h2⟩, h3⟩, h4⟩, h5⟩, h6⟩ := h
      exact both_chain G h1 h2 (e_sound G a _ h3).1 (e_sound G b _ h4).1 (e_sound G c _ h5).1 h6
    · cases h
  | .ite c a b, e, h => by
    unfold okE at h
    split at h
    · simp only [Bool.and_eq_true] at h
      obtain ⟨⟨h1, h2⟩, h3⟩ := h
      have hc := (e_sound G c _ h1).2
      have ha := e_sound G a _ h2
      have hb := e_sound G b _ h3
      exact ⟨s_ite_v hc ha.1 hb.1, s_ite_t hc ha.2 hb.2⟩
    · cases h
  | .call i es, e, h => by
    unfold okE at h
    split at h
    · rename_i n p args pos
      simp only [Bool.and_eq_true, decide_eq_true_eq] at h
      obtain ⟨⟨⟨h1, h2⟩, h3⟩, h4⟩ := h
      obtain ⟨f, hf, hfo⟩ := G.fo i n h1
      have hl := l_sound G es _ h4
      refine both_v ?_ rfl
      show PE X _ (rdE X.K X.mg (sCall (Γ[i]?.map Prod.snd) (evL Γ es)))
      rw [hf]
      cases args with
      | nil =>
        cases es with
        | nil => exact s_call0 G.room hfo (G.gl h2) (nameB_ok h3).1
        | cons c cs => simp [okL] at h4
      | cons a as => exact s_call G.room hfo (G.gl h2) (nameB_ok h3).1 hl (okL_star es _ h4)
    · cases h
  | .fnv n, e, h => by
    unfold okE at h
    split at h
    · simp only [Bool.and_eq_true, decide_eq_true_eq] at h
      obtain ⟨⟨⟨rfl, h2⟩, h3⟩, h4⟩ := h
      obtain ⟨i, hi⟩ := List.getElem?_of_mem h4
      obtain ⟨f, _, hfo⟩ := G.fo i _ hi
      exact both_v (s_fnv hfo (G.gl h2) (nameB_ok h3).1) rfl
    · cases h
  | .callv f es, e, h => by
    unfold okE at h
    split at h
    · simp only [Bool.and_eq_true] at h
      exact both_v (s_callv G.room G.fl (e_sound G f _ h.1.1).1 h.1.2 (l_sound G es _ h.2) (okL_star es _ h.2)) rfl
    · cases h
  | .index a x, e, h => by
    unfold okE at h
    split at h
    · simp only [Bool.and_eq_true, decide_eq_true_eq] at h
      obtain ⟨⟨⟨⟨rfl, h1⟩, h2⟩, h3⟩, h4⟩ := h
      exact both_v (s_index G.hu (e_sound G a _ h1).1 (e_sound G x _ h2).1 h3 rfl h4) rfl
    · cases h
  | .indexG n xs x, e, h => by
    unfold okE at h
    split at h
    · simp only [Bool.and_eq_true, decide_eq_true_eq] at h
      obtain ⟨⟨⟨⟨⟨⟨⟨rfl, rfl⟩, h1⟩, h2⟩, h3⟩, h4⟩, h5⟩, h6⟩ := h
      exact both_v (s_indexG G.hu (G.gl h1) (G.gk h3) (nameB_ok h2).1 (e_sound G x _ h4).1 h5 h6) rfl
    · cases h
  | .bi b m es, e, h => by
    unfold okE at h
    split at h
    · rw [Bool.or_eq_true] at h
      rcases h with h | h
      · simp only [Bool.and_eq_true, decide_eq_true_eq] at h
        obtain ⟨⟨h1, h2⟩, h3⟩ := h
        obtain ⟨g1, g2, g3, g4⟩ := G.bl h1
        obtain ⟨f, B, hf⟩ := boot1 (X := X) h2 m G.calm G.hu
        exact both_v (s_bi1 B (g := biOp b m) hf g1 g2 g4 g3 (l_sound G es _ h3) (fun ρ S xs S' hh => evL_len es _ h3 ρ S xs S' hh) (okL_star es _ h3 _ List.mem_cons_self)) rfl
      · simp only [Bool.and_eq_true, decide_eq_true_eq] at h
        obtain ⟨⟨⟨rfl, h1⟩, rfl⟩, h2⟩ := h
        split at h2
        · simp only [Bool.and_eq_true, decide_eq_true_eq] at h2
          obtain ⟨⟨k1, rfl⟩, k2⟩ := h2
          obtain ⟨g1, g2, _, _⟩ := G.bl h1
          obtain ⟨l1, l2, _, _⟩ := G.bl k1
          match es, k2 with
          | .cons c .nil, k2 =>
            have hst := okL_star (.cons c .nil) _ k2 _ List.mem_cons_self
            simp only [okL, Bool.and_eq_true] at k2
            have hcc := (e_sound G c _ k2.1.1).1
            have eq : sBi .sortedSet m (evL Γ (.cons c .nil)) = fun ρ S => ((ev Γ c).v ρ S).bind fun x S1 => bSortedSet m x S1 := by
              funext ρ S
              show ((((ev Γ c).v ρ S).bind fun x S1 => _).bind _) = _
              cases (ev Γ c).v ρ S <;> rfl
            refine both_v ?_ rfl
            show PE X _ (rdE X.K X.mg (sBi .sortedSet m (evL Γ (.cons c .nil))))
            rw [eq]
            exact s_sortedSet G.calm G.hu g1 g2 l1 l2 hcc hst
          | .nil, k2 => simp [okL] at k2
          | .cons _ (.cons _ _), k2 => simp [okL] at k2
        · cases h2
    · simp only [Bool.and_eq_true, decide_eq_true_eq] at h
      obtain ⟨⟨h1, h2⟩, h3⟩ := h
      obtain ⟨g1, g2, g3, g4⟩ := G.bl h1
      obtain ⟨f, B, hf⟩ := boot2 (X := X) h2 m G.calm
      exact both_v (s_bi2 B (g := biOp b m) hf g1 g2 g4 g3 (l_sound G es _ h3) (fun ρ S xs S' hh => evL_len es _ h3 ρ S xs S' hh) (okL_star es _ h3 _ List.mem_cons_self) (okL_star es _ h3 _ (List.mem_cons_of_mem _ List.mem_cons_self))) rfl
    · cases h
  | .isi ts a, e, h => by
    unfold okE at h
    split at h
    · rename_i n p x T pos
      simp only [Bool.and_eq_true, decide_eq_true_eq] at h
      obtain ⟨⟨⟨⟨h1, rfl⟩, h2⟩, h3⟩, h4⟩ := h
      obtain ⟨g1, g2, g3, g4⟩ := G.bl h1
      have ha := (e_sound G a _ h2).1
      refine both_v ?_ rfl
      show PE X _ (rdE X.K X.mg (sIsi ts (ev Γ a).v))
      split at h4
      · simp only [Bool.and_eq_true, decide_eq_true_eq] at h4
        obtain ⟨t1, t2, t3⟩ := okTys_get G h4.1
        exact s_isi g1 g2 ha h3 t1 t2 t3 h4.2
      · split at h4
        · unfold okTy at h4
          split at h4
          · simp only [Bool.and_eq_true, decide_eq_true_eq] at h4
            obtain ⟨rfl, h4⟩ := h4
            obtain ⟨b1, b2, _, _⟩ := G.bl h4
            exact s_isi1 g1 g2 ha h3 b1 b2
          · cases h4
        · cases h4
    · cases h
  | .idx a i, e, h => by
    unfold okE at h
    split at h
    · simp only [Bool.and_eq_true] at h
      obtain ⟨⟨h1, h2⟩, h3⟩ := h
      exact both_v (s_idx (by have := G.hu; omega) (e_sound G a _ h1).1 (e_sound G i _ h2).1 h3) rfl
    · cases h
  | .slc m a lo hi, e, h => by
    unfold okE at h
    split at h
    · rw [Bool.and_eq_true, Bool.and_eq_true] at h
      obtain ⟨⟨h1, h2⟩, h3⟩ := h
      exact both_v (s_slc (e_sound G a _ h1).1 (part_sound (e_sound G lo) (fun e => by subst e; exact h2) (fun e he => by subst he; exact h2)) (part_sound (e_sound G hi) (fun e => by subst e; exact h3) (fun e he => by subst he; exact h3))) rfl
    · cases h
  | .comp m own tg it c elt, e, h => by
    unfold okE at h
    split at h
    · rename_i x g i ifs scope pos
      simp only [Bool.and_eq_true, List.all_eq_true, decide_eq_true_eq] at h
      obtain ⟨⟨⟨⟨⟨⟨h1, h2⟩, h3⟩, h4⟩, h5⟩, h6⟩, h7⟩ := h
      refine both_v ?_ rfl
      have ok : BlkOk X.N X.env.scope scope (ownS C own) := by rw [G.N, G.sc]; exact blkOk_by h1
      have := s_comp (X := X) (m := m) (pos := pos) G.calm G.nd ok (ts1 := slG tg) (by rw [ownS_2]; exact h2) (i_sound G it g i h3)
        (fun s H D cl fp => (g_sound (G.blk s H scope D cl fp) tg g h5).1)
        (ifs := ifs) (c := (ev Γ c).t) (fun s H D cl fp => tests_sound (e_sound (G.blk s H scope D cl fp) c) h6)
        (fun s H D cl fp => (e_sound (G.blk s H scope D cl fp) elt x h7).1) (plainIter_ok h4)
      rw [ownS_2] at this
      exact this
    · cases h
  | .comp2 m own own2 tg it c tg2 it2 c2 elt, e, h => by
    unfold okE at h
    split at h
    · rename_i x g i ifs g2 i2 ifs2 scope pos
      simp only [Bool.and_eq_true, List.all_eq_true, decide_eq_true_eq] at h
      obtain ⟨⟨⟨⟨⟨⟨⟨⟨⟨⟨⟨⟨h1, h2⟩, h3⟩, h4⟩, h5⟩, h6⟩, h7⟩, h8⟩, h9⟩, h10⟩, h11⟩, h12⟩, h13⟩ := h
      refine both_v ?_ rfl
      have ok : BlkOk X.N X.env.scope scope (ownS C own) := by rw [G.N, G.sc]; exact blkOk_by h1
      have := s_comp2 (X := X) (m := m) (pos := pos) G.calm G.nd ok (own2 := own2) (ts1 := slG tg) (ts2 := slG tg2) (by rw [ownS_2]; exact h2) (by rw [ownS_2]; exact h3) h4 (i_sound G it g i h5)
        (fun s H D cl fp => (g_sound (G.blk s H scope D cl fp) tg g h7).1)
        (ifs := ifs) (c := (ev Γ c).t) (fun s H D cl fp => tests_sound (e_sound (G.blk s H scope D cl fp) c) h8)
        (fun s H D cl fp => i_sound (G.blk s H scope D cl fp) it2 g2 i2 h9)
        (fun s H D cl fp => (g_sound (G.blk s H scope D cl fp) tg2 g2 h11).1)
        (ifs1 := ifs2) (c2 := (ev Γ c2).t) (fun s H D cl fp => tests_sound (e_sound (G.blk s H scope D cl fp) c2) h12)
        (fun s H D cl fp => (e_sound (G.blk s H scope D cl fp) elt x h13).1) (plainIter_ok h6) (fun env => plainIter_ok h10)
      rw [ownS_2] at this
      exact this
    · cases h
  | .dic0, e, h => by unfold okE at h; cases h
  | .get _ _ _, e, h => by unfold okE at h; cases h
theorem l_sound {C : Ctx} {X : Cx} (G : Fit C Γ X k) : ∀ (cs : CL) (es : List Expr), okL C cs es = true → PA X es (rdA X.K X.mg (evL Γ cs))
  | .nil, [], _ => s_nil
  | .nil, _ :: _, h => by simp [okL] at h
  | .cons _ _, [], h => by simp [okL] at h
  | .cons c cs, e :: es, h => by
    simp only [okL, Bool.and_eq_true] at h
    exact s_cons (e_sound G c e h.1.1).1 (l_sound G cs es h.2) (star_one h.1.2 _ _)
theorem and_sound {C : Ctx} {X : Cx} (G : Fit C Γ X k) : ∀ (cs : CL) (es : List Expr), okA C cs es = true → ∀ pos, PE X (.BoolOp .And es pos) (rdE X.K X.mg (evAnd Γ cs).v) ∧ PW X (.BoolOp .And es pos) (rdT X.K X.mg (evAnd Γ cs).t)
  | .nil, _, h => by simp [okA] at h
  | .cons _ _, [], h => by simp [okA] at h
  | .cons c .nil, [e], h => fun pos => by
    simp only [okA, Bool.and_eq_true] at h
    have := e_sound G c e h.1
    exact ⟨pe_one this.1, pw_and1 this.2⟩
  | .cons c .nil, e :: e2 :: es, h => by simp [okA] at h
  | .cons c (.cons c2 cs), [e], h => by simp [okA] at h
  | .cons c (.cons c2 cs), e :: e2 :: es, h => fun pos => by
    unfold okA at h
    simp only [Bool.and_eq_true] at h
    have h1 := e_sound G c e h.1
    have h2 := and_sound G (.cons c2 cs) (e2 :: es) h.2 pos
    exact ⟨s_and_v (p := (ev Γ c, evAnd Γ (.cons c2 cs))) h1.1 h2.1, s_and_t (p := (ev Γ c, evAnd Γ (.cons c2 cs))) h1.2 h2.2⟩
theorem or_sound {C : Ctx} {X : Cx} (G : Fit C Γ X k) : ∀ (cs : CL) (es : List Expr), okA C cs es = true → ∀ pos, PE X (.BoolOp .Or es pos) (rdE X.K X.mg (evOr Γ cs).v) ∧ PW X (.BoolOp .Or es pos) (rdT X.K X.mg (evOr Γ cs).t)
  | .nil, _, h => by simp [okA] at h
  | .cons _ _, [], h => by simp [okA] at h
  | .cons c .nil, [e], h => fun pos => by
    simp only [okA, Bool.and_eq_true] at h
    have := e_sound G c e h.1
    exact ⟨pe_one this.1, pw_or1 this.2⟩
  | .cons c .nil, e :: e2 :: es, h => by simp [okA] at h
  | .cons c (.cons c2 cs), [e], h => by simp [okA] at h
  | .cons c (.cons c2 cs), e :: e2 :: es, h => fun pos => by
    unfold okA at h
    simp only [Bool.and_eq_true] at h
    have h1 := e_sound G c e h.1
    have h2 := or_sound G (.cons c2 cs) (e2 :: es) h.2 pos
    exact ⟨s_or_v (p := (ev Γ c, evOr Γ (.cons c2 cs))) h1.1 h2.1, s_or_t (p := (ev Γ c, evOr Γ (.cons c2 cs))) h1.2 h2.2⟩
theorem i_sound {C : Ctx} {X : Cx} (G : Fit C Γ X k) : ∀ (c : CI) (tg e : Expr), okI C c tg e = true → PI X tg e (rdI X.K X.mg (evI Γ c))
  | .seq c, tg, e, h => by
    unfold okI at h
    exact i_seq (e_sound G c e h).1
  | .rng1 a, tg, e, h => by
    unfold okI at h
    split at h
    · simp only [Bool.and_eq_true, decide_eq_true_eq] at h
      obtain ⟨⟨⟨h1, rfl⟩, h2⟩, h3⟩ := h
      obtain ⟨g1, g2, _, _⟩ := G.bl h1
      exact i_rng1 g1 g2 (e_sound G a _ h2).1 h3
    · cases h
  | .rng2 a b, tg, e, h => by
    unfold okI at h
    split at h
    · simp only [Bool.and_eq_true, decide_eq_true_eq] at h
      obtain ⟨⟨⟨⟨⟨h1, rfl⟩, h2⟩, h3⟩, h4⟩, h5⟩ := h
      obtain ⟨g1, g2, _, _⟩ := G.bl h1
      exact i_rng2 g1 g2 (e_sound G a _ h2).1 (e_sound G b _ h4).1 h3 h5
    · cases h
  | .rng3 a b c, tg, e, h => by unfold okI at h; cases h
  | .zip2 a b, tg, e, h => by
    unfold okI at h
    split at h
    · simp only [Bool.and_eq_true, decide_eq_true_eq] at h
      obtain ⟨⟨⟨⟨⟨h1, rfl⟩, h2⟩, h3⟩, h4⟩, h5⟩ := h
      obtain ⟨g1, g2, _, _⟩ := G.bl h1
      exact i_zip G.calm g1 g2 (e_sound G a _ h2).1 (e_sound G b _ h4).1 h3 h5
    · cases h
  | .enum a, tg, e, h => by
    unfold okI at h
    split at h
    · simp only [Bool.and_eq_true, decide_eq_true_eq] at h
      obtain ⟨⟨⟨h1, rfl⟩, h2⟩, h3⟩ := h
      obtain ⟨g1, g2, _, _⟩ := G.bl h1
      exact i_enum g1 g2 (e_sound G a _ h2).1 h3
    · cases h
  | .keys _, tg, e, h => by unfold okI at h; cases h
  | .items _, tg, e, h => by unfold okI at h; cases h
  | .values _, tg, e, h => by unfold okI at h; cases h
end
end
end FW

/-! FW: checked statements and defs. -/
namespace FW
open PySem PySem.Spec PyProof.Rows L2 RZ

def isComp : Expr → Bool
  | .ListComp _ _ _ _ => true
  | .SetComp _ _ _ _ => true
  | .DictComp _ _ _ _ _ => true
  | _ => false
theorem sw_plain {v : Expr} {t : Option Expr} {l : Nat} {env : Env} (h : isComp v = false) : swapsWith v t l env = pure false := by
  cases v <;> first | rfl | simp [isComp] at h
theorem sw_tup {v : Expr} {es : List Expr} {k : Nat} {p : Pos} {l : Nat} {env : Env} : swapsWithSole [.Tuple es k p] v l env = pure false := by
  show swapsWith v (some (.Tuple es k p)) l env = pure false
  cases v <;> rfl
theorem sw_cell {elt : Expr} {gs : List Comprehension} {scope : Scope} {pos py : Pos} {y : PySem.Str} {l : Nat} {env : Env} (hy : env.scope.names.lookup y = some .cell) : swapsWith (.ListComp elt gs scope pos) (some (.Name y py)) l env = pure false := by
  have ky : env.kindOf y = some .cell := hy
  have e : (NameKind.cell == NameKind.local) = false := by decide
  unfold swapsWith
  simp [ky, e]
theorem any_star {g : Expr → Bool} (hg : ∀ e, noStar e = true → g e = false) : ∀ {vs : List Expr}, vs.all noStar = true → vs.any g = false
  | [], _ => rfl
  | v :: vs, h => by
    rw [List.all_cons, Bool.and_eq_true] at h
    rw [List.any_cons, any_star hg h.2, hg v h.1]; rfl
def nmOf (sc : Scope) (line : Nat) : Expr → Option PySem.Str
  | .Name id pos => if (sc.names.lookup id == some .local && pos.line == line) = true then some id else none
  | _ => none
theorem fm_eq {g h : Expr → Option PySem.Str} (e : ∀ x, g x = h x) (ts : List Expr) : ts.filterMap g = ts.filterMap h := by
  have : g = h := funext e
  rw [this]
def nmsOf (sc : Scope) (ts : List Expr) : List PySem.Str := ts.filterMap (nmOf sc ((ts.head?.map (·.pos.line)).getD 0))
theorem sw_names {ts vs : List Expr} {k k2 : Nat} {p p2 : Pos} {env : Env} (hb : env.blockKind = .function) (hl : (ts.length == 2 || ts.length == 3) = true) (hv : (vs.length == ts.length) = true) (hs : vs.all noStar = true)
   (hc : (vs.all (foldedForSure 8)) = false) (hc2 : (vs.all (constantsAlone 8)) = false) :
   swappedStores [.Tuple ts k p] (.Tuple vs k2 p2) env = pure (if ((nmsOf env.scope ts).length != ts.length || (nmsOf env.scope ts).eraseDups.length != (nmsOf env.scope ts).length) = true then none else some (nmsOf env.scope ts)) := by
  have h1 : (!(ts.length == 2 || ts.length == 3) || vs.length != ts.length || env.blockKind != .function) = false := by
    rw [hb, hl]
    have : vs.length = ts.length := by simpa using hv
    rw [this]
    simp
  unfold swappedStores
  simp only [h1, hc, hc2, Bool.false_eq_true, if_false]
  rw [any_star (by intro e he; cases e <;> first | rfl | simp [noStar] at he) hs]
  simp only [Bool.false_eq_true, if_false]
  rw [fm_eq (h := nmOf env.scope ((ts.head?.map (·.pos.line)).getD 0)) (by intro x; cases x <;> rfl) ts]
  unfold nmsOf
  split <;> rfl
theorem sw_folded {ts vs : List Expr} {k k2 : Nat} {p p2 : Pos} {env : Env} (hs : vs.all noStar = true)
   (hc : (vs.all (foldedForSure 8)) = true) :
   swappedStores [.Tuple ts k p] (.Tuple vs k2 p2) env = pure none := by
  unfold swappedStores
  simp only [hc, Bool.false_eq_true, if_false, if_true]
  rw [any_star (by intro e he; cases e <;> first | rfl | simp [noStar] at he) hs]
  simp only [Bool.false_eq_true, if_false]
  split
  · rfl
  · split <;> rfl
theorem sw_long {ts vs : List Expr} {k k2 : Nat} {p p2 : Pos} {env : Env} (hl : (!(ts.length == 2 || ts.length == 3) || vs.length != ts.length) = true) :
   swappedStores [.Tuple ts k p] (.Tuple vs k2 p2) env = pure none := by
  unfold swappedStores
  simp only [hl, Bool.true_or, if_true]
theorem sw_noTup {t v : Expr} {env : Env} (h : (match v with | .Tuple _ _ _ => false | _ => true) = true) : swappedStores [t] v env = pure none := by
  cases v <;> first | (cases t <;> rfl) | simp at h

def fnK (C : Ctx) : Bool := match C.sc.kind with
  | .function => true
  | _ => false
/-- the names of a parallel assignment are stored from the right -/
def swapB (C : Ctx) (ts vs : List Expr) : Bool :=
  fnK C && (ts.length == 2 || ts.length == 3) && (vs.length == ts.length) && vs.all noStar && !(vs.all (foldedForSure 8)) && !(vs.all (constantsAlone 8)) &&
  !((nmsOf C.sc ts).length != ts.length || (nmsOf C.sc ts).eraseDups.length != (nmsOf C.sc ts).length)
def noSwapB (C : Ctx) (ts vs : List Expr) : Bool :=
  (!(ts.length == 2 || ts.length == 3) || vs.length != ts.length) || (vs.all noStar && vs.all (foldedForSure 8)) ||
  (fnK C && (ts.length == 2 || ts.length == 3) && (vs.length == ts.length) && vs.all noStar && !(vs.all (foldedForSure 8)) && !(vs.all (constantsAlone 8)) &&
  ((nmsOf C.sc ts).length != ts.length || (nmsOf C.sc ts).eraseDups.length != (nmsOf C.sc ts).length))
section
variable {C : Ctx} {Γ : List (PySem.Str × Fn)} {X : Cx} {k : Nat}
theorem Fit.bk (G : Fit C Γ X k) (h : fnK C = true) : X.env.scope.kind = .function := by
  rw [G.sc]
  unfold fnK at h
  split at h
  · assumption
  · cases h
theorem bk_of {env : Env} (h : env.scope.kind = .function) : env.blockKind = .function := by unfold Env.blockKind; rw [h]; rfl
theorem swapB_ok {ts vs : List Expr} {j j2 : Nat} {p p2 : Pos} (G : Fit C Γ X k) (h : swapB C ts vs = true) : swappedStores [.Tuple ts j p] (.Tuple vs j2 p2) X.env = pure (some (nmsOf C.sc ts)) := by
  simp only [swapB, Bool.and_eq_true, Bool.not_eq_true'] at h
  obtain ⟨⟨⟨⟨⟨⟨h1, h2⟩, h3⟩, h4⟩, h5⟩, h6⟩, h7⟩ := h
  rw [sw_names (bk_of (G.bk h1)) h2 h3 h4 h5 h6, G.sc, h7]
  rfl
theorem noSwapB_ok {ts vs : List Expr} {j j2 : Nat} {p p2 : Pos} (G : Fit C Γ X k) (h : noSwapB C ts vs = true) : swappedStores [.Tuple ts j p] (.Tuple vs j2 p2) X.env = pure none := by
  simp only [noSwapB, Bool.or_eq_true (_ || _) _, Bool.or_eq_true (!_ || _) (_ && _)] at h
  rcases h with (h | h) | h
  · exact sw_long h
  · rw [Bool.and_eq_true] at h
    exact sw_folded h.1 h.2
  · simp only [Bool.and_eq_true, Bool.not_eq_true'] at h
    obtain ⟨⟨⟨⟨⟨⟨h1, h2⟩, h3⟩, h4⟩, h5⟩, h6⟩, h7⟩ := h
    rw [sw_names (bk_of (G.bk h1)) h2 h3 h4 h5 h6, G.sc, h7]
    rfl
end
/-- one assignment to a name -/
def okSet (C : Ctx) (i : Nat) (e : CE) (x : PySem.Str) (px : Pos) (v : Expr) : Bool :=
  decide (C.N[i]? = some x) && locB C x && stB C x && okE C e v && (match v with
    | .ListComp _ gs scope pos => fnK C && ((decide (C.sc.names.lookup x = some .cell)) || (lclB C x && (px.line == pos.line) && !(scope.names.any fun (n, k) => n == x && (k == .local || k == .cell)) && (match e with
      | .comp _ _ _ _ _ _ => true
      | .comp2 _ _ _ _ _ _ _ _ _ _ => true
      | _ => false)))
    | v => !(isComp v))
mutual
def okS (C : Ctx) : CS → Stmt → Bool
  | .set i e, st => match st with
    | .Assign [.Name x px] v _ => okSet C i e x px v
    | _ => false
  | .unpack gs e, st => match st with
    | .Assign [.Tuple ts _ _] v _ => okGs C gs ts && okE C e v && (match v with
      | .Tuple vs _ _ => noSwapB C ts vs
      | _ => true)
    | _ => false
  | .par is es, st => match st with
    | .Assign [.Tuple [.Name x px, .Name y py] _ _] (.Tuple vs _ _) _ => (match is with
      | [i, j] => swapB C [.Name x px, .Name y py] vs && decide (C.N[i]? = some x) && decide (C.N[j]? = some y) && decide (i ≠ j) && lclB C x && lclB C y && okL C es vs
      | _ => false)
    | .Assign [.Tuple [.Name x px, .Name y py, .Name z pz] _ _] (.Tuple vs _ _) _ => (match is with
      | [i, j, l] => swapB C [.Name x px, .Name y py, .Name z pz] vs && decide (C.N[i]? = some x) && decide (C.N[j]? = some y) && decide (C.N[l]? = some z) && decide (i ≠ j) && decide (i ≠ l) && decide (j ≠ l) && lclB C x && lclB C y && lclB C z && okL C es vs
      | _ => false)
    | _ => false
  | .sub i a e, st => match st with
    | .Assign [.Subscript (.Name x _) y _] v _ => decide (C.N[i]? = some x) && visB C x && nameB x && okE C a y && plainIx y && okE C e v
    | _ => false
  | .aug i o e, st => match st with
    | .AugAssign (.Name x _) op v _ => decide (C.N[i]? = some x) && locB C x && stB C x && okE C e v && ((decide (op = .Add) && decide (o = .add)) || (decide (op = .Sub) && decide (o = .sub)))
    | _ => false
  | .augsub _ _ _ _, _ => false
  | .app i e, st => match st with
    | .Expr (.Call (.Attribute (.Name x _) m apos) [v] [] cpos) _ => decide (m = "append") && decide (C.N[i]? = some x) && visB C x && nameB x && okE C e v && noStar v && (apos.endLine == cpos.line)
    | _ => false
  | .expr e, st => match st with
    | .Expr v _ => okE C e v && !(isComp v)
    | _ => false
  | .ifs c a b, st => match st with
    | .If x y z _ => okE C c x && okB C a y && okB C b z
    | _ => false
  | .forr tg it body _, st => match st with
    | .For g i b [] _ => okG C tg g && okI C it g i && plainIter i && okB C body b
    | _ => false
  | .whil c body _, st => match st with
    | .While x b [] _ => okE C c x && okB C body b
    | _ => false
  | .ret e, st => match st with
    | .Return (some v) _ => okE C e v
    | _ => false
  | .retN, st => match st with
    | .Return none _ => true
    | _ => false
  | .brk, st => match st with
    | .Break _ => true
    | _ => false
  | .cnt, st => match st with
    | .Continue _ => true
    | _ => false
  | .raise _ _, _ => true
  | .freeze _, _ => false
def okB (C : Ctx) : CB → List Stmt → Bool
  | .nil, sts => match sts with
    | [] => true
    | _ => false
  | .cons s r, sts => match s with
    | .freeze _ => okB C r sts
    | _ => match sts with
      | [] => false
      | st :: sts => okS C s st && okB C r sts
end
section
variable {C : Ctx} {Γ : List (PySem.Str × Fn)} {X : Cx} {k : Nat}
theorem s_never {st : Stmt} {f : FS} (h : ∀ ρ S r S', f ρ S ≠ .ok r S') : PS X st (rdS X.K X.mg f) := ⟨fun pins s σ H D I ⟨ι, F, S, ρ, r, S', _, _, hf, _⟩ => absurd hf (h ρ S r S')⟩
theorem set_sound (G : Fit C Γ X k) {i : Nat} {e : CE} {x : PySem.Str} {px pos : Pos} {v : Expr} (h : okSet C i e x px v = true) : PS X (.Assign [.Name x px] v pos) (rdS X.K X.mg (evS Γ (.set i e))) := by
  unfold okSet at h
  simp only [Bool.and_eq_true, decide_eq_true_eq] at h
  obtain ⟨⟨⟨⟨h1, h2⟩, h3⟩, h4⟩, h5⟩ := h
  have hE := e_sound G e v h4
  have h1' := G.ix h1
  show PS X _ (rdS X.K X.mg (sSet i (ev Γ e).v))
  split at h5
  · rename_i elt gs scope vpos
    simp only [Bool.and_eq_true, Bool.or_eq_true, decide_eq_true_eq, Bool.not_eq_true'] at h5
    obtain ⟨hk, h5⟩ := h5
    rcases h5 with h5 | ⟨⟨⟨h5, h6⟩, h7⟩, h8⟩
    · exact s_set G.nd h1' (G.loc h2) hE.1 (sw_cell (by rw [G.sc]; exact h5)) (G.st _ h3)
    · have hsw := sw_true (elt := elt) (gs := gs) (l := pos.line) (G.bk hk) (G.lcl h5) h6 h7
      split at h8
      · rename_i m own tg it c el
        unfold okE at h4
        split at h4
        · rename_i a g ii ifs scope' pos' heq
          cases heq
          simp only [Bool.and_eq_true, List.all_eq_true, decide_eq_true_eq] at h4
          obtain ⟨⟨⟨⟨⟨⟨k1, k2⟩, k3⟩, k4⟩, k5⟩, k6⟩, k7⟩ := h4
          have ok : BlkOk X.N X.env.scope scope (ownS C own) := by rw [G.N, G.sc]; exact blkOk_by k1
          have := s_setComp (X := X) (m := m) G.calm G.nd h1' (G.lcl h5) hsw ok (ts1 := slG tg) (by rw [ownS_2]; exact k2) (i_sound G it g ii k3)
            (fun s H D cl fp => (g_sound (G.blk s H scope D cl fp) tg g k5).1)
            (c := (ev Γ c).t) (fun s H D cl fp => tests_sound (e_sound (G.blk s H scope D cl fp) c) k6)
            (fun s H D cl fp => (e_sound (G.blk s H scope D cl fp) el _ k7).1) (plainIter_ok k4)
          rw [ownS_2] at this
          exact this
        · cases h4
      · rename_i m own own2 tg it c tg2 it2 c2 el
        unfold okE at h4
        split at h4
        · rename_i a g ii ifs g2 i2 ifs2 scope' pos' heq
          cases heq
          simp only [Bool.and_eq_true, List.all_eq_true, decide_eq_true_eq] at h4
          obtain ⟨⟨⟨⟨⟨⟨⟨⟨⟨⟨⟨⟨k1, k2⟩, k3⟩, k4⟩, k5⟩, k6⟩, k7⟩, k8⟩, k9⟩, k10⟩, k11⟩, k12⟩, k13⟩ := h4
          have ok : BlkOk X.N X.env.scope scope (ownS C own) := by rw [G.N, G.sc]; exact blkOk_by k1
          have := s_setComp2 (X := X) (m := m) G.calm G.nd h1' (G.lcl h5) hsw ok (own2 := own2) (ts1 := slG tg) (ts2 := slG tg2) (by rw [ownS_2]; exact k2) (by rw [ownS_2]; exact k3) k4 (i_sound G it g ii k5)
            (fun s H D cl fp => (g_sound (G.blk s H scope D cl fp) tg g k7).1)
            (c := (ev Γ c).t) (fun s H D cl fp => tests_sound (e_sound (G.blk s H scope D cl fp) c) k8)
            (fun s H D cl fp => i_sound (G.blk s H scope D cl fp) it2 g2 i2 k9)
            (fun s H D cl fp => (g_sound (G.blk s H scope D cl fp) tg2 g2 k11).1)
            (c2 := (ev Γ c2).t) (fun s H D cl fp => tests_sound (e_sound (G.blk s H scope D cl fp) c2) k12)
            (fun s H D cl fp => (e_sound (G.blk s H scope D cl fp) el _ k13).1) (plainIter_ok k6) (fun env => plainIter_ok k10)
          rw [ownS_2] at this
          exact this
        · cases h4
      · cases h8
  · exact s_set G.nd h1' (G.loc h2) hE.1 (sw_plain (by simpa using h5)) (G.st _ h3)
theorem nms2 {x y : PySem.Str} {px py : Pos} (h : (nmsOf C.sc [.Name x px, .Name y py]).length = 2) : nmsOf C.sc [.Name x px, .Name y py] = [x, y] := by
  unfold nmsOf nmOf at h ⊢
  simp only [List.filterMap_cons, List.filterMap_nil] at h ⊢
  split at h <;> split at h <;> simp_all
theorem nms3 {x y z : PySem.Str} {px py pz : Pos} (h : (nmsOf C.sc [.Name x px, .Name y py, .Name z pz]).length = 3) : nmsOf C.sc [.Name x px, .Name y py, .Name z pz] = [x, y, z] := by
  unfold nmsOf nmOf at h ⊢
  simp only [List.filterMap_cons, List.filterMap_nil] at h ⊢
  split at h <;> split at h <;> split at h <;> simp_all
theorem swap_len {ts vs : List Expr} (h : swapB C ts vs = true) : (nmsOf C.sc ts).length = ts.length ∧ vs.length = ts.length := by
  simp only [swapB, Bool.and_eq_true, Bool.not_eq_true'] at h
  obtain ⟨⟨⟨⟨⟨⟨h1, h2⟩, h3⟩, h4⟩, h5⟩, h6⟩, h7⟩ := h
  rw [Bool.or_eq_false_iff] at h7
  exact ⟨by simpa using h7.1, by simpa using h3⟩
mutual
theorem s_sound (G : Fit C Γ X k) : ∀ (c : CS) (st : Stmt), okS C c st = true → PS X st (rdS X.K X.mg (evS Γ c))
  | .set i e, st, h => by
    unfold okS at h
    split at h
    · exact set_sound G h
    · cases h
  | .unpack gs e, st, h => by
    unfold okS at h
    split at h
    · rename_i ts k1 p1 v pos
      simp only [Bool.and_eq_true] at h
      obtain ⟨⟨h1, h2⟩, h3⟩ := h
      have hg := g_sound G (.tup gs) (.Tuple ts k1 p1) (by unfold okG; exact h1)
      refine s_unpack (e_sound G e v h2).1 hg.1 sw_tup ?_ rfl
      split at h3
      · exact noSwapB_ok G h3
      · rename_i hne
        refine sw_noTup ?_
        split
        · exact absurd rfl (hne _ _ _)
        · rfl
    · cases h
  | .par is es, st, h => by
    unfold okS at h
    split at h
    · rename_i x px y py k1 p1 vs k2 p2 pos
      split at h
      · rename_i i j
        simp only [Bool.and_eq_true, decide_eq_true_eq] at h
        obtain ⟨⟨⟨⟨⟨⟨h1, h2⟩, h3⟩, h4⟩, h5⟩, h6⟩, h7⟩ := h
        have hw := swapB_ok (j := k1) (p := p1) (j2 := k2) (p2 := p2) G h1
        have hl := swap_len h1
        rw [nms2 hl.1] at hw
        match vs, hl.2, h7, hw with
        | [a, b], _, h7, hw => exact s_par G.calm G.nd (G.ix h2) (G.ix h3) h4 (G.lcl h5) (G.lcl h6) (l_sound G es _ h7) hw
      · cases h
    · rename_i x px y py z pz k1 p1 vs k2 p2 pos
      split at h
      · rename_i i j l
        simp only [Bool.and_eq_true, decide_eq_true_eq] at h
        obtain ⟨⟨⟨⟨⟨⟨⟨⟨⟨⟨h1, h2⟩, h3⟩, h4⟩, h5⟩, h6⟩, h7⟩, h8⟩, h9⟩, h10⟩, h11⟩ := h
        have hw := swapB_ok (j := k1) (p := p1) (j2 := k2) (p2 := p2) G h1
        have hl := swap_len h1
        rw [nms3 hl.1] at hw
        match vs, hl.2, h11, hw with
        | [a, b, c], _, h11, hw => exact s_par3 G.calm G.nd (G.ix h2) (G.ix h3) (G.ix h4) h5 h6 h7 (G.lcl h8) (G.lcl h9) (G.lcl h10) (l_sound G es _ h11) hw
      · cases h
    · cases h
  | .sub i a e, st, h => by
    unfold okS at h
    split at h
    · simp only [Bool.and_eq_true, decide_eq_true_eq] at h
      obtain ⟨⟨⟨⟨⟨h1, h2⟩, h3⟩, h4⟩, h5⟩, h6⟩ := h
      exact s_sub (by have := G.hu; omega) (G.ix h1) (G.vis h2) (nameB_ok h3).1 (nameB_ok h3).2 (e_sound G a _ h4).1 h5 (e_sound G e _ h6).1
    · cases h
  | .aug i o e, st, h => by
    unfold okS at h
    split at h
    · simp only [Bool.and_eq_true, Bool.or_eq_true, decide_eq_true_eq] at h
      obtain ⟨⟨⟨⟨h1, h2⟩, h3⟩, h4⟩, h5⟩ := h
      rcases h5 with ⟨rfl, rfl⟩ | ⟨rfl, rfl⟩
      · exact s_aug_add G.nd (G.ix h1) (G.loc h2) (e_sound G e _ h4).1 (G.st _ h3)
      · exact s_aug_sub G.nd (G.ix h1) (G.loc h2) (e_sound G e _ h4).1 (G.st _ h3)
    · cases h
  | .augsub _ _ _ _, st, h => by unfold okS at h; cases h
  | .app i e, st, h => by
    unfold okS at h
    split at h
    · simp only [Bool.and_eq_true, decide_eq_true_eq] at h
      obtain ⟨⟨⟨⟨⟨⟨rfl, h1⟩, h2⟩, h3⟩, h4⟩, h5⟩, h6⟩ := h
      exact s_app (G.ix h1) (G.vis h2) (nameB_ok h3).1 (nameB_ok h3).2 (e_sound G e _ h4).1 h5 h6
    · cases h
  | .expr e, st, h => by
    unfold okS at h
    split at h
    · simp only [Bool.and_eq_true, Bool.not_eq_true'] at h
      exact s_expr (e_sound G e _ h.1).1 (sw_plain h.2)
    · cases h
  | .ifs c a b, st, h => by
    unfold okS at h
    split at h
    · simp only [Bool.and_eq_true] at h
      exact s_if (e_sound G c _ h.1.1).2 (b_sound G a _ h.1.2) (b_sound G b _ h.2)
    · cases h
  | .forr tg it body w, st, h => by
    unfold okS at h
    split at h
    · simp only [Bool.and_eq_true] at h
      obtain ⟨⟨⟨h1, h2⟩, h3⟩, h4⟩ := h
      exact s_for G.hp G.calm (i_sound G it _ _ h2) (g_sound G tg _ h1).1 (b_sound G body _ h4) (plainIter_ok h3)
    · cases h
  | .whil c body w, st, h => by
    unfold okS at h
    split at h
    · simp only [Bool.and_eq_true] at h
      exact s_while G.hp (e_sound G c _ h.1).2 (b_sound G body _ h.2)
    · cases h
  | .ret e, st, h => by
    unfold okS at h
    split at h
    · exact s_ret (e_sound G e _ h).1
    · cases h
  | .retN, st, h => by
    unfold okS at h
    split at h
    · exact s_retN
    · cases h
  | .brk, st, h => by
    unfold okS at h
    split at h
    · exact s_brk
    · cases h
  | .cnt, st, h => by
    unfold okS at h
    split at h
    · exact s_cnt
    · cases h
  | .raise c es, st, h => s_never fun ρ S r S' hh => by
    obtain ⟨xs, S1, _, hh⟩ := bind_ok (show Out.bind _ _ = _ from hh)
    split at hh <;> cases hh
  | .freeze _, st, h => by unfold okS at h; cases h
theorem b_sound (G : Fit C Γ X k) : ∀ (c : CB) (sts : List Stmt), okB C c sts = true → PSs X sts (rdS X.K X.mg (evB Γ c))
  | .nil, sts, h => by
    unfold okB at h
    split at h
    · exact s_nilB
    · cases h
  | .cons s r, sts, h => by
    unfold okB at h
    split at h
    · exact s_freeze (b_sound G r sts h)
    · split at h
      · cases h
      · rw [Bool.and_eq_true] at h
        exact s_consB (s_sound G s _ h.1) (b_sound G r _ h.2)
end

/-! ### a def -/
variable {K : PySem.W.Frag} {mg : PySem.Str → Option Value} {F H : Hp} {ι ι' : Plc} {S S' : Store}
theorem Sim.enterO (s : Sim K mg ι F S H) {D : Addr} {o : HO} {x : Ob} (hH : H D = some o) (hF : F D = none) (hι : D ∉ ι.l) (hw : ι.w D = none) (r : RepO K mg F x D o) :
    Sim K mg ⟨ι.l ++ [D], ι.w⟩ F (S ++ [x]) H ∧ Ext ι F ⟨ι.l ++ [D], ι.w⟩ F := by
  refine ⟨⟨s.sub, by simp [s.len], ?_, fun a u e => ?_, fun n y e => ?_⟩, ⟨⟨⟨[D], rfl⟩, rfl⟩, Sub.refl⟩⟩
  · show (ι.l ++ [D]).Nodup
    rw [List.nodup_append]
    exact ⟨s.nd, by simp, fun a ha b hb => by simp at hb; subst hb; exact fun z => hι (z ▸ ha)⟩
  · obtain ⟨h1, h2, h3⟩ := s.frm a u e
    have ha : a ≠ D := fun z => by subst z; rw [hw] at e; cases e
    exact ⟨h1, h2, by simp [h3, ha]⟩
  · by_cases hn : n < S.length
    · rw [List.getElem?_append_left hn] at e
      obtain ⟨a, u, h1, h2, h3⟩ := s.at_ n y e
      exact ⟨a, u, by show (ι.l ++ [D])[n]? = _; rw [List.getElem?_append_left (by rw [s.len]; exact hn)]; exact h1, h2, h3⟩
    · have hn2 : n = S.length := by
        have := (List.getElem?_eq_some_iff.mp e).1
        simp at this; omega
      subst hn2
      simp at e; subst e
      exact ⟨D, _, by show (ι.l ++ [D])[S.length]? = _; rw [← s.len]; simp, hH, r⟩
theorem leave_ok {S0 : Store} {ι0 : Plc} {F0 : Hp} {x y : SV} {v : V} {Q : V → Hp → Prop} (hl : ι0.l.length = S0.length) (ex : Ext ι0 F0 ι F) (s : Sim K mg ι F S H) (r : RepS K mg F ι x v) (h : leave S0.length x S = .ok y S')
    (q : ∀ ι' F' w H', Ext ι0 F0 ι' F' → Sim K mg ι' F' S' H' → RepS K mg F' ι' y w → Q w H') : Q v H := by
  have tk : ∀ {F1 : Hp}, Sub F0 F1 → Ext ι0 F0 ⟨ι.l.take S0.length, ι.w⟩ F1 := fun {F1} hs => by
    obtain ⟨⟨⟨t, e1⟩, e2⟩, e3⟩ := ex
    refine ⟨⟨⟨[], ?_⟩, e2⟩, hs⟩
    show ι.l.take S0.length = _
    rw [e1, ← hl, List.take_left, List.append_nil]
  unfold leave at h
  cases x with
  | v x =>
    cases h
    exact q _ _ _ _ (tk ex.2) (s.take _) r
  | l m =>
    simp only at h
    split at h
    · rename_i hm
      cases h
      obtain ⟨p, h1, rfl⟩ := r
      refine q _ _ _ _ (tk ex.2) (s.take _) ⟨p, ?_, rfl⟩
      show (ι.l.take S0.length)[m]? = _
      rw [List.getElem?_take_of_lt hm]; exact h1
    · rename_i hm
      split at h
      · rename_i xs hS
        cases h
        obtain ⟨a, vs, h1, s2, e2, r2⟩ := s.shut hS
        obtain ⟨p, h3, rfl⟩ := r
        rw [h1] at h3; cases h3
        have s3 := s2.take S0.length
        have e : (S.set m Ob.gone).take S0.length = S.take S0.length := by
          rw [List.take_set_of_le (by omega)]
        rw [e] at s3
        exact q _ _ _ _ (tk (ex.2.trans e2.2)) s3 r2
      · rename_i kvs hS
        cases h
        obtain ⟨p, h3, rfl⟩ := r
        obtain ⟨a, o, h1, h2, h4, ws, e2, h5⟩ := s.at_ m _ hS
        rw [h3] at h1; cases h1
        subst e2
        have s3 := s.take S0.length
        have hmem : p ∈ ι.l := List.mem_of_getElem? h3
        have hw : ι.w p = none := by
          cases e : ι.w p with
          | none => rfl
          | some o => exact absurd hmem (s.frm _ _ e).2.2
        have hnot : p ∉ ι.l.take S0.length := fun hp => by
          obtain ⟨j, hj⟩ := List.getElem?_of_mem hp
          have hjl : j < S0.length := by
            have := (List.getElem?_eq_some_iff.mp hj).1
            simp at this; omega
          rw [List.getElem?_take_of_lt hjl] at hj
          obtain ⟨l1, e1⟩ := List.getElem?_eq_some_iff.mp hj
          obtain ⟨l2, e2⟩ := List.getElem?_eq_some_iff.mp h3
          have := (List.getElem_inj s.nd).mp (e1.trans e2.symm)
          omega
        obtain ⟨s4, e4⟩ := s3.enterO (x := .dic kvs) h2 h4 hnot hw ⟨h4, ws, rfl, h5⟩
        refine q _ _ _ _ ((tk ex.2).trans e4) s4 ⟨p, ?_, rfl⟩
        show (ι.l.take S0.length ++ [p])[S0.length]? = _
        have : (ι.l.take S0.length).length = S0.length := by
          rw [List.length_take, s.len]
          have := (List.getElem?_eq_some_iff.mp hS).1
          omega
        rw [List.getElem?_append_right (by omega), this]
        simp
      · cases h
theorem start_rep {N : List PySem.Str} : ∀ {xs : List SV} {vs : List V}, RepSs K mg F ι xs vs → RepR K mg F ι (xs.map some ++ List.replicate (N.length - xs.length) none) (L2.start N vs) := by
  intro xs vs r
  have hl := r.length
  refine ⟨by simp [L2.start, hl], fun i x h => ?_⟩
  by_cases hi : i < xs.length
  · rw [List.getElem?_append_left (by simpa using hi)] at h
    rw [List.getElem?_map] at h
    cases hx : xs[i]? with
    | none => rw [hx] at h; cases h
    | some z =>
      rw [hx] at h
      cases h
      obtain ⟨v, h1, h2⟩ := r.get hx
      refine ⟨v, ?_, h2⟩
      unfold L2.start
      rw [List.getElem?_append_left (by simp; omega), List.getElem?_map, h1]
      rfl
  · rw [List.getElem?_append_right (by simpa using hi), List.getElem?_replicate] at h
    split at h <;> cases h
theorem fnSem_inv {d : Def} {xs : List SV} {y : SV} (h : fnSem Γ d xs S = .ok y S') : xs.length = d.np ∧ ∃ r S1, evB Γ d.body (xs.map some ++ List.replicate (d.ns - d.np) none) S = .ok r S1 ∧
    ((∃ x, r = .ret x ∧ leave S.length x S1 = .ok y S') ∨ (∃ ρ, r = .next ρ ∧ leave S.length (.v .non) S1 = .ok y S')) := by
  unfold fnSem at h
  split at h
  · rename_i hl
    refine ⟨hl, ?_⟩
    split at h
    · exact ⟨_, _, by assumption, .inl ⟨_, rfl, h⟩⟩
    · exact ⟨_, _, by assumption, .inr ⟨_, rfl, h⟩⟩
    · cases h
    · cases h
    · cases h
  · cases h
def FOs (P : Program) (w : World) (K : PySem.W.Frag) (mg : PySem.Str → Option Value) (base : Heap) (k : Nat) : List PySem.Str → List (PySem.Str × Fn) → Prop
  | [], [] => True
  | n :: ns, f :: fs => (f.1 = n ∧ FO P w K mg base k n f.2) ∧ FOs P w K mg base k ns fs
  | _, _ => False
section
variable {P : Program} {w : World} {base : Heap}
theorem FOs.get {k : Nat} : ∀ {ns : List PySem.Str} {Γ : List (PySem.Str × Fn)}, FOs P w K mg base k ns Γ → ∀ (i : Nat) (n : PySem.Str), ns[i]? = some n → ∃ f, Γ[i]? = some (n, f) ∧ FO P w K mg base k n f
  | [], [], _, i, n, h => by simp at h
  | [], _ :: _, h, _, _, _ => h.elim
  | _ :: _, [], h, _, _, _ => h.elim
  | m :: ns, (m', f) :: fs, ⟨⟨h0, h1⟩, h2⟩, 0, n, h => by
    have h0 : m' = m := h0
    subst h0
    simp at h; subst h; exact ⟨f, rfl, h1⟩
  | m :: ns, f :: fs, ⟨h1, h2⟩, i + 1, n, h => by simpa using FOs.get h2 i n (by simpa using h)
theorem FOs.look {k : Nat} : ∀ {ns : List PySem.Str} {Γ : List (PySem.Str × Fn)}, FOs P w K mg base k ns Γ → ∀ (n : PySem.Str) (f : Fn), Γ.lookup n = some f → FO P w K mg base k n f
  | [], [], _, n, f, h => by cases h
  | [], _ :: _, h, _, _, _ => h.elim
  | _ :: _, [], h, _, _, _ => h.elim
  | m :: ns, (m', g) :: fs, ⟨⟨h0, h1⟩, h2⟩, n, f, h => by
    have h0 : m' = m := h0
    subst h0
    rw [List.lookup_cons] at h
    split at h
    · rename_i he
      cases h
      rw [eq_of_beq he]; exact h1
    · exact FOs.look h2 n f h
end
theorem fn_mk {P : Program} {w : World} {base : Heap} {x qual : PySem.Str} {params : Arguments} {body : List Stmt} {scope : Scope} {f : Addr} {fd : FuncData} {ps : List PySem.Str} {k : Nat} {d : Def} {C : Ctx}
    (F : FunD K x qual params body scope [] [] f fd) (S : FnScope C.N ps scope) (hsc : C.sc = scope) (hnp : d.np = ps.length) (hns : d.ns = C.N.length)
    (ok : okB C d.body body = true) (hfo : FOs P w K mg base k C.fs Γ) (hglob : ∀ p ∈ C.glob, GlobOk K mg p.1 p.2) (hblt : ∀ n ∈ C.blt, mg n = none) :
    FnOk P w K mg base CX0 (k + 1) f fd ps (fun vs H Q _ => rdV K mg (fnSem Γ d) vs H Q) := by
  have len : ∀ (vs : List V) (H : Hp) (Q : VK) (E : XK), rdV K mg (fnSem Γ d) vs H Q → vs.length = ps.length := fun vs H Q E h => by
    obtain ⟨ι, F, S, xs, y, S', sim, r, hf, q⟩ := h
    rw [← r.length, (fnSem_inv hf).1, hnp]
  refine F.ok S len fun cdv A outer s H vs Q E hr hsp => ?_
  obtain ⟨ι, F0, S0, xs, y, S', sim, r, hf, q⟩ := hsp
  obtain ⟨hx, fl, S1, hbody, hres⟩ := fnSem_inv hf
  have G : Fit C Γ (cxOf CX0 P w K mg base C.N qual scope f cdv A outer s H E).nox k :=
    { N := rfl, nd := S.nd, sc := hsc.symm, calm := rfl, xe := rfl, room := hr, st := fun _ _ => .inl rfl, fo := hfo.get, fl := hfo.look, glob := hglob, blt := hblt }
  refine ⟨_, (b_sound G d.body body ok).nox, ι, F0, S0, _, fl, S1, sim, ?_, hbody, fun ι1 F1 H1 e1 s1 => ?_⟩
  · have := start_rep (N := C.N) r
    rw [hx, ← hns] at this
    exact this
  · rcases hres with ⟨z, rfl, hz⟩ | ⟨ρ, rfl, hz⟩
    · exact fun v rv => leave_ok sim.len e1 s1 rv hz q
    · exact fun σ rr => leave_ok (v := .non) sim.len e1 s1 (show RepS K mg F1 ι1 (.v .non) .non from rfl) hz q
theorem fo_mk {P : Program} {w : World} {base : Heap} {x qual : PySem.Str} {params : Arguments} {body : List Stmt} {scope : Scope} {f : Addr} {fd : FuncData} {ps : List PySem.Str} {k : Nat} {d : Def} {C : Ctx} {name : PySem.Str}
    (F : FunD K x qual params body scope [] [] f fd) (hb : Binds K fd ps []) (hmg : mg name = some (.ref f)) (S : FnScope C.N ps scope) (hsc : C.sc = scope) (hnp : d.np = ps.length) (hns : d.ns = C.N.length)
    (ok : okB C d.body body = true) (hfo : FOs P w K mg base k C.fs Γ) (hglob : ∀ p ∈ C.glob, GlobOk K mg p.1 p.2) (hblt : ∀ n ∈ C.blt, mg n = none) :
    FO P w K mg base (k + 1) name (fnSem Γ d) := ⟨f, fd, ps, hmg, F.kp, hb, fn_mk F S hsc hnp hns ok hfo hglob hblt⟩
end
end FW

/-! FW: what the module's top leaves: defs, constants; the law's end. -/
namespace FW
open PySem PySem.Spec PyProof.Rows L2 RZ

mutual
/-- the value stands for x, by the kept part of the heap -/
def repB (K : PySem.W.Frag) : PV → Value → Bool
  | .non, .none => true
  | .bl a, .bool b => a == b
  | .int i, .int j _ => decide (i = j)
  | .str s, .str t _ => decide (s = t) && PyData.strOk s
  | .tup xs, .ref p => match K.lookup p with
    | some ⟨.type c, none, .seq its _, _⟩ => decide (c = "tuple") && (decide (its.size ≤ sizeLine) && repBs K xs its.toList)
    | _ => false
  | _, _ => false
def repBs (K : PySem.W.Frag) : List PV → List Value → Bool
  | [], [] => true
  | x :: xs, u :: us => repB K x u && repBs K xs us
  | _, _ => false
end
section
variable {K : PySem.W.Frag} {mg : PySem.Str → Option Value}
mutual
theorem repB_ok : ∀ {x : PV} {u : Value}, repB K x u = true → ∃ v, RelV v u ∧ Rep K mg (fun _ => none) x v ∧ TupK K x v
  | .non, u, h => by
    cases u <;> simp [repB] at h
    exact ⟨.non, rfl, rfl, trivial⟩
  | .bl a, u, h => by
    cases u <;> simp [repB] at h
    subst h
    exact ⟨.bl a, rfl, rfl, trivial⟩
  | .int i, u, h => by
    cases u <;> simp [repB] at h
    subst h
    exact ⟨.int i, ⟨_, rfl⟩, rfl, trivial⟩
  | .str s, u, h => by
    cases u <;> simp [repB] at h
    obtain ⟨rfl, h⟩ := h
    exact ⟨.str s, ⟨_, rfl⟩, ⟨rfl, h⟩, trivial⟩
  | .tup xs, u, h => by
    cases u <;> try (simp [repB] at h; done)
    rename_i p
    unfold repB at h
    split at h
    · rename_i c its n sl hk
      rw [Bool.and_eq_true, Bool.and_eq_true, decide_eq_true_eq, decide_eq_true_eq] at h
      obtain ⟨rfl, h1, h2⟩ := h
      obtain ⟨vs, g1, g2⟩ := repBs_ok h2
      exact ⟨.ref p, rfl, ⟨p, vs, rfl, .inr ⟨_, its, n, hk, rfl, rfl, h1, g1⟩, g2⟩, p, _, rfl, hk, rfl, rfl⟩
    · cases h
  | .lst xs, u, h => by cases u <;> simp [repB] at h
  | .fn _, u, h => by cases u <;> simp [repB] at h
theorem repBs_ok : ∀ {xs : List PV} {us : List Value}, repBs K xs us = true → ∃ vs, Vals vs us ∧ RepL K mg (fun _ => none) xs vs
  | [], us, h => by
    cases us <;> simp [repBs] at h
    exact ⟨[], .nil, rfl⟩
  | x :: xs, us, h => by
    cases us with
    | nil => simp [repBs] at h
    | cons u us =>
      simp only [repBs, Bool.and_eq_true] at h
      obtain ⟨v, a1, a2, _⟩ := repB_ok h.1
      obtain ⟨vs, b1, b2⟩ := repBs_ok h.2
      exact ⟨v :: vs, .cons a1 b1, v, vs, rfl, a2, b2⟩
end
end
def constB (K : PySem.W.Frag) (p : PySem.Str × PV) : Bool := match PySem.W.nsIn K mainGlobals p.1 with
  | some (some u) => repB K p.2 u
  | _ => false
theorem constB_ok {K : PySem.W.Frag} {h : Heap} {mg : PySem.Str → Option Value} (X : K.In h) (G : h.Ns mainGlobals mg) {p : PySem.Str × PV} (c : constB K p = true) : GlobOk K mg p.1 p.2 := by
  unfold constB at c
  split at c
  · rename_i u e
    obtain ⟨v, h1, h2, h3⟩ := repB_ok (mg := mg) c
    exact ⟨u, v, PySem.W.mg_of X G e, h1, h2, h3⟩
  · cases c
/-- no list is kept -/
def notList (o : Obj) : Bool := !(o.cls == .type "list")
def frN (g : Addr → Option Obj) (as : List Addr) : PySem.W.Frag := He.frG (fun a => (g a).filter notList) as
theorem frN_at {g : Addr → Option Obj} {as : List Addr} {a : Addr} {o : Obj} (h : (frN g as).lookup a = some o) : g a = some o ∧ notList o = true := by
  have := He.frG_at as h
  rw [Option.filter_eq_some_iff] at this
  exact this
abbrev AlF : Type := He.AlD × Bool
def obsF (fa : List He.Fa) (fn : List He.DefD) (gs : List (PySem.Str × PV)) (n : Nat) (g : Addr → Option Obj) : AlF :=
  (He.obsD fa fn (frN g (He.asD g n)), gs.all (constB (frN g (He.asD g n))))
structure SaysF (fa : List He.Fa) (fn : List He.DefD) (gs : List (PySem.Str × PV)) (K : PySem.W.Frag) : Prop where
  d : He.SaysD fa fn K
  g : gs.all (constB K) = true
  n : ∀ a o, K.lookup a = some o → notList o = true
def hookF (n : Nat) (fa : List He.Fa) (fn : List He.DefD) (gs : List (PySem.Str × PV)) : PySem.W.Hook where
  α := AlF
  obs := fun s => obsF fa fn gs n s.heap.get?
  val := fun _ => (He.valD fn, true)
  says := fun _ h => ∃ K : PySem.W.Frag, K.In h ∧ SaysF fa fn gs K
  of := fun _ _ e => ⟨_, fun _ _ z => (frN_at z).1, congrArg Prod.fst e, congrArg Prod.snd e, fun _ _ z => (frN_at z).2⟩
  keeps := fun _ _ _ ⟨K, hK, c⟩ k => ⟨K, PySem.W.Frag.In.keeps hK k, c⟩
theorem obsF_eq {n : Nat} {fa : List He.Fa} {fn : List He.DefD} {gs : List (PySem.Str × PV)} {g : Addr → Option Obj} {s : Shared} (h : ∀ a, g a = s.heap.get? a) : obsF fa fn gs n g = (hookF n fa fn gs).obs s := by
  have e : g = s.heap.get? := funext h
  rw [e] <;> rfl
/-- the law's promise, by its meaning -/
theorem law_sp {K : PySem.W.Frag} {mg : PySem.Str → Option Value} {f : Fn} {H : Hp} {a : Addr} {ns : List Int} (hK : ∀ a o, K.lookup a = some o → notList o = true) (hS : SqL K H a (ns.map V.int)) (hf : ∃ S', f [.v (.lst (ns.map PV.int))] [] = .ok (.v (.bl true)) S') :
    rdV K mg f [.ref a] H fun v _ => v = .bl true := by
  have hr : Rd H a (.lst (ns.map V.int)) := by
    rcases hS with h | ⟨o, its, n, h1, h2, _⟩
    · exact h
    · have := hK a o h1
      rw [notList, h2] at this
      exact absurd this (by decide)
  obtain ⟨S', hf⟩ := hf
  have rep : ∀ (F : Hp) (ns : List Int), RepL K mg F (ns.map PV.int) (ns.map V.int) := by
    intro F ns
    induction ns with
    | nil => exact rfl
    | cons n ns ih => exact ⟨.int n, _, rfl, rfl, ih⟩
  have sim0 : ∀ u : HO, H a = some u → Sim K mg ⟨[], fun _ => none⟩ (upd (fun _ => none) a u) [] H := fun u h => by
    refine ⟨fun b o e => ?_, rfl, List.nodup_nil, fun b o e => (by cases e), fun n x e => by simp at e⟩
    by_cases hb : b = a
    · subst hb; rw [upd_same] at e; cases e; exact h
    · rw [upd_ne hb] at e; cases e
  have sim : ∃ F : Hp, Sim K mg ⟨[], fun _ => none⟩ F [] H ∧ Rd F a (.lst (ns.map V.int)) := by
    rcases hr with h | ⟨u, h⟩
    · exact ⟨_, sim0 _ h, .inl upd_same⟩
    · exact ⟨_, sim0 _ h, .inr ⟨u, upd_same⟩⟩
  obtain ⟨F, sim, hF⟩ := sim
  exact ⟨_, F, [], [.v (.lst (ns.map PV.int))], .v (.bl true), S', sim, ⟨.ref a, [], rfl, ⟨a, _, rfl, hF, rep F ns⟩, rfl⟩, hf, fun ι' F' v H' _ _ r => r⟩
end FW

/-! FW: the ends of a law's proof. -/
namespace FW
open PySem PySem.Spec PyProof.Rows L2 RZ
abbrev faOf (glos blts : List PySem.Str) : List He.Fa := glos.map He.Fa.glo ++ blts.map He.Fa.free
section
variable {P : Program} {w : World} {K : PySem.W.Frag} {mg : PySem.Str → Option Value} {base h : Heap} {fa : List He.Fa} {fn : List He.DefD} {gs : List (PySem.Str × PV)} {glos blts : List PySem.Str}
theorem fact_mem (c : He.SaysD fa fn K) {f : He.Fa} (h : f ∈ fa) : f.ok K = true := by
  obtain ⟨i, hi⟩ := List.getElem?_of_mem h
  exact c.fact i hi
theorem glo_at (X : K.In h) (G : h.Ns mainGlobals mg) (c : He.SaysD (faOf glos blts) fn K) {n : PySem.Str} (hn : n ∈ glos) : mg n = some (.ref (He.ga K n)) :=
  He.glo_ok X G (fact_mem c (List.mem_append_left _ (List.mem_map_of_mem hn)))
theorem blt_all (X : K.In h) (G : h.Ns mainGlobals mg) (c : He.SaysD (faOf glos blts) fn K) : ∀ n ∈ blts, mg n = none := fun n hn =>
  He.free_ok X G (fact_mem c (List.mem_append_right _ (List.mem_map_of_mem hn)))
theorem glob_all (X : K.In h) (G : h.Ns mainGlobals mg) (c : SaysF fa fn gs K) : ∀ p ∈ gs, GlobOk K mg p.1 p.2 := fun p hp => constB_ok X G (List.all_eq_true.mp c.g p hp)
/-- a def of which nothing is said -/
theorem fo_bad {x qual : PySem.Str} {params : Arguments} {body : List Stmt} {scope : Scope} {f : Addr} {fd : FuncData} {ps : List PySem.Str} {k : Nat} {name : PySem.Str} (F : FunD K x qual params body scope [] [] f fd) (hb : Binds K fd ps []) (hmg : mg name = some (.ref f)) :
    FO P w K mg base k name (fun _ _ => .bad) := by
  have no : ∀ {vs : List V} {H : Hp} {Q : VK}, rdV K mg (fun _ _ => .bad) vs H Q → False := fun h => by
    obtain ⟨ι, F, S, xs, y, S', sim, r, hf, q⟩ := h
    cases hf
  exact ⟨f, fd, ps, hmg, F.kp, hb, ⟨fun vs H Q E h => (no h).elim, fun A outer s H args us vs Q E hr he hbd hv h => (no h).elim⟩⟩
end
/-- a law's end, by the meaning of its def -/
theorem law_end {l : PySem.W.OpenLaw} {k : Nat} {q : Program} {loose : List PySem.Str} {XP : (PySem.Str → Option Value) → Heap → Prop} {d : DefRec} {x : PySem.Str} {n : Nat} {fn : List He.DefD} {gs : List (PySem.Str × PV)} {glos blts : List PySem.Str} {f : Fn} {hm : Nat} {dl : He.DefD} {il : Nat}
    (hn : l.most = some n) (hn2 : n ≤ sizeLine) (hdf : d.params.defaults = []) (hr : Room k callerA) (hdl : fn[il]? = some dl) (hd0 : dl.dfl = []) (hk0 : dl.kwd = []) (hx : dl.at_ = (d.name, none)) (hgl : d.name ∈ glos)
    (hbd : ∀ (kV doc pm : Value) (an : Option Addr) (cdv ct : Value) (us : List Value), us.length = ([x] : List PySem.Str).length → bindArgs (PySem.W.fnOf dl.name dl.qual dl.params dl.body dl.scope .none kV doc pm an cdv ct) ⟨us, []⟩ = pure (([x] : List PySem.Str).zip us))
    (F : ∀ (w : World) (mg : PySem.Str → Option Value) (h : Heap) (K : PySem.W.Frag) (base : Heap) (fd : FuncData), K.In h → h.Ns mainGlobals mg → SaysF (faOf glos blts) fn gs K → FunD K dl.name dl.qual dl.params dl.body dl.scope [] [] (He.fAd K dl.at_) fd →
      FnOk l.prog w K mg base CX0 k (He.fAd K dl.at_) fd [x] (fun vs H Q _ => rdV K mg f vs H Q))
    (hf : ∀ ns : List Int, ns.length ≤ n → ∃ S', f [.v (.lst (ns.map PV.int))] [] = .ok (.v (.bl true)) S') :
    PySem.W.WalkO q loose XP (hookF hm (faOf glos blts) fn gs).says l.row.toRowW d [] (fun f vs => PySem.call f vs) := by
  refine walk_ofE (n := n) (k := k) (x := x) (CX := CX0) hn hn2 hdf hr ?_ (fun _ _ _ _ z => z)
  intro w mg fad h Y G hmg
  obtain ⟨K, KX, c⟩ := Y
  obtain ⟨fd, FD⟩ := c.d.def_ il hdl
  have e1 : dl.dvs K = [] := by unfold He.DefD.dvs; rw [hd0]; rfl
  have e2 : dl.kws K = [] := by unfold He.DefD.kws; rw [hk0]; rfl
  rw [e1, e2] at FD
  have ea : He.fAd K dl.at_ = fad := by
    have := glo_at KX G c.d hgl
    rw [hmg] at this
    cases this
    rw [hx]
    rfl
  have hb := FunD.bindsA (ps := [x]) FD hbd
  refine ⟨K, fd, fun vs H Q _ => rdV K mg f vs H Q, KX, fun s u => hb s [u] rfl, fun H a ns hl _ hS => law_sp c.n hS (hf ns hl), fun base _ _ => ?_⟩
  rw [← ea]
  exact F w mg h K base fd KX G c FD
end FW

/-! codes and meanings of defs: printed by gen.py -/
namespace FWP
open PySem FW
def d__law_taken : FW.Def := ⟨2, 4, (.cons (.ifs (.cmp .gt (.idx (.var 0) (.k (.int 3))) (.k (.int 0)))
      (.cons (.set 3 (.bin .mod false (.bi .int false (.cons (.idx (.var 0) (.k (.int 3))) .nil)) (.var 1)))
      (.cons (.sub 0 (.k (.int 3)) (.bin .fdiv false (.idx (.var 0) (.k (.int 3))) (.var 1)))
      (.cons (.ret (.var 3)) .nil)))
      (.nil))
      (.cons (.sub 0 (.k (.int 1)) (.bin .add false (.idx (.var 0) (.k (.int 1))) (.k (.int 1))))
      (.cons (.ifs (.cmp .gt (.idx (.var 0) (.k (.int 1))) (.bi .len false (.cons (.idx (.var 0) (.k (.int 0))) .nil)))
      (.cons (.sub 0 (.k (.int 2)) (.bin .mod false (.bi .int false (.cons (.bin .add false (.bin .mul false (.idx (.var 0) (.k (.int 2))) (.k (.int 48271))) (.k (.int 11))) .nil)) (.k (.int 2147483647))))
      (.cons (.ret (.bin .mod false (.bi .int false (.cons (.bin .fdiv false (.idx (.var 0) (.k (.int 2))) (.k (.int 7))) .nil)) (.var 1))) .nil))
      (.nil))
      (.cons (.set 2 (.idx (.idx (.var 0) (.k (.int 0))) (.bin .sub false (.idx (.var 0) (.k (.int 1))) (.k (.int 1)))))
      (.cons (.sub 0 (.k (.int 2)) (.bin .mod false (.bi .int false (.cons (.bin .add false (.bin .add false (.bin .mul false (.idx (.var 0) (.k (.int 2))) (.k (.int 48271))) (.var 2)) (.k (.int 11))) .nil)) (.k (.int 2147483647))))
      (.cons (.ifs (.cmp .ge (.var 2) (.bin .pow false (.k (.int 10)) (.k (.int 18))))
      (.cons (.sub 0 (.k (.int 3)) (.bin .fdiv false (.var 2) (.var 1))) .nil)
      (.nil))
      (.cons (.ret (.bin .mod false (.bi .int false (.cons (.var 2) .nil)) (.var 1))) .nil)))))))⟩
def F__law_taken : Fn := fnSem [] d__law_taken
def d__law_pick : FW.Def := ⟨2, 2, (.cons (.ret (.idx (.var 1) (.call 0 (.cons (.var 0) (.cons (.bi .len false (.cons (.var 1) .nil)) .nil))))) .nil)⟩
def F__law_pick : Fn := fnSem [("_law_taken", F__law_taken)] d__law_pick
def d__law_gcd : FW.Def := ⟨2, 2, (.cons (.par [0, 1] (.cons (.bi .abs false (.cons (.var 0) .nil)) (.cons (.bi .abs false (.cons (.var 1) .nil)) .nil)))
      (.cons (.whil (.cmp .ne (.var 1) (.k (.int 0)))
      (.cons (.par [0, 1] (.cons (.var 1) (.cons (.bin .mod false (.bi .int false (.cons (.var 0) .nil)) (.var 1)) .nil))) .nil) [])
      (.cons (.ret (.var 0)) .nil)))⟩
def F__law_gcd : Fn := fnSem [] d__law_gcd
def d__law_ratio : FW.Def := ⟨2, 3, (.cons (.set 2 (.call 0 (.cons (.var 0) (.cons (.var 1) .nil))))
      (.cons (.set 2 (.ite (.cmp .lt (.var 1) (.k (.int 0))) (.bin .sub false (.k (.int 0)) (.var 2)) (.var 2)))
      (.cons (.ret (.tup (.cons (.bin .fdiv false (.var 0) (.var 2)) (.cons (.bin .fdiv false (.var 1) (.var 2)) .nil)))) .nil)))⟩
def F__law_ratio : Fn := fnSem [("_law_gcd", F__law_gcd)] d__law_ratio
def d__law_times : FW.Def := ⟨2, 2, (.cons (.ret (.call 0 (.cons (.bin .mul false (.idx (.var 0) (.k (.int 0))) (.idx (.var 1) (.k (.int 0)))) (.cons (.bin .mul false (.idx (.var 0) (.k (.int 1))) (.idx (.var 1) (.k (.int 1)))) .nil)))) .nil)⟩
def F__law_times : Fn := fnSem [("_law_ratio", F__law_ratio)] d__law_times
def d__law_life : FW.Def := ⟨2, 10, (.cons (.par [6, 7, 8] (.cons (.bin .add false (.k (.int 1)) (.call 1 (.cons (.var 0) (.cons (.var 1) .nil)))) (.cons (.call 1 (.cons (.var 0) (.cons (.k (.int 3)) .nil))) (.cons (.list false .nil) .nil))))
      (.cons (.set 2 (.call 0 (.cons (.var 0) (.cons (.list false (.cons (.k (.int 4)) (.cons (.k (.int 6)) (.cons (.k (.int 10)) .nil)))) .nil))))
      (.cons (.set 3 (.comp false [9] (.name 9) (.rng1 (.bin .sub false (.var 6) (.k (.int 1)))) (.k (.bl true)) (.call 1 (.cons (.var 0) (.cons (.var 2) .nil)))))
      (.cons (.set 3 (.ite (.cmp .gt (.var 7) (.k (.int 0))) (.bi .sorted false (.cons (.var 3) .nil)) (.var 3)))
      (.cons (.set 4 (.list true (.cons (.tup (.cons (.k (.int 1)) (.cons (.k (.int 1)) .nil))) .nil)))
      (.cons (.forr (.name 5) (.seq (.var 3))
      (.cons (.app 4 (.call 2 (.cons (.idx (.var 4) (.neg (.k (.int 1)))) (.cons (.call 3 (.cons (.bin .sub false (.var 2) (.var 5)) (.cons (.var 2) .nil))) .nil)))) .nil) [])
      (.cons (.ret (.bi .tuple false (.cons (.bin .add false (.var 4) (.list false (.cons (.tup (.cons (.k (.int 0)) (.cons (.k (.int 1)) .nil))) .nil))) .nil))) .nil)))))))⟩
def F__law_life : Fn := fnSem [("_law_pick", F__law_pick), ("_law_taken", F__law_taken), ("_law_times", F__law_times), ("_law_ratio", F__law_ratio)] d__law_life
def d__law_alike : FW.Def := ⟨2, 3, (.cons (.ifs (.isi [.tuple, .list] (.var 1))
      (.cons (.ifs (.or (.cons (.nt (.isi [.tuple, .list] (.var 0))) (.cons (.cmp .ne (.isi [.list] (.var 0)) (.isi [.list] (.var 1))) .nil)))
      (.cons (.ret (.k (.bl false))) .nil)
      (.nil))
      (.cons (.ifs (.cmp .ne (.bi .len false (.cons (.var 0) .nil)) (.bi .len false (.cons (.var 1) .nil)))
      (.cons (.ret (.k (.bl false))) .nil)
      (.nil))
      (.cons (.ret (.cmp .eq (.comp false [2] (.name 2) (.rng1 (.bi .len false (.cons (.var 1) .nil))) (.nt (.call 0 (.cons (.idx (.var 0) (.var 2)) (.cons (.idx (.var 1) (.var 2)) .nil)))) (.var 2)) (.list false .nil))) .nil)))
      (.nil))
      (.cons (.ifs (.or (.cons (.cmp .is (.var 1) (.k .non)) (.cons (.isi [.str] (.var 1)) .nil)))
      (.cons (.ret (.and (.cons (.cmp .eq (.var 0) (.var 1)) (.cons (.cmp .eq (.isi [.str] (.var 0)) (.isi [.str] (.var 1))) .nil)))) .nil)
      (.nil))
      (.cons (.ret (.and (.cons (.isi [.int] (.var 0)) (.cons (.cmp .eq (.isi [.bool] (.var 0)) (.isi [.bool] (.var 1))) (.cons (.cmp .eq (.var 0) (.var 1)) .nil))))) .nil)))⟩
def F__law_alike : Nat → Fn
  | 0 => fun _ _ => .bad
  | n + 1 => fnSem [("_law_alike", F__law_alike n)] d__law_alike
def d__law_less_one : FW.Def := ⟨1, 1, (.cons (.ret (.tup (.cons (.bin .sub false (.idx (.var 0) (.k (.int 1))) (.idx (.var 0) (.k (.int 0)))) (.cons (.idx (.var 0) (.k (.int 1))) .nil)))) .nil)⟩
def F__law_less_one : Fn := fnSem [] d__law_less_one
def d__law_rates : FW.Def := ⟨1, 5, (.cons (.set 1 (.list true .nil))
      (.cons (.forr (.name 2) (.rng1 (.bin .sub false (.bi .len false (.cons (.var 0) .nil)) (.k (.int 1))))
      (.cons (.par [3, 4] (.cons (.idx (.var 0) (.bin .add false (.var 2) (.k (.int 1)))) (.cons (.idx (.var 0) (.var 2)) .nil)))
      (.cons (.app 1 (.call 0 (.cons (.call 1 (.cons (.bin .mul false (.idx (.var 3) (.k (.int 0))) (.idx (.var 4) (.k (.int 1)))) (.cons (.bin .mul false (.idx (.var 3) (.k (.int 1))) (.idx (.var 4) (.k (.int 0)))) .nil))) .nil))) .nil)) [])
      (.cons (.ret (.var 1)) .nil)))⟩
def F__law_rates : Fn := fnSem [("_law_less_one", F__law_less_one), ("_law_ratio", F__law_ratio)] d__law_rates
def d__law_plus : FW.Def := ⟨2, 2, (.cons (.ret (.call 0 (.cons (.bin .add false (.bin .mul false (.idx (.var 0) (.k (.int 0))) (.idx (.var 1) (.k (.int 1)))) (.bin .mul false (.idx (.var 1) (.k (.int 0))) (.idx (.var 0) (.k (.int 1))))) (.cons (.bin .mul false (.idx (.var 0) (.k (.int 1))) (.idx (.var 1) (.k (.int 1)))) .nil)))) .nil)⟩
def F__law_plus : Fn := fnSem [("_law_ratio", F__law_ratio)] d__law_plus
def d_is_below : FW.Def := ⟨2, 2, (.cons (.ret (.cmp .lt (.bin .mul false (.idx (.var 0) (.k (.int 0))) (.idx (.var 1) (.k (.int 1)))) (.bin .mul false (.idx (.var 1) (.k (.int 0))) (.idx (.var 0) (.k (.int 1)))))) .nil)⟩
def F_is_below : Fn := fnSem [] d_is_below
def d_gcd : FW.Def := ⟨2, 2, (.cons (.par [0, 1] (.cons (.bi .abs false (.cons (.var 0) .nil)) (.cons (.bi .abs false (.cons (.var 1) .nil)) .nil)))
      (.cons (.whil (.cmp .ne (.var 1) (.k (.int 0)))
      (.cons (.par [0, 1] (.cons (.var 1) (.cons (.bin .mod false (.var 0) (.var 1)) .nil))) .nil) [])
      (.cons (.ret (.var 0)) .nil)))⟩
def F_gcd : Fn := fnSem [] d_gcd
def d_is_ratio : FW.Def := ⟨1, 2, (.cons (.ifs (.or (.cons (.nt (.isi [.tuple] (.var 0))) (.cons (.cmp .ne (.bi .len false (.cons (.var 0) .nil)) (.k (.int 2))) .nil)))
      (.cons (.ret (.k (.bl false))) .nil)
      (.nil))
      (.cons (.forr (.name 1) (.seq (.var 0))
      (.cons (.ifs (.or (.cons (.nt (.isi [.int] (.var 1))) (.cons (.isi [.bool] (.var 1)) .nil)))
      (.cons (.ret (.k (.bl false))) .nil)
      (.nil)) .nil) [])
      (.cons (.ret (.and (.cons (.cmp .gt (.idx (.var 0) (.k (.int 1))) (.k (.int 0))) (.cons (.cmp .eq (.call 0 (.cons (.idx (.var 0) (.k (.int 0))) (.cons (.idx (.var 0) (.k (.int 1))) .nil))) (.k (.int 1))) .nil)))) .nil)))⟩
def F_is_ratio : Fn := fnSem [("gcd", F_gcd)] d_is_ratio
def d_is_chance : FW.Def := ⟨1, 1, (.cons (.ret (.and (.cons (.call 0 (.cons (.var 0) .nil)) (.cons (.chain .le .le (.k (.int 0)) (.idx (.var 0) (.k (.int 0))) (.idx (.var 0) (.k (.int 1)))) .nil)))) .nil)⟩
def F_is_chance : Fn := fnSem [("is_ratio", F_is_ratio)] d_is_chance
def d_is_life : FW.Def := ⟨1, 3, (.cons (.ifs (.or (.cons (.nt (.isi [.tuple] (.var 0))) (.cons (.nt (.chain .le .le (.k (.int 2)) (.bi .len false (.cons (.var 0) .nil)) (.glob "MOST_ITEMS" (.int 13)))) .nil)))
      (.cons (.ret (.k (.bl false))) .nil)
      (.nil))
      (.cons (.ifs (.or (.cons (.cmp .ne (.comp false [2] (.name 2) (.seq (.var 0)) (.nt (.call 1 (.cons (.var 2) .nil))) (.var 2)) (.list false .nil)) (.cons (.cmp .ne (.idx (.var 0) (.k (.int 0))) (.glob "ONE" (.tup [(.int 1), (.int 1)]))) (.cons (.cmp .ne (.idx (.var 0) (.neg (.k (.int 1)))) (.glob "ZERO" (.tup [(.int 0), (.int 1)]))) .nil))))
      (.cons (.ret (.k (.bl false))) .nil)
      (.nil))
      (.cons (.ifs (.cmp .isin (.glob "ZERO" (.tup [(.int 0), (.int 1)])) (.slc false (.var 0) (.k .non) (.neg (.k (.int 1)))))
      (.cons (.ret (.k (.bl false))) .nil)
      (.nil))
      (.cons (.ret (.cmp .eq (.comp false [1] (.name 1) (.rng2 (.k (.int 1)) (.bi .len false (.cons (.var 0) .nil))) (.call 0 (.cons (.idx (.var 0) (.bin .sub false (.var 1) (.k (.int 1)))) (.cons (.idx (.var 0) (.var 1)) .nil))) (.var 1)) (.list false .nil))) .nil))))⟩
def F_is_life : Fn := fnSem [("is_below", F_is_below), ("is_chance", F_is_chance)] d_is_life
def d_need_life : FW.Def := ⟨1, 1, (.cons (.ifs (.nt (.call 0 (.cons (.var 0) .nil)))
      (.cons (.raise "" .nil) .nil)
      (.nil)) .nil)⟩
def F_need_life : Fn := fnSem [("is_life", F_is_life)] d_need_life
def d_reduced : FW.Def := ⟨2, 3, (.cons (.set 2 (.call 0 (.cons (.var 0) (.cons (.var 1) .nil))))
      (.cons (.ifs (.cmp .lt (.var 1) (.k (.int 0)))
      (.cons (.set 2 (.neg (.var 2))) .nil)
      (.nil))
      (.cons (.ret (.tup (.cons (.bin .fdiv false (.var 0) (.var 2)) (.cons (.bin .fdiv false (.var 1) (.var 2)) .nil)))) .nil)))⟩
def F_reduced : Fn := fnSem [("gcd", F_gcd)] d_reduced
def d_minus : FW.Def := ⟨2, 2, (.cons (.ret (.call 0 (.cons (.bin .sub false (.bin .mul false (.idx (.var 0) (.k (.int 0))) (.idx (.var 1) (.k (.int 1)))) (.bin .mul false (.idx (.var 1) (.k (.int 0))) (.idx (.var 0) (.k (.int 1))))) (.cons (.bin .mul false (.idx (.var 0) (.k (.int 1))) (.idx (.var 1) (.k (.int 1)))) .nil)))) .nil)⟩
def F_minus : Fn := fnSem [("reduced", F_reduced)] d_minus
def d_over : FW.Def := ⟨2, 2, (.cons (.ret (.call 0 (.cons (.bin .mul false (.idx (.var 0) (.k (.int 0))) (.idx (.var 1) (.k (.int 1)))) (.cons (.bin .mul false (.idx (.var 0) (.k (.int 1))) (.idx (.var 1) (.k (.int 0)))) .nil)))) .nil)⟩
def F_over : Fn := fnSem [("reduced", F_reduced)] d_over
def d_rates_of : FW.Def := ⟨1, 2, (.cons (.ret (.comp false [1] (.name 1) (.rng1 (.bin .sub false (.bi .len false (.cons (.var 0) .nil)) (.k (.int 1)))) (.k (.bl true)) (.call 0 (.cons (.glob "ONE" (.tup [(.int 1), (.int 1)])) (.cons (.call 1 (.cons (.idx (.var 0) (.bin .add false (.var 1) (.k (.int 1)))) (.cons (.idx (.var 0) (.var 1)) .nil))) .nil))))) .nil)⟩
def F_rates_of : Fn := fnSem [("minus", F_minus), ("over", F_over)] d_rates_of
def d_rates : FW.Def := ⟨1, 1, (.cons (.expr (.call 0 (.cons (.var 0) .nil)))
      (.cons (.ret (.bi .tuple false (.cons (.call 1 (.cons (.var 0) .nil)) .nil))) .nil))⟩
def F_rates : Fn := fnSem [("need_life", F_need_life), ("rates_of", F_rates_of)] d_rates
def d_plus : FW.Def := ⟨2, 2, (.cons (.ret (.call 0 (.cons (.bin .add false (.bin .mul false (.idx (.var 0) (.k (.int 0))) (.idx (.var 1) (.k (.int 1)))) (.bin .mul false (.idx (.var 1) (.k (.int 0))) (.idx (.var 0) (.k (.int 1))))) (.cons (.bin .mul false (.idx (.var 0) (.k (.int 1))) (.idx (.var 1) (.k (.int 1)))) .nil)))) .nil)⟩
def F_plus : Fn := fnSem [("reduced", F_reduced)] d_plus
def d_total_of : FW.Def := ⟨1, 3, (.cons (.set 1 (.glob "ZERO" (.tup [(.int 0), (.int 1)])))
      (.cons (.forr (.name 2) (.seq (.var 0))
      (.cons (.set 1 (.call 0 (.cons (.var 1) (.cons (.var 2) .nil)))) .nil) [])
      (.cons (.ret (.var 1)) .nil)))⟩
def F_total_of : Fn := fnSem [("plus", F_plus)] d_total_of
def d_mean_life : FW.Def := ⟨1, 1, (.cons (.expr (.call 0 (.cons (.var 0) .nil)))
      (.cons (.ret (.call 1 (.cons (.var 0) .nil))) .nil))⟩
def F_mean_life : Fn := fnSem [("need_life", F_need_life), ("total_of", F_total_of)] d_mean_life
def d_is_in : FW.Def := ⟨3, 3, (.cons (.ret (.and (.cons (.isi [.int] (.var 0)) (.cons (.nt (.isi [.bool] (.var 0))) (.cons (.chain .le .le (.var 1) (.var 0) (.var 2)) .nil))))) .nil)⟩
def F_is_in : Fn := fnSem [] d_is_in
def d_older : FW.Def := ⟨2, 3, (.cons (.expr (.call 0 (.cons (.var 0) .nil)))
      (.cons (.ifs (.nt (.call 1 (.cons (.var 1) (.cons (.k (.int 0)) (.cons (.bin .sub false (.bi .len false (.cons (.var 0) .nil)) (.k (.int 2))) .nil)))))
      (.cons (.raise "" .nil) .nil)
      (.nil))
      (.cons (.ret (.bi .tuple false (.cons (.comp false [2] (.name 2) (.seq (.slc false (.var 0) (.var 1) (.k .non))) (.k (.bl true)) (.call 2 (.cons (.var 2) (.cons (.idx (.var 0) (.var 1)) .nil)))) .nil))) .nil)))⟩
def F_older : Fn := fnSem [("need_life", F_need_life), ("is_in", F_is_in), ("over", F_over)] d_older
def d_times : FW.Def := ⟨2, 2, (.cons (.ret (.call 0 (.cons (.bin .mul false (.idx (.var 0) (.k (.int 0))) (.idx (.var 1) (.k (.int 0)))) (.cons (.bin .mul false (.idx (.var 0) (.k (.int 1))) (.idx (.var 1) (.k (.int 1)))) .nil)))) .nil)⟩
def F_times : Fn := fnSem [("reduced", F_reduced)] d_times
def d_of_rates : FW.Def := ⟨1, 3, (.cons (.ifs (.or (.cons (.nt (.isi [.tuple] (.var 0))) (.cons (.nt (.chain .le .lt (.k (.int 1)) (.bi .len false (.cons (.var 0) .nil)) (.glob "MOST_ITEMS" (.int 13)))) .nil)))
      (.cons (.raise "" .nil) .nil)
      (.nil))
      (.cons (.ifs (.or (.cons (.cmp .ne (.comp false [2] (.name 2) (.seq (.var 0)) (.nt (.call 2 (.cons (.var 2) .nil))) (.var 2)) (.list false .nil)) (.cons (.cmp .ne (.idx (.var 0) (.neg (.k (.int 1)))) (.glob "ONE" (.tup [(.int 1), (.int 1)]))) (.cons (.cmp .isin (.glob "ONE" (.tup [(.int 1), (.int 1)])) (.slc false (.var 0) (.k .non) (.neg (.k (.int 1))))) .nil))))
      (.cons (.raise "" .nil) .nil)
      (.nil))
      (.cons (.set 1 (.list true (.cons (.glob "ONE" (.tup [(.int 1), (.int 1)])) .nil)))
      (.cons (.forr (.name 2) (.seq (.var 0))
      (.cons (.app 1 (.call 0 (.cons (.idx (.var 1) (.neg (.k (.int 1)))) (.cons (.call 1 (.cons (.glob "ONE" (.tup [(.int 1), (.int 1)])) (.cons (.var 2) .nil))) .nil)))) .nil) [])
      (.cons (.ret (.bi .tuple false (.cons (.var 1) .nil))) .nil)))))⟩
def F_of_rates : Fn := fnSem [("times", F_times), ("minus", F_minus), ("is_chance", F_is_chance)] d_of_rates
def d__law_over : FW.Def := ⟨2, 2, (.cons (.ret (.call 0 (.cons (.bin .mul false (.idx (.var 0) (.k (.int 0))) (.idx (.var 1) (.k (.int 1)))) (.cons (.bin .mul false (.idx (.var 0) (.k (.int 1))) (.idx (.var 1) (.k (.int 0)))) .nil)))) .nil)⟩
def F__law_over : Fn := fnSem [("_law_ratio", F__law_ratio)] d__law_over
end FWP

/-! FW: ratios. -/
namespace FWP
open PySem FW
abbrev I (i : Int) : SV := .v (.int i)
/-! ### gcd -/
theorem fmod_nat (a b : Nat) : (a : Int).fmod (b : Int) = ((a % b : Nat) : Int) := by
  rw [Int.fmod_eq_emod_of_nonneg _ (Int.natCast_nonneg b)]; rfl
theorem gcd_step (a b : Nat) : Nat.gcd a b = Nat.gcd b (a % b) := by rw [Nat.gcd_comm, Nat.gcd_rec, Nat.gcd_comm]
theorem loop_gcd {c : Slots → Store → Out Bool} {f : FS} (hc : ∀ (x y : Int) S, c [some (I x), some (I y)] S = .ok (!decide (y = 0)) S)
    (hf : ∀ (x y : Int) S, y ≠ 0 → f [some (I x), some (I y)] S = .ok (.next [some (I y), some (I (x.fmod y))]) S) : ∀ (k n a b : Nat) (S : Store), b < 2 ^ k → 2 * k + 1 ≤ n →
    whileL c f [] n [some (I a), some (I b)] S = .ok (.next [some (I (Nat.gcd a b)), some (I 0)]) S := by
  have stop : ∀ (n a : Nat) (S : Store), 1 ≤ n → whileL c f [] n [some (I a), some (I (0 : Nat))] S = .ok (.next [some (I a), some (I 0)]) S := fun n a S hn => by
    obtain ⟨n, rfl⟩ : ∃ m, n = m + 1 := ⟨n - 1, by omega⟩
    simp [whileL, hc]
  have step : ∀ (n a b : Nat) (S : Store), b ≠ 0 → whileL c f [] (n + 1) [some (I a), some (I b)] S = whileL c f [] n [some (I b), some (I ((a % b : Nat) : Int))] S := fun n a b S hb => by
    have hb' : (b : Int) ≠ 0 := by omega
    simp [whileL, hc, hf _ _ _ hb', hb, fmod_nat]
  intro k
  induction k with
  | zero =>
    intro n a b S hb hn
    obtain rfl : b = 0 := by simpa using hb
    rw [stop n a S (by omega), Nat.gcd_zero_right]
  | succ k ih =>
    intro n a b S hb hn
    by_cases h0 : b = 0
    · subst h0
      rw [stop n a S (by omega), Nat.gcd_zero_right]
    · obtain ⟨n, rfl⟩ : ∃ m, n = m + 1 := ⟨n - 1, by omega⟩
      rw [step n a b S h0]
      have hg := gcd_step a b
      by_cases h1 : a % b = 0
      · rw [h1, stop n b S (by omega), hg, h1, Nat.gcd_zero_right]
      · obtain ⟨n, rfl⟩ : ∃ m, n = m + 1 := ⟨n - 1, by omega⟩
        rw [step n b (a % b) S h1]
        have hlt : a % b < b := Nat.mod_lt _ (by omega)
        have hq : b % (a % b) + (a % b) ≤ b := by
          have := Nat.div_add_mod b (a % b)
          have h2 : 1 ≤ b / (a % b) := Nat.div_pos (by omega) (by omega)
          have h3 : (a % b) * 1 ≤ (a % b) * (b / (a % b)) := Nat.mul_le_mul_left _ h2
          omega
        have hr : b % (a % b) < a % b := Nat.mod_lt _ (by omega)
        rw [ih n (a % b) (b % (a % b)) S (by rw [Nat.pow_succ] at hb; omega) (by omega)]
        rw [hg, gcd_step b (a % b)]
theorem abs_nat (a : Int) : (if a < 0 then -a else a) = ((a.natAbs : Nat) : Int) := by split <;> omega
theorem F_gcd_eq (a b : Int) (S : Store) (hb : b.natAbs < 2 ^ 100000) : F_gcd [I a, I b] S = .ok (I (Int.gcd a b)) S := by
  have := loop_gcd (c := (ev [] (.cmp .ne (.var 1) (.k (.int 0)))).t) (f := evB [] (.cons (.par [0, 1] (.cons (.var 1) (.cons (.bin .mod false (.var 0) (.var 1)) .nil))) .nil)) (fun _ _ _ => rfl) (fun x y S h => by simp [h]) 100000 fuel a.natAbs b.natAbs S hb (by decide)
  have h : evS [] (.whil (.cmp .ne (.var 1) (.k (.int 0))) (.cons (.par [0, 1] (.cons (.var 1) (.cons (.bin .mod false (.var 0) (.var 1)) .nil))) .nil) []) [some (I a.natAbs), some (I b.natAbs)] S = .ok (.next [some (I (Nat.gcd a.natAbs b.natAbs)), some (I 0)]) S := this
  simp [F_gcd, d_gcd, abs_nat, h, Int.gcd]
/-! ### sizes -/
theorem log_lt {n k : Nat} (h : n < 2 ^ k) (hk : 0 < k) : n.log2 < k := by
  by_cases h0 : n = 0
  · subst h0; simpa using hk
  · exact (Nat.log2_lt h0).mpr h
theorem mulOk_of {a b : Int} {k l : Nat} (h1 : a.natAbs < 2 ^ k) (h2 : b.natAbs < 2 ^ l) (hk : k + l ≤ 1000000) : mulOk a b = true := by
  refine decide_eq_true ?_
  have e1 : a.natAbs.log2 < k + 1 := log_lt (Nat.lt_of_lt_of_le h1 (Nat.pow_le_pow_right (by decide) (by omega))) (by omega)
  have e2 : b.natAbs.log2 < l + 1 := log_lt (Nat.lt_of_lt_of_le h2 (Nat.pow_le_pow_right (by decide) (by omega))) (by omega)
  omega
theorem divOk_of {a b : Int} (hb : b ≠ 0) (h : a.natAbs < 2 ^ 13000) : divOk a b = true := by
  have : a.natAbs.log2 < 13000 := log_lt h (by decide)
  simp [divOk, hb, this]
/-! ### reduced -/
def rv (q : Rat) : PV := .tup [.int q.num, .int q.den]
theorem quot_pos {n d : Int} (hd : 0 < d) : n.fdiv (Int.gcd n d : Nat) = (Rat.divInt n d).num ∧ d.fdiv (Int.gcd n d : Nat) = ((Rat.divInt n d).den : Int) := by
  have hg : (0 : Int) ≤ (Int.gcd n d : Nat) := Int.natCast_nonneg _
  rw [Rat.num_divInt, Rat.den_divInt, Int.gcd_comm d n]
  rw [Int.fdiv_eq_ediv_of_nonneg _ hg, Int.fdiv_eq_ediv_of_nonneg _ hg, Int.sign_eq_one_of_pos hd, Int.one_mul, if_neg (by omega)]
  refine ⟨rfl, ?_⟩
  rw [Int.natCast_ediv, Int.natAbs_of_nonneg (by omega)]
theorem quot_neg {n d : Int} (hd : d < 0) : n.fdiv (-(Int.gcd n d : Nat)) = (Rat.divInt n d).num ∧ d.fdiv (-(Int.gcd n d : Nat)) = ((Rat.divInt n d).den : Int) := by
  have h0 : Int.gcd n d ≠ 0 := by
    intro h
    have := Int.gcd_eq_zero_iff.mp h
    omega
  obtain ⟨m, hm⟩ := Int.gcd_dvd_left n d
  obtain ⟨e, he⟩ := Int.gcd_dvd_right n d
  rw [Rat.num_divInt, Rat.den_divInt, Int.gcd_comm d n, Int.sign_eq_neg_one_of_neg hd, if_neg (by omega)]
  generalize Int.gcd n d = g at *
  have hg : (g : Int) ≠ 0 := by omega
  have hg2 : -(g : Int) ≠ 0 := by omega
  subst hm he
  refine ⟨?_, ?_⟩
  · rw [show (g : Int) * m = -(g : Int) * (-m) by rw [Int.neg_mul_neg], Int.mul_fdiv_cancel_left _ hg2, show -1 * (-(g : Int) * -m) = (g : Int) * (-m) by rw [Int.neg_mul_neg, Int.mul_neg]; omega, Int.mul_ediv_cancel_left _ hg]
  · rw [show (g : Int) * e = -(g : Int) * (-e) by rw [Int.neg_mul_neg], Int.mul_fdiv_cancel_left _ hg2, Int.natCast_ediv, Int.neg_mul_neg]
    rw [show (((g : Int) * e).natAbs : Int) = (g : Int) * (-e) by rw [Int.mul_neg]; omega, Int.mul_ediv_cancel_left _ hg]
theorem F_reduced_eq (n d : Int) (S : Store) (h0 : d ≠ 0) (hn : n.natAbs < 2 ^ 13000) (hd : d.natAbs < 2 ^ 13000) : F_reduced [I n, I d] S = .ok (.v (rv (Rat.divInt n d))) S := by
  have hb : d.natAbs < 2 ^ 100000 := Nat.lt_of_lt_of_le hd (Nat.pow_le_pow_right (by decide) (by decide))
  have hg : Int.gcd n d ≠ 0 := by
    intro h
    have := Int.gcd_eq_zero_iff.mp h
    omega
  have hg1 : ((Int.gcd n d : Nat) : Int) ≠ 0 := by omega
  have hg2 : (-(Int.gcd n d : Nat) : Int) ≠ 0 := by omega
  by_cases hneg : d < 0
  · obtain ⟨q1, q2⟩ := quot_neg (n := n) hneg
    simp [F_reduced, d_reduced, F_gcd_eq n d _ hb, hneg, divOk_of hg2 hn, divOk_of hg2 hd, q1, q2, rv, line]
  · obtain ⟨q1, q2⟩ := quot_pos (n := n) (d := d) (by omega)
    simp [F_reduced, d_reduced, F_gcd_eq n d _ hb, hneg, divOk_of hg1 hn, divOk_of hg1 hd, q1, q2, rv, line]
/-! ### the law's own, alike -/
theorem F_lgcd_eq (a b : Int) (S : Store) (hb : b.natAbs < 2 ^ 100000) : F__law_gcd [I a, I b] S = .ok (I (Int.gcd a b)) S := by
  have := loop_gcd (c := (ev [] (.cmp .ne (.var 1) (.k (.int 0)))).t) (f := evB [] (.cons (.par [0, 1] (.cons (.var 1) (.cons (.bin .mod false (.bi .int false (.cons (.var 0) .nil)) (.var 1)) .nil))) .nil)) (fun _ _ _ => rfl) (fun x y S h => by simp [h]) 100000 fuel a.natAbs b.natAbs S hb (by decide)
  have h : evS [] (.whil (.cmp .ne (.var 1) (.k (.int 0))) (.cons (.par [0, 1] (.cons (.var 1) (.cons (.bin .mod false (.bi .int false (.cons (.var 0) .nil)) (.var 1)) .nil))) .nil) []) [some (I a.natAbs), some (I b.natAbs)] S = .ok (.next [some (I (Nat.gcd a.natAbs b.natAbs)), some (I 0)]) S := this
  simp [F__law_gcd, d__law_gcd, abs_nat, h, Int.gcd]
theorem F_ratio_eq (n d : Int) (S : Store) (h0 : d ≠ 0) (hn : n.natAbs < 2 ^ 13000) (hd : d.natAbs < 2 ^ 13000) : F__law_ratio [I n, I d] S = .ok (.v (rv (Rat.divInt n d))) S := by
  have hb : d.natAbs < 2 ^ 100000 := Nat.lt_of_lt_of_le hd (Nat.pow_le_pow_right (by decide) (by decide))
  have hg : Int.gcd n d ≠ 0 := by
    intro h
    have := Int.gcd_eq_zero_iff.mp h
    omega
  have hg1 : ((Int.gcd n d : Nat) : Int) ≠ 0 := by omega
  have hg2 : (-(Int.gcd n d : Nat) : Int) ≠ 0 := by omega
  by_cases hneg : d < 0
  · obtain ⟨q1, q2⟩ := quot_neg (n := n) hneg
    simp [F__law_ratio, d__law_ratio, F_lgcd_eq n d _ hb, hneg, divOk_of hg2 hn, divOk_of hg2 hd, q1, q2, rv, line]
  · obtain ⟨q1, q2⟩ := quot_pos (n := n) (d := d) (by omega)
    simp [F__law_ratio, d__law_ratio, F_lgcd_eq n d _ hb, hneg, divOk_of hg1 hn, divOk_of hg1 hd, q1, q2, rv, line]
/-! ### the operations -/
/-- numerator and denominator below 2 ^ k -/
def Bd (k : Nat) (q : Rat) : Prop := q.num.natAbs < 2 ^ k ∧ q.den < 2 ^ k
theorem Bd.mono {k l : Nat} {q : Rat} (h : Bd k q) (hl : k ≤ l) : Bd l q := ⟨Nat.lt_of_lt_of_le h.1 (Nat.pow_le_pow_right (by decide) hl), Nat.lt_of_lt_of_le h.2 (Nat.pow_le_pow_right (by decide) hl)⟩
theorem mul_lt {a b k l : Nat} (h1 : a < 2 ^ k) (h2 : b < 2 ^ l) : a * b < 2 ^ (k + l) := by
  rw [Nat.pow_add]
  exact Nat.mul_lt_mul'' h1 h2
theorem Bd.mk {n d : Int} {k : Nat} (h0 : d ≠ 0) (h1 : n.natAbs < 2 ^ k) (h2 : d.natAbs < 2 ^ k) : Bd k (Rat.divInt n d) := by
  have hs : ∀ (x : Int) (g : Nat), (x / (g : Int)).natAbs ≤ x.natAbs := fun x g => Int.natAbs_ediv_le_natAbs _ _
  refine ⟨?_, ?_⟩
  · rw [Rat.num_divInt]
    have : (d.sign * n).natAbs = n.natAbs := by rw [Int.natAbs_mul, Int.natAbs_sign_of_ne_zero h0, Nat.one_mul]
    have := hs (d.sign * n) (d.gcd n)
    omega
  · rw [Rat.den_divInt, if_neg h0]
    exact Nat.lt_of_le_of_lt (Nat.div_le_self _ _) h2
theorem mul_eq (q r : Rat) : q * r = Rat.divInt (q.num * r.num) ((q.den : Int) * (r.den : Int)) := by
  conv => lhs; rw [← Rat.num_divInt_den q, ← Rat.num_divInt_den r]
  exact Rat.divInt_mul_divInt _ _
theorem den_ne (q : Rat) : (q.den : Int) ≠ 0 := by have := q.den_nz; omega
theorem add_eq (q r : Rat) : q + r = Rat.divInt (q.num * r.den + r.num * q.den) ((q.den : Int) * (r.den : Int)) := by
  conv => lhs; rw [← Rat.num_divInt_den q, ← Rat.num_divInt_den r]
  exact Rat.divInt_add_divInt _ _ (den_ne q) (den_ne r)
theorem neg_eq (q : Rat) : -q = Rat.divInt (-q.num) q.den := by
  conv => lhs; rw [← Rat.num_divInt_den q]
  exact Rat.neg_divInt _ _
theorem sub_eq (q r : Rat) : q - r = Rat.divInt (q.num * r.den - r.num * q.den) ((q.den : Int) * (r.den : Int)) := by
  rw [Rat.sub_eq_add_neg, neg_eq]
  conv => lhs; rw [← Rat.num_divInt_den q]
  rw [Rat.divInt_add_divInt _ _ (den_ne q) (den_ne r), Int.neg_mul, Int.sub_eq_add_neg]
theorem div_eq (q r : Rat) : q / r = Rat.divInt (q.num * r.den) ((q.den : Int) * r.num) := by
  rw [Rat.div_def, Rat.inv_def]
  conv => lhs; rw [← Rat.num_divInt_den q]
  exact Rat.divInt_mul_divInt _ _
section
variable {k l : Nat} {q r : Rat}
theorem Bd.mul (hq : Bd k q) (hr : Bd l r) : Bd (k + l) (q * r) := by
  rw [mul_eq]
  refine Bd.mk (Int.mul_ne_zero (den_ne q) (den_ne r)) ?_ ?_
  · rw [Int.natAbs_mul]; exact mul_lt hq.1 hr.1
  · rw [Int.natAbs_mul]; exact mul_lt hq.2 hr.2
theorem cross_lt (hq : Bd k q) (hr : Bd l r) : (q.num * (r.den : Int)).natAbs < 2 ^ (k + l) ∧ (r.num * (q.den : Int)).natAbs < 2 ^ (k + l) ∧ ((q.den : Int) * (r.den : Int)).natAbs < 2 ^ (k + l) := by
  refine ⟨?_, ?_, ?_⟩
  · rw [Int.natAbs_mul]; exact mul_lt hq.1 hr.2
  · rw [Int.natAbs_mul, Nat.add_comm]; exact mul_lt hr.1 hq.2
  · rw [Int.natAbs_mul]; exact mul_lt hq.2 hr.2
theorem two_pow_add {a b c n : Nat} (h1 : a < 2 ^ n) (h2 : b < 2 ^ n) (h : c ≤ a + b) : c < 2 ^ (n + 1) := by rw [Nat.pow_succ]; omega
theorem Bd.add (hq : Bd k q) (hr : Bd l r) : Bd (k + l + 1) (q + r) := by
  obtain ⟨h1, h2, h3⟩ := cross_lt hq hr
  rw [add_eq]
  exact Bd.mk (Int.mul_ne_zero (den_ne q) (den_ne r)) (two_pow_add h1 h2 (Int.natAbs_add_le _ _)) (two_pow_add h3 h3 (by omega))
theorem Bd.sub (hq : Bd k q) (hr : Bd l r) : Bd (k + l + 1) (q - r) := by
  obtain ⟨h1, h2, h3⟩ := cross_lt hq hr
  rw [sub_eq]
  refine Bd.mk (Int.mul_ne_zero (den_ne q) (den_ne r)) (two_pow_add h1 h2 ?_) (two_pow_add h3 h3 (by omega))
  omega
theorem num_ne (h : r ≠ 0) : r.num ≠ 0 := fun z => h (Rat.num_eq_zero.mp z)
theorem Bd.div (hq : Bd k q) (hr : Bd l r) (h : r ≠ 0) : Bd (k + l) (q / r) := by
  rw [div_eq]
  refine Bd.mk (Int.mul_ne_zero (den_ne q) (num_ne h)) ?_ ?_
  · rw [Int.natAbs_mul]; exact mul_lt hq.1 hr.2
  · rw [Int.natAbs_mul]; exact mul_lt hq.2 hr.1
theorem pow_le13 {a n : Nat} (h : a < 2 ^ n) (hn : n ≤ 13000) : a < 2 ^ 13000 := Nat.lt_of_lt_of_le h (Nat.pow_le_pow_right (by decide) hn)
theorem F_times_eq {S : Store} (hq : Bd k q) (hr : Bd l r) (h : k + l ≤ 12000) : F_times [.v (rv q), .v (rv r)] S = .ok (.v (rv (q * r))) S := by
  have m1 := mulOk_of hq.1 hr.1 (by omega)
  have m2 := mulOk_of (a := (q.den : Int)) (b := (r.den : Int)) hq.2 hr.2 (by omega)
  have e := F_reduced_eq (q.num * r.num) ((q.den : Int) * (r.den : Int)) S (Int.mul_ne_zero (den_ne q) (den_ne r)) (by rw [Int.natAbs_mul]; exact pow_le13 (mul_lt hq.1 hr.1) (by omega)) (by rw [Int.natAbs_mul]; exact pow_le13 (mul_lt hq.2 hr.2) (by omega))
  rw [← mul_eq] at e
  simp only [rv] at e
  simp [F_times, d_times, rv, m1, m2, e]
theorem F_ltimes_eq {S : Store} (hq : Bd k q) (hr : Bd l r) (h : k + l ≤ 12000) : F__law_times [.v (rv q), .v (rv r)] S = .ok (.v (rv (q * r))) S := by
  have m1 := mulOk_of hq.1 hr.1 (by omega)
  have m2 := mulOk_of (a := (q.den : Int)) (b := (r.den : Int)) hq.2 hr.2 (by omega)
  have e := F_ratio_eq (q.num * r.num) ((q.den : Int) * (r.den : Int)) S (Int.mul_ne_zero (den_ne q) (den_ne r)) (by rw [Int.natAbs_mul]; exact pow_le13 (mul_lt hq.1 hr.1) (by omega)) (by rw [Int.natAbs_mul]; exact pow_le13 (mul_lt hq.2 hr.2) (by omega))
  rw [← mul_eq] at e
  simp only [rv] at e
  simp [F__law_times, d__law_times, rv, m1, m2, e]
theorem F_plus_eq {S : Store} (hq : Bd k q) (hr : Bd l r) (h : k + l ≤ 12000) : F_plus [.v (rv q), .v (rv r)] S = .ok (.v (rv (q + r))) S := by
  obtain ⟨h1, h2, h3⟩ := cross_lt hq hr
  have m1 := mulOk_of (a := q.num) (b := (r.den : Int)) hq.1 hr.2 (by omega)
  have m2 := mulOk_of (a := r.num) (b := (q.den : Int)) hr.1 hq.2 (by omega)
  have m3 := mulOk_of (a := (q.den : Int)) (b := (r.den : Int)) hq.2 hr.2 (by omega)
  have e := F_reduced_eq (q.num * r.den + r.num * q.den) ((q.den : Int) * (r.den : Int)) S (Int.mul_ne_zero (den_ne q) (den_ne r)) (pow_le13 (two_pow_add h1 h2 (Int.natAbs_add_le _ _)) (by omega)) (pow_le13 h3 (by omega))
  rw [← add_eq] at e
  simp only [rv] at e
  simp [F_plus, d_plus, rv, m1, m2, m3, e]
theorem F_lplus_eq {S : Store} (hq : Bd k q) (hr : Bd l r) (h : k + l ≤ 12000) : F__law_plus [.v (rv q), .v (rv r)] S = .ok (.v (rv (q + r))) S := by
  obtain ⟨h1, h2, h3⟩ := cross_lt hq hr
  have m1 := mulOk_of (a := q.num) (b := (r.den : Int)) hq.1 hr.2 (by omega)
  have m2 := mulOk_of (a := r.num) (b := (q.den : Int)) hr.1 hq.2 (by omega)
  have m3 := mulOk_of (a := (q.den : Int)) (b := (r.den : Int)) hq.2 hr.2 (by omega)
  have e := F_ratio_eq (q.num * r.den + r.num * q.den) ((q.den : Int) * (r.den : Int)) S (Int.mul_ne_zero (den_ne q) (den_ne r)) (pow_le13 (two_pow_add h1 h2 (Int.natAbs_add_le _ _)) (by omega)) (pow_le13 h3 (by omega))
  rw [← add_eq] at e
  simp only [rv] at e
  simp [F__law_plus, d__law_plus, rv, m1, m2, m3, e]
theorem F_minus_eq {S : Store} (hq : Bd k q) (hr : Bd l r) (h : k + l ≤ 12000) : F_minus [.v (rv q), .v (rv r)] S = .ok (.v (rv (q - r))) S := by
  obtain ⟨h1, h2, h3⟩ := cross_lt hq hr
  have m1 := mulOk_of (a := q.num) (b := (r.den : Int)) hq.1 hr.2 (by omega)
  have m2 := mulOk_of (a := r.num) (b := (q.den : Int)) hr.1 hq.2 (by omega)
  have m3 := mulOk_of (a := (q.den : Int)) (b := (r.den : Int)) hq.2 hr.2 (by omega)
  have e := F_reduced_eq (q.num * r.den - r.num * q.den) ((q.den : Int) * (r.den : Int)) S (Int.mul_ne_zero (den_ne q) (den_ne r)) (pow_le13 (two_pow_add h1 h2 (by omega)) (by omega)) (pow_le13 h3 (by omega))
  rw [← sub_eq] at e
  simp only [rv] at e
  simp [F_minus, d_minus, rv, m1, m2, m3, e]
theorem F_over_eq {S : Store} (hq : Bd k q) (hr : Bd l r) (h : k + l ≤ 12000) (h0 : r ≠ 0) : F_over [.v (rv q), .v (rv r)] S = .ok (.v (rv (q / r))) S := by
  have m1 := mulOk_of (a := q.num) (b := (r.den : Int)) hq.1 hr.2 (by omega)
  have m2 := mulOk_of (a := (q.den : Int)) (b := r.num) hq.2 hr.1 (by omega)
  have e := F_reduced_eq (q.num * r.den) ((q.den : Int) * r.num) S (Int.mul_ne_zero (den_ne q) (num_ne h0)) (by rw [Int.natAbs_mul]; exact pow_le13 (mul_lt hq.1 hr.2) (by omega)) (by rw [Int.natAbs_mul]; exact pow_le13 (mul_lt hq.2 hr.1) (by omega))
  rw [← div_eq] at e
  simp only [rv] at e
  simp [F_over, d_over, rv, m1, m2, e]
theorem F_lover_eq {S : Store} (hq : Bd k q) (hr : Bd l r) (h : k + l ≤ 12000) (h0 : r ≠ 0) : F__law_over [.v (rv q), .v (rv r)] S = .ok (.v (rv (q / r))) S := by
  have m1 := mulOk_of (a := q.num) (b := (r.den : Int)) hq.1 hr.2 (by omega)
  have m2 := mulOk_of (a := (q.den : Int)) (b := r.num) hq.2 hr.1 (by omega)
  have e := F_ratio_eq (q.num * r.den) ((q.den : Int) * r.num) S (Int.mul_ne_zero (den_ne q) (num_ne h0)) (by rw [Int.natAbs_mul]; exact pow_le13 (mul_lt hq.1 hr.2) (by omega)) (by rw [Int.natAbs_mul]; exact pow_le13 (mul_lt hq.2 hr.1) (by omega))
  rw [← div_eq] at e
  simp only [rv] at e
  simp [F__law_over, d__law_over, rv, m1, m2, e]
theorem F_below_eq {S : Store} (hq : Bd k q) (hr : Bd l r) (h : k + l ≤ 12000) : F_is_below [.v (rv q), .v (rv r)] S = .ok (.v (.bl (decide (q < r)))) S := by
  have m1 := mulOk_of (a := q.num) (b := (r.den : Int)) hq.1 hr.2 (by omega)
  have m2 := mulOk_of (a := r.num) (b := (q.den : Int)) hr.1 hq.2 (by omega)
  have e : decide (q < r) = decide (q.num * (r.den : Int) < r.num * (q.den : Int)) := by
    have := Rat.lt_iff q r
    by_cases hh : q < r
    · rw [decide_eq_true hh, decide_eq_true (this.mp hh)]
    · rw [decide_eq_false hh, decide_eq_false fun z => hh (this.mpr z)]
  simp [F_is_below, d_is_below, rv, m1, m2, e]
end
end FWP

/-! FW: what all laws share: draws, likeness. -/
namespace FWP
open PySem FW
/-! ### alike: a value is like itself -/
def okA : Nat → PV → Bool
  | 0, _ => false
  | n + 1, .tup xs => decide (xs.length ≤ 4000000) && xs.all (okA n)
  | n + 1, .lst xs => decide (xs.length ≤ 4000000) && xs.all (okA n)
  | _ + 1, .fn _ => false
  | _ + 1, _ => true
theorem compL_none {f : PV → Store → Out (Option PV)} {S : Store} : ∀ {xs : List PV}, (∀ x ∈ xs, f x S = .ok none S) → compL f xs S = .ok [] S
  | [], _ => rfl
  | x :: xs, h => by
    show (f x S).bind _ = _
    rw [h x List.mem_cons_self]
    show (compL f xs S).bind _ = _
    rw [compL_none fun y hy => h y (List.mem_cons_of_mem _ hy)]
    rfl
theorem mem_rngN {x : PV} {n : Nat} (h : x ∈ rngN n) : ∃ i : Nat, i < n ∧ x = .int i := by
  unfold rngN at h
  obtain ⟨i, hi, rfl⟩ := List.mem_map.mp h
  exact ⟨i, by simpa using hi, rfl⟩
def cAlike : CE := .comp false [2] (.name 2) (.rng1 (.bi .len false (.cons (.var 1) .nil))) (.nt (.call 0 (.cons (.idx (.var 0) (.var 2)) (.cons (.idx (.var 1) (.var 2)) .nil)))) (.var 2)
theorem comp_alike {f : Fn} {x : PV} {xs : List PV} {S : Store} {t : Bool} (hx : seqOf S (.v x) = some (t, xs)) (hl : xs.length ≤ 4000000) (hf : ∀ y ∈ xs, f [.v y, .v y] S = .ok (.v (.bl true)) S) :
    (ev [("_law_alike", f)] cAlike).v [some (.v x), some (.v x), none] S = .ok (.v (.lst [])) S := by
  have hr : rngOk (xs.length : Int) = true := decide_eq_true (by omega)
  have hr2 : rngOk (-(xs.length : Int)) = true := decide_eq_true (by omega)
  show sComp false [2] _ _ _ _ _ _ = _
  unfold sComp
  have hi : (evI [("_law_alike", f)] (.rng1 (.bi .len false (.cons (.var 1) .nil)))) [some (.v x), some (.v x), none] S = .ok (rngN xs.length) S := by
    show (iRng1 _) _ S = _
    simp [hx, hr, hr2]
  rw [hi]
  show (compL _ _ S).bind _ = _
  rw [compL_none fun y hy => ?_]
  · rfl
  · obtain ⟨i, hi, rfl⟩ := mem_rngN hy
    have hget : xs[i]? = some xs[i] := List.getElem?_eq_getElem hi
    have h1 : ix? xs.length (i : Int) = some i := by simp [ix?, hi]
    have e := hf xs[i] (List.getElem_mem hi)
    simp only [cTurn, bindG, wipeS, List.set_cons_succ, List.set_cons_zero]
    simp [hx, hi, hget, e]
theorem alike_refl : ∀ (n : Nat) (x : PV) (S : Store), okA n x = true → F__law_alike n [.v x, .v x] S = .ok (.v (.bl true)) S := by
  intro n
  induction n with
  | zero => intro x S h; simp [okA] at h
  | succ n ih =>
    intro x S h
    show fnSem [("_law_alike", F__law_alike n)] d__law_alike [.v x, .v x] S = _
    have seq : ∀ (t : Bool) (xs : List PV), seqOf S (.v x) = some (t, xs) → xs.length ≤ 4000000 → xs.all (okA n) = true → (ev [("_law_alike", F__law_alike n)] cAlike).v [some (.v x), some (.v x), none] S = .ok (.v (.lst [])) S := fun t xs hx hl ha =>
      comp_alike hx hl fun y hy => ih y S (List.all_eq_true.mp ha y hy)
    cases x with
    | tup xs =>
      simp only [okA, Bool.and_eq_true, decide_eq_true_eq] at h
      have e := seq false xs rfl h.1 h.2
      unfold cAlike at e
      simp [d__law_alike, e, line]
    | lst xs =>
      simp only [okA, Bool.and_eq_true, decide_eq_true_eq] at h
      have e := seq true xs rfl h.1 h.2
      unfold cAlike at e
      simp [d__law_alike, e, line]
    | fn s => simp [okA] at h
    | non => simp [d__law_alike, line]
    | bl b => simp [d__law_alike, line]
    | int i => simp [d__law_alike, line]
    | str s => simp [d__law_alike, line]
/-! ### a draw -/
def rowV (ns : List Int) (a b c : Int) : Ob := .lst [.lst (ns.map .int), .int a, .int b, .int c]
/-- the row of draws stands at place p -/
def Row (S : Store) (p : Nat) : Prop := ∃ (ns : List Int) (a b c : Int), S[p]? = some (rowV ns a b c) ∧ 0 ≤ a ∧ 0 ≤ b ∧ b < 2147483648
/-- but for place p the same -/
def But (p : Nat) (S S' : Store) : Prop := S'.length = S.length ∧ ∀ n, n ≠ p → S'[n]? = S[n]?
theorem But.refl {p : Nat} {S : Store} : But p S S := ⟨rfl, fun _ _ => rfl⟩
theorem But.trans {p : Nat} {S S' S'' : Store} (a : But p S S') (b : But p S' S'') : But p S S'' := ⟨b.1.trans a.1, fun n h => (b.2 n h).trans (a.2 n h)⟩
theorem But.set {p : Nat} {S : Store} {o : Ob} : But p S (S.set p o) := ⟨by simp, fun n h => by rw [List.getElem?_set_ne (Ne.symm h)]⟩
theorem int_at (ns : List Int) (i : Nat) : (ns.map PV.int)[i]? = (ns[i]?).map PV.int := List.getElem?_map ..
theorem seqOf_set {S : Store} {p : Nat} {xs : List PV} (hp : p < S.length) : seqOf (S.set p (.lst xs)) (.l p) = some (true, xs) := seqOf_l (List.getElem?_set_self hp)
theorem divOk_small {x m : Int} (h0 : 0 < m) (h : m < 4294967296) : divOk x m = true := by
  have : m.natAbs.log2 < 32 := log_lt (by omega) (by decide)
  have h2 : m ≠ 0 := by omega
  simp [divOk, h2]
  left; omega
theorem mulOk_seed {b : Int} (h : 0 ≤ b) (h2 : b < 2147483648) : mulOk b 48271 = true := mulOk_of (k := 31) (l := 16) (by omega) (by decide) (by decide)
theorem taken_spec {S : Store} {p : Nat} {m : Int} (h : Row S p) (hm : 0 < m) (hm2 : m < 4294967296) : ∃ (j : Int) (S' : Store), F__law_taken [.l p, I m] S = .ok (I j) S' ∧ 0 ≤ j ∧ j < m ∧ Row S' p ∧ But p S S' := by
  obtain ⟨ns, a, b, c, hS, ha, hb, hb2⟩ := h
  have hp : p < S.length := (List.getElem?_eq_some_iff.mp hS).1
  have hm0 : m ≠ 0 := by omega
  have hS0 : S[p]? = some (.lst [.lst (ns.map .int), .int a, .int b, .int c]) := hS
  have hmod : ∀ x : Int, 0 ≤ x.fmod m ∧ x.fmod m < m := fun x => by
    rw [Int.fmod_eq_emod_of_nonneg _ (by omega)]
    exact ⟨Int.emod_nonneg _ hm0, Int.emod_lt_of_pos _ hm⟩
  have hmod2 : ∀ x : Int, 0 ≤ x.fmod 2147483647 ∧ x.fmod 2147483647 < 2147483648 := fun x => by
    rw [Int.fmod_eq_emod_of_nonneg _ (by omega)]
    omega
  have hd := fun x => divOk_small (x := x) hm hm2
  have hq := seqOf_l hS0
  have g : ∀ o, (S.set p o)[p]? = some o := fun o => List.getElem?_set_self hp
  have ht : ∀ o, (S.set p o).take S.length = S.set p o := fun o => List.take_of_length_le (by simp)
  have hqs : ∀ xs, seqOf (S.set p (.lst xs)) (.l p) = some (true, xs) := fun xs => seqOf_set hp
  have hd7 := fun x => divOk_small (x := x) (m := 7) (by decide) (by decide)
  have hmul := mulOk_seed hb hb2
  by_cases h1 : 0 < c
  · refine ⟨c.fmod m, S.set p (rowV ns a b (c.fdiv m)), ?_, (hmod c).1, (hmod c).2, ⟨ns, a, b, _, List.getElem?_set_self hp, ha, hb, hb2⟩, But.set⟩
    simp [F__law_taken, d__law_taken, hS0, hq, hqs, g, ht, h1, hm0, hd, rowV]
  · by_cases h2 : (ns.length : Int) < a + 1
    · refine ⟨(((b * 48271 + 11).fmod 2147483647).fdiv 7).fmod m, S.set p (rowV ns (a + 1) ((b * 48271 + 11).fmod 2147483647) c), ?_, (hmod _).1, (hmod _).2, ⟨ns, _, _, _, List.getElem?_set_self hp, by omega, (hmod2 _).1, (hmod2 _).2⟩, But.set⟩
      simp [F__law_taken, d__law_taken, hS0, hq, hqs, g, ht, h1, h2, hm0, hd, hd7, hmul, rowV]
    · have hlt : a.toNat < ns.length := by omega
      have hc := int_at ns a.toNat
      rw [List.getElem?_eq_getElem hlt] at hc
      have h3 : a < (ns.length : Int) := by omega
      by_cases h4 : (1000000000000000000 : Int) ≤ ns[a.toNat]
      · refine ⟨(ns[a.toNat]).fmod m, S.set p (rowV ns (a + 1) ((b * 48271 + ns[a.toNat] + 11).fmod 2147483647) ((ns[a.toNat]).fdiv m)), ?_, (hmod _).1, (hmod _).2, ⟨ns, _, _, _, List.getElem?_set_self hp, by omega, (hmod2 _).1, (hmod2 _).2⟩, But.set⟩
        simp [F__law_taken, d__law_taken, hS0, hq, hqs, g, ht, h1, h2, h3, hlt, hc, h4, ha, hm0, hd, hmul, rowV]
      · refine ⟨(ns[a.toNat]).fmod m, S.set p (rowV ns (a + 1) ((b * 48271 + ns[a.toNat] + 11).fmod 2147483647) c), ?_, (hmod _).1, (hmod _).2, ⟨ns, _, _, _, List.getElem?_set_self hp, by omega, (hmod2 _).1, (hmod2 _).2⟩, But.set⟩
        simp [F__law_taken, d__law_taken, hS0, hq, hqs, g, ht, h1, h2, h3, hlt, hc, h4, ha, hm0, hd, hmul, rowV]
/-- a thing picked of a list of things -/
theorem pick_spec {S : Store} {p : Nat} {t : Bool} {xs : List PV} {x : PV} (h : Row S p) (hx : ∀ S, seqOf S (.v x) = some (t, xs)) (h0 : 0 < xs.length) (h1 : xs.length < 4294967296) :
    ∃ (z : PV) (S' : Store), F__law_pick [.l p, .v x] S = .ok (.v z) S' ∧ z ∈ xs ∧ Row S' p ∧ But p S S' := by
  obtain ⟨j, S', e, j0, j1, hr, hb⟩ := taken_spec (m := (xs.length : Int)) h (by omega) (by omega)
  have hj : j.toNat < xs.length := by omega
  have hlt : j < (xs.length : Int) := j1
  have ht : S'.take S.length = S' := List.take_of_length_le (by rw [hb.1]; exact Nat.le_refl _)
  refine ⟨xs[j.toNat], S', ?_, List.getElem_mem hj, hr, hb⟩
  simp [F__law_pick, d__law_pick, hx, e, j0, hlt, hj, ht]
end FWP

/-! FW: ratios that are told, chances, lives. -/
namespace FWP
open PySem FW
theorem compL_map {f : PV → Store → Out (Option PV)} {g : PV → PV} {S : Store} : ∀ {xs : List PV}, (∀ x ∈ xs, f x S = .ok (some (g x)) S) → compL f xs S = .ok (xs.map g) S
  | [], _ => rfl
  | x :: xs, h => by
    show (f x S).bind _ = _
    rw [h x List.mem_cons_self]
    show (compL f xs S).bind _ = _
    rw [compL_map fun y hy => h y (List.mem_cons_of_mem _ hy)]
    rfl
section
variable {k l : Nat} {q r : Rat} {S : Store}
theorem F_is_ratio_eq (hq : Bd k q) (hk : k ≤ 12000) : F_is_ratio [.v (rv q)] S = .ok (.v (.bl true)) S := by
  have hb : (q.den : Int).natAbs < 2 ^ 100000 := Nat.lt_of_lt_of_le hq.2 (Nat.pow_le_pow_right (by decide) (by omega))
  have hg : Int.gcd q.num q.den = 1 := by
    have := q.reduced
    rw [Int.gcd]
    exact this
  have hd : 0 < q.den := q.den_pos
  simp [F_is_ratio, d_is_ratio, rv, evS_forr, forL, F_gcd_eq _ _ _ hb, hg, hd]
theorem F_is_chance_eq (hq : Bd k q) (hk : k ≤ 12000) (h0 : 0 ≤ q) (h1 : q ≤ 1) : F_is_chance [.v (rv q)] S = .ok (.v (.bl true)) S := by
  have a := F_is_ratio_eq (S := S) hq hk
  have b0 : 0 ≤ q.num := Rat.num_nonneg.mpr h0
  have b1 : q.num ≤ (q.den : Int) := by
    have := (Rat.le_iff q 1).mp h1
    simpa using this
  simp only [rv] at a
  simp [F_is_chance, d_is_chance, rv, a, b0, b1]
end
theorem ofV_v (f : VS) : (ofV f).v = f := rfl
theorem sComp_none {own : List Nat} {g : PV → Slots → Option Slots} {it : IS} {c : Slots → Store → Out Bool} {e : VS} {ρ : Slots} {S : Store} {xs : List PV} (hi : it ρ S = .ok xs S) (h : ∀ x ∈ xs, cTurn g c e (wipeS ρ own) x S = .ok none S) :
    sComp false own g it c e ρ S = .ok (.v (.lst [])) S := by
  unfold sComp
  rw [hi]
  show (compL _ _ S).bind _ = _
  rw [compL_none h]
  rfl
theorem sComp_map {own : List Nat} {g : PV → Slots → Option Slots} {it : IS} {c : Slots → Store → Out Bool} {e : VS} {ρ : Slots} {S : Store} {xs : List PV} {f : PV → PV} (hi : it ρ S = .ok xs S) (h : ∀ x ∈ xs, cTurn g c e (wipeS ρ own) x S = .ok (some (f x)) S) (hl : xs.length ≤ line) :
    sComp false own g it c e ρ S = .ok (.v (.lst (xs.map f))) S := by
  unfold sComp
  rw [hi]
  show (compL _ _ S).bind _ = _
  rw [compL_map h]
  show mkL false _ _ = _
  simp [mkL, hl]
theorem mem_rng {x : PV} {a b : Int} (h : x ∈ rng a b) : ∃ i : Int, a ≤ i ∧ i < b ∧ x = .int i := by
  unfold rng at h
  obtain ⟨i, hi, rfl⟩ := List.mem_map.mp h
  have := List.mem_range.mp hi
  exact ⟨a + Int.ofNat i, by show a ≤ a + (i : Int); omega, by show a + (i : Int) < b; omega, rfl⟩
theorem cut_init {xs : List PV} (h : xs ≠ []) : cut xs none (some (-1)) = xs.dropLast := by
  have : 0 < xs.length := by cases xs <;> simp at h ⊢
  unfold cut sx
  simp
  rw [List.dropLast_eq_take]
  congr 1
  omega
/-! ### lists of ratios -/
abbrev rvs (L : List Rat) : List PV := L.map rv
def lv (L : List Rat) : PV := .tup (rvs L)
theorem rv_one : rv 1 = .tup [.int 1, .int 1] := rfl
theorem rv_zero : rv 0 = .tup [.int 0, .int 1] := rfl
theorem rv_inj {q r : Rat} (h1 : q.num = r.num) (h2 : q.den = r.den) : q = r := Rat.ext h1 h2
theorem eqv_rv (q r : Rat) : eqv (rv q) (rv r) = decide (q = r) := by
  show (decide (q.num = r.num) && (decide ((q.den : Int) = (r.den : Int)) && true)) = _
  by_cases h : q = r
  · subst h; simp
  · rw [decide_eq_false h]
    by_cases h1 : q.num = r.num
    · have : ¬ ((q.den : Int) = (r.den : Int)) := fun z => h (rv_inj h1 (by omega))
      simp [this]
    · simp [h1]
theorem eqP_rv (q r : Rat) : eqP (rv q) (rv r) = some (decide (q = r)) := by rw [← eqv_rv]; rfl
theorem noFns_rvs : ∀ L : List Rat, noFns (rvs L) = true
  | [] => rfl
  | q :: L => by show (noFn (rv q) && noFns (rvs L)) = true; rw [noFns_rvs L]; rfl
theorem anyEq_rvs (q : Rat) (L : List Rat) : anyEq (rv q) (rvs L) = some (L.any fun r => decide (r = q)) := by
  have e : ((rvs L).any fun y => eqv y (rv q)) = L.any fun r => decide (r = q) := by
    rw [List.any_map]
    congr 1
    funext r
    exact eqv_rv r q
  unfold anyEq
  rw [noFns_rvs, e]
  rfl
theorem rvs_at {L : List Rat} {i : Nat} {q : Rat} (h : L[i]? = some q) : (rvs L)[i]? = some (rv q) := by rw [List.getElem?_map, h]; rfl
theorem rvs_len (L : List Rat) : (rvs L).length = L.length := List.length_map _
theorem rvs_drop (L : List Rat) (n : Nat) : (rvs L).drop n = rvs (L.drop n) := by simp
theorem rvs_dropLast (L : List Rat) : (rvs L).dropLast = rvs L.dropLast := by simp
/-! ### lives -/
structure LifeN (n k : Nat) (L : List Rat) : Prop where
  len : 2 ≤ L.length ∧ L.length ≤ n
  bd : ∀ q ∈ L, Bd k q
  ch : ∀ q ∈ L, 0 ≤ q ∧ q ≤ 1
  first : L[0]? = some 1
  last : L[L.length - 1]? = some 0
  pos : ∀ q ∈ L.dropLast, q ≠ 0
  fall : ∀ (t : Nat) (q r : Rat), L[t]? = some q → L[t + 1]? = some r → r ≤ q
abbrev Life (k : Nat) (L : List Rat) : Prop := LifeN 13 k L
section
variable {k : Nat} {L : List Rat} {S : Store}
theorem F_is_life_eq (h : Life k L) (hk : k ≤ 6000) : F_is_life [.v (lv L)] S = .ok (.v (.bl true)) S := by
  obtain ⟨h2, h13⟩ := h.len
  have e1 : (ev [("is_below", F_is_below), ("is_chance", F_is_chance)] (.comp false [2] (.name 2) (.seq (.var 0)) (.nt (.call 1 (.cons (.var 2) .nil))) (.var 2))).v [some (.v (lv L)), none, none] S = .ok (.v (.lst [])) S := by
    rw [ev_comp, ofV_v]
    refine sComp_none (xs := rvs L) ?_ fun x hx => ?_
    · simp [lv]
    obtain ⟨q, hq, rfl⟩ := List.mem_map.mp hx
    simp [F_is_chance_eq (h.bd q hq) (by omega) (h.ch q hq).1 (h.ch q hq).2]
  have e2 : (ev [("is_below", F_is_below), ("is_chance", F_is_chance)] (.comp false [1] (.name 1) (.rng2 (.k (.int 1)) (.bi .len false (.cons (.var 0) .nil))) (.call 0 (.cons (.idx (.var 0) (.bin .sub false (.var 1) (.k (.int 1)))) (.cons (.idx (.var 0) (.var 1)) .nil))) (.var 1))).v [some (.v (lv L)), none, none] S = .ok (.v (.lst [])) S := by
    rw [ev_comp, ofV_v]
    have r1 : rngOk (L.length : Int) = true := decide_eq_true (by omega)
    have r2 : rngOk (-(L.length : Int)) = true := decide_eq_true (by omega)
    have r3 : rngOk 1 = true := by decide
    have r4 : rngOk (-1) = true := by decide
    refine sComp_none (xs := rng 1 L.length) ?_ fun x hx => ?_
    · simp [lv, rvs_len, r1, r2, r3, r4]
    obtain ⟨i, h1, h3, rfl⟩ := mem_rng hx
    obtain ⟨t, rfl⟩ : ∃ t : Nat, i = (t : Int) + 1 := ⟨(i - 1).toNat, by omega⟩
    have ht : t + 1 < L.length := by omega
    have g1 : L[t]? = some L[t] := List.getElem?_eq_getElem (by omega)
    have g2 : L[t + 1]? = some L[t + 1] := List.getElem?_eq_getElem ht
    have hle := h.fall t _ _ g1 g2
    have hb := F_below_eq (S := S) (h.bd _ (List.mem_of_getElem? g1)) (h.bd _ (List.mem_of_getElem? g2)) (by omega)
    have hnl : ¬ L[t] < L[t + 1] := Rat.not_lt.mpr hle
    have i1 : t < L.length := by omega
    have i2 : (t : Int) + 1 < (L.length : Int) := by omega
    have i3 : (0 : Int) ≤ (t : Int) + 1 := by omega
    have i4 : ((t : Int) + 1).toNat = t + 1 := by omega
    simp [lv, rvs_len, i1, i2, i3, i4, rvs_at g1, rvs_at g2, hb, hnl]
  have hne : rvs L ≠ [] := by intro z; have := congrArg List.length z; rw [rvs_len] at this; simp at this; subst this; simp at h2
  have a0 := rvs_at h.first
  have a1 := rvs_at h.last
  have a2 : (L.dropLast.any fun r => decide (r = 0)) = false := by
    rw [List.any_eq_false]
    intro q hq
    simpa using h.pos q hq
  have c1 := cut_init hne
  rw [rvs_dropLast] at c1
  have b1 : 0 < L.length := by omega
  have b2 : (2 : Int) ≤ (L.length : Int) := by omega
  have b3 : (L.length : Int) ≤ 13 := by omega
  have b6 : L.length ≤ 16777217 := by omega
  have b4 : (0 : Int) ≤ -1 + (L.length : Int) := by omega
  have b5 : (-1 + (L.length : Int)).toNat = L.length - 1 := by omega
  have f0 : L[0] = 1 := (List.getElem?_eq_some_iff.mp h.first).2
  have f1 : L[L.length - 1] = 0 := (List.getElem?_eq_some_iff.mp h.last).2
  have q1 := eqP_rv 1 1
  have q2 := eqP_rv 0 0
  have q3 := anyEq_rvs 0 L.dropLast
  rw [a2, ← rvs_dropLast] at q3
  simp only [rv_one, rv_zero, lv] at *
  simp [F_is_life, d_is_life, e1, e2, rvs_len, f0, f1, rv_one, rv_zero, b1, b2, b3, b4, b5, a0, a1, c1, q1, q2, q3, line, List.length_dropLast, b6]
end
end FWP

/-! FW: rates of lives, there and back. -/
namespace FWP
open PySem FW
section
variable {k : Nat} {L : List Rat} {S : Store}
theorem F_need_life_eq (h : Life k L) (hk : k ≤ 6000) : F_need_life [.v (lv L)] S = .ok (.v .non) S := by
  have e := F_is_life_eq (S := S) h hk
  simp [F_need_life, d_need_life, e]
/-- the rates of a life -/
def rts (L : List Rat) : List Rat := (List.range (L.length - 1)).map fun t => 1 - L.getD (t + 1) 0 / L.getD t 0
theorem rts_len (L : List Rat) : (rts L).length = L.length - 1 := by simp [rts]
theorem Bd.one : Bd 1 1 := ⟨by decide, by decide⟩
theorem LifeN.nz {n : Nat} (h : LifeN n k L) {t : Nat} {q : Rat} (ht : t + 1 < L.length) (hq : L[t]? = some q) : q ≠ 0 := by
  refine h.pos q ?_
  rw [List.dropLast_eq_take]
  exact List.mem_of_getElem? (i := t) (by rw [List.getElem?_take_of_lt (by omega)]; exact hq)
theorem rts_at {t : Nat} {q r : Rat} (ht : t + 1 < L.length) (hq : L[t]? = some q) (hr : L[t + 1]? = some r) : (rts L)[t]? = some (1 - r / q) := by
  unfold rts
  rw [List.getElem?_map, List.getElem?_range (by omega)]
  simp [List.getD_eq_getElem?_getD, hq, hr]
theorem F_rates_of_eq (h : Life k L) (hk : k ≤ 3000) : F_rates_of [.v (lv L)] S = .ok (.v (.lst (rvs (rts L)))) S := by
  obtain ⟨h2, h13⟩ := h.len
  have e1 : (ev [("minus", F_minus), ("over", F_over)] (.comp false [1] (.name 1) (.rng1 (.bin .sub false (.bi .len false (.cons (.var 0) .nil)) (.k (.int 1)))) (.k (.bl true)) (.call 0 (.cons (.glob "ONE" (.tup [(.int 1), (.int 1)])) (.cons (.call 1 (.cons (.idx (.var 0) (.bin .add false (.var 1) (.k (.int 1)))) (.cons (.idx (.var 0) (.var 1)) .nil))) .nil))))).v [some (.v (lv L)), none] S = .ok (.v (.lst (rvs (rts L)))) S := by
    rw [ev_comp, ofV_v]
    have r1 : rngOk ((L.length : Int) - 1) = true := decide_eq_true (by omega)
    have r2 : rngOk (-((L.length : Int) - 1)) = true := decide_eq_true (by omega)
    have e := sComp_map (S := S) (own := [1]) (g := bindG (.name 1)) (it := evI [("minus", F_minus), ("over", F_over)] (.rng1 (.bin .sub false (.bi .len false (.cons (.var 0) .nil)) (.k (.int 1))))) (c := (ev [("minus", F_minus), ("over", F_over)] (.k (.bl true))).t)
      (e := (ev [("minus", F_minus), ("over", F_over)] (.call 0 (.cons (.glob "ONE" (.tup [(.int 1), (.int 1)])) (.cons (.call 1 (.cons (.idx (.var 0) (.bin .add false (.var 1) (.k (.int 1)))) (.cons (.idx (.var 0) (.var 1)) .nil))) .nil)))).v) (ρ := [some (.v (lv L)), none])
      (xs := rngN ((L.length : Int) - 1)) (f := fun x => match x with | .int i => rv (1 - L.getD (i.toNat + 1) 0 / L.getD i.toNat 0) | _ => .non) ?_ (fun x hx => ?_) ?_
    · rw [e]
      congr 3
      unfold rngN rts
      show _ = List.map rv _
      rw [List.map_map, List.map_map, show ((L.length : Int) - 1).toNat = L.length - 1 by omega]
      rfl
    · simp [lv, r1, r2]
    · obtain ⟨i, hi, rfl⟩ : ∃ i : Nat, i + 1 < L.length ∧ x = .int i := by
        unfold rngN at hx
        obtain ⟨i, hi, rfl⟩ := List.mem_map.mp hx
        have := List.mem_range.mp hi
        exact ⟨i, by omega, rfl⟩
      have g1 : L[i]? = some L[i] := List.getElem?_eq_getElem (by omega)
      have g2 : L[i + 1]? = some L[i + 1] := List.getElem?_eq_getElem hi
      have b1 := h.bd _ (List.mem_of_getElem? g1)
      have b2 := h.bd _ (List.mem_of_getElem? g2)
      have nz := h.nz hi g1
      have o1 := F_over_eq (S := S) b2 b1 (by omega) nz
      have o2 := F_minus_eq (S := S) Bd.one (b2.div b1 nz) (by omega)
      rw [rv_one] at o2
      have i1 : i < L.length := by omega
      have i2 : (i : Int) + 1 < (L.length : Int) := by omega
      have i3 : (0 : Int) ≤ (i : Int) + 1 := by omega
      have i4 : ((i : Int) + 1).toNat = i + 1 := by omega
      have i5 : max (i : Int) 0 = i := by omega
      simp [lv, i1, i2, i3, i4, o1, o2, List.getD_eq_getElem?_getD, g1, g2, hi]
    · unfold rngN
      simp [line]
      omega
  simp [F_rates_of, d_rates_of, e1]
theorem F_rates_eq (h : Life k L) (hk : k ≤ 3000) : F_rates [.v (lv L)] S = .ok (.v (lv (rts L))) S := by
  have e1 := F_need_life_eq (S := S) h (by omega)
  have e2 := F_rates_of_eq (S := S) h hk
  obtain ⟨h2, h13⟩ := h.len
  have hl : (rts L).length ≤ 16777216 := by rw [rts_len]; omega
  simp only [lv] at e1 e2 ⊢
  simp [F_rates, d_rates, e1, e2, line, hl]
theorem at_new (S : Store) (o : Ob) : (S ++ [o])[S.length]? = some o := by simp
theorem set_new (S : Store) (o o' : Ob) : (S ++ [o]).set S.length o' = S ++ [o'] := by simp
def bOf : CB := .cons (.app 1 (.call 0 (.cons (.idx (.var 1) (.neg (.k (.int 1)))) (.cons (.call 1 (.cons (.glob "ONE" (.tup [(.int 1), (.int 1)])) (.cons (.var 2) .nil))) .nil)))) .nil
def gOf : List (Str × Fn) := [("times", F_times), ("minus", F_minus), ("is_chance", F_is_chance)]
theorem of_step {P : List PV} {p r q p' R0 : PV} {m : Nat} {z : Option SV} (hlen : P.length = m + 1) (hl : P[m]? = some p) (hm : m < 1000) (o1 : ∀ S, F_minus [.v (rv 1), .v r] S = .ok (.v q) S) (o2 : ∀ S, F_times [.v p, .v q] S = .ok (.v p') S) :
    sTurn (bindG (.name 2)) (evB gOf bOf) r [some (.v R0), some (.l S.length), z] (S ++ [.lst P]) = .ok (.next [some (.v R0), some (.l S.length), some (.v r)]) (S ++ [.lst (P ++ [p'])]) := by
  rw [rv_one] at o1
  have hq := seqOf_l (at_new S (.lst P))
  have q1 : (0 : Int) ≤ -1 + ((m : Int) + 1) := by omega
  have q2 : (-1 + ((m : Int) + 1)).toNat = m := by omega
  have hP : m + 1 < 16777216 := by omega
  obtain ⟨hmP, hget⟩ := List.getElem?_eq_some_iff.mp hl
  simp [gOf, bOf, hq, hlen, hl, hget, o1, o2, at_new, set_new, line, hP, isLst_l (at_new S (.lst P)), q1, q2]
theorem of_loop (h : Life k L) (hk : k ≤ 1000) (R0 : PV) : ∀ (m t : Nat), t + m = L.length - 1 → ∀ z : Option SV, ∃ z' : Option SV,
    forL (sTurn (bindG (.name 2)) (evB gOf bOf)) [] (rvs ((rts L).drop t)) [some (.v R0), some (.l S.length), z] (S ++ [.lst (rvs (L.take (t + 1)))]) = .ok (.next [some (.v R0), some (.l S.length), z']) (S ++ [.lst (rvs L)]) := by
  obtain ⟨h2, h13⟩ := h.len
  intro m
  induction m with
  | zero =>
    intro t ht z
    refine ⟨z, ?_⟩
    rw [List.drop_of_length_le (by rw [rts_len]; omega), List.take_of_length_le (by omega)]
    rfl
  | succ m ih =>
    intro t ht z
    have hlt : t < (rts L).length := by rw [rts_len]; omega
    have g1 : L[t]? = some L[t] := List.getElem?_eq_getElem (by omega)
    have g2 : L[t + 1]? = some L[t + 1] := List.getElem?_eq_getElem (by omega)
    have gr := rts_at (by omega) g1 g2
    have er : (rts L)[t] = 1 - L[t + 1] / L[t] := (List.getElem?_eq_some_iff.mp gr).2
    rw [List.drop_eq_getElem_cons hlt, er]
    have b1 := h.bd _ (List.mem_of_getElem? g1)
    have b2 := h.bd _ (List.mem_of_getElem? g2)
    have nz := h.nz (by omega) g1
    have br := Bd.one.sub (b2.div b1 nz)
    have o1 := fun S => F_minus_eq (S := S) Bd.one br (by omega)
    have o2 := fun S => F_times_eq (S := S) b1 (Bd.one.sub br) (by omega)
    have ev : L[t] * (1 - (1 - L[t + 1] / L[t])) = L[t + 1] := by
      have : 1 - (1 - L[t + 1] / L[t]) = L[t + 1] / L[t] := by grind
      rw [this]
      grind
    rw [ev] at o2
    have hlast : (rvs (L.take (t + 1)))[t]? = some (rv L[t]) := by
      rw [List.getElem?_map, List.getElem?_take_of_lt (by omega), g1]; rfl
    have hlen : (rvs (L.take (t + 1))).length = t + 1 := by simp; omega
    have tk : L.take (t + 1 + 1) = L.take (t + 1) ++ [L[t + 1]] := List.take_succ_eq_append_getElem (by omega)
    have happ : rvs (L.take (t + 1)) ++ [rv L[t + 1]] = rvs (L.take (t + 1 + 1)) := by
      rw [tk]
      show _ = List.map rv _
      rw [List.map_append]
      rfl
    obtain ⟨z', e⟩ := ih (t + 1) (by omega) (some (.v (rv (1 - L[t + 1] / L[t]))))
    refine ⟨z', ?_⟩
    have st := of_step (S := S) (R0 := R0) (z := z) hlen hlast (by omega) o1 o2
    rw [happ] at st
    show (sTurn _ _ (rv (1 - L[t + 1] / L[t])) _ _).bind _ = _
    rw [st]
    exact e
theorem F_of_rates_eq (h : Life k L) (hk : k ≤ 1000) (hc : ∀ q ∈ rts L, Bd (2 * k + 3) q ∧ 0 ≤ q ∧ q ≤ 1) (hlast : (rts L)[(rts L).length - 1]? = some 1) (hno : ∀ q ∈ (rts L).dropLast, q ≠ 1) : F_of_rates [.v (lv (rts L))] S = .ok (.v (lv L)) S := by
  obtain ⟨h2, h13⟩ := h.len
  have hlen := rts_len L
  have e1 : (ev gOf (.comp false [2] (.name 2) (.seq (.var 0)) (.nt (.call 2 (.cons (.var 2) .nil))) (.var 2))).v [some (.v (lv (rts L))), none, none] S = .ok (.v (.lst [])) S := by
    rw [ev_comp, ofV_v]
    refine sComp_none (xs := rvs (rts L)) ?_ fun x hx => ?_
    · simp [lv]
    obtain ⟨q, hq, rfl⟩ := List.mem_map.mp hx
    obtain ⟨c1, c2, c3⟩ := hc q hq
    simp [gOf, F_is_chance_eq c1 (by omega) c2 c3]
  have f1 : (rts L)[(rts L).length - 1] = 1 := (List.getElem?_eq_some_iff.mp hlast).2
  have a2 : ((rts L).dropLast.any fun r => decide (r = 1)) = false := by
    rw [List.any_eq_false]
    intro q hq
    simpa using hno q hq
  have hne : rvs (rts L) ≠ [] := by
    intro z
    have := rvs_len (rts L)
    rw [z] at this
    simp only [List.length_nil] at this
    omega
  have c1 := cut_init hne
  have q3 := anyEq_rvs 1 (rts L).dropLast
  rw [a2, ← rvs_dropLast] at q3
  have q1 := eqP_rv 1 1
  obtain ⟨z', e2⟩ := of_loop (S := S) h hk (lv (rts L)) (L.length - 1) 0 (by omega) none
  have f0 : L.take 1 = [1] := by
    have := (List.getElem?_eq_some_iff.mp h.first).2
    rw [List.take_one]
    cases L with
    | nil => simp at h2
    | cons x L => simp at this; subst this; rfl
  have e3 : evS gOf (.forr (.name 2) (.seq (.var 0)) bOf []) [some (.v (lv (rts L))), some (.l S.length), none] (S ++ [.lst [rv 1]]) = .ok (.next [some (.v (lv (rts L))), some (.l S.length), z']) (S ++ [.lst (rvs L)]) := by
    rw [evS_forr]
    simp only [lv] at e2 ⊢
    rw [Nat.zero_add, f0, List.drop_zero] at e2
    simpa using e2
  have b2 : (1 : Int) ≤ ((rts L).length : Int) := by omega
  have b3 : ((rts L).length : Int) < 13 := by omega
  have b7 : 0 < (rts L).length := by omega
  have b6 : (rts L).length ≤ 16777217 := by omega
  have b4 : (0 : Int) ≤ -1 + ((rts L).length : Int) := by omega
  have b5 : (-1 + ((rts L).length : Int)).toNat = (rts L).length - 1 := by omega
  have hq := seqOf_l (at_new S (.lst (rvs L)))
  have b8 : L.length ≤ 16777216 := by omega
  simp only [rv_one, lv, gOf, bOf] at *
  simp [F_of_rates, d_of_rates, e1, e3, f1, hlast, rv_one, b2, b3, b4, b5, b6, b7, b8, c1, q1, q3, hq, line]
end
end FWP

/-! FW: more of lives. -/
namespace FWP
open PySem FW
theorem div_nn {q r : Rat} (hq : 0 < q) (hr : 0 ≤ r) : 0 ≤ r / q := by
  rw [Rat.div_def]
  exact Rat.mul_nonneg hr (Rat.le_of_lt (Rat.inv_pos.mpr hq))
theorem div_le_one {q r : Rat} (hq : 0 < q) (h : r ≤ q) : r / q ≤ 1 := by
  have h1 : 0 ≤ (q - r) / q := div_nn hq (by grind)
  have h2 : (q - r) / q = 1 - r / q := by grind
  rw [h2] at h1
  grind
section
variable {k : Nat} {L : List Rat} {S : Store}
theorem LifeN.pos_at {n : Nat} (h : LifeN n k L) {t : Nat} {q : Rat} (ht : t + 1 < L.length) (hq : L[t]? = some q) : 0 < q := by
  have h1 := h.nz ht hq
  have h2 := (h.ch q (List.mem_of_getElem? hq)).1
  grind
theorem rate_mem {n : Nat} (h : LifeN n k L) {x : Rat} (hx : x ∈ rts L) : ∃ (t : Nat) (q r : Rat), t + 1 < L.length ∧ L[t]? = some q ∧ L[t + 1]? = some r ∧ x = 1 - r / q := by
  obtain ⟨t, ht⟩ := List.getElem?_of_mem hx
  have hl : t < (rts L).length := (List.getElem?_eq_some_iff.mp ht).1
  rw [rts_len] at hl
  have g1 : L[t]? = some (L[t]'(by omega)) := List.getElem?_eq_getElem (by omega)
  have g2 : L[t + 1]? = some (L[t + 1]'(by omega)) := List.getElem?_eq_getElem (by omega)
  have := rts_at (by omega) g1 g2
  rw [ht] at this
  exact ⟨t, _, _, by omega, g1, g2, Option.some.inj this⟩
theorem rate_ok {n : Nat} (h : LifeN n k L) : ∀ x ∈ rts L, Bd (2 * k + 3) x ∧ 0 ≤ x ∧ x ≤ 1 := by
  intro x hx
  obtain ⟨t, q, r, ht, g1, g2, rfl⟩ := rate_mem h hx
  have b1 := h.bd _ (List.mem_of_getElem? g1)
  have b2 := h.bd _ (List.mem_of_getElem? g2)
  have hq := h.pos_at ht g1
  have hr := (h.ch r (List.mem_of_getElem? g2)).1
  have hle := h.fall t q r g1 g2
  refine ⟨(Bd.one.sub (b2.div b1 (h.nz ht g1))).mono (by omega), ?_, ?_⟩
  · have : r / q ≤ 1 := div_le_one hq hle
    grind
  · have : 0 ≤ r / q := div_nn hq hr
    grind
theorem rate_last (h : Life k L) : (rts L)[(rts L).length - 1]? = some 1 := by
  obtain ⟨h2, h13⟩ := h.len
  rw [rts_len]
  have g1 : L[L.length - 2]? = some (L[L.length - 2]'(by omega)) := List.getElem?_eq_getElem (by omega)
  have g2 : L[L.length - 2 + 1]? = some 0 := by rw [show L.length - 2 + 1 = L.length - 1 by omega]; exact h.last
  have := rts_at (by omega) g1 g2
  rw [show L.length - 1 - 1 = L.length - 2 by omega, this]
  congr 1
  grind
theorem rate_not (h : Life k L) : ∀ x ∈ (rts L).dropLast, x ≠ 1 := by
  intro x hx
  obtain ⟨h2, h13⟩ := h.len
  obtain ⟨t, ht⟩ := List.getElem?_of_mem hx
  have hl : t < (rts L).dropLast.length := (List.getElem?_eq_some_iff.mp ht).1
  rw [List.length_dropLast, rts_len] at hl
  rw [List.dropLast_eq_take, List.getElem?_take_of_lt (by rw [rts_len]; omega)] at ht
  have g1 : L[t]? = some (L[t]'(by omega)) := List.getElem?_eq_getElem (by omega)
  have g2 : L[t + 1]? = some (L[t + 1]'(by omega)) := List.getElem?_eq_getElem (by omega)
  have := rts_at (by omega) g1 g2
  rw [ht] at this
  have hx := Option.some.inj this
  have p1 := h.pos_at (by omega) g1
  have p2 := h.pos_at (by omega) g2
  intro z
  rw [z] at hx
  have : L[t + 1] / L[t] = 0 := by grind
  have : L[t + 1] = 0 := by
    have e : L[t + 1] = L[t + 1] / L[t] * L[t] := by grind
    rw [e, this]
    grind
  grind
theorem F_of_rates_life (h : Life k L) (hk : k ≤ 1000) : F_of_rates [.v (lv (rts L))] S = .ok (.v (lv L)) S := F_of_rates_eq h hk (rate_ok h) (rate_last h) (rate_not h)
/-! ### sums -/
def sumR : List Rat → Rat
  | [] => 0
  | q :: r => q + sumR r
def gTot : List (Str × Fn) := [("plus", F_plus)]
theorem total_loop (V : SV) : ∀ (R : List Rat) (a : Rat) (b : Nat) (z : Option SV), Bd b a → (∀ q ∈ R, Bd k q) → b + (k + 1) * R.length ≤ 10000 → ∃ z', forL (sTurn (bindG (.name 2)) (evB gTot (.cons (.set 1 (.call 0 (.cons (.var 1) (.cons (.var 2) .nil)))) .nil))) [] (rvs R) [some V, some (.v (rv a)), z] S = .ok (.next [some V, some (.v (rv (a + sumR R))), z']) S := by
  intro R
  induction R with
  | nil => intro a b z hb _ _; exact ⟨z, by simp [forL, sumR, Rat.add_zero]⟩
  | cons q R ih =>
    intro a b z hb hR hl
    rw [List.length_cons, Nat.mul_succ] at hl
    have hq := hR q List.mem_cons_self
    have o := F_plus_eq (S := S) hb hq (by omega)
    obtain ⟨z', e⟩ := ih (a + q) (b + k + 1) (some (.v (rv q))) (hb.add hq) (fun r hr => hR r (List.mem_cons_of_mem _ hr)) (by omega)
    refine ⟨z', ?_⟩
    rw [show a + sumR (q :: R) = a + q + sumR R by show a + (q + sumR R) = _; grind, ← e]
    show (sTurn _ _ (rv q) _ _).bind _ = _
    simp [gTot, o]
theorem Bd.zero : Bd 1 0 := ⟨by decide, by decide⟩
theorem F_total_of_eq {R : List Rat} (hR : ∀ q ∈ R, Bd k q) (hl : 1 + (k + 1) * R.length ≤ 10000) : F_total_of [.v (lv R)] S = .ok (.v (rv (sumR R))) S := by
  obtain ⟨z', e⟩ := total_loop (S := S) (.v (lv R)) R 0 1 none Bd.zero hR hl
  rw [Rat.zero_add] at e
  have e2 : evS gTot (.forr (.name 2) (.seq (.var 0)) (.cons (.set 1 (.call 0 (.cons (.var 1) (.cons (.var 2) .nil)))) .nil) []) [some (.v (lv R)), some (.v (rv 0)), none] S = .ok (.next [some (.v (lv R)), some (.v (rv (sumR R))), z']) S := by
    rw [evS_forr]
    simp only [lv] at e ⊢
    simpa using e
  simp only [rv_zero, lv, gTot] at *
  simp [F_total_of, d_total_of, e2]
theorem F_mean_life_eq (h : Life k L) (hk : k ≤ 500) : F_mean_life [.v (lv L)] S = .ok (.v (rv (sumR L))) S := by
  obtain ⟨h2, h13⟩ := h.len
  have e1 := F_need_life_eq (S := S) h (by omega)
  have e2 := F_total_of_eq (S := S) h.bd (by
    have : (k + 1) * L.length ≤ 501 * 13 := Nat.mul_le_mul (by omega) h13
    omega)
  simp only [lv] at e1 e2 ⊢
  simp [F_mean_life, d_mean_life, e1, e2]
theorem is_in_eq {i a b : Int} (h1 : a ≤ i) (h2 : i ≤ b) : F_is_in [I i, I a, I b] S = .ok (.v (.bl true)) S := by
  simp [F_is_in, d_is_in, h1, h2]
theorem cut_from {xs : List PV} {t : Nat} (h : t ≤ xs.length) : cut xs (some (t : Int)) none = xs.drop t := by
  have e : sx xs.length 0 (some (t : Int)) = t := by
    show (if (t : Int) < 0 then ((t : Int) + (xs.length : Int)).toNat else min (t : Int).toNat xs.length) = t
    rw [if_neg (by omega)]
    simp [h]
  unfold cut
  rw [e, show sx xs.length xs.length none = xs.length from rfl]
  exact List.take_of_length_le (by simp)
/-- what is left of a life -/
def left (L : List Rat) (t : Nat) : List Rat := (L.drop t).map fun q => q / L.getD t 0
theorem F_older_eq (h : Life k L) (hk : k ≤ 3000) {t : Nat} (ht : t + 1 < L.length) : F_older [.v (lv L), I t] S = .ok (.v (lv (left L t))) S := by
  obtain ⟨h2, h13⟩ := h.len
  have g1 : L[t]? = some (L[t]'(by omega)) := List.getElem?_eq_getElem (by omega)
  have b1 := h.bd _ (List.mem_of_getElem? g1)
  have nz := h.nz ht g1
  have gd : L.getD t 0 = L[t]'(by omega) := by rw [List.getD_eq_getElem?_getD, g1]; rfl
  have e0 := F_need_life_eq (S := S) h (by omega)
  have e1 := is_in_eq (S := S) (i := (t : Int)) (a := 0) (b := (L.length : Int) - 2) (by omega) (by omega)
  have hcut := cut_from (xs := rvs L) (t := t) (by rw [rvs_len]; omega)
  have hl : (rvs L).length - t ≤ 16777216 := by rw [rvs_len]; omega
  have i1 : t < L.length := by omega
  have e2 : (ev [("need_life", F_need_life), ("is_in", F_is_in), ("over", F_over)] (.comp false [2] (.name 2) (.seq (.slc false (.var 0) (.var 1) (.k .non))) (.k (.bl true)) (.call 2 (.cons (.var 2) (.cons (.idx (.var 0) (.var 1)) .nil))))).v [some (.v (lv L)), some (I t), none] S = .ok (.v (.lst (rvs (left L t)))) S := by
    rw [ev_comp, ofV_v]
    have e := sComp_map (S := S) (own := [2]) (g := bindG (.name 2)) (it := evI [("need_life", F_need_life), ("is_in", F_is_in), ("over", F_over)] (.seq (.slc false (.var 0) (.var 1) (.k .non)))) (c := (ev [("need_life", F_need_life), ("is_in", F_is_in), ("over", F_over)] (.k (.bl true))).t)
      (e := (ev [("need_life", F_need_life), ("is_in", F_is_in), ("over", F_over)] (.call 2 (.cons (.var 2) (.cons (.idx (.var 0) (.var 1)) .nil)))).v) (ρ := [some (.v (lv L)), some (I t), none])
      (xs := rvs (L.drop t)) (f := fun x => match x with | .tup [.int n, .int d] => rv (Rat.divInt n d / L.getD t 0) | _ => .non) ?_ (fun x hx => ?_) ?_
    · rw [e]
      congr 3
      show List.map _ (List.map rv _) = List.map rv (List.map _ _)
      rw [List.map_map, List.map_map]
      refine List.map_congr_left fun q hq => ?_
      show rv (Rat.divInt q.num q.den / L.getD t 0) = rv (q / L.getD t 0)
      rw [Rat.num_divInt_den]
    · rw [rvs_drop] at hcut
      simp only [lv]
      have hl2 : L.length ≤ 16777216 + t := by omega
      simp [hcut, line, hl, hl2]
    · obtain ⟨q, hq, rfl⟩ := List.mem_map.mp hx
      have bq := h.bd q (List.mem_of_mem_drop hq)
      have o := F_over_eq (S := S) bq b1 (by omega) nz
      have ev : (match rv q with | .tup [.int n, .int d] => rv (Rat.divInt n d / L.getD t 0) | _ => .non) = rv (q / L.getD t 0) := by
        show rv (Rat.divInt q.num q.den / L.getD t 0) = rv (q / L.getD t 0)
        rw [Rat.num_divInt_den]
      rw [ev, gd]
      simp [lv, i1, o]
    · simp [line]
      omega
  have hlen : (left L t).length ≤ 16777216 := by unfold left; simp; omega
  simp only [lv] at *
  simp [F_older, d_older, e0, e1, e2, line, hlen]
end
end FWP

/-! FW: a life that is left; the law's own rates. -/
namespace FWP
open PySem FW
section
variable {k : Nat} {L : List Rat} {S : Store}
theorem Life.le (h : Life k L) : ∀ (m t : Nat) (q r : Rat), L[t]? = some q → L[t + m]? = some r → r ≤ q := by
  intro m
  induction m with
  | zero => intro t q r h1 h2; rw [Nat.add_zero, h1] at h2; cases h2; exact Rat.le_refl
  | succ m ih =>
    intro t q r h1 h2
    have hl : t + (m + 1) < L.length := (List.getElem?_eq_some_iff.mp h2).1
    have g := List.getElem?_eq_getElem (show t + m < L.length by omega)
    exact Rat.le_trans (h.fall (t + m) _ r g (by rw [← h2]; congr 1)) (ih t q _ h1 g)
theorem left_at {t s : Nat} {p q : Rat} (hp : L[t]? = some p) (hq : L[t + s]? = some q) : (left L t)[s]? = some (q / p) := by
  unfold left
  rw [List.getElem?_map, List.getElem?_drop, hq, List.getD_eq_getElem?_getD, hp]
  rfl
theorem left_len (t : Nat) : (left L t).length = L.length - t := by unfold left; simp
theorem Life.rest (h : Life k L) {t : Nat} (ht : t + 1 < L.length) : Life (k + k) (left L t) := by
  obtain ⟨h2, h13⟩ := h.len
  have hp := List.getElem?_eq_getElem (show t < L.length by omega)
  have bp := h.bd _ (List.mem_of_getElem? hp)
  have pp := h.pos_at ht hp
  have nz := h.nz ht hp
  have at_ : ∀ {s : Nat} {x : Rat}, (left L t)[s]? = some x → ∃ q, L[t + s]? = some q ∧ x = q / L[t] := fun {s x} hx => by
    have hs : s < (left L t).length := (List.getElem?_eq_some_iff.mp hx).1
    rw [left_len] at hs
    have hq := List.getElem?_eq_getElem (show t + s < L.length by omega)
    refine ⟨_, hq, ?_⟩
    rw [left_at hp hq] at hx
    exact (Option.some.inj hx).symm
  refine ⟨⟨by rw [left_len]; omega, by rw [left_len]; omega⟩, fun x hx => ?_, fun x hx => ?_, ?_, ?_, fun x hx => ?_, fun s q r hq hr => ?_⟩
  · obtain ⟨s, hs⟩ := List.getElem?_of_mem hx
    obtain ⟨q, hq, rfl⟩ := at_ hs
    exact (h.bd q (List.mem_of_getElem? hq)).div bp nz
  · obtain ⟨s, hs⟩ := List.getElem?_of_mem hx
    obtain ⟨q, hq, rfl⟩ := at_ hs
    exact ⟨div_nn pp (h.ch q (List.mem_of_getElem? hq)).1, div_le_one pp (h.le s t _ q hp hq)⟩
  · rw [left_at (s := 0) hp hp]
    congr 1
    grind
  · have hl : L[t + (L.length - 1 - t)]? = some 0 := by rw [show t + (L.length - 1 - t) = L.length - 1 by omega]; exact h.last
    rw [left_len, show L.length - t - 1 = L.length - 1 - t by omega, left_at hp hl]
    congr 1
    grind
  · obtain ⟨s, hs⟩ := List.getElem?_of_mem hx
    have hl : s < (left L t).dropLast.length := (List.getElem?_eq_some_iff.mp hs).1
    rw [List.length_dropLast, left_len] at hl
    rw [List.dropLast_eq_take, List.getElem?_take_of_lt (by rw [left_len]; omega)] at hs
    obtain ⟨q, hq, rfl⟩ := at_ hs
    have hq0 := h.nz (show t + s + 1 < L.length by omega) hq
    intro z
    apply hq0
    have e : q = q / L[t] * L[t] := by grind
    rw [e, z]
    grind
  · obtain ⟨q', hq', rfl⟩ := at_ hq
    obtain ⟨r', hr', rfl⟩ := at_ hr
    have hle := h.fall (t + s) q' r' hq' (by rw [← hr']; congr 1)
    have h1 : 0 ≤ (q' - r') / L[t] := div_nn pp (by grind)
    have e : (q' - r') / L[t] = q' / L[t] - r' / L[t] := by grind
    rw [e] at h1
    grind
theorem rts_left (h : Life k L) {t : Nat} (ht : t + 1 < L.length) : rts (left L t) = (rts L).drop t := by
  have hp := List.getElem?_eq_getElem (show t < L.length by omega)
  have nz := h.nz ht hp
  refine List.ext_getElem? fun s => ?_
  rw [List.getElem?_drop]
  by_cases hs : t + s + 1 < L.length
  · have hq := List.getElem?_eq_getElem (show t + s < L.length by omega)
    have hr := List.getElem?_eq_getElem (show t + (s + 1) < L.length by omega)
    rw [rts_at (by rw [left_len]; omega) (left_at hp hq) (left_at hp hr), rts_at (by omega) hq (by exact hr)]
    have nq := h.nz (show t + s + 1 < L.length by omega) hq
    congr 1
    grind
  · rw [List.getElem?_eq_none (by rw [rts_len, left_len]; omega), List.getElem?_eq_none (by rw [rts_len]; omega)]
/-! ### the law's own -/
theorem one_sub (q : Rat) : rv (1 - q) = .tup [.int ((q.den : Int) - q.num), .int q.den] := by
  have e : 1 - q = Rat.divInt ((q.den : Int) - q.num) q.den := by
    have := sub_eq 1 q
    simpa using this
  have hd : 0 < q.den := q.den_pos
  have hg : Int.gcd (q.den : Int) ((q.den : Int) - q.num) = 1 := by
    have h1 : Int.gcd (q.den : Int) ((q.den : Int) - q.num) = Int.gcd (q.den : Int) q.num := by
      rw [Int.gcd_sub_left_right_of_dvd _ (Int.dvd_refl _)]
    rw [h1, Int.gcd_comm]
    exact q.reduced
  have n1 : (1 - q).num = (q.den : Int) - q.num := by
    rw [e, Rat.num_divInt, hg, Int.sign_eq_one_of_pos (by omega)]
    simp
  have n2 : (1 - q).den = q.den := by
    rw [e, Rat.den_divInt, hg, if_neg (by omega)]
    simp
  unfold rv
  rw [n1, n2]
theorem F_less_one_eq (q : Rat) : F__law_less_one [.v (rv q)] S = .ok (.v (rv (1 - q))) S := by
  rw [one_sub]
  simp [F__law_less_one, d__law_less_one, rv, line]
end
end FWP

/-! FW: the law's own rates, its drawn life. -/
namespace FWP
open PySem FW
section
variable {k : Nat} {L : List Rat} {S : Store}
def bR : CB := .cons (.par [3, 4] (.cons (.idx (.var 0) (.bin .add false (.var 2) (.k (.int 1)))) (.cons (.idx (.var 0) (.var 2)) .nil)))
      (.cons (.app 1 (.call 0 (.cons (.call 1 (.cons (.bin .mul false (.idx (.var 3) (.k (.int 0))) (.idx (.var 4) (.k (.int 1)))) (.cons (.bin .mul false (.idx (.var 3) (.k (.int 1))) (.idx (.var 4) (.k (.int 0)))) .nil))) .nil))) .nil)
def gR : List (Str × Fn) := [("_law_less_one", F__law_less_one), ("_law_ratio", F__law_ratio)]
theorem rates_step {n : Nat} (h : LifeN n k L) (hk : k ≤ 3000) {P : List PV} {i : Nat} {z2 z3 z4 : Option SV} (hP : P.length < 1000) (hi : i + 1 < L.length) :
    sTurn (bindG (.name 2)) (evB gR bR) (.int i) [some (.v (lv L)), some (.l S.length), z2, z3, z4] (S ++ [.lst P]) = .ok (.next [some (.v (lv L)), some (.l S.length), some (I i), some (.v (rv L[i + 1])), some (.v (rv L[i]))]) (S ++ [.lst (P ++ [rv (1 - L[i + 1] / L[i])])]) := by
  have g1 := List.getElem?_eq_getElem (show i < L.length by omega)
  have g2 := List.getElem?_eq_getElem hi
  have b1 := h.bd _ (List.mem_of_getElem? g1)
  have b2 := h.bd _ (List.mem_of_getElem? g2)
  have nz := h.nz hi g1
  generalize L[i + 1] = a at *
  generalize L[i] = b at *
  have m1 := mulOk_of (a := a.num) (b := (b.den : Int)) b2.1 b1.2 (by omega)
  have m2 := mulOk_of (a := (a.den : Int)) (b := b.num) b2.2 b1.1 (by omega)
  have e := fun S => F_ratio_eq (a.num * b.den) ((a.den : Int) * b.num) S (Int.mul_ne_zero (den_ne a) (num_ne nz)) (by rw [Int.natAbs_mul]; exact pow_le13 (mul_lt b2.1 b1.2) (by omega)) (by rw [Int.natAbs_mul]; exact pow_le13 (mul_lt b2.2 b1.1) (by omega))
  rw [← div_eq] at e
  have e2 := fun S => F_less_one_eq (S := S) (a / b)
  have r1 := rvs_at g1
  have r2 := rvs_at g2
  have i2 : (i : Int) + 1 < (L.length : Int) := by omega
  have i1 : i < L.length := by omega
  have i3 : (0 : Int) ≤ (i : Int) + 1 := by omega
  have i4 : ((i : Int) + 1).toNat = i + 1 := by omega
  have hl2 : (rvs L).length = L.length := rvs_len L
  have hP2 : P.length < 16777216 := by omega
  simp only [lv]
  generalize rvs L = Ls at *
  generalize hx : rv (1 - a / b) = x at *
  simp only [rv] at *
  have r1' := (List.getElem?_eq_some_iff.mp r1).2
  have r2' := (List.getElem?_eq_some_iff.mp r2).2
  simp [gR, bR, i1, i2, i3, i4, hl2, r1, r2, r1', r2', m1, m2, e, e2, at_new, set_new, line, hP2, isLst_l (at_new S (.lst P))]
theorem rates_loop {n : Nat} (h : LifeN n k L) (hk : k ≤ 3000) (hn : n ≤ 500 := by decide) : ∀ (m t : Nat), t + m = L.length - 1 → ∀ (z2 z3 z4 : Option SV), ∃ y2 y3 y4 : Option SV,
    forL (sTurn (bindG (.name 2)) (evB gR bR)) [] ((List.range' t m).map fun i => PV.int (Int.ofNat i)) [some (.v (lv L)), some (.l S.length), z2, z3, z4] (S ++ [.lst (rvs ((rts L).take t))]) = .ok (.next [some (.v (lv L)), some (.l S.length), y2, y3, y4]) (S ++ [.lst (rvs (rts L))]) := by
  obtain ⟨h2, h13⟩ := h.len
  intro m
  induction m with
  | zero =>
    intro t ht z2 z3 z4
    refine ⟨z2, z3, z4, ?_⟩
    rw [List.take_of_length_le (by rw [rts_len]; omega)]
    rfl
  | succ m ih =>
    intro t ht z2 z3 z4
    have hi : t + 1 < L.length := by omega
    have st := rates_step (S := S) h hk (P := rvs ((rts L).take t)) (i := t) (z2 := z2) (z3 := z3) (z4 := z4) (by simp; omega) hi
    have gr := rts_at hi (List.getElem?_eq_getElem (show t < L.length by omega)) (List.getElem?_eq_getElem hi)
    have hlt : t < (rts L).length := by rw [rts_len]; omega
    have er : (rts L)[t] = 1 - L[t + 1] / L[t] := (List.getElem?_eq_some_iff.mp gr).2
    have tk : (rts L).take (t + 1) = (rts L).take t ++ [1 - L[t + 1] / L[t]] := by rw [← er]; exact List.take_succ_eq_append_getElem hlt
    have happ : rvs ((rts L).take t) ++ [rv (1 - L[t + 1] / L[t])] = rvs ((rts L).take (t + 1)) := by
      rw [tk]
      show _ = List.map rv _
      rw [List.map_append]
      rfl
    rw [happ] at st
    obtain ⟨y2, y3, y4, e⟩ := ih (t + 1) (by omega) (some (I t)) (some (.v (rv L[t + 1]))) (some (.v (rv L[t])))
    refine ⟨y2, y3, y4, ?_⟩
    rw [List.range'_succ]
    show (sTurn _ _ (.int t) _ _).bind _ = _
    rw [st]
    exact e
theorem F_lrates_eq {n : Nat} (h : LifeN n k L) (hk : k ≤ 3000) (hn : n ≤ 500 := by decide) : F__law_rates [.v (lv L)] S = .ok (.v (.lst (rvs (rts L)))) S := by
  obtain ⟨h2, h13⟩ := h.len
  obtain ⟨y2, y3, y4, e⟩ := rates_loop (S := S) h hk hn (L.length - 1) 0 (by omega) none none none
  have r1 : rngOk ((L.length : Int) - 1) = true := decide_eq_true (by omega)
  have r2 : rngOk (-((L.length : Int) - 1)) = true := decide_eq_true (by omega)
  have hr : rngN ((L.length : Int) - 1) = (List.range' 0 (L.length - 1)).map fun i => PV.int (Int.ofNat i) := by
    unfold rngN
    rw [show ((L.length : Int) - 1).toNat = L.length - 1 by omega, List.range_eq_range']
  have e2 : evS gR (.forr (.name 2) (.rng1 (.bin .sub false (.bi .len false (.cons (.var 0) .nil)) (.k (.int 1)))) bR []) [some (.v (lv L)), some (.l S.length), none, none, none] (S ++ [.lst []]) = .ok (.next [some (.v (lv L)), some (.l S.length), y2, y3, y4]) (S ++ [.lst (rvs (rts L))]) := by
    rw [evS_forr]
    simp only [lv] at e ⊢
    simp only [List.take_zero] at e
    simp [r1, r2, hr]
    exact e
  simp only [lv, gR, bR] at *
  have hq := seqOf_l (at_new S (.lst (rvs (rts L))))
  have ha := at_new S (.lst (rvs (rts L)))
  simp [F__law_rates, d__law_rates, e2, line]
end
end FWP

/-! FW: a drawn life. -/
namespace FWP
open PySem FW
/-! ### drawn lists -/
theorem compL_draw {f : PV → Store → Out (Option PV)} {p : Nat} {m : Int} (hf : ∀ x S, Row S p → ∃ j S', f x S = .ok (some (.int j)) S' ∧ 0 ≤ j ∧ j < m ∧ Row S' p ∧ But p S S') : ∀ (xs : List PV) (S : Store), Row S p →
    ∃ (js : List Int) (S' : Store), compL f xs S = .ok (js.map .int) S' ∧ (∀ j ∈ js, 0 ≤ j ∧ j < m) ∧ js.length = xs.length ∧ Row S' p ∧ But p S S'
  | [], S, h => ⟨[], S, rfl, by simp, rfl, h, But.refl⟩
  | x :: xs, S, h => by
    obtain ⟨j, S1, e1, j0, j1, r1, b1⟩ := hf x S h
    obtain ⟨js, S2, e2, hj, hl, r2, b2⟩ := compL_draw hf xs S1 r1
    refine ⟨j :: js, S2, ?_, ?_, by simp [hl], r2, b1.trans b2⟩
    · show (f x S).bind _ = _
      rw [e1]
      show (compL f xs S1).bind _ = _
      rw [e2]
      rfl
    · intro i hi
      rcases List.mem_cons.mp hi with rfl | hi
      · exact ⟨j0, j1⟩
      · exact hj i hi
theorem insI_mem (x : Int) : ∀ (l : List Int) (y : Int), y ∈ insI x l → y = x ∨ y ∈ l
  | [], y, h => by simp [insI] at h; exact .inl h
  | z :: r, y, h => by
    unfold insI at h
    split at h
    · rcases List.mem_cons.mp h with h | h
      · exact .inl h
      · exact .inr h
    · rcases List.mem_cons.mp h with h | h
      · exact .inr (by rw [h]; exact List.mem_cons_self)
      · rcases insI_mem x r y h with h | h
        · exact .inl h
        · exact .inr (List.mem_cons_of_mem _ h)
theorem isortI_mem : ∀ (l : List Int) (y : Int), y ∈ isortI l → y ∈ l
  | [], y, h => by simp [isortI] at h
  | x :: r, y, h => by
    rcases insI_mem x _ y h with h | h
    · rw [h]; exact List.mem_cons_self
    · exact List.mem_cons_of_mem _ (isortI_mem r y h)
theorem insI_len (x : Int) : ∀ l : List Int, (insI x l).length = l.length + 1
  | [] => rfl
  | z :: r => by unfold insI; split <;> simp [insI_len x r]
theorem isortI_len : ∀ l : List Int, (isortI l).length = l.length
  | [] => rfl
  | x :: r => by show (insI x (isortI r)).length = _; rw [insI_len, isortI_len r]; rfl
theorem insB_ints (x : Int) : ∀ l : List Int, insB leK (.int x) (l.map .int) = (insI x l).map .int
  | [] => rfl
  | y :: r => by
    show (if leK (.int x) (.int y) = true then _ else _) = _
    unfold insI
    have e : leK (.int x) (.int y) = decide (x ≤ y) := by
      unfold leK ltK
      by_cases h : x ≤ y
      · rw [decide_eq_true h, decide_eq_false (by omega)]; rfl
      · rw [decide_eq_false h, decide_eq_true (by omega)]; rfl
    rw [e]
    by_cases h : x ≤ y
    · rw [decide_eq_true h, if_pos rfl, if_pos h]; rfl
    · rw [decide_eq_false h, if_neg (by decide), if_neg h, insB_ints x r]; rfl
theorem isortK_ints : ∀ l : List Int, isortK (l.map .int) = (isortI l).map .int
  | [] => rfl
  | x :: r => by
    show insB leK (.int x) (sortB leK (r.map .int)) = _
    rw [show sortB leK (r.map .int) = (isortI r).map .int from isortK_ints r, insB_ints]
    rfl
theorem noFns_ints : ∀ l : List Int, noFns (l.map .int) = true
  | [] => rfl
  | _ :: r => by show (true && noFns (r.map .int)) = true; rw [noFns_ints r]; rfl
theorem dpLes_ints (n : Nat) : ∀ l : List Int, dpLes n (l.map .int) = true
  | [] => by simp [dpLes]
  | _ :: r => by
    show (dpLe n (.int _) && dpLes n (r.map .int)) = true
    rw [dpLes_ints n r]
    cases n <;> rfl
theorem sortOk_ints (l : List Int) : sortOk (l.map .int) = true := by
  have h1 : allAlike (l.map .int) = true := by
    unfold allAlike
    rw [List.all_eq_true]
    intro x hx
    obtain ⟨i, _, rfl⟩ := List.mem_map.mp hx
    rw [List.all_eq_true]
    intro y hy
    obtain ⟨j, _, rfl⟩ := List.mem_map.mp hy
    rfl
  have h2 : (l.map PV.int).all isOne = true := by
    rw [List.all_eq_true]
    intro x hx
    obtain ⟨i, _, rfl⟩ := List.mem_map.mp hx
    rfl
  unfold sortOk
  rw [noFns_ints, h1, h2, dpLes_ints]
  simp
theorem ints_map : ∀ l : List Int, ints? (l.map .int) = some l
  | [] => rfl
  | x :: r => by show (ints? (r.map .int)).map _ = _; rw [ints_map r]; rfl
/-! ### common denominators -/
def Cm (D : Int) (q : Rat) : Prop := ∃ n : Int, q * (D : Rat) = (n : Rat)
theorem Cm.one : Cm D 1 := ⟨D, by grind⟩
theorem Cm.zero : Cm D 0 := ⟨0, by simp⟩
theorem Cm.add {q r : Rat} (h1 : Cm D q) (h2 : Cm D r) : Cm D (q + r) := by
  obtain ⟨n, hn⟩ := h1
  obtain ⟨m, hm⟩ := h2
  exact ⟨n + m, by rw [Rat.intCast_add, ← hn, ← hm]; grind⟩
theorem Cm.neg {q : Rat} (h1 : Cm D q) : Cm D (-q) := by
  obtain ⟨n, hn⟩ := h1
  exact ⟨-n, by rw [Rat.intCast_neg, ← hn]; grind⟩
theorem Cm.sub {q r : Rat} (h1 : Cm D q) (h2 : Cm D r) : Cm D (q - r) := by
  rw [Rat.sub_eq_add_neg]; exact h1.add h2.neg
theorem Cm.mul {q r : Rat} (h1 : Cm D q) (h2 : Cm E r) : Cm (D * E) (q * r) := by
  obtain ⟨n, hn⟩ := h1
  obtain ⟨m, hm⟩ := h2
  exact ⟨n * m, by rw [Rat.intCast_mul, Rat.intCast_mul, ← hn, ← hm]; grind⟩
theorem Cm.up {q : Rat} (h1 : Cm D q) (E : Int) : Cm (D * E) q := by
  have := h1.mul (Cm.one (D := E))
  rwa [Rat.mul_one] at this
theorem Cm.int (x : Int) {q : Rat} (h1 : Cm D q) : Cm D (x * q) := by
  obtain ⟨n, hn⟩ := h1
  exact ⟨x * n, by rw [Rat.intCast_mul, ← hn]; grind⟩
theorem mul_den (q : Rat) : q * (q.den : Rat) = (q.num : Rat) := by
  have h := Rat.num_divInt_den q
  rw [Rat.divInt_eq_div] at h
  have hz : ((q.den : Int) : Rat) ≠ 0 := by exact_mod_cast q.den_nz
  have e : ((q.den : Int) : Rat) = (q.den : Rat) := rfl
  rw [e] at h hz
  grind
/-- the bound that a common denominator gives -/
theorem Cm.bd {q : Rat} {M k : Nat} (h : Cm D q) (hD : 0 < D) (h1 : 0 ≤ q) (h2 : q ≤ (M : Int)) (hk : (M + 1) * D.toNat < 2 ^ k) : Bd k q := by
  obtain ⟨n, hn⟩ := h
  have hz : (q.den : Rat) ≠ 0 := by exact_mod_cast q.den_nz
  have e : q.num * D = n * q.den := by
    have e1 : q * (q.den : Rat) = (q.num : Rat) := mul_den q
    have : ((q.num * D : Int) : Rat) = ((n * (q.den : Int) : Int) : Rat) := by
      rw [Rat.intCast_mul, Rat.intCast_mul, ← hn, ← e1]
      show q * (q.den : Rat) * D = q * D * (q.den : Rat)
      grind
    exact_mod_cast this
  have hdvd : q.den ∣ D.natAbs := by
    have : q.den ∣ q.num.natAbs * D.natAbs := by
      rw [← Int.natAbs_mul, e, Int.natAbs_mul]
      exact ⟨n.natAbs, by rw [Nat.mul_comm]; rfl⟩
    exact Nat.Coprime.dvd_of_dvd_mul_left q.reduced.symm this
  have hden : q.den ≤ D.toNat := by
    have := Nat.le_of_dvd (by omega) hdvd
    omega
  have hM : D.toNat ≤ (M + 1) * D.toNat := Nat.le_mul_of_pos_left _ (by omega)
  refine ⟨?_, by omega⟩
  have n0 : 0 ≤ q.num := Rat.num_nonneg.mpr h1
  have hq : q.num ≤ (M : Int) * q.den := by
    have e1 : q * (q.den : Rat) = (q.num : Rat) := mul_den q
    have hp : (0 : Rat) ≤ (q.den : Rat) := by exact_mod_cast Nat.zero_le _
    have : (q.num : Rat) ≤ (((M : Int) * (q.den : Int) : Int) : Rat) := by
      rw [Rat.intCast_mul, ← e1]
      exact Rat.mul_le_mul_of_nonneg_right h2 hp
    exact_mod_cast this
  have h3 : q.num.toNat ≤ M * q.den := by
    have : ((q.num.toNat : Nat) : Int) ≤ ((M * q.den : Nat) : Int) := by rw [Int.toNat_of_nonneg n0]; exact_mod_cast hq
    exact_mod_cast this
  have h4 : M * q.den ≤ M * D.toNat := Nat.mul_le_mul_left _ hden
  have h5 : (M + 1) * D.toNat = M * D.toNat + D.toNat := Nat.succ_mul _ _
  omega
/-! ### the growing part -/
structure Pre (b : Int) (P : List Rat) : Prop where
  ne : P ≠ []
  first : P[0]? = some 1
  ok : ∀ q ∈ P, 0 < q ∧ q ≤ 1
  bd : ∀ q ∈ P, Bd (4 * P.length) q
  cd : ∀ q ∈ P, Cm (b ^ P.length) q
  fall : ∀ (t : Nat) (q r : Rat), P[t]? = some q → P[t + 1]? = some r → r ≤ q
theorem Pre.one {b : Int} : Pre b [1] := ⟨by simp, rfl, fun q h => by simp at h; subst h; exact ⟨by decide, by decide⟩, fun q h => by simp at h; subst h; exact Bd.one.mono (by decide), fun q h => by simp at h; subst h; exact Cm.one, fun t q r h1 h2 => by simp at h2⟩
theorem Pre.step {b : Int} {P : List Rat} (h : Pre b P) {p x : Rat} (hp : P[P.length - 1]? = some p) (hx : 0 < x) (hx1 : x ≤ 1) (hb : Bd 4 x) (hc : Cm b x) : Pre b (P ++ [p * x]) := by
  have hpm := List.mem_of_getElem? hp
  obtain ⟨p0, p1⟩ := h.ok p hpm
  have h0 : 0 < p * x := Rat.mul_pos p0 hx
  have hle : p * x ≤ p := by
    have : 0 ≤ p * (1 - x) := Rat.mul_nonneg (Rat.le_of_lt p0) (by grind)
    grind
  have hl : 0 < P.length := List.length_pos_iff.mpr h.ne
  refine ⟨by simp, by rw [List.getElem?_append_left hl]; exact h.first, fun q hq => ?_, fun q hq => ?_, fun q hq => ?_, fun t q r h1 h2 => ?_⟩
  · rcases List.mem_append.mp hq with hq | hq
    · exact h.ok q hq
    · simp at hq; subst hq; exact ⟨h0, Rat.le_trans hle p1⟩
  · rw [List.length_append, List.length_singleton]
    rcases List.mem_append.mp hq with hq | hq
    · exact (h.bd q hq).mono (by omega)
    · simp at hq; subst hq; exact ((h.bd p hpm).mul hb).mono (by omega)
  · rw [List.length_append, List.length_singleton, Int.pow_succ]
    rcases List.mem_append.mp hq with hq | hq
    · exact (h.cd q hq).up b
    · simp at hq; subst hq; exact (h.cd p hpm).mul hc
  · have ht : t + 1 < (P ++ [p * x]).length := (List.getElem?_eq_some_iff.mp h2).1
    rw [List.length_append, List.length_singleton] at ht
    by_cases hlt : t + 1 < P.length
    · rw [List.getElem?_append_left (by omega)] at h1 h2
      exact h.fall t q r h1 h2
    · have e : t = P.length - 1 := by omega
      subst e
      rw [List.getElem?_append_left (by omega), hp] at h1
      cases h1
      rw [List.getElem?_append_right (by omega), show P.length - 1 + 1 - P.length = 0 by omega] at h2
      simp at h2
      rw [← h2]
      exact hle
theorem Pre.life {b : Int} {P : List Rat} (h : Pre b P) (hl : P.length ≤ 12) : Life (4 * P.length) (P ++ [0]) := by
  have h0 : 0 < P.length := List.length_pos_iff.mpr h.ne
  refine ⟨by simp; omega, fun q hq => ?_, fun q hq => ?_, by rw [List.getElem?_append_left h0]; exact h.first, by simp, fun q hq => ?_, fun t q r h1 h2 => ?_⟩
  · rcases List.mem_append.mp hq with hq | hq
    · exact h.bd q hq
    · simp at hq; subst hq; exact Bd.zero.mono (by omega)
  · rcases List.mem_append.mp hq with hq | hq
    · obtain ⟨a, b⟩ := h.ok q hq
      exact ⟨Rat.le_of_lt a, b⟩
    · simp at hq; subst hq; exact ⟨by decide, by decide⟩
  · rw [List.dropLast_concat] at hq
    obtain ⟨a, b⟩ := h.ok q hq
    intro z; rw [z] at a; exact absurd a (by decide)
  · have ht : t + 1 < (P ++ [(0 : Rat)]).length := (List.getElem?_eq_some_iff.mp h2).1
    rw [List.length_append, List.length_singleton] at ht
    by_cases hlt : t + 1 < P.length
    · rw [List.getElem?_append_left (by omega)] at h1 h2
      exact h.fall t q r h1 h2
    · rw [List.getElem?_append_left (by omega)] at h1
      rw [List.getElem?_append_right (by omega), show t + 1 - P.length = 0 by omega] at h2
      simp at h2
      rw [← h2]
      exact Rat.le_of_lt (h.ok q (List.mem_of_getElem? h1)).1
/-! ### the law's life -/
def gL : List (Str × Fn) := [("_law_pick", F__law_pick), ("_law_taken", F__law_taken), ("_law_times", F__law_times), ("_law_ratio", F__law_ratio)]
def bL : CB := .cons (.app 4 (.call 2 (.cons (.idx (.var 4) (.neg (.k (.int 1)))) (.cons (.call 3 (.cons (.bin .sub false (.var 2) (.var 5)) (.cons (.var 2) .nil))) .nil)))) .nil
theorem life_step {P : List PV} {p q p' v0 v1 v3 v6 v7 v8 v9 : PV} {a0 : Nat} {b t : Int} {m : Nat} {z : Option SV} {S : Store} (hlen : P.length = m + 1) (hl : P[m]? = some p) (hm : m < 1000) (o1 : ∀ S, F__law_ratio [I (b - t), I b] S = .ok (.v q) S) (o2 : ∀ S, F__law_times [.v p, .v q] S = .ok (.v p') S) {w1 w3 w6 w7 w8 w9 : Option SV} :
    sTurn (bindG (.name 5)) (evB gL bL) (.int t) [some (.l a0), w1, some (I b), w3, some (.l S.length), z, w6, w7, w8, w9] (S ++ [.lst P]) = .ok (.next [some (.l a0), w1, some (I b), w3, some (.l S.length), some (I t), w6, w7, w8, w9]) (S ++ [.lst (P ++ [p'])]) := by
  have hq := seqOf_l (at_new S (.lst P))
  have q1 : (0 : Int) ≤ -1 + ((m : Int) + 1) := by omega
  have q2 : (-1 + ((m : Int) + 1)).toNat = m := by omega
  have hP : m + 1 < 16777216 := by omega
  obtain ⟨hmP, hget⟩ := List.getElem?_eq_some_iff.mp hl
  simp [gL, bL, hq, hlen, hl, hget, o1, o2, at_new, set_new, line, hP, isLst_l (at_new S (.lst P)), q1, q2]
theorem life_loop {a0 : Nat} {b : Int} {S : Store} (hb : 0 < b) (hb2 : b ≤ 10) {w1 w3 w6 w7 w8 w9 : Option SV} : ∀ (ts : List Int) (P : List Rat) (z : Option SV), Pre b P → (∀ t ∈ ts, 0 ≤ t ∧ t < b) → P.length + ts.length ≤ 12 → ∃ (P' : List Rat) (z' : Option SV), Pre b P' ∧ P'.length = P.length + ts.length ∧
    forL (sTurn (bindG (.name 5)) (evB gL bL)) [] (ts.map .int) [some (.l a0), w1, some (I b), w3, some (.l S.length), z, w6, w7, w8, w9] (S ++ [.lst (rvs P)]) = .ok (.next [some (.l a0), w1, some (I b), w3, some (.l S.length), z', w6, w7, w8, w9]) (S ++ [.lst (rvs P')])
  | [], P, z, hP, _, _ => ⟨P, z, hP, by simp, rfl⟩
  | t :: ts, P, z, hP, ht, hl => by
    obtain ⟨t0, t1⟩ := ht t List.mem_cons_self
    rw [List.length_cons] at hl
    have h0 : 0 < P.length := List.length_pos_iff.mpr hP.ne
    have g := List.getElem?_eq_getElem (show P.length - 1 < P.length by omega)
    generalize P[P.length - 1] = p at g
    have p24 : (2 : Nat) ^ 4 = 16 := rfl
    have hcx : Cm b (Rat.divInt (b - t) b) := ⟨b - t, by
      rw [Rat.divInt_eq_div]
      have : (b : Rat) ≠ 0 := by exact_mod_cast (show b ≠ 0 by omega)
      grind⟩
    have bx : Bd 4 (Rat.divInt (b - t) b) := Bd.mk (by omega) (by omega) (by omega)
    have hx : 0 < Rat.divInt (b - t) b := by
      rw [Rat.divInt_eq_div]
      rw [Rat.div_def]
      exact Rat.mul_pos (by exact_mod_cast (show 0 < b - t by omega)) (Rat.inv_pos.mpr (by exact_mod_cast hb))
    have hx1 : Rat.divInt (b - t) b ≤ 1 := by
      rw [Rat.divInt_eq_div]
      exact div_le_one (by exact_mod_cast hb) (by exact_mod_cast (show b - t ≤ b by omega))
    have big : ∀ n : Nat, n < 16 → n < 2 ^ 13000 := fun n hn => Nat.lt_of_lt_of_le hn (by rw [← p24]; exact Nat.pow_le_pow_right (by decide) (by decide))
    have o1 := fun S => F_ratio_eq (b - t) b S (by omega) (big _ (by omega)) (big _ (by omega))
    have bp := hP.bd p (List.mem_of_getElem? g)
    have o2 := fun S => F_ltimes_eq (S := S) bp bx (by omega)
    have st := life_step (S := S) (a0 := a0) (z := z) (P := rvs P) (m := P.length - 1) (by rw [rvs_len]; omega) (rvs_at g) (by omega) o1 o2 (v0 := .non) (v1 := .non) (v3 := .non) (v6 := .non) (v7 := .non) (v8 := .non) (v9 := .non) (w1 := w1) (w3 := w3) (w6 := w6) (w7 := w7) (w8 := w8) (w9 := w9)
    have hP' := hP.step g hx hx1 bx hcx
    have happ : rvs P ++ [rv (p * Rat.divInt (b - t) b)] = rvs (P ++ [p * Rat.divInt (b - t) b]) := by
      show _ = List.map rv _
      rw [List.map_append]
      rfl
    rw [happ] at st
    obtain ⟨P', z', h1, h2, e⟩ := life_loop hb hb2 ts (P ++ [p * Rat.divInt (b - t) b]) (some (I t)) hP' (fun s hs => ht s (List.mem_cons_of_mem _ hs)) (by simp; omega) (S := S) (a0 := a0) (w1 := w1) (w3 := w3) (w6 := w6) (w7 := w7) (w8 := w8) (w9 := w9)
    refine ⟨P', z', h1, by rw [h2]; simp; omega, ?_⟩
    show (sTurn _ _ (.int t) _ _).bind _ = _
    rw [st]
    exact e
end FWP

/-! FW: the law's life. -/
namespace FWP
open PySem FW
theorem LifeN.mono {n k l : Nat} {L : List Rat} (h : LifeN n k L) (hk : k ≤ l) : LifeN n l L := ⟨h.len, fun q hq => (h.bd q hq).mono hk, h.ch, h.first, h.last, h.pos, h.fall⟩
/-- the drawn life, with its length and a common denominator -/
theorem life_spec' {S : Store} {p : Nat} {m : Int} (h : Row S p) (hm : 1 ≤ m) (hm2 : m ≤ 12) : ∃ (L : List Rat) (D : Int) (S' : Store), F__law_life [.l p, I m] S = .ok (.v (lv L)) S' ∧ Life (4 * m.toNat) L ∧ L.length ≤ m.toNat + 1 ∧ 0 < D ∧ D.toNat ≤ 10 ^ m.toNat ∧ (∀ q ∈ L, Cm D q) ∧ Row S' p ∧ But p S S' := by
  obtain ⟨j1, S1, e1, a1, a2, r1, b1⟩ := taken_spec (m := m) h (by omega) (by omega)
  obtain ⟨j2, S2, e2, a3, a4, r2, b2⟩ := taken_spec (m := 3) r1 (by omega) (by omega)
  obtain ⟨z, S3, e3, hz, r3, b3⟩ := pick_spec (x := .lst [.int 4, .int 6, .int 10]) (t := true) r2 (fun _ => rfl) (by decide) (by decide)
  obtain ⟨b, rfl, hb, hb2⟩ : ∃ b : Int, z = .int b ∧ 0 < b ∧ b ≤ 10 := by
    simp at hz
    rcases hz with rfl | rfl | rfl
    · exact ⟨4, rfl, by decide, by decide⟩
    · exact ⟨6, rfl, by decide, by decide⟩
    · exact ⟨10, rfl, by decide, by decide⟩
  have hx : (rngN (1 + j1 - 1)).length = j1.toNat := by unfold rngN; simp; omega
  have ec : ∃ (js : List Int) (S4 : Store), (ev gL (.comp false [9] (.name 9) (.rng1 (.bin .sub false (.var 6) (.k (.int 1)))) (.k (.bl true)) (.call 1 (.cons (.var 0) (.cons (.var 2) .nil))))).v [some (.l p), some (I m), some (I b), none, none, none, some (I (1 + j1)), some (I j2), some (.v (.lst [])), none] S3 = .ok (.v (.lst (js.map .int))) S4 ∧
      (∀ j ∈ js, 0 ≤ j ∧ j < b) ∧ js.length = j1.toNat ∧ Row S4 p ∧ But p S3 S4 := by
    obtain ⟨js, S4, e, h1, h2, h3, h4⟩ := compL_draw (p := p) (m := b) (f := cTurn (bindG (.name 9)) (ev gL (.k (.bl true))).t (ev gL (.call 1 (.cons (.var 0) (.cons (.var 2) .nil)))).v (wipeS [some (.l p), some (I m), some (I b), none, none, none, some (I (1 + j1)), some (I j2), some (.v (.lst [])), none] [9])) (fun x S h => by
      obtain ⟨j, S', e, j0, j1, r, bt⟩ := taken_spec (m := b) h hb (by omega)
      refine ⟨j, S', ?_, j0, j1, r, bt⟩
      simp [gL, e]) (rngN (1 + j1 - 1)) S3 r3
    refine ⟨js, S4, ?_, h1, by rw [h2, hx], h3, h4⟩
    rw [ev_comp, ofV_v]
    unfold sComp
    have q1 : rngOk (1 + j1 - 1) = true := decide_eq_true (by omega)
    have q2 : rngOk (-(1 + j1 - 1)) = true := decide_eq_true (by omega)
    have hi : (evI gL (.rng1 (.bin .sub false (.var 6) (.k (.int 1))))) [some (.l p), some (I m), some (I b), none, none, none, some (I (1 + j1)), some (I j2), some (.v (.lst [])), none] S3 = .ok (rngN (1 + j1 - 1)) S3 := by
      simp [q1, q2]
    rw [hi]
    show (compL _ _ S3).bind _ = _
    rw [e]
    have : (js.map PV.int).length ≤ line := by rw [List.length_map, h2, hx]; show j1.toNat ≤ 16777216; omega
    show mkL false _ _ = _
    unfold mkL
    rw [if_pos this]
    rfl
  obtain ⟨js, S4, e4, hj, hjl, r4, b4⟩ := ec
  have ht : ∃ ts : List Int, (if 0 < j2 then isortI js else js) = ts ∧ (∀ t ∈ ts, 0 ≤ t ∧ t < b) ∧ ts.length = j1.toNat := by
    refine ⟨_, rfl, ?_, ?_⟩
    · intro t ht
      split at ht
      · exact hj t (isortI_mem js t ht)
      · exact hj t ht
    · split
      · rw [isortI_len, hjl]
      · exact hjl
  obtain ⟨ts, hts, htb, htl⟩ := ht
  obtain ⟨P, z', hP, hPl, e5⟩ := life_loop (S := S4) (a0 := p) hb hb2 (w1 := some (I m)) (w3 := some (.v (.lst (ts.map .int)))) (w6 := some (I (1 + j1))) (w7 := some (I j2)) (w8 := some (.v (.lst []))) (w9 := none) ts [1] none Pre.one htb (by simp; omega)
  have e6 : evS gL (.forr (.name 5) (.seq (.var 3)) bL []) [some (.l p), some (I m), some (I b), some (.v (.lst (ts.map .int))), some (.l S4.length), none, some (I (1 + j1)), some (I j2), some (.v (.lst [])), none] (S4 ++ [.lst [rv 1]]) = .ok (.next [some (.l p), some (I m), some (I b), some (.v (.lst (ts.map .int))), some (.l S4.length), z', some (I (1 + j1)), some (I j2), some (.v (.lst [])), none]) (S4 ++ [.lst (rvs P)]) := by
    rw [evS_forr]
    simpa using e5
  have bt := b1.trans (b2.trans (b3.trans b4))
  have hPm : P.length ≤ m.toNat := by rw [hPl]; simp; omega
  have hpw : b ^ P.length = ((b.toNat ^ P.length : Nat) : Int) := by rw [Int.natCast_pow, Int.toNat_of_nonneg (by omega)]
  refine ⟨P ++ [0], b ^ P.length, S4, ?_, (hP.life (by omega)).mono (by omega), by rw [List.length_append]; show P.length + 1 ≤ _; omega, Int.pow_pos hb, ?_, fun q hq => ?_, r4, bt⟩
  case refine_2 =>
    rw [hpw, Int.toNat_natCast]
    exact Nat.le_trans (Nat.pow_le_pow_left (by omega) _) (Nat.pow_le_pow_right (by decide) hPm)
  case refine_3 =>
    rcases List.mem_append.mp hq with hq | hq
    · exact hP.cd q hq
    · simp at hq; subst hq; exact Cm.zero
  have hlen : S4.length = S.length := bt.1
  have hq := seqOf_l (at_new S4 (.lst (rvs P)))
  have hp1 : P.length + 1 ≤ 16777216 := by rw [hPl]; simp; omega
  have hjs : js.length ≤ 16777216 := by omega
  have hil : (isortI js).length ≤ 16777216 := by rw [isortI_len]; omega
  simp only [rv_one, lv, gL, bL] at *
  have eS : bSorted false (.v (.lst (js.map .int))) S4 = .ok (.v (.lst ((isortI js).map .int))) S4 := by simp [bSorted, sortOk_ints, isortK_ints, hil, line]
  by_cases hw : 0 < j2
  · rw [if_pos hw] at hts
    subst hts
    simp [F__law_life, d__law_life, e1, e2, e3, e4, e6, eS, hw, line, hq, hp1, ← hlen, rv_zero]
  · rw [if_neg hw] at hts
    subst hts
    simp [F__law_life, d__law_life, e1, e2, e3, e4, e6, eS, hw, line, hq, hp1, ← hlen, rv_zero]
theorem life_spec {S : Store} {p : Nat} {m : Int} (h : Row S p) (hm : 1 ≤ m) (hm2 : m ≤ 12) : ∃ (L : List Rat) (S' : Store), F__law_life [.l p, I m] S = .ok (.v (lv L)) S' ∧ Life 60 L ∧ Row S' p ∧ But p S S' := by
  obtain ⟨L, D, S', e, hL, _, _, _, _, hr, hb⟩ := life_spec' h hm hm2
  exact ⟨L, S', e, hL.mono (by omega), hr, hb⟩
end FWP

/-! FW: law k45's mean. -/
namespace FWP
open PySem FW
def bM : CB := .cons (.set 6 (.call 4 (.cons (.idx (.var 2) (.bin .sub false (.var 5) (.k (.int 1)))) (.cons (.tup (.cons (.bin .sub false (.k (.int 0)) (.idx (.idx (.var 2) (.var 5)) (.k (.int 0)))) (.cons (.idx (.idx (.var 2) (.var 5)) (.k (.int 1))) .nil))) .nil))))
      (.cons (.set 4 (.call 4 (.cons (.var 4) (.cons (.call 6 (.cons (.tup (.cons (.var 5) (.cons (.k (.int 1)) .nil))) (.cons (.var 6) .nil))) .nil)))) .nil)
theorem rv_neg (q : Rat) : rv (-q) = .tup [.int (-q.num), .int q.den] := rfl
theorem rv_nat (t : Nat) : rv (t : Rat) = .tup [.int t, .int 1] := rfl
theorem Bd.neg {k : Nat} {q : Rat} (h : Bd k q) : Bd k (-q) := ⟨by show (-q.num).natAbs < _; rw [Int.natAbs_neg]; exact h.1, h.2⟩
theorem sumR_snoc : ∀ (L : List Rat) (q : Rat), sumR (L ++ [q]) = sumR L + q
  | [], q => by show q + 0 = 0 + q; grind
  | x :: L, q => by show x + sumR (L ++ [q]) = x + sumR L + q; rw [sumR_snoc L q]; grind
def mean (L : List Rat) (s : Nat) : Rat := sumR (L.take s) - (s : Rat) * L.getD s 0
theorem mean_succ {L : List Rat} {s : Nat} (h : s + 1 < L.length) : mean L s + ((s + 1 : Nat) : Rat) * (L[s]'(by omega) + -L[s + 1]) = mean L (s + 1) := by
  unfold mean
  rw [List.take_succ_eq_append_getElem (by omega), sumR_snoc]
  have g1 : L.getD s 0 = L[s]'(by omega) := by rw [List.getD_eq_getElem?_getD, List.getElem?_eq_getElem (by omega)]; rfl
  have g2 : L.getD (s + 1) 0 = L[s + 1] := by rw [List.getD_eq_getElem?_getD, List.getElem?_eq_getElem h]; rfl
  rw [g1, g2]
  have : ((s + 1 : Nat) : Rat) = (s : Rat) + 1 := by push_cast; rfl
  rw [this]
  grind
theorem mean_end {k : Nat} {L : List Rat} (h : Life k L) : mean L (L.length - 1) = sumR L := by
  obtain ⟨h2, h13⟩ := h.len
  unfold mean
  have g : L.getD (L.length - 1) 0 = 0 := by rw [List.getD_eq_getElem?_getD, h.last]; rfl
  have e : L = L.take (L.length - 1) ++ [L[L.length - 1]'(by omega)] := by
    have := List.take_succ_eq_append_getElem (l := L) (i := L.length - 1) (by omega)
    rw [← this, List.take_of_length_le (by omega)]
  have f1 : L[L.length - 1]'(by omega) = 0 := (List.getElem?_eq_some_iff.mp h.last).2
  rw [g]
  conv => rhs; rw [e, sumR_snoc, f1]
  grind
section
variable {L : List Rat} {Γ : List (Str × Fn)}
theorem mean_loop (h : Life 60 L) (h4 : Γ[4]?.map Prod.snd = some F__law_plus) (h6 : Γ[6]?.map Prod.snd = some F__law_times) {w0 w1 w3 w7 : Option SV} {S : Store} : ∀ (m s : Nat) (z5 z6 : Option SV), s + m = L.length - 1 → Bd (1 + 126 * s) (mean L s) → ∃ y5 y6 : Option SV,
    forL (sTurn (bindG (.name 5)) (evB Γ bM)) [] ((List.range' s m).map fun i => PV.int (1 + Int.ofNat i)) [w0, w1, some (.v (lv L)), w3, some (.v (rv (mean L s))), z5, z6, w7] S = .ok (.next [w0, w1, some (.v (lv L)), w3, some (.v (rv (mean L (L.length - 1)))), y5, y6, w7]) S := by
  obtain ⟨h2, h13⟩ := h.len
  intro m
  induction m with
  | zero =>
    intro s z5 z6 hs hb
    refine ⟨z5, z6, ?_⟩
    rw [show L.length - 1 = s by omega]
    rfl
  | succ m ih =>
    intro s z5 z6 hs hb
    have hi : s + 1 < L.length := by omega
    have g1 := List.getElem?_eq_getElem (show s < L.length by omega)
    have g2 := List.getElem?_eq_getElem hi
    have b1 := h.bd _ (List.mem_of_getElem? g1)
    have b2 := (h.bd _ (List.mem_of_getElem? g2)).neg
    have ms := mean_succ hi
    have bt : Bd 4 ((s + 1 : Nat) : Rat) := ⟨by show (s + 1) < 16; omega, by show 1 < 16; decide⟩
    have o1 := F_lplus_eq (S := S) b1 b2 (by omega)
    have o2 := F_ltimes_eq (S := S) bt (b1.add b2) (by omega)
    have o3 := F_lplus_eq (S := S) hb (bt.mul (b1.add b2)) (by omega)
    have bn := (hb.add (bt.mul (b1.add b2))).mono (show _ ≤ 1 + 126 * (s + 1) by omega)
    rw [ms] at o3 bn
    obtain ⟨y5, y6, e⟩ := ih (s + 1) (some (I ((1 : Int) + s))) (some (.v (rv (L[s] + -L[s + 1])))) (by omega) bn
    refine ⟨y5, y6, ?_⟩
    rw [List.range'_succ]
    show (sTurn _ _ (.int (1 + (s : Int))) _ _).bind _ = _
    have r1 := rvs_at g1
    have r2 := rvs_at g2
    rw [rv_neg] at o1
    rw [rv_nat] at o2
    generalize hx : rv (L[s] + -L[s + 1]) = x at *
    generalize hy : rv (((s + 1 : Nat) : Rat) * (L[s] + -L[s + 1])) = y at *
    generalize hm : rv (mean L s) = mm at *
    generalize hm' : rv (mean L (s + 1)) = mm' at *
    have i0 : s < L.length := by omega
    have i1 : (0 : Int) ≤ 1 + (s : Int) := by omega
    have i2 : 1 + (s : Int) < (L.length : Int) := by omega
    have i3 : (1 + (s : Int)).toNat = s + 1 := by omega
    have i4 : 1 + (s : Int) - 1 = s := by omega
    have hl2 : (rvs L).length = L.length := rvs_len L
    have st : sTurn (bindG (.name 5)) (evB Γ bM) (.int (1 + (s : Int))) [w0, w1, some (.v (lv L)), w3, some (.v mm), z5, z6, w7] S = .ok (.next [w0, w1, some (.v (lv L)), w3, some (.v mm'), some (I (1 + (s : Int))), some (.v x), w7]) S := by
      have o2' : F__law_times [.v (.tup [.int (1 + (s : Int)), .int 1]), .v x] S = .ok (.v y) S := by
        rw [show (1 + (s : Int)) = ((s + 1 : Nat) : Int) by omega]; exact o2
      simp only [lv, rv] at *
      generalize rvs L = Ls at *
      have r1' := (List.getElem?_eq_some_iff.mp r1).2
      have r2' := (List.getElem?_eq_some_iff.mp r2).2
      simp [bM, h4, h6, i0, i1, i2, i3, i4, hi, hl2, r1, r2, r1', r2', o1, o2', o3, line]
    rw [st]
    exact e
end
end FWP

/-! codes and meanings of defs, with named pieces: printed by gen.py -/
namespace FWP
open PySem FW FWP
/-! _law_sum (law_k47): slots 0=_law_values 1=_law_found 2=_law_one -/
def b__law_sum_0 : CB := (.cons (.set 1 (.call 0 (.cons (.var 1) (.cons (.var 2) .nil)))) .nil)
def d__law_sum : FW.Def := ⟨1, 3, (.cons (.set 1 (.tup (.cons (.k (.int 0)) (.cons (.k (.int 1)) .nil))))
      (.cons (.forr (.name 2) (.seq (.var 0))
      b__law_sum_0 [])
      (.cons (.ret (.var 1)) .nil)))⟩
def g__law_sum : List (Str × Fn) := [("_law_plus", F__law_plus)]
def F__law_sum : Fn := fnSem g__law_sum d__law_sum
@[simp] theorem g__law_sum_0 : g__law_sum[0]?.map Prod.snd = some F__law_plus := rfl

/-! _law_less (law_k47): slots 0=_law_one 1=_law_other -/
def d__law_less : FW.Def := ⟨2, 2, (.cons (.ret (.cmp .lt (.bin .mul false (.idx (.var 0) (.k (.int 0))) (.idx (.var 1) (.k (.int 1)))) (.bin .mul false (.idx (.var 1) (.k (.int 0))) (.idx (.var 0) (.k (.int 1)))))) .nil)⟩
def g__law_less : List (Str × Fn) := []
def F__law_less : Fn := fnSem g__law_less d__law_less

/-! _law_power (law_k47): slots 0=_law_base 1=_law_exponent 2=_law_found 3=_law_turn -/
def b__law_power_0 : CB := (.cons (.set 2 (.call 0 (.cons (.var 2) (.cons (.var 0) .nil)))) .nil)
def d__law_power : FW.Def := ⟨2, 4, (.cons (.set 2 (.tup (.cons (.k (.int 1)) (.cons (.k (.int 1)) .nil))))
      (.cons (.forr (.name 3) (.rng1 (.var 1))
      b__law_power_0 [])
      (.cons (.ret (.var 2)) .nil)))⟩
def g__law_power : List (Str × Fn) := [("_law_times", F__law_times)]
def F__law_power : Fn := fnSem g__law_power d__law_power
@[simp] theorem g__law_power_0 : g__law_power[0]?.map Prod.snd = some F__law_times := rfl

/-! _law_item (law_k47): slots 0=_law_life_here 1=_law_t -/
def d__law_item : FW.Def := ⟨2, 2, (.cons (.ret (.ite (.cmp .lt (.var 1) (.bi .len false (.cons (.var 0) .nil))) (.idx (.var 0) (.var 1)) (.tup (.cons (.k (.int 0)) (.cons (.k (.int 1)) .nil))))) .nil)⟩
def g__law_item : List (Str × Fn) := []
def F__law_item : Fn := fnSem g__law_item d__law_item

/-! _law_not_ageing (law_k47): slots 0=_law_life_here 1=_law_word 2=_law_size 3=_law_mean 4=_law_row 5=_law_found 6=_law_t 7=_law_s -/
def c__law_not_ageing_0 : CE := (.comp true [6] (.name 6) (.rng1 (.bin .sub false (.bi .len false (.cons (.var 4) .nil)) (.k (.int 1)))) (.call 2 (.cons (.idx (.var 4) (.bin .add false (.var 6) (.k (.int 1)))) (.cons (.idx (.var 4) (.var 6)) .nil))) (.var 6))
def c__law_not_ageing_1 : CE := (.comp true [6] (.name 6) (.rng2 (.k (.int 1)) (.var 2)) (.call 2 (.cons (.call 3 (.cons (.idx (.var 0) (.var 6)) (.cons (.bin .add false (.var 6) (.k (.int 1))) .nil))) (.cons (.call 3 (.cons (.call 4 (.cons (.var 0) (.cons (.bin .add false (.var 6) (.k (.int 1))) .nil))) (.cons (.var 6) .nil))) .nil))) (.var 6))
def b__law_not_ageing_1 : CB := (.cons (.ifs (.call 2 (.cons (.call 5 (.cons (.idx (.var 0) (.var 7)) (.cons (.idx (.var 0) (.var 6)) .nil))) (.cons (.call 4 (.cons (.var 0) (.cons (.bin .add false (.var 7) (.var 6)) .nil))) .nil)))
      (.cons (.app 5 (.tup (.cons (.var 7) (.cons (.var 6) .nil)))) .nil)
      (.nil)) .nil)
def b__law_not_ageing_0 : CB := (.cons (.forr (.name 6) (.rng2 (.var 7) (.var 2))
      b__law_not_ageing_1 []) .nil)
def c__law_not_ageing_2 : CE := (.comp true [6] (.name 6) (.rng1 (.var 2)) (.call 2 (.cons (.call 5 (.cons (.var 3) (.cons (.idx (.var 0) (.var 6)) .nil))) (.cons (.call 0 (.cons (.slc false (.var 0) (.var 6) (.k .non)) .nil)) .nil))) (.var 6))
def d__law_not_ageing : FW.Def := ⟨2, 8, (.cons (.unpack (.cons (.name 2) (.cons (.name 3) .nil)) (.tup (.cons (.bi .len false (.cons (.var 0) .nil)) (.cons (.call 0 (.cons (.var 0) .nil)) .nil))))
      (.cons (.ifs (.cmp .eq (.var 1) (.k (.str "rates")))
      (.cons (.set 4 (.call 1 (.cons (.var 0) .nil)))
      (.cons (.set 5 c__law_not_ageing_0) .nil))
      (.cons (.ifs (.cmp .eq (.var 1) (.k (.str "average")))
      (.cons (.set 5 c__law_not_ageing_1) .nil)
      (.cons (.ifs (.cmp .eq (.var 1) (.k (.str "new")))
      (.cons (.set 5 (.list true .nil))
      (.cons (.forr (.name 7) (.rng2 (.k (.int 1)) (.var 2))
      b__law_not_ageing_0 []) .nil))
      (.cons (.set 5 c__law_not_ageing_2) .nil)) .nil)) .nil))
      (.cons (.ret (.idx (.bin .add false (.var 5) (.list false (.cons (.k .non) .nil))) (.k (.int 0)))) .nil)))⟩
def g__law_not_ageing : List (Str × Fn) := [("_law_sum", F__law_sum), ("_law_rates", F__law_rates), ("_law_less", F__law_less), ("_law_power", F__law_power), ("_law_item", F__law_item), ("_law_times", F__law_times)]
def F__law_not_ageing : Fn := fnSem g__law_not_ageing d__law_not_ageing
@[simp] theorem g__law_not_ageing_0 : g__law_not_ageing[0]?.map Prod.snd = some F__law_sum := rfl
@[simp] theorem g__law_not_ageing_1 : g__law_not_ageing[1]?.map Prod.snd = some F__law_rates := rfl
@[simp] theorem g__law_not_ageing_2 : g__law_not_ageing[2]?.map Prod.snd = some F__law_less := rfl
@[simp] theorem g__law_not_ageing_3 : g__law_not_ageing[3]?.map Prod.snd = some F__law_power := rfl
@[simp] theorem g__law_not_ageing_4 : g__law_not_ageing[4]?.map Prod.snd = some F__law_item := rfl
@[simp] theorem g__law_not_ageing_5 : g__law_not_ageing[5]?.map Prod.snd = some F__law_times := rfl

/-! is_less (law_k47): slots 0=one 1=other -/
def d_is_less : FW.Def := ⟨2, 2, (.cons (.ret (.call 0 (.cons (.var 0) (.cons (.var 1) .nil)))) .nil)⟩
def g_is_less : List (Str × Fn) := [("is_below", F_is_below)]
def F_is_less : Fn := fnSem g_is_less d_is_less
@[simp] theorem g_is_less_0 : g_is_less[0]?.map Prod.snd = some F_is_below := rfl

/-! falling_rate (law_k47): slots 0=life 1=row 2=found 3=t -/
def c_falling_rate_0 : CE := (.comp false [3] (.name 3) (.rng1 (.bin .sub false (.bi .len false (.cons (.var 1) .nil)) (.k (.int 1)))) (.call 1 (.cons (.idx (.var 1) (.bin .add false (.var 3) (.k (.int 1)))) (.cons (.idx (.var 1) (.var 3)) .nil))) (.var 3))
def d_falling_rate : FW.Def := ⟨1, 4, (.cons (.set 1 (.call 0 (.cons (.var 0) .nil)))
      (.cons (.set 2 c_falling_rate_0)
      (.cons (.ret (.ite (.cmp .ne (.var 2) (.list false .nil)) (.idx (.var 2) (.k (.int 0))) (.k .non))) .nil)))⟩
def g_falling_rate : List (Str × Fn) := [("rates_of", F_rates_of), ("is_less", F_is_less)]
def F_falling_rate : Fn := fnSem g_falling_rate d_falling_rate
@[simp] theorem g_falling_rate_0 : g_falling_rate[0]?.map Prod.snd = some F_rates_of := rfl
@[simp] theorem g_falling_rate_1 : g_falling_rate[1]?.map Prod.snd = some F_is_less := rfl

/-! power (law_k47): slots 0=base 1=exponent 2=found 3=turn -/
def b_power_0 : CB := (.cons (.set 2 (.call 0 (.cons (.var 2) (.cons (.var 0) .nil)))) .nil)
def d_power : FW.Def := ⟨2, 4, (.cons (.set 2 (.tup (.cons (.k (.int 1)) (.cons (.k (.int 1)) .nil))))
      (.cons (.forr (.name 3) (.rng1 (.var 1))
      b_power_0 [])
      (.cons (.ret (.var 2)) .nil)))⟩
def g_power : List (Str × Fn) := [("times", F_times)]
def F_power : Fn := fnSem g_power d_power
@[simp] theorem g_power_0 : g_power[0]?.map Prod.snd = some F_times := rfl

/-! falling_average (law_k47): slots 0=life 1=t -/
def b_falling_average_0 : CB := (.cons (.ifs (.call 0 (.cons (.call 1 (.cons (.idx (.var 0) (.var 1)) (.cons (.bin .add false (.var 1) (.k (.int 1))) .nil))) (.cons (.call 1 (.cons (.idx (.var 0) (.bin .add false (.var 1) (.k (.int 1)))) (.cons (.var 1) .nil))) .nil)))
      (.cons (.ret (.var 1)) .nil)
      (.nil)) .nil)
def d_falling_average : FW.Def := ⟨1, 2, (.cons (.forr (.name 1) (.rng2 (.k (.int 1)) (.bin .sub false (.bi .len false (.cons (.var 0) .nil)) (.k (.int 1))))
      b_falling_average_0 [])
      (.cons (.ret (.k .non)) .nil))⟩
def g_falling_average : List (Str × Fn) := [("is_less", F_is_less), ("power", F_power)]
def F_falling_average : Fn := fnSem g_falling_average d_falling_average
@[simp] theorem g_falling_average_0 : g_falling_average[0]?.map Prod.snd = some F_is_less := rfl
@[simp] theorem g_falling_average_1 : g_falling_average[1]?.map Prod.snd = some F_power := rfl

/-! better_than_new (law_k47): slots 0=life 1=s 2=t -/
def b_better_than_new_1 : CB := (.cons (.ifs (.call 0 (.cons (.call 1 (.cons (.idx (.var 0) (.var 1)) (.cons (.idx (.var 0) (.var 2)) .nil))) (.cons (.idx (.var 0) (.bin .add false (.var 1) (.var 2))) .nil)))
      (.cons (.ret (.tup (.cons (.var 1) (.cons (.var 2) .nil)))) .nil)
      (.nil)) .nil)
def b_better_than_new_0 : CB := (.cons (.forr (.name 2) (.rng2 (.var 1) (.bin .sub false (.bi .len false (.cons (.var 0) .nil)) (.var 1)))
      b_better_than_new_1 []) .nil)
def d_better_than_new : FW.Def := ⟨1, 3, (.cons (.forr (.name 1) (.rng2 (.k (.int 1)) (.bi .len false (.cons (.var 0) .nil)))
      b_better_than_new_0 [])
      (.cons (.ret (.k .non)) .nil))⟩
def g_better_than_new : List (Str × Fn) := [("is_less", F_is_less), ("times", F_times)]
def F_better_than_new : Fn := fnSem g_better_than_new d_better_than_new
@[simp] theorem g_better_than_new_0 : g_better_than_new[0]?.map Prod.snd = some F_is_less := rfl
@[simp] theorem g_better_than_new_1 : g_better_than_new[1]?.map Prod.snd = some F_times := rfl

/-! better_mean (law_k47): slots 0=life 1=mean 2=t -/
def b_better_mean_0 : CB := (.cons (.ifs (.call 1 (.cons (.call 2 (.cons (.var 1) (.cons (.idx (.var 0) (.var 2)) .nil))) (.cons (.call 0 (.cons (.slc false (.var 0) (.var 2) (.k .non)) .nil)) .nil)))
      (.cons (.ret (.var 2)) .nil)
      (.nil)) .nil)
def d_better_mean : FW.Def := ⟨1, 3, (.cons (.set 1 (.call 0 (.cons (.var 0) .nil)))
      (.cons (.forr (.name 2) (.rng1 (.bi .len false (.cons (.var 0) .nil)))
      b_better_mean_0 [])
      (.cons (.ret (.k .non)) .nil)))⟩
def g_better_mean : List (Str × Fn) := [("total_of", F_total_of), ("is_less", F_is_less), ("times", F_times)]
def F_better_mean : Fn := fnSem g_better_mean d_better_mean
@[simp] theorem g_better_mean_0 : g_better_mean[0]?.map Prod.snd = some F_total_of := rfl
@[simp] theorem g_better_mean_1 : g_better_mean[1]?.map Prod.snd = some F_is_less := rfl
@[simp] theorem g_better_mean_2 : g_better_mean[2]?.map Prod.snd = some F_times := rfl

/-! not_ageing (law_k47): slots 0=life 1=word -/
def d_not_ageing : FW.Def := ⟨2, 2, (.cons (.expr (.call 0 (.cons (.var 0) .nil)))
      (.cons (.ifs (.or (.cons (.nt (.isi [.str] (.var 1))) (.cons (.cmp .notin (.var 1) (.glob "KINDS" (.tup [(.str "rates"), (.str "average"), (.str "new"), (.str "mean")]))) .nil)))
      (.cons (.raise "" .nil) .nil)
      (.nil))
      (.cons (.ret (.callv (.idx (.list false (.cons (.fnv "falling_rate") (.cons (.fnv "falling_average") (.cons (.fnv "better_than_new") (.cons (.fnv "better_mean") .nil))))) (.indexG "KINDS" [(.str "rates"), (.str "average"), (.str "new"), (.str "mean")] (.var 1))) (.cons (.var 0) .nil))) .nil)))⟩
def g_not_ageing : List (Str × Fn) := [("need_life", F_need_life), ("falling_rate", F_falling_rate), ("falling_average", F_falling_average), ("better_than_new", F_better_than_new), ("better_mean", F_better_mean)]
def F_not_ageing : Fn := fnSem g_not_ageing d_not_ageing
@[simp] theorem g_not_ageing_0 : g_not_ageing[0]?.map Prod.snd = some F_need_life := rfl
@[simp] theorem gl_not_ageing_0 : g_not_ageing.lookup ("need_life" : Str) = some F_need_life := by rfl
@[simp] theorem g_not_ageing_1 : g_not_ageing[1]?.map Prod.snd = some F_falling_rate := rfl
@[simp] theorem gl_not_ageing_1 : g_not_ageing.lookup ("falling_rate" : Str) = some F_falling_rate := by rfl
@[simp] theorem g_not_ageing_2 : g_not_ageing[2]?.map Prod.snd = some F_falling_average := rfl
@[simp] theorem gl_not_ageing_2 : g_not_ageing.lookup ("falling_average" : Str) = some F_falling_average := by rfl
@[simp] theorem g_not_ageing_3 : g_not_ageing[3]?.map Prod.snd = some F_better_than_new := rfl
@[simp] theorem gl_not_ageing_3 : g_not_ageing.lookup ("better_than_new" : Str) = some F_better_than_new := by rfl
@[simp] theorem g_not_ageing_4 : g_not_ageing[4]?.map Prod.snd = some F_better_mean := rfl
@[simp] theorem gl_not_ageing_4 : g_not_ageing.lookup ("better_mean" : Str) = some F_better_mean := by rfl

/-! ages (law_k47): slots 0=life 1=work -/
def c_ages_0 : CE := (.comp false [1] (.name 1) (.seq (.tup (.cons (.fnv "falling_rate") (.cons (.fnv "falling_average") (.cons (.fnv "better_than_new") (.cons (.fnv "better_mean") .nil)))))) (.k (.bl true)) (.cmp .is (.callv (.var 1) (.cons (.var 0) .nil)) (.k .non)))
def d_ages : FW.Def := ⟨1, 2, (.cons (.expr (.call 0 (.cons (.var 0) .nil)))
      (.cons (.ret (.bi .tuple false (.cons c_ages_0 .nil))) .nil))⟩
def g_ages : List (Str × Fn) := [("need_life", F_need_life), ("falling_rate", F_falling_rate), ("falling_average", F_falling_average), ("better_than_new", F_better_than_new), ("better_mean", F_better_mean)]
def F_ages : Fn := fnSem g_ages d_ages
@[simp] theorem g_ages_0 : g_ages[0]?.map Prod.snd = some F_need_life := rfl
@[simp] theorem gl_ages_0 : g_ages.lookup ("need_life" : Str) = some F_need_life := by rfl
@[simp] theorem g_ages_1 : g_ages[1]?.map Prod.snd = some F_falling_rate := rfl
@[simp] theorem gl_ages_1 : g_ages.lookup ("falling_rate" : Str) = some F_falling_rate := by rfl
@[simp] theorem g_ages_2 : g_ages[2]?.map Prod.snd = some F_falling_average := rfl
@[simp] theorem gl_ages_2 : g_ages.lookup ("falling_average" : Str) = some F_falling_average := by rfl
@[simp] theorem g_ages_3 : g_ages[3]?.map Prod.snd = some F_better_than_new := rfl
@[simp] theorem gl_ages_3 : g_ages.lookup ("better_than_new" : Str) = some F_better_than_new := by rfl
@[simp] theorem g_ages_4 : g_ages[4]?.map Prod.snd = some F_better_mean := rfl
@[simp] theorem gl_ages_4 : g_ages.lookup ("better_mean" : Str) = some F_better_mean := by rfl

/-! ended (law_k50): slots 0=row -/
def d_ended : FW.Def := ⟨1, 1, (.cons (.ret (.bi .tuple false (.cons (.slc false (.var 0) (.k .non) (.bin .add false (.index (.var 0) (.glob "ZERO" (.tup [(.int 0), (.int 1)]))) (.k (.int 1)))) .nil))) .nil)⟩
def g_ended : List (Str × Fn) := []
def F_ended : Fn := fnSem g_ended d_ended

/-! fails_of (law_k50): slots 0=life 1=t -/
def c_fails_of_0 : CE := (.comp false [1] (.name 1) (.rng2 (.k (.int 1)) (.bi .len false (.cons (.var 0) .nil))) (.k (.bl true)) (.call 0 (.cons (.idx (.var 0) (.bin .sub false (.var 1) (.k (.int 1)))) (.cons (.idx (.var 0) (.var 1)) .nil))))
def d_fails_of : FW.Def := ⟨1, 2, (.cons (.ret (.bin .add false (.list false (.cons (.glob "ZERO" (.tup [(.int 0), (.int 1)])) .nil)) c_fails_of_0)) .nil)⟩
def g_fails_of : List (Str × Fn) := [("minus", F_minus)]
def F_fails_of : Fn := fnSem g_fails_of d_fails_of
@[simp] theorem g_fails_of_0 : g_fails_of[0]?.map Prod.snd = some F_minus := rfl

/-! item (law_k50): slots 0=life 1=t -/
def d_item : FW.Def := ⟨2, 2, (.cons (.ret (.ite (.cmp .lt (.var 1) (.bi .len false (.cons (.var 0) .nil))) (.idx (.var 0) (.var 1)) (.glob "ZERO" (.tup [(.int 0), (.int 1)])))) .nil)⟩
def g_item : List (Str × Fn) := []
def F_item : Fn := fnSem g_item d_item

/-! sum_life (law_k50): slots 0=one 1=other 2=t 3=first 4=found 5=total 6=s -/
def b_sum_life_1 : CB := (.cons (.set 5 (.call 4 (.cons (.var 5) (.cons (.call 5 (.cons (.idx (.var 3) (.var 6)) (.cons (.call 3 (.cons (.var 1) (.cons (.bin .sub false (.var 2) (.var 6)) .nil))) .nil))) .nil)))) .nil)
def b_sum_life_0 : CB := (.cons (.set 5 (.call 3 (.cons (.var 0) (.cons (.var 2) .nil))))
      (.cons (.forr (.name 6) (.rng2 (.k (.int 1)) (.bin .add false (.bi .min2 false (.cons (.var 2) (.cons (.bin .sub false (.bi .len false (.cons (.var 0) .nil)) (.k (.int 1))) .nil))) (.k (.int 1))))
      b_sum_life_1 [])
      (.cons (.app 4 (.var 5)) .nil)))
def d_sum_life : FW.Def := ⟨2, 7, (.cons (.expr (.call 0 (.cons (.var 0) .nil)))
      (.cons (.expr (.call 0 (.cons (.var 1) .nil)))
      (.cons (.par [3, 4] (.cons (.call 2 (.cons (.var 0) .nil)) (.cons (.list true .nil) .nil)))
      (.cons (.forr (.name 2) (.rng1 (.bin .sub false (.bin .add false (.bi .len false (.cons (.var 0) .nil)) (.bi .len false (.cons (.var 1) .nil))) (.k (.int 1))))
      b_sum_life_0 [])
      (.cons (.freeze 4)
      (.cons (.ret (.call 1 (.cons (.var 4) .nil))) .nil))))))⟩
def g_sum_life : List (Str × Fn) := [("need_life", F_need_life), ("ended", F_ended), ("fails_of", F_fails_of), ("item", F_item), ("plus", F_plus), ("times", F_times)]
def F_sum_life : Fn := fnSem g_sum_life d_sum_life
@[simp] theorem g_sum_life_0 : g_sum_life[0]?.map Prod.snd = some F_need_life := rfl
@[simp] theorem g_sum_life_1 : g_sum_life[1]?.map Prod.snd = some F_ended := rfl
@[simp] theorem g_sum_life_2 : g_sum_life[2]?.map Prod.snd = some F_fails_of := rfl
@[simp] theorem g_sum_life_3 : g_sum_life[3]?.map Prod.snd = some F_item := rfl
@[simp] theorem g_sum_life_4 : g_sum_life[4]?.map Prod.snd = some F_plus := rfl
@[simp] theorem g_sum_life_5 : g_sum_life[5]?.map Prod.snd = some F_times := rfl

/-! _law_ended (law_k50): slots 0=_law_row 1=_law_at -/
def d__law_ended : FW.Def := ⟨1, 2, (.cons (.set 1 (.index (.var 0) (.tup (.cons (.k (.int 0)) (.cons (.k (.int 1)) .nil)))))
      (.cons (.ret (.bi .tuple false (.cons (.slc false (.var 0) (.k .non) (.bin .add false (.var 1) (.k (.int 1)))) .nil))) .nil))⟩
def g__law_ended : List (Str × Fn) := []
def F__law_ended : Fn := fnSem g__law_ended d__law_ended

/-! _law_below (law_k51): slots 0=_law_one 1=_law_other 2=_law_word 3=_law_size 4=_law_rows 5=_law_t 6=_law_first 7=_law_second 8=_law_s 9=_law_life_here 10=_law_line -/
def c__law_below_0 : CE := (.comp false [5] (.name 5) (.rng1 (.var 3)) (.call 1 (.cons (.call 0 (.cons (.var 1) (.cons (.var 5) .nil))) (.cons (.call 0 (.cons (.var 0) (.cons (.var 5) .nil))) .nil))) (.var 5))
def c__law_below_2 : CE := (.comp false [5] (.name 5) (.rng1 (.var 3)) (.k (.bl true)) (.call 0 (.cons (.var 9) (.cons (.var 5) .nil))))
def c__law_below_1 : CE := (.comp false [9] (.name 9) (.seq (.list false (.cons (.var 0) (.cons (.var 1) .nil)))) (.k (.bl true)) c__law_below_2)
def c__law_below_4 : CE := (.comp false [5] (.name 5) (.rng2 (.k (.int 1)) (.var 3)) (.k (.bl true)) (.call 2 (.cons (.idx (.var 10) (.bin .sub false (.var 5) (.k (.int 1)))) (.cons (.tup (.cons (.bin .sub false (.k (.int 0)) (.idx (.idx (.var 10) (.var 5)) (.k (.int 0)))) (.cons (.idx (.idx (.var 10) (.var 5)) (.k (.int 1))) .nil))) .nil))))
def c__law_below_3 : CE := (.comp false [10] (.name 10) (.seq (.var 4)) (.k (.bl true)) c__law_below_4)
def b__law_below_1 : CB := (.cons (.ifs (.call 1 (.cons (.call 3 (.cons (.idx (.var 6) (.var 8)) (.cons (.idx (.var 7) (.var 5)) .nil))) (.cons (.call 3 (.cons (.idx (.var 6) (.var 5)) (.cons (.idx (.var 7) (.var 8)) .nil))) .nil)))
      (.cons (.ret (.k (.bl false))) .nil)
      (.nil)) .nil)
def b__law_below_0 : CB := (.cons (.forr (.name 8) (.rng1 (.var 5))
      b__law_below_1 []) .nil)
def d__law_below : FW.Def := ⟨3, 11, (.cons (.set 3 (.bin .add false (.bi .max2 false (.cons (.bi .len false (.cons (.var 0) .nil)) (.cons (.bi .len false (.cons (.var 1) .nil)) .nil))) (.k (.int 1))))
      (.cons (.ifs (.cmp .eq (.var 2) (.k (.str "chance")))
      (.cons (.ret (.cmp .eq c__law_below_0 (.list false .nil))) .nil)
      (.nil))
      (.cons (.set 4 c__law_below_1)
      (.cons (.ifs (.cmp .eq (.var 2) (.k (.str "odds")))
      (.cons (.set 4 c__law_below_3) .nil)
      (.nil))
      (.cons (.unpack (.cons (.name 6) (.cons (.name 7) .nil)) (.var 4))
      (.cons (.forr (.name 5) (.rng1 (.bi .len false (.cons (.var 6) .nil)))
      b__law_below_0 [])
      (.cons (.ret (.k (.bl true))) .nil)))))))⟩
def g__law_below : List (Str × Fn) := [("_law_item", F__law_item), ("_law_less", F__law_less), ("_law_plus", F__law_plus), ("_law_times", F__law_times)]
def F__law_below : Fn := fnSem g__law_below d__law_below
@[simp] theorem g__law_below_0 : g__law_below[0]?.map Prod.snd = some F__law_item := rfl
@[simp] theorem g__law_below_1 : g__law_below[1]?.map Prod.snd = some F__law_less := rfl
@[simp] theorem g__law_below_2 : g__law_below[2]?.map Prod.snd = some F__law_plus := rfl
@[simp] theorem g__law_below_3 : g__law_below[3]?.map Prod.snd = some F__law_times := rfl

/-! is_ordered (law_k51): slots 0=first 1=second 2=size 3=t 4=s -/
def b_is_ordered_1 : CB := (.cons (.ifs (.call 0 (.cons (.call 1 (.cons (.call 2 (.cons (.var 0) (.cons (.var 4) .nil))) (.cons (.call 2 (.cons (.var 1) (.cons (.var 3) .nil))) .nil))) (.cons (.call 1 (.cons (.call 2 (.cons (.var 0) (.cons (.var 3) .nil))) (.cons (.call 2 (.cons (.var 1) (.cons (.var 4) .nil))) .nil))) .nil)))
      (.cons (.ret (.k (.bl false))) .nil)
      (.nil)) .nil)
def b_is_ordered_0 : CB := (.cons (.forr (.name 4) (.rng1 (.var 3))
      b_is_ordered_1 []) .nil)
def d_is_ordered : FW.Def := ⟨2, 5, (.cons (.set 2 (.bi .max2 false (.cons (.bi .len false (.cons (.var 0) .nil)) (.cons (.bi .len false (.cons (.var 1) .nil)) .nil))))
      (.cons (.forr (.name 3) (.rng1 (.var 2))
      b_is_ordered_0 [])
      (.cons (.ret (.k (.bl true))) .nil)))⟩
def g_is_ordered : List (Str × Fn) := [("is_less", F_is_less), ("times", F_times), ("item", F_item)]
def F_is_ordered : Fn := fnSem g_is_ordered d_is_ordered
@[simp] theorem g_is_ordered_0 : g_is_ordered[0]?.map Prod.snd = some F_is_less := rfl
@[simp] theorem g_is_ordered_1 : g_is_ordered[1]?.map Prod.snd = some F_times := rfl
@[simp] theorem g_is_ordered_2 : g_is_ordered[2]?.map Prod.snd = some F_item := rfl

/-! below_by (law_k51): slots 0=one 1=other 2=word 3=t -/
def c_below_by_0 : CE := (.comp false [3] (.name 3) (.rng1 (.bi .len false (.cons (.var 0) .nil))) (.call 2 (.cons (.call 3 (.cons (.var 1) (.cons (.var 3) .nil))) (.cons (.idx (.var 0) (.var 3)) .nil))) (.var 3))
def d_below_by : FW.Def := ⟨3, 4, (.cons (.ifs (.cmp .eq (.var 2) (.k (.str "chance")))
      (.cons (.ret (.cmp .eq c_below_by_0 (.list false .nil))) .nil)
      (.nil))
      (.cons (.ifs (.cmp .eq (.var 2) (.k (.str "rates")))
      (.cons (.ret (.call 0 (.cons (.var 0) (.cons (.var 1) .nil)))) .nil)
      (.nil))
      (.cons (.ret (.call 0 (.cons (.slc false (.call 1 (.cons (.var 0) .nil)) (.k (.int 1)) (.k .non)) (.cons (.slc false (.call 1 (.cons (.var 1) .nil)) (.k (.int 1)) (.k .non)) .nil)))) .nil)))⟩
def g_below_by : List (Str × Fn) := [("is_ordered", F_is_ordered), ("fails_of", F_fails_of), ("is_less", F_is_less), ("item", F_item)]
def F_below_by : Fn := fnSem g_below_by d_below_by
@[simp] theorem g_below_by_0 : g_below_by[0]?.map Prod.snd = some F_is_ordered := rfl
@[simp] theorem g_below_by_1 : g_below_by[1]?.map Prod.snd = some F_fails_of := rfl
@[simp] theorem g_below_by_2 : g_below_by[2]?.map Prod.snd = some F_is_less := rfl
@[simp] theorem g_below_by_3 : g_below_by[3]?.map Prod.snd = some F_item := rfl

/-! is_below_ag (law_k51): slots 0=one 1=other 2=word -/
def d_is_below_ag : FW.Def := ⟨3, 3, (.cons (.expr (.call 0 (.cons (.var 0) .nil)))
      (.cons (.expr (.call 0 (.cons (.var 1) .nil)))
      (.cons (.ifs (.or (.cons (.nt (.isi [.str] (.var 2))) (.cons (.cmp .notin (.var 2) (.glob "ORDERS" (.tup [(.str "chance"), (.str "rates"), (.str "odds")]))) .nil)))
      (.cons (.raise "" .nil) .nil)
      (.nil))
      (.cons (.ret (.call 1 (.cons (.var 0) (.cons (.var 1) (.cons (.var 2) .nil))))) .nil))))⟩
def g_is_below_ag : List (Str × Fn) := [("need_life", F_need_life), ("below_by", F_below_by)]
def F_is_below_ag : Fn := fnSem g_is_below_ag d_is_below_ag
@[simp] theorem g_is_below_ag_0 : g_is_below_ag[0]?.map Prod.snd = some F_need_life := rfl
@[simp] theorem g_is_below_ag_1 : g_is_below_ag[1]?.map Prod.snd = some F_below_by := rfl

/-! need_cost (law_k54): slots 0=cost -/
def d_need_cost : FW.Def := ⟨1, 1, (.cons (.ifs (.or (.cons (.nt (.call 0 (.cons (.var 0) .nil))) (.cons (.cmp .lt (.idx (.var 0) (.k (.int 0))) (.k (.int 0))) .nil)))
      (.cons (.raise "" .nil) .nil)
      (.nil)) .nil)⟩
def g_need_cost : List (Str × Fn) := [("is_ratio", F_is_ratio)]
def F_need_cost : Fn := fnSem g_need_cost d_need_cost
@[simp] theorem g_need_cost_0 : g_need_cost[0]?.map Prod.snd = some F_is_ratio := rfl

/-! cost_at (law_k54): slots 0=life 1=plan 2=fail 3=age 4=lost -/
def d_cost_at : FW.Def := ⟨4, 5, (.cons (.set 4 (.call 0 (.cons (.glob "ONE" (.tup [(.int 1), (.int 1)])) (.cons (.idx (.var 0) (.var 3)) .nil))))
      (.cons (.ret (.call 1 (.cons (.call 2 (.cons (.call 4 (.cons (.var 2) (.cons (.var 4) .nil))) (.cons (.call 4 (.cons (.var 1) (.cons (.idx (.var 0) (.var 3)) .nil))) .nil))) (.cons (.call 3 (.cons (.slc false (.var 0) (.k .non) (.var 3)) .nil)) .nil)))) .nil))⟩
def g_cost_at : List (Str × Fn) := [("minus", F_minus), ("over", F_over), ("plus", F_plus), ("total_of", F_total_of), ("times", F_times)]
def F_cost_at : Fn := fnSem g_cost_at d_cost_at
@[simp] theorem g_cost_at_0 : g_cost_at[0]?.map Prod.snd = some F_minus := rfl
@[simp] theorem g_cost_at_1 : g_cost_at[1]?.map Prod.snd = some F_over := rfl
@[simp] theorem g_cost_at_2 : g_cost_at[2]?.map Prod.snd = some F_plus := rfl
@[simp] theorem g_cost_at_3 : g_cost_at[3]?.map Prod.snd = some F_total_of := rfl
@[simp] theorem g_cost_at_4 : g_cost_at[4]?.map Prod.snd = some F_times := rfl

/-! best_age (law_k54): slots 0=life 1=plan 2=fail 3=best 4=age 5=cost -/
def b_best_age_0 : CB := (.cons (.set 5 (.call 2 (.cons (.var 0) (.cons (.var 1) (.cons (.var 2) (.cons (.var 4) .nil))))))
      (.cons (.set 3 (.ite (.call 3 (.cons (.var 5) (.cons (.idx (.var 3) (.k (.int 0))) .nil))) (.tup (.cons (.var 5) (.cons (.var 4) .nil))) (.var 3))) .nil))
def d_best_age : FW.Def := ⟨3, 6, (.cons (.expr (.call 0 (.cons (.var 0) .nil)))
      (.cons (.expr (.call 1 (.cons (.var 1) .nil)))
      (.cons (.expr (.call 1 (.cons (.var 2) .nil)))
      (.cons (.set 3 (.tup (.cons (.call 2 (.cons (.var 0) (.cons (.var 1) (.cons (.var 2) (.cons (.k (.int 1)) .nil))))) (.cons (.k (.int 1)) .nil))))
      (.cons (.forr (.name 4) (.rng2 (.k (.int 2)) (.bi .len false (.cons (.var 0) .nil)))
      b_best_age_0 [])
      (.cons (.ret (.var 3)) .nil))))))⟩
def g_best_age : List (Str × Fn) := [("need_life", F_need_life), ("need_cost", F_need_cost), ("cost_at", F_cost_at), ("is_below", F_is_below)]
def F_best_age : Fn := fnSem g_best_age d_best_age
@[simp] theorem g_best_age_0 : g_best_age[0]?.map Prod.snd = some F_need_life := rfl
@[simp] theorem g_best_age_1 : g_best_age[1]?.map Prod.snd = some F_need_cost := rfl
@[simp] theorem g_best_age_2 : g_best_age[2]?.map Prod.snd = some F_cost_at := rfl
@[simp] theorem g_best_age_3 : g_best_age[3]?.map Prod.snd = some F_is_below := rfl

/-! age_cost (law_k54): slots 0=life 1=plan 2=fail 3=age -/
def d_age_cost : FW.Def := ⟨4, 4, (.cons (.expr (.call 0 (.cons (.var 0) .nil)))
      (.cons (.expr (.call 1 (.cons (.var 1) .nil)))
      (.cons (.expr (.call 1 (.cons (.var 2) .nil)))
      (.cons (.ifs (.nt (.call 3 (.cons (.var 3) (.cons (.k (.int 1)) (.cons (.bin .sub false (.bi .len false (.cons (.var 0) .nil)) (.k (.int 1))) .nil)))))
      (.cons (.raise "" .nil) .nil)
      (.nil))
      (.cons (.ret (.call 2 (.cons (.var 0) (.cons (.var 1) (.cons (.var 2) (.cons (.var 3) .nil)))))) .nil)))))⟩
def g_age_cost : List (Str × Fn) := [("need_life", F_need_life), ("need_cost", F_need_cost), ("cost_at", F_cost_at), ("is_in", F_is_in)]
def F_age_cost : Fn := fnSem g_age_cost d_age_cost
@[simp] theorem g_age_cost_0 : g_age_cost[0]?.map Prod.snd = some F_need_life := rfl
@[simp] theorem g_age_cost_1 : g_age_cost[1]?.map Prod.snd = some F_need_cost := rfl
@[simp] theorem g_age_cost_2 : g_age_cost[2]?.map Prod.snd = some F_cost_at := rfl
@[simp] theorem g_age_cost_3 : g_age_cost[3]?.map Prod.snd = some F_is_in := rfl

/-! renewals (law_k55): slots 0=life 1=most 2=t 3=fails 4=found 5=total 6=s -/
def b_renewals_1 : CB := (.cons (.set 5 (.call 3 (.cons (.var 5) (.cons (.call 4 (.cons (.idx (.var 3) (.var 6)) (.cons (.idx (.var 4) (.bin .sub false (.var 2) (.var 6))) .nil))) .nil)))) .nil)
def b_renewals_0 : CB := (.cons (.set 5 (.glob "ZERO" (.tup [(.int 0), (.int 1)])))
      (.cons (.forr (.name 6) (.rng2 (.k (.int 1)) (.bin .add false (.bi .min2 false (.cons (.var 2) (.cons (.bin .sub false (.bi .len false (.cons (.var 3) .nil)) (.k (.int 1))) .nil))) (.k (.int 1))))
      b_renewals_1 [])
      (.cons (.app 4 (.var 5)) .nil)))
def d_renewals : FW.Def := ⟨2, 7, (.cons (.expr (.call 0 (.cons (.var 0) .nil)))
      (.cons (.ifs (.nt (.call 1 (.cons (.var 1) (.cons (.k (.int 0)) (.cons (.glob "MOST_STEPS" (.int 60)) .nil)))))
      (.cons (.raise "" .nil) .nil)
      (.nil))
      (.cons (.par [3, 4] (.cons (.call 2 (.cons (.var 0) .nil)) (.cons (.list true (.cons (.glob "ONE" (.tup [(.int 1), (.int 1)])) .nil)) .nil)))
      (.cons (.forr (.name 2) (.rng2 (.k (.int 1)) (.bin .add false (.var 1) (.k (.int 1))))
      b_renewals_0 [])
      (.cons (.ret (.bi .tuple false (.cons (.var 4) .nil))) .nil)))))⟩
def g_renewals : List (Str × Fn) := [("need_life", F_need_life), ("is_in", F_is_in), ("fails_of", F_fails_of), ("plus", F_plus), ("times", F_times)]
def F_renewals : Fn := fnSem g_renewals d_renewals
@[simp] theorem g_renewals_0 : g_renewals[0]?.map Prod.snd = some F_need_life := rfl
@[simp] theorem g_renewals_1 : g_renewals[1]?.map Prod.snd = some F_is_in := rfl
@[simp] theorem g_renewals_2 : g_renewals[2]?.map Prod.snd = some F_fails_of := rfl
@[simp] theorem g_renewals_3 : g_renewals[3]?.map Prod.snd = some F_plus := rfl
@[simp] theorem g_renewals_4 : g_renewals[4]?.map Prod.snd = some F_times := rfl

end FWP

/-! FW: tools for plain laws: indices, loops by an invariant, comprehensions. -/
namespace FWP
open PySem FW
def iv (t : Nat) : PV := .int (t : Int)
/-! ### indices -/
theorem ix_nat {n t : Nat} : ix? n (t : Int) = if t < n then some t else none := by
  by_cases h : t < n <;> simp [ix?, h]
theorem ix_nat1 {n t : Nat} : ix? n ((t : Int) + 1) = if t + 1 < n then some (t + 1) else none := ix_nat (t := t + 1)
theorem ix_1nat {n t : Nat} : ix? n (1 + (t : Int)) = if t + 1 < n then some (t + 1) else none := by rw [Int.add_comm]; exact ix_nat1
theorem ix_add {n s t : Nat} : ix? n ((s : Int) + (t : Int)) = if s + t < n then some (s + t) else none := ix_nat (t := s + t)
theorem ix_succ_sub {n t : Nat} : ix? n ((t : Int) + 1 - 1) = if t < n then some t else none := by rw [show (t : Int) + 1 - 1 = t by omega]; exact ix_nat
theorem ix_0 {n : Nat} : ix? n 0 = if 0 < n then some 0 else none := ix_nat (t := 0)
theorem ix_1 {n : Nat} : ix? n 1 = if 1 < n then some 1 else none := ix_nat (t := 1)
theorem ix_2 {n : Nat} : ix? n 2 = if 2 < n then some 2 else none := ix_nat (t := 2)
theorem ix_last {n : Nat} (h : 0 < n) : ix? n (-1) = some (n - 1) := by
  have a : (0 : Int) ≤ -1 + n := by omega
  have b : (-1 + (n : Int)).toNat = n - 1 := by omega
  simp [ix?, a, b]
def nth (L : List Rat) (t : Nat) : Rat := L.getD t 0
theorem get_nth {L : List Rat} {t : Nat} (h : t < L.length) : L[t] = nth L t := by simp [nth, h]
theorem nth_some {L : List Rat} {t : Nat} (h : t < L.length) : L[t]? = some (nth L t) := by rw [List.getElem?_eq_getElem h, get_nth h]
theorem nth_of {L : List Rat} {t : Nat} {q : Rat} (h : L[t]? = some q) : nth L t = q := by simp [nth, List.getD_eq_getElem?_getD, h]
theorem nth_ge {L : List Rat} {t : Nat} (h : L.length ≤ t) : nth L t = 0 := by simp [nth, List.getD_eq_getElem?_getD, List.getElem?_eq_none h]
theorem rvs_nth {L : List Rat} {t : Nat} (h : t < L.length) : (rvs L)[t]? = some (rv (nth L t)) := rvs_at (nth_some h)
theorem nth_mem {L : List Rat} {t : Nat} (h : t < L.length) : nth L t ∈ L := by rw [← get_nth h]; exact List.getElem_mem h
theorem mem_nth {L : List Rat} {q : Rat} (h : q ∈ L) : ∃ t, t < L.length ∧ nth L t = q := by
  obtain ⟨t, ht, e⟩ := List.mem_iff_getElem.mp h
  exact ⟨t, ht, by rw [← get_nth ht]; exact e⟩
theorem rvs_snoc (L : List Rat) (q : Rat) : rvs L ++ [rv q] = rvs (L ++ [q]) := by simp
/-! ### loops -/
theorem forL_inv {f : PV → FS} (I : Nat → Slots → Store → Prop) : ∀ (xs : List PV) (i : Nat) {ρ : Slots} {S : Store}, (∀ j x ρ S, xs[j]? = some x → I (i + j) ρ S → ∃ ρ' S', f x ρ S = .ok (.next ρ') S' ∧ I (i + j + 1) ρ' S') → I i ρ S →
    ∃ ρ' S', forL f [] xs ρ S = .ok (.next ρ') S' ∧ I (i + xs.length) ρ' S'
  | [], i, ρ, S, _, h => ⟨ρ, S, rfl, h⟩
  | x :: xs, i, ρ, S, hf, h => by
    obtain ⟨ρ1, S1, e1, h1⟩ := hf 0 x ρ S rfl h
    obtain ⟨ρ2, S2, e2, h2⟩ := forL_inv I xs (i + 1) (fun j y ρ S hy hI => by
      have := hf (j + 1) y ρ S hy (by rw [show i + (j + 1) = i + 1 + j by omega]; exact hI)
      rwa [show i + (j + 1) = i + 1 + j by omega] at this) h1
    refine ⟨ρ2, S2, ?_, by rw [List.length_cons, show i + (xs.length + 1) = i + 1 + xs.length by omega]; exact h2⟩
    show (f x ρ S).bind _ = _
    rw [e1]
    exact e2
/-- a loop that leaves at the first place that has p -/
theorem forL_find {f : PV → FS} (I : Nat → Slots → Store → Prop) (p : Nat → Bool) (R : Nat → SV → Store → Prop) : ∀ (xs : List PV) (i : Nat) {ρ : Slots} {S : Store},
    (∀ j x ρ S, xs[j]? = some x → I (i + j) ρ S → (p (i + j) = false → ∃ ρ' S', f x ρ S = .ok (.next ρ') S' ∧ I (i + j + 1) ρ' S') ∧ (p (i + j) = true → ∃ v S', f x ρ S = .ok (.ret v) S' ∧ R (i + j) v S')) → I i ρ S →
    (∃ ρ' S', forL f [] xs ρ S = .ok (.next ρ') S' ∧ I (i + xs.length) ρ' S' ∧ ∀ j, j < xs.length → p (i + j) = false) ∨
    (∃ j v S', j < xs.length ∧ p (i + j) = true ∧ (∀ m, m < j → p (i + m) = false) ∧ forL f [] xs ρ S = .ok (.ret v) S' ∧ R (i + j) v S')
  | [], i, ρ, S, _, h => .inl ⟨ρ, S, rfl, h, fun j hj => absurd hj (Nat.not_lt_zero j)⟩
  | x :: xs, i, ρ, S, hf, h => by
    obtain ⟨a, b⟩ := hf 0 x ρ S rfl h
    cases hp : p i with
    | true =>
      obtain ⟨v, S', e, r⟩ := b hp
      refine .inr ⟨0, v, S', by simp, hp, fun m hm => absurd hm (Nat.not_lt_zero m), ?_, r⟩
      show (f x ρ S).bind _ = _
      rw [e]
      rfl
    | false =>
      obtain ⟨ρ1, S1, e1, h1⟩ := a hp
      have hs : ∀ j, i + (j + 1) = i + 1 + j := fun j => by omega
      have e0 : forL f [] (x :: xs) ρ S = forL f [] xs ρ1 S1 := by
        show (f x ρ S).bind _ = _
        rw [e1]
        rfl
      have := forL_find I p R xs (i + 1) (ρ := ρ1) (S := S1) (fun j y ρ S hy hI => by
        have := hf (j + 1) y ρ S hy (by rw [hs]; exact hI)
        rwa [hs] at this) h1
      rcases this with ⟨ρ2, S2, e2, h2, hn⟩ | ⟨j, v, S', hj, hpj, hm, e2, r⟩
      · refine .inl ⟨ρ2, S2, by rw [e0]; exact e2, by rw [List.length_cons, hs]; exact h2, fun j hj => ?_⟩
        cases j with
        | zero => exact hp
        | succ j => rw [hs]; exact hn j (by simpa using hj)
      · refine .inr ⟨j + 1, v, S', by simpa using hj, by rw [hs]; exact hpj, fun m hm' => ?_, by rw [e0]; exact e2, by rw [hs]; exact r⟩
        cases m with
        | zero => exact hp
        | succ m => rw [hs]; exact hm m (by omega)
theorem for_eq {Γ : List (Str × Fn)} {tg : CG} {it : CI} {b : CB} {ρ : Slots} {S S1 : Store} {xs : List PV} {r : Out FW.Flow} (hi : evI Γ it ρ S = .ok xs S1) (e : forL (sTurn (bindG tg) (evB Γ b)) [] xs ρ S1 = r) : evS Γ (.forr tg it b []) ρ S = r := by
  rw [evS_forr]
  show (evI Γ it ρ S).bind _ = _
  rw [hi]
  exact e
/-! ### comprehensions -/
theorem compL_pure {f : PV → Store → Out (Option PV)} {g : PV → Option PV} {S : Store} : ∀ {xs : List PV}, (∀ x ∈ xs, f x S = .ok (g x) S) → compL f xs S = .ok (xs.filterMap g) S
  | [], _ => rfl
  | x :: xs, h => by
    show (f x S).bind _ = _
    rw [h x List.mem_cons_self]
    show (compL f xs S).bind _ = _
    rw [compL_pure fun y hy => h y (List.mem_cons_of_mem _ hy)]
    cases hg : g x <;> simp [List.filterMap_cons, hg]
/-- over a range of Nats -/
theorem compL_nat {α : Type} {f : PV → Store → Out (Option PV)} {x : α → PV} {p : α → Bool} {g : α → PV} {S : Store} : ∀ {l : List α}, (∀ a ∈ l, f (x a) S = .ok (if p a = true then some (g a) else none) S) → compL f (l.map x) S = .ok ((l.filter p).map g) S
  | [], _ => rfl
  | a :: l, h => by
    show (f (x a) S).bind _ = _
    rw [h a List.mem_cons_self]
    show (compL f (l.map x) S).bind _ = _
    rw [compL_nat fun y hy => h y (List.mem_cons_of_mem _ hy)]
    cases hg : p a <;> simp [hg]
theorem comp_eq {α : Type} {Γ : List (Str × Fn)} {m : Bool} {own : List Nat} {tg : CG} {it : CI} {c e : CE} {ρ : Slots} {S : Store} {x : α → PV} (l : List α) (p : α → Bool) (g : α → PV) (hi : evI Γ it ρ S = .ok (l.map x) S)
    (h : ∀ a ∈ l, cTurn (bindG tg) (ev Γ c).t (ev Γ e).v (wipeS ρ own) (x a) S = .ok (if p a = true then some (g a) else none) S) :
    (ev Γ (.comp m own tg it c e)).v ρ S = mkL m ((l.filter p).map g) S := by
  rw [ev_comp, ofV_v]
  unfold sComp
  rw [hi]
  show (compL _ _ S).bind _ = _
  rw [compL_nat h]
  rfl
theorem comp_map {α : Type} {Γ : List (Str × Fn)} {m : Bool} {own : List Nat} {tg : CG} {it : CI} {c e : CE} {ρ : Slots} {S : Store} {x : α → PV} (l : List α) (g : α → PV) (hi : evI Γ it ρ S = .ok (l.map x) S)
    (h : ∀ a ∈ l, cTurn (bindG tg) (ev Γ c).t (ev Γ e).v (wipeS ρ own) (x a) S = .ok (some (g a)) S) :
    (ev Γ (.comp m own tg it c e)).v ρ S = mkL m (l.map g) S := by
  have := comp_eq (m := m) (c := c) (e := e) l (fun _ => true) g hi (fun a ha => by rw [h a ha]; rfl)
  rw [this, List.filter_eq_self.mpr (fun _ _ => rfl)]
theorem comp_f {α : Type} {Γ : List (Str × Fn)} {c0 : CE} {own : List Nat} {tg : CG} {it : CI} {c e : CE} {ρ : Slots} {S : Store} {x : α → PV} (hc : c0 = .comp false own tg it c e) (l : List α) (p : α → Bool) (g : α → PV) (hl : l.length ≤ line) (hi : evI Γ it ρ S = .ok (l.map x) S)
    (h : ∀ a ∈ l, cTurn (bindG tg) (ev Γ c).t (ev Γ e).v (wipeS ρ own) (x a) S = .ok (if p a = true then some (g a) else none) S) :
    (ev Γ c0).v ρ S = .ok (.v (.lst ((l.filter p).map g))) S := by
  subst hc
  rw [comp_eq l p g hi h]
  have := List.length_filter_le p l
  unfold mkL
  rw [if_pos (by rw [List.length_map]; omega)]
  rfl
theorem comp_t {α : Type} {Γ : List (Str × Fn)} {c0 : CE} {own : List Nat} {tg : CG} {it : CI} {c e : CE} {ρ : Slots} {S : Store} {x : α → PV} (hc : c0 = .comp true own tg it c e) (l : List α) (p : α → Bool) (g : α → PV) (hl : l.length ≤ line) (hi : evI Γ it ρ S = .ok (l.map x) S)
    (h : ∀ a ∈ l, cTurn (bindG tg) (ev Γ c).t (ev Γ e).v (wipeS ρ own) (x a) S = .ok (if p a = true then some (g a) else none) S) :
    (ev Γ c0).v ρ S = .ok (.l S.length) (S ++ [.lst ((l.filter p).map g)]) := by
  subst hc
  rw [comp_eq l p g hi h]
  have := List.length_filter_le p l
  unfold mkL
  rw [if_pos (by rw [List.length_map]; omega)]
  rfl
theorem comp_fm {α : Type} {Γ : List (Str × Fn)} {c0 : CE} {own : List Nat} {tg : CG} {it : CI} {c e : CE} {ρ : Slots} {S : Store} {x : α → PV} (hc : c0 = .comp false own tg it c e) (l : List α) (g : α → PV) (hl : l.length ≤ line) (hi : evI Γ it ρ S = .ok (l.map x) S)
    (h : ∀ a ∈ l, cTurn (bindG tg) (ev Γ c).t (ev Γ e).v (wipeS ρ own) (x a) S = .ok (some (g a)) S) :
    (ev Γ c0).v ρ S = .ok (.v (.lst (l.map g))) S := by
  subst hc
  rw [comp_map l g hi h]
  unfold mkL
  rw [if_pos (by rw [List.length_map]; exact hl)]
  rfl
theorem eqP_nilR {xs : List PV} (h : noFns xs = true) : eqP (.lst xs) (.lst []) = some xs.isEmpty := by
  have : (noFn (.lst xs) && noFn (.lst []) && (dpLe eqD (.lst xs) || dpLe eqD (.lst []))) = true := by
    rw [show noFn (.lst xs) = noFns xs from rfl, h, show dpLe eqD (.lst []) = true from rfl, Bool.or_true]
    rfl
  unfold eqP
  rw [if_pos this]
  cases xs <;> rfl
theorem noFns_iv : ∀ l : List Nat, noFns (l.map iv) = true
  | [] => rfl
  | _ :: l => by show (true && noFns (l.map iv)) = true; rw [noFns_iv l]; rfl
theorem isEmpty_filter {α : Type} {p : α → Bool} {l : List α} {β : Type} {g : α → β} : ((l.filter p).map g).isEmpty = l.all fun a => !p a := by
  induction l with
  | nil => rfl
  | cons a l ih => cases h : p a <;> simp [h]; rw [← ih]; simp
/-! ### ranges -/
def nats (a b : Nat) : List Nat := List.range' a (b - a)
theorem mem_nats {a b t : Nat} : t ∈ nats a b ↔ a ≤ t ∧ t < b := by
  unfold nats
  rw [List.mem_range'_1]
  omega
theorem nats_len (a b : Nat) : (nats a b).length = b - a := by simp [nats]
theorem nats_le {a b : Nat} (h : b ≤ 16777216) : (nats a b).length ≤ line := by rw [nats_len]; show _ ≤ 16777216; omega
theorem nats_get {a b j x : Nat} (h : (nats a b)[j]? = some x) : x = a + j ∧ x < b := by
  unfold nats at h
  have hj := (List.getElem?_eq_some_iff.mp h).1
  rw [List.length_range'] at hj
  rw [List.getElem?_range'] at h
  · have := Option.some.inj h
    omega
  · exact hj
theorem rng_nats (a b : Nat) : rng (a : Int) (b : Int) = (nats a b).map iv := by
  unfold rng nats
  rw [show ((b : Int) - a).toNat = b - a by omega, List.range'_eq_map_range, List.map_map]
  rfl
theorem rngN_nats (b : Nat) : rngN (b : Int) = (nats 0 b).map iv := by
  have := rng_nats 0 b
  rw [← this]
  unfold rngN rng
  simp
theorem rngOk_nat {n : Nat} (h : n ≤ 4000000) : rngOk (n : Int) = true ∧ rngOk (-(n : Int)) = true := ⟨decide_eq_true (by omega), decide_eq_true (by omega)⟩
theorem rng1Op_nat {n : Nat} (h : n ≤ 4000000) (S : Store) : rng1Op (.v (.int (n : Int))) S = .ok ((nats 0 n).map iv) S := by
  obtain ⟨a, b⟩ := rngOk_nat h
  simp [a, b, rngN_nats]
theorem rng2Op_nat {a b : Nat} (h : a ≤ 4000000) (h' : b ≤ 4000000) (S : Store) : rng2Op (.v (.int (a : Int))) (.v (.int (b : Int))) S = .ok ((nats a b).map iv) S := by
  obtain ⟨a1, a2⟩ := rngOk_nat h
  obtain ⟨b1, b2⟩ := rngOk_nat h'
  simp [a1, a2, b1, b2, rng_nats]
theorem rng2Op_of {x y : Int} {a b : Nat} (hx : x = a) (hy : y = b) (h : a ≤ 4000000) (h' : b ≤ 4000000) (S : Store) : rng2Op (.v (.int x)) (.v (.int y)) S = .ok ((nats a b).map iv) S := by
  subst hx hy
  exact rng2Op_nat h h' S
theorem rng1Op_of {x : Int} {a : Nat} (hx : x = a) (h : a ≤ 4000000) (S : Store) : rng1Op (.v (.int x)) S = .ok ((nats 0 a).map iv) S := by
  subst hx
  exact rng1Op_nat h S
theorem iv_get {a b j : Nat} {x : PV} (h : ((nats a b).map iv)[j]? = some x) : ∃ t, x = iv t ∧ t = a + j ∧ t < b := by
  refine ⟨a + j, ?_⟩
  suffices x = iv (a + j) ∧ a + j < b from ⟨this.1, rfl, this.2⟩
  rw [List.getElem?_map] at h
  cases hn : (nats a b)[j]? with
  | none => rw [hn] at h; cases h
  | some t =>
    rw [hn] at h
    obtain ⟨rfl, h2⟩ := nats_get hn
    exact ⟨(Option.some.inj h).symm, h2⟩
section
variable {Γ : List (Str × Fn)} {a b : CE} {ρ : Slots} {S : Store} {x y : Int} {m n : Nat}
theorem evI_r1 (ha : (ev Γ a).v ρ S = .ok (.v (.int x)) S) (hx : x = m) (hm : m ≤ 4000000) : evI Γ (.rng1 a) ρ S = .ok ((nats 0 m).map iv) S := by
  rw [evI_rng1]
  show ((ev Γ a).v ρ S).bind _ = _
  rw [ha]
  exact rng1Op_of hx hm S
theorem evI_r2 (ha : (ev Γ a).v ρ S = .ok (.v (.int x)) S) (hb : (ev Γ b).v ρ S = .ok (.v (.int y)) S) (hx : x = m) (hy : y = n) (hm : m ≤ 4000000) (hn : n ≤ 4000000) : evI Γ (.rng2 a b) ρ S = .ok ((nats m n).map iv) S := by
  rw [evI_rng2]
  show ((ev Γ a).v ρ S).bind _ = _
  rw [ha]
  show ((ev Γ b).v ρ S).bind _ = _
  rw [hb]
  exact rng2Op_of hx hy hm hn S
theorem for_r1 {tg : CG} {c : CB} {r : Out FW.Flow} (ha : (ev Γ a).v ρ S = .ok (.v (.int x)) S) (hx : x = m) (hm : m ≤ 4000000) (e : forL (sTurn (bindG tg) (evB Γ c)) [] ((nats 0 m).map iv) ρ S = r) : evS Γ (.forr tg (.rng1 a) c []) ρ S = r := for_eq (evI_r1 ha hx hm) e
theorem for_r2 {tg : CG} {c : CB} {r : Out FW.Flow} (ha : (ev Γ a).v ρ S = .ok (.v (.int x)) S) (hb : (ev Γ b).v ρ S = .ok (.v (.int y)) S) (hx : x = m) (hy : y = n) (hm : m ≤ 4000000) (hn : n ≤ 4000000) (e : forL (sTurn (bindG tg) (evB Γ c)) [] ((nats m n).map iv) ρ S = r) : evS Γ (.forr tg (.rng2 a b) c []) ρ S = r := for_eq (evI_r2 ha hb hx hy hm hn) e
end
/-! ### slices -/
theorem cut_to {xs : List PV} {t : Nat} (h : t ≤ xs.length) : cut xs none (some (t : Int)) = xs.take t := by
  have e : sx xs.length xs.length (some (t : Int)) = t := by
    show (if (t : Int) < 0 then ((t : Int) + (xs.length : Int)).toNat else min (t : Int).toNat xs.length) = t
    rw [if_neg (by omega)]
    simp [h]
  unfold cut
  rw [e, show sx xs.length 0 none = 0 from rfl]
  simp
end FWP

/-! FW: sums, comparisons, costs by age. -/
namespace FWP
open PySem FW
section
variable {k l : Nat} {L : List Rat} {q r : Rat} {S : Store}
theorem F_less_eq (hq : Bd k q) (hr : Bd l r) (h : k + l ≤ 12000) : F__law_less [.v (rv q), .v (rv r)] S = .ok (.v (.bl (decide (q < r)))) S := by
  have := F_below_eq (S := S) hq hr h
  exact this
theorem F_is_less_eq (hq : Bd k q) (hr : Bd l r) (h : k + l ≤ 12000) : F_is_less [.v (rv q), .v (rv r)] S = .ok (.v (.bl (decide (q < r)))) S := by
  have := F_below_eq (S := S) hq hr h
  simp [F_is_less, d_is_less, this]
theorem Bd.sumR : ∀ {R : List Rat}, (∀ q ∈ R, Bd k q) → Bd (1 + (k + 1) * R.length) (sumR R)
  | [], _ => Bd.zero
  | q :: R, h => by
    have a := h q List.mem_cons_self
    have b := Bd.sumR (R := R) fun r hr => h r (List.mem_cons_of_mem _ hr)
    exact (a.add b).mono (by rw [List.length_cons, Nat.mul_succ]; omega)
theorem F_lsum_eq {R : List Rat} {x : SV} (hx : x = .v (.tup (rvs R)) ∨ x = .v (.lst (rvs R))) (hR : ∀ q ∈ R, Bd k q) (hl : 1 + (k + 1) * R.length ≤ 10000) : F__law_sum [x] S = .ok (.v (rv (sumR R))) S := by
  obtain ⟨ρ', S', e, z, hI, rfl⟩ := forL_inv (f := sTurn (bindG (.name 2)) (evB g__law_sum b__law_sum_0)) (fun i ρ S' => ∃ z, ρ = [some x, some (.v (rv (sumR (R.take i)))), z] ∧ S' = S) (rvs R) 0 (ρ := [some x, some (.v (rv 0)), none]) (S := S) (fun j y ρ S' hy hI => by
    obtain ⟨z, rfl, rfl⟩ := hI
    have hj : j < R.length := by simpa using (List.getElem?_eq_some_iff.mp hy).1
    rw [rvs_nth hj] at hy
    obtain rfl := Option.some.inj hy
    have b1 := Bd.sumR (R := R.take j) (k := k) fun q hq => hR q (List.mem_of_mem_take hq)
    have b2 := hR _ (nth_mem hj)
    have hlt : (k + 1) * (R.take j).length + (k + 1) ≤ (k + 1) * R.length := by
      rw [← Nat.mul_succ]
      exact Nat.mul_le_mul_left _ (by simp; omega)
    have o := fun S => F_lplus_eq (S := S) b1 b2 (by omega)
    rw [Nat.zero_add]
    refine ⟨_, _, ?_, some (.v (rv (nth R j))), rfl, rfl⟩
    rw [List.take_succ_eq_append_getElem hj, sumR_snoc, get_nth hj]
    simp [b__law_sum_0, o]) ⟨none, rfl, rfl⟩
  rw [rvs_len, Nat.zero_add, List.take_length] at hI
  subst hI
  rcases hx with rfl | rfl
  all_goals
    have e' := for_eq (Γ := g__law_sum) (S := S') (S1 := S') (tg := .name 2) (it := .seq (.var 0)) (b := b__law_sum_0) (by simp) e
    generalize rvs R = Rs at *
    simp only [rv_zero] at *
    simp [F__law_sum, d__law_sum, e', rv_zero, line]
/-- a life's part is not 0 -/
theorem sumR_nonneg : ∀ {R : List Rat}, (∀ q ∈ R, 0 ≤ q) → 0 ≤ sumR R
  | [], _ => Rat.le_refl
  | q :: R, h => by
    have a := h q List.mem_cons_self
    have b := sumR_nonneg (R := R) fun r hr => h r (List.mem_cons_of_mem _ hr)
    show 0 ≤ q + sumR R
    grind
theorem Life.take_pos (h : Life k L) {t : Nat} (ht : 1 ≤ t) : 1 ≤ sumR (L.take t) := by
  have f := h.first
  cases L with
  | nil => simp at f
  | cons x L =>
    simp at f
    subst f
    obtain ⟨t, rfl⟩ : ∃ s, t = s + 1 := ⟨t - 1, by omega⟩
    rw [List.take_succ_cons]
    have := sumR_nonneg (R := L.take t) fun q hq => (h.ch q (List.mem_cons_of_mem _ (List.mem_of_mem_take hq))).1
    show (1 : Rat) ≤ 1 + sumR (L.take t)
    grind
/-! ### costs -/
theorem F_need_cost_eq (hq : Bd k q) (hk : k ≤ 12000) (h0 : 0 ≤ q) : F_need_cost [.v (rv q)] S = .ok (.v .non) S := by
  have a := F_is_ratio_eq (S := S) hq hk
  have b0 : 0 ≤ q.num := Rat.num_nonneg.mpr h0
  have b1 : ¬ q.num < 0 := by omega
  simp only [rv] at a
  simp [F_need_cost, d_need_cost, rv, a, b1]
def cost (L : List Rat) (p f : Rat) (t : Nat) : Rat := (f * (1 - nth L t) + p * nth L t) / sumR (L.take t)
theorem F_total_take (h : Life 60 L) (t : Nat) : F_total_of [.v (.tup (rvs (L.take t)))] S = .ok (.v (rv (sumR (L.take t)))) S := by
  have := F_total_of_eq (S := S) (R := L.take t) (k := 60) (fun q hq => h.bd q (List.mem_of_mem_take hq)) (by
    have : (L.take t).length ≤ 13 := by rw [List.length_take]; have := h.len.2; omega
    have : 61 * (L.take t).length ≤ 61 * 13 := Nat.mul_le_mul_left _ this
    omega)
  exact this
theorem Life.bd_take (h : Life 60 L) (t : Nat) : Bd 800 (sumR (L.take t)) := by
  refine (Bd.sumR (R := L.take t) (k := 60) (fun q hq => h.bd q (List.mem_of_mem_take hq))).mono ?_
  have : (L.take t).length ≤ 13 := by rw [List.length_take]; have := h.len.2; omega
  have : 61 * (L.take t).length ≤ 61 * 13 := Nat.mul_le_mul_left _ this
  omega
theorem Life.bdn (h : Life k L) (t : Nat) (hk : 1 ≤ k) : Bd k (nth L t) := by
  by_cases ht : t < L.length
  · exact h.bd _ (nth_mem ht)
  · rw [nth_ge (by omega)]; exact Bd.zero.mono hk
theorem F_cost_at_eq (h : Life 60 L) {p f : Rat} (hp : Bd 6 p) (hf : Bd 6 f) {t : Nat} (h1 : 1 ≤ t) (h2 : t < L.length) : F_cost_at [.v (lv L), .v (rv p), .v (rv f), I t] S = .ok (.v (rv (cost L p f t))) S := by
  have bt := h.bdn t (by decide)
  have o1 := fun S => F_minus_eq (S := S) Bd.one bt (by omega)
  have b1 := Bd.one.sub bt
  have o2 := fun S => F_times_eq (S := S) hf b1 (by omega)
  have o3 := fun S => F_times_eq (S := S) hp bt (by omega)
  have b2 := hf.mul b1
  have b3 := hp.mul bt
  have o4 := fun S => F_plus_eq (S := S) b2 b3 (by omega)
  have o5 := fun S => F_total_take (S := S) h t
  have hne : sumR (L.take t) ≠ 0 := by have := h.take_pos h1; grind
  have o6 := fun S => F_over_eq (S := S) (b2.add b3) (h.bd_take t) (by omega) hne
  have hc := cut_to (xs := rvs L) (t := t) (by rw [rvs_len]; omega)
  rw [rv_one] at o1
  have g := rvs_nth h2
  have hg := (List.getElem?_eq_some_iff.mp g).2
  have ht : (List.take t (rvs L)) = rvs (L.take t) := by simp
  have hl : (rvs L).length = L.length := rvs_len L
  rw [ht] at hc
  have hm : (rvs (L.take t)).length ≤ 16777216 := by have := h.len.2; simp; omega
  simp only [lv]
  generalize rvs L = Ls at *
  generalize rvs (L.take t) = Lt at *
  simp [F_cost_at, d_cost_at, -ix?, ix_nat, hl, h2, hg, o1, o2, o3, o4, hc, o5, o6, line, cost, hm]
theorem F_age_cost_eq (h : Life 60 L) {p f : Rat} (hp : Bd 6 p) (hf : Bd 6 f) (p0 : 0 ≤ p) (f0 : 0 ≤ f) {t : Nat} (h1 : 1 ≤ t) (h2 : t < L.length) : F_age_cost [.v (lv L), .v (rv p), .v (rv f), I t] S = .ok (.v (rv (cost L p f t))) S := by
  have e0 := fun S => F_need_life_eq (S := S) h (by omega)
  have e1 := fun S => F_need_cost_eq (S := S) hp (by decide) p0
  have e2 := fun S => F_need_cost_eq (S := S) hf (by decide) f0
  have e3 := fun S => is_in_eq (S := S) (i := (t : Int)) (a := 1) (b := (L.length : Int) - 1) (by omega) (by omega)
  have e4 := fun S => F_cost_at_eq (S := S) h hp hf h1 h2
  have hl : (rvs L).length = L.length := rvs_len L
  simp only [lv] at *
  generalize rvs L = Ls at *
  simp [F_age_cost, d_age_cost, e0, e1, e2, e3, e4, hl]
end
end FWP

/-! FW: kinds of ageing: what the defs compute. -/
namespace FWP
open PySem FW
section
variable {k l : Nat} {L : List Rat} {q r : Rat} {S : Store}
def pw (q : Rat) : Nat → Rat
  | 0 => 1
  | n + 1 => pw q n * q
theorem Bd.pw (h : Bd k q) : ∀ n, Bd (1 + k * n) (pw q n)
  | 0 => Bd.one
  | n + 1 => ((Bd.pw h n).mul h).mono (by rw [Nat.mul_succ]; omega)
theorem nats_take {a b : Nat} : (nats a b).length = b - a := nats_len a b
theorem F_lpower_eq (h : Bd k q) {n : Nat} (hn : n ≤ 1000) (hk : k * n + k + 1 ≤ 12000) : F__law_power [.v (rv q), I n] S = .ok (.v (rv (pw q n))) S := by
  obtain ⟨ρ', S', e, z, hI, rfl⟩ := forL_inv (f := sTurn (bindG (.name 3)) (evB g__law_power b__law_power_0)) (fun i ρ S' => ∃ z, ρ = [some (.v (rv q)), some (I n), some (.v (rv (pw q i))), z] ∧ S' = S) ((nats 0 n).map iv) 0 (ρ := [some (.v (rv q)), some (I n), some (.v (rv (pw q 0))), none]) (S := S) (fun j y ρ S' hy hI => by
    obtain ⟨z, rfl, rfl⟩ := hI
    obtain ⟨t, rfl, ht, hj⟩ := iv_get hy
    rw [Nat.zero_add]
    have hkj : k * j ≤ k * n := Nat.mul_le_mul_left _ (by omega)
    have o := fun S => F_ltimes_eq (S := S) (Bd.pw h j) h (by omega)
    refine ⟨_, _, ?_, some (.v (iv t)), rfl, rfl⟩
    simp -implicitDefEqProofs [b__law_power_0, o, pw]) ⟨none, rfl, rfl⟩
  subst hI
  rw [List.length_map, nats_len, Nat.zero_add, Nat.sub_zero] at e
  have e' := for_r1 (Γ := g__law_power) (S := S') (tg := .name 3) (a := .var 1) (c := b__law_power_0) (x := n) (m := n) rfl rfl (by omega) e
  simp only [show pw q 0 = 1 from rfl, rv_one] at e'
  simp -implicitDefEqProofs [F__law_power, d__law_power, e', line]
theorem F_power_eq (h : Bd k q) {n : Nat} (hn : n ≤ 1000) (hk : k * n + k + 1 ≤ 12000) : F_power [.v (rv q), I n] S = .ok (.v (rv (pw q n))) S := by
  obtain ⟨ρ', S', e, z, hI, rfl⟩ := forL_inv (f := sTurn (bindG (.name 3)) (evB g_power b_power_0)) (fun i ρ S' => ∃ z, ρ = [some (.v (rv q)), some (I n), some (.v (rv (pw q i))), z] ∧ S' = S) ((nats 0 n).map iv) 0 (ρ := [some (.v (rv q)), some (I n), some (.v (rv (pw q 0))), none]) (S := S) (fun j y ρ S' hy hI => by
    obtain ⟨z, rfl, rfl⟩ := hI
    obtain ⟨t, rfl, ht, hj⟩ := iv_get hy
    rw [Nat.zero_add]
    have hkj : k * j ≤ k * n := Nat.mul_le_mul_left _ (by omega)
    have o := fun S => F_times_eq (S := S) (Bd.pw h j) h (by omega)
    refine ⟨_, _, ?_, some (.v (iv t)), rfl, rfl⟩
    simp -implicitDefEqProofs [b_power_0, o, pw]) ⟨none, rfl, rfl⟩
  subst hI
  rw [List.length_map, nats_len, Nat.zero_add, Nat.sub_zero] at e
  have e' := for_r1 (Γ := g_power) (S := S') (tg := .name 3) (a := .var 1) (c := b_power_0) (x := n) (m := n) rfl rfl (by omega) e
  simp only [show pw q 0 = 1 from rfl, rv_one] at e'
  simp -implicitDefEqProofs [F_power, d_power, e', line]
/-- a row as a tuple or a list -/
def sq (b : Bool) (L : List Rat) : SV := if b = true then .v (.lst (rvs L)) else .v (.tup (rvs L))
theorem seqOf_sq (b : Bool) (L : List Rat) : seqOf S (sq b L) = some (b, rvs L) := by cases b <;> rfl
theorem F_litem_eq (b : Bool) (t : Nat) : F__law_item [sq b L, I t] S = .ok (.v (rv (nth L t))) S := by
  have hs := fun S => seqOf_sq (S := S) b L
  have hl : (rvs L).length = L.length := rvs_len L
  generalize sq b L = x at *
  by_cases h : t < L.length
  · have r := rvs_nth h
    generalize rvs L = Ls at *
    have r' := (List.getElem?_eq_some_iff.mp r).2
    simp -implicitDefEqProofs [F__law_item, d__law_item, hs, hl, h, -ix?, ix_nat, r']
  · rw [nth_ge (by omega), rv_zero]
    generalize rvs L = Ls at *
    simp -implicitDefEqProofs [F__law_item, d__law_item, hs, hl, h, line]
theorem F_item_eq (b : Bool) (t : Nat) : F_item [sq b L, I t] S = .ok (.v (rv (nth L t))) S := by
  have hs := fun S => seqOf_sq (S := S) b L
  have hl : (rvs L).length = L.length := rvs_len L
  generalize sq b L = x at *
  by_cases h : t < L.length
  · have r := rvs_nth h
    generalize rvs L = Ls at *
    have r' := (List.getElem?_eq_some_iff.mp r).2
    simp -implicitDefEqProofs [F_item, d_item, hs, hl, h, -ix?, ix_nat, r']
  · rw [nth_ge (by omega), rv_zero]
    generalize rvs L = Ls at *
    simp -implicitDefEqProofs [F_item, d_item, hs, hl, h, line]
/-! ### where a life does not age -/
def fstV (l : List PV) : PV := l.headD .non
def pRate (L : List Rat) (t : Nat) : Bool := decide (nth (rts L) (t + 1) < nth (rts L) t)
def pAvg (L : List Rat) (t : Nat) : Bool := decide (pw (nth L t) (t + 1) < pw (nth L (t + 1)) t)
def pNew (L : List Rat) (s t : Nat) : Bool := decide (nth L s * nth L t < nth L (s + t))
def pMean (L : List Rat) (t : Nat) : Bool := decide (sumR L * nth L t < sumR (L.drop t))
def naRate (L : List Rat) : PV := fstV (((nats 0 (L.length - 2)).filter (pRate L)).map iv)
def naAvg (L : List Rat) : PV := fstV (((nats 1 L.length).filter (pAvg L)).map iv)
def news (L : List Rat) (s : Nat) : List PV := ((nats s L.length).filter (pNew L s)).map fun t => .tup [iv s, iv t]
def naNew (L : List Rat) : PV := fstV ((nats 1 L.length).flatMap (news L))
def naMean (L : List Rat) : PV := fstV (((nats 0 L.length).filter (pMean L)).map iv)
theorem fst_idx (l : List PV) : (l ++ [PV.non])[0]? = some (fstV l) := by cases l <;> rfl
theorem LifeN.rbd {n : Nat} (h : LifeN n k L) (t : Nat) : Bd (2 * k + 3) (nth (rts L) t) := by
  by_cases ht : t < (rts L).length
  · exact (rate_ok h _ (nth_mem ht)).1
  · rw [nth_ge (by omega)]; exact Bd.zero.mono (by omega)
theorem filt_le {n : Nat} {P : Nat → Bool} {a b : Nat} (h : b ≤ n) (hn : n ≤ 16777216) (g : Nat → PV) : (((nats a b).filter P).map g).length ≤ line := by
  have h1 := List.length_filter_le P (nats a b)
  rw [nats_len] at h1
  rw [List.length_map]
  show _ ≤ 16777216
  omega
theorem F_falling_rate_eq (h : Life 60 L) : F_falling_rate [.v (lv L)] S = .ok (.v (naRate L)) S := by
  obtain ⟨h2, h13⟩ := h.len
  have e0 := fun S => F_rates_of_eq (S := S) h (by decide)
  have hl : (rvs (rts L)).length = L.length - 1 := by rw [rvs_len, rts_len]
  have ec : (ev g_falling_rate c_falling_rate_0).v [some (.v (lv L)), some (.v (.lst (rvs (rts L)))), none, none] S = .ok (.v (.lst (((nats 0 (L.length - 2)).filter (pRate L)).map iv))) S := by
    refine comp_f (c0 := c_falling_rate_0) rfl (nats 0 (L.length - 2)) (pRate L) iv (nats_le (by omega)) (evI_r1 (x := (L.length - 1 : Nat) - 1) (by
      generalize rvs (rts L) = Rs at *
      simp -implicitDefEqProofs [hl]) (by omega) (by omega)) (fun t ht => ?_)
    have htl := (mem_nats.mp ht).2
    have o := F_is_less_eq (S := S) (h.rbd (t + 1)) (h.rbd t) (by omega)
    have r1 := rvs_nth (L := rts L) (t := t) (by rw [rts_len]; omega)
    have r2 := rvs_nth (L := rts L) (t := t + 1) (by rw [rts_len]; omega)
    generalize rvs (rts L) = Rs at *
    have r1 := (List.getElem?_eq_some_iff.mp r1).2
    have r2 := (List.getElem?_eq_some_iff.mp r2).2
    have i1 : t < L.length - 1 := by omega
    have i2 : t + 1 < L.length - 1 := by omega
    unfold pRate
    by_cases hlt : nth (rts L) (t + 1) < nth (rts L) t <;> simp -implicitDefEqProofs [iv, -ix?, ix_nat, ix_nat1, hl, i1, i2, r1, r2, o, hlt]
  unfold naRate
  have hn := noFns_iv ((nats 0 (L.length - 2)).filter (pRate L))
  have hz := eqP_nilR hn
  generalize ((nats 0 (L.length - 2)).filter (pRate L)).map iv = F at *
  simp only [lv] at *
  generalize rvs (rts L) = Rs at *
  generalize rvs L = Ls at *
  cases F with
  | nil => simp -implicitDefEqProofs [F_falling_rate, d_falling_rate, e0, ec, hz, fstV, line]
  | cons x F => simp -implicitDefEqProofs [F_falling_rate, d_falling_rate, e0, ec, hz, fstV, line, -ix?, ix_0]
/-! ### the first one -/
theorem filter_none {a b : Nat} {P : Nat → Bool} (h : ∀ j, a ≤ j → j < b → P j = false) : (nats a b).filter P = [] := by
  rw [List.filter_eq_nil_iff]
  intro j hj
  obtain ⟨h1, h2⟩ := mem_nats.mp hj
  rw [h j h1 h2]
  decide
theorem nats_split {a m b : Nat} (h1 : a ≤ m) (h2 : m ≤ b) : nats a b = nats a m ++ nats m b := by
  unfold nats
  have := List.range'_append (s := a) (m := m - a) (n := b - m) (step := 1)
  rw [Nat.one_mul, show a + (m - a) = m by omega, show m - a + (b - m) = b - a by omega] at this
  exact this.symm
theorem nats_cons {a b : Nat} (h : a < b) : nats a b = a :: nats (a + 1) b := by
  unfold nats
  rw [show b - a = (b - (a + 1)) + 1 by omega, List.range'_succ]
theorem nats_snoc {a b : Nat} (h : a ≤ b) : nats a (b + 1) = nats a b ++ [b] := by
  rw [nats_split h (Nat.le_succ b), nats_cons (Nat.lt_succ_self b)]
  have : nats (b + 1) (b + 1) = [] := by unfold nats; rw [Nat.sub_self]; rfl
  rw [this]
theorem filter_at {a m b : Nat} {P : Nat → Bool} (h1 : a ≤ m) (h2 : m < b) (hm : P m = true) (h : ∀ j, a ≤ j → j < m → P j = false) : ∃ l, (nats a b).filter P = m :: l := by
  rw [nats_split h1 (Nat.le_of_lt h2), List.filter_append, filter_none h, nats_cons h2, List.filter_cons_of_pos hm]
  exact ⟨_, rfl⟩
theorem F_falling_average_eq (h : Life 60 L) : F_falling_average [.v (lv L)] S = .ok (.v (naAvg L)) S := by
  obtain ⟨h2, h13⟩ := h.len
  have hl : (rvs L).length = L.length := rvs_len L
  have fin : (nats 1 L.length).filter (pAvg L) = (nats 1 (L.length - 1)).filter (pAvg L) := by
    rw [nats_split (a := 1) (m := L.length - 1) (b := L.length) (by omega) (by omega), List.filter_append, filter_none (a := L.length - 1), List.append_nil]
    intro j h1 h2
    have e : j = L.length - 1 := by omega
    subst e
    have e1 : nth L (L.length - 1) = 0 := nth_of h.last
    have e2 : nth L (L.length - 1 + 1) = 0 := nth_ge (by omega)
    unfold pAvg
    rw [e1, e2]
    obtain ⟨m, hm⟩ : ∃ m, L.length - 1 = m + 1 := ⟨L.length - 2, by omega⟩
    rw [hm]
    have : pw 0 (m + 1 + 1) = 0 := by show pw 0 (m + 1) * 0 = 0; grind
    have : pw 0 (m + 1) = 0 := by show pw 0 m * 0 = 0; grind
    grind
  have loop := forL_find (f := sTurn (bindG (.name 1)) (evB g_falling_average b_falling_average_0)) (fun i ρ S' => ∃ z, ρ = [some (.v (lv L)), z] ∧ S' = S) (fun j => pAvg L (1 + j)) (fun j v S' => v = .v (iv (1 + j)) ∧ S' = S) ((nats 1 (L.length - 1)).map iv) 0 (ρ := [some (.v (lv L)), none]) (S := S) (fun j y ρ S' hy hI => by
    obtain ⟨z, rfl, rfl⟩ := hI
    obtain ⟨t, rfl, ht, hj⟩ := iv_get hy
    rw [Nat.zero_add, ← ht]
    have b1 := h.bdn t (by decide)
    have b2 := h.bdn (t + 1) (by decide)
    have o1 : ∀ S, F_power [.v (rv (nth L t)), I ((t : Int) + 1)] S = .ok (.v (rv (pw (nth L t) (t + 1)))) S := fun S => F_power_eq (S := S) b1 (n := t + 1) (by omega) (by omega)
    have o2 := fun S => F_power_eq (S := S) b2 (n := t) (by omega) (by omega)
    have o3 := fun S => F_is_less_eq (S := S) (Bd.pw b1 (t + 1)) (Bd.pw b2 t) (by omega)
    have r1 := rvs_nth (L := L) (t := t) (by omega)
    have r2 := rvs_nth (L := L) (t := t + 1) (by omega)
    simp only [lv, iv] at *
    generalize rvs L = Ls at *
    have r1 := (List.getElem?_eq_some_iff.mp r1).2
    have r2 := (List.getElem?_eq_some_iff.mp r2).2
    have i1 : t < L.length := by omega
    have i2 : t + 1 < L.length := by omega
    unfold pAvg
    refine ⟨fun hp => ⟨_, _, ?_, some (I t), rfl, rfl⟩, fun hp => ⟨_, _, ?_, rfl, rfl⟩⟩
    · simp -implicitDefEqProofs [b_falling_average_0, -ix?, ix_nat, ix_nat1, hl, i1, i2, r1, r2, o1, o2, o3, hp]
    · simp -implicitDefEqProofs [b_falling_average_0, -ix?, ix_nat, ix_nat1, hl, i1, i2, r1, r2, o1, o2, o3, hp]) ⟨none, rfl, rfl⟩
  unfold naAvg
  rw [fin]
  have hN : (ev g_falling_average (.bin .sub false (.bi .len false (.cons (.var 0) .nil)) (.k (.int 1)))).v [some (.v (lv L)), none] S = .ok (.v (.int ((L.length : Int) - 1))) S := by
    simp only [lv]
    generalize rvs L = Ls at *
    simp -implicitDefEqProofs [hl]
  simp only [List.length_map, nats_len, Nat.zero_add] at loop
  rcases loop with ⟨ρ', S', e, ⟨z, rfl, rfl⟩, hn⟩ | ⟨j, v, S', hj, hp, hm, e, rfl, rfl⟩
  · rw [filter_none (fun t t1 t2 => by
      have := hn (t - 1) (by omega)
      rwa [show 1 + (t - 1) = t by omega] at this)]
    have e' := for_r2 (Γ := g_falling_average) (S := S') (tg := .name 1) (a := .k (.int 1)) (c := b_falling_average_0) (x := 1) (m := 1) (n := L.length - 1) rfl hN rfl (by omega) (by omega) (by omega) e
    simp -implicitDefEqProofs [F_falling_average, d_falling_average, e', fstV]
  · obtain ⟨l, hl2⟩ := filter_at (a := 1) (m := 1 + j) (b := L.length - 1) (P := pAvg L) (by omega) (by omega) hp (fun t t1 t2 => by
      have := hm (t - 1) (by omega)
      rwa [show 1 + (t - 1) = t by omega] at this)
    rw [hl2]
    have e' := for_r2 (Γ := g_falling_average) (S := S') (tg := .name 1) (a := .k (.int 1)) (c := b_falling_average_0) (x := 1) (m := 1) (n := L.length - 1) rfl hN rfl (by omega) (by omega) (by omega) e
    simp -implicitDefEqProofs [F_falling_average, d_falling_average, e', fstV]
theorem F_total_drop (h : Life 60 L) (t : Nat) : F_total_of [.v (.tup (rvs (L.drop t)))] S = .ok (.v (rv (sumR (L.drop t)))) S := by
  have := F_total_of_eq (S := S) (R := L.drop t) (k := 60) (fun q hq => h.bd q (List.mem_of_mem_drop hq)) (by
    have : (L.drop t).length ≤ 13 := by rw [List.length_drop]; have := h.len.2; omega
    have : 61 * (L.drop t).length ≤ 61 * 13 := Nat.mul_le_mul_left _ this
    omega)
  exact this
theorem Life.bd_drop (h : Life 60 L) (t : Nat) : Bd 800 (sumR (L.drop t)) := by
  refine (Bd.sumR (R := L.drop t) (k := 60) (fun q hq => h.bd q (List.mem_of_mem_drop hq))).mono ?_
  have : (L.drop t).length ≤ 13 := by rw [List.length_drop]; have := h.len.2; omega
  have : 61 * (L.drop t).length ≤ 61 * 13 := Nat.mul_le_mul_left _ this
  omega
theorem Life.bd_sum (h : Life 60 L) : Bd 800 (sumR L) := h.bd_drop 0
theorem F_better_mean_eq (h : Life 60 L) : F_better_mean [.v (lv L)] S = .ok (.v (naMean L)) S := by
  obtain ⟨h2, h13⟩ := h.len
  have hl : (rvs L).length = L.length := rvs_len L
  have e0 := F_total_drop (S := S) h 0
  rw [List.drop_zero] at e0
  have loop := forL_find (f := sTurn (bindG (.name 2)) (evB g_better_mean b_better_mean_0)) (fun i ρ S' => ∃ z, ρ = [some (.v (lv L)), some (.v (rv (sumR L))), z] ∧ S' = S) (pMean L) (fun j v S' => v = .v (iv j) ∧ S' = S) ((nats 0 L.length).map iv) 0 (ρ := [some (.v (lv L)), some (.v (rv (sumR L))), none]) (S := S) (fun j y ρ S' hy hI => by
    obtain ⟨z, rfl, rfl⟩ := hI
    obtain ⟨t, rfl, ht, hj⟩ := iv_get hy
    rw [← ht]
    have b1 := h.bdn t (by decide)
    have o1 := fun S => F_times_eq (S := S) h.bd_sum b1 (by omega)
    have o2 := fun S => F_total_drop (S := S) h t
    have o3 := fun S => F_is_less_eq (S := S) (h.bd_sum.mul b1) (h.bd_drop t) (by omega)
    have r1 := rvs_nth (L := L) (t := t) (by omega)
    have hc := cut_from (xs := rvs L) (t := t) (by rw [rvs_len]; omega)
    rw [rvs_drop] at hc
    have hz : (rvs (L.drop t)).length ≤ 16777216 := by rw [rvs_len, List.length_drop]; omega
    simp only [lv, iv] at *
    generalize rvs (L.drop t) = Lt at *
    generalize rvs L = Ls at *
    have r1 := (List.getElem?_eq_some_iff.mp r1).2
    have i1 : t < L.length := by omega
    unfold pMean
    refine ⟨fun hp => ⟨_, _, ?_, some (I t), rfl, rfl⟩, fun hp => ⟨_, _, ?_, rfl, rfl⟩⟩
    · simp -implicitDefEqProofs [b_better_mean_0, -ix?, ix_nat, hl, i1, r1, o1, hc, o2, o3, hp, line, hz]
    · simp -implicitDefEqProofs [b_better_mean_0, -ix?, ix_nat, hl, i1, r1, o1, hc, o2, o3, hp, line, hz]) ⟨none, rfl, rfl⟩
  unfold naMean
  have hN : (ev g_better_mean (.bi .len false (.cons (.var 0) .nil))).v [some (.v (lv L)), some (.v (rv (sumR L))), none] S = .ok (.v (.int (L.length : Int))) S := by
    simp only [lv]
    generalize rvs L = Ls at *
    simp -implicitDefEqProofs [hl]
  simp only [List.length_map, nats_len, Nat.zero_add, Nat.sub_zero] at loop
  rcases loop with ⟨ρ', S', e, ⟨z, rfl, rfl⟩, hn⟩ | ⟨j, v, S', hj, hp, hm, e, rfl, rfl⟩
  · rw [filter_none (fun t t1 t2 => hn t t2)]
    have e' := for_r1 (Γ := g_better_mean) (S := S') (tg := .name 2) (c := b_better_mean_0) hN rfl (by omega) e
    simp only [lv] at *
    generalize rvs L = Ls at *
    simp -implicitDefEqProofs [F_better_mean, d_better_mean, e0, e', fstV]
  · obtain ⟨l, hl2⟩ := filter_at (a := 0) (m := j) (b := L.length) (P := pMean L) (by omega) (by omega) hp (fun t t1 t2 => hm t t2)
    rw [hl2]
    have e' := for_r1 (Γ := g_better_mean) (S := S') (tg := .name 2) (c := b_better_mean_0) hN rfl (by omega) e
    simp only [lv] at *
    generalize rvs L = Ls at *
    simp -implicitDefEqProofs [F_better_mean, d_better_mean, e0, e', fstV]
end
end FWP

/-! FW: against new; the law's own. -/
namespace FWP
open PySem FW
section
variable {k l : Nat} {L : List Rat} {S : Store}
theorem LifeN.nth_nn {n : Nat} (h : LifeN n k L) (t : Nat) : 0 ≤ nth L t := by
  by_cases ht : t < L.length
  · exact (h.ch _ (nth_mem ht)).1
  · rw [nth_ge (by omega)]; exact Rat.le_refl
theorem new_cut (h : Life k L) (s : Nat) : (nats s L.length).filter (pNew L s) = (nats s (L.length - s)).filter (pNew L s) := by
  have no : ∀ t, L.length - s ≤ t → pNew L s t = false := fun t ht => by
    unfold pNew
    rw [nth_ge (show L.length ≤ s + t by omega)]
    have := Rat.mul_nonneg (h.nth_nn s) (h.nth_nn t)
    exact decide_eq_false (Rat.not_lt.mpr this)
  by_cases hs : s ≤ L.length - s
  · rw [nats_split (a := s) (m := L.length - s) (b := L.length) hs (by omega), List.filter_append, filter_none (a := L.length - s) (fun j h1 _ => no j h1), List.append_nil]
  · rw [filter_none (fun j h1 _ => no j (by omega)), filter_none (fun j h1 h2 => no j (by omega))]
theorem new_inner (h : Life 60 L) {s : Nat} (h1 : 1 ≤ s) (hs : s < L.length) (z : Option SV) :
    ((nats s L.length).filter (pNew L s) = [] ∧ ∃ z', forL (sTurn (bindG (.name 2)) (evB g_better_than_new b_better_than_new_1)) [] ((nats s (L.length - s)).map iv) [some (.v (lv L)), some (I s), z] S = .ok (.next [some (.v (lv L)), some (I s), z']) S) ∨
    (∃ t l, (nats s L.length).filter (pNew L s) = t :: l ∧ forL (sTurn (bindG (.name 2)) (evB g_better_than_new b_better_than_new_1)) [] ((nats s (L.length - s)).map iv) [some (.v (lv L)), some (I s), z] S = .ok (.ret (.v (.tup [iv s, iv t]))) S) := by
  obtain ⟨h2, h13⟩ := h.len
  have hl : (rvs L).length = L.length := rvs_len L
  rw [new_cut h]
  have loop := forL_find (f := sTurn (bindG (.name 2)) (evB g_better_than_new b_better_than_new_1)) (fun i ρ S' => ∃ z, ρ = [some (.v (lv L)), some (I s), z] ∧ S' = S) (fun j => pNew L s (s + j)) (fun j v S' => v = .v (.tup [iv s, iv (s + j)]) ∧ S' = S) ((nats s (L.length - s)).map iv) 0 (ρ := [some (.v (lv L)), some (I s), z]) (S := S) (fun j y ρ S' hy hI => by
    obtain ⟨z, rfl, rfl⟩ := hI
    obtain ⟨t, rfl, ht, hj⟩ := iv_get hy
    rw [Nat.zero_add, ← ht]
    have b1 := h.bdn s (by decide)
    have b2 := h.bdn t (by decide)
    have b3 := h.bdn (s + t) (by decide)
    have o1 := fun S => F_times_eq (S := S) b1 b2 (by omega)
    have o3 := fun S => F_is_less_eq (S := S) (b1.mul b2) b3 (by omega)
    have r1 := rvs_nth (L := L) (t := s) (by omega)
    have r2 := rvs_nth (L := L) (t := t) (by omega)
    have r3 := rvs_nth (L := L) (t := s + t) (by omega)
    simp only [lv, iv] at *
    generalize rvs L = Ls at *
    have r1 := (List.getElem?_eq_some_iff.mp r1).2
    have r2 := (List.getElem?_eq_some_iff.mp r2).2
    have r3 := (List.getElem?_eq_some_iff.mp r3).2
    have i2 : t < L.length := by omega
    have i3 : s + t < L.length := by omega
    unfold pNew
    refine ⟨fun hp => ⟨_, _, ?_, some (I t), rfl, rfl⟩, fun hp => ⟨_, _, ?_, rfl, rfl⟩⟩
    · simp -implicitDefEqProofs [b_better_than_new_1, -ix?, ix_nat, ix_add, hl, hs, i2, i3, r1, r2, r3, o1, o3, hp]
    · simp -implicitDefEqProofs [b_better_than_new_1, -ix?, ix_nat, ix_add, hl, hs, i2, i3, r1, r2, r3, o1, o3, hp, line]) ⟨z, rfl, rfl⟩
  simp only [List.length_map, nats_len, Nat.zero_add] at loop
  rcases loop with ⟨ρ', S', e, ⟨z, rfl, rfl⟩, hn⟩ | ⟨j, v, S', hj, hp, hm, e, rfl, rfl⟩
  · refine .inl ⟨filter_none (fun t t1 t2 => ?_), z, e⟩
    have := hn (t - s) (by omega)
    rwa [show s + (t - s) = t by omega] at this
  · obtain ⟨l, hl2⟩ := filter_at (a := s) (m := s + j) (b := L.length - s) (P := pNew L s) (by omega) (by omega) hp (fun t t1 t2 => by
      have := hm (t - s) (by omega)
      rwa [show s + (t - s) = t by omega] at this)
    exact .inr ⟨s + j, l, hl2, e⟩
theorem flat_none {f : Nat → List PV} {a b : Nat} (h : ∀ j, a ≤ j → j < b → f j = []) : (nats a b).flatMap f = [] := by
  rw [List.flatMap_eq_nil_iff]
  intro j hj
  obtain ⟨h1, h2⟩ := mem_nats.mp hj
  exact h j h1 h2
theorem flat_at {f : Nat → List PV} {a m b : Nat} {x : PV} {l : List PV} (h1 : a ≤ m) (h2 : m < b) (hm : f m = x :: l) (h : ∀ j, a ≤ j → j < m → f j = []) : ∃ l', (nats a b).flatMap f = x :: l' := by
  rw [nats_split h1 (Nat.le_of_lt h2), List.flatMap_append, flat_none h, nats_cons h2, List.flatMap_cons, hm]
  exact ⟨_, rfl⟩
theorem F_better_than_new_eq (h : Life 60 L) : F_better_than_new [.v (lv L)] S = .ok (.v (naNew L)) S := by
  obtain ⟨h2, h13⟩ := h.len
  have hl : (rvs L).length = L.length := rvs_len L
  have loop := forL_find (f := sTurn (bindG (.name 1)) (evB g_better_than_new b_better_than_new_0)) (fun i ρ S' => ∃ z z', ρ = [some (.v (lv L)), z, z'] ∧ S' = S) (fun j => !((nats (1 + j) L.length).filter (pNew L (1 + j))).isEmpty) (fun j v S' => (∃ t l, (nats (1 + j) L.length).filter (pNew L (1 + j)) = t :: l ∧ v = .v (.tup [iv (1 + j), iv t])) ∧ S' = S) ((nats 1 L.length).map iv) 0 (ρ := [some (.v (lv L)), none, none]) (S := S) (fun j y ρ S' hy hI => by
    obtain ⟨z, z', rfl, rfl⟩ := hI
    obtain ⟨s, rfl, ht, hj⟩ := iv_get hy
    rw [Nat.zero_add, ← ht]
    have hN : (ev g_better_than_new (.bin .sub false (.bi .len false (.cons (.var 0) .nil)) (.var 1))).v [some (.v (lv L)), some (I s), z'] S' = .ok (.v (.int ((L.length : Int) - s))) S' := by
      simp only [lv]
      generalize rvs L = Ls at *
      simp -implicitDefEqProofs [hl]
    rcases new_inner (S := S') h (by omega) hj z' with ⟨hf, z2, e⟩ | ⟨t, l, hf, e⟩
    · by_cases hs : s ≤ L.length
      · refine ⟨fun hp => ⟨_, _, ?_, some (I s), z2, rfl, rfl⟩, fun hp => ?_⟩
        · have e' := for_r2 (Γ := g_better_than_new) (S := S') (tg := .name 2) (a := .var 1) (c := b_better_than_new_1) (x := s) (m := s) (n := L.length - s) rfl hN rfl (by omega) (by omega) (by omega) e
          simp -implicitDefEqProofs [b_better_than_new_0, iv, e']
        · rw [hf] at hp; cases hp
      · omega
    · refine ⟨fun hp => ?_, fun hp => ⟨_, _, ?_, ⟨t, l, hf, rfl⟩, rfl⟩⟩
      · rw [hf] at hp; cases hp
      · have e' := for_r2 (Γ := g_better_than_new) (S := S') (tg := .name 2) (a := .var 1) (c := b_better_than_new_1) (x := s) (m := s) (n := L.length - s) rfl hN rfl (by omega) (by omega) (by omega) e
        simp -implicitDefEqProofs [b_better_than_new_0, iv, e']) ⟨none, none, rfl, rfl⟩
  simp only [List.length_map, nats_len, Nat.zero_add] at loop
  have hN : (ev g_better_than_new (.bi .len false (.cons (.var 0) .nil))).v [some (.v (lv L)), none, none] S = .ok (.v (.int (L.length : Int))) S := by
    simp only [lv]
    generalize rvs L = Ls at *
    simp -implicitDefEqProofs [hl]
  have isE : ∀ (x : List Nat), (!x.isEmpty) = false → x = [] := fun x hx => by cases x <;> simp_all
  unfold naNew
  rcases loop with ⟨ρ', S', e, ⟨z, z', rfl, rfl⟩, hn⟩ | ⟨j, v, S', hj, hp, hm, e, ⟨t, l, hf, rfl⟩, rfl⟩
  · rw [flat_none (fun s s1 s2 => by
      have := isE _ (hn (s - 1) (by omega))
      rw [show 1 + (s - 1) = s by omega] at this
      unfold news
      rw [this]
      rfl)]
    have e' := for_r2 (Γ := g_better_than_new) (S := S') (tg := .name 1) (a := .k (.int 1)) (c := b_better_than_new_0) (x := 1) (m := 1) (n := L.length) rfl hN rfl rfl (by omega) (by omega) e
    simp -implicitDefEqProofs [F_better_than_new, d_better_than_new, e', fstV]
  · obtain ⟨l', hl2⟩ := flat_at (f := news L) (a := 1) (m := 1 + j) (b := L.length) (x := .tup [iv (1 + j), iv t]) (l := l.map fun t => .tup [iv (1 + j), iv t]) (by omega) (by omega) (by unfold news; rw [hf]; rfl) (fun s s1 s2 => by
      have := isE _ (hm (s - 1) (by omega))
      rw [show 1 + (s - 1) = s by omega] at this
      unfold news
      rw [this]
      rfl)
    rw [hl2]
    have e' := for_r2 (Γ := g_better_than_new) (S := S') (tg := .name 1) (a := .k (.int 1)) (c := b_better_than_new_0) (x := 1) (m := 1) (n := L.length) rfl hN rfl rfl (by omega) (by omega) e
    simp -implicitDefEqProofs [F_better_than_new, d_better_than_new, e', fstV]
theorem F_not_ageing_eq (h : Life 60 L) : F_not_ageing [.v (lv L), .v (.str "rates")] S = .ok (.v (naRate L)) S ∧ F_not_ageing [.v (lv L), .v (.str "average")] S = .ok (.v (naAvg L)) S ∧
    F_not_ageing [.v (lv L), .v (.str "new")] S = .ok (.v (naNew L)) S ∧ F_not_ageing [.v (lv L), .v (.str "mean")] S = .ok (.v (naMean L)) S := by
  have e0 := fun S => F_need_life_eq (S := S) h (by decide)
  have e1 := fun S => F_falling_rate_eq (S := S) h
  have e2 := fun S => F_falling_average_eq (S := S) h
  have e3 := fun S => F_better_than_new_eq (S := S) h
  have e4 := fun S => F_better_mean_eq (S := S) h
  have m : ∀ w, w ∈ ["rates", "average", "new", "mean"] → anyEq (.str (Str.ofString w)) [.str "rates", .str "average", .str "new", .str "mean"] = some true := by decide +kernel
  have m1 := m "rates" (by simp)
  have m2 := m "average" (by simp)
  have m3 := m "new" (by simp)
  have m4 := m "mean" (by simp)
  have x1 : indexOp (.v (.tup [.str "rates", .str "average", .str "new", .str "mean"])) (.v (.str "rates")) S = .ok (.v (.int 0)) S := rfl
  have x2 : indexOp (.v (.tup [.str "rates", .str "average", .str "new", .str "mean"])) (.v (.str "average")) S = .ok (.v (.int 1)) S := rfl
  have x3 : indexOp (.v (.tup [.str "rates", .str "average", .str "new", .str "mean"])) (.v (.str "new")) S = .ok (.v (.int 2)) S := rfl
  have x4 : indexOp (.v (.tup [.str "rates", .str "average", .str "new", .str "mean"])) (.v (.str "mean")) S = .ok (.v (.int 3)) S := rfl
  have i3 : ix? 4 3 = some 3 := rfl
  refine ⟨?_, ?_, ?_, ?_⟩
  · simp -implicitDefEqProofs [F_not_ageing, d_not_ageing, e0, m1, x1, sIndexG, -ix?, ix_0, e1, line]
  · simp -implicitDefEqProofs [F_not_ageing, d_not_ageing, e0, m2, x2, sIndexG, -ix?, ix_1, e2, line]
  · simp -implicitDefEqProofs [F_not_ageing, d_not_ageing, e0, m3, x3, sIndexG, -ix?, ix_2, e3, line]
  · simp -implicitDefEqProofs [F_not_ageing, d_not_ageing, e0, m4, x4, sIndexG, -ix?, i3, e4, line]
def isN (x : PV) : Bool := match x with
  | .non => true
  | _ => false
theorem isNonS_v (x : PV) : isNonS (.v x) = isN x := by cases x <;> rfl
def agesV (L : List Rat) : PV := .tup [.bl (isN (naRate L)), .bl (isN (naAvg L)), .bl (isN (naNew L)), .bl (isN (naMean L))]
theorem F_ages_eq (h : Life 60 L) : F_ages [.v (lv L)] S = .ok (.v (agesV L)) S := by
  have e0 := fun S => F_need_life_eq (S := S) h (by decide)
  have e1 := fun S => F_falling_rate_eq (S := S) h
  have e2 := fun S => F_falling_average_eq (S := S) h
  have e3 := fun S => F_better_than_new_eq (S := S) h
  have e4 := fun S => F_better_mean_eq (S := S) h
  have ec : (ev g_ages c_ages_0).v [some (.v (lv L)), none] S = .ok (.v (.lst [.bl (isN (naRate L)), .bl (isN (naAvg L)), .bl (isN (naNew L)), .bl (isN (naMean L))])) S := by
    refine comp_fm (c0 := c_ages_0) rfl [((.fn "falling_rate" : PV), naRate L), (.fn "falling_average", naAvg L), (.fn "better_than_new", naNew L), (.fn "better_mean", naMean L)] (x := Prod.fst) (fun x => .bl (isN x.2)) (by show 4 ≤ 16777216; decide) (by simp [line]) (fun x hx => ?_)
    simp only [List.mem_cons, List.not_mem_nil, or_false] at hx
    rcases hx with rfl | rfl | rfl | rfl <;> simp -implicitDefEqProofs [e1, e2, e3, e4, isNonS_v, -isNonS]
  simp -implicitDefEqProofs [F_ages, d_ages, e0, ec, line, agesV]
end
end FWP

/-! FW: the law's own kinds of ageing. -/
namespace FWP
open PySem FW
section
variable {k l : Nat} {L : List Rat} {S : Store}
/-- the end: the first one found, or None -/
theorem fst_get (F : List PV) (h : 0 < (F ++ [PV.non]).length) : (F ++ [PV.non])[0]'h = fstV F := (List.getElem?_eq_some_iff.mp (fst_idx F)).2
theorem filt_len {n : Nat} {P : Nat → Bool} {a b : Nat} (h : b ≤ n) (hn : n ≤ 1000000) (g : Nat → PV) : (((nats a b).filter P).map g).length ≤ 1000000 := by
  have h1 := List.length_filter_le P (nats a b)
  rw [nats_len] at h1
  rw [List.length_map]; omega
theorem F_lnaN_rate_eq {n : Nat} (h : LifeN n k L) (hn : n ≤ 100) (hk : k ≤ 1000) (hkn : 1 + (k + 1) * n ≤ 10000) : F__law_not_ageing [.v (lv L), .v (.str "rates")] S = .ok (.v (naRate L)) S := by
  obtain ⟨h2, h13⟩ := h.len
  have e0 := fun S => F_lrates_eq (S := S) h (by omega) (by omega)
  have hs := fun S => F_lsum_eq (S := S) (R := L) (x := .v (lv L)) (.inl rfl) h.bd (by have : (k + 1) * L.length ≤ (k + 1) * n := Nat.mul_le_mul_left _ h13; omega)
  have hl : (rvs (rts L)).length = L.length - 1 := by rw [rvs_len, rts_len]
  have hlL : (rvs L).length = L.length := rvs_len L
  have ec : (ev g__law_not_ageing c__law_not_ageing_0).v [some (.v (lv L)), some (.v (.str "rates")), some (I L.length), some (.v (rv (sumR L))), some (.v (.lst (rvs (rts L)))), none, none, none] S = .ok (.l S.length) (S ++ [.lst (((nats 0 (L.length - 2)).filter (pRate L)).map iv)]) := by
    refine comp_t (c0 := c__law_not_ageing_0) rfl (nats 0 (L.length - 2)) (pRate L) iv (nats_le (by omega)) (evI_r1 (x := (L.length - 1 : Nat) - 1) (by
      generalize rvs (rts L) = Rs at *
      simp -implicitDefEqProofs [hl]) (by omega) (by omega)) (fun t ht => ?_)
    have htl := (mem_nats.mp ht).2
    have o := F_less_eq (S := S) (h.rbd (t + 1)) (h.rbd t) (by omega)
    have r1 := rvs_nth (L := rts L) (t := t) (by rw [rts_len]; omega)
    have r2 := rvs_nth (L := rts L) (t := t + 1) (by rw [rts_len]; omega)
    generalize rvs (rts L) = Rs at *
    have r1 := (List.getElem?_eq_some_iff.mp r1).2
    have r2 := (List.getElem?_eq_some_iff.mp r2).2
    have i1 : t < L.length - 1 := by omega
    have i2 : t + 1 < L.length - 1 := by omega
    unfold pRate
    by_cases hlt : nth (rts L) (t + 1) < nth (rts L) t <;> simp -implicitDefEqProofs [iv, -ix?, ix_nat, ix_nat1, hl, i1, i2, r1, r2, o, hlt]
  have hF := filt_len (n := 100) (P := pRate L) (a := 0) (b := L.length - 2) (by omega) (by decide) iv
  unfold naRate
  generalize ((nats 0 (L.length - 2)).filter (pRate L)).map iv = F at *
  simp only [lv] at *
  generalize rvs (rts L) = Rs at *
  generalize rvs L = Ls at *
  have q1 : eqP (.str "rates") (.str "rates") = some true := rfl
  have hq := seqOf_l (at_new S (.lst F))
  have hz : F.length ≤ 16777215 := by omega
  simp -implicitDefEqProofs [F__law_not_ageing, d__law_not_ageing, e0, ec, hs, hlL, q1, hq, line, hz, -ix?, ix_0, fst_get]
theorem F_lna_rate_eq (h : Life 60 L) : F__law_not_ageing [.v (lv L), .v (.str "rates")] S = .ok (.v (naRate L)) S := F_lnaN_rate_eq h (by decide) (by decide) (by decide)
theorem F_lna_avg_eq (h : Life 60 L) : F__law_not_ageing [.v (lv L), .v (.str "average")] S = .ok (.v (naAvg L)) S := by
  obtain ⟨h2, h13⟩ := h.len
  have hs := fun S => F_lsum_eq (S := S) (R := L) (x := .v (lv L)) (.inl rfl) h.bd (by have : 61 * L.length ≤ 61 * 13 := Nat.mul_le_mul_left _ h13; omega)
  have hlL : (rvs L).length = L.length := rvs_len L
  have ec : (ev g__law_not_ageing c__law_not_ageing_1).v [some (.v (lv L)), some (.v (.str "average")), some (I L.length), some (.v (rv (sumR L))), none, none, none, none] S = .ok (.l S.length) (S ++ [.lst (((nats 1 L.length).filter (pAvg L)).map iv)]) := by
    refine comp_t (c0 := c__law_not_ageing_1) rfl (nats 1 L.length) (pAvg L) iv (nats_le (by omega)) (evI_r2 (x := 1) (y := L.length) rfl rfl rfl rfl (by omega) (by omega)) (fun t ht => ?_)
    have htl := (mem_nats.mp ht).2
    have b1 := h.bdn t (by decide)
    have b2 := h.bdn (t + 1) (by decide)
    have o1 : ∀ S, F__law_power [.v (rv (nth L t)), I ((t : Int) + 1)] S = .ok (.v (rv (pw (nth L t) (t + 1)))) S := fun S => F_lpower_eq (S := S) b1 (n := t + 1) (by omega) (by omega)
    have o2 := fun S => F_lpower_eq (S := S) b2 (n := t) (by omega) (by omega)
    have o3 := fun S => F_less_eq (S := S) (Bd.pw b1 (t + 1)) (Bd.pw b2 t) (by omega)
    have o4 : ∀ S, F__law_item [.v (lv L), I ((t : Int) + 1)] S = .ok (.v (rv (nth L (t + 1)))) S := fun S => F_litem_eq (S := S) false (t + 1)
    have r1 := rvs_nth htl
    simp only [lv] at *
    generalize rvs L = Ls at *
    have r1 := (List.getElem?_eq_some_iff.mp r1).2
    unfold pAvg
    by_cases hlt : pw (nth L t) (t + 1) < pw (nth L (t + 1)) t <;> simp -implicitDefEqProofs [iv, -ix?, ix_nat, hlL, htl, r1, o1, o2, o3, o4, hlt]
  have hF := filt_len (n := 13) (P := pAvg L) (a := 1) (b := L.length) (by omega) (by decide) iv
  unfold naAvg
  generalize ((nats 1 L.length).filter (pAvg L)).map iv = F at *
  simp only [lv] at *
  generalize rvs L = Ls at *
  have q1 : eqP (.str "average") (.str "rates") = some false := by decide +kernel
  have q2 : eqP (.str "average") (.str "average") = some true := by decide +kernel
  have hq := seqOf_l (at_new S (.lst F))
  have hz : F.length ≤ 16777215 := by omega
  simp -implicitDefEqProofs [F__law_not_ageing, d__law_not_ageing, ec, hs, hlL, q1, q2, -eqP_str, hq, line, hz, -ix?, ix_0, fst_get]
theorem F_lna_mean_eq (h : Life 60 L) : F__law_not_ageing [.v (lv L), .v (.str "mean")] S = .ok (.v (naMean L)) S := by
  obtain ⟨h2, h13⟩ := h.len
  have hs := fun S => F_lsum_eq (S := S) (R := L) (x := .v (lv L)) (.inl rfl) h.bd (by have : 61 * L.length ≤ 61 * 13 := Nat.mul_le_mul_left _ h13; omega)
  have hlL : (rvs L).length = L.length := rvs_len L
  have ec : (ev g__law_not_ageing c__law_not_ageing_2).v [some (.v (lv L)), some (.v (.str "mean")), some (I L.length), some (.v (rv (sumR L))), none, none, none, none] S = .ok (.l S.length) (S ++ [.lst (((nats 0 L.length).filter (pMean L)).map iv)]) := by
    refine comp_t (c0 := c__law_not_ageing_2) rfl (nats 0 L.length) (pMean L) iv (nats_le (by omega)) (evI_r1 (x := L.length) rfl rfl (by omega)) (fun t ht => ?_)
    have htl := (mem_nats.mp ht).2
    have b1 := h.bdn t (by decide)
    have o1 := fun S => F_ltimes_eq (S := S) h.bd_sum b1 (by omega)
    have o2 := fun S => F_lsum_eq (S := S) (R := L.drop t) (x := .v (.tup (rvs (L.drop t)))) (.inl rfl) (fun q hq => h.bd q (List.mem_of_mem_drop hq)) (by
      have : (L.drop t).length ≤ 13 := by rw [List.length_drop]; omega
      have : 61 * (L.drop t).length ≤ 61 * 13 := Nat.mul_le_mul_left _ this
      omega)
    have o3 := fun S => F_less_eq (S := S) (h.bd_sum.mul b1) (h.bd_drop t) (by omega)
    have r1 := rvs_nth htl
    have hc := cut_from (xs := rvs L) (t := t) (by rw [rvs_len]; omega)
    rw [rvs_drop] at hc
    have hz : (rvs (L.drop t)).length ≤ 16777216 := by rw [rvs_len, List.length_drop]; omega
    simp only [lv] at *
    generalize rvs (L.drop t) = Lt at *
    generalize rvs L = Ls at *
    have r1 := (List.getElem?_eq_some_iff.mp r1).2
    unfold pMean
    by_cases hlt : sumR L * nth L t < sumR (L.drop t) <;> simp -implicitDefEqProofs [iv, -ix?, ix_nat, hlL, htl, r1, o1, o2, o3, hc, hz, line, hlt]
  have hF := filt_len (n := 13) (P := pMean L) (a := 0) (b := L.length) (by omega) (by decide) iv
  unfold naMean
  generalize ((nats 0 L.length).filter (pMean L)).map iv = F at *
  simp only [lv] at *
  generalize rvs L = Ls at *
  have q1 : eqP (.str "mean") (.str "rates") = some false := by decide +kernel
  have q2 : eqP (.str "mean") (.str "average") = some false := by decide +kernel
  have q3 : eqP (.str "mean") (.str "new") = some false := by decide +kernel
  have hq := seqOf_l (at_new S (.lst F))
  have hz : F.length ≤ 16777215 := by omega
  simp -implicitDefEqProofs [F__law_not_ageing, d__law_not_ageing, ec, hs, hlL, q1, q2, q3, -eqP_str, hq, line, hz, -ix?, ix_0, fst_get]
theorem lnew_inner (h : Life 60 L) {s : Nat} (hs : s < L.length) {w1 w3 w4 : Option SV} (P : List PV) (hP : P.length ≤ 1000) (z : Option SV) : ∃ z', forL (sTurn (bindG (.name 6)) (evB g__law_not_ageing b__law_not_ageing_1)) [] ((nats s L.length).map iv) [some (.v (lv L)), w1, some (I L.length), w3, w4, some (.l S.length), z, some (I s)] (S ++ [.lst P]) =
    .ok (.next [some (.v (lv L)), w1, some (I L.length), w3, w4, some (.l S.length), z', some (I s)]) (S ++ [.lst (P ++ news L s)]) := by
  obtain ⟨h2, h13⟩ := h.len
  have hl : (rvs L).length = L.length := rvs_len L
  obtain ⟨ρ', S', e, z', rfl, rfl⟩ := forL_inv (f := sTurn (bindG (.name 6)) (evB g__law_not_ageing b__law_not_ageing_1)) (fun i ρ S' => ∃ z, ρ = [some (.v (lv L)), w1, some (I L.length), w3, w4, some (.l S.length), z, some (I s)] ∧ S' = S ++ [.lst (P ++ ((nats s (s + i)).filter (pNew L s)).map fun t => .tup [iv s, iv t])]) ((nats s L.length).map iv) 0 (ρ := [some (.v (lv L)), w1, some (I L.length), w3, w4, some (.l S.length), z, some (I s)]) (S := S ++ [.lst P]) (fun j y ρ S' hy hI => by
    obtain ⟨z, rfl, rfl⟩ := hI
    obtain ⟨t, rfl, ht, hj⟩ := iv_get hy
    rw [Nat.zero_add]
    have b1 := h.bdn s (by decide)
    have b2 := h.bdn t (by decide)
    have b3 := h.bdn (s + t) (by decide)
    have o1 := fun S => F_ltimes_eq (S := S) b1 b2 (by omega)
    have o3 := fun S => F_less_eq (S := S) (b1.mul b2) b3 (by omega)
    have o4 : ∀ S, F__law_item [.v (lv L), I ((s : Int) + (t : Int))] S = .ok (.v (rv (nth L (s + t)))) S := fun S => F_litem_eq (S := S) false (s + t)
    have r1 := rvs_nth hs
    have r2 := rvs_nth hj
    have step : ((nats s (s + (j + 1))).filter (pNew L s)).map (fun t => PV.tup [iv s, iv t]) = ((nats s (s + j)).filter (pNew L s)).map (fun t => PV.tup [iv s, iv t]) ++ (if pNew L s t = true then [.tup [iv s, iv t]] else []) := by
      rw [← Nat.add_assoc, nats_snoc (by omega), ← ht, List.filter_append, List.map_append]
      by_cases hp : pNew L s t = true <;> simp [hp]
    rw [step]
    have hQ : ((nats s (s + j)).filter (pNew L s)).length ≤ 1000 := by
      have h1 := List.length_filter_le (pNew L s) (nats s (s + j))
      rw [nats_len] at h1
      omega
    have hQ2 : (P ++ ((nats s (s + j)).filter (pNew L s)).map (fun t => PV.tup [iv s, iv t])).length < 16777216 := by
      rw [List.length_append, List.length_map]; omega
    rw [← List.append_assoc]
    generalize P ++ ((nats s (s + j)).filter (pNew L s)).map (fun t => PV.tup [iv s, iv t]) = Q at *
    simp only [lv, iv] at *
    generalize rvs L = Ls at *
    have r1 := (List.getElem?_eq_some_iff.mp r1).2
    have r2 := (List.getElem?_eq_some_iff.mp r2).2
    have ha := isLst_l (at_new S (.lst Q))
    refine ⟨_, _, ?_, some (I t), rfl, rfl⟩
    unfold pNew
    by_cases hlt : nth L s * nth L t < nth L (s + t)
    · simp -implicitDefEqProofs [b__law_not_ageing_1, -ix?, ix_nat, hl, hs, hj, r1, r2, o1, o3, o4, hlt, ha, at_new, set_new, line, hQ2]
    · simp -implicitDefEqProofs [b__law_not_ageing_1, -ix?, ix_nat, hl, hs, hj, r1, r2, o1, o3, o4, hlt]) ⟨z, rfl, by
      have : nats s (s + 0) = [] := by unfold nats; rw [show s + 0 - s = 0 by omega]; rfl
      rw [this]; simp⟩
  rw [List.length_map, nats_len, Nat.zero_add, show s + (L.length - s) = L.length by omega] at e
  exact ⟨z', e⟩
theorem news_len (L : List Rat) (s : Nat) : (news L s).length ≤ L.length := by
  unfold news
  have h1 := List.length_filter_le (pNew L s) (nats s L.length)
  rw [nats_len] at h1
  rw [List.length_map]
  omega
theorem flat_len (hL : L.length ≤ 13) : ∀ (m a : Nat), m ≤ 13 → ((List.range' a m).flatMap (news L)).length ≤ 13 * m
  | 0, a, _ => by simp
  | m + 1, a, hm => by
    rw [List.range'_succ, List.flatMap_cons, List.length_append]
    have := flat_len hL m (a + 1) (by omega)
    have := news_len L a
    omega
theorem F_lna_new_eq (h : Life 60 L) : F__law_not_ageing [.v (lv L), .v (.str "new")] S = .ok (.v (naNew L)) S := by
  obtain ⟨h2, h13⟩ := h.len
  have hs := fun S => F_lsum_eq (S := S) (R := L) (x := .v (lv L)) (.inl rfl) h.bd (by have : 61 * L.length ≤ 61 * 13 := Nat.mul_le_mul_left _ h13; omega)
  have hlL : (rvs L).length = L.length := rvs_len L
  obtain ⟨ρ', S', e, z, z', rfl, rfl⟩ := forL_inv (f := sTurn (bindG (.name 7)) (evB g__law_not_ageing b__law_not_ageing_0)) (fun i ρ S' => ∃ z z', ρ = [some (.v (lv L)), some (.v (.str "new")), some (I L.length), some (.v (rv (sumR L))), none, some (.l S.length), z, z'] ∧ S' = S ++ [.lst ((nats 1 (1 + i)).flatMap (news L))]) ((nats 1 L.length).map iv) 0 (ρ := [some (.v (lv L)), some (.v (.str "new")), some (I L.length), some (.v (rv (sumR L))), none, some (.l S.length), none, none]) (S := S ++ [.lst []]) (fun j y ρ S' hy hI => by
    obtain ⟨z, z', rfl, rfl⟩ := hI
    obtain ⟨s, rfl, ht, hj⟩ := iv_get hy
    rw [Nat.zero_add]
    have hP : ((nats 1 (1 + j)).flatMap (news L)).length ≤ 1000 := by
      have := flat_len (L := L) h13 (1 + j - 1) 1 (by omega)
      unfold nats
      omega
    have step : (nats 1 (1 + (j + 1))).flatMap (news L) = (nats 1 (1 + j)).flatMap (news L) ++ news L s := by
      rw [← Nat.add_assoc, nats_snoc (by omega), ← ht, List.flatMap_append]
      simp
    rw [step]
    generalize (nats 1 (1 + j)).flatMap (news L) = P at *
    obtain ⟨z2, e⟩ := lnew_inner (S := S) h (s := s) (by omega) (w1 := some (.v (.str "new"))) (w3 := some (.v (rv (sumR L)))) (w4 := none) P hP z
    have e' := for_r2 (Γ := g__law_not_ageing) (S := S ++ [.lst P]) (tg := .name 6) (a := .var 7) (b := .var 2) (c := b__law_not_ageing_1) (x := s) (m := s) (y := L.length) (n := L.length) rfl rfl rfl rfl (by omega) (by omega) e
    refine ⟨_, _, ?_, z2, some (I s), rfl, rfl⟩
    simp -implicitDefEqProofs [b__law_not_ageing_0, iv, e']) ⟨none, none, rfl, rfl⟩
  rw [List.length_map, nats_len, Nat.zero_add, show 1 + (L.length - 1) = L.length by omega] at e
  have hF : ((nats 1 L.length).flatMap (news L)).length ≤ 1000 := by
    have := flat_len (L := L) h13 (L.length - 1) 1 (by omega)
    unfold nats
    omega
  unfold naNew
  generalize (nats 1 L.length).flatMap (news L) = F at *
  have e' := for_r2 (Γ := g__law_not_ageing) (S := S ++ [.lst []]) (tg := .name 7) (a := .k (.int 1)) (b := .var 2) (c := b__law_not_ageing_0) (x := 1) (m := 1) (y := L.length) (n := L.length) rfl rfl rfl rfl (by omega) (by omega) e
  simp only [lv] at *
  generalize rvs L = Ls at *
  have q1 : eqP (.str "new") (.str "rates") = some false := by decide +kernel
  have q2 : eqP (.str "new") (.str "average") = some false := by decide +kernel
  have q3 : eqP (.str "new") (.str "new") = some true := by decide +kernel
  have hq := seqOf_l (at_new S (.lst F))
  have hz : F.length ≤ 16777215 := by omega
  simp -implicitDefEqProofs [F__law_not_ageing, d__law_not_ageing, e', hs, hlL, q1, q2, q3, -eqP_str, hq, line, hz, -ix?, ix_0, fst_get]
end
end FWP

/-! FW: below by chance; what the kinds of ageing mean. -/
namespace FWP
open PySem FW
section
variable {k l : Nat} {A B L : List Rat} {S : Store}
def belowC (A B : List Rat) : Bool := (nats 0 A.length).all fun t => !decide (nth B t < nth A t)
theorem belowC_iff : belowC A B = true ↔ ∀ t, t < A.length → nth A t ≤ nth B t := by
  unfold belowC
  rw [List.all_eq_true]
  constructor
  · intro h t ht
    have := h t (mem_nats.mpr ⟨Nat.zero_le _, ht⟩)
    simp at this
    exact Rat.not_lt.mp this
  · intro h t ht
    have := h t (mem_nats.mp ht).2
    simp
    exact Rat.not_lt.mpr this
theorem F_below_chance_eq (hA : Life k A) (hB : Life l B) (hk : 1 ≤ k) (hl : 1 ≤ l) (hkl : k + l ≤ 2000) : F_is_below_ag [.v (lv A), .v (lv B), .v (.str "chance")] S = .ok (.v (.bl (belowC A B))) S := by
  have e0 := fun S => F_need_life_eq (S := S) hA (by omega)
  have e1 := fun S => F_need_life_eq (S := S) hB (by omega)
  have h13 := hA.len.2
  have hlA : (rvs A).length = A.length := rvs_len A
  have ec : ∀ S, (ev g_below_by c_below_by_0).v [some (.v (lv A)), some (.v (lv B)), some (.v (.str "chance")), none] S = .ok (.v (.lst (((nats 0 A.length).filter fun t => decide (nth B t < nth A t)).map iv))) S := fun S => by
    refine comp_f (c0 := c_below_by_0) rfl (nats 0 A.length) (fun t => decide (nth B t < nth A t)) iv (nats_le (by omega)) (evI_r1 (x := A.length) (by
      simp only [lv]
      generalize rvs A = As at *
      simp -implicitDefEqProofs [hlA]) rfl (by omega)) (fun t ht => ?_)
    have htl := (mem_nats.mp ht).2
    have o1 : ∀ S, F_item [.v (lv B), I (t : Int)] S = .ok (.v (rv (nth B t))) S := fun S => F_item_eq (S := S) false t
    have o := F_is_less_eq (S := S) (hB.bdn t hl) (hA.bdn t hk) (by omega)
    have r1 := rvs_nth htl
    simp only [lv] at *
    generalize rvs A = As at *
    have r1 := (List.getElem?_eq_some_iff.mp r1).2
    by_cases hlt : nth B t < nth A t <;> simp -implicitDefEqProofs [iv, -ix?, ix_nat, hlA, htl, r1, o1, o, hlt]
  have ez := eqP_nilR (noFns_iv ((nats 0 A.length).filter fun t => decide (nth B t < nth A t)))
  rw [isEmpty_filter] at ez
  have q1 : eqP (.str "chance") (.str "chance") = some true := by decide +kernel
  have q2 : anyEq (.str "chance") [.str "chance", .str "rates", .str "odds"] = some true := by decide +kernel
  have eb : ∀ S, F_below_by [.v (lv A), .v (lv B), .v (.str "chance")] S = .ok (.v (.bl (belowC A B))) S := fun S => by
    unfold belowC
    generalize ((nats 0 A.length).filter fun t => decide (nth B t < nth A t)).map iv = F at *
    generalize ((nats 0 A.length).all fun a => !decide (nth B a < nth A a)) = b at *
    simp -implicitDefEqProofs [F_below_by, d_below_by, q1, -eqP_str, ec, ez, line]
  simp -implicitDefEqProofs [F_is_below_ag, d_is_below_ag, e0, e1, q2, eb]
/-! ### what the words mean -/
theorem isN_fst (l : List Nat) : isN (fstV (l.map iv)) = l.isEmpty := by cases l <;> rfl
def qt (L : List Rat) (t : Nat) : Rat := nth L (t + 1) / nth L t
theorem nth_rts {t : Nat} (ht : t + 1 < L.length) : nth (rts L) t = 1 - qt L t := by
  refine nth_of ?_
  exact rts_at ht (nth_some (by omega)) (nth_some ht)
theorem LifeN.posn {n : Nat} (h : LifeN n k L) {t : Nat} (ht : t + 1 < L.length) : 0 < nth L t := h.pos_at ht (nth_some (by omega))
theorem isE_iff {α : Type} {p : α → Bool} {l : List α} : (l.filter p).isEmpty = true ↔ ∀ a ∈ l, p a = false := by
  rw [List.isEmpty_iff, List.filter_eq_nil_iff]
  constructor
  · intro h a ha; have := h a ha; simpa using this
  · intro h a ha; rw [h a ha]; decide
theorem rate_iff : isN (naRate L) = true ↔ ∀ t, t + 2 < L.length → qt L (t + 1) ≤ qt L t := by
  unfold naRate
  rw [isN_fst, isE_iff]
  constructor
  · intro h t ht
    have := h t (mem_nats.mpr ⟨Nat.zero_le _, by omega⟩)
    unfold pRate at this
    rw [nth_rts (t := t) (by omega), nth_rts (t := t + 1) (by omega)] at this
    have := Rat.not_lt.mp (of_decide_eq_false this)
    grind
  · intro h t ht
    have ht := (mem_nats.mp ht).2
    have := h t (by omega)
    unfold pRate
    rw [nth_rts (t := t) (by omega), nth_rts (t := t + 1) (by omega)]
    refine decide_eq_false ?_
    grind
theorem nth_left (h : Life k L) {t : Nat} (ht : t + 1 < L.length) (s : Nat) : nth (left L t) s = nth L (t + s) / nth L t := by
  by_cases hs : t + s < L.length
  · exact nth_of (left_at (nth_some (by omega)) (nth_some hs))
  · rw [nth_ge (by rw [left_len]; omega), nth_ge (show L.length ≤ t + s by omega)]
    grind
theorem mul_le {a b c d : Rat} (h1 : a ≤ b) (h2 : c ≤ d) (hc : 0 ≤ c) (hb : 0 ≤ b) : a * c ≤ b * d := by
  have e1 : 0 ≤ (b - a) * c := Rat.mul_nonneg (by grind) hc
  have e2 : 0 ≤ b * (d - c) := Rat.mul_nonneg hb (by grind)
  grind
theorem LifeN.qn {n : Nat} (h : LifeN n k L) {t : Nat} (ht : t + 1 < L.length) : 0 ≤ qt L t := div_nn (h.posn ht) (h.nth_nn _)
theorem falls_iff (h : Life k L) : (∀ t, 1 ≤ t → t + 1 < L.length → belowC (left L t) (left L (t - 1)) = true) ↔ isN (naRate L) = true := by
  rw [rate_iff]
  constructor
  · intro hf t ht
    have := belowC_iff.mp (hf (t + 1) (by omega) (by omega)) 1 (by rw [left_len]; omega)
    rw [show t + 1 - 1 = t by omega, nth_left h (by omega), nth_left h (by omega)] at this
    exact this
  · intro hr t h1 ht
    obtain ⟨u, rfl⟩ : ∃ u, t = u + 1 := ⟨t - 1, by omega⟩
    rw [belowC_iff]
    intro s hs
    rw [left_len] at hs
    rw [show u + 1 - 1 = u by omega, nth_left h (by omega), nth_left h (by omega)]
    induction s with
    | zero =>
      have p1 := h.posn (t := u + 1) (by omega)
      have p2 := h.posn (t := u) (by omega)
      rw [Nat.add_zero, Nat.add_zero]
      grind
    | succ s ih =>
      have ih := ih (by omega)
      have p1 := h.posn (t := u + 1) (by omega)
      have p2 := h.posn (t := u) (by omega)
      have p3 := h.posn (t := u + 1 + s) (by omega)
      have p4 := h.posn (t := u + s) (by omega)
      have hq := hr (u + s) (by omega)
      have e1 : nth L (u + 1 + (s + 1)) / nth L (u + 1) = nth L (u + 1 + s) / nth L (u + 1) * qt L (u + s + 1) := by
        unfold qt
        rw [show u + s + 1 + 1 = u + 1 + (s + 1) by omega, show u + s + 1 = u + 1 + s by omega]
        grind
      have e2 : nth L (u + (s + 1)) / nth L u = nth L (u + s) / nth L u * qt L (u + s) := by
        unfold qt
        rw [show u + s + 1 = u + (s + 1) by omega]
        grind
      rw [e1, e2]
      exact mul_le ih hq (h.qn (by omega)) (div_nn p2 (h.nth_nn _))
theorem new_iff : isN (naNew L) = true ↔ ∀ s t, 1 ≤ s → s ≤ t → t < L.length → nth L (s + t) ≤ nth L s * nth L t := by
  unfold naNew
  have e : ∀ l : List PV, (∀ x ∈ l, isN x = false) → (isN (fstV l) = true ↔ l = []) := fun l hl => by
    cases l with
    | nil => simp [fstV, isN]
    | cons x l => simp [fstV, hl x List.mem_cons_self]
  rw [e _ (fun x hx => by
    obtain ⟨s, _, hx⟩ := List.mem_flatMap.mp hx
    unfold news at hx
    obtain ⟨t, _, rfl⟩ := List.mem_map.mp hx
    rfl), List.flatMap_eq_nil_iff]
  constructor
  · intro h s t h1 h2 h3
    have := h s (mem_nats.mpr ⟨h1, by omega⟩)
    unfold news at this
    rw [List.map_eq_nil_iff, List.filter_eq_nil_iff] at this
    have := this t (mem_nats.mpr ⟨h2, h3⟩)
    unfold pNew at this
    simp at this
    exact Rat.not_lt.mp this
  · intro h s hs
    obtain ⟨h1, h2⟩ := mem_nats.mp hs
    unfold news
    rw [List.map_eq_nil_iff, List.filter_eq_nil_iff]
    intro t ht
    obtain ⟨h3, h4⟩ := mem_nats.mp ht
    have := h s t h1 h3 h4
    unfold pNew
    simp
    exact Rat.not_lt.mpr this
theorem le_div {a b c : Rat} (hb : 0 < b) : a / b ≤ c ↔ a ≤ c * b := by
  constructor
  · intro h
    have : 0 ≤ (c - a / b) * b := Rat.mul_nonneg (by grind) (Rat.le_of_lt hb)
    have e : (c - a / b) * b = c * b - a := by grind
    grind
  · intro h
    have : 0 ≤ (c * b - a) / b := div_nn hb (by grind)
    have e : (c * b - a) / b = c - a / b := by grind
    grind
theorem fresh_iff (h : Life k L) : (∀ t, t + 1 < L.length → belowC (left L t) L = true) ↔ isN (naNew L) = true := by
  rw [new_iff]
  have f1 : nth L 0 = 1 := nth_of h.first
  constructor
  · intro hf s t h1 h2 h3
    by_cases hst : s + t < L.length
    · have := belowC_iff.mp (hf s (by omega)) t (by rw [left_len]; omega)
      rw [nth_left h (by omega), le_div (h.posn (by omega)), Rat.mul_comm] at this
      exact this
    · rw [nth_ge (show L.length ≤ s + t by omega)]
      exact Rat.mul_nonneg (h.nth_nn _) (h.nth_nn _)
  · intro hn t ht
    rw [belowC_iff]
    intro s hs
    rw [left_len] at hs
    rw [nth_left h ht, le_div (h.posn ht)]
    by_cases h0 : t = 0
    · subst h0; rw [f1, Nat.zero_add]; grind
    by_cases h1 : s = 0
    · subst h1; rw [f1, Nat.add_zero]; grind
    by_cases hst : s ≤ t
    · rw [Nat.add_comm]; exact hn s t (by omega) hst (by omega)
    · rw [Rat.mul_comm]; exact hn t s (by omega) (by omega) (by omega)
theorem sumR_div (c : Rat) : ∀ R : List Rat, sumR (R.map fun q => q / c) = sumR R / c
  | [] => by show (0 : Rat) = 0 / c; grind
  | q :: R => by show q / c + sumR (R.map fun q => q / c) = (q + sumR R) / c; rw [sumR_div c R]; grind
theorem sum_left (h : Life k L) {t : Nat} (ht : t + 1 < L.length) : sumR (left L t) = sumR (L.drop t) / nth L t := by
  unfold left
  rw [show L.getD t 0 = nth L t from rfl, sumR_div]
theorem mean_iff (h : Life k L) : isN (naMean L) = true ↔ ∀ t, t + 1 < L.length → ¬ sumR L < sumR (left L t) := by
  unfold naMean
  rw [isN_fst, isE_iff]
  constructor
  · intro hm t ht
    have := hm t (mem_nats.mpr ⟨Nat.zero_le _, by omega⟩)
    unfold pMean at this
    have := Rat.not_lt.mp (of_decide_eq_false this)
    rw [sum_left h ht]
    exact Rat.not_lt.mpr ((le_div (h.posn ht)).mpr this)
  · intro hs t ht
    have ht := (mem_nats.mp ht).2
    unfold pMean
    refine decide_eq_false (Rat.not_lt.mpr ?_)
    by_cases h1 : t + 1 < L.length
    · have := Rat.not_lt.mp (hs t h1)
      rw [sum_left h h1] at this
      exact (le_div (h.posn h1)).mp this
    · have e : t = L.length - 1 := by omega
      subst e
      have e1 : nth L (L.length - 1) = 0 := nth_of h.last
      have e2 : L.drop (L.length - 1) = [0] := by
        rw [List.drop_eq_getElem_cons (by omega), get_nth, e1, show L.length - 1 + 1 = L.length by omega, List.drop_length]
      rw [e1, e2]
      show (0 : Rat) + 0 ≤ _
      grind
end
end FWP

/-! FW: each kind of ageing has the next one as its consequence. -/
namespace FWP
open PySem FW
section
variable {k : Nat} {L : List Rat} {a b c : Rat}
theorem pw_nn (h : 0 ≤ a) : ∀ n, 0 ≤ pw a n
  | 0 => by show (0 : Rat) ≤ 1; decide
  | n + 1 => Rat.mul_nonneg (pw_nn h n) h
theorem pw_le (h : 0 ≤ a) (hab : a ≤ b) : ∀ n, pw a n ≤ pw b n
  | 0 => Rat.le_refl
  | n + 1 => mul_le (pw_le h hab n) hab h (pw_nn (Rat.le_trans h hab) n)
theorem pw_pos (h : 0 < a) : ∀ n, 0 < pw a n
  | 0 => by show (0 : Rat) < 1; decide
  | n + 1 => Rat.mul_pos (pw_pos h n) h
theorem pw_lt (h : 0 ≤ a) (hab : a < b) : ∀ n, pw a (n + 1) < pw b (n + 1)
  | 0 => by show 1 * a < 1 * b; grind
  | n + 1 => by
    have ih := pw_lt h hab n
    have hb : 0 < b := by grind
    have e1 : pw a (n + 1) * a ≤ pw b (n + 1) * a := by
      have : 0 ≤ (pw b (n + 1) - pw a (n + 1)) * a := Rat.mul_nonneg (by grind) h
      grind
    have e2 : pw b (n + 1) * a < pw b (n + 1) * b := by
      have : 0 < pw b (n + 1) * (b - a) := Rat.mul_pos (pw_pos hb _) (by grind)
      grind
    show pw a (n + 1) * a < pw b (n + 1) * b
    grind
theorem pw_root (ha : 0 ≤ a) (hb : 0 ≤ b) {n : Nat} (hn : 1 ≤ n) (h : pw a n ≤ pw b n) : a ≤ b := by
  obtain ⟨m, rfl⟩ : ∃ m, n = m + 1 := ⟨n - 1, by omega⟩
  rcases Rat.le_total (a := a) (b := b) with h1 | h1
  · exact h1
  · by_cases e : a = b
    · rw [e]; exact Rat.le_refl
    · have := pw_lt hb (show b < a by grind) m
      grind
theorem pw_mul : ∀ n, pw (a * b) n = pw a n * pw b n
  | 0 => by show (1 : Rat) = 1 * 1; grind
  | n + 1 => by show pw (a * b) n * (a * b) = pw a n * a * (pw b n * b); rw [pw_mul n]; grind
theorem pw_add (m : Nat) : ∀ n, pw a (m + n) = pw a m * pw a n
  | 0 => by show pw a m = pw a m * 1; grind
  | n + 1 => by show pw a (m + n) * a = pw a m * (pw a n * a); rw [pw_add m n]; grind
theorem pw_pw (m : Nat) : ∀ n, pw (pw a m) n = pw a (m * n)
  | 0 => rfl
  | n + 1 => by show pw (pw a m) n * pw a m = _; rw [pw_pw m n, Nat.mul_succ, pw_add]
theorem pw_zero {n : Nat} (h : 1 ≤ n) : pw 0 n = 0 := by
  obtain ⟨m, rfl⟩ : ∃ m, n = m + 1 := ⟨n - 1, by omega⟩
  show pw 0 m * 0 = 0
  grind
/-- as numbers: rates that never fall -/
def okR (L : List Rat) : Prop := ∀ t, t + 2 < L.length → qt L (t + 1) ≤ qt L t
def okA' (L : List Rat) : Prop := ∀ t, 1 ≤ t → pw (nth L (t + 1)) t ≤ pw (nth L t) (t + 1)
def okN (L : List Rat) : Prop := ∀ s t, nth L (s + t) ≤ nth L s * nth L t
def okM (L : List Rat) : Prop := ∀ t, t < L.length → sumR (L.drop t) ≤ sumR L * nth L t
theorem avg_iff (h : Life k L) : isN (naAvg L) = true ↔ okA' L := by
  unfold naAvg
  rw [isN_fst, isE_iff]
  constructor
  · intro hm t ht
    by_cases hl : t < L.length
    · have := hm t (mem_nats.mpr ⟨ht, hl⟩)
      unfold pAvg at this
      exact Rat.not_lt.mp (of_decide_eq_false this)
    · rw [nth_ge (show L.length ≤ t + 1 by omega), pw_zero ht]
      exact pw_nn (h.nth_nn _) _
  · intro ha t ht
    obtain ⟨h1, h2⟩ := mem_nats.mp ht
    unfold pAvg
    exact decide_eq_false (Rat.not_lt.mpr (ha t h1))
theorem q_chain (hr : okR L) {t : Nat} (ht : t + 1 < L.length) : ∀ d, d ≤ t → qt L t ≤ qt L (t - d) := by
  intro d
  induction d with
  | zero => intro _; exact Rat.le_refl
  | succ d ih =>
    intro hd
    have h1 := ih (by omega)
    have h2 := hr (t - (d + 1)) (by omega)
    rw [show t - (d + 1) + 1 = t - d by omega] at h2
    exact Rat.le_trans h1 h2
theorem nth_next (h : Life k L) {t : Nat} (ht : t + 1 < L.length) : nth L (t + 1) = nth L t * qt L t := by
  have := h.posn ht
  unfold qt
  grind
theorem rate_avg (h : Life k L) (hr : okR L) : okA' L := by
  intro t ht
  have f1 : nth L 0 = 1 := nth_of h.first
  by_cases hl : t + 1 < L.length
  · have key : ∀ s, s ≤ t → pw (qt L t) s ≤ nth L s := by
      intro s
      induction s with
      | zero => intro _; rw [f1]; exact Rat.le_refl
      | succ s ih =>
        intro hs
        have h1 := ih (by omega)
        have h2 := q_chain hr hl (t - s) (by omega)
        rw [show t - (t - s) = s by omega] at h2
        rw [nth_next h (by omega)]
        exact mul_le h1 h2 (h.qn hl) (h.nth_nn _)
    rw [nth_next h hl, pw_mul]
    show pw (nth L t) t * pw (qt L t) t ≤ pw (nth L t) t * nth L t
    exact mul_le Rat.le_refl (key t (Nat.le_refl _)) (pw_nn (h.qn hl) _) (pw_nn (h.nth_nn _) _)
  · rw [nth_ge (show L.length ≤ t + 1 by omega), pw_zero ht]
    exact pw_nn (h.nth_nn _) _
theorem avg_all (h : Life k L) (ha : okA' L) {m : Nat} (hm : 1 ≤ m) : ∀ d, pw (nth L (m + d)) m ≤ pw (nth L m) (m + d)
  | 0 => Rat.le_refl
  | d + 1 => by
    have ih := avg_all h ha hm d
    have st := ha (m + d) (by omega)
    refine pw_root (pw_nn (h.nth_nn _) _) (pw_nn (h.nth_nn _) _) (n := m + d) (by omega) ?_
    have e1 : pw (pw (nth L (m + (d + 1))) m) (m + d) = pw (pw (nth L (m + d + 1)) (m + d)) m := by
      rw [pw_pw, pw_pw, Nat.mul_comm, ← Nat.add_assoc]
    have e2 : pw (pw (nth L m) (m + (d + 1))) (m + d) = pw (pw (nth L m) (m + d)) (m + d + 1) := by
      rw [pw_pw, pw_pw, Nat.mul_comm, ← Nat.add_assoc]
    rw [e1, e2]
    have s1 := pw_le (pw_nn (h.nth_nn _) _) st m
    have s2 := pw_le (pw_nn (h.nth_nn (m + d)) m) ih (m + d + 1)
    have e3 : pw (pw (nth L (m + d)) (m + d + 1)) m = pw (pw (nth L (m + d)) m) (m + d + 1) := by rw [pw_pw, pw_pw, Nat.mul_comm]
    rw [e3] at s1
    exact Rat.le_trans s1 s2
theorem avg_new (h : Life k L) (ha : okA' L) : okN L := by
  have f1 : nth L 0 = 1 := nth_of h.first
  intro s t
  by_cases h0 : s = 0
  · subst h0; rw [f1, Nat.zero_add]; grind
  by_cases h1 : t = 0
  · subst h1; rw [f1, Nat.add_zero]; grind
  have a1 := avg_all h ha (m := s) (by omega) t
  have a2 := avg_all h ha (m := t) (by omega) s
  rw [Nat.add_comm t s] at a2
  refine pw_root (h.nth_nn _) (Rat.mul_nonneg (h.nth_nn _) (h.nth_nn _)) (n := s + t) (by omega) ?_
  rw [pw_add, pw_mul]
  exact mul_le a1 a2 (pw_nn (h.nth_nn _) _) (pw_nn (h.nth_nn _) _)
theorem new_iff' (h : Life k L) : isN (naNew L) = true ↔ okN L := by
  have f1 : nth L 0 = 1 := nth_of h.first
  rw [new_iff]
  constructor
  · intro hn s t
    by_cases h0 : s = 0
    · subst h0; rw [f1, Nat.zero_add]; grind
    by_cases h1 : t = 0
    · subst h1; rw [f1, Nat.add_zero]; grind
    by_cases hl : s < L.length ∧ t < L.length
    · by_cases hst : s ≤ t
      · exact hn s t (by omega) hst hl.2
      · rw [Nat.add_comm, Rat.mul_comm]; exact hn t s (by omega) (by omega) hl.1
    · rw [nth_ge (show L.length ≤ s + t by omega)]
      exact Rat.mul_nonneg (h.nth_nn _) (h.nth_nn _)
  · intro hn s t _ _ _
    exact hn s t
theorem sum_le {c : Rat} (hc : 0 ≤ c) : ∀ (A B : List Rat), A.length ≤ B.length → (∀ q ∈ B, 0 ≤ q) → (∀ s, s < A.length → nth A s ≤ nth B s * c) → sumR A ≤ sumR B * c
  | [], B, _, hB, _ => by
    have := Rat.mul_nonneg (sumR_nonneg hB) hc
    show (0 : Rat) ≤ _
    exact this
  | a :: A, [], h, _, _ => by simp at h
  | a :: A, b :: B, h, hB, hs => by
    have ih := sum_le hc A B (by simpa using h) (fun q hq => hB q (List.mem_cons_of_mem _ hq)) (fun s h1 => hs (s + 1) (by simpa using h1))
    have h0 : a ≤ b * c := hs 0 (by simp)
    show a + sumR A ≤ (b + sumR B) * c
    grind
theorem new_mean (h : Life k L) (hn : okN L) : okM L := by
  intro t ht
  refine sum_le (h.nth_nn t) _ _ (by rw [List.length_drop]; omega) (fun q hq => (h.ch q hq).1) fun s hs => ?_
  have e : nth (L.drop t) s = nth L (s + t) := by unfold nth; simp [List.getD_eq_getElem?_getD, List.getElem?_drop, Nat.add_comm]
  rw [e]
  exact hn s t
theorem mean_iff' : isN (naMean L) = true ↔ okM L := by
  unfold naMean
  rw [isN_fst, isE_iff]
  constructor
  · intro hm t ht
    have := hm t (mem_nats.mpr ⟨Nat.zero_le _, ht⟩)
    unfold pMean at this
    exact Rat.not_lt.mp (of_decide_eq_false this)
  · intro ha t ht
    unfold pMean
    exact decide_eq_false (Rat.not_lt.mpr (ha t (mem_nats.mp ht).2))
/-- sorted: no kind without the next one -/
theorem ages_sorted (h : Life k L) : isortK [.bl (isN (naRate L)), .bl (isN (naAvg L)), .bl (isN (naNew L)), .bl (isN (naMean L))] = [.bl (isN (naRate L)), .bl (isN (naAvg L)), .bl (isN (naNew L)), .bl (isN (naMean L))] := by
  have i1 : isN (naRate L) = true → isN (naAvg L) = true := fun e => (avg_iff h).mpr (rate_avg h (rate_iff.mp e))
  have i2 : isN (naAvg L) = true → isN (naNew L) = true := fun e => (new_iff' h).mpr (avg_new h ((avg_iff h).mp e))
  have i3 : isN (naNew L) = true → isN (naMean L) = true := fun e => mean_iff'.mpr (new_mean h ((new_iff' h).mp e))
  generalize isN (naRate L) = b1 at *
  generalize isN (naAvg L) = b2 at *
  generalize isN (naNew L) = b3 at *
  generalize isN (naMean L) = b4 at *
  cases b1 <;> cases b2 <;> cases b3 <;> cases b4 <;> first | rfl | (simp at i1; done) | (simp at i2; done) | (simp at i3; done)
theorem okA_fst {n : Nat} {l : List PV} (h : ∀ x ∈ l, okA (n + 1) x = true) : okA (n + 1) (fstV l) = true := by
  cases l with
  | nil => rfl
  | cons x l => exact h x List.mem_cons_self
theorem okA_na : okA 8 (naRate L) = true ∧ okA 8 (naAvg L) = true ∧ okA 8 (naNew L) = true ∧ okA 8 (naMean L) = true := by
  refine ⟨okA_fst fun x hx => ?_, okA_fst fun x hx => ?_, okA_fst fun x hx => ?_, okA_fst fun x hx => ?_⟩
  · obtain ⟨t, _, rfl⟩ := List.mem_map.mp hx; rfl
  · obtain ⟨t, _, rfl⟩ := List.mem_map.mp hx; rfl
  · obtain ⟨s, _, hx⟩ := List.mem_flatMap.mp hx
    unfold news at hx
    obtain ⟨t, _, rfl⟩ := List.mem_map.mp hx
    rfl
  · obtain ⟨t, _, rfl⟩ := List.mem_map.mp hx; rfl
end
end FWP

/-! FW: orders of lives. -/
namespace FWP
open PySem FW
section
variable {k l : Nat} {A B L : List Rat} {S : Store}
/-- a loop that hands back False at the first place that lacks p -/
theorem loop_all {f : PV → FS} {S : Store} (n : Nat) (p : Nat → Bool) (I : Slots → Prop) (st : ∀ t ρ, t < n → I ρ → (p t = true → ∃ ρ', f (iv t) ρ S = .ok (.next ρ') S ∧ I ρ') ∧ (p t = false → f (iv t) ρ S = .ok (.ret (.v (.bl false))) S)) {ρ : Slots} (h : I ρ) :
    ((nats 0 n).all p = true ∧ ∃ ρ', forL f [] ((nats 0 n).map iv) ρ S = .ok (.next ρ') S ∧ I ρ') ∨ ((nats 0 n).all p = false ∧ forL f [] ((nats 0 n).map iv) ρ S = .ok (.ret (.v (.bl false))) S) := by
  have loop := forL_find (f := f) (fun i ρ S' => I ρ ∧ S' = S) (fun j => !p j) (fun j v S' => v = .v (.bl false) ∧ S' = S) ((nats 0 n).map iv) 0 (ρ := ρ) (S := S) (fun j y ρ S' hy hI => by
    obtain ⟨hI, rfl⟩ := hI
    obtain ⟨t, rfl, ht, hj⟩ := iv_get hy
    rw [Nat.zero_add] at ht ⊢
    subst ht
    obtain ⟨a, b⟩ := st t ρ hj hI
    refine ⟨fun hp => ?_, fun hp => ?_⟩
    · obtain ⟨ρ', e, hI'⟩ := a (by simpa using hp)
      exact ⟨ρ', S', e, hI', rfl⟩
    · exact ⟨_, S', b (by simpa using hp), rfl, rfl⟩) ⟨h, rfl⟩
  simp only [List.length_map, nats_len, Nat.zero_add, Nat.sub_zero] at loop
  rcases loop with ⟨ρ', S', e, ⟨hI, rfl⟩, hn⟩ | ⟨j, v, S', hj, hp, hm, e, rfl, rfl⟩
  · refine .inl ⟨?_, ρ', e, hI⟩
    rw [List.all_eq_true]
    intro t ht
    have := hn t (mem_nats.mp ht).2
    simpa using this
  · refine .inr ⟨?_, e⟩
    rw [List.all_eq_false]
    exact ⟨j, mem_nats.mpr ⟨Nat.zero_le _, hj⟩, by simpa using hp⟩
/-! ### orders, as numbers -/
def ordF (f g : Nat → Rat) (n : Nat) : Bool := (nats 0 n).all fun t => (nats 0 t).all fun s => !decide (f s * g t < f t * g s)
theorem ordF_iff {f g : Nat → Rat} {n : Nat} : ordF f g n = true ↔ ∀ s t, s < t → t < n → f t * g s ≤ f s * g t := by
  unfold ordF
  rw [List.all_eq_true]
  constructor
  · intro h s t hs ht
    have := List.all_eq_true.mp (h t (mem_nats.mpr ⟨Nat.zero_le _, ht⟩)) s (mem_nats.mpr ⟨Nat.zero_le _, hs⟩)
    simp at this
    exact Rat.not_lt.mp this
  · intro h t ht
    rw [List.all_eq_true]
    intro s hs
    have := h s t (mem_nats.mp hs).2 (mem_nats.mp ht).2
    simp
    exact Rat.not_lt.mpr this
theorem ordF_ext {f g : Nat → Rat} {n m : Nat} (hnm : n ≤ m) (h : ∀ t, n ≤ t → f t = 0 ∧ g t = 0) : ordF f g m = ordF f g n := by
  rw [Bool.eq_iff_iff, ordF_iff, ordF_iff]
  constructor
  · intro hm s t hs ht
    exact hm s t hs (by omega)
  · intro hn s t hs ht
    by_cases hl : t < n
    · exact hn s t hs hl
    · obtain ⟨h1, h2⟩ := h t (by omega)
      rw [h1, h2]
      grind
theorem ordF_self {f : Nat → Rat} {n : Nat} : ordF f f n = true := by
  rw [ordF_iff]
  intro s t _ _
  rw [Rat.mul_comm]
  exact Rat.le_refl
/-- the failures -/
def fF (L : List Rat) (t : Nat) : Rat := nth L t - nth L (t + 1)
def fl (L : List Rat) : List Rat := (nats 1 L.length).map fun t => nth L (t - 1) - nth L t
theorem fl_len : (fl L).length = L.length - 1 := by unfold fl; rw [List.length_map, nats_len]
theorem fF_zero (h : Life k L) {t : Nat} (ht : L.length ≤ t + 1) : fF L t = 0 := by
  unfold fF
  rw [nth_ge (show L.length ≤ t + 1 by omega)]
  have e : nth L t = 0 := by
    by_cases hl : L.length ≤ t
    · exact nth_ge hl
    · have : t = L.length - 1 := by omega
      subst this
      exact nth_of h.last
  rw [e]
  grind
theorem nth_map {f : Nat → Rat} {a b t : Nat} (ht : a + t < b) : nth ((nats a b).map f) t = f (a + t) := by
  refine nth_of ?_
  rw [List.getElem?_map]
  unfold nats
  rw [List.getElem?_range' (by omega)]
  simp
theorem nth_fl (h : Life k L) (t : Nat) : nth (fl L) t = fF L t := by
  by_cases ht : 1 + t < L.length
  · unfold fl
    rw [nth_map ht, show 1 + t - 1 = t by omega, Nat.add_comm]
    rfl
  · rw [nth_ge (by rw [fl_len]; omega), fF_zero h (by omega)]
theorem Bd.fF (h : Life k L) (hk : 1 ≤ k) (t : Nat) : Bd (k + k + 1) (fF L t) := (h.bdn t hk).sub (h.bdn (t + 1) hk)
/-- rates: with the failures in order so are the lives -/
theorem odds_rates {ka kb n : Nat} (hA : Life ka A) (hB : Life kb B) (ha : A.length ≤ n) (hb : B.length ≤ n) (h : ∀ s t, s < t → fF A t * fF B s ≤ fF A s * fF B t) : ∀ s t, s < t → nth A t * nth B s ≤ nth A s * nth B t := by
  have up : ∀ i m t, t + m = n → i < t → nth A t * fF B i ≤ fF A i * nth B t := by
    intro i m
    induction m with
    | zero =>
      intro t ht _
      rw [nth_ge (show A.length ≤ t by omega), nth_ge (show B.length ≤ t by omega)]
      grind
    | succ m ih =>
      intro t ht hi
      have h1 := ih (t + 1) (by omega) (by omega)
      have h2 := h i t hi
      have e1 : nth A t = fF A t + nth A (t + 1) := by unfold fF; grind
      have e2 : nth B t = fF B t + nth B (t + 1) := by unfold fF; grind
      rw [e1, e2]
      grind
  have down : ∀ d t, d ≤ t → t ≤ n → nth A t * nth B (t - d) ≤ nth A (t - d) * nth B t := by
    intro d
    induction d with
    | zero => intro t _ _; exact Rat.le_refl
    | succ d ih =>
      intro t hd ht
      have h1 := ih t (by omega) ht
      have h2 := up (t - (d + 1)) (n - t) t (by omega) (by omega)
      have e1 : nth A (t - (d + 1)) = fF A (t - (d + 1)) + nth A (t - d) := by unfold fF; rw [show t - (d + 1) + 1 = t - d by omega]; grind
      have e2 : nth B (t - (d + 1)) = fF B (t - (d + 1)) + nth B (t - d) := by unfold fF; rw [show t - (d + 1) + 1 = t - d by omega]; grind
      rw [e1, e2]
      grind
  intro s t hst
  by_cases ht : t ≤ n
  · have := down (t - s) t (by omega) ht
    rwa [show t - (t - s) = s by omega] at this
  · rw [nth_ge (show A.length ≤ t by omega), nth_ge (show B.length ≤ t by omega)]
    grind
theorem rates_chance {ka kb : Nat} (hA : Life ka A) (hB : Life kb B) (h : ∀ s t, s < t → nth A t * nth B s ≤ nth A s * nth B t) : ∀ t, nth A t ≤ nth B t := by
  have a0 : nth A 0 = 1 := nth_of hA.first
  have b0 : nth B 0 = 1 := nth_of hB.first
  intro t
  by_cases ht : t = 0
  · subst ht; rw [a0, b0]; exact Rat.le_refl
  · have := h 0 t (by omega)
    rw [a0, b0] at this
    grind
/-! ### the program's -/
theorem F_is_ordered_eq (b c : Bool) {f g : Nat → Rat} (hf : ∀ t, nth A t = f t) (hg : ∀ t, nth B t = g t) (bA : ∀ t, Bd k (f t)) (bB : ∀ t, Bd l (g t)) (hkl : k + l ≤ 5000) (la : A.length ≤ 1000) (lb : B.length ≤ 1000) : F_is_ordered [sq b A, sq c B] S = .ok (.v (.bl (ordF f g (max A.length B.length)))) S := by
  have sA := seqOf_sq (S := S) b A
  have sB := seqOf_sq (S := S) c B
  have hlA : (rvs A).length = A.length := rvs_len A
  have hlB : (rvs B).length = B.length := rvs_len B
  have iA := fun (t : Nat) S => F_item_eq (S := S) (L := A) b t
  have iB := fun (t : Nat) S => F_item_eq (S := S) (L := B) c t
  have hmax : (if A.length < B.length then (B.length : Int) else (A.length : Int)) = ((max A.length B.length : Nat) : Int) := by split <;> omega
  have hn : max A.length B.length ≤ 1000 := by omega
  generalize sq b A = x at *
  generalize sq c B = y at *
  simp only [hf] at iA
  simp only [hg] at iB
  have inner : ∀ (t : Nat) (z4 : Option SV) (N : SV), t ≤ 1000 → _ := fun t z4 N ht => loop_all (f := sTurn (bindG (.name 4)) (evB g_is_ordered b_is_ordered_1)) (S := S) t (fun s => !decide (f s * g t < f t * g s)) (fun ρ => ∃ z, ρ = [some x, some y, some N, some (I t), z]) (fun s ρ hs hI => by
    obtain ⟨z, rfl⟩ := hI
    have o1 := fun S => F_times_eq (S := S) (bA s) (bB t) (by omega)
    have o2 := fun S => F_times_eq (S := S) (bA t) (bB s) (by omega)
    have o3 := fun S => F_is_less_eq (S := S) ((bA s).mul (bB t)) ((bA t).mul (bB s)) (by omega)
    refine ⟨fun hp => ⟨_, ?_, some (I s), rfl⟩, fun hp => ?_⟩
    · have hp : ¬ f s * g t < f t * g s := by simpa using hp
      simp -implicitDefEqProofs [b_is_ordered_1, iv, iA, iB, o1, o2, o3, hp]
    · have hp : f s * g t < f t * g s := by simpa using hp
      simp -implicitDefEqProofs [b_is_ordered_1, iv, iA, iB, o1, o2, o3, hp]) (ρ := [some x, some y, some N, some (I t), z4]) ⟨z4, rfl⟩
  have outer := loop_all (f := sTurn (bindG (.name 3)) (evB g_is_ordered b_is_ordered_0)) (S := S) (max A.length B.length) (fun t => (nats 0 t).all fun s => !decide (f s * g t < f t * g s)) (fun ρ => ∃ z3 z4, ρ = [some x, some y, some (I (max A.length B.length : Nat)), z3, z4]) (fun t ρ ht hI => by
    obtain ⟨z3, z4, rfl⟩ := hI
    rcases inner t z4 (FWP.I (max A.length B.length : Nat)) (by omega) with ⟨ha, ρ', e, z, rfl⟩ | ⟨ha, e⟩
    · refine ⟨fun _ => ⟨_, ?_, some (I t), z, rfl⟩, fun hp => (by rw [ha] at hp; cases hp)⟩
      have e' := for_r1 (Γ := g_is_ordered) (S := S) (tg := .name 4) (a := .var 3) (c := b_is_ordered_1) (x := t) (m := t) rfl rfl (by omega) e
      simp -implicitDefEqProofs [b_is_ordered_0, iv, e']
    · refine ⟨fun hp => (by rw [ha] at hp; cases hp), fun _ => ?_⟩
      have e' := for_r1 (Γ := g_is_ordered) (S := S) (tg := .name 4) (a := .var 3) (c := b_is_ordered_1) (x := t) (m := t) rfl rfl (by omega) e
      simp -implicitDefEqProofs [b_is_ordered_0, iv, e']) (ρ := [some x, some y, some (I (max A.length B.length : Nat)), none, none]) ⟨none, none, rfl⟩
  rcases outer with ⟨ha, ρ', e, z3, z4, rfl⟩ | ⟨ha, e⟩
  · have e' := for_r1 (Γ := g_is_ordered) (S := S) (tg := .name 3) (a := .var 2) (c := b_is_ordered_0) (x := (max A.length B.length : Nat)) (m := max A.length B.length) rfl rfl (by omega) e
    unfold ordF
    rw [ha]
    generalize max A.length B.length = n at *
    simp -implicitDefEqProofs [F_is_ordered, d_is_ordered, sA, sB, hlA, hlB, hmax, e']
  · have e' := for_r1 (Γ := g_is_ordered) (S := S) (tg := .name 3) (a := .var 2) (c := b_is_ordered_0) (x := (max A.length B.length : Nat)) (m := max A.length B.length) rfl rfl (by omega) e
    unfold ordF
    rw [ha]
    generalize max A.length B.length = n at *
    simp -implicitDefEqProofs [F_is_ordered, d_is_ordered, sA, sB, hlA, hlB, hmax, e']
theorem F_fails_of_eq (h : Life k L) (hk : 1 ≤ k) (hk2 : k ≤ 2000) : F_fails_of [.v (lv L)] S = .ok (.v (.lst (rvs (0 :: fl L)))) S := by
  have h13 := h.len.2
  have hl : (rvs L).length = L.length := rvs_len L
  have ec : (ev g_fails_of c_fails_of_0).v [some (.v (lv L)), none] S = .ok (.v (.lst (rvs (fl L)))) S := by
    have := comp_fm (c0 := c_fails_of_0) (Γ := g_fails_of) (ρ := [some (.v (lv L)), none]) (S := S) (x := iv) rfl (nats 1 L.length) (fun t => rv (nth L (t - 1) - nth L t)) (nats_le (by omega)) (evI_r2 (x := 1) (y := L.length) rfl (by
      simp only [lv]
      generalize rvs L = Ls at *
      simp -implicitDefEqProofs [hl]) rfl rfl (by omega) (by omega)) (fun t ht => by
      obtain ⟨h1, h2⟩ := mem_nats.mp ht
      obtain ⟨u, rfl⟩ : ∃ u, t = u + 1 := ⟨t - 1, by omega⟩
      have o := F_minus_eq (S := S) (h.bdn u hk) (h.bdn (u + 1) hk) (by omega)
      have r1 := rvs_nth (show u < L.length by omega)
      have r2 := rvs_nth h2
      simp only [lv, Nat.add_sub_cancel] at *
      generalize rvs L = Ls at *
      have r1 := (List.getElem?_eq_some_iff.mp r1).2
      have r2 := (List.getElem?_eq_some_iff.mp r2).2
      have i1 : u < L.length := by omega
      simp -implicitDefEqProofs [iv, -ix?, ix_nat, ix_nat1, ix_succ_sub, hl, i1, h2, r1, r2, o])
    rw [this]
    unfold fl
    simp only [rvs, List.map_map]
    rfl
  have hz : 1 + (rvs (fl L)).length ≤ 16777216 := by rw [rvs_len, fl_len]; omega
  show _ = Out.ok (SV.v (PV.lst (rv 0 :: rvs (fl L)))) S
  generalize rvs (fl L) = Fs at *
  simp -implicitDefEqProofs [F_fails_of, d_fails_of, ec, line, hz, rv_zero]
def ordR (A B : List Rat) : Bool := ordF (nth A) (nth B) (max A.length B.length)
def ordO (A B : List Rat) : Bool := ordF (fF A) (fF B) (max A.length B.length)
theorem F_below_rates_eq (hA : Life k A) (hB : Life l B) (hk : 1 ≤ k) (hl : 1 ≤ l) (hkl : k + l ≤ 2000) : F_is_below_ag [.v (lv A), .v (lv B), .v (.str "rates")] S = .ok (.v (.bl (ordR A B))) S := by
  have e0 := fun S => F_need_life_eq (S := S) hA (by omega)
  have e1 := fun S => F_need_life_eq (S := S) hB (by omega)
  have hla := hA.len.2
  have hlb := hB.len.2
  have e2 : ∀ S, F_is_ordered [.v (lv A), .v (lv B)] S = .ok (.v (.bl (ordR A B))) S := fun S => F_is_ordered_eq (S := S) false false (fun _ => rfl) (fun _ => rfl) (fun t => hA.bdn t hk) (fun t => hB.bdn t hl) (by omega) (by omega) (by omega)
  have q1 : eqP (.str "rates") (.str "chance") = some false := by decide +kernel
  have q3 : eqP (.str "rates") (.str "rates") = some true := by decide +kernel
  have q2 : anyEq (.str "rates") [.str "chance", .str "rates", .str "odds"] = some true := by decide +kernel
  generalize ordR A B = r at *
  have eb : ∀ S, F_below_by [.v (lv A), .v (lv B), .v (.str "rates")] S = .ok (.v (.bl r)) S := fun S => by
    simp -implicitDefEqProofs [F_below_by, d_below_by, q1, q3, -eqP_str, e2, line]
  simp -implicitDefEqProofs [F_is_below_ag, d_is_below_ag, e0, e1, q2, eb]
theorem F_below_odds_eq (hA : Life k A) (hB : Life l B) (hk : 1 ≤ k) (hl : 1 ≤ l) (hkl : k + l ≤ 1000) : F_is_below_ag [.v (lv A), .v (lv B), .v (.str "odds")] S = .ok (.v (.bl (ordO A B))) S := by
  have e0 := fun S => F_need_life_eq (S := S) hA (by omega)
  have e1 := fun S => F_need_life_eq (S := S) hB (by omega)
  obtain ⟨hla2, hla⟩ := hA.len
  obtain ⟨hlb2, hlb⟩ := hB.len
  have f0 := fun S => F_fails_of_eq (S := S) hA hk (by omega)
  have f1 := fun S => F_fails_of_eq (S := S) hB hl (by omega)
  have e2 : ∀ S, F_is_ordered [.v (.lst (rvs (fl A))), .v (.lst (rvs (fl B)))] S = .ok (.v (.bl (ordO A B))) S := fun S => by
    have := F_is_ordered_eq (S := S) (A := fl A) (B := fl B) true true (nth_fl hA) (nth_fl hB) (Bd.fF hA hk) (Bd.fF hB hl) (by omega) (by rw [fl_len]; omega) (by rw [fl_len]; omega)
    rw [fl_len, fl_len] at this
    have ex : ordO A B = ordF (fF A) (fF B) (max (A.length - 1) (B.length - 1)) := ordF_ext (by omega) fun t ht => ⟨fF_zero hA (by omega), fF_zero hB (by omega)⟩
    rw [ex]
    exact this
  have c0 : cut (rvs (0 :: fl A)) (some 1) none = rvs (fl A) := cut_from (xs := rvs (0 :: fl A)) (t := 1) (by simp)
  have c1 : cut (rvs (0 :: fl B)) (some 1) none = rvs (fl B) := cut_from (xs := rvs (0 :: fl B)) (t := 1) (by simp)
  have z0 : (rvs (fl A)).length ≤ 16777216 := by rw [rvs_len, fl_len]; omega
  have z1 : (rvs (fl B)).length ≤ 16777216 := by rw [rvs_len, fl_len]; omega
  have q1 : eqP (.str "odds") (.str "chance") = some false := by decide +kernel
  have q3 : eqP (.str "odds") (.str "rates") = some false := by decide +kernel
  have q2 : anyEq (.str "odds") [.str "chance", .str "rates", .str "odds"] = some true := by decide +kernel
  generalize ordO A B = r at *
  generalize rvs (fl A) = Fa at *
  generalize rvs (fl B) = Fb at *
  generalize rvs (0 :: fl A) = Ga at *
  generalize rvs (0 :: fl B) = Gb at *
  have eb : ∀ S, F_below_by [.v (lv A), .v (lv B), .v (.str "odds")] S = .ok (.v (.bl r)) S := fun S => by
    simp -implicitDefEqProofs [F_below_by, d_below_by, q1, q3, -eqP_str, f0, f1, c0, c1, z0, z1, e2, line]
  simp -implicitDefEqProofs [F_is_below_ag, d_is_below_ag, e0, e1, q2, eb]
end
end FWP

/-! FW: sums of lives that age by rates age by rates: the plain law (sums over two indices, summed by parts). -/
namespace FWP
open PySem FW
/-- finite sums -/
def Sm (F : Nat → Rat) : Nat → Rat
  | 0 => 0
  | n + 1 => Sm F n + F n
theorem Sm_congr {F G : Nat → Rat} : ∀ {n : Nat}, (∀ i, i < n → F i = G i) → Sm F n = Sm G n
  | 0, _ => rfl
  | n + 1, h => by
    show Sm F n + F n = Sm G n + G n
    rw [Sm_congr fun i hi => h i (by omega), h n (by omega)]
theorem Sm_add (F G : Nat → Rat) : ∀ n, Sm (fun i => F i + G i) n = Sm F n + Sm G n
  | 0 => by show (0 : Rat) = 0 + 0; grind
  | n + 1 => by
    show Sm (fun i => F i + G i) n + (F n + G n) = Sm F n + F n + (Sm G n + G n)
    rw [Sm_add F G n]; grind
theorem Sm_sub (F G : Nat → Rat) : ∀ n, Sm (fun i => F i - G i) n = Sm F n - Sm G n
  | 0 => by show (0 : Rat) = 0 - 0; grind
  | n + 1 => by
    show Sm (fun i => F i - G i) n + (F n - G n) = Sm F n + F n - (Sm G n + G n)
    rw [Sm_sub F G n]; grind
theorem Sm_mul (c : Rat) (F : Nat → Rat) : ∀ n, Sm (fun i => c * F i) n = c * Sm F n
  | 0 => by show (0 : Rat) = c * 0; grind
  | n + 1 => by
    show Sm (fun i => c * F i) n + c * F n = c * (Sm F n + F n)
    rw [Sm_mul c F n]; grind
theorem Sm_mulr (c : Rat) (F : Nat → Rat) (n : Nat) : Sm (fun i => F i * c) n = Sm F n * c := by
  rw [Sm_congr (G := fun i => c * F i) fun i _ => by grind, Sm_mul]; grind
theorem Sm_zero : ∀ {F : Nat → Rat} {n : Nat}, (∀ i, i < n → F i = 0) → Sm F n = 0
  | _, 0, _ => rfl
  | F, n + 1, h => by
    show Sm F n + F n = 0
    rw [Sm_zero fun i hi => h i (by omega), h n (by omega)]; grind
theorem Sm_nn : ∀ {F : Nat → Rat} {n : Nat}, (∀ i, i < n → 0 ≤ F i) → 0 ≤ Sm F n
  | _, 0, _ => Rat.le_refl
  | F, n + 1, h => by
    have h1 := Sm_nn (F := F) (n := n) fun i hi => h i (by omega)
    have h2 := h n (by omega)
    show 0 ≤ Sm F n + F n
    grind
theorem Sm_front (F : Nat → Rat) : ∀ n, Sm F (n + 1) = F 0 + Sm (fun i => F (i + 1)) n
  | 0 => by show (0 : Rat) + F 0 = F 0 + 0; grind
  | n + 1 => by
    show Sm F (n + 1) + F (n + 1) = F 0 + (Sm (fun i => F (i + 1)) n + F (n + 1))
    rw [Sm_front F n]; grind
theorem Sm_ext {F : Nat → Rat} {m n : Nat} (h : m ≤ n) (hz : ∀ i, m ≤ i → i < n → F i = 0) : Sm F n = Sm F m := by
  induction n with
  | zero => have : m = 0 := by omega
            rw [this]
  | succ n ih =>
    by_cases e : m = n + 1
    · rw [e]
    · show Sm F n + F n = Sm F m
      rw [ih (by omega) fun i h1 h2 => hz i h1 (by omega), hz n (by omega) (by omega)]; grind
theorem Sm_comm (F : Nat → Nat → Rat) (m : Nat) : ∀ n, Sm (fun i => Sm (fun j => F i j) m) n = Sm (fun j => Sm (fun i => F i j) n) m
  | 0 => by
    exact (Sm_zero fun i _ => rfl).symm
  | n + 1 => by
    show Sm (fun i => Sm (fun j => F i j) m) n + Sm (fun j => F n j) m = Sm (fun j => Sm (fun i => F i j) n + F n j) m
    rw [Sm_comm F m n, Sm_add]
/-- an antisymmetric weight -/
theorem anti (a b : Nat → Rat) (d : Nat → Nat → Rat) (hd : ∀ s r, d r s = - d s r) : ∀ N, Sm (fun s => Sm (fun r => a s * b r * d s r) N) N = Sm (fun r => Sm (fun s => (a s * b r - a r * b s) * d s r) r) N
  | 0 => rfl
  | N + 1 => by
    have ih := anti a b d hd N
    have h0 : d N N = 0 := by have := hd N N; grind
    show Sm (fun s => Sm (fun r => a s * b r * d s r) N + a s * b N * d s N) N + (Sm (fun r => a N * b r * d N r) N + a N * b N * d N N) = Sm (fun r => Sm (fun s => (a s * b r - a r * b s) * d s r) r) N + Sm (fun s => (a s * b N - a N * b s) * d s N) N
    rw [Sm_add, ih, h0, Sm_congr (F := fun s => (a s * b N - a N * b s) * d s N) (G := fun s => a s * b N * d s N + a N * b s * d N s) fun s _ => by
      show (a s * b N - a N * b s) * d s N = a s * b N * d s N + a N * b s * d N s
      rw [hd s N]; grind, Sm_add]
    grind
/-- the same, by the lesser index first -/
theorem tri (F : Nat → Nat → Rat) : ∀ N, Sm (fun r => Sm (fun s => F s r) r) N = Sm (fun s => Sm (fun i => F s (s + 1 + i)) (N - s - 1)) N
  | 0 => rfl
  | N + 1 => by
    show Sm (fun r => Sm (fun s => F s r) r) N + Sm (fun s => F s N) N = Sm (fun s => Sm (fun i => F s (s + 1 + i)) (N + 1 - s - 1)) N + Sm (fun i => F N (N + 1 + i)) (N + 1 - N - 1)
    rw [tri F N, show N + 1 - N - 1 = 0 by omega, Sm_congr (F := fun s => Sm (fun i => F s (s + 1 + i)) (N + 1 - s - 1)) (G := fun s => Sm (fun i => F s (s + 1 + i)) (N - s - 1) + F s N) fun s hs => by
      show Sm _ (N + 1 - s - 1) = Sm _ (N - s - 1) + F s N
      rw [show N + 1 - s - 1 = (N - s - 1) + 1 by omega]
      show Sm _ (N - s - 1) + F s (s + 1 + (N - s - 1)) = _
      rw [show s + 1 + (N - s - 1) = N by omega], Sm_add]
    show _ = _ + 0
    grind
/-- what ages by rates, as a function -/
structure LC (A : Int → Rat) : Prop where
  nn : ∀ u, 0 ≤ A u
  fall : ∀ u, A (u + 1) ≤ A u
  lc : ∀ a b, a ≤ b → A a * A (b + 1) ≤ A (a + 1) * A b
theorem LC.down {A : Int → Rat} (h : LC A) (u : Int) : ∀ n : Nat, A (u + n) ≤ A u
  | 0 => by rw [show u + (0 : Nat) = u by omega]; exact Rat.le_refl
  | n + 1 => by
    have h1 := h.down u n
    have h2 := h.fall (u + n)
    rw [show u + ((n + 1 : Nat) : Int) = u + n + 1 by omega]
    exact Rat.le_trans h2 h1
/-- the chance to fail at a step grows: in products -/
theorem LC.haz {A : Int → Rat} (h : LC A) {i m : Int} (him : i ≤ m) : (A (i - 1) - A i) * A (m + 1) ≤ (A i - A (i + 1)) * A m := by
  have n0 := h.nn (i - 1)
  have n1 := h.nn i
  have n2 := h.nn (i + 1)
  have n3 := h.nn m
  have n4 := h.nn (m + 1)
  have f0 := h.fall (i - 1)
  have l1 := h.lc (i - 1) i (by omega)
  have l2 := h.lc (i - 1) m (by omega)
  rw [show i - 1 + 1 = i by omega] at f0 l1 l2
  by_cases z : A (i - 1) = 0
  · have z1 : A i = 0 := Rat.le_antisymm (by rw [z] at f0; exact f0) n1
    have f1 := h.fall i
    have z2 : A (i + 1) = 0 := Rat.le_antisymm (by rw [z1] at f1; exact f1) n2
    rw [z, z1, z2]
    grind
  · have p0 : 0 < A (i - 1) := by
      rcases Rat.le_iff_lt_or_eq.mp n0 with h | h
      · exact h
      · exact absurd h.symm z
    -- times A (i-1)
    refine Rat.le_of_mul_le_mul_left ?_ p0
    generalize A (i - 1) = a at *
    generalize A i = b at *
    generalize A (i + 1) = c at *
    generalize A m = u at *
    generalize A (m + 1) = v at *
    have e1 : 0 ≤ (b * b - a * c) * u := Rat.mul_nonneg (by grind) n3
    have e2 : 0 ≤ (a - b) * (b * u - a * v) := Rat.mul_nonneg (by grind) (by grind)
    grind
/-- the sum's chance to last longer than j -/
def cv (A B : Int → Rat) (N : Nat) (j : Int) : Rat := Sm (fun s => A (j - s) * (B ((s : Int) - 1) - B s)) N
theorem cv_less {A B : Int → Rat} {N : Nat} (hB1 : B (-1) = B (-2)) (hB : B ((N : Int) - 1) = B N) (j : Int) : cv A B (N + 1) (j - 1) = Sm (fun s => A (j - s) * (B ((s : Int) - 2) - B ((s : Int) - 1))) (N + 1) := by
  unfold cv
  rw [Sm_front (fun s => A (j - s) * (B ((s : Int) - 2) - B ((s : Int) - 1)))]
  show Sm _ N + A (j - 1 - N) * (B ((N : Int) - 1) - B N) = A (j - ((0 : Nat) : Int)) * (B (((0 : Nat) : Int) - 2) - B (((0 : Nat) : Int) - 1)) + _
  rw [hB, show ((0 : Nat) : Int) - 1 = -1 by omega, show ((0 : Nat) : Int) - 2 = -2 by omega, hB1]
  rw [Sm_congr (G := fun i => A (j - ((i + 1 : Nat) : Int)) * (B (((i + 1 : Nat) : Int) - 2) - B (((i + 1 : Nat) : Int) - 1))) fun i _ => by
    rw [show j - 1 - (i : Int) = j - ((i + 1 : Nat) : Int) by omega, show ((i + 1 : Nat) : Int) - 2 = (i : Int) - 1 by omega, show ((i + 1 : Nat) : Int) - 1 = (i : Int) by omega]]
  grind
/-- sums by parts, for one lesser index -/
theorem parts (K psi : Nat → Rat) (h0 : K 0 = 0) : ∀ n, (∀ i, i < n → 0 ≤ (K (i + 1) - K i) * psi i) → 0 ≤ Sm (fun i => K (i + 1) * (psi i - psi (i + 1))) n + K n * psi n
  | 0, _ => by
    show 0 ≤ (0 : Rat) + K 0 * psi 0
    rw [h0]; grind
  | n + 1, h => by
    have ih := parts K psi h0 n fun i hi => h i (by omega)
    have h1 := h n (by omega)
    show 0 ≤ Sm _ n + K (n + 1) * (psi n - psi (n + 1)) + K (n + 1) * psi (n + 1)
    grind
theorem cv_lc {A B : Int → Rat} (hA : LC A) (hB : LC B) {N : Nat} (hB0 : ∀ u : Int, u ≤ 0 → B u = B 0) (hBz : ∀ u : Int, (N : Int) - 1 ≤ u → B u = 0) (k : Int) : cv A B (N + 1) (k - 1) * cv A B (N + 1) (k + 1) ≤ cv A B (N + 1) k * cv A B (N + 1) k := by
  have e1 := cv_less (A := A) (B := B) (N := N) (by rw [hB0 (-1) (by omega), hB0 (-2) (by omega)]) (by rw [hBz _ (by omega), hBz _ (by omega)]) k
  have e2 := cv_less (A := A) (B := B) (N := N) (by rw [hB0 (-1) (by omega), hB0 (-2) (by omega)]) (by rw [hBz _ (by omega), hBz _ (by omega)]) (k + 1)
  rw [show k + 1 - 1 = k by omega] at e2
  let a : Nat → Rat := fun s => A (k - s)
  let b : Nat → Rat := fun r => A (k + 1 - r)
  let g : Nat → Rat := fun s => B ((s : Int) - 1) - B s
  let g' : Nat → Rat := fun s => B ((s : Int) - 2) - B ((s : Int) - 1)
  have c1 : cv A B (N + 1) k = Sm (fun s => a s * g s) (N + 1) := rfl
  have c2 : cv A B (N + 1) (k + 1) = Sm (fun s => b s * g s) (N + 1) := rfl
  have c3 : cv A B (N + 1) (k - 1) = Sm (fun s => a s * g' s) (N + 1) := e1
  have c4 : cv A B (N + 1) k = Sm (fun s => b s * g' s) (N + 1) := e2
  have prod : ∀ (F G : Nat → Rat) n, Sm F n * Sm G n = Sm (fun s => Sm (fun r => F s * G r) n) n := fun F G n => by
    rw [Sm_congr (F := fun s => Sm (fun r => F s * G r) n) (G := fun s => F s * Sm G n) fun s _ => Sm_mul _ _ _, Sm_mulr]
  have key : 0 ≤ Sm (fun s => Sm (fun r => a s * b r * (g s * g' r - g' s * g r)) (N + 1)) (N + 1) := by
    rw [anti a b (fun s r => g s * g' r - g' s * g r) (fun s r => by show g r * g' s - g' r * g s = -(g s * g' r - g' s * g r); grind), tri (fun s r => (a s * b r - a r * b s) * (g s * g' r - g' s * g r))]
    refine Sm_nn fun s hs => ?_
    have := parts (fun i => a s * b (s + i) - a (s + i) * b s) (fun i => g s * B (((s + i : Nat) : Int) - 1) - g' s * B ((s + i : Nat) : Int)) (by show a s * b (s + 0) - a (s + 0) * b s = 0; rw [Nat.add_zero]; grind) (N + 1 - s - 1) (fun i hi => by
      refine Rat.mul_nonneg ?_ ?_
      · have := hA.haz (i := k - s - i) (m := k - s) (by omega)
        show 0 ≤ a s * b (s + (i + 1)) - a (s + (i + 1)) * b s - (a s * b (s + i) - a (s + i) * b s)
        show 0 ≤ A (k - s) * A (k + 1 - (s + (i + 1) : Nat)) - A (k - (s + (i + 1) : Nat)) * A (k + 1 - s) - (A (k - s) * A (k + 1 - (s + i : Nat)) - A (k - (s + i : Nat)) * A (k + 1 - s))
        rw [show k + 1 - ((s + (i + 1) : Nat) : Int) = k - s - i by omega, show k - ((s + (i + 1) : Nat) : Int) = k - s - i - 1 by omega, show k + 1 - ((s + i : Nat) : Int) = k - s - i + 1 by omega, show k - ((s + i : Nat) : Int) = k - s - i by omega, show k + 1 - (s : Int) = k - s + 1 by omega]
        grind
      · have := hB.haz (i := (s : Int) - 1) (m := (s : Int) + i - 1) (by omega)
        show 0 ≤ (B ((s : Int) - 1) - B s) * B (((s + i : Nat) : Int) - 1) - (B ((s : Int) - 2) - B ((s : Int) - 1)) * B ((s + i : Nat) : Int)
        rw [show (s : Int) - 1 - 1 = (s : Int) - 2 by omega, show (s : Int) - 1 + 1 = (s : Int) by omega, show (s : Int) + i - 1 + 1 = ((s + i : Nat) : Int) by omega, show (s : Int) + i - 1 = ((s + i : Nat) : Int) - 1 by omega] at this
        grind)
    have z1 : B (((s + (N + 1 - s - 1) : Nat) : Int) - 1) = 0 := hBz _ (by omega)
    have z2 : B ((s + (N + 1 - s - 1) : Nat) : Int) = 0 := hBz _ (by omega)
    rw [show (g s * B (((s + (N + 1 - s - 1) : Nat) : Int) - 1) - g' s * B ((s + (N + 1 - s - 1) : Nat) : Int)) = 0 by rw [z1, z2]; grind] at this
    rw [Sm_congr (G := fun i => (a s * b (s + (i + 1)) - a (s + (i + 1)) * b s) * ((g s * B (((s + i : Nat) : Int) - 1) - g' s * B ((s + i : Nat) : Int)) - (g s * B (((s + (i + 1) : Nat) : Int) - 1) - g' s * B ((s + (i + 1) : Nat) : Int)))) fun i _ => by
      show (a s * b (s + 1 + i) - a (s + 1 + i) * b s) * (g s * (B (((s + 1 + i : Nat) : Int) - 2) - B (((s + 1 + i : Nat) : Int) - 1)) - g' s * (B (((s + 1 + i : Nat) : Int) - 1) - B ((s + 1 + i : Nat) : Int))) = _
      rw [show s + 1 + i = s + (i + 1) by omega, show ((s + (i + 1) : Nat) : Int) - 2 = ((s + i : Nat) : Int) - 1 by omega, show ((s + (i + 1) : Nat) : Int) - 1 = ((s + i : Nat) : Int) by omega]
      grind]
    grind
  have split : Sm (fun s => Sm (fun r => a s * b r * (g s * g' r - g' s * g r)) (N + 1)) (N + 1) = Sm (fun s => a s * g s) (N + 1) * Sm (fun s => b s * g' s) (N + 1) - Sm (fun s => a s * g' s) (N + 1) * Sm (fun s => b s * g s) (N + 1) := by
    rw [prod, prod, ← Sm_sub]
    refine Sm_congr fun s _ => ?_
    rw [← Sm_sub]
    exact Sm_congr fun r _ => by grind
  rw [split, ← c1, ← c4, ← c3, ← c2] at key
  grind
end FWP

/-! FW: sums of lives: facts about lists. -/
namespace FWP
open PySem FW
section
variable {n m k l : Nat} {A B L : List Rat}
def aI (L : List Rat) (u : Int) : Rat := if u ≤ 0 then 1 else nth L u.toNat
def fr (L : List Rat) (s : Nat) : Rat := aI L ((s : Int) - 1) - aI L s
theorem aI_neg (h : u ≤ 0) : aI L u = 1 := if_pos h
theorem aI_nat (h : LifeN n k L) (t : Nat) : aI L t = nth L t := by
  unfold aI
  by_cases z : t = 0
  · subst z
    rw [if_pos (by omega), nth_of h.first]
  · rw [if_neg (by omega)]; rfl
theorem nth_last (h : LifeN n k L) {t : Nat} (ht : L.length ≤ t + 1) : nth L t = 0 := by
  by_cases e : L.length ≤ t
  · exact nth_ge e
  · have := h.last
    rw [show L.length - 1 = t by omega] at this
    exact nth_of this
theorem aI_big (h : LifeN n k L) {u : Int} (hu : (L.length : Int) - 1 ≤ u) : aI L u = 0 := by
  have h2 := h.len.1
  obtain ⟨t, rfl⟩ : ∃ t : Nat, u = t := ⟨u.toNat, by omega⟩
  rw [aI_nat h]
  exact nth_last h (by omega)
theorem aI_nn (h : LifeN n k L) (u : Int) : 0 ≤ aI L u := by
  unfold aI
  split
  · decide
  · exact h.nth_nn _
theorem nth_fall (h : LifeN n k L) (t : Nat) : nth L (t + 1) ≤ nth L t := by
  by_cases ht : t + 1 < L.length
  · exact h.fall t _ _ (nth_some (by omega)) (nth_some ht)
  · rw [nth_ge (by omega)]; exact h.nth_nn _
theorem aI_fall (h : LifeN n k L) (u : Int) : aI L (u + 1) ≤ aI L u := by
  by_cases hu : u < 0
  · rw [aI_neg (by omega), aI_neg (by omega)]; exact Rat.le_refl
  · obtain ⟨t, rfl⟩ : ∃ t : Nat, u = t := ⟨u.toNat, by omega⟩
    rw [show (t : Int) + 1 = ((t + 1 : Nat) : Int) by omega, aI_nat h, aI_nat h]
    exact nth_fall h t
theorem aI_lc (h : LifeN n k L) (hr : okR L) : LC (aI L) := by
  refine ⟨aI_nn h, aI_fall h, fun a b hab => ?_⟩
  by_cases ha : a < 0
  · rw [aI_neg (show a ≤ 0 by omega), aI_neg (show a + 1 ≤ 0 by omega), Rat.one_mul, Rat.one_mul]
    exact aI_fall h b
  obtain ⟨s, rfl⟩ : ∃ s : Nat, a = s := ⟨a.toNat, by omega⟩
  obtain ⟨t, rfl⟩ : ∃ t : Nat, b = t := ⟨b.toNat, by omega⟩
  rw [show (s : Int) + 1 = ((s + 1 : Nat) : Int) by omega, show (t : Int) + 1 = ((t + 1 : Nat) : Int) by omega]
  simp only [aI_nat h]
  by_cases ht : t + 1 < L.length
  · have hs : s + 1 < L.length := by omega
    have q1 := q_chain hr ht (t - s) (by omega)
    rw [show t - (t - s) = s by omega] at q1
    have p1 := h.posn ht
    have p2 := h.posn hs
    have e1 : nth L (t + 1) = nth L t * qt L t := by unfold qt; grind
    have e2 : nth L (s + 1) = nth L s * qt L s := by unfold qt; grind
    rw [e1, e2]
    have : 0 ≤ (nth L s * nth L t) * (qt L s - qt L t) := Rat.mul_nonneg (Rat.mul_nonneg (h.nth_nn _) (h.nth_nn _)) (by grind)
    grind
  · rw [nth_ge (show L.length ≤ t + 1 by omega), Rat.mul_zero]
    exact Rat.mul_nonneg (h.nth_nn _) (h.nth_nn _)
theorem fr_nn (h : LifeN n k L) (s : Nat) : 0 ≤ fr L s := by
  have := aI_fall h ((s : Int) - 1)
  rw [show (s : Int) - 1 + 1 = s by omega] at this
  unfold fr
  grind
theorem fr_zero : fr L 0 = 0 := by
  unfold fr
  rw [aI_neg (by omega), aI_neg (by omega)]; grind
theorem fr_succ (h : LifeN n k L) (s : Nat) : fr L (s + 1) = nth L s - nth L (s + 1) := by
  unfold fr
  rw [show ((s + 1 : Nat) : Int) - 1 = (s : Int) by omega, aI_nat h, aI_nat h]
theorem fr_big (h : LifeN n k L) {s : Nat} (hs : L.length ≤ s) : fr L s = 0 := by
  unfold fr
  rw [aI_big h (by omega), aI_big h (by omega)]; grind
/-- what fails later than u -/
theorem fr_above (h : LifeN n k L) (u : Int) : ∀ N : Nat, u < N → Sm (fun s => if u < (s : Int) then fr L s else 0) N = aI L u - aI L ((N : Int) - 1)
  | 0, hu => by
    show (0 : Rat) = _
    rw [aI_neg (by omega), aI_neg (by omega)]; grind
  | N + 1, hu => by
    show Sm _ N + (if u < (N : Int) then fr L N else 0) = _
    by_cases e : u < (N : Int)
    · rw [fr_above h u N e, if_pos e, show ((N + 1 : Nat) : Int) - 1 = (N : Int) by omega]
      unfold fr
      grind
    · rw [if_neg e, Sm_zero fun i hi => if_neg (by omega), show ((N + 1 : Nat) : Int) - 1 = u by omega]
      grind
theorem fr_over (h : LifeN n k L) (u : Int) {N : Nat} (hN : L.length ≤ N) : Sm (fun s => if u < (s : Int) then fr L s else 0) N = aI L u := by
  by_cases hu : u < N
  · rw [fr_above h u N hu, aI_big h (show (L.length : Int) - 1 ≤ (N : Int) - 1 by omega)]; grind
  · rw [Sm_zero fun i hi => if_neg (by omega), aI_big h (by omega)]
theorem fr_sum (h : LifeN n k L) {N : Nat} (hN : L.length ≤ N) : Sm (fr L) N = 1 := by
  have := fr_over h (-1) hN
  rw [aI_neg (by omega)] at this
  rw [← this]
  exact Sm_congr fun i _ => (if_pos (by omega)).symm
theorem Sm_le {F G : Nat → Rat} : ∀ {n : Nat}, (∀ i, i < n → F i ≤ G i) → Sm F n ≤ Sm G n
  | 0, _ => Rat.le_refl
  | n + 1, h => by
    have h1 := Sm_le (F := F) (G := G) (n := n) fun i hi => h i (by omega)
    have h2 := h n (by omega)
    show Sm F n + F n ≤ Sm G n + G n
    grind
theorem Sm_mono {F : Nat → Rat} (h : ∀ i, 0 ≤ F i) {m n : Nat} (hm : m ≤ n) : Sm F m ≤ Sm F n := by
  induction n with
  | zero => have : m = 0 := by omega
            rw [this]; exact Rat.le_refl
  | succ n ih =>
    by_cases e : m = n + 1
    · rw [e]; exact Rat.le_refl
    · have := ih (by omega)
      have := h n
      show Sm F m ≤ Sm F n + F n
      grind
theorem Sm_ge {F : Nat → Rat} (h : ∀ i, 0 ≤ F i) {m n : Nat} (hm : m < n) : F m ≤ Sm F n := by
  have h1 := Sm_mono h (m := m + 1) (n := n) (by omega)
  have h2 : 0 ≤ Sm F m := Sm_nn fun i _ => h i
  have h3 : Sm F (m + 1) = Sm F m + F m := rfl
  grind
theorem fr_part (h : LifeN n k L) (N : Nat) : Sm (fr L) N ≤ 1 := by
  have h1 := Sm_mono (fr_nn h) (m := N) (n := N + L.length) (by omega)
  rw [fr_sum h (N := N + L.length) (by omega)] at h1
  exact h1
/-- the sum's chance to last longer than j -/
def Cv (A B : List Rat) (j : Int) : Rat := cv (aI B) (aI A) (A.length + 1) j
theorem nth_map_nats {f : Nat → Rat} {a b t : Nat} (ht : a + t < b) : nth ((nats a b).map f) t = f (a + t) := by
  refine nth_of ?_
  rw [List.getElem?_map]
  unfold nats
  rw [List.getElem?_range' (by omega)]
  show some (f (a + 1 * t)) = _
  rw [Nat.one_mul]
theorem Cv_eq (A B : List Rat) (j : Int) : Cv A B j = Sm (fun s => aI B (j - s) * fr A s) (A.length + 1) := rfl
def Wt (A B : List Rat) (s t : Nat) (j : Int) : Rat := if j < (s : Int) + t then fr A s * fr B t else 0
theorem Cv_due (hA : LifeN n k A) (hB : LifeN m l B) (j : Int) {M N : Nat} (hM : A.length ≤ M) (hN : B.length ≤ N) : Sm (fun s => Sm (fun t => Wt A B s t j) N) M = Cv A B j := by
  rw [Cv_eq, Sm_congr (G := fun s => aI B (j - s) * fr A s) fun s _ => by
    rw [← fr_over hB (j - s) hN, ← Sm_mulr]
    refine Sm_congr fun t _ => ?_
    unfold Wt
    by_cases e : j < (s : Int) + t
    · rw [if_pos e, if_pos (by omega)]; grind
    · rw [if_neg e, if_neg (by omega)]; grind]
  have z : ∀ i, A.length ≤ i → aI B (j - i) * fr A i = 0 := fun i hi => by rw [fr_big hA hi]; grind
  rw [Sm_ext (m := A.length) (n := M) hM fun i h1 _ => z i h1, Sm_ext (m := A.length) (n := A.length + 1) (by omega) fun i h1 _ => z i h1]
theorem Cv_comm (hA : LifeN n k A) (hB : LifeN m l B) (j : Int) : Cv B A j = Cv A B j := by
  rw [← Cv_due hA hB j (Nat.le_refl _) (Nat.le_refl _), ← Cv_due hB hA j (Nat.le_refl _) (Nat.le_refl _), Sm_comm]
  refine Sm_congr fun s _ => Sm_congr fun t _ => ?_
  unfold Wt
  rw [Int.add_comm]
  split
  · grind
  · rfl
/-- as the program adds it up -/
def tp (A B : List Rat) (t j : Nat) : Rat := nth A t + Sm (fun s => fr A (s + 1) * nth B (t - (s + 1))) j
theorem Cv_tp (hA : LifeN n k A) (hB : LifeN m l B) (t : Nat) : tp A B t (min t (A.length - 1)) = Cv A B t := by
  have h2 := hA.len.1
  rw [Cv_eq, Sm_front, fr_zero]
  unfold tp
  have e0 : Sm (fun i => fr A (i + 1)) A.length = 1 := by
    have := fr_sum hA (N := A.length + 1) (by omega)
    rw [Sm_front, fr_zero] at this
    grind
  have e1 : ∀ j, Sm (fun i => fr A (i + 1)) j = 1 - nth A j := fun j => by
    induction j with
    | zero =>
      show (0 : Rat) = 1 - nth A 0
      rw [nth_of hA.first]; grind
    | succ j ih =>
      show Sm (fun i => fr A (i + 1)) j + fr A (j + 1) = _
      rw [ih, fr_succ hA]; grind
  have e2 : Sm (fun i => aI B (t - ((i + 1 : Nat) : Int)) * fr A (i + 1)) A.length = Sm (fun i => (aI B (t - ((i + 1 : Nat) : Int)) - 1) * fr A (i + 1)) A.length + 1 := by
    rw [← e0, ← Sm_add]
    exact Sm_congr fun i _ => by grind
  have e3 : Sm (fun i => (aI B (t - ((i + 1 : Nat) : Int)) - 1) * fr A (i + 1)) A.length = Sm (fun i => (aI B (t - ((i + 1 : Nat) : Int)) - 1) * fr A (i + 1)) (min t (A.length - 1)) := by
    refine Sm_ext (by omega) fun i h1 h3 => ?_
    by_cases e : t ≤ i
    · rw [aI_neg (by omega)]; grind
    · rw [fr_big hA (by omega)]; grind
  have e4 : Sm (fun i => (aI B (t - ((i + 1 : Nat) : Int)) - 1) * fr A (i + 1)) (min t (A.length - 1)) = Sm (fun s => fr A (s + 1) * nth B (t - (s + 1))) (min t (A.length - 1)) - Sm (fun i => fr A (i + 1)) (min t (A.length - 1)) := by
    rw [← Sm_sub]
    refine Sm_congr fun i hi => ?_
    rw [show (t : Int) - ((i + 1 : Nat) : Int) = ((t - (i + 1) : Nat) : Int) by omega, aI_nat hB]
    grind
  have e5 : nth A t = nth A (min t (A.length - 1)) := by
    by_cases e : t ≤ A.length - 1
    · rw [Nat.min_eq_left e]
    · rw [Nat.min_eq_right (by omega), nth_last hA (by omega), nth_last hA (by omega)]
  rw [e2, e3, e4, e1, e5]
  grind
theorem nth_le_one (h : LifeN n k L) (t : Nat) : nth L t ≤ 1 := by
  by_cases ht : t < L.length
  · exact (h.ch _ (nth_mem ht)).2
  · rw [nth_ge (by omega)]; decide
theorem tp_bd (hA : LifeN n k A) (hB : LifeN m l B) (t j : Nat) : 0 ≤ tp A B t j ∧ tp A B t j ≤ 2 := by
  have h1 : 0 ≤ Sm (fun s => fr A (s + 1) * nth B (t - (s + 1))) j := Sm_nn fun i _ => Rat.mul_nonneg (fr_nn hA _) (hB.nth_nn _)
  have h2 : Sm (fun s => fr A (s + 1) * nth B (t - (s + 1))) j ≤ Sm (fun s => fr A (s + 1)) j := Sm_le fun i _ => by
    have := Rat.mul_nonneg (fr_nn hA (i + 1)) (show 0 ≤ 1 - nth B (t - (i + 1)) by have := nth_le_one hB (t - (i + 1)); grind)
    grind
  have h3 : Sm (fun s => fr A (s + 1)) j ≤ 1 := by
    have := fr_part hA (j + 1)
    rw [Sm_front, fr_zero] at this
    grind
  have h4 := nth_le_one hA t
  have h5 := hA.nth_nn t
  unfold tp
  constructor <;> grind
theorem Cm.nth {D : Int} (h : ∀ q ∈ L, Cm D q) (t : Nat) : Cm D (nth L t) := by
  by_cases ht : t < L.length
  · exact h _ (nth_mem ht)
  · rw [nth_ge (by omega)]; exact Cm.zero
theorem Cm.aI {D : Int} (h : ∀ q ∈ L, Cm D q) (u : Int) : Cm D (aI L u) := by
  unfold FWP.aI
  split
  · exact Cm.one
  · exact Cm.nth h _
theorem Cm.fr {D : Int} (h : ∀ q ∈ L, Cm D q) (s : Nat) : Cm D (fr L s) := (Cm.aI h _).sub (Cm.aI h _)
theorem Cm.Sm {D : Int} {F : Nat → Rat} : ∀ {n : Nat}, (∀ i, i < n → Cm D (F i)) → Cm D (Sm F n)
  | 0, _ => Cm.zero
  | n + 1, h => (Cm.Sm fun i hi => h i (by omega)).add (h n (by omega))
theorem Cm.tp {D E : Int} (hA : ∀ q ∈ A, Cm D q) (hB : ∀ q ∈ B, Cm E q) (t j : Nat) : Cm (D * E) (tp A B t j) :=
  ((Cm.nth hA t).up E).add (Cm.Sm fun i _ => (Cm.fr hA _).mul (Cm.nth hB _))
/-- the sum as a life -/
def sl (A B : List Rat) : List Rat := (nats 0 (A.length + B.length - 1)).map fun (t : Nat) => Cv A B (t : Int)
theorem sl_len (A B : List Rat) : (sl A B).length = A.length + B.length - 1 := by unfold sl; rw [List.length_map, nats_len]; omega
theorem sl_nth {t : Nat} (ht : t < A.length + B.length - 1) : nth (sl A B) t = Cv A B t := by
  have := nth_map_nats (f := fun t => Cv A B (t : Int)) (a := 0) (b := A.length + B.length - 1) (t := t) (by omega)
  unfold sl
  rw [this, Nat.zero_add]
end
end FWP

/-! FW: sums of lives: what the defs compute. -/
namespace FWP
open PySem FW
section
variable {n m k l : Nat} {A B L : List Rat} {S : Store}
/-- a life with a common denominator -/
structure CL (N : Nat) (L : List Rat) (D : Int) : Prop where
  pos : 0 < D
  le : D.toNat ≤ N
  all : ∀ q ∈ L, Cm D q
theorem CL.mul_le {N M : Nat} {D E : Int} (hA : CL N A D) (hB : CL M B E) : 0 < D * E ∧ (D * E).toNat ≤ N * M := by
  have h1 := hA.pos
  have h2 := hB.pos
  refine ⟨Int.mul_pos h1 h2, ?_⟩
  rw [Int.toNat_mul (by omega) (by omega)]
  exact Nat.mul_le_mul hA.le hB.le
theorem tp_Bd {D E : Int} (hA : LifeN n k A) (hB : LifeN m l B) (cA : CL (10 ^ 9) A D) (cB : CL (10 ^ 9) B E) (t j : Nat) : Bd 64 (tp A B t j) := by
  obtain ⟨h1, h2⟩ := cA.mul_le cB
  obtain ⟨b0, b2⟩ := tp_bd hA hB t j
  refine (Cm.tp cA.all cB.all t j).bd (M := 2) h1 b0 b2 ?_
  have : (2 : Nat) ^ 64 = 18446744073709551616 := by decide
  have : (10 : Nat) ^ 9 * 10 ^ 9 = 1000000000000000000 := by decide
  omega
theorem ixOf_rvs : ∀ {L : List Rat} {n : Nat}, n < L.length → nth L n = 0 → (∀ j, j < n → nth L j ≠ 0) → ixOf (rv 0) (rvs L) = some n
  | [], n, h, _, _ => absurd h (Nat.not_lt_zero n)
  | q :: L, n, h, hz, hp => by
    show (if eqv (rv q) (rv 0) = true then some 0 else (ixOf (rv 0) (rvs L)).map (· + 1)) = some n
    rw [eqv_rv]
    cases n with
    | zero =>
      have : q = 0 := hz
      rw [if_pos (decide_eq_true this)]
    | succ n =>
      have h0 : q ≠ 0 := hp 0 (by omega)
      rw [if_neg (by simpa using h0), ixOf_rvs (L := L) (n := n) (by simpa using h) hz fun j hj => hp (j + 1) (by omega)]
      rfl
theorem dpLes_rvs : ∀ L : List Rat, dpLes 8 (rvs L) = true
  | [] => rfl
  | q :: L => by
    show (dpLe 8 (rv q) && dpLes 8 (rvs L)) = true
    rw [dpLes_rvs L]; rfl
theorem index_rvs (hn : n < L.length) (hz : nth L n = 0) (hp : ∀ j, j < n → nth L j ≠ 0) : indexOp (.v (.lst (rvs L))) (.v (rv 0)) S = .ok (.v (.int n)) S := by
  show (if (noFn (rv 0) && noFns (rvs L) && dpLe 8 (rv 0) && dpLes 8 (rvs L)) = true then (match ixOf (rv 0) (rvs L) with
      | some j => Out.ok (SV.v (.int j)) S
      | none => .bad) else .bad) = _
  rw [noFns_rvs, dpLes_rvs, ixOf_rvs hn hz hp, if_pos (by rfl)]
theorem F_ended_eq (hn : n < L.length) (hz : nth L n = 0) (hp : ∀ j, j < n → nth L j ≠ 0) (hl : L.length ≤ 1000) : F_ended [.v (.lst (rvs L))] S = .ok (.v (lv (L.take (n + 1)))) S := by
  have hi := fun S => index_rvs (S := S) hn hz hp
  have hc : cut (rvs L) none (some ((n : Int) + 1)) = rvs (L.take (n + 1)) := by
    have := cut_to (xs := rvs L) (t := n + 1) (by rw [rvs_len]; omega)
    rw [show (n : Int) + 1 = ((n + 1 : Nat) : Int) by omega, this]
    exact List.map_take.symm
  have hlt : (rvs (L.take (n + 1))).length ≤ 16777216 := by rw [rvs_len, List.length_take]; omega
  simp only [lv] at *
  generalize rvs (L.take (n + 1)) = R at *
  have hls : isLs S (.v (.lst (rvs L))) = true := rfl
  generalize rvs L = Ls at *
  rw [rv_zero] at hi
  simp -implicitDefEqProofs [F_ended, d_ended, sIndex, hi, hls, hc, hlt, line]
theorem F_lended_eq (hn : n < L.length) (hz : nth L n = 0) (hp : ∀ j, j < n → nth L j ≠ 0) (hl : L.length ≤ 1000) : F__law_ended [.v (.lst (rvs L))] S = .ok (.v (lv (L.take (n + 1)))) S := by
  have hi := fun S => index_rvs (S := S) hn hz hp
  have hc : cut (rvs L) none (some ((n : Int) + 1)) = rvs (L.take (n + 1)) := by
    have := cut_to (xs := rvs L) (t := n + 1) (by rw [rvs_len]; omega)
    rw [show (n : Int) + 1 = ((n + 1 : Nat) : Int) by omega, this]
    exact List.map_take.symm
  have hlt : (rvs (L.take (n + 1))).length ≤ 16777216 := by rw [rvs_len, List.length_take]; omega
  simp only [lv] at *
  generalize rvs (L.take (n + 1)) = R at *
  have hls : isLs S (.v (.lst (rvs L))) = true := rfl
  generalize rvs L = Ls at *
  rw [rv_zero] at hi
  simp -implicitDefEqProofs [F__law_ended, d__law_ended, sIndex, hi, hls, hc, hlt, line]
/-! ### sum_life -/
theorem tp_0 (A B : List Rat) (t : Nat) : tp A B t 0 = nth A t := by
  show nth A t + 0 = _
  grind
theorem fl_at (hA : Life k A) {s : Nat} (h1 : 1 ≤ s) (h2 : s < A.length) : (rvs (0 :: fl A))[s]? = some (rv (fr A s)) := by
  obtain ⟨s, rfl⟩ : ∃ r, s = r + 1 := ⟨s - 1, by omega⟩
  have : nth (0 :: fl A) (s + 1) = fr A (s + 1) := by
    rw [fr_succ hA]
    exact nth_fl hA s
  rw [← this]
  refine rvs_nth ?_
  show s + 1 < (fl A).length + 1
  unfold fl
  rw [List.length_map, nats_len]
  omega
def itS : CI := .rng2 (.k (.int 1)) (.bin .add false (.bi .min2 false (.cons (.var 2) (.cons (.bin .sub false (.bi .len false (.cons (.var 0) .nil)) (.k (.int 1))) .nil))) (.k (.int 1)))
theorem sum_inner {D E : Int} (hA : Life k A) (hB : Life l B) (cA : CL (10 ^ 9) A D) (cB : CL (10 ^ 9) B E) (hk : k ≤ 100) (hl : l ≤ 100) (hk1 : 1 ≤ k) (hl1 : 1 ≤ l) {t p : Nat} (ht : t ≤ 100) (z : Option SV) : ∃ z', evS g_sum_life (.forr (.name 6) itS b_sum_life_1 []) [some (.v (lv A)), some (.v (lv B)), some (I t), some (.v (.lst (rvs (0 :: fl A)))), some (.l p), some (.v (rv (nth A t))), z] S =
    .ok (.next [some (.v (lv A)), some (.v (lv B)), some (I t), some (.v (.lst (rvs (0 :: fl A)))), some (.l p), some (.v (rv (Cv A B t))), z']) S := by
  obtain ⟨h2, h13⟩ := hA.len
  obtain ⟨ρ', S', e, z', hI, rfl⟩ := forL_inv (f := sTurn (bindG (.name 6)) (evB g_sum_life b_sum_life_1)) (fun i ρ S' => ∃ z, ρ = [some (.v (lv A)), some (.v (lv B)), some (I t), some (.v (.lst (rvs (0 :: fl A)))), some (.l p), some (.v (rv (tp A B t i))), z] ∧ S' = S) ((nats 1 (min t (A.length - 1) + 1)).map iv) 0 (ρ := [some (.v (lv A)), some (.v (lv B)), some (I t), some (.v (.lst (rvs (0 :: fl A)))), some (.l p), some (.v (rv (tp A B t 0))), z]) (S := S) (fun j y ρ S' hy hI => by
    obtain ⟨z, rfl, rfl⟩ := hI
    obtain ⟨s, rfl, hs, hj⟩ := iv_get hy
    rw [Nat.zero_add]
    have hs1 : 1 ≤ s := by omega
    have hst : s ≤ t := by omega
    have hsA : s < A.length := by omega
    have hat := fl_at hA hs1 hsA
    have bf : Bd (k + k + 1) (fr A s) := by
      obtain ⟨r, rfl⟩ : ∃ r, s = r + 1 := ⟨s - 1, by omega⟩
      rw [fr_succ hA]
      exact Bd.fF hA hk1 r
    have bi := hB.bdn (t - s) hl1
    have o1 : ∀ S, F_item [.v (lv B), I (t - s : Nat)] S = .ok (.v (rv (nth B (t - s)))) S := fun S => F_item_eq (S := S) (L := B) false (t - s)
    have o2 := fun S => F_times_eq (S := S) bf bi (by omega)
    have o3 := fun S => F_plus_eq (S := S) (tp_Bd hA hB cA cB t j) (bf.mul bi) (by omega)
    have en : tp A B t j + fr A s * nth B (t - s) = tp A B t (j + 1) := by
      rw [hs]
      unfold tp
      show _ = nth A t + (Sm _ j + fr A (j + 1) * nth B (t - (j + 1)))
      rw [Nat.add_comm 1 j]
      grind
    rw [en] at o3
    have hlen : (rvs (0 :: fl A)).length = A.length := by
      rw [rvs_len]
      show (fl A).length + 1 = _
      unfold fl
      rw [List.length_map, nats_len]; omega
    have hts : (t : Int) - s = ((t - s : Nat) : Int) := by omega
    refine ⟨_, _, ?_, some (I s), rfl, rfl⟩
    generalize rvs (0 :: fl A) = R at *
    have hat' := (List.getElem?_eq_some_iff.mp hat).2
    simp only [lv] at *
    generalize rvs A = As at *
    generalize rvs B = Bs at *
    generalize fr A s = q at *
    simp -implicitDefEqProofs [b_sum_life_1, iv, -ix?, ix_nat, hlen, hsA, hat', hts, o1, o2, o3]) ⟨z, rfl, rfl⟩
  subst hI
  rw [List.length_map, nats_len, Nat.zero_add, Nat.add_sub_cancel, Cv_tp hA hB] at e
  refine ⟨z', ?_⟩
  rw [tp_0] at e
  have hlA : (rvs A).length = A.length := rvs_len A
  exact for_r2 (x := 1) (y := (if ((A.length : Int) - 1) < t then (A.length : Int) - 1 else t) + 1) (m := 1) (n := min t (A.length - 1) + 1) rfl (by
    simp only [lv] at *
    generalize rvs A = As at *
    simp -implicitDefEqProofs [hlA]) rfl (by split <;> omega) (by omega) (by omega) e
theorem sl_take {i : Nat} (hi : i < A.length + B.length - 1) : (sl A B).take (i + 1) = (sl A B).take i ++ [Cv A B i] := by
  have hl : i < (sl A B).length := by rw [sl_len]; exact hi
  rw [List.take_succ_eq_append_getElem hl, get_nth hl, sl_nth hi]
theorem sum_body {D E : Int} (hA : Life k A) (hB : Life l B) (cA : CL (10 ^ 9) A D) (cB : CL (10 ^ 9) B E) (hk : k ≤ 100) (hl : l ≤ 100) (hk1 : 1 ≤ k) (hl1 : 1 ≤ l) {t : Nat} (ht : t ≤ 100) {P : List PV} (hP : P.length ≤ 100) (z2 z5 z6 : Option SV) : ∃ z', sTurn (bindG (.name 2)) (evB g_sum_life b_sum_life_0) (iv t) [some (.v (lv A)), some (.v (lv B)), z2, some (.v (.lst (rvs (0 :: fl A)))), some (.l S.length), z5, z6] (S ++ [.lst P]) =
    .ok (.next [some (.v (lv A)), some (.v (lv B)), some (I t), some (.v (.lst (rvs (0 :: fl A)))), some (.l S.length), some (.v (rv (Cv A B t))), z']) (S ++ [.lst (P ++ [rv (Cv A B t)])]) := by
  obtain ⟨z', e⟩ := sum_inner (S := S ++ [.lst P]) (p := S.length) hA hB cA cB hk hl hk1 hl1 ht z6
  refine ⟨z', ?_⟩
  have o : ∀ S, F_item [.v (lv A), I t] S = .ok (.v (rv (nth A t))) S := fun S => F_item_eq (S := S) (L := A) false t
  have hq := seqOf_l (at_new S (.lst P))
  have hP2 : P.length < 16777216 := by omega
  have ha := isLst_l (at_new S (.lst P))
  simp only [itS] at e
  generalize lv A = As at *
  generalize lv B = Bs at *
  generalize rvs (0 :: fl A) = R at *
  generalize Cv A B t = c at *
  simp -implicitDefEqProofs [b_sum_life_0, iv, o, e, hq, ha, at_new, set_new, line, hP2]
theorem Cv_pos (hA : LifeN n k A) (hB : LifeN m l B) {t : Nat} (ht : t + 2 < A.length + B.length) : 0 < Cv A B t := by
  obtain ⟨a2, _⟩ := hA.len
  obtain ⟨b2, _⟩ := hB.len
  have h1 : aI B ((t : Int) - (A.length - 1 : Nat)) * fr A (A.length - 1) ≤ Cv A B t := by
    rw [Cv_eq]
    exact Sm_ge (F := fun s => aI B (t - s) * fr A s) (fun i => Rat.mul_nonneg (aI_nn hB _) (fr_nn hA _)) (by omega)
  have h2 : 0 < fr A (A.length - 1) := by
    rw [show A.length - 1 = A.length - 2 + 1 by omega, fr_succ hA, nth_last hA (t := A.length - 2 + 1) (by omega)]
    have := hA.posn (t := A.length - 2) (by omega)
    grind
  have h3 : 0 < aI B ((t : Int) - (A.length - 1 : Nat)) := by
    by_cases u : (t : Int) - (A.length - 1 : Nat) ≤ 0
    · rw [aI_neg u]; decide
    · obtain ⟨r, hr⟩ : ∃ r : Nat, (t : Int) - (A.length - 1 : Nat) = r := ⟨((t : Int) - (A.length - 1 : Nat)).toNat, by omega⟩
      rw [hr, aI_nat hB]
      exact hB.posn (by omega)
  have := Rat.mul_pos h3 h2
  grind
theorem Cv_zero (hA : LifeN n k A) (hB : LifeN m l B) {t : Nat} (ht : A.length + B.length ≤ t + 2) : Cv A B t = 0 := by
  obtain ⟨a2, _⟩ := hA.len
  obtain ⟨b2, _⟩ := hB.len
  rw [Cv_eq]
  refine Sm_zero fun s hs => ?_
  by_cases e : A.length ≤ s
  · rw [fr_big hA e]; grind
  · rw [aI_big hB (by omega)]; grind
theorem F_sum_life_eq {D E : Int} (hA : Life k A) (hB : Life l B) (cA : CL (10 ^ 9) A D) (cB : CL (10 ^ 9) B E) (hk : k ≤ 100) (hl : l ≤ 100) (hk1 : 1 ≤ k) (hl1 : 1 ≤ l) : F_sum_life [.v (lv A), .v (lv B)] S = .ok (.v (lv (sl A B))) S := by
  obtain ⟨a2, a13⟩ := hA.len
  obtain ⟨b2, b13⟩ := hB.len
  obtain ⟨ρ', S', e, z2, z5, z6, hI, rfl⟩ := forL_inv (f := sTurn (bindG (.name 2)) (evB g_sum_life b_sum_life_0)) (fun i ρ S' => ∃ z2 z5 z6, ρ = [some (.v (lv A)), some (.v (lv B)), z2, some (.v (.lst (rvs (0 :: fl A)))), some (.l S.length), z5, z6] ∧ S' = S ++ [.lst (rvs ((sl A B).take i))]) ((nats 0 (A.length + B.length - 1)).map iv) 0 (ρ := [some (.v (lv A)), some (.v (lv B)), none, some (.v (.lst (rvs (0 :: fl A)))), some (.l S.length), none, none]) (S := S ++ [.lst (rvs ((sl A B).take 0))]) (fun j y ρ S' hy hI => by
    obtain ⟨z2, z5, z6, rfl, rfl⟩ := hI
    obtain ⟨t, rfl, ht, hj⟩ := iv_get hy
    rw [Nat.zero_add] at *
    subst ht
    obtain ⟨z', e⟩ := sum_body (S := S) (P := rvs ((sl A B).take t)) hA hB cA cB hk hl hk1 hl1 (t := t) (by omega) (by rw [rvs_len, List.length_take]; omega) z2 z5 z6
    refine ⟨_, _, e, _, _, _, rfl, ?_⟩
    rw [rvs_snoc, sl_take hj]) ⟨none, none, none, rfl, rfl⟩
  subst hI
  have tk : (sl A B).take (A.length + B.length - 1) = sl A B := List.take_of_length_le (by rw [sl_len]; exact Nat.le_refl _)
  rw [List.length_map, nats_len, Nat.zero_add, Nat.sub_zero, tk] at e
  have hlA : (rvs A).length = A.length := rvs_len A
  have hlB : (rvs B).length = B.length := rvs_len B
  have n1 := fun S => F_need_life_eq (S := S) hA (by omega)
  have n2 := fun S => F_need_life_eq (S := S) hB (by omega)
  have o := fun S => F_fails_of_eq (S := S) hA hk1 (by omega)
  have oe := fun S => F_ended_eq (S := S) (L := sl A B) (n := A.length + B.length - 2) (by rw [sl_len]; omega) (by rw [sl_nth (by omega), Cv_zero hA hB (by omega)]) (fun j hj => by
    rw [sl_nth (by omega)]
    have := Cv_pos hA hB (t := j) (by omega)
    grind) (by rw [sl_len]; omega)
  rw [List.take_of_length_le (by rw [sl_len]; omega)] at oe
  have e' := for_r1 (Γ := g_sum_life) (tg := .name 2) (a := .bin .sub false (.bin .add false (.bi .len false (.cons (.var 0) .nil)) (.bi .len false (.cons (.var 1) .nil))) (.k (.int 1))) (c := b_sum_life_0) (x := (A.length : Int) + B.length - 1) (m := A.length + B.length - 1) (by
    simp only [lv] at *
    generalize rvs A = As at *
    generalize rvs B = Bs at *
    simp -implicitDefEqProofs [hlA, hlB]) (by omega) (by omega) e
  have hq := seqOf_l (at_new S (.lst (rvs (sl A B))))
  have ha := at_new S (.lst (rvs (sl A B)))
  rw [List.take_zero, show rvs [] = [] from rfl] at e'
  generalize lv A = As at *
  generalize lv B = Bs at *
  generalize rvs (0 :: fl A) = R at *
  generalize lv (sl A B) = Fv at *
  generalize rvs (sl A B) = Fs at *
  simp -implicitDefEqProofs [F_sum_life, d_sum_life, n1, n2, o, e', hq, ha, oe, line]
end
end FWP

/-! FW: sums of lives: a life again, its mean, its kind. -/
namespace FWP
open PySem FW
section
variable {n m k l : Nat} {A B L : List Rat} {S : Store}
theorem Cv_Bd {D E : Int} (hA : LifeN n k A) (hB : LifeN m l B) (cA : CL (10 ^ 9) A D) (cB : CL (10 ^ 9) B E) (t : Nat) : Bd 64 (Cv A B t) := by
  rw [← Cv_tp hA hB]
  exact tp_Bd hA hB cA cB _ _
theorem Cv_nn (hA : LifeN n k A) (hB : LifeN m l B) (t : Int) : 0 ≤ Cv A B t := by
  rw [Cv_eq]
  exact Sm_nn fun i _ => Rat.mul_nonneg (aI_nn hB _) (fr_nn hA _)
theorem aI_le_one (h : LifeN n k L) (u : Int) : aI L u ≤ 1 := by
  unfold aI
  split
  · decide
  · exact nth_le_one h _
theorem Cv_le_one (hA : LifeN n k A) (hB : LifeN m l B) (t : Int) : Cv A B t ≤ 1 := by
  rw [Cv_eq, ← fr_sum hA (N := A.length + 1) (by omega)]
  refine Sm_le fun i _ => ?_
  have := Rat.mul_nonneg (fr_nn hA i) (show 0 ≤ 1 - aI B (t - i) by have := aI_le_one hB (t - i); grind)
  grind
theorem Cv_fall (hA : LifeN n k A) (hB : LifeN m l B) (t : Int) : Cv A B (t + 1) ≤ Cv A B t := by
  rw [Cv_eq, Cv_eq]
  refine Sm_le fun i _ => ?_
  have h1 := aI_fall hB (t - i)
  rw [show t - (i : Int) + 1 = t + 1 - i by omega] at h1
  have := Rat.mul_nonneg (fr_nn hA i) (show 0 ≤ aI B (t - i) - aI B (t + 1 - i) by grind)
  grind
theorem Cv_first (hA : LifeN n k A) (hB : LifeN m l B) : Cv A B 0 = 1 := by
  have := Cv_tp hA hB 0
  rw [Nat.zero_min, tp_0, nth_of hA.first] at this
  exact this.symm
theorem sl_at {t : Nat} {q : Rat} (h : (sl A B)[t]? = some q) : t < A.length + B.length - 1 ∧ q = Cv A B t := by
  have ht : t < (sl A B).length := (List.getElem?_eq_some_iff.mp h).1
  rw [sl_len] at ht
  refine ⟨ht, ?_⟩
  have := nth_of h
  rw [sl_nth ht] at this
  exact this.symm
theorem sl_some {t : Nat} (ht : t < A.length + B.length - 1) : (sl A B)[t]? = some (Cv A B t) := by
  rw [← sl_nth ht]
  exact nth_some (by rw [sl_len]; exact ht)
theorem sl_life {D E : Int} (hA : Life k A) (hB : Life l B) (cA : CL (10 ^ 9) A D) (cB : CL (10 ^ 9) B E) : LifeN 25 64 (sl A B) := by
  obtain ⟨a2, a13⟩ := hA.len
  obtain ⟨b2, b13⟩ := hB.len
  refine ⟨by rw [sl_len]; omega, fun q hq => ?_, fun q hq => ?_, ?_, ?_, fun q hq => ?_, fun t q r hq hr => ?_⟩
  · obtain ⟨t, ht⟩ := List.getElem?_of_mem hq
    rw [(sl_at ht).2]
    exact Cv_Bd hA hB cA cB t
  · obtain ⟨t, ht⟩ := List.getElem?_of_mem hq
    rw [(sl_at ht).2]
    exact ⟨Cv_nn hA hB _, Cv_le_one hA hB _⟩
  · rw [sl_some (by omega)]
    exact congrArg some (Cv_first hA hB)
  · rw [sl_len, sl_some (by omega), Cv_zero hA hB (by omega)]
  · obtain ⟨t, ht⟩ := List.getElem?_of_mem hq
    have hl : t < (sl A B).dropLast.length := (List.getElem?_eq_some_iff.mp ht).1
    rw [List.length_dropLast, sl_len] at hl
    rw [List.dropLast_eq_take, List.getElem?_take_of_lt (by rw [sl_len]; omega)] at ht
    rw [(sl_at ht).2]
    have := Cv_pos hA hB (t := t) (by omega)
    grind
  · rw [(sl_at hq).2, (sl_at hr).2]
    exact Cv_fall hA hB t
theorem sl_comm (hA : LifeN n k A) (hB : LifeN m l B) : sl B A = sl A B := by
  unfold sl
  rw [Nat.add_comm B.length]
  refine List.map_congr_left fun t _ => ?_
  exact Cv_comm hA hB t
theorem sl_ages (hA : Life k A) (hB : Life l B) (rA : okR A) (rB : okR B) : okR (sl A B) := by
  intro t ht
  rw [sl_len] at ht
  unfold qt
  rw [sl_nth (t := t) (by omega), sl_nth (t := t + 1) (by omega), sl_nth (t := t + 1 + 1) (by omega)]
  have h := cv_lc (aI_lc hB rB) (aI_lc hA rA) (N := A.length) (fun u hu => by rw [aI_neg hu, aI_neg (by omega)]) (fun u hu => aI_big hA hu) ((t : Int) + 1)
  have p0 := Cv_pos hA hB (t := t) (by omega)
  have p1 := Cv_pos hA hB (t := t + 1) (by omega)
  have h' : Cv A B t * Cv A B ((t + 1 + 1 : Nat) : Int) ≤ Cv A B ((t + 1 : Nat) : Int) * Cv A B ((t + 1 : Nat) : Int) := by
    rw [show (t : Int) + 1 - 1 = t by omega] at h
    exact h
  rw [le_div p1]
  generalize Cv A B t = a at *
  generalize Cv A B ((t + 1 : Nat) : Int) = b at *
  generalize Cv A B ((t + 1 + 1 : Nat) : Int) = c at *
  refine Rat.le_of_mul_le_mul_left ?_ p0
  have : a * (b / a * b) = b * b := by grind
  rw [this]
  exact h'
/-! ### the mean -/
theorem sumR_nats (f : Nat → Rat) : ∀ n, sumR ((nats 0 n).map f) = Sm f n
  | 0 => rfl
  | n + 1 => by
    rw [nats_snoc (by omega), List.map_append, List.map_singleton, sumR_snoc, sumR_nats f n]
    rfl
theorem list_nats (L : List Rat) : L = (nats 0 L.length).map (nth L) := by
  refine List.ext_getElem? fun i => ?_
  by_cases h : i < L.length
  · rw [nth_some h, List.getElem?_map]
    unfold nats
    rw [List.getElem?_range' (by omega)]
    show _ = some (nth L (0 + 1 * i))
    rw [Nat.one_mul, Nat.zero_add]
  · rw [List.getElem?_eq_none (by omega), List.getElem?_eq_none (by rw [List.length_map, nats_len]; omega)]
theorem Sm_count (w : Rat) {s : Nat} : ∀ {n : Nat}, s ≤ n → Sm (fun t => if (t : Int) < (s : Int) then w else 0) n = (s : Rat) * w
  | 0, h => by
    have : s = 0 := by omega
    subst this
    show (0 : Rat) = ((0 : Nat) : Rat) * w
    have : ((0 : Nat) : Rat) = 0 := rfl
    rw [this]; grind
  | n + 1, h => by
    by_cases e : s = n + 1
    · subst e
      have : Sm (fun t => if (t : Int) < ((n + 1 : Nat) : Int) then w else 0) (n + 1) = Sm (fun _ => w) (n + 1) := Sm_congr fun i hi => if_pos (by omega)
      rw [this]
      clear this h
      induction n with
      | zero =>
        show (0 : Rat) + w = ((1 : Nat) : Rat) * w
        have : ((1 : Nat) : Rat) = 1 := rfl
        rw [this]; grind
      | succ n ih =>
        show Sm (fun _ => w) (n + 1) + w = _
        rw [ih]
        have : ((n + 1 + 1 : Nat) : Rat) = ((n + 1 : Nat) : Rat) + 1 := by push_cast; rfl
        rw [this]; grind
    · show Sm _ n + (if (n : Int) < (s : Int) then w else 0) = _
      rw [Sm_count w (by omega), if_neg (by omega)]; grind
theorem mean_fr (h : LifeN n k L) {N : Nat} (hN : L.length ≤ N) : sumR L = Sm (fun s => (s : Rat) * fr L s) N := by
  have e1 : sumR L = Sm (nth L) L.length := by
    conv => lhs; rw [list_nats L]
    exact sumR_nats _ _
  rw [e1, ← Sm_ext (F := nth L) hN fun i h1 _ => nth_ge h1, Sm_congr (G := fun t => Sm (fun s => if (t : Int) < (s : Int) then fr L s else 0) N) fun t _ => by rw [fr_over h t hN, aI_nat h], Sm_comm]
  refine Sm_congr fun s hs => ?_
  exact Sm_count _ (by omega)
theorem sl_mean (hA : LifeN n k A) (hB : LifeN m l B) : sumR (sl A B) = sumR A + sumR B := by
  obtain ⟨a2, _⟩ := hA.len
  obtain ⟨b2, _⟩ := hB.len
  have e : sumR (sl A B) = Sm (fun t => Sm (fun s => Sm (fun r => Wt A B s r t) B.length) A.length) (A.length + B.length - 1) := by
    unfold sl
    rw [sumR_nats]
    refine Sm_congr fun t _ => ?_
    exact (Cv_due hA hB t (Nat.le_refl _) (Nat.le_refl _)).symm
  rw [e, Sm_comm, Sm_congr (G := fun s => (s : Rat) * fr A s + sumR B * fr A s) fun s hs => by
    rw [Sm_comm, Sm_congr (G := fun r => (s : Rat) * fr A s * fr B r + fr A s * ((r : Rat) * fr B r)) fun r hr => by
      have h1 := Sm_count (fr A s * fr B r) (s := s + r) (n := A.length + B.length - 1) (by omega)
      have h2 : ((s + r : Nat) : Rat) = (s : Rat) + (r : Rat) := by push_cast; rfl
      rw [h2] at h1
      have h3 : Sm (fun t => Wt A B s r (t : Int)) (A.length + B.length - 1) = Sm (fun t => if (t : Int) < ((s + r : Nat) : Int) then fr A s * fr B r else 0) (A.length + B.length - 1) := Sm_congr fun t _ => by
        unfold Wt
        rw [show ((s + r : Nat) : Int) = (s : Int) + r by omega]
      rw [h3, h1]; grind, Sm_add, Sm_mul, Sm_mul, fr_sum hB (Nat.le_refl _), ← mean_fr hB (Nat.le_refl _)]
    grind, Sm_add, Sm_mul, fr_sum hA (Nat.le_refl _), ← mean_fr hA (Nat.le_refl _)]
  grind
end
end FWP

/-! FW: spares that wait: the plain law. -/
namespace FWP
open PySem FW
section
variable {f m : Rat} {K : Nat}
/-- how many parts are being repaired -/
def bz (K j : Nat) : Rat := ((min (j + 1) K : Nat) : Rat)
def sr (f m : Rat) (K : Nat) : Nat → Rat
  | 0 => 1
  | j + 1 => sr f m K j * f / (m * bz K j)
theorem bz_pos (hK : 1 ≤ K) (j : Nat) : 0 < bz K j := by
  unfold bz
  exact_mod_cast (show 0 < min (j + 1) K by omega)
theorem bz_le (j n : Nat) (h : j ≤ n) : bz K j ≤ bz K n := by
  unfold bz
  exact_mod_cast (show min (j + 1) K ≤ min (n + 1) K by omega)
theorem sr_pos (hf : 0 < f) (hm : 0 < m) (hK : 1 ≤ K) : ∀ j, 0 < sr f m K j
  | 0 => by show (0 : Rat) < 1; decide
  | j + 1 => by
    show 0 < sr f m K j * f / (m * bz K j)
    rw [Rat.div_def]
    exact Rat.mul_pos (Rat.mul_pos (sr_pos hf hm hK j) hf) (Rat.inv_pos.mpr (Rat.mul_pos hm (bz_pos hK j)))
theorem sr_step (hm : 0 < m) (hK : 1 ≤ K) (j : Nat) : sr f m K j * f = sr f m K (j + 1) * (m * bz K j) := by
  have h := Rat.mul_pos hm (bz_pos hK j)
  show _ = sr f m K j * f / (m * bz K j) * (m * bz K j)
  grind
/-- the last one's share falls -/
theorem sr_last (hf : 0 < f) (hm : 0 < m) (hK : 1 ≤ K) (n : Nat) : sr f m K (n + 1) * Sm (sr f m K) (n + 1) ≤ sr f m K n * Sm (sr f m K) (n + 2) := by
  have key : ∀ j, j ≤ n → sr f m K (n + 1) * sr f m K j ≤ sr f m K n * sr f m K (j + 1) := fun j hj => by
    have e1 := sr_step (f := f) hm hK n
    have e2 := sr_step (f := f) hm hK j
    have p1 := sr_pos hf hm hK n
    have p2 := sr_pos hf hm hK j
    have p3 := Rat.mul_pos hm (bz_pos hK n)
    have p4 := Rat.mul_pos hm (bz_pos hK j)
    have hb := bz_le (K := K) j n hj
    have hb2 : m * bz K j ≤ m * bz K n := Rat.mul_le_mul_of_nonneg_left hb (Rat.le_of_lt hm)
    have q0 := sr_pos hf hm hK (j + 1)
    generalize sr f m K (n + 1) = x at *
    generalize sr f m K n = y at *
    generalize sr f m K (j + 1) = z at *
    generalize sr f m K j = w at *
    generalize m * bz K n = c at *
    generalize m * bz K j = d at *
    refine Rat.le_of_mul_le_mul_left ?_ p3
    have a1 : c * (x * w) = y * f * w := by grind
    have a2 : y * f * w = y * (z * d) := by grind
    have a3 : 0 ≤ y * z * (c - d) := Rat.mul_nonneg (Rat.le_of_lt (Rat.mul_pos p1 q0)) (by grind)
    grind
  rw [Sm_front (sr f m K) (n + 1), ← Sm_mul]
  have h1 : Sm (fun j => sr f m K (n + 1) * sr f m K j) (n + 1) ≤ Sm (fun j => sr f m K n * sr f m K (j + 1)) (n + 1) := Sm_le fun j hj => key j (by omega)
  rw [Sm_mul (sr f m K n) (fun j => sr f m K (j + 1))] at h1
  have := sr_pos hf hm hK n
  show _ ≤ sr f m K n * (1 + _)
  grind
/-! ### bounds -/
theorem bz_Bd (hK : K ≤ 15) (j : Nat) : Bd 4 (bz K j) := ⟨by
    unfold bz
    show (min (j + 1) K) < 16
    omega, by
    show 1 < 2 ^ 4
    decide⟩
theorem sr_Bd (bf : Bd 3 f) (bm : Bd 3 m) (hm : 0 < m) (hK : 1 ≤ K) (hK2 : K ≤ 15) : ∀ j, Bd (1 + 10 * j) (sr f m K j)
  | 0 => Bd.one
  | j + 1 => by
    have h := (((sr_Bd bf bm hm hK hK2 j).mul bf).div (bm.mul (bz_Bd hK2 j)) (by have := Rat.mul_pos hm (bz_pos hK j); grind))
    exact h.mono (by omega)
/-- the common denominator -/
def sD (u : Int) (K : Nat) : Nat → Int
  | 0 => 1
  | j + 1 => sD u K j * (u * (min (j + 1) K : Nat))
theorem sD_Cm (hm : 0 < m) (hK : 1 ≤ K) : ∀ j, Cm (sD (f.den * m.num) K j) (sr f m K j)
  | 0 => Cm.one
  | j + 1 => by
    obtain ⟨n, hn⟩ := sD_Cm hm hK j
    refine ⟨n * (f.num * m.den), ?_⟩
    have e1 := mul_den f
    have e2 := mul_den m
    have hp := Rat.mul_pos hm (bz_pos hK j)
    show sr f m K j * f / (m * bz K j) * ((sD (f.den * m.num) K j * ((f.den : Int) * m.num * (min (j + 1) K : Nat)) : Int) : Rat) = _
    have e3 : ((sD (f.den * m.num) K j * ((f.den : Int) * m.num * (min (j + 1) K : Nat)) : Int) : Rat) = (sD (f.den * m.num) K j : Rat) * ((f.den : Rat) * (m.num : Rat) * bz K j) := by
      unfold bz
      push_cast
      rfl
    have e4 : ((n * (f.num * m.den) : Int) : Rat) = (n : Rat) * ((f.num : Rat) * (m.den : Rat)) := by push_cast; rfl
    rw [e3, e4, ← hn, ← e1, ← e2]
    generalize (sD (f.den * m.num) K j : Rat) = D at *
    generalize (f.den : Rat) = a at *
    generalize (m.den : Rat) = b at *
    generalize sr f m K j = x at *
    generalize bz K j = z at *
    have : x * f / (m * z) * (D * (a * (m * b) * z)) = x * f / (m * z) * (m * z) * (D * a * b) := by grind
    rw [this]
    have : x * f / (m * z) * (m * z) = x * f := by grind
    rw [this]
    grind
theorem sD_pos {u : Int} (hu : 0 < u) (hK : 1 ≤ K) : ∀ j, 0 < sD u K j
  | 0 => by show (0 : Int) < 1; decide
  | j + 1 => Int.mul_pos (sD_pos hu hK j) (Int.mul_pos hu (by omega))
theorem sD_up {u : Int} {q : Rat} {j : Nat} (h : Cm (sD u K j) q) : ∀ d, Cm (sD u K (j + d)) q
  | 0 => h
  | d + 1 => (sD_up h d).up _
theorem sD_le {u : Int} (hu : 0 < u) (hu2 : u ≤ 64) (hK : 1 ≤ K) (hK2 : K ≤ 15) : ∀ j, (sD u K j).toNat ≤ 2 ^ (10 * j)
  | 0 => by show (1 : Int).toNat ≤ 2 ^ 0; decide
  | j + 1 => by
    have h := sD_le hu hu2 hK hK2 j
    show (sD u K j * (u * (min (j + 1) K : Nat))).toNat ≤ 2 ^ (10 * j + 10)
    have p := sD_pos hu hK j
    have p2 : 0 < u * ((min (j + 1) K : Nat) : Int) := Int.mul_pos hu (by omega)
    rw [Int.toNat_mul (by omega) (by omega), Nat.pow_add]
    refine Nat.mul_le_mul h ?_
    rw [Int.toNat_mul (by omega) (by omega)]
    have : u.toNat * (min (j + 1) K) ≤ 64 * 15 := Nat.mul_le_mul (by omega) (by omega)
    show u.toNat * (((min (j + 1) K : Nat) : Int).toNat) ≤ 1024
    rw [Int.toNat_natCast]
    omega
theorem Bd.le_pow {q : Rat} {k : Nat} (h : Bd k q) (h0 : 0 ≤ q) : q ≤ ((2 ^ k : Nat) : Rat) := by
  have e := mul_den q
  have hd : (1 : Rat) ≤ (q.den : Rat) := by exact_mod_cast q.den_pos
  have h1 : 0 ≤ q * ((q.den : Rat) - 1) := Rat.mul_nonneg h0 (by grind)
  have h2 : (q.num : Rat) ≤ ((2 ^ k : Nat) : Rat) := by
    have : q.num ≤ ((2 ^ k : Nat) : Int) := by have := h.1; omega
    exact_mod_cast this
  grind
theorem num_pos' {q : Rat} (h : 0 < q) : 0 < q.num := by
  have h1 : 0 ≤ q.num := Rat.num_nonneg.mpr (Rat.le_of_lt h)
  have h2 : q.num ≠ 0 := fun z => by
    have e := mul_den q
    rw [z] at e
    have hd : (0 : Rat) < (q.den : Rat) := by exact_mod_cast q.den_pos
    have := Rat.mul_pos h hd
    rw [e] at this
    exact absurd this (by decide)
  omega
/-- the shares have a common denominator -/
theorem share_Cm (bf : Bd 3 f) (bm : Bd 3 m) (hf : 0 < f) (hm : 0 < m) (hK : 1 ≤ K) (hK2 : K ≤ 15) {n : Nat} (hn : n ≤ 32) : ∃ N : Int, 0 < N ∧ N.toNat < 2 ^ 660 ∧ ∀ j, j < n → Cm N (sr f m K j / Sm (sr f m K) n) := by
  by_cases h0 : n = 0
  · exact ⟨1, by decide, Nat.one_lt_two_pow (by decide), fun j hj => absurd hj (by omega)⟩
  have hu : (0 : Int) < (f.den : Int) * m.num := Int.mul_pos (by exact_mod_cast f.den_pos) (num_pos' hm)
  have hu2 : (f.den : Int) * m.num ≤ 64 := by
    have h1 := bf.2
    have h2 := bm.1
    have p := num_pos' hm
    have : f.den * m.num.toNat ≤ 8 * 8 := Nat.mul_le_mul (by have : (2:Nat)^3 = 8 := rfl; omega) (by have : (2:Nat)^3 = 8 := rfl; omega)
    have e : (f.den : Int) * m.num = ((f.den * m.num.toNat : Nat) : Int) := by push_cast; rw [Int.toNat_of_nonneg (by omega)]
    rw [e]
    exact_mod_cast this
  have cj : ∀ j, j < n → Cm (sD (f.den * m.num) K n) (sr f m K j) := fun j hj => by
    have := sD_up (sD_Cm (f := f) hm hK j) (n - j)
    rwa [show j + (n - j) = n by omega] at this
  have hW : 0 < Sm (sr f m K) n := by
    have h1 := Sm_mono (F := sr f m K) (fun i => Rat.le_of_lt (sr_pos hf hm hK i)) (m := 1) (n := n) (by omega)
    have h2 : Sm (sr f m K) 1 = 0 + 1 := rfl
    grind
  obtain ⟨N, hN⟩ := Cm.Sm (F := sr f m K) (n := n) cj
  have hD := sD_pos (u := f.den * m.num) hu hK n
  have hDr : (0 : Rat) < (sD (f.den * m.num) K n : Rat) := by exact_mod_cast hD
  have hNp : 0 < N := by
    have : (0 : Rat) < (N : Rat) := by rw [← hN]; exact Rat.mul_pos hW hDr
    exact_mod_cast this
  refine ⟨N, hNp, ?_, fun j hj => ?_⟩
  · have hs : ∀ i, i < n → sr f m K i ≤ ((2 ^ 321 : Nat) : Rat) := fun i hi => ((sr_Bd bf bm hm hK hK2 i).mono (show _ ≤ 321 by omega)).le_pow (Rat.le_of_lt (sr_pos hf hm hK i))
    have hd := sD_le hu hu2 hK hK2 n
    have hd2 : (sD (f.den * m.num) K n).toNat ≤ 2 ^ 320 := Nat.le_trans hd (Nat.pow_le_pow_right (by decide) (by omega))
    generalize hP : (2 ^ 321 : Nat) = P at *
    have h1 : Sm (sr f m K) n ≤ Sm (fun _ => (P : Rat)) n := Sm_le hs
    have h2 : ∀ n : Nat, Sm (fun _ => (P : Rat)) n = ((n * P : Nat) : Rat) := fun n => by
      induction n with
      | zero => rw [Nat.zero_mul]; rfl
      | succ n ih =>
        show Sm _ n + (P : Rat) = _
        rw [ih, Nat.succ_mul]
        push_cast
        rfl
    rw [h2] at h1
    have h3 : (N : Rat) ≤ ((n * P : Nat) : Rat) * (sD (f.den * m.num) K n : Rat) := by
      rw [← hN]
      exact Rat.mul_le_mul_of_nonneg_right h1 (Rat.le_of_lt hDr)
    have h4 : N ≤ ((n * P : Nat) : Int) * sD (f.den * m.num) K n := by
      have : (N : Rat) ≤ ((((n * P : Nat) : Int) * sD (f.den * m.num) K n : Int) : Rat) := by
        rw [Rat.intCast_mul]
        exact h3
      exact_mod_cast this
    have h5 : N.toNat ≤ n * P * (sD (f.den * m.num) K n).toNat := by
      have e : ((n * P : Nat) : Int) * sD (f.den * m.num) K n = ((n * P * (sD (f.den * m.num) K n).toNat : Nat) : Int) := by
        rw [Int.natCast_mul (n * P), Int.toNat_of_nonneg (by omega)]
      rw [e] at h4
      omega
    have h6 : n * P * (sD (f.den * m.num) K n).toNat ≤ 2 ^ 5 * P * 2 ^ 320 := Nat.mul_le_mul (Nat.mul_le_mul (show n ≤ 32 by omega) (Nat.le_refl _)) hd2
    have h7 : 2 ^ 5 * P * 2 ^ 320 = 2 ^ 646 := by rw [← hP, ← Nat.pow_add, ← Nat.pow_add]
    have h8 : (2 : Nat) ^ 646 < 2 ^ 660 := Nat.pow_lt_pow_right (by decide) (by decide)
    omega
  · obtain ⟨c, hc⟩ := cj j hj
    refine ⟨c, ?_⟩
    rw [← hc, ← hN]
    grind
end
end FWP

/-! code, contexts and facts of the defs: printed by gen.py from the linked text -/
namespace Lk90
open PySem PySem.Spec PyProof.Rows L2 FW
def top (i : Nat) : Stmt := PySem.Challenge.pw_faultworks_k90_whole_standby.main.body.getD i (.Pass ⟨0, 0, 0, 0⟩)
def gs : List (PySem.Str × PV) := [("ZERO", (.tup [(.int 0), (.int 1)])), ("ONE", (.tup [(.int 1), (.int 1)])), ("MOST_SPARES", (.int 40))]
def blts : List PySem.Str := ["range", "tuple", "abs", "isinstance", "int", "bool", "len", "min", "list", "str"]
def glos0 : List PySem.Str := ["gcd", "reduced", "plus", "is_in", "over", "is_ratio", "times", "standby", "_law_less", "_law_alike", "_law_gcd", "_law_ratio", "_law_taken", "_law_rate", "_law_is_ratio", "_law_is_row", "_law_plus", "_law_sum", "_law_times", "law"]
def glos : List PySem.Str := glos0
/-! gcd -/
def d_gcd : FW.Def := ⟨2, 2, (.cons (.par [0, 1] (.cons (.bi .abs false (.cons (.var 0) .nil)) (.cons (.bi .abs false (.cons (.var 1) .nil)) .nil)))
      (.cons (.whil (.cmp .ne (.var 1) (.k (.int 0)))
      (.cons (.par [0, 1] (.cons (.var 1) (.cons (.bin .mod false (.var 0) (.var 1)) .nil))) .nil) [])
      (.cons (.ret (.var 0)) .nil)))⟩
def C_gcd : FW.Ctx := ⟨["one", "other"], L2.defScope (top 6), none, gs, [], blts⟩
def D_gcd : He.DefD := ⟨("gcd", none), "gcd", "gcd", L2.defArgs (top 6), L2.defBody (top 6), L2.defScope (top 6), [], []⟩
theorem ok_gcd : okB C_gcd d_gcd.body (L2.defBody (top 6)) = true := by decide +kernel
theorem sc_gcd : FnScope C_gcd.N ["one", "other"] (L2.defScope (top 6)) := ⟨rfl, rfl, rfl, by decide +kernel, rfl, by decide +kernel, by decide +kernel⟩
def F_gcd : Fn := fnSem [] d_gcd
/-! reduced -/
def d_reduced : FW.Def := ⟨2, 3, (.cons (.set 2 (.call 0 (.cons (.var 0) (.cons (.var 1) .nil))))
      (.cons (.ifs (.cmp .lt (.var 1) (.k (.int 0)))
      (.cons (.set 2 (.neg (.var 2))) .nil)
      (.nil))
      (.cons (.ret (.tup (.cons (.bin .fdiv false (.var 0) (.var 2)) (.cons (.bin .fdiv false (.var 1) (.var 2)) .nil)))) .nil)))⟩
def C_reduced : FW.Ctx := ⟨["numerator", "denominator", "common"], L2.defScope (top 7), none, gs, ["gcd"], blts⟩
def D_reduced : He.DefD := ⟨("reduced", none), "reduced", "reduced", L2.defArgs (top 7), L2.defBody (top 7), L2.defScope (top 7), [], []⟩
theorem ok_reduced : okB C_reduced d_reduced.body (L2.defBody (top 7)) = true := by decide +kernel
theorem sc_reduced : FnScope C_reduced.N ["numerator", "denominator"] (L2.defScope (top 7)) := ⟨rfl, rfl, rfl, by decide +kernel, rfl, by decide +kernel, by decide +kernel⟩
def F_reduced : Fn := fnSem [("gcd", F_gcd)] d_reduced
/-! plus -/
def d_plus : FW.Def := ⟨2, 2, (.cons (.ret (.call 0 (.cons (.bin .add false (.bin .mul false (.idx (.var 0) (.k (.int 0))) (.idx (.var 1) (.k (.int 1)))) (.bin .mul false (.idx (.var 1) (.k (.int 0))) (.idx (.var 0) (.k (.int 1))))) (.cons (.bin .mul false (.idx (.var 0) (.k (.int 1))) (.idx (.var 1) (.k (.int 1)))) .nil)))) .nil)⟩
def C_plus : FW.Ctx := ⟨["one", "other"], L2.defScope (top 8), none, gs, ["reduced"], blts⟩
def D_plus : He.DefD := ⟨("plus", none), "plus", "plus", L2.defArgs (top 8), L2.defBody (top 8), L2.defScope (top 8), [], []⟩
theorem ok_plus : okB C_plus d_plus.body (L2.defBody (top 8)) = true := by decide +kernel
theorem sc_plus : FnScope C_plus.N ["one", "other"] (L2.defScope (top 8)) := ⟨rfl, rfl, rfl, by decide +kernel, rfl, by decide +kernel, by decide +kernel⟩
def F_plus : Fn := fnSem [("reduced", F_reduced)] d_plus
/-! is_in -/
def d_is_in : FW.Def := ⟨3, 3, (.cons (.ret (.and (.cons (.isi [.int] (.var 0)) (.cons (.nt (.isi [.bool] (.var 0))) (.cons (.chain .le .le (.var 1) (.var 0) (.var 2)) .nil))))) .nil)⟩
def C_is_in : FW.Ctx := ⟨["value", "least", "most"], L2.defScope (top 5), none, gs, [], blts⟩
def D_is_in : He.DefD := ⟨("is_in", none), "is_in", "is_in", L2.defArgs (top 5), L2.defBody (top 5), L2.defScope (top 5), [], []⟩
theorem ok_is_in : okB C_is_in d_is_in.body (L2.defBody (top 5)) = true := by decide +kernel
theorem sc_is_in : FnScope C_is_in.N ["value", "least", "most"] (L2.defScope (top 5)) := ⟨rfl, rfl, rfl, by decide +kernel, rfl, by decide +kernel, by decide +kernel⟩
def F_is_in : Fn := fnSem [] d_is_in
/-! over -/
def d_over : FW.Def := ⟨2, 2, (.cons (.ret (.call 0 (.cons (.bin .mul false (.idx (.var 0) (.k (.int 0))) (.idx (.var 1) (.k (.int 1)))) (.cons (.bin .mul false (.idx (.var 0) (.k (.int 1))) (.idx (.var 1) (.k (.int 0)))) .nil)))) .nil)⟩
def C_over : FW.Ctx := ⟨["one", "other"], L2.defScope (top 10), none, gs, ["reduced"], blts⟩
def D_over : He.DefD := ⟨("over", none), "over", "over", L2.defArgs (top 10), L2.defBody (top 10), L2.defScope (top 10), [], []⟩
theorem ok_over : okB C_over d_over.body (L2.defBody (top 10)) = true := by decide +kernel
theorem sc_over : FnScope C_over.N ["one", "other"] (L2.defScope (top 10)) := ⟨rfl, rfl, rfl, by decide +kernel, rfl, by decide +kernel, by decide +kernel⟩
def F_over : Fn := fnSem [("reduced", F_reduced)] d_over
/-! is_ratio -/
def d_is_ratio : FW.Def := ⟨1, 2, (.cons (.ifs (.or (.cons (.nt (.isi [.tuple] (.var 0))) (.cons (.cmp .ne (.bi .len false (.cons (.var 0) .nil)) (.k (.int 2))) .nil)))
      (.cons (.ret (.k (.bl false))) .nil)
      (.nil))
      (.cons (.forr (.name 1) (.seq (.var 0))
      (.cons (.ifs (.or (.cons (.nt (.isi [.int] (.var 1))) (.cons (.isi [.bool] (.var 1)) .nil)))
      (.cons (.ret (.k (.bl false))) .nil)
      (.nil)) .nil) [])
      (.cons (.ret (.and (.cons (.cmp .gt (.idx (.var 0) (.k (.int 1))) (.k (.int 0))) (.cons (.cmp .eq (.call 0 (.cons (.idx (.var 0) (.k (.int 0))) (.cons (.idx (.var 0) (.k (.int 1))) .nil))) (.k (.int 1))) .nil)))) .nil)))⟩
def C_is_ratio : FW.Ctx := ⟨["value", "item"], L2.defScope (top 11), none, gs, ["gcd"], blts⟩
def D_is_ratio : He.DefD := ⟨("is_ratio", none), "is_ratio", "is_ratio", L2.defArgs (top 11), L2.defBody (top 11), L2.defScope (top 11), [], []⟩
theorem ok_is_ratio : okB C_is_ratio d_is_ratio.body (L2.defBody (top 11)) = true := by decide +kernel
theorem sc_is_ratio : FnScope C_is_ratio.N ["value"] (L2.defScope (top 11)) := ⟨rfl, rfl, rfl, by decide +kernel, rfl, by decide +kernel, by decide +kernel⟩
def F_is_ratio : Fn := fnSem [("gcd", F_gcd)] d_is_ratio
/-! times -/
def d_times : FW.Def := ⟨2, 2, (.cons (.ret (.call 0 (.cons (.bin .mul false (.idx (.var 0) (.k (.int 0))) (.idx (.var 1) (.k (.int 0)))) (.cons (.bin .mul false (.idx (.var 0) (.k (.int 1))) (.idx (.var 1) (.k (.int 1)))) .nil)))) .nil)⟩
def C_times : FW.Ctx := ⟨["one", "other"], L2.defScope (top 9), none, gs, ["reduced"], blts⟩
def D_times : He.DefD := ⟨("times", none), "times", "times", L2.defArgs (top 9), L2.defBody (top 9), L2.defScope (top 9), [], []⟩
theorem ok_times : okB C_times d_times.body (L2.defBody (top 9)) = true := by decide +kernel
theorem sc_times : FnScope C_times.N ["one", "other"] (L2.defScope (top 9)) := ⟨rfl, rfl, rfl, by decide +kernel, rfl, by decide +kernel, by decide +kernel⟩
def F_times : Fn := fnSem [("reduced", F_reduced)] d_times
/-! standby -/
def d_standby : FW.Def := ⟨4, 9, (.cons (.forr (.name 4) (.seq (.list false (.cons (.var 0) (.cons (.var 1) .nil))))
      (.cons (.ifs (.or (.cons (.nt (.call 3 (.cons (.var 4) .nil))) (.cons (.cmp .lt (.idx (.var 4) (.k (.int 0))) (.k (.int 1))) .nil)))
      (.cons (.raise "" .nil) .nil)
      (.nil)) .nil) [])
      (.cons (.ifs (.or (.cons (.nt (.call 1 (.cons (.var 2) (.cons (.k (.int 0)) (.cons (.glob "MOST_SPARES" (.int 40)) .nil))))) (.cons (.nt (.call 1 (.cons (.var 3) (.cons (.k (.int 1)) (.cons (.glob "MOST_SPARES" (.int 40)) .nil))))) .nil)))
      (.cons (.raise "" .nil) .nil)
      (.nil))
      (.cons (.set 5 (.list true (.cons (.glob "ONE" (.tup [(.int 1), (.int 1)])) .nil)))
      (.cons (.forr (.name 6) (.rng1 (.bin .add false (.var 2) (.k (.int 1))))
      (.cons (.app 5 (.call 2 (.cons (.call 4 (.cons (.idx (.var 5) (.neg (.k (.int 1)))) (.cons (.var 0) .nil))) (.cons (.call 4 (.cons (.var 1) (.cons (.tup (.cons (.bi .min2 false (.cons (.bin .add false (.var 6) (.k (.int 1))) (.cons (.var 3) .nil))) (.cons (.k (.int 1)) .nil))) .nil))) .nil)))) .nil) [])
      (.cons (.set 7 (.glob "ZERO" (.tup [(.int 0), (.int 1)])))
      (.cons (.freeze 5)
      (.cons (.forr (.name 8) (.seq (.var 5))
      (.cons (.set 7 (.call 0 (.cons (.var 7) (.cons (.var 8) .nil)))) .nil) [])
      (.cons (.freeze 5)
      (.cons (.ret (.bi .tuple false (.cons (.comp false [8] (.name 8) (.seq (.var 5)) (.k (.bl true)) (.call 2 (.cons (.var 8) (.cons (.var 7) .nil)))) .nil))) .nil)))))))))⟩
def C_standby : FW.Ctx := ⟨["fail", "repair", "spares", "crews", "rate", "row", "j", "whole", "one"], L2.defScope (top 16), none, gs, ["plus", "is_in", "over", "is_ratio", "times"], blts⟩
def D_standby : He.DefD := ⟨("standby", none), "standby", "standby", L2.defArgs (top 16), L2.defBody (top 16), L2.defScope (top 16), [], []⟩
theorem ok_standby : okB C_standby d_standby.body (L2.defBody (top 16)) = true := by decide +kernel
theorem sc_standby : FnScope C_standby.N ["fail", "repair", "spares", "crews"] (L2.defScope (top 16)) := ⟨rfl, rfl, rfl, by decide +kernel, rfl, by decide +kernel, by decide +kernel⟩
def F_standby : Fn := fnSem [("plus", F_plus), ("is_in", F_is_in), ("over", F_over), ("is_ratio", F_is_ratio), ("times", F_times)] d_standby
/-! _law_less -/
def d__law_less : FW.Def := ⟨2, 2, (.cons (.ret (.cmp .lt (.bin .mul false (.idx (.var 0) (.k (.int 0))) (.idx (.var 1) (.k (.int 1)))) (.bin .mul false (.idx (.var 1) (.k (.int 0))) (.idx (.var 0) (.k (.int 1)))))) .nil)⟩
def C__law_less : FW.Ctx := ⟨["_law_one", "_law_other"], L2.defScope (top 27), none, gs, [], blts⟩
def D__law_less : He.DefD := ⟨("_law_less", none), "_law_less", "_law_less", L2.defArgs (top 27), L2.defBody (top 27), L2.defScope (top 27), [], []⟩
theorem ok__law_less : okB C__law_less d__law_less.body (L2.defBody (top 27)) = true := by decide +kernel
theorem sc__law_less : FnScope C__law_less.N ["_law_one", "_law_other"] (L2.defScope (top 27)) := ⟨rfl, rfl, rfl, by decide +kernel, rfl, by decide +kernel, by decide +kernel⟩
def F__law_less : Fn := fnSem [] d__law_less
/-! _law_alike -/
def d__law_alike : FW.Def := ⟨2, 3, (.cons (.ifs (.isi [.tuple, .list] (.var 1))
      (.cons (.ifs (.or (.cons (.nt (.isi [.tuple, .list] (.var 0))) (.cons (.cmp .ne (.isi [.list] (.var 0)) (.isi [.list] (.var 1))) .nil)))
      (.cons (.ret (.k (.bl false))) .nil)
      (.nil))
      (.cons (.ifs (.cmp .ne (.bi .len false (.cons (.var 0) .nil)) (.bi .len false (.cons (.var 1) .nil)))
      (.cons (.ret (.k (.bl false))) .nil)
      (.nil))
      (.cons (.ret (.cmp .eq (.comp false [2] (.name 2) (.rng1 (.bi .len false (.cons (.var 1) .nil))) (.nt (.call 0 (.cons (.idx (.var 0) (.var 2)) (.cons (.idx (.var 1) (.var 2)) .nil)))) (.var 2)) (.list false .nil))) .nil)))
      (.nil))
      (.cons (.ifs (.or (.cons (.cmp .is (.var 1) (.k .non)) (.cons (.isi [.str] (.var 1)) .nil)))
      (.cons (.ret (.and (.cons (.cmp .eq (.var 0) (.var 1)) (.cons (.cmp .eq (.isi [.str] (.var 0)) (.isi [.str] (.var 1))) .nil)))) .nil)
      (.nil))
      (.cons (.ret (.and (.cons (.isi [.int] (.var 0)) (.cons (.cmp .eq (.isi [.bool] (.var 0)) (.isi [.bool] (.var 1))) (.cons (.cmp .eq (.var 0) (.var 1)) .nil))))) .nil)))⟩
def C__law_alike : FW.Ctx := ⟨["_law_found", "_law_due", "_law_k"], L2.defScope (top 28), none, gs, ["_law_alike"], blts⟩
def D__law_alike : He.DefD := ⟨("_law_alike", none), "_law_alike", "_law_alike", L2.defArgs (top 28), L2.defBody (top 28), L2.defScope (top 28), [], []⟩
theorem ok__law_alike : okB C__law_alike d__law_alike.body (L2.defBody (top 28)) = true := by decide +kernel
theorem sc__law_alike : FnScope C__law_alike.N ["_law_found", "_law_due"] (L2.defScope (top 28)) := ⟨rfl, rfl, rfl, by decide +kernel, rfl, by decide +kernel, by decide +kernel⟩
def F__law_alike : Nat → Fn
  | 0 => fun _ _ => .bad
  | n + 1 => fnSem [("_law_alike", F__law_alike n)] d__law_alike
/-! _law_gcd -/
def d__law_gcd : FW.Def := ⟨2, 2, (.cons (.par [0, 1] (.cons (.bi .abs false (.cons (.var 0) .nil)) (.cons (.bi .abs false (.cons (.var 1) .nil)) .nil)))
      (.cons (.whil (.cmp .ne (.var 1) (.k (.int 0)))
      (.cons (.par [0, 1] (.cons (.var 1) (.cons (.bin .mod false (.bi .int false (.cons (.var 0) .nil)) (.var 1)) .nil))) .nil) [])
      (.cons (.ret (.var 0)) .nil)))⟩
def C__law_gcd : FW.Ctx := ⟨["_law_one", "_law_other"], L2.defScope (top 18), none, gs, [], blts⟩
def D__law_gcd : He.DefD := ⟨("_law_gcd", none), "_law_gcd", "_law_gcd", L2.defArgs (top 18), L2.defBody (top 18), L2.defScope (top 18), [], []⟩
theorem ok__law_gcd : okB C__law_gcd d__law_gcd.body (L2.defBody (top 18)) = true := by decide +kernel
theorem sc__law_gcd : FnScope C__law_gcd.N ["_law_one", "_law_other"] (L2.defScope (top 18)) := ⟨rfl, rfl, rfl, by decide +kernel, rfl, by decide +kernel, by decide +kernel⟩
def F__law_gcd : Fn := fnSem [] d__law_gcd
/-! _law_ratio -/
def d__law_ratio : FW.Def := ⟨2, 3, (.cons (.set 2 (.call 0 (.cons (.var 0) (.cons (.var 1) .nil))))
      (.cons (.set 2 (.ite (.cmp .lt (.var 1) (.k (.int 0))) (.bin .sub false (.k (.int 0)) (.var 2)) (.var 2)))
      (.cons (.ret (.tup (.cons (.bin .fdiv false (.var 0) (.var 2)) (.cons (.bin .fdiv false (.var 1) (.var 2)) .nil)))) .nil)))⟩
def C__law_ratio : FW.Ctx := ⟨["_law_numerator", "_law_denominator", "_law_common"], L2.defScope (top 19), none, gs, ["_law_gcd"], blts⟩
def D__law_ratio : He.DefD := ⟨("_law_ratio", none), "_law_ratio", "_law_ratio", L2.defArgs (top 19), L2.defBody (top 19), L2.defScope (top 19), [], []⟩
theorem ok__law_ratio : okB C__law_ratio d__law_ratio.body (L2.defBody (top 19)) = true := by decide +kernel
theorem sc__law_ratio : FnScope C__law_ratio.N ["_law_numerator", "_law_denominator"] (L2.defScope (top 19)) := ⟨rfl, rfl, rfl, by decide +kernel, rfl, by decide +kernel, by decide +kernel⟩
def F__law_ratio : Fn := fnSem [("_law_gcd", F__law_gcd)] d__law_ratio
/-! _law_taken -/
def d__law_taken : FW.Def := ⟨2, 4, (.cons (.ifs (.cmp .gt (.idx (.var 0) (.k (.int 3))) (.k (.int 0)))
      (.cons (.set 3 (.bin .mod false (.bi .int false (.cons (.idx (.var 0) (.k (.int 3))) .nil)) (.var 1)))
      (.cons (.sub 0 (.k (.int 3)) (.bin .fdiv false (.idx (.var 0) (.k (.int 3))) (.var 1)))
      (.cons (.ret (.var 3)) .nil)))
      (.nil))
      (.cons (.sub 0 (.k (.int 1)) (.bin .add false (.idx (.var 0) (.k (.int 1))) (.k (.int 1))))
      (.cons (.ifs (.cmp .gt (.idx (.var 0) (.k (.int 1))) (.bi .len false (.cons (.idx (.var 0) (.k (.int 0))) .nil)))
      (.cons (.sub 0 (.k (.int 2)) (.bin .mod false (.bi .int false (.cons (.bin .add false (.bin .mul false (.idx (.var 0) (.k (.int 2))) (.k (.int 48271))) (.k (.int 11))) .nil)) (.k (.int 2147483647))))
      (.cons (.ret (.bin .mod false (.bi .int false (.cons (.bin .fdiv false (.idx (.var 0) (.k (.int 2))) (.k (.int 7))) .nil)) (.var 1))) .nil))
      (.nil))
      (.cons (.set 2 (.idx (.idx (.var 0) (.k (.int 0))) (.bin .sub false (.idx (.var 0) (.k (.int 1))) (.k (.int 1)))))
      (.cons (.sub 0 (.k (.int 2)) (.bin .mod false (.bi .int false (.cons (.bin .add false (.bin .add false (.bin .mul false (.idx (.var 0) (.k (.int 2))) (.k (.int 48271))) (.var 2)) (.k (.int 11))) .nil)) (.k (.int 2147483647))))
      (.cons (.ifs (.cmp .ge (.var 2) (.bin .pow false (.k (.int 10)) (.k (.int 18))))
      (.cons (.sub 0 (.k (.int 3)) (.bin .fdiv false (.var 2) (.var 1))) .nil)
      (.nil))
      (.cons (.ret (.bin .mod false (.bi .int false (.cons (.var 2) .nil)) (.var 1))) .nil)))))))⟩
def C__law_taken : FW.Ctx := ⟨["_law_row", "_law_many", "_law_cell", "_law_found"], L2.defScope (top 20), none, gs, [], blts⟩
def D__law_taken : He.DefD := ⟨("_law_taken", none), "_law_taken", "_law_taken", L2.defArgs (top 20), L2.defBody (top 20), L2.defScope (top 20), [], []⟩
theorem ok__law_taken : okB C__law_taken d__law_taken.body (L2.defBody (top 20)) = true := by decide +kernel
theorem sc__law_taken : FnScope C__law_taken.N ["_law_row", "_law_many"] (L2.defScope (top 20)) := ⟨rfl, rfl, rfl, by decide +kernel, rfl, by decide +kernel, by decide +kernel⟩
def F__law_taken : Fn := fnSem [] d__law_taken
/-! _law_rate -/
def d__law_rate : FW.Def := ⟨1, 1, (.cons (.ret (.call 0 (.cons (.bin .add false (.k (.int 1)) (.call 1 (.cons (.var 0) (.cons (.k (.int 6)) .nil)))) (.cons (.bin .add false (.k (.int 1)) (.call 1 (.cons (.var 0) (.cons (.k (.int 3)) .nil)))) .nil)))) .nil)⟩
def C__law_rate : FW.Ctx := ⟨["_law_row"], L2.defScope (top 21), none, gs, ["_law_ratio", "_law_taken"], blts⟩
def D__law_rate : He.DefD := ⟨("_law_rate", none), "_law_rate", "_law_rate", L2.defArgs (top 21), L2.defBody (top 21), L2.defScope (top 21), [], []⟩
theorem ok__law_rate : okB C__law_rate d__law_rate.body (L2.defBody (top 21)) = true := by decide +kernel
theorem sc__law_rate : FnScope C__law_rate.N ["_law_row"] (L2.defScope (top 21)) := ⟨rfl, rfl, rfl, by decide +kernel, rfl, by decide +kernel, by decide +kernel⟩
def F__law_rate : Fn := fnSem [("_law_ratio", F__law_ratio), ("_law_taken", F__law_taken)] d__law_rate
/-! _law_is_ratio -/
def d__law_is_ratio : FW.Def := ⟨1, 2, (.cons (.ifs (.or (.cons (.nt (.isi [.tuple] (.var 0))) (.cons (.cmp .ne (.bi .len false (.cons (.var 0) .nil)) (.k (.int 2))) .nil)))
      (.cons (.ret (.k (.bl false))) .nil)
      (.nil))
      (.cons (.ifs (.or (.cons (.cmp .ne (.comp false [1] (.name 1) (.seq (.var 0)) (.or (.cons (.nt (.isi [.int] (.var 1))) (.cons (.isi [.bool] (.var 1)) .nil))) (.var 1)) (.list false .nil)) (.cons (.cmp .lt (.idx (.var 0) (.k (.int 1))) (.k (.int 1))) .nil)))
      (.cons (.ret (.k (.bl false))) .nil)
      (.nil))
      (.cons (.ret (.cmp .eq (.call 0 (.cons (.idx (.var 0) (.k (.int 0))) (.cons (.idx (.var 0) (.k (.int 1))) .nil))) (.k (.int 1)))) .nil)))⟩
def C__law_is_ratio : FW.Ctx := ⟨["_law_value", "_law_x"], L2.defScope (top 22), none, gs, ["_law_gcd"], blts⟩
def D__law_is_ratio : He.DefD := ⟨("_law_is_ratio", none), "_law_is_ratio", "_law_is_ratio", L2.defArgs (top 22), L2.defBody (top 22), L2.defScope (top 22), [], []⟩
theorem ok__law_is_ratio : okB C__law_is_ratio d__law_is_ratio.body (L2.defBody (top 22)) = true := by decide +kernel
theorem sc__law_is_ratio : FnScope C__law_is_ratio.N ["_law_value"] (L2.defScope (top 22)) := ⟨rfl, rfl, rfl, by decide +kernel, rfl, by decide +kernel, by decide +kernel⟩
def F__law_is_ratio : Fn := fnSem [("_law_gcd", F__law_gcd)] d__law_is_ratio
/-! _law_is_row -/
def d__law_is_row : FW.Def := ⟨2, 3, (.cons (.ret (.and (.cons (.isi [.tuple] (.var 0)) (.cons (.cmp .eq (.bi .len false (.cons (.var 0) .nil)) (.var 1)) (.cons (.cmp .eq (.comp false [2] (.name 2) (.seq (.var 0)) (.nt (.call 0 (.cons (.var 2) .nil))) (.var 2)) (.list false .nil)) .nil))))) .nil)⟩
def C__law_is_row : FW.Ctx := ⟨["_law_value", "_law_size", "_law_one"], L2.defScope (top 23), none, gs, ["_law_is_ratio"], blts⟩
def D__law_is_row : He.DefD := ⟨("_law_is_row", none), "_law_is_row", "_law_is_row", L2.defArgs (top 23), L2.defBody (top 23), L2.defScope (top 23), [], []⟩
theorem ok__law_is_row : okB C__law_is_row d__law_is_row.body (L2.defBody (top 23)) = true := by decide +kernel
theorem sc__law_is_row : FnScope C__law_is_row.N ["_law_value", "_law_size"] (L2.defScope (top 23)) := ⟨rfl, rfl, rfl, by decide +kernel, rfl, by decide +kernel, by decide +kernel⟩
def F__law_is_row : Fn := fnSem [("_law_is_ratio", F__law_is_ratio)] d__law_is_row
/-! _law_plus -/
def d__law_plus : FW.Def := ⟨2, 2, (.cons (.ret (.call 0 (.cons (.bin .add false (.bin .mul false (.idx (.var 0) (.k (.int 0))) (.idx (.var 1) (.k (.int 1)))) (.bin .mul false (.idx (.var 1) (.k (.int 0))) (.idx (.var 0) (.k (.int 1))))) (.cons (.bin .mul false (.idx (.var 0) (.k (.int 1))) (.idx (.var 1) (.k (.int 1)))) .nil)))) .nil)⟩
def C__law_plus : FW.Ctx := ⟨["_law_one", "_law_other"], L2.defScope (top 24), none, gs, ["_law_ratio"], blts⟩
def D__law_plus : He.DefD := ⟨("_law_plus", none), "_law_plus", "_law_plus", L2.defArgs (top 24), L2.defBody (top 24), L2.defScope (top 24), [], []⟩
theorem ok__law_plus : okB C__law_plus d__law_plus.body (L2.defBody (top 24)) = true := by decide +kernel
theorem sc__law_plus : FnScope C__law_plus.N ["_law_one", "_law_other"] (L2.defScope (top 24)) := ⟨rfl, rfl, rfl, by decide +kernel, rfl, by decide +kernel, by decide +kernel⟩
def F__law_plus : Fn := fnSem [("_law_ratio", F__law_ratio)] d__law_plus
/-! _law_sum -/
def d__law_sum : FW.Def := ⟨1, 3, (.cons (.set 1 (.tup (.cons (.k (.int 0)) (.cons (.k (.int 1)) .nil))))
      (.cons (.forr (.name 2) (.seq (.var 0))
      (.cons (.set 1 (.call 0 (.cons (.var 1) (.cons (.var 2) .nil)))) .nil) [])
      (.cons (.ret (.var 1)) .nil)))⟩
def C__law_sum : FW.Ctx := ⟨["_law_values", "_law_found", "_law_one"], L2.defScope (top 25), none, gs, ["_law_plus"], blts⟩
def D__law_sum : He.DefD := ⟨("_law_sum", none), "_law_sum", "_law_sum", L2.defArgs (top 25), L2.defBody (top 25), L2.defScope (top 25), [], []⟩
theorem ok__law_sum : okB C__law_sum d__law_sum.body (L2.defBody (top 25)) = true := by decide +kernel
theorem sc__law_sum : FnScope C__law_sum.N ["_law_values"] (L2.defScope (top 25)) := ⟨rfl, rfl, rfl, by decide +kernel, rfl, by decide +kernel, by decide +kernel⟩
def F__law_sum : Fn := fnSem [("_law_plus", F__law_plus)] d__law_sum
/-! _law_times -/
def d__law_times : FW.Def := ⟨2, 2, (.cons (.ret (.call 0 (.cons (.bin .mul false (.idx (.var 0) (.k (.int 0))) (.idx (.var 1) (.k (.int 0)))) (.cons (.bin .mul false (.idx (.var 0) (.k (.int 1))) (.idx (.var 1) (.k (.int 1)))) .nil)))) .nil)⟩
def C__law_times : FW.Ctx := ⟨["_law_one", "_law_other"], L2.defScope (top 26), none, gs, ["_law_ratio"], blts⟩
def D__law_times : He.DefD := ⟨("_law_times", none), "_law_times", "_law_times", L2.defArgs (top 26), L2.defBody (top 26), L2.defScope (top 26), [], []⟩
theorem ok__law_times : okB C__law_times d__law_times.body (L2.defBody (top 26)) = true := by decide +kernel
theorem sc__law_times : FnScope C__law_times.N ["_law_one", "_law_other"] (L2.defScope (top 26)) := ⟨rfl, rfl, rfl, by decide +kernel, rfl, by decide +kernel, by decide +kernel⟩
def F__law_times : Fn := fnSem [("_law_ratio", F__law_ratio)] d__law_times
/-! law -/
def d_law : FW.Def := ⟨1, 12, (.cons (.set 1 (.list true (.cons (.var 0) (.cons (.k (.int 0)) (.cons (.k (.int 4090)) (.cons (.k (.int 0)) .nil))))))
      (.cons (.unpack (.cons (.name 6) (.cons (.name 7) (.cons (.name 8) (.cons (.name 9) .nil)))) (.tup (.cons (.call 3 (.cons (.var 1) .nil)) (.cons (.call 3 (.cons (.var 1) .nil)) (.cons (.call 4 (.cons (.var 1) (.cons (.k (.int 30)) .nil))) (.cons (.bin .add false (.k (.int 1)) (.call 4 (.cons (.var 1) (.cons (.k (.int 12)) .nil)))) .nil))))))
      (.cons (.set 2 (.call 0 (.cons (.var 6) (.cons (.var 7) (.cons (.var 8) (.cons (.var 9) .nil))))))
      (.cons (.ifs (.or (.cons (.nt (.call 5 (.cons (.var 2) (.cons (.bin .add false (.var 8) (.k (.int 2))) .nil)))) (.cons (.cmp .ne (.call 6 (.cons (.var 2) .nil)) (.tup (.cons (.k (.int 1)) (.cons (.k (.int 1)) .nil)))) .nil)))
      (.cons (.ret (.k (.bl false))) .nil)
      (.nil))
      (.cons (.forr (.name 3) (.rng1 (.bin .add false (.var 8) (.k (.int 1))))
      (.cons (.ifs (.cmp .ne (.call 7 (.cons (.idx (.var 2) (.var 3)) (.cons (.var 6) .nil))) (.call 7 (.cons (.idx (.var 2) (.bin .add false (.var 3) (.k (.int 1)))) (.cons (.call 7 (.cons (.var 7) (.cons (.tup (.cons (.bi .min2 false (.cons (.bin .add false (.var 3) (.k (.int 1))) (.cons (.var 9) .nil))) (.cons (.k (.int 1)) .nil))) .nil))) .nil))))
      (.cons (.ret (.k (.bl false))) .nil)
      (.nil)) .nil) [])
      (.cons (.set 4 (.call 0 (.cons (.var 6) (.cons (.var 7) (.cons (.bin .add false (.var 8) (.k (.int 1))) (.cons (.var 9) .nil))))))
      (.cons (.ifs (.call 1 (.cons (.idx (.var 2) (.neg (.k (.int 1)))) (.cons (.idx (.var 4) (.neg (.k (.int 1)))) .nil)))
      (.cons (.ret (.k (.bl false))) .nil)
      (.nil))
      (.cons (.par [10, 11] (.cons (.bin .add false (.k (.int 1)) (.call 4 (.cons (.var 1) (.cons (.k (.int 5)) .nil)))) (.cons (.bin .add false (.k (.int 1)) (.call 4 (.cons (.var 1) (.cons (.k (.int 5)) .nil)))) .nil)))
      (.cons (.set 5 (.ite (.cmp .eq (.call 8 (.cons (.var 10) (.cons (.k (.int 1)) .nil))) (.k (.int 1))) (.call 0 (.cons (.tup (.cons (.var 10) (.cons (.k (.int 1)) .nil))) (.cons (.tup (.cons (.var 11) (.cons (.k (.int 1)) .nil))) (.cons (.k (.int 0)) (.cons (.k (.int 1)) .nil))))) (.k .non)))
      (.cons (.ret (.call 2 (.cons (.var 5) (.cons (.tup (.cons (.call 9 (.cons (.var 11) (.cons (.bin .add false (.var 10) (.var 11)) .nil))) (.cons (.call 9 (.cons (.var 10) (.cons (.bin .add false (.var 10) (.var 11)) .nil))) .nil))) .nil)))) .nil))))))))))⟩
def C_law : FW.Ctx := ⟨["_law_script", "_law_row", "_law_found", "_law_j", "_law_more", "_law_cold", "_law_fail", "_law_repair", "_law_spares", "_law_crews", "_law_a", "_law_b"], L2.defScope (top 29), none, gs, ["standby", "_law_less", "_law_alike", "_law_rate", "_law_taken", "_law_is_row", "_law_sum", "_law_times", "_law_gcd", "_law_ratio"], blts⟩
def D_law : He.DefD := ⟨("law", none), "law", "law", L2.defArgs (top 29), L2.defBody (top 29), L2.defScope (top 29), [], []⟩
theorem ok_law : okB C_law d_law.body (L2.defBody (top 29)) = true := by decide +kernel
theorem sc_law : FnScope C_law.N ["_law_script"] (L2.defScope (top 29)) := ⟨rfl, rfl, rfl, by decide +kernel, rfl, by decide +kernel, by decide +kernel⟩
def F_law : Fn := fnSem [("standby", F_standby), ("_law_less", F__law_less), ("_law_alike", F__law_alike 8), ("_law_rate", F__law_rate), ("_law_taken", F__law_taken), ("_law_is_row", F__law_is_row), ("_law_sum", F__law_sum), ("_law_times", F__law_times), ("_law_gcd", F__law_gcd), ("_law_ratio", F__law_ratio)] d_law
def fn : List He.DefD := [D_gcd, D_reduced, D_plus, D_is_in, D_over, D_is_ratio, D_times, D_standby, D__law_less, D__law_alike, D__law_gcd, D__law_ratio, D__law_taken, D__law_rate, D__law_is_ratio, D__law_is_row, D__law_plus, D__law_sum, D__law_times, D_law]
abbrev fa : List He.Fa := faOf glos blts
section
variable {P : Program} {w : World} {K : PySem.W.Frag} {mg : PySem.Str → Option Value} {base h : Heap}
theorem fo_gcd (X : K.In h) (G : h.Ns mainGlobals mg) (c : SaysF fa fn gs K) : FO P w K mg base 1 "gcd" F_gcd := by
  obtain ⟨fd, F⟩ := c.d.def_ 0 (d := D_gcd) rfl
  exact fo_mk (k := 0) F (F.bindsN fun _ _ _ _ _ _ us hl => match us, hl with | [_, _], _ => rfl) (glo_at X G c.d (n := "gcd") (by decide +kernel)) sc_gcd rfl rfl rfl ok_gcd trivial (glob_all X G c) (blt_all X G c.d)
theorem fo_reduced (X : K.In h) (G : h.Ns mainGlobals mg) (c : SaysF fa fn gs K) : FO P w K mg base 2 "reduced" F_reduced := by
  obtain ⟨fd, F⟩ := c.d.def_ 1 (d := D_reduced) rfl
  exact fo_mk (k := 1) F (F.bindsN fun _ _ _ _ _ _ us hl => match us, hl with | [_, _], _ => rfl) (glo_at X G c.d (n := "reduced") (by decide +kernel)) sc_reduced rfl rfl rfl ok_reduced ⟨⟨rfl, (fo_gcd X G c).mono (by decide)⟩, trivial⟩ (glob_all X G c) (blt_all X G c.d)
theorem fo_plus (X : K.In h) (G : h.Ns mainGlobals mg) (c : SaysF fa fn gs K) : FO P w K mg base 3 "plus" F_plus := by
  obtain ⟨fd, F⟩ := c.d.def_ 2 (d := D_plus) rfl
  exact fo_mk (k := 2) F (F.bindsN fun _ _ _ _ _ _ us hl => match us, hl with | [_, _], _ => rfl) (glo_at X G c.d (n := "plus") (by decide +kernel)) sc_plus rfl rfl rfl ok_plus ⟨⟨rfl, (fo_reduced X G c).mono (by decide)⟩, trivial⟩ (glob_all X G c) (blt_all X G c.d)
theorem fo_is_in (X : K.In h) (G : h.Ns mainGlobals mg) (c : SaysF fa fn gs K) : FO P w K mg base 1 "is_in" F_is_in := by
  obtain ⟨fd, F⟩ := c.d.def_ 3 (d := D_is_in) rfl
  exact fo_mk (k := 0) F (F.bindsN fun _ _ _ _ _ _ us hl => match us, hl with | [_, _, _], _ => rfl) (glo_at X G c.d (n := "is_in") (by decide +kernel)) sc_is_in rfl rfl rfl ok_is_in trivial (glob_all X G c) (blt_all X G c.d)
theorem fo_over (X : K.In h) (G : h.Ns mainGlobals mg) (c : SaysF fa fn gs K) : FO P w K mg base 3 "over" F_over := by
  obtain ⟨fd, F⟩ := c.d.def_ 4 (d := D_over) rfl
  exact fo_mk (k := 2) F (F.bindsN fun _ _ _ _ _ _ us hl => match us, hl with | [_, _], _ => rfl) (glo_at X G c.d (n := "over") (by decide +kernel)) sc_over rfl rfl rfl ok_over ⟨⟨rfl, (fo_reduced X G c).mono (by decide)⟩, trivial⟩ (glob_all X G c) (blt_all X G c.d)
theorem fo_is_ratio (X : K.In h) (G : h.Ns mainGlobals mg) (c : SaysF fa fn gs K) : FO P w K mg base 2 "is_ratio" F_is_ratio := by
  obtain ⟨fd, F⟩ := c.d.def_ 5 (d := D_is_ratio) rfl
  exact fo_mk (k := 1) F (F.bindsN fun _ _ _ _ _ _ us hl => match us, hl with | [_], _ => rfl) (glo_at X G c.d (n := "is_ratio") (by decide +kernel)) sc_is_ratio rfl rfl rfl ok_is_ratio ⟨⟨rfl, (fo_gcd X G c).mono (by decide)⟩, trivial⟩ (glob_all X G c) (blt_all X G c.d)
theorem fo_times (X : K.In h) (G : h.Ns mainGlobals mg) (c : SaysF fa fn gs K) : FO P w K mg base 3 "times" F_times := by
  obtain ⟨fd, F⟩ := c.d.def_ 6 (d := D_times) rfl
  exact fo_mk (k := 2) F (F.bindsN fun _ _ _ _ _ _ us hl => match us, hl with | [_, _], _ => rfl) (glo_at X G c.d (n := "times") (by decide +kernel)) sc_times rfl rfl rfl ok_times ⟨⟨rfl, (fo_reduced X G c).mono (by decide)⟩, trivial⟩ (glob_all X G c) (blt_all X G c.d)
theorem fo_standby (X : K.In h) (G : h.Ns mainGlobals mg) (c : SaysF fa fn gs K) : FO P w K mg base 4 "standby" F_standby := by
  obtain ⟨fd, F⟩ := c.d.def_ 7 (d := D_standby) rfl
  exact fo_mk (k := 3) F (F.bindsN fun _ _ _ _ _ _ us hl => match us, hl with | [_, _, _, _], _ => rfl) (glo_at X G c.d (n := "standby") (by decide +kernel)) sc_standby rfl rfl rfl ok_standby ⟨⟨rfl, (fo_plus X G c).mono (by decide)⟩, ⟨rfl, (fo_is_in X G c).mono (by decide)⟩, ⟨rfl, (fo_over X G c).mono (by decide)⟩, ⟨rfl, (fo_is_ratio X G c).mono (by decide)⟩, ⟨rfl, (fo_times X G c).mono (by decide)⟩, trivial⟩ (glob_all X G c) (blt_all X G c.d)
theorem fo__law_less (X : K.In h) (G : h.Ns mainGlobals mg) (c : SaysF fa fn gs K) : FO P w K mg base 1 "_law_less" F__law_less := by
  obtain ⟨fd, F⟩ := c.d.def_ 8 (d := D__law_less) rfl
  exact fo_mk (k := 0) F (F.bindsN fun _ _ _ _ _ _ us hl => match us, hl with | [_, _], _ => rfl) (glo_at X G c.d (n := "_law_less") (by decide +kernel)) sc__law_less rfl rfl rfl ok__law_less trivial (glob_all X G c) (blt_all X G c.d)
theorem fo__law_alike' (X : K.In h) (G : h.Ns mainGlobals mg) (c : SaysF fa fn gs K) : ∀ n : Nat, FO P w K mg base (1 + n) "_law_alike" (F__law_alike n)
  | 0 => by
    obtain ⟨fd, F⟩ := c.d.def_ 9 (d := D__law_alike) rfl
    exact fo_bad (ps := ["_law_found", "_law_due"]) F (F.bindsN fun _ _ _ _ _ _ us hl => match us, hl with | [_, _], _ => rfl) (glo_at X G c.d (n := "_law_alike") (by decide +kernel))
  | n + 1 => by
    obtain ⟨fd, F⟩ := c.d.def_ 9 (d := D__law_alike) rfl
    have ih : FO P w K mg base (1 + n) "_law_alike" (F__law_alike n) := fo__law_alike' X G c n
    exact fo_mk (k := 1 + n) F (F.bindsN fun _ _ _ _ _ _ us hl => match us, hl with | [_, _], _ => rfl) (glo_at X G c.d (n := "_law_alike") (by decide +kernel)) sc__law_alike rfl rfl rfl ok__law_alike ⟨⟨rfl, ih⟩, trivial⟩ (glob_all X G c) (blt_all X G c.d)
theorem fo__law_alike (X : K.In h) (G : h.Ns mainGlobals mg) (c : SaysF fa fn gs K) : FO P w K mg base 9 "_law_alike" (F__law_alike 8) := fo__law_alike' X G c 8
theorem fo__law_gcd (X : K.In h) (G : h.Ns mainGlobals mg) (c : SaysF fa fn gs K) : FO P w K mg base 1 "_law_gcd" F__law_gcd := by
  obtain ⟨fd, F⟩ := c.d.def_ 10 (d := D__law_gcd) rfl
  exact fo_mk (k := 0) F (F.bindsN fun _ _ _ _ _ _ us hl => match us, hl with | [_, _], _ => rfl) (glo_at X G c.d (n := "_law_gcd") (by decide +kernel)) sc__law_gcd rfl rfl rfl ok__law_gcd trivial (glob_all X G c) (blt_all X G c.d)
theorem fo__law_ratio (X : K.In h) (G : h.Ns mainGlobals mg) (c : SaysF fa fn gs K) : FO P w K mg base 2 "_law_ratio" F__law_ratio := by
  obtain ⟨fd, F⟩ := c.d.def_ 11 (d := D__law_ratio) rfl
  exact fo_mk (k := 1) F (F.bindsN fun _ _ _ _ _ _ us hl => match us, hl with | [_, _], _ => rfl) (glo_at X G c.d (n := "_law_ratio") (by decide +kernel)) sc__law_ratio rfl rfl rfl ok__law_ratio ⟨⟨rfl, (fo__law_gcd X G c).mono (by decide)⟩, trivial⟩ (glob_all X G c) (blt_all X G c.d)
theorem fo__law_taken (X : K.In h) (G : h.Ns mainGlobals mg) (c : SaysF fa fn gs K) : FO P w K mg base 1 "_law_taken" F__law_taken := by
  obtain ⟨fd, F⟩ := c.d.def_ 12 (d := D__law_taken) rfl
  exact fo_mk (k := 0) F (F.bindsN fun _ _ _ _ _ _ us hl => match us, hl with | [_, _], _ => rfl) (glo_at X G c.d (n := "_law_taken") (by decide +kernel)) sc__law_taken rfl rfl rfl ok__law_taken trivial (glob_all X G c) (blt_all X G c.d)
theorem fo__law_rate (X : K.In h) (G : h.Ns mainGlobals mg) (c : SaysF fa fn gs K) : FO P w K mg base 3 "_law_rate" F__law_rate := by
  obtain ⟨fd, F⟩ := c.d.def_ 13 (d := D__law_rate) rfl
  exact fo_mk (k := 2) F (F.bindsN fun _ _ _ _ _ _ us hl => match us, hl with | [_], _ => rfl) (glo_at X G c.d (n := "_law_rate") (by decide +kernel)) sc__law_rate rfl rfl rfl ok__law_rate ⟨⟨rfl, (fo__law_ratio X G c).mono (by decide)⟩, ⟨rfl, (fo__law_taken X G c).mono (by decide)⟩, trivial⟩ (glob_all X G c) (blt_all X G c.d)
theorem fo__law_is_ratio (X : K.In h) (G : h.Ns mainGlobals mg) (c : SaysF fa fn gs K) : FO P w K mg base 2 "_law_is_ratio" F__law_is_ratio := by
  obtain ⟨fd, F⟩ := c.d.def_ 14 (d := D__law_is_ratio) rfl
  exact fo_mk (k := 1) F (F.bindsN fun _ _ _ _ _ _ us hl => match us, hl with | [_], _ => rfl) (glo_at X G c.d (n := "_law_is_ratio") (by decide +kernel)) sc__law_is_ratio rfl rfl rfl ok__law_is_ratio ⟨⟨rfl, (fo__law_gcd X G c).mono (by decide)⟩, trivial⟩ (glob_all X G c) (blt_all X G c.d)
theorem fo__law_is_row (X : K.In h) (G : h.Ns mainGlobals mg) (c : SaysF fa fn gs K) : FO P w K mg base 3 "_law_is_row" F__law_is_row := by
  obtain ⟨fd, F⟩ := c.d.def_ 15 (d := D__law_is_row) rfl
  exact fo_mk (k := 2) F (F.bindsN fun _ _ _ _ _ _ us hl => match us, hl with | [_, _], _ => rfl) (glo_at X G c.d (n := "_law_is_row") (by decide +kernel)) sc__law_is_row rfl rfl rfl ok__law_is_row ⟨⟨rfl, (fo__law_is_ratio X G c).mono (by decide)⟩, trivial⟩ (glob_all X G c) (blt_all X G c.d)
theorem fo__law_plus (X : K.In h) (G : h.Ns mainGlobals mg) (c : SaysF fa fn gs K) : FO P w K mg base 3 "_law_plus" F__law_plus := by
  obtain ⟨fd, F⟩ := c.d.def_ 16 (d := D__law_plus) rfl
  exact fo_mk (k := 2) F (F.bindsN fun _ _ _ _ _ _ us hl => match us, hl with | [_, _], _ => rfl) (glo_at X G c.d (n := "_law_plus") (by decide +kernel)) sc__law_plus rfl rfl rfl ok__law_plus ⟨⟨rfl, (fo__law_ratio X G c).mono (by decide)⟩, trivial⟩ (glob_all X G c) (blt_all X G c.d)
theorem fo__law_sum (X : K.In h) (G : h.Ns mainGlobals mg) (c : SaysF fa fn gs K) : FO P w K mg base 4 "_law_sum" F__law_sum := by
  obtain ⟨fd, F⟩ := c.d.def_ 17 (d := D__law_sum) rfl
  exact fo_mk (k := 3) F (F.bindsN fun _ _ _ _ _ _ us hl => match us, hl with | [_], _ => rfl) (glo_at X G c.d (n := "_law_sum") (by decide +kernel)) sc__law_sum rfl rfl rfl ok__law_sum ⟨⟨rfl, (fo__law_plus X G c).mono (by decide)⟩, trivial⟩ (glob_all X G c) (blt_all X G c.d)
theorem fo__law_times (X : K.In h) (G : h.Ns mainGlobals mg) (c : SaysF fa fn gs K) : FO P w K mg base 3 "_law_times" F__law_times := by
  obtain ⟨fd, F⟩ := c.d.def_ 18 (d := D__law_times) rfl
  exact fo_mk (k := 2) F (F.bindsN fun _ _ _ _ _ _ us hl => match us, hl with | [_, _], _ => rfl) (glo_at X G c.d (n := "_law_times") (by decide +kernel)) sc__law_times rfl rfl rfl ok__law_times ⟨⟨rfl, (fo__law_ratio X G c).mono (by decide)⟩, trivial⟩ (glob_all X G c) (blt_all X G c.d)
theorem fo_law (X : K.In h) (G : h.Ns mainGlobals mg) (c : SaysF fa fn gs K) : FO P w K mg base 10 "law" F_law := by
  obtain ⟨fd, F⟩ := c.d.def_ 19 (d := D_law) rfl
  exact fo_mk (k := 9) F (F.bindsN fun _ _ _ _ _ _ us hl => match us, hl with | [_], _ => rfl) (glo_at X G c.d (n := "law") (by decide +kernel)) sc_law rfl rfl rfl ok_law ⟨⟨rfl, (fo_standby X G c).mono (by decide)⟩, ⟨rfl, (fo__law_less X G c).mono (by decide)⟩, ⟨rfl, (fo__law_alike X G c).mono (by decide)⟩, ⟨rfl, (fo__law_rate X G c).mono (by decide)⟩, ⟨rfl, (fo__law_taken X G c).mono (by decide)⟩, ⟨rfl, (fo__law_is_row X G c).mono (by decide)⟩, ⟨rfl, (fo__law_sum X G c).mono (by decide)⟩, ⟨rfl, (fo__law_times X G c).mono (by decide)⟩, ⟨rfl, (fo__law_gcd X G c).mono (by decide)⟩, ⟨rfl, (fo__law_ratio X G c).mono (by decide)⟩, trivial⟩ (glob_all X G c) (blt_all X G c.d)
theorem fn_law {fd : FuncData} (X : K.In h) (G : h.Ns mainGlobals mg) (c : SaysF fa fn gs K) (F : FunD K D_law.name D_law.qual D_law.params D_law.body D_law.scope [] [] (He.fAd K D_law.at_) fd) : FnOk P w K mg base CX0 10 (He.fAd K D_law.at_) fd ["_law_script"] (fun vs H Q _ => rdV K mg F_law vs H Q) :=
  fn_mk (k := 9) F sc_law rfl rfl rfl ok_law ⟨⟨rfl, (fo_standby X G c).mono (by decide)⟩, ⟨rfl, (fo__law_less X G c).mono (by decide)⟩, ⟨rfl, (fo__law_alike X G c).mono (by decide)⟩, ⟨rfl, (fo__law_rate X G c).mono (by decide)⟩, ⟨rfl, (fo__law_taken X G c).mono (by decide)⟩, ⟨rfl, (fo__law_is_row X G c).mono (by decide)⟩, ⟨rfl, (fo__law_sum X G c).mono (by decide)⟩, ⟨rfl, (fo__law_times X G c).mono (by decide)⟩, ⟨rfl, (fo__law_gcd X G c).mono (by decide)⟩, ⟨rfl, (fo__law_ratio X G c).mono (by decide)⟩, trivial⟩ (glob_all X G c) (blt_all X G c.d)
end
def loose0 : List PySem.Str := ["FaultError", "BadNumber", "BadRates", "is_in", "gcd", "reduced", "plus", "times", "over", "is_ratio", "ZERO", "ONE", "MOST_SPARES", "standby", "_law_gcd", "_law_ratio", "_law_taken", "_law_rate", "_law_is_ratio", "_law_is_row"]
def loose1 : List PySem.Str := ["_law_plus", "_law_sum", "_law_times", "_law_less", "_law_alike"]
def loose : List PySem.Str := loose0 ++ loose1
abbrev hk : PySem.W.Hook := hookF 4 fa fn gs
def ob (s : PySem.W.SharedT) : AlF := obsF fa fn gs 4 (HandSHeadRun.getT s)
theorem ob_eq (s : PySem.W.SharedT) : ob s = hk.obs s.abs := obsF_eq (HandSHeadRun.getT_eq s)
theorem run (w : World) : HandSHeadRun.RunEq (PySem.W.OpenLaw.row PySem.Challenge.rw_faultworks_k90_whole_standby) (PySem.W.view (PySem.W.OpenLaw.row PySem.Challenge.rw_faultworks_k90_whole_standby).prog [29]) hk ob 4000 loose w := by
  intro os
  kernel_rfl
def iLaw : Nat := 29
def lLaw : Nat := 10
end Lk90

/-! codes and meanings of defs, with named pieces: printed by gen.py -/
namespace P90
open PySem FW FWP
/-! standby (law_k90): slots 0=fail 1=repair 2=spares 3=crews 4=rate 5=row 6=j 7=whole 8=one -/
def b_standby_0 : CB := (.cons (.ifs (.or (.cons (.nt (.call 3 (.cons (.var 4) .nil))) (.cons (.cmp .lt (.idx (.var 4) (.k (.int 0))) (.k (.int 1))) .nil)))
      (.cons (.raise "" .nil) .nil)
      (.nil)) .nil)
def b_standby_1 : CB := (.cons (.app 5 (.call 2 (.cons (.call 4 (.cons (.idx (.var 5) (.neg (.k (.int 1)))) (.cons (.var 0) .nil))) (.cons (.call 4 (.cons (.var 1) (.cons (.tup (.cons (.bi .min2 false (.cons (.bin .add false (.var 6) (.k (.int 1))) (.cons (.var 3) .nil))) (.cons (.k (.int 1)) .nil))) .nil))) .nil)))) .nil)
def b_standby_2 : CB := (.cons (.set 7 (.call 0 (.cons (.var 7) (.cons (.var 8) .nil)))) .nil)
def c_standby_0 : CE := (.comp false [8] (.name 8) (.seq (.var 5)) (.k (.bl true)) (.call 2 (.cons (.var 8) (.cons (.var 7) .nil))))
def d_standby : FW.Def := ⟨4, 9, (.cons (.forr (.name 4) (.seq (.list false (.cons (.var 0) (.cons (.var 1) .nil))))
      b_standby_0 [])
      (.cons (.ifs (.or (.cons (.nt (.call 1 (.cons (.var 2) (.cons (.k (.int 0)) (.cons (.glob "MOST_SPARES" (.int 40)) .nil))))) (.cons (.nt (.call 1 (.cons (.var 3) (.cons (.k (.int 1)) (.cons (.glob "MOST_SPARES" (.int 40)) .nil))))) .nil)))
      (.cons (.raise "" .nil) .nil)
      (.nil))
      (.cons (.set 5 (.list true (.cons (.glob "ONE" (.tup [(.int 1), (.int 1)])) .nil)))
      (.cons (.forr (.name 6) (.rng1 (.bin .add false (.var 2) (.k (.int 1))))
      b_standby_1 [])
      (.cons (.set 7 (.glob "ZERO" (.tup [(.int 0), (.int 1)])))
      (.cons (.freeze 5)
      (.cons (.forr (.name 8) (.seq (.var 5))
      b_standby_2 [])
      (.cons (.freeze 5)
      (.cons (.ret (.bi .tuple false (.cons c_standby_0 .nil))) .nil)))))))))⟩
def g_standby : List (Str × Fn) := [("plus", F_plus), ("is_in", F_is_in), ("over", F_over), ("is_ratio", F_is_ratio), ("times", F_times)]
def F_standby : Fn := fnSem g_standby d_standby
@[simp] theorem g_standby_0 : g_standby[0]?.map Prod.snd = some F_plus := rfl
@[simp] theorem g_standby_1 : g_standby[1]?.map Prod.snd = some F_is_in := rfl
@[simp] theorem g_standby_2 : g_standby[2]?.map Prod.snd = some F_over := rfl
@[simp] theorem g_standby_3 : g_standby[3]?.map Prod.snd = some F_is_ratio := rfl
@[simp] theorem g_standby_4 : g_standby[4]?.map Prod.snd = some F_times := rfl

/-! _law_rate (law_k90): slots 0=_law_row -/
def d__law_rate : FW.Def := ⟨1, 1, (.cons (.ret (.call 0 (.cons (.bin .add false (.k (.int 1)) (.call 1 (.cons (.var 0) (.cons (.k (.int 6)) .nil)))) (.cons (.bin .add false (.k (.int 1)) (.call 1 (.cons (.var 0) (.cons (.k (.int 3)) .nil)))) .nil)))) .nil)⟩
def g__law_rate : List (Str × Fn) := [("_law_ratio", F__law_ratio), ("_law_taken", F__law_taken)]
def F__law_rate : Fn := fnSem g__law_rate d__law_rate
@[simp] theorem g__law_rate_0 : g__law_rate[0]?.map Prod.snd = some F__law_ratio := rfl
@[simp] theorem g__law_rate_1 : g__law_rate[1]?.map Prod.snd = some F__law_taken := rfl

/-! _law_is_ratio (law_k90): slots 0=_law_value 1=_law_x -/
def c__law_is_ratio_0 : CE := (.comp false [1] (.name 1) (.seq (.var 0)) (.or (.cons (.nt (.isi [.int] (.var 1))) (.cons (.isi [.bool] (.var 1)) .nil))) (.var 1))
def d__law_is_ratio : FW.Def := ⟨1, 2, (.cons (.ifs (.or (.cons (.nt (.isi [.tuple] (.var 0))) (.cons (.cmp .ne (.bi .len false (.cons (.var 0) .nil)) (.k (.int 2))) .nil)))
      (.cons (.ret (.k (.bl false))) .nil)
      (.nil))
      (.cons (.ifs (.or (.cons (.cmp .ne c__law_is_ratio_0 (.list false .nil)) (.cons (.cmp .lt (.idx (.var 0) (.k (.int 1))) (.k (.int 1))) .nil)))
      (.cons (.ret (.k (.bl false))) .nil)
      (.nil))
      (.cons (.ret (.cmp .eq (.call 0 (.cons (.idx (.var 0) (.k (.int 0))) (.cons (.idx (.var 0) (.k (.int 1))) .nil))) (.k (.int 1)))) .nil)))⟩
def g__law_is_ratio : List (Str × Fn) := [("_law_gcd", F__law_gcd)]
def F__law_is_ratio : Fn := fnSem g__law_is_ratio d__law_is_ratio
@[simp] theorem g__law_is_ratio_0 : g__law_is_ratio[0]?.map Prod.snd = some F__law_gcd := rfl

/-! _law_is_row (law_k90): slots 0=_law_value 1=_law_size 2=_law_one -/
def c__law_is_row_0 : CE := (.comp false [2] (.name 2) (.seq (.var 0)) (.nt (.call 0 (.cons (.var 2) .nil))) (.var 2))
def d__law_is_row : FW.Def := ⟨2, 3, (.cons (.ret (.and (.cons (.isi [.tuple] (.var 0)) (.cons (.cmp .eq (.bi .len false (.cons (.var 0) .nil)) (.var 1)) (.cons (.cmp .eq c__law_is_row_0 (.list false .nil)) .nil))))) .nil)⟩
def g__law_is_row : List (Str × Fn) := [("_law_is_ratio", F__law_is_ratio)]
def F__law_is_row : Fn := fnSem g__law_is_row d__law_is_row
@[simp] theorem g__law_is_row_0 : g__law_is_row[0]?.map Prod.snd = some F__law_is_ratio := rfl

/-! law (law_k90): slots 0=_law_script 1=_law_row 2=_law_found 3=_law_j 4=_law_more 5=_law_cold 6=_law_fail 7=_law_repair 8=_law_spares 9=_law_crews 10=_law_a 11=_law_b -/
def b_law_0 : CB := (.cons (.ifs (.cmp .ne (.call 7 (.cons (.idx (.var 2) (.var 3)) (.cons (.var 6) .nil))) (.call 7 (.cons (.idx (.var 2) (.bin .add false (.var 3) (.k (.int 1)))) (.cons (.call 7 (.cons (.var 7) (.cons (.tup (.cons (.bi .min2 false (.cons (.bin .add false (.var 3) (.k (.int 1))) (.cons (.var 9) .nil))) (.cons (.k (.int 1)) .nil))) .nil))) .nil))))
      (.cons (.ret (.k (.bl false))) .nil)
      (.nil)) .nil)
def t_law_9 : CB := .cons (.ret (.call 2 (.cons (.var 5) (.cons (.tup (.cons (.call 9 (.cons (.var 11) (.cons (.bin .add false (.var 10) (.var 11)) .nil))) (.cons (.call 9 (.cons (.var 10) (.cons (.bin .add false (.var 10) (.var 11)) .nil))) .nil))) .nil)))) .nil
def t_law_8 : CB := .cons (.set 5 (.ite (.cmp .eq (.call 8 (.cons (.var 10) (.cons (.k (.int 1)) .nil))) (.k (.int 1))) (.call 0 (.cons (.tup (.cons (.var 10) (.cons (.k (.int 1)) .nil))) (.cons (.tup (.cons (.var 11) (.cons (.k (.int 1)) .nil))) (.cons (.k (.int 0)) (.cons (.k (.int 1)) .nil))))) (.k .non))) t_law_9
def t_law_7 : CB := .cons (.par [10, 11] (.cons (.bin .add false (.k (.int 1)) (.call 4 (.cons (.var 1) (.cons (.k (.int 5)) .nil)))) (.cons (.bin .add false (.k (.int 1)) (.call 4 (.cons (.var 1) (.cons (.k (.int 5)) .nil)))) .nil))) t_law_8
def t_law_6 : CB := .cons (.ifs (.call 1 (.cons (.idx (.var 2) (.neg (.k (.int 1)))) (.cons (.idx (.var 4) (.neg (.k (.int 1)))) .nil)))
      (.cons (.ret (.k (.bl false))) .nil)
      (.nil)) t_law_7
def t_law_5 : CB := .cons (.set 4 (.call 0 (.cons (.var 6) (.cons (.var 7) (.cons (.bin .add false (.var 8) (.k (.int 1))) (.cons (.var 9) .nil)))))) t_law_6
def t_law_4 : CB := .cons (.forr (.name 3) (.rng1 (.bin .add false (.var 8) (.k (.int 1))))
      b_law_0 []) t_law_5
def t_law_3 : CB := .cons (.ifs (.or (.cons (.nt (.call 5 (.cons (.var 2) (.cons (.bin .add false (.var 8) (.k (.int 2))) .nil)))) (.cons (.cmp .ne (.call 6 (.cons (.var 2) .nil)) (.tup (.cons (.k (.int 1)) (.cons (.k (.int 1)) .nil)))) .nil)))
      (.cons (.ret (.k (.bl false))) .nil)
      (.nil)) t_law_4
def t_law_2 : CB := .cons (.set 2 (.call 0 (.cons (.var 6) (.cons (.var 7) (.cons (.var 8) (.cons (.var 9) .nil)))))) t_law_3
def t_law_1 : CB := .cons (.unpack (.cons (.name 6) (.cons (.name 7) (.cons (.name 8) (.cons (.name 9) .nil)))) (.tup (.cons (.call 3 (.cons (.var 1) .nil)) (.cons (.call 3 (.cons (.var 1) .nil)) (.cons (.call 4 (.cons (.var 1) (.cons (.k (.int 30)) .nil))) (.cons (.bin .add false (.k (.int 1)) (.call 4 (.cons (.var 1) (.cons (.k (.int 12)) .nil)))) .nil)))))) t_law_2
def t_law_0 : CB := .cons (.set 1 (.list true (.cons (.var 0) (.cons (.k (.int 0)) (.cons (.k (.int 4090)) (.cons (.k (.int 0)) .nil)))))) t_law_1
def d_law : FW.Def := ⟨1, 12, t_law_0⟩
def g_law : List (Str × Fn) := [("standby", F_standby), ("_law_less", F__law_less), ("_law_alike", F__law_alike 8), ("_law_rate", F__law_rate), ("_law_taken", F__law_taken), ("_law_is_row", F__law_is_row), ("_law_sum", F__law_sum), ("_law_times", F__law_times), ("_law_gcd", F__law_gcd), ("_law_ratio", F__law_ratio)]
def F_law : Fn := fnSem g_law d_law
@[simp] theorem g_law_0 : g_law[0]?.map Prod.snd = some F_standby := rfl
@[simp] theorem g_law_1 : g_law[1]?.map Prod.snd = some F__law_less := rfl
@[simp] theorem g_law_2 : g_law[2]?.map Prod.snd = some (F__law_alike 8) := rfl
@[simp] theorem g_law_3 : g_law[3]?.map Prod.snd = some F__law_rate := rfl
@[simp] theorem g_law_4 : g_law[4]?.map Prod.snd = some F__law_taken := rfl
@[simp] theorem g_law_5 : g_law[5]?.map Prod.snd = some F__law_is_row := rfl
@[simp] theorem g_law_6 : g_law[6]?.map Prod.snd = some F__law_sum := rfl
@[simp] theorem g_law_7 : g_law[7]?.map Prod.snd = some F__law_times := rfl
@[simp] theorem g_law_8 : g_law[8]?.map Prod.snd = some F__law_gcd := rfl
@[simp] theorem g_law_9 : g_law[9]?.map Prod.snd = some F__law_ratio := rfl

end P90

namespace P90
open PySem FW FWP
theorem F_law_is : Lk90.F_law = F_law := rfl
section
variable {f m q : Rat} {K : Nat} {S : Store}
def dl (f : Nat → Rat) (n : Nat) : List PV := (nats 0 n).map fun k => rv (f k)
theorem dl_len (f : Nat → Rat) (n : Nat) : (dl f n).length = n := by unfold dl; rw [List.length_map, nats_len]; omega
theorem dl_get {f : Nat → Rat} {n j : Nat} (h : j < n) : (dl f n)[j]? = some (rv (f j)) := by
  unfold dl nats
  rw [List.getElem?_map, List.getElem?_range' (by omega)]
  show some (rv (f (0 + 1 * j))) = _
  rw [Nat.zero_add, Nat.one_mul]
theorem dl_snoc (f : Nat → Rat) (n : Nat) : dl f n ++ [rv (f n)] = dl f (n + 1) := by
  unfold dl
  rw [nats_snoc (by omega), List.map_append]
  rfl
/-- the shares of time -/
def sh (f m : Rat) (K n : Nat) : List Rat := (nats 0 n).map fun j => sr f m K j / Sm (sr f m K) n
theorem sh_len (f m : Rat) (K n : Nat) : (sh f m K n).length = n := by unfold sh; rw [List.length_map, nats_len]; omega
theorem sh_nth {n j : Nat} (h : j < n) : nth (sh f m K n) j = sr f m K j / Sm (sr f m K) n := by
  unfold sh
  rw [nth_map_nats (f := fun j => sr f m K j / Sm (sr f m K) n) (by omega), Nat.zero_add]
theorem forL_next {f : PV → FS} {x : PV} {xs : List PV} {ρ ρ1 : Slots} {S S1 : Store} (h : f x ρ S = .ok (.next ρ1) S1) : forL f [] (x :: xs) ρ S = forL f [] xs ρ1 S1 := by
  show (f x ρ S).bind _ = _
  rw [h]
  rfl
theorem ask_step {r : Rat} (br : Bd 3 r) (hr : 0 < r) {w0 w1 w2 w3 z : Option SV} : sTurn (bindG (.name 4)) (evB g_standby b_standby_0) (rv r) [w0, w1, w2, w3, z, none, none, none, none] S = .ok (.next [w0, w1, w2, w3, some (.v (rv r)), none, none, none, none]) S := by
  have o := fun S => F_is_ratio_eq (S := S) br (by decide)
  have hn := num_pos' hr
  have hn1 : ¬ r.num < 1 := by omega
  have hn2 : ¬ r.num ≤ 0 := by omega
  simp only [rv] at *
  simp -implicitDefEqProofs [b_standby_0, o, hn1, hn2, -ix?, ix_0]
theorem W_Bd (bf : Bd 3 f) (bm : Bd 3 m) (hm : 0 < m) (hK : 1 ≤ K) (hK2 : K ≤ 15) : ∀ n, n ≤ 32 → Bd (1 + 322 * n) (Sm (sr f m K) n)
  | 0, _ => Bd.zero
  | n + 1, h => ((W_Bd bf bm hm hK hK2 n (by omega)).add ((sr_Bd bf bm hm hK hK2 n).mono (show _ ≤ 321 by omega))).mono (by omega)
theorem W_pos (hf : 0 < f) (hm : 0 < m) (hK : 1 ≤ K) (n : Nat) : 0 < Sm (sr f m K) (n + 1) := by
  have h1 := Sm_mono (F := sr f m K) (fun i => Rat.le_of_lt (sr_pos hf hm hK i)) (m := 1) (n := n + 1) (by omega)
  have h2 : Sm (sr f m K) 1 = 0 + 1 := rfl
  grind
theorem F_standby_eq (bf : Bd 3 f) (bm : Bd 3 m) (hf : 0 < f) (hm : 0 < m) (hK : 1 ≤ K) (hK2 : K ≤ 15) {n : Nat} (hn : n ≤ 30) : F_standby [.v (rv f), .v (rv m), I n, I K] S = .ok (.v (lv (sh f m K (n + 2)))) S := by
  -- the rates are asked
  have e0 : evS g_standby (.forr (.name 4) (.seq (.list false (.cons (.var 0) (.cons (.var 1) .nil)))) b_standby_0 []) [some (.v (rv f)), some (.v (rv m)), some (I n), some (I K), none, none, none, none, none] S = .ok (.next [some (.v (rv f)), some (.v (rv m)), some (I n), some (I K), some (.v (rv m)), none, none, none, none]) S := by
    refine for_eq (xs := [rv f, rv m]) (S1 := S) (by simp [line]) ?_
    rw [forL_next (ask_step bf hf), forL_next (ask_step bm hm)]
    rfl
  have i1 : ∀ S, F_is_in [I n, I 0, I 40] S = .ok (.v (.bl true)) S := fun S => is_in_eq (by omega) (by omega)
  have i2 : ∀ S, F_is_in [I K, I 1, I 40] S = .ok (.v (.bl true)) S := fun S => is_in_eq (by omega) (by omega)
  -- the row
  obtain ⟨ρ', S', e1, z6, hI, rfl⟩ := forL_inv (f := sTurn (bindG (.name 6)) (evB g_standby b_standby_1)) (fun i ρ S' => ∃ z, ρ = [some (.v (rv f)), some (.v (rv m)), some (I n), some (I K), some (.v (rv m)), some (.l S.length), z, none, none] ∧ S' = S ++ [.lst (dl (sr f m K) (i + 1))]) ((nats 0 (n + 1)).map iv) 0 (ρ := [some (.v (rv f)), some (.v (rv m)), some (I n), some (I K), some (.v (rv m)), some (.l S.length), none, none, none]) (S := S ++ [.lst (dl (sr f m K) (0 + 1))]) (fun j y ρ S' hy hI => by
    obtain ⟨z, rfl, rfl⟩ := hI
    obtain ⟨t, rfl, ht, hj⟩ := iv_get hy
    rw [Nat.zero_add] at *
    subst ht
    have bs := sr_Bd bf bm hm hK hK2 t
    have o1 := fun S => F_times_eq (S := S) bs bf (by omega)
    have o2 := fun S => F_times_eq (S := S) bm (bz_Bd (K := K) hK2 t) (by omega)
    have o3 := fun S => F_over_eq (S := S) (bs.mul bf) (bm.mul (bz_Bd (K := K) hK2 t)) (by omega) (by have := Rat.mul_pos hm (bz_pos hK t); grind)
    have eb : rv (bz K t) = .tup [.int ((min (t + 1) K : Nat) : Int), .int 1] := rfl
    rw [eb] at o2
    have en : sr f m K t * f / (m * bz K t) = sr f m K (t + 1) := rfl
    rw [en] at o3
    have hg := dl_get (f := sr f m K) (n := t + 1) (j := t) (by omega)
    have hlen := dl_len (sr f m K) (t + 1)
    have hl0 : 0 < (dl (sr f m K) (t + 1)).length := by omega
    refine ⟨_, _, ?_, some (.v (iv t)), rfl, rfl⟩
    rw [← dl_snoc (sr f m K) (t + 1)]
    generalize dl (sr f m K) (t + 1) = P at *
    generalize rv (sr f m K (t + 1)) = x1 at *
    generalize rv (sr f m K t) = x0 at *
    generalize rv (sr f m K t * f) = x2 at *
    generalize rv (m * bz K t) = x3 at *
    generalize rv f = vf at *
    generalize rv m = vm at *
    have hq := seqOf_l (at_new S (.lst P))
    have ha := isLst_l (at_new S (.lst P))
    have hP : t + 1 < 16777216 := by omega
    have hg' := (List.getElem?_eq_some_iff.mp hg).2
    have hix : ix? (t + 1) (-1) = some t := ix_last (n := t + 1) (by omega)
    by_cases hc : K ≤ t
    · have hmin : min (t + 1) K = K := by omega
      rw [hmin] at o2
      simp -implicitDefEqProofs [b_standby_1, iv, -ix?, hix, hlen, hg', hq, ha, at_new, set_new, line, hP, o1, o2, o3, hc, Int.lt_add_one_iff]
    · have hmin : min (t + 1) K = t + 1 := by omega
      have hc2 : ¬ (K : Int) ≤ t := by omega
      rw [hmin] at o2
      have o2' : ∀ S, F_times [.v vm, .v (.tup [.int ((t : Int) + 1), .int 1])] S = .ok (.v x3) S := o2
      simp -implicitDefEqProofs [b_standby_1, iv, -ix?, hix, hlen, hg', hq, ha, at_new, set_new, line, hP, o1, o2', o3, hc, hc2, Int.lt_add_one_iff]) ⟨none, rfl, rfl⟩
  subst hI
  rw [List.length_map, nats_len, Nat.zero_add, Nat.sub_zero] at e1
  have e1' := for_r1 (Γ := g_standby) (tg := .name 6) (a := .bin .add false (.var 2) (.k (.int 1))) (c := b_standby_1) (x := (n : Int) + 1) (m := n + 1) rfl (by omega) (by omega) e1
  -- the whole
  obtain ⟨ρ', S', e2, z8, hI, rfl⟩ := forL_inv (f := sTurn (bindG (.name 8)) (evB g_standby b_standby_2)) (fun i ρ S' => ∃ z, ρ = [some (.v (rv f)), some (.v (rv m)), some (I n), some (I K), some (.v (rv m)), some (.v (.lst (dl (sr f m K) (n + 2)))), z6, some (.v (rv (Sm (sr f m K) i))), z] ∧ S' = S ++ [.gone]) (dl (sr f m K) (n + 2)) 0 (ρ := [some (.v (rv f)), some (.v (rv m)), some (I n), some (I K), some (.v (rv m)), some (.v (.lst (dl (sr f m K) (n + 2)))), z6, some (.v (rv (Sm (sr f m K) 0))), none]) (S := S ++ [.gone]) (fun j y ρ S' hy hI => by
    obtain ⟨z, rfl, rfl⟩ := hI
    have hj : j < n + 2 := by
      have := (List.getElem?_eq_some_iff.mp hy).1
      rwa [dl_len] at this
    rw [dl_get hj] at hy
    obtain rfl := Option.some.inj hy
    rw [Nat.zero_add]
    have o := fun S => F_plus_eq (S := S) (W_Bd bf bm hm hK hK2 j (by omega)) ((sr_Bd bf bm hm hK hK2 j).mono (show _ ≤ 321 by omega)) (by omega)
    have en : Sm (sr f m K) j + sr f m K j = Sm (sr f m K) (j + 1) := rfl
    rw [en] at o
    refine ⟨_, _, ?_, some (.v (rv (sr f m K j))), rfl, rfl⟩
    generalize dl (sr f m K) (n + 2) = P at *
    generalize rv (Sm (sr f m K) j) = x1 at *
    generalize rv (Sm (sr f m K) (j + 1)) = x2 at *
    generalize rv (sr f m K j) = x3 at *
    simp -implicitDefEqProofs [b_standby_2, o]) ⟨none, rfl, rfl⟩
  subst hI
  rw [dl_len, Nat.zero_add] at e2
  have e2' := for_eq (Γ := g_standby) (tg := .name 8) (it := .seq (.var 5)) (b := b_standby_2) (S := S ++ [.gone]) (S1 := S ++ [.gone]) (by simp) e2
  -- the shares
  have e3 : (ev g_standby c_standby_0).v [some (.v (rv f)), some (.v (rv m)), some (I n), some (I K), some (.v (rv m)), some (.v (.lst (dl (sr f m K) (n + 2)))), z6, some (.v (rv (Sm (sr f m K) (n + 2)))), z8] (S ++ [.gone]) = .ok (.v (.lst ((nats 0 (n + 2)).map fun j => rv (sr f m K j / Sm (sr f m K) (n + 2))))) (S ++ [.gone]) := by
    refine comp_fm (c0 := c_standby_0) (x := fun k => rv (sr f m K k)) rfl (nats 0 (n + 2)) _ (nats_le (by omega)) (by
      show evI g_standby (.seq (.var 5)) _ _ = .ok (dl (sr f m K) (n + 2)) _
      generalize dl (sr f m K) (n + 2) = P at *
      simp -implicitDefEqProofs []) (fun j hj => ?_)
    have hj := (mem_nats.mp hj).2
    have hp := W_pos hf hm hK (n + 1)
    have o := fun S => F_over_eq (S := S) ((sr_Bd bf bm hm hK hK2 j).mono (show _ ≤ 321 by omega)) (W_Bd bf bm hm hK hK2 (n + 2) (by omega)) (by omega) (by grind)
    generalize dl (sr f m K) (n + 2) = P at *
    generalize Sm (sr f m K) (n + 2) = W at *
    simp -implicitDefEqProofs [o]
  have e4 : ((nats 0 (n + 2)).map fun j => rv (sr f m K j / Sm (sr f m K) (n + 2))) = rvs (sh f m K (n + 2)) := by
    unfold sh
    rw [rvs, List.map_map]
    rfl
  rw [e4] at e3
  have hlen : (rvs (sh f m K (n + 2))).length ≤ 16777216 := by rw [rvs_len, sh_len]; omega
  have d1 : dl (sr f m K) (0 + 1) = [.tup [.int 1, .int 1]] := rfl
  have d2 : rv (Sm (sr f m K) 0) = .tup [.int 0, .int 1] := rfl
  rw [d1] at e1'
  rw [d2] at e2'
  have hq := at_new S (.lst (dl (sr f m K) (n + 2)))
  rw [show 0 + (n + 1) + 1 = n + 2 by omega] at e1'
  simp only [lv] at *
  generalize rvs (sh f m K (n + 2)) = R at *
  generalize dl (sr f m K) (n + 2) = P at *
  generalize rv (Sm (sr f m K) (n + 2)) = W at *
  generalize rv f = vf at *
  generalize rv m = vm at *
  simp -implicitDefEqProofs [F_standby, d_standby, e0, i1, i2, e1', e2', e3, hq, hlen, line]
/-! ### the law's own defs -/
theorem rate_spec {p : Nat} (h : Row S p) : ∃ (q : Rat) (S' : Store), F__law_rate [.l p] S = .ok (.v (rv q)) S' ∧ 0 < q ∧ Bd 3 q ∧ Row S' p ∧ But p S S' := by
  obtain ⟨i, S1, e1, i0, i1, r1, b1⟩ := taken_spec (m := 6) h (by decide) (by decide)
  obtain ⟨j, S2, e2, j0, j1, r2, b2⟩ := taken_spec (m := 3) r1 (by decide) (by decide)
  have p3 : (2 : Nat) ^ 3 = 8 := rfl
  have big : ∀ n : Nat, n < 8 → n < 2 ^ 13000 := fun n hn => Nat.lt_of_lt_of_le hn (by rw [← p3]; exact Nat.pow_le_pow_right (by decide) (by decide))
  have o := fun S => F_ratio_eq (1 + i) (1 + j) S (by omega) (big _ (by omega)) (big _ (by omega))
  refine ⟨Rat.divInt (1 + i) (1 + j), S2, ?_, ?_, Bd.mk (by omega) (by omega) (by omega), r2, b1.trans b2⟩
  · have hlen : S2.length = S.length := (b1.trans b2).1
    have ht : S2.take S.length = S2 := List.take_of_length_le (by omega)
    simp -implicitDefEqProofs [F__law_rate, d__law_rate, e1, e2, o, ht]
  · rw [Rat.divInt_eq_div, Rat.div_def]
    exact Rat.mul_pos (by exact_mod_cast (show 0 < 1 + i by omega)) (Rat.inv_pos.mpr (by exact_mod_cast (show 0 < 1 + j by omega)))
theorem F_lis_ratio_eq {k : Nat} (hq : Bd k q) (hk : k ≤ 12000) : F__law_is_ratio [.v (rv q)] S = .ok (.v (.bl true)) S := by
  have hb : (q.den : Int).natAbs < 2 ^ 100000 := Nat.lt_of_lt_of_le hq.2 (Nat.pow_le_pow_right (by decide) (by omega))
  have hg : Int.gcd q.num q.den = 1 := by
    have := q.reduced
    rw [Int.gcd]
    exact this
  have hd : ¬ (q.den : Int) < 1 := by have := q.den_pos; omega
  have hd2 : ¬ q.den < 1 := by have := q.den_pos; omega
  have o := fun S => F_lgcd_eq q.num q.den S hb
  have ec : (ev g__law_is_ratio c__law_is_ratio_0).v [some (.v (rv q)), none] S = .ok (.v (.lst [])) S := by
    have := comp_f (c0 := c__law_is_ratio_0) (Γ := g__law_is_ratio) (ρ := [some (.v (rv q)), none]) (S := S) (x := PV.int) rfl [q.num, (q.den : Int)] (fun _ => false) PV.int (by show 2 ≤ 16777216; decide) (by simp [rv]) (fun a _ => by simp)
    rw [this]
    rfl
  have q0 : eqP (.lst []) (.lst []) = some true := rfl
  simp only [rv] at *
  simp -implicitDefEqProofs [F__law_is_ratio, d__law_is_ratio, ec, q0, o, hg, hd, hd2, line, q.den_nz]
theorem F_lis_row_eq {L : List Rat} {k : Nat} (hL : ∀ q ∈ L, Bd k q) (hk : k ≤ 12000) (hl : L.length ≤ 1000) : F__law_is_row [.v (lv L), I L.length] S = .ok (.v (.bl true)) S := by
  have hlen : (rvs L).length = L.length := rvs_len L
  have ec : (ev g__law_is_row c__law_is_row_0).v [some (.v (lv L)), some (I L.length), none] S = .ok (.v (.lst [])) S := by
    have := comp_f (c0 := c__law_is_row_0) (Γ := g__law_is_row) (ρ := [some (.v (lv L)), some (I L.length), none]) (S := S) (x := rv) rfl L (fun _ => false) rv (by show _ ≤ 16777216; omega) (by
      show evI g__law_is_row (.seq (.var 0)) _ _ = .ok (rvs L) _
      simp only [lv]
      generalize rvs L = Ls at *
      simp -implicitDefEqProofs []) (fun a ha => by
      have o := fun S => F_lis_ratio_eq (S := S) (hL a ha) hk
      simp -implicitDefEqProofs [o])
    rw [this]
    simp
  have q0 : eqP (.lst []) (.lst []) = some true := rfl
  simp only [lv] at *
  generalize rvs L = Ls at *
  simp -implicitDefEqProofs [F__law_is_row, d__law_is_row, ec, hlen, q0, line]
theorem F_lsumB_eq {R : List Rat} {k l : Nat} (hR : ∀ q ∈ R, Bd k q) (hs : ∀ i, Bd l (sumR (R.take i))) (hkl : l + k ≤ 12000) : F__law_sum [.v (lv R)] S = .ok (.v (rv (sumR R))) S := by
  obtain ⟨ρ', S', e, z, hI, rfl⟩ := forL_inv (f := sTurn (bindG (.name 2)) (evB g__law_sum b__law_sum_0)) (fun i ρ S' => ∃ z, ρ = [some (.v (lv R)), some (.v (rv (sumR (R.take i)))), z] ∧ S' = S) (rvs R) 0 (ρ := [some (.v (lv R)), some (.v (rv 0)), none]) (S := S) (fun j y ρ S' hy hI => by
    obtain ⟨z, rfl, rfl⟩ := hI
    have hj : j < R.length := by simpa using (List.getElem?_eq_some_iff.mp hy).1
    rw [rvs_nth hj] at hy
    obtain rfl := Option.some.inj hy
    have o := fun S => F_lplus_eq (S := S) (hs j) (hR _ (nth_mem hj)) hkl
    rw [Nat.zero_add]
    refine ⟨_, _, ?_, some (.v (rv (nth R j))), rfl, rfl⟩
    rw [List.take_succ_eq_append_getElem hj, sumR_snoc, get_nth hj]
    generalize lv R = x at *
    simp -implicitDefEqProofs [b__law_sum_0, o]) ⟨none, rfl, rfl⟩
  rw [rvs_len, Nat.zero_add, List.take_length] at hI
  subst hI
  have e' := for_eq (Γ := g__law_sum) (S := S') (S1 := S') (tg := .name 2) (it := .seq (.var 0)) (b := b__law_sum_0) (by simp [lv]) e
  simp only [lv] at *
  generalize rvs R = Rs at *
  simp only [rv_zero] at *
  simp -implicitDefEqProofs [F__law_sum, d__law_sum, e', rv_zero, line]
/-! ### the shares -/
theorem sumR_take_le : ∀ {R : List Rat} (i : Nat), (∀ q ∈ R, 0 ≤ q) → 0 ≤ sumR (R.take i) ∧ sumR (R.take i) ≤ sumR R
  | [], i, _ => by rw [List.take_nil]; exact ⟨Rat.le_refl, Rat.le_refl⟩
  | q :: R, 0, h => by
    have := sumR_nonneg h
    exact ⟨Rat.le_refl, this⟩
  | q :: R, i + 1, h => by
    obtain ⟨h1, h2⟩ := sumR_take_le (R := R) i fun r hr => h r (List.mem_cons_of_mem _ hr)
    have h3 := h q List.mem_cons_self
    show 0 ≤ q + sumR (R.take i) ∧ q + sumR (R.take i) ≤ q + sumR R
    constructor <;> grind
theorem Cm.sumR {D : Int} : ∀ {R : List Rat}, (∀ q ∈ R, Cm D q) → Cm D (FWP.sumR R)
  | [], _ => Cm.zero
  | q :: R, h => (h q List.mem_cons_self).add (Cm.sumR fun r hr => h r (List.mem_cons_of_mem _ hr))
theorem sh_mem {n : Nat} {x : Rat} (h : x ∈ sh f m K n) : ∃ j, j < n ∧ x = sr f m K j / FWP.Sm (sr f m K) n := by
  unfold sh at h
  obtain ⟨j, hj, rfl⟩ := List.mem_map.mp h
  exact ⟨j, (mem_nats.mp hj).2, rfl⟩
theorem sh_sum (hf : 0 < f) (hm : 0 < m) (hK : 1 ≤ K) (n : Nat) : FWP.sumR (sh f m K (n + 1)) = 1 := by
  have hW := W_pos hf hm hK n
  unfold sh
  rw [sumR_nats (fun j => sr f m K j / FWP.Sm (sr f m K) (n + 1)), Sm_congr (G := fun j => sr f m K j * (1 / FWP.Sm (sr f m K) (n + 1))) fun j _ => by grind, Sm_mulr]
  grind
theorem sh_nn (hf : 0 < f) (hm : 0 < m) (hK : 1 ≤ K) (n : Nat) : ∀ x ∈ sh f m K (n + 1), 0 ≤ x := fun x hx => by
  obtain ⟨j, hj, rfl⟩ := sh_mem hx
  exact div_nn (W_pos hf hm hK n) (Rat.le_of_lt (sr_pos hf hm hK j))
theorem sh_Bd (bf : Bd 3 f) (bm : Bd 3 m) (hf : 0 < f) (hm : 0 < m) (hK : 1 ≤ K) (hK2 : K ≤ 15) {n : Nat} (hn : n + 1 ≤ 32) : (∀ x ∈ sh f m K (n + 1), Bd 661 x) ∧ ∀ i, Bd 661 (FWP.sumR ((sh f m K (n + 1)).take i)) := by
  obtain ⟨N, hN, hlt, hc⟩ := share_Cm bf bm hf hm hK hK2 hn
  have hall : ∀ x ∈ sh f m K (n + 1), Cm N x := fun x hx => by
    obtain ⟨j, hj, rfl⟩ := sh_mem hx
    exact hc j hj
  have h2 : (1 + 1) * N.toNat < 2 ^ 661 := by
    have : (2 : Nat) ^ 661 = 2 ^ 660 * 2 := Nat.pow_succ 2 660
    rw [this]
    generalize (2 : Nat) ^ 660 = P at *
    omega
  have nn := sh_nn hf hm hK n
  have hs := sh_sum hf hm hK n
  have one : ((1 : Nat) : Int) = 1 := rfl
  have hb : ∀ i, Bd 661 (FWP.sumR ((sh f m K (n + 1)).take i)) := fun i => by
    obtain ⟨a1, a2⟩ := sumR_take_le i nn
    rw [hs] at a2
    exact Cm.bd (M := 1) (Cm.sumR fun q hq => hall q (List.mem_of_mem_take hq)) hN a1 (by exact a2) h2
  refine ⟨fun x hx => ?_, hb⟩
  have l1 : x ≤ 1 := by
    obtain ⟨j, hj, e⟩ := List.getElem_of_mem hx
    obtain ⟨a1, a2⟩ := sumR_take_le (j + 1) nn
    rw [hs] at a2
    rw [List.take_succ_eq_append_getElem hj, sumR_snoc, e] at a2
    have := (sumR_take_le j nn).1
    grind
  exact Cm.bd (M := 1) (hall x hx) hN (nn x hx) (by exact l1) h2
/-! ### the law -/
theorem bal_ok (bf : Bd 3 f) (bm : Bd 3 m) (hf : 0 < f) (hm : 0 < m) (hK : 1 ≤ K) (hK2 : K ≤ 15) {n : Nat} (hn : n ≤ 30) {w0 w1 z10 z11 : Option SV} : ∃ z3, evS g_law (.forr (.name 3) (.rng1 (.bin .add false (.var 8) (.k (.int 1)))) b_law_0 []) [w0, w1, some (.v (lv (sh f m K (n + 2)))), none, none, none, some (.v (rv f)), some (.v (rv m)), some (I n), some (I K), z10, z11] S =
    .ok (.next [w0, w1, some (.v (lv (sh f m K (n + 2)))), z3, none, none, some (.v (rv f)), some (.v (rv m)), some (I n), some (I K), z10, z11]) S := by
  obtain ⟨bS, _⟩ := sh_Bd bf bm hf hm hK hK2 (n := n + 1) (by omega)
  obtain ⟨ρ', S', e, z3, hI, rfl⟩ := forL_inv (f := sTurn (bindG (.name 3)) (evB g_law b_law_0)) (fun _ ρ S' => ∃ z, ρ = [w0, w1, some (.v (lv (sh f m K (n + 2)))), z, none, none, some (.v (rv f)), some (.v (rv m)), some (I n), some (I K), z10, z11] ∧ S' = S) ((nats 0 (n + 1)).map iv) 0 (ρ := [w0, w1, some (.v (lv (sh f m K (n + 2)))), none, none, none, some (.v (rv f)), some (.v (rv m)), some (I n), some (I K), z10, z11]) (S := S) (fun j y ρ S' hy hI => by
    obtain ⟨z, rfl, rfl⟩ := hI
    obtain ⟨t, rfl, ht, hj⟩ := iv_get hy
    have hlen : (rvs (sh f m K (n + 2))).length = n + 2 := by rw [rvs_len, sh_len]
    have r1 := rvs_nth (L := sh f m K (n + 2)) (t := t) (by rw [sh_len]; omega)
    have r2 := rvs_nth (L := sh f m K (n + 2)) (t := t + 1) (by rw [sh_len]; omega)
    have x1 := bS _ (nth_mem (L := sh f m K (n + 2)) (t := t) (by rw [sh_len]; omega))
    have x2 := bS _ (nth_mem (L := sh f m K (n + 2)) (t := t + 1) (by rw [sh_len]; omega))
    have o1 := fun S => F_ltimes_eq (S := S) x1 bf (by omega)
    have o2 := fun S => F_ltimes_eq (S := S) bm (bz_Bd (K := K) hK2 t) (by omega)
    have o3 := fun S => F_ltimes_eq (S := S) x2 (bm.mul (bz_Bd (K := K) hK2 t)) (by omega)
    have eq1 : nth (sh f m K (n + 2)) t * f = nth (sh f m K (n + 2)) (t + 1) * (m * bz K t) := by
      rw [sh_nth (by omega), sh_nth (by omega)]
      have := sr_step (f := f) hm hK t
      have hW := W_pos (f := f) (m := m) (K := K) hf hm hK (n + 1)
      have e1 : sr f m K t / FWP.Sm (sr f m K) (n + 2) * f = sr f m K t * f / FWP.Sm (sr f m K) (n + 2) := by grind
      rw [e1, this]
      grind
    have q := eqP_rv (nth (sh f m K (n + 2)) (t + 1) * (m * bz K t)) (nth (sh f m K (n + 2)) (t + 1) * (m * bz K t))
    rw [decide_eq_true rfl] at q
    rw [eq1] at o1
    have eb : rv (bz K t) = .tup [.int ((min (t + 1) K : Nat) : Int), .int 1] := rfl
    rw [eb] at o2
    refine ⟨_, _, ?_, some (.v (iv t)), rfl, rfl⟩
    have i1 : t < n + 2 := by omega
    have i2 : t + 1 < n + 2 := by omega
    have i3 : t < n + 1 := hj
    simp only [lv] at *
    generalize rv (nth (sh f m K (n + 2)) (t + 1) * (m * bz K t)) = y1 at *
    generalize rv (nth (sh f m K (n + 2)) t) = y2 at *
    generalize rv (nth (sh f m K (n + 2)) (t + 1)) = y3 at *
    generalize rv (m * bz K t) = y4 at *
    generalize rvs (sh f m K (n + 2)) = R at *
    generalize rv f = vf at *
    generalize rv m = vm at *
    have r1 := (List.getElem?_eq_some_iff.mp r1).2
    have r2 := (List.getElem?_eq_some_iff.mp r2).2
    by_cases hc : K ≤ t
    · have hmin : min (t + 1) K = K := by omega
      rw [hmin] at o2
      simp -implicitDefEqProofs [b_law_0, iv, -ix?, ix_nat, ix_nat1, hlen, i1, i2, i3, r1, r2, o1, o2, o3, q, hc, Int.lt_add_one_iff, line]
    · have hmin : min (t + 1) K = t + 1 := by omega
      have hc2 : ¬ (K : Int) ≤ t := by omega
      rw [hmin] at o2
      have o2' : ∀ S, F__law_times [.v vm, .v (.tup [.int ((t : Int) + 1), .int 1])] S = .ok (.v y4) S := o2
      simp -implicitDefEqProofs [b_law_0, iv, -ix?, ix_nat, ix_nat1, hlen, i1, i2, i3, r1, r2, o1, o2', o3, q, hc, hc2, Int.lt_add_one_iff, line]) ⟨none, rfl, rfl⟩
  subst hI
  exact ⟨z3, for_r1 (x := (n : Int) + 1) (m := n + 1) rfl (by omega) (by omega) e⟩
/-- one part and no spare -/
theorem cold_is {a b : Nat} (ha : 1 ≤ a) (hb : 1 ≤ b) : sh (a : Rat) (b : Rat) 1 2 = [Rat.divInt b ((a : Int) + b), Rat.divInt a ((a : Int) + b)] := by
  have pa : (0 : Rat) < (a : Rat) := by exact_mod_cast (show 0 < a by omega)
  have pb : (0 : Rat) < (b : Rat) := by exact_mod_cast (show 0 < b by omega)
  have e1 : sr (a : Rat) (b : Rat) 1 1 = (a : Rat) / b := by
    show (1 : Rat) * a / (b * bz 1 0) = _
    have : bz 1 0 = 1 := rfl
    rw [this]
    grind
  have e0 : sr (a : Rat) (b : Rat) 1 0 = 1 := rfl
  have eW : FWP.Sm (sr (a : Rat) (b : Rat) 1) 2 = 1 + (a : Rat) / b := by
    show (0 : Rat) + sr (a : Rat) (b : Rat) 1 0 + sr (a : Rat) (b : Rat) 1 1 = _
    rw [e1, e0]; grind
  have s : (((a : Int) + (b : Int) : Int) : Rat) = (a : Rat) + (b : Rat) := by push_cast; rfl
  show [sr (a : Rat) (b : Rat) 1 0 / FWP.Sm (sr (a : Rat) (b : Rat) 1) 2, sr (a : Rat) (b : Rat) 1 1 / FWP.Sm (sr (a : Rat) (b : Rat) 1) 2] = _
  rw [eW, e1, e0, Rat.divInt_eq_div, Rat.divInt_eq_div, s]
  have c1 : ((a : Int) : Rat) = (a : Rat) := rfl
  have c2 : ((b : Int) : Rat) = (b : Rat) := rfl
  rw [c1, c2]
  congr 1
  · grind
  · congr 1
    grind
theorem ok_rvs' (L : List Rat) (n : Nat) : (rvs L).all (okA (n + 2)) = true := by
  rw [List.all_eq_true]
  intro x hx
  obtain ⟨q, _, rfl⟩ := List.mem_map.mp hx
  rfl
theorem ok_lv' (L : List Rat) (n : Nat) (h : L.length ≤ 4000000) : okA (n + 3) (lv L) = true := by
  show (decide ((rvs L).length ≤ 4000000) && (rvs L).all (okA (n + 2))) = true
  rw [ok_rvs', rvs_len, decide_eq_true h]
  rfl
end
theorem main (ns : List Int) (h : ns.length ≤ 63) : ∃ S', F_law [.v (.lst (ns.map PV.int))] [] = .ok (.v (.bl true)) S' := by
  have hrow : Row [rowV ns 0 4090 0] 0 := ⟨ns, 0, 4090, 0, rfl, by decide, by decide, by decide⟩
  obtain ⟨f, S1, e1, hf, bf, r1, b1⟩ := rate_spec hrow
  obtain ⟨m, S2, e2, hm, bm, r2, b2⟩ := rate_spec r1
  obtain ⟨n0, S3, e3, n1, n2, r3, b3⟩ := taken_spec (m := 30) r2 (by decide) (by decide)
  obtain ⟨k0, S4, e4, k1, k2, r4, b4⟩ := taken_spec (m := 12) r3 (by decide) (by decide)
  obtain ⟨a0, S5, e5, a1, a2, r5, b5⟩ := taken_spec (m := 5) r4 (by decide) (by decide)
  obtain ⟨c0, S6, e6, c1, c2, r6, b6⟩ := taken_spec (m := 5) r5 (by decide) (by decide)
  obtain ⟨n, rfl⟩ : ∃ n : Nat, n0 = n := ⟨n0.toNat, by omega⟩
  obtain ⟨K, hK0⟩ : ∃ K : Nat, 1 + k0 = K := ⟨(1 + k0).toNat, by omega⟩
  obtain ⟨a, ha0⟩ : ∃ a : Nat, 1 + a0 = a := ⟨(1 + a0).toNat, by omega⟩
  obtain ⟨b, hb0⟩ : ∃ b : Nat, 1 + c0 = b := ⟨(1 + c0).toNat, by omega⟩
  have hK : 1 ≤ K := by omega
  have hK2 : K ≤ 15 := by omega
  have ha : 1 ≤ a := by omega
  have hb : 1 ≤ b := by omega
  obtain ⟨bS, bT⟩ := sh_Bd bf bm hf hm hK hK2 (n := n + 1) (by omega)
  obtain ⟨bS2, _⟩ := sh_Bd bf bm hf hm hK hK2 (n := n + 2) (by omega)
  have o1 := fun S => F_standby_eq (S := S) bf bm hf hm hK hK2 (n := n) (by omega)
  have o2 := fun S => F_standby_eq (S := S) bf bm hf hm hK hK2 (n := n + 1) (by omega)
  have o3 := fun S => F_lis_row_eq (S := S) (L := sh f m K (n + 2)) bS (by decide) (by rw [sh_len]; omega)
  rw [sh_len] at o3
  have o4 := fun S => F_lsumB_eq (S := S) (R := sh f m K (n + 2)) bS bT (by decide)
  rw [sh_sum hf hm hK, rv_one] at o4
  obtain ⟨z3, o5⟩ := bal_ok (S := S4) bf bm hf hm hK hK2 (n := n) (by omega) (w0 := some (.v (.lst (ns.map .int)))) (w1 := some (.l 0)) (z10 := none) (z11 := none)
  have l1 : (rvs (sh f m K (n + 2))).length = n + 2 := by rw [rvs_len, sh_len]
  have l2 : (rvs (sh f m K (n + 3))).length = n + 3 := by rw [rvs_len, sh_len]
  have g1 := rvs_nth (L := sh f m K (n + 2)) (t := n + 1) (by rw [sh_len]; omega)
  have g2 := rvs_nth (L := sh f m K (n + 3)) (t := n + 2) (by rw [sh_len]; omega)
  have o6 := fun S => F_less_eq (S := S) (bS _ (nth_mem (L := sh f m K (n + 2)) (t := n + 1) (by rw [sh_len]; omega))) (bS2 _ (nth_mem (L := sh f m K (n + 3)) (t := n + 2) (by rw [sh_len]; omega))) (by decide)
  have hless : ¬ nth (sh f m K (n + 2)) (n + 1) < nth (sh f m K (n + 3)) (n + 2) := by
    rw [sh_nth (by omega), sh_nth (by omega), Rat.not_lt]
    have h1 := sr_last hf hm hK (n + 1)
    have w1 := W_pos hf hm hK (n + 1)
    have w2 := W_pos hf hm hK (n + 2)
    rw [le_div w2]
    have e : sr f m K (n + 1) / FWP.Sm (sr f m K) (n + 2) * FWP.Sm (sr f m K) (n + 3) = sr f m K (n + 1) * FWP.Sm (sr f m K) (n + 3) / FWP.Sm (sr f m K) (n + 2) := by grind
    rw [e]
    have hh : 0 ≤ (sr f m K (n + 1) * FWP.Sm (sr f m K) (n + 3) - sr f m K (n + 2) * FWP.Sm (sr f m K) (n + 2)) / FWP.Sm (sr f m K) (n + 2) := div_nn w1 (by grind)
    have e2 : (sr f m K (n + 1) * FWP.Sm (sr f m K) (n + 3) - sr f m K (n + 2) * FWP.Sm (sr f m K) (n + 2)) / FWP.Sm (sr f m K) (n + 2) = sr f m K (n + 1) * FWP.Sm (sr f m K) (n + 3) / FWP.Sm (sr f m K) (n + 2) - sr f m K (n + 2) := by grind
    rw [e2] at hh
    grind
  rw [decide_eq_false hless] at o6
  -- one part alone
  have ba : Bd 3 ((a : Nat) : Rat) := ⟨by show a < 8; omega, by show 1 < 8; decide⟩
  have bb : Bd 3 ((b : Nat) : Rat) := ⟨by show b < 8; omega, by show 1 < 8; decide⟩
  have o7 := fun S => F_standby_eq (S := S) (K := 1) (n := 0) ba bb (by exact_mod_cast ha) (by exact_mod_cast hb) (by decide) (by decide) (by decide)
  rw [cold_is ha hb, rv_nat, rv_nat] at o7
  have o8 := fun S => F_lgcd_eq (a : Int) 1 S (by decide +kernel)
  have p3 : (2 : Nat) ^ 4 = 16 := rfl
  have big : ∀ n : Nat, n < 16 → n < 2 ^ 13000 := fun n hn => Nat.lt_of_lt_of_le hn (by rw [← p3]; exact Nat.pow_le_pow_right (by decide) (by decide))
  have o9 := fun S => F_ratio_eq (b : Int) ((a : Int) + b) S (by omega) (big _ (by omega)) (big _ (by omega))
  have o10 := fun S => F_ratio_eq (a : Int) ((a : Int) + b) S (by omega) (big _ (by omega)) (big _ (by omega))
  have o11 := fun S => alike_refl 8 (lv [Rat.divInt b ((a : Int) + b), Rat.divInt a ((a : Int) + b)]) S (ok_lv' _ 5 (by show 2 ≤ 4000000; decide))
  have hg : Int.gcd (a : Int) 1 = 1 := by simp
  have q1 : eqP (.tup [.int 1, .int 1]) (.tup [.int 1, .int 1]) = some true := rfl
  have x1 : ix? (n + 2) (-1) = some (n + 1) := ix_last (n := n + 2) (by omega)
  have x2 : ix? (n + 3) (-1) = some (n + 2) := ix_last (n := n + 3) (by omega)
  have m1 : (n : Int) + 2 = ((n + 2 : Nat) : Int) := by omega
  have m2 : (n : Int) + 1 = ((n + 1 : Nat) : Int) := by omega
  have o2' : ∀ S, F_standby [.v (rv f), .v (rv m), I ((n : Int) + 1), I K] S = .ok (.v (lv (sh f m K (n + 3)))) S := o2
  have o3' : ∀ S, F__law_is_row [.v (lv (sh f m K (n + 2))), I ((n : Int) + 2)] S = .ok (.v (.bl true)) S := o3
  have o7' : ∀ S, F_standby [.v (.tup [.int a, .int 1]), .v (.tup [.int b, .int 1]), I 0, I 1] S = .ok (.v (.tup [rv (Rat.divInt b ((a : Int) + b)), rv (Rat.divInt a ((a : Int) + b))])) S := o7
  have o11' : ∀ S, F__law_alike 8 [.v (.tup [rv (Rat.divInt b ((a : Int) + b)), rv (Rat.divInt a ((a : Int) + b))]), .v (.tup [rv (Rat.divInt b ((a : Int) + b)), rv (Rat.divInt a ((a : Int) + b))])] S = .ok (.v (.bl true)) S := o11
  refine ⟨[], ?_⟩
  simp only [rowV] at e1
  clear o2 o3 o7 o11 bS bT bS2 hless
  simp only [lv] at *
  generalize rv (Rat.divInt b ((a : Int) + b)) = v1 at *
  generalize rv (Rat.divInt a ((a : Int) + b)) = v2 at *
  generalize rv (nth (sh f m K (n + 2)) (n + 1)) = v3 at *
  generalize rv (nth (sh f m K (n + 3)) (n + 2)) = v4 at *
  generalize rvs (sh f m K (n + 2)) = R1 at *
  generalize rvs (sh f m K (n + 3)) = R2 at *
  generalize rv f = vf at *
  generalize rv m = vm at *
  have g1 := (List.getElem?_eq_some_iff.mp g1).2
  have g2 := (List.getElem?_eq_some_iff.mp g2).2
  simp -implicitDefEqProofs [F_law, d_law, t_law_0, t_law_1, t_law_2, t_law_3, t_law_4, t_law_5, t_law_6, t_law_7, t_law_8, t_law_9, e1, e2, e3, e4, e5, e6, hK0, ha0, hb0, o1, o2', o3', o4, o5, o6, o7', o8, hg, o9, o10, o11', q1, -ix?, x1, x2, l1, l2, g1, g2, line]
theorem main' (ns : List Int) (h : ns.length ≤ 63) : ∃ S', Lk90.F_law [.v (.lst (ns.map PV.int))] [] = .ok (.v (.bl true)) S' := by
  rw [F_law_is]
  exact main ns h
end P90

open PySem PySem.W PySem.Calls PyProof.Rows
theorem PySem.Challenge.cw_faultworks_k90_whole_standby_holds : PySem.Challenge.rw_faultworks_k90_whole_standby.Holds := by
  w_on; o_law
  refine HandSHeadRun.head_any (q := view (OpenLaw.row PySem.Challenge.rw_faultworks_k90_whole_standby).prog [29]) (H := Lk90.hk) (ob := Lk90.ob) (M := 4000) (loose := Lk90.loose) (d := HandSHeadRun.topDef (OpenLaw.row PySem.Challenge.rw_faultworks_k90_whole_standby).prog 29) (kwd := []) Lk90.ob_eq
    (by kernel_rfl) (fun s => by kernel_rfl) Lk90.run (by kernel_rfl) (by kernel_rfl) (by kernel_rfl) (by rfl) (by first | assumption | decide +kernel) (by decide +kernel) ⟨rfl, rfl, rfl, rfl, rfl, by decide +kernel⟩ ?hw ?hc
  case hw => w_witness2
  case hc =>
    exact FW.law_end (l := PySem.Challenge.rw_faultworks_k90_whole_standby) (n := 63) (k := Lk90.lLaw) (x := "_law_script") (f := Lk90.F_law) (dl := Lk90.D_law) (il := 19) rfl (by decide) (by kernel_rfl) ⟨rfl, by decide, by decide⟩ rfl rfl rfl rfl (by decide +kernel)
      (fun _ _ _ _ _ _ us hl => match us, hl with | [_], _ => rfl)
      (fun w mg h K base fd X G c F => Lk90.fn_law X G c F) P90.main'
