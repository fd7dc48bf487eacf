import PyProof.Rows.All
import PySem.Str
import Wide.All
import OpenK.AllK
import Wide.FinOn
import HandS.Base
import HandS.Call
import HandS.List
import HandS.Comp
import HandS.Dict
import HandS.Iter
import HandS.Walk
import HandS.Conv
import HandS.Flow
import HandS.Words
import HandS.TupMul
import HandS.TupAny
import HandS.Style
import HandS.TupLe
import HandS.IsInst
import HandS.Deep
import PyProof.Rows.BitMore
import KE.BitLaws
import KE.SortData
import KE.DataMinMax
import HandS.SetFor
import HandS.TupSets
import HandS.SortOrd
import KE.KIndexOf
import HandS.SortInts
import HandS.Strs
import KE.KTupSum
import HandS.Zip
import KE.GoesMore
import KE.GoesZip
import KE.GoesEnum
import HandS.TryOnly
import HandS.Small
import KE.KDictCopyH
import HandS.DictComp
import KE.KDictList
import KE.KDictZip
import HandS.SetKeys
import HandS.Defaults
import KE.KStateDown
import HandS.Head0
import HandS.Head1
import HandS.Head2
import HandS.HeadEnd
import HandS.HeadHook1
import HandS.HeadHook2
import PySem.Challenge.RW_faultworks_k22_whole_sets_of_paths_with
set_option Elab.async false
set_option linter.all false
set_option maxRecDepth 100000
set_option maxHeartbeats 0
namespace FW
open PySem (Str)

inductive PV where
  | non | bl (b : Bool) | int (i : Int) | str (s : Str) | tup (xs : List PV) | lst (xs : List PV) | fn (n : Str) | dic (ks vs : List PV)
  deriving Inhabited
inductive Ob where
  | lst (xs : List PV) | dic (kvs : List (PV × PV)) | dtt (kvs : List (List Int × Int)) | gone
  deriving Inhabited
inductive SV where
  | v (x : PV) | l (n : Nat) | ls (ns : List Nat)
  deriving Inhabited
abbrev Store := List Ob
abbrev Slots := List (Option SV)
inductive Out (α : Type) where
  | ok (a : α) (S : Store) | exc (c : Str) (as : List PV) (S : Store) | bad
  deriving Inhabited
def Out.bind {α β : Type} : Out α → (α → Store → Out β) → Out β
  | .ok a S, f => f a S
  | .exc c as S, _ => .exc c as S
  | .bad, _ => .bad
@[simp] theorem Out.bind_ok {α β : Type} (a : α) (S : Store) (f : α → Store → Out β) : (Out.ok a S).bind f = f a S := rfl
@[simp] theorem Out.bind_exc {α β : Type} (c : Str) (as : List PV) (S : Store) (f : α → Store → Out β) : (Out.exc c as S).bind f = .exc c as S := rfl
@[simp] theorem Out.bind_bad {α β : Type} (f : α → Store → Out β) : (Out.bad).bind f = .bad := rfl
abbrev Fn := List SV → Store → Out SV

mutual
/-- x == y -/
def eqv : PV → PV → Bool
  | .non, .non => true
  | .bl a, .bl b => a == b
  | .bl a, .int j => decide ((if a = true then 1 else 0) = j)
  | .int i, .bl b => decide (i = (if b = true then 1 else 0))
  | .int i, .int j => decide (i = j)
  | .str a, .str b => decide (a = b)
  | .tup xs, .tup ys => eqvs xs ys
  | .lst xs, .lst ys => eqvs xs ys
  | .fn _, .fn _ => true
  | .fn _, .non => true
  | .non, .fn _ => true
  | .non, .dic _ _ => true
  | .fn _, .dic _ _ => true
  | .dic _ _, .non => true
  | .dic _ _, .fn _ => true
  | .dic _ _, .dic _ _ => true
  | _, _ => false
def eqvs : List PV → List PV → Bool
  | [], [] => true
  | x :: xs, y :: ys => eqv x y && eqvs xs ys
  | _, _ => false
end
mutual
/-- not deeper than n -/
def dpLe : Nat → PV → Bool
  | _, .non => true
  | _, .bl _ => true
  | _, .int _ => true
  | _, .str _ => true
  | _, .fn _ => true
  | _, .dic _ _ => false
  | 0, .tup _ => false
  | 0, .lst _ => false
  | n + 1, .tup xs => dpLes n xs
  | n + 1, .lst xs => dpLes n xs
def dpLes : Nat → List PV → Bool
  | _, [] => true
  | n, x :: xs => dpLe n x && dpLes n xs
end
mutual
/-- no def within -/
def noFn : PV → Bool
  | .fn _ => false
  | .dic _ _ => false
  | .tup xs => noFns xs
  | .lst xs => noFns xs
  | _ => true
def noFns : List PV → Bool
  | [] => true
  | x :: xs => noFn x && noFns xs
end
def eqD : Nat := 24
def eqP (x y : PV) : Option Bool := if (noFn x && noFn y && (dpLe eqD x || dpLe eqD y)) = true then some (eqv x y) else none
mutual
/-- x < y; none: not told here -/
def ltP : PV → PV → Option Bool
  | .int i, .int j => some (decide (i < j))
  | .str a, .str b => some (decide (a.cps.toList < b.cps.toList))
  | .tup xs, .tup ys => ltPs xs ys
  | _, _ => none
def ltPs : List PV → List PV → Option Bool
  | [], [] => some false
  | [], _ :: _ => some true
  | _ :: _, [] => some false
  | x :: xs, y :: ys => if eqv x y = true then ltPs xs ys else match ltP x y, ltPs xs ys with
    | some b, some _ => some b
    | _, _ => none
end
mutual
/-- the two can be compared, place by place -/
def alikeP : PV → PV → Bool
  | .non, .non => true
  | .bl _, .bl _ => true
  | .int _, .int _ => true
  | .str _, .str _ => true
  | .lst xs, .lst ys => alikePs xs ys
  | .tup xs, .tup ys => alikePs xs ys
  | _, _ => false
def alikePs : List PV → List PV → Bool
  | x :: xs, y :: ys => alikeP x y && alikePs xs ys
  | [], _ => true
  | _ :: _, [] => true
end
mutual
/-- x < y, for values that are alike -/
def ltK : PV → PV → Bool
  | .bl a, .bl b => !a && b
  | .int i, .int j => decide (i < j)
  | .str a, .str b => decide (a.cps.toList < b.cps.toList)
  | .lst xs, .lst ys => ltKs xs ys
  | .tup xs, .tup ys => ltKs xs ys
  | _, _ => false
def ltKs : List PV → List PV → Bool
  | [], [] => false
  | [], _ :: _ => true
  | _ :: _, [] => false
  | x :: xs, y :: ys => if eqv x y = true then ltKs xs ys else ltK x y
end
def isNT : PV → Bool
  | .tup (_ :: _) => true
  | _ => false
def isOne : PV → Bool
  | .bl _ => true
  | .int _ => true
  | .str _ => true
  | .lst _ => true
  | _ => false
def allAlike (xs : List PV) : Bool := xs.all fun x => xs.all fun y => alikeP x y
def sortOk (xs : List PV) : Bool := noFns xs && (decide (xs.length < 2) || (allAlike xs && (xs.all isNT || xs.all isOne) && dpLes eqD xs))
def insB (le : PV → PV → Bool) (x : PV) : List PV → List PV
  | [] => [x]
  | y :: r => if le x y = true then x :: y :: r else y :: insB le x r
def sortB (le : PV → PV → Bool) : List PV → List PV
  | [] => []
  | x :: r => insB le x (sortB le r)
def leK (x y : PV) : Bool := !ltK y x
def isortK (xs : List PV) : List PV := sortB leK xs
def isSome1 : PV → Bool
  | .non => false
  | .fn _ => false
  | .dic _ _ => false
  | _ => true
def minOk (xs : List PV) : Bool := noFns xs && allAlike xs && dpLes eqD xs && xs.all isSome1
def allInt : List PV → Bool
  | [] => true
  | .int _ :: r => allInt r
  | _ => false
def allIntT : List PV → Bool
  | [] => true
  | .tup xs :: r => allInt xs && allIntT r
  | _ => false
def setOk (xs : List PV) : Bool := decide (xs.length < 64) && (allInt xs || (allIntT xs && sortOk xs))

inductive BOp where
  | add | sub | mul | fdiv | mod | shl | shr | band | bor | bxor | pow
  deriving DecidableEq
inductive COp where
  | eq | ne | lt | le | gt | ge | is | isnot | isin | notin
  deriving DecidableEq
inductive BI where
  | len | int | abs | sum | min1 | max1 | min2 | max2 | tuple | list | sorted | sortedSet | sortedKeys | lenSet | listRange1 | listRange2 | tupleRange1 | tupleRange2 | sortedRange | str
  deriving DecidableEq
inductive Ty where
  | int | bool | tuple | list | str | dict
  deriving DecidableEq

mutual
inductive CE where
  | var (i : Nat)
  | k (x : PV)
  | glob (n : Str) (x : PV)
  | tup (es : CL)
  | list (m : Bool) (es : CL)
  | bin (o : BOp) (m : Bool) (a b : CE)
  | neg (a : CE)
  | nt (a : CE)
  | and (es : CL)
  | or (es : CL)
  | cmp (o : COp) (a b : CE)
  | chain (o o' : COp) (a b c : CE)
  | ite (c a b : CE)
  | call (i : Nat) (es : CL)
  | fnv (n : Str)
  | callv (e : CE) (es : CL)
  | index (a x : CE)
  | indexG (n : Str) (xs : List PV) (x : CE)
  | bi (b : BI) (m : Bool) (es : CL)
  | isi (ts : List Ty) (e : CE)
  | idx (a i : CE)
  | slc (m : Bool) (a : CE) (lo hi : CE)
  | comp (m : Bool) (own : List Nat) (tg : CG) (it : CI) (cond : CE) (elt : CE)
  | comp2 (m : Bool) (own own2 : List Nat) (tg : CG) (it : CI) (c1 : CE) (tg2 : CG) (it2 : CI) (cond : CE) (elt : CE)
  | dic0
  | get (d k x : CE)
  | rev (m : Bool) (a : CE)
  | slcS (m : Bool) (k : Nat) (a : CE)
  | dcomp (own : List Nat) (tg : CG) (it : CI) (cond k x : CE)
  | dicd (es : CL)
  | dicP
  | count (a x : CE)
  | lzip (m : Bool) (a b : CE)
  | gin (neg : Bool) (n : Str) (ks vs : List PV) (e : CE)
  | gidx (n : Str) (ks vs : List PV) (e : CE)
  | lvals (m : Bool) (d : CE)
  | compN (own : List Nat) (tg : CG) (it : CI) (cond elt : CE)
  | ixE (i : Nat) (a : CE)
  | dtt0
  | getT (d k x : CE)
  | idxT (d k : CE)
  | keysT (m : Bool) (d : CE)
inductive CL where
  | nil | cons (e : CE) (es : CL)
inductive CG where
  | name (i : Nat) | tup (gs : CGs)
inductive CGs where
  | nil | cons (g : CG) (gs : CGs)
/-- what is walked -/
inductive CI where
  | seq (e : CE) | rng1 (a : CE) | rng2 (a b : CE) | rng3 (a b c : CE) | zip2 (a b : CE) | enum (a : CE)
  | keys (d : CE) | items (d : CE) | values (d : CE)
end
mutual
inductive CS where
  | set (i : Nat) (e : CE)
  | unpack (gs : CGs) (e : CE)
  | par (is : List Nat) (es : CL)
  | sub (i : Nat) (a e : CE)
  | put2 (i : Nat) (a : CE) (j : Nat) (b : CE) (es : CL)
  | aug (i : Nat) (o : BOp) (e : CE)
  | augsub (i : Nat) (a : CE) (o : BOp) (e : CE)
  | app (i : Nat) (e : CE)
  | appE (i : Nat) (a e : CE)
  | subX (c a e : CE)
  | putT (i : Nat) (a e : CE)
  | expr (e : CE)
  | ifs (c : CE) (a b : CB)
  | forr (tg : CG) (it : CI) (body : CB) (wipe : List Nat)
  | whil (c : CE) (body : CB) (wipe : List Nat)
  | forl (tg : CG) (e : CE) (body : CB) (wipe : List Nat)
  | ret (e : CE)
  | retN
  | brk
  | cnt
  | raise (c : Str) (es : CL)
  | freeze (i : Nat)
  | pop (i : Nat)
  | parG (is : List Nat) (es : CL)
  | grp (d nm mny kv : Nat)
inductive CB where
  | nil | cons (s : CS) (r : CB)
end

def seqOf (S : Store) : SV → Option (Bool × List PV)
  | .v (.tup xs) => some (false, xs)
  | .v (.lst xs) => some (true, xs)
  | .l n => match S[n]? with
    | some (.lst xs) => some (true, xs)
    | _ => none
  | _ => none
def dicOf (S : Store) : SV → Option (List (PV × PV))
  | .l n => match S[n]? with
    | some (.dic kvs) => some kvs
    | _ => none
  | _ => none
def dicR (S : Store) : SV → Option (List (PV × PV))
  | .v (.dic ks vs) => some (ks.zip vs)
  | x => dicOf S x
def truth (S : Store) : SV → Option Bool
  | .v .non => some false
  | .v (.bl b) => some b
  | .v (.int i) => some (i != 0)
  | .v (.str _) => none
  | .v (.fn _) => none
  | .v (.dic _ _) => none
  | .v (.tup xs) => some (!xs.isEmpty)
  | .v (.lst xs) => some (!xs.isEmpty)
  | .l n => match S[n]? with
    | some (.lst xs) => some (!xs.isEmpty)
    | _ => none
  | .ls _ => none
def line : Nat := 16777216
@[simp] def mkL (m : Bool) (xs : List PV) (S : Store) : Out SV :=
  if xs.length ≤ line then (if m then .ok (.l S.length) (S ++ [.lst xs]) else .ok (.v (.lst xs)) S) else .bad
@[simp] def mkT (xs : List PV) (S : Store) : Out SV := if xs.length ≤ line then .ok (.v (.tup xs)) S else .bad
def mulOk (i j : Int) : Bool := decide (i.natAbs.log2 + j.natAbs.log2 < 100000000)
def divOk (i j : Int) : Bool := decide (j ≠ 0) && (decide (j.natAbs.log2 < 9000) || decide (i.natAbs.log2 < 13000))
@[simp] def asInt : PV → Option Int
  | .int i => some i
  | .bl b => some (if b then 1 else 0)
  | _ => none
def rep (n : Nat) (xs : List PV) : List PV := (List.replicate n xs).flatten
@[simp] def intOp (o : BOp) (i j : Int) : Option Int := match o with
  | .add => some (i + j)
  | .sub => some (i - j)
  | .mul => if mulOk i j then some (i * j) else none
  | .fdiv => if divOk i j = true then some (i.fdiv j) else none
  | .mod => if j = 0 then none else some (i.fmod j)
  | .shl => if 0 ≤ j ∧ j ≤ 1000000 ∧ i.natAbs < 2 ^ 64 then some (i * 2 ^ j.toNat) else none
  | .shr => if 0 ≤ j then some (i / 2 ^ j.toNat) else none
  | .band => if 0 ≤ i ∧ 0 ≤ j then some (Int.ofNat (i.toNat &&& j.toNat)) else none
  | .bor => if 0 ≤ i ∧ 0 ≤ j then some (Int.ofNat (i.toNat ||| j.toNat)) else none
  | .bxor => if 0 ≤ i ∧ 0 ≤ j then some (Int.ofNat (i.toNat ^^^ j.toNat)) else none
  | .pow => if 0 ≤ j ∧ j ≤ 1000000 ∧ i.natAbs < 2 ^ 64 then some (i ^ j.toNat) else none
@[simp] def binOp (o : BOp) (m : Bool) (x y : SV) (S : Store) : Out SV :=
  match x, y with
  | .v (.int i), .v (.int j) => match intOp o i j with
    | some k => .ok (.v (.int k)) S
    | none => .bad
  | .v (.str a), .v (.str b) => match o with
    | .add => if a.length + b.length ≤ line ∧ (a ++ b).cps.all (· < 0x110000) = true then .ok (.v (.str (a ++ b))) S else .bad
    | _ => .bad
  | .v (.int i), .v (.bl b) => match o with
    | .add => .ok (.v (.int (i + (if b then 1 else 0)))) S
    | _ => .bad
  | .v (.bl a), .v (.bl b) => match o with
    | .sub => .ok (.v (.int ((if a then 1 else 0) - (if b then 1 else 0)))) S
    | _ => .bad
  | x, .v (.int j) => match o, seqOf S x with
    | .mul, some (true, xs) => if xs.length * j.toNat ≤ line ∧ -1000000 ≤ j ∧ j ≤ 1000000 then mkL m (rep j.toNat xs) S else .bad
    | .mul, some (false, xs) => if -1000 ≤ j ∧ j ≤ 1000 ∧ xs.length ≤ 1000 then mkT (rep j.toNat xs) S else .bad
    | _, _ => .bad
  | x, y => match o, seqOf S x, seqOf S y with
    | .add, some (true, xs), some (true, ys) => mkL m (xs ++ ys) S
    | .add, some (false, xs), some (false, ys) => mkT (xs ++ ys) S
    | _, _, _ => .bad
def pure? (S : Store) : SV → Option PV
  | .v x => some x
  | .l n => match S[n]? with
    | some (.lst xs) => some (.lst xs)
    | _ => none
  | .ls _ => none
def anyEq (x : PV) (ys : List PV) : Option Bool := if (noFn x && noFns ys && (dpLe eqD x || dpLes eqD ys)) = true then some (ys.any fun y => eqv y x) else none
def keyOk : PV → Bool
  | .int _ => true
  | .str _ => true
  | _ => false
def keyEq : PV → PV → Bool
  | .int i, .int j => decide (i = j)
  | .str a, .str b => decide (a = b)
  | _, _ => false
def keyGet (k : PV) (kvs : List (PV × PV)) : Option PV := (kvs.find? fun kv => keyEq kv.1 k).map (·.2)
def keyPut (k v : PV) (kvs : List (PV × PV)) : List (PV × PV) :=
  if (kvs.any fun kv => keyEq kv.1 k) = true then kvs.map (fun kv => if keyEq kv.1 k = true then (kv.1, v) else kv) else kvs ++ [(k, v)]
@[simp] def isNonS : SV → Bool
  | .v .non => true
  | _ => false
@[simp] def memOp (x y : SV) (S : Store) : Option Bool := match pure? S x with
  | some x => match seqOf S y with
    | some (_, ys) => anyEq x ys
    | none => match dicR S y with
      | some kvs => if keyOk x = true then some (keyGet x kvs).isSome else none
      | none => none
  | none => none
@[simp] def cmpOp (o : COp) (x y : SV) (S : Store) : Option Bool :=
  match o with
  | .is => match y with
    | .v .non => some (isNonS x)
    | .v (.bl b) => match x with
      | .v (.bl a) => some (a == b)
      | .v (.int _) => some false
      | _ => none
    | _ => none
  | .isnot => match y with
    | .v .non => some (!isNonS x)
    | .v (.bl b) => match x with
      | .v (.bl a) => some (!(a == b))
      | _ => none
    | _ => none
  | .isin => memOp x y S
  | .notin => (memOp x y S).map (!·)
  | .eq => match pure? S x, pure? S y with
    | some x, some y => eqP x y
    | _, _ => none
  | .ne => match pure? S x, pure? S y with
    | some x, some y => (eqP x y).map (!·)
    | _, _ => none
  | .lt => match x, y with
    | .v (.int i), .v (.int j) => some (decide (i < j))
    | .v (.tup xs), .v (.tup ys) => if (noFn (.tup xs) && noFn (.tup ys) && (dpLe eqD (.tup xs) && dpLe eqD (.tup ys))) = true then ltP (.tup xs) (.tup ys) else none
    | _, _ => none
  | .le => match x, y with
    | .v (.int i), .v (.int j) => some (decide (i ≤ j))
    | _, _ => none
  | .gt => match x, y with
    | .v (.int i), .v (.int j) => some (decide (j < i))
    | _, _ => none
  | .ge => match x, y with
    | .v (.int i), .v (.int j) => some (decide (j ≤ i))
    | _, _ => none
inductive Tg where
  | non | bl | int | str | tup | lst | dic
def tgOf (S : Store) : SV → Option Tg
  | .v .non => some .non
  | .v (.bl _) => some .bl
  | .v (.int _) => some .int
  | .v (.str _) => some .str
  | .v (.tup _) => some .tup
  | .v (.lst _) => some .lst
  | .v (.fn _) => none
  | .v (.dic _ _) => some .dic
  | .l n => match S[n]? with
    | some (.lst _) => some .lst
    | some (.dic _) => some .dic
    | _ => none
  | .ls _ => none
@[simp] def tgIs : Tg → Ty → Bool
  | .bl, .int => true
  | .bl, .bool => true
  | .int, .int => true
  | .str, .str => true
  | .tup, .tuple => true
  | .lst, .list => true
  | .dic, .dict => true
  | _, _ => false
@[simp] def isTys (S : Store) (x : SV) (ts : List Ty) : Option Bool := match tgOf S x with
  | some g => some (ts.any (tgIs g))
  | none => none
@[simp] def ix? (n : Nat) (i : Int) : Option Nat := if 0 ≤ i then (if i < n then some i.toNat else none) else (if 0 ≤ i + n then some (i + n).toNat else none)
def sx (n d : Nat) : Option Int → Nat
  | none => d
  | some v => if v < 0 then (v + n).toNat else min v.toNat n
@[simp] def part? : PV → Option (Option Int)
  | .non => some none
  | .int i => some (some i)
  | _ => none
def cut (xs : List PV) (lo hi : Option Int) : List PV := (xs.drop (sx xs.length 0 lo)).take (sx xs.length xs.length hi - sx xs.length 0 lo)
@[simp] def ints? : List PV → Option (List Int)
  | [] => some []
  | .int i :: r => (ints? r).map (i :: ·)
  | _ => none
def sumI : List Int → Int
  | [] => 0
  | i :: r => i + sumI r
def minP : PV → List PV → PV
  | x, [] => x
  | x, y :: r => if ltK y x then minP y r else minP x r
def maxP : PV → List PV → PV
  | x, [] => x
  | x, y :: r => if ltK x y then maxP y r else maxP x r
def dedup : List PV → List PV
  | [] => []
  | x :: r => if (r.any fun y => eqv y x) = true then dedup r else x :: dedup r
def rng (a b : Int) : List PV := (List.range (b - a).toNat).map fun i => .int (a + Int.ofNat i)
def rngN (n : Int) : List PV := (List.range n.toNat).map fun i => .int (Int.ofNat i)
def rng3 (a b c : Int) : List PV := (List.range (if 0 < c then ((b - a + c - 1) / c).toNat else ((a - b - c - 1) / (-c)).toNat)).map fun i => .int (a + Int.ofNat i * c)
def rngOk (n : Int) : Bool := decide (n ≤ 4000000)
@[simp] def ofOpt (r : Option Bool) (S : Store) : Out SV := match r with
  | some b => .ok (.v (.bl b)) S
  | none => .bad
@[simp] def bLen (x : SV) (S : Store) : Out SV := match seqOf S x with
  | some (_, ys) => .ok (.v (.int ys.length)) S
  | none => match dicOf S x with
    | some kvs => .ok (.v (.int kvs.length)) S
    | none => .bad
@[simp] def bInt (x : SV) (S : Store) : Out SV := match x with
  | .v (.int i) => .ok (.v (.int i)) S
  | .v (.bl b) => .ok (.v (.int (if b = true then 1 else 0))) S
  | _ => .bad
@[simp] def bAbs (x : SV) (S : Store) : Out SV := match x with
  | .v (.int i) => .ok (.v (.int (if i < 0 then -i else i))) S
  | _ => .bad
@[simp] def onSeq (f : List PV → Out SV) (x : SV) (S : Store) : Out SV := match seqOf S x with
  | some (_, ys) => f ys
  | none => .bad
@[simp] def bSum (x : SV) (S : Store) : Out SV := onSeq (fun ys => match ints? ys with
  | some is => .ok (.v (.int (sumI is))) S
  | none => .bad) x S
def bMin1 (x : SV) (S : Store) : Out SV := onSeq (fun ys => match ys with
  | [] => .bad
  | y :: ys => if minOk (y :: ys) = true then .ok (.v (minP y ys)) S else .bad) x S
def bMax1 (x : SV) (S : Store) : Out SV := onSeq (fun ys => match ys with
  | [] => .bad
  | y :: ys => if minOk (y :: ys) = true then .ok (.v (maxP y ys)) S else .bad) x S
@[simp] def bMin2 (x y : SV) (S : Store) : Out SV := match x, y with
  | .v (.int i), .v (.int j) => .ok (.v (.int (if j < i then j else i))) S
  | _, _ => .bad
@[simp] def bMax2 (x y : SV) (S : Store) : Out SV := match x, y with
  | .v (.int i), .v (.int j) => .ok (.v (.int (if j > i then j else i))) S
  | _, _ => .bad
@[simp] def bTuple (x : SV) (S : Store) : Out SV := onSeq (fun ys => mkT ys S) x S
@[simp] def bList (m : Bool) (x : SV) (S : Store) : Out SV := onSeq (fun ys => mkL m ys S) x S
def bSorted (m : Bool) (x : SV) (S : Store) : Out SV := match seqOf S x with
  | some (_, ys) => if sortOk ys = true then mkL m (isortK ys) S else .bad
  | _ => .bad
def bSortedSet (m : Bool) (x : SV) (S : Store) : Out SV := match seqOf S x with
  | some (false, ys) => if setOk ys = true then mkL m (isortK (dedup ys)) S else .bad
  | some (true, ys) => if (decide (ys.length < 64) && allInt ys) = true then mkL m (isortK (dedup ys)) S else .bad
  | _ => .bad
def bLenSet (x : SV) (S : Store) : Out SV := match seqOf S x with
  | some (true, ys) => if ((decide (ys.length < 64) || decide ((dedup ys).length < 63)) && allIntT ys) = true then .ok (.v (.int (dedup ys).length)) S else .bad
  | some (false, ys) => if (decide (ys.length < 64) && allInt ys) = true then .ok (.v (.int (dedup ys).length)) S else .bad
  | _ => .bad
def bRange (f : List PV → Store → Out SV) (x y : SV) (S : Store) : Out SV := match x, y with
  | .v (.int a), .v (.int b) => if (rngOk b && rngOk a && rngOk (-a) && rngOk (-b)) = true then f (rng a b) S else .bad
  | _, _ => .bad
def intsO : List PV → Option (List Int)
  | [] => some []
  | .int i :: xs => (intsO xs).map (i :: ·)
  | _ :: _ => none
def tkOf : SV → Option (List Int)
  | .v (.tup xs) => intsO xs
  | _ => none
def dttOf (S : Store) : SV → Option (List (List Int × Int))
  | .l n => match S[n]? with
    | some (.dtt kvs) => some kvs
    | _ => none
  | _ => none
def tGet (k : List Int) (kvs : List (List Int × Int)) : Option Int := (kvs.find? fun p => decide (p.1 = k)).map (·.2)
def tPut (k : List Int) (v : Int) (kvs : List (List Int × Int)) : List (List Int × Int) :=
  if (tGet k kvs).isSome = true then kvs.map fun p => if p.1 = k then (p.1, v) else p else kvs ++ [(k, v)]
def tpI (k : List Int) : PV := .tup (k.map .int)
def bKeysT (m : Bool) (d : SV) (S : Store) : Out SV := match dttOf S d with
  | some kvs => if (decide (kvs.length < 2) || kvs.all fun p => !p.1.isEmpty) = true then mkL m (isortK (kvs.map fun p => tpI p.1)) S else .bad
  | none => .bad
def bSortedKeys (m : Bool) (d : SV) (S : Store) : Out SV := match dicOf S d with
  | some kvs => if allInt (kvs.map Prod.fst) = true then mkL m (isortK (kvs.map Prod.fst)) S else .bad
  | none => .bad
@[simp] def biOp (b : BI) (m : Bool) (xs : List SV) (S : Store) : Out SV := match xs with
  | [x] => match b with
    | .len => bLen x S
    | .int => bInt x S
    | .abs => bAbs x S
    | .sum => bSum x S
    | .min1 => bMin1 x S
    | .max1 => bMax1 x S
    | .tuple => bTuple x S
    | .list => bList m x S
    | .sorted => bSorted m x S
    | .sortedSet => bSortedSet m x S
    | .sortedKeys => bSortedKeys m x S
    | .lenSet => bLenSet x S
    | .listRange1 => bRange (mkL m) (.v (.int 0)) x S
    | .tupleRange1 => bRange mkT (.v (.int 0)) x S
    | _ => .bad
  | [x, y] => match b with
    | .min2 => bMin2 x y S
    | .max2 => bMax2 x y S
    | .listRange2 => bRange (mkL m) x y S
    | .tupleRange2 => bRange mkT x y S
    | _ => .bad
  | _ => .bad
@[simp] def pures? : List SV → Option (List PV)
  | [] => some []
  | .v x :: r => (pures? r).map (x :: ·)
  | .l _ :: _ => none
  | .ls _ :: _ => none
@[simp] def getS (ρ : Slots) (i : Nat) : Option SV := match ρ[i]? with
  | some (some x) => some x
  | _ => none
@[simp] def wipeS (ρ : Slots) : List Nat → Slots
  | [] => ρ
  | i :: is => (wipeS ρ is).set i none
mutual
@[simp] def bindG : CG → PV → Slots → Option Slots
  | .name i, x, ρ => some (ρ.set i (some (.v x)))
  | .tup gs, x, ρ => match x with
    | .tup xs => bindGs gs xs ρ
    | .lst xs => bindGs gs xs ρ
    | _ => none
@[simp] def bindGs : CGs → List PV → Slots → Option Slots
  | .nil, [], ρ => some ρ
  | .cons g gs, x :: xs, ρ => match bindG g x ρ with
    | some ρ' => bindGs gs xs ρ'
    | none => none
  | _, _, _ => none
end
def zipL : List PV → List PV → List PV
  | x :: xs, y :: ys => .tup [x, y] :: zipL xs ys
  | _, _ => []
def enumL (i : Nat) : List PV → List PV
  | [] => []
  | x :: xs => .tup [.int (Int.ofNat i), x] :: enumL (i + 1) xs

def compL (f : PV → Store → Out (Option PV)) : List PV → Store → Out (List PV)
  | [], S => .ok [] S
  | x :: xs, S => (f x S).bind fun y S1 => (compL f xs S1).bind fun ys S2 => .ok (match y with | some y => y :: ys | none => ys) S2
def compLL (f : PV → Store → Out (List PV)) : List PV → Store → Out (List PV)
  | [], S => .ok [] S
  | x :: xs, S => (f x S).bind fun y S1 => (compLL f xs S1).bind fun ys S2 => .ok (y ++ ys) S2
inductive Flow where
  | next (ρ : Slots) | ret (x : SV) | brk (ρ : Slots) | cnt (ρ : Slots)
  deriving Inhabited
def forL (f : PV → Slots → Store → Out Flow) (w : List Nat) : List PV → Slots → Store → Out Flow
  | [], ρ, S => .ok (.next ρ) S
  | x :: xs, ρ, S => (f x ρ S).bind fun r S1 => match r with
    | .next ρ1 => forL f w xs (wipeS ρ1 w) S1
    | .cnt ρ1 => forL f w xs (wipeS ρ1 w) S1
    | .brk ρ1 => .ok (.next ρ1) S1
    | .ret y => .ok (.ret y) S1
def whileL (c : Slots → Store → Out Bool) (f : Slots → Store → Out Flow) (w : List Nat) : Nat → Slots → Store → Out Flow
  | 0, _, _ => .bad
  | n + 1, ρ, S => (c ρ S).bind fun b S1 => if b then (f ρ S1).bind fun r S2 => match r with
    | .next ρ1 => whileL c f w n (wipeS ρ1 w) S2
    | .cnt ρ1 => whileL c f w n (wipeS ρ1 w) S2
    | .brk ρ1 => .ok (.next ρ1) S2
    | .ret y => .ok (.ret y) S2
    else .ok (.next ρ) S1
def fuel : Nat := 1000000000000
def forM (f : PV → Slots → Store → Out Flow) (w : List Nat) (n : Nat) : Nat → Nat → Slots → Store → Out Flow
  | 0, _, _, _ => .bad
  | m + 1, i, ρ, S => match S[n]? with
    | some (.lst ys) => match ys[i]? with
      | some x => (f x ρ S).bind fun r S2 => match r with
        | .next ρ1 => forM f w n m (i + 1) (wipeS ρ1 w) S2
        | .cnt ρ1 => forM f w n m (i + 1) (wipeS ρ1 w) S2
        | .brk ρ1 => .ok (.next ρ1) S2
        | .ret y => .ok (.ret y) S2
      | none => .ok (.next ρ) S
    | _ => .bad

abbrev VS := Slots → Store → Out SV
abbrev LS := Slots → Store → Out (List SV)
abbrev IS := Slots → Store → Out (List PV)
structure Sm where
  v : VS
  t : Slots → Store → Out Bool
@[simp] def tru (v : VS) : Slots → Store → Out Bool := fun ρ S => (v ρ S).bind fun x S1 => match truth S1 x with
  | some b => .ok b S1
  | none => .bad
@[simp] def ofV (v : VS) : Sm := ⟨v, tru v⟩
@[simp] def ofT (t : Slots → Store → Out Bool) : Sm := ⟨fun ρ S => (t ρ S).bind fun b S1 => .ok (.v (.bl b)) S1, t⟩
@[simp] def sVar (i : Nat) : VS := fun ρ S => match getS ρ i with
  | some x => .ok x S
  | none => .bad
@[simp] def sK (x : PV) : VS := fun _ S => .ok (.v x) S
@[simp] def sTup (es : LS) : VS := fun ρ S => (es ρ S).bind fun xs S1 => match pures? xs with
  | some ys => mkT ys S1
  | none => .bad
@[simp] def sList (m : Bool) (es : LS) : VS := fun ρ S => (es ρ S).bind fun xs S1 => match pures? xs with
  | some ys => mkL m ys S1
  | none => .bad
@[simp] def sBin (o : BOp) (m : Bool) (a b : VS) : VS := fun ρ S => (a ρ S).bind fun x S1 => (b ρ S1).bind fun y S2 => binOp o m x y S2
@[simp] def negOp (x : SV) (S : Store) : Out SV := match x with
  | .v (.int i) => .ok (.v (.int (-i))) S
  | _ => .bad
@[simp] def sNeg (a : VS) : VS := fun ρ S => (a ρ S).bind negOp
@[simp] def sNot (a : Sm) : Sm := ⟨fun ρ S => (tru a.v ρ S).bind fun b S1 => .ok (.v (.bl (!b))) S1, fun ρ S => (a.t ρ S).bind fun b S1 => .ok (!b) S1⟩
@[simp] def sCmp (o : COp) (a b : VS) : Sm := ofT fun ρ S => (a ρ S).bind fun x S1 => (b ρ S1).bind fun y S2 => match cmpOp o x y S2 with
  | some b => .ok b S2
  | none => .bad
@[simp] def sChain (o o' : COp) (a b c : VS) : Sm := ofT fun ρ S => (a ρ S).bind fun x S1 => (b ρ S1).bind fun y S2 => match cmpOp o x y S2 with
  | some true => (c ρ S2).bind fun z S3 => match cmpOp o' y z S3 with
    | some b => .ok b S3
    | none => .bad
  | some false => .ok false S2
  | none => .bad
@[simp] def sIte (c a b : Sm) : Sm := ⟨fun ρ S => (c.t ρ S).bind fun t S1 => if t = true then a.v ρ S1 else b.v ρ S1, fun ρ S => (c.t ρ S).bind fun t S1 => if t = true then a.t ρ S1 else b.t ρ S1⟩
@[simp] def sCall (f : Option Fn) (es : LS) : VS := fun ρ S => (es ρ S).bind fun xs S1 => match f with
  | some f => f xs S1
  | none => .bad
@[simp] def sCallv (Γ : List (Str × Fn)) (f : VS) (es : LS) : VS := fun ρ S => (f ρ S).bind fun x S1 => match x with
  | .v (.fn n) => match Γ.lookup n with
    | some g => sCall (some g) es ρ S1
    | none => .bad
  | _ => .bad
def ixOf (x : PV) : List PV → Option Nat
  | [] => none
  | y :: r => if eqv y x = true then some 0 else (ixOf x r).map (· + 1)
def allStr : List PV → Bool
  | [] => true
  | .str _ :: r => allStr r
  | _ => false
def isStrV : PV → Bool
  | .str _ => true
  | _ => false
def isIntV : PV → Bool
  | .int _ => true
  | _ => false
def indexOp (a x : SV) (S : Store) : Out SV := match x with
  | .v y => match seqOf S a with
    | some (true, ys) => if (noFn y && noFns ys && dpLe 8 y && dpLes 8 ys) = true then (match ixOf y ys with
      | some j => .ok (.v (.int j)) S
      | none => .bad) else .bad
    | some (false, ys) => if (isStrV y && allStr ys || isIntV y && allInt ys) = true then (match ixOf y ys with
      | some j => .ok (.v (.int j)) S
      | none => .bad) else .bad
    | none => .bad
  | _ => .bad
def isLs (S : Store) (x : SV) : Bool := match seqOf S x with
  | some (true, _) => true
  | _ => false
def isTu : SV → Bool
  | .v (.tup _) => true
  | _ => false
def sIndex (a x : VS) : VS := fun ρ S => (a ρ S).bind fun y S1 => if isLs S1 y = true then (x ρ S1).bind fun z S2 => if isLs S2 y = true then indexOp y z S2 else .bad else if isTu y = true then (x ρ S1).bind fun z S2 => indexOp y z S2 else .bad
def sIndexG (xs : List PV) (x : VS) : VS := fun ρ S => (x ρ S).bind fun z S1 => indexOp (.v (.tup xs)) z S1
@[simp] def sBi (b : BI) (m : Bool) (es : LS) : VS := fun ρ S => (es ρ S).bind fun xs S1 => biOp b m xs S1
@[simp] def sIsi (ts : List Ty) (e : VS) : VS := fun ρ S => (e ρ S).bind fun x S1 => ofOpt (isTys S1 x ts) S1
def lsAt (x : Option SV) (y : SV) : Option Nat := match x, y with
  | some (.ls ns), .v (.int j) => match ix? ns.length j with
    | some k => ns[k]?
    | none => none
  | _, _ => none
def ixEOp (o : Option SV) (y : SV) (S : Store) : Out SV := match lsAt o y with
  | some n => .ok (.l n) S
  | none => .bad
@[simp] def idxOp (x y : SV) (S : Store) : Out SV := match y with
  | .v k => match seqOf S x with
    | some (_, xs) => match k with
      | .int j => match ix? xs.length j with
        | some n => match xs[n]? with
          | some z => .ok (.v z) S
          | none => .bad
        | none => .bad
      | _ => .bad
    | none => match dicR S x with
      | some kvs => if keyOk k = true then (match keyGet k kvs with
        | some z => .ok (.v z) S
        | none => .bad) else .bad
      | none => .bad
  | .l _ => .bad
  | .ls _ => .bad
def sIxE (i : Nat) (a : VS) : VS := fun ρ S => (a ρ S).bind fun y S1 => ixEOp (getS ρ i) y S1
@[simp] def sIdx (a i : VS) : VS := fun ρ S => (a ρ S).bind fun x S1 => (i ρ S1).bind fun y S2 => idxOp x y S2
@[simp] def slcOp (m : Bool) (x l h : SV) (S : Store) : Out SV := match l, h with
  | .v l, .v h => match part? l, part? h with
    | some lo, some hi => match seqOf S x with
      | some (t, xs) => if t = true then mkL m (cut xs lo hi) S else mkT (cut xs lo hi) S
      | none => .bad
    | _, _ => .bad
  | _, _ => .bad
@[simp] def sSlc (m : Bool) (a lo hi : VS) : VS := fun ρ S => (a ρ S).bind fun x S1 => (lo ρ S1).bind fun l S2 => (hi ρ S2).bind fun h S3 => slcOp m x l h S3
@[simp] def cTurn (g : PV → Slots → Option Slots) (c : Slots → Store → Out Bool) (e : VS) (ρ : Slots) : PV → Store → Out (Option PV) := fun x S => match g x ρ with
  | some ρ1 => (c ρ1 S).bind fun t S1 => if t = true then (e ρ1 S1).bind fun y S2 => match y with
    | .v y => .ok (some y) S2
    | .l _ => .bad
    | .ls _ => .bad
    else .ok none S1
  | none => .bad
@[simp] def sComp (m : Bool) (own : List Nat) (g : PV → Slots → Option Slots) (it : IS) (c : Slots → Store → Out Bool) (e : VS) : VS := fun ρ S =>
  (it ρ S).bind fun xs S1 => (compL (cTurn g c e (wipeS ρ own)) xs S1).bind fun ys S2 => mkL m ys S2
def cTurn2 (g : PV → Slots → Option Slots) (c : Slots → Store → Out Bool) (own2 : List Nat) (g2 : PV → Slots → Option Slots) (it2 : IS) (c2 : Slots → Store → Out Bool) (e : VS) (ρ : Slots) : PV → Store → Out (List PV) := fun x S => match g x ρ with
  | some ρ1 => (c ρ1 S).bind fun t S1 => if t = true then (it2 ρ1 S1).bind fun zs S2 => compL (cTurn g2 c2 e (wipeS ρ1 own2)) zs S2 else .ok [] S1
  | none => .bad
def sComp2 (m : Bool) (own own2 : List Nat) (g : PV → Slots → Option Slots) (it : IS) (c : Slots → Store → Out Bool) (g2 : PV → Slots → Option Slots) (it2 : IS) (c2 : Slots → Store → Out Bool) (e : VS) : VS := fun ρ S =>
  (it ρ S).bind fun xs S1 => (compLL (cTurn2 g c own2 g2 it2 c2 e (wipeS ρ own)) xs S1).bind fun ys S2 => mkL m ys S2
def sDtt0 : VS := fun _ S => .ok (.l S.length) (S ++ [.dtt []])
def getTOp (d k x : SV) (S : Store) : Out SV := match dttOf S d, tkOf k, x with
  | some kvs, some ks, .v (.int j) => .ok (.v (.int ((tGet ks kvs).getD j))) S
  | _, _, _ => .bad
def sGetT (d k x : VS) : VS := fun ρ S => (d ρ S).bind fun d S1 => if (dttOf S1 d).isSome = true then (k ρ S1).bind fun k S2 => (x ρ S2).bind fun x S3 => getTOp d k x S3 else .bad
def ttIdxOp (d k : SV) (S : Store) : Out SV := match dttOf S d, tkOf k with
  | some kvs, some ks => match tGet ks kvs with
    | some v => .ok (.v (.int v)) S
    | none => .bad
  | _, _ => .bad
def sTtIdx (d k : VS) : VS := fun ρ S => (d ρ S).bind fun d S1 => (k ρ S1).bind fun k S2 => ttIdxOp d k S2
def sKeysT (m : Bool) (d : VS) : VS := fun ρ S => (d ρ S).bind fun x S1 => bKeysT m x S1
def sDic0 : VS := fun _ S => .ok (.l S.length) (S ++ [.dic []])
def getOp (d k x : SV) (S : Store) : Out SV := match k, x with
  | .v k, .v x => match dicR S d with
    | some kvs => if keyOk k = true then .ok (.v ((keyGet k kvs).getD x)) S else .bad
    | none => .bad
  | _, _ => .bad
def isDc (S : Store) (x : SV) : Bool := match dicR S x with
  | some _ => true
  | none => false
def sGet (d k x : VS) : VS := fun ρ S => (d ρ S).bind fun d S1 => if isDc S1 d = true then (k ρ S1).bind fun k S2 => (x ρ S2).bind fun x S3 => getOp d k x S3 else .bad
def bRev (m : Bool) (x : SV) (S : Store) : Out SV := match seqOf S x with
  | some (true, xs) => mkL m xs.reverse S
  | some (false, xs) => mkT xs.reverse S
  | _ => .bad
def evens {α : Type} : List α → List α
  | [] => []
  | [x] => [x]
  | x :: _ :: r => x :: evens r
def pickS {α : Type} (k : Nat) (xs : List α) : List α := match k with
  | 0 => evens xs
  | 1 => evens (xs.drop 1)
  | _ => (xs.drop 1).reverse
def bSlcS (m : Bool) (k : Nat) (x : SV) (S : Store) : Out SV := match seqOf S x with
  | some (true, xs) => mkL m (pickS k xs) S
  | _ => .bad
def sSlcS (m : Bool) (k : Nat) (f : VS) : VS := fun ρ S => (f ρ S).bind fun x S1 => bSlcS m k x S1
def sRev (m : Bool) (f : VS) : VS := fun ρ S => (f ρ S).bind fun x S1 => bRev m x S1
def compD (f : PV → Store → Out (Option (PV × PV))) : List PV → Store → Out (List (PV × PV))
  | [], S => .ok [] S
  | x :: xs, S => (f x S).bind fun y S1 => (compD f xs S1).bind fun ys S2 => .ok (match y with | some y => y :: ys | none => ys) S2
def pairO (y z : SV) (S : Store) : Out (Option (PV × PV)) := match y, z with
  | .v y, .v z => if keyOk y = true then .ok (some (y, z)) S else .bad
  | _, _ => .bad
def cTurnD (g : PV → Slots → Option Slots) (c : Slots → Store → Out Bool) (k e : VS) (ρ : Slots) : PV → Store → Out (Option (PV × PV)) := fun x S => match g x ρ with
  | some ρ1 => (c ρ1 S).bind fun t S1 => if t = true then (k ρ1 S1).bind fun y S2 => (e ρ1 S2).bind fun z S3 => pairO y z S3 else .ok none S1
  | none => .bad
def putAll (kvs : List (PV × PV)) (ps : List (PV × PV)) : List (PV × PV) := ps.foldl (fun a p => keyPut p.1 p.2 a) kvs
def mkD (ps : List (PV × PV)) (S : Store) : Out SV := if ps.length ≤ line then .ok (.l S.length) (S ++ [.dic (putAll [] ps)]) else .bad
def sDcomp (own : List Nat) (g : PV → Slots → Option Slots) (it : IS) (c : Slots → Store → Out Bool) (k e : VS) : VS := fun ρ S =>
  (it ρ S).bind fun xs S1 => (compD (cTurnD g c k e (wipeS ρ own)) xs S1).bind fun ys S2 => mkD ys S2
def pairUp : List SV → Option (List (PV × PV))
  | [] => some []
  | .v k :: .v x :: r => if keyOk k = true then (pairUp r).map ((k, x) :: ·) else none
  | _ => none
def dispK (xs : List SV) (S : Store) : Out SV := match pairUp xs with
  | some ps => if ps.length ≤ 15 ∧ ps ≠ [] then mkD ps S else .bad
  | none => .bad
def sDicd (ts : LS) : VS := fun ρ S => (ts ρ S).bind dispK
@[simp] def sNil : LS := fun _ S => .ok [] S
@[simp] def sCons (e : VS) (es : LS) : LS := fun ρ S => (e ρ S).bind fun x S1 => (es ρ S1).bind fun xs S2 => .ok (x :: xs) S2
@[simp] def sAnd1 (a b : Sm) : Sm := ⟨fun ρ S => (a.v ρ S).bind fun x S1 => match truth S1 x with
    | some true => b.v ρ S1
    | some false => .ok x S1
    | none => .bad,
  fun ρ S => (a.t ρ S).bind fun t S1 => if t = true then b.t ρ S1 else .ok false S1⟩
@[simp] def sOr1 (a b : Sm) : Sm := ⟨fun ρ S => (a.v ρ S).bind fun x S1 => match truth S1 x with
    | some true => .ok x S1
    | some false => b.v ρ S1
    | none => .bad,
  fun ρ S => (a.t ρ S).bind fun t S1 => if t = true then .ok true S1 else b.t ρ S1⟩
def sBad : Sm := ⟨fun _ _ => .bad, fun _ _ => .bad⟩
@[simp] def rng2Op (x y : SV) (S : Store) : Out (List PV) := match x, y with
  | .v (.int i), .v (.int j) => if (rngOk i && rngOk j && rngOk (-i) && rngOk (-j)) = true then .ok (rng i j) S else .bad
  | _, _ => .bad
@[simp] def iRng2 (a b : VS) : IS := fun ρ S => (a ρ S).bind fun x S1 => (b ρ S1).bind fun y S2 => rng2Op x y S2
def rng3Op (x y z : SV) (S : Store) : Out (List PV) := match x, y, z with
  | .v (.int i), .v (.int j), .v (.int k) => if (rngOk i && rngOk j && rngOk (-i) && rngOk (-j) && decide (k ≠ 0) && rngOk k && rngOk (-k)) = true then .ok (rng3 i j k) S else .bad
  | _, _, _ => .bad
def iRng3 (a b c : VS) : IS := fun ρ S => (a ρ S).bind fun x S1 => (b ρ S1).bind fun y S2 => (c ρ S2).bind fun z S3 => rng3Op x y z S3
@[simp] def zipOp (x y : SV) (S : Store) : Out (List PV) := match x, y with
  | .v (.tup xs), .v (.tup ys) => .ok (zipL xs ys) S
  | .v (.lst xs), .v (.lst ys) => .ok (zipL xs ys) S
  | .v (.tup xs), .v (.lst ys) => .ok (zipL xs ys) S
  | .v (.lst xs), .v (.tup ys) => .ok (zipL xs ys) S
  | _, _ => .bad
@[simp] def iZip (a b : VS) : IS := fun ρ S => (a ρ S).bind fun x S1 => (b ρ S1).bind fun y S2 => zipOp x y S2
@[simp] def enumOp (x : SV) (S : Store) : Out (List PV) := match x with
  | .v (.lst xs) => .ok (enumL 0 xs) S
  | .v (.tup xs) => .ok (enumL 0 xs) S
  | _ => .bad
@[simp] def iEnum (a : VS) : IS := fun ρ S => (a ρ S).bind enumOp
@[simp] def seqOp (x : SV) (S : Store) : Out (List PV) := match x with
  | .v (.tup xs) => .ok xs S
  | .v (.lst xs) => .ok xs S
  | _ => .bad
@[simp] def rng1Op (x : SV) (S : Store) : Out (List PV) := match x with
  | .v (.int n) => if (rngOk n && rngOk (-n)) = true then .ok (rngN n) S else .bad
  | _ => .bad
@[simp] def iSeq (e : VS) : IS := fun ρ S => (e ρ S).bind seqOp
@[simp] def iRng1 (a : VS) : IS := fun ρ S => (a ρ S).bind rng1Op
@[simp] def intOnly (x : SV) (S : Store) : Out SV := match x with
  | .v (.int i) => .ok (.v (.int i)) S
  | _ => .bad
@[simp] def isNonC : CE → Bool
  | .k .non => true
  | _ => false
@[simp] def sPart (b : Bool) (f : VS) : VS := if b = true then sK .non else fun ρ S => (f ρ S).bind intOnly
def sDicP : VS := fun _ S => .ok (.v (.dic [] [])) S
def countOp (x y : SV) (S : Store) : Out SV := match y with
  | .v (.int k) => match seqOf S x with
    | some (true, ys) => match ints? ys with
      | some is => .ok (.v (.int (is.count k : Nat))) S
      | none => .bad
    | _ => .bad
  | _ => .bad
def sCount (a x : VS) : VS := fun ρ S => (a ρ S).bind fun y S1 => if isLs S1 y = true then (x ρ S1).bind fun z S2 => if isLs S2 y = true then countOp y z S2 else .bad else .bad
def lzipOp (m : Bool) (x y : SV) (S : Store) : Out SV := (zipOp x y S).bind fun zs S1 => mkL m zs S1
def sLzip (m : Bool) (a b : VS) : VS := fun ρ S => (a ρ S).bind fun x S1 => (b ρ S1).bind fun y S2 => lzipOp m x y S2
def ginOp (neg : Bool) (ks vs : List PV) (x : SV) (S : Store) : Out Bool := match x with
  | .v (.int i) => .ok (xor neg (keyGet (.int i) (ks.zip vs)).isSome) S
  | _ => .bad
def sGin (neg : Bool) (ks vs : List PV) (e : VS) : Slots → Store → Out Bool := fun ρ S => (e ρ S).bind fun x S1 => ginOp neg ks vs x S1
def gidxOp (ks vs : List PV) (x : SV) (S : Store) : Out SV := match x with
  | .v (.int i) => match keyGet (.int i) (ks.zip vs) with
    | some y => .ok (.v y) S
    | none => .bad
  | _ => .bad
def sGidx (ks vs : List PV) (e : VS) : VS := fun ρ S => (e ρ S).bind fun x S1 => gidxOp ks vs x S1
def lvalsOp (m : Bool) (x : SV) (S : Store) : Out SV := match x with
  | .v (.dic _ vs) => mkL m vs S
  | _ => .bad
def compN (f : PV → Store → Out Nat) : List PV → Store → Out (List Nat)
  | [], S => .ok [] S
  | x :: xs, S => (f x S).bind fun y S1 => (compN f xs S1).bind fun ys S2 => .ok (y :: ys) S2
def cTurnN (g : PV → Slots → Option Slots) (c : Slots → Store → Out Bool) (e : VS) (ρ : Slots) : PV → Store → Out Nat := fun x S => match g x ρ with
  | some ρ1 => (c ρ1 S).bind fun t S1 => if t = true then (e ρ1 S1).bind fun y S2 => match y with
    | .l n => .ok n S2
    | _ => .bad
    else .bad
  | none => .bad
def sCompN (own : List Nat) (g : PV → Slots → Option Slots) (it : IS) (c : Slots → Store → Out Bool) (e : VS) : VS := fun ρ S =>
  (it ρ S).bind fun xs S1 => (compN (cTurnN g c e (wipeS ρ own)) xs S1).bind fun ys S2 => if ys.length ≤ line then .ok (.ls ys) S2 else .bad
def sLvals (m : Bool) (d : VS) : VS := fun ρ S => (d ρ S).bind fun x S1 => lvalsOp m x S1
def itemsOp (x : SV) (S : Store) : Out (List PV) := match x with
  | .v (.dic ks vs) => .ok (zipL ks vs) S
  | _ => .bad
def iItems (d : VS) : IS := fun ρ S => (d ρ S).bind itemsOp
def keysOp (x : SV) (S : Store) : Out (List PV) := match x with
  | .v (.dic ks _) => .ok ks S
  | _ => .bad
def iKeys (d : VS) : IS := fun ρ S => (d ρ S).bind keysOp
def valuesOp (x : SV) (S : Store) : Out (List PV) := match x with
  | .v (.dic _ vs) => .ok vs S
  | _ => .bad
def iValues (d : VS) : IS := fun ρ S => (d ρ S).bind valuesOp
mutual
def ev (Γ : List (Str × Fn)) : CE → Sm
  | .var i => ofV (sVar i)
  | .k x => ofV (sK x)
  | .glob _ x => ofV (sK x)
  | .tup es => ofV (sTup (evL Γ es))
  | .list m es => ofV (sList m (evL Γ es))
  | .bin o m a b => ofV (sBin o m (ev Γ a).v (ev Γ b).v)
  | .neg a => ofV (sNeg (ev Γ a).v)
  | .nt a => sNot (ev Γ a)
  | .and es => evAnd Γ es
  | .or es => evOr Γ es
  | .cmp o a b => sCmp o (ev Γ a).v (ev Γ b).v
  | .chain o o' a b c => sChain o o' (ev Γ a).v (ev Γ b).v (ev Γ c).v
  | .ite c a b => sIte (ev Γ c) (ev Γ a) (ev Γ b)
  | .call i es => ofV (sCall (Γ[i]?.map Prod.snd) (evL Γ es))
  | .fnv n => ofV (sK (.fn n))
  | .callv e es => ofV (sCallv Γ (ev Γ e).v (evL Γ es))
  | .index a x => ofV (sIndex (ev Γ a).v (ev Γ x).v)
  | .indexG _ xs x => ofV (sIndexG xs (ev Γ x).v)
  | .bi b m es => ofV (sBi b m (evL Γ es))
  | .isi ts e => ofV (sIsi ts (ev Γ e).v)
  | .idx a i => ofV (sIdx (ev Γ a).v (ev Γ i).v)
  | .ixE i a => ofV (sIxE i (ev Γ a).v)
  | .dtt0 => ofV sDtt0
  | .getT d k x => ofV (sGetT (ev Γ d).v (ev Γ k).v (ev Γ x).v)
  | .idxT d k => ofV (sTtIdx (ev Γ d).v (ev Γ k).v)
  | .keysT m d => ofV (sKeysT m (ev Γ d).v)
  | .slc m a lo hi => ofV (sSlc m (ev Γ a).v (sPart (isNonC lo) (ev Γ lo).v) (sPart (isNonC hi) (ev Γ hi).v))
  | .comp m own tg it c e => ofV (sComp m own (bindG tg) (evI Γ it) (ev Γ c).t (ev Γ e).v)
  | .comp2 m own own2 tg it c tg2 it2 c2 e => ofV (sComp2 m own own2 (bindG tg) (evI Γ it) (ev Γ c).t (bindG tg2) (evI Γ it2) (ev Γ c2).t (ev Γ e).v)
  | .dic0 => ofV sDic0
  | .get d k x => ofV (sGet (ev Γ d).v (ev Γ k).v (ev Γ x).v)
  | .rev m a => ofV (sRev m (ev Γ a).v)
  | .slcS m k a => ofV (sSlcS m k (ev Γ a).v)
  | .dcomp own tg it c k e => ofV (sDcomp own (bindG tg) (evI Γ it) (ev Γ c).t (ev Γ k).v (ev Γ e).v)
  | .dicd es => ofV (sDicd (evL Γ es))
  | .dicP => ofV sDicP
  | .count a x => ofV (sCount (ev Γ a).v (ev Γ x).v)
  | .lzip m a b => ofV (sLzip m (ev Γ a).v (ev Γ b).v)
  | .gin neg _ ks vs e => ofT (sGin neg ks vs (ev Γ e).v)
  | .gidx _ ks vs e => ofV (sGidx ks vs (ev Γ e).v)
  | .lvals m d => ofV (sLvals m (ev Γ d).v)
  | .compN own tg it c e => ofV (sCompN own (bindG tg) (evI Γ it) (ev Γ c).t (ev Γ e).v)
def evL (Γ : List (Str × Fn)) : CL → LS
  | .nil => sNil
  | .cons e es => sCons (ev Γ e).v (evL Γ es)
def evAnd (Γ : List (Str × Fn)) : CL → Sm
  | .nil => sBad
  | .cons e es => match es with
    | .nil => ev Γ e
    | _ => sAnd1 (ev Γ e) (evAnd Γ es)
def evOr (Γ : List (Str × Fn)) : CL → Sm
  | .nil => sBad
  | .cons e es => match es with
    | .nil => ev Γ e
    | _ => sOr1 (ev Γ e) (evOr Γ es)
/-- the items that are walked -/
def evI (Γ : List (Str × Fn)) : CI → IS
  | .seq e => iSeq (ev Γ e).v
  | .rng1 a => iRng1 (ev Γ a).v
  | .rng2 a b => iRng2 (ev Γ a).v (ev Γ b).v
  | .rng3 a b c => iRng3 (ev Γ a).v (ev Γ b).v (ev Γ c).v
  | .zip2 a b => iZip (ev Γ a).v (ev Γ b).v
  | .enum a => iEnum (ev Γ a).v
  | .keys d => iKeys (ev Γ d).v
  | .items d => iItems (ev Γ d).v
  | .values d => iValues (ev Γ d).v
end

@[simp] def setAll : List Nat → List SV → Slots → Option Slots
  | [], [], ρ => some ρ
  | i :: is, x :: xs, ρ => setAll is xs (ρ.set i (some x))
  | _, _, _ => none
abbrev FS := Slots → Store → Out Flow
@[simp] def sSeq (f g : FS) : FS := fun ρ S => (f ρ S).bind fun r S1 => match r with
  | .next ρ1 => g ρ1 S1
  | .ret x => .ok (.ret x) S1
  | .brk ρ1 => .ok (.brk ρ1) S1
  | .cnt ρ1 => .ok (.cnt ρ1) S1
@[simp] def sNext : FS := fun ρ S => .ok (.next ρ) S
def shutAll : List Nat → Store → Option (List PV × Store)
  | [], S => some ([], S)
  | n :: ns, S => match S[n]? with
    | some (.lst xs) => (shutAll ns (S.set n .gone)).map fun p => (.lst xs :: p.1, p.2)
    | _ => none
@[simp] def sFreeze (i : Nat) : FS := fun ρ S => match getS ρ i with
    | some (.l n) => match S[n]? with
      | some (.lst xs) => .ok (.next (ρ.set i (some (.v (.lst xs))))) (S.set n .gone)
      | some (.dic kvs) => if allInt (kvs.map Prod.fst) = true then .ok (.next (ρ.set i (some (.v (.dic (kvs.map Prod.fst) (kvs.map Prod.snd)))))) (S.set n .gone) else .bad
      | _ => .bad
    | some (.ls ns) => match shutAll ns S with
      | some p => .ok (.next (ρ.set i (some (.v (.lst p.1))))) p.2
      | none => .bad
    | some (.v _) => .ok (.next ρ) S
    | none => .ok (.next ρ) S
@[simp] def sSet (i : Nat) (f : VS) : FS := fun ρ S => (f ρ S).bind fun x S1 => .ok (.next (ρ.set i (some x))) S1
@[simp] def sUnpack (g : PV → Slots → Option Slots) (f : VS) : FS := fun ρ S => (f ρ S).bind fun x S1 => match x with
    | .v x => match g x ρ with
      | some ρ1 => .ok (.next ρ1) S1
      | none => .bad
    | .l _ => .bad
    | .ls _ => .bad
@[simp] def sPar (is : List Nat) (ts : LS) : FS := fun ρ S => (ts ρ S).bind fun xs S1 => match setAll is xs ρ with
    | some ρ1 => .ok (.next ρ1) S1
    | none => .bad
@[simp] def sExpr (f : VS) : FS := fun ρ S => (f ρ S).bind fun _ S1 => .ok (.next ρ) S1
@[simp] def sIfs (c : Slots → Store → Out Bool) (f g : FS) : FS := fun ρ S => (c ρ S).bind fun t S1 => if t = true then f ρ S1 else g ρ S1
@[simp] def sRet (f : VS) : FS := fun ρ S => (f ρ S).bind fun x S1 => .ok (.ret x) S1
@[simp] def sRetN : FS := fun _ S => .ok (.ret (.v .non)) S
@[simp] def sBrk : FS := fun ρ S => .ok (.brk ρ) S
@[simp] def sCnt : FS := fun ρ S => .ok (.cnt ρ) S
@[simp] def sTurn (g : PV → Slots → Option Slots) (f : FS) : PV → FS := fun x ρ S => match g x ρ with
    | some ρ1 => f ρ1 S
    | none => .bad
@[simp] def sFor (g : PV → Slots → Option Slots) (it : IS) (f : FS) (w : List Nat) : FS := fun ρ S => (it ρ S).bind fun xs S1 => forL (sTurn g f) w xs (wipeS ρ w) S1
@[simp] def sForM (g : PV → Slots → Option Slots) (e : VS) (f : FS) (w : List Nat) : FS := fun ρ S => (e ρ S).bind fun x S1 => match x with
    | .l n => forM (sTurn g f) w n fuel 0 (wipeS ρ w) S1
    | _ => .bad
@[simp] def sWhile (c : Slots → Store → Out Bool) (f : FS) (w : List Nat) : FS := fun ρ S => whileL c f w fuel (wipeS ρ w) S
def isLst (S : Store) (n : Nat) : Bool := match S[n]? with
  | some (.lst _) => true
  | _ => false
@[simp] def sApp (i : Nat) (f : VS) : FS := fun ρ S => match getS ρ i with
    | some (.l n) => if isLst S n = true then (f ρ S).bind fun x S1 => match x, S1[n]? with
      | .v x, some (.lst xs) => if xs.length < line then .ok (.next ρ) (S1.set n (.lst (xs ++ [x]))) else .bad
      | _, _ => .bad
      else .bad
    | _ => .bad
def sAppE (i : Nat) (a f : VS) : FS := fun ρ S => (a ρ S).bind fun y S1 => match lsAt (getS ρ i) y with
    | some n => if isLst S1 n = true then (f ρ S1).bind fun x S2 => match x, S2[n]? with
      | .v x, some (.lst xs) => if xs.length < line then .ok (.next ρ) (S2.set n (.lst (xs ++ [x]))) else .bad
      | _, _ => .bad
      else .bad
    | none => .bad
@[simp] def putOp (o y x : SV) (S : Store) : Option Store := match o, x, y with
  | .l n, .v x, .v y => match S[n]? with
    | some (.lst xs) => match y with
      | .int j => match ix? xs.length j with
        | some k => some (S.set n (.lst (xs.set k x)))
        | none => none
      | _ => none
    | some (.dic kvs) => if keyOk y = true ∧ kvs.length < line then some (S.set n (.dic (keyPut y x kvs))) else none
    | _ => none
  | _, _, _ => none
@[simp] def sSub (i : Nat) (a f : VS) : FS := fun ρ S => (f ρ S).bind fun x S1 => (a ρ S1).bind fun y S2 => match getS ρ i with
  | some o => match putOp o y x S2 with
    | some S3 => .ok (.next ρ) S3
    | none => .bad
  | none => .bad
def putTOp (o : Option SV) (y x : SV) (S : Store) : Option Store := match o, tkOf y, x with
  | some (.l n), some k, .v (.int v) => match S[n]? with
    | some (.dtt kvs) => if kvs.length < line then some (S.set n (.dtt (tPut k v kvs))) else none
    | _ => none
  | _, _, _ => none
def sPutT (i : Nat) (a f : VS) : FS := fun ρ S => (f ρ S).bind fun x S1 => (a ρ S1).bind fun y S2 => match putTOp (getS ρ i) y x S2 with
  | some S3 => .ok (.next ρ) S3
  | none => .bad
def sSubX (c a f : VS) : FS := fun ρ S => (f ρ S).bind fun x S1 => (c ρ S1).bind fun o S2 => (a ρ S2).bind fun y S3 => match putOp o y x S3 with
  | some S4 => .ok (.next ρ) S4
  | none => .bad
def sPut2 (i : Nat) (a : VS) (j : Nat) (b : VS) (ts : LS) : FS := fun ρ S => (ts ρ S).bind fun xs S1 => match xs with
  | [.v x, .v x2] => (a ρ S1).bind fun y S2 => match getS ρ i with
    | some o => match putOp o y (.v x) S2 with
      | some S3 => (b ρ S3).bind fun y2 S4 => match getS ρ j with
        | some o2 => match putOp o2 y2 (.v x2) S4 with
          | some S5 => .ok (.next ρ) S5
          | none => .bad
        | none => .bad
      | none => .bad
    | none => .bad
  | _ => .bad
@[simp] def augOp (o : BOp) (x y : SV) : Option SV := match x, y with
  | .v (.int a), .v (.int b) => match o with
    | .add => some (.v (.int (a + b)))
    | .sub => some (.v (.int (a - b)))
    | _ => none
  | _, _ => none
@[simp] def sAug (i : Nat) (o : BOp) (f : VS) : FS := fun ρ S => match getS ρ i with
    | some x => (f ρ S).bind fun y S1 => match augOp o x y with
      | some z => .ok (.next (ρ.set i (some z))) S1
      | none => .bad
    | none => .bad
def sPop (i : Nat) : FS := fun ρ S => match getS ρ i with
    | some (.l n) => match S[n]? with
      | some (.lst xs) => if xs.isEmpty = true then .bad else .ok (.next ρ) (S.set n (.lst xs.dropLast))
      | _ => .bad
    | _ => .bad
def augsubOp (o : BOp) (ob y z : SV) (old : PV) (S : Store) : Option Store := match augOp o (.v old) z with
  | some w => putOp ob y w S
  | none => none
def oldOf (ob y : SV) (S : Store) : Option PV := match idxOp ob y S with
  | .ok (.v x) _ => some x
  | _ => none
def sAugsub (i : Nat) (a : VS) (o : BOp) (f : VS) : FS := fun ρ S => match getS ρ i with
  | some ob => (a ρ S).bind fun y S1 => match oldOf ob y S1 with
    | some old => (f ρ S1).bind fun z S2 => match augsubOp o ob y z old S2 with
      | some S3 => .ok (.next ρ) S3
      | none => .bad
    | none => .bad
  | none => .bad
def sRaise (c : Str) (ts : LS) : FS := fun ρ S => (ts ρ S).bind fun xs S1 => match pures? xs with
    | some ys => .exc c ys S1
    | none => .bad
def gput : List (Int × List Int) → Int → Int → List (Int × List Int)
  | [], a, k => [(a, [k])]
  | (b, l) :: r, a, k => if b = a then (b, l ++ [k]) :: r else (b, l) :: gput r a k
def grpL (ns : List Int) : Nat → List (Int × List Int)
  | 0 => []
  | k + 1 => gput (grpL ns k) (ns.getD k 0) (k : Int)
def grpO (g : List (Int × List Int)) : List (PV × PV) := g.map fun a => (.int a.1, .lst (a.2.map .int))
def intsP : List PV → Option (List Int)
  | [] => some []
  | .int i :: xs => (intsP xs).map (i :: ·)
  | _ :: _ => none
def isD0 : Option Ob → Bool
  | some (.dic []) => true
  | _ => false
def sGrp (d nm mny kv : Nat) : Slots → Store → Out Flow := fun ρ S => match getS ρ d, getS ρ nm, getS ρ mny with
  | some (.l p), some (.v (.lst xs)), some (.v (.int n)) => match intsP xs with
    | some ns => if (isD0 S[p]? && decide (n = ns.length) && decide (ns.length ≤ 1000) && decide (d ≠ kv) && decide (nm ≠ kv) && decide (kv < ρ.length)) = true then .ok (.next (ρ.set kv none)) (S.set p (.dic (grpO (grpL ns ns.length)))) else .bad
    | none => .bad
  | _, _, _ => .bad
mutual
def evS (Γ : List (Str × Fn)) : CS → FS
  | .set i e => sSet i (ev Γ e).v
  | .unpack gs e => sUnpack (bindG (.tup gs)) (ev Γ e).v
  | .par is es => sPar is (evL Γ es)
  | .sub i a e => sSub i (ev Γ a).v (ev Γ e).v
  | .put2 i a j b es => sPut2 i (ev Γ a).v j (ev Γ b).v (evL Γ es)
  | .aug i o e => sAug i o (ev Γ e).v
  | .augsub i a o e => sAugsub i (ev Γ a).v o (ev Γ e).v
  | .app i e => sApp i (ev Γ e).v
  | .appE i a e => sAppE i (ev Γ a).v (ev Γ e).v
  | .subX c a e => sSubX (ev Γ c).v (ev Γ a).v (ev Γ e).v
  | .putT i a e => sPutT i (ev Γ a).v (ev Γ e).v
  | .expr e => sExpr (ev Γ e).v
  | .ifs c a b => sIfs (ev Γ c).t (evB Γ a) (evB Γ b)
  | .forr tg it body w => sFor (bindG tg) (evI Γ it) (evB Γ body) w
  | .whil c body w => sWhile (ev Γ c).t (evB Γ body) w
  | .forl tg e body w => sForM (bindG tg) (ev Γ e).v (evB Γ body) w
  | .ret e => sRet (ev Γ e).v
  | .retN => sRetN
  | .brk => sBrk
  | .cnt => sCnt
  | .raise c es => sRaise c (evL Γ es)
  | .freeze i => sFreeze i
  | .pop i => sPop i
  | .parG is es => sPar is (evL Γ es)
  | .grp d nm mny kv => sGrp d nm mny kv
def evB (Γ : List (Str × Fn)) : CB → FS
  | .nil => sNext
  | .cons s r => sSeq (evS Γ s) (evB Γ r)
end
@[simp] theorem ev_var (Γ : List (Str × Fn)) {i} : ev Γ (.var i) = ofV (sVar i) := rfl
@[simp] theorem ev_k (Γ : List (Str × Fn)) {x} : ev Γ (.k x) = ofV (sK x) := rfl
@[simp] theorem ev_glob (Γ : List (Str × Fn)) {n} {x} : ev Γ (.glob n x) = ofV (sK x) := rfl
@[simp] theorem ev_tup (Γ : List (Str × Fn)) {es} : ev Γ (.tup es) = ofV (sTup (evL Γ es)) := rfl
@[simp] theorem ev_list (Γ : List (Str × Fn)) {m} {es} : ev Γ (.list m es) = ofV (sList m (evL Γ es)) := rfl
@[simp] theorem ev_bin (Γ : List (Str × Fn)) {o} {m} {a} {b} : ev Γ (.bin o m a b) = ofV (sBin o m (ev Γ a).v (ev Γ b).v) := rfl
@[simp] theorem ev_neg (Γ : List (Str × Fn)) {a} : ev Γ (.neg a) = ofV (sNeg (ev Γ a).v) := rfl
@[simp] theorem ev_nt (Γ : List (Str × Fn)) {a} : ev Γ (.nt a) = sNot (ev Γ a) := rfl
@[simp] theorem ev_and (Γ : List (Str × Fn)) {es} : ev Γ (.and es) = evAnd Γ es := rfl
@[simp] theorem ev_or (Γ : List (Str × Fn)) {es} : ev Γ (.or es) = evOr Γ es := rfl
@[simp] theorem ev_cmp (Γ : List (Str × Fn)) {o} {a} {b} : ev Γ (.cmp o a b) = sCmp o (ev Γ a).v (ev Γ b).v := rfl
@[simp] theorem ev_chain (Γ : List (Str × Fn)) {o} {o'} {a} {b} {c} : ev Γ (.chain o o' a b c) = sChain o o' (ev Γ a).v (ev Γ b).v (ev Γ c).v := rfl
@[simp] theorem ev_ite (Γ : List (Str × Fn)) {c} {a} {b} : ev Γ (.ite c a b) = sIte (ev Γ c) (ev Γ a) (ev Γ b) := rfl
@[simp] theorem ev_call (Γ : List (Str × Fn)) {i} {es} : ev Γ (.call i es) = ofV (sCall (Γ[i]?.map Prod.snd) (evL Γ es)) := rfl
@[simp] theorem ev_fnv (Γ : List (Str × Fn)) {n} : ev Γ (.fnv n) = ofV (sK (.fn n)) := rfl
@[simp] theorem ev_callv (Γ : List (Str × Fn)) {e} {es} : ev Γ (.callv e es) = ofV (sCallv Γ (ev Γ e).v (evL Γ es)) := rfl
@[simp] theorem ev_index (Γ : List (Str × Fn)) {a} {x} : ev Γ (.index a x) = ofV (sIndex (ev Γ a).v (ev Γ x).v) := rfl
@[simp] theorem ev_indexG (Γ : List (Str × Fn)) {n} {xs} {x} : ev Γ (.indexG n xs x) = ofV (sIndexG xs (ev Γ x).v) := rfl
@[simp] theorem ev_bi (Γ : List (Str × Fn)) {b} {m} {es} : ev Γ (.bi b m es) = ofV (sBi b m (evL Γ es)) := rfl
@[simp] theorem ev_isi (Γ : List (Str × Fn)) {ts} {e} : ev Γ (.isi ts e) = ofV (sIsi ts (ev Γ e).v) := rfl
@[simp] theorem ev_idx (Γ : List (Str × Fn)) {a} {i} : ev Γ (.idx a i) = ofV (sIdx (ev Γ a).v (ev Γ i).v) := rfl
@[simp] theorem ev_slc (Γ : List (Str × Fn)) {m} {a} {lo} {hi} : ev Γ (.slc m a lo hi) = ofV (sSlc m (ev Γ a).v (sPart (isNonC lo) (ev Γ lo).v) (sPart (isNonC hi) (ev Γ hi).v)) := rfl
@[simp] theorem evL_nil (Γ : List (Str × Fn)) : evL Γ .nil = sNil := rfl
@[simp] theorem evL_cons (Γ : List (Str × Fn)) {e es} : evL Γ (.cons e es) = sCons (ev Γ e).v (evL Γ es) := rfl
@[simp] theorem evAnd_one (Γ : List (Str × Fn)) {e} : evAnd Γ (.cons e .nil) = ev Γ e := rfl
@[simp] theorem evAnd_cons (Γ : List (Str × Fn)) {e f es} : evAnd Γ (.cons e (.cons f es)) = sAnd1 (ev Γ e) (evAnd Γ (.cons f es)) := rfl
@[simp] theorem evOr_one (Γ : List (Str × Fn)) {e} : evOr Γ (.cons e .nil) = ev Γ e := rfl
@[simp] theorem evOr_cons (Γ : List (Str × Fn)) {e f es} : evOr Γ (.cons e (.cons f es)) = sOr1 (ev Γ e) (evOr Γ (.cons f es)) := rfl
@[simp] theorem evS_set (Γ : List (Str × Fn)) {i} {e} : evS Γ (.set i e) = sSet i (ev Γ e).v := rfl
@[simp] theorem evS_unpack (Γ : List (Str × Fn)) {gs} {e} : evS Γ (.unpack gs e) = sUnpack (bindG (.tup gs)) (ev Γ e).v := rfl
@[simp] theorem evS_par (Γ : List (Str × Fn)) {is} {es} : evS Γ (.par is es) = sPar is (evL Γ es) := rfl
@[simp] theorem evS_sub (Γ : List (Str × Fn)) {i} {a} {e} : evS Γ (.sub i a e) = sSub i (ev Γ a).v (ev Γ e).v := rfl
@[simp] theorem evS_aug (Γ : List (Str × Fn)) {i} {o} {e} : evS Γ (.aug i o e) = sAug i o (ev Γ e).v := rfl
@[simp] theorem evS_app (Γ : List (Str × Fn)) {i} {e} : evS Γ (.app i e) = sApp i (ev Γ e).v := rfl
@[simp] theorem evS_expr (Γ : List (Str × Fn)) {e} : evS Γ (.expr e) = sExpr (ev Γ e).v := rfl
@[simp] theorem evS_ifs (Γ : List (Str × Fn)) {c} {a} {b} : evS Γ (.ifs c a b) = sIfs (ev Γ c).t (evB Γ a) (evB Γ b) := rfl
@[simp] theorem evS_ret (Γ : List (Str × Fn)) {e} : evS Γ (.ret e) = sRet (ev Γ e).v := rfl
@[simp] theorem evS_grp (Γ : List (Str × Fn)) {d nm mny kv : Nat} : evS Γ (.grp d nm mny kv) = sGrp d nm mny kv := rfl
@[simp] theorem evS_retN (Γ : List (Str × Fn)) : evS Γ (.retN) = sRetN := rfl
@[simp] theorem evS_brk (Γ : List (Str × Fn)) : evS Γ (.brk) = sBrk := rfl
@[simp] theorem evS_cnt (Γ : List (Str × Fn)) : evS Γ (.cnt) = sCnt := rfl
@[simp] theorem evS_raise (Γ : List (Str × Fn)) {c} {es} : evS Γ (.raise c es) = sRaise c (evL Γ es) := rfl
@[simp] theorem evS_freeze (Γ : List (Str × Fn)) {i} : evS Γ (.freeze i) = sFreeze i := rfl
@[simp] theorem evB_nil (Γ : List (Str × Fn)) : evB Γ .nil = sNext := rfl
@[simp] theorem evB_cons (Γ : List (Str × Fn)) {s r} : evB Γ (.cons s r) = sSeq (evS Γ s) (evB Γ r) := rfl
@[simp] theorem seqOf_tup {S : Store} {xs} : seqOf S (.v (.tup xs)) = some (false, xs) := rfl
@[simp] theorem seqOf_lst {S : Store} {xs} : seqOf S (.v (.lst xs)) = some (true, xs) := rfl
@[simp] theorem seqOf_non {S : Store} : seqOf S (.v .non) = none := rfl
@[simp] theorem seqOf_bl {S : Store} {x} : seqOf S (.v (.bl x)) = none := rfl
@[simp] theorem seqOf_int {S : Store} {x} : seqOf S (.v (.int x)) = none := rfl
@[simp] theorem seqOf_str {S : Store} {x} : seqOf S (.v (.str x)) = none := rfl
@[simp] theorem seqOf_fn {S : Store} {x} : seqOf S (.v (.fn x)) = none := rfl
@[simp] theorem seqOf_dic {S : Store} {x y} : seqOf S (.v (.dic x y)) = none := rfl
@[simp] theorem seqOf_l {S : Store} {n xs} (h : S[n]? = some (.lst xs)) : seqOf S (.l n) = some (true, xs) := by simp only [seqOf, h]
@[simp] theorem dicOf_v {S : Store} {x} : dicOf S (.v x) = none := rfl
@[simp] theorem dicR_non {S : Store} : dicR S (.v .non) = none := rfl
@[simp] theorem dicR_bl {S : Store} {x} : dicR S (.v (.bl x)) = none := rfl
@[simp] theorem dicR_int {S : Store} {x} : dicR S (.v (.int x)) = none := rfl
@[simp] theorem dicR_str {S : Store} {x} : dicR S (.v (.str x)) = none := rfl
@[simp] theorem dicR_tup {S : Store} {x} : dicR S (.v (.tup x)) = none := rfl
@[simp] theorem dicR_lst {S : Store} {x} : dicR S (.v (.lst x)) = none := rfl
@[simp] theorem dicR_fn {S : Store} {x} : dicR S (.v (.fn x)) = none := rfl
@[simp] theorem dicR_dic {S : Store} {x y} : dicR S (.v (.dic x y)) = some (x.zip y) := rfl
@[simp] theorem dicR_l {S : Store} {n kvs} (h : S[n]? = some (.dic kvs)) : dicR S (.l n) = some kvs := by simp only [dicR, dicOf, h]
@[simp] theorem dicOf_l {S : Store} {n kvs} (h : S[n]? = some (.dic kvs)) : dicOf S (.l n) = some kvs := by simp only [dicOf, h]
@[simp] theorem pure_v {S : Store} {x} : pure? S (.v x) = some x := rfl
@[simp] theorem pure_l {S : Store} {n xs} (h : S[n]? = some (.lst xs)) : pure? S (.l n) = some (.lst xs) := by simp only [pure?, h]
@[simp] theorem truth_non {S : Store} : truth S (.v .non) = some false := rfl
@[simp] theorem truth_bl {S : Store} {b} : truth S (.v (.bl b)) = some b := rfl
@[simp] theorem truth_int {S : Store} {i} : truth S (.v (.int i)) = some (i != 0) := rfl
@[simp] theorem truth_tup {S : Store} {xs} : truth S (.v (.tup xs)) = some (!xs.isEmpty) := rfl
@[simp] theorem truth_lst {S : Store} {xs} : truth S (.v (.lst xs)) = some (!xs.isEmpty) := rfl
@[simp] theorem truth_l {S : Store} {n xs} (h : S[n]? = some (.lst xs)) : truth S (.l n) = some (!xs.isEmpty) := by simp only [truth, h]
@[simp] theorem tgOf_non {S : Store} : tgOf S (.v .non) = some .non := rfl
@[simp] theorem tgOf_bl {S : Store} {x} : tgOf S (.v (.bl x)) = some .bl := rfl
@[simp] theorem tgOf_int {S : Store} {x} : tgOf S (.v (.int x)) = some .int := rfl
@[simp] theorem tgOf_str {S : Store} {x} : tgOf S (.v (.str x)) = some .str := rfl
@[simp] theorem tgOf_tup {S : Store} {x} : tgOf S (.v (.tup x)) = some .tup := rfl
@[simp] theorem tgOf_lst {S : Store} {x} : tgOf S (.v (.lst x)) = some .lst := rfl
@[simp] theorem tgOf_dic {S : Store} {x y} : tgOf S (.v (.dic x y)) = some .dic := rfl
@[simp] theorem tgOf_l {S : Store} {n xs} (h : S[n]? = some (.lst xs)) : tgOf S (.l n) = some .lst := by simp only [tgOf, h]
@[simp] theorem isLst_l {S : Store} {n xs} (h : S[n]? = some (.lst xs)) : isLst S n = true := by simp only [isLst, h]
@[simp] theorem eqP_int {i j} : eqP (.int i) (.int j) = some (decide (i = j)) := rfl
@[simp] theorem eqP_bl {a b} : eqP (.bl a) (.bl b) = some (a == b) := rfl
@[simp] theorem eqP_str {a b} : eqP (.str a) (.str b) = some (decide (a = b)) := rfl
@[simp] theorem eqP_non : eqP .non .non = some true := rfl
@[simp] theorem eqP_nil : eqP (.lst []) (.lst []) = some true := rfl
@[simp] theorem eqP_nilT : eqP (.tup []) (.tup []) = some true := rfl
@[simp] theorem eqP_non_int {i} : eqP (.int i) .non = some false := rfl
theorem ev_comp (Γ : List (Str × Fn)) {m own tg it c e} : ev Γ (.comp m own tg it c e) = ofV (sComp m own (bindG tg) (evI Γ it) (ev Γ c).t (ev Γ e).v) := rfl
@[simp] theorem evI_seq (Γ : List (Str × Fn)) {e} : evI Γ (.seq e) = iSeq (ev Γ e).v := rfl
@[simp] theorem evI_rng1 (Γ : List (Str × Fn)) {a} : evI Γ (.rng1 a) = iRng1 (ev Γ a).v := rfl
@[simp] theorem evI_rng2 (Γ : List (Str × Fn)) {a b} : evI Γ (.rng2 a b) = iRng2 (ev Γ a).v (ev Γ b).v := rfl
@[simp] theorem evI_zip2 (Γ : List (Str × Fn)) {a b} : evI Γ (.zip2 a b) = iZip (ev Γ a).v (ev Γ b).v := rfl
@[simp] theorem evI_enum (Γ : List (Str × Fn)) {a} : evI Γ (.enum a) = iEnum (ev Γ a).v := rfl
@[simp] def leave (n : Nat) (x : SV) (S : Store) : Out SV := match x with
  | .v x => .ok (.v x) (S.take n)
  | .l m => if m < n then .ok (.l m) (S.take n) else match S[m]? with
    | some (.lst xs) => .ok (.v (.lst xs)) (S.take n)
    | some (.dic kvs) => .ok (.l n) (S.take n ++ [.dic kvs])
    | _ => .bad
  | .ls _ => .bad
def leaveM (n : Nat) (x : SV) (S : Store) : Out SV := match x with
  | .v x => .ok (.v x) (S.take n)
  | .l m => if m < n then .ok (.l m) (S.take n) else match S[m]? with
    | some (.lst xs) => .ok (.l n) (S.take n ++ [.lst xs])
    | some (.dic kvs) => .ok (.l n) (S.take n ++ [.dic kvs])
    | _ => .bad
  | .ls _ => .bad
structure Def where
  np : Nat
  ns : Nat
  body : CB
@[simp] def fnSem (Γ : List (Str × Fn)) (d : Def) : Fn := fun xs S =>
  if xs.length = d.np then
    match evB Γ d.body (xs.map some ++ List.replicate (d.ns - d.np) none) S with
    | .ok (.ret x) S1 => leave S.length x S1
    | .ok (.next _) S1 => leave S.length (.v .non) S1
    | .ok _ _ => .bad
    | .exc c as S1 => .exc c as (S1.take S.length)
    | .bad => .bad
  else .bad
def fnSemM (Γ : List (Str × Fn)) (d : Def) : Fn := fun xs S =>
  if xs.length = d.np then
    match evB Γ d.body (xs.map some ++ List.replicate (d.ns - d.np) none) S with
    | .ok (.ret x) S1 => leaveM S.length x S1
    | .ok (.next _) S1 => leaveM S.length (.v .non) S1
    | .ok _ _ => .bad
    | .exc c as S1 => .exc c as (S1.take S.length)
    | .bad => .bad
  else .bad
end FW

namespace FW
open PySem PySem.Spec PyProof.Rows L2

structure Plc where
  l : List Addr
  w : Hp
def keyP : L2.Key → PV
  | .inl i => .int i
  | .inr s => .str s
def SqN (K : PySem.W.Frag) (F : Hp) (a : Addr) (vs : List V) : Prop :=
  (∃ o : Obj, F a = some (.frz o (.tup vs)) ∧ o.cls = .type "tuple" ∧ o.dict = none) ∨
    ∃ (o : Obj) (its : Array Value) (n : Nat), K.lookup a = some o ∧ o.cls = .type "tuple" ∧ o.dict = none ∧ o.data = .seq its n ∧ its.size ≤ sizeLine ∧ Vals vs its.toList
theorem SqN.sqT {K : PySem.W.Frag} {F : Hp} {a : Addr} {vs : List V} (h : SqN K F a vs) : SqT K F a vs :=
  h.elim (fun ⟨o, e, _⟩ => .inl (.inr ⟨o, e⟩)) fun ⟨o, its, n, h1, h2, _, h3, h4, h5⟩ => .inr ⟨o, its, n, h1, h2, h3, h4, h5⟩
mutual
def Rep (K : PySem.W.Frag) (mg : PySem.Str → Option Value) (F : Hp) : PV → V → Prop
  | .non, v => v = .non
  | .bl b, v => v = .bl b
  | .int i, v => v = .int i
  | .str s, v => v = .str s ∧ PyData.strOk s = true
  | .tup xs, v => ∃ p vs, v = .ref p ∧ SqN K F p vs ∧ RepL K mg F xs vs
  | .lst xs, v => ∃ p vs, v = .ref p ∧ Rd F p (.lst vs) ∧ RepL K mg F xs vs
  | .fn n, v => ∃ a, v = .ref a ∧ mg n = some (.ref a)
  | .dic ks xs, v => ∃ p od ws, v = .ref p ∧ F p = some (.frz od (.dK ws)) ∧ ks = ws.map (fun w => keyP w.1) ∧ allInt ks = true ∧ RepL K mg F xs (ws.map (·.2))
def RepL (K : PySem.W.Frag) (mg : PySem.Str → Option Value) (F : Hp) : List PV → List V → Prop
  | [], vs => vs = []
  | x :: xs, vs => ∃ v r, vs = v :: r ∧ Rep K mg F x v ∧ RepL K mg F xs r
end
section
variable {K : PySem.W.Frag} {mg : PySem.Str → Option Value} {F F' H H' : Hp} {ι ι' : Plc} {S S' : Store}
def Sub (F F' : Hp) : Prop := ∀ a o, F a = some o → F' a = some o
theorem Sub.refl : Sub F F := fun _ _ h => h
theorem Sub.trans {F''} (h : Sub F F') (g : Sub F' F'') : Sub F F'' := fun a o e => g a o (h a o e)
theorem Sub.rd {p : Addr} {o : HO} (h : Sub F F') (r : Rd F p o) : Rd F' p o := by
  rcases r with r | ⟨u, r⟩
  · exact .inl (h _ _ r)
  · exact .inr ⟨u, h _ _ r⟩
theorem Sub.sqT {p : Addr} {vs : List V} (h : Sub F F') (r : SqT K F p vs) : SqT K F' p vs := r.elim (fun r => .inl (h.rd r)) .inr
theorem Sub.sqN {p : Addr} {vs : List V} (h : Sub F F') (r : SqN K F p vs) : SqN K F' p vs := r.elim (fun ⟨o, e, q⟩ => .inl ⟨o, h _ _ e, q⟩) .inr
mutual
theorem Rep.mono (h : Sub F F') : ∀ {x : PV} {v : V}, Rep K mg F x v → Rep K mg F' x v
  | .non, _, r => r
  | .bl _, _, r => r
  | .int _, _, r => r
  | .str _, _, r => r
  | .tup _, _, ⟨p, vs, e, s, r⟩ => ⟨p, vs, e, h.sqN s, RepL.mono h r⟩
  | .lst _, _, ⟨p, vs, e, s, r⟩ => ⟨p, vs, e, h.rd s, RepL.mono h r⟩
  | .fn _, _, r => r
  | .dic _ _, _, ⟨p, od, ws, e, s, k, g, r⟩ => ⟨p, od, ws, e, h _ _ s, k, g, RepL.mono h r⟩
theorem RepL.mono (h : Sub F F') : ∀ {xs : List PV} {vs : List V}, RepL K mg F xs vs → RepL K mg F' xs vs
  | [], _, r => r
  | _ :: _, _, ⟨v, r, e, a, b⟩ => ⟨v, r, e, Rep.mono h a, RepL.mono h b⟩
end
theorem RepL.length : ∀ {xs : List PV} {vs : List V}, RepL K mg F xs vs → xs.length = vs.length
  | [], _, r => by cases r; rfl
  | _ :: _, _, ⟨v, r, e, a, b⟩ => by subst e; simp [RepL.length b]
theorem RepL.app : ∀ {xs ys : List PV} {vs ws : List V}, RepL K mg F xs vs → RepL K mg F ys ws → RepL K mg F (xs ++ ys) (vs ++ ws)
  | [], _, _, _, r, q => by cases r; exact q
  | _ :: _, _, _, _, ⟨v, r, e, a, b⟩, q => by subst e; exact ⟨v, _, rfl, a, RepL.app b q⟩
theorem RepL.get : ∀ {xs : List PV} {vs : List V} {i : Nat} {x : PV}, RepL K mg F xs vs → xs[i]? = some x → ∃ v, vs[i]? = some v ∧ Rep K mg F x v
  | [], _, _, _, _, h => by simp at h
  | _ :: _, _, 0, _, ⟨v, r, e, a, b⟩, h => by simp at h; subst h e; exact ⟨v, rfl, a⟩
  | _ :: _, _, i + 1, _, ⟨v, r, e, a, b⟩, h => by subst e; obtain ⟨w, h1, h2⟩ := RepL.get (i := i) b (by simpa using h); exact ⟨w, by simpa using h1, h2⟩
theorem RepL.set {x : PV} {v : V} (q : Rep K mg F x v) : ∀ {xs : List PV} {vs : List V} (i : Nat), RepL K mg F xs vs → RepL K mg F (xs.set i x) (vs.set i v)
  | [], _, _, r => by cases r; exact rfl
  | _ :: _, _, 0, ⟨w, r, e, a, b⟩ => by subst e; exact ⟨v, r, rfl, q, b⟩
  | _ :: _, _, i + 1, ⟨w, r, e, a, b⟩ => by subst e; exact ⟨w, _, rfl, a, RepL.set q i b⟩
theorem RepL.take : ∀ {xs : List PV} {vs : List V} (n : Nat), RepL K mg F xs vs → RepL K mg F (xs.take n) (vs.take n)
  | [], _, _, r => by cases r; simp [RepL]
  | _ :: _, _, 0, _ => by simp [RepL]
  | _ :: _, _, n + 1, ⟨w, r, e, a, b⟩ => by subst e; exact ⟨w, _, rfl, a, RepL.take n b⟩
theorem RepL.drop : ∀ {xs : List PV} {vs : List V} (n : Nat), RepL K mg F xs vs → RepL K mg F (xs.drop n) (vs.drop n)
  | [], _, _, r => by cases r; simp [RepL]
  | _ :: _, _, 0, r => r
  | _ :: _, _, n + 1, ⟨w, r, e, a, b⟩ => by subst e; exact RepL.drop n b
theorem RepL.one {x : PV} {v : V} (q : Rep K mg F x v) : RepL K mg F [x] [v] := ⟨v, [], rfl, q, rfl⟩

def RepW (w : Bool) (K : PySem.W.Frag) (mg : PySem.Str → Option Value) (F : Hp) (x : PV) (v : V) : Prop :=
  Rep K mg F x v ∨ (w = true ∧ ∃ xs p vs, x = .tup xs ∧ v = .ref p ∧ SqT K F p vs ∧ RepL K mg F xs vs)
theorem RepW.mono {w : Bool} {x : PV} {v : V} (h : Sub F F') (r : RepW w K mg F x v) : RepW w K mg F' x v :=
  r.elim (fun r => .inl (r.mono h)) fun ⟨e, xs, p, vs, e1, e2, q, l⟩ => .inr ⟨e, xs, p, vs, e1, e2, h.sqT q, l.mono h⟩
def RepN (ι : Plc) : List Nat → List V → Prop
  | [], vs => vs = []
  | n :: ns, vs => ∃ p r, vs = .ref p :: r ∧ ι.l[n]? = some p ∧ RepN ι ns r
def RepS (K : PySem.W.Frag) (mg : PySem.Str → Option Value) (F : Hp) (ι : Plc) : SV → V → Prop
  | .v x, v => Rep K mg F x v
  | .l n, v => ∃ p, ι.l[n]? = some p ∧ v = .ref p
  | .ls ns, v => ∃ p vs, v = .ref p ∧ Rd F p (.lst vs) ∧ RepN ι ns vs
def RepSs (K : PySem.W.Frag) (mg : PySem.Str → Option Value) (F : Hp) (ι : Plc) : List SV → List V → Prop
  | [], vs => vs = []
  | x :: xs, vs => ∃ v r, vs = v :: r ∧ RepS K mg F ι x v ∧ RepSs K mg F ι xs r
def Ext (ι : Plc) (F : Hp) (ι' : Plc) (F' : Hp) : Prop := ((∃ t, ι'.l = ι.l ++ t) ∧ ι'.w = ι.w) ∧ Sub F F'
theorem Ext.refl : Ext ι F ι F := ⟨⟨⟨[], by simp⟩, rfl⟩, Sub.refl⟩
theorem Ext.trans {ι'' F''} (a : Ext ι F ι' F') (b : Ext ι' F' ι'' F'') : Ext ι F ι'' F'' := by
  obtain ⟨⟨⟨t, e⟩, w⟩, s⟩ := a
  obtain ⟨⟨⟨t', e'⟩, w'⟩, s'⟩ := b
  exact ⟨⟨⟨t ++ t', by rw [e', e, List.append_assoc]⟩, w'.trans w⟩, s.trans s'⟩
theorem Ext.ix (a : Ext ι F ι' F') {n : Nat} {p : Addr} (h : ι.l[n]? = some p) : ι'.l[n]? = some p := by
  obtain ⟨⟨⟨t, e⟩, _⟩, _⟩ := a
  rw [e, List.getElem?_append_left (List.getElem?_eq_some_iff.mp h).1]; exact h
theorem RepN.mono (a : Ext ι F ι' F') : ∀ {ns : List Nat} {vs : List V}, RepN ι ns vs → RepN ι' ns vs
  | [], _, r => r
  | _ :: _, _, ⟨p, r, e, h, t⟩ => ⟨p, r, e, a.ix h, RepN.mono a t⟩
theorem RepN.length : ∀ {ns : List Nat} {vs : List V}, RepN ι ns vs → ns.length = vs.length
  | [], _, r => by cases r; rfl
  | _ :: _, _, ⟨p, r, e, h, t⟩ => by subst e; simp [RepN.length t]
theorem RepN.get : ∀ {ns : List Nat} {vs : List V} {i n : Nat}, RepN ι ns vs → ns[i]? = some n → ∃ p, vs[i]? = some (.ref p) ∧ ι.l[n]? = some p
  | [], _, _, _, _, h => by simp at h
  | _ :: _, _, 0, _, ⟨p, r, e, a, b⟩, h => by simp at h; subst h e; exact ⟨p, rfl, a⟩
  | _ :: _, _, i + 1, _, ⟨p, r, e, a, b⟩, h => by subst e; obtain ⟨w, h1, h2⟩ := RepN.get (i := i) b (by simpa using h); exact ⟨w, by simpa using h1, h2⟩
theorem RepN.snoc : ∀ {ns : List Nat} {vs : List V} {n : Nat} {p : Addr}, RepN ι ns vs → ι.l[n]? = some p → RepN ι (ns ++ [n]) (vs ++ [.ref p])
  | [], _, _, p, r, h => by cases r; exact ⟨p, [], rfl, h, rfl⟩
  | _ :: _, _, _, _, ⟨p, r, e, a, b⟩, h => by subst e; exact ⟨p, _, rfl, a, RepN.snoc b h⟩
theorem RepN.reloc (h : ι'.l = ι.l) : ∀ {ns : List Nat} {vs : List V}, RepN ι ns vs → RepN ι' ns vs
  | [], _, r => r
  | _ :: _, _, ⟨p, r, e, q, t⟩ => ⟨p, r, e, by rw [h]; exact q, RepN.reloc h t⟩
theorem RepS.mono (a : Ext ι F ι' F') : ∀ {x : SV} {v : V}, RepS K mg F ι x v → RepS K mg F' ι' x v
  | .v _, _, r => Rep.mono a.2 r
  | .l _, _, ⟨p, h, e⟩ => ⟨p, a.ix h, e⟩
  | .ls _, _, ⟨p, vs, e, h, t⟩ => ⟨p, vs, e, a.2.rd h, t.mono a⟩
theorem RepSs.mono (a : Ext ι F ι' F') : ∀ {xs : List SV} {vs : List V}, RepSs K mg F ι xs vs → RepSs K mg F' ι' xs vs
  | [], _, r => r
  | _ :: _, _, ⟨v, r, e, q, t⟩ => ⟨v, r, e, RepS.mono a q, RepSs.mono a t⟩
theorem RepSs.length : ∀ {xs : List SV} {vs : List V}, RepSs K mg F ι xs vs → xs.length = vs.length
  | [], _, r => by cases r; rfl
  | _ :: _, _, ⟨v, r, e, a, b⟩ => by subst e; simp [RepSs.length b]
theorem RepSs.get : ∀ {xs : List SV} {vs : List V} {i : Nat} {x : SV}, RepSs K mg F ι xs vs → xs[i]? = some x → ∃ v, vs[i]? = some v ∧ RepS K mg F ι x v
  | [], _, _, _, _, h => by simp at h
  | _ :: _, _, 0, _, ⟨v, r, e, a, b⟩, h => by simp at h; subst h e; exact ⟨v, rfl, a⟩
  | _ :: _, _, i + 1, _, ⟨v, r, e, a, b⟩, h => by subst e; obtain ⟨w, h1, h2⟩ := RepSs.get (i := i) b (by simpa using h); exact ⟨w, by simpa using h1, h2⟩
theorem RepSs.pures : ∀ {xs : List SV} {vs : List V} {ys : List PV}, RepSs K mg F ι xs vs → pures? xs = some ys → RepL K mg F ys vs
  | [], _, _, r, h => by simp [pures?] at h; subst h; exact r
  | .v x :: xs, _, ys, ⟨v, r, e, a, b⟩, h => by
    simp only [pures?, Option.map_eq_some_iff] at h
    obtain ⟨zs, h1, h2⟩ := h
    subst h2 e
    exact ⟨v, r, rfl, a, RepSs.pures b h1⟩
  | .l _ :: _, _, _, _, h => by simp [pures?] at h
  | .ls _ :: _, _, _, _, h => by simp [pures?] at h

def RepD (K : PySem.W.Frag) (mg : PySem.Str → Option Value) (F : Hp) : List (PV × PV) → List (L2.Key × V) → Prop
  | [], ws => ws = []
  | (k, x) :: r, ws => ∃ k' v t, ws = (k', v) :: t ∧ k = keyP k' ∧ Rep K mg F x v ∧ RepD K mg F r t
theorem RepD.mono (h : Sub F F') : ∀ {xs : List (PV × PV)} {ws : List (L2.Key × V)}, RepD K mg F xs ws → RepD K mg F' xs ws
  | [], _, r => r
  | (_, _) :: _, _, ⟨k', v, t, e, a, b, c⟩ => ⟨k', v, t, e, a, b.mono h, RepD.mono h c⟩
theorem RepD.length : ∀ {xs : List (PV × PV)} {ws : List (L2.Key × V)}, RepD K mg F xs ws → xs.length = ws.length
  | [], _, r => by cases r; rfl
  | (_, _) :: _, _, ⟨k', v, t, e, a, b, c⟩ => by subst e; simp [RepD.length c]
def entI (x : List Int × Addr × Value) : DictEntry := ⟨reduceHash (Builtin.Tuple.tupleHashOf (x.1.map hashInt)), .ref x.2.1, x.2.2⟩
def dtO (a : Addr) (xs : List (List Int × Addr × Value)) : HO := .ext fun h => (a == sysModules) = false ∧ ∃ (o : Obj) (es : Array DictEntry) (ep : Nat), h.get? a = some o ∧ o.ExactDict ∧ o.data = .dict es ep ∧ es.toList = xs.map entI ∧ (xs.map (·.1)).Nodup
def KTi (K : PySem.W.Frag) (F : Hp) : List (List Int × Int) → List (List Int × Addr × Value) → Prop
  | [], xs => xs = []
  | p :: r, xs => ∃ b t ys, xs = (p.1, b, Value.int p.2 t) :: ys ∧ SqN K F b (p.1.map V.int) ∧ KTi K F r ys
theorem KTi.mono (h : Sub F F') : ∀ {kvs : List (List Int × Int)} {xs : List (List Int × Addr × Value)}, KTi K F kvs xs → KTi K F' kvs xs
  | [], _, r => r
  | _ :: _, _, ⟨b, t, ys, e, q, r⟩ => ⟨b, t, ys, e, h.sqN q, KTi.mono h r⟩
def RepO (K : PySem.W.Frag) (mg : PySem.Str → Option Value) (F : Hp) : Ob → Addr → HO → Prop
  | .lst xs, a, o => F a = none ∧ ∃ vs, o = .lst vs ∧ RepL K mg F xs vs
  | .dic kvs, a, o => F a = none ∧ ∃ ws, o = .dK ws ∧ RepD K mg F kvs ws
  | .dtt kvs, a, o => F a = none ∧ ∃ xs, o = dtO a xs ∧ KTi K F kvs xs
  | .gone, _, _ => True
theorem RepO.mono (h : Sub F F') {x : Ob} {a : Addr} {o : HO} (n : x = .gone ∨ F' a = none) (r : RepO K mg F x a o) : RepO K mg F' x a o := by
  cases x with
  | lst xs => obtain ⟨_, vs, e, q⟩ := r; exact ⟨n.resolve_left (by simp), vs, e, q.mono h⟩
  | dic kvs => obtain ⟨_, ws, e, q⟩ := r; exact ⟨n.resolve_left (by simp), ws, e, q.mono h⟩
  | dtt kvs => obtain ⟨_, ws, e, q⟩ := r; exact ⟨n.resolve_left (by simp), ws, e, q.mono h⟩
  | gone => trivial
structure Sim (K : PySem.W.Frag) (mg : PySem.Str → Option Value) (ι : Plc) (F : Hp) (S : Store) (H : Hp) : Prop where
  sub : Sub F H
  len : ι.l.length = S.length
  nd : ι.l.Nodup
  frm : ∀ a o, ι.w a = some o → H a = some o ∧ F a = none ∧ a ∉ ι.l
  at_ : ∀ (n : Nat) (x : Ob), S[n]? = some x → ∃ a o, ι.l[n]? = some a ∧ H a = some o ∧ RepO K mg F x a o
theorem Sim.has (s : Sim K mg ι F S H) {a : Addr} (h : a ∈ ι.l) : ∃ o, H a = some o := by
  obtain ⟨n, hn⟩ := List.getElem?_of_mem h
  have hl : n < S.length := by rw [← s.len]; exact (List.getElem?_eq_some_iff.mp hn).1
  obtain ⟨b, o, h1, h2, _⟩ := s.at_ n S[n] (List.getElem?_eq_getElem hl)
  rw [hn] at h1; cases h1
  exact ⟨o, h2⟩
theorem Sim.fresh (s : Sim K mg ι F S H) {p : Addr} (h : H p = none) : F p = none ∧ p ∉ ι.l := by
  refine ⟨?_, fun hp => ?_⟩
  · cases e : F p with
    | none => rfl
    | some o => rw [s.sub _ _ e] at h; cases h
  · obtain ⟨o, e⟩ := s.has hp
    rw [e] at h; cases h
theorem sub_upd {p : Addr} {o : HO} (h : F p = none) : Sub F (upd F p o) := fun a u e => by
  rw [upd_ne (ne_of_none e h)]; exact e
theorem Sim.newF (s : Sim K mg ι F S H) {p : Addr} {o : HO} (h : H p = none) : Sim K mg ι (upd F p o) S (upd H p o) ∧ Ext ι F ι (upd F p o) := by
  obtain ⟨hF, hp⟩ := s.fresh h
  refine ⟨⟨fun a u e => ?_, s.len, s.nd, fun a u e => ?_, fun n x e => ?_⟩, ⟨⟨⟨[], by simp⟩, rfl⟩, sub_upd hF⟩⟩
  · by_cases ha : a = p
    · subst ha; rw [upd_same] at e ⊢; exact e
    · rw [upd_ne ha] at e ⊢; exact s.sub _ _ e
  · obtain ⟨h1, h2, h3⟩ := s.frm a u e
    have ha : a ≠ p := ne_of_none h1 h
    exact ⟨by rw [upd_ne ha]; exact h1, by rw [upd_ne ha]; exact h2, h3⟩
  · obtain ⟨a, u, h1, h2, h3⟩ := s.at_ n x e
    have hap : a ≠ p := fun z => hp (z ▸ List.mem_of_getElem? h1)
    refine ⟨a, u, h1, by rw [upd_ne hap]; exact h2, h3.mono (sub_upd hF) ?_⟩
    cases x with
    | gone => exact .inl rfl
    | lst _ => right; rw [upd_ne hap]; exact h3.1
    | dic _ => right; rw [upd_ne hap]; exact h3.1
    | dtt _ => right; rw [upd_ne hap]; exact h3.1
theorem Sim.newL (s : Sim K mg ι F S H) {p : Addr} {x : Ob} {o : HO} (h : H p = none) (r : RepO K mg F x p o) : Sim K mg ⟨ι.l ++ [p], ι.w⟩ F (S ++ [x]) (upd H p o) ∧ Ext ι F ⟨ι.l ++ [p], ι.w⟩ F := by
  obtain ⟨hF, hp⟩ := s.fresh h
  refine ⟨⟨fun a u e => ?_, by simp [s.len], ?_, fun a u e => ?_, fun n y e => ?_⟩, ⟨⟨⟨[p], rfl⟩, rfl⟩, Sub.refl⟩⟩
  · rw [upd_ne (fun z => by subst z; rw [hF] at e; cases e)]; exact s.sub _ _ e
  · show (ι.l ++ [p]).Nodup
    rw [List.nodup_append]
    exact ⟨s.nd, by simp, fun a ha b hb => by simp at hb; subst hb; exact fun z => hp (z ▸ ha)⟩
  · obtain ⟨h1, h2, h3⟩ := s.frm a u e
    have ha : a ≠ p := ne_of_none h1 h
    exact ⟨by rw [upd_ne ha]; exact h1, h2, by simp [h3, ha]⟩
  · by_cases hn : n < S.length
    · rw [List.getElem?_append_left hn] at e
      obtain ⟨a, u, h1, h2, h3⟩ := s.at_ n y e
      have hap : a ≠ p := fun z => hp (z ▸ List.mem_of_getElem? h1)
      exact ⟨a, u, by show (ι.l ++ [p])[n]? = _; rw [List.getElem?_append_left (by rw [s.len]; exact hn)]; exact h1, by rw [upd_ne hap]; exact h2, h3⟩
    · have hn2 : n = S.length := by
        have := (List.getElem?_eq_some_iff.mp e).1
        simp at this; omega
      subst hn2
      simp at e; subst e
      exact ⟨p, o, by show (ι.l ++ [p])[S.length]? = _; rw [← s.len]; simp, upd_same, r⟩
theorem Sim.write (s : Sim K mg ι F S H) {n : Nat} {a : Addr} {x : Ob} {o : HO} (hi : ι.l[n]? = some a) (hF : F a = none) (r : RepO K mg F x a o) : Sim K mg ι F (S.set n x) (upd H a o) := by
  refine ⟨fun b u e => ?_, by simp [s.len], s.nd, fun b u e => ?_, fun m y e => ?_⟩
  · rw [upd_ne (fun z => by subst z; rw [hF] at e; cases e)]; exact s.sub _ _ e
  · obtain ⟨h1, h2, h3⟩ := s.frm b u e
    exact ⟨by rw [upd_ne (fun z => by subst z; exact h3 (List.mem_of_getElem? hi))]; exact h1, h2, h3⟩
  · by_cases hm : m = n
    · subst hm
      have hl : m < S.length := by
        have := (List.getElem?_eq_some_iff.mp e).1
        simpa using this
      rw [List.getElem?_set_self hl] at e
      cases e
      exact ⟨a, o, hi, upd_same, r⟩
    · rw [List.getElem?_set_ne (Ne.symm hm)] at e
      obtain ⟨b, u, h1, h2, h3⟩ := s.at_ m y e
      have hba : b ≠ a := fun z => by
        subst z
        obtain ⟨l1, e1⟩ := List.getElem?_eq_some_iff.mp h1
        obtain ⟨l2, e2⟩ := List.getElem?_eq_some_iff.mp hi
        exact hm ((List.getElem_inj s.nd).mp (e1.trans e2.symm))
      exact ⟨b, u, h1, by rw [upd_ne hba]; exact h2, h3⟩
theorem Sim.shut (s : Sim K mg ι F S H) {n : Nat} {xs : List PV} (hn : S[n]? = some (.lst xs)) :
    ∃ a vs, ι.l[n]? = some a ∧ Sim K mg ι (upd F a (.lst vs)) (S.set n .gone) H ∧ Ext ι F ι (upd F a (.lst vs)) ∧ Rep K mg (upd F a (.lst vs)) (.lst xs) (.ref a) := by
  obtain ⟨a, o, h1, h2, h3, vs, e, h4⟩ := s.at_ n _ hn
  subst e
  have sb : Sub F (upd F a (.lst vs)) := sub_upd h3
  refine ⟨a, vs, h1, ⟨fun b u e => ?_, by simp [s.len], s.nd, fun b u e => ?_, fun m y e => ?_⟩, ⟨⟨⟨[], by simp⟩, rfl⟩, sb⟩, a, vs, rfl, .inl upd_same, h4.mono sb⟩
  · by_cases hb : b = a
    · subst hb; rw [upd_same] at e; cases e; exact h2
    · rw [upd_ne hb] at e; exact s.sub _ _ e
  · obtain ⟨k1, k2, k3⟩ := s.frm b u e
    exact ⟨k1, by rw [upd_ne (fun z => by subst z; exact k3 (List.mem_of_getElem? h1))]; exact k2, k3⟩
  · by_cases hm : m = n
    · subst hm
      have hl : m < S.length := (List.getElem?_eq_some_iff.mp hn).1
      rw [List.getElem?_set_self hl] at e
      cases e
      exact ⟨a, _, h1, h2, trivial⟩
    · rw [List.getElem?_set_ne (Ne.symm hm)] at e
      obtain ⟨b, u, g1, g2, g3⟩ := s.at_ m y e
      have hba : b ≠ a := fun z => by
        subst z
        obtain ⟨l1, e1⟩ := List.getElem?_eq_some_iff.mp g1
        obtain ⟨l2, e2⟩ := List.getElem?_eq_some_iff.mp h1
        exact hm ((List.getElem_inj s.nd).mp (e1.trans e2.symm))
      refine ⟨b, u, g1, g2, g3.mono sb ?_⟩
      cases y with
      | gone => exact .inl rfl
      | lst _ => right; rw [upd_ne hba]; exact g3.1
      | dic _ => right; rw [upd_ne hba]; exact g3.1
      | dtt _ => right; rw [upd_ne hba]; exact g3.1
theorem Sim.shutAll : ∀ {ns : List Nat} {F : Hp} {S S1 : Store} {xs : List PV} {vs : List V}, Sim K mg ι F S H → shutAll ns S = some (xs, S1) → RepN ι ns vs → ∃ F', Sim K mg ι F' S1 H ∧ Ext ι F ι F' ∧ RepL K mg F' xs vs
  | [], F, _, _, _, _, s, h, t => by cases h; cases t; exact ⟨F, s, Ext.refl, rfl⟩
  | n :: ns, F, S, S1, xs, vs, s, h, t => by
    obtain ⟨p, r, rfl, hp, t⟩ := t
    unfold FW.shutAll at h
    split at h
    · rename_i ys hS
      simp only [Option.map_eq_some_iff] at h
      obtain ⟨⟨zs, S2⟩, h1, h2⟩ := h
      cases h2
      obtain ⟨a, us, k1, s1, e1, r1⟩ := s.shut hS
      rw [hp] at k1; cases k1
      obtain ⟨F2, s2, e2, l2⟩ := Sim.shutAll s1 h1 t
      exact ⟨F2, s2, e1.trans e2, .ref p, r, rfl, r1.mono e2.2, l2⟩
    · cases h
theorem Sim.take (s : Sim K mg ι F S H) (n : Nat) : Sim K mg ⟨ι.l.take n, ι.w⟩ F (S.take n) H := by
  refine ⟨s.sub, by simp [s.len], s.nd.sublist (List.take_sublist _ _), fun a u e => ?_, fun m x e => ?_⟩
  · obtain ⟨h1, h2, h3⟩ := s.frm a u e
    exact ⟨h1, h2, fun h => h3 (List.mem_of_mem_take h)⟩
  · have hm : m < n := by
      have := (List.getElem?_eq_some_iff.mp e).1
      simp at this; omega
    rw [List.getElem?_take_of_lt hm] at e
    show ∃ a o, (ι.l.take n)[m]? = some a ∧ _
    rw [List.getElem?_take_of_lt hm]
    exact s.at_ m x e
theorem Sim.apart (s : Sim K mg ι F S H) {p : Addr} {o : HO} (hH : H p = some o) (hF : F p = none) (hι : p ∉ ι.l) : Sim K mg ⟨ι.l, upd ι.w p o⟩ F S H :=
  ⟨s.sub, s.len, s.nd, fun a u e => by
    by_cases ha : a = p
    · subst ha
      have e : upd ι.w a o a = some u := e
      rw [upd_same] at e; cases e
      exact ⟨hH, hF, hι⟩
    · have e : upd ι.w p o a = some u := e
      rw [upd_ne ha] at e; exact s.frm a u e, s.at_⟩
theorem Sim.drop (s : Sim K mg ι F S H) {D : Addr} {o : HO} (hF : F D = none) (hι : D ∉ ι.l) (hw : ι.w D = none) : Sim K mg ι F S (upd H D o) := by
  refine ⟨fun a u e => ?_, s.len, s.nd, fun a u e => ?_, fun n x e => ?_⟩
  · rw [upd_ne (fun z => by subst z; rw [hF] at e; cases e)]; exact s.sub _ _ e
  · obtain ⟨h1, h2, h3⟩ := s.frm a u e
    exact ⟨by rw [upd_ne (fun z => by subst z; rw [hw] at e; cases e)]; exact h1, h2, h3⟩
  · obtain ⟨a, u, h1, h2, h3⟩ := s.at_ n x e
    exact ⟨a, u, h1, by rw [upd_ne (fun z => by subst z; exact hι (List.mem_of_getElem? h1))]; exact h2, h3⟩
theorem Sim.forget (s : Sim K mg ι F S H) {w : Hp} (h : Sub w ι.w) : Sim K mg ⟨ι.l, w⟩ F S H := ⟨s.sub, s.len, s.nd, fun a u e => s.frm a u (h a u e), s.at_⟩
theorem Sim.seq (s : Sim K mg ι F S H) {x : SV} {v : V} {t : Bool} {xs : List PV} (r : RepS K mg F ι x v) (h : seqOf S x = some (t, xs)) :
    ∃ p vs, v = .ref p ∧ RepL K mg F xs vs ∧ (if t = true then Rd H p (.lst vs) else SqT K H p vs) := by
  cases x with
  | v x =>
    cases x <;> simp only [seqOf, Option.some.injEq, Prod.mk.injEq, reduceCtorEq] at h
    · obtain ⟨rfl, rfl⟩ := h
      obtain ⟨p, vs, e, q, z⟩ := r
      exact ⟨p, vs, e, z, by simpa using s.sub.sqT q.sqT⟩
    · obtain ⟨rfl, rfl⟩ := h
      obtain ⟨p, vs, e, q, z⟩ := r
      exact ⟨p, vs, e, z, by simpa using s.sub.rd q⟩
  | l n =>
    obtain ⟨p, hp, rfl⟩ := r
    simp only [seqOf] at h
    split at h
    · rename_i ys e
      simp only [Option.some.injEq, Prod.mk.injEq] at h
      obtain ⟨rfl, rfl⟩ := h
      obtain ⟨a, o, h1, h2, h3, vs, e2, h4⟩ := s.at_ n _ e
      rw [hp] at h1; cases h1
      subst e2
      exact ⟨p, vs, rfl, h4, by simpa using Rd.of h2⟩
    · cases h
  | ls _ => cases h
theorem Sim.dic (s : Sim K mg ι F S H) {x : SV} {v : V} {kvs : List (PV × PV)} (r : RepS K mg F ι x v) (h : dicOf S x = some kvs) :
    ∃ n p ws, x = .l n ∧ ι.l[n]? = some p ∧ S[n]? = some (.dic kvs) ∧ v = .ref p ∧ F p = none ∧ H p = some (.dK ws) ∧ RepD K mg F kvs ws := by
  cases x with
  | v x => simp [dicOf] at h
  | l n =>
    obtain ⟨p, hp, rfl⟩ := r
    simp only [dicOf] at h
    split at h
    · rename_i ys e
      cases h
      obtain ⟨a, o, h1, h2, h3, ws, e2, h4⟩ := s.at_ n _ e
      rw [hp] at h1; cases h1
      subst e2
      exact ⟨n, p, ws, rfl, hp, e, rfl, h3, h2, h4⟩
    · cases h
  | ls _ => cases h
theorem RepD.of_zip : ∀ {ws : List (L2.Key × V)} {xs : List PV}, RepL K mg F xs (ws.map (·.2)) → RepD K mg F ((ws.map (fun w => keyP w.1)).zip xs) ws
  | [], [], _ => rfl
  | [], _ :: _, ⟨v, r, e, _, _⟩ => by cases e
  | w :: ws, [], r => by cases r
  | w :: ws, x :: xs, ⟨v, r, e, a, b⟩ => by
    obtain ⟨rfl, rfl⟩ := List.cons.inj e
    exact ⟨w.1, w.2, ws, rfl, rfl, a, RepD.of_zip b⟩
theorem Sim.dicR (s : Sim K mg ι F S H) {x : SV} {v : V} {kvs : List (PV × PV)} (r : RepS K mg F ι x v) (h : dicR S x = some kvs) :
    ∃ p ws, v = .ref p ∧ Rd H p (.dK ws) ∧ RepD K mg F kvs ws := by
  unfold FW.dicR at h
  split at h
  · cases h
    obtain ⟨p, od, ws, rfl, hp, rfl, _, q⟩ := r
    exact ⟨p, ws, rfl, .inr ⟨od, s.sub _ _ hp⟩, RepD.of_zip q⟩
  · obtain ⟨n, p, ws, rfl, _, _, rfl, _, hH, rd⟩ := s.dic r h
    exact ⟨p, ws, rfl, .inl hH, rd⟩
theorem Sim.shutD (s : Sim K mg ι F S H) {n : Nat} {kvs : List (PV × PV)} (hn : S[n]? = some (.dic kvs)) (hint : allInt (kvs.map Prod.fst) = true) :
    ∃ a ws, ι.l[n]? = some a ∧ H a = some (.dK ws) ∧ ∀ od, Sim K mg ι (upd F a (.frz od (.dK ws))) (S.set n .gone) (upd H a (.frz od (.dK ws))) ∧ Ext ι F ι (upd F a (.frz od (.dK ws))) ∧ Rep K mg (upd F a (.frz od (.dK ws))) (.dic (kvs.map Prod.fst) (kvs.map Prod.snd)) (.ref a) := by
  obtain ⟨a, o, h1, h2, h3, ws, e, h4⟩ := s.at_ n _ hn
  subst e
  refine ⟨a, ws, h1, h2, fun od => ?_⟩
  have sb : Sub F (upd F a (.frz od (.dK ws))) := sub_upd h3
  have hai : a ∈ ι.l := List.mem_of_getElem? h1
  refine ⟨⟨fun b u e => ?_, by simp [s.len], s.nd, fun b u e => ?_, fun m y e => ?_⟩, ⟨⟨⟨[], by simp⟩, rfl⟩, sb⟩, a, od, ws, rfl, upd_same, ?_, hint, ?_⟩
  · by_cases hb : b = a
    · subst hb; rw [upd_same] at e ⊢; exact e
    · rw [upd_ne hb] at e ⊢; exact s.sub _ _ e
  · obtain ⟨k1, k2, k3⟩ := s.frm b u e
    have hba : b ≠ a := fun z => by subst z; exact k3 hai
    exact ⟨by rw [upd_ne hba]; exact k1, by rw [upd_ne hba]; exact k2, k3⟩
  · by_cases hm : m = n
    · subst hm
      have hl : m < S.length := (List.getElem?_eq_some_iff.mp hn).1
      rw [List.getElem?_set_self hl] at e
      cases e
      exact ⟨a, _, h1, upd_same, trivial⟩
    · rw [List.getElem?_set_ne (Ne.symm hm)] at e
      obtain ⟨b, u, g1, g2, g3⟩ := s.at_ m y e
      have hba : b ≠ a := fun z => by
        subst z
        obtain ⟨l1, e1⟩ := List.getElem?_eq_some_iff.mp g1
        obtain ⟨l2, e2⟩ := List.getElem?_eq_some_iff.mp h1
        exact hm ((List.getElem_inj s.nd).mp (e1.trans e2.symm))
      refine ⟨b, u, g1, by rw [upd_ne hba]; exact g2, g3.mono sb ?_⟩
      cases y with
      | gone => exact .inl rfl
      | lst _ => right; rw [upd_ne hba]; exact g3.1
      | dic _ => right; rw [upd_ne hba]; exact g3.1
      | dtt _ => right; rw [upd_ne hba]; exact g3.1
  · clear sb h2 h1 hn hint
    induction kvs generalizing ws with
    | nil => cases h4; rfl
    | cons p r ih =>
      obtain ⟨k, x⟩ := p
      obtain ⟨k', v, t, rfl, rfl, _, q⟩ := h4
      rw [List.map_cons, List.map_cons, ih _ q]
  · have h5 : RepL K mg F (kvs.map Prod.snd) (ws.map (·.2)) := by
      clear sb h2 h1 hn hint
      induction kvs generalizing ws with
      | nil => cases h4; rfl
      | cons p r ih =>
        obtain ⟨k, x⟩ := p
        obtain ⟨k', v, t, rfl, rfl, hx, q⟩ := h4
        exact ⟨v, _, rfl, hx, ih _ q⟩
    exact h5.mono sb
end

def RepR (K : PySem.W.Frag) (mg : PySem.Str → Option Value) (F : Hp) (ι : Plc) (ρ : Slots) (σ : L2.St) : Prop :=
  ρ.length = σ.length ∧ ∀ (i : Nat) (x : SV), ρ[i]? = some (some x) → ∃ v, σ[i]? = some (some v) ∧ RepS K mg F ι x v
section
variable {K : PySem.W.Frag} {mg : PySem.Str → Option Value} {F F' H H' : Hp} {ι ι' : Plc} {S S' : Store} {ρ ρ' : Slots} {σ σ' : L2.St}
theorem RepR.mono (a : Ext ι F ι' F') (r : RepR K mg F ι ρ σ) : RepR K mg F' ι' ρ σ := ⟨r.1, fun i x h => by
  obtain ⟨v, h1, h2⟩ := r.2 i x h
  exact ⟨v, h1, h2.mono a⟩⟩
theorem RepR.set {x : SV} {v : V} (r : RepR K mg F ι ρ σ) (q : RepS K mg F ι x v) (i : Nat) : RepR K mg F ι (ρ.set i (some x)) (σ.set i (some v)) := by
  refine ⟨by simp [r.1], fun j y h => ?_⟩
  by_cases hj : j = i
  · subst hj
    have hl : j < ρ.length := by
      have := (List.getElem?_eq_some_iff.mp h).1
      simpa using this
    rw [List.getElem?_set_self hl] at h
    cases h
    exact ⟨v, by rw [List.getElem?_set_self (by rw [← r.1]; exact hl)], q⟩
  · rw [List.getElem?_set_ne (Ne.symm hj)] at h
    obtain ⟨w, h1, h2⟩ := r.2 j y h
    exact ⟨w, by rw [List.getElem?_set_ne (Ne.symm hj)]; exact h1, h2⟩
theorem RepR.setL {x : SV} {v : V} (r : RepR K mg F ι ρ σ) (q : RepS K mg F ι x v) {i : Nat} (h : σ[i]? = some (some v)) : RepR K mg F ι (ρ.set i (some x)) σ := by
  refine ⟨by simp [r.1], fun j y h' => ?_⟩
  by_cases hj : j = i
  · subst hj
    have hl : j < ρ.length := by
      have := (List.getElem?_eq_some_iff.mp h').1
      simpa using this
    rw [List.getElem?_set_self hl] at h'
    cases h'
    exact ⟨v, h, q⟩
  · rw [List.getElem?_set_ne (Ne.symm hj)] at h'
    exact r.2 j y h'
theorem RepR.forget (r : RepR K mg F ι ρ σ) (i : Nat) : RepR K mg F ι (ρ.set i none) σ := by
  refine ⟨by simp [r.1], fun j y h => ?_⟩
  by_cases hj : j = i
  · subst hj
    have hl : j < ρ.length := by
      have := (List.getElem?_eq_some_iff.mp h).1
      simpa using this
    rw [List.getElem?_set_self hl] at h
    cases h
  · rw [List.getElem?_set_ne (Ne.symm hj)] at h
    exact r.2 j y h
theorem RepR.wipe (r : RepR K mg F ι ρ σ) : ∀ w : List Nat, RepR K mg F ι (wipeS ρ w) σ
  | [] => r
  | i :: is => (RepR.wipe r is).forget i
theorem RepR.wipe2 (r : RepR K mg F ι ρ σ) : ∀ w : List Nat, RepR K mg F ι (wipeS ρ w) (L2.wipe σ w)
  | [] => r
  | i :: is => by
    have q := RepR.wipe2 r is
    refine ⟨by simp [wipeS, L2.wipe, q.1], fun j y h => ?_⟩
    simp only [wipeS] at h
    by_cases hj : j = i
    · subst hj
      have hl : j < (wipeS ρ is).length := by
        have := (List.getElem?_eq_some_iff.mp h).1
        simpa using this
      rw [List.getElem?_set_self hl] at h
      cases h
    · rw [List.getElem?_set_ne (Ne.symm hj)] at h
      obtain ⟨v, h1, h2⟩ := q.2 j y h
      exact ⟨v, by simp only [L2.wipe]; rw [List.getElem?_set_ne (Ne.symm hj)]; exact h1, h2⟩
theorem RepR.get {i : Nat} {x : SV} (r : RepR K mg F ι ρ σ) (h : getS ρ i = some x) : ∃ v, σ[i]? = some (some v) ∧ RepS K mg F ι x v := by
  unfold getS at h
  split at h
  · cases h; rename_i y e; exact r.2 i _ e
  · cases h
end

section
variable (K : PySem.W.Frag) (mg : PySem.Str → Option Value)
def rdE (f : VS) : TE := fun σ H Q => ∃ ι F S ρ x S', Sim K mg ι F S H ∧ RepR K mg F ι ρ σ ∧ f ρ S = .ok x S' ∧
  ∀ ι' F' v H', Ext ι F ι' F' → Sim K mg ι' F' S' H' → RepS K mg F' ι' x v → Q v H'
def rdT (f : Slots → Store → Out Bool) : TT := fun σ H Q => ∃ ι F S ρ x S', Sim K mg ι F S H ∧ RepR K mg F ι ρ σ ∧ f ρ S = .ok x S' ∧
  ∀ ι' F' H', Ext ι F ι' F' → Sim K mg ι' F' S' H' → Q x H'
def rdA (f : LS) : TA := fun σ H Q => ∃ ι F S ρ xs S', Sim K mg ι F S H ∧ RepR K mg F ι ρ σ ∧ f ρ S = .ok xs S' ∧
  ∀ ι' F' vs H', Ext ι F ι' F' → Sim K mg ι' F' S' H' → RepSs K mg F' ι' xs vs → Q vs H'
def rd1 (f : SV → Store → Out SV) : V → Hp → VK → Prop := fun v H Q => ∃ ι F S x y S', Sim K mg ι F S H ∧ RepS K mg F ι x v ∧ f x S = .ok y S' ∧
  ∀ ι' F' w H', Ext ι F ι' F' → Sim K mg ι' F' S' H' → RepS K mg F' ι' y w → Q w H'
def rd2 (f : SV → SV → Store → Out SV) : V → V → Hp → VK → Prop := fun v w H Q => ∃ ι F S x y z S', Sim K mg ι F S H ∧ RepS K mg F ι x v ∧ RepS K mg F ι y w ∧ f x y S = .ok z S' ∧
  ∀ ι' F' u H', Ext ι F ι' F' → Sim K mg ι' F' S' H' → RepS K mg F' ι' z u → Q u H'
def rdV (f : List SV → Store → Out SV) : List V → Hp → VK → Prop := fun vs H Q => ∃ ι F S xs y S', Sim K mg ι F S H ∧ RepSs K mg F ι xs vs ∧ f xs S = .ok y S' ∧
  ∀ ι' F' w H', Ext ι F ι' F' → Sim K mg ι' F' S' H' → RepS K mg F' ι' y w → Q w H'
def rdEnd (D : Ends) (ι : Plc) (F : Hp) (r : Flow) (S' : Store) : Prop := ∀ ι' F' H', Ext ι F ι' F' → Sim K mg ι' F' S' H' → match r with
  | .next ρ => ∀ σ, RepR K mg F' ι' ρ σ → D.nx σ H'
  | .brk ρ => ∀ σ, RepR K mg F' ι' ρ σ → D.bk σ H'
  | .cnt ρ => ∀ σ, RepR K mg F' ι' ρ σ → D.ct σ H'
  | .ret x => ∀ v, RepS K mg F' ι' x v → D.rt v H'
def rdS (f : Slots → Store → Out Flow) : TS := fun D σ H => ∃ ι F S ρ r S', Sim K mg ι F S H ∧ RepR K mg F ι ρ σ ∧ f ρ S = .ok r S' ∧ rdEnd K mg D ι F r S'
end
section
variable {X : Cx} {e : Expr} {es : List Expr}
theorem pe_mono {t t' : TE} (h : PE X e t) (m : ∀ σ H Q, t' σ H Q → t σ H Q) : PE X e t' := ⟨fun pins s σ H Q I q => h.run pins s σ H Q I (m σ H Q q)⟩
theorem pt_mono {t t' : TT} (h : PT X e t) (m : ∀ σ H Q, t' σ H Q → t σ H Q) : PT X e t' := ⟨fun pins s σ H Q I q => h.run pins s σ H Q I (m σ H Q q)⟩
theorem pw_mono {t t' : TT} (h : PW X e t) (m : ∀ σ H Q, t' σ H Q → t σ H Q) : PW X e t' := ⟨fun wh pins s σ H Q I q => h.run wh pins s σ H Q I (m σ H Q q)⟩
theorem pa_mono {t t' : TA} (h : PA X es t) (m : ∀ σ H Q, t' σ H Q → t σ H Q) : PA X es t' := ⟨fun pos pins s σ H Q I q => h.run pos pins s σ H Q I (m σ H Q q)⟩
theorem ps_mono {st : Stmt} {t t' : TS} (h : PS X st t) (m : ∀ D σ H, t' D σ H → t D σ H) : PS X st t' := ⟨fun pins s σ H D I q => h.run pins s σ H D I (m D σ H q)⟩
theorem pss_mono {st : List Stmt} {t t' : TS} (h : PSs X st t) (m : ∀ D σ H, t' D σ H → t D σ H) : PSs X st t' := ⟨fun pins s σ H D I q => h.run pins s σ H D I (m D σ H q)⟩
theorem bind_ok {α β : Type} {a : Out α} {f : α → Store → Out β} {y : β} {S' : Store} (h : a.bind f = .ok y S') : ∃ x S1, a = .ok x S1 ∧ f x S1 = .ok y S' := by
  cases a with
  | ok x S1 => exact ⟨x, S1, rfl, h⟩
  | exc c as S => simp [Out.bind] at h
  | bad => simp [Out.bind] at h
end
end FW

namespace FW
open PySem PySem.Spec PyProof.Rows L2
section
variable (l : Addr) (its : Array Value) (ep : Nat) (dc : Option Addr) (sl : Array (Option Value)) (k : Int) (tk : Tok)
theorem tmul_same (big : (decide (k < -(2 ^ 63)) || decide (k ≥ 2 ^ 63)) = false) (one : (its.isEmpty || k == 1) = true) : Meets (Builtin.«tuple.__mul__» ⟨[.ref l, .int k tk], []⟩) (fun _ R s => s.heap.get? l = some { cls := .type "tuple", dict := dc, data := .seq its ep, slots := sl } ∧ R (.ok (.ret (Value.ref l))) s) :=
  .of_wp fun prog w A R s h => by
    obtain ⟨hp, gs, dr, tks, os⟩ := s
    obtain ⟨at_, goal⟩ := h
    have ix := AutoSeq1.idx_int
    wp_walk using wpAny_loadPart' at_
    refine wpAny_ite_false (decide_eq_false (by rw [big]; exact Bool.false_ne_true)) ?_
    wp_walk using wpAny_loadPart' at_
    exact ⟨_, rfl, goal⟩
theorem tmul_none (big : (decide (k < -(2 ^ 63)) || decide (k ≥ 2 ^ 63)) = false) (one : (its.isEmpty || k == 1) = false) (low : (decide (k ≤ 0) || its.isEmpty) = true) : Meets (Builtin.«tuple.__mul__» ⟨[.ref l, .int k tk], []⟩) (fun _ R s => s.heap.get? l = some { cls := .type "tuple", dict := dc, data := .seq its ep, slots := sl } ∧
    R (.ok (.ret (Value.ref s.heap.objs.size))) { s with heap := s.heap.push { cls := Value.type "tuple", data := Data.seq #[] }, toks := s.toks }) :=
  .of_wp fun prog w A R s h => by
    obtain ⟨hp, gs, dr, tks, os⟩ := s
    obtain ⟨at_, goal⟩ := h
    have ix := AutoSeq1.idx_int
    wp_walk using wpAny_loadPart' at_
    refine wpAny_ite_false (decide_eq_false (by rw [big]; exact Bool.false_ne_true)) ?_
    wp_walk using wpAny_loadPart' at_
    exact ⟨_, rfl, goal⟩
end
def NewT (H : Hp) (Q : VK) (vs : List V) : Prop := ∀ (p : Addr) (o : Obj), H p = none → o.cls = .type "tuple" → o.dict = none → Q (.ref p) (upd H p (.frz o (.tup vs)))
section
variable {X : Cx} {pins : List (Addr × Obj)} {σ : L2.St} {H : Hp} {s : Shared}
theorem Inv.newTup {vs : List V} {its : List Value} {h1 h2 : Heap} {tk : Nat} {Q : VK} (I : Inv X pins σ H { s with heap := h1 }) (rv : Vals vs its) (hz : vs.length ≤ sizeLine) (q : NewT H Q vs) (e : h2 = h1.push { cls := .type "tuple", data := .seq its.toArray }) :
    EP X pins σ Q (.ref h1.objs.size) { s with heap := h2, toks := tk } := by
  subst e
  have got : (h1.push { cls := .type "tuple", data := .seq its.toArray }).get? h1.objs.size = some { cls := .type "tuple", data := .seq its.toArray } := Heap.get?_push_size _ rfl
  have fr : H h1.objs.size = none := I.hok.fresh (Nat.le_refl _)
  have I2 := Inv.laid (s := { s with heap := h1 }) (h' := h1.push { cls := .type "tuple", data := .seq its.toArray }) (a := h1.objs.size) (t' := tk) (o := .frz { cls := .type "tuple", data := .seq its.toArray } (.tup vs)) I (fun b u hb => Heap.get?_push_of_some _ hb) (Nat.le_refl _) ⟨got, hz, its, rv, _, got, rfl, _, rfl⟩
  exact ⟨.ref h1.objs.size, _, I2, rfl, q _ _ fr rfl rfl⟩
theorem pe_tupN {es : List Expr} {t : TA} {pos : Pos} {k : Nat} (h : PA X es t) : PE X (.Tuple es k pos) (fun σ H Q => t σ H fun xs H1 => xs.length ≤ sizeLine ∧ NewT H1 Q xs) :=
  ⟨fun pins s σ H Q I hq => wpAny_Tuple_spliced (thn (h.run pos pins s σ H _ I hq) fun us s1 ⟨xs, H1, I1, r, z, q⟩ => ⟨by rw [← r.length]; exact z, Inv.newTup (s := s1) (tk := s1.toks) I1 r z q rfl⟩)⟩
theorem call_tupN : CallR X (.type "tuple") (fun xs H Q => ∃ p ys, xs = [.ref p] ∧ ((SqL X.K H p ys ∧ NewT H Q ys) ∨ (SqT X.K H p ys ∧ Q (.ref p) H))) := by
  intro pins s σ H xs us Q I r h
  obtain ⟨p, ys, rfl, ⟨hq, q⟩ | ⟨hq, q⟩⟩ := h
  · obtain ⟨u, rfl, rx⟩ := vals1 r
    cases rx
    obtain ⟨its, rv, pl, hz⟩ := I.list hq
    refine call_tuple_list pl.isList (fun h1 kp => ?_) ?_
    · exact Inv.newTup (s := s) (tk := s.toks) (I.kept (t' := s.toks) kp) rv hz q rfl
    · have := rv.length
      simp only [List.size_toArray]
      omega
  · exact call_tuple_of pins s σ H _ us Q I r ⟨p, ys, rfl, .inr ⟨hq, q⟩⟩
theorem sl_tupN : SlR X (fun x lo hi H Q => ∃ a xs, x = .ref a ∧ SqT X.K H a xs ∧ (HT.sIx xs.length 0 lo = 0 ∧ HT.sIx xs.length xs.length hi = xs.length → Q (.ref a) H) ∧
    (¬ (HT.sIx xs.length 0 lo = 0 ∧ HT.sIx xs.length xs.length hi = xs.length) → NewT H Q (cutV xs lo hi))) := by
  intro pins s σ H x v vl vu lo hi sl Q I rx hs pl pu h
  obtain ⟨a, xs, rfl, hx, q1, q2⟩ := h
  by_cases hw : HT.sIx xs.length 0 lo = 0 ∧ HT.sIx xs.length xs.length hi = xs.length
  · exact sl_tupA pins s σ H _ v vl vu lo hi sl Q I rx hs pl pu ⟨a, xs, rfl, hx, q1, fun n => absurd hw n⟩
  · cases rx
    obtain ⟨its, rv, ht, hz⟩ := I.tuple hx
    have len : its.toArray.size = xs.length := (List.size_toArray ..).trans rv.length.symm
    refine ⟨"tuple", _, PyProof.Rows.slot_tuple_getitem.lookup, ht.typeIs, HT.getItem_tuple_cut ht hs pl pu (by rwa [len]) ?_ (by rwa [len])⟩
    rw [len]
    have rc := (rv.drop (HT.sIx xs.length 0 lo)).take (HT.sIx xs.length xs.length hi - HT.sIx xs.length 0 lo)
    exact Inv.newTup (s := s) (tk := s.toks) I rc (Nat.le_trans (cutV_length xs lo hi) hz) (q2 hw) rfl
theorem op_catN : OpR X (binaryOp .Add) (fun x y H Q => ∃ a b xs ys, x = .ref a ∧ y = .ref b ∧ SqT X.K H a xs ∧ SqT X.K H b ys ∧ xs.length + ys.length ≤ sizeLine ∧
    (xs = [] → Q (.ref b) H) ∧ (xs ≠ [] → ys = [] → Q (.ref a) H) ∧ (xs ≠ [] → ys ≠ [] → NewT H Q (xs ++ ys))) := by
  intro pins s σ H x y v u Q I rx ry h
  obtain ⟨a, b, xs, ys, rfl, rfl, ha, hb, hz, q0, q1, q2⟩ := h
  by_cases hx : xs = []
  · exact op_catA pins s σ H _ _ v u Q I rx ry ⟨a, b, xs, ys, rfl, rfl, ha, hb, hz, q0, q1, fun n => absurd hx n⟩
  · cases rx
    cases ry
    obtain ⟨its, r1, p1, _⟩ := I.tuple ha
    obtain ⟨its2, r2, p2, _⟩ := I.tuple hb
    have l1 := r1.length
    have l2 := r2.length
    refine HT.cat_tup p1 p2 (fun e => hx (r1.nil_iff.mp e)) (fun e => ⟨.ref a, H, I, rfl, q1 hx (r2.nil_iff.mp e)⟩) (fun e => ?_) (by omega)
    exact Inv.newTup (s := s) (tk := s.toks) I (r1.append r2) (by rw [List.length_append]; exact hz) (q2 hx fun w => e (r2.nil_iff.mpr w)) (by simp)
end
section
variable {X : Cx}
def rMulT (K : PySem.W.Frag) : R2 := fun x y H Q => ∃ l k xs, x = .ref l ∧ y = .int k ∧ SqT K H l xs ∧ -1000 ≤ k ∧ k ≤ 1000 ∧ (((xs = [] ∨ k = 1) ∧ Q (.ref l) H) ∨ (xs ≠ [] ∧ k ≤ 0 ∧ NewT H Q []) ∨ (xs ≠ [] ∧ 2 ≤ k ∧ xs.length ≤ 1000 ∧ NewT H Q (List.replicate k.toNat xs).flatten))
theorem op_mulT : OpR X (binaryOp .Mult) (rMulT X.K) := by
  intro pins s σ H x y v u Q I rx ry h
  obtain ⟨l, k, xs, rfl, rfl, hq, lo, hi, h⟩ := h
  cases rx
  obtain ⟨tk, rfl⟩ := ry
  obtain ⟨its, rv, ⟨⟨cl, dc, dt, sl⟩, ho, hcl, ep, hdt⟩, hz⟩ := I.tuple hq
  simp only at hcl hdt
  subst hcl hdt
  have len : its.length = xs.length := rv.length.symm
  have big : (decide (k < -(2 ^ 63)) || decide (k ≥ 2 ^ 63)) = false := by rw [decide_eq_false (by omega), decide_eq_false (by omega)]; rfl
  have e0 : its.toArray.isEmpty = xs.isEmpty := by cases its <;> cases xs <;> simp_all
  rcases h with ⟨h1, q⟩ | ⟨h1, h2, q⟩ | ⟨h1, h2, h3, q⟩
  · have one : (its.toArray.isEmpty || k == 1) = true := by
      rw [e0]
      rcases h1 with rfl | rfl
      · rfl
      · simp
    refine wpAny_binaryOp_repeat_ref (T := "tuple") (U := "int") (by decide) ⟨_, ho, rfl⟩ (fun s' => typeIs_int s' k tk) noFill_tuple_mul F.fills_int_mul F.slot_int_rmul repeat_tuple F.slot_int_index.lookup (call_meets F.slot_int_rmul (typeIs_int s k tk) F.entry_int_rmul (F.args_int_rmul_2 _ _) (int_rmul_tuple k tk l its.toArray ep dc sl) ⟨ho, rfl, ⟨_, ho, rfl⟩, ?_⟩)
    exact call_meets F.slot_tuple_mul ⟨_, ho, rfl⟩ F.entry_tuple_mul (F.args_tuple_mul_2 _ _) (tmul_same l its.toArray ep dc sl k tk big one) ⟨ho, ⟨.ref l, H, I, rfl, q⟩⟩
  · have ne : its.toArray.isEmpty = false := by rw [e0]; cases xs <;> simp_all
    have one : (its.toArray.isEmpty || k == 1) = false := by rw [ne, Bool.false_or]; exact beq_eq_false_iff_ne.mpr (by omega)
    have low : (decide (k ≤ 0) || its.toArray.isEmpty) = true := by rw [decide_eq_true h2]; rfl
    refine wpAny_binaryOp_repeat_ref (T := "tuple") (U := "int") (by decide) ⟨_, ho, rfl⟩ (fun s' => typeIs_int s' k tk) noFill_tuple_mul F.fills_int_mul F.slot_int_rmul repeat_tuple F.slot_int_index.lookup (call_meets F.slot_int_rmul (typeIs_int s k tk) F.entry_int_rmul (F.args_int_rmul_2 _ _) (int_rmul_tuple k tk l its.toArray ep dc sl) ⟨ho, rfl, ⟨_, ho, rfl⟩, ?_⟩)
    refine call_meets F.slot_tuple_mul ⟨_, ho, rfl⟩ F.entry_tuple_mul (F.args_tuple_mul_2 _ _) (tmul_none l its.toArray ep dc sl k tk big one low) ⟨ho, ?_⟩
    exact Inv.newTup (s := s) (tk := s.toks) I .nil (Nat.zero_le _) q rfl
  · have ne : its.toArray.isEmpty = false := by rw [e0]; cases xs <;> simp_all
    have one : (its.toArray.isEmpty || k == 1) = false := by rw [ne, Bool.false_or]; exact beq_eq_false_iff_ne.mpr (by omega)
    have low : (decide (k ≤ 0) || its.toArray.isEmpty) = false := by rw [decide_eq_false (by omega), ne]; rfl
    have sz : its.toArray.size = xs.length := (List.size_toArray ..).trans len
    have prod : ((its.toArray.size : Nat) : Int) * k ≤ 1000000 := by
      have := Int.mul_le_mul (a := ((its.toArray.size : Nat) : Int)) (b := k) (c := 1000) (d := 1000) (by omega) hi (by omega) (by omega)
      omega
    have flat : (List.replicate k.toNat xs).flatten.length ≤ sizeLine := by
      rw [PyProof.Rows.lm_len_rep_flat, sizeLine_eq]
      have : k.toNat * xs.length ≤ 1000 * 1000 := Nat.mul_le_mul (by omega) h3
      omega
    have flat2 : (List.replicate k.toNat its).flatten.length ≤ sizeLine := by rw [PyProof.Rows.lm_len_rep_flat, len, ← PyProof.Rows.lm_len_rep_flat]; exact flat
    have many : Builtin.Tuple.tupleTooMany (((its.toArray.size : Nat) : Int) * k) = false := by
      unfold Builtin.Tuple.tupleTooMany
      refine decide_eq_false ?_
      rw [sizeLine_eq]
      omega
    refine wpAny_binaryOp_repeat_ref (T := "tuple") (U := "int") (by decide) ⟨_, ho, rfl⟩ (fun s' => typeIs_int s' k tk) noFill_tuple_mul F.fills_int_mul F.slot_int_rmul repeat_tuple F.slot_int_index.lookup (call_meets F.slot_int_rmul (typeIs_int s k tk) F.entry_int_rmul (F.args_int_rmul_2 _ _) (int_rmul_tuple k tk l its.toArray ep dc sl) ⟨ho, rfl, ⟨_, ho, rfl⟩, ?_⟩)
    refine call_meets F.slot_tuple_mul ⟨_, ho, rfl⟩ F.entry_tuple_mul (F.args_tuple_mul_2 _ _) (tuple_mulW l its.toArray ep dc sl k tk big one low (by omega) many (by rw [size_rep, List.size_toArray]; exact flat2)) ⟨ho, ?_⟩
    exact Inv.newTup (s := s) (tk := s.toks) I (rv.rep k.toNat) flat q (by rw [size_rep])
end
end FW

namespace FW
open PySem PySem.Spec PyProof.Rows L2

theorem and_or_sum : ∀ a b : Nat, (a &&& b) + (a ||| b) = a + b := by
  intro a
  induction a using Nat.strongRecOn with
  | _ a ih =>
    intro b
    by_cases h : a = 0
    · subst h; simp
    · have i := ih (a / 2) (by omega) (b / 2)
      have e1 : (a &&& b) / 2 = a / 2 &&& b / 2 := Nat.and_div_two
      have e2 : (a ||| b) / 2 = a / 2 ||| b / 2 := Nat.or_div_two
      rw [← e1, ← e2] at i
      have e3 : (a &&& b) % 2 = (a % 2) &&& (b % 2) := Nat.and_mod_two_pow (n := 1)
      have e4 : (a ||| b) % 2 = (a % 2) ||| (b % 2) := Nat.or_mod_two_pow (n := 1)
      rcases Nat.mod_two_eq_zero_or_one a with ha | ha <;> rcases Nat.mod_two_eq_zero_or_one b with hb | hb <;> simp only [ha, hb] at e3 e4 <;> simp only [Nat.and_zero, Nat.zero_and, Nat.and_self, Nat.or_zero, Nat.zero_or, Nat.or_self, Nat.xor_zero, Nat.zero_xor, Nat.xor_self] at e3 e4 <;> (clear e1 e2 ih; omega)
theorem and_xor_sum : ∀ a b : Nat, 2 * (a &&& b) + (a ^^^ b) = a + b := by
  intro a
  induction a using Nat.strongRecOn with
  | _ a ih =>
    intro b
    by_cases h : a = 0
    · subst h; simp
    · have i := ih (a / 2) (by omega) (b / 2)
      have e1 : (a &&& b) / 2 = a / 2 &&& b / 2 := Nat.and_div_two
      have e2 : (a ^^^ b) / 2 = a / 2 ^^^ b / 2 := Nat.xor_div_two
      rw [← e1, ← e2] at i
      have e3 : (a &&& b) % 2 = (a % 2) &&& (b % 2) := Nat.and_mod_two_pow (n := 1)
      have e4 : (a ^^^ b) % 2 = (a % 2) ^^^ (b % 2) := Nat.xor_mod_two_pow (n := 1)
      rcases Nat.mod_two_eq_zero_or_one a with ha | ha <;> rcases Nat.mod_two_eq_zero_or_one b with hb | hb <;> simp only [ha, hb] at e3 e4 <;> simp only [Nat.and_zero, Nat.zero_and, Nat.and_self, Nat.or_zero, Nat.zero_or, Nat.or_self, Nat.xor_zero, Nat.zero_xor, Nat.xor_self] at e3 e4 <;> (clear e1 e2 ih; omega)
theorem line_eq : line = sizeLine := by rw [sizeLine_eq]; rfl
def opOf : BOp → Operator
  | .add => .Add | .sub => .Sub | .mul => .Mult | .fdiv => .FloorDiv | .mod => .Mod | .shl => .LShift | .shr => .RShift | .band => .BitAnd | .bor => .BitOr | .bxor => .BitXor | .pow => .Pow
def opC : COp → CmpOp
  | .eq => .Eq | .ne => .NotEq | .lt => .Lt | .le => .LtE | .gt => .Gt | .ge => .GtE | .is => .Is | .isnot => .IsNot | .isin => .In | .notin => .NotIn

section
variable {K : PySem.W.Frag} {mg : PySem.Str → Option Value} {F H : Hp} {ι : Plc} {S S' : Store}
theorem fin_mkL {m : Bool} {xs : List PV} {vs : List V} {z : SV} {Q : VK} (s : Sim K mg ι F S H) (r : RepL K mg F xs vs) (h : mkL m xs S = .ok z S')
    (q : ∀ ι' F' u H', Ext ι F ι' F' → Sim K mg ι' F' S' H' → RepS K mg F' ι' z u → Q u H') : vs.length ≤ sizeLine ∧ ∀ p, H p = none → Q (.ref p) (upd H p (.lst vs)) := by
  unfold mkL at h
  split at h
  · rename_i hl
    refine ⟨by rw [← r.length, ← line_eq]; exact hl, fun p hp => ?_⟩
    split at h
    · cases h
      obtain ⟨s', e⟩ := s.newL (x := .lst xs) (o := .lst vs) hp ⟨(s.fresh hp).1, vs, rfl, r⟩
      exact q _ _ _ _ e s' ⟨p, by rw [← s.len]; simp, rfl⟩
    · cases h
      obtain ⟨s', e⟩ := s.newF (o := .lst vs) hp
      exact q _ _ _ _ e s' ⟨p, vs, rfl, .inl upd_same, r.mono e.2⟩
  · cases h
theorem fin_mkT {xs : List PV} {vs : List V} {z : SV} {Q : VK} (s : Sim K mg ι F S H) (r : RepL K mg F xs vs) (h : mkT xs S = .ok z S')
    (q : ∀ ι' F' u H', Ext ι F ι' F' → Sim K mg ι' F' S' H' → RepS K mg F' ι' z u → Q u H') :
    vs.length ≤ sizeLine ∧ NewT H Q vs ∧ ∀ p, SqN K F p vs → Q (.ref p) H := by
  unfold mkT at h
  split at h
  · rename_i hl
    cases h
    refine ⟨by rw [← r.length, ← line_eq]; exact hl, fun p o hp ho hd => ?_, fun p hp => ?_⟩
    · obtain ⟨s', e⟩ := s.newF (o := .frz o (.tup vs)) hp
      exact q _ _ _ _ e s' ⟨p, vs, rfl, .inl ⟨o, upd_same, ho, hd⟩, r.mono e.2⟩
    · exact q _ _ _ _ Ext.refl s ⟨p, vs, rfl, hp, r⟩
  · cases h
theorem Sim.seqT (s : Sim K mg ι F S H) {x : SV} {v : V} {xs : List PV} (r : RepS K mg F ι x v) (h : seqOf S x = some (false, xs)) :
    ∃ p vs, v = .ref p ∧ RepL K mg F xs vs ∧ SqN K F p vs := by
  cases x with
  | v x =>
    cases x <;> simp only [seqOf, Option.some.injEq, Prod.mk.injEq, reduceCtorEq] at h
    · obtain ⟨_, rfl⟩ := h
      obtain ⟨p, vs, e, q, z⟩ := r
      exact ⟨p, vs, e, z, q⟩
    · cases h.1
  | l n =>
    simp only [seqOf] at h
    split at h <;> simp at h
  | ls _ => cases h
theorem Sim.seqL (s : Sim K mg ι F S H) {x : SV} {v : V} {xs : List PV} (r : RepS K mg F ι x v) (h : seqOf S x = some (true, xs)) :
    ∃ p vs, v = .ref p ∧ RepL K mg F xs vs ∧ Rd H p (.lst vs) := by
  obtain ⟨p, vs, e, r', q⟩ := s.seq r h
  exact ⟨p, vs, e, r', by simpa using q⟩
end
section
variable {X : Cx}
theorem Inv.rdL {pins : List (Addr × Obj)} {σ : L2.St} {H : Hp} {s : Shared} {l : Addr} {xs : List V} (I : Inv X pins σ H s) (hH : Rd H l (.lst xs)) : xs.length ≤ sizeLine ∧ ∃ (its : List Value) (n : Nat), Vals xs its ∧ xs.length = its.length ∧ s.heap.get? l = some { cls := .type "list", data := .seq its.toArray n } := by
  obtain ⟨z, its, n, r, e⟩ := hH.ok I.hok
  exact ⟨z, its, n, r, r.length, e⟩
def rCatR : R2 := fun x y H Q => ∃ l b xs zs, x = .ref l ∧ y = .ref b ∧ Rd H l (.lst xs) ∧ Rd H b (.lst zs) ∧ xs.length + zs.length ≤ sizeLine ∧ ∀ p, H p = none → Q (.ref p) (upd H p (.lst (xs ++ zs)))
theorem op_catR : OpR X (binaryOp .Add) rCatR := by
  intro pins s σ H x y v u Q I rx ry h
  obtain ⟨l, b, xs, zs, rfl, rfl, hH, hB, hz, q⟩ := h
  cases rx
  cases ry
  obtain ⟨z, its, n, r, hl, e⟩ := Inv.rdL I hH
  obtain ⟨z2, its2, n2, r2, hl2, e2⟩ := Inv.rdL I hB
  refine PySem.P.add_list e e2 ?_ (by rw [List.size_toArray, List.size_toArray]; omega)
  have ea : its.toArray ++ its2.toArray = (its ++ its2).toArray := by simp
  rw [ea]
  exact ⟨.ref _, _, I.lnew (t' := s.toks) (r.append r2) (by rw [List.length_append]; omega), rfl, q _ I.fresh⟩
def rRepR : R2 := fun x y H Q => ∃ l k xs, x = .ref l ∧ y = .int k ∧ Rd H l (.lst xs) ∧ -(2 ^ 63) ≤ k ∧ k < 2 ^ 63 ∧ xs.length * k.toNat ≤ sizeLine ∧
  ∀ p, H p = none → Q (.ref p) (upd H p (.lst (List.replicate k.toNat xs).flatten))
theorem op_repR : OpR X (binaryOp .Mult) rRepR := by
  intro pins s σ H x y v u Q I rx ry h
  obtain ⟨l, k, xs, rfl, rfl, hH, h1, h2, hz, q⟩ := h
  cases rx
  obtain ⟨t, rfl⟩ := ry
  obtain ⟨z, its, n, r, hl, e⟩ := Inv.rdL I hH
  have hlen : its.toArray.size * k.toNat ≤ sizeLine := by rw [List.size_toArray, ← hl]; exact hz
  have hcap : ¬ its.toArray.size * k.toNat > (2 ^ 63 - 1) / 8 := by
    have : (sizeLine : Nat) ≤ (2 ^ 63 - 1) / 8 := by decide
    omega
  have hfit : ¬ (!Builtin.List.listFitsIndex k) = true := by
    rw [fitsIndex_both h1 h2]
    exact Bool.false_ne_true
  have hlong : ¬ Builtin.List.listTooLong (its.toArray.size * k.toNat) = true := by
    rw [notLongL hlen]
    exact Bool.false_ne_true
  have hnew : List.foldl (fun x1 x2 => x1 ++ x2) #[] (List.replicate (if its.toArray.isEmpty = true then 0 else k.toNat) its.toArray) = (List.replicate k.toNat its).flatten.toArray := by
    have f0 : ∀ m : Nat, List.foldl (fun x1 x2 => x1 ++ x2) #[] (List.replicate m its.toArray) = (List.replicate m its).flatten.toArray := fun m => by
      have := foldl_rep its m []
      rw [List.nil_append] at this
      exact this
    rw [f0]
    cases its with
    | nil => simp
    | cons a r' => rw [if_neg (by simp)]
  refine wpAny_binaryOp_repeat_ref (T := "list") (U := "int") (by decide) ⟨_, e, rfl⟩ (fun s' => typeIs_int s' k t) noFill_list_mul F.fills_int_mul F.slot_int_rmul repeat_list F.slot_int_index.lookup
    (call_meets F.slot_int_rmul (typeIs_int s k t) F.entry_int_rmul (F.args_int_rmul_2 _ _) (int___rmul___int_list k t l its.toArray n)
      ⟨e, rfl, ⟨_, e, rfl⟩, call_meets F.slot_list_mul ⟨_, e, rfl⟩ F.entry_list_mul (F.args_list_mul_2 _ _) (AutoListH.list___mul___list_int_3 l its.toArray n k t hfit hcap hlong) ⟨e, ?_⟩⟩)
  rw [hnew]
  exact ⟨.ref _, _, I.lnew (t' := s.toks) (r.rep k.toNat) (by rw [PyProof.Rows.lm_len_rep_flat, Nat.mul_comm]; exact hz), rfl, q _ I.fresh⟩

theorem CMulF.ok {i j : Int} (h : mulOk i j = true) : IntMulOk i j := by
  have b : ∀ x : Int, Builtin.Int.intBits x ≤ x.natAbs.log2 + 1 := fun x => by
    unfold Builtin.Int.intBits
    split <;> omega
  have h1 := b i
  have h2 := b j
  have h3 : i.natAbs.log2 + j.natAbs.log2 < 100000000 := of_decide_eq_true h
  have e : bitsLine = 134217728 := by decide
  unfold IntMulOk
  intro z
  rw [Bool.and_eq_true] at z
  have z2 := z.2
  unfold Builtin.Int.intTooBig at z2
  have z3 := of_decide_eq_true z2
  rw [e] at z3
  omega
theorem noPylongF {i j : Int} (h : divOk i j = true) : j ≠ 0 ∧ Builtin.divisionGoesByPylong i j = false := by
  unfold divOk at h
  simp only [Bool.and_eq_true, Bool.or_eq_true, decide_eq_true_eq] at h
  refine ⟨h.1, ?_⟩
  rcases h.2 with h | h
  · exact PyProof.noPylong_of_log2 h
  · unfold Builtin.divisionGoesByPylong
    have hi : (if (i == 0) = true then 0 else i.natAbs.log2 / 30 + 1) ≤ 434 := by
      split
      · omega
      · omega
    simp only [Bool.and_eq_false_iff, decide_eq_false_iff_not]
    by_cases hj : (if (j == 0) = true then 0 else j.natAbs.log2 / 30 + 1) > 300
    · right; omega
    · left; exact hj
theorem op_int (o : BOp) : OpR X (binaryOp (opOf o)) (fun x y H Q => ∃ i j k, x = .int i ∧ y = .int j ∧ intOp o i j = some k ∧ Q (.int k) H) := by
  intro pins s σ H x y v u Q I rx ry h
  obtain ⟨i, j, k, rfl, rfl, hk, q⟩ := h
  cases o <;> simp only [intOp] at hk
  · cases hk; exact op_add pins s σ H _ _ v u Q I rx ry ⟨i, j, rfl, rfl, q⟩
  · cases hk; exact op_sub pins s σ H _ _ v u Q I rx ry ⟨i, j, rfl, rfl, q⟩
  · split at hk
    · rename_i hc
      cases hk
      obtain ⟨t, rfl⟩ := rx
      obtain ⟨t', rfl⟩ := ry
      exact mul_int ⟨.int _, H, I.tok _, ⟨_, rfl⟩, q⟩ (CMulF.ok hc)
    · cases hk
  · split at hk
    · rename_i hc
      cases hk
      obtain ⟨t, rfl⟩ := rx
      obtain ⟨t', rfl⟩ := ry
      obtain ⟨h0, h1⟩ := noPylongF hc
      exact floordiv_int h0 ⟨.int _, H, I.tok _, ⟨_, rfl⟩, q⟩ (.inl h1)
    · cases hk
  · split at hk
    · cases hk
    · rename_i hc
      cases hk
      exact op_modN pins s σ H _ _ v u Q I rx ry ⟨i, j, rfl, rfl, hc, q⟩
  · split at hk
    · rename_i hc
      cases hk
      exact op_shl pins s σ H _ _ v u Q I rx ry ⟨i, j, rfl, rfl, hc, q⟩
    · cases hk
  · split at hk
    · rename_i hc
      cases hk
      exact op_shr pins s σ H _ _ v u Q I rx ry ⟨i, j, rfl, rfl, hc, q⟩
    · cases hk
  · split at hk
    · rename_i hc
      cases hk
      exact op_and pins s σ H _ _ v u Q I rx ry ⟨i, j, rfl, rfl, by show Q (V.int (Builtin.bitAnd i j)) H; rw [bitAnd_pp hc.1 hc.2]; exact q⟩
    · cases hk
  · split at hk
    · rename_i hc
      cases hk
      refine op_or pins s σ H _ _ v u Q I rx ry ⟨i, j, rfl, rfl, ?_⟩
      obtain ⟨a, rfl⟩ := Int.eq_ofNat_of_zero_le hc.1
      obtain ⟨b, rfl⟩ := Int.eq_ofNat_of_zero_le hc.2
      have e : Builtin.bitOr (a : Int) (b : Int) = ((a ||| b : Nat) : Int) := by
        rw [bitOr_and, bitAnd_pp (Int.natCast_nonneg a) (Int.natCast_nonneg b), Int.toNat_natCast, Int.toNat_natCast]
        have := and_or_sum a b
        omega
      show Q (V.int (Builtin.bitOr (a : Int) (b : Int))) H
      rw [e]; exact q
    · cases hk
  · split at hk
    · rename_i hc
      cases hk
      refine op_xor pins s σ H _ _ v u Q I rx ry ⟨i, j, rfl, rfl, ?_⟩
      obtain ⟨a, rfl⟩ := Int.eq_ofNat_of_zero_le hc.1
      obtain ⟨b, rfl⟩ := Int.eq_ofNat_of_zero_le hc.2
      have e : Builtin.bitXor (a : Int) (b : Int) = ((a ^^^ b : Nat) : Int) := by
        rw [bitXor_and, bitAnd_pp (Int.natCast_nonneg a) (Int.natCast_nonneg b), Int.toNat_natCast, Int.toNat_natCast]
        have := and_xor_sum a b
        omega
      show Q (V.int (Builtin.bitXor (a : Int) (b : Int))) H
      rw [e]; exact q
    · cases hk
  · split at hk
    · rename_i hc
      cases hk
      exact op_pow pins s σ H _ _ v u Q I rx ry ⟨i, j, rfl, rfl, hc, q⟩
    · cases hk

theorem RepL.rep {K : PySem.W.Frag} {mg : PySem.Str → Option Value} {F : Hp} {xs : List PV} {vs : List V} (r : RepL K mg F xs vs) : ∀ n : Nat, RepL K mg F (FW.rep n xs) (List.replicate n vs).flatten
  | 0 => by simp [FW.rep, RepL]
  | n + 1 => by
    have := RepL.rep r n
    simp only [FW.rep, List.replicate_succ, List.flatten_cons] at this ⊢
    exact r.app this
theorem op_sub_bb : OpR X (binaryOp .Sub) (fun x y H Q => ∃ i k, x = .bl i ∧ y = .bl k ∧ Q (.int (b2i i - b2i k)) H) := by
  intro pins s σ H x y v u Q I rx ry h
  obtain ⟨i, k, rfl, rfl, q⟩ := h
  cases rx
  cases ry
  exact sub_bool ⟨.int (b2i i - b2i k), H, I.tok _, ⟨_, rfl⟩, q⟩
theorem op_bin (o : BOp) (m : Bool) : OpR X (binaryOp (opOf o)) (rd2 X.K X.mg (binOp o m)) := by
  intro pins s σ H x y v u Q I rx ry h
  obtain ⟨ι, F, S, sx, sy, z, S', sim, r1, r2, h, q⟩ := h
  unfold binOp at h
  split at h
  · split at h
    · rename_i i j _ k hk
      cases h
      cases r1; cases r2
      exact op_int o pins s σ H _ _ v u Q I rx ry ⟨i, j, k, rfl, rfl, hk, q _ _ _ _ Ext.refl sim rfl⟩
    · cases h
  · split at h
    · split at h
      · rename_i a b _ hl
        cases h
        obtain ⟨rfl, _⟩ := r1
        obtain ⟨rfl, _⟩ := r2
        exact op_add_str pins s σ H _ _ v u Q I rx ry ⟨a, b, rfl, rfl, by rw [← line_eq]; exact hl.1, q _ _ _ _ Ext.refl sim ⟨rfl, hl.2⟩⟩
      · cases h
    · cases h
  · split at h
    · rename_i i b _
      cases h
      cases r1; cases r2
      exact op_add_ib pins s σ H _ _ v u Q I rx ry ⟨i, b, rfl, rfl, by unfold b2i; exact q _ _ _ _ Ext.refl sim rfl⟩
    · cases h
  · split at h
    · rename_i a b _
      cases h
      cases r1; cases r2
      exact op_sub_bb pins s σ H _ _ v u Q I rx ry ⟨a, b, rfl, rfl, by unfold b2i; exact q _ _ _ _ Ext.refl sim rfl⟩
    · cases h
  · cases r2
    split at h
    · rename_i _ j _ _ _ xs hs
      obtain ⟨p, vs, rfl, r, hp⟩ := sim.seqL r1 hs
      split at h
      · rename_i hc
        obtain ⟨hl, g⟩ := fin_mkL sim (r.rep j.toNat) h q
        exact op_repR pins s σ H _ _ v u Q I rx ry ⟨p, j, vs, rfl, rfl, hp, by omega, by omega, by rw [← r.length, ← line_eq]; exact hc.1, g⟩
      · cases h
    · rename_i _ j _ _ _ xs hs
      obtain ⟨p, vs, rfl, r, hp⟩ := sim.seqT r1 hs
      split at h
      · rename_i hc
        obtain ⟨hl, g, g2⟩ := fin_mkT sim (r.rep j.toNat) h q
        by_cases hne : vs = [] ∨ j = 1
        · refine op_mulT pins s σ H _ _ v u Q I rx ry ⟨p, j, vs, rfl, rfl, sim.sub.sqT hp.sqT, hc.1, hc.2.1, .inl ⟨hne, g2 p ?_⟩⟩
          have e : (List.replicate j.toNat vs).flatten = vs := by
            rcases hne with rfl | rfl
            · simp
            · simp
          rw [e]
          exact hp
        · by_cases h0 : j ≤ 0
          · refine op_mulT pins s σ H _ _ v u Q I rx ry ⟨p, j, vs, rfl, rfl, sim.sub.sqT hp.sqT, hc.1, hc.2.1, .inr (.inl ⟨fun e => hne (.inl e), h0, ?_⟩)⟩
            rw [show j.toNat = 0 by omega] at g
            exact g
          · exact op_mulT pins s σ H _ _ v u Q I rx ry ⟨p, j, vs, rfl, rfl, sim.sub.sqT hp.sqT, hc.1, hc.2.1, .inr (.inr ⟨fun e => hne (.inl e), by omega, by rw [← r.length]; exact hc.2.2, g⟩)⟩
      · cases h
    · cases h
  · split at h
    · rename_i xs ys hs ht
      obtain ⟨p, vs, rfl, r, hp⟩ := sim.seqL r1 hs
      obtain ⟨p2, ws, rfl, r', hp2⟩ := sim.seqL r2 ht
      obtain ⟨hl, g⟩ := fin_mkL sim (r.app r') h q
      exact op_catR pins s σ H _ _ v u Q I rx ry ⟨p, p2, vs, ws, rfl, rfl, hp, hp2, by rw [List.length_append] at hl; exact hl, g⟩
    · rename_i xs ys hs ht
      obtain ⟨p, vs, rfl, r, hp⟩ := sim.seqT r1 hs
      obtain ⟨p2, ws, rfl, r', hp2⟩ := sim.seqT r2 ht
      obtain ⟨hl, g, g2⟩ := fin_mkT sim (r.app r') h q
      refine op_catN pins s σ H _ _ v u Q I rx ry ⟨p, p2, vs, ws, rfl, rfl, sim.sub.sqT hp.sqT, sim.sub.sqT hp2.sqT, by rw [List.length_append] at hl; exact hl, fun e => ?_, fun _ e => ?_, fun _ _ => g⟩
      · subst e; exact g2 p2 hp2
      · subst e; rw [List.append_nil] at g2; exact g2 p hp
    · cases h

mutual
def pd : PV → PyData
  | .non => .none
  | .bl b => .bool b
  | .int i => .int i
  | .str s => .str s
  | .tup xs => .tuple (pds xs)
  | .lst xs => .list (pds xs)
  | .fn _ => .none
  | .dic _ _ => .none
def pds : List PV → List PyData
  | [] => []
  | x :: xs => pd x :: pds xs
end
mutual
theorem pd_lay {K : PySem.W.Frag} {mg : PySem.Str → Option Value} {F : Hp} : ∀ {x : PV} {v : V}, Rep K mg F x v → (pd x).canLay0 = true
  | .non, _, _ => by simp [pd, PyData.canLay0]
  | .bl _, _, _ => by simp [pd, PyData.canLay0]
  | .int _, _, _ => by simp [pd, PyData.canLay0]
  | .str s, _, h => by simp only [pd, PyData.canLay0]; exact h.2
  | .tup xs, _, ⟨_, _, _, _, r⟩ => by simp only [pd, PyData.canLay0]; exact pds_lay r
  | .lst xs, _, ⟨_, _, _, _, r⟩ => by simp only [pd, PyData.canLay0]; exact pds_lay r
  | .fn _, _, _ => by simp [pd, PyData.canLay0]
  | .dic _ _, _, _ => by simp [pd, PyData.canLay0]
theorem pds_lay {K : PySem.W.Frag} {mg : PySem.Str → Option Value} {F : Hp} : ∀ {xs : List PV} {vs : List V}, RepL K mg F xs vs → PyData.canLayAll0 (pds xs) = true
  | [], _, _ => by simp [pds, PyData.canLayAll0]
  | _ :: _, _, ⟨_, _, _, a, b⟩ => by simp [pds, PyData.canLayAll0, pd_lay a, pds_lay b]
end
mutual
theorem pd_depth : ∀ {n : Nat} {x : PV}, dpLe n x = true → (pd x).depth ≤ n
  | _, .non, _ => by simp [pd, PyData.depth]
  | _, .bl _, _ => by simp [pd, PyData.depth]
  | _, .int _, _ => by simp [pd, PyData.depth]
  | _, .str s, _ => by simp [pd, PyData.depth]
  | _, .fn _, _ => by simp [pd, PyData.depth]
  | _, .dic _ _, _ => by simp [pd, PyData.depth]
  | 0, .tup xs, h => by simp [dpLe] at h
  | 0, .lst xs, h => by simp [dpLe] at h
  | n + 1, .tup xs, h => by simp only [dpLe] at h; simp only [pd, PyData.depth]; have := pds_depth h; omega
  | n + 1, .lst xs, h => by simp only [dpLe] at h; simp only [pd, PyData.depth]; have := pds_depth h; omega
theorem pds_depth : ∀ {n : Nat} {xs : List PV}, dpLes n xs = true → PyData.depthAll (pds xs) ≤ n
  | _, [], _ => by simp [pds, PyData.depthAll]
  | _, x :: xs, h => by
    simp only [dpLes, Bool.and_eq_true] at h
    simp only [pds, PyData.depthAll]
    have := pd_depth h.1
    have := pds_depth h.2
    omega
end
mutual
theorem pd_eqv : ∀ x y : PV, PyData.eqv (pd x) (pd y) = eqv x y
  | .non, y => by cases y <;> rfl
  | .bl a, y => by cases y <;> first | rfl | (simp only [pd, PyData.eqv, eqv]; rw [Bool.beq_eq_decide_eq])
  | .int i, y => by cases y <;> first | rfl | (simp only [pd, PyData.eqv, eqv]; rw [Bool.beq_eq_decide_eq])
  | .str s, y => by cases y <;> first | rfl | (simp only [pd, PyData.eqv, eqv]; rw [Bool.beq_eq_decide_eq])
  | .tup xs, y => by cases y <;> first | rfl | (simp only [pd, PyData.eqv, eqv]; exact pds_eqv xs _)
  | .lst xs, y => by cases y <;> first | rfl | (simp only [pd, PyData.eqv, eqv]; exact pds_eqv xs _)
  | .fn _, y => by cases y <;> rfl
  | .dic _ _, y => by cases y <;> rfl
theorem pds_eqv : ∀ xs ys : List PV, PyData.eqvAll (pds xs) (pds ys) = eqvs xs ys
  | [], ys => by cases ys <;> rfl
  | x :: xs, [] => rfl
  | x :: xs, y :: ys => by simp only [pds, PyData.eqvAll, eqvs]; rw [pd_eqv x y, pds_eqv xs ys]
end
mutual
theorem Rep.dp {K : PySem.W.Frag} {mg : PySem.Str → Option Value} {F H : Hp} (hs : Sub F H) : ∀ {x : PV} {v : V}, Rep K mg F x v → noFn x = true → Dp K H v (pd x)
  | .non, _, h, _ => by cases h; exact .non
  | .bl _, _, h, _ => by cases h; exact .bl _
  | .int _, _, h, _ => by cases h; exact .int _
  | .str s, _, h, _ => by obtain ⟨rfl, _⟩ := h; exact .str _
  | .tup xs, _, ⟨_, _, e, q, r⟩, n => by subst e; exact .tup (hs.sqT q.sqT) (RepL.dp hs r n)
  | .lst xs, _, ⟨_, _, e, q, r⟩, n => by subst e; exact .lst (.inl (hs.rd q)) (RepL.dp hs r n)
  | .fn _, _, _, n => by cases n
  | .dic _ _, _, _, n => by cases n
theorem RepL.dp {K : PySem.W.Frag} {mg : PySem.Str → Option Value} {F H : Hp} (hs : Sub F H) : ∀ {xs : List PV} {vs : List V}, RepL K mg F xs vs → noFns xs = true → DpAll K H vs (pds xs)
  | [], _, h, _ => by cases h; exact .nil
  | _ :: _, _, ⟨_, _, e, a, b⟩, n => by
    subst e
    simp only [noFns, Bool.and_eq_true] at n
    exact .cons (a.dp hs n.1) (RepL.dp hs b n.2)
end
section
variable {X : Cx}
theorem pure_dp {K : PySem.W.Frag} {mg : PySem.Str → Option Value} {F H : Hp} {ι : Plc} {S : Store} {x : SV} {v : V} {y : PV} (sim : Sim K mg ι F S H) (r : RepS K mg F ι x v) (h : pure? S x = some y) (hn : noFn y = true) : Dp K H v (pd y) ∧ (pd y).canLay0 = true := by
  cases x with
  | v x => simp only [pure?, Option.some.injEq] at h; subst h; exact ⟨Rep.dp sim.sub r hn, pd_lay r⟩
  | l n =>
    simp only [pure?] at h
    split at h
    · rename_i xs e
      cases h
      obtain ⟨p, vs, rfl, rl, q⟩ := sim.seqL (x := .l n) r (by simp only [seqOf, e]; rfl)
      exact ⟨.lst (.inl q) (RepL.dp sim.sub rl hn), by simp only [pd, PyData.canLay0]; exact pds_lay rl⟩
    · cases h
  | ls _ => cases h
def rdC (K : PySem.W.Frag) (mg : PySem.Str → Option Value) (f : SV → SV → Store → Option Bool) : V → V → Hp → VK → Prop := fun v w H Q => ∃ ι F S x y b, Sim K mg ι F S H ∧ RepS K mg F ι x v ∧ RepS K mg F ι y w ∧ f x y S = some b ∧ Q (.bl b) H
theorem eq_room {A : Around} {x y : PV} (h : (dpLe eqD x || dpLe eqD y) = true) (hu : A.units + 64 < cLine) : A.units + min (pd x).depth (pd y).depth < cLine := by
  rw [Bool.or_eq_true] at h
  rcases h with h | h
  · have := pd_depth h; simp only [eqD] at this; omega
  · have := pd_depth h; simp only [eqD] at this; omega
theorem op_eqF (hu : X.A.units + 64 < cLine) : OpR X (compareOp .Eq) (rdC X.K X.mg (cmpOp .eq)) := by
  intro pins s σ H x y v u Q I rx ry h
  obtain ⟨ι, F, S, sx, sy, b, sim, r1, r2, h, q⟩ := h
  simp only [cmpOp] at h
  split at h
  · rename_i px py h1 h2
    unfold eqP at h
    split at h
    · rename_i hd
      cases h
      rw [Bool.and_eq_true, Bool.and_eq_true] at hd
      obtain ⟨⟨n1, n2⟩, hd⟩ := hd
      obtain ⟨d1, l1⟩ := pure_dp sim r1 h1 n1
      obtain ⟨d2, l2⟩ := pure_dp sim r2 h2 n2
      obtain ⟨as, g1⟩ := Dp.reads I _ x v d1 rx
      obtain ⟨bs, g2⟩ := Dp.reads I _ y u d2 ry
      exact SeqAt.compareEq_reads g1 g2 l1 l2 (eq_room hd hu) ⟨.bl _, H, I, by rw [pd_eqv]; rfl, q⟩
    · cases h
  · cases h
theorem op_neF (hu : X.A.units + 64 < cLine) : OpR X (compareOp .NotEq) (rdC X.K X.mg (cmpOp .ne)) := by
  intro pins s σ H x y v u Q I rx ry h
  obtain ⟨ι, F, S, sx, sy, b, sim, r1, r2, h, q⟩ := h
  simp only [cmpOp] at h
  split at h
  · rename_i px py h1 h2
    unfold eqP at h
    split at h
    · rename_i hd
      cases h
      rw [Bool.and_eq_true, Bool.and_eq_true] at hd
      obtain ⟨⟨n1, n2⟩, hd⟩ := hd
      obtain ⟨d1, l1⟩ := pure_dp sim r1 h1 n1
      obtain ⟨d2, l2⟩ := pure_dp sim r2 h2 n2
      obtain ⟨as, g1⟩ := Dp.reads I _ x v d1 rx
      obtain ⟨bs, g2⟩ := Dp.reads I _ y u d2 ry
      exact SeqAt.compareNe_reads g1 g2 l1 l2 (eq_room hd hu) ⟨.bl _, H, I, by rw [pd_eqv]; rfl, q⟩
    · cases h
  · cases h

theorem noFns_get : ∀ {ys : List PV} {j : Nat} {y : PV}, noFns ys = true → ys[j]? = some y → noFn y = true
  | [], _, _, _, h => by simp at h
  | _ :: _, 0, _, n, h => by
    simp only [noFns, Bool.and_eq_true] at n
    simp at h; subst h; exact n.1
  | _ :: _, j + 1, _, n, h => by
    simp only [noFns, Bool.and_eq_true] at n
    exact noFns_get (j := j) n.2 (by simpa using h)
theorem in_fun {K : PySem.W.Frag} {mg : PySem.Str → Option Value} {F : Hp} {A : Around} {pins : List (Addr × Obj)} {σ : L2.St} {H : Hp} {s : Shared} {ys : List PV} {ws : List V} {its : List Value} {px : PV} {vx : V} {ux : Value}
    (I : Inv X pins σ H s) (hK : X.K = K) (hs : Sub F H) (r : RepL K mg F ys ws) (rv : Vals ws its) (dx : Dp X.K H vx (pd px)) (lx : (pd px).canLay0 = true) (rx : RelV vx ux) (hd : (dpLe eqD px || dpLes eqD ys) = true) (hnf : noFns ys = true) (hu : A.units + 64 < cLine) :
    ∃ e : Value → Bool, (∀ y, y ∈ its.toArray → SeqAt.EqAt A s y ux (e y)) ∧ its.toArray.any e = ys.any fun y => eqv y px := by
  subst hK
  have got : ∀ (j : Nat) (u : Value), its[j]? = some u → ∃ y v, ys[j]? = some y ∧ Rep X.K mg F y v ∧ RelV v u := fun j u hj => by
    have hl : j < its.length := (List.getElem?_eq_some_iff.mp hj).1
    have hl2 : j < ys.length := by rw [r.length, rv.length]; exact hl
    obtain ⟨v, h1, h2⟩ := r.get (List.getElem?_eq_getElem hl2)
    obtain ⟨u', h3, h4⟩ := rv.get h1
    rw [hj] at h3; cases h3
    exact ⟨_, v, List.getElem?_eq_getElem hl2, h2, h4⟩
  have same : ∀ (i j : Nat) (u : Value) (y z : PV), its[i]? = some u → its[j]? = some u → ys[i]? = some y → ys[j]? = some z → eqv y px = eqv z px := fun i j u y z h1 h2 h3 h4 => by
    obtain ⟨y', v, g1, g2, g3⟩ := got i u h1
    obtain ⟨z', v', k1, k2, k3⟩ := got j u h2
    rw [h3] at g1; cases g1
    rw [h4] at k1; cases k1
    obtain ⟨as, q1⟩ := Dp.reads I _ v u (g2.dp hs (noFns_get hnf h3)) g3
    obtain ⟨bs, q2⟩ := Dp.reads I _ v' u (k2.dp hs (noFns_get hnf h4)) k3
    have e := SeqAt.Reads.unique _ _ _ _ _ (pd_lay g2) q1 q2
    rw [← pd_eqv, ← pd_eqv, e]
  classical
  refine ⟨fun u => decide (∃ (j : Nat) (y : PV), its[j]? = some u ∧ ys[j]? = some y ∧ eqv y px = true), fun u hu' => ?_, ?_⟩
  · obtain ⟨j, hj⟩ := List.getElem?_of_mem (List.mem_toArray.mp hu')
    obtain ⟨y, v, h1, h2, h3⟩ := got j u hj
    have e : decide (∃ (j : Nat) (y : PV), its[j]? = some u ∧ ys[j]? = some y ∧ eqv y px = true) = eqv y px := by
      by_cases hy : eqv y px = true
      · rw [hy]; exact decide_eq_true ⟨j, y, hj, h1, hy⟩
      · have : eqv y px = false := by simpa using hy
        rw [this]
        refine decide_eq_false ?_
        rintro ⟨i, z, g1, g2, g3⟩
        have := same i j u z y g1 hj g2 h1
        rw [g3] at this
        exact hy this.symm
    show SeqAt.EqAt A s u ux (decide (∃ (j : Nat) (y : PV), its[j]? = some u ∧ ys[j]? = some y ∧ eqv y px = true))
    rw [e]
    obtain ⟨as, q1⟩ := Dp.reads I _ v u (h2.dp hs (noFns_get hnf h1)) h3
    obtain ⟨bs, q2⟩ := Dp.reads I _ vx ux dx rx
    have hroom : A.units + min (pd y).depth (pd px).depth < cLine := by
      rw [Bool.or_eq_true] at hd
      rcases hd with h | h
      · have := pd_depth h; simp only [eqD] at this; omega
      · have hm : ∀ {n : Nat} {l : List PV}, dpLes n l = true → ∀ z ∈ l, dpLe n z = true := by
          intro n l
          induction l with
          | nil => intro _ z hz; cases hz
          | cons a t ih =>
            intro hh z hz
            simp only [dpLes, Bool.and_eq_true] at hh
            rcases List.mem_cons.mp hz with rfl | hz
            · exact hh.1
            · exact ih hh.2 z hz
        have := pd_depth (hm h y (List.mem_of_getElem? h1)); simp only [eqD] at this; omega
    have := SeqAt.eqAt_reads (pd y) (pd px) A s u ux as bs q1 q2 (pd_lay h2) lx hroom
    rw [pd_eqv] at this
    exact this
  · rw [Bool.eq_iff_iff]
    simp only [List.any_toArray, List.any_eq_true, decide_eq_true_eq]
    constructor
    · rintro ⟨u, hu', j, y, h1, h2, h3⟩
      exact ⟨y, List.mem_of_getElem? h2, h3⟩
    · rintro ⟨y, hy, h3⟩
      obtain ⟨j, hj⟩ := List.getElem?_of_mem hy
      have hl : j < its.length := by rw [← rv.length, ← r.length]; exact (List.getElem?_eq_some_iff.mp hj).1
      exact ⟨its[j], List.getElem_mem hl, j, y, List.getElem?_eq_getElem hl, hj, h3⟩
theorem key_of? {x : PV} (h : keyOk x = true) : ∃ k, x = keyP k := by
  cases x <;> simp [keyOk] at h
  · exact ⟨.inl _, rfl⟩
  · exact ⟨.inr _, rfl⟩
theorem keyP_inj {a b : L2.Key} : keyEq (keyP a) (keyP b) = decide (a = b) := by
  cases a <;> cases b <;> simp [keyP, keyEq]
theorem keyP_rep {K : PySem.W.Frag} {mg : PySem.Str → Option Value} {F : Hp} {k : L2.Key} {v : V} (h : Rep K mg F (keyP k) v) : v = kV k := by
  cases k with
  | inl i => exact h
  | inr s => exact h.1
theorem RepD.get {K : PySem.W.Frag} {mg : PySem.Str → Option Value} {F : Hp} (k : L2.Key) : ∀ {kvs : List (PV × PV)} {ws : List (L2.Key × V)}, RepD K mg F kvs ws → match keyGet (keyP k) kvs with
    | some x => ∃ v, valV ws k = some v ∧ Rep K mg F x v
    | none => valV ws k = none
  | [], _, r => by cases r; exact rfl
  | (k1, x) :: r, _, ⟨k', v, t, e, e1, a, b⟩ => by
    subst e e1
    have ih := RepD.get k b
    unfold keyGet valV at ih ⊢
    by_cases h : k' = k
    · subst h
      simp only [List.find?_cons, keyP_inj, decide_true, Option.map_some]
      exact ⟨v, rfl, a⟩
    · simp only [List.find?_cons, keyP_inj, decide_eq_false h]
      exact ih
theorem RepD.isSome {K : PySem.W.Frag} {mg : PySem.Str → Option Value} {F : Hp} (k : L2.Key) {kvs : List (PV × PV)} {ws : List (L2.Key × V)} (r : RepD K mg F kvs ws) : (keyGet (keyP k) kvs).isSome = (valV ws k).isSome := by
  have := r.get k
  cases e : keyGet (keyP k) kvs with
  | some x => rw [e] at this; obtain ⟨v, h, _⟩ := this; rw [h]; rfl
  | none => rw [e] at this; rw [this]; rfl
theorem mem_inv {x y : SV} {S : Store} {b : Bool} (h : memOp x y S = some b) :
    (∃ px t ys, pure? S x = some px ∧ seqOf S y = some (t, ys) ∧ (noFn px && noFns ys && (dpLe eqD px || dpLes eqD ys)) = true ∧ b = ys.any fun y => eqv y px) ∨
    ∃ k kvs, pure? S x = some (keyP k) ∧ dicR S y = some kvs ∧ b = (keyGet (keyP k) kvs).isSome := by
  unfold memOp at h
  cases e1 : pure? S x with
  | none => rw [e1] at h; cases h
  | some px =>
    rw [e1] at h
    simp only at h
    cases e2 : seqOf S y with
    | some p =>
      obtain ⟨t, ys⟩ := p
      rw [e2] at h
      simp only [anyEq] at h
      split at h
      · rename_i hd
        cases h
        exact .inl ⟨px, t, ys, rfl, rfl, hd, rfl⟩
      · cases h
    | none =>
      rw [e2] at h
      simp only at h
      cases e3 : dicR S y with
      | none => rw [e3] at h; cases h
      | some kvs =>
        rw [e3] at h
        simp only at h
        split at h
        · rename_i hk
          cases h
          obtain ⟨k, rfl⟩ := key_of? hk
          exact .inr ⟨k, kvs, rfl, rfl, rfl⟩
        · cases h
theorem key_val {K : PySem.W.Frag} {mg : PySem.Str → Option Value} {F : Hp} {ι : Plc} {S : Store} {x : SV} {v : V} {k : L2.Key} (r : RepS K mg F ι x v) (h : pure? S x = some (keyP k)) : v = kV k := by
  cases x with
  | v x' => simp only [pure?, Option.some.injEq] at h; subst h; exact keyP_rep r
  | l m =>
    simp only [pure?] at h
    split at h
    · cases k <;> simp [keyP] at h
    · cases h
  | ls _ => cases h
theorem DGet_R {H : Hp} {a : Addr} {kvs : List (L2.Key × V)} {k : L2.Key} (e : Rd H a (.dK kvs)) : DGet H a (kV k) (valV kvs k) := .inl ⟨kvs, k, e, rfl, rfl⟩
theorem op_inF (hu : X.A.units + 65 < cLine) : OpR X (compareOp .In) (rdC X.K X.mg (cmpOp .isin)) := by
  intro pins s σ H x y v u Q I rx ry h
  obtain ⟨ι, F, S, sx, sy, b, sim, r1, r2, h, q⟩ := h
  rcases mem_inv h with ⟨px, t, ys, h1, h2, hd, rfl⟩ | ⟨k, kvs, h1, h2, rfl⟩
  · rw [Bool.and_eq_true, Bool.and_eq_true] at hd
    obtain ⟨⟨n1, n2⟩, hd⟩ := hd
    obtain ⟨d1, l1⟩ := pure_dp sim r1 h1 n1
    cases t with
    | true =>
      obtain ⟨p, vs, rfl, r, hp⟩ := sim.seqL r2 h2
      cases ry
      obtain ⟨_, its, n, rv, _, e⟩ := Inv.rdL I hp
      obtain ⟨f, g1, g2⟩ := in_fun (A := X.A.in1) I rfl sim.sub r rv d1 l1 rx hd n2 (by show X.A.units + 1 + 64 < cLine; omega)
      exact SeqAt.in_listAt f ⟨_, e, rfl, _, rfl⟩ g1 ⟨.bl _, H, I, by rw [g2]; rfl, q⟩
    | false =>
      obtain ⟨p, vs, rfl, r, hp⟩ := sim.seqT r2 h2
      cases ry
      obtain ⟨its, rv, ht, _⟩ := I.tuple (sim.sub.sqT hp.sqT)
      obtain ⟨f, g1, g2⟩ := in_fun (A := X.A.in1) I rfl sim.sub r rv d1 l1 rx hd n2 (by show X.A.units + 1 + 64 < cLine; omega)
      exact SeqAt.in_tupleAt f ht g1 ⟨.bl _, H, I, by rw [g2]; rfl, q⟩
  · obtain ⟨p, ws, rfl, hH, rd⟩ := sim.dicR r2 h2
    cases ry
    have hv := key_val r1 h1
    subst hv
    exact d_in (by omega) I (DGet_R hH) rx fun s' I' => ⟨.bl _, H, I', rfl, by rw [← rd.isSome k]; exact q⟩
theorem op_notinF (hu : X.A.units + 65 < cLine) : OpR X (compareOp .NotIn) (rdC X.K X.mg (cmpOp .notin)) := by
  intro pins s σ H x y v u Q I rx ry h
  obtain ⟨ι, F, S, sx, sy, b, sim, r1, r2, h, q⟩ := h
  obtain ⟨b, h', rfl⟩ := Option.map_eq_some_iff.mp h
  rcases mem_inv h' with ⟨px, t, ys, h1, h2, hd, rfl⟩ | ⟨k, kvs, h1, h2, rfl⟩
  · rw [Bool.and_eq_true, Bool.and_eq_true] at hd
    obtain ⟨⟨n1, n2⟩, hd⟩ := hd
    obtain ⟨d1, l1⟩ := pure_dp sim r1 h1 n1
    cases t with
    | true =>
      obtain ⟨p, vs, rfl, r, hp⟩ := sim.seqL r2 h2
      cases ry
      obtain ⟨_, its, n, rv, _, e⟩ := Inv.rdL I hp
      obtain ⟨f, g1, g2⟩ := in_fun (A := X.A.in1) I rfl sim.sub r rv d1 l1 rx hd n2 (by show X.A.units + 1 + 64 < cLine; omega)
      exact SeqAt.notIn_listAt f ⟨_, e, rfl, _, rfl⟩ g1 ⟨.bl _, H, I, by rw [g2]; rfl, q⟩
    | false =>
      obtain ⟨p, vs, rfl, r, hp⟩ := sim.seqT r2 h2
      cases ry
      obtain ⟨its, rv, ht, _⟩ := I.tuple (sim.sub.sqT hp.sqT)
      obtain ⟨f, g1, g2⟩ := in_fun (A := X.A.in1) I rfl sim.sub r rv d1 l1 rx hd n2 (by show X.A.units + 1 + 64 < cLine; omega)
      exact SeqAt.notIn_tupleAt f ht g1 ⟨.bl _, H, I, by rw [g2]; rfl, q⟩
  · obtain ⟨p, ws, rfl, hH, rd⟩ := sim.dicR r2 h2
    cases ry
    have hv := key_val r1 h1
    subst hv
    exact d_notIn (by omega) I (DGet_R hH) rx fun s' I' => ⟨.bl _, H, I', rfl, by rw [← rd.isSome k]; exact q⟩

mutual
theorem lt_run {pins : List (Addr × Obj)} {σ : L2.St} {H : Hp} {s : Shared} {mg : PySem.Str → Option Value} {F : Hp} (I : Inv X pins σ H s) (hs : Sub F H) : ∀ (x y : PV) (n : Nat) (A : Around) (b : Bool) (v w : V) (u z : Value), A.units + n + 1 < cLine → dpLe n x = true → noFn x = true → noFn y = true →
    ltP x y = some b → Rep X.K mg F x v → Rep X.K mg F y w → RelV v u → RelV w z → Ob.RcOp .Lt A s u z b
  | .int i, y, n, A, b, v, w, u, z, hu, hd, nx, ny, h, r1, r2, q1, q2 => by
    cases y <;> simp only [ltP, reduceCtorEq, Option.some.injEq] at h
    subst h
    cases r1; cases r2
    obtain ⟨t, rfl⟩ := q1
    obtain ⟨t', rfl⟩ := q2
    exact Ob.RcOp.lt_int _ _ _ _
  | .str i, y, n, A, b, v, w, u, z, hu, hd, nx, ny, h, r1, r2, q1, q2 => by
    cases y <;> simp only [ltP, reduceCtorEq, Option.some.injEq] at h
    subst h
    obtain ⟨rfl, _⟩ := r1
    obtain ⟨rfl, _⟩ := r2
    obtain ⟨t, rfl⟩ := q1
    obtain ⟨t', rfl⟩ := q2
    exact fun prog w E Q hq => PySem.P.lt_str hq
  | .tup xs, y, 0, A, b, v, w, u, z, hu, hd, nx, ny, h, r1, r2, q1, q2 => by simp [dpLe] at hd
  | .tup xs, y, n + 1, A, b, v, w, u, z, hu, hd, nx, ny, h, r1, r2, q1, q2 => by
    cases y with
    | tup ys =>
      simp only [ltP] at h
      simp only [dpLe] at hd
      obtain ⟨p, vs, rfl, t1, l1⟩ := r1
      obtain ⟨p2, ws, rfl, t2, l2⟩ := r2
      cases q1; cases q2
      obtain ⟨its, rv, ht, _⟩ := I.tuple (hs.sqT t1.sqT)
      obtain ⟨its2, rv2, ht2, _⟩ := I.tuple (hs.sqT t2.sqT)
      obtain ⟨e, r, h1, h2, h3⟩ := lt_runs I hs xs ys n A.in1 b vs ws its its2 (by show A.units + 1 + n + 1 < cLine; omega) hd nx ny h l1 l2 rv rv2
      have g := Ob.RcOp.tuples_lt (A := A) (e := e) (r := r) ht ht2 (by omega) (fun j a b => h1 j (by simpa using a) (by simpa using b)) (fun j a b => h2 j (by simpa using a) (by simpa using b))
      simp only [List.size_toArray] at g
      rw [h3] at g
      exact g
    | _ => simp [ltP] at h
  | .non, y, n, A, b, v, w, u, z, hu, hd, nx, ny, h, r1, r2, q1, q2 => by cases y <;> simp [ltP] at h
  | .bl _, y, n, A, b, v, w, u, z, hu, hd, nx, ny, h, r1, r2, q1, q2 => by cases y <;> simp [ltP] at h
  | .lst _, y, n, A, b, v, w, u, z, hu, hd, nx, ny, h, r1, r2, q1, q2 => by cases y <;> simp [ltP] at h
  | .fn _, y, n, A, b, v, w, u, z, hu, hd, nx, ny, h, r1, r2, q1, q2 => by cases y <;> simp [ltP] at h
  | .dic _ _, y, n, A, b, v, w, u, z, hu, hd, nx, ny, h, r1, r2, q1, q2 => by cases y <;> simp [ltP] at h
theorem lt_runs {pins : List (Addr × Obj)} {σ : L2.St} {H : Hp} {s : Shared} {mg : PySem.Str → Option Value} {F : Hp} (I : Inv X pins σ H s) (hs : Sub F H) : ∀ (xs ys : List PV) (n : Nat) (A : Around) (b : Bool) (vs ws : List V) (us zs : List Value), A.units + n + 1 < cLine → dpLes n xs = true → noFns xs = true → noFns ys = true →
    ltPs xs ys = some b → RepL X.K mg F xs vs → RepL X.K mg F ys ws → Vals vs us → Vals ws zs → ∃ e r : Nat → Bool,
      (∀ j (h1 : j < us.length) (h2 : j < zs.length), SeqAt.EqAt A s us[j] zs[j] (e j)) ∧ (∀ j (h1 : j < us.length) (h2 : j < zs.length), e j = false → Ob.RcOp .Lt A s us[j] zs[j] (r j)) ∧
      Ob.lexAt e r (decide (us.length < zs.length)) 0 (min us.length zs.length) = b
  | [], [], n, A, b, vs, ws, us, zs, hu, hd, nx, ny, h, l1, l2, r1, r2 => by
    cases l1; cases l2; cases r1; cases r2
    simp only [ltPs, Option.some.injEq] at h
    exact ⟨fun _ => true, fun _ => true, fun j h1 => absurd h1 (by simp), fun j h1 => absurd h1 (by simp), by rw [← h]; rfl⟩
  | [], y :: ys, n, A, b, vs, ws, us, zs, hu, hd, nx, ny, h, l1, l2, r1, r2 => by
    cases l1; cases r1
    obtain ⟨w, wr, rfl, _, _⟩ := l2
    cases r2
    simp only [ltPs, Option.some.injEq] at h
    exact ⟨fun _ => true, fun _ => true, fun j h1 => absurd h1 (by simp), fun j h1 => absurd h1 (by simp), by rw [← h]; simp [Ob.lexAt]⟩
  | x :: xs, [], n, A, b, vs, ws, us, zs, hu, hd, nx, ny, h, l1, l2, r1, r2 => by
    cases l2; cases r2
    simp only [ltPs, Option.some.injEq] at h
    exact ⟨fun _ => true, fun _ => true, fun j _ h1 => absurd h1 (by simp), fun j _ h1 => absurd h1 (by simp), by rw [← h]; simp [Ob.lexAt]⟩
  | x :: xs, y :: ys, n, A, b, vs, ws, us, zs, hu, hd, nx, ny, h, l1, l2, r1, r2 => by
    obtain ⟨v, vr, rfl, a1, l1⟩ := l1
    obtain ⟨w, wr, rfl, a2, l2⟩ := l2
    cases r1 with
    | @cons _ u _ ut b1 r1 =>
    cases r2 with
    | @cons _ z _ zt b2 r2 =>
    simp only [dpLes, Bool.and_eq_true] at hd
    simp only [noFns, Bool.and_eq_true] at nx ny
    have eqh : SeqAt.EqAt A s u z (eqv x y) := by
      obtain ⟨as, g1⟩ := Dp.reads I _ v u (a1.dp hs nx.1) b1
      obtain ⟨bs, g2⟩ := Dp.reads I _ w z (a2.dp hs ny.1) b2
      have := SeqAt.eqAt_reads (pd x) (pd y) A s u z as bs g1 g2 (pd_lay a1) (pd_lay a2) (by have := pd_depth hd.1; omega)
      rw [pd_eqv] at this
      exact this
    have shift : ∀ (f : Nat → Bool) (a : Bool) (r : Nat → Bool) (c : Bool) (zz : Bool) (k i : Nat), Ob.lexAt (fun j => if j = 0 then a else f (j - 1)) (fun j => if j = 0 then c else r (j - 1)) zz (i + 1) k = Ob.lexAt f r zz i k := by
      intro f a r c zz k
      induction k with
      | zero => intro i; rfl
      | succ k ih => intro i; rw [Ob.lexAt_succ, Ob.lexAt_succ, ih (i + 1)]; simp
    have hlen : ∀ c : Bool, decide ((u :: ut).length < (z :: zt).length) = decide (ut.length < zt.length) := fun _ => by simp
    have hmin : min (u :: ut).length (z :: zt).length = min ut.length zt.length + 1 := by simp only [List.length_cons]; omega
    simp only [ltPs] at h
    by_cases he : eqv x y = true
    · rw [if_pos he] at h
      obtain ⟨e, r, h1, h2, h3⟩ := lt_runs I hs xs ys n A b vr wr ut zt hu hd.2 nx.2 ny.2 h l1 l2 r1 r2
      refine ⟨fun j => if j = 0 then true else e (j - 1), fun j => if j = 0 then true else r (j - 1), fun j g1 g2 => ?_, fun j g1 g2 g3 => ?_, ?_⟩
      · cases j with
        | zero => simpa [he] using eqh
        | succ j => simpa using h1 j (by simpa using g1) (by simpa using g2)
      · cases j with
        | zero => simp at g3
        | succ j => simpa using h2 j (by simpa using g1) (by simpa using g2) (by simpa using g3)
      · rw [hlen true, hmin, Ob.lexAt_succ, if_pos (by simp), shift e true r true]
        exact h3
    · have he' : eqv x y = false := by simpa using he
      rw [if_neg he] at h
      cases e1 : ltP x y with
      | none => rw [e1] at h; simp at h
      | some b1' =>
        cases e2 : ltPs xs ys with
        | none => rw [e1, e2] at h; simp at h
        | some b2' =>
          rw [e1, e2] at h
          simp only [Option.some.injEq] at h
          subst h
          have g := lt_run I hs x y n A b1' v w u z hu hd.1 nx.1 ny.1 e1 a1 a2 b1 b2
          obtain ⟨e, r, h1, h2, h3⟩ := lt_runs I hs xs ys n A b2' vr wr ut zt hu hd.2 nx.2 ny.2 e2 l1 l2 r1 r2
          refine ⟨fun j => if j = 0 then false else e (j - 1), fun j => if j = 0 then b1' else r (j - 1), fun j g1 g2 => ?_, fun j g1 g2 g3 => ?_, ?_⟩
          · cases j with
            | zero => simpa [he'] using eqh
            | succ j => simpa using h1 j (by simpa using g1) (by simpa using g2)
          · cases j with
            | zero => simpa using g
            | succ j => simpa using h2 j (by simpa using g1) (by simpa using g2) (by simpa using g3)
          · rw [hlen true, hmin, Ob.lexAt_succ, if_neg (by simp)]
            simp
end
theorem is_non {pins : List (Addr × Obj)} {σ : L2.St} {H : Hp} {F : Hp} {ι : Plc} {sx : SV} {x : V} {K : PySem.W.Frag} {mg : PySem.Str → Option Value} (r : RepS K mg F ι sx x) :
    decide (x = V.non) = isNonS sx := by
  cases sx with
  | v p =>
    cases p with
    | non => cases r; rfl
    | bl b => cases r; rfl
    | int i => cases r; rfl
    | str z => obtain ⟨rfl, _⟩ := r; rfl
    | tup xs => obtain ⟨p, vs, rfl, _⟩ := r; rfl
    | lst xs => obtain ⟨p, vs, rfl, _⟩ := r; rfl
    | fn _ => obtain ⟨p, rfl, _⟩ := r; rfl
    | dic _ _ => obtain ⟨p, od, ws, rfl, _⟩ := r; rfl
  | l n => obtain ⟨p, _, rfl⟩ := r; rfl
  | ls _ => obtain ⟨p, _, rfl, _⟩ := r; rfl
theorem op_cmpF (hu : X.A.units + 65 < cLine) (o : COp) : OpR X (compareOp (opC o)) (rdC X.K X.mg (cmpOp o)) := by
  cases o with
  | eq => exact op_eqF (by omega)
  | ne => exact op_neF (by omega)
  | isin => exact op_inF hu
  | notin => exact op_notinF hu
  | lt =>
    intro pins s σ H x y v u Q I rx ry h
    obtain ⟨ι, F, S, sx, sy, b, sim, r1, r2, h, q⟩ := h
    simp only [cmpOp] at h
    split at h
    · rename_i i j
      cases h; cases r1; cases r2
      exact op_lt pins s σ H _ _ v u Q I rx ry ⟨i, j, rfl, rfl, q⟩
    · rename_i xs ys
      split at h
      · rename_i hd
        rw [Bool.and_eq_true, Bool.and_eq_true, Bool.and_eq_true] at hd
        have g := lt_run I sim.sub (.tup xs) (.tup ys) eqD X.A b x y v u (by simp only [eqD]; omega) hd.2.1 hd.1.1 hd.1.2 h r1 r2 rx ry
        exact g _ _ _ _ ⟨.bl b, H, I, rfl, q⟩
      · cases h
    · cases h
  | le =>
    intro pins s σ H x y v u Q I rx ry h
    obtain ⟨ι, F, S, sx, sy, b, sim, r1, r2, h, q⟩ := h
    simp only [cmpOp] at h
    split at h
    · rename_i i j
      cases h; cases r1; cases r2
      exact op_le pins s σ H _ _ v u Q I rx ry ⟨i, j, rfl, rfl, q⟩
    · cases h
  | gt =>
    intro pins s σ H x y v u Q I rx ry h
    obtain ⟨ι, F, S, sx, sy, b, sim, r1, r2, h, q⟩ := h
    simp only [cmpOp] at h
    split at h
    · rename_i i j
      cases h; cases r1; cases r2
      exact op_gt pins s σ H _ _ v u Q I rx ry ⟨i, j, rfl, rfl, q⟩
    · cases h
  | ge =>
    intro pins s σ H x y v u Q I rx ry h
    obtain ⟨ι, F, S, sx, sy, b, sim, r1, r2, h, q⟩ := h
    simp only [cmpOp] at h
    split at h
    · rename_i i j
      cases h; cases r1; cases r2
      exact op_ge pins s σ H _ _ v u Q I rx ry ⟨i, j, rfl, rfl, q⟩
    · cases h
  | is =>
    intro pins s σ H x y v u Q I rx ry h
    obtain ⟨ι, F, S, sx, sy, b, sim, r1, r2, h, q⟩ := h
    simp only [cmpOp] at h
    split at h
    · cases r2
      refine op_isN pins s σ H _ _ v u Q I rx ry ⟨rfl, ?_⟩
      rw [is_non (pins := pins) (σ := σ) (H := H) r1]
      cases h; exact q
    · split at h
      · rename_i c _ a
        cases h; cases r1; cases r2
        exact op_isBl pins s σ H _ _ v u Q I rx ry ⟨a, c, rfl, rfl, by rw [← Bool.beq_eq_decide_eq]; exact q⟩
      · rename_i c _ i
        cases h; cases r1; cases r2
        obtain ⟨t, rfl⟩ := rx
        cases (show u = Value.bool c from ry)
        exact wpAny_is_other rfl (fun z => by cases z) ⟨.bl false, H, I, rfl, q⟩
      · cases h
    · cases h
  | isnot =>
    intro pins s σ H x y v u Q I rx ry h
    obtain ⟨ι, F, S, sx, sy, b, sim, r1, r2, h, q⟩ := h
    simp only [cmpOp] at h
    split at h
    · cases r2
      refine op_notN pins s σ H _ _ v u Q I rx ry ⟨rfl, ?_⟩
      rw [is_non (pins := pins) (σ := σ) (H := H) r1]
      cases h; exact q
    · split at h
      · rename_i c _ a
        cases h; cases r1; cases r2
        exact op_notBl pins s σ H _ _ v u Q I rx ry ⟨a, c, rfl, rfl, by rw [← Bool.beq_eq_decide_eq]; exact q⟩
      · cases h
    · cases h
end
end
end FW

namespace FW
open PySem PySem.Spec PyProof.Rows L2
mutual
theorem alike_pd : ∀ {x y : PV}, alikeP x y = true → PySem.W.alike (pd x) (pd y) = true
  | .non, y, h => by cases y <;> simp only [alikeP, Bool.false_eq_true] at h; rfl
  | .bl _, y, h => by cases y <;> simp only [alikeP, Bool.false_eq_true] at h; rfl
  | .int _, y, h => by cases y <;> simp only [alikeP, Bool.false_eq_true] at h; rfl
  | .str _, y, h => by cases y <;> simp only [alikeP, Bool.false_eq_true] at h; rfl
  | .lst xs, y, h => by cases y <;> simp only [alikeP, Bool.false_eq_true] at h; simp only [pd, PySem.W.alike]; exact alike_pds h
  | .tup xs, y, h => by cases y <;> simp only [alikeP, Bool.false_eq_true] at h; simp only [pd, PySem.W.alike]; exact alike_pds h
  | .fn _, y, h => by cases y <;> simp only [alikeP, Bool.false_eq_true] at h
theorem alike_pds : ∀ {xs ys : List PV}, alikePs xs ys = true → PySem.W.alikeAll (pds xs) (pds ys) = true
  | [], _, _ => by simp only [pds]; rw [PySem.W.alikeAll]
  | _ :: _, [], _ => by simp only [pds]; rw [PySem.W.alikeAll]
  | x :: xs, y :: ys, h => by
    simp only [alikePs, Bool.and_eq_true] at h
    simp only [pds, PySem.W.alikeAll, Bool.and_eq_true]
    exact ⟨alike_pd h.1, alike_pds h.2⟩
end
mutual
theorem ltK_pd : ∀ {x y : PV}, alikeP x y = true → PySem.W.dataLt (pd x) (pd y) = ltK x y
  | .non, y, h => by cases y <;> simp only [alikeP, Bool.false_eq_true] at h; rfl
  | .bl a, y, h => by
    cases y <;> simp only [alikeP, Bool.false_eq_true] at h
    rename_i b
    simp only [pd, ltK, PySem.W.dataLt_bool]
    cases a <;> cases b <;> rfl
  | .int _, y, h => by cases y <;> simp only [alikeP, Bool.false_eq_true] at h; simp only [pd, ltK, PySem.W.dataLt_int]
  | .str _, y, h => by cases y <;> simp only [alikeP, Bool.false_eq_true] at h; simp only [pd, ltK, PySem.W.dataLt_str]
  | .lst xs, y, h => by cases y <;> simp only [alikeP, Bool.false_eq_true] at h; simp only [pd, ltK, PySem.W.dataLt_list]; exact ltKs_pd h
  | .tup xs, y, h => by cases y <;> simp only [alikeP, Bool.false_eq_true] at h; simp only [pd, ltK, PySem.W.dataLt_tuple]; exact ltKs_pd h
  | .fn _, y, h => by cases y <;> simp only [alikeP, Bool.false_eq_true] at h
theorem ltKs_pd : ∀ {xs ys : List PV}, alikePs xs ys = true → PyProof.Rows.lexLt PyProof.Rows.itemOrd (PySem.W.keyToksAll (pds xs)) (PySem.W.keyToksAll (pds ys)) = ltKs xs ys
  | [], [], _ => by simp only [pds, PySem.W.keyToksAll, ltKs]; decide
  | [], y :: ys, _ => by
    simp only [pds, PySem.W.keyToksAll, ltKs]
    rw [PySem.W.lex_atom (by decide)]
    decide
  | x :: xs, [], _ => by
    simp only [pds, PySem.W.keyToksAll, ltKs]
    rw [PySem.W.lex_atom (by decide)]
    decide
  | x :: xs, y :: ys, h => by
    simp only [alikePs, Bool.and_eq_true] at h
    simp only [pds, ltKs]
    rw [PySem.W.dataLt_cons (alike_pd h.1), pd_eqv]
    split
    · exact ltKs_pd h.2
    · exact ltK_pd h.1
end
abbrev leD : PV → PV → Bool := PySem.W.dataLe false pd
theorem leD_eq (x y : PV) : leD x y = !PySem.W.dataLt (pd y) (pd x) := rfl
theorem leK_leD {x y : PV} (h : alikeP y x = true) : leK x y = leD x y := by rw [leD_eq, ltK_pd h]; rfl
section
variable {le le' : PV → PV → Bool}
theorem mem_insB {x y : PV} : ∀ {l : List PV}, y ∈ insB le x l ↔ y = x ∨ y ∈ l
  | [] => by simp [insB]
  | z :: r => by
    unfold insB
    split
    · simp
    · rw [List.mem_cons, mem_insB, List.mem_cons]
      constructor
      · rintro (h | h | h)
        · exact .inr (.inl h)
        · exact .inl h
        · exact .inr (.inr h)
      · rintro (h | h | h)
        · exact .inr (.inl h)
        · exact .inl h
        · exact .inr (.inr h)
theorem mem_sortB {y : PV} : ∀ {l : List PV}, y ∈ sortB le l ↔ y ∈ l
  | [] => by simp [sortB]
  | x :: r => by unfold sortB; rw [mem_insB, mem_sortB, List.mem_cons]
theorem insB_congr {x : PV} : ∀ {l : List PV}, (∀ y ∈ l, le x y = le' x y) → insB le x l = insB le' x l
  | [], _ => rfl
  | z :: r, h => by
    unfold insB
    rw [h z List.mem_cons_self, insB_congr fun y hy => h y (List.mem_cons_of_mem _ hy)]
theorem sortB_congr : ∀ {l : List PV}, (∀ x ∈ l, ∀ y ∈ l, le x y = le' x y) → sortB le l = sortB le' l
  | [], _ => rfl
  | x :: r, h => by
    unfold sortB
    rw [sortB_congr fun a ha b hb => h a (List.mem_cons_of_mem _ ha) b (List.mem_cons_of_mem _ hb)]
    exact insB_congr fun y hy => h x List.mem_cons_self y (List.mem_cons_of_mem _ (mem_sortB.mp hy))
theorem insB_pw (T : PySem.W.TotalLe le) {x : PV} : ∀ {l : List PV}, l.Pairwise (fun a b => le a b = true) → (insB le x l).Pairwise (fun a b => le a b = true)
  | [], _ => by simp [insB]
  | z :: r, h => by
    obtain ⟨h1, h2⟩ := List.pairwise_cons.mp h
    unfold insB
    split
    · rename_i hx
      refine List.pairwise_cons.mpr ⟨fun y hy => ?_, h⟩
      rcases List.mem_cons.mp hy with rfl | hy
      · exact hx
      · exact T.trans _ _ _ hx (h1 y hy)
    · rename_i hx
      have hz : le z x = true := (T.total z x).resolve_right hx
      refine List.pairwise_cons.mpr ⟨fun y hy => ?_, insB_pw T h2⟩
      rcases mem_insB.mp hy with rfl | hy
      · exact hz
      · exact h1 y hy
theorem insB_st (T : PySem.W.TotalLe le) {x c : PV} : ∀ {l : List PV}, (insB le x l).filter (PySem.W.sameRank le c) = (x :: l).filter (PySem.W.sameRank le c)
  | [] => rfl
  | z :: r => by
    unfold insB
    split
    · rfl
    · rename_i hx
      rw [List.filter_cons, insB_st T]
      by_cases hz : PySem.W.sameRank le c z = true
      · have hcx : ¬ PySem.W.sameRank le c x = true := fun h => by
          unfold PySem.W.sameRank at hz h
          rw [Bool.and_eq_true] at hz h
          exact hx (T.trans _ _ _ h.2 hz.1)
        rw [if_pos hz, List.filter_cons_of_neg hcx, List.filter_cons_of_neg hcx, List.filter_cons_of_pos hz]
      · rw [if_neg hz]
        by_cases hcx : PySem.W.sameRank le c x = true
        · rw [List.filter_cons_of_pos hcx, List.filter_cons_of_pos hcx, List.filter_cons_of_neg hz]
        · rw [List.filter_cons_of_neg hcx, List.filter_cons_of_neg hcx, List.filter_cons_of_neg hz]
theorem sortB_pw (T : PySem.W.TotalLe le) : ∀ l : List PV, (sortB le l).Pairwise (fun a b => le a b = true)
  | [] => .nil
  | x :: r => insB_pw T (sortB_pw T r)
theorem sortB_st (T : PySem.W.TotalLe le) (c : PV) : ∀ l : List PV, (sortB le l).filter (PySem.W.sameRank le c) = l.filter (PySem.W.sameRank le c)
  | [] => rfl
  | x :: r => by
    unfold sortB
    rw [insB_st T, List.filter_cons, List.filter_cons, sortB_st T c r]
theorem sortB_eq (T : PySem.W.TotalLe le) (l : List PV) : sortB le l = l.mergeSort le := PySem.W.sort_unique T (sortB_pw T l) fun c => sortB_st T c l
end
theorem leD_total : PySem.W.TotalLe leD := PySem.W.sortLe_total _ _ _
theorem isortK_eq {ys : List PV} (h : allAlike ys = true) : isortK ys = ys.mergeSort leD := by
  rw [← sortB_eq leD_total]
  refine sortB_congr fun x hx y hy => leK_leD ?_
  unfold allAlike at h
  exact List.all_eq_true.mp (List.all_eq_true.mp h y hy) x hx
theorem insB_len {le : PV → PV → Bool} (x : PV) : ∀ l : List PV, (insB le x l).length = l.length + 1
  | [] => rfl
  | z :: r => by unfold insB; split <;> simp [insB_len x r]
theorem isortK_len (l : List PV) : (isortK l).length = l.length := by
  unfold isortK
  induction l with
  | nil => rfl
  | cons x r ih => unfold sortB; rw [insB_len, ih]; rfl
theorem isortK_short {ys : List PV} (h : ys.length < 2) : isortK ys = ys := by
  match ys, h with
  | [], _ => rfl
  | [_], _ => rfl
  | _ :: _ :: _, h => simp at h; omega
section
variable {X : Cx} {K : PySem.W.Frag} {mg : PySem.Str → Option Value} {F H : Hp}
def RV (K : PySem.W.Frag) (mg : PySem.Str → Option Value) (F : Hp) (u : Value) (x : PV) : Prop := ∃ v : V, RelV v u ∧ Rep K mg F x v
theorem each_of : ∀ {ys : List PV} {ws : List V} {us : List Value}, RepL K mg F ys ws → Vals ws us → PySem.W.EachIs (RV K mg F) us ys
  | [], _, _, r, q => by cases r; cases q; exact .nil
  | _ :: _, _, _, ⟨v, t, e, a, b⟩, q => by
    subst e
    cases q with
    | cons h1 h2 => exact .cons ⟨v, h1, a⟩ (each_of b h2)
theorem of_each : ∀ {ys : List PV} {us : List Value}, PySem.W.EachIs (RV K mg F) us ys → ∃ ws, RepL K mg F ys ws ∧ Vals ws us
  | [], _, .nil => ⟨[], rfl, .nil⟩
  | _ :: _, _, .cons ⟨v, h1, a⟩ h => by
    obtain ⟨ws, r, q⟩ := of_each h
    exact ⟨v :: ws, ⟨v, ws, rfl, a, r⟩, .cons h1 q⟩
theorem each_reads {pins : List (Addr × Obj)} {σ : L2.St} {H : Hp} {s : Shared} (I : Inv X pins σ H s) (hs : Sub F H) : ∀ {ys : List PV} {us : List Value}, noFns ys = true → PySem.W.EachIs (RV X.K mg F) us ys → PySem.W.EachIs (fun v b => ∃ as, PySem.Reads s.heap v (pd b) as) us ys
  | [], _, _, .nil => .nil
  | y :: ys, _, n, .cons ⟨v, h1, a⟩ h => by
    simp only [noFns, Bool.and_eq_true] at n
    exact .cons (Dp.reads I _ v _ (a.dp hs n.1) h1) (each_reads I hs n.2 h)
end
theorem pds_map : ∀ ys : List PV, pds ys = ys.map pd
  | [] => rfl
  | y :: ys => by show pd y :: pds ys = _; rw [pds_map ys]; rfl
theorem allAlike_pd {ys : List PV} (h : allAlike ys = true) : PySem.W.AllAlike (ys.map pd) := by
  intro d hd d' hd'
  obtain ⟨y, hy, rfl⟩ := List.mem_map.mp hd
  obtain ⟨y', hy', rfl⟩ := List.mem_map.mp hd'
  unfold allAlike at h
  exact alike_pd (List.all_eq_true.mp (List.all_eq_true.mp h y hy) y' hy')
theorem sortable_pd {ys : List PV} (h : (ys.all isNT || ys.all isOne) = true) : PySem.W.Sortable (ys.map pd) := by
  rw [Bool.or_eq_true] at h
  rcases h with h | h
  · refine .inl fun d hd => ?_
    obtain ⟨y, hy, rfl⟩ := List.mem_map.mp hd
    have := List.all_eq_true.mp h y hy
    cases y with
    | tup xs => cases xs with
      | nil => simp [isNT] at this
      | cons x xs => exact ⟨_, _, rfl⟩
    | _ => simp [isNT] at this
  · refine .inr fun d hd => ?_
    obtain ⟨y, hy, rfl⟩ := List.mem_map.mp hd
    have := List.all_eq_true.mp h y hy
    cases y <;> simp [isOne] at this <;> exact ⟨(by simp [pd]), fun xs => by simp [pd]⟩
theorem dpLes_mem : ∀ {n : Nat} {ys : List PV}, dpLes n ys = true → ∀ y ∈ ys, dpLe n y = true
  | _, [], _, _, h => by cases h
  | n, z :: ys, h, y, hy => by
    simp only [dpLes, Bool.and_eq_true] at h
    rcases List.mem_cons.mp hy with rfl | hy
    · exact h.1
    · exact dpLes_mem h.2 y hy
section
variable {X : Cx}
theorem call_sorted {pins : List (Addr × Obj)} {σ : L2.St} {H F : Hp} {s : Shared} {E : Value → Shared → Prop} {p : Addr} {ys : List PV} {ws : List V} {us : List Value} {Q : Value → Shared → Prop} (hu : X.A.units + 64 < cLine) (I : Inv X pins σ H s) (hs : Sub F H) (r : RepL X.K X.mg F ys ws) (rv : Vals ws us) (hl : s.heap.IsList p us.toArray) (hz : us.length ≤ sizeLine) (hok : sortOk ys = true)
    (h : ∀ (zs : List V) (q : Addr), RepL X.K X.mg F (isortK ys) zs → H q = none → ∀ s', Inv X pins σ (upd H q (.lst zs)) s' → Q (.ref q) s') : wpAny (model X.prog X.w) X.A (call (.builtin "sorted") [.ref p]) Q E s := by
  have e1 := each_of r rv
  have fin : ∀ out : List Value, out.length = us.length → PySem.W.EachIs (RV X.K X.mg F) out (isortK ys) → Q (.ref (s.heap.objs.size + 1)) { s with heap := sortedAll s.heap us out.toArray } := fun out hl2 eo => by
    obtain ⟨zs, r2, q2⟩ := of_each eo
    obtain ⟨n, hn⟩ := sortedAll_at s.heap us out.toArray
    have hfr : H (s.heap.objs.size + 1) = none := I.hok.fresh (Nat.le_succ _)
    refine h zs _ r2 hfr _ (I.laid (t' := s.toks) (fun b o e => sortedAll_old e) (Nat.le_succ _) ⟨?_, out, n, q2, hn⟩)
    rw [q2.length, hl2]; exact hz
  unfold sortOk at hok
  rw [Bool.and_eq_true] at hok
  obtain ⟨hn, hok⟩ := hok
  have er := each_reads I hs hn e1
  by_cases h2 : ys.length < 2
  · refine SrtO.sorted_ord (ltv := fun _ _ => false) ⟨fun _ _ h => (by cases h), fun _ _ _ _ _ => rfl⟩ hl hz (fun h3 => absurd h3 (by rw [← rv.length, ← r.length]; omega)) fun out _ hb => ?_
    rw [isortK_short h2] at fin
    have : out = us := by
      have hp := hb.perm
      have hlu : us.length < 2 := by rw [← rv.length, ← r.length]; exact h2
      match us, hlu with
      | [], _ => exact hp.eq_nil
      | [u], _ => exact List.perm_singleton.mp hp
      | _ :: _ :: _, h => simp at h; omega
    rw [this]
    exact fin us rfl e1
  · rw [decide_eq_false h2, Bool.false_or, Bool.and_eq_true, Bool.and_eq_true] at hok
    obtain ⟨⟨ha, hk⟩, hd⟩ := hok
    rw [isortK_eq ha] at fin
    refine PySem.W.sorted_data (enc := pd) (bs := ys) (R := RV X.K X.mg F) hl e1 er (allAlike_pd ha) (sortable_pd hk) (by rw [r.length, rv.length]; exact hz) (fun b hb => ?_) fun out hlen eo => fin out (by rw [hlen, r.length, rv.length]) eo
    have := pd_depth (dpLes_mem hd b hb)
    simp only [eqD] at this
    omega
theorem call_sortedT {pins : List (Addr × Obj)} {σ : L2.St} {H F : Hp} {s : Shared} {E : Value → Shared → Prop} {p : Addr} {ys : List PV} {ws : List V} {us : List Value} {Q : Value → Shared → Prop} (hu : X.A.units + 64 < cLine) (I : Inv X pins σ H s) (hs : Sub F H) (r : RepL X.K X.mg F ys ws) (rv : Vals ws us) (hl : s.heap.IsTuple p us.toArray) (hz : us.length ≤ sizeLine) (hok : sortOk ys = true)
    (h : ∀ (zs : List V) (q : Addr), RepL X.K X.mg F (isortK ys) zs → H q = none → ∀ s', Inv X pins σ (upd H q (.lst zs)) s' → Q (.ref q) s') : wpAny (model X.prog X.w) X.A (call (.builtin "sorted") [.ref p]) Q E s := by
  obtain ⟨o, ho, hc, n, hd⟩ := hl
  have e1 := each_of r rv
  refine Calls.call_function_entry kind_sorted plain_sorted entry_sorted (args_sorted1 _) ?_
  unfold Builtin.«sorted»
  refine wpAny_bind (m := checkCount "sorted" 1 1 _) ?_
  refine wpAny_pure ?_
  refine wpAny_bind (wpAny_collect_seq p (.inr rfl) ho hc hd (fun h' hk => ?_) (by rw [List.size_toArray]; exact hz))
  rw [show us.toArray.toList = us by simp]
  refine wpAny_bind (wpAny_newList (items := us) ?_ hz)
  have I1 : Inv X pins σ H { s with heap := h' } := I.kept (t' := s.toks) hk
  have hoL : (h'.push (seqObj "list" us.toArray 0)).get? h'.objs.size = some (seqObj "list" us.toArray 0) := Heap.get?_push_size _ rfl
  have hfr : H h'.objs.size = none := I1.hok.fresh (Nat.le_refl _)
  have keep : ∀ b o, h'.get? b = some o → b ≠ h'.objs.size ∧ (h'.push (seqObj "list" us.toArray 0)).get? b = some o := fun b o q => ⟨Nat.ne_of_lt (Heap.lt_size q), Heap.get?_push_of_some _ q⟩
  have fin : ∀ out : List Value, out.length = us.length → PySem.W.EachIs (RV X.K X.mg F) out (isortK ys) → Q (.ref h'.objs.size) { s with heap := sortedHeap (h'.push (seqObj "list" us.toArray 0)) h'.objs.size us out.toArray } := fun out hl2 eo => by
    obtain ⟨zs, r2, q2⟩ := of_each eo
    obtain ⟨m, hm⟩ := sortedHeap_at (out := out.toArray) hoL
    refine h zs _ r2 hfr _ (I1.laid (t' := s.toks) (fun b o e => ?_) (Nat.le_refl _) ⟨by rw [q2.length, hl2]; exact hz, out, m, q2, hm⟩)
    obtain ⟨k1, k2⟩ := keep b o e
    rw [sortedHeap_old k1 (Heap.lt_size k2)]
    exact k2
  unfold sortOk at hok
  rw [Bool.and_eq_true] at hok
  obtain ⟨hn, hok⟩ := hok
  have er := each_reads I1 hs hn e1
  have key : ∀ E' : Value → Shared → Prop, wpAny (model X.prog X.w) X.A.in1.in1 (Builtin.«list.sort» ⟨[.ref h'.objs.size], []⟩) (fun f s' => f = .done (.ret .none) ∧ Q (.ref h'.objs.size) s') E' { s with heap := h'.push (seqObj "list" us.toArray 0) } := fun E' => by
    by_cases h2 : ys.length < 2
    · have hu2 : us.length < 2 := by rw [← rv.length, ← r.length]; exact h2
      refine SrtO.list_sort_ord (ltv := fun _ _ => false) (s := { s with heap := h'.push (seqObj "list" us.toArray 0) }) ⟨fun _ _ h => (by cases h), fun _ _ _ _ _ => rfl⟩ hoL hz (fun h3 => absurd h3 (by omega)) fun out _ hb => ⟨rfl, ?_⟩
      have : out = us := by
        have hp := hb.perm
        match us, hu2 with
        | [], _ => exact hp.eq_nil
        | [u], _ => exact List.perm_singleton.mp hp
        | _ :: _ :: _, h => simp at h; omega
      rw [isortK_short h2] at fin
      rw [this]
      exact fin us rfl e1
    · rw [decide_eq_false h2, Bool.false_or, Bool.and_eq_true, Bool.and_eq_true] at hok
      obtain ⟨⟨ha, hk2⟩, hdp⟩ := hok
      have er' : PySem.W.EachIs (fun v b => ∃ as, Reads (PySem.W.sortingHeap (h'.push (seqObj "list" us.toArray 0)) h'.objs.size us) v (pd b) as) us ys := er.mono fun v b hx => by
        obtain ⟨as, rd⟩ := hx
        refine ⟨as, PyProof.Rows.Reads.keeps (fun b o hb => ?_) rd⟩
        obtain ⟨k1, k2⟩ := keep b o hb
        exact PySem.W.sortingHeap_old k1 k2
      have hus : us.length = ys.length := by rw [r.length, rv.length]
      refine PySem.W.list_sort_vals (κ := PySem.W.dataKind (PySem.W.sortingHeap (h'.push (seqObj "list" us.toArray 0)) h'.objs.size us) (ys.map pd)) (s := { s with heap := h'.push (seqObj "list" us.toArray 0) }) hoL (PySem.W.SortsAt.data (PySem.W.each_map pd er') (allAlike_pd ha) (sortable_pd hk2) fun d hd2 => ?_) hz ⟨rfl, ?_⟩
      · obtain ⟨b, hb, rfl⟩ := List.mem_map.mp hd2
        have := pd_depth (dpLes_mem hdp b hb)
        simp only [eqD] at this
        show X.A.units + 2 + _ < _
        omega
      · rw [isortK_eq ha] at fin
        exact fin _ (by rw [PySem.W.sortVals_length false rfl]) (PySem.W.sortVals_data false e1 er' (allAlike_pd ha))
  refine wpAny_bind (wpAny_holding (wpAny_call_entry slot_list_sort ⟨_, hoL, rfl⟩ entry_list_sort (wpAny_mono (key _) (fun f s' hf => ?_) fun _ _ e => e) (args_list_sort _)))
  obtain ⟨rfl, hq⟩ := hf
  exact ⟨_, rfl, wpAny_pure ⟨_, rfl, hq⟩⟩
mutual
theorem pd_inj : ∀ {x y : PV}, noFn x = true → noFn y = true → pd x = pd y → x = y
  | .non, y, _, n, h => by cases y <;> first | rfl | (simp [pd] at h; done) | (simp [noFn] at n)
  | .bl _, y, _, _, h => by cases y <;> simp [pd] at h; rw [h]
  | .int _, y, _, _, h => by cases y <;> simp [pd] at h; rw [h]
  | .str _, y, _, _, h => by cases y <;> simp [pd] at h; rw [h]
  | .tup xs, y, n1, n2, h => by cases y <;> simp only [pd, PyData.tuple.injEq, reduceCtorEq] at h; rw [pds_inj n1 n2 h]
  | .lst xs, y, n1, n2, h => by cases y <;> simp only [pd, PyData.list.injEq, reduceCtorEq] at h; rw [pds_inj n1 n2 h]
  | .fn _, _, n, _, _ => by simp [noFn] at n
theorem pds_inj : ∀ {xs ys : List PV}, noFns xs = true → noFns ys = true → pds xs = pds ys → xs = ys
  | [], ys, _, _, h => by cases ys <;> simp [pds] at h; rfl
  | x :: xs, ys, n1, n2, h => by
    cases ys with
    | nil => simp [pds] at h
    | cons y ys =>
      simp only [pds, List.cons.injEq] at h
      simp only [noFns, Bool.and_eq_true] at n1 n2
      rw [pd_inj n1.1 n2.1 h.1, pds_inj n1.2 n2.2 h.2]
end
theorem minP_mem : ∀ {ys : List PV} {y : PV}, minP y ys ∈ y :: ys
  | [], y => by simp [minP]
  | z :: r, y => by
    unfold minP
    split
    · exact List.mem_cons_of_mem _ minP_mem
    · rcases List.mem_cons.mp (minP_mem (ys := r) (y := y)) with h | h
      · rw [h]; exact List.mem_cons_self
      · exact List.mem_cons_of_mem _ (List.mem_cons_of_mem _ h)
theorem maxP_mem : ∀ {ys : List PV} {y : PV}, maxP y ys ∈ y :: ys
  | [], y => by simp [maxP]
  | z :: r, y => by
    unfold maxP
    split
    · exact List.mem_cons_of_mem _ maxP_mem
    · rcases List.mem_cons.mp (maxP_mem (ys := r) (y := y)) with h | h
      · rw [h]; exact List.mem_cons_self
      · exact List.mem_cons_of_mem _ (List.mem_cons_of_mem _ h)
theorem minD_pd : ∀ {ys : List PV} {y : PV}, (∀ a ∈ y :: ys, ∀ b ∈ y :: ys, alikeP a b = true) → PySem.W.minD (pd y) (pds ys) = pd (minP y ys)
  | [], y, _ => rfl
  | z :: r, y, h => by
    have e : PySem.W.minD (pd y) (pds (z :: r)) = PySem.W.minD (if PySem.W.dataLt (pd z) (pd y) = true then pd z else pd y) (pds r) := rfl
    rw [e, ltK_pd (h z (by simp) y (by simp))]
    unfold minP
    split
    · exact minD_pd fun a ha b hb => h a (List.mem_cons_of_mem _ ha) b (List.mem_cons_of_mem _ hb)
    · refine minD_pd fun a ha b hb => h a ?_ b ?_
      · rcases List.mem_cons.mp ha with rfl | ha
        · exact List.mem_cons_self
        · exact List.mem_cons_of_mem _ (List.mem_cons_of_mem _ ha)
      · rcases List.mem_cons.mp hb with rfl | hb
        · exact List.mem_cons_self
        · exact List.mem_cons_of_mem _ (List.mem_cons_of_mem _ hb)
theorem maxD_pd : ∀ {ys : List PV} {y : PV}, (∀ a ∈ y :: ys, ∀ b ∈ y :: ys, alikeP a b = true) → PySem.W.maxD (pd y) (pds ys) = pd (maxP y ys)
  | [], y, _ => rfl
  | z :: r, y, h => by
    have e : PySem.W.maxD (pd y) (pds (z :: r)) = PySem.W.maxD (if PySem.W.dataLt (pd y) (pd z) = true then pd z else pd y) (pds r) := rfl
    rw [e, ltK_pd (h y (by simp) z (by simp))]
    unfold maxP
    split
    · exact maxD_pd fun a ha b hb => h a (List.mem_cons_of_mem _ ha) b (List.mem_cons_of_mem _ hb)
    · refine maxD_pd fun a ha b hb => h a ?_ b ?_
      · rcases List.mem_cons.mp ha with rfl | ha
        · exact List.mem_cons_self
        · exact List.mem_cons_of_mem _ (List.mem_cons_of_mem _ ha)
      · rcases List.mem_cons.mp hb with rfl | hb
        · exact List.mem_cons_self
        · exact List.mem_cons_of_mem _ (List.mem_cons_of_mem _ hb)
theorem noFns_mem : ∀ {ys : List PV}, noFns ys = true → ∀ y ∈ ys, noFn y = true
  | [], _, _, h => by cases h
  | z :: ys, n, y, hy => by
    simp only [noFns, Bool.and_eq_true] at n
    rcases List.mem_cons.mp hy with rfl | hy
    · exact n.1
    · exact noFns_mem n.2 y hy
theorem readsAll_of {pins : List (Addr × Obj)} {σ : L2.St} {H F : Hp} {s : Shared} (I : Inv X pins σ H s) (hs : Sub F H) : ∀ {ys : List PV} {us : List Value}, noFns ys = true → PySem.W.EachIs (RV X.K X.mg F) us ys → ∃ as, ReadsAll s.heap us (pds ys) as
  | [], _, _, .nil => ⟨[], .nil⟩
  | y :: ys, _, n, .cons ⟨v, h1, a⟩ h => by
    simp only [noFns, Bool.and_eq_true] at n
    obtain ⟨as, q⟩ := Dp.reads I _ v _ (a.dp hs n.1) h1
    obtain ⟨bs, q2⟩ := readsAll_of I hs n.2 h
    exact ⟨_, .cons q q2⟩
theorem each_get {R : Value → PV → Prop} : ∀ {us : List Value} {ys : List PV} {i : Nat} {u : Value}, PySem.W.EachIs R us ys → us[i]? = some u → ∃ y, ys[i]? = some y ∧ R u y
  | _, _, _, _, .nil, h => by simp at h
  | _, _, 0, _, .cons a _, h => by simp at h; subst h; exact ⟨_, rfl, a⟩
  | _, _, i + 1, _, .cons _ b, h => by obtain ⟨y, h1, h2⟩ := each_get (i := i) b (by simpa using h); exact ⟨y, by simpa using h1, h2⟩
theorem pick_item {pins : List (Addr × Obj)} {σ : L2.St} {H F : Hp} {s : Shared} {h' : Heap} (I : Inv X pins σ H s) (hs : Sub F H) {ys : List PV} {us : List Value} {i : Nat} {u : Value} {z : PV} {bs : List Addr} (hn : noFns ys = true) (e1 : PySem.W.EachIs (RV X.K X.mg F) us ys) (hi : us[i]? = some u)
    (hz : z ∈ ys) (hr : PySem.Reads h' u (pd z) bs) (hk : ∀ b o, s.heap.get? b = some o → h'.get? b = some o) : ∃ v : V, RelV v u ∧ Rep X.K X.mg F z v := by
  obtain ⟨y, hy, v, h1, h2⟩ := each_get e1 hi
  have hym := List.mem_of_getElem? hy
  obtain ⟨as, q⟩ := Dp.reads I _ v u (h2.dp hs (noFns_mem hn y hym)) h1
  have e := SeqAt.Reads.unique _ _ _ _ _ (pd_lay h2) (PySem.W.reads_keeps hk q) hr
  have e2 := pd_inj (noFns_mem hn y hym) (noFns_mem hn z hz) e
  exact ⟨v, h1, by rw [← e2]; exact h2⟩
theorem alikeAll_pd {ys : List PV} (h : allAlike ys = true) (hn : ∀ y ∈ ys, pd y ≠ .none) : PySem.W.AlikeAll (pds ys) := by
  rw [pds_map]
  refine ⟨fun d hd d' hd' => allAlike_pd h d hd d' hd', fun d hd => ?_⟩
  obtain ⟨y, hy, rfl⟩ := List.mem_map.mp hd
  exact hn y hy
end
end FW

namespace FW
open PySem PySem.Spec PyProof.Rows L2
section
variable {X : Cx} {a b c e : Expr} {es : List Expr} {pos : Pos} {fa fb fc : VS} {ts : LS}

theorem pe_ofV {t : TE} {f : VS} (h : PE X e t) (m : ∀ (ι : Plc) (F : Hp) (S : Store) (ρ : Slots) (x : SV) (S' : Store) (σ : L2.St) (H : Hp) (Q : VK), Sim X.K X.mg ι F S H → RepR X.K X.mg F ι ρ σ → f ρ S = .ok x S' →
    (∀ ι' F' v H', Ext ι F ι' F' → Sim X.K X.mg ι' F' S' H' → RepS X.K X.mg F' ι' x v → Q v H') → t σ H Q) : PE X e (rdE X.K X.mg f) :=
  pe_mono h fun σ H Q ⟨ι, F, S, ρ, x, S', sim, r, hf, q⟩ => m ι F S ρ x S' σ H Q sim r hf q
theorem s_var {i : Nat} {x : PySem.Str} (hN : X.N[i]? = some x) (hv : Vis X.env.scope x) (hd : (x == ("__debug__" : PySem.Str)) = false) (hcd : (x == ("__classdict__" : PySem.Str)) = false) : PE X (.Name x pos) (rdE X.K X.mg (sVar i)) := by
  refine pe_ofV (pe_var (i := i) hN hv hd hcd) fun ι F S ρ y S' σ H Q sim r hf q => ?_
  unfold sVar at hf
  split at hf
  · rename_i z hz
    cases hf
    obtain ⟨v, h1, h2⟩ := r.get hz
    exact ⟨v, h1, q _ _ _ _ Ext.refl sim h2⟩
  · cases hf
def kOf : PV → Option Const
  | .non => some .none
  | .bl b => some (.bool b)
  | .int i => some (.int i)
  | .str s => if PyData.strOk s = true then some (.str s) else none
  | _ => none
theorem s_k {x : PV} {k : Const} {j : Nat} (h : kOf x = some k) : PE X (.Constant k j pos) (rdE X.K X.mg (sK x)) := by
  have fin : ∀ {v : V}, Rep X.K X.mg (fun _ => none) x v → PE X (.Constant k j pos) (tC v) → PE X (.Constant k j pos) (rdE X.K X.mg (sK x)) := fun {v} r p =>
    pe_ofV p fun ι F S ρ y S' σ H Q sim rr hf q => by
      cases hf
      exact q _ _ _ _ Ext.refl sim (r.mono fun _ _ z => by cases z)
  cases x with
  | non => cases h; exact fin (v := .non) rfl pe_non
  | bl b => cases h; exact fin (v := .bl b) rfl pe_bl
  | int i => cases h; exact fin (v := .int i) rfl pe_int
  | str s =>
    simp only [kOf] at h
    split at h
    · rename_i hs
      cases h
      exact fin (v := .str s) ⟨rfl, hs⟩ pe_str
    · cases h
  | tup xs => cases h
  | lst xs => cases h
  | fn _ => cases h
  | dic _ _ => cases h
def TupK (K : PySem.W.Frag) (x : PV) (v : V) : Prop := match x with
  | .tup _ => ∃ p o, v = .ref p ∧ K.lookup p = some o ∧ o.cls = .type "tuple" ∧ o.dict = none
  | _ => True
def KeysI : List DictEntry → List PV → List PV → Prop
  | [], ks, vs => ks = [] ∧ vs = []
  | e :: r, ks, vs => ∃ (k v : Int) (t t' : Tok) (ks' vs' : List PV), ks = .int k :: ks' ∧ vs = .int v :: vs' ∧ e.key = .int k t ∧ e.hash = hashInt k ∧ e.val = .int v t' ∧ KeysI r ks' vs'
def GlobD (K : PySem.W.Frag) (mg : PySem.Str → Option Value) (n : PySem.Str) (ks vs : List PV) : Prop :=
  ∃ (d : Addr) (es : Array DictEntry) (m : Nat), mg n = some (.ref d) ∧ K.lookup d = some ⟨.type "dict", none, .dict es m, #[]⟩ ∧ (d == sysModules) = false ∧ KeysI es.toList ks vs
def notDic : PV → Bool
  | .dic _ _ => false
  | _ => true
def GlobOk (K : PySem.W.Frag) (mg : PySem.Str → Option Value) (n : PySem.Str) (x : PV) : Prop := match x with
  | .dic ks vs => GlobD K mg n ks vs
  | x => ∃ u v, mg n = some u ∧ RelV v u ∧ Rep K mg (fun _ => none) x v ∧ TupK K x v
theorem GlobOk.val {K : PySem.W.Frag} {mg : PySem.Str → Option Value} {n : PySem.Str} {x : PV} (h : GlobOk K mg n x) (hx : notDic x = true) : ∃ u v, mg n = some u ∧ RelV v u ∧ Rep K mg (fun _ => none) x v ∧ TupK K x v := by
  cases x <;> first | exact h | cases hx
theorem s_glob {n : PySem.Str} {x : PV} (hg : Gl X n) (h : GlobOk X.K X.mg n x) (hx : notDic x = true) (hd : (n == ("__debug__" : PySem.Str)) = false) : PE X (.Name n pos) (rdE X.K X.mg (sK x)) := by
  obtain ⟨u, v, h1, h2, h3, _⟩ := h.val hx
  refine pe_ofV (pe_glob hg h1 h2 hd) fun ι F S ρ y S' σ H Q sim rr hf q => ?_
  cases hf
  exact q _ _ _ _ Ext.refl sim (h3.mono fun _ _ z => by cases z)
theorem s_nil : PA X [] (rdA X.K X.mg sNil) := pa_mono pa_nil fun σ H Q h => by
  obtain ⟨ι, F, S, ρ, xs, S', sim, r, hf, q⟩ := h
  cases hf
  exact q _ _ _ _ Ext.refl sim rfl
theorem s_cons (ha : PE X e (rdE X.K X.mg fa)) (hr : PA X es (rdA X.K X.mg ts)) (hs : starEach (e :: es) X.env = (false, eval e X.env) :: starEach es X.env) : PA X (e :: es) (rdA X.K X.mg (sCons fa ts)) :=
  pa_mono (pa_cons ha hr hs) fun σ H Q h => by
    obtain ⟨ι, F, S, ρ, xs, S', sim, r, hf, q⟩ := h
    obtain ⟨x, S1, h1, hf⟩ := bind_ok hf
    obtain ⟨ys, S2, h2, hf⟩ := bind_ok hf
    cases hf
    refine ⟨ι, F, S, ρ, x, S1, sim, r, h1, fun ι1 F1 v H1 e1 s1 r1 => ?_⟩
    refine ⟨ι1, F1, S1, ρ, ys, S', s1, r.mono e1, h2, fun ι2 F2 vs H2 e2 s2 r2 => ?_⟩
    exact q _ _ _ _ (e1.trans e2) s2 ⟨v, vs, rfl, r1.mono e2, r2⟩
theorem s_tup {k : Nat} (h : PA X es (rdA X.K X.mg ts)) : PE X (.Tuple es k pos) (rdE X.K X.mg (sTup ts)) := by
  refine pe_ofV (pe_tupN h) fun ι F S ρ y S' σ H Q sim r hf q => ?_
  obtain ⟨xs, S1, h1, hf⟩ := bind_ok hf
  split at hf
  · rename_i ys hp
    refine ⟨ι, F, S, ρ, xs, S1, sim, r, h1, fun ι1 F1 vs H1 e1 s1 r1 => ?_⟩
    obtain ⟨g1, g2, _⟩ := fin_mkT s1 (r1.pures hp) hf fun ι2 F2 u H2 e2 s2 r2 => q _ _ _ _ (e1.trans e2) s2 r2
    exact ⟨g1, g2⟩
  · cases hf
theorem s_list {m : Bool} (h : PA X es (rdA X.K X.mg ts)) : PE X (.List es pos) (rdE X.K X.mg (sList m ts)) := by
  refine pe_ofV (pe_lst h) fun ι F S ρ y S' σ H Q sim r hf q => ?_
  obtain ⟨xs, S1, h1, hf⟩ := bind_ok hf
  split at hf
  · rename_i ys hp
    refine ⟨ι, F, S, ρ, xs, S1, sim, r, h1, fun ι1 F1 vs H1 e1 s1 r1 => ?_⟩
    exact fin_mkL s1 (r1.pures hp) hf fun ι2 F2 u H2 e2 s2 r2 => q _ _ _ _ (e1.trans e2) s2 r2
  · cases hf
theorem two {σ : L2.St} {H : Hp} {R : V → V → Hp → Prop} {ι : Plc} {F : Hp} {S S' : Store} {ρ : Slots} {β : Type} {g : SV → SV → Store → Out β} {z : β} (sim : Sim X.K X.mg ι F S H) (r : RepR X.K X.mg F ι ρ σ)
    (h : ((fa ρ S).bind fun x S1 => (fb ρ S1).bind fun y S2 => g x y S2) = .ok z S')
    (q : ∀ ι2 F2 x y v w S2 H2, Ext ι F ι2 F2 → Sim X.K X.mg ι2 F2 S2 H2 → RepR X.K X.mg F2 ι2 ρ σ → RepS X.K X.mg F2 ι2 x v → RepS X.K X.mg F2 ι2 y w → g x y S2 = .ok z S' → R v w H2) :
    rdE X.K X.mg fa σ H fun v H1 => rdE X.K X.mg fb σ H1 fun w H2 => R v w H2 := by
  obtain ⟨x, S1, h1, h⟩ := bind_ok h
  obtain ⟨y, S2, h2, h⟩ := bind_ok h
  refine ⟨ι, F, S, ρ, x, S1, sim, r, h1, fun ι1 F1 v H1 e1 s1 r1 => ?_⟩
  refine ⟨ι1, F1, S1, ρ, y, S2, s1, r.mono e1, h2, fun ι2 F2 w H2 e2 s2 r2 => ?_⟩
  exact q _ _ _ _ _ _ _ _ (e1.trans e2) s2 (r.mono (e1.trans e2)) (r1.mono e2) r2 h
theorem s_bin {o : BOp} {m : Bool} (ha : PE X a (rdE X.K X.mg fa)) (hb : PE X b (rdE X.K X.mg fb)) : PE X (.BinOp a (opOf o) b pos) (rdE X.K X.mg (sBin o m fa fb)) := by
  refine pe_ofV (pe_op (op_bin o m) ha hb) fun ι F S ρ y S' σ H Q sim r hf q => ?_
  exact two sim r hf fun ι2 F2 x y v w S2 H2 e s _ r1 r2 h => ⟨ι2, F2, S2, x, y, _, S', s, r1, r2, h, fun ι3 F3 u H3 e3 s3 r3 => q _ _ _ _ (e.trans e3) s3 r3⟩
theorem s_neg (ha : PE X a (rdE X.K X.mg fa)) : PE X (.UnaryOp .USub a pos) (rdE X.K X.mg (sNeg fa)) := by
  refine pe_ofV (pe_un un_neg ha) fun ι F S ρ y S' σ H Q sim r hf q => ?_
  obtain ⟨x, S1, h1, h⟩ := bind_ok hf
  refine ⟨ι, F, S, ρ, x, S1, sim, r, h1, fun ι1 F1 v H1 e1 s1 r1 => ?_⟩
  unfold negOp at h
  split at h
  · rename_i i
    cases h; cases r1
    exact ⟨i, rfl, q _ _ _ _ e1 s1 rfl⟩
  · cases h
theorem tru_of {K : PySem.W.Frag} {mg : PySem.Str → Option Value} {ι : Plc} {F H : Hp} {S : Store} {x : SV} {v : V} {k : Bool} (sim : Sim K mg ι F S H) (r : RepS K mg F ι x v) (h : truth S x = some k) : TruV K v H k := by
  cases x with
  | v x =>
    cases x with
    | non => cases r; cases h; rfl
    | bl b => cases r; cases h; rfl
    | int i => cases r; cases h; rfl
    | str s => cases h
    | tup xs =>
      obtain ⟨p, vs, rfl, r', q⟩ := sim.seqT r rfl
      cases h
      exact .inr (.inl ⟨vs, sim.sub.sqT q.sqT, by have := r'.length; cases xs <;> cases vs <;> simp at this ⊢⟩)
    | lst xs =>
      obtain ⟨p, vs, rfl, r', q⟩ := sim.seqL r rfl
      cases h
      exact .inl ⟨vs, .inl q, by have := r'.length; cases xs <;> cases vs <;> simp at this ⊢⟩
    | fn _ => cases h
    | dic _ _ => cases h
  | l n =>
    simp only [truth] at h
    split at h
    · rename_i xs e
      cases h
      obtain ⟨p, vs, rfl, r', q⟩ := sim.seqL (x := .l n) (xs := xs) r (by simp only [seqOf, e])
      exact .inl ⟨vs, .inl q, by have := r'.length; cases xs <;> cases vs <;> simp at this ⊢⟩
    · cases h
  | ls _ => cases h
theorem pt_ofT {t : TT} {f : Slots → Store → Out Bool} (h : PT X e t) (m : ∀ (ι : Plc) (F : Hp) (S : Store) (ρ : Slots) (x : Bool) (S' : Store) (σ : L2.St) (H : Hp) (Q : Bool → Hp → Prop), Sim X.K X.mg ι F S H → RepR X.K X.mg F ι ρ σ → f ρ S = .ok x S' →
    (∀ ι' F' H', Ext ι F ι' F' → Sim X.K X.mg ι' F' S' H' → Q x H') → t σ H Q) : PT X e (rdT X.K X.mg f) :=
  pt_mono h fun σ H Q ⟨ι, F, S, ρ, x, S', sim, r, hf, q⟩ => m ι F S ρ x S' σ H Q sim r hf q
theorem s_tru (ha : PE X a (rdE X.K X.mg fa)) (he : ∀ whole, isTrue a X.env whole = (do let v ← whole; standAt a.pos; holding [v] (truthy v))) : PT X a (rdT X.K X.mg (tru fa)) := by
  refine pt_ofT (pt_truth ha he) fun ι F S ρ k S' σ H Q sim r hf q => ?_
  obtain ⟨x, S1, h1, h⟩ := bind_ok hf
  refine ⟨ι, F, S, ρ, x, S1, sim, r, h1, fun ι1 F1 v H1 e1 s1 r1 => ?_⟩
  split at h
  · rename_i b hb
    cases h
    exact ⟨k, tru_of s1 r1 hb, q _ _ _ e1 s1⟩
  · cases h
theorem s_not_v (ha : PE X a (rdE X.K X.mg fa)) : PE X (.UnaryOp .Not a pos) (rdE X.K X.mg fun ρ S => (tru fa ρ S).bind fun b S1 => .ok (.v (.bl (!b))) S1) := by
  refine pe_ofV (pe_notT ha) fun ι F S ρ k S' σ H Q sim r hf q => ?_
  obtain ⟨b, S0, h0, hf⟩ := bind_ok hf
  cases hf
  obtain ⟨x, S1, h1, h⟩ := bind_ok h0
  refine ⟨ι, F, S, ρ, x, S1, sim, r, h1, fun ι1 F1 v H1 e1 s1 r1 => ?_⟩
  split at h
  · rename_i b' hb
    cases h
    exact ⟨b, tru_of s1 r1 hb, q _ _ _ _ e1 s1 rfl⟩
  · cases h
theorem s_not_t {f : Slots → Store → Out Bool} (ha : PT X a (rdT X.K X.mg f)) : PT X (.UnaryOp .Not a pos) (rdT X.K X.mg fun ρ S => (f ρ S).bind fun b S1 => .ok (!b) S1) := by
  refine pt_ofT (pt_not ha) fun ι F S ρ k S' σ H Q sim r hf q => ?_
  obtain ⟨b, S0, h0, hf⟩ := bind_ok hf
  cases hf
  exact ⟨ι, F, S, ρ, b, _, sim, r, h0, fun ι1 F1 H1 e1 s1 => q _ _ _ e1 s1⟩
theorem s_and_v {p : Sm × Sm} (ha : PE X a (rdE X.K X.mg p.1.v)) (hb : PE X (.BoolOp .And (b :: es) pos) (rdE X.K X.mg p.2.v)) : PE X (.BoolOp .And (a :: b :: es) pos) (rdE X.K X.mg (sAnd1 p.1 p.2).v) := by
  refine pe_ofV (pe_andT ha hb) fun ι F S ρ k S' σ H Q sim r hf q => ?_
  obtain ⟨x, S1, h1, h⟩ := bind_ok hf
  refine ⟨ι, F, S, ρ, x, S1, sim, r, h1, fun ι1 F1 v H1 e1 s1 r1 => ?_⟩
  split at h
  · rename_i hb
    refine ⟨true, tru_of s1 r1 hb, ?_⟩
    rw [if_pos rfl]
    exact ⟨ι1, F1, S1, ρ, k, S', s1, r.mono e1, h, fun ι2 F2 v2 H2 e2 s2 r2 => q _ _ _ _ (e1.trans e2) s2 r2⟩
  · rename_i hb
    cases h
    refine ⟨false, tru_of s1 r1 hb, ?_⟩
    rw [if_neg (by simp)]
    exact q _ _ _ _ e1 s1 r1
  · cases h
theorem s_or_v {p : Sm × Sm} (ha : PE X a (rdE X.K X.mg p.1.v)) (hb : PE X (.BoolOp .Or (b :: es) pos) (rdE X.K X.mg p.2.v)) : PE X (.BoolOp .Or (a :: b :: es) pos) (rdE X.K X.mg (sOr1 p.1 p.2).v) := by
  refine pe_ofV (pe_orT ha hb) fun ι F S ρ k S' σ H Q sim r hf q => ?_
  obtain ⟨x, S1, h1, h⟩ := bind_ok hf
  refine ⟨ι, F, S, ρ, x, S1, sim, r, h1, fun ι1 F1 v H1 e1 s1 r1 => ?_⟩
  split at h
  · rename_i hb
    cases h
    refine ⟨true, tru_of s1 r1 hb, ?_⟩
    rw [if_pos rfl]
    exact q _ _ _ _ e1 s1 r1
  · rename_i hb
    refine ⟨false, tru_of s1 r1 hb, ?_⟩
    rw [if_neg (by simp)]
    exact ⟨ι1, F1, S1, ρ, k, S', s1, r.mono e1, h, fun ι2 F2 v2 H2 e2 s2 r2 => q _ _ _ _ (e1.trans e2) s2 r2⟩
  · cases h
theorem s_and_t {p : Sm × Sm} (ha : PT X a (rdT X.K X.mg p.1.t)) (hb : PW X (.BoolOp .And (b :: es) pos) (rdT X.K X.mg p.2.t)) : PW X (.BoolOp .And (a :: b :: es) pos) (rdT X.K X.mg (sAnd1 p.1 p.2).t) := by
  refine pw_mono (pw_and ha hb) fun σ H Q ⟨ι, F, S, ρ, k, S', sim, r, hf, q⟩ => ?_
  obtain ⟨t, S1, h1, h⟩ := bind_ok hf
  refine ⟨ι, F, S, ρ, t, S1, sim, r, h1, fun ι1 F1 H1 e1 s1 => ?_⟩
  split at h
  · rename_i ht
    rw [if_pos ht]
    exact ⟨ι1, F1, S1, ρ, k, S', s1, r.mono e1, h, fun ι2 F2 H2 e2 s2 => q _ _ _ (e1.trans e2) s2⟩
  · rename_i ht
    cases h
    rw [if_neg ht]
    exact q _ _ _ e1 s1
theorem s_or_t {p : Sm × Sm} (ha : PT X a (rdT X.K X.mg p.1.t)) (hb : PW X (.BoolOp .Or (b :: es) pos) (rdT X.K X.mg p.2.t)) : PW X (.BoolOp .Or (a :: b :: es) pos) (rdT X.K X.mg (sOr1 p.1 p.2).t) := by
  refine pw_mono (pw_or ha hb) fun σ H Q ⟨ι, F, S, ρ, k, S', sim, r, hf, q⟩ => ?_
  obtain ⟨t, S1, h1, h⟩ := bind_ok hf
  refine ⟨ι, F, S, ρ, t, S1, sim, r, h1, fun ι1 F1 H1 e1 s1 => ?_⟩
  split at h
  · rename_i ht
    cases h
    rw [if_pos ht]
    exact q _ _ _ e1 s1
  · rename_i ht
    rw [if_neg ht]
    exact ⟨ι1, F1, S1, ρ, k, S', s1, r.mono e1, h, fun ι2 F2 H2 e2 s2 => q _ _ _ (e1.trans e2) s2⟩
theorem s_cmp_v {o : COp} (hu : X.A.units + 65 < cLine) (ha : PE X a (rdE X.K X.mg fa)) (hb : PE X b (rdE X.K X.mg fb)) (hm : behindInMarks (opC o) b = false) : PE X (.Compare a [opC o] [b] pos) (rdE X.K X.mg (sCmp o fa fb).v) := by
  refine pe_ofV (pe_cmpR (op_cmpF hu o) ha hb hm) fun ι F S ρ k S' σ H Q sim r hf q => ?_
  obtain ⟨bb, S0, h0, hf⟩ := bind_ok hf
  cases hf
  refine two sim r h0 fun ι2 F2 x y v w S2 H2 e s _ r1 r2 h => ?_
  split at h
  · rename_i b' hb
    cases h
    exact ⟨ι2, F2, _, x, y, _, s, r1, r2, hb, q _ _ _ _ e s rfl⟩
  · cases h
theorem s_cmp_t {o : COp} (hu : X.A.units + 65 < cLine) (ha : PE X a (rdE X.K X.mg fa)) (hb : PE X b (rdE X.K X.mg fb)) (hm : behindInMarks (opC o) b = false) : PT X (.Compare a [opC o] [b] pos) (rdT X.K X.mg (sCmp o fa fb).t) := by
  refine pt_ofT (pt_cmpR (op_cmpF hu o) ha hb hm) fun ι F S ρ k S' σ H Q sim r hf q => ?_
  refine two sim r hf fun ι2 F2 x y v w S2 H2 e s _ r1 r2 h => ?_
  split at h
  · rename_i b' hb
    cases h
    exact ⟨ι2, F2, _, x, y, _, s, r1, r2, hb, k, rfl, q _ _ _ e s⟩
  · cases h
theorem s_chain_v {o o' : COp} (hu : X.A.units + 65 < cLine) (ha : PE X a (rdE X.K X.mg fa)) (hb : PE X b (rdE X.K X.mg fb)) (hc : PE X c (rdE X.K X.mg fc)) (hm : lastMarks [opC o, opC o'] [b, c] = false) : PE X (.Compare a [opC o, opC o'] [b, c] pos) (rdE X.K X.mg (sChain o o' fa fb fc).v) := by
  refine pe_ofV (pe_chain (op_cmpF hu o) (op_cmpF hu o') ha hb hc hm) fun ι F S ρ k S' σ H Q sim r hf q => ?_
  obtain ⟨bb, S0, h0, hf⟩ := bind_ok hf
  cases hf
  refine two sim r h0 fun ι2 F2 x y v w S2 H2 e s rr r1 r2 h => ?_
  split at h
  · rename_i hb
    obtain ⟨z, S3, h3, h⟩ := bind_ok h
    refine ⟨ι2, F2, _, x, y, _, s, r1, r2, hb, true, rfl, ?_⟩
    rw [if_pos rfl]
    refine ⟨ι2, F2, _, ρ, z, S3, s, rr, h3, fun ι4 F4 v4 H4 e4 s4 r4 => ?_⟩
    split at h
    · rename_i b' hb
      cases h
      exact ⟨ι4, F4, _, y, z, _, s4, r2.mono e4, r4, hb, q _ _ _ _ (e.trans e4) s4 rfl⟩
    · cases h
  · rename_i hb
    cases h
    refine ⟨ι2, F2, _, x, y, _, s, r1, r2, hb, false, rfl, ?_⟩
    rw [if_neg (by simp)]
    exact q _ _ _ _ e s rfl
  · cases h
theorem s_chain_t {o o' : COp} (hu : X.A.units + 65 < cLine) (ha : PE X a (rdE X.K X.mg fa)) (hb : PE X b (rdE X.K X.mg fb)) (hc : PE X c (rdE X.K X.mg fc)) (hm : lastMarks [opC o, opC o'] [b, c] = false) : PT X (.Compare a [opC o, opC o'] [b, c] pos) (rdT X.K X.mg (sChain o o' fa fb fc).t) := by
  refine pt_ofT (pt_chain (op_cmpF hu o) (op_cmpF hu o') ha hb hc hm) fun ι F S ρ k S' σ H Q sim r hf q => ?_
  refine two sim r hf fun ι2 F2 x y v w S2 H2 e s rr r1 r2 h => ?_
  split at h
  · rename_i hb
    obtain ⟨z, S3, h3, h⟩ := bind_ok h
    refine ⟨ι2, F2, _, x, y, _, s, r1, r2, hb, true, rfl, ?_⟩
    rw [if_pos rfl]
    refine ⟨ι2, F2, _, ρ, z, S3, s, rr, h3, fun ι4 F4 v4 H4 e4 s4 r4 => ?_⟩
    split at h
    · rename_i b' hb
      cases h
      exact ⟨ι4, F4, _, y, z, _, s4, r2.mono e4, r4, hb, k, rfl, q _ _ _ (e.trans e4) s4⟩
    · cases h
  · rename_i hb
    cases h
    refine ⟨ι2, F2, _, x, y, _, s, r1, r2, hb, false, rfl, ?_⟩
    rw [if_neg (by simp)]
    exact ⟨false, rfl, q _ _ _ e s⟩
  · cases h
theorem s_ite_v {cs as bs : Sm} (hc : PT X c (rdT X.K X.mg cs.t)) (ha : PE X a (rdE X.K X.mg as.v)) (hb : PE X b (rdE X.K X.mg bs.v)) : PE X (.IfExp c a b pos) (rdE X.K X.mg (sIte cs as bs).v) := by
  refine pe_ofV (pe_ifExp hc ha hb) fun ι F S ρ k S' σ H Q sim r hf q => ?_
  obtain ⟨t, S1, h1, h⟩ := bind_ok hf
  refine ⟨ι, F, S, ρ, t, S1, sim, r, h1, fun ι1 F1 H1 e1 s1 => ?_⟩
  split at h
  · rename_i ht
    rw [if_pos ht]
    exact ⟨ι1, F1, S1, ρ, k, S', s1, r.mono e1, h, fun ι2 F2 v2 H2 e2 s2 r2 => q _ _ _ _ (e1.trans e2) s2 r2⟩
  · rename_i ht
    rw [if_neg ht]
    exact ⟨ι1, F1, S1, ρ, k, S', s1, r.mono e1, h, fun ι2 F2 v2 H2 e2 s2 r2 => q _ _ _ _ (e1.trans e2) s2 r2⟩
end
end FW

namespace FW
open PySem PySem.Spec PyProof.Rows L2

def FO (P : Program) (w : World) (K : PySem.W.Frag) (mg : PySem.Str → Option Value) (base : Heap) (k : Nat) (n : PySem.Str) (f : Fn) : Prop :=
  ∃ (a : Addr) (fd : FuncData) (ps : List PySem.Str), mg n = some (.ref a) ∧ PySem.W.keepIn K (.ref a) = true ∧ Binds K fd ps [] ∧ FnOk P w K mg base L2.CX0 k a fd ps (fun vs H Q _ => rdV K mg f vs H Q)
theorem FO.mono {P : Program} {w : World} {K : PySem.W.Frag} {mg : PySem.Str → Option Value} {base : Heap} {j k : Nat} {n : PySem.Str} {f : Fn} (h : FO P w K mg base j n f) (hk : j ≤ k) : FO P w K mg base k n f := by
  obtain ⟨a, fd, ps, h1, h2, h3, h4⟩ := h
  exact ⟨a, fd, ps, h1, h2, h3, h4.mono hk⟩
def noStar : Expr → Bool
  | .Starred _ _ => false
  | _ => true
theorem star_one {e : Expr} (h : noStar e = true) (es : List Expr) (env : Env) : starEach (e :: es) env = (false, eval e env) :: starEach es env := by
  cases e <;> first | rfl | simp [noStar] at h
theorem star_all (pos : Pos) (env : Env) : ∀ {es : List Expr}, (∀ e ∈ es, noStar e = true) → (backTo pos (starEach es env)).any (·.1) = false
  | [], _ => rfl
  | e :: es, h => by
    rw [star_one (h e List.mem_cons_self)]
    have := star_all pos env (es := es) fun x hx => h x (List.mem_cons_of_mem _ hx)
    simp only [backTo, List.map_cons, List.any_cons] at this ⊢
    simpa using this
section
variable {X : Cx} {a b c e : Expr} {es : List Expr} {pos p : Pos} {fa fb fc : VS} {ts : LS} {n : PySem.Str}
theorem call_fin {f : Fn} {ts : LS} {ι : Plc} {F' : Hp} {S S' : Store} {ρ : Slots} {x : SV} {σ : L2.St} {H : Hp} {Q : VK} (sim : Sim X.K X.mg ι F' S H) (r : RepR X.K X.mg F' ι ρ σ) (hf : sCall (some f) ts ρ S = .ok x S')
    (q : ∀ ι' F'' v H', Ext ι F' ι' F'' → Sim X.K X.mg ι' F'' S' H' → RepS X.K X.mg F'' ι' x v → Q v H') : tCall (fun vs H Q _ => rdV X.K X.mg f vs H Q) [] E0 (rdA X.K X.mg ts) σ H Q := by
  obtain ⟨xs, S1, h1, h⟩ := bind_ok hf
  refine ⟨ι, F', S, ρ, xs, S1, sim, r, h1, fun ι1 F1 vs H1 e1 s1 r1 => ?_⟩
  show rdV X.K X.mg f (vs ++ []) H1 Q
  rw [List.append_nil]
  exact ⟨ι1, F1, S1, xs, x, S', s1, r1, h, fun ι2 F2 u H2 e2 s2 r2 => q _ _ _ _ (e1.trans e2) s2 r2⟩
theorem s_call0 {k : Nat} {f : Fn} (hr : Room k X.A) (hf : FO X.prog X.w X.K X.mg X.base k n f) (hg : Gl X n) (hd : (n == ("__debug__" : PySem.Str)) = false) : PE X (.Call (.Name n p) [] [] pos) (rdE X.K X.mg (sCall (some f) sNil)) := by
  obtain ⟨ad, fd, ps, hm, hk, hb, F⟩ := hf
  refine pe_ofV (pe_mono (pe_call0 F hr hg hm hk hb .nil pass0 hd) fun σ H Q h => ?_) fun ι F' S ρ x S' σ H Q sim r hf q => call_fin sim r hf q
  obtain ⟨ι, F', S, ρ, xs, S', sim, r, hh, q⟩ := h
  cases hh
  exact q _ _ _ _ Ext.refl sim rfl
theorem s_call {k : Nat} {f : Fn} (hr : Room k X.A) (hf : FO X.prog X.w X.K X.mg X.base k n f) (hg : Gl X n) (hd : (n == ("__debug__" : PySem.Str)) = false) (ha : PA X (e :: es) (rdA X.K X.mg ts)) (hs : ∀ x ∈ e :: es, noStar x = true) :
    PE X (.Call (.Name n p) (e :: es) [] pos) (rdE X.K X.mg (sCall (some f) ts)) := by
  obtain ⟨ad, fd, ps, hm, hk, hb, F⟩ := hf
  exact pe_ofV (pe_call F hr hg hm hk hb .nil pass0 ha hd (star_one (hs e List.mem_cons_self) es X.env) (star_all pos X.env fun x hx => hs x (List.mem_cons_of_mem _ hx))) fun ι F' S ρ x S' σ H Q sim r hf q => call_fin sim r hf q

theorem s_fnv {k : Nat} {f : Fn} (hf : FO X.prog X.w X.K X.mg X.base k n f) (hg : Gl X n) (hd : (n == ("__debug__" : PySem.Str)) = false) : PE X (.Name n p) (rdE X.K X.mg (sK (.fn n))) := by
  obtain ⟨ad, fd, ps, hm, hk, hb, F⟩ := hf
  refine pe_ofV (pe_glob hg hm (v := .ref ad) rfl hd) fun ι F S ρ y S' σ H Q sim rr hf q => ?_
  cases hf
  exact q _ _ _ _ Ext.refl sim ⟨ad, rfl, hm⟩
def callHead : Expr → Bool
  | .Name _ _ => true
  | .Subscript _ _ _ => true
  | _ => false
theorem s_callv {k : Nat} {Γ : List (PySem.Str × Fn)} {fe : Expr} {ff : VS} (hr : Room k X.A) (hΓ : ∀ n f, Γ.lookup n = some f → FO X.prog X.w X.K X.mg X.base k n f) (hf : PE X fe (rdE X.K X.mg ff)) (hh : callHead fe = true) (ha : PA X (e :: es) (rdA X.K X.mg ts)) (hs : ∀ x ∈ e :: es, noStar x = true) :
    PE X (.Call fe (e :: es) [] pos) (rdE X.K X.mg (sCallv Γ ff ts)) := by
  refine ⟨fun pins s σ H Q I h => ?_⟩
  obtain ⟨ι, F, S, ρ, z, S', sim, r, hz, q⟩ := h
  obtain ⟨x, S1, h1, hz⟩ := bind_ok hz
  split at hz
  · rename_i n
    split at hz
    · rename_i g hg
      obtain ⟨ad, fd, ps, hm, hk, hb, Fn⟩ := hΓ n g hg
      have go : wpAny (model X.prog X.w) X.A (eval fe X.env) (fun f s1 => wpAny (model X.prog X.w) X.A (callWith pos f [] (backTo pos (starEach (e :: es) X.env)) []) (EP X pins σ Q) X.xe s1) X.xe s := by
        refine thn (hf.run pins s σ H (fun v H1 => v = .ref ad ∧ ∃ ι1 F1, Ext ι F ι1 F1 ∧ Sim X.K X.mg ι1 F1 S1 H1) I ⟨ι, F, S, ρ, _, S1, sim, r, h1, fun ι1 F1 v H1 e1 s1 r1 => ?_⟩) fun u s1 ⟨v, H1, I1, r1, ev, ι1, F1, e1, sim1⟩ => ?_
        · obtain ⟨a, rfl, ha'⟩ := r1
          rw [hm] at ha'; cases ha'
          exact ⟨rfl, ι1, F1, e1, s1⟩
        · subst ev
          cases r1
          have hc := call_fin (Q := Q) (ts := ts) (σ := σ) sim1 (r.mono e1) hz (fun ι2 F2 v2 H2 e2 s2 r2 => q _ _ _ _ (e1.trans e2) s2 r2)
          exact PySem.W.callWith_K (h₀ := X.base) I1.ok.mod.kin hk (thn (ha.run pos pins s1 σ H1 _ I1 hc) fun us s2 ⟨vs, H2, I2, r2, q2⟩ => ⟨I2.kIn, run_fn Fn hr hb .nil pass0 I2 r2 q2⟩) (star_one (hs e List.mem_cons_self) es X.env) (star_all pos X.env fun x hx => hs x (List.mem_cons_of_mem _ hx))
      cases fe <;> first | (simp [callHead] at hh; done) | exact wpAny_Call_Name_kw go | exact Call_ go rfl
    · cases hz
  · cases hz
theorem ixOf_some {x : PV} : ∀ {ys : List PV} {j : Nat}, ixOf x ys = some j → ∃ z, ys[j]? = some z ∧ eqv z x = true ∧ ∀ m z', m < j → ys[m]? = some z' → eqv z' x = false
  | [], _, h => by simp [ixOf] at h
  | y :: r, j, h => by
    unfold ixOf at h
    split at h
    · rename_i he
      cases h
      exact ⟨y, rfl, he, fun m z' hm => by omega⟩
    · rename_i he
      obtain ⟨i, hi, rfl⟩ := Option.map_eq_some_iff.mp h
      obtain ⟨z, h1, h2, h3⟩ := ixOf_some hi
      refine ⟨z, by simpa using h1, h2, fun m z' hm hz => ?_⟩
      cases m with
      | zero => simp at hz; subst hz; simpa using he
      | succ m => exact h3 m z' (by omega) (by simpa using hz)
theorem pds_get : ∀ {ys : List PV} {j : Nat} {d : PyData}, (pds ys)[j]? = some d → ∃ y, ys[j]? = some y ∧ d = pd y
  | [], _, _, h => by simp [pds] at h
  | y :: _, 0, _, h => by simp [pds] at h; exact ⟨y, rfl, h.symm⟩
  | _ :: r, j + 1, _, h => by simp only [pds, List.getElem?_cons_succ] at h; obtain ⟨y, h1, h2⟩ := pds_get h; exact ⟨y, by simpa using h1, h2⟩
theorem pds_at : ∀ {ys : List PV} {j : Nat} {y : PV}, ys[j]? = some y → (pds ys)[j]? = some (pd y)
  | [], _, _, h => by simp at h
  | y :: _, 0, _, h => by simp at h; subst h; rfl
  | _ :: r, j + 1, _, h => by simp only [pds, List.getElem?_cons_succ]; exact pds_at (by simpa using h)
theorem strs_of {K : PySem.W.Frag} {mg : PySem.Str → Option Value} {F : Hp} : ∀ {ys : List PV} {vs : List V}, RepL K mg F ys vs → allStr ys = true → ∃ ss : List PySem.Str, ys = ss.map PV.str ∧ vs = ss.map V.str
  | [], _, r, _ => by cases r; exact ⟨[], rfl, rfl⟩
  | y :: ys, _, ⟨v, t, e, a, b⟩, h => by
    cases y <;> simp only [allStr, Bool.false_eq_true] at h
    obtain ⟨rfl, _⟩ := a
    obtain ⟨ss, rfl, rfl⟩ := strs_of b h
    subst e
    exact ⟨_ :: ss, rfl, rfl⟩
theorem ints_of_all : ∀ {ys : List PV}, allInt ys = true → ∃ ns : List Int, ys = ns.map .int
  | [], _ => ⟨[], rfl⟩
  | y :: ys, h => by
    cases y <;> simp only [allInt, Bool.false_eq_true] at h
    obtain ⟨ns, rfl⟩ := ints_of_all h
    exact ⟨_ :: ns, rfl⟩
theorem ints_laid {K : PySem.W.Frag} {mg : PySem.Str → Option Value} {F : Hp} : ∀ {ns : List Int} {vs : List V}, RepL K mg F (ns.map .int) vs → vs = ns.map V.int
  | [], _, r => by cases r; rfl
  | n :: ns, _, ⟨v, t, e, a, b⟩ => by subst e; cases a; rw [ints_laid b]; rfl
theorem ixOf_ints {w : Int} : ∀ {ns : List Int} {j : Nat}, ixOf (.int w) (ns.map .int) = some j → w ∈ ns ∧ j = ns.idxOf w
  | [], _, h => by cases h
  | n :: ns, j, h => by
    have h : (if decide (n = w) = true then some 0 else (ixOf (.int w) (ns.map .int)).map (· + 1)) = some j := h
    rw [List.idxOf_cons]
    by_cases e : n = w
    · subst e
      simp at h
      exact ⟨List.mem_cons_self, by simp [h]⟩
    · rw [decide_eq_false e, if_neg (by decide)] at h
      obtain ⟨i, hi, rfl⟩ := Option.map_eq_some_iff.mp h
      obtain ⟨h1, h2⟩ := ixOf_ints hi
      have : (n == w) = false := by simp [e]
      exact ⟨List.mem_cons_of_mem _ h1, by rw [this, h2]; rfl⟩
theorem intsAre_of : ∀ {ns : List Int} {us : List Value}, Vals (ns.map V.int) us → IntsAre us ns
  | [], _, r => by cases r; exact .nil
  | n :: ns, _, r => by
    cases r with
    | cons a b =>
      obtain ⟨t, rfl⟩ := a
      exact .cons n t (intsAre_of b)
theorem mt_tupI : MtR X "tuple.index" (fun x xs H Q => ∃ p, ∃ ns : List Int, ∃ w, x = .ref p ∧ xs = [.int w] ∧ SqT X.K H p (ns.map V.int) ∧ w ∈ ns ∧ Q (.int (ns.idxOf w : Nat)) H) := by
  intro pins s σ H x xs v us Q I rx rs h
  obtain ⟨p, ns, w, rfl, rfl, hq, hm, q⟩ := h
  cases rx
  obtain ⟨u, rfl, t, rfl⟩ := vals1 rs
  obtain ⟨its, r, pl, hz⟩ := I.tuple hq
  exact PySem.SeqAt.tuple_index_ints pl (intsAre_of r) hm ⟨.int (ns.idxOf w : Nat), H, I.tok _, ⟨_, rfl⟩, q⟩
theorem mt_ix (hu : X.A.units + 65 < cLine) {t : Bool} : MtR X (if t = true then "list.index" else "tuple.index") (fun x xs H Q => ∃ y, xs = [y] ∧ ∃ ι F S sx sy z ys, Sim X.K X.mg ι F S H ∧ RepS X.K X.mg F ι sx x ∧ RepS X.K X.mg F ι sy y ∧ seqOf S sx = some (t, ys) ∧ indexOp sx sy S = .ok z S ∧
    ∀ w, RepS X.K X.mg F ι z w → Q w H) := by
  intro pins s σ H x xs v us Q I rx rxs h
  obtain ⟨y, rfl, ι, F, S, sx, sy, z, ys, sim, r1, r2, hs, hi, q⟩ := h
  unfold indexOp at hi
  split at hi
  · rename_i py
    cases t with
    | true =>
      rw [hs] at hi
      simp only at hi
      split at hi
      · rename_i hc
        simp only [Bool.and_eq_true] at hc
        obtain ⟨⟨⟨n1, n2⟩, d1⟩, d2⟩ := hc
        split at hi
        · rename_i j hj
          cases hi
          obtain ⟨p, vs, rfl, l, hq⟩ := sim.seqL r1 hs
          obtain ⟨zz, g1, g2, g3⟩ := ixOf_some hj
          refine mt_indexD hu pins s σ H _ _ v us Q I rx rxs ⟨p, y, pd py, pds ys, j, pd zz, rfl, rfl, .lst (.inl hq) (RepL.dp sim.sub l n2), Rep.dp sim.sub r2 n1, ?_, ?_, pds_at g1, by rw [pd_eqv]; exact g2, fun m z' hm hz => ?_, q _ rfl⟩
          · simp only [SeqAt.shaped, PyData.canLay0, PyData.depth, Bool.and_eq_true, decide_eq_true_eq]
            exact ⟨pds_lay l, decide_eq_true (by have := pds_depth d2; omega)⟩
          · simp only [SeqAt.shaped, Bool.and_eq_true]
            exact ⟨pd_lay r2, decide_eq_true (by have := pd_depth d1; omega)⟩
          · obtain ⟨y', k1, rfl⟩ := pds_get hz
            rw [pd_eqv]
            exact g3 m y' hm k1
        · cases hi
      · cases hi
    | false =>
      rw [hs] at hi
      simp only at hi
      split at hi
      · rename_i hc
        split at hi
        · rename_i j hj
          cases hi
          obtain ⟨p, vs, rfl, l, hq⟩ := sim.seqT r1 hs
          have hc0 := Bool.or_eq_true_iff.mp hc
          clear hc
          rcases hc0 with hc | hc
          case inr =>
            rw [Bool.and_eq_true] at hc
            cases py <;> simp only [isIntV, Bool.false_eq_true, false_and] at hc
            rename_i w
            cases r2
            obtain ⟨ns, rfl⟩ := ints_of_all hc.2
            have := ints_laid l
            subst this
            have hix := ixOf_ints hj
            exact mt_tupI pins s σ H _ _ v us Q I rx rxs ⟨p, ns, w, rfl, rfl, sim.sub.sqT hq.sqT, hix.1, by rw [← hix.2]; exact q _ rfl⟩
          rw [Bool.and_eq_true] at hc
          obtain ⟨ss, rfl, rfl⟩ := strs_of l hc.2
          cases py <;> simp only [isStrV, Bool.false_eq_true, false_and] at hc
          rename_i w
          obtain ⟨rfl, _⟩ := r2
          obtain ⟨zz, g1, g2, g3⟩ := ixOf_some hj
          refine mt_tup_index pins s σ H _ _ v us Q I rx rxs ⟨p, ss, w, j, rfl, rfl, sim.sub.sqT hq.sqT, ?_, fun m hm hz => ?_, q _ rfl⟩
          · rw [List.getElem?_map] at g1
            obtain ⟨u, hu1, rfl⟩ := Option.map_eq_some_iff.mp g1
            simp only [eqv, decide_eq_true_eq] at g2
            subst g2
            exact hu1
          · have := g3 m (.str w) hm (by rw [List.getElem?_map, hz]; rfl)
            simp [eqv] at this
        · cases hi
      · cases hi
  · cases hi
theorem index_inv {a x z : SV} {S S' : Store} (h : indexOp a x S = .ok z S') : S' = S ∧ ∃ t ys, seqOf S a = some (t, ys) := by
  unfold indexOp at h
  split at h
  · split at h
    · split at h
      · split at h
        · cases h; exact ⟨rfl, _, _, by assumption⟩
        · cases h
      · cases h
    · split at h
      · split at h
        · cases h; exact ⟨rfl, _, _, by assumption⟩
        · cases h
      · cases h
    · cases h
  · cases h
theorem ls_ty {K : PySem.W.Frag} {mg : PySem.Str → Option Value} {F H : Hp} {ι : Plc} {S : Store} {x : SV} {v : V} {ys : List PV} (sim : Sim K mg ι F S H) (r : RepS K mg F ι x v) (hy : seqOf S x = some (true, ys)) : tyV K "list" v H := by
  obtain ⟨p, vs, rfl, l, hq⟩ := sim.seqL r hy
  exact .inl ⟨rfl, vs, .inl hq⟩
theorem isLs_ty {K : PySem.W.Frag} {mg : PySem.Str → Option Value} {F H : Hp} {ι : Plc} {S : Store} {x : SV} {v : V} (sim : Sim K mg ι F S H) (r : RepS K mg F ι x v) (h : isLs S x = true) : tyV K "list" v H ∧ ∃ ys, seqOf S x = some (true, ys) := by
  unfold isLs at h
  split at h
  · rename_i ys hy
    exact ⟨ls_ty sim r hy, ys, hy⟩
  · cases h
def sIdxL (a x : VS) : VS := fun ρ S => (a ρ S).bind fun y S1 => if isLs S1 y = true then (x ρ S1).bind fun z S2 => if isLs S2 y = true then indexOp y z S2 else .bad else .bad
def sIdxT (a x : VS) : VS := fun ρ S => (a ρ S).bind fun y S1 => if isTu y = true then (x ρ S1).bind fun z S2 => indexOp y z S2 else .bad
theorem s_idxL {apos cpos : Pos} {o : Expr} (hu : X.A.units + 65 < cLine) (ho : PE X o (rdE X.K X.mg fa)) (he : PE X e (rdE X.K X.mg fb)) (hs : noStar e = true) (hbase : attributeBase o "index" X.env (eval o X.env) = eval o X.env) (hline : (apos.endLine == cpos.line) = true) :
    PE X (.Call (.Attribute o "index" apos) [e] [] cpos) (rdE X.K X.mg (sIdxL fa fb)) := by
  have few : ((backTo cpos (starEach [e] X.env)).all (fun x => !x.1) && (backToKw cpos (keywordEach [] X.env)).all (fun x => x.1.isSome)
      && decide (([e] : List Expr).length + ([] : List Keyword).length + (if ([] : List Keyword).isEmpty then 0 else 1) < 30)) = true := by rw [star_one hs]; rfl
  refine pe_ofV (pe_bm F.plainAttrs_list F.slot_list_index F.type_list_index (mt_ix (t := true) hu) ho (pa_cons he pa_nil (star_one hs _ _)) hbase few hline (star_one hs _ _) rfl) fun ι F S ρ z S' σ H Q sim r hz q => ?_
  obtain ⟨x, S1, h1, hz⟩ := bind_ok hz
  split at hz
  case isFalse => cases hz
  rename_i hL1
  obtain ⟨y, S2, h2, hz⟩ := bind_ok hz
  split at hz
  case isFalse => cases hz
  rename_i hL2
  obtain ⟨rfl, _⟩ := index_inv hz
  refine ⟨ι, F, S, ρ, x, S1, sim, r, h1, fun ι1 F1 v H1 e1 s1 r1 => ⟨(isLs_ty s1 r1 hL1).1, ?_⟩⟩
  refine ⟨ι1, F1, S1, ρ, y, S', s1, r.mono e1, h2, fun ι2 F2 w H2 e2 s2 r2 => ?_⟩
  obtain ⟨_, ys, hy⟩ := isLs_ty s2 (r1.mono e2) hL2
  exact ⟨w, rfl, ι2, F2, S', x, y, z, ys, s2, r1.mono e2, r2, hy, hz, fun u ru => q _ _ _ _ (e1.trans e2) s2 ru⟩
theorem tyN_is {pins : List (Addr × Obj)} {σ : L2.St} {H : Hp} {s : Shared} {p : Addr} {vs : List V} (I : Inv X pins σ H s) (h : SqN X.K H p vs) : s.TypeIs (.ref p) "tuple" ∧ ∀ a, Value.ref p = .ref a → ∃ ob, s.heap.get? a = some ob ∧ ob.dict = none := by
  have got : ∃ o, s.heap.get? p = some o ∧ o.cls = .type "tuple" ∧ o.dict = none := by
    rcases h with ⟨o, e, hc, hd⟩ | ⟨o, its, n, hk, hc, hd, -⟩
    · exact ⟨o, (I.hok p _ e).1, hc, hd⟩
    · exact ⟨o, I.kIn p o hk, hc, hd⟩
  obtain ⟨o, e, hc, hd⟩ := got
  refine ⟨⟨o, e, hc⟩, fun a ea => ?_⟩
  cases ea
  exact ⟨o, e, hd⟩
theorem pe_bmN {o : Expr} {to : TE} {t : TA} {name : PySem.Str} {apos cpos : Pos} {id : String} {r : V → List V → Hp → VK → Prop} (pa : PlainAttrs "tuple") (slot : Slot "tuple" name id) (hty : typeOf (.builtin id) = pure (.type "method_descriptor")) (hm : MtR X id r) (ho : PE X o to) (ha : PA X [e] t)
    (hbase : attributeBase o name X.env (eval o X.env) = eval o X.env) (hs : noStar e = true) (hline : (apos.endLine == cpos.line) = true) :
    PE X (.Call (.Attribute o name apos) [e] [] cpos) (fun σ H Q => to σ H fun x H1 => (∃ p vs, x = .ref p ∧ SqN X.K H1 p vs) ∧ t σ H1 fun xs H2 => r x xs H2 Q) := by
  have few : ((backTo cpos (starEach [e] X.env)).all (fun x => !x.1) && (backToKw cpos (keywordEach [] X.env)).all (fun x => x.1.isSome)
      && decide (([e] : List Expr).length + ([] : List Keyword).length + (if ([] : List Keyword).isEmpty then 0 else 1) < 30)) = true := by rw [star_one hs]; rfl
  refine ⟨fun pins s σ H Q I h => wpAny_Call_method_late hbase few hline rfl (thn (ho.run pins s σ H _ I h) ?_)⟩
  rintro v s1 ⟨x, H1, I1, r1, ⟨p, vs, rfl, hN⟩, q1⟩
  cases r1
  obtain ⟨ty, nd⟩ := tyN_is I1 hN
  refine ⟨"tuple", id, pa, slot, hty, ty, nd, ?_⟩
  have args := ha.run cpos pins s1 σ H1 _ I1 q1
  rw [star_one hs] at args ⊢
  exact Calls.callWith_builtin rfl (Calls.evalArgs_plain (thn args fun us s2 ⟨ws, H2, I2, r2, q2⟩ => hm pins s2 σ H2 (.ref p) ws _ us Q I2 (show L2.RelV (.ref p) (.ref p) from rfl) r2 q2))
theorem s_idxT {apos cpos : Pos} {o : Expr} (hu : X.A.units + 65 < cLine) (ho : PE X o (rdE X.K X.mg fa)) (he : PE X e (rdE X.K X.mg fb)) (hs : noStar e = true) (hbase : attributeBase o "index" X.env (eval o X.env) = eval o X.env) (hline : (apos.endLine == cpos.line) = true) :
    PE X (.Call (.Attribute o "index" apos) [e] [] cpos) (rdE X.K X.mg (sIdxT fa fb)) := by
  refine pe_ofV (pe_bmN F.plainAttrs_tuple F.slot_tuple_index F.type_tuple_index (mt_ix (t := false) hu) ho (pa_cons he pa_nil (star_one hs _ _)) hbase hs hline) fun ι F S ρ z S' σ H Q sim r hz q => ?_
  obtain ⟨x, S1, h1, hz⟩ := bind_ok hz
  split at hz
  case isFalse => cases hz
  rename_i hT
  obtain ⟨xs, rfl⟩ : ∃ xs, x = .v (.tup xs) := by
    unfold isTu at hT
    split at hT
    · exact ⟨_, rfl⟩
    · cases hT
  obtain ⟨y, S2, h2, hz⟩ := bind_ok hz
  obtain ⟨rfl, _⟩ := index_inv hz
  refine ⟨ι, F, S, ρ, _, S1, sim, r, h1, fun ι1 F1 v H1 e1 s1 r1 => ⟨?_, ?_⟩⟩
  · obtain ⟨p, vs, rfl, l, hq⟩ := s1.seqT r1 (show seqOf S1 (.v (.tup xs)) = some (false, xs) from rfl)
    exact ⟨p, vs, rfl, s1.sub.sqN hq⟩
  refine ⟨ι1, F1, S1, ρ, y, S', s1, r.mono e1, h2, fun ι2 F2 w H2 e2 s2 r2 => ?_⟩
  exact ⟨w, rfl, ι2, F2, S', _, y, z, xs, s2, r1.mono e2, r2, rfl, hz, fun u ru => q _ _ _ _ (e1.trans e2) s2 ru⟩
theorem pe_or {f g h : VS} (hf : PE X e (rdE X.K X.mg f)) (hg : PE X e (rdE X.K X.mg g)) (m : ∀ ρ S z S', h ρ S = .ok z S' → f ρ S = .ok z S' ∨ g ρ S = .ok z S') : PE X e (rdE X.K X.mg h) := by
  refine ⟨fun pins s σ H Q I hh => ?_⟩
  obtain ⟨ι, F, S, ρ, z, S', sim, r, hz, q⟩ := hh
  rcases m ρ S z S' hz with h1 | h1
  · exact hf.run pins s σ H Q I ⟨ι, F, S, ρ, z, S', sim, r, h1, q⟩
  · exact hg.run pins s σ H Q I ⟨ι, F, S, ρ, z, S', sim, r, h1, q⟩
theorem s_index {apos cpos : Pos} {o : Expr} (hu : X.A.units + 65 < cLine) (ho : PE X o (rdE X.K X.mg fa)) (he : PE X e (rdE X.K X.mg fb)) (hs : noStar e = true) (hbase : attributeBase o "index" X.env (eval o X.env) = eval o X.env) (hline : (apos.endLine == cpos.line) = true) :
    PE X (.Call (.Attribute o "index" apos) [e] [] cpos) (rdE X.K X.mg (sIndex fa fb)) := by
  refine pe_or (s_idxL hu ho he hs hbase hline) (s_idxT hu ho he hs hbase hline) fun ρ S z S' hz => ?_
  obtain ⟨x, S1, h1, hz⟩ := bind_ok hz
  split at hz
  · rename_i hL
    refine .inl ?_
    show (fa ρ S).bind _ = _
    rw [h1, Out.bind_ok, if_pos hL]
    exact hz
  · rename_i hL
    split at hz
    · rename_i hT
      refine .inr ?_
      show (fa ρ S).bind _ = _
      rw [h1, Out.bind_ok, if_pos hT]
      exact hz
    · cases hz
theorem s_indexG {apos cpos : Pos} {xs : List PV} (hu : X.A.units + 65 < cLine) (hg : Gl X n) (h : GlobOk X.K X.mg n (.tup xs)) (hd : (n == ("__debug__" : PySem.Str)) = false) (he : PE X e (rdE X.K X.mg fb)) (hs : noStar e = true) (hline : (apos.endLine == cpos.line) = true) :
    PE X (.Call (.Attribute (.Name n p) "index" apos) [e] [] cpos) (rdE X.K X.mg (sIndexG xs fb)) := by
  have few : ((backTo cpos (starEach [e] X.env)).all (fun x => !x.1) && (backToKw cpos (keywordEach [] X.env)).all (fun x => x.1.isSome)
      && decide (([e] : List Expr).length + ([] : List Keyword).length + (if ([] : List Keyword).isEmpty then 0 else 1) < 30)) = true := by rw [star_one hs]; rfl
  obtain ⟨u, v, g1, g2, g3, g4⟩ := h
  refine pe_ofV (pe_bm F.plainAttrs_tuple F.slot_tuple_index F.type_tuple_index (mt_ix (t := false) hu) (pe_glob hg g1 g2 hd) (pa_cons he pa_nil (star_one hs _ _)) rfl few hline (star_one hs _ _) rfl) fun ι F S ρ z S' σ H Q sim r hz q => ?_
  obtain ⟨y, S1, h1, hz⟩ := bind_ok hz
  obtain ⟨rfl, _⟩ := index_inv hz
  obtain ⟨pp, o, rfl, k1, k2, k3⟩ := g4
  refine ⟨.inr (.inl ⟨rfl, o, k1, k2, k3⟩), ι, F, S, ρ, y, S', sim, r, h1, fun ι1 F1 w H1 e1 s1 r1 => ?_⟩
  exact ⟨w, rfl, ι1, F1, S', .v (.tup xs), y, z, xs, s1, g3.mono (fun _ _ z => by cases z), r1, rfl, hz, fun u ru => q _ _ _ _ e1 s1 ru⟩
theorem vs_one {K : PySem.W.Frag} {mg : PySem.Str → Option Value} {F : Hp} {ι : Plc} {x : SV} {vs : List V} (h : RepSs K mg F ι [x] vs) : ∃ v, vs = [v] ∧ RepS K mg F ι x v := by
  obtain ⟨v, r, e, q, z⟩ := h
  cases z
  exact ⟨v, e, q⟩
theorem vs_two {K : PySem.W.Frag} {mg : PySem.Str → Option Value} {F : Hp} {ι : Plc} {x y : SV} {vs : List V} (h : RepSs K mg F ι [x, y] vs) : ∃ v w, vs = [v, w] ∧ RepS K mg F ι x v ∧ RepS K mg F ι y w := by
  obtain ⟨v, r, e, q, z⟩ := h
  obtain ⟨w, rfl, q2⟩ := vs_one z
  exact ⟨v, w, e, q, q2⟩
theorem RepL.ints {K : PySem.W.Frag} {mg : PySem.Str → Option Value} {F : Hp} : ∀ {ys : List PV} {vs : List V} {is : List Int}, RepL K mg F ys vs → ints? ys = some is → vs = is.map V.int
  | [], _, is, r, h => by cases r; simp [ints?] at h; subst h; rfl
  | y :: ys, _, is, ⟨v, t, e, a, b⟩, h => by
    cases y <;> simp only [ints?, reduceCtorEq, Option.map_eq_some_iff] at h
    obtain ⟨js, h1, h2⟩ := h
    subst h2 e
    cases a
    rw [RepL.ints b h1]
    rfl
theorem sumI_eq : ∀ is : List Int, sumI is = is.sum
  | [] => rfl
  | i :: r => by rw [sumI, sumI_eq r, List.sum_cons]
theorem seq_or {K : PySem.W.Frag} {mg : PySem.Str → Option Value} {F H : Hp} {ι : Plc} {S : Store} {x : SV} {v : V} {t : Bool} {ys : List PV} (sim : Sim K mg ι F S H) (r : RepS K mg F ι x v) (h : seqOf S x = some (t, ys)) :
    ∃ p vs, v = .ref p ∧ RepL K mg F ys vs ∧ (SqL K H p vs ∨ SqT K H p vs) := by
  cases t with
  | true => obtain ⟨p, vs, e, l, q⟩ := sim.seqL r h; exact ⟨p, vs, e, l, .inl (.inl q)⟩
  | false => obtain ⟨p, vs, e, l, q⟩ := sim.seqT r h; exact ⟨p, vs, e, l, .inr (sim.sub.sqT q.sqT)⟩
def rdO (K : PySem.W.Frag) (mg : PySem.Str → Option Value) (f : SV → Store → Out SV) : List V → Hp → VK → Prop := fun vs H Q => ∃ v, vs = [v] ∧ rd1 K mg f v H Q
theorem bi_len : CallR X (.builtin "len") (rdO X.K X.mg bLen) := by
  intro pins s σ H vs us Q I r h
  obtain ⟨v, rfl, ι, F, S, x, y, S', sim, rv, h, q⟩ := h
  unfold bLen at h
  cases h1 : seqOf S x with
  | some p =>
    obtain ⟨t, ys⟩ := p
    rw [h1] at h
    cases h
    obtain ⟨p, vs, rfl, l, hq⟩ := seq_or sim rv h1
    exact call_len_seq pins s σ H _ us Q I r ⟨p, vs, rfl, hq, by rw [← l.length]; exact q _ _ _ _ Ext.refl sim rfl⟩
  | none =>
    rw [h1] at h
    simp only at h
    cases h2 : dicOf S x with
    | none => rw [h2] at h; cases h
    | some kvs =>
      rw [h2] at h
      cases h
      obtain ⟨n, p, ws, rfl, hι, hS, rfl, hF, hH, rd⟩ := sim.dic rv h2
      obtain ⟨u, rfl, ru⟩ := vals1 r
      cases ru
      refine d_len I (.inl hH) fun t s' I' => ⟨.int _, H, I', ⟨t, rfl⟩, ?_⟩
      rw [← rd.length]
      exact q _ _ _ _ Ext.refl sim rfl
theorem bi_int : CallR X (.type "int") (rdO X.K X.mg bInt) := by
  intro pins s σ H vs us Q I r h
  obtain ⟨v, rfl, ι, F, S, x, y, S', sim, rv, h, q⟩ := h
  unfold bInt at h
  split at h
  · rename_i i
    cases h; cases rv
    exact call_int1 pins s σ H _ us Q I r (.inl ⟨i, rfl, q _ _ _ _ Ext.refl sim rfl⟩)
  · rename_i b
    cases h; cases rv
    exact call_int1 pins s σ H _ us Q I r (.inr ⟨b, rfl, q _ _ _ _ Ext.refl sim rfl⟩)
  · cases h
theorem bi_abs : CallR X (.builtin "abs") (rdO X.K X.mg bAbs) := by
  intro pins s σ H vs us Q I r h
  obtain ⟨v, rfl, ι, F, S, x, y, S', sim, rv, h, q⟩ := h
  unfold bAbs at h
  split at h
  · rename_i i
    cases h; cases rv
    exact call_abs pins s σ H _ us Q I r ⟨i, rfl, q _ _ _ _ Ext.refl sim rfl⟩
  · cases h
theorem onSeq_inv {f : List PV → Out SV} {x : SV} {S : Store} {z : SV} {S' : Store} (h : onSeq f x S = .ok z S') : ∃ t ys, seqOf S x = some (t, ys) ∧ f ys = .ok z S' := by
  unfold onSeq at h
  cases e : seqOf S x with
  | none => rw [e] at h; cases h
  | some p => obtain ⟨t, ys⟩ := p; rw [e] at h; exact ⟨t, ys, rfl, h⟩
theorem bi_sum (hc : X.calm = true) : CallR X (.builtin "sum") (rdO X.K X.mg bSum) := by
  intro pins s σ H vs us Q I r h
  obtain ⟨v, rfl, ι, F, S, x, y, S', sim, rv, h, q⟩ := h
  obtain ⟨t, ys, h1, h⟩ := onSeq_inv h
  split at h
  · rename_i is hi
    cases h
    obtain ⟨p, vs, rfl, l, hq⟩ := seq_or sim rv h1
    rw [l.ints hi] at hq
    have q' : Q (.int is.sum) H := by
      rw [← sumI_eq]
      exact q _ _ _ _ Ext.refl sim rfl
    rcases hq with hq | hq
    · exact cr_sum hc pins s σ H _ us Q I r ⟨p, is, rfl, hq, q'⟩
    · obtain ⟨its, rv, hl, _⟩ := I.tuple hq
      rw [Vals.ref1 r]
      have hia := rv.ints
      obtain ⟨xs, e⟩ := hia.allInts.items
      have hn : numsOf (intItems xs).toList = is := by rw [← e]; exact hia.numsOf
      rw [nums_intItems] at hn
      have hl' : s.heap.IsTuple p its.toArray := hl
      rw [e] at hl'
      refine PySem.W.ktm_sumG (I.ok.hd hc) hl' fun h' tk t' hk => ⟨.int _, H, I.kept hk, ⟨_, rfl⟩, ?_⟩
      rw [preSum_eq, List.take_of_length_le (by simp), hn]; exact q'
  · cases h
theorem bi_tuple : CallR X (.type "tuple") (rdO X.K X.mg bTuple) := by
  intro pins s σ H vs us Q I r h
  obtain ⟨v, rfl, ι, F, S, x, y, S', sim, rv, h, q⟩ := h
  obtain ⟨t, ys, h1, h⟩ := onSeq_inv h
  cases t with
  | true =>
    obtain ⟨p, vs, rfl, l, hq⟩ := sim.seqL rv h1
    obtain ⟨_, g, _⟩ := fin_mkT sim l h q
    exact call_tupN pins s σ H _ us Q I r ⟨p, vs, rfl, .inl ⟨.inl hq, g⟩⟩
  | false =>
    obtain ⟨p, vs, rfl, l, hq⟩ := sim.seqT rv h1
    obtain ⟨_, _, g⟩ := fin_mkT sim l h q
    exact call_tupN pins s σ H _ us Q I r ⟨p, vs, rfl, .inr ⟨sim.sub.sqT hq.sqT, g p hq⟩⟩
theorem bi_list {m : Bool} : CallR X (.type "list") (rdO X.K X.mg (bList m)) := by
  intro pins s σ H vs us Q I r h
  obtain ⟨v, rfl, ι, F, S, x, y, S', sim, rv, h, q⟩ := h
  obtain ⟨t, ys, h1, h⟩ := onSeq_inv h
  obtain ⟨p, vs, rfl, l, hq⟩ := seq_or sim rv h1
  obtain ⟨_, g⟩ := fin_mkL sim l h q
  exact call_list_of pins s σ H _ us Q I r ⟨p, vs, rfl, hq, g⟩
theorem RepL.ofInts {K : PySem.W.Frag} {mg : PySem.Str → Option Value} {F : Hp} : ∀ is : List Int, RepL K mg F (is.map .int) (is.map V.int)
  | [] => rfl
  | i :: r => ⟨.int i, _, rfl, rfl, RepL.ofInts r⟩
theorem bi_sorted {m : Bool} (hu : X.A.units + 65 < cLine) : CallR X (.builtin "sorted") (rdO X.K X.mg (bSorted m)) := by
  intro pins s σ H vs us Q I r h
  obtain ⟨v, rfl, ι, F, S, x, y, S', sim, rv, h, q⟩ := h
  unfold bSorted at h
  split at h
  · rename_i t ys h1
    split at h
    · rename_i hok
      cases t with
      | true =>
        obtain ⟨p, ws, rfl, l, hq⟩ := sim.seqL rv h1
        obtain ⟨its, rvs, hl, hz⟩ := I.list (.inl hq)
        rw [Vals.ref1 r]
        refine call_sorted (us := its) (by omega) I sim.sub l rvs hl.isList (by rw [← rvs.length]; exact hz) hok fun zs p' rz hn s' I' => ?_
        exact ⟨.ref p', _, I', rfl, (fin_mkL sim rz h q).2 p' hn⟩
      | false =>
        obtain ⟨p, ws, rfl, l, hq⟩ := sim.seqT rv h1
        obtain ⟨its, rvs, hl, hz⟩ := I.tuple (sim.sub.sqT hq.sqT)
        rw [Vals.ref1 r]
        refine call_sortedT (us := its) (by omega) I sim.sub l rvs hl (by rw [← rvs.length]; exact hz) hok fun zs p' rz hn s' I' => ?_
        exact ⟨.ref p', _, I', rfl, (fin_mkL sim rz h q).2 p' hn⟩
    · cases h
  · cases h
theorem readsArr {h : Heap} {us : List Value} {ds : List PyData} {as : List Addr} (hr : ReadsAll h us ds as) : ReadsAll h us.toArray.toList ds as := hr
theorem some1_pd {y : PV} (h : isSome1 y = true) : pd y ≠ .none := by cases y <;> simp [isSome1] at h <;> simp [pd]
theorem bi_min1 (hc : X.calm = true) (hu : X.A.units + 65 < cLine) : CallR X (.builtin "min") (rdO X.K X.mg bMin1) := by
  intro pins s σ H vs us Q I r h
  obtain ⟨v, rfl, ι, F, S, x, z, S', sim, rv, h, q⟩ := h
  obtain ⟨t, ys, h1, h⟩ := onSeq_inv h
  obtain ⟨p, ws, rfl, l, hq⟩ := seq_or sim rv h1
  cases ys with
  | nil => cases h
  | cons y ys =>
    simp only at h
    split at h
    · rename_i hok
      cases h
      unfold minOk at hok
      simp only [Bool.and_eq_true] at hok
      obtain ⟨⟨⟨hn, ha⟩, hd⟩, hsn⟩ := hok
      rw [Vals.ref1 r]
      have hA := alikeAll_pd ha fun y hy => some1_pd (List.all_eq_true.mp hsn y hy)
      have hal : ∀ a ∈ y :: ys, ∀ b ∈ y :: ys, alikeP a b = true := fun a ha' b hb' => List.all_eq_true.mp (List.all_eq_true.mp ha a ha') b hb'
      have hdd : X.A.units + 1 + PyData.depthAll (pd y :: pds ys) < cLine := by
        have := pds_depth hd
        simp only [eqD] at this
        show X.A.units + 1 + PyData.depthAll (pds (y :: ys)) < cLine
        omega
      rcases hq with hq | hq
      · obtain ⟨its, rvs, hl, hz⟩ := I.list hq
        have e1 := each_of l rvs
        obtain ⟨as, hr⟩ := readsAll_of I sim.sub hn e1
        refine PySem.W.min_list_data (x := pd y) (xs := pds ys) (I.ok.hd hc) hl.isList (readsArr hr) hA hdd fun i u h' tk bs hi hru hk => ?_
        rw [minD_pd hal] at hru
        obtain ⟨w, hw1, hw2⟩ := pick_item I sim.sub hn e1 (by simpa using hi) minP_mem hru hk
        exact ⟨w, H, I.kept hk, hw1, q _ _ _ _ Ext.refl sim hw2⟩
      · obtain ⟨its, rvs, hl, hz⟩ := I.tuple hq
        have e1 := each_of l rvs
        obtain ⟨as, hr⟩ := readsAll_of I sim.sub hn e1
        refine PySem.W.min_tuple_data (x := pd y) (xs := pds ys) (I.ok.hd hc) hl (readsArr hr) hA hdd fun i u h' tk bs hi hru hk => ?_
        rw [minD_pd hal] at hru
        obtain ⟨w, hw1, hw2⟩ := pick_item I sim.sub hn e1 (by simpa using hi) minP_mem hru hk
        exact ⟨w, H, I.kept hk, hw1, q _ _ _ _ Ext.refl sim hw2⟩
    · cases h
theorem bi_max1 (hc : X.calm = true) (hu : X.A.units + 65 < cLine) : CallR X (.builtin "max") (rdO X.K X.mg bMax1) := by
  intro pins s σ H vs us Q I r h
  obtain ⟨v, rfl, ι, F, S, x, z, S', sim, rv, h, q⟩ := h
  obtain ⟨t, ys, h1, h⟩ := onSeq_inv h
  obtain ⟨p, ws, rfl, l, hq⟩ := seq_or sim rv h1
  cases ys with
  | nil => cases h
  | cons y ys =>
    simp only at h
    split at h
    · rename_i hok
      cases h
      unfold minOk at hok
      simp only [Bool.and_eq_true] at hok
      obtain ⟨⟨⟨hn, ha⟩, hd⟩, hsn⟩ := hok
      rw [Vals.ref1 r]
      have hA := alikeAll_pd ha fun y hy => some1_pd (List.all_eq_true.mp hsn y hy)
      have hal : ∀ a ∈ y :: ys, ∀ b ∈ y :: ys, alikeP a b = true := fun a ha' b hb' => List.all_eq_true.mp (List.all_eq_true.mp ha a ha') b hb'
      have hdd : X.A.units + 1 + PyData.depthAll (pd y :: pds ys) < cLine := by
        have := pds_depth hd
        simp only [eqD] at this
        show X.A.units + 1 + PyData.depthAll (pds (y :: ys)) < cLine
        omega
      rcases hq with hq | hq
      · obtain ⟨its, rvs, hl, hz⟩ := I.list hq
        have e1 := each_of l rvs
        obtain ⟨as, hr⟩ := readsAll_of I sim.sub hn e1
        refine PySem.W.max_list_data (x := pd y) (xs := pds ys) (I.ok.hd hc) hl.isList (readsArr hr) hA hdd fun i u h' tk bs hi hru hk => ?_
        rw [maxD_pd hal] at hru
        obtain ⟨w, hw1, hw2⟩ := pick_item I sim.sub hn e1 (by simpa using hi) maxP_mem hru hk
        exact ⟨w, H, I.kept hk, hw1, q _ _ _ _ Ext.refl sim hw2⟩
      · obtain ⟨its, rvs, hl, hz⟩ := I.tuple hq
        have e1 := each_of l rvs
        obtain ⟨as, hr⟩ := readsAll_of I sim.sub hn e1
        refine PySem.W.max_tuple_data (x := pd y) (xs := pds ys) (I.ok.hd hc) hl (readsArr hr) hA hdd fun i u h' tk bs hi hru hk => ?_
        rw [maxD_pd hal] at hru
        obtain ⟨w, hw1, hw2⟩ := pick_item I sim.sub hn e1 (by simpa using hi) maxP_mem hru hk
        exact ⟨w, H, I.kept hk, hw1, q _ _ _ _ Ext.refl sim hw2⟩
    · cases h
def rdP (K : PySem.W.Frag) (mg : PySem.Str → Option Value) (f : SV → SV → Store → Out SV) : List V → Hp → VK → Prop := fun vs H Q => ∃ v w, vs = [v, w] ∧ rd2 K mg f v w H Q
theorem bi_min2 (hc : X.calm = true) : CallR X (.builtin "min") (rdP X.K X.mg bMin2) := by
  intro pins s σ H vs us Q I r h
  obtain ⟨v, w, rfl, ι, F, S, x, y, z, S', sim, r1, r2, h, q⟩ := h
  unfold bMin2 at h
  split at h
  · rename_i i j
    cases h; cases r1; cases r2
    exact call_min2 hc pins s σ H _ us Q I r ⟨i, j, rfl, q _ _ _ _ Ext.refl sim rfl⟩
  · cases h
theorem bi_max2 (hc : X.calm = true) : CallR X (.builtin "max") (rdP X.K X.mg bMax2) := by
  intro pins s σ H vs us Q I r h
  obtain ⟨v, w, rfl, ι, F, S, x, y, z, S', sim, r1, r2, h, q⟩ := h
  unfold bMax2 at h
  split at h
  · rename_i i j
    cases h; cases r1; cases r2
    exact call_max2 hc pins s σ H _ us Q I r ⟨i, j, rfl, q _ _ _ _ Ext.refl sim rfl⟩
  · cases h
inductive Blt (X : Cx) (n : PySem.Str) (r : List V → Hp → VK → Prop) : Prop where
  | fn (id : String) (hv : bootBuiltins n = some (.builtin id)) (h : CallR X (.builtin id) r)
  | ty (T : String) (hv : bootBuiltins n = some (.type T)) (h : CallR X (.type T) r)
theorem s_bi1 {f : SV → Store → Out SV} {g : List SV → Store → Out SV} (B : Blt X n (rdO X.K X.mg f)) (hfg : ∀ x S, g [x] S = f x S) (hg : Gl X n) (hm : X.mg n = none) (hn : n ≠ "__name__") (hd : (n == ("__debug__" : PySem.Str)) = false)
    (ha : PA X [e] (rdA X.K X.mg ts)) (h1 : ∀ ρ S xs S', ts ρ S = .ok xs S' → xs.length = 1) (hs : noStar e = true) :
    PE X (.Call (.Name n p) [e] [] pos) (rdE X.K X.mg fun ρ S => (ts ρ S).bind g) := by
  have fin : ∀ (ι : Plc) (F : Hp) (S : Store) (ρ : Slots) (x : SV) (S' : Store) (σ : L2.St) (H : Hp) (Q : VK), Sim X.K X.mg ι F S H → RepR X.K X.mg F ι ρ σ → (ts ρ S).bind g = .ok x S' →
      (∀ ι' F' v H', Ext ι F ι' F' → Sim X.K X.mg ι' F' S' H' → RepS X.K X.mg F' ι' x v → Q v H') → tCB (rdO X.K X.mg f) (rdA X.K X.mg ts) σ H Q := by
    intro ι F S ρ x S' σ H Q sim r hf q
    obtain ⟨xs, S1, g1, h⟩ := bind_ok hf
    refine ⟨ι, F, S, ρ, xs, S1, sim, r, g1, fun ι1 F1 vs H1 e1 s1 r1 => ?_⟩
    match xs, h1 _ _ _ _ g1, h, r1 with
    | [x1], _, h, r1 =>
      obtain ⟨v, rfl, rv⟩ := vs_one r1
      rw [hfg] at h
      exact ⟨v, rfl, ι1, F1, S1, x1, x, S', s1, rv, h, fun ι2 F2 u H2 e2 s2 r2 => q _ _ _ _ (e1.trans e2) s2 r2⟩
  cases B with
  | fn id hv h => exact pe_ofV (pe_callB h hg hm hv ha hn hd (star_one hs [] X.env) rfl) fin
  | ty T hv h => exact pe_ofV (pe_callTy h hg hm hv ha hn hd (star_one hs [] X.env) rfl) fin
theorem s_bi2 {e2 : Expr} {f : SV → SV → Store → Out SV} {g : List SV → Store → Out SV} (B : Blt X n (rdP X.K X.mg f)) (hfg : ∀ x y S, g [x, y] S = f x y S) (hg : Gl X n) (hm : X.mg n = none) (hn : n ≠ "__name__") (hd : (n == ("__debug__" : PySem.Str)) = false)
    (ha : PA X [e, e2] (rdA X.K X.mg ts)) (h1 : ∀ ρ S xs S', ts ρ S = .ok xs S' → xs.length = 2) (hs : noStar e = true) (hs2 : noStar e2 = true) :
    PE X (.Call (.Name n p) [e, e2] [] pos) (rdE X.K X.mg fun ρ S => (ts ρ S).bind g) := by
  have fin : ∀ (ι : Plc) (F : Hp) (S : Store) (ρ : Slots) (x : SV) (S' : Store) (σ : L2.St) (H : Hp) (Q : VK), Sim X.K X.mg ι F S H → RepR X.K X.mg F ι ρ σ → (ts ρ S).bind g = .ok x S' →
      (∀ ι' F' v H', Ext ι F ι' F' → Sim X.K X.mg ι' F' S' H' → RepS X.K X.mg F' ι' x v → Q v H') → tCB (rdP X.K X.mg f) (rdA X.K X.mg ts) σ H Q := by
    intro ι F S ρ x S' σ H Q sim r hf q
    obtain ⟨xs, S1, g1, h⟩ := bind_ok hf
    refine ⟨ι, F, S, ρ, xs, S1, sim, r, g1, fun ι1 F1 vs H1 e1 s1 r1 => ?_⟩
    match xs, h1 _ _ _ _ g1, h, r1 with
    | [x1, x2], _, h, r1 =>
      obtain ⟨v, w, rfl, rv, rw'⟩ := vs_two r1
      rw [hfg] at h
      exact ⟨v, w, rfl, ι1, F1, S1, x1, x2, x, S', s1, rv, rw', h, fun ι2 F2 u H2 e2 s2 r2 => q _ _ _ _ (e1.trans e2) s2 r2⟩
  cases B with
  | fn id hv h => exact pe_ofV (pe_callB h hg hm hv ha hn hd (star_one hs [e2] X.env) (by rw [star_one hs2]; rfl)) fin
  | ty T hv h => exact pe_ofV (pe_callTy h hg hm hv ha hn hd (star_one hs [e2] X.env) (by rw [star_one hs2]; rfl)) fin

def plainIx : Expr → Bool
  | .Slice _ _ _ _ => false
  | _ => true
theorem plainIx_ok {b : Expr} (h : plainIx b = true) : ∀ o i, subscripted b false o i = operate [o, i] (getItem o i) := by
  intro o i
  cases b <;> first | rfl | simp [plainIx] at h
theorem ix_at {xs : List V} {ys : List PV} {K : PySem.W.Frag} {mg : PySem.Str → Option Value} {F : Hp} {j : Int} {n : Nat} {z : PV} (l : RepL K mg F ys xs) (h : ix? ys.length j = some n) (hz : ys[n]? = some z) : ∃ v, atI xs j = some v ∧ Rep K mg F z v := by
  obtain ⟨v, h1, h2⟩ := l.get hz
  refine ⟨v, ?_, h2⟩
  unfold atI ixN
  rw [l.length] at h
  unfold ix? at h
  by_cases h0 : 0 ≤ j
  · rw [if_pos h0] at h ⊢
    split at h
    · rename_i hl
      cases h
      rw [if_pos hl]
      exact h1
    · cases h
  · rw [if_neg h0] at h ⊢
    split at h
    · rename_i hl
      cases h
      rw [if_pos (by omega)]
      exact h1
    · cases h
theorem idx_inv {x y : SV} {S : Store} {z : SV} {S' : Store} (h : idxOp x y S = .ok z S') : S' = S ∧ ∃ w, z = .v w ∧
    ((∃ t xs j n, y = .v (.int j) ∧ seqOf S x = some (t, xs) ∧ ix? xs.length j = some n ∧ xs[n]? = some w) ∨ ∃ k kvs, y = .v (keyP k) ∧ dicR S x = some kvs ∧ keyGet (keyP k) kvs = some w) := by
  unfold idxOp at h
  cases y with
  | l n => cases h
  | ls n => cases h
  | v k =>
    simp only at h
    cases e1 : seqOf S x with
    | some p =>
      obtain ⟨t, xs⟩ := p
      rw [e1] at h
      simp only at h
      split at h
      · rename_i j
        split at h
        · rename_i n hn
          split at h
          · rename_i w hw
            cases h
            exact ⟨rfl, w, rfl, .inl ⟨t, xs, j, n, rfl, rfl, hn, hw⟩⟩
          · cases h
        · cases h
      · cases h
    | none =>
      rw [e1] at h
      simp only at h
      cases e2 : dicR S x with
      | none => rw [e2] at h; cases h
      | some kvs =>
        rw [e2] at h
        simp only at h
        split at h
        · rename_i hk
          obtain ⟨k', rfl⟩ := key_of? hk
          split at h
          · rename_i w hw
            cases h
            exact ⟨rfl, w, rfl, .inr ⟨k', kvs, rfl, rfl, hw⟩⟩
          · cases h
        · cases h
theorem s_idx (hu : X.A.units + 1 < cLine) (ha : PE X a (rdE X.K X.mg fa)) (hb : PE X b (rdE X.K X.mg fb)) (hp : plainIx b = true) : PE X (.Subscript a b pos) (rdE X.K X.mg (sIdx fa fb)) := by
  refine ⟨fun pins s σ H Q I h => ?_⟩
  obtain ⟨ι, F, S, ρ, z, S', sim, r, hf, q⟩ := h
  obtain ⟨x, S1, h1, hf⟩ := bind_ok hf
  obtain ⟨y, S2, h2, hf⟩ := bind_ok hf
  obtain ⟨rfl, w, rfl, hc⟩ := idx_inv hf
  have go : ∀ (R : V → V → Hp → Prop), (∀ ι2 F2 v u H2, Ext ι F ι2 F2 → Sim X.K X.mg ι2 F2 S' H2 → RepS X.K X.mg F2 ι2 x v → RepS X.K X.mg F2 ι2 y u → R v u H2) → rdE X.K X.mg fa σ H fun v H1 => rdE X.K X.mg fb σ H1 fun u H2 => R v u H2 := fun R hR =>
    ⟨ι, F, S, ρ, x, S1, sim, r, h1, fun ι1 F1 v H1 e1 s1 r1 => ⟨ι1, F1, S1, ρ, y, S', s1, r.mono e1, h2, fun ι2 F2 u H2 e2 s2 r2 => hR ι2 F2 v u H2 (e1.trans e2) s2 (r1.mono e2) r2⟩⟩
  rcases hc with ⟨t, xs, j, n, rfl, hs, hn, hw⟩ | ⟨k, kvs, rfl, hd, hk⟩
  · cases t with
    | true =>
      refine (pe_ix ix_list ha hb (plainIx_ok hp)).run pins s σ H Q I (go _ fun ι2 F2 v u H2 e s2 r1 r2 => ?_)
      obtain ⟨p, vs, rfl, l, hq⟩ := s2.seqL r1 hs
      obtain ⟨v, g1, g2⟩ := ix_at l hn hw
      cases r2
      exact ⟨p, vs, j, v, rfl, rfl, .inl hq, g1, q _ _ _ _ e s2 g2⟩
    | false =>
      refine (pe_ix ix_tup ha hb (plainIx_ok hp)).run pins s σ H Q I (go _ fun ι2 F2 v u H2 e s2 r1 r2 => ?_)
      obtain ⟨p, vs, rfl, l, hq⟩ := s2.seqT r1 hs
      obtain ⟨v, g1, g2⟩ := ix_at l hn hw
      cases r2
      exact ⟨p, vs, j, v, rfl, rfl, s2.sub.sqT hq.sqT, g1, q _ _ _ _ e s2 g2⟩
  · refine (pe_dget hu ha hb (plainIx_ok hp)).run pins s σ H Q I (go _ fun ι2 F2 v u H2 e s2 r1 r2 => ?_)
    obtain ⟨p, ws, rfl, hH, rd⟩ := s2.dicR r1 hd
    have := rd.get k
    rw [hk] at this
    obtain ⟨v', g1, g2⟩ := this
    have hu := keyP_rep r2
    subst hu
    exact ⟨p, v', rfl, by rw [← g1]; exact DGet_R hH, q _ _ _ _ e s2 g2⟩
def rdPart (K : PySem.W.Frag) (mg : PySem.Str → Option Value) (f : VS) : TO := fun σ H Q => ∃ ι F S ρ x o S', Sim K mg ι F S H ∧ RepR K mg F ι ρ σ ∧ f ρ S = .ok (.v x) S' ∧ part? x = some o ∧ ∀ ι' F' H', Ext ι F ι' F' → Sim K mg ι' F' S' H' → Q o H'
theorem po_mono {lo : Option Expr} {t t' : TO} (h : PO X lo t) (m : ∀ σ H Q, t' σ H Q → t σ H Q) : PO X lo t' := ⟨fun pins s σ H Q I q => h.run pins s σ H Q I (m σ H Q q)⟩
theorem s_po_none : PO X none (rdPart X.K X.mg (sK .non)) := po_mono po_none fun σ H Q h => by
  obtain ⟨ι, F, S, ρ, x, o, S', sim, r, hf, ho, q⟩ := h
  cases hf
  cases ho
  exact q _ _ _ Ext.refl sim
theorem s_po_some (ha : PE X a (rdE X.K X.mg fa)) : PO X (some a) (rdPart X.K X.mg (sPart false fa)) := po_mono (po_some ha) fun σ H Q h => by
  obtain ⟨ι, F, S, ρ, x, o, S', sim, r, hf, ho, q⟩ := h
  unfold sPart at hf
  rw [if_neg (by simp)] at hf
  obtain ⟨z, S1, h1, hf⟩ := bind_ok hf
  unfold intOnly at hf
  split at hf
  · rename_i i
    cases hf
    cases ho
    refine ⟨ι, F, S, ρ, _, _, sim, r, h1, fun ι1 F1 v H1 e1 s1 r1 => ?_⟩
    cases r1
    exact ⟨i, rfl, q _ _ _ e1 s1⟩
  · cases hf
theorem RepL.cut {K : PySem.W.Frag} {mg : PySem.Str → Option Value} {F : Hp} {xs : List PV} {vs : List V} (l : RepL K mg F xs vs) (lo hi : Option Int) : RepL K mg F (FW.cut xs lo hi) (cutV vs lo hi) := by
  unfold FW.cut cutV
  have e : ∀ (n d : Nat) (o : Option Int), sx n d o = HT.sIx n d o := fun n d o => by cases o <;> rfl
  rw [e, e, ← l.length]
  exact (l.drop _).take _
theorem s_slc {m : Bool} {lo hi : Option Expr} {fl fh : VS} {p2 : Pos} (ha : PE X a (rdE X.K X.mg fa)) (hl : PO X lo (rdPart X.K X.mg fl)) (hh : PO X hi (rdPart X.K X.mg fh)) : PE X (.Subscript a (.Slice lo hi none p2) pos) (rdE X.K X.mg (sSlc m fa fl fh)) := by
  refine ⟨fun pins s σ H Q I h => ?_⟩
  obtain ⟨ι, F, S, ρ, z, S', sim, r, hf, q⟩ := h
  obtain ⟨x, S1, h1, hf⟩ := bind_ok hf
  obtain ⟨l, S2, h2, hf⟩ := bind_ok hf
  obtain ⟨u, S3, h3, hf⟩ := bind_ok hf
  unfold slcOp at hf
  match l, u, h2, h3, hf with
  | .l _, _, h2, h3, hf => cases hf
  | .v _, .l _, h2, h3, hf => cases hf
  | .ls _, _, h2, h3, hf => cases hf
  | .v _, .ls _, h2, h3, hf => cases hf
  | .v l, .v u, h2, h3, hf =>
    simp only at hf
    split at hf
    · rename_i lo' hi' p1 p2
      cases e : seqOf S3 x with
      | none => rw [e] at hf; cases hf
      | some y =>
        obtain ⟨t, xs⟩ := y
        rw [e] at hf
        have go : ∀ (R : V → Option Int → Option Int → Hp → Prop), (∀ ι2 F2 v H2, Ext ι F ι2 F2 → Sim X.K X.mg ι2 F2 S3 H2 → RepS X.K X.mg F2 ι2 x v → R v lo' hi' H2) →
            rdE X.K X.mg fa σ H fun v H1 => rdPart X.K X.mg fl σ H1 fun a H2 => rdPart X.K X.mg fh σ H2 fun b H3 => R v a b H3 := fun R hR =>
          ⟨ι, F, S, ρ, x, S1, sim, r, h1, fun ι1 F1 v H1 e1 s1 r1 => ⟨ι1, F1, S1, ρ, l, lo', S2, s1, r.mono e1, h2, p1, fun ι2 F2 H2 e2 s2 =>
            ⟨ι2, F2, S2, ρ, u, hi', S3, s2, r.mono (e1.trans e2), h3, p2, fun ι3 F3 H3 e3 s3 => hR ι3 F3 v H3 ((e1.trans e2).trans e3) s3 (r1.mono (e2.trans e3))⟩⟩⟩
        simp only at hf
        cases t with
        | true =>
          rw [if_pos rfl] at hf
          refine (pe_slice sl_list ha hl hh).run pins s σ H Q I (go _ fun ι2 F2 v H2 e2 s2 r2 => ?_)
          obtain ⟨p, vs, rfl, ll, hq⟩ := s2.seqL r2 e
          obtain ⟨_, g⟩ := fin_mkL s2 (ll.cut lo' hi') hf fun ι3 F3 u H3 e3 s3 r3 => q _ _ _ _ (e2.trans e3) s3 r3
          exact ⟨p, vs, rfl, .inl hq, g⟩
        | false =>
          rw [if_neg (by simp)] at hf
          refine (pe_slice sl_tupN ha hl hh).run pins s σ H Q I (go _ fun ι2 F2 v H2 e2 s2 r2 => ?_)
          obtain ⟨p, vs, rfl, ll, hq⟩ := s2.seqT r2 e
          obtain ⟨_, g, g2⟩ := fin_mkT s2 (ll.cut lo' hi') hf fun ι3 F3 u H3 e3 s3 r3 => q _ _ _ _ (e2.trans e3) s3 r3
          refine ⟨p, vs, rfl, s2.sub.sqT hq.sqT, fun hw => ?_, fun _ => g⟩
          refine g2 p ?_
          have : cutV vs lo' hi' = vs := by
            unfold cutV
            rw [hw.1, hw.2, Nat.sub_zero, List.drop_zero, List.take_length]
          rw [this]; exact hq
    · cases hf
def tyName : Ty → String
  | .int => "int" | .bool => "bool" | .tuple => "tuple" | .list => "list" | .str => "str" | .dict => "dict"
def tgName : Tg → String
  | .non => "NoneType" | .bl => "bool" | .int => "int" | .str => "str" | .tup => "tuple" | .lst => "list" | .dic => "dict"
theorem tg_kit (g : Tg) (T : Ty) : kitB (tgName g) (tyName T) = some (tgIs g T) := by
  cases g <;> cases T <;> decide +kernel
theorem tg_kits {K : PySem.W.Frag} (g : Tg) : ∀ ts : List Ty, PySem.W.kitAny K (.type (tgName g)) (ts.map fun T => Value.type (tyName T)) = some (ts.any (tgIs g))
  | [] => kitAny_nil
  | T :: ts => by
    rw [List.map_cons, List.any_cons]
    refine kitAny_cons (kit_ty (tg_kit g T)) (fun h => ?_) (fun h => ?_)
    · rw [h, Bool.false_or]; exact tg_kits g ts
    · rw [h, Bool.true_or]
theorem tg_ty {K : PySem.W.Frag} {mg : PySem.Str → Option Value} {ι : Plc} {F H : Hp} {S : Store} {x : SV} {v : V} {g : Tg} (sim : Sim K mg ι F S H) (r : RepS K mg F ι x v) (h : tgOf S x = some g) : TyX K H v (.type (tgName g)) := by
  cases x with
  | v x =>
    cases x with
    | non => cases h; cases r; exact .base .non
    | bl b => cases h; cases r; exact .base (.bl _)
    | int i => cases h; cases r; exact .base (.int _)
    | str s => cases h; obtain ⟨rfl, _⟩ := r; exact .base (.str _)
    | tup xs =>
      cases h
      obtain ⟨p, vs, rfl, l, q⟩ := sim.seqT r rfl
      rcases sim.sub.sqT q.sqT with (q | ⟨o, q⟩) | ⟨o, its, n, q1, q2, _⟩
      · exact .base (.tup q)
      · exact .fTuple q
      · exact .kTuple q1 q2
    | lst xs =>
      cases h
      obtain ⟨p, vs, rfl, l, q⟩ := sim.seqL r rfl
      rcases q with q | ⟨o, q⟩
      · exact .base (.lst q)
      · exact .base (.frz q)
    | fn _ => cases h
    | dic _ _ => cases h; obtain ⟨p, od, ws, rfl, hp, _⟩ := r; exact .fDict (sim.sub _ _ hp)
  | l n =>
    simp only [tgOf] at h
    split at h
    · rename_i xs e
      cases h
      obtain ⟨p, vs, rfl, l, q⟩ := sim.seqL (x := .l n) (xs := xs) r (by simp only [seqOf, e])
      rcases q with q | ⟨o, q⟩
      · exact .base (.lst q)
      · exact .base (.frz q)
    · rename_i kvs e
      cases h
      obtain ⟨n, p, ws, hn, hι, hS, rfl, hF, hH, rd⟩ := sim.dic (x := .l n) (kvs := kvs) r (by simp only [dicOf, e])
      exact .base (.dK hH)
    · cases h
  | ls _ => cases h
theorem is_inv {S : Store} {x : SV} {ts : List Ty} {z : SV} {S' : Store} (h : ofOpt (isTys S x ts) S = .ok z S') : ∃ g, tgOf S x = some g ∧ z = .v (.bl (ts.any (tgIs g))) ∧ S' = S := by
  unfold isTys at h
  cases e : tgOf S x with
  | none => rw [e] at h; cases h
  | some g => rw [e] at h; cases h; exact ⟨g, rfl, rfl, rfl⟩
theorem boot_ty : ∀ T : Ty, bootBuiltins (PySem.Str.ofString (tyName T)) = some (.type (tyName T)) := by
  intro T
  cases T <;> decide +kernel
theorem pe_ty {T : Ty} (hg : Gl X (PySem.Str.ofString (tyName T))) (hm : X.mg (PySem.Str.ofString (tyName T)) = none) : PE X (.Name (PySem.Str.ofString (tyName T)) p) (tC (.ty (tyName T))) :=
  pe_bltn hg hm (boot_ty T) rfl (by cases T <;> decide) (by cases T <;> decide)
theorem boot_isi : bootBuiltins "isinstance" = some (.builtin "isinstance") := by decide +kernel
theorem s_isi1 {T : Ty} {p1 : Pos} (hg : Gl X "isinstance") (hm : X.mg "isinstance" = none) (ha : PE X a (rdE X.K X.mg fa)) (hs : noStar a = true) (hgT : Gl X (PySem.Str.ofString (tyName T))) (hmT : X.mg (PySem.Str.ofString (tyName T)) = none) :
    PE X (.Call (.Name "isinstance" p) [a, .Name (PySem.Str.ofString (tyName T)) p1] [] pos) (rdE X.K X.mg (sIsi [T] fa)) := by
  refine pe_ofV (pe_callB call_isi hg hm boot_isi (pa_cons ha (pa_cons (pe_ty hgT hmT) pa_nil) (star_one hs _ _)) (by decide) (by decide) (star_one hs _ _) rfl) fun ι F S ρ z S' σ H Q sim r hf q => ?_
  obtain ⟨x, S1, h1, h⟩ := bind_ok hf
  obtain ⟨g, hg, rfl, rfl⟩ := is_inv h
  refine ⟨ι, F, S, ρ, x, S', sim, r, h1, fun ι1 F1 v H1 e1 s1 r1 => ?_⟩
  exact ⟨v, .ty (tyName T), _, _, _, rfl, .ty _, tg_ty s1 r1 hg, kit_ty (by rw [tg_kit]), by have := q _ _ _ _ e1 s1 rfl; simpa using this⟩
theorem paired_tys : ∀ ts : List Ty, Paired ClsV (ts.map fun T => V.ty (tyName T)) (ts.map fun T => Value.type (tyName T))
  | [] => .nil
  | T :: ts => .cons (.ty _) (paired_tys ts)
theorem pa_tys : ∀ {ts : List Ty} {es : List Expr}, (∀ i : Nat, ∀ e, es[i]? = some e → ∃ T p, ts[i]? = some T ∧ e = .Name (PySem.Str.ofString (tyName T)) p) → es.length = ts.length →
    (∀ T ∈ ts, Gl X (PySem.Str.ofString (tyName T)) ∧ X.mg (PySem.Str.ofString (tyName T)) = none) → PA X es (fun _ H Q => Q (ts.map fun T => V.ty (tyName T)) H)
  | [], [], _, _, _ => pa_nil
  | T :: ts, e :: es, h, hl, hg => by
    obtain ⟨T', p, h1, rfl⟩ := h 0 e rfl
    cases h1
    have ih := pa_tys (ts := ts) (es := es) (fun i e he => by simpa using h (i + 1) e (by simpa using he)) (by simpa using hl) (fun T hT => hg T (List.mem_cons_of_mem _ hT))
    exact pa_mono (pa_cons (pe_ty (hg T List.mem_cons_self).1 (hg T List.mem_cons_self).2) ih) fun σ H Q q => q
  | [], _ :: _, _, hl, _ => by simp at hl
  | _ :: _, [], _, hl, _ => by simp at hl
theorem s_isi {ts' : List Ty} {es' : List Expr} {k : Nat} {p1 : Pos} (hg : Gl X "isinstance") (hm : X.mg "isinstance" = none) (ha : PE X a (rdE X.K X.mg fa)) (hs : noStar a = true)
    (h : ∀ i : Nat, ∀ e, es'[i]? = some e → ∃ T p, ts'[i]? = some T ∧ e = .Name (PySem.Str.ofString (tyName T)) p) (hl : es'.length = ts'.length) (hgT : ∀ T ∈ ts', Gl X (PySem.Str.ofString (tyName T)) ∧ X.mg (PySem.Str.ofString (tyName T)) = none) (h8 : ts'.length ≤ 8) :
    PE X (.Call (.Name "isinstance" p) [a, .Tuple es' k p1] [] pos) (rdE X.K X.mg (sIsi ts' fa)) := by
  refine pe_ofV (pe_callB call_isiT hg hm boot_isi (pa_cons ha (pa_cons (pe_tup (pa_tys h hl hgT)) pa_nil) (star_one hs _ _)) (by decide) (by decide) (star_one hs _ _) rfl) fun ι F S ρ z S' σ H Q sim r hf q => ?_
  obtain ⟨x, S1, h1, h⟩ := bind_ok hf
  obtain ⟨g, hg, rfl, rfl⟩ := is_inv h
  refine ⟨ι, F, S, ρ, x, S', sim, r, h1, fun ι1 F1 v H1 e1 s1 r1 => ?_⟩
  refine ⟨by rw [List.length_map, sizeLine_eq]; omega, fun tp hp => ?_⟩
  obtain ⟨s2, e2⟩ := s1.newF (o := .tup (ts'.map fun T => V.ty (tyName T))) hp
  refine ⟨v, tp, _, _, ts'.map fun T => Value.type (tyName T), _, rfl, upd_same, ?_, tg_ty s2 (r1.mono e2) hg, tg_kits g ts', q _ _ _ _ (e1.trans e2) s2 rfl⟩
  exact paired_tys ts'
end
end FW

namespace FW
open PySem PySem.Spec PyProof.Rows L2
mutual
theorem eqv_same : ∀ {x y : PV}, alikeP x y = true → eqv x y = true → x = y
  | .non, y, h, _ => by cases y <;> simp only [alikeP, Bool.false_eq_true] at h; rfl
  | .bl _, y, h, e => by cases y <;> simp only [alikeP, Bool.false_eq_true] at h; simp [eqv] at e; rw [e]
  | .int _, y, h, e => by cases y <;> simp only [alikeP, Bool.false_eq_true] at h; simp [eqv] at e; rw [e]
  | .str _, y, h, e => by cases y <;> simp only [alikeP, Bool.false_eq_true] at h; simp [eqv] at e; rw [e]
  | .lst xs, y, h, e => by cases y <;> simp only [alikeP, Bool.false_eq_true] at h; simp only [eqv] at e; rw [eqvs_same h e]
  | .tup xs, y, h, e => by cases y <;> simp only [alikeP, Bool.false_eq_true] at h; simp only [eqv] at e; rw [eqvs_same h e]
  | .fn _, y, h, _ => by cases y <;> simp only [alikeP, Bool.false_eq_true] at h
  | .dic _ _, y, h, _ => by cases y <;> simp only [alikeP, Bool.false_eq_true] at h
theorem eqvs_same : ∀ {xs ys : List PV}, alikePs xs ys = true → eqvs xs ys = true → xs = ys
  | [], ys, _, e => by cases ys <;> simp [eqvs] at e; rfl
  | x :: xs, [], _, e => by simp [eqvs] at e
  | x :: xs, y :: ys, h, e => by
    simp only [alikePs, eqvs, Bool.and_eq_true] at h e
    rw [eqv_same h.1 e.1, eqvs_same h.2 e.2]
end
theorem leD_anti {x y : PV} (ha : alikeP x y = true) (h1 : leD x y = true) (h2 : leD y x = true) : x = y := by
  refine eqv_same ha ?_
  rw [leD_eq, Bool.not_eq_true'] at h1 h2
  have k : PySem.W.keyToks (pd x) = PySem.W.keyToks (pd y) := (listOrd itemOrd).total _ _ h2 h1
  cases e : eqv x y with
  | true => rfl
  | false =>
    rw [← pd_eqv] at e
    have := (PySem.W.toks_eqv _ _ (alike_pd ha)).2 e [] [.inl 0]
    have p := PySem.W.lex_pre (PySem.W.keyToks (pd y)) [] [.inl 0]
    have q := PySem.W.lex_pre (PySem.W.keyToks (pd y)) [] []
    rw [List.append_nil] at this p q
    rw [k, p] at this
    rw [q] at this
    exact absurd this (by decide)
theorem sorted_one {l m : List PV} (ha : ∀ x ∈ l, ∀ y ∈ l, alikeP x y = true) (p : l.Perm m) (h1 : l.Pairwise (fun a b => leD a b = true)) (h2 : m.Pairwise (fun a b => leD a b = true)) : l = m := by
  induction l generalizing m with
  | nil => exact p.nil_eq
  | cons x l ih =>
    cases m with
    | nil => have := p.length_eq; simp at this
    | cons y m =>
      have e : x = y := by
        rcases List.mem_cons.mp (p.mem_iff.mp List.mem_cons_self) with e | hx
        · exact e
        · rcases List.mem_cons.mp (p.mem_iff.mpr (List.mem_cons_self (a := y) (l := m))) with e | hy
          · exact e.symm
          · exact leD_anti (ha x List.mem_cons_self y (List.mem_cons_of_mem _ hy)) ((List.pairwise_cons.mp h1).1 y hy) ((List.pairwise_cons.mp h2).1 x hx)
      subst e
      rw [ih (fun a ha' b hb' => ha a (List.mem_cons_of_mem _ ha') b (List.mem_cons_of_mem _ hb')) p.cons_inv (List.pairwise_cons.mp h1).2 (List.pairwise_cons.mp h2).2]
theorem any_eqv {x : PV} {l : List PV} (ha : ∀ y ∈ l, alikeP y x = true) (hx : eqv x x = true) : (l.any fun y => eqv y x) = true ↔ x ∈ l := by
  rw [List.any_eq_true]
  constructor
  · rintro ⟨y, hy, e⟩
    rw [← eqv_same (ha y hy) e]
    exact hy
  · intro h
    exact ⟨x, h, hx⟩
theorem mem_dedup : ∀ {l : List PV}, (∀ x ∈ l, ∀ y ∈ l, alikeP x y = true) → (∀ x ∈ l, eqv x x = true) → ∀ {x : PV}, x ∈ dedup l ↔ x ∈ l
  | [], _, _, _ => by simp [dedup]
  | y :: r, ha, hr, x => by
    have ih := mem_dedup (l := r) (fun a ha' b hb' => ha a (List.mem_cons_of_mem _ ha') b (List.mem_cons_of_mem _ hb')) (fun a h => hr a (List.mem_cons_of_mem _ h)) (x := x)
    unfold dedup
    split
    · rename_i h
      rw [ih, List.mem_cons]
      constructor
      · exact .inr
      · rintro (rfl | h2)
        · exact (any_eqv (fun z hz => ha z (List.mem_cons_of_mem _ hz) _ List.mem_cons_self) (hr _ List.mem_cons_self)).mp h
        · exact h2
    · rw [List.mem_cons, ih, List.mem_cons]
theorem nodup_dedup : ∀ {l : List PV}, (∀ x ∈ l, ∀ y ∈ l, alikeP x y = true) → (∀ x ∈ l, eqv x x = true) → (dedup l).Nodup
  | [], _, _ => by simp [dedup]
  | y :: r, ha, hr => by
    have a' : ∀ a ∈ r, ∀ b ∈ r, alikeP a b = true := fun a ha' b hb' => ha a (List.mem_cons_of_mem _ ha') b (List.mem_cons_of_mem _ hb')
    have r' : ∀ a ∈ r, eqv a a = true := fun a h => hr a (List.mem_cons_of_mem _ h)
    have ih := nodup_dedup a' r'
    unfold dedup
    split
    · exact ih
    · rename_i h
      refine List.nodup_cons.mpr ⟨fun hm => h ?_, ih⟩
      exact (any_eqv (fun z hz => ha z (List.mem_cons_of_mem _ hz) _ List.mem_cons_self) (hr _ List.mem_cons_self)).mpr ((mem_dedup a' r').mp hm)
theorem set_sorted {ys zs : List PV} (ha : ∀ x ∈ ys, ∀ y ∈ ys, alikeP x y = true) (hr : ∀ x ∈ ys, eqv x x = true) (h1 : zs.Pairwise (fun a b => leD a b = true)) (h2 : zs.Nodup) (h3 : ∀ x, x ∈ zs ↔ x ∈ ys) : isortK (dedup ys) = zs := by
  have hd : ∀ x, x ∈ dedup ys ↔ x ∈ ys := fun x => mem_dedup ha hr
  have aa : allAlike (dedup ys) = true := List.all_eq_true.mpr fun x hx => List.all_eq_true.mpr fun y hy => ha x ((hd x).mp hx) y ((hd y).mp hy)
  rw [isortK_eq aa]
  have pm := List.mergeSort_perm (dedup ys) leD
  refine sorted_one (fun x hx y hy => ha x ((hd x).mp (pm.mem_iff.mp hx)) y ((hd y).mp (pm.mem_iff.mp hy))) ?_ (PySem.W.sort_pairwise leD_total _) h1
  exact pm.trans ((List.perm_ext_iff_of_nodup (nodup_dedup ha hr) h2).mpr fun x => (hd x).trans (h3 x).symm)
theorem allInt_ints : ∀ {ys : List PV}, allInt ys = true → ∃ ns : List Int, ys = ns.map .int
  | [], _ => ⟨[], rfl⟩
  | y :: ys, h => by
    cases y <;> simp only [allInt, Bool.false_eq_true] at h
    obtain ⟨ns, rfl⟩ := allInt_ints h
    exact ⟨_ :: ns, rfl⟩
theorem ints_sorted {ns ns' : List Int} (h1 : ns'.Pairwise (· < ·)) (h2 : ∀ k, k ∈ ns' ↔ k ∈ ns) : isortK (dedup (ns.map .int)) = ns'.map .int := by
  refine set_sorted (fun x hx y hy => ?_) (fun x hx => ?_) ?_ ?_ fun x => ?_
  · obtain ⟨a, _, rfl⟩ := List.mem_map.mp hx
    obtain ⟨b, _, rfl⟩ := List.mem_map.mp hy
    rfl
  · obtain ⟨a, _, rfl⟩ := List.mem_map.mp hx
    simp [eqv]
  · refine List.pairwise_map.mpr (h1.imp fun {a b} h => ?_)
    rw [leD_eq]
    simp only [pd, PySem.W.dataLt_int]
    simp
    omega
  · refine List.Pairwise.map _ (fun a b h => ?_) h1
    intro e
    injection e with e
    have h' : a < b := h
    omega
  · rw [List.mem_map, List.mem_map]
    constructor
    · rintro ⟨a, ha, rfl⟩; exact ⟨a, (h2 a).mp ha, rfl⟩
    · rintro ⟨a, ha, rfl⟩; exact ⟨a, (h2 a).mpr ha, rfl⟩
section
variable {X : Cx}
theorem RepL.vints {K : PySem.W.Frag} {mg : PySem.Str → Option Value} {F : Hp} : ∀ {ns : List Int} {vs : List V}, RepL K mg F (ns.map .int) vs → vs = ns.map V.int
  | [], _, r => by cases r; rfl
  | n :: ns, _, ⟨v, t, e, a, b⟩ => by subst e; cases a; rw [RepL.vints b]; rfl
theorem inv_laid {pins : List (Addr × Obj)} {σ : L2.St} {H : Hp} {s s' : Shared} {p : Addr} {vs : List V} {us : List Value} {c : Nat} (I : Inv X pins σ H s) (k : ∀ b u, s.heap.get? b = some u → s'.heap.get? b = some u) (hg : s'.gens = s.gens) (ho : s'.os = s.os) (hp : s.heap.objs.size ≤ p)
    (hv : Vals vs us) (hz : vs.length ≤ sizeLine) (hn : s'.heap.get? p = some (seqObj "list" us.toArray c)) : Inv X pins σ (upd H p (.lst vs)) s' :=
  I.call' (ch := []) ho (Un.laid k hp (I.hok.fresh hp)) (I.hok.laid k hp ⟨hz, us, c, hv, hn⟩) (by rw [hg]; exact I.bare) (fun _ z => nomatch z)
theorem ints_of_vals : ∀ {ns : List Int} {us : List Value}, IntsAre us ns → Vals (ns.map V.int) us
  | _, _, .nil => .nil
  | _, _, .cons k t h => .cons ⟨t, rfl⟩ (ints_of_vals h)
theorem set_ints {pins : List (Addr × Obj)} {σ : L2.St} {H : Hp} {s : Shared} {E : Value → Shared → Prop} {p : Addr} {ns : List Int} {Q : Value → Shared → Prop} (hc : X.calm = true) (I : Inv X pins σ H s) (hq : SqT X.K H p (ns.map V.int)) (hl : ns.length < 64)
    (h : ∀ (a : Addr) (s1 : Shared) (c : Nat), SetR X.w s1.heap a (fun j => decide (j ∈ ns)) c → c ≤ ns.length → Inv X pins σ H s1 → Q (.ref a) s1) : wpAny (model X.prog X.w) X.A (call (.type "set") [.ref p]) Q E s := by
  obtain ⟨its, rvs, ht, hz⟩ := I.tuple hq
  refine call_set_tupI (P := X.prog) (w := X.w) ns (I.ok.hd hc) ht (by simpa using rvs.ints) (by unfold scanBound; omega) fun h' tk c R hcn hk => ?_
  exact h _ _ c R hcn (I.kept hk)
abbrev set0 (w : World) : Obj := { cls := .type "set", dict := none, data := .set #[] 0 (.fresh 0 0 (!w.params.followText "set-order")) }
set_option maxHeartbeats 8000000 in
theorem make_set {P : Program} {w : World} {A : Around} {E : Value → Shared → Prop} {s : Shared} {t : Addr} {its : Array Value} (rows : List (Addr × List Int)) {Q : Value → Shared → Prop} (calm : A.handled = none) (ht : s.heap.IsTuple t its) (hi : its.toList = rows.map fun q => Value.ref q.1)
    (hk : ∀ q ∈ rows, IsT P w s.heap q.2 q.1) (few : rows.length < 64) (hu : A.units + 3 < cLine)
    (done : ∀ (g : Heap) (tk : Nat) L es ep tab, SetTR P w g s.heap.objs.size L es ep tab → Got rows rows.length L → (∀ b o, s.heap.get? b = some o → g.get? b = some o) → Q (.ref s.heap.objs.size) { s with heap := g, toks := tk }) :
    wpAny (model P w) A (call (.type "set") [.ref t]) Q E s := by
  have hsz : its.size = rows.length := by have := congrArg List.length hi; simpa using this
  obtain ⟨_, _, mro⟩ := F.called_set.mro
  have made := F.called_set.made
  have sub := F.called_set.sub
  refine wpAny_call (codeAny_of_tree ?_)
  show wpAny (model P w) _ (callAny (Value.type "set") _) _ _ s
  refine wpAny_pure ⟨Code.quiet_builtin _ (by decide +kernel), codeAny_builtin F.entry_type_call ?_⟩
  rw [Around.under_plain (weight_type_call_type "set" [Value.ref t] []) rfl]
  have nt := F.called_set.notType
  have cc := F.called_set.canCreate
  have tc := F.typeCall_set_1 (.ref t)
  repeat (any_goals (first | assumption | wp_step))
  refine codeAny_mono (code_set_led1 (.ref t) (E := E) (Q₁ := fun o1 s1 => o1 = .ref s.heap.objs.size ∧ s1 = { s with heap := s.heap.push (set0 w) }) ⟨rfl, rfl⟩) fun r1 s1 hr1 => ?_
  rcases r1 with e1 | fl1
  · exact hr1
  cases fl1 with
  | ret o1 =>
    obtain ⟨rfl, rfl⟩ := hr1
    have there : (s.heap.push (set0 w)).get? s.heap.objs.size = some (set0 w) := Heap.get?_push_size _ rfl
    have ty : Shared.TypeIs { s with heap := s.heap.push (set0 w) } (Value.ref s.heap.objs.size) "set" := ⟨_, there, rfl⟩
    have il := F.called_set.init.lookup
    have ib := F.called_set.init.bind (Value.ref s.heap.objs.size)
    repeat (any_goals (first | assumption | wp_step))
    refine codeAny_mono (codeAny_call_builtin (R := wants (fun r2 s2 => r2 = .none ∧ ∃ g tk L es ep tab, s2 = { s with heap := g, toks := tk } ∧ SetTR P w g s.heap.objs.size L es ep tab ∧ Got rows rows.length L ∧ (∀ b o, s.heap.get? b = some o → g.get? b = some o)) E)
      F.called_set.init.plain F.entry_set_init (check_set_init_1 ty ?_)) fun r2 s2 hr2 => ?_
    · obtain ⟨ob, hob, hcl, n, hdt⟩ := ht
      obtain ⟨cl, dc, dt, sl⟩ := ob
      simp only at hcl hdt
      subst hcl hdt
      have hob1 : (s.heap.push (set0 w)).get? t = some { cls := .type "tuple", dict := dc, data := .seq its n, slots := sl } := Heap.get?_push_of_some _ hob
      have no1 := F.sub_tuple_set
      have no2 := F.sub_tuple_frozenset
      have no3 : (Value.type "tuple" == Value.type "dict") = false := by decide
      have tup1 : (s.heap.push (set0 w)).IsTuple t its := ⟨_, hob1, rfl, n, rfl⟩
      have lt : t < s.heap.objs.size := Heap.lt_size hob
      have calm3 : A.in1.in1.in1.handled = none := by simp [calm]
      have size1 : (s.heap.push (set0 w)).objs.size = s.heap.objs.size + 1 := Heap.size_push ..
      have apart : t ≠ (s.heap.push (set0 w)).objs.size := by rw [size1]; exact Nat.ne_of_lt (Nat.lt_succ_of_lt lt)
      have gone : ∀ b, s.heap.objs.size ≤ b → s.heap.get? b = none := fun b hb => by
        cases e : s.heap.get? b with
        | none => rfl
        | some o => exact absurd (Heap.lt_size e) (Nat.not_lt_of_le hb)
      have item : ∀ (i : Nat) (v : Value), its[i]? = some v → ∃ q, rows[i]? = some q ∧ v = .ref q.1 := fun i v hv => by
        have e : its.toList[i]? = some v := by rw [Array.getElem?_toList]; exact hv
        rw [hi, List.getElem?_map, Option.map_eq_some_iff] at e
        obtain ⟨q, e1, e2⟩ := e
        exact ⟨q, e1, e2.symm⟩
      unfold Builtin.«set.__init__» noKeywords Builtin.Frozenset.updateFrom
      generalize hIt : pyIter = it
      wp_walk
      subst hIt
      refine wpAny_pyIter_tuple tup1 (wpAny_bind (wpAny_runValue ?_))
      refine set_update_tups (Walks.tuple calm3 _ t apart its).toS s.heap.objs.size (by rw [size1]; simp only [List.mem_cons, List.not_mem_nil, or_false, not_or]; exact ⟨Nat.ne_of_lt (Nat.lt_succ_self _), Nat.ne_of_gt lt⟩) rows hsz few item s.heap hk (gone _ (Nat.le_refl _)) (fun b hb => gone b (by rw [List.mem_singleton.mp hb, size1]; exact Nat.le_succ _)) hu its.size 0 _ (by omega) (Nat.zero_le _)
        ⟨⟨_, Heap.get?_push_size _ rfl, rfl, rfl⟩, tup1.push _⟩ (fun b o e => Heap.get?_push_of_some _ (Heap.get?_push_of_some _ e)) ⟨[], #[], 0, _, setTR_fresh (Heap.get?_push_of_some _ there), Got.zero rows⟩ fun s3 L es ep tab mv hS got kp => ?_
      obtain ⟨g3, gens3, dr3, tk3, os3⟩ := s3
      obtain rfl : gens3 = s.gens := mv.gens
      obtain rfl : dr3 = s.drawn := mv.drawn
      obtain rfl : os3 = s.os := mv.os
      rw [hsz] at got
      show wpAny _ _ _ _ _ _
      refine wpAny_pure ?_
      show wpAny _ _ (ret Value.none) _ _ _
      exact wpAny_pure ⟨rfl, g3, tk3, L, es, ep, tab, rfl, hS, got, kp⟩
    · rcases r2 with e2 | fl2
      · exact hr2
      cases fl2 with
      | ret r =>
        obtain ⟨rfl, g, tk, L, es, ep, tab, rfl, hS, got, kp⟩ := hr2
        repeat (any_goals (first | assumption | wp_step))
        exact done _ _ _ _ _ _ hS got kp
      | _ => exact hr2.elim
  | _ => exact hr1.elim
end
end FW

namespace FW
open PySem PySem.Spec PyProof.Rows L2
theorem perm_back {α β : Type} {f : α → β} : ∀ {l m : List β}, l.Perm m → ∀ {L : List α}, m = L.map f → ∃ L1 : List α, L1.Perm L ∧ l = L1.map f
  | _, _, .nil, L, e => by
    cases L with
    | nil => exact ⟨[], .refl _, rfl⟩
    | cons a L => cases e
  | _, _, .cons x p, L, e => by
    cases L with
    | nil => cases e
    | cons a L =>
      rw [List.map_cons, List.cons.injEq] at e
      obtain ⟨rfl, e⟩ := e
      obtain ⟨L1, p1, rfl⟩ := perm_back p e
      exact ⟨a :: L1, p1.cons a, rfl⟩
  | _, _, .swap x y l, L, e => by
    match L, e with
    | a :: b :: L, e =>
      rw [List.map_cons, List.map_cons, List.cons.injEq, List.cons.injEq] at e
      obtain ⟨rfl, rfl, rfl⟩ := e
      exact ⟨b :: a :: L, .swap _ _ _, rfl⟩
  | _, _, .trans p q, L, e => by
    obtain ⟨L1, p1, e1⟩ := perm_back q e
    obtain ⟨L2, p2, e2⟩ := perm_back p e1
    exact ⟨L2, p2.trans p1, e2⟩
theorem short_perm {α : Type} {a b : List α} (p : a.Perm b) (h : b.length < 2) : a = b := by
  match b, h with
  | [], _ => exact p.eq_nil
  | [x], _ => exact List.perm_singleton.mp p
  | _ :: _ :: _, h => simp at h; omega
def tupI (k : List Int) : PV := .tup (k.map .int)
theorem alike_tupI (k l : List Int) : alikeP (tupI k) (tupI l) = true := by
  show alikePs (k.map .int) (l.map .int) = true
  induction k generalizing l with
  | nil => cases l <;> rfl
  | cons a k ih =>
    cases l with
    | nil => rfl
    | cons b l => show (true && alikePs _ _) = true; rw [ih]; rfl
theorem eqv_tupI (k : List Int) : eqv (tupI k) (tupI k) = true := by
  show eqvs (k.map .int) (k.map .int) = true
  induction k with
  | nil => rfl
  | cons a k ih => show (decide (a = a) && eqvs _ _) = true; rw [ih]; simp
theorem map_int_inj : ∀ {a b : List Int}, a.map PV.int = b.map .int → a = b
  | [], [], _ => rfl
  | [], _ :: _, h => by cases h
  | _ :: _, [], h => by cases h
  | x :: a, y :: b, h => by
    rw [List.map_cons, List.map_cons, List.cons.injEq] at h
    obtain ⟨h1, h2⟩ := h
    injection h1 with h1
    rw [h1, map_int_inj h2]
theorem tupI_inj {k l : List Int} (h : tupI k = tupI l) : k = l := map_int_inj (PV.tup.inj h)
theorem rows_sorted {ks : List (List Int)} {L : List (List Int)} (h1 : L.Pairwise fun k l => leD (tupI k) (tupI l) = true) (h2 : L.Nodup) (h3 : ∀ k, k ∈ L ↔ k ∈ ks) : isortK (dedup (ks.map tupI)) = L.map tupI := by
  refine set_sorted (fun x hx y hy => ?_) (fun x hx => ?_) (List.pairwise_map.mpr h1) ?_ fun x => ?_
  · obtain ⟨a, _, rfl⟩ := List.mem_map.mp hx
    obtain ⟨b, _, rfl⟩ := List.mem_map.mp hy
    exact alike_tupI a b
  · obtain ⟨a, _, rfl⟩ := List.mem_map.mp hx
    exact eqv_tupI a
  · exact List.Pairwise.map _ (fun a b h e => h (tupI_inj e)) h2
  · rw [List.mem_map, List.mem_map]
    constructor
    · rintro ⟨a, ha, rfl⟩; exact ⟨a, (h3 a).mp ha, rfl⟩
    · rintro ⟨a, ha, rfl⟩; exact ⟨a, (h3 a).mpr ha, rfl⟩
theorem allIntT_rows : ∀ {ys : List PV}, allIntT ys = true → ∃ ks : List (List Int), ys = ks.map tupI
  | [], _ => ⟨[], rfl⟩
  | y :: ys, h => by
    cases y <;> simp only [allIntT, Bool.false_eq_true] at h
    rw [Bool.and_eq_true] at h
    obtain ⟨ns, rfl⟩ := allInt_ints h.1
    obtain ⟨ks, rfl⟩ := allIntT_rows h.2
    exact ⟨ns :: ks, rfl⟩
theorem rows_rep {K : PySem.W.Frag} {mg : PySem.Str → Option Value} {F : Hp} : ∀ {ks : List (List Int)} {ws : List V}, RepL K mg F (ks.map tupI) ws → ∃ L : List (Addr × List Int), L.map (·.2) = ks ∧ ws = L.map (fun q => V.ref q.1) ∧ ∀ q ∈ L, SqN K F q.1 (q.2.map V.int)
  | [], _, r => by cases r; exact ⟨[], rfl, rfl, fun q h => by cases h⟩
  | k :: ks, _, ⟨v, t, e, a, b⟩ => by
    subst e
    obtain ⟨p, vs, rfl, hq, hr⟩ := a
    obtain ⟨L, e1, e2, h⟩ := rows_rep b
    rw [RepL.vints hr] at hq
    refine ⟨(p, k) :: L, by rw [List.map_cons, e1], by rw [List.map_cons, e2], fun q hm => ?_⟩
    rcases List.mem_cons.mp hm with rfl | hm
    · exact hq
    · exact h q hm
theorem rep_rows {K : PySem.W.Frag} {mg : PySem.Str → Option Value} {F : Hp} : ∀ {L : List (Addr × List Int)}, (∀ q ∈ L, SqN K F q.1 (q.2.map V.int)) → RepL K mg F ((L.map (·.2)).map tupI) (L.map fun q => V.ref q.1)
  | [], _ => rfl
  | q :: L, h => by
    refine ⟨V.ref q.1, _, rfl, ⟨q.1, q.2.map V.int, rfl, h q List.mem_cons_self, ?_⟩, rep_rows fun r hr => h r (List.mem_cons_of_mem _ hr)⟩
    have : ∀ ns : List Int, RepL K mg F (ns.map .int) (ns.map V.int) := fun ns => by
      induction ns with
      | nil => rfl
      | cons n ns ih => exact ⟨V.int n, _, rfl, rfl, ih⟩
    exact this q.2
theorem reads_rows {P : Program} {w : World} {h : Heap} {k : List Int} {b : Addr} (x : IsT P w h k b) : Reads h (.ref b) (pd (tupI k)) [] := by
  obtain ⟨o, items, n, ho, hc, hd, hi⟩ := x
  refine .tuple ho hc hd ?_
  have := ints_of_items hi
  generalize items.toList = l at this
  clear hd hi ho hc
  induction this with
  | nil => exact .nil
  | cons k t _ ih => exact .cons (.int k t) ih
theorem depth_rows (k : List Int) : (pd (tupI k)).depth ≤ 1 := pd_depth (by show dpLes 0 (k.map .int) = true; induction k with | nil => rfl | cons a k ih => show (true && dpLes 0 (k.map .int)) = true; rw [ih]; rfl)
section
variable {P : Program} {w : World} {A : Around} {E : Value → Shared → Prop} {s : Shared}
theorem sorted_rows {a : Addr} {L : List (Addr × List Int)} {es : Array (Int × Value)} {ep : Nat} {tab : SetTable} {Q : Value → Shared → Prop} (R : SetTR P w s.heap a L es ep tab) (calm : A.handled = none) (hu : A.units + 64 < cLine) (hne : L.length < 2 ∨ ∀ q ∈ L, q.2 ≠ [])
    (done : ∀ s' p (c : Nat) (M : List (Addr × List Int)), (∀ b o, s.heap.get? b = some o → s'.heap.get? b = some o) → s'.gens = s.gens → s'.os = s.os → s.heap.objs.size ≤ p → s'.heap.get? p = some (seqObj "list" (M.map fun q => Value.ref q.1).toArray c) → M.Perm L →
      (M.Pairwise fun q r => leD (tupI q.2) (tupI r.2) = true) → Q (.ref p) s') : wpAny (model P w) A (call (.builtin "sorted") [.ref a]) Q E s := by
  obtain ⟨o, ho, hex, hd⟩ := R.ob
  have few := R.few
  have size := R.size
  refine Calls.call_function_entry kind_sorted plain_sorted entry_sorted (args_sorted1 _) ?_
  unfold Builtin.«sorted»
  refine wpAny_bind (m := checkCount "sorted" 1 1 _) (wpAny_pure ?_)
  refine wpAny_bind (collect_set (A := A.in1) calm ⟨o, ho, hex.1, hd⟩ R.fits (by unfold scanBound; omega) R.tab.ris R.led fun s1 vs keep grow hg ho' pm => ?_)
  have rows : es.toList.map (·.2) = L.map fun q => Value.ref q.1 := by rw [R.rows]; unfold rowsOf; rw [List.map_map]; rfl
  rw [rows] at pm
  obtain ⟨L1, p1, rfl⟩ := perm_back pm rfl
  have hl1 : L1.length < 64 := by rw [p1.length_eq]; exact few
  have hvl : (L1.map fun q => Value.ref q.1).length < 64 := by rw [List.length_map]; exact hl1
  refine wpAny_bind (wpAny_newList ?_ (by rw [sizeLine_eq]; omega))
  have new : (s1.heap.push (seqObj "list" (L1.map fun q => Value.ref q.1).toArray 0)).get? s1.heap.objs.size = some (seqObj "list" (L1.map fun q => Value.ref q.1).toArray 0) := Heap.get?_push_size _ rfl
  have fin : ∀ M : List (Addr × List Int), M.Perm L → (M.Pairwise fun q r => leD (tupI q.2) (tupI r.2) = true) → Q (.ref s1.heap.objs.size) { s1 with heap := sortedHeap (s1.heap.push (seqObj "list" (L1.map fun q => Value.ref q.1).toArray 0)) s1.heap.objs.size (L1.map fun q => Value.ref q.1) (M.map fun q => Value.ref q.1).toArray } := fun M pM sM => by
    obtain ⟨c, hc⟩ := sortedHeap_at (vs := L1.map fun q => Value.ref q.1) (out := (M.map fun q => Value.ref q.1).toArray) new
    refine done _ s1.heap.objs.size c M (fun b u e => ?_) hg ho' grow hc pM sM
    have e1 := keep b u e
    have lt := Heap.lt_size e1
    show (sortedHeap _ _ _ _).get? b = some u
    rw [sortedHeap_old (Nat.ne_of_lt lt) (by rw [size_push']; exact Nat.lt_succ_of_lt lt)]
    exact Heap.get?_push_of_some _ e1
  by_cases h2 : L1.length < 2
  · refine wpAny_bind (wpAny_holding (wpAny_call_entry slot_list_sort ⟨_, new, rfl⟩ entry_list_sort (SrtO.list_sort_ord (ltv := fun _ _ => false) ⟨fun _ _ h => (by cases h), fun _ _ _ _ _ => rfl⟩ new (by rw [sizeLine_eq]; omega) (fun h3 => absurd h3 (by rw [List.length_map]; omega)) fun out _ hb => ⟨_, rfl, ?_⟩) (args_list_sort _)))
    have eo : out = L1.map fun q => Value.ref q.1 := short_perm hb.perm (by rw [List.length_map]; exact h2)
    rw [eo]
    refine wpAny_pure ⟨_, rfl, fin L1 p1 ?_⟩
    match L1, h2 with
    | [], _ => exact .nil
    | [q], _ => exact List.pairwise_singleton _ _
    | _ :: _ :: _, h => simp at h; omega
  · have hall : ∀ q ∈ L1, q.2 ≠ [] := fun q hq => (hne.resolve_left (by rw [← p1.length_eq]; exact h2)) q (p1.mem_iff.mp hq)
    have each : ∀ {Z : Value → (Addr × List Int) → Prop} {M : List (Addr × List Int)}, (∀ q ∈ M, Z (.ref q.1) q) → PySem.W.EachIs Z (M.map fun q => Value.ref q.1) M := fun {Z M} h => by
      induction M with
      | nil => exact .nil
      | cons q M ih => exact .cons (h q List.mem_cons_self) (ih fun r hr => h r (List.mem_cons_of_mem _ hr))
    have back : ∀ {out : List Value} {M : List (Addr × List Int)}, PySem.W.EachIs (fun v (q : Addr × List Int) => v = Value.ref q.1) out M → out = M.map fun q => Value.ref q.1 := fun {out M} h => by
      induction h with
      | nil => rfl
      | cons e _ ih => rw [e, ih]; rfl
    refine wpAny_bind (wpAny_holding (PySem.W.list_sort_data (bs := L1) (enc := fun q => pd (tupI q.2)) (R := fun v q => v = Value.ref q.1) new (each fun _ _ => rfl) (each fun q hq => ⟨[], reads_rows (isT_keep (R.tup q (p1.mem_iff.mp hq)) fun b u e => Heap.get?_push_of_some _ (keep b u e)), fun h => by cases h⟩)
      (fun d hd d' hd' => ?_) (.inl fun d hd => ?_) (by rw [sizeLine_eq]; omega) (fun q hq => ?_) fun out hlen eo => ?_))
    · obtain ⟨q, _, rfl⟩ := List.mem_map.mp hd
      obtain ⟨r, _, rfl⟩ := List.mem_map.mp hd'
      exact alike_pd (alike_tupI q.2 r.2)
    · obtain ⟨q, hq, rfl⟩ := List.mem_map.mp hd
      have := hall q hq
      cases e : q.2 with
      | nil => exact absurd e this
      | cons x r => exact ⟨.int x, pds (r.map .int), rfl⟩
    · have := depth_rows q.2
      show A.in1.units + 1 + _ < cLine
      have hi : A.in1.units ≤ A.units + 1 := Nat.le_refl _
      omega
    · rw [back eo]
      refine wpAny_pure ⟨_, rfl, fin _ ((List.mergeSort_perm _ _).trans p1) ?_⟩
      exact PySem.W.sort_pairwise (le := PySem.W.dataLe false fun q : Addr × List Int => pd (tupI q.2)) (PySem.W.sortLe_total _ _ _) L1
end
section
set_option maxHeartbeats 8000000 in
theorem make_setLI {P : Program} {w : World} {A : Around} {E : Value → Shared → Prop} {s : Shared} {t : Addr} {its : Array Value} (ns : List Int) {Q : Value → Shared → Prop} (calm : A.handled = none) (ht : s.heap.IsList t its) (hi : IntsAre its.toList ns) (hb : ns.length + 1 < scanBound)
    (done : ∀ (g : Heap) (tk c : Nat), SetR w g s.heap.objs.size (fun j => decide (j ∈ ns)) c → c ≤ ns.length → (∀ b o, s.heap.get? b = some o → g.get? b = some o) → Q (.ref s.heap.objs.size) { s with heap := g, toks := tk }) :
    wpAny (model P w) A (call (.type "set") [.ref t]) Q E s := by
  have hsz : its.size = ns.length := by
    have q := IntsAre.length hi
    rw [Array.length_toList] at q
    exact q
  obtain ⟨_, _, mro⟩ := F.called_set.mro
  have made := F.called_set.made
  have sub := F.called_set.sub
  refine wpAny_call (codeAny_of_tree ?_)
  show wpAny (model P w) _ (callAny (Value.type "set") _) _ _ s
  refine wpAny_pure ⟨Code.quiet_builtin _ (by decide +kernel), codeAny_builtin F.entry_type_call ?_⟩
  rw [Around.under_plain (weight_type_call_type "set" [Value.ref t] []) rfl]
  have nt := F.called_set.notType
  have cc := F.called_set.canCreate
  have tc := F.typeCall_set_1 (.ref t)
  repeat (any_goals (first | assumption | wp_step))
  refine codeAny_mono (code_set_led1 (.ref t) (E := E) (Q₁ := fun o1 s1 => o1 = .ref s.heap.objs.size ∧ s1 = { s with heap := s.heap.push (set0 w) }) ⟨rfl, rfl⟩) fun r1 s1 hr1 => ?_
  rcases r1 with e1 | fl1
  · exact hr1
  cases fl1 with
  | ret o1 =>
    obtain ⟨rfl, rfl⟩ := hr1
    have there : (s.heap.push (set0 w)).get? s.heap.objs.size = some (set0 w) := Heap.get?_push_size _ rfl
    have ty : Shared.TypeIs { s with heap := s.heap.push (set0 w) } (Value.ref s.heap.objs.size) "set" := ⟨_, there, rfl⟩
    have il := F.called_set.init.lookup
    have ib := F.called_set.init.bind (Value.ref s.heap.objs.size)
    repeat (any_goals (first | assumption | wp_step))
    refine codeAny_mono (codeAny_call_builtin (R := wants (fun r2 s2 => r2 = .none ∧ ∃ g tk c, s2 = { s with heap := g, toks := tk } ∧ SetR w g s.heap.objs.size (fun j => decide (j ∈ ns)) c ∧ c ≤ ns.length ∧ (∀ b o, s.heap.get? b = some o → g.get? b = some o)) E)
      F.called_set.init.plain F.entry_set_init (check_set_init_1 ty ?_)) fun r2 s2 hr2 => ?_
    · obtain ⟨ob, hob, hcl, n, hdt⟩ := ht
      obtain ⟨cl, dc, dt, sl⟩ := ob
      simp only at hcl hdt
      subst hcl hdt
      have hob1 : (s.heap.push (set0 w)).get? t = some { cls := .type "list", dict := dc, data := .seq its n, slots := sl } := Heap.get?_push_of_some _ hob
      have no1 := F.sub_list_set
      have no2 := F.sub_list_frozenset
      have no3 : (Value.type "list" == Value.type "dict") = false := by decide
      have tup1 : (s.heap.push (set0 w)).IsList t its := ⟨_, hob1, rfl, n, rfl⟩
      have lt : t < s.heap.objs.size := Heap.lt_size hob
      have calm3 : A.in1.in1.in1.handled = none := by simp [calm]
      have size1 : (s.heap.push (set0 w)).objs.size = s.heap.objs.size + 1 := Heap.size_push ..
      have apart : t ≠ (s.heap.push (set0 w)).objs.size := by rw [size1]; exact Nat.ne_of_lt (Nat.lt_succ_of_lt lt)
      have hval : ∀ (i : Nat) (v : Value), its[i]? = some v → ∃ k t, ns[i]? = some k ∧ v = .int k t := fun i v hv => by
        have hi2 : i < ns.length := by rw [← hsz]; exact (Array.getElem?_eq_some_iff.mp hv).1
        obtain ⟨t, e⟩ := PyProof.Rows.IntsAre.int_at hi i v (by rw [Array.getElem?_toList]; exact hv)
        refine ⟨ns[i], t, List.getElem?_eq_getElem hi2, ?_⟩
        rw [e, List.getD_eq_getElem?_getD, List.getElem?_eq_getElem hi2] <;> rfl
      unfold Builtin.«set.__init__» noKeywords Builtin.Frozenset.updateFrom
      generalize hIt : pyIter = it
      wp_walk
      subst hIt
      refine wpAny_pyIter_list tup1 (wpAny_bind (wpAny_runValue ?_))
      refine set_update_ints (Walks.list calm3 _ t apart its).toS s.heap.objs.size (by rw [size1]; simp only [List.mem_cons, List.not_mem_nil, or_false, not_or]; exact ⟨Nat.ne_of_lt (Nat.lt_succ_self _), Nat.ne_of_gt lt⟩) ns hsz hb hval (its.size - 0) 0 _ (by omega) (Nat.zero_le _)
        ⟨⟨_, Heap.get?_push_size _ rfl, rfl, rfl⟩, tup1.push _⟩ ⟨0, Nat.le_refl 0, setR_new_at (Heap.get?_push_of_some _ there)⟩ fun s3 c mv hc hS => ?_
      obtain ⟨g3, gens3, dr3, tk3, os3⟩ := s3
      obtain rfl : gens3 = s.gens := mv.gens
      obtain rfl : dr3 = s.drawn := mv.drawn
      obtain rfl : os3 = s.os := mv.os
      rw [hsz] at hc
      show wpAny _ _ _ _ _ _
      refine wpAny_pure ?_
      show wpAny _ _ (ret Value.none) _ _ _
      refine wpAny_pure ⟨rfl, g3, tk3, c, rfl, hS, hc, fun b o e => ?_⟩
      have hb0 : b < s.heap.objs.size := Heap.lt_size e
      exact mv.heap b o (by
        simp only [List.mem_cons, List.not_mem_nil, or_false, not_or]
        exact ⟨Nat.ne_of_lt hb0, by rw [size1]; exact Nat.ne_of_lt (Nat.lt_succ_of_lt hb0)⟩) (Heap.get?_push_of_some _ (Heap.get?_push_of_some _ e))
    · rcases r2 with e2 | fl2
      · exact hr2
      cases fl2 with
      | ret r =>
        obtain ⟨rfl, g, tk, c, rfl, hS, hcc, kp⟩ := hr2
        repeat (any_goals (first | assumption | wp_step))
        exact done _ _ _ hS hcc kp
      | _ => exact hr2.elim
  | _ => exact hr1.elim
end
section
variable {X : Cx} {e : Expr} {p p2 q pos : Pos} {f : VS}
theorem setOk_few {ys : List PV} (h : setOk ys = true) : ys.length < 64 := by
  unfold setOk at h
  rw [Bool.and_eq_true] at h
  exact of_decide_eq_true h.1
theorem call_set {pins : List (Addr × Obj)} {σ : L2.St} {H F : Hp} {s : Shared} {E : Value → Shared → Prop} {t : Addr} {ys : List PV} {ws : List V} {Q : Value → Shared → Prop} (hc : X.calm = true) (hu : X.A.units + 65 < cLine) (I : Inv X pins σ H s) (hs : Sub F H) (r : RepL X.K X.mg F ys ws) (hq : SqT X.K F t ws) (hok : setOk ys = true)
    (hi : ∀ (a : Addr) (s1 : Shared) (c : Nat) (ns : List Int), ys = ns.map .int → SetR X.w s1.heap a (fun j => decide (j ∈ ns)) c → c ≤ ns.length → Inv X pins σ H s1 → Q (.ref a) s1)
    (ht : ∀ (a : Addr) (s1 : Shared) (ks : List (List Int)) (L : List (Addr × List Int)) es ep tab, ys = ks.map tupI → SetTR X.prog X.w s1.heap a L es ep tab → (∀ k, k ∈ L.map (·.2) ↔ k ∈ ks) → (∀ q ∈ L, SqN X.K F q.1 (q.2.map V.int)) → Inv X pins σ H s1 → Q (.ref a) s1) :
    wpAny (model X.prog X.w) X.A (call (.type "set") [.ref t]) Q E s := by
  have few := setOk_few hok
  unfold setOk at hok
  rw [Bool.and_eq_true, Bool.or_eq_true, Bool.and_eq_true] at hok
  rcases hok.2 with h1 | ⟨h1, _⟩
  · obtain ⟨ns, rfl⟩ := allInt_ints h1
    rw [RepL.vints r] at hq
    exact set_ints hc I (hs.sqT hq) (by simpa using few) fun a s1 c R hcn I1 => hi a s1 c ns rfl R hcn I1
  · obtain ⟨ks, rfl⟩ := allIntT_rows h1
    obtain ⟨L0, e1, e2, h0⟩ := rows_rep r
    subst e2
    obtain ⟨its, rv, pl, hz⟩ := I.tuple (hs.sqT hq)
    refine make_set (P := X.prog) (w := X.w) L0 (I.ok.hd hc) pl (by simpa using refs_of_vals rv) (fun q hm => I.isT (hs.sqT (h0 q hm).sqT)) (by rw [← e1, List.length_map, List.length_map] at few; exact few) (by omega) fun g tk L es ep tab R got kp => ?_
    have sub : ∀ q ∈ L, q ∈ L0 := fun q hm => List.mem_of_mem_take (got.sub q hm)
    refine ht _ _ ks L es ep tab rfl R (fun k => ?_) (fun q hm => h0 q (sub q hm)) (I.kept kp)
    rw [← e1]
    constructor
    · intro hk
      obtain ⟨q, hm, rfl⟩ := List.mem_map.mp hk
      exact List.mem_map.mpr ⟨q, sub q hm, rfl⟩
    · intro hk
      obtain ⟨q, hm, rfl⟩ := List.mem_map.mp hk
      exact got.all q (by rw [List.take_length]; exact hm)
theorem s_sortedSet {m : Bool} (hc : X.calm = true) (hu : X.A.units + 65 < cLine) (hg : Gl X "sorted") (hm : X.mg "sorted" = none) (hg2 : Gl X "set") (hm2 : X.mg "set" = none) (ha : PE X e (rdE X.K X.mg f)) (hs : noStar e = true) :
    PE X (.Call (.Name "sorted" p) [.Call (.Name "set" p2) [e] [] q] [] pos) (rdE X.K X.mg fun ρ S => (f ρ S).bind fun x S1 => bSortedSet m x S1) := by
  have na : starEach [e] X.env = (false, eval e X.env) :: starEach [] X.env := star_one hs [] X.env
  refine ⟨fun pins s σ H Q I h => ?_⟩
  obtain ⟨ι, F, S, ρ, z, S', sim, r, hz, fin⟩ := h
  obtain ⟨x, S1, h1, hz⟩ := bind_ok hz
  refine Call_ (ld_blt I hg hm PyProof.Rows.boot_sorted ?_)
  refine PyProof.Rows.callWith_builtin1 (PyProof.Rows.args_cons ?_ rfl) rfl rfl
  refine Call_ (ld_blt I hg2 hm2 PyProof.Rows.boot_set ?_)
  refine PyProof.Rows.callWith_type1 (PyProof.Rows.args_cons (thn (ha.run pins s σ H (fun v H1 => ∃ ι1 F1, Ext ι F ι1 F1 ∧ Sim X.K X.mg ι1 F1 S1 H1 ∧ RepS X.K X.mg F1 ι1 x v) I ⟨ι, F, S, ρ, x, S1, sim, r, h1, fun ι1 F1 v H1 e1 s1 r1 => ⟨ι1, F1, e1, s1, r1⟩⟩) fun u s1 ⟨v, H1, I1, rv, ι1, F1, e1, sim1, r1⟩ => PyProof.Rows.args_nil ?_) na) na rfl
  unfold bSortedSet at hz
  split at hz
  · rename_i ys hseq
    split at hz
    · rename_i hok
      obtain ⟨t, ws, rfl, rl, hq⟩ := sim1.seqT r1 hseq
      cases rv
      have few := setOk_few hok
      refine call_set hc hu I1 sim1.sub rl hq.sqT hok (fun a s2 c ns ey R hcn I2 => ?_) fun a s2 ks L es ep tab ey R hmem hrow I2 => ?_
      · subst ey
        rw [List.length_map] at few
        refine PyProof.Rows.args_nil ?_
        refine sorted_set R (I2.ok.hd hc) (by omega) fun s3 p' out c' ns' keep hgn hos hsz hp hia hpw hmm hlen => ?_
        have eq := ints_sorted hpw (ns := ns) fun k => (hmm k).trans (by simp)
        rw [eq] at hz
        obtain ⟨hl, go⟩ := fin_mkL (vs := ns'.map V.int) sim1 (by
          have : ∀ l : List Int, RepL X.K X.mg F1 (l.map .int) (l.map V.int) := fun l => by
            induction l with
            | nil => rfl
            | cons n l ih => exact ⟨V.int n, _, rfl, rfl, ih⟩
          exact this ns') hz fun ι2 F2 u H2 e2 s2 r2 => fin ι2 F2 u H2 (e1.trans e2) s2 r2
        exact ⟨.ref p', _, inv_laid I2 keep hgn hos hsz (ints_of_vals hia) hl (by simpa using hp), rfl, go p' (I2.hok.fresh hsz)⟩
      · subst ey
        have hnd := R.nd
        have hne : L.length < 2 ∨ ∀ q ∈ L, q.2 ≠ [] := by
          unfold setOk at hok
          rw [Bool.and_eq_true, Bool.or_eq_true, Bool.and_eq_true] at hok
          rcases hok.2 with h | ⟨_, h⟩
          · cases ks with
            | nil =>
              left
              cases L with
              | nil => simp
              | cons q L => have := (hmem q.2).mp (by simp); simp at this
            | cons k ks => cases h
          · unfold sortOk at h
            rw [Bool.and_eq_true, Bool.or_eq_true] at h
            rcases h.2 with h | h
            · left
              have hk : ks.length < 2 := by simpa using h
              match ks, hk with
              | [], _ =>
                cases L with
                | nil => simp
                | cons q L => have := (hmem q.2).mp (by simp); simp at this
              | [k], _ =>
                match L, hnd, hmem with
                | [], _, _ => simp
                | [q], _, _ => simp
                | q :: q' :: L, hnd, hmem =>
                  have a1 := (hmem q.2).mp (by simp)
                  have a2 := (hmem q'.2).mp (by simp)
                  simp only [List.mem_singleton] at a1 a2
                  rw [List.map_cons, List.map_cons, List.nodup_cons] at hnd
                  exact absurd (by rw [a1, a2]; exact List.mem_cons_self) hnd.1
              | _ :: _ :: _, hk => simp at hk; omega
            · right
              intro q hq hnil
              have hk := (hmem q.2).mp (List.mem_map.mpr ⟨q, hq, rfl⟩)
              rw [Bool.and_eq_true, Bool.and_eq_true, Bool.or_eq_true] at h
              have hmemy : tupI q.2 ∈ ks.map tupI := List.mem_map.mpr ⟨_, hk, rfl⟩
              rcases h.1.2 with h | h
              · have := List.all_eq_true.mp h _ hmemy
                rw [hnil] at this
                cases this
              · have := List.all_eq_true.mp h _ hmemy
                cases this
        refine PyProof.Rows.args_nil ?_
        refine sorted_rows R (I2.ok.hd hc) (by omega) hne fun s3 p' c M keep hgn hos hsz hp pM sM => ?_
        have hMk : (M.map (·.2)).Nodup := (pM.map (·.2)).nodup_iff.mpr hnd
        have eq := rows_sorted (ks := ks) (L := M.map (·.2)) (List.pairwise_map.mpr sM) hMk fun k => by rw [(pM.map (·.2)).mem_iff]; exact hmem k
        rw [eq] at hz
        obtain ⟨hl, go⟩ := fin_mkL (vs := M.map fun q => V.ref q.1) sim1 (rep_rows fun q hm => hrow q (pM.mem_iff.mp hm)) hz fun ι2 F2 u H2 e2 s2 r2 => fin ι2 F2 u H2 (e1.trans e2) s2 r2
        exact ⟨.ref p', _, inv_laid I2 keep hgn hos hsz (vals_of_refs M) hl hp, rfl, go p' (I2.hok.fresh hsz)⟩
    · cases hz
  · rename_i ys hseq
    split at hz
    · rename_i hok
      rw [Bool.and_eq_true, decide_eq_true_eq] at hok
      obtain ⟨few, hI⟩ := hok
      obtain ⟨t, ws, rfl, rl, hq⟩ := sim1.seqL r1 hseq
      cases rv
      obtain ⟨ns, rfl⟩ := allInt_ints hI
      rw [RepL.vints rl] at hq
      obtain ⟨_, its, n, rvv, _, hget⟩ := Inv.rdL I1 hq
      rw [List.length_map] at few
      refine make_setLI (P := X.prog) (w := X.w) ns (I1.ok.hd hc) ⟨_, hget, rfl, n, rfl⟩ (by simpa using rvv.ints) (by unfold scanBound; omega) fun g tk c R hcn kp => ?_
      have I2 : Inv X pins σ H1 { s1 with heap := g, toks := tk } := I1.kept kp
      refine PyProof.Rows.args_nil ?_
      refine sorted_set (s := { s1 with heap := g, toks := tk }) R (I2.ok.hd hc) (by omega) fun s3 p' out c' ns' keep hgn hos hsz hp hia hpw hmm hlen => ?_
      have eq := ints_sorted hpw (ns := ns) fun k => (hmm k).trans (by simp)
      rw [eq] at hz
      obtain ⟨hl, go⟩ := fin_mkL (vs := ns'.map V.int) sim1 (by
        have : ∀ l : List Int, RepL X.K X.mg F1 (l.map .int) (l.map V.int) := fun l => by
          induction l with
          | nil => rfl
          | cons n l ih => exact ⟨V.int n, _, rfl, rfl, ih⟩
        exact this ns') hz fun ι2 F2 u H2 e2 s2 r2 => fin ι2 F2 u H2 (e1.trans e2) s2 r2
      exact ⟨.ref p', _, inv_laid I2 keep hgn hos hsz (ints_of_vals hia) hl (by simpa using hp), rfl, go p' (I2.hok.fresh hsz)⟩
    · cases hz
  · cases hz
end
end FW

namespace FW
open PySem PySem.Spec PyProof.Rows L2
section
variable {P : Program} {w : World} {A : Around}
theorem rows_in {I S : Addr} {fp wr : List Addr} {G : Array GenState → Array GenState → Prop} {Pv : Nat → Value → Prop} {St : Nat → Shared → Prop} {R : Result → Shared → Prop} (rows : List (Addr × List Int)) (W : WalksS P w A.in1 I fp wr G rows.length Pv St) (out : S ∉ fp)
    (few : ∀ i L, i < rows.length → Got rows i L → (L.map (·.2)).Nodup → L.length + 1 < 64) (val : ∀ i v, Pv i v → ∃ q, rows[i]? = some q ∧ v = .ref q.1) (base : Heap) (tup : ∀ q ∈ rows, IsT P w base q.2 q.1) (noS : base.get? S = none) (noW : ∀ b ∈ wr, base.get? b = none) (hu : A.in1.units < cLine) (s0 : Shared)
    (fin : ∀ s' L es ep t, Moved (S :: wr) G s0 s' → SetTR P w s'.heap S L es ep t → Got rows rows.length L → (∀ b o, base.get? b = some o → s'.heap.get? b = some o) → R (.ok (.ret .none)) s') :
    ∀ (k i : Nat) (s : Shared), rows.length - i = k → i ≤ rows.length → St i s → (∀ b o, base.get? b = some o → s.heap.get? b = some o) → Moved (S :: wr) G s0 s → (∃ L es ep t, SetTR P w s.heap S L es ep t ∧ Got rows i L) →
      codeAny (model P w) A (.builtin "set.update.loop" ⟨[.ref S, .ref I], []⟩) R s := by
  have Sw : S ∉ wr := fun z => out (W.sub _ z)
  have stay : ∀ {s s' : Shared}, Moved wr G s s' → (∀ b o, base.get? b = some o → s.heap.get? b = some o) → ∀ b o, base.get? b = some o → s'.heap.get? b = some o := fun mv kp b o e => by
    refine mv.heap b o (fun z => ?_) (kp b o e)
    rw [noW b z] at e
    cases e
  have wide : ∀ {s s' : Shared}, Moved wr G s s' → Moved (S :: wr) G s s' := fun mv => mv.mono fun b z => List.mem_cons_of_mem _ z
  have rowIn : ∀ {i : Nat} {L : List (Addr × List Int)}, Got rows i L → ∀ q ∈ L, q ∈ rows := fun g q hq => List.mem_of_mem_take (g.sub q hq)
  intro k
  induction k with
  | zero =>
    rintro i s ek le st kp mv ⟨L, es, ep, t, T, g⟩
    obtain rfl : i = rows.length := by omega
    refine codeAny_builtin PyProof.Rows.F.entry_set_update_loop ?_
    rw [Around.under_plainId PyProof.Rows.F.plain_set_update_loop _]
    show wpAny _ A.in1 (pyNext (.ref I) >>= _) _ _ _
    refine wpAny_bind (W.done s _ _ st fun s1 m1 => wpAny_pure (fin s1 L es ep t (Moved.trans W.gtrans mv (wide m1)) ?_ g (stay m1 kp)))
    exact T.keep (fun o e => m1.heap S o Sw e) fun q hq => isT_keep (tup q (rowIn g q hq)) (stay m1 kp)
  | succ k ih =>
    rintro i s ek le st kp mv ⟨L, es, ep, t, T, g⟩
    have lt : i < rows.length := by omega
    refine codeAny_builtin PyProof.Rows.F.entry_set_update_loop ?_
    rw [Around.under_plainId PyProof.Rows.F.plain_set_update_loop _]
    show wpAny _ A.in1 (pyNext (.ref I) >>= _) _ _ _
    refine wpAny_bind (W.item i s _ _ lt st fun v s1 pv st1 m1 => ?_)
    obtain ⟨q, hq, rfl⟩ := val i v pv
    have kp1 := stay m1 kp
    have T1 : SetTR P w s1.heap S L es ep t := T.keep (fun o e => m1.heap S o Sw e) fun r hr => isT_keep (tup r (rowIn g r hr)) kp1
    have isq : IsT P w s1.heap q.2 q.1 := isT_keep (tup q (List.mem_of_getElem? hq)) kp1
    show wpAny _ A.in1 (holding [Value.ref q.1] (setAdd S (.ref q.1)) >>= _) _ _ _
    refine wpAny_bind (wpAny_holding ?_)
    unfold setAdd
    refine wpAny_holding (wpAny_bind (wpAny_pyHash_tuple hu isq ?_))
    refine add_at (s := { s1 with toks := s1.toks + (q.2.length + 1) }) T1 isq hu (few i L lt g T.nd) fun b h2 L2 es2 ep2 t2 but T2 old new => ?_
    have g2 : Got rows (i + 1) L2 := (Classical.em (q.2 ∈ L.map (·.2))).elim (fun c => by rw [old c]; exact g.same hq c) fun c => g.more hq (new c)
    have kp2 : ∀ b o, base.get? b = some o → h2.get? b = some o := fun b o e => by
      rw [but.2 b fun z => by rw [z, noS] at e; cases e]
      exact kp1 b o e
    have st2 := W.frame (i + 1) s1 h2 (s1.toks + (q.2.length + 1)) st1 (Nat.le_add_right _ _) fun b hb o e => by
      rw [but.2 b fun z => out (z ▸ hb)]
      exact e
    have mv2 : Moved (S :: wr) G s { s1 with heap := h2, toks := s1.toks + (q.2.length + 1) } := (wide m1).then_heap (Nat.le_add_right _ _) fun b o hb e => by
      rw [but.2 b fun z => hb (by rw [z]; exact List.mem_cons_self)]
      exact e
    exact wpAny_pure ⟨plainId_quiet PyProof.Rows.F.plain_set_update_loop _, ih (i + 1) _ (by omega) lt st2 kp2 (Moved.trans W.gtrans mv mv2) ⟨L2, es2, ep2, t2, T2, g2⟩⟩
end
section
set_option maxHeartbeats 8000000 in
theorem make_setL {P : Program} {w : World} {A : Around} {E : Value → Shared → Prop} {s : Shared} {t : Addr} {its : Array Value} (rows : List (Addr × List Int)) {Q : Value → Shared → Prop} (calm : A.handled = none) (ht : s.heap.IsList t its) (hi : its.toList = rows.map fun q => Value.ref q.1)
    (hk : ∀ q ∈ rows, IsT P w s.heap q.2 q.1) (few : ∀ i L, i < rows.length → Got rows i L → (L.map (·.2)).Nodup → L.length + 1 < 64) (hu : A.units + 3 < cLine)
    (done : ∀ (g : Heap) (tk : Nat) L es ep tab, SetTR P w g s.heap.objs.size L es ep tab → Got rows rows.length L → (∀ b o, s.heap.get? b = some o → g.get? b = some o) → Q (.ref s.heap.objs.size) { s with heap := g, toks := tk }) :
    wpAny (model P w) A (call (.type "set") [.ref t]) Q E s := by
  have hsz : its.size = rows.length := by have := congrArg List.length hi; simpa using this
  obtain ⟨_, _, mro⟩ := F.called_set.mro
  have made := F.called_set.made
  have sub := F.called_set.sub
  refine wpAny_call (codeAny_of_tree ?_)
  show wpAny (model P w) _ (callAny (Value.type "set") _) _ _ s
  refine wpAny_pure ⟨Code.quiet_builtin _ (by decide +kernel), codeAny_builtin F.entry_type_call ?_⟩
  rw [Around.under_plain (weight_type_call_type "set" [Value.ref t] []) rfl]
  have nt := F.called_set.notType
  have cc := F.called_set.canCreate
  have tc := F.typeCall_set_1 (.ref t)
  repeat (any_goals (first | assumption | wp_step))
  refine codeAny_mono (code_set_led1 (.ref t) (E := E) (Q₁ := fun o1 s1 => o1 = .ref s.heap.objs.size ∧ s1 = { s with heap := s.heap.push (set0 w) }) ⟨rfl, rfl⟩) fun r1 s1 hr1 => ?_
  rcases r1 with e1 | fl1
  · exact hr1
  cases fl1 with
  | ret o1 =>
    obtain ⟨rfl, rfl⟩ := hr1
    have there : (s.heap.push (set0 w)).get? s.heap.objs.size = some (set0 w) := Heap.get?_push_size _ rfl
    have ty : Shared.TypeIs { s with heap := s.heap.push (set0 w) } (Value.ref s.heap.objs.size) "set" := ⟨_, there, rfl⟩
    have il := F.called_set.init.lookup
    have ib := F.called_set.init.bind (Value.ref s.heap.objs.size)
    repeat (any_goals (first | assumption | wp_step))
    refine codeAny_mono (codeAny_call_builtin (R := wants (fun r2 s2 => r2 = .none ∧ ∃ g tk L es ep tab, s2 = { s with heap := g, toks := tk } ∧ SetTR P w g s.heap.objs.size L es ep tab ∧ Got rows rows.length L ∧ (∀ b o, s.heap.get? b = some o → g.get? b = some o)) E)
      F.called_set.init.plain F.entry_set_init (check_set_init_1 ty ?_)) fun r2 s2 hr2 => ?_
    · obtain ⟨ob, hob, hcl, n, hdt⟩ := ht
      obtain ⟨cl, dc, dt, sl⟩ := ob
      simp only at hcl hdt
      subst hcl hdt
      have hob1 : (s.heap.push (set0 w)).get? t = some { cls := .type "list", dict := dc, data := .seq its n, slots := sl } := Heap.get?_push_of_some _ hob
      have no1 := F.sub_list_set
      have no2 := F.sub_list_frozenset
      have no3 : (Value.type "list" == Value.type "dict") = false := by decide
      have tup1 : (s.heap.push (set0 w)).IsList t its := ⟨_, hob1, rfl, n, rfl⟩
      have lt : t < s.heap.objs.size := Heap.lt_size hob
      have calm3 : A.in1.in1.in1.handled = none := by simp [calm]
      have size1 : (s.heap.push (set0 w)).objs.size = s.heap.objs.size + 1 := Heap.size_push ..
      have apart : t ≠ (s.heap.push (set0 w)).objs.size := by rw [size1]; exact Nat.ne_of_lt (Nat.lt_succ_of_lt lt)
      have gone : ∀ b, s.heap.objs.size ≤ b → s.heap.get? b = none := fun b hb => by
        cases e : s.heap.get? b with
        | none => rfl
        | some o => exact absurd (Heap.lt_size e) (Nat.not_lt_of_le hb)
      have item : ∀ (i : Nat) (v : Value), its[i]? = some v → ∃ q, rows[i]? = some q ∧ v = .ref q.1 := fun i v hv => by
        have e : its.toList[i]? = some v := by rw [Array.getElem?_toList]; exact hv
        rw [hi, List.getElem?_map, Option.map_eq_some_iff] at e
        obtain ⟨q, e1, e2⟩ := e
        exact ⟨q, e1, e2.symm⟩
      unfold Builtin.«set.__init__» noKeywords Builtin.Frozenset.updateFrom
      generalize hIt : pyIter = it
      wp_walk
      subst hIt
      refine wpAny_pyIter_list tup1 (wpAny_bind (wpAny_runValue ?_))
      have walk := Walks.toS (prog := P) (w := w) (Walks.list calm3 (s.heap.push (set0 w)).objs.size t apart its)
      rw [hsz] at walk
      refine rows_in (S := s.heap.objs.size) rows walk (by rw [size1]; simp only [List.mem_cons, List.not_mem_nil, or_false, not_or]; exact ⟨Nat.ne_of_lt (Nat.lt_succ_self _), Nat.ne_of_gt lt⟩) few item s.heap hk (gone _ (Nat.le_refl _)) (fun b hb => gone b (by rw [List.mem_singleton.mp hb, size1]; exact Nat.le_succ _)) hu _ (fun s3 L es ep tab mv hS got kp => ?_) rows.length 0 _ (Nat.sub_zero _) (Nat.zero_le _)
        ⟨⟨_, Heap.get?_push_size _ rfl, rfl, rfl⟩, tup1.push _⟩ (fun b o e => Heap.get?_push_of_some _ (Heap.get?_push_of_some _ e)) (Moved.refl walk.grefl) ⟨[], #[], 0, _, setTR_fresh (Heap.get?_push_of_some _ there), Got.zero rows⟩
      obtain ⟨g3, gens3, dr3, tk3, os3⟩ := s3
      obtain rfl : gens3 = s.gens := mv.gens
      obtain rfl : dr3 = s.drawn := mv.drawn
      obtain rfl : os3 = s.os := mv.os
      show wpAny _ _ _ _ _ _
      refine wpAny_pure ?_
      show wpAny _ _ (ret Value.none) _ _ _
      exact wpAny_pure ⟨rfl, g3, tk3, L, es, ep, tab, rfl, hS, got, kp⟩
    · rcases r2 with e2 | fl2
      · exact hr2
      cases fl2 with
      | ret r =>
        obtain ⟨rfl, g, tk, L, es, ep, tab, rfl, hS, got, kp⟩ := hr2
        repeat (any_goals (first | assumption | wp_step))
        exact done _ _ _ _ _ _ hS got kp
      | _ => exact hr2.elim
  | _ => exact hr1.elim
end
section
variable {X : Cx} {e : Expr} {p p2 q pos : Pos} {f : VS}
theorem dedup_tup {ks ls : List (List Int)} (hn : ls.Nodup) (hm : ∀ k, k ∈ ls ↔ k ∈ ks) : (dedup (ks.map tupI)).length = ls.length := by
  have ha : ∀ x ∈ ks.map tupI, ∀ y ∈ ks.map tupI, alikeP x y = true := fun x hx y hy => by
    obtain ⟨a, _, rfl⟩ := List.mem_map.mp hx
    obtain ⟨b, _, rfl⟩ := List.mem_map.mp hy
    exact alike_tupI a b
  have hr : ∀ x ∈ ks.map tupI, eqv x x = true := fun x hx => by
    obtain ⟨a, _, rfl⟩ := List.mem_map.mp hx
    have : ∀ l : List Int, eqvs (l.map .int) (l.map .int) = true := fun l => by
      induction l with
      | nil => rfl
      | cons i l ih =>
        show (eqv (.int i) (.int i) && eqvs (l.map .int) (l.map .int)) = true
        rw [ih]
        simp [eqv]
    exact this a
  have inj : ∀ a b : List Int, tupI a = tupI b → a = b := fun a b h => by
    have h : a.map PV.int = b.map PV.int := PV.tup.inj h
    exact List.map_inj_right (fun x y e => PV.int.inj e) |>.mp h
  have hp : (dedup (ks.map tupI)).Perm (ls.map tupI) := by
    refine (List.perm_ext_iff_of_nodup (nodup_dedup ha hr) ?_).mpr fun x => ?_
    · exact List.pairwise_map.mpr (hn.imp fun {a b} hne e => hne (inj a b e))
    · rw [mem_dedup ha hr, List.mem_map, List.mem_map]
      constructor
      · rintro ⟨a, h, rfl⟩
        exact ⟨a, (hm a).mpr h, rfl⟩
      · rintro ⟨a, h, rfl⟩
        exact ⟨a, (hm a).mp h, rfl⟩
  rw [hp.length_eq, List.length_map]
theorem dedup_int {ks ls : List Int} (hn : ls.Nodup) (hm : ∀ k, k ∈ ls ↔ k ∈ ks) : (dedup (ks.map PV.int)).length = ls.length := by
  have ha : ∀ x ∈ ks.map PV.int, ∀ y ∈ ks.map PV.int, alikeP x y = true := fun x hx y hy => by
    obtain ⟨a, _, rfl⟩ := List.mem_map.mp hx
    obtain ⟨b, _, rfl⟩ := List.mem_map.mp hy
    rfl
  have hr : ∀ x ∈ ks.map PV.int, eqv x x = true := fun x hx => by
    obtain ⟨a, _, rfl⟩ := List.mem_map.mp hx
    simp [eqv]
  have hp : (dedup (ks.map PV.int)).Perm (ls.map PV.int) := by
    refine (List.perm_ext_iff_of_nodup (nodup_dedup ha hr) ?_).mpr fun x => ?_
    · exact List.pairwise_map.mpr (hn.imp fun {a b} hne e => hne (PV.int.inj e))
    · rw [mem_dedup ha hr, List.mem_map, List.mem_map]
      constructor
      · rintro ⟨a, h, rfl⟩
        exact ⟨a, (hm a).mpr h, rfl⟩
      · rintro ⟨a, h, rfl⟩
        exact ⟨a, (hm a).mp h, rfl⟩
  rw [hp.length_eq, List.length_map]
theorem s_lenSet (hc : X.calm = true) (hu : X.A.units + 65 < cLine) (hg : Gl X "len") (hm : X.mg "len" = none) (hg2 : Gl X "set") (hm2 : X.mg "set" = none) (ha : PE X e (rdE X.K X.mg f)) (hs : noStar e = true) :
    PE X (.Call (.Name "len" p) [.Call (.Name "set" p2) [e] [] q] [] pos) (rdE X.K X.mg fun ρ S => (f ρ S).bind fun x S1 => bLenSet x S1) := by
  have na : starEach [e] X.env = (false, eval e X.env) :: starEach [] X.env := star_one hs [] X.env
  refine ⟨fun pins s σ H Q I h => ?_⟩
  obtain ⟨ι, F, S, ρ, z, S', sim, r, hz, fin⟩ := h
  obtain ⟨x, S1, h1, hz⟩ := bind_ok hz
  refine Call_ (ld_blt I hg hm (show bootBuiltins "len" = some (.builtin "len") by decide +kernel) ?_)
  refine PyProof.Rows.callWith_builtin1 (PyProof.Rows.args_cons ?_ rfl) rfl rfl
  refine Call_ (ld_blt I hg2 hm2 PyProof.Rows.boot_set ?_)
  refine PyProof.Rows.callWith_type1 (PyProof.Rows.args_cons (thn (ha.run pins s σ H (fun v H1 => ∃ ι1 F1, Ext ι F ι1 F1 ∧ Sim X.K X.mg ι1 F1 S1 H1 ∧ RepS X.K X.mg F1 ι1 x v) I ⟨ι, F, S, ρ, x, S1, sim, r, h1, fun ι1 F1 v H1 e1 s1 r1 => ⟨ι1, F1, e1, s1, r1⟩⟩) fun u s1 ⟨v, H1, I1, rv, ι1, F1, e1, sim1, r1⟩ => PyProof.Rows.args_nil ?_) na) na rfl
  unfold bLenSet at hz
  split at hz
  case h_3 => cases hz
  case h_2 =>
    rename_i ys hseq
    split at hz
    case isFalse => cases hz
    rename_i hok
    cases hz
    rw [Bool.and_eq_true, decide_eq_true_eq] at hok
    obtain ⟨few, hI⟩ := hok
    obtain ⟨t, ws, rfl, rl, hq⟩ := sim1.seqT r1 hseq
    cases rv
    refine call_set hc hu I1 sim1.sub rl hq.sqT (by unfold setOk; rw [hI, decide_eq_true few]; rfl) (fun a s2 c ns ey R hcn I2 => ?_) fun a s2 ks L es ep tab ey R hmem hrow I2 => ?_
    · subst ey
      rw [List.length_map] at few
      refine PyProof.Rows.args_nil ?_
      obtain ⟨o, es, ep, tb, ho, hx, hd, g, nd, hm2, hb, hf, hn, _⟩ := R
      have hdd : (dedup (ns.map PV.int)).length = es.size := by
        rw [dedup_int nd fun k => (hm2 k).symm.trans (by rw [decide_eq_true_eq]), List.length_map, Array.length_toList]
      refine call_len_set ho hx hd hf (by omega) ?_
      refine ⟨.int es.size, H1, I2.tok _, ⟨_, rfl⟩, ?_⟩
      exact fin ι1 F1 (.int es.size) H1 e1 sim1 (show RepS X.K X.mg F1 ι1 (.v (.int ((dedup (ns.map PV.int)).length : Nat))) (.int es.size) by rw [hdd]; rfl)
    · subst ey
      cases ks with
      | cons k ks => cases hI
      | nil =>
        refine PyProof.Rows.args_nil ?_
        obtain ⟨o, ho1, ho2, ho3⟩ := R.ob
        have hes : es.size = L.length := by
          have := congrArg List.length R.rows
          unfold rowsOf at this
          rw [List.length_map, Array.length_toList] at this
          exact this
        have hL : L = [] := by
          cases L with
          | nil => rfl
          | cons q L => have := (hmem q.2).mp (by simp); simp at this
        have few2 := R.few
        refine call_len_set ho1 ho2 ho3 (SetTR.fits (s := s2) R) (by omega) ?_
        refine ⟨.int es.size, H1, I2.tok _, ⟨_, rfl⟩, ?_⟩
        exact fin ι1 F1 (.int es.size) H1 e1 sim1 (show RepS X.K X.mg F1 ι1 (.v (.int ((dedup (([] : List (List Int)).map tupI)).length : Nat))) (.int es.size) by rw [hes, hL]; rfl)
  rename_i ys hseq
  split at hz
  case isFalse => cases hz
  rename_i hok
  cases hz
  rw [Bool.and_eq_true, Bool.or_eq_true, decide_eq_true_eq, decide_eq_true_eq] at hok
  obtain ⟨few, hT⟩ := hok
  obtain ⟨t, ws, rfl, rl, hq⟩ := sim1.seqL r1 hseq
  cases rv
  obtain ⟨ks, rfl⟩ := allIntT_rows hT
  obtain ⟨L0, e1', e2', h0⟩ := rows_rep rl
  subst e2'
  obtain ⟨_, its, n, rvv, _, hget⟩ := Inv.rdL I1 hq
  have hl0 : ∀ i L, i < L0.length → Got L0 i L → (L.map (·.2)).Nodup → L.length + 1 < 64 := fun i L hi g nd => by
    rcases few with few | few
    · rw [← e1', List.length_map, List.length_map] at few
      have := g.len
      omega
    · have hsub : ∀ x ∈ (L.map (·.2)).map tupI, x ∈ dedup (ks.map tupI) := fun x hx => by
        obtain ⟨k, hk, rfl⟩ := List.mem_map.mp hx
        obtain ⟨q, hq2, rfl⟩ := List.mem_map.mp hk
        rw [mem_dedup (fun x hx y hy => ?_) (fun x hx => ?_), ← e1']
        · exact List.mem_map_of_mem (List.mem_map_of_mem (List.mem_of_mem_take (g.sub q hq2)))
        · obtain ⟨a, _, rfl⟩ := List.mem_map.mp hx
          obtain ⟨b, _, rfl⟩ := List.mem_map.mp hy
          exact alike_tupI a b
        · obtain ⟨a, _, rfl⟩ := List.mem_map.mp hx
          exact eqv_tupI a
      have := List.Nodup.length_le_of_subset (List.pairwise_map.mpr (nd.imp fun {a b} hne e => hne (tupI_inj e))) hsub
      rw [List.length_map, List.length_map] at this
      omega
  refine make_setL (P := X.prog) (w := X.w) L0 (I1.ok.hd hc) ⟨_, hget, rfl, n, rfl⟩ (by simpa using refs_of_vals rvv) (fun q hm => I1.isT (sim1.sub.sqT (h0 q hm).sqT)) hl0 (by omega) fun g tk L es ep tab R got kp => ?_
  refine PyProof.Rows.args_nil ?_
  obtain ⟨o, ho1, ho2, ho3⟩ := R.ob
  have hes : es.size = L.length := by
    have := congrArg List.length R.rows
    unfold rowsOf at this
    rw [List.length_map, Array.length_toList] at this
    exact this
  have hd : (dedup (ks.map tupI)).length = L.length := by
    rw [dedup_tup R.nd fun k => ?_, List.length_map]
    rw [← e1']
    constructor
    · intro hk
      obtain ⟨q, hm, rfl⟩ := List.mem_map.mp hk
      exact List.mem_map.mpr ⟨q, List.mem_of_mem_take (got.sub q hm), rfl⟩
    · intro hk
      obtain ⟨q, hm, rfl⟩ := List.mem_map.mp hk
      exact got.all q (by rw [List.take_length]; exact hm)
  have few2 := R.few
  refine call_len_set ho1 ho2 ho3 (SetTR.fits (s := { s1 with heap := g, toks := tk }) R) (by omega) ?_
  refine ⟨.int es.size, H1, I1.kept kp, ?_, ?_⟩
  · exact ⟨_, rfl⟩
  · have := fin ι1 F1 (.int es.size) H1 e1 sim1 (show RepS X.K X.mg F1 ι1 (.v (.int ((dedup (ks.map tupI)).length : Nat))) (.int es.size) by rw [hd, hes]; rfl)
    exact this
end
end FW

namespace FW
open PySem PySem.Spec PyProof.Rows L2
section
variable {X : Cx} {a b c e f : Expr} {pos apos cpos : Pos} {fa fb fc : VS}
theorem s_dic0 : PE X (.Dict [] [] pos) (rdE X.K X.mg sDic0) := by
  refine pe_ofV pe_dnewK fun ι F S ρ y S' σ H Q sim r hf q => fun p hp => ?_
  unfold sDic0 at hf
  cases hf
  obtain ⟨s', e⟩ := sim.newL (x := .dic []) (o := .dK []) hp ⟨(sim.fresh hp).1, [], rfl, rfl⟩
  exact q _ _ _ _ e s' ⟨p, by rw [← sim.len]; simp, rfl⟩
theorem isDc_some {S : Store} {x : SV} (h : isDc S x = true) : ∃ kvs, dicR S x = some kvs := by
  unfold isDc at h
  split at h
  · exact ⟨_, by assumption⟩
  · cases h
theorem keyOk_some {k : PV} (h : keyOk k = true) : ∃ k' : L2.Key, k = keyP k' := by
  cases k <;> simp only [keyOk, Bool.false_eq_true] at h
  · exact ⟨.inl _, rfl⟩
  · exact ⟨.inr _, rfl⟩
theorem s_get (hu : X.A.units + 1 < cLine) (ho : PE X a (rdE X.K X.mg fa)) (he : PE X e (rdE X.K X.mg fb)) (hf : PE X f (rdE X.K X.mg fc)) (h1 : noStar e = true) (h2 : noStar f = true) (hbase : attributeBase a "get" X.env (eval a X.env) = eval a X.env) (hline : (apos.endLine == cpos.line) = true) :
    PE X (.Call (.Attribute a "get" apos) [e, f] [] cpos) (rdE X.K X.mg (sGet fa fb fc)) := by
  have m : M2 X a "get" apos e f cpos := ⟨hbase, by rw [star_one h1, star_one h2]; rfl, hline, by rw [star_one h1, star_one h2]; rfl⟩
  refine pe_ofV (pe_dget2 hu ho he hf m) fun ι F S ρ y S' σ H Q sim r hz q => ?_
  unfold sGet at hz
  obtain ⟨x, S1, g1, hz⟩ := bind_ok hz
  split at hz
  case isFalse => cases hz
  rename_i hd
  obtain ⟨k, S2, g2, hz⟩ := bind_ok hz
  obtain ⟨d, S3, g3, hz⟩ := bind_ok hz
  refine ⟨ι, F, S, ρ, x, S1, sim, r, g1, fun ι1 F1 v H1 e1 s1 r1 => ?_⟩
  obtain ⟨kvs, hk⟩ := isDc_some hd
  obtain ⟨p, ws, rfl, hH, rd⟩ := s1.dicR r1 hk
  refine ⟨p, rfl, .inl ⟨ws, hH⟩, ?_⟩
  refine ⟨ι1, F1, S1, ρ, k, S2, s1, r.mono e1, g2, fun ι2 F2 w H2 e2 s2 r2 => ?_⟩
  refine ⟨ι2, F2, S2, ρ, d, S3, s2, r.mono (e1.trans e2), g3, fun ι3 F3 z H3 e3 s3 r3 => ?_⟩
  unfold getOp at hz
  split at hz
  · rename_i k x
    split at hz
    · rename_i kvs3 hk3
      split at hz
      · rename_i hok
        cases hz
        obtain ⟨p', ws', hp, hH', rd'⟩ := s3.dicR (r1.mono (e2.trans e3)) hk3
        cases hp
        obtain ⟨key, rfl⟩ := keyOk_some hok
        have r2' := r2.mono e3
        have hw := keyP_rep r2'
        subst hw
        have hg := rd'.get key
        refine ⟨valV ws' key, DGet_R hH', q _ _ _ _ (e1.trans (e2.trans e3)) s3 ?_⟩
        cases hkg : keyGet (keyP key) kvs3 with
        | none =>
          rw [hkg] at hg
          have : valV ws' key = none := hg
          rw [this]
          exact r3
        | some w =>
          rw [hkg] at hg
          obtain ⟨v', i1, i2⟩ := hg
          rw [i1]
          exact i2
      · cases hz
    · cases hz
  · cases hz
def RI (v : Value) (y : PV) : Prop := ∃ k t, y = .int k ∧ v = Value.int k t
theorem ri_of : ∀ {us : List Value} {ks : List Int}, IntsAre us ks → PySem.W.EachIs RI us (ks.map PV.int)
  | _, _, .nil => .nil
  | _, _, .cons k t h => .cons ⟨k, t, rfl, rfl⟩ (ri_of h)
theorem ri_back {us : List Value} {ys : List PV} (h : PySem.W.EachIs RI us ys) : ∃ ns : List Int, ys = ns.map .int ∧ IntsAre us ns := by
  induction h with
  | nil => exact ⟨[], rfl, .nil⟩
  | cons e _ ih =>
    obtain ⟨k, t, rfl, rfl⟩ := e
    obtain ⟨ns, rfl, hi⟩ := ih
    exact ⟨k :: ns, rfl, .cons k t hi⟩
theorem ri_reads {h : Heap} {a : Addr} : ∀ {us : List Value} {ks : List Int}, IntsAre us ks → PySem.W.EachIs (fun v b => ∃ as, PySem.Reads h v (pd b) as ∧ a ∉ as) us (ks.map PV.int)
  | _, _, .nil => .nil
  | _, _, .cons k t hr => .cons ⟨[], .int k t, fun h => by cases h⟩ (ri_reads hr)
theorem alike_ints (ks : List Int) : allAlike (ks.map PV.int) = true := by
  unfold allAlike
  refine List.all_eq_true.mpr fun x hx => List.all_eq_true.mpr fun y hy => ?_
  obtain ⟨i, _, rfl⟩ := List.mem_map.mp hx
  obtain ⟨j, _, rfl⟩ := List.mem_map.mp hy
  rfl
theorem sortable_ints (ks : List Int) : ((ks.map PV.int).all isNT || (ks.map PV.int).all isOne) = true := by
  have : (ks.map PV.int).all isOne = true := List.all_eq_true.mpr fun x hx => by
    obtain ⟨i, _, rfl⟩ := List.mem_map.mp hx
    rfl
  rw [this, Bool.or_true]
theorem call_sortedKV {pins : List (Addr × Obj)} {σ : L2.St} {H : Hp} {s : Shared} {E : Value → Shared → Prop} {v d : Addr} {vs : List (Key × Value)} {ep : Nat} {ks : List Int} {Q : Value → Shared → Prop} (hcalm : X.calm = true) (hu : X.A.units + 65 < cLine) (I : Inv X pins σ H s)
    (hv : PySem.W.KdlKeysView s.heap v d) (hat : s.heap.DictAt (mixKind X.prog X.w) d vs ep) (hkeys : vs.map (·.1) = ks.map Sum.inl) (h16 : vs.length ≤ sizeLine)
    (done : ∀ (p : Addr) (s' : Shared) (ns : List Int), isortK (ks.map .int) = ns.map .int → H p = none → Inv X pins σ (upd H p (.lst (ns.map V.int))) s' → Q (.ref p) s') : wpAny (model X.prog X.w) X.A (call (.builtin "sorted") [.ref v]) Q E s := by
  have hl : vs.length = ks.length := by
    have e := congrArg List.length hkeys
    rw [List.length_map, List.length_map] at e
    exact e
  refine Calls.call_function_entry PyProof.Rows.kind_sorted PyProof.Rows.plain_sorted PyProof.Rows.entry_sorted (PyProof.Rows.args_sorted1 _) ?_
  unfold Builtin.«sorted»
  refine wpAny_bind (m := checkCount "sorted" 1 1 _) (wpAny_pure ?_)
  refine wpAny_bind (PySem.W.kdu_collect (A := X.A.in1) (PySem.W.kdl_keys (knd := mixKind X.prog X.w) (kvs := vs) (ep := ep) (r := v) (d := d)) (I.ok.hd hcalm) ⟨hv, hat⟩ h16 fun h' tk acc hk hacc => ?_)
  have hal : acc.toList.length = ks.length := by rw [Array.length_toList, hacc.1, hl]
  have hS : IntsAre acc.toList ks := ints_each hal fun j v e => by
    obtain ⟨k, x, e1, e2⟩ := hacc.2 j v (by rw [← Array.getElem?_toList]; exact e)
    have e3 : (vs.map (·.1))[j]? = some k := by rw [List.getElem?_map, e1]; rfl
    rw [hkeys, List.getElem?_map] at e3
    cases e4 : ks[j]? with
    | none => rw [e4] at e3; cases e3
    | some y =>
      rw [e4] at e3
      have e5 : Sum.inl y = k := Option.some.inj e3
      subst e5
      rcases keyIs_shape (show keyIs (Sum.inl y) v = true from e2) with ⟨i, t, ek, ev⟩ | ⟨z, t, ek, ev⟩
      · cases ek
        exact ⟨y, t, rfl, ev⟩
      · cases ek
  have I1 : Inv X pins σ H { s with heap := h', toks := tk } := I.kept hk
  refine wpAny_bind (wpAny_newList ?_ (by rw [hal, ← hl]; exact h16))
  have new : (h'.push (seqObj "list" acc.toList.toArray 0)).get? h'.objs.size = some (seqObj "list" acc.toList.toArray 0) := Heap.get?_push_size _ rfl
  have fin : ∀ (out : List Value) (ns : List Int), isortK (ks.map .int) = ns.map .int → IntsAre out ns → ns.length = ks.length → Q (.ref h'.objs.size) { s with heap := sortedHeap (h'.push (seqObj "list" acc.toList.toArray 0)) h'.objs.size acc.toList out.toArray, toks := tk } := fun out ns e1 e2 e3 => by
    obtain ⟨c, hc⟩ := sortedHeap_at (vs := acc.toList) (out := out.toArray) new
    refine done _ _ ns e1 (I1.hok.fresh (Nat.le_refl _)) (inv_laid (us := out) (c := c) I1 (fun b u e => ?_) rfl rfl (Nat.le_refl _) (ints_of_vals e2) (by rw [List.length_map, e3, ← hl]; exact h16) hc)
    have lt := Heap.lt_size e
    show (sortedHeap _ _ _ _).get? b = some u
    rw [sortedHeap_old (Nat.ne_of_lt lt) (by rw [size_push']; exact Nat.lt_succ_of_lt lt)]
    exact Heap.get?_push_of_some _ e
  show wpAny _ _ _ _ _ { s with heap := h'.push (seqObj "list" acc.toList.toArray 0), toks := tk }
  refine wpAny_bind (wpAny_holding (PySem.W.list_sort_data (s := { s with heap := h'.push (seqObj "list" acc.toList.toArray 0), toks := tk }) (bs := ks.map PV.int) (enc := pd) (R := RI) new (ri_of hS) (ri_reads hS) (allAlike_pd (alike_ints ks)) (sortable_pd (sortable_ints ks)) (by rw [List.length_map, ← hl]; exact h16) (fun b hb => ?_) fun out hlen eo => ?_))
  · obtain ⟨i, _, rfl⟩ := List.mem_map.mp hb
    show X.A.in1.units + 1 + 0 < cLine
    have hi : X.A.in1.units ≤ X.A.units + 1 := Nat.le_refl _
    omega
  · have eo' : PySem.W.EachIs RI out (isortK (ks.map .int)) := by
      rw [isortK_eq (alike_ints ks)]
      exact eo
    obtain ⟨ns, e1, e2⟩ := ri_back eo'
    have e3 : ns.length = ks.length := by
      have := congrArg List.length e1
      rw [isortK_len, List.length_map, List.length_map] at this
      exact this.symm
    exact wpAny_pure ⟨_, rfl, fin out ns e1 e2 e3⟩
theorem repD_keys {K : PySem.W.Frag} {mg : PySem.Str → Option Value} {F : Hp} : ∀ {kvs : List (PV × PV)} {ws : List (L2.Key × V)} {ks : List Int}, RepD K mg F kvs ws → kvs.map Prod.fst = ks.map PV.int → ws.map (·.1) = ks.map Sum.inl
  | [], _, ks, r, e => by
    cases r
    cases ks with
    | nil => rfl
    | cons k ks => cases e
  | (k0, x) :: kvs, _, [], r, e => by cases e
  | (k0, x) :: kvs, _, k :: ks, ⟨k', v, t, e1, e2, _, b⟩, e => by
    subst e1
    have h1 : k0 = .int k := (List.cons.inj e).1
    have h2 := (List.cons.inj e).2
    rw [e2] at h1
    cases k' with
    | inl i =>
      cases h1
      show Sum.inl _ :: t.map (·.1) = _
      rw [repD_keys b h2]
      rfl
    | inr s => cases h1
theorem s_sortedKeys {m : Bool} {p mpos : Pos} (hc : X.calm = true) (hu : X.A.units + 65 < cLine) (hg : Gl X "sorted") (hm : X.mg "sorted" = none) (ha : PE X a (rdE X.K X.mg fa)) (hbase : attributeBase a "keys" X.env (eval a X.env) = eval a X.env) (hline : (apos.endLine == mpos.line) = true) :
    PE X (.Call (.Name "sorted" p) [.Call (.Attribute a "keys" apos) [] [] mpos] [] pos) (rdE X.K X.mg fun ρ S => (fa ρ S).bind fun x S1 => bSortedKeys m x S1) := by
  refine ⟨fun pins s σ H Q I h => ?_⟩
  obtain ⟨ι, F, S, ρ, z, S', sim, r, hz, fin⟩ := h
  obtain ⟨x, S1, h1, hz⟩ := bind_ok hz
  refine Call_ (ld_blt I hg hm PyProof.Rows.boot_sorted ?_)
  refine PyProof.Rows.callWith_builtin1 (PyProof.Rows.args_cons ?_ rfl) rfl rfl
  refine wpAny_Call_method0_late hbase hline (thn (ha.run pins s σ H (fun v H1 => ∃ ι1 F1, Ext ι F ι1 F1 ∧ Sim X.K X.mg ι1 F1 S1 H1 ∧ RepS X.K X.mg F1 ι1 x v) I ⟨ι, F, S, ρ, x, S1, sim, r, h1, fun ι1 F1 v H1 e1 s1 r1 => ⟨ι1, F1, e1, s1, r1⟩⟩) fun u s1 ⟨v, H1, I1, rv, ι1, F1, e1, sim1, r1⟩ => ?_)
  unfold bSortedKeys at hz
  split at hz
  case h_2 => cases hz
  rename_i kvs hk
  split at hz
  case isFalse => cases hz
  rename_i hok
  obtain ⟨ks, hks⟩ := allInt_ints hok
  rw [hks] at hz
  obtain ⟨n, d, ws, rfl, hι, hS, rfl, hF, hH, rd⟩ := sim1.dic r1 hk
  obtain rfl : u = Value.ref d := rv
  obtain ⟨hz16, hsys, vs, rel, dof⟩ := dk_of I1.hok hH
  obtain ⟨ep, dat⟩ := dof.dictAt
  have dat' := dat
  obtain ⟨ob, es, ho, ex, hdat, hko, hpr, hnd⟩ := dat'
  have hkeys : vs.map (·.1) = ks.map Sum.inl := rel.keys.symm.trans (repD_keys rd hks)
  have hlv : vs.length = ws.length := (KV.length rel).symm
  refine ⟨"dict", "dict.keys", PySem.F.plainAttrs_dict, PySem.F.slot_dict_keys, PySem.F.type_dict_keys, ⟨ob, ho, ex.1⟩, fun b e => ?_, Calls.callWith_builtin rfl (PySem.evalArgs_none ?_)⟩
  · cases e
    exact ⟨ob, ho, ex.2.1⟩
  refine call_meetsIn PySem.F.slot_dict_keys ⟨ob, ho, ex.1⟩ PySem.F.entry_dict_keys (PySem.F.args_dict_keys_1 _) (PySem.W.kdl_meets_keys (mixKind X.prog X.w) d hsys) ⟨⟨vs, dof⟩, ?_⟩
  have k1 : ∀ b u, s1.heap.get? b = some u → (s1.heap.push { cls := .type "dict_keys", data := .fields #[.ref d] }).get? b = some u := fun b u e => Heap.get?_push_of_some _ e
  have I2 : Inv X pins σ H1 { s1 with heap := s1.heap.push { cls := .type "dict_keys", data := .fields #[.ref d] } } := I1.kept (t' := s1.toks) k1
  refine PyProof.Rows.args_nil ?_
  refine call_sortedKV (ks := ks) hc hu I2 ⟨_, Heap.get?_push_size _ rfl, rfl, rfl⟩ (dat.keep k1) hkeys (by rw [hlv]; exact hz16) fun p s2 ns en hp I3 => ?_
  rw [en] at hz
  obtain ⟨hl, go⟩ := fin_mkL (vs := ns.map V.int) sim1 (by
    have : ∀ l : List Int, RepL X.K X.mg F1 (l.map .int) (l.map V.int) := fun l => by
      induction l with
      | nil => rfl
      | cons n l ih => exact ⟨V.int n, _, rfl, rfl, ih⟩
    exact this ns) hz fun ι2 F2 u H2 e2 s2 r2 => fin ι2 F2 u H2 (e1.trans e2) s2 r2
  exact ⟨.ref p, _, I3, rfl, go p hp⟩
end
end FW

namespace FW
open PySem PySem.Spec PyProof.Rows L2 RZ
structure Src (P : Program) (w : World) (K : PySem.W.Frag) (p : Hp → List V → Prop) (i a : Addr) (J : Nat → Heap → Prop) (L : Array Value → Heap → Prop) : Prop where
  rd : ∀ (X : Cx), X.prog = P → X.w = w → X.K = K → ∀ pins σ H s xs, Inv X pins σ H s → p H xs → ∃ its : List Value, Vals xs its ∧ L its.toArray s.heap
  inj : ∀ (X : Cx), X.prog = P → X.w = w → X.K = K → ∀ pins σ H s xs ys, Inv X pins σ H s → p H xs → p H ys → xs = ys
  dr : ∀ (A : Around) (items : Array Value), A.handled = none → Draws P w A i [i, a] items.size (fun k v => items[k]? = some v) (fun k h => J k h ∧ L items h)
  ob : ∀ k h, J k h → ∃ o, h.get? i = some o ∧ ∀ v, o.data ≠ .cell v
  kp : ∀ k h h', J k h → (∀ o, h.get? i = some o → h'.get? i = some o) → J k h'
theorem src_tup {P : Program} {w : World} {K : PySem.W.Frag} {i a : Addr} (hne : a ≠ i) : Src P w K (fun H xs => SqT K H a xs) i a (fun k h => h.IsTupleIter i a k) (fun items h => h.IsTuple a items) where
  rd X e1 e2 e3 pins σ H s xs I h := by
    subst e1 e2 e3
    obtain ⟨its, rv, tp, _⟩ := I.tuple h
    exact ⟨its, rv, tp⟩
  inj X e1 e2 e3 pins σ H s xs ys I h h2 := by subst e1 e2 e3; exact I.tuple_inj h h2
  dr A items hA := Draws.tuple hA i a hne items
  ob k h st := by obtain ⟨o, ho, _, hd⟩ := st; exact ⟨o, ho, fun v q => by rw [hd] at q; cases q⟩
  kp k h h' st f := st.at f
theorem src_lst {P : Program} {w : World} {K : PySem.W.Frag} {i a : Addr} (hne : a ≠ i) : Src P w K (fun H xs => SqL K H a xs) i a (fun k h => h.IsListIter i a k) (fun items h => h.IsList a items) where
  rd X e1 e2 e3 pins σ H s xs I h := by
    subst e1 e2 e3
    obtain ⟨its, rv, pl, _⟩ := I.list h
    exact ⟨its, rv, pl.isList⟩
  inj X e1 e2 e3 pins σ H s xs ys I h h2 := by subst e1 e2 e3; exact I.list_inj h h2
  dr A items hA := Draws.list hA i a hne items
  ob k h st := by obtain ⟨o, ho, _, hd⟩ := st; exact ⟨o, ho, fun v q => by rw [hd] at q; cases q⟩
  kp k h h' st f := st.at f
def ItzG (p q : Hp → List V → Prop) : It :=
  ⟨fun i H => ∃ xs ys x y, p H xs ∧ q H ys ∧ xs[i]? = some x ∧ ys[i]? = some y,
    fun i H v H' => ∃ T x y, v = .ref T ∧ H T = none ∧ H' = upd H T (.tup [x, y]) ∧ (∀ l, p H l → l[i]? = some x) ∧ ∀ l, q H l → l[i]? = some y,
    fun i H => ∃ xs ys, p H xs ∧ q H ys ∧ i = min xs.length ys.length⟩
theorem turn_zipG {P : Program} {w : World} {K : PySem.W.Frag} {elts : List Expr} {kk : Nat} {tpos : Pos} {p q : Hp → List V → Prop} {z TI TO i1 i2 a b : Addr} {J1 J2 : Nat → Heap → Prop} {L1 L2 : Array Value → Heap → Prop}
    (A1 : Src P w K p i1 a J1 L1) (A2 : Src P w K q i2 b J2 L2) (D : ZipSep2 z TI TO i1 i2 [i1, a] [i2, b]) :
    Turn P w K (.Tuple elts kk tpos) (ItzG p q) [z, TI, TO, i1, i2] z (fun i h => IsZip h z TI TO .none ∧ IsTupOf2 h TI (.ref i1) (.ref i2) ∧ (∃ x y, IsTupOf2 h TO x y) ∧ J1 i h ∧ J2 i h) where
  mem := List.mem_cons_self ..
  obj i h st c hc := by
    obtain ⟨sz, sT, ⟨x, y, sO⟩, s1, s2⟩ := st
    have hc' : c = z ∨ c = TI ∨ c = TO ∨ c = i1 ∨ c = i2 := by simpa using hc
    obtain ⟨o1, g1, f1⟩ := A1.ob _ _ s1
    obtain ⟨o2, g2, f2⟩ := A2.ob _ _ s2
    rcases hc' with e | e | e | e | e <;> subst e
    · exact ⟨_, sz, fun v u => nomatch u⟩
    · exact ⟨_, sT, fun v u => nomatch u⟩
    · exact ⟨_, sO, fun v u => nomatch u⟩
    · exact ⟨o1, g1, f1⟩
    · exact ⟨o2, g2, f2⟩
  keep i h h' st k := by
    obtain ⟨sz, sT, ⟨x, y, sO⟩, s1, s2⟩ := st
    exact ⟨k z (by simp) _ sz, k TI (by simp) _ sT, ⟨x, y, k TO (by simp) _ sO⟩, A1.kp _ _ _ s1 fun o u => k i1 (by simp) o u, A2.kp _ _ _ s2 fun o u => k i2 (by simp) o u⟩
  item := by
    intro X e1 e2 e3 hc i pins s σ H E I hf st hg
    have r1 := A1.rd X e1 e2 e3 pins σ H s
    have r2 := A2.rd X e1 e2 e3 pins σ H s
    have j1 := A1.inj X e1 e2 e3 pins σ H s
    have j2 := A2.inj X e1 e2 e3 pins σ H s
    subst e1 e2 e3
    obtain ⟨sz, sT, ⟨x0, y0, sO⟩, s1, s2⟩ := st
    obtain ⟨xs, ys, x, y, hx, hy, gx, gy⟩ := hg
    obtain ⟨us, ru, lu⟩ := r1 xs I hx
    obtain ⟨vs, rw_, lv⟩ := r2 ys I hy
    obtain ⟨u, gu, mu⟩ := ru.get gx
    obtain ⟨v, gv, mv⟩ := rw_.get gy
    have hA : X.A.in1.handled = none := I.ok.hd hc
    have D1 := A1.dr X.A.in1 us.toArray hA
    have D2 := A2.dr X.A.in1 vs.toArray hA
    have lt1 : i < us.toArray.size := by simpa using (List.getElem?_eq_some_iff.mp gu).1
    have lt2 : i < vs.toArray.size := by simpa using (List.getElem?_eq_some_iff.mp gv).1
    have hzl : z < s.heap.objs.size := Heap.lt_size sz
    refine wpAny_pyNext_zipD2_item D D1 D2 sz sT sO ⟨s1, lu⟩ ⟨s2, lv⟩ lt1 lt2 fun u' v' hp tk q1 q2 nz nO n1 n2 nT nsz nk => ?_
    obtain rfl : u' = u := Option.some.inj (q1.symm.trans (by simpa using gu))
    obtain rfl : v' = v := Option.some.inj (q2.symm.trans (by simpa using gv))
    refine ⟨_, rfl, wpAny_letOwnedTupleGo_zip (s := { s with heap := hp, toks := tk }) nz fun h2 mz sb => ?_⟩
    have mT : h2.get? s.heap.objs.size = some { cls := .type "tuple", data := .seq #[u', v'] } := (sb.2 _ (Nat.ne_of_gt hzl)).trans nT
    have nw : ObjOk X.prog X.w (upd H s.heap.objs.size (.tup [x, y])) h2 s.heap.objs.size (.tup [x, y]) :=
      ⟨by show 2 ≤ sizeLine; decide, [u', v'], .cons mu (.cons mv .nil), _, mT, rfl, _, rfl⟩
    have I2 : Inv X pins σ (upd H s.heap.objs.size (.tup [x, y])) { s with heap := h2, toks := tk } :=
      I.turnedNew (ch := [z, TI, TO, i1, i2]) (fun c o hb g => by
        have m1 : c ≠ z := fun t => hb (by rw [t]; simp)
        have m2 : c ≠ TO := fun t => hb (by rw [t]; simp)
        have m3 : c ≠ i1 := fun t => hb (by rw [t]; simp)
        have m4 : c ≠ i2 := fun t => hb (by rw [t]; simp)
        exact (sb.2 c m1).trans (nk c o m1 m2 m3 m4 g)) hf (Nat.le_refl _) nw
    refine ⟨.ref s.heap.objs.size, _, I2, rfl, ⟨_, x, y, rfl, I.hok.fresh (Nat.le_refl _), rfl, fun l hl => by rw [j1 l xs I hl hx]; exact gx, fun l hl => by rw [j2 l ys I hl hy]; exact gy⟩, ⟨mz, (sb.2 _ D.TIz).trans (nk _ _ D.TIz D.TITO D.TIi1 D.TIi2 sT), ⟨u', v', (sb.2 _ D.TOz).trans nO⟩, A1.kp _ _ _ n1.1 fun o g => (sb.2 _ (Ne.symm D.zi1)).trans g, A2.kp _ _ _ n2.1 fun o g => (sb.2 _ (Ne.symm D.zi2)).trans g⟩, fun c hm => ?_⟩
    have hlt : c < s.heap.objs.size := by
      have hc' : c = z ∨ c = TI ∨ c = TO ∨ c = i1 ∨ c = i2 := by simpa using hm
      obtain ⟨o1, g1, _⟩ := A1.ob _ _ s1
      obtain ⟨o2, g2, _⟩ := A2.ob _ _ s2
      rcases hc' with e | e | e | e | e <;> subst e
      · exact hzl
      · exact Heap.lt_size sT
      · exact Heap.lt_size sO
      · exact Heap.lt_size g1
      · exact Heap.lt_size g2
    exact (upd_ne (Nat.ne_of_lt hlt)).trans (hf c hm).1
  done := by
    intro X e1 e2 e3 hc i pins s σ H E I hf st hg
    have r1 := A1.rd X e1 e2 e3 pins σ H s
    have r2 := A2.rd X e1 e2 e3 pins σ H s
    subst e1 e2 e3
    obtain ⟨sz, sT, ⟨x0, y0, sO⟩, s1, s2⟩ := st
    obtain ⟨xs, ys, hx, hy, he⟩ := hg
    obtain ⟨us, ru, lu⟩ := r1 xs I hx
    obtain ⟨vs, rw_, lv⟩ := r2 ys I hy
    have n1 := ru.length
    have n2 := rw_.length
    have hA : X.A.in1.handled = none := I.ok.hd hc
    refine wpAny_pyNext_zipD2_end D (A1.dr X.A.in1 us.toArray hA) (A2.dr X.A.in1 vs.toArray hA) sz sT sO ⟨s1, lu⟩ ⟨s2, lv⟩ (by simp; omega) (by simp; omega) (by simp; omega) fun hp tk nk => ⟨rfl, ?_⟩
    exact I.turnedL (t' := tk) (ch := [z, TI, TO, i1, i2]) (fun c o hb g => by
        have m1 : c ≠ z := fun t => hb (by rw [t]; simp)
        have m2 : c ≠ TO := fun t => hb (by rw [t]; simp)
        have m3 : c ≠ i1 := fun t => hb (by rw [t]; simp)
        have m4 : c ≠ i2 := fun t => hb (by rw [t]; simp)
        exact nk c o m1 m2 m3 m4 g) hf
  self A i s Q E st h := wpAny_pyIter_zip st.1 h
theorem nm5 {x y z : Nat} (h1 : x ≠ y) (h2 : x ≠ z) : x ∉ [y, z] := by simp [h1, h2]
theorem ne5 (x N k : Nat) (h : x < N) : x ≠ N + k := by omega
theorem sep5 (N a b : Nat) (la : a < N) (lb : b < N) : ZipSep2 (N + 4) (N + 2) (N + 3) N (N + 1) [N, a] [N + 1, b] where
  TIz := (show (N + 2 : Nat) ≠ N + 4 by omega)
  TOz := (show (N + 3 : Nat) ≠ N + 4 by omega)
  TITO := (show (N + 2 : Nat) ≠ N + 3 by omega)
  TIi1 := (show (N + 2 : Nat) ≠ N by omega)
  mem1 := by simp
  zf1 := nm5 (by omega) (by omega)
  Tf1 := nm5 (by omega) (by omega)
  TIi2 := (show (N + 2 : Nat) ≠ N + 1 by omega)
  mem2 := by simp
  zf2 := nm5 (by omega) (by omega)
  Tf2 := nm5 (by omega) (by omega)
  sep1_2 := nm5 (by omega) (by omega)
  sep2_1 := nm5 (by omega) (by omega)
theorem pi_zipG {X : Cx} {e e2 : Expr} {ta : TA} {pn pos tpos : Pos} {elts : List Expr} {kk : Nat} (hg : Gl X "zip") (hm : X.mg "zip" = none) (ha : PA X [e, e2] ta) (hs : noStar e = true) (hs2 : noStar e2 = true) :
    PI X (.Tuple elts kk tpos) (.Call (.Name "zip" pn) [e, e2] [] pos) (fun σ H R => ta σ H fun vs H1 => ∃ a b, vs = [.ref a, .ref b] ∧ ((∃ xs ys, SqT X.K H1 a xs ∧ SqL X.K H1 b ys ∧ R (ItzG (fun H xs => SqT X.K H a xs) (fun H xs => SqL X.K H b xs)) H1) ∨ (∃ xs ys, SqL X.K H1 a xs ∧ SqT X.K H1 b ys ∧ R (ItzG (fun H xs => SqL X.K H a xs) (fun H xs => SqT X.K H b xs)) H1))) := by
  refine ⟨fun pins s σ H R I h => ?_⟩
  refine Call_ (ld_blt I hg hm PyProof.Rows.boot_zip (PyProof.Rows.callWith_type1 (thn (ha.run pos pins s σ H _ I h) fun us s1 ⟨vs, H1, I1, rr, a, b, ev, alt⟩ => ?_) (star_one hs _ _) (by rw [star_one hs2]; rfl)))
  subst ev
  obtain ⟨u1, us, rfl, m1, rr⟩ : ∃ u1 us', us = u1 :: us' ∧ RelV (.ref a) u1 ∧ Vals [.ref b] us' := by cases rr with | cons m r => exact ⟨_, _, rfl, m, r⟩
  obtain ⟨u2, us, rfl, m2, rr⟩ : ∃ u2 us', us = u2 :: us' ∧ RelV (.ref b) u2 ∧ Vals [] us' := by cases rr with | cons m r => exact ⟨_, _, rfl, m, r⟩
  cases rr
  obtain rfl : u1 = Value.ref a := m1
  obtain rfl : u2 = Value.ref b := m2
  have fresh5 : ∀ c, s1.heap.objs.size ≤ c → FpOk X pins H1 c := fun c hle => I1.fpOk hle (I1.hok.fresh hle)
  have sep : a < s1.heap.objs.size → b < s1.heap.objs.size → ZipSep2 (s1.heap.objs.size + 4) (s1.heap.objs.size + 2) (s1.heap.objs.size + 3) s1.heap.objs.size (s1.heap.objs.size + 1) [s1.heap.objs.size, a] [s1.heap.objs.size + 1, b] := sep5 _ _ _
  rcases alt with ⟨xs, ys, hx, hy, q⟩ | ⟨xs, ys, hx, hy, q⟩
  · obtain ⟨xi, rx, px, _⟩ := I1.tuple hx
    obtain ⟨yi, ry, py, _⟩ := I1.list hy
    obtain ⟨oa, ga, _⟩ := id px
    have la := Heap.lt_size ga
    have lb := py.lt
    refine zip_begins2 (begins_tuple a xi.toArray) (begins_list b yi.toArray) px py.isList fun h' nz nT nO g1 g2 nsz nk => wpAny_pyIter_zip nz ?_
    have I2 : Inv X pins σ H1 { s1 with heap := h' } := I1.kept (t' := s1.toks) nk
    refine ⟨_, [s1.heap.objs.size + 4, s1.heap.objs.size + 2, s1.heap.objs.size + 3, s1.heap.objs.size, s1.heap.objs.size + 1], _, _, H1, rfl, I2, turn_zipG (src_tup (Nat.ne_of_lt la)) (src_lst (ne5 _ _ 1 lb)) (sep la lb), ⟨nz, nT, ⟨_, _, nO⟩, ⟨_, g1, rfl, rfl⟩, ⟨_, g2, rfl, rfl⟩⟩, fun c hc => fresh5 c ?_, q⟩
    simp only [List.mem_cons, List.not_mem_nil, or_false] at hc
    rcases hc with t | t | t | t | t <;> rw [t] <;> first | exact Nat.le_add_right _ _ | exact Nat.le_refl _
  · obtain ⟨xi, rx, px, _⟩ := I1.list hx
    obtain ⟨yi, ry, py, _⟩ := I1.tuple hy
    obtain ⟨ob, gb, _⟩ := id py
    have lb := Heap.lt_size gb
    have la := px.lt
    refine zip_begins2 (begins_list a xi.toArray) (begins_tuple b yi.toArray) px.isList py fun h' nz nT nO g1 g2 nsz nk => wpAny_pyIter_zip nz ?_
    have I2 : Inv X pins σ H1 { s1 with heap := h' } := I1.kept (t' := s1.toks) nk
    refine ⟨_, [s1.heap.objs.size + 4, s1.heap.objs.size + 2, s1.heap.objs.size + 3, s1.heap.objs.size, s1.heap.objs.size + 1], _, _, H1, rfl, I2, turn_zipG (src_lst (Nat.ne_of_lt la)) (src_tup (ne5 _ _ 1 lb)) (sep la lb), ⟨nz, nT, ⟨_, _, nO⟩, ⟨_, g1, rfl, rfl⟩, ⟨_, g2, rfl, rfl⟩⟩, fun c hc => fresh5 c ?_, q⟩
    simp only [List.mem_cons, List.not_mem_nil, or_false] at hc
    rcases hc with t | t | t | t | t <;> rw [t] <;> first | exact Nat.le_add_right _ _ | exact Nat.le_refl _
def ItE (K : PySem.W.Frag) (a : Addr) : It :=
  ⟨fun i H => ∃ xs x, SqT K H a xs ∧ xs[i]? = some x, fun i H v H' => ∃ T x, v = .ref T ∧ H T = none ∧ H' = upd H T (.tup [.int (i : Nat), x]) ∧ ∀ l, SqT K H a l → l[i]? = some x, fun i H => ∃ xs, SqT K H a xs ∧ i = xs.length⟩
theorem turn_enumE {P : Program} {w : World} {K : PySem.W.Frag} {elts : List Expr} {kk : Nat} {tpos : Pos} (a e it : Addr) (n1 : e ≠ it) (n2 : e ≠ a) (n3 : a ≠ it) :
    Turn P w K (.Tuple elts kk tpos) (ItE K a) [e, it] e (fun i h => (∃ old, IsEnum h e it ((i : Nat) : Int) old) ∧ h.IsTupleIter it a i) where
  mem := List.mem_cons_self ..
  obj i h st c hc := by
    obtain ⟨⟨old, se⟩, ⟨o, so, _, sd⟩⟩ := st
    have hc' : c = e ∨ c = it := by simpa using hc
    rcases hc' with t | t <;> subst t
    · exact ⟨_, se, fun v u => nomatch u⟩
    · exact ⟨o, so, fun v u => by rw [sd] at u; cases u⟩
  keep i h h' st k := ⟨st.1.imp fun old se => k e (by simp) _ se, st.2.at fun o u => k it (by simp) o u⟩
  item := by
    intro X e1 e2 e3 hc i pins s σ H E I hf st hg
    subst e1 e2 e3
    obtain ⟨⟨old, se⟩, si⟩ := st
    obtain ⟨xs, x, hx, gx⟩ := hg
    obtain ⟨us, ru, tu, _⟩ := I.tuple hx
    obtain ⟨u, gu, mu⟩ := ru.get gx
    have hA : X.A.in1.handled = none := I.ok.hd hc
    have D1 : Draws X.prog X.w X.A.in1 it [it, a] us.toArray.size _ _ := Draws.tuple hA it a n3 us.toArray
    have lt1 : i < us.toArray.size := by simpa using (List.getElem?_eq_some_iff.mp gu).1
    have lte : e < s.heap.objs.size := Heap.lt_size se
    have lti : it < s.heap.objs.size := by obtain ⟨_, t, _⟩ := si; exact Heap.lt_size t
    refine wpAny_pyNext_enum_itemD D1 se ⟨si, tu⟩ lt1 n1 (nm5 n1 n2) fun u' hp tk q1 nO ns nT nsz nk => ?_
    obtain rfl : u' = u := Option.some.inj (q1.symm.trans (by simpa using gu))
    refine ⟨_, rfl, wpAny_letOwnedTupleGo_enum (s := { s with heap := hp, toks := tk + 1 }) nO fun h2 me sb => ?_⟩
    have mT : h2.get? s.heap.objs.size = some { cls := .type "tuple", data := .seq #[.int i tk, u'] } := (sb.2 _ (Nat.ne_of_gt lte)).trans nT
    have nw : ObjOk X.prog X.w (upd H s.heap.objs.size (.tup [.int (i : Nat), x])) h2 s.heap.objs.size (.tup [.int (i : Nat), x]) :=
      ⟨by show 2 ≤ sizeLine; decide, [.int i tk, u'], .cons ⟨_, rfl⟩ (.cons mu .nil), _, mT, rfl, _, rfl⟩
    have I2 : Inv X pins σ (upd H s.heap.objs.size (.tup [.int (i : Nat), x])) { s with heap := h2, toks := tk + 1 } :=
      I.turnedNew (ch := [e, it]) (fun c o hb g => by
        have m1 : c ≠ e := fun t => hb (by rw [t]; simp)
        have m2 : c ≠ it := fun t => hb (by rw [t]; simp)
        exact (sb.2 c m1).trans (nk c o m1 m2 g)) hf (Nat.le_refl _) nw
    have e1 : ((i + 1 : Nat) : Int) = (i : Int) + 1 := by omega
    refine ⟨.ref s.heap.objs.size, _, I2, rfl, ⟨_, x, rfl, I.hok.fresh (Nat.le_refl _), rfl, fun l hl => by rw [I.tuple_inj hl hx]; exact gx⟩, ⟨⟨u', by rw [e1]; exact me⟩, ns.1.at fun o g => (sb.2 it (Ne.symm n1)).trans g⟩, fun c hm => ?_⟩
    have hlt : c < s.heap.objs.size := by
      have hc' : c = e ∨ c = it := by simpa using hm
      rcases hc' with t | t <;> subst t
      · exact lte
      · exact lti
    exact (upd_ne (Nat.ne_of_lt hlt)).trans (hf c hm).1
  done := by
    intro X e1 e2 e3 hc i pins s σ H E I hf st hg
    subst e1 e2 e3
    obtain ⟨⟨old, se⟩, si⟩ := st
    obtain ⟨xs, hx, he⟩ := hg
    obtain ⟨us, ru, tu, _⟩ := I.tuple hx
    have nl := ru.length
    have hA : X.A.in1.handled = none := I.ok.hd hc
    have D1 : Draws X.prog X.w X.A.in1 it [it, a] us.toArray.size _ _ := Draws.tuple hA it a n3 us.toArray
    have hz : i = us.toArray.size := by simp; omega
    subst hz
    refine wpAny_pyNext_enum_endD D1 se ⟨si, tu⟩ fun hp nk => ⟨rfl, ?_⟩
    exact I.turnedL (t' := s.toks) (ch := [e, it]) (fun c o hb g => nk c o (fun t => hb (by rw [t]; simp)) g) hf
  self A i s Q E st h := let ⟨⟨_, se⟩, _⟩ := st; wpAny_pyIter_enum se h
theorem meets_enumE (a : Addr) (items : Array Value) :
    Meets (Builtin.«enumerate.__new__» ⟨[.type "enumerate", .ref a], []⟩) (fun _ R s => s.heap.IsTuple a items ∧
      R (.ok (.ret (.ref (s.heap.objs.size + 1)))) { s with heap := (s.heap.push { cls := .type "tuple_iterator", data := .fields #[.ref a, .int 0 0] }).push { cls := .type "enumerate", data := .fields #[.none, .bool false, .ref s.heap.objs.size, rawInt 0, .none, .none] } }) :=
  .of_wp fun prog w A R s hs => by
    obtain ⟨hp, g, d, tk, os⟩ := s
    obtain ⟨ht, hs⟩ := hs
    have sb := sub_enumerate
    have ht0 : Heap.IsTuple (Shared.heap ⟨hp, g, d, tk, os⟩) a items := ht
    have zz : (hp.push { cls := .type "tuple_iterator", data := .fields #[.ref a, .int 0 0] }).objs.size = hp.objs.size + 1 := Heap.size_push ..
    rw [← zz] at hs
    wp_walk using wpAny_pyIter_tuple ht0
    refine wpAny_stack_any (fun sk => wpAny_pure ?_)
    split
    · rename_i cc _ _ _ _ _
      cases (cc == Value.type "enumerate") <;> (wp_walk using wpAny_pyIter_tuple ht0; exact ⟨_, rfl, hs⟩)
    · wp_walk using wpAny_pyIter_tuple ht0; exact ⟨_, rfl, hs⟩
theorem pi_enumE {X : Cx} {e : Expr} {ta : TA} {pn pos tpos : Pos} {elts : List Expr} {kk : Nat} (hg : Gl X "enumerate") (hm : X.mg "enumerate" = none) (ha : PA X [e] ta) (hs : noStar e = true) :
    PI X (.Tuple elts kk tpos) (.Call (.Name "enumerate" pn) [e] [] pos) (fun σ H R => ta σ H fun vs H1 => ∃ a xs, vs = [.ref a] ∧ SqT X.K H1 a xs ∧ R (ItE X.K a) H1) := by
  refine ⟨fun pins s σ H R I h => ?_⟩
  refine Call_ (ld_blt I hg hm boot_enumerate (PyProof.Rows.callWith_type1 (thn (ha.run pos pins s σ H _ I h) fun us s1 ⟨vs, H1, I1, rr, a, xs, ev, hx, q⟩ => ?_) (star_one hs _ _) rfl))
  subst ev
  obtain ⟨u1, us, rfl, m1, rr⟩ : ∃ u1 us', us = u1 :: us' ∧ RelV (.ref a) u1 ∧ Vals [] us' := by cases rr with | cons m r => exact ⟨_, _, rfl, m, r⟩
  cases rr
  obtain rfl : u1 = Value.ref a := m1
  obtain ⟨xi, rx, px, _⟩ := I1.tuple hx
  obtain ⟨oa, ga, _⟩ := id px
  have la := Heap.lt_size ga
  refine callType_new F.called_enumerate (by decide) (F.typeCall_enumerate_1 _) (F.newCall_enumerate_1 _) (fun ob => F.args_object_init_2 ob _) F.entry_enumerate_new (meets_enumE a xi.toArray) ⟨px, ?_⟩
  have z1 : (s1.heap.push { cls := .type "tuple_iterator", data := .fields #[.ref a, .int 0 0] }).objs.size = s1.heap.objs.size + 1 := Heap.size_push ..
  have gE := Heap.get?_push_size (s1.heap.push { cls := .type "tuple_iterator", data := .fields #[.ref a, .int 0 0] }) (o := { cls := .type "enumerate", data := .fields #[.none, .bool false, .ref s1.heap.objs.size, rawInt 0, .none, .none] }) rfl
  rw [z1] at gE
  have gI : ((s1.heap.push { cls := .type "tuple_iterator", data := .fields #[.ref a, .int 0 0] }).push { cls := .type "enumerate", data := .fields #[.none, .bool false, .ref s1.heap.objs.size, rawInt 0, .none, .none] }).get? s1.heap.objs.size = some { cls := .type "tuple_iterator", data := .fields #[.ref a, .int 0 0] } := Heap.get?_push_of_some _ (Heap.get?_push_size _ rfl)
  refine ⟨⟨_, gE, rfl⟩, wpAny_pyIter_enum (i := 0) (old := .none) gE ?_⟩
  have I2 : Inv X pins σ H1 { s1 with heap := (s1.heap.push { cls := .type "tuple_iterator", data := .fields #[.ref a, .int 0 0] }).push { cls := .type "enumerate", data := .fields #[.none, .bool false, .ref s1.heap.objs.size, rawInt 0, .none, .none] } } := I1.kept (t' := s1.toks) fun c o g => Heap.get?_push_of_some _ (Heap.get?_push_of_some _ g)
  refine ⟨_, [s1.heap.objs.size + 1, s1.heap.objs.size], _, _, H1, rfl, I2, turn_enumE a (s1.heap.objs.size + 1) s1.heap.objs.size (Nat.succ_ne_self _) (Nat.ne_of_gt (Nat.lt_succ_of_lt la)) (Nat.ne_of_lt la), ⟨⟨.none, gE⟩, ⟨_, gI, rfl, rfl⟩⟩, fun c hc => ?_, q⟩
  have hle : s1.heap.objs.size ≤ c := by
    simp only [List.mem_cons, List.not_mem_nil, or_false] at hc
    rcases hc with t | t <;> rw [t] <;> first | exact Nat.le_add_right _ _ | exact Nat.le_refl _
  exact I1.fpOk hle (I1.hok.fresh hle)
end FW

namespace FW
open PySem PySem.Spec PyProof.Rows L2 RZ

def Same (ts : List Nat) (σ σ' : L2.St) : Prop := σ'.length = σ.length ∧ ∀ j, j ∉ ts → σ'[j]? = σ[j]?
section
variable {ts us : List Nat} {σ σ' σ'' : L2.St}
theorem Same.refl : Same ts σ σ := ⟨rfl, fun _ _ => rfl⟩
theorem Same.trans (a : Same ts σ σ') (b : Same ts σ' σ'') : Same ts σ σ'' := ⟨b.1.trans a.1, fun j h => (b.2 j h).trans (a.2 j h)⟩
theorem Same.mono (a : Same ts σ σ') (h : ∀ t ∈ ts, t ∈ us) : Same us σ σ' := ⟨a.1, fun j hj => a.2 j fun z => hj (h j z)⟩
theorem Same.set {i : Nat} {x : Option V} (h : i ∈ ts) : Same ts σ (σ.set i x) := ⟨by simp, fun j hj => by rw [List.getElem?_set_ne (fun z => by subst z; exact hj h)]⟩
theorem wipe_in : ∀ (vs : List Nat) (j : Nat), j ∈ vs → (L2.wipe σ vs)[j]? = if j < σ.length then some none else none
  | [], _, h => by cases h
  | v :: vs, j, h => by
    unfold L2.wipe
    by_cases hj : v = j
    · subst hj
      rw [List.getElem?_set]
      simp [L2.wipe_length]
    · rw [List.getElem?_set_ne hj]
      exact wipe_in vs j ((List.mem_cons.mp h).resolve_left fun z => hj z.symm)
theorem Same.wipe {own : List Nat} (a : Same ts (L2.wipe σ own) σ') (h : ∀ t ∈ ts, t ∈ own) : L2.wipe σ' own = L2.wipe σ own := by
  refine List.ext_getElem? fun j => ?_
  by_cases hj : j ∈ own
  · rw [wipe_in own j hj, wipe_in own j hj, a.1, L2.wipe_length]
  · rw [L2.wipe_out hj, a.2 j fun z => hj (h j z)]
end
section
variable (K : PySem.W.Frag) (mg : PySem.Str → Option Value)
def rdG (wk : Bool) (g : PV → Slots → Option Slots) (ts : List Nat) : TG := fun v σ H Q => ∃ ι F S ρ x ρ', Sim K mg ι F S H ∧ RepR K mg F ι ρ σ ∧ RepW wk K mg F x v ∧ g x ρ = some ρ' ∧
  ∀ ι' F' σ' H', Ext ι F ι' F' → Sim K mg ι' F' S H' → RepR K mg F' ι' ρ' σ' → Same ts σ σ' → Q σ' H'
def rdGs (g : List PV → Slots → Option Slots) (ts : List Nat) : TGs := fun vs σ H Q => ∃ ι F S ρ xs ρ', Sim K mg ι F S H ∧ RepR K mg F ι ρ σ ∧ RepL K mg F xs vs ∧ g xs ρ = some ρ' ∧
  ∀ ι' F' σ' H', Ext ι F ι' F' → Sim K mg ι' F' S H' → RepR K mg F' ι' ρ' σ' → Same ts σ σ' → Q σ' H'
end
theorem assign_one {e : Expr} (h : noStar e = true) (es : List Expr) (env : Env) : assignEach (e :: es) env = (false, assign e env) :: assignEach es env := by
  cases e <;> first | rfl | simp [noStar] at h
theorem assign_len (env : Env) : ∀ {es : List Expr}, (∀ e ∈ es, noStar e = true) → (assignEach es env).length = es.length ∧ (assignEach es env).findIdx? (·.1) = none
  | [], _ => ⟨rfl, rfl⟩
  | e :: es, h => by
    obtain ⟨h1, h2⟩ := assign_len env (es := es) fun x hx => h x (List.mem_cons_of_mem _ hx)
    rw [assign_one (h e List.mem_cons_self)]
    refine ⟨by simp [h1], ?_⟩
    rw [List.findIdx?_cons]
    simp [h2]
section
variable {X : Cx} {e : Expr} {es : List Expr} {pos p : Pos}
theorem pg_mono {t t' : TG} (h : PG X e t) (m : ∀ v σ H Q, t' v σ H Q → t v σ H Q) : PG X e t' := ⟨fun pins s σ H v u Q I r q => h.run pins s σ H v u Q I r (m v σ H Q q)⟩
theorem pgs_mono {t t' : TGs} (h : PGs X es t) (m : ∀ v σ H Q, t' v σ H Q → t v σ H Q) : PGs X es t' := ⟨fun pins s σ H v u Q I r q => h.run pins s σ H v u Q I r (m v σ H Q q)⟩
theorem g_name {i : Nat} {x : PySem.Str} (hN : X.N.Nodup) (hi : X.N[i]? = some x) (hx : Loc X.env.scope x) (hf : X.fn x = true ∨ X.env.scope.names.lookup x = some .local) : PG X (.Name x pos) (rdG X.K X.mg false (fun y ρ => some (ρ.set i (some (.v y)))) [i]) :=
  pg_mono (pg_name hN hi hx hf) fun v σ H Q h => by
    obtain ⟨ι, F, S, ρ, x, ρ', sim, r, rx, hg, q⟩ := h
    cases hg
    have rx : Rep X.K X.mg F x v := rx.elim id fun z => absurd z.1 (by decide)
    exact q _ _ _ _ Ext.refl sim (r.set (x := .v x) rx i) (Same.set List.mem_cons_self)
theorem g_tup {k : Nat} {ts : List Nat} {g : List PV → Slots → Option Slots} (hc : X.calm = true) (h : PGs X es (rdGs X.K X.mg g ts)) (hs : ∀ e ∈ es, noStar e = true) (hl : ∀ xs ρ ρ', g xs ρ = some ρ' → xs.length = es.length) :
    PG X (.Tuple es k pos) (rdG X.K X.mg wk (fun x ρ => match x with | .tup xs => g xs ρ | .lst xs => g xs ρ | _ => none) ts) := by
  refine ⟨fun pins s σ H v u Q I ru h' => ?_⟩
  obtain ⟨ι, F, S, ρ, x, ρ', sim, r, rx, hg, q⟩ := h'
  simp only at hg
  split at hg
  · rename_i xs
    have got : ∃ p vs, v = .ref p ∧ RepL X.K X.mg F xs vs ∧ SqT X.K F p vs := by
      rcases rx with rx | ⟨_, xs', p, vs, e, e2, hq, l⟩
      · obtain ⟨p, vs, e, l, hq⟩ := sim.seqT (x := .v (.tup xs)) rx rfl
        exact ⟨p, vs, e, l, hq.sqT⟩
      · cases e
        exact ⟨p, vs, e2, l, hq⟩
    obtain ⟨p, vs, rfl, l, hq⟩ := got
    exact (pg_tup hc h (assign_len X.env hs).1 (assign_len X.env hs).2).run pins s σ H _ u Q I ru ⟨p, vs, rfl, sim.sub.sqT hq, by rw [← l.length, hl _ _ _ hg], ι, F, S, ρ, xs, ρ', sim, r, l, hg, q⟩
  · rename_i xs
    have rx : Rep X.K X.mg F (.lst xs) v := rx.elim id fun ⟨_, xs', p, vs, e, _⟩ => nomatch e
    obtain ⟨p, vs, rfl, l, hq⟩ := sim.seqL (x := .v (.lst xs)) rx rfl
    exact (pg_lst hc h (assign_len X.env hs).1 (assign_len X.env hs).2).run pins s σ H _ u Q I ru ⟨p, vs, rfl, .inl hq, by rw [← l.length, hl _ _ _ hg], ι, F, S, ρ, xs, ρ', sim, r, l, hg, q⟩
  · cases hg
theorem gs_nil : PGs X [] (rdGs X.K X.mg (fun xs ρ => match xs with | [] => some ρ | _ => none) []) := pgs_mono pgs_nil fun v σ H Q h => by
  obtain ⟨ι, F, S, ρ, xs, ρ', sim, r, l, hg, q⟩ := h
  simp only at hg
  split at hg
  · cases hg; cases l
    exact ⟨rfl, q _ _ _ _ Ext.refl sim r Same.refl⟩
  · cases hg
theorem gs_cons {t1 t2 : List Nat} {g : PV → Slots → Option Slots} {gs : List PV → Slots → Option Slots} (h1 : PG X e (rdG X.K X.mg wk g t1)) (h2 : PGs X es (rdGs X.K X.mg gs t2)) (hs : noStar e = true) :
    PGs X (e :: es) (rdGs X.K X.mg (fun xs ρ => match xs with | x :: xs => (match g x ρ with | some ρ' => gs xs ρ' | none => none) | [] => none) (t1 ++ t2)) :=
  pgs_mono (pgs_cons h1 h2 (by rw [assign_one hs]; rfl)) fun v σ H Q h => by
    obtain ⟨ι, F, S, ρ, xs, ρ', sim, r, l, hg, q⟩ := h
    cases xs with
    | nil => cases hg
    | cons x xs =>
      simp only at hg
      split at hg
      · rename_i ρ1 h1
        obtain ⟨v, vr, rfl, rx, l⟩ := l
        refine ⟨v, vr, rfl, ι, F, S, ρ, x, ρ1, sim, r, .inl rx, h1, fun ι1 F1 σ1 H1 e1 s1 r1 z1 => ?_⟩
        exact ⟨ι1, F1, S, ρ1, xs, ρ', s1, r1, l.mono e1.2, hg, fun ι2 F2 σ2 H2 e2 s2 r2 z2 => q _ _ _ _ (e1.trans e2) s2 r2 ((z1.mono fun _ => List.mem_append_left _).trans (z2.mono fun _ => List.mem_append_right _))⟩
      · cases hg
end

structure WalkP (wk : Bool) (K : PySem.W.Frag) (mg : PySem.Str → Option Value) (F : Hp) (xs : List PV) (J : It) : Prop where
  goes : ∀ i H, i < xs.length → Sub F H → J.go i H
  stops : ∀ H, Sub F H → J.stop xs.length H
  yields : ∀ i H v H', i < xs.length → Sub F H → J.yld i H v H' → ∀ ι F2 S, Sub F F2 → Sim K mg ι F2 S H → ∃ F3 y, Ext ι F2 ι F3 ∧ Sim K mg ι F3 S H' ∧ xs[i]? = some y ∧ RepW wk K mg F3 y v
  tracked : ∀ i H v H' D o, i < xs.length → Sub F H → J.yld i H v H' → H D = some o → H' D = some o
section
variable (K : PySem.W.Frag) (mg : PySem.Str → Option Value)
def rdI (wk : Bool) (f : IS) : TI := fun σ H R => ∃ ι F S ρ xs S', Sim K mg ι F S H ∧ RepR K mg F ι ρ σ ∧ f ρ S = .ok xs S' ∧ ∀ ι' F' H' J, Ext ι F ι' F' → Sim K mg ι' F' S' H' → WalkP wk K mg F' xs J → R J H'
end
section
variable {X : Cx} {K : PySem.W.Frag} {mg : PySem.Str → Option Value} {F H : Hp} {a b e : Expr} {tg : Expr} {fa fb fc : VS} {pos p : Pos}
theorem wp_list {p : Addr} {xs : List PV} {vs : List V} (l : RepL K mg F xs vs) (hq : Rd F p (.lst vs)) : WalkP wk K mg F xs (Itl K p) where
  goes i H hi hs := by
    obtain ⟨v, h1, _⟩ := l.get (List.getElem?_eq_getElem hi)
    exact ⟨vs, v, .inl (hs.rd hq), h1⟩
  stops H hs := ⟨vs, .inl (hs.rd hq), by rw [l.length]; exact Nat.le_refl _⟩
  yields i H v H' hi hs y ι F2 S s2 sim := by
    obtain ⟨rfl, y⟩ := y
    obtain ⟨w, h1, h2⟩ := l.get (List.getElem?_eq_getElem hi)
    have := y vs (.inl (hs.rd hq))
    rw [h1] at this; cases this
    exact ⟨F2, _, Ext.refl, sim, List.getElem?_eq_getElem hi, .inl (h2.mono s2)⟩
  tracked i H v H' D o hi hs y h := by obtain ⟨rfl, _⟩ := y; exact h
theorem wp_tup {p : Addr} {xs : List PV} {vs : List V} (l : RepL K mg F xs vs) (hq : SqT K F p vs) : WalkP wk K mg F xs (Itt K p) where
  goes i H hi hs := by
    obtain ⟨v, h1, _⟩ := l.get (List.getElem?_eq_getElem hi)
    exact ⟨vs, v, hs.sqT hq, h1⟩
  stops H hs := ⟨vs, hs.sqT hq, by rw [l.length]; exact Nat.le_refl _⟩
  yields i H v H' hi hs y ι F2 S s2 sim := by
    obtain ⟨rfl, y⟩ := y
    obtain ⟨w, h1, h2⟩ := l.get (List.getElem?_eq_getElem hi)
    have := y vs (hs.sqT hq)
    rw [h1] at this; cases this
    exact ⟨F2, _, Ext.refl, sim, List.getElem?_eq_getElem hi, .inl (h2.mono s2)⟩
  tracked i H v H' D o hi hs y h := by obtain ⟨rfl, _⟩ := y; exact h
theorem i_seq (ha : PE X a (rdE X.K X.mg fa)) : PI X tg a (rdI X.K X.mg wk (iSeq fa)) := by
  refine ⟨fun pins s σ H R I h => ?_⟩
  obtain ⟨ι, F, S, ρ, xs, S', sim, r, hf, q⟩ := h
  obtain ⟨x, S1, h1, hf⟩ := bind_ok hf
  unfold seqOp at hf
  split at hf
  · cases hf
    refine (pi_tup ha).run pins s σ H R I ⟨ι, F, S, ρ, _, _, sim, r, h1, fun ι1 F1 v H1 e1 s1 r1 => ?_⟩
    obtain ⟨p, vs, rfl, l, hq⟩ := s1.seqT r1 rfl
    exact ⟨p, rfl, ⟨vs, s1.sub.sqT hq.sqT⟩, q _ _ _ _ e1 s1 (wp_tup l hq.sqT)⟩
  · cases hf
    refine (pi_list ha).run pins s σ H R I ⟨ι, F, S, ρ, _, _, sim, r, h1, fun ι1 F1 v H1 e1 s1 r1 => ?_⟩
    obtain ⟨p, vs, rfl, hq, l⟩ := r1
    exact ⟨p, rfl, ⟨vs, .inl (s1.sub.rd hq)⟩, q _ _ _ _ e1 s1 (wp_list l hq)⟩
  · cases hf
theorem wp_range {i j : Int} : WalkP wk K mg F (rng i j) (Itr i (j - i).toNat) where
  goes n H hi hs := by show n < (j - i).toNat; simpa [rng] using hi
  stops H hs := by show (j - i).toNat ≤ (rng i j).length; simp [rng]
  yields n H v H' hi hs y ι F2 S s2 sim := by
    obtain ⟨rfl, rfl⟩ := y
    refine ⟨F2, .int (i + n), Ext.refl, sim, ?_, .inl rfl⟩
    have hn : n < (j - i).toNat := by simpa [rng] using hi
    simp only [rng, List.getElem?_map, List.getElem?_range hn, Option.map_some]
    rfl
  tracked n H v H' D o hi hs y h := by obtain ⟨rfl, _⟩ := y; exact h
theorem rngN_eq (n : Int) : rngN n = rng 0 n := by
  unfold rngN rng
  rw [Int.sub_zero]
  refine List.map_congr_left fun i _ => ?_
  rw [Int.zero_add]
theorem rngOk_le {n : Int} (h : rngOk n = true) : n ≤ 4000000 := of_decide_eq_true h
theorem i_rng1 (hg : Gl X "range") (hm : X.mg "range" = none) (ha : PE X a (rdE X.K X.mg fa)) (hs : noStar a = true) : PI X tg (.Call (.Name "range" p) [a] [] pos) (rdI X.K X.mg wk (iRng1 fa)) := by
  refine ⟨fun pins s σ H R I h => ?_⟩
  obtain ⟨ι, F, S, ρ, xs, S', sim, r, hf, q⟩ := h
  obtain ⟨x, S1, h1, hf⟩ := bind_ok hf
  unfold rng1Op at hf
  split at hf
  · rename_i n
    split at hf
    · rename_i hn
      cases hf
      rw [Bool.and_eq_true] at hn
      have h2 := rngOk_le hn.1
      have h3 := rngOk_le hn.2
      refine (pi_range1 hg hm (pa_cons ha pa_nil (star_one hs _ _)) (star_one hs _ _)).run pins s σ H R I ⟨ι, F, S, ρ, _, _, sim, r, h1, fun ι1 F1 v H1 e1 s1 r1 => ?_⟩
      cases r1
      refine ⟨n, rfl, by omega, by omega, q _ _ _ _ e1 s1 ?_⟩
      rw [rngN_eq]
      have := wp_range (wk := wk) (K := X.K) (mg := X.mg) (F := F1) (i := 0) (j := n)
      rw [Int.sub_zero] at this
      exact this
    · cases hf
  · cases hf
theorem i_rng2 (hg : Gl X "range") (hm : X.mg "range" = none) (ha : PE X a (rdE X.K X.mg fa)) (hb : PE X b (rdE X.K X.mg fb)) (hs : noStar a = true) (hs2 : noStar b = true) : PI X tg (.Call (.Name "range" p) [a, b] [] pos) (rdI X.K X.mg wk (iRng2 fa fb)) := by
  refine ⟨fun pins s σ H R I h => ?_⟩
  obtain ⟨ι, F, S, ρ, xs, S', sim, r, hf0, q⟩ := h
  obtain ⟨x, S1, h1, hf1⟩ := bind_ok hf0
  obtain ⟨y, S2, h2, hf⟩ := bind_ok hf1
  clear hf0 hf1
  unfold rng2Op at hf
  split at hf
  · rename_i i j
    split at hf
    · rename_i hn
      cases hf
      simp only [Bool.and_eq_true] at hn
      obtain ⟨⟨⟨n1, n2⟩, n3⟩, n4⟩ := hn
      have h3 := rngOk_le n1
      have h4 := rngOk_le n2
      have h5 := rngOk_le n3
      have h6 := rngOk_le n4
      refine (pi_range2 hg hm (pa_cons ha (pa_cons hb pa_nil (star_one hs2 _ _)) (star_one hs _ _)) (by rw [star_one hs, star_one hs2]; rfl) (star_one hs2 _ _)).run pins s σ H R I ⟨ι, F, S, ρ, _, _, sim, r, h1, fun ι1 F1 v H1 e1 s1 r1 => ?_⟩
      refine ⟨ι1, F1, S1, ρ, _, _, s1, r.mono e1, h2, fun ι2 F2 w H2 e2 s2 r2 => ?_⟩
      cases r1; cases r2
      exact ⟨i, j, rfl, ⟨by omega, by omega, by omega, by omega⟩, q _ _ _ _ (e1.trans e2) s2 wp_range⟩
    · cases hf
  · cases hf
theorem wp_rangeC {i : Int} {n : Nat} : WalkP wk K mg F ((List.range n).map fun m => PV.int (i + Int.ofNat m * (-1))) (L2.Itc i (-1) n) where
  goes m H hi hs := by show m < n; simpa using hi
  stops H hs := by show n ≤ _; simp
  yields m H v H' hi hs y ι F2 S s2 sim := by
    obtain ⟨rfl, rfl⟩ := y
    refine ⟨F2, .int (i + (m : Nat) * (-1)), Ext.refl, sim, ?_, .inl rfl⟩
    have hn : m < n := by simpa using hi
    simp only [List.getElem?_map, List.getElem?_range hn, Option.map_some]
    rfl
  tracked m H v H' D o hi hs y h := by obtain ⟨rfl, _⟩ := y; exact h
theorem rng3_down (i j : Int) : rng3 i j (-1) = (List.range (i - j).toNat).map fun m => PV.int (i + Int.ofNat m * (-1)) := by
  unfold rng3
  rw [if_neg (by decide)]
  have : (i - j - -1 - 1) / (- -1) = i - j := by
    rw [show (- -1 : Int) = 1 from rfl, Int.ediv_one]
    omega
  rw [this]
theorem i_rngC {cE : Expr} {fc : VS} (hg : Gl X "range") (hm : X.mg "range" = none) (ha : PE X a (rdE X.K X.mg fa)) (hb : PE X b (rdE X.K X.mg fb)) (hcE : PE X cE (rdE X.K X.mg fc)) (hs : noStar a = true) (hs2 : noStar b = true) (hs3 : noStar cE = true) (hk : ∀ ρ S z S', fc ρ S = .ok z S' → z = .v (.int (-1))) :
    PI X tg (.Call (.Name "range" p) [a, b, cE] [] pos) (rdI X.K X.mg wk (iRng3 fa fb fc)) := by
  refine ⟨fun pins s σ H R I h => ?_⟩
  obtain ⟨ι, F, S, ρ, xs, S', sim, r, hf0, q⟩ := h
  obtain ⟨x, S1, h1, hf1⟩ := bind_ok hf0
  obtain ⟨y, S2, h2, hf2⟩ := bind_ok hf1
  obtain ⟨z, S3, h3, hf⟩ := bind_ok hf2
  clear hf0 hf1 hf2
  obtain rfl := hk _ _ _ _ h3
  unfold rng3Op at hf
  split at hf
  · rename_i x0 y0 z0 i j k e3
    split at hf
    · rename_i hn
      cases hf
      cases e3
      simp only [Bool.and_eq_true] at hn
      obtain ⟨⟨⟨⟨⟨⟨n1, n2⟩, n3⟩, n4⟩, _⟩, _⟩, _⟩ := hn
      have h4 := rngOk_le n1
      have h5 := rngOk_le n2
      have h6 := rngOk_le n3
      have h7 := rngOk_le n4
      refine (L2.pi_range3 hg hm (pa_cons ha (pa_cons hb (pa_cons hcE pa_nil (star_one hs3 _ _)) (star_one hs2 _ _)) (star_one hs _ _)) (star_one hs _ _) (by rw [star_one hs2, star_one hs3]; rfl)).run pins s σ H R I ⟨ι, F, S, ρ, _, _, sim, r, h1, fun ι1 F1 v H1 e1 s1 r1 => ?_⟩
      refine ⟨ι1, F1, S1, ρ, _, _, s1, r.mono e1, h2, fun ι2 F2 w H2 e2 s2 r2 => ?_⟩
      refine ⟨ι2, F2, S2, ρ, _, _, s2, (r.mono e1).mono e2, h3, fun ι3 F3 u H3 e3 s3 r3 => ?_⟩
      cases r1; cases r2; cases r3
      refine ⟨i, j, -1, (i - j).toNat, rfl, L2.RgC.neg (by omega) (by omega) (by omega) (by omega), q _ _ _ _ ((e1.trans e2).trans e3) s3 ?_⟩
      rw [rng3_down]
      exact wp_rangeC
    · cases hf
  · cases hf
theorem zipL_get : ∀ (xs ys : List PV) (i : Nat), (zipL xs ys)[i]? = match xs[i]?, ys[i]? with | some x, some y => some (.tup [x, y]) | _, _ => none
  | [], ys, i => by cases ys <;> simp [zipL]
  | x :: xs, [], i => by simp [zipL]
  | x :: xs, y :: ys, 0 => by simp [zipL]
  | x :: xs, y :: ys, i + 1 => by simp only [zipL, List.getElem?_cons_succ]; exact zipL_get xs ys i
theorem zipL_len : ∀ (xs ys : List PV), (zipL xs ys).length = min xs.length ys.length
  | [], ys => by cases ys <;> simp [zipL]
  | x :: xs, [] => by simp [zipL]
  | x :: xs, y :: ys => by simp only [zipL, List.length_cons, zipL_len xs ys]; omega
theorem pair_new {ι : Plc} {F2 H : Hp} {S : Store} {T : Addr} {x y : PV} {v w : V} (sim : Sim K mg ι F2 S H) (hT : H T = none) (r1 : Rep K mg F2 x v) (r2 : Rep K mg F2 y w) :
    ∃ F3, Ext ι F2 ι F3 ∧ Sim K mg ι F3 S (upd H T (.tup [v, w])) ∧ RepW true K mg F3 (.tup [x, y]) (.ref T) := by
  obtain ⟨s, e⟩ := sim.newF (o := .tup [v, w]) hT
  exact ⟨_, e, s, .inr ⟨rfl, [x, y], T, [v, w], rfl, rfl, .inl (.inl upd_same), v, [w], rfl, r1.mono e.2, RepL.one (r2.mono e.2)⟩⟩
theorem wp_zipL {a b : Addr} {xs ys : List PV} {vs ws : List V} (l : RepL K mg F xs vs) (hq : Rd F a (.lst vs)) (l2 : RepL K mg F ys ws) (hq2 : Rd F b (.lst ws)) : WalkP true K mg F (zipL xs ys) (Itz K a b) where
  goes i H hi hs := by
    rw [zipL_len] at hi
    obtain ⟨v, h1, _⟩ := l.get (List.getElem?_eq_getElem (show i < xs.length by omega))
    obtain ⟨w, h2, _⟩ := l2.get (List.getElem?_eq_getElem (show i < ys.length by omega))
    exact ⟨vs, ws, v, w, .inl (hs.rd hq), .inl (hs.rd hq2), h1, h2⟩
  stops H hs := ⟨vs, ws, .inl (hs.rd hq), .inl (hs.rd hq2), by rw [zipL_len, l.length, l2.length]; omega⟩
  yields i H v H' hi hs y ι F2 S s2 sim := by
    rw [zipL_len] at hi
    obtain ⟨T, x, z, rfl, hT, rfl, y1, y2⟩ := y
    have e1 := List.getElem?_eq_getElem (show i < xs.length by omega)
    have e2 := List.getElem?_eq_getElem (show i < ys.length by omega)
    obtain ⟨v, h1, g1⟩ := l.get e1
    obtain ⟨w, h2, g2⟩ := l2.get e2
    have k1 := y1 vs (.inl (hs.rd hq))
    have k2 := y2 ws (.inl (hs.rd hq2))
    rw [h1] at k1; cases k1
    rw [h2] at k2; cases k2
    obtain ⟨F3, ex, s3, r3⟩ := pair_new sim hT (g1.mono s2) (g2.mono s2)
    exact ⟨F3, _, ex, s3, by rw [zipL_get, e1, e2], r3⟩
  tracked i H v H' D o hi hs y h := by
    obtain ⟨T, x, z, rfl, hT, rfl, y1, y2⟩ := y
    rw [upd_ne (ne_of_none h hT)]; exact h
theorem wp_zipT {a b : Addr} {xs ys : List PV} {vs ws : List V} (l : RepL K mg F xs vs) (hq : SqT K F a vs) (l2 : RepL K mg F ys ws) (hq2 : SqT K F b ws) : WalkP true K mg F (zipL xs ys) (ItzT K a b) where
  goes i H hi hs := by
    rw [zipL_len] at hi
    obtain ⟨v, h1, _⟩ := l.get (List.getElem?_eq_getElem (show i < xs.length by omega))
    obtain ⟨w, h2, _⟩ := l2.get (List.getElem?_eq_getElem (show i < ys.length by omega))
    exact ⟨vs, ws, v, w, hs.sqT hq, hs.sqT hq2, h1, h2⟩
  stops H hs := ⟨vs, ws, hs.sqT hq, hs.sqT hq2, by rw [zipL_len, l.length, l2.length]; omega⟩
  yields i H v H' hi hs y ι F2 S s2 sim := by
    rw [zipL_len] at hi
    obtain ⟨T, x, z, rfl, hT, rfl, y1, y2⟩ := y
    have e1 := List.getElem?_eq_getElem (show i < xs.length by omega)
    have e2 := List.getElem?_eq_getElem (show i < ys.length by omega)
    obtain ⟨v, h1, g1⟩ := l.get e1
    obtain ⟨w, h2, g2⟩ := l2.get e2
    have k1 := y1 vs (hs.sqT hq)
    have k2 := y2 ws (hs.sqT hq2)
    rw [h1] at k1; cases k1
    rw [h2] at k2; cases k2
    obtain ⟨F3, ex, s3, r3⟩ := pair_new sim hT (g1.mono s2) (g2.mono s2)
    exact ⟨F3, _, ex, s3, by rw [zipL_get, e1, e2], r3⟩
  tracked i H v H' D o hi hs y h := by
    obtain ⟨T, x, z, rfl, hT, rfl, y1, y2⟩ := y
    rw [upd_ne (ne_of_none h hT)]; exact h
theorem wp_zipG {p q : Hp → List V → Prop} {xs ys : List PV} {vs ws : List V} (l : RepL K mg F xs vs) (hp : ∀ H, Sub F H → p H vs) (l2 : RepL K mg F ys ws) (hq : ∀ H, Sub F H → q H ws) : WalkP true K mg F (zipL xs ys) (ItzG p q) where
  goes i H hi hs := by
    rw [zipL_len] at hi
    obtain ⟨v, h1, _⟩ := l.get (List.getElem?_eq_getElem (show i < xs.length by omega))
    obtain ⟨w, h2, _⟩ := l2.get (List.getElem?_eq_getElem (show i < ys.length by omega))
    exact ⟨vs, ws, v, w, hp H hs, hq H hs, h1, h2⟩
  stops H hs := ⟨vs, ws, hp H hs, hq H hs, by rw [zipL_len, l.length, l2.length]⟩
  yields i H v H' hi hs y ι F2 S s2 sim := by
    rw [zipL_len] at hi
    obtain ⟨T, x, z, rfl, hT, rfl, y1, y2⟩ := y
    have e1 := List.getElem?_eq_getElem (show i < xs.length by omega)
    have e2 := List.getElem?_eq_getElem (show i < ys.length by omega)
    obtain ⟨v, h1, g1⟩ := l.get e1
    obtain ⟨w, h2, g2⟩ := l2.get e2
    have k1 := y1 vs (hp H hs)
    have k2 := y2 ws (hq H hs)
    rw [h1] at k1; cases k1
    rw [h2] at k2; cases k2
    obtain ⟨F3, ex, s3, r3⟩ := pair_new sim hT (g1.mono s2) (g2.mono s2)
    exact ⟨F3, _, ex, s3, by rw [zipL_get, e1, e2], r3⟩
  tracked i H v H' D o hi hs y h := by
    obtain ⟨T, x, z, rfl, hT, rfl, y1, y2⟩ := y
    rw [upd_ne (ne_of_none h hT)]; exact h
theorem i_zip {elts : List Expr} {kk : Nat} {tpos : Pos} (hc : X.calm = true) (hg : Gl X "zip") (hm : X.mg "zip" = none) (ha : PE X a (rdE X.K X.mg fa)) (hb : PE X b (rdE X.K X.mg fb)) (hs : noStar a = true) (hs2 : noStar b = true) : PI X (.Tuple elts kk tpos) (.Call (.Name "zip" p) [a, b] [] pos) (rdI X.K X.mg true (iZip fa fb)) := by
  refine ⟨fun pins s σ H R I h => ?_⟩
  obtain ⟨ι, F, S, ρ, xs, S', sim, r, hf, q⟩ := h
  obtain ⟨x, S1, h1, hf⟩ := bind_ok hf
  obtain ⟨y, S2, h2, hf⟩ := bind_ok hf
  have pas := pa_cons ha (pa_cons hb pa_nil (star_one hs2 _ _)) (star_one hs _ _)
  unfold zipOp at hf
  split at hf
  · cases hf
    refine (pi_zipA hg hm pas (star_one hs _ _) (by rw [star_one hs2]; rfl)).run pins s σ H R I ⟨ι, F, S, ρ, _, _, sim, r, h1, fun ι1 F1 v H1 e1 s1 r1 => ?_⟩
    refine ⟨ι1, F1, S1, ρ, _, _, s1, r.mono e1, h2, fun ι2 F2 w H2 e2 s2 r2 => ?_⟩
    obtain ⟨p, vs, rfl, l, hq⟩ := s2.seqT (r1.mono e2) rfl
    obtain ⟨p2, ws, rfl, l2, hq2⟩ := s2.seqT r2 rfl
    exact ⟨p, p2, vs, ws, rfl, .inr ⟨s2.sub.sqT hq.sqT, s2.sub.sqT hq2.sqT, q _ _ _ _ (e1.trans e2) s2 (wp_zipT l hq.sqT l2 hq2.sqT)⟩⟩
  · cases hf
    refine (pi_zipA hg hm pas (star_one hs _ _) (by rw [star_one hs2]; rfl)).run pins s σ H R I ⟨ι, F, S, ρ, _, _, sim, r, h1, fun ι1 F1 v H1 e1 s1 r1 => ?_⟩
    refine ⟨ι1, F1, S1, ρ, _, _, s1, r.mono e1, h2, fun ι2 F2 w H2 e2 s2 r2 => ?_⟩
    obtain ⟨p, vs, rfl, hq, l⟩ := r1.mono e2
    obtain ⟨p2, ws, rfl, hq2, l2⟩ := r2
    exact ⟨p, p2, vs, ws, rfl, .inl ⟨.inl (s2.sub.rd hq), .inl (s2.sub.rd hq2), q _ _ _ _ (e1.trans e2) s2 (wp_zipL l hq l2 hq2)⟩⟩
  · cases hf
    refine (pi_zipG hg hm pas hs hs2).run pins s σ H R I ⟨ι, F, S, ρ, _, _, sim, r, h1, fun ι1 F1 v H1 e1 s1 r1 => ?_⟩
    refine ⟨ι1, F1, S1, ρ, _, _, s1, r.mono e1, h2, fun ι2 F2 w H2 e2 s2 r2 => ?_⟩
    obtain ⟨p, vs, rfl, l, hq⟩ := s2.seqT (r1.mono e2) rfl
    obtain ⟨p2, ws, rfl, hq2, l2⟩ := r2
    exact ⟨p, p2, rfl, .inl ⟨vs, ws, s2.sub.sqT hq.sqT, .inl (s2.sub.rd hq2), q _ _ _ _ (e1.trans e2) s2 (wp_zipG l (fun H hs => hs.sqT hq.sqT) l2 fun H hs => .inl (hs.rd hq2))⟩⟩
  · cases hf
    refine (pi_zipG hg hm pas hs hs2).run pins s σ H R I ⟨ι, F, S, ρ, _, _, sim, r, h1, fun ι1 F1 v H1 e1 s1 r1 => ?_⟩
    refine ⟨ι1, F1, S1, ρ, _, _, s1, r.mono e1, h2, fun ι2 F2 w H2 e2 s2 r2 => ?_⟩
    obtain ⟨p, vs, rfl, hq, l⟩ := r1.mono e2
    obtain ⟨p2, ws, rfl, l2, hq2⟩ := s2.seqT r2 rfl
    exact ⟨p, p2, rfl, .inr ⟨vs, ws, .inl (s2.sub.rd hq), s2.sub.sqT hq2.sqT, q _ _ _ _ (e1.trans e2) s2 (wp_zipG l (fun H hs => .inl (hs.rd hq)) l2 fun H hs => hs.sqT hq2.sqT)⟩⟩
  · cases hf
theorem enumL_get : ∀ (xs : List PV) (k i : Nat), (enumL k xs)[i]? = (xs[i]?).map fun x => .tup [.int (Int.ofNat (k + i)), x]
  | [], k, i => by simp [enumL]
  | x :: xs, k, 0 => by simp [enumL]
  | x :: xs, k, i + 1 => by
    simp only [enumL, List.getElem?_cons_succ]
    rw [enumL_get xs (k + 1) i, show k + 1 + i = k + (i + 1) by omega]
theorem enumL_len : ∀ (xs : List PV) (k : Nat), (enumL k xs).length = xs.length
  | [], k => rfl
  | x :: xs, k => by simp [enumL, enumL_len xs]
theorem wp_enum {a : Addr} {xs : List PV} {vs : List V} (l : RepL K mg F xs vs) (hq : Rd F a (.lst vs)) : WalkP true K mg F (enumL 0 xs) (Ite K a) where
  goes i H hi hs := by
    rw [enumL_len] at hi
    obtain ⟨v, h1, _⟩ := l.get (List.getElem?_eq_getElem hi)
    exact ⟨vs, v, .inl (hs.rd hq), h1⟩
  stops H hs := ⟨vs, .inl (hs.rd hq), by rw [enumL_len, l.length]; exact Nat.le_refl _⟩
  yields i H v H' hi hs y ι F2 S s2 sim := by
    rw [enumL_len] at hi
    obtain ⟨T, x, rfl, hT, rfl, y1⟩ := y
    have e1 := List.getElem?_eq_getElem hi
    obtain ⟨v, h1, g1⟩ := l.get e1
    have k1 := y1 vs (.inl (hs.rd hq))
    rw [h1] at k1; cases k1
    obtain ⟨F3, ex, s3, r3⟩ := pair_new sim hT (show Rep K mg F2 (.int (Int.ofNat i)) (.int (i : Nat)) from rfl) (g1.mono s2)
    exact ⟨F3, _, ex, s3, by rw [enumL_get, e1, Nat.zero_add]; rfl, r3⟩
  tracked i H v H' D o hi hs y h := by
    obtain ⟨T, x, rfl, hT, rfl, y1⟩ := y
    rw [upd_ne (ne_of_none h hT)]; exact h
theorem wp_enumE {a : Addr} {xs : List PV} {vs : List V} (l : RepL K mg F xs vs) (hq : SqT K F a vs) : WalkP true K mg F (enumL 0 xs) (ItE K a) where
  goes i H hi hs := by
    rw [enumL_len] at hi
    obtain ⟨v, h1, _⟩ := l.get (List.getElem?_eq_getElem hi)
    exact ⟨vs, v, hs.sqT hq, h1⟩
  stops H hs := ⟨vs, hs.sqT hq, by rw [enumL_len, l.length]⟩
  yields i H v H' hi hs y ι F2 S s2 sim := by
    rw [enumL_len] at hi
    obtain ⟨T, x, rfl, hT, rfl, y1⟩ := y
    have e1 := List.getElem?_eq_getElem hi
    obtain ⟨v, h1, g1⟩ := l.get e1
    have k1 := y1 vs (hs.sqT hq)
    rw [h1] at k1; cases k1
    obtain ⟨F3, ex, s3, r3⟩ := pair_new sim hT (show Rep K mg F2 (.int (Int.ofNat i)) (.int (i : Nat)) from rfl) (g1.mono s2)
    exact ⟨F3, _, ex, s3, by rw [enumL_get, e1, Nat.zero_add]; rfl, r3⟩
  tracked i H v H' D o hi hs y h := by
    obtain ⟨T, x, rfl, hT, rfl, y1⟩ := y
    rw [upd_ne (ne_of_none h hT)]; exact h
theorem i_enum {elts : List Expr} {kk : Nat} {tpos : Pos} (hg : Gl X "enumerate") (hm : X.mg "enumerate" = none) (ha : PE X a (rdE X.K X.mg fa)) (hs : noStar a = true) : PI X (.Tuple elts kk tpos) (.Call (.Name "enumerate" p) [a] [] pos) (rdI X.K X.mg true (iEnum fa)) := by
  refine ⟨fun pins s σ H R I h => ?_⟩
  obtain ⟨ι, F, S, ρ, xs, S', sim, r, hf, q⟩ := h
  obtain ⟨x, S1, h1, hf⟩ := bind_ok hf
  have pas := pa_cons ha pa_nil (star_one hs _ _)
  unfold enumOp at hf
  split at hf
  · cases hf
    refine (pi_enum hg hm pas (star_one hs _ _)).run pins s σ H R I ⟨ι, F, S, ρ, _, _, sim, r, h1, fun ι1 F1 v H1 e1 s1 r1 => ?_⟩
    obtain ⟨p, vs, rfl, hq, l⟩ := r1
    exact ⟨p, vs, rfl, .inl (s1.sub.rd hq), q _ _ _ _ e1 s1 (wp_enum l hq)⟩
  · cases hf
    refine (pi_enumE hg hm pas hs).run pins s σ H R I ⟨ι, F, S, ρ, _, _, sim, r, h1, fun ι1 F1 v H1 e1 s1 r1 => ?_⟩
    obtain ⟨p, vs, rfl, l, hq⟩ := s1.seqT r1 rfl
    exact ⟨p, vs, rfl, s1.sub.sqT hq.sqT, q _ _ _ _ e1 s1 (wp_enumE l hq.sqT)⟩
  · cases hf
end

section
variable {X : Cx} {elt tg iter : Expr} {ifs : List Expr} {scope : Scope} {own : List (PySem.Str × Nat)} {pos : Pos}
theorem compL_nil {f : PV → Store → Out (Option PV)} {S S' : Store} {ys : List PV} (h : compL f [] S = .ok ys S') : ys = [] ∧ S' = S := by cases h; exact ⟨rfl, rfl⟩
theorem compL_cons {f : PV → Store → Out (Option PV)} {x : PV} {xs : List PV} {S S' : Store} {ys : List PV} (h : compL f (x :: xs) S = .ok ys S') :
    ∃ o S1 zs, f x S = .ok o S1 ∧ compL f xs S1 = .ok zs S' ∧ ys = (match o with | some y => y :: zs | none => zs) := by
  obtain ⟨o, S1, h1, h⟩ := bind_ok h
  obtain ⟨zs, S2, h2, h⟩ := bind_ok h
  cases h
  exact ⟨o, S1, zs, h1, h2, rfl⟩
end
def Plc.on (ι : Plc) (D : Addr) (vs : List V) : Plc := ⟨ι.l, upd ι.w D (.lst vs)⟩
section
variable {K : PySem.W.Frag} {mg : PySem.Str → Option Value} {F F' H H' : Hp} {ι ι' : Plc} {S S' : Store} {ρ ρ' : Slots} {σ σ' : L2.St} {D : Addr} {vs : List V}
theorem RepS.reloc (h : ι'.l = ι.l) : ∀ {x : SV} {v : V}, RepS K mg F ι x v → RepS K mg F ι' x v
  | .v _, _, r => r
  | .l _, _, ⟨p, e, q⟩ => ⟨p, by rw [h]; exact e, q⟩
  | .ls _, _, ⟨p, vs, e, q, t⟩ => ⟨p, vs, e, q, t.reloc h⟩
theorem RepR.reloc (h : ι'.l = ι.l) (r : RepR K mg F ι ρ σ) : RepR K mg F ι' ρ σ := ⟨r.1, fun i x e => by
  obtain ⟨v, h1, h2⟩ := r.2 i x e
  exact ⟨v, h1, h2.reloc h⟩⟩
theorem Ext.off (e : Ext (ι.on D vs) F ι' F') : ∃ ι2, ι' = ι2.on D vs ∧ Ext ι F ι2 F' := by
  obtain ⟨⟨⟨t, e1⟩, e2⟩, e3⟩ := e
  refine ⟨⟨ι'.l, ι.w⟩, ?_, ⟨⟨t, e1⟩, rfl⟩, e3⟩
  cases ι'
  have e2 : _ = _ := e2
  simp only at e2
  subst e2
  rfl
theorem Ext.on (e : Ext ι F ι' F') : Ext (ι.on D vs) F (ι'.on D vs) F' := by
  obtain ⟨⟨⟨t, e1⟩, e2⟩, e3⟩ := e
  exact ⟨⟨⟨t, e1⟩, by show upd ι'.w _ _ = upd ι.w _ _; rw [e2]⟩, e3⟩
theorem Sim.at_on (s : Sim K mg (ι.on D vs) F S H) : H D = some (.lst vs) ∧ F D = none ∧ D ∉ ι.l := s.frm D _ (by show upd ι.w D _ D = _; rw [upd_same])
theorem Sim.off (s : Sim K mg (ι.on D vs) F S H) (hw : ι.w D = none) : Sim K mg ι F S H := s.forget (w := ι.w) fun a o e => by
  show upd ι.w D _ a = _
  rw [upd_ne (fun z => by subst z; rw [hw] at e; cases e)]
  exact e
theorem Sim.re_on (s : Sim K mg (ι.on D vs) F S H) (hw : ι.w D = none) (ws : List V) : Sim K mg (ι.on D ws) F S (upd H D (.lst ws)) := by
  obtain ⟨_, h2, h3⟩ := s.at_on
  exact ((s.off hw).drop h2 h3 hw).apart upd_same h2 h3
theorem Sim.new_on (s : Sim K mg ι F S H) (h : H D = none) : Sim K mg (ι.on D []) F S (upd H D (.lst [])) ∧ ι.w D = none := by
  obtain ⟨h2, h3⟩ := s.fresh h
  have hw : ι.w D = none := by
    cases e : ι.w D with
    | none => rfl
    | some o => rw [(s.frm _ _ e).1] at h; cases h
  exact ⟨(s.drop h2 h3 hw).apart upd_same h2 h3, hw⟩
theorem Sim.enter (s : Sim K mg ι F S H) {xs : List PV} (hH : H D = some (.lst vs)) (hF : F D = none) (hι : D ∉ ι.l) (hw : ι.w D = none) (l : RepL K mg F xs vs) :
    Sim K mg ⟨ι.l ++ [D], ι.w⟩ F (S ++ [.lst xs]) H ∧ Ext ι F ⟨ι.l ++ [D], ι.w⟩ F := by
  refine ⟨⟨s.sub, by simp [s.len], ?_, fun a u e => ?_, fun n y e => ?_⟩, ⟨⟨⟨[D], rfl⟩, rfl⟩, Sub.refl⟩⟩
  · show (ι.l ++ [D]).Nodup
    rw [List.nodup_append]
    exact ⟨s.nd, by simp, fun a ha b hb => by simp at hb; subst hb; exact fun z => hι (z ▸ ha)⟩
  · obtain ⟨h1, h2, h3⟩ := s.frm a u e
    have ha : a ≠ D := fun z => by subst z; rw [hw] at e; cases e
    exact ⟨h1, h2, by simp [h3, ha]⟩
  · by_cases hn : n < S.length
    · rw [List.getElem?_append_left hn] at e
      obtain ⟨a, u, h1, h2, h3⟩ := s.at_ n y e
      exact ⟨a, u, by show (ι.l ++ [D])[n]? = _; rw [List.getElem?_append_left (by rw [s.len]; exact hn)]; exact h1, h2, h3⟩
    · have hn2 : n = S.length := by
        have := (List.getElem?_eq_some_iff.mp e).1
        simp at this; omega
      subst hn2
      simp at e; subst e
      exact ⟨D, _, by show (ι.l ++ [D])[S.length]? = _; rw [← s.len]; simp, hH, hF, vs, rfl, l⟩
theorem Sim.ice (s : Sim K mg ι F S H) {o : HO} (hH : H D = some o) (hF : F D = none) (hι : D ∉ ι.l) (hw : ι.w D = none) : Sim K mg ι (upd F D o) S H ∧ Ext ι F ι (upd F D o) := by
  refine ⟨⟨fun a u e => ?_, s.len, s.nd, fun a u e => ?_, fun n y e => ?_⟩, ⟨⟨⟨[], by simp⟩, rfl⟩, sub_upd hF⟩⟩
  · by_cases ha : a = D
    · subst ha; rw [upd_same] at e; cases e; exact hH
    · rw [upd_ne ha] at e; exact s.sub _ _ e
  · obtain ⟨h1, h2, h3⟩ := s.frm a u e
    have ha : a ≠ D := fun z => by subst z; rw [hw] at e; cases e
    exact ⟨h1, by rw [upd_ne ha]; exact h2, h3⟩
  · obtain ⟨a, u, h1, h2, h3⟩ := s.at_ n y e
    have hap : a ≠ D := fun z => by subst z; exact hι (List.mem_of_getElem? h1)
    refine ⟨a, u, h1, h2, h3.mono (sub_upd hF) ?_⟩
    cases y with
    | gone => exact .inl rfl
    | lst _ => right; rw [upd_ne hap]; exact h3.1
    | dic _ => right; rw [upd_ne hap]; exact h3.1
    | dtt _ => right; rw [upd_ne hap]; exact h3.1
theorem comp_core {F1 : Hp} {ι1 : Plc} {S1 S2 : Store} {H1 : Hp} {xs done0 rest0 : List PV} {vs0 : List V} {J : It} {g : PV → Slots → Option Slots} {ts own : List Nat} {c : Slots → Store → Out Bool} {e : VS} {Qd : Hp → Prop}
    (wp : WalkP wk K mg F1 xs J) (hts : ∀ t ∈ ts, t ∈ own) (s0 : Sim K mg (ι1.on D vs0) F1 S1 H1) (hw : ι1.w D = none) (l0 : RepL K mg F1 done0 vs0) (hr : RepR K mg F1 ι1 ρ σ)
    (hc : compL (cTurn g c e (wipeS ρ own)) xs S1 = .ok rest0 S2) (hlen : (done0 ++ rest0).length ≤ line)
    (hd : ∀ ι F H vs, Ext ι1 F1 ι F → Sim K mg (ι.on D vs) F S2 H → RepL K mg F (done0 ++ rest0) vs → Qd H) :
    ∃ W : Nat → Nat → Hp → Prop, (∃ m, W 0 m H1) ∧ ∀ i m H, W i m H →
      (J.stop i H ∧ Qd H) ∨ (J.go i H ∧ ∃ Nx : Hp → Prop, (∀ H', Nx H' → ∃ m', m' < m ∧ W (i + 1) m' H') ∧ ∀ x H', J.yld i H x H' → rdG K mg wk g ts x (L2.wipe σ own) H' fun σ2 H2 => L2.wipe σ2 own = L2.wipe σ own ∧ rdT K mg c σ2 H2 fun b H3 =>
        if b = true then rdE K mg e σ2 H3 fun y H4 => ∃ acc, H4 D = some (.lst acc) ∧ acc.length < sizeLine ∧ Nx (upd H4 D (.lst (acc ++ [y]))) else Nx H3) := by
  refine ⟨fun i m H => m = xs.length - i ∧ i ≤ xs.length ∧ ∃ ι F S done rest vs, Ext ι1 F1 ι F ∧ Sim K mg (ι.on D vs) F S H ∧ RepL K mg F done vs ∧ compL (cTurn g c e (wipeS ρ own)) (xs.drop i) S = .ok rest S2 ∧ done ++ rest = done0 ++ rest0,
    ⟨xs.length, by simp, Nat.zero_le _, ι1, F1, S1, done0, rest0, vs0, Ext.refl, s0, l0, hc, rfl⟩, ?_⟩
  rintro i m H ⟨rfl, hi, ι, F, S, done, rest, vs, ex, sim, l, hcl, hdr⟩
  by_cases hlt : i < xs.length
  · have sb1 : Sub F1 H := ex.2.trans sim.sub
    refine .inr ⟨wp.goes i H hlt sb1, _, fun H' p' => ⟨xs.length - (i + 1), by omega, rfl, hlt, p'⟩, fun v H' y => ?_⟩
    obtain ⟨F3, x, e3, s3, hx, rx⟩ := wp.yields i H v H' hlt sb1 y _ _ _ ex.2 sim
    rw [List.drop_eq_getElem_cons hlt] at hcl
    have hx2 : xs[i] = x := by
      have := List.getElem?_eq_getElem hlt
      rw [hx] at this; cases this; rfl
    rw [hx2] at hcl
    obtain ⟨o, S3, zs, k1, k2, k3⟩ := compL_cons hcl
    unfold cTurn at k1
    split at k1
    · rename_i ρ1 hg
      obtain ⟨t, S4, hct, k1⟩ := bind_ok k1
      have r3 : RepR K mg F3 (ι.on D vs) (wipeS ρ own) (L2.wipe σ own) := ((((hr.wipe2 own).mono ex).reloc (ι := ι) (ι' := ι.on D vs) rfl)).mono e3
      refine ⟨ι.on D vs, F3, S, wipeS ρ own, x, ρ1, s3, r3, rx, hg, fun ι4 F4 σ4 H4 e4 s4 r4 z4 => ⟨z4.wipe hts, ?_⟩⟩
      refine ⟨ι4, F4, S, ρ1, t, S4, s4, r4, hct, fun ι5 F5 H5 e5 s5 => ?_⟩
      obtain ⟨ι5', rfl, ex5⟩ := (e3.trans (e4.trans e5)).off
      cases t with
      | false =>
        simp only [Bool.false_eq_true, if_false] at k1 ⊢
        cases k1
        simp only at k3
        subst k3
        exact ⟨ι5', F5, S3, done, rest, vs, ex.trans ex5, s5, l.mono ex5.2, k2, hdr⟩
      | true =>
        simp only [if_true] at k1 ⊢
        obtain ⟨y, S5, hey, k1⟩ := bind_ok k1
        cases y with
        | l n => cases k1
        | ls n => cases k1
        | v y =>
          cases k1
          simp only at k3
          subst k3
          refine ⟨ι5'.on D vs, F5, S4, ρ1, .v y, S3, s5, r4.mono e5, hey, fun ι6 F6 w H6 e6 s6 r6 => ?_⟩
          obtain ⟨ι6', rfl, ex6⟩ := e6.off
          have hw6 : ι6'.w D = none := by rw [ex6.1.2, ex5.1.2, ex.1.2]; exact hw
          refine ⟨vs, s6.at_on.1, ?_, ι6', F6, S3, done ++ [y], zs, vs ++ [w], ex.trans (ex5.trans ex6), s6.re_on hw6 _, (l.mono (ex5.trans ex6).2).app (RepL.one r6), k2, by rw [List.append_assoc]; exact hdr⟩
          have h1 := l.length
          have h2 := congrArg List.length hdr
          rw [List.length_append] at h2
          simp only [List.length_cons] at h2
          show vs.length < 16777216
          have h3 : (done0 ++ rest0).length ≤ 16777216 := hlen
          omega
    · cases k1
  · have hie : i = xs.length := by omega
    subst hie
    rw [List.drop_length] at hcl
    obtain ⟨rfl, rfl⟩ := compL_nil hcl
    rw [List.append_nil] at hdr
    subst hdr
    exact .inl ⟨wp.stops H (ex.2.trans sim.sub), hd ι F H vs ex sim l⟩
theorem compN_nil {f : PV → Store → Out Nat} {S S' : Store} {ys : List Nat} (h : compN f [] S = .ok ys S') : ys = [] ∧ S' = S := by cases h; exact ⟨rfl, rfl⟩
theorem compN_cons {f : PV → Store → Out Nat} {x : PV} {xs : List PV} {S S' : Store} {ys : List Nat} (h : compN f (x :: xs) S = .ok ys S') :
    ∃ o S1 zs, f x S = .ok o S1 ∧ compN f xs S1 = .ok zs S' ∧ ys = o :: zs := by
  obtain ⟨o, S1, h1, h⟩ := bind_ok h
  obtain ⟨zs, S2, h2, h⟩ := bind_ok h
  cases h
  exact ⟨o, S1, zs, h1, h2, rfl⟩
theorem RepN.off {ns : List Nat} {us : List V} (r : RepN (ι.on D vs) ns us) : RepN ι ns us := r.reloc (ι := ι.on D vs) (ι' := ι) rfl
theorem compN_core {F1 : Hp} {ι1 : Plc} {S1 S2 : Store} {H1 : Hp} {xs : List PV} {done0 rest0 : List Nat} {vs0 : List V} {J : It} {g : PV → Slots → Option Slots} {ts own : List Nat} {c : Slots → Store → Out Bool} {e : VS} {Qd : Hp → Prop}
    (wp : WalkP wk K mg F1 xs J) (hts : ∀ t ∈ ts, t ∈ own) (s0 : Sim K mg (ι1.on D vs0) F1 S1 H1) (hw : ι1.w D = none) (l0 : RepN ι1 done0 vs0) (hr : RepR K mg F1 ι1 ρ σ)
    (hc : compN (cTurnN g c e (wipeS ρ own)) xs S1 = .ok rest0 S2) (hlen : (done0 ++ rest0).length ≤ line)
    (hd : ∀ ι F H vs, Ext ι1 F1 ι F → Sim K mg (ι.on D vs) F S2 H → RepN ι (done0 ++ rest0) vs → Qd H) :
    ∃ W : Nat → Nat → Hp → Prop, (∃ m, W 0 m H1) ∧ ∀ i m H, W i m H →
      (J.stop i H ∧ Qd H) ∨ (J.go i H ∧ ∃ Nx : Hp → Prop, (∀ H', Nx H' → ∃ m', m' < m ∧ W (i + 1) m' H') ∧ ∀ x H', J.yld i H x H' → rdG K mg wk g ts x (L2.wipe σ own) H' fun σ2 H2 => L2.wipe σ2 own = L2.wipe σ own ∧ rdT K mg c σ2 H2 fun b H3 =>
        if b = true then rdE K mg e σ2 H3 fun y H4 => ∃ acc, H4 D = some (.lst acc) ∧ acc.length < sizeLine ∧ Nx (upd H4 D (.lst (acc ++ [y]))) else Nx H3) := by
  refine ⟨fun i m H => m = xs.length - i ∧ i ≤ xs.length ∧ ∃ ι F S done rest vs, Ext ι1 F1 ι F ∧ Sim K mg (ι.on D vs) F S H ∧ RepN ι done vs ∧ compN (cTurnN g c e (wipeS ρ own)) (xs.drop i) S = .ok rest S2 ∧ done ++ rest = done0 ++ rest0,
    ⟨xs.length, by simp, Nat.zero_le _, ι1, F1, S1, done0, rest0, vs0, Ext.refl, s0, l0, hc, rfl⟩, ?_⟩
  rintro i m H ⟨rfl, hi, ι, F, S, done, rest, vs, ex, sim, l, hcl, hdr⟩
  by_cases hlt : i < xs.length
  · have sb1 : Sub F1 H := ex.2.trans sim.sub
    refine .inr ⟨wp.goes i H hlt sb1, _, fun H' p' => ⟨xs.length - (i + 1), by omega, rfl, hlt, p'⟩, fun v H' y => ?_⟩
    obtain ⟨F3, x, e3, s3, hx, rx⟩ := wp.yields i H v H' hlt sb1 y _ _ _ ex.2 sim
    rw [List.drop_eq_getElem_cons hlt] at hcl
    have hx2 : xs[i] = x := by
      have := List.getElem?_eq_getElem hlt
      rw [hx] at this; cases this; rfl
    rw [hx2] at hcl
    obtain ⟨o, S3, zs, k1, k2, k3⟩ := compN_cons hcl
    unfold cTurnN at k1
    split at k1
    · rename_i ρ1 hg
      obtain ⟨t, S4, hct, k1⟩ := bind_ok k1
      have r3 : RepR K mg F3 (ι.on D vs) (wipeS ρ own) (L2.wipe σ own) := ((((hr.wipe2 own).mono ex).reloc (ι := ι) (ι' := ι.on D vs) rfl)).mono e3
      refine ⟨ι.on D vs, F3, S, wipeS ρ own, x, ρ1, s3, r3, rx, hg, fun ι4 F4 σ4 H4 e4 s4 r4 z4 => ⟨z4.wipe hts, ?_⟩⟩
      refine ⟨ι4, F4, S, ρ1, t, S4, s4, r4, hct, fun ι5 F5 H5 e5 s5 => ?_⟩
      obtain ⟨ι5', rfl, ex5⟩ := (e3.trans (e4.trans e5)).off
      cases t with
      | false => cases k1
      | true =>
        simp only [if_true] at k1 ⊢
        obtain ⟨y, S5, hey, k1⟩ := bind_ok k1
        cases y with
        | v _ => cases k1
        | ls _ => cases k1
        | l n =>
          cases k1
          refine ⟨ι5'.on D vs, F5, S4, ρ1, .l o, S3, s5, r4.mono e5, hey, fun ι6 F6 w H6 e6 s6 r6 => ?_⟩
          obtain ⟨ι6', rfl, ex6⟩ := e6.off
          obtain ⟨pw, hpw, rfl⟩ := r6
          have hw6 : ι6'.w D = none := by rw [ex6.1.2, ex5.1.2, ex.1.2]; exact hw
          refine ⟨vs, s6.at_on.1, ?_, ι6', F6, S3, done ++ [o], zs, vs ++ [.ref pw], ex.trans (ex5.trans ex6), s6.re_on hw6 _, (l.mono (ex5.trans ex6)).snoc hpw, k2, by rw [List.append_assoc, ← hdr, k3]; rfl⟩
          have h1 := l.length
          have h2 := congrArg List.length hdr
          rw [List.length_append, k3] at h2
          simp only [List.length_cons] at h2
          show vs.length < 16777216
          have h3 : (done0 ++ rest0).length ≤ 16777216 := hlen
          omega
    · cases k1
  · have hie : i = xs.length := by omega
    subst hie
    rw [List.drop_length] at hcl
    obtain ⟨rfl, rfl⟩ := compN_nil hcl
    rw [List.append_nil] at hdr
    subst hdr
    exact .inl ⟨wp.stops H (ex.2.trans sim.sub), hd ι F H vs ex sim l⟩
theorem comp_end {m : Bool} {ys : List PV} {z : SV} {Q : VK} {F1 : Hp} {ι1 : Plc} (hm : mkL m ys S = .ok z S') (ex : Ext ι1 F1 ι F) (sim : Sim K mg (ι.on D vs) F S H) (hw : ι.w D = none) (l : RepL K mg F ys vs)
    (q : ∀ ι' F' v H', Ext ι1 F1 ι' F' → Sim K mg ι' F' S' H' → RepS K mg F' ι' z v → Q v H') : Q (.ref D) H := by
  obtain ⟨h1, h2, h3⟩ := sim.at_on
  have s := sim.off hw
  unfold mkL at hm
  split at hm
  · cases m with
    | true =>
      simp only [if_true] at hm
      cases hm
      obtain ⟨s1, e1⟩ := s.enter h1 h2 h3 hw l
      refine q _ _ _ _ (ex.trans e1) s1 ⟨D, ?_, rfl⟩
      show (ι.l ++ [D])[S.length]? = some D
      rw [← s.len]; simp
    | false =>
      simp only [Bool.false_eq_true, if_false] at hm
      cases hm
      obtain ⟨s1, e1⟩ := s.ice h1 h2 h3 hw
      exact q _ _ _ _ (ex.trans e1) s1 ⟨D, vs, rfl, .inl upd_same, l.mono e1.2⟩
  · cases hm
theorem lc_sound {m : Bool} {own ts : List Nat} {g : PV → Slots → Option Slots} {it : IS} {c : Slots → Store → Out Bool} {e : VS} {σ : L2.St} {H : Hp} {Q : VK} (hts : ∀ t ∈ ts, t ∈ own) (h : rdE K mg (sComp m own g it c e) σ H Q) :
    tLc (rdI K mg wk it) (rdG K mg wk g ts) (rdT K mg c) (rdE K mg e) own σ H Q := by
  obtain ⟨ι, F, S, ρ, z, S', sim, r, hf, q⟩ := h
  obtain ⟨xs, S1, h1, hf⟩ := bind_ok hf
  obtain ⟨ys, S2, h2, hf⟩ := bind_ok hf
  refine ⟨ι, F, S, ρ, xs, S1, sim, r, h1, fun ι1 F1 H1 J e1 s1 wp => ?_⟩
  intro D hD
  obtain ⟨s2, hw⟩ := s1.new_on hD
  have hlen : ([] ++ ys).length ≤ line := by
    unfold mkL at hf
    split at hf
    · rename_i hl; exact hl
    · cases hf
  exact comp_core wp hts s2 hw (show RepL K mg F1 [] [] from rfl) (r.mono e1) h2 hlen fun ι3 F3 H3 vs ex s3 l3 => comp_end hf (e1.trans ex) s3 (by rw [ex.1.2]; exact hw) l3 q
theorem lcN_sound {own ts : List Nat} {g : PV → Slots → Option Slots} {it : IS} {c : Slots → Store → Out Bool} {e : VS} {σ : L2.St} {H : Hp} {Q : VK} (hts : ∀ t ∈ ts, t ∈ own) (h : rdE K mg (sCompN own g it c e) σ H Q) :
    tLc (rdI K mg wk it) (rdG K mg wk g ts) (rdT K mg c) (rdE K mg e) own σ H Q := by
  obtain ⟨ι, F, S, ρ, z, S', sim, r, hf, q⟩ := h
  obtain ⟨xs, S1, h1, hf⟩ := bind_ok hf
  obtain ⟨ys, S2, h2, hf⟩ := bind_ok hf
  refine ⟨ι, F, S, ρ, xs, S1, sim, r, h1, fun ι1 F1 H1 J e1 s1 wp => ?_⟩
  intro D hD
  obtain ⟨s2, hw⟩ := s1.new_on hD
  split at hf
  case isFalse => cases hf
  rename_i hlen
  cases hf
  refine compN_core wp hts s2 hw (show RepN ι1 [] [] from rfl) (r.mono e1) h2 (by simpa using hlen) fun ι3 F3 H3 vs ex s3 l3 => ?_
  obtain ⟨k1, k2, k3⟩ := s3.at_on
  have hw3 : ι3.w D = none := by rw [ex.1.2]; exact hw
  have s4 := s3.off hw3
  obtain ⟨s5, e5⟩ := s4.ice k1 k2 k3 hw3
  exact q _ _ _ _ (e1.trans (ex.trans e5)) s5 ⟨D, vs, rfl, .inl upd_same, by simpa using l3.mono e5⟩
theorem compLL_nil {f : PV → Store → Out (List PV)} {S S' : Store} {ys : List PV} (h : compLL f [] S = .ok ys S') : ys = [] ∧ S' = S := by cases h; exact ⟨rfl, rfl⟩
theorem compLL_cons {f : PV → Store → Out (List PV)} {x : PV} {xs : List PV} {S S' : Store} {ys : List PV} (h : compLL f (x :: xs) S = .ok ys S') :
    ∃ o S1 zs, f x S = .ok o S1 ∧ compLL f xs S1 = .ok zs S' ∧ ys = o ++ zs := by
  obtain ⟨o, S1, h1, h⟩ := bind_ok h
  obtain ⟨zs, S2, h2, h⟩ := bind_ok h
  cases h
  exact ⟨o, S1, zs, h1, h2, rfl⟩
theorem lc2_sound {m : Bool} {own own2 ts ts2 : List Nat} {g g2 : PV → Slots → Option Slots} {it it2 : IS} {c c2 : Slots → Store → Out Bool} {e : VS} {σ : L2.St} {H : Hp} {Q : VK} (hts : ∀ t ∈ ts, t ∈ own) (hts2 : ∀ t ∈ ts2, t ∈ own2) (h : rdE K mg (sComp2 m own own2 g it c g2 it2 c2 e) σ H Q) :
    tLc2 (rdI K mg wk it) (rdG K mg wk g ts) (rdT K mg c) (rdI K mg wk2 it2) (rdG K mg wk2 g2 ts2) (rdT K mg c2) (rdE K mg e) own own2 σ H Q := by
  obtain ⟨ι, F, S, ρ, z, S', sim, r, hf, q⟩ := h
  obtain ⟨xs, S1, h1, hf⟩ := bind_ok hf
  obtain ⟨ys, S2, hc, hf⟩ := bind_ok hf
  refine ⟨ι, F, S, ρ, xs, S1, sim, r, h1, fun ι1 F1 H1 J e1 s1 wp => ?_⟩
  intro D hD
  obtain ⟨s2, hw⟩ := s1.new_on hD
  have hlen : ys.length ≤ line := by
    unfold mkL at hf
    split at hf
    · rename_i hl; exact hl
    · cases hf
  have hr := r.mono e1
  refine ⟨fun i m H => m = xs.length - i ∧ i ≤ xs.length ∧ ∃ ι F S done rest vs, Ext ι1 F1 ι F ∧ Sim K mg (ι.on D vs) F S H ∧ RepL K mg F done vs ∧ compLL (cTurn2 g c own2 g2 it2 c2 e (wipeS ρ own)) (xs.drop i) S = .ok rest S2 ∧ done ++ rest = ys,
    ⟨xs.length, by simp, Nat.zero_le _, ι1, F1, S1, [], ys, [], Ext.refl, s2, rfl, hc, rfl⟩, ?_⟩
  rintro i m H ⟨rfl, hi, ι, F, S, done, rest, vs, ex, sim, l, hcl, hdr⟩
  by_cases hlt : i < xs.length
  · have sb1 : Sub F1 H := ex.2.trans sim.sub
    refine .inr ⟨wp.goes i H hlt sb1, _, fun H' p' => ⟨xs.length - (i + 1), by omega, rfl, hlt, p'⟩, fun v H' y => ?_⟩
    obtain ⟨F3, x, e3, s3, hx, rx⟩ := wp.yields i H v H' hlt sb1 y _ _ _ ex.2 sim
    rw [List.drop_eq_getElem_cons hlt] at hcl
    have hx2 : xs[i] = x := by
      have := List.getElem?_eq_getElem hlt
      rw [hx] at this; cases this; rfl
    rw [hx2] at hcl
    obtain ⟨o, S3, zs, k1, k2, k3⟩ := compLL_cons hcl
    unfold cTurn2 at k1
    split at k1
    · rename_i ρ1 hg
      obtain ⟨t, S4, hct, k1⟩ := bind_ok k1
      have r3 : RepR K mg F3 (ι.on D vs) (wipeS ρ own) (L2.wipe σ own) := ((((hr.wipe2 own).mono ex).reloc (ι := ι) (ι' := ι.on D vs) rfl)).mono e3
      refine ⟨ι.on D vs, F3, S, wipeS ρ own, x, ρ1, s3, r3, rx, hg, fun ι4 F4 σ4 H4 e4 s4 r4 z4 => ⟨z4.wipe hts, ?_⟩⟩
      refine ⟨ι4, F4, S, ρ1, t, S4, s4, r4, hct, fun ι5 F5 H5 e5 s5 => ?_⟩
      obtain ⟨ι5', rfl, ex5⟩ := (e3.trans (e4.trans e5)).off
      cases t with
      | false =>
        simp only [Bool.false_eq_true, if_false] at k1 ⊢
        cases k1
        rw [k3, List.nil_append] at hdr
        exact ⟨ι5', F5, S3, done, zs, vs, ex.trans ex5, s5, l.mono ex5.2, k2, hdr⟩
      | true =>
        simp only [if_true] at k1 ⊢
        obtain ⟨ws, S5, hit, k1⟩ := bind_ok k1
        subst k3
        refine ⟨ι5'.on D vs, F5, S4, ρ1, ws, S5, s5, r4.mono e5, hit, fun ι6 F6 H6 J2 e6 s6 wp2 => ?_⟩
        obtain ⟨ι6', rfl, ex6⟩ := e6.off
        have hw6 : ι6'.w D = none := by rw [ex6.1.2, ex5.1.2, ex.1.2]; exact hw
        have hlen2 : (done ++ o).length ≤ line := by
          have h2 := congrArg List.length hdr
          simp only [List.length_append] at h2 ⊢
          have : ys.length ≤ line := hlen
          omega
        exact comp_core wp2 hts2 s6 hw6 (l.mono (ex5.trans ex6).2) ((r4.mono (e5.trans e6)).reloc (ι := ι6'.on D vs) (ι' := ι6') rfl) k1 hlen2 fun ι7 F7 H7 vs7 ex7 s7 l7 =>
          ⟨ι7, F7, S3, done ++ o, zs, vs7, ex.trans (ex5.trans (ex6.trans ex7)), s7, l7, k2, by rw [List.append_assoc]; exact hdr⟩
    · cases k1
  · have hie : i = xs.length := by omega
    subst hie
    rw [List.drop_length] at hcl
    obtain ⟨rfl, rfl⟩ := compLL_nil hcl
    rw [List.append_nil] at hdr
    subst hdr
    exact .inl ⟨wp.stops H (ex.2.trans sim.sub), comp_end hf (e1.trans ex) sim (by rw [ex.1.2]; exact hw) l q⟩
end
end FW

namespace FW
open PySem PySem.Spec PyProof.Rows L2 RZ

section
variable {X : Cx} {e a b : Expr} {es : List Expr} {st : Stmt} {sts orelse : List Stmt} {pos pos' pos2 p : Pos} {f fa fb : VS} {ts : LS}
theorem s_nilB : PSs X [] (rdS X.K X.mg sNext) := pss_mono pss_nil fun D σ H h => by
  obtain ⟨ι, F, S, ρ, r, S', sim, rr, hf, q⟩ := h
  cases hf
  exact q _ _ _ Ext.refl sim _ rr
theorem s_consB {f g : Slots → Store → Out Flow} (h1 : PS X st (rdS X.K X.mg f)) (h2 : PSs X sts (rdS X.K X.mg g)) : PSs X (st :: sts) (rdS X.K X.mg (sSeq f g)) := pss_mono (pss_cons h1 h2) fun D σ H h => by
  obtain ⟨ι, F, S, ρ, r, S', sim, rr, hf, q⟩ := h
  obtain ⟨f1, S1, k1, hf⟩ := bind_ok hf
  refine ⟨ι, F, S, ρ, f1, S1, sim, rr, k1, fun ι1 F1 H1 e1 s1 => ?_⟩
  cases f1 with
  | next ρ1 => exact fun σ1 r1 => ⟨ι1, F1, S1, ρ1, r, S', s1, r1, hf, fun ι2 F2 H2 e2 s2 => q _ _ _ (e1.trans e2) s2⟩
  | ret x => cases hf; exact q _ _ _ e1 s1
  | brk ρ1 => cases hf; exact q _ _ _ e1 s1
  | cnt ρ1 => cases hf; exact q _ _ _ e1 s1
theorem freeze_step {i : Nat} {t : TS} (h : PSs X sts t) : PSs X sts (fun D σ H => ∃ ι F S ρ ρ1 S1, Sim X.K X.mg ι F S H ∧ RepR X.K X.mg F ι ρ σ ∧ sFreeze i ρ S = .ok (.next ρ1) S1 ∧
    ∀ ι' F' H', Ext ι F ι' F' → Sim X.K X.mg ι' F' S1 H' → RepR X.K X.mg F' ι' ρ1 σ → t D σ H') := by
  refine ⟨fun pins s σ H D I hw => ?_⟩
  obtain ⟨ι, F, S, ρ, ρ1, S1, sim, rr, k1, q⟩ := hw
  unfold sFreeze at k1
  split at k1
  · rename_i n hn
    split at k1
    · rename_i xs hS
      cases k1
      obtain ⟨v, h1, pp, h2, rfl⟩ := rr.get hn
      obtain ⟨ad, vs, k2, s2, e2, r2⟩ := sim.shut hS
      rw [h2] at k2; cases k2
      exact h.run pins s σ H D I (q _ _ _ e2 s2 ((rr.mono e2).setL (x := .v (.lst xs)) r2 h1))
    · rename_i kvs hS
      split at k1
      case isFalse => cases k1
      rename_i hint
      cases k1
      obtain ⟨v, h1, pp, h2, rfl⟩ := rr.get hn
      obtain ⟨ad, ws, k2, hH, go⟩ := sim.shutD hS hint
      rw [h2] at k2; cases k2
      obtain ⟨od, I1⟩ := I.lock hH trivial
      obtain ⟨s2, e2, r2⟩ := go od
      exact h.run pins s σ _ D I1 (q _ _ _ e2 s2 ((rr.mono e2).setL (x := .v (.dic (kvs.map Prod.fst) (kvs.map Prod.snd))) r2 h1))
    · cases k1
  · rename_i ns hn
    split at k1
    · rename_i p hS
      cases k1
      obtain ⟨v, h1, pp, vs, rfl, hq, t⟩ := rr.get hn
      obtain ⟨F2, s2, e2, l2⟩ := sim.shutAll (xs := p.1) (S1 := p.2) hS t
      exact h.run pins s σ H D I (q _ _ _ e2 s2 ((rr.mono e2).setL (x := .v (.lst p.1)) ⟨pp, vs, rfl, e2.2.rd hq, l2⟩ h1))
    · cases k1
  · cases k1
    exact h.run pins s σ H D I (q _ _ _ Ext.refl sim rr)
  · cases k1
    exact h.run pins s σ H D I (q _ _ _ Ext.refl sim rr)
theorem sFreeze_next {i : Nat} {ρ : Slots} {S S1 : Store} {f : Flow} (h : sFreeze i ρ S = .ok f S1) : ∃ ρ1, f = .next ρ1 := by
  unfold sFreeze at h
  split at h
  · split at h
    · cases h; exact ⟨_, rfl⟩
    · split at h
      · cases h; exact ⟨_, rfl⟩
      · cases h
    · cases h
  · split at h
    · cases h; exact ⟨_, rfl⟩
    · cases h
  · cases h; exact ⟨_, rfl⟩
  · cases h; exact ⟨_, rfl⟩
theorem s_freeze {i : Nat} {g : Slots → Store → Out Flow} (h : PSs X sts (rdS X.K X.mg g)) : PSs X sts (rdS X.K X.mg (sSeq (sFreeze i) g)) := pss_mono (freeze_step h) fun D σ H h => by
  obtain ⟨ι, F, S, ρ, r, S', sim, rr, hf, q⟩ := h
  obtain ⟨f1, S1, k1, hf⟩ := bind_ok hf
  obtain ⟨ρ1, rfl⟩ := sFreeze_next k1
  exact ⟨ι, F, S, ρ, ρ1, S1, sim, rr, k1, fun ι1 F1 H1 e1 s1 r1 => ⟨ι1, F1, S1, ρ1, r, S', s1, r1, hf, fun ι3 F3 H3 e3 s3 => q _ _ _ (e1.trans e3) s3⟩⟩
theorem set_fin {K : PySem.W.Frag} {mg : PySem.Str → Option Value} {i : Nat} {D : Ends} {σ : L2.St} {H : Hp} (h : rdS K mg (sSet i f) D σ H) : rdE K mg f σ H fun x H1 => D.nx (σ.set i (some x)) H1 := by
  obtain ⟨ι, F, S, ρ, r, S', sim, rr, hf, q⟩ := h
  obtain ⟨x, S1, h1, hf⟩ := bind_ok hf
  cases hf
  exact ⟨ι, F, S, ρ, x, S', sim, rr, h1, fun ι1 F1 v H1 e1 s1 r1 => q ι1 F1 H1 e1 s1 _ ((rr.mono e1).set r1 i)⟩
theorem s_set {i : Nat} {x : PySem.Str} (hN : X.N.Nodup) (hi : X.N[i]? = some x) (hx : Loc X.env.scope x) (he : PE X e (rdE X.K X.mg f)) (hs : swapsWith e (some (.Name x pos')) pos.line X.env = pure false) (hf : X.fn x = true ∨ X.env.scope.names.lookup x = some .local) :
    PS X (.Assign [.Name x pos'] e pos) (rdS X.K X.mg (sSet i f)) :=
  ps_mono (ps_set hN hi hx he hs hf) fun D σ H h => set_fin h
section
variable {elt tg iter tg1 iter1 : Expr} {ifs ifs1 : List Expr} {scope : Scope} {own : List (PySem.Str × Nat)} {own2 ts1 ts2 : List Nat} {g g2 : PV → Slots → Option Slots} {it it2 : IS} {c c2 : Slots → Store → Out Bool} {m : Bool}
theorem s_comp (hc : X.calm = true) (hN : X.N.Nodup) (ok : BlkOk X.N X.env.scope scope own) (hts : ∀ t ∈ ts1, t ∈ own.map (·.2)) (hi : PI X tg iter (rdI X.K X.mg wk it))
    (hg : ∀ (s : Shared) (H : Hp) (C : Addr) (cl : List (PySem.Str × Addr)) (fp : List Addr), PG (X.blk s H scope (compEnvC scope cl C X.env) fp) tg (rdG X.K X.mg wk g ts1)) (ht : ∀ (s : Shared) (H : Hp) (C : Addr) (cl : List (PySem.Str × Addr)) (fp : List Addr), PTs (X.blk s H scope (compEnvC scope cl C X.env) fp) ifs (rdT X.K X.mg c))
    (he : ∀ (s : Shared) (H : Hp) (C : Addr) (cl : List (PySem.Str × Addr)) (fp : List Addr), PE (X.blk s H scope (compEnvC scope cl C X.env) fp) elt (rdE X.K X.mg f)) (hs : ∀ x, foldedSetIterable iter X.env x = pure x) :
    PE X (.ListComp elt [⟨tg, iter, ifs, 0⟩] scope pos) (rdE X.K X.mg (sComp m (own.map (·.2)) g it c f)) :=
  pe_mono (pe_lc hc hN hi ok hg ht he hs) fun σ H Q h => lc_sound hts h
theorem s_setComp {i : Nat} {y : PySem.Str} {py spos : Pos} (hc : X.calm = true) (hN : X.N.Nodup) (hy : X.N[i]? = some y) (hyl : X.env.scope.names.lookup y = some .local)
    (hsw : swapsWith (.ListComp elt [⟨tg, iter, ifs, 0⟩] scope pos) (some (.Name y py)) spos.line X.env = pure true) (ok : BlkOk X.N X.env.scope scope own) (hts : ∀ t ∈ ts1, t ∈ own.map (·.2)) (hi : PI X tg iter (rdI X.K X.mg wk it))
    (hg : ∀ (s : Shared) (H : Hp) (C : Addr) (cl : List (PySem.Str × Addr)) (fp : List Addr), PG (X.blk s H scope (compEnvC scope cl C X.env) fp) tg (rdG X.K X.mg wk g ts1)) (ht : ∀ (s : Shared) (H : Hp) (C : Addr) (cl : List (PySem.Str × Addr)) (fp : List Addr), PTs (X.blk s H scope (compEnvC scope cl C X.env) fp) ifs (rdT X.K X.mg c))
    (he : ∀ (s : Shared) (H : Hp) (C : Addr) (cl : List (PySem.Str × Addr)) (fp : List Addr), PE (X.blk s H scope (compEnvC scope cl C X.env) fp) elt (rdE X.K X.mg f)) (hs : ∀ x, foldedSetIterable iter X.env x = pure x) :
    PS X (.Assign [.Name y py] (.ListComp elt [⟨tg, iter, ifs, 0⟩] scope pos) spos) (rdS X.K X.mg (sSet i (sComp m (own.map (·.2)) g it c f))) :=
  ps_mono (ps_setLc hc hN hy hyl hsw hi ok hg ht he hs) fun D σ H h => lc_sound hts (set_fin h)
theorem s_comp2 (hc : X.calm = true) (hN : X.N.Nodup) (ok : BlkOk X.N X.env.scope scope own) (hv : ∀ i ∈ own2, i ∈ own.map (·.2)) (hts : ∀ t ∈ ts1, t ∈ own.map (·.2)) (hts2 : ∀ t ∈ ts2, t ∈ own2) (hi : PI X tg iter (rdI X.K X.mg wk it))
    (hg : ∀ (s : Shared) (H : Hp) (C : Addr) (cl : List (PySem.Str × Addr)) (fp : List Addr), PG (X.blk s H scope (compEnvC scope cl C X.env) fp) tg (rdG X.K X.mg wk g ts1)) (ht : ∀ (s : Shared) (H : Hp) (C : Addr) (cl : List (PySem.Str × Addr)) (fp : List Addr), PTs (X.blk s H scope (compEnvC scope cl C X.env) fp) ifs (rdT X.K X.mg c))
    (hi1 : ∀ (s : Shared) (H : Hp) (C : Addr) (cl : List (PySem.Str × Addr)) (fp : List Addr), PI (X.blk s H scope (compEnvC scope cl C X.env) fp) tg1 iter1 (rdI X.K X.mg wk2 it2))
    (hg1 : ∀ (s : Shared) (H : Hp) (C : Addr) (cl : List (PySem.Str × Addr)) (fp : List Addr), PG (X.blk s H scope (compEnvC scope cl C X.env) fp) tg1 (rdG X.K X.mg wk2 g2 ts2)) (ht1 : ∀ (s : Shared) (H : Hp) (C : Addr) (cl : List (PySem.Str × Addr)) (fp : List Addr), PTs (X.blk s H scope (compEnvC scope cl C X.env) fp) ifs1 (rdT X.K X.mg c2))
    (he : ∀ (s : Shared) (H : Hp) (C : Addr) (cl : List (PySem.Str × Addr)) (fp : List Addr), PE (X.blk s H scope (compEnvC scope cl C X.env) fp) elt (rdE X.K X.mg f)) (hs : ∀ x, foldedSetIterable iter X.env x = pure x) (hs1 : ∀ env x, foldedSetIterable iter1 env x = pure x) :
    PE X (.ListComp elt [⟨tg, iter, ifs, 0⟩, ⟨tg1, iter1, ifs1, 0⟩] scope pos) (rdE X.K X.mg (sComp2 m (own.map (·.2)) own2 g it c g2 it2 c2 f)) :=
  pe_mono (pe_lc2 hc hN hi ok hv hg ht hi1 hg1 ht1 he hs hs1) fun σ H Q h => lc2_sound hts hts2 h
theorem s_setComp2 {i : Nat} {y : PySem.Str} {py spos : Pos} (hc : X.calm = true) (hN : X.N.Nodup) (hy : X.N[i]? = some y) (hyl : X.env.scope.names.lookup y = some .local)
    (hsw : swapsWith (.ListComp elt [⟨tg, iter, ifs, 0⟩, ⟨tg1, iter1, ifs1, 0⟩] scope pos) (some (.Name y py)) spos.line X.env = pure true) (ok : BlkOk X.N X.env.scope scope own) (hv : ∀ i ∈ own2, i ∈ own.map (·.2)) (hts : ∀ t ∈ ts1, t ∈ own.map (·.2)) (hts2 : ∀ t ∈ ts2, t ∈ own2) (hi : PI X tg iter (rdI X.K X.mg wk it))
    (hg : ∀ (s : Shared) (H : Hp) (C : Addr) (cl : List (PySem.Str × Addr)) (fp : List Addr), PG (X.blk s H scope (compEnvC scope cl C X.env) fp) tg (rdG X.K X.mg wk g ts1)) (ht : ∀ (s : Shared) (H : Hp) (C : Addr) (cl : List (PySem.Str × Addr)) (fp : List Addr), PTs (X.blk s H scope (compEnvC scope cl C X.env) fp) ifs (rdT X.K X.mg c))
    (hi1 : ∀ (s : Shared) (H : Hp) (C : Addr) (cl : List (PySem.Str × Addr)) (fp : List Addr), PI (X.blk s H scope (compEnvC scope cl C X.env) fp) tg1 iter1 (rdI X.K X.mg wk2 it2))
    (hg1 : ∀ (s : Shared) (H : Hp) (C : Addr) (cl : List (PySem.Str × Addr)) (fp : List Addr), PG (X.blk s H scope (compEnvC scope cl C X.env) fp) tg1 (rdG X.K X.mg wk2 g2 ts2)) (ht1 : ∀ (s : Shared) (H : Hp) (C : Addr) (cl : List (PySem.Str × Addr)) (fp : List Addr), PTs (X.blk s H scope (compEnvC scope cl C X.env) fp) ifs1 (rdT X.K X.mg c2))
    (he : ∀ (s : Shared) (H : Hp) (C : Addr) (cl : List (PySem.Str × Addr)) (fp : List Addr), PE (X.blk s H scope (compEnvC scope cl C X.env) fp) elt (rdE X.K X.mg f)) (hs : ∀ x, foldedSetIterable iter X.env x = pure x) (hs1 : ∀ env x, foldedSetIterable iter1 env x = pure x) :
    PS X (.Assign [.Name y py] (.ListComp elt [⟨tg, iter, ifs, 0⟩, ⟨tg1, iter1, ifs1, 0⟩] scope pos) spos) (rdS X.K X.mg (sSet i (sComp2 m (own.map (·.2)) own2 g it c g2 it2 c2 f))) :=
  ps_mono (ps_setLc2 hc hN hy hyl hsw hi ok hv hg ht hi1 hg1 ht1 he hs hs1) fun D σ H h => lc2_sound hts hts2 (set_fin h)
end
theorem s_unpack {tg : Expr} {g : PV → Slots → Option Slots} {ts1 : List Nat} (he : PE X e (rdE X.K X.mg f)) (hg : PG X tg (rdG X.K X.mg wk g ts1)) (hs : swapsWithSole [tg] e pos.line X.env = pure false) (hw : swappedStores [tg] e X.env = pure none) (h1 : noStar tg = true) :
    PS X (.Assign [tg] e pos) (rdS X.K X.mg (sUnpack g f)) :=
  ps_mono (ps_asg he hg hs hw (by rw [assign_one h1]; rfl)) fun D σ H h => by
    obtain ⟨ι, F, S, ρ, r, S', sim, rr, hf, q⟩ := h
    obtain ⟨x, S1, h1, hf⟩ := bind_ok hf
    cases x with
    | l n => cases hf
    | ls n => cases hf
    | v x =>
      simp only at hf
      split at hf
      · rename_i ρ1 hg
        cases hf
        refine ⟨ι, F, S, ρ, .v x, S', sim, rr, h1, fun ι1 F1 v H1 e1 s1 r1 => ?_⟩
        exact ⟨ι1, F1, S', ρ, x, ρ1, s1, rr.mono e1, .inl r1, hg, fun ι2 F2 σ2 H2 e2 s2 r2 _ => q _ _ _ (e1.trans e2) s2 _ r2⟩
      · cases hf
theorem set2 {i j : Nat} {xs : List SV} {ρ ρ1 : Slots} (h : setAll [i, j] xs ρ = some ρ1) : ∃ x y, xs = [x, y] ∧ ρ1 = (ρ.set i (some x)).set j (some y) := by
  match xs, h with
  | [x, y], h => simp only [setAll, Option.some.injEq] at h; exact ⟨x, y, rfl, h.symm⟩
theorem set3 {i j k : Nat} {xs : List SV} {ρ ρ1 : Slots} (h : setAll [i, j, k] xs ρ = some ρ1) : ∃ x y z, xs = [x, y, z] ∧ ρ1 = ((ρ.set i (some x)).set j (some y)).set k (some z) := by
  match xs, h with
  | [x, y, z], h => simp only [setAll, Option.some.injEq] at h; exact ⟨x, y, z, rfl, h.symm⟩
theorem s_par {i j : Nat} {x y : PySem.Str} {px py pt : Pos} {kt : Nat} {k2 : Nat} {pt2 : Pos} (hc : X.calm = true) (hN : X.N.Nodup) (hi : X.N[i]? = some x) (hj : X.N[j]? = some y) (hij : i ≠ j)
    (hx : X.env.scope.names.lookup x = some .local) (hy : X.env.scope.names.lookup y = some .local) (ha : PA X [a, b] (rdA X.K X.mg ts))
    (hw : swappedStores [.Tuple [.Name x px, .Name y py] kt pt] (.Tuple [a, b] k2 pt2) X.env = pure (some [x, y])) :
    PS X (.Assign [.Tuple [.Name x px, .Name y py] kt pt] (.Tuple [a, b] k2 pt2) pos) (rdS X.K X.mg (sPar [i, j] ts)) :=
  ps_mono (ps_par hc hN hi hj hij hx hy ha hw) fun D σ H h => by
    obtain ⟨ι, F, S, ρ, r, S', sim, rr, hf, q⟩ := h
    obtain ⟨xs, S1, h1, hf⟩ := bind_ok hf
    split at hf
    · rename_i ρ1 hs
      cases hf
      obtain ⟨x, y, rfl, rfl⟩ := set2 hs
      refine ⟨ι, F, S, ρ, _, S', sim, rr, h1, fun ι1 F1 vs H1 e1 s1 r1 => ?_⟩
      obtain ⟨v, w, rfl, g1, g2⟩ := vs_two r1
      exact ⟨v, w, rfl, q _ _ _ e1 s1 _ (((rr.mono e1).set g1 i).set g2 j)⟩
    · cases hf
theorem s_par3 {c : Expr} {i j l : Nat} {x y z : PySem.Str} {px py pz pt : Pos} {kt : Nat} {k2 : Nat} {pt2 : Pos} (hc : X.calm = true) (hN : X.N.Nodup) (hi : X.N[i]? = some x) (hj : X.N[j]? = some y) (hl : X.N[l]? = some z) (hij : i ≠ j) (hil : i ≠ l) (hjl : j ≠ l)
    (hx : X.env.scope.names.lookup x = some .local) (hy : X.env.scope.names.lookup y = some .local) (hz : X.env.scope.names.lookup z = some .local) (ha : PA X [a, b, c] (rdA X.K X.mg ts))
    (hw : swappedStores [.Tuple [.Name x px, .Name y py, .Name z pz] kt pt] (.Tuple [a, b, c] k2 pt2) X.env = pure (some [x, y, z])) :
    PS X (.Assign [.Tuple [.Name x px, .Name y py, .Name z pz] kt pt] (.Tuple [a, b, c] k2 pt2) pos) (rdS X.K X.mg (sPar [i, j, l] ts)) :=
  ps_mono (ps_par3 hc hN hi hj hl hij hil hjl hx hy hz ha hw) fun D σ H h => by
    obtain ⟨ι, F, S, ρ, r, S', sim, rr, hf, q⟩ := h
    obtain ⟨xs, S1, h1, hf⟩ := bind_ok hf
    split at hf
    · rename_i ρ1 hs
      cases hf
      obtain ⟨x, y, z, rfl, rfl⟩ := set3 hs
      refine ⟨ι, F, S, ρ, _, S', sim, rr, h1, fun ι1 F1 vs H1 e1 s1 r1 => ?_⟩
      obtain ⟨v, r', rfl, g1, r1⟩ := r1
      obtain ⟨w, u, rfl, g2, g3⟩ := vs_two r1
      exact ⟨v, w, u, rfl, q _ _ _ e1 s1 _ ((((rr.mono e1).set g1 i).set g2 j).set g3 l)⟩
    · cases hf
theorem s_expr (he : PE X e (rdE X.K X.mg f)) (hs : swapsWith e none pos.line X.env = pure false) : PS X (.Expr e pos) (rdS X.K X.mg (sExpr f)) := ps_mono (ps_expr he hs) fun D σ H h => by
  obtain ⟨ι, F, S, ρ, r, S', sim, rr, hf, q⟩ := h
  obtain ⟨x, S1, h1, hf⟩ := bind_ok hf
  cases hf
  exact ⟨ι, F, S, ρ, x, S', sim, rr, h1, fun ι1 F1 v H1 e1 s1 r1 => q _ _ _ e1 s1 _ (rr.mono e1)⟩
theorem s_if {c : Slots → Store → Out Bool} {g h : Slots → Store → Out Flow} (hc : PT X e (rdT X.K X.mg c)) (ha : PSs X sts (rdS X.K X.mg g)) (hb : PSs X orelse (rdS X.K X.mg h)) : PS X (.If e sts orelse pos) (rdS X.K X.mg (sIfs c g h)) := ps_mono (ps_if hc ha hb) fun D σ H h => by
  obtain ⟨ι, F, S, ρ, r, S', sim, rr, hf, q⟩ := h
  obtain ⟨t, S1, h1, hf⟩ := bind_ok hf
  refine ⟨ι, F, S, ρ, t, S1, sim, rr, h1, fun ι1 F1 H1 e1 s1 => ?_⟩
  cases t with
  | true => exact ⟨ι1, F1, S1, ρ, r, S', s1, rr.mono e1, hf, fun ι2 F2 H2 e2 s2 => q _ _ _ (e1.trans e2) s2⟩
  | false => exact ⟨ι1, F1, S1, ρ, r, S', s1, rr.mono e1, hf, fun ι2 F2 H2 e2 s2 => q _ _ _ (e1.trans e2) s2⟩
theorem s_ret (he : PE X e (rdE X.K X.mg f)) : PS X (.Return (some e) pos) (rdS X.K X.mg (sRet f)) := ps_mono (ps_ret he) fun D σ H h => by
  obtain ⟨ι, F, S, ρ, r, S', sim, rr, hf, q⟩ := h
  obtain ⟨x, S1, h1, hf⟩ := bind_ok hf
  cases hf
  exact ⟨ι, F, S, ρ, x, S', sim, rr, h1, fun ι1 F1 v H1 e1 s1 r1 => q _ _ _ e1 s1 _ r1⟩
theorem s_retN : PS X (.Return none pos) (rdS X.K X.mg sRetN) := ps_mono ps_retN fun D σ H h => by
  obtain ⟨ι, F, S, ρ, r, S', sim, rr, hf, q⟩ := h
  cases hf
  exact q _ _ _ Ext.refl sim _ rfl
theorem s_brk : PS X (.Break pos) (rdS X.K X.mg sBrk) := ps_mono ps_break fun D σ H h => by
  obtain ⟨ι, F, S, ρ, r, S', sim, rr, hf, q⟩ := h
  cases hf
  exact q _ _ _ Ext.refl sim _ rr
theorem s_cnt : PS X (.Continue pos) (rdS X.K X.mg sCnt) := ps_mono ps_continue fun D σ H h => by
  obtain ⟨ι, F, S, ρ, r, S', sim, rr, hf, q⟩ := h
  cases hf
  exact q _ _ _ Ext.refl sim _ rr
theorem s_for {tg iter : Expr} {g : PV → Slots → Option Slots} {ts1 : List Nat} {it : IS} {f : Slots → Store → Out Flow} {w : List Nat} (hp : PassesOwn (model X.prog X.w) X.A X.env X.xe) (hc : X.calm = true) (hi : PI X tg iter (rdI X.K X.mg wk it)) (hg : PG X tg (rdG X.K X.mg wk g ts1)) (hb : PSs X sts (rdS X.K X.mg f)) (hs : ∀ x, foldedSetIterable iter X.env x = pure x) :
    PS X (.For tg iter sts [] pos) (rdS X.K X.mg (sFor g it f w)) := ps_mono (ps_for hp hc hi hg hb hs) fun D σ H h => by
  obtain ⟨ι, F, S, ρ, r, S', sim, rr, hf, q⟩ := h
  obtain ⟨xs, S1, h1, hf⟩ := bind_ok hf
  refine ⟨ι, F, S, ρ, xs, S1, sim, rr, h1, fun ι1 F1 H1 J e1 s1 wp => ?_⟩
  refine ⟨fun i m σ H => m = xs.length - i ∧ i ≤ xs.length ∧ ∃ ι2 F2 S2 ρ2, Ext ι1 F1 ι2 F2 ∧ Sim X.K X.mg ι2 F2 S2 H ∧ RepR X.K X.mg F2 ι2 ρ2 σ ∧ forL (sTurn g f) w (xs.drop i) ρ2 S2 = .ok r S',
    ⟨xs.length, by simp, Nat.zero_le _, ι1, F1, S1, _, Ext.refl, s1, (rr.mono e1).wipe w, hf⟩, ?_⟩
  rintro i m σ2 H2 ⟨rfl, hi, ι2, F2, S2, ρ2, ex, s2, r2, hl⟩
  by_cases hlt : i < xs.length
  · have sb1 : Sub F1 H2 := ex.2.trans s2.sub
    refine .inr ⟨wp.goes i H2 hlt sb1, _, fun σ' H' p' => ⟨xs.length - (i + 1), by omega, rfl, hlt, p'⟩, fun v H' y => ?_⟩
    obtain ⟨F3, x, e3, s3, hx, rx⟩ := wp.yields i H2 v H' hlt sb1 y _ _ _ ex.2 s2
    rw [List.drop_eq_getElem_cons hlt] at hl
    have hx2 : xs[i] = x := by
      have := List.getElem?_eq_getElem hlt
      rw [hx] at this; cases this; rfl
    rw [hx2] at hl
    obtain ⟨f1, S3, k1, k2⟩ := bind_ok hl
    unfold sTurn at k1
    split at k1
    · rename_i ρ3 hgx
      refine ⟨ι2, F3, S2, ρ2, x, ρ3, s3, r2.mono e3, rx, hgx, fun ι4 F4 σ4 H4 e4 s4 r4 _ => ?_⟩
      refine ⟨ι4, F4, S2, ρ3, f1, S3, s4, r4, k1, fun ι5 F5 H5 e5 s5 => ?_⟩
      have ex5 := ex.trans (e3.trans (e4.trans e5))
      cases f1 with
      | next ρ4 => exact fun σ5 r5 => ⟨ι5, F5, S3, _, ex5, s5, r5.wipe w, k2⟩
      | cnt ρ4 => exact fun σ5 r5 => ⟨ι5, F5, S3, _, ex5, s5, r5.wipe w, k2⟩
      | brk ρ4 => cases k2; exact fun σ5 r5 => q _ _ _ (e1.trans ex5) s5 _ r5
      | ret z => cases k2; exact fun v5 r5 => q _ _ _ (e1.trans ex5) s5 _ r5
    · cases k1
  · have hie : i = xs.length := by omega
    subst hie
    rw [List.drop_length] at hl
    cases hl
    exact .inl ⟨wp.stops H2 (ex.2.trans s2.sub), q _ _ _ (e1.trans ex) s2 _ r2⟩
theorem s_forl {tg e : Expr} {g : PV → Slots → Option Slots} {ts1 : List Nat} {fe : VS} {f : Slots → Store → Out Flow} {w : List Nat} (hp : PassesOwn (model X.prog X.w) X.A X.env X.xe) (hc : X.calm = true) (he : PE X e (rdE X.K X.mg fe)) (hg : PG X tg (rdG X.K X.mg wk g ts1)) (hb : PSs X sts (rdS X.K X.mg f)) (hs : ∀ x, foldedSetIterable e X.env x = pure x) :
    PS X (.For tg e sts [] pos) (rdS X.K X.mg (sForM g fe f w)) := ps_mono (ps_for hp hc (pi_list he) hg hb hs) fun D σ H h => by
  obtain ⟨ι, F, S, ρ, r, S', sim, rr, hf, q⟩ := h
  obtain ⟨z, S1, h1, hf⟩ := bind_ok hf
  split at hf
  · rename_i n
    generalize hfu : fuel = fu at hf
    clear hfu
    refine ⟨ι, F, S, ρ, _, S1, sim, rr, h1, fun ι1 F1 v H1 e1 s1 r1 => ?_⟩
    obtain ⟨p, hp1, rfl⟩ := r1
    have live : ∀ {ι2 F2 S2 H2 ys}, Ext ι1 F1 ι2 F2 → Sim X.K X.mg ι2 F2 S2 H2 → S2[n]? = some (.lst ys) → ∃ vs, SqL X.K H2 p vs ∧ RepL X.K X.mg F2 ys vs := fun {ι2 F2 S2 H2 ys} ex s2 hy => by
      obtain ⟨a, o, g1, g2, g3⟩ := s2.at_ n _ hy
      obtain ⟨⟨⟨t, ht⟩, _⟩, _⟩ := ex
      have : ι2.l[n]? = some p := by rw [ht, List.getElem?_append_left (List.getElem?_eq_some_iff.mp hp1).1]; exact hp1
      rw [g1] at this; cases this
      obtain ⟨_, vs, rfl, l⟩ := g3
      exact ⟨vs, .inl (.inl g2), l⟩
    have hl0 : ∃ vs, SqL X.K H1 p vs := by
      cases fu with
      | zero => cases hf
      | succ m =>
        unfold forM at hf
        split at hf
        · rename_i ys hy
          obtain ⟨vs, h2, _⟩ := live Ext.refl s1 hy
          exact ⟨vs, h2⟩
        · cases hf
    refine ⟨p, rfl, hl0, ?_⟩
    refine ⟨fun i m σ H => ∃ ι2 F2 S2 ρ2, Ext ι1 F1 ι2 F2 ∧ Sim X.K X.mg ι2 F2 S2 H ∧ RepR X.K X.mg F2 ι2 ρ2 σ ∧ forM (sTurn g f) w n m i ρ2 S2 = .ok r S', ⟨fu, ι1, F1, S1, _, Ext.refl, s1, (rr.mono e1).wipe w, hf⟩, ?_⟩
    rintro i m σ2 H2 ⟨ι2, F2, S2, ρ2, ex, s2, r2, hl⟩
    cases m with
    | zero => cases hl
    | succ m =>
      unfold forM at hl
      split at hl
      · rename_i ys hy
        obtain ⟨vs, hq, l⟩ := live ex s2 hy
        split at hl
        · rename_i x hx
          obtain ⟨v0, hv0, rx⟩ := l.get hx
          refine .inr ⟨⟨vs, v0, hq, hv0⟩, _, fun σ' H' p' => ⟨m, Nat.lt_succ_self m, p'⟩, fun v H' y => ?_⟩
          obtain ⟨rfl, y⟩ := y
          have := y vs hq
          rw [hv0] at this; cases this
          obtain ⟨f1, S3, k1, k2⟩ := bind_ok hl
          unfold sTurn at k1
          split at k1
          · rename_i ρ3 hgx
            refine ⟨ι2, F2, S2, ρ2, x, ρ3, s2, r2, .inl rx, hgx, fun ι4 F4 σ4 H4 e4 s4 r4 _ => ?_⟩
            refine ⟨ι4, F4, S2, ρ3, f1, S3, s4, r4, k1, fun ι5 F5 H5 e5 s5 => ?_⟩
            have ex5 := ex.trans (e4.trans e5)
            cases f1 with
            | next ρ4 => exact fun σ5 r5 => ⟨ι5, F5, S3, _, ex5, s5, r5.wipe w, k2⟩
            | cnt ρ4 => exact fun σ5 r5 => ⟨ι5, F5, S3, _, ex5, s5, r5.wipe w, k2⟩
            | brk ρ4 => cases k2; exact fun σ5 r5 => q _ _ _ (e1.trans ex5) s5 _ r5
            | ret z => cases k2; exact fun v5 r5 => q _ _ _ (e1.trans ex5) s5 _ r5
          · cases k1
        · rename_i hx
          cases hl
          refine .inl ⟨⟨vs, hq, ?_⟩, q _ _ _ (e1.trans ex) s2 _ r2⟩
          rw [← l.length]
          exact List.getElem?_eq_none_iff.mp hx
      · cases hl
  · cases hf
theorem s_while {c : Slots → Store → Out Bool} {f : Slots → Store → Out Flow} {w : List Nat} (hp : PassesOwn (model X.prog X.w) X.A X.env X.xe) (hc : PT X e (rdT X.K X.mg c)) (hb : PSs X sts (rdS X.K X.mg f)) :
    PS X (.While e sts [] pos) (rdS X.K X.mg (sWhile c f w)) := ps_mono (ps_while hp hc hb) fun D σ H h => by
  obtain ⟨ι, F, S, ρ, r, S', sim, rr, hf, q⟩ := h
  unfold sWhile at hf
  generalize fuel = n at hf
  refine ⟨fun m σ H => ∃ ι2 F2 S2 ρ2, Ext ι F ι2 F2 ∧ Sim X.K X.mg ι2 F2 S2 H ∧ RepR X.K X.mg F2 ι2 ρ2 σ ∧ whileL c f w m ρ2 S2 = .ok r S', ⟨n, ι, F, S, _, Ext.refl, sim, rr.wipe w, hf⟩, ?_⟩
  rintro m σ2 H2 ⟨ι2, F2, S2, ρ2, ex, s2, r2, hl⟩
  cases m with
  | zero => cases hl
  | succ m =>
    obtain ⟨t, S3, k1, k2⟩ := bind_ok hl
    refine ⟨ι2, F2, S2, ρ2, t, S3, s2, r2, k1, fun ι3 F3 H3 e3 s3 => ?_⟩
    cases t with
    | false =>
      simp only [Bool.false_eq_true, if_false] at k2 ⊢
      cases k2
      exact q _ _ _ (ex.trans e3) s3 _ (r2.mono e3)
    | true =>
      simp only [if_true] at k2 ⊢
      obtain ⟨f1, S4, k3, k4⟩ := bind_ok k2
      refine ⟨fun σ' H' => ∃ ι2 F2 S2 ρ2, Ext ι F ι2 F2 ∧ Sim X.K X.mg ι2 F2 S2 H' ∧ RepR X.K X.mg F2 ι2 ρ2 σ' ∧ whileL c f w m ρ2 S2 = .ok r S', fun σ' H' z => ⟨m, Nat.lt_succ_self m, z⟩, ?_⟩
      refine ⟨ι3, F3, S3, ρ2, f1, S4, s3, r2.mono e3, k3, fun ι5 F5 H5 e5 s5 => ?_⟩
      have ex5 := ex.trans (e3.trans e5)
      cases f1 with
      | next ρ4 => exact fun σ5 r5 => ⟨ι5, F5, S4, _, ex5, s5, r5.wipe w, k4⟩
      | cnt ρ4 => exact fun σ5 r5 => ⟨ι5, F5, S4, _, ex5, s5, r5.wipe w, k4⟩
      | brk ρ4 => cases k4; exact fun σ5 r5 => q _ _ _ ex5 s5 _ r5
      | ret z => cases k4; exact fun v5 r5 => q _ _ _ ex5 s5 _ r5
end
end FW

namespace FW
open PySem PySem.Spec PyProof.Rows L2 RZ
section
variable {K : PySem.W.Frag} {mg : PySem.Str → Option Value} {F F' H H' : Hp} {ι ι' : Plc} {S S' : Store}
theorem Sim.lstAt (s : Sim K mg ι F S H) {n : Nat} {xs : List PV} {v : V} (r : RepS K mg F ι (.l n) v) (h : S[n]? = some (.lst xs)) : ∃ p vs, v = .ref p ∧ ι.l[n]? = some p ∧ F p = none ∧ H p = some (.lst vs) ∧ RepL K mg F xs vs := by
  obtain ⟨p, hp, rfl⟩ := r
  obtain ⟨a, o, h1, h2, h3, vs, e2, h4⟩ := s.at_ n _ h
  rw [hp] at h1; cases h1
  subst e2
  exact ⟨p, vs, rfl, hp, h3, h2, h4⟩
theorem RepD.put {k : L2.Key} {x : PV} {v : V} (q : Rep K mg F x v) : ∀ {kvs : List (PV × PV)} {ws : List (L2.Key × V)}, RepD K mg F kvs ws → RepD K mg F (keyPut (keyP k) x kvs) (putK ws k v) := by
  have any_eq : ∀ {kvs : List (PV × PV)} {ws : List (L2.Key × V)}, RepD K mg F kvs ws → (kvs.any fun kv => keyEq kv.1 (keyP k)) = (ws.any fun kv => decide (kv.1 = k)) := by
    intro kvs
    induction kvs with
    | nil => intro ws r; cases r; rfl
    | cons p r ih =>
      obtain ⟨k1, x1⟩ := p
      rintro _ ⟨k', v', t, rfl, rfl, a, b⟩
      simp only [List.any_cons, keyP_inj, ih b]
  have map_ok : ∀ {kvs : List (PV × PV)} {ws : List (L2.Key × V)}, RepD K mg F kvs ws → RepD K mg F (kvs.map (fun kv => if keyEq kv.1 (keyP k) = true then (kv.1, x) else kv)) (ws.map (fun kv => if kv.1 = k then (kv.1, v) else kv)) := by
    intro kvs
    induction kvs with
    | nil => intro ws r; cases r; rfl
    | cons p r ih =>
      obtain ⟨k1, x1⟩ := p
      rintro _ ⟨k', v', t, rfl, rfl, a, b⟩
      simp only [List.map_cons, keyP_inj, decide_eq_true_eq]
      by_cases h : k' = k
      · rw [if_pos h, if_pos h]
        exact ⟨k', v, _, rfl, rfl, q, ih b⟩
      · rw [if_neg h, if_neg h]
        exact ⟨k', v', _, rfl, rfl, a, ih b⟩
  have app_ok : ∀ {kvs : List (PV × PV)} {ws : List (L2.Key × V)}, RepD K mg F kvs ws → RepD K mg F (kvs ++ [(keyP k, x)]) (ws ++ [(k, v)]) := by
    intro kvs
    induction kvs with
    | nil => intro ws r; cases r; exact ⟨k, v, [], rfl, rfl, q, rfl⟩
    | cons p r ih =>
      obtain ⟨k1, x1⟩ := p
      rintro _ ⟨k', v', t, rfl, rfl, a, b⟩
      exact ⟨k', v', _, rfl, rfl, a, ih b⟩
  intro kvs ws r
  unfold keyPut putK
  rw [any_eq r]
  split
  · exact map_ok r
  · exact app_ok r
end
section
variable {X : Cx} {e a b : Expr} {es : List Expr} {pos pos' pos2 p apos cpos : Pos} {f fa fb : VS} {i : Nat} {x : PySem.Str}
theorem s_app (hi : X.N[i]? = some x) (hv : Vis X.env.scope x) (hd : (x == ("__debug__" : PySem.Str)) = false) (hcd : (x == ("__classdict__" : PySem.Str)) = false) (he : PE X e (rdE X.K X.mg f)) (hs : noStar e = true) (hline : (apos.endLine == cpos.line) = true) :
    PS X (.Expr (.Call (.Attribute (.Name x p) "append" apos) [e] [] cpos) pos) (rdS X.K X.mg (sApp i f)) := by
  refine ps_mono (ps_expr (pe_bm F.plainAttrs_list F.slot_list_append F.type_list_append mt_append (pe_var hi hv hd hcd) (pa_cons he pa_nil (star_one hs _ _)) rfl (by rw [star_one hs]; rfl) hline (star_one hs _ _) rfl) rfl) fun D σ H h => ?_
  obtain ⟨ι, F, S, ρ, r, S', sim, rr, hf, q⟩ := h
  unfold sApp at hf
  split at hf
  · rename_i n hn
    split at hf
    case isFalse => cases hf
    rename_i hL
    obtain ⟨y, S1, h1, hf⟩ := bind_ok hf
    split at hf
    · rename_i y xs hS
      split at hf
      · rename_i hl
        cases hf
        obtain ⟨v, g1, g2⟩ := rr.get hn
        refine ⟨v, g1, ?_⟩
        have hv0 : tyV X.K "list" v H := by
          unfold isLst at hL
          split at hL
          · rename_i zs hz
            obtain ⟨pp, vs, rfl, _, _, hH, _⟩ := sim.lstAt g2 hz
            exact .inl ⟨rfl, vs, .inl (.inl hH)⟩
          · cases hL
        refine ⟨hv0, ι, F, S, ρ, .v y, S1, sim, rr, h1, fun ι1 F1 w H1 e1 s1 r1 => ?_⟩
        obtain ⟨pp, vs, rfl, hp, hF, hH, l⟩ := s1.lstAt (g2.mono e1) hS
        refine ⟨pp, vs, w, rfl, rfl, hH, by rw [← l.length]; exact hl, ?_⟩
        exact q _ _ _ e1 (s1.write hp hF ⟨hF, vs ++ [w], rfl, l.app (RepL.one r1)⟩) _ (rr.mono e1)
      · cases hf
    · cases hf
  · cases hf
theorem set_or {t t' : TSet} (h : PSet X t) (h' : PSet X t') : PSet X (fun o i v H Q => t o i v H Q ∨ t' o i v H Q) := fun pins s σ H o i v ov iv u Q I r1 r2 r3 g => g.elim (h pins s σ H o i v ov iv u Q I r1 r2 r3) (h' pins s σ H o i v ov iv u Q I r1 r2 r3)
theorem put_ok {K : PySem.W.Frag} {mg : PySem.Str → Option Value} {F : Hp} {ι : Plc} {S S' : Store} {o y x : SV} {vo vy vx : V} {H : Hp} {Q : Hp → Prop} (sim : Sim K mg ι F S H) (ro : RepS K mg F ι o vo) (ry : RepS K mg F ι y vy) (rx : RepS K mg F ι x vx) (h : putOp o y x S = some S')
    (q : ∀ H', Sim K mg ι F S' H' → Q H') : rSetL vo vy vx H Q ∨ rSetD vo vy vx H Q := by
  unfold putOp at h
  split at h
  · rename_i n x y
    split at h
    · rename_i xs hS
      split at h
      · rename_i j
        split at h
        · rename_i k hk
          cases h
          cases ry
          obtain ⟨p, vs, rfl, hp, hF, hH, l⟩ := sim.lstAt ro hS
          refine .inl ⟨p, vs, j, k, rfl, rfl, hH, ?_, q _ (sim.write hp hF ⟨hF, _, rfl, l.set rx k⟩)⟩
          rw [← l.length]
          unfold ix? at hk
          unfold ixN
          by_cases h0 : 0 ≤ j
          · rw [if_pos h0] at hk ⊢
            split at hk
            · rename_i hl; cases hk; rw [if_pos hl]
            · cases hk
          · rw [if_neg h0] at hk ⊢
            split at hk
            · rename_i hl; cases hk; rw [if_pos (by omega)]
            · cases hk
        · cases h
      · cases h
    · rename_i kvs hS
      split at h
      · rename_i hk
        cases h
        obtain ⟨k', rfl⟩ := key_of? hk.1
        obtain ⟨n', p, ws, e0, hι, _, rfl, hF, hH, rd⟩ := sim.dic (x := .l n) (kvs := kvs) ro (by simp only [dicOf, hS])
        cases e0
        have := keyP_rep ry
        subst this
        refine .inr ⟨p, _, rfl, DPut.k hH (by rw [← rd.length]; exact hk.2), q _ (sim.write hι hF ⟨hF, _, rfl, rd.put rx⟩)⟩
      · cases h
    · cases h
  · cases h
theorem sw_sub {o j : Expr} {e : Expr} {l : Nat} {env : Env} {p : Pos} : swapsWith e (some (.Subscript o j p)) l env = pure false := by
  cases e <;> rfl
theorem sws_sub {o j : Expr} {e : Expr} {l : Nat} {env : Env} {p : Pos} : swapsWithSole [.Subscript o j p] e l env = pure false := sw_sub (o := o) (j := j) (p := p) (l := l) (env := env)
theorem sst_sub {o j : Expr} {e : Expr} {env : Env} {p : Pos} : swappedStores [.Subscript o j p] e env = pure none := by
  cases e <;> rfl
theorem assign_sub {o j : Expr} {env : Env} {p : Pos} (h : plainIx j = true) : ∀ v, assign (.Subscript o j p) env v = (do
      let ov ← holding [v] (eval o env)
      let iv ← holding [v, ov] (eval j env)
      standAt p
      holding [v, ov, iv] (setItem ov iv v)
      release [v, ov, iv] []) := by
  intro v
  cases j <;> first | rfl | simp [plainIx] at h
theorem s_sub (hu : X.A.units + 1 < cLine) (hi : X.N[i]? = some x) (hv : Vis X.env.scope x) (hd : (x == ("__debug__" : PySem.Str)) = false) (hcd : (x == ("__classdict__" : PySem.Str)) = false) (ha : PE X a (rdE X.K X.mg fa)) (hp : plainIx a = true) (he : PE X e (rdE X.K X.mg f)) :
    PS X (.Assign [.Subscript (.Name x p) a pos'] e pos) (rdS X.K X.mg (sSub i fa f)) := by
  refine ps_mono (ps_asg he (pg_sub (pe_var hi hv hd hcd) ha (set_or set_list (set_dict hu)) (assign_sub hp)) sws_sub sst_sub) fun D σ H h => ?_
  obtain ⟨ι, F, S, ρ, r, S', sim, rr, hf, q⟩ := h
  obtain ⟨y, S1, h1, hf⟩ := bind_ok hf
  obtain ⟨z, S2, h2, hf⟩ := bind_ok hf
  split at hf
  · rename_i o ho
    split at hf
    · rename_i S3 hp
      cases hf
      obtain ⟨v, g1, g2⟩ := rr.get ho
      refine ⟨ι, F, S, ρ, y, S1, sim, rr, h1, fun ι1 F1 w H1 e1 s1 r1 => ?_⟩
      refine ⟨v, g1, ι1, F1, S1, ρ, z, S2, s1, rr.mono e1, h2, fun ι2 F2 u H2 e2 s2 r2 => ?_⟩
      exact put_ok s2 (g2.mono (e1.trans e2)) r2 (r1.mono e2) hp fun H' s3 => q _ _ _ (e1.trans e2) s3 _ (rr.mono (e1.trans e2))
    · cases hf
  · cases hf
theorem s_aug_add (hN : X.N.Nodup) (hi : X.N[i]? = some x) (hx : Loc X.env.scope x) (he : PE X e (rdE X.K X.mg f)) (hf : X.fn x = true ∨ X.env.scope.names.lookup x = some .local) :
    PS X (.AugAssign (.Name x pos') .Add e pos) (rdS X.K X.mg (sAug i .add f)) := by
  refine ps_mono (ps_aug hN hi hx he ip_add hf) fun D σ H h => ?_
  obtain ⟨ι, F, S, ρ, r, S', sim, rr, hf, q⟩ := h
  unfold sAug at hf
  split at hf
  · rename_i y hy
    obtain ⟨z, S1, h1, hf⟩ := bind_ok hf
    unfold augOp at hf
    split at hf
    · rename_i w hw
      split at hw
      · cases hw; cases hf
        obtain ⟨v, g1, g2⟩ := rr.get hy
        cases g2
        refine ⟨_, g1, ι, F, S, ρ, _, S', sim, rr, h1, fun ι1 F1 w H1 e1 s1 r1 => ?_⟩
        cases r1
        exact ⟨_, _, rfl, rfl, q _ _ _ e1 s1 _ ((rr.mono e1).set (x := .v (.int _)) rfl i)⟩
      · cases hw
    · cases hf
  · cases hf
theorem s_aug_sub (hN : X.N.Nodup) (hi : X.N[i]? = some x) (hx : Loc X.env.scope x) (he : PE X e (rdE X.K X.mg f)) (hf : X.fn x = true ∨ X.env.scope.names.lookup x = some .local) :
    PS X (.AugAssign (.Name x pos') .Sub e pos) (rdS X.K X.mg (sAug i .sub f)) := by
  refine ps_mono (ps_aug hN hi hx he ip_sub hf) fun D σ H h => ?_
  obtain ⟨ι, F, S, ρ, r, S', sim, rr, hf, q⟩ := h
  unfold sAug at hf
  split at hf
  · rename_i y hy
    obtain ⟨z, S1, h1, hf⟩ := bind_ok hf
    unfold augOp at hf
    split at hf
    · rename_i w hw
      split at hw
      · cases hw; cases hf
        obtain ⟨v, g1, g2⟩ := rr.get hy
        cases g2
        refine ⟨_, g1, ι, F, S, ρ, _, S', sim, rr, h1, fun ι1 F1 w H1 e1 s1 r1 => ?_⟩
        cases r1
        exact ⟨_, _, rfl, rfl, q _ _ _ e1 s1 _ ((rr.mono e1).set (x := .v (.int _)) rfl i)⟩
      · cases hw
    · cases hf
  · cases hf
end
end FW

namespace FW
open PySem PySem.Spec PyProof.Rows L2
section
variable {K : PySem.W.Frag} {mg : PySem.Str → Option Value} {F H : Hp} {ι : Plc} {S : Store}
theorem intsO_some : ∀ {xs : List PV} {ks : List Int}, intsO xs = some ks → xs = ks.map .int
  | [], _, h => by cases h; rfl
  | x :: xs, ks, h => by
    cases x <;> simp only [intsO] at h
    case int i =>
      cases e : intsO xs with
      | none => rw [e] at h; cases h
      | some l =>
        rw [e] at h
        cases h
        rw [List.map_cons, ← intsO_some e]
    all_goals cases h
theorem tkOf_some {x : SV} {k : List Int} (h : tkOf x = some k) : x = .v (tpI k) := by
  unfold tkOf at h
  split at h
  · rw [intsO_some h]; rfl
  · cases h
theorem tk_rep {x : SV} {k : List Int} {v : V} (h : tkOf x = some k) (r : RepS K mg F ι x v) : ∃ b, v = .ref b ∧ SqN K F b (k.map V.int) := by
  rw [tkOf_some h] at r
  obtain ⟨b, vs, e, q, l⟩ := r
  exact ⟨b, e, by rwa [RepL.vints l] at q⟩
theorem dtt_at (s : Sim K mg ι F S H) {x : SV} {v : V} {kvs : List (List Int × Int)} (r : RepS K mg F ι x v) (h : dttOf S x = some kvs) :
    ∃ n a xs, x = .l n ∧ ι.l[n]? = some a ∧ S[n]? = some (.dtt kvs) ∧ v = .ref a ∧ F a = none ∧ H a = some (dtO a xs) ∧ KTi K F kvs xs := by
  unfold dttOf at h
  split at h
  · rename_i n
    split at h
    · rename_i kvs0 hS
      cases h
      obtain ⟨a, e1, e2⟩ := r
      obtain ⟨b, o, h1, h2, h3, xs, h4, h5⟩ := s.at_ n _ hS
      subst h4
      rw [h1] at e1
      cases e1
      exact ⟨n, _, xs, rfl, h1, hS, e2, h3, h2, h5⟩
    · cases h
  · cases h
theorem kt_get : ∀ {kvs : List (List Int × Int)} {xs : List (List Int × Addr × Value)}, KTi K F kvs xs → ∀ k : List Int,
    (∀ v, tGet k kvs = some v → ∃ b t, atKey xs k = some (b, Value.int v t)) ∧ (tGet k kvs = none → atKey xs k = none)
  | [], _, r, k => by cases r; exact ⟨fun v h => (by cases h), fun _ => rfl⟩
  | p :: r, _, ⟨b, t, ys, e, q, h⟩, k => by
    subst e
    obtain ⟨i1, i2⟩ := kt_get h k
    by_cases hk : p.1 = k
    · have e1 : tGet k (p :: r) = some p.2 := by simp [tGet, List.find?_cons, hk]
      have e2 : atKey ((p.1, b, Value.int p.2 t) :: ys) k = some (b, Value.int p.2 t) := by simp [atKey, List.find?_cons, hk]
      rw [e1, e2]
      exact ⟨fun v hv => by cases hv; exact ⟨b, t, rfl⟩, fun hv => by cases hv⟩
    · have e1 : tGet k (p :: r) = tGet k r := by simp [tGet, List.find?_cons, hk]
      have e2 : atKey ((p.1, b, Value.int p.2 t) :: ys) k = atKey ys k := by simp [atKey, List.find?_cons, hk]
      rw [e1, e2]
      exact ⟨i1, i2⟩
theorem kt_isSome {kvs : List (List Int × Int)} {xs : List (List Int × Addr × Value)} (h : KTi K F kvs xs) (k : List Int) : (tGet k kvs).isSome = (atKey xs k).isSome := by
  obtain ⟨i1, i2⟩ := kt_get h k
  cases e : tGet k kvs with
  | none => rw [i2 e]; rfl
  | some v => obtain ⟨b, t, e2⟩ := i1 v e; rw [e2]; rfl
theorem kt_len : ∀ {kvs : List (List Int × Int)} {xs : List (List Int × Addr × Value)}, KTi K F kvs xs → xs.length = kvs.length
  | [], _, r => by cases r; rfl
  | p :: r, _, ⟨b, t, ys, e, q, h⟩ => by subst e; simp [kt_len h]
theorem kt_map : ∀ {kvs : List (List Int × Int)} {xs : List (List Int × Addr × Value)}, KTi K F kvs xs → ∀ (k : List Int) (v : Int) (t : Tok), KTi K F (kvs.map fun p => if p.1 = k then (p.1, v) else p) (xs.map (putAt k (Value.int v t)))
  | [], _, r, k, v, t => by cases r; rfl
  | p :: r, _, ⟨b, t0, ys, e, q, h⟩, k, v, t => by
    subst e
    have ih := kt_map h k v t
    rw [List.map_cons, List.map_cons]
    by_cases hk : p.1 = k
    · rw [if_pos hk]
      refine ⟨b, t, _, ?_, q, ih⟩
      unfold putAt
      rw [if_pos hk]
    · rw [if_neg hk]
      refine ⟨b, t0, _, ?_, q, ih⟩
      unfold putAt
      rw [if_neg hk]
theorem kt_snoc : ∀ {kvs : List (List Int × Int)} {xs : List (List Int × Addr × Value)}, KTi K F kvs xs → ∀ {k : List Int} {v : Int} {t : Tok} {b : Addr}, SqN K F b (k.map V.int) → KTi K F (kvs ++ [(k, v)]) (xs ++ [(k, b, Value.int v t)])
  | [], _, r, k, v, t, b, hb => by cases r; exact ⟨b, t, [], rfl, hb, rfl⟩
  | p :: r, _, ⟨b0, t0, ys, e, q, h⟩, k, v, t, b, hb => by
    subst e
    exact ⟨b0, t0, _, rfl, q, kt_snoc h hb⟩
theorem kt_put {kvs : List (List Int × Int)} {xs : List (List Int × Addr × Value)} (h : KTi K F kvs xs) {k : List Int} {v : Int} {t : Tok} {b : Addr} (hb : SqN K F b (k.map V.int)) : KTi K F (tPut k v kvs) (storedH xs k b (Value.int v t)) := by
  unfold tPut storedH
  rw [kt_isSome h k]
  split
  · exact kt_map h k v t
  · exact kt_snoc h hb
theorem kt_keys : ∀ {kvs : List (List Int × Int)} {xs : List (List Int × Addr × Value)}, KTi K F kvs xs → xs.map (·.1) = kvs.map (·.1) ∧ ∀ x ∈ xs, SqN K F x.2.1 (x.1.map V.int)
  | [], _, r => by cases r; exact ⟨rfl, fun x h => by cases h⟩
  | p :: r, _, ⟨b, t, ys, e, q, h⟩ => by
    subst e
    obtain ⟨i1, i2⟩ := kt_keys h
    refine ⟨by rw [List.map_cons, List.map_cons, i1], fun x hx => ?_⟩
    rcases List.mem_cons.mp hx with rfl | hx
    · exact q
    · exact i2 x hx
end
section
variable {X : Cx} {a b c e f : Expr} {pos apos cpos pos' p : Pos} {fa fb fc : VS} {pins : List (Addr × Obj)} {σ : L2.St} {H : Hp} {s : Shared} {ι : Plc} {F : Hp} {S : Store} {i : Nat} {x : PySem.Str}
theorem dtO_mk {P : Program} {w : World} {H : Hp} {h : Heap} {a : Addr} {xs : List (List Int × Addr × Value)} (hs : (a == sysModules) = false) (d : h.DictOfH (tupleKind (intKind P w)) a xs) : ObjOk P w H h a (dtO a xs) := by
  obtain ⟨o, es, ep, h1, h2, h3, h4, -, h5⟩ := d
  exact ⟨⟨hs, o, es, ep, h1, h2, h3, h4, h5⟩, ⟨o, h1⟩, fun g1 g2 ⟨q, o, es, ep, e, r⟩ k => ⟨q, o, es, ep, k _ e, r⟩⟩
theorem dtO_of (I : Inv X pins σ H s) (sim : Sim X.K X.mg ι F S H) {a : Addr} {xs : List (List Int × Addr × Value)} {kvs : List (List Int × Int)} (e : H a = some (dtO a xs)) (kt : KTi X.K F kvs xs) :
    (a == sysModules) = false ∧ s.heap.DictOfH (tupleKind (intKind X.prog X.w)) a xs := by
  obtain ⟨⟨hs, o, es, ep, h1, h2, h3, h4, h5⟩, -, -⟩ := I.hok a _ e
  exact ⟨hs, o, es, ep, h1, h2, h3, h4, fun x hx => I.isT (sim.sub.sqT ((kt_keys kt).2 x hx).sqT), h5⟩
def tDNewI : TE := fun _ H Q => ∀ p, H p = none → Q (.ref p) (upd H p (dtO p []))
theorem pe_dnewI : PE X (.Dict [] [] pos) tDNewI := ⟨fun pins s σ H Q I h =>
  wpAny_Dict_empty ⟨.ref s.heap.objs.size, _, I.laid (a := s.heap.objs.size) (o := dtO s.heap.objs.size []) (t' := s.toks) (fun _ _ q => Heap.get?_push_of_some _ q) (Nat.le_refl _)
    (dtO_mk (by
        have := I.big
        exact beq_eq_false_iff_ne.mpr (Nat.ne_of_gt this)) ⟨_, #[], 0, Heap.get?_push_size _ rfl, ⟨rfl, rfl, rfl⟩, rfl, rfl, fun x hx => (by cases hx), List.nodup_nil⟩), rfl, h _ (I.hok.fresh (Nat.le_refl _))⟩⟩
theorem s_dtt0 : PE X (.Dict [] [] pos) (rdE X.K X.mg sDtt0) := by
  refine pe_ofV pe_dnewI fun ι F S ρ y S' σ H Q sim r hf q => fun p hp => ?_
  unfold sDtt0 at hf
  cases hf
  obtain ⟨s', e⟩ := sim.newL (x := .dtt []) (o := dtO p []) hp ⟨(sim.fresh hp).1, [], rfl, rfl⟩
  exact q _ _ _ _ e s' ⟨p, by rw [← sim.len]; simp, rfl⟩
theorem tt_keys {prog : Program} {w : World} (d : Addr) (hd : (d == sysModules) = false) :
    MeetsIn prog w (Builtin.«dict.keys» ⟨[.ref d], []⟩) (fun _ R s => (∃ es ep, s.heap.DictRaw d es ep) ∧ R (.ok (.ret (.ref s.heap.objs.size))) { s with heap := s.heap.push { cls := .type "dict_keys", data := .fields #[.ref d] } }) :=
  .of_wp fun A R s ⟨⟨es, ep, raw⟩, q⟩ => by
    have ty := raw.typeIs
    have no : ¬ ((d == sysModules) = true) := by rw [hd]; exact Bool.false_ne_true
    refine wpAny_bind ?_
    unfold Builtin.Dict.noArgs
    refine wpAny_bind (wpAny_notOrdered_dict ty (wpAny_pure ?_))
    refine wpAny_bind (m := Builtin.Dict.showsAll d) ?_
    unfold Builtin.Dict.showsAll
    rw [if_neg no]
    refine wpAny_pure ?_
    refine wpAny_bind (wpAny_newObj_type ?_)
    exact wpAny_pure ⟨_, rfl, q⟩
theorem s_getT (hu : X.A.units + 1 < cLine) (ho : PE X a (rdE X.K X.mg fa)) (he : PE X e (rdE X.K X.mg fb)) (hf : PE X f (rdE X.K X.mg fc)) (h1 : noStar e = true) (h2 : noStar f = true) (hbase : attributeBase a "get" X.env (eval a X.env) = eval a X.env) (hline : (apos.endLine == cpos.line) = true) :
    PE X (.Call (.Attribute a "get" apos) [e, f] [] cpos) (rdE X.K X.mg (sGetT fa fb fc)) := by
  have m : M2 X a "get" apos e f cpos := ⟨hbase, by rw [star_one h1, star_one h2]; rfl, hline, by rw [star_one h1, star_one h2]; rfl⟩
  refine ⟨fun pins s σ H Q I h => ?_⟩
  obtain ⟨ι, F, S, ρ, y, S', sim, r, hz, fin⟩ := h
  unfold sGetT at hz
  obtain ⟨d, S1, g1, hz⟩ := bind_ok hz
  split at hz
  case isFalse => cases hz
  rename_i hd
  obtain ⟨kvs0, hk0⟩ := Option.isSome_iff_exists.mp hd
  obtain ⟨k, S2, g2, hz⟩ := bind_ok hz
  obtain ⟨z, S3, g3, hz⟩ := bind_ok hz
  refine wpAny_Call_method m.base m.few m.line PySem.F.plainAttrs_dict PySem.F.slot_dict_get PySem.F.type_dict_get (thn (ho.run pins s σ H (fun v H1 => ∃ ι1 F1, Ext ι F ι1 F1 ∧ Sim X.K X.mg ι1 F1 S1 H1 ∧ RepS X.K X.mg F1 ι1 d v) I ⟨ι, F, S, ρ, d, S1, sim, r, g1, fun ι1 F1 v H1 e1 s1 r1 => ⟨ι1, F1, e1, s1, r1⟩⟩) fun u s1 ⟨v, H1, I1, rv, ι1, F1, e1, sim1, r1⟩ => ?_)
  obtain ⟨n0, a0, xs0, -, -, -, rfl, -, hH0, kt0⟩ := dtt_at sim1 r1 hk0
  obtain rfl : u = Value.ref a0 := rv
  obtain ⟨hs0, dd0⟩ := dtO_of I1 sim1 hH0 kt0
  refine ⟨dd0.typeIs, fun b q => ?_, ?_⟩
  · cases q
    obtain ⟨ob, _, _, h1, h2, _⟩ := dd0
    exact ⟨ob, h1, h2.2.1⟩
  rw [m.trees]
  refine Calls.callWith_builtin rfl (Calls.evalArgs_plain (Calls.spliced_cons (thn (he.run pins s1 σ H1 (fun v H2 => ∃ ι2 F2, Ext ι1 F1 ι2 F2 ∧ Sim X.K X.mg ι2 F2 S2 H2 ∧ RepS X.K X.mg F2 ι2 k v) I1 ⟨ι1, F1, S1, ρ, k, S2, sim1, r.mono e1, g2, fun ι2 F2 v H2 e2 s2 r2 => ⟨ι2, F2, e2, s2, r2⟩⟩) fun iv s2 ⟨v2, H2, I2, rv2, ι2, F2, e2, sim2, r2⟩ =>
    Calls.spliced_cons (thn (hf.run pins s2 σ H2 (fun v H3 => ∃ ι3 F3, Ext ι2 F2 ι3 F3 ∧ Sim X.K X.mg ι3 F3 S3 H3 ∧ RepS X.K X.mg F3 ι3 z v) I2 ⟨ι2, F2, S2, ρ, z, S3, sim2, (r.mono e1).mono e2, g3, fun ι3 F3 v H3 e3 s3 r3 => ⟨ι3, F3, e3, s3, r3⟩⟩) fun fv s3 ⟨v3, H3, I3, rv3, ι3, F3, e3, sim3, r3⟩ => Calls.spliced_nil ?_))))
  unfold getTOp at hz
  split at hz
  case h_2 => cases hz
  rename_i kvs ks j hk hks _
  cases hz
  obtain ⟨n, a, xs, -, -, -, ea, -, hH, kt⟩ := dtt_at sim3 (r1.mono (e2.trans e3)) hk
  cases ea
  obtain ⟨bk, rfl, hbk⟩ := tk_rep hks (r2.mono e3)
  obtain rfl : iv = Value.ref bk := rv2
  obtain rfl : v3 = .int j := r3
  obtain ⟨t3, rfl⟩ : ∃ t, fv = Value.int j t := rv3
  obtain ⟨hs, dd⟩ := dtO_of I3 sim3 hH kt
  refine call_meetsIn PySem.F.slot_dict_get dd.typeIs PySem.F.entry_dict_get (PySem.F.args_dict_get_3 _ _ _) (meetsH_dict_get_default (tupleKind (intKind X.prog X.w)) a0 bk hs (Value.int j t3)) ⟨tupleKind_room_in1 hu, ks, xs, I3.isT (sim3.sub.sqT hbk.sqT), dd, ?_⟩
  have I4 := I3.tok (s3.toks + (tupleKind (intKind X.prog X.w)).draws ks)
  obtain ⟨k1, k2⟩ := kt_get kt ks
  refine ⟨.int ((tGet ks kvs).getD j), H3, I4, ?_, fin _ _ _ _ ((e1.trans e2).trans e3) sim3 rfl⟩
  cases hg : tGet ks kvs with
  | none => rw [k2 hg]; exact ⟨t3, rfl⟩
  | some w => obtain ⟨b, t, e4⟩ := k1 w hg; rw [e4]; exact ⟨t, rfl⟩
def rTtIx (K : PySem.W.Frag) (mg : PySem.Str → Option Value) : R2 := fun x y H Q => ∃ ι F S d k z S', Sim K mg ι F S H ∧ RepS K mg F ι d x ∧ RepS K mg F ι k y ∧ ttIdxOp d k S = .ok z S' ∧
  ∀ ι' F' w H', Ext ι F ι' F' → Sim K mg ι' F' S' H' → RepS K mg F' ι' z w → Q w H'
theorem ix_tt (hu : X.A.units + 1 < cLine) : IxR X (rTtIx X.K X.mg) := by
  intro value slice pins s σ H x y v u Q I rx ry h hs
  obtain ⟨ι, F, S, d, k, z, S', sim, r1, r2, hz, fin⟩ := h
  unfold ttIdxOp at hz
  split at hz
  case h_2 => cases hz
  rename_i kvs ks hk hks
  split at hz
  case h_2 => cases hz
  rename_i w hw
  cases hz
  obtain ⟨n, a, xs, -, -, -, rfl, -, hH, kt⟩ := dtt_at sim r1 hk
  obtain ⟨bk, rfl, hbk⟩ := tk_rep hks r2
  obtain rfl : v = Value.ref a := rx
  obtain rfl : u = Value.ref bk := ry
  obtain ⟨hs0, dd⟩ := dtO_of I sim hH kt
  obtain ⟨b, t, e4⟩ := (kt_get kt ks).1 w hw
  refine PyProof.Rows.tail_any dd.typeIs PySem.slot_dict_getitem.lookup (wpAny_getItem_heap (knd := tupleKind (intKind X.prog X.w)) (tupleKind_room_in1 hu) (I.isT (sim.sub.sqT hbk.sqT)) dd e4 ?_) hs
  exact ⟨.int w, H, I.tok _, ⟨t, rfl⟩, fin _ _ _ _ Ext.refl sim rfl⟩
theorem s_idxTt (hu : X.A.units + 1 < cLine) (ha : PE X a (rdE X.K X.mg fa)) (hb : PE X b (rdE X.K X.mg fb)) (hp : plainIx b = true) : PE X (.Subscript a b pos) (rdE X.K X.mg (sTtIdx fa fb)) := by
  refine pe_mono (pe_ix (ix_tt hu) ha hb (plainIx_ok hp)) fun σ H Q h => ?_
  obtain ⟨ι, F, S, ρ, z, S', sim, r, hf, q⟩ := h
  obtain ⟨x, S1, h1, hf⟩ := bind_ok hf
  obtain ⟨y, S2, h2, hf⟩ := bind_ok hf
  refine ⟨ι, F, S, ρ, x, S1, sim, r, h1, fun ι1 F1 v H1 e1 s1 r1 => ?_⟩
  refine ⟨ι1, F1, S1, ρ, y, S2, s1, r.mono e1, h2, fun ι2 F2 u H2 e2 s2 r2 => ?_⟩
  exact ⟨ι2, F2, S2, x, y, z, S', s2, r1.mono e2, r2, hf, fun ι3 F3 w H3 e3 s3 r3 => q _ _ _ _ ((e1.trans e2).trans e3) s3 r3⟩
def rTtSet (K : PySem.W.Frag) (mg : PySem.Str → Option Value) : TSet := fun o y v H Q => ∃ ι F S d k x S', Sim K mg ι F S H ∧ RepS K mg F ι d o ∧ RepS K mg F ι k y ∧ RepS K mg F ι x v ∧ putTOp (some d) k x S = some S' ∧
  ∀ H', Sim K mg ι F S' H' → Q H'
theorem set_tt (hu : X.A.units + 1 < cLine) : PSet X (rTtSet X.K X.mg) := by
  intro pins s σ H o y v ov iv u Q I ro ry rv h
  obtain ⟨ι, F, S, d, k, x, S', sim, r1, r2, r3, hz, fin⟩ := h
  unfold putTOp at hz
  split at hz
  case h_2 => cases hz
  rename_i n ks j hd hks
  split at hz
  case h_2 => cases hz
  rename_i kvs hS
  split at hz
  case isFalse => cases hz
  rename_i hlen
  cases hz
  cases hd
  obtain ⟨n', a, xs, en, hι, hS', rfl, hF, hH, kt⟩ := dtt_at (kvs := kvs) sim r1 (by simp only [dttOf, hS])
  cases en
  obtain ⟨bk, rfl, hbk⟩ := tk_rep hks r2
  obtain rfl : ov = Value.ref a := ro
  obtain rfl : iv = Value.ref bk := ry
  obtain rfl : v = .int j := r3
  obtain ⟨t, rfl⟩ : ∃ t, u = Value.int j t := rv
  obtain ⟨hs0, dd⟩ := dtO_of I sim hH kt
  have hl := kt_len kt
  have hline : line ≤ sizeLine := by rw [sizeLine_eq]; exact Nat.le_refl _
  refine wpAny_setItem_heap (knd := tupleKind (intKind X.prog X.w)) (tupleKind_room_in1 hu) (I.isT (sim.sub.sqT hbk.sqT)) dd (fun h' dd' sb => ?_) (by omega)
  have k1 := kt_put (v := j) (t := t) kt hbk
  have ex : ∃ o, h'.get? a = some o := by
    obtain ⟨o, _, _, e, _⟩ := dd'
    exact ⟨o, e⟩
  refine ⟨upd H a (dtO a (storedH xs ks bk (Value.int j t))), ?_, fin _ (sim.write hι hF ⟨hF, _, rfl, k1⟩)⟩
  exact I.write (t' := _) (x := a) (e := a) (o := dtO a (storedH xs ks bk (Value.int j t))) (by rw [hH]; exact True.intro) (.inl rfl) (fun b o hb e => (sb.2 b hb).trans e) ex (dtO_mk hs0 dd')
theorem s_putT (hu : X.A.units + 1 < cLine) (hi : X.N[i]? = some x) (hv : Vis X.env.scope x) (hd : (x == ("__debug__" : PySem.Str)) = false) (hcd : (x == ("__classdict__" : PySem.Str)) = false) (ha : PE X a (rdE X.K X.mg fa)) (hp : plainIx a = true) (he : PE X e (rdE X.K X.mg fb)) :
    PS X (.Assign [.Subscript (.Name x p) a pos'] e pos) (rdS X.K X.mg (sPutT i fa fb)) := by
  refine ps_mono (ps_asg he (pg_sub (pe_var hi hv hd hcd) ha (set_tt hu) (assign_sub hp)) sws_sub sst_sub) fun D σ H h => ?_
  obtain ⟨ι, F, S, ρ, r, S', sim, rr, hf, q⟩ := h
  obtain ⟨y, S1, h1, hf⟩ := bind_ok hf
  obtain ⟨z, S2, h2, hf⟩ := bind_ok hf
  split at hf
  · rename_i S3 hput
    cases hf
    obtain ⟨o, ho⟩ : ∃ o, getS ρ i = some o := by
      cases e : getS ρ i with
      | none => rw [e] at hput; cases hput
      | some o => exact ⟨o, rfl⟩
    rw [ho] at hput
    obtain ⟨v, g1, g2⟩ := rr.get ho
    refine ⟨ι, F, S, ρ, y, S1, sim, rr, h1, fun ι1 F1 w H1 e1 s1 r1 => ?_⟩
    refine ⟨v, g1, ι1, F1, S1, ρ, z, S2, s1, rr.mono e1, h2, fun ι2 F2 u H2 e2 s2 r2 => ?_⟩
    exact ⟨ι2, F2, S2, o, z, y, S', s2, g2.mono (e1.trans e2), r2, r1.mono e2, hput, fun H' s3 => q _ _ _ (e1.trans e2) s3 _ (rr.mono (e1.trans e2))⟩
  · cases hf
theorem call_sortedTt {pins : List (Addr × Obj)} {σ : L2.St} {H : Hp} {s : Shared} {E : Value → Shared → Prop} {v d : Addr} {L : List (Addr × List Int)} {es : Array DictEntry} {ep : Nat} {Q : Value → Shared → Prop} (hcalm : X.calm = true) (hu : X.A.units + 65 < cLine) (I : Inv X pins σ H s)
    (hv : PySem.W.KdlKeysView s.heap v d) (hraw : s.heap.DictRaw d es ep) (hes : es.toList.map (·.key) = L.map fun q => Value.ref q.1) (hL : ∀ q ∈ L, SqT X.K H q.1 (q.2.map V.int)) (h16 : L.length ≤ sizeLine) (hne : L.length < 2 ∨ ∀ q ∈ L, q.2 ≠ [])
    (done : ∀ (p : Addr) (s' : Shared) (M : List (Addr × List Int)), M.Perm L → (M.Pairwise fun q r => leD (tupI q.2) (tupI r.2) = true) → H p = none → Inv X pins σ (upd H p (.lst (M.map fun q => V.ref q.1))) s' → Q (.ref p) s') :
    wpAny (model X.prog X.w) X.A (call (.builtin "sorted") [.ref v]) Q E s := by
  have hsz : es.size = L.length := by
    have := congrArg List.length hes
    rwa [List.length_map, List.length_map, Array.length_toList] at this
  refine Calls.call_function_entry PyProof.Rows.kind_sorted PyProof.Rows.plain_sorted PyProof.Rows.entry_sorted (PyProof.Rows.args_sorted1 _) ?_
  unfold Builtin.«sorted»
  refine wpAny_bind (m := checkCount "sorted" 1 1 _) (wpAny_pure ?_)
  refine wpAny_bind (PySem.W.kdu_collect (A := X.A.in1) (KdlSrc.rawKeys (r := v) (d := d) (es := es) (ep := ep)) (I.ok.hd hcalm) ⟨hv, hraw⟩ (by rw [hsz]; exact h16) fun h' tk acc hk hacc => ?_)
  have hal : acc.toList.length = L.length := by rw [Array.length_toList, hacc.1, hsz]
  have hacc2 : acc.toList = L.map fun q => Value.ref q.1 := by
    rw [← hes]
    refine List.ext_getElem? fun j => ?_
    by_cases hj : j < acc.toList.length
    · obtain ⟨hi, e2⟩ := hacc.2 j acc.toList[j] (by rw [← Array.getElem?_toList]; exact List.getElem?_eq_getElem hj)
      rw [List.getElem?_eq_getElem hj, List.getElem?_map, Array.getElem?_toList, Array.getElem?_eq_getElem hi, e2]
      rfl
    · rw [List.getElem?_eq_none (by omega), List.getElem?_eq_none (by rw [List.length_map, Array.length_toList, hsz]; omega)]
  rw [hacc2]
  have I1 : Inv X pins σ H { s with heap := h', toks := tk } := I.kept hk
  refine wpAny_bind (wpAny_newList ?_ (by rw [List.length_map]; exact h16))
  have new : (h'.push (seqObj "list" (L.map fun q => Value.ref q.1).toArray 0)).get? h'.objs.size = some (seqObj "list" (L.map fun q => Value.ref q.1).toArray 0) := Heap.get?_push_size _ rfl
  have refs : ∀ M : List (Addr × List Int), Vals (M.map fun q => V.ref q.1) (M.map fun q => Value.ref q.1) := fun M => by
    induction M with
    | nil => exact .nil
    | cons q M ih => exact .cons rfl ih
  have fin : ∀ M : List (Addr × List Int), M.Perm L → (M.Pairwise fun q r => leD (tupI q.2) (tupI r.2) = true) → Q (.ref h'.objs.size) { s with heap := sortedHeap (h'.push (seqObj "list" (L.map fun q => Value.ref q.1).toArray 0)) h'.objs.size (L.map fun q => Value.ref q.1) (M.map fun q => Value.ref q.1).toArray, toks := tk } := fun M pM sM => by
    obtain ⟨c, hc⟩ := sortedHeap_at (vs := L.map fun q => Value.ref q.1) (out := (M.map fun q => Value.ref q.1).toArray) new
    refine done _ _ M pM sM (I1.hok.fresh (Nat.le_refl _)) (inv_laid (us := M.map fun q => Value.ref q.1) (c := c) I1 (fun b u e => ?_) rfl rfl (Nat.le_refl _) (refs M) (by rw [List.length_map, pM.length_eq]; exact h16) hc)
    have lt := Heap.lt_size e
    show (sortedHeap _ _ _ _).get? b = some u
    rw [sortedHeap_old (Nat.ne_of_lt lt) (by rw [size_push']; exact Nat.lt_succ_of_lt lt)]
    exact Heap.get?_push_of_some _ e
  show wpAny _ _ _ _ _ { s with heap := h'.push (seqObj "list" (L.map fun q => Value.ref q.1).toArray 0), toks := tk }
  by_cases h2 : L.length < 2
  · refine wpAny_bind (wpAny_holding (wpAny_call_entry slot_list_sort ⟨_, new, rfl⟩ entry_list_sort (SrtO.list_sort_ord (ltv := fun _ _ => false) ⟨fun _ _ h => (by cases h), fun _ _ _ _ _ => rfl⟩ new (by rw [List.length_map]; exact h16) (fun h3 => absurd h3 (by rw [List.length_map]; omega)) fun out _ hb => ⟨_, rfl, ?_⟩) (args_list_sort _)))
    have eo : out = L.map fun q => Value.ref q.1 := short_perm hb.perm (by rw [List.length_map]; exact h2)
    rw [eo]
    refine wpAny_pure ⟨_, rfl, fin L (List.Perm.refl _) ?_⟩
    match L, h2 with
    | [], _ => exact .nil
    | [q], _ => exact List.pairwise_singleton _ _
    | _ :: _ :: _, h => simp at h; omega
  · have hall : ∀ q ∈ L, q.2 ≠ [] := hne.resolve_left h2
    have each : ∀ {Z : Value → (Addr × List Int) → Prop} {M : List (Addr × List Int)}, (∀ q ∈ M, Z (.ref q.1) q) → PySem.W.EachIs Z (M.map fun q => Value.ref q.1) M := fun {Z M} h => by
      induction M with
      | nil => exact .nil
      | cons q M ih => exact .cons (h q List.mem_cons_self) (ih fun r hr => h r (List.mem_cons_of_mem _ hr))
    have back : ∀ {out : List Value} {M : List (Addr × List Int)}, PySem.W.EachIs (fun v (q : Addr × List Int) => v = Value.ref q.1) out M → out = M.map fun q => Value.ref q.1 := fun {out M} h => by
      induction h with
      | nil => rfl
      | cons e _ ih => rw [e, ih]; rfl
    refine wpAny_bind (wpAny_holding (PySem.W.list_sort_data (s := { s with heap := h'.push (seqObj "list" (L.map fun q => Value.ref q.1).toArray 0), toks := tk }) (bs := L) (enc := fun q => pd (tupI q.2)) (R := fun v q => v = Value.ref q.1) new (each fun _ _ => rfl)
      (each fun q hq => ⟨[], reads_rows (isT_keep (I1.isT (hL q hq)) fun b u e => Heap.get?_push_of_some _ e), fun h => by cases h⟩)
      (fun d hd d' hd' => ?_) (.inl fun d hd => ?_) h16 (fun q hq => ?_) fun out hlen eo => ?_))
    · obtain ⟨q, _, rfl⟩ := List.mem_map.mp hd
      obtain ⟨r, _, rfl⟩ := List.mem_map.mp hd'
      exact alike_pd (alike_tupI q.2 r.2)
    · obtain ⟨q, hq, rfl⟩ := List.mem_map.mp hd
      have := hall q hq
      cases e : q.2 with
      | nil => exact absurd e this
      | cons x r => exact ⟨.int x, pds (r.map .int), rfl⟩
    · have := depth_rows q.2
      show X.A.in1.units + 1 + _ < cLine
      have hi : X.A.in1.units ≤ X.A.units + 1 := Nat.le_refl _
      omega
    · rw [back eo]
      refine wpAny_pure ⟨_, rfl, fin _ (List.mergeSort_perm _ _) ?_⟩
      exact PySem.W.sort_pairwise (le := PySem.W.dataLe false fun q : Addr × List Int => pd (tupI q.2)) (PySem.W.sortLe_total _ _ _) L
theorem s_keysT {m : Bool} {mpos : Pos} (hc : X.calm = true) (hu : X.A.units + 65 < cLine) (hg : Gl X "sorted") (hm : X.mg "sorted" = none) (ha : PE X a (rdE X.K X.mg fa)) (hbase : attributeBase a "keys" X.env (eval a X.env) = eval a X.env) (hline : (apos.endLine == mpos.line) = true) :
    PE X (.Call (.Name "sorted" p) [.Call (.Attribute a "keys" apos) [] [] mpos] [] pos) (rdE X.K X.mg (sKeysT m fa)) := by
  refine ⟨fun pins s σ H Q I h => ?_⟩
  obtain ⟨ι, F, S, ρ, z, S', sim, r, hz, fin⟩ := h
  obtain ⟨x, S1, h1, hz⟩ := bind_ok hz
  refine Call_ (ld_blt I hg hm PyProof.Rows.boot_sorted ?_)
  refine PyProof.Rows.callWith_builtin1 (PyProof.Rows.args_cons ?_ rfl) rfl rfl
  refine wpAny_Call_method0_late hbase hline (thn (ha.run pins s σ H (fun v H1 => ∃ ι1 F1, Ext ι F ι1 F1 ∧ Sim X.K X.mg ι1 F1 S1 H1 ∧ RepS X.K X.mg F1 ι1 x v) I ⟨ι, F, S, ρ, x, S1, sim, r, h1, fun ι1 F1 v H1 e1 s1 r1 => ⟨ι1, F1, e1, s1, r1⟩⟩) fun u s1 ⟨v, H1, I1, rv, ι1, F1, e1, sim1, r1⟩ => ?_)
  unfold bKeysT at hz
  split at hz
  case h_2 => cases hz
  rename_i kvs hk
  split at hz
  case isFalse => cases hz
  rename_i hok
  obtain ⟨n, d, xs, rfl, hι, hS, rfl, hF, hH, kt⟩ := dtt_at sim1 r1 hk
  obtain rfl : u = Value.ref d := rv
  obtain ⟨hsys, dd⟩ := dtO_of I1 sim1 hH kt
  obtain ⟨kk1, kk2⟩ := kt_keys kt
  obtain ⟨ob, es, ep, ho, ex, hdat, hes, hpr, hnd⟩ := dd
  have raw : s1.heap.DictRaw d es ep := ⟨ob, ho, ex, hdat⟩
  refine ⟨"dict", "dict.keys", PySem.F.plainAttrs_dict, PySem.F.slot_dict_keys, PySem.F.type_dict_keys, ⟨ob, ho, ex.1⟩, fun b e => ?_, Calls.callWith_builtin rfl (PySem.evalArgs_none ?_)⟩
  · cases e
    exact ⟨ob, ho, ex.2.1⟩
  have k1 : ∀ b u, s1.heap.get? b = some u → (s1.heap.push { cls := .type "dict_keys", data := .fields #[.ref d] }).get? b = some u := fun b u e => Heap.get?_push_of_some _ e
  have I2 : Inv X pins σ H1 { s1 with heap := s1.heap.push { cls := .type "dict_keys", data := .fields #[.ref d] } } := I1.kept (t' := s1.toks) k1
  refine call_meetsIn PySem.F.slot_dict_keys ⟨ob, ho, ex.1⟩ PySem.F.entry_dict_keys (PySem.F.args_dict_keys_1 _) (tt_keys d hsys) ⟨⟨es, ep, raw⟩, ?_⟩
  refine PyProof.Rows.args_nil ?_
  have hxl := kt_len kt
  obtain ⟨hlen, -⟩ : (kvs.map fun p => tpI p.1).length ≤ line ∧ True := by
    refine ⟨?_, trivial⟩
    unfold mkL at hz
    split at hz
    · rename_i hh
      rw [isortK_len] at hh
      exact hh
    · cases hz
  rw [List.length_map] at hlen
  refine call_sortedTt (L := xs.map fun q => (q.2.1, q.1)) hc hu I2 ⟨_, Heap.get?_push_size _ rfl, rfl, rfl⟩ (raw.at fun o e => k1 d o e) ?_ ?_ ?_ ?_ fun p s2 M pM sM hp I3 => ?_
  · rw [hes, List.map_map, List.map_map]
    rfl
  · intro q hq
    obtain ⟨y, hy, rfl⟩ := List.mem_map.mp hq
    exact sim1.sub.sqT (kk2 y hy).sqT
  · rw [List.length_map, hxl, sizeLine_eq]
    exact hlen
  · rw [Bool.or_eq_true] at hok
    rcases hok with hok | hok
    · left
      rw [List.length_map, hxl]
      exact of_decide_eq_true hok
    · right
      intro q hq
      obtain ⟨y, hy, rfl⟩ := List.mem_map.mp hq
      have hm : y.1 ∈ kvs.map (·.1) := by rw [← kk1]; exact List.mem_map_of_mem hy
      obtain ⟨kv, hkv, e⟩ := List.mem_map.mp hm
      have := List.all_eq_true.mp hok kv hkv
      show y.1 ≠ []
      rw [← e]
      intro h0
      rw [h0] at this
      cases this
  · have hM : isortK (kvs.map fun p => tpI p.1) = M.map fun q => tupI q.2 := by
      have pk : (M.map (·.2)).Perm (kvs.map (·.1)) := by
        have := pM.map (·.2)
        rw [List.map_map] at this
        rw [← kk1]
        exact this
      have aa : allAlike (kvs.map fun p => tpI p.1) = true := List.all_eq_true.mpr fun x hx => List.all_eq_true.mpr fun y hy => by
        obtain ⟨a, _, rfl⟩ := List.mem_map.mp hx
        obtain ⟨b, _, rfl⟩ := List.mem_map.mp hy
        exact alike_tupI a.1 b.1
      rw [isortK_eq aa]
      have e1 : (kvs.map fun p => tpI p.1) = (kvs.map (·.1)).map tpI := by rw [List.map_map]; rfl
      have e2 : (M.map fun q => tupI q.2) = (M.map (·.2)).map tpI := by rw [List.map_map]; rfl
      have pm := List.mergeSort_perm (kvs.map fun p => tpI p.1) leD
      refine sorted_one (fun x hx y hy => ?_) (pm.trans ?_) (PySem.W.sort_pairwise leD_total _) ?_
      · obtain ⟨a, _, rfl⟩ := List.mem_map.mp (pm.mem_iff.mp hx)
        obtain ⟨b, _, rfl⟩ := List.mem_map.mp (pm.mem_iff.mp hy)
        exact alike_tupI a.1 b.1
      · rw [e1, e2]
        exact (pk.map tpI).symm
      · exact List.pairwise_map.mpr sM
    rw [hM] at hz
    have hq : ∀ q ∈ M, SqN X.K F1 q.1 (q.2.map V.int) := fun q hq => by
      obtain ⟨y, hy, rfl⟩ := List.mem_map.mp (pM.mem_iff.mp hq)
      exact kk2 y hy
    have e3 : (M.map fun q => tupI q.2) = (M.map (·.2)).map tupI := by rw [List.map_map]; rfl
    rw [e3] at hz
    obtain ⟨hl, go⟩ := fin_mkL (vs := M.map fun q => V.ref q.1) sim1 (rep_rows hq) hz fun ι2 F2 u H2 e2 s2 r2 => fin ι2 F2 u H2 (e1.trans e2) s2 r2
    exact ⟨.ref p, _, I3, rfl, go p hp⟩
end
end FW

namespace FW
open PySem PySem.Spec PyProof.Rows L2 RZ
section
variable {K : PySem.W.Frag} {mg : PySem.Str → Option Value} {F F' H H' : Hp} {ι ι' : Plc} {S S' : Store} {ρ ρ' : Slots} {σ σ' : L2.St} {D : Addr}
theorem RepL.rev : ∀ {xs : List PV} {vs : List V}, RepL K mg F xs vs → RepL K mg F xs.reverse vs.reverse
  | [], _, r => by cases r; exact rfl
  | x :: xs, _, ⟨v, r, e, a, b⟩ => by
    subst e
    rw [List.reverse_cons, List.reverse_cons]
    exact (RepL.rev b).app (RepL.one a)
theorem RepL.init : ∀ {xs : List PV} {vs : List V}, RepL K mg F xs vs → RepL K mg F xs.dropLast vs.dropLast
  | [], _, r => by cases r; exact rfl
  | [x], _, ⟨v, r, e, a, b⟩ => by subst e; cases b; exact rfl
  | x :: y :: xs, _, ⟨v, r, e, a, b⟩ => by
    subst e
    obtain ⟨w, r', e2, a2, b2⟩ := b
    subst e2
    have := RepL.init (xs := y :: xs) (vs := w :: r') ⟨w, r', rfl, a2, b2⟩
    exact ⟨v, _, rfl, a, this⟩
end
section
variable {X : Cx} {a e : Expr} {pos : Pos} {fa f : VS} {i : Nat} {x : PySem.Str}
theorem fmc {α β : Type} {f g : α → Option β} : ∀ {l : List α}, (∀ a ∈ l, f a = g a) → l.filterMap f = l.filterMap g
  | [], _ => rfl
  | a :: l, h => by rw [List.filterMap_cons, List.filterMap_cons, h a List.mem_cons_self, fmc fun b hb => h b (List.mem_cons_of_mem _ hb)]
theorem evens_get {α : Type} : ∀ (xs : List α), (List.range ((xs.length + 1) / 2)).filterMap (fun j => xs[2 * j]?) = evens xs
  | [] => by simp [evens]
  | [x] => by simp [evens]
  | x :: y :: r => by
    have e : ((x :: y :: r).length + 1) / 2 = (r.length + 1) / 2 + 1 := by simp only [List.length_cons]; omega
    rw [e, List.range_succ_eq_map, List.filterMap_cons]
    show x :: _ = x :: evens r
    rw [← evens_get r, List.filterMap_map]
    congr 1
theorem evens_len {α : Type} : ∀ (xs : List α), (evens xs).length ≤ xs.length
  | [] => Nat.le_refl _
  | [x] => Nat.le_refl _
  | x :: y :: r => by
    have := evens_len r
    simp only [evens, List.length_cons]
    omega
theorem pickS_len {α : Type} (k : Nat) (xs : List α) : (pickS k xs).length ≤ xs.length := by
  unfold pickS
  split
  · exact evens_len xs
  · exact Nat.le_trans (evens_len _) (by rw [List.length_drop]; omega)
  · rw [List.length_reverse, List.length_drop]; omega
theorem evens_rep {K : PySem.W.Frag} {mg : PySem.Str → Option Value} {F : Hp} : ∀ {xs : List PV} {vs : List V}, RepL K mg F xs vs → RepL K mg F (evens xs) (evens vs)
  | [], _, r => by cases r; exact rfl
  | [x], _, ⟨v, r, e, a, b⟩ => by subst e; cases b; exact ⟨v, [], rfl, a, rfl⟩
  | x :: y :: xs, _, ⟨v, r, e, a, b⟩ => by
    subst e
    obtain ⟨w, r', e2, a2, b2⟩ := b
    subst e2
    exact ⟨v, evens r', rfl, a, evens_rep (xs := xs) (vs := r') b2⟩
theorem pickS_rep {K : PySem.W.Frag} {mg : PySem.Str → Option Value} {F : Hp} (k : Nat) {xs : List PV} {vs : List V} (r : RepL K mg F xs vs) : RepL K mg F (pickS k xs) (pickS k vs) := by
  unfold pickS
  split
  · exact evens_rep r
  · exact evens_rep (r.drop 1)
  · exact (r.drop 1).rev
theorem evens_vals : ∀ {xs : List V} {us : List Value}, Vals xs us → Vals (evens xs) (evens us)
  | _, _, .nil => .nil
  | _, _, .cons r .nil => .cons r .nil
  | _, _, .cons r (.cons r2 t) => .cons r (evens_vals t)
theorem vals_drop1 : ∀ {xs : List V} {us : List Value}, Vals xs us → Vals (xs.drop 1) (us.drop 1)
  | _, _, .nil => .nil
  | _, _, .cons r t => t
theorem pickS_vals (k : Nat) {xs : List V} {us : List Value} (r : Vals xs us) : Vals (pickS k xs) (pickS k us) := by
  unfold pickS
  split
  · exact evens_vals r
  · exact evens_vals (vals_drop1 r)
  · exact (vals_drop1 r).reverse
def loS : Nat → Option Int
  | 0 => some 0
  | 1 => some 1
  | _ => none
def hiS : Nat → Option Int
  | 0 => none
  | 1 => none
  | _ => some 0
def stS : Nat → Option Int
  | 0 => some 2
  | 1 => some 2
  | _ => some (-1)
theorem pickS_eq (k : Nat) (xs : List Value) : slicePick xs.toArray (loS k) (hiS k) (stS k) = (pickS k xs).toArray := by
  have pick : ∀ {l : List Nat} {g : Nat → Nat} {n : Nat}, l = (List.range n).map g → l.filterMap (fun i => xs.toArray[i]?) = (List.range n).filterMap fun j => xs[g j]? := fun {l g n} e => by
    rw [e, List.filterMap_map]
    refine fmc fun j _ => ?_
    simp
  unfold slicePick
  match k with
  | 0 =>
    have b : sliceBounds (some 0) none (some 2) xs.toArray.size = (0, (xs.length : Int), 2) := by
      simp [sliceBounds]
      omega
    show ((sliceRange (sliceBounds (some 0) none (some 2) xs.toArray.size).1 _ _).filterMap _).toArray = (evens xs).toArray
    rw [b, ← evens_get xs]
    congr 1
    have e : sliceRange 0 (xs.length : Int) 2 = (List.range ((xs.length + 1) / 2)).map fun j => 2 * j := by
      unfold sliceRange
      have c : (if (2 : Int) > 0 then (if (0 : Int) < (xs.length : Int) then ((xs.length : Int) - 0 + 2 - 1) / 2 else 0) else (if (0 : Int) > (xs.length : Int) then (0 - (xs.length : Int) - 2 - 1) / (-2) else 0)).toNat = (xs.length + 1) / 2 := by
        rw [if_pos (by decide)]
        split <;> omega
      simp only [c]
      refine List.map_congr_left fun j _ => ?_
      omega
    exact pick e
  | 1 =>
    have b : sliceBounds (some 1) none (some 2) xs.toArray.size = (((min 1 xs.length : Nat) : Int), (xs.length : Int), 2) := by
      simp [sliceBounds]
      try omega
    show ((sliceRange (sliceBounds (some 1) none (some 2) xs.toArray.size).1 (sliceBounds (some 1) none (some 2) xs.toArray.size).2.1 (sliceBounds (some 1) none (some 2) xs.toArray.size).2.2).filterMap _).toArray = (evens (xs.drop 1)).toArray
    rw [b, ← evens_get (xs.drop 1)]
    congr 1
    have e : sliceRange ((min 1 xs.length : Nat) : Int) (xs.length : Int) 2 = (List.range (((xs.drop 1).length + 1) / 2)).map fun j => min 1 xs.length + 2 * j := by
      unfold sliceRange
      have c : (if (2 : Int) > 0 then (if ((min 1 xs.length : Nat) : Int) < (xs.length : Int) then ((xs.length : Int) - ((min 1 xs.length : Nat) : Int) + 2 - 1) / 2 else 0) else (if ((min 1 xs.length : Nat) : Int) > (xs.length : Int) then (((min 1 xs.length : Nat) : Int) - (xs.length : Int) - 2 - 1) / (-2) else 0)).toNat = ((xs.drop 1).length + 1) / 2 := by
        rw [if_pos (by decide), List.length_drop]
        split <;> omega
      simp only [c]
      refine List.map_congr_left fun j _ => ?_
      omega
    rw [pick e]
    refine fmc fun j hj => ?_
    have := List.mem_range.mp hj
    rw [List.length_drop] at this
    rw [List.getElem?_drop]
    congr 1
    omega
  | k + 2 =>
    have b : sliceBounds none (some 0) (some (-1)) xs.toArray.size = ((xs.length : Int) - 1, max (-1) (min 0 ((xs.length : Int) - 1)), -1) := by
      simp [sliceBounds]
    show ((sliceRange (sliceBounds none (some 0) (some (-1)) xs.toArray.size).1 (sliceBounds none (some 0) (some (-1)) xs.toArray.size).2.1 (sliceBounds none (some 0) (some (-1)) xs.toArray.size).2.2).filterMap _).toArray = ((xs.drop 1).reverse).toArray
    rw [b]
    congr 1
    have e : sliceRange ((xs.length : Int) - 1) (max (-1) (min 0 ((xs.length : Int) - 1))) (-1) = (List.range (xs.length - 1)).map fun j => xs.length - 1 - j := by
      unfold sliceRange
      have c : (if (-1 : Int) > 0 then (if (xs.length : Int) - 1 < max (-1) (min 0 ((xs.length : Int) - 1)) then (max (-1) (min 0 ((xs.length : Int) - 1)) - ((xs.length : Int) - 1) + -1 - 1) / -1 else 0) else (if (xs.length : Int) - 1 > max (-1) (min 0 ((xs.length : Int) - 1)) then ((xs.length : Int) - 1 - max (-1) (min 0 ((xs.length : Int) - 1)) - -1 - 1) / (- -1) else 0)).toNat = xs.length - 1 := by
        rw [if_neg (by decide)]
        rw [show (- -1 : Int) = 1 by decide, Int.ediv_one]
        split <;> omega
      simp only [c]
      refine List.map_congr_left fun j hj => ?_
      have := List.mem_range.mp hj
      omega
    rw [pick e]
    refine List.ext_getElem? fun i => ?_
    have fm : ∀ (n : Nat) (g : Nat → Nat), (∀ j, j < n → g j < xs.length) → (List.range n).filterMap (fun j => xs[g j]?) = (List.range n).map fun j => xs.getD (g j) default := fun n g hg => by
      rw [← List.filterMap_eq_map]
      refine fmc fun j hj => ?_
      have := hg j (List.mem_range.mp hj)
      simp [this]
    rw [fm _ _ fun j hj => by omega]
    by_cases hi : i < xs.length - 1
    · rw [List.getElem?_map, List.getElem?_range hi, List.getElem?_reverse (by rw [List.length_drop]; omega), List.getElem?_drop, List.length_drop]
      show some (xs.getD (xs.length - 1 - i) default) = _
      have h2 : 1 + (xs.length - 1 - 1 - i) = xs.length - 1 - i := by omega
      rw [h2, List.getElem?_eq_getElem (by omega), List.getD_eq_getElem?_getD, List.getElem?_eq_getElem (by omega)]
      rfl
    · rw [List.getElem?_eq_none (by simp; omega), List.getElem?_eq_none (by simp; omega)]
def tSlS (K : PySem.W.Frag) (k : Nat) (te : TE) : TE := fun σ H Q => te σ H fun x H1 => ∃ a xs, x = .ref a ∧ SqL K H1 a xs ∧ ∀ p, H1 p = none → Q (.ref p) (upd H1 p (.lst (pickS k xs)))
inductive PartsS : Nat → Option Expr → Option Expr → Expr → Prop
  | a {k1 k2 p1 p2} : PartsS 0 (some (.Constant (.int 0) k1 p1)) none (.Constant (.int 2) k2 p2)
  | b {k1 k2 p1 p2} : PartsS 1 (some (.Constant (.int 1) k1 p1)) none (.Constant (.int 2) k2 p2)
  | c {k1 k2 p1 p2 p3} : PartsS 2 none (some (.Constant (.int 0) k1 p1)) (.UnaryOp .USub (.Constant (.int 1) k2 p2) p3)
theorem pe_slS {k : Nat} {lo hi : Option Expr} {st : Expr} {p3 : Pos} {te : TE} (hp : PartsS k lo hi st) (he : PE X a te) : PE X (.Subscript a (.Slice lo hi (some st) p3) pos) (tSlS X.K k te) := by
  have key : ∀ (l u s' : Option Int), l = loS k → u = hiS k → s' = stS k → (∃ t, PO X lo t ∧ ∀ σ H (Q : Option Int → Hp → Prop), Q l H → t σ H Q) → (∃ t, PO X hi t ∧ ∀ σ H (Q : Option Int → Hp → Prop), Q u H → t σ H Q) → (∃ t, PO X (some st) t ∧ ∀ σ H (Q : Option Int → Hp → Prop), Q s' H → t σ H Q) → (subscripted (.Slice lo hi (some st) p3) false = fun v u => operate [v, u] (getItem v u)) → PE X (.Subscript a (.Slice lo hi (some st) p3) pos) (tSlS X.K k te) := by
    intro l u s' el eu es ⟨t1, P1, q1⟩ ⟨t2, P2, q2⟩ ⟨t3, P3, q3⟩ hsub
    subst el eu es
    refine ⟨fun pins s σ H Q I h => ?_⟩
    refine Subscript_ (thn (he.run pins s σ H _ I h) fun v s1 ⟨x, H1, I1, r1, qq⟩ => ?_)
    obtain ⟨b, xs, ex, hx, q⟩ := qq
    subst ex
    cases r1
    refine wpAny_Slice (thn (P1.run pins s1 σ H1 (fun o H2 => o = loS k ∧ H2 = H1) I1 (q1 _ _ _ ⟨rfl, rfl⟩)) fun vl s2 ⟨l, H2, I2, pl, el, e2⟩ => ?_)
    subst el e2
    refine thn (P2.run pins s2 σ H2 (fun o H3 => o = hiS k ∧ H3 = H2) I2 (q2 _ _ _ ⟨rfl, rfl⟩)) fun vu s3 ⟨u, H3, I3, pu, eu, e3⟩ => ?_
    subst eu e3
    refine thn (P3.run pins s3 σ H3 (fun o H4 => o = stS k ∧ H4 = H3) I3 (q3 _ _ _ ⟨rfl, rfl⟩)) fun vs s4 ⟨o, H4, I4, ps, eo, e4⟩ => ?_
    subst eo e4
    have I5 : Inv X pins σ H4 { s4 with heap := s4.heap.push { cls := .type "slice", data := .fields #[vl, vu, vs] } } := I4.kept (t' := s4.toks) fun b ob q => Heap.get?_push_of_some _ q
    obtain ⟨its, r, ht, hz⟩ := I5.list hx
    have hlen := r.length
    have h0 : stS k ≠ some 0 := by
      match k with
      | 0 => decide
      | 1 => decide
      | k + 2 => show (some (-1) : Option Int) ≠ some 0; decide
    show wpAny (model X.prog X.w) X.A (subscriptTail a (.Slice lo hi (some st) p3) (.ref b) (.ref s4.heap.objs.size)) (EP X pins σ Q) X.xe { s4 with heap := s4.heap.push { cls := .type "slice", data := .fields #[vl, vu, vs] } }
    refine tail_any (ops := [.ref b, .ref s4.heap.objs.size]) ht.isList.typeIs (PySem.slot_list_getitem.lookup) ?_ (by rw [hsub])
    refine wpAny_getItem_list_slice ht.isList (Heap.IsSliceOf.new _ vl vu vs) pl pu ps h0 ?_ (by rw [List.size_toArray]; omega)
    rw [pickS_eq]
    refine ⟨.ref _, _, I5.laid (t' := s4.toks) (o := .lst (pickS k xs)) (fun b ob q => Heap.get?_push_of_some _ q) (Nat.le_refl _) ?_, rfl, q _ (I5.hok.fresh (Nat.le_refl _))⟩
    exact ⟨Nat.le_trans (pickS_len k xs) hz, _, 0, pickS_vals k r, Heap.get?_push_size _ rfl⟩
  have ci : ∀ {i : Int} {j : Nat} {p : Pos}, ∃ t, PO X (some (.Constant (.int i) j p)) t ∧ ∀ σ H (Q : Option Int → Hp → Prop), Q (some i) H → t σ H Q := fun {i j p} => ⟨_, po_some (pe_int (i := i)), fun σ H Q h => ⟨_, rfl, h⟩⟩
  have cn : ∃ t, PO X none t ∧ ∀ σ H (Q : Option Int → Hp → Prop), Q none H → t σ H Q := ⟨_, po_none, fun σ H Q h => h⟩
  cases hp with
  | a => exact key (some 0) none (some 2) rfl rfl rfl ci cn ci rfl
  | b => exact key (some 1) none (some 2) rfl rfl rfl ci cn ci rfl
  | c => exact key none (some 0) (some (-1)) rfl rfl rfl cn ci ⟨_, po_some (pe_un un_neg pe_int), fun σ H Q h => ⟨1, rfl, -1, rfl, h⟩⟩ rfl
theorem s_slS {m : Bool} {k : Nat} {lo hi : Option Expr} {st : Expr} {p3 : Pos} (hp : PartsS k lo hi st) (ha : PE X a (rdE X.K X.mg fa)) : PE X (.Subscript a (.Slice lo hi (some st) p3) pos) (rdE X.K X.mg (sSlcS m k fa)) := by
  refine pe_ofV (pe_slS hp ha) fun ι F S ρ y S' σ H Q sim r hf q => ?_
  obtain ⟨x, S1, h1, hf⟩ := bind_ok hf
  refine ⟨ι, F, S, ρ, x, S1, sim, r, h1, fun ι1 F1 v H1 e1 s1 r1 => ?_⟩
  unfold bSlcS at hf
  split at hf
  · rename_i xs hx
    obtain ⟨p, vs, rfl, l, hq⟩ := s1.seq r1 hx
    simp only [if_true] at hq
    obtain ⟨_, go⟩ := fin_mkL s1 (pickS_rep k l) hf fun ι2 F2 u H2 e2 s2 r2 => q _ _ _ _ (e1.trans e2) s2 r2
    exact ⟨p, vs, rfl, .inl hq, go⟩
  · cases hf
theorem applied_rev {prog : Program} {w : World} {A : Around} {E : Value → Shared → Prop} {s : Shared} {sl : Addr} {vl vu vs : Value} {n : Nat} {Q : Int × Int × Nat → Shared → Prop} (hs : s.heap.IsSliceOf sl vl vu vs) (pl : IsPart vl none) (pu : IsPart vu none) (ps : IsPart vs (some (-1)))
    (h : Q ((n : Int) - 1, -1, n) s) : wpAny (model prog w) A (Builtin.Slice.sliceApplied (.ref sl) (pure (n : Int))) Q E s := by
  obtain ⟨os, hos, hcs, hds⟩ := id hs
  unfold Builtin.Slice.sliceApplied Builtin.Slice.sliceFields
  refine wpAny_bind (wpAny_bind (wpAny_field hos hds (x := vl) rfl (wpAny_bind (wpAny_field hos hds (x := vu) rfl (wpAny_bind (wpAny_field hos hds (x := vs) rfl (wpAny_pure ?_)))))))
  refine wpAny_bind (HT.slicePart_ ps ?_)
  show wpAny _ _ (if ((-1 : Int) == 0) = true then _ else _) _ _ s
  rw [if_neg (by decide)]
  refine wpAny_bind (HT.slicePart_ pl (wpAny_bind (HT.slicePart_ pu (wpAny_bind (wpAny_pure ?_)))))
  show wpAny _ _ (match Builtin.Slice.sliceAdjust none none (-1) (n : Int) with | (lo, hi) => pure (lo, (-1 : Int), Builtin.Slice.slicePlaces lo hi (-1))) _ _ s
  have e : Builtin.Slice.sliceAdjust none none (-1) (n : Int) = ((n : Int) - 1, -1) := rfl
  rw [e]
  have e2 : Builtin.Slice.slicePlaces ((n : Int) - 1) (-1) (-1) = n := by
    unfold Builtin.Slice.slicePlaces
    rw [if_neg (by decide)]
    rw [show (- -1 : Int) = 1 by decide, Int.ediv_one]
    split <;> omega
  show wpAny _ _ (pure ((n : Int) - 1, (-1 : Int), Builtin.Slice.slicePlaces ((n : Int) - 1) (-1) (-1))) _ _ s
  rw [e2]
  exact wpAny_pure h
theorem pick_rev (xs : Array Value) : ((List.range xs.size).filterMap fun (m : Nat) => xs[(((xs.size : Int) - 1) + (m : Int) * (-1)).toNat]?).toArray = xs.toList.reverse.toArray := by
  congr 1
  refine List.ext_getElem? fun i => ?_
  have e : (List.range xs.size).filterMap (fun (m : Nat) => xs[(((xs.size : Int) - 1) + (m : Int) * (-1)).toNat]?) = (List.range xs.size).map fun m => xs.toList.getD (xs.size - 1 - m) default := by
    rw [← List.filterMap_eq_map]
    refine fmc fun m hm => ?_
    have := List.mem_range.mp hm
    have h2 : (((xs.size : Int) - 1) + (m : Int) * (-1)).toNat = xs.size - 1 - m := by omega
    rw [h2, Array.getElem?_eq_getElem (by omega)]
    show _ = some (xs.toList.getD (xs.size - 1 - m) default)
    rw [List.getD_eq_getElem?_getD, List.getElem?_eq_getElem (by rw [Array.length_toList]; omega)]
    rfl
  rw [e]
  by_cases hi : i < xs.size
  · rw [List.getElem?_map, List.getElem?_range hi, List.getElem?_reverse (by rw [Array.length_toList]; exact hi), Array.length_toList, List.getElem?_eq_getElem (by rw [Array.length_toList]; omega)]
    show some (xs.toList.getD (xs.size - 1 - i) default) = _
    rw [List.getD_eq_getElem?_getD, List.getElem?_eq_getElem (by rw [Array.length_toList]; omega)]
    rfl
  · rw [List.getElem?_eq_none (by simpa using hi), List.getElem?_eq_none (by rw [List.length_reverse, Array.length_toList]; omega)]
theorem getItem_tuple_rev {prog : Program} {w : World} {A : Around} {E : Value → Shared → Prop} {s : Shared} {t sl : Addr} {items : Array Value} {vl vu vs : Value} {Q : Value → Shared → Prop} (ht : IsTup s.heap t items) (hs : s.heap.IsSliceOf sl vl vu vs) (pl : IsPart vl none) (pu : IsPart vu none) (ps : IsPart vs (some (-1)))
    (h : Q (.ref s.heap.objs.size) { s with heap := s.heap.push { cls := .type "tuple", data := .seq items.toList.reverse.toArray } })
    (hsz : items.size ≤ sizeLine) : wpAny (model prog w) A (getItem (.ref t) (.ref sl)) Q E s := by
  have htake : sizeOk (.seq items.toList.reverse.toArray) := by
    show items.toList.reverse.toArray.size ≤ sizeLine
    rw [List.size_toArray, List.length_reverse, Array.length_toList]
    exact hsz
  obtain ⟨os, hos, hcs, hds⟩ := id hs
  have hTs : s.TypeIs (.ref sl) "slice" := ⟨os, hos, hcs⟩
  unfold getItem
  try with_reducible refine wpAny_holding ?_
  first | refine wpAny_bind (wpAny_pure ?_) | skip
  refine wpAny_bind (wpAny_sequenceKey ht.typeIs (by decide) ?_)
  refine wpAny_bind (wpAny_callSpecial?_slot (name := PySem.Str.ofString "__getitem__") ht.typeIs PyProof.Rows.slot_tuple_getitem
    (wpAny_call_entry PyProof.Rows.slot_tuple_getitem ht.typeIs entry_tuple_getitem ?_ (args_tuple_getitem _ _)))
  show wpAny _ _ (Builtin.Tuple.tupleItemsOf (.ref t) >>= _) _ _ s
  refine wpAny_bind (tupleItemsOf_ ht ?_)
  refine wpAny_bind (wpAny_typeOf hTs ?_)
  rw [if_pos (by decide)]
  refine wpAny_bind (applied_rev hs pl pu ps ?_)
  have hno : ¬ ((((items.size : Int) - 1) == 0 && (-1 : Int) == 1 && items.size == items.size) = true) := by
    intro q
    rw [Bool.and_eq_true, Bool.and_eq_true] at q
    exact absurd q.1.2 (by decide)
  show wpAny _ _ (if (((items.size : Int) - 1) == 0 && (-1 : Int) == 1 && items.size == items.size) = true then _ else _) _ _ s
  rw [if_neg hno, pick_rev]
  first
    | exact wpAny_bind (m := Builtin.Tuple.tupleExact _) (wpAny_newObj_type (wpAny_pure ⟨_, rfl, wpAny_pure h⟩) htake)
    | exact wpAny_bind (m := Builtin.Tuple.tupleExact _) (wpAny_newObj_type (wpAny_bind (wpAny_pure (wpAny_pure ⟨_, rfl, wpAny_pure h⟩))) htake)
    | exact wpAny_bind (wpAny_bind (m := Builtin.Tuple.tupleExact _) (wpAny_newObj_type (wpAny_pure (wpAny_pure ⟨_, rfl, wpAny_pure h⟩)) htake))
    | exact wpAny_bind (wpAny_bind (m := Builtin.Tuple.tupleExact _) (wpAny_newObj_type (wpAny_pure ⟨_, rfl, wpAny_pure h⟩) htake))
def tRev2 (K : PySem.W.Frag) (te : TE) : TE := fun σ H Q => te σ H fun x H1 => (∃ a xs, x = .ref a ∧ SqL K H1 a xs ∧ ∀ p, H1 p = none → Q (.ref p) (upd H1 p (.lst xs.reverse))) ∨ (∃ a xs, x = .ref a ∧ SqT K H1 a xs ∧ NewT H1 Q xs.reverse)
theorem pe_rev2 {e : Expr} {te : TE} {k : Nat} {p1 p2 p3 pos : Pos} (he : PE X e te) : PE X (.Subscript e (.Slice none none (some (.UnaryOp .USub (.Constant (.int 1) k p1) p2)) p3) pos) (tRev2 X.K te) := by
  refine ⟨fun pins s σ H Q I h => ?_⟩
  refine Subscript_ (thn (he.run pins s σ H _ I h) fun v s1 ⟨x, H1, I1, r1, q1⟩ => ?_)
  have hst : PO X (some (.UnaryOp .USub (.Constant (.int 1) k p1) p2)) (tPart (tUn (rU fun i => .int (-i)) (tC (.int 1)))) := po_some (pe_un un_neg pe_int)
  refine wpAny_Slice (thn (po_none.run pins s1 σ H1 (fun o H2 => o = none ∧ H2 = H1) I1 ⟨rfl, rfl⟩) fun vl s2 ⟨l, H2, I2, pl, el, e2⟩ => ?_)
  subst el e2
  refine thn (po_none.run pins s2 σ H2 (fun o H3 => o = none ∧ H3 = H2) I2 ⟨rfl, rfl⟩) fun vu s3 ⟨u, H3, I3, pu, eu, e3⟩ => ?_
  subst eu e3
  refine thn (hst.run pins s3 σ H3 (fun o H4 => o = some (-1) ∧ H4 = H3) I3 ⟨1, rfl, -1, rfl, rfl, rfl⟩) fun vs s4 ⟨o, H4, I4, ps, eo, e4⟩ => ?_
  subst eo e4
  have I5 : Inv X pins σ H4 { s4 with heap := s4.heap.push { cls := .type "slice", data := .fields #[vl, vu, vs] } } := I4.kept (t' := s4.toks) fun b ob q => Heap.get?_push_of_some _ q
  rcases q1 with ⟨a, xs, ex, hx, q⟩ | ⟨a, xs, ex, hx, q⟩
  · subst ex
    cases r1
    obtain ⟨its, r, ht, hz⟩ := I5.list hx
    have hlen := r.length
    show wpAny (model X.prog X.w) X.A (subscriptTail e (.Slice none none (some (.UnaryOp .USub (.Constant (.int 1) k p1) p2)) p3) (.ref a) (.ref s4.heap.objs.size)) (EP X pins σ Q) X.xe { s4 with heap := s4.heap.push { cls := .type "slice", data := .fields #[vl, vu, vs] } }
    refine tail_any (ops := [.ref a, .ref s4.heap.objs.size]) ht.isList.typeIs (PySem.slot_list_getitem.lookup) ?_ (by with_unfolding_all rfl)
    refine wpAny_getItem_list_slice ht.isList (Heap.IsSliceOf.new _ vl vu vs) pl pu ps (by decide) ?_ (by rw [List.size_toArray]; omega)
    rw [PySem.W.krv_pick]
    refine ⟨.ref _, _, I5.laid (t' := s4.toks) (o := .lst xs.reverse) (fun b ob q => Heap.get?_push_of_some _ q) (Nat.le_refl _) ?_, rfl, q _ (I5.hok.fresh (Nat.le_refl _))⟩
    exact ⟨by rw [List.length_reverse]; exact hz, _, 0, r.reverse, Heap.get?_push_size _ rfl⟩
  · subst ex
    cases r1
    obtain ⟨its, r, ht, hz⟩ := I5.tuple hx
    have hlen := r.length
    show wpAny (model X.prog X.w) X.A (subscriptTail e (.Slice none none (some (.UnaryOp .USub (.Constant (.int 1) k p1) p2)) p3) (.ref a) (.ref s4.heap.objs.size)) (EP X pins σ Q) X.xe { s4 with heap := s4.heap.push { cls := .type "slice", data := .fields #[vl, vu, vs] } }
    refine tail_any (ops := [.ref a, .ref s4.heap.objs.size]) ht.typeIs (PyProof.Rows.slot_tuple_getitem.lookup) ?_ (by with_unfolding_all rfl)
    refine getItem_tuple_rev ht (Heap.IsSliceOf.new _ vl vu vs) pl pu ps ?_ (by rw [List.size_toArray]; omega)
    exact Inv.newTup (s := s4) (tk := s4.toks) I5 r.reverse (by rw [List.length_reverse]; exact hz) q (by simp)
theorem s_rev {m : Bool} {k : Nat} {p1 p2 p3 : Pos} (ha : PE X a (rdE X.K X.mg fa)) : PE X (.Subscript a (.Slice none none (some (.UnaryOp .USub (.Constant (.int 1) k p1) p2)) p3) pos) (rdE X.K X.mg (sRev m fa)) := by
  refine pe_ofV (pe_rev2 ha) fun ι F S ρ y S' σ H Q sim r hf q => ?_
  obtain ⟨x, S1, h1, hf⟩ := bind_ok hf
  refine ⟨ι, F, S, ρ, x, S1, sim, r, h1, fun ι1 F1 v H1 e1 s1 r1 => ?_⟩
  unfold bRev at hf
  split at hf
  · rename_i xs hx
    obtain ⟨p, vs, rfl, l, hq⟩ := s1.seq r1 hx
    simp only [if_true] at hq
    obtain ⟨_, go⟩ := fin_mkL s1 l.rev hf fun ι2 F2 u H2 e2 s2 r2 => q _ _ _ _ (e1.trans e2) s2 r2
    exact .inl ⟨p, vs, rfl, .inl hq, go⟩
  · rename_i xs hx
    obtain ⟨p, vs, rfl, l, hq⟩ := s1.seq r1 hx
    simp only [Bool.false_eq_true, if_false] at hq
    obtain ⟨_, go, _⟩ := fin_mkT s1 l.rev hf fun ι2 F2 u H2 e2 s2 r2 => q _ _ _ _ (e1.trans e2) s2 r2
    exact .inr ⟨p, vs, rfl, hq, go⟩
  · cases hf
theorem s_pop {p apos cpos : Pos} (hi : X.N[i]? = some x) (hv : Vis X.env.scope x) (hd : (x == ("__debug__" : PySem.Str)) = false) (hcd : (x == ("__classdict__" : PySem.Str)) = false) (hline : (apos.endLine == cpos.line) = true) :
    PS X (.Expr (.Call (.Attribute (.Name x p) "pop" apos) [] [] cpos) pos) (rdS X.K X.mg (sPop i)) := by
  refine ps_mono (ps_expr (pe_bm0 F.plainAttrs_list F.slot_list_pop F.type_list_pop mt_pop (pe_var hi hv hd hcd) rfl hline) rfl) fun D σ H h => ?_
  obtain ⟨ι, F, S, ρ, r, S', sim, rr, hf, q⟩ := h
  unfold sPop at hf
  split at hf
  · rename_i n hn
    split at hf
    · rename_i xs hS
      split at hf
      · cases hf
      · rename_i hne
        cases hf
        obtain ⟨v, g1, g2⟩ := rr.get hn
        refine ⟨v, g1, ?_⟩
        obtain ⟨pp, vs, rfl, hp, hF, hH, l⟩ := sim.lstAt g2 hS
        refine ⟨.inl ⟨rfl, vs, .inl (.inl hH)⟩, ?_⟩
        have hl : 0 < vs.length := by
          rw [← l.length]
          cases xs with
          | nil => simp at hne
          | cons x xs => simp
        refine ⟨pp, vs, vs[vs.length - 1], rfl, rfl, hH, List.getElem?_eq_getElem (by omega), ?_⟩
        exact q _ _ _ Ext.refl (sim.write hp hF ⟨hF, _, rfl, l.init⟩) _ rr
    · cases hf
  · cases hf
def rGet (K : PySem.W.Frag) (o i : V) (H : Hp) (Q : VK) : Prop := (∃ p xs k v, o = .ref p ∧ i = .int k ∧ SqL K H p xs ∧ atI xs k = some v ∧ Q v H) ∨ (∃ p v, o = .ref p ∧ DGet H p i (some v) ∧ Q v H)
theorem get_any (hu : X.A.units + 1 < cLine) : PGet X (rGet X.K) := by
  intro pins s σ H o i ov iv Q I ro ri h
  rcases h with ⟨p, xs, k, z, rfl, rfl, hq, he, q⟩ | ⟨p, v, rfl, g, q⟩
  · cases ro
    obtain ⟨t, rfl⟩ := ri
    obtain ⟨its, r, pl, hz⟩ := I.list hq
    obtain ⟨j, h1, h2, h3, h4, h5⟩ := atI_get he
    obtain ⟨w, ew, rw'⟩ := r.get h2
    have hl := r.length
    have hn := line63
    have fin : EP X pins σ Q w s := ⟨z, H, I, rw', q⟩
    by_cases h0 : 0 ≤ k
    · have hj : k.toNat = j := by
        rw [seqIndex_of h0 h5] at h1
        exact Option.some.inj h1
      exact wpAny_getItem_list pl.isList h0 (by omega) (by rw [hj]; simpa using ew) fin
    · have hj : (k + (its.toArray.size : Int)).toNat = j := by
        rw [seqIndex_neg (by omega) h4] at h1
        rw [List.size_toArray, ← hl]
        exact Option.some.inj h1
      exact wpAny_getItem_list_neg pl.isList (by omega) (by rw [List.size_toArray] <;> omega) (by omega) (by rw [hj]; simpa using ew) fin
  · cases ro
    exact d_getItem hu I g ri fun w' s' I' rw' => ⟨v, H, I', rw', q⟩
theorem get_ok {K : PySem.W.Frag} {mg : PySem.Str → Option Value} {F : Hp} {ι : Plc} {S : Store} {o y : SV} {vo vy : V} {H : Hp} {Q : VK} {z : PV} (sim : Sim K mg ι F S H) (ro : RepS K mg F ι o vo) (ry : RepS K mg F ι y vy) (h : oldOf o y S = some z) (hl : ∀ t xs, seqOf S o = some (t, xs) → t = true)
    (q : ∀ v, Rep K mg F z v → Q v H) : rGet K vo vy H Q := by
  unfold oldOf at h
  split at h
  · rename_i w S1 hi
    cases h
    unfold idxOp at hi
    split at hi
    · rename_i k
      split at hi
      · rename_i t xs hs
        obtain rfl := hl t xs hs
        split at hi
        · rename_i j
          split at hi
          · rename_i n hn
            split at hi
            · rename_i z' hz
              cases hi
              obtain ⟨p, vs, rfl, l, hq⟩ := sim.seq ro hs
              simp only [if_true] at hq
              obtain ⟨v, h1, h2⟩ := ix_at l hn hz
              cases ry
              exact .inl ⟨p, vs, j, v, rfl, rfl, .inl hq, h1, q v h2⟩
            · cases hi
          · cases hi
        · cases hi
      · split at hi
        · rename_i kvs hk
          split at hi
          · rename_i hok
            split at hi
            · rename_i z' hz
              cases hi
              obtain ⟨p, ws, rfl, hH, rd⟩ := sim.dicR ro hk
              obtain ⟨key, rfl⟩ := keyOk_some hok
              have hw := keyP_rep (show Rep K mg F (keyP key) vy from ry)
              subst hw
              have hg := rd.get key
              rw [hz] at hg
              obtain ⟨v', i1, i2⟩ := hg
              exact .inr ⟨p, v', rfl, by rw [← i1]; exact DGet_R hH, q v' i2⟩
            · cases hi
          · cases hi
        · cases hi
    · cases hi
    · cases hi
  · cases h
theorem aug_ok {o : BOp} {z : SV} {old : PV} {w : SV} {K : PySem.W.Frag} {mg : PySem.Str → Option Value} {F : Hp} {ι : Plc} {v u : V} (h : augOp o (.v old) z = some w) (r1 : Rep K mg F old v) (r2 : RepS K mg F ι z u) :
    ∃ i j, v = .int i ∧ u = .int j ∧ ((o = .add ∧ w = .v (.int (i + j))) ∨ (o = .sub ∧ w = .v (.int (i - j)))) := by
  unfold augOp at h
  split at h
  · rename_i x y i j hx
    cases hx
    cases r1
    cases r2
    split at h
    · cases h; exact ⟨_, _, rfl, rfl, .inl ⟨rfl, rfl⟩⟩
    · cases h; exact ⟨_, _, rfl, rfl, .inr ⟨rfl, rfl⟩⟩
    · cases h
  · cases h
theorem s_augsub {op : Operator} {o : BOp} {p tpos : Pos} (hu : X.A.units + 1 < cLine) (hi : X.N[i]? = some x) (hv : Vis X.env.scope x) (hd : (x == ("__debug__" : PySem.Str)) = false) (hcd : (x == ("__classdict__" : PySem.Str)) = false) (ha : PE X a (rdE X.K X.mg fa)) (hp : plainIx a = true) (he : PE X e (rdE X.K X.mg f))
    (ho : (op = .Add ∧ o = .add) ∨ (op = .Sub ∧ o = .sub)) :
    PS X (.AugAssign (.Subscript (.Name x p) a tpos) op e pos) (rdS X.K X.mg (sAugsub i fa o f)) := by
  have hst : ∀ ov iv new, augStore a ov iv new = (do holding [new, ov, iv] (setItem ov iv new); release [new, ov, iv] []; pure .next) := by
    intro ov iv new
    cases a <;> first | rfl | simp [plainIx] at hp
  have core : ∀ {tip : TIp}, PIp X op tip → (∀ i j : Int, ∀ H (Q : VK), Q (.int (if o = .add then i + j else i - j)) H → tip (.int i) (.int j) H Q) → PS X (.AugAssign (.Subscript (.Name x p) a tpos) op e pos) (rdS X.K X.mg (sAugsub i fa o f)) := fun {tip} hip htip => by
    refine ps_mono (ps_augS (pe_var hi hv hd hcd) ha (get_any hu) he hip (set_or set_list (set_dict hu)) hst) fun D σ H h => ?_
    obtain ⟨ι, F, S, ρ, r, S', sim, rr, hf, q⟩ := h
    unfold sAugsub at hf
    split at hf
    · rename_i ob hob
      obtain ⟨y, S1, h1, hf⟩ := bind_ok hf
      split at hf
      · rename_i old hold
        obtain ⟨z, S2, h2, hf⟩ := bind_ok hf
        split at hf
        · rename_i S3 hput
          cases hf
          obtain ⟨v, g1, g2⟩ := rr.get hob
          refine ⟨v, g1, ι, F, S, ρ, y, S1, sim, rr, h1, fun ι1 F1 vy H1 e1 s1 r1 => ?_⟩
          have hput' := hput
          unfold augsubOp at hput'
          split at hput'
          · rename_i w hw
            refine get_ok s1 (g2.mono e1) r1 hold (fun t xs hs => ?_) fun vold rold => ?_
            · -- what is written to is a place
              unfold putOp at hput'
              split at hput'
              · rename_i n _ _
                simp only [seqOf] at hs
                split at hs
                · cases hs; rfl
                · cases hs
              · cases hput'
            · refine ⟨ι1, F1, S1, ρ, z, S2, s1, rr.mono e1, h2, fun ι2 F2 u H2 e2 s2 r2 => ?_⟩
              obtain ⟨i', j', rfl, rfl, hw'⟩ := aug_ok hw (rold.mono e2.2) r2
              refine htip _ _ _ _ ?_
              refine put_ok s2 (g2.mono (e1.trans e2)) (r1.mono e2) (x := w) ?_ hput' fun H' s3 => q _ _ _ (e1.trans e2) s3 _ (rr.mono (e1.trans e2))
              rcases hw' with ⟨rfl, rfl⟩ | ⟨rfl, rfl⟩
              · exact rfl
              · exact rfl
          · cases hput'
        · cases hf
      · cases hf
    · cases hf
  rcases ho with ⟨rfl, rfl⟩ | ⟨rfl, rfl⟩
  · exact core ip_add fun i j H Q h => ⟨i, j, rfl, rfl, h⟩
  · exact core ip_sub fun i j H Q h => ⟨i, j, rfl, rfl, h⟩
end
def Plc.onO (ι : Plc) (D : Addr) (o : HO) : Plc := ⟨ι.l, upd ι.w D o⟩
section
variable {K : PySem.W.Frag} {mg : PySem.Str → Option Value} {F F' H H' : Hp} {ι ι' : Plc} {S S' : Store} {ρ ρ' : Slots} {σ σ' : L2.St} {D : Addr} {u w : HO}
theorem Sim.enterO (s : Sim K mg ι F S H) {D : Addr} {o : HO} {x : Ob} (hH : H D = some o) (hF : F D = none) (hι : D ∉ ι.l) (hw : ι.w D = none) (r : RepO K mg F x D o) :
    Sim K mg ⟨ι.l ++ [D], ι.w⟩ F (S ++ [x]) H ∧ Ext ι F ⟨ι.l ++ [D], ι.w⟩ F := by
  refine ⟨⟨s.sub, by simp [s.len], ?_, fun a u e => ?_, fun n y e => ?_⟩, ⟨⟨⟨[D], rfl⟩, rfl⟩, Sub.refl⟩⟩
  · show (ι.l ++ [D]).Nodup
    rw [List.nodup_append]
    exact ⟨s.nd, by simp, fun a ha b hb => by simp at hb; subst hb; exact fun z => hι (z ▸ ha)⟩
  · obtain ⟨h1, h2, h3⟩ := s.frm a u e
    have ha : a ≠ D := fun z => by subst z; rw [hw] at e; cases e
    exact ⟨h1, h2, by simp [h3, ha]⟩
  · by_cases hn : n < S.length
    · rw [List.getElem?_append_left hn] at e
      obtain ⟨a, u, h1, h2, h3⟩ := s.at_ n y e
      exact ⟨a, u, by show (ι.l ++ [D])[n]? = _; rw [List.getElem?_append_left (by rw [s.len]; exact hn)]; exact h1, h2, h3⟩
    · have hn2 : n = S.length := by
        have := (List.getElem?_eq_some_iff.mp e).1
        simp at this; omega
      subst hn2
      simp at e; subst e
      exact ⟨D, _, by show (ι.l ++ [D])[S.length]? = _; rw [← s.len]; simp, hH, r⟩
theorem Ext.offO (e : Ext (ι.onO D u) F ι' F') : ∃ ι2, ι' = ι2.onO D u ∧ Ext ι F ι2 F' := by
  obtain ⟨⟨⟨t, e1⟩, e2⟩, e3⟩ := e
  refine ⟨⟨ι'.l, ι.w⟩, ?_, ⟨⟨t, e1⟩, rfl⟩, e3⟩
  cases ι'
  have e2 : _ = _ := e2
  simp only at e2
  subst e2
  rfl
theorem Sim.atO (s : Sim K mg (ι.onO D u) F S H) : H D = some u ∧ F D = none ∧ D ∉ ι.l := s.frm D _ (by show upd ι.w D _ D = _; rw [upd_same])
theorem Sim.offO (s : Sim K mg (ι.onO D u) F S H) (hw : ι.w D = none) : Sim K mg ι F S H := s.forget (w := ι.w) fun a o e => by
  show upd ι.w D _ a = _
  rw [upd_ne (fun z => by subst z; rw [hw] at e; cases e)]
  exact e
theorem Sim.reO (s : Sim K mg (ι.onO D u) F S H) (hw : ι.w D = none) (w : HO) : Sim K mg (ι.onO D w) F S (upd H D w) := by
  obtain ⟨_, h2, h3⟩ := s.atO
  exact ((s.offO hw).drop h2 h3 hw).apart upd_same h2 h3
theorem Sim.newO (s : Sim K mg ι F S H) (h : H D = none) (w : HO) : Sim K mg (ι.onO D w) F S (upd H D w) ∧ ι.w D = none := by
  obtain ⟨h2, h3⟩ := s.fresh h
  have hw : ι.w D = none := by
    cases e : ι.w D with
    | none => rfl
    | some o => rw [(s.frm _ _ e).1] at h; cases h
  exact ⟨(s.drop h2 h3 hw).apart upd_same h2 h3, hw⟩
theorem compD_nil {f : PV → Store → Out (Option (PV × PV))} {S S' : Store} {ys : List (PV × PV)} (h : compD f [] S = .ok ys S') : ys = [] ∧ S' = S := by cases h; exact ⟨rfl, rfl⟩
theorem compD_cons {f : PV → Store → Out (Option (PV × PV))} {x : PV} {xs : List PV} {S S' : Store} {ys : List (PV × PV)} (h : compD f (x :: xs) S = .ok ys S') :
    ∃ o S1 zs, f x S = .ok o S1 ∧ compD f xs S1 = .ok zs S' ∧ ys = (match o with | some y => y :: zs | none => zs) := by
  obtain ⟨o, S1, h1, h⟩ := bind_ok h
  obtain ⟨zs, S2, h2, h⟩ := bind_ok h
  cases h
  exact ⟨o, S1, zs, h1, h2, rfl⟩
theorem keyPut_len (k v : PV) (kvs : List (PV × PV)) : (keyPut k v kvs).length ≤ kvs.length + 1 := by
  unfold keyPut
  split
  · rw [List.length_map]; omega
  · rw [List.length_append]; simp
theorem putAll_len : ∀ (ps kvs : List (PV × PV)), (putAll kvs ps).length ≤ kvs.length + ps.length
  | [], kvs => by simp [putAll]
  | p :: ps, kvs => by
    have h1 := putAll_len ps (keyPut p.1 p.2 kvs)
    have h2 := keyPut_len p.1 p.2 kvs
    show (putAll (keyPut p.1 p.2 kvs) ps).length ≤ _
    rw [List.length_cons]
    omega
theorem putAll_snoc {kvs ps : List (PV × PV)} {y z : PV} : putAll kvs (ps ++ [(y, z)]) = keyPut y z (putAll kvs ps) := by
  unfold putAll
  rw [List.foldl_append]
  rfl
theorem dcomp_core {F1 : Hp} {ι1 : Plc} {S1 S2 : Store} {H1 : Hp} {xs : List PV} {ps : List (PV × PV)} {J : It} {g : PV → Slots → Option Slots} {ts own : List Nat} {c : Slots → Store → Out Bool} {k e : VS} {Qd : Hp → Prop}
    (wp : WalkP wk K mg F1 xs J) (hts : ∀ t ∈ ts, t ∈ own) (s0 : Sim K mg (ι1.onO D (.dK [])) F1 S1 H1) (hw : ι1.w D = none) (hr : RepR K mg F1 ι1 ρ σ)
    (hc : compD (cTurnD g c k e (wipeS ρ own)) xs S1 = .ok ps S2) (hlen : ps.length ≤ line)
    (hd : ∀ ι F H ws, Ext ι1 F1 ι F → Sim K mg (ι.onO D (.dK ws)) F S2 H → RepD K mg F (putAll [] ps) ws → Qd H) :
    ∃ W : Nat → Nat → Hp → Prop, (∃ m, W 0 m H1) ∧ ∀ i m H, W i m H →
      (J.stop i H ∧ Qd H) ∨ (J.go i H ∧ ∃ Nx : Hp → Prop, (∀ H', Nx H' → ∃ m', m' < m ∧ W (i + 1) m' H') ∧ ∀ x H', J.yld i H x H' → rdG K mg wk g ts x (L2.wipe σ own) H' fun σ2 H2 => L2.wipe σ2 own = L2.wipe σ own ∧ rdT K mg c σ2 H2 fun b H3 =>
        if b = true then rdE K mg k σ2 H3 fun y H4 => rdE K mg e σ2 H4 fun z H5 => ∃ kvs k, y = kV k ∧ H5 D = some (.dK kvs) ∧ kvs.length < sizeLine ∧ Nx (upd H5 D (.dK (L2.putK kvs k z))) else Nx H3) := by
  refine ⟨fun i m H => m = xs.length - i ∧ i ≤ xs.length ∧ ∃ ι F S done rest ws, Ext ι1 F1 ι F ∧ Sim K mg (ι.onO D (.dK ws)) F S H ∧ RepD K mg F (putAll [] done) ws ∧ compD (cTurnD g c k e (wipeS ρ own)) (xs.drop i) S = .ok rest S2 ∧ done ++ rest = ps,
    ⟨xs.length, by simp, Nat.zero_le _, ι1, F1, S1, [], ps, [], Ext.refl, s0, rfl, hc, rfl⟩, ?_⟩
  rintro i m H ⟨rfl, hi, ι, F, S, done, rest, ws, ex, sim, l, hcl, hdr⟩
  by_cases hlt : i < xs.length
  · have sb1 : Sub F1 H := ex.2.trans sim.sub
    refine .inr ⟨wp.goes i H hlt sb1, _, fun H' p' => ⟨xs.length - (i + 1), by omega, rfl, hlt, p'⟩, fun v H' y => ?_⟩
    obtain ⟨F3, x, e3, s3, hx, rx⟩ := wp.yields i H v H' hlt sb1 y _ _ _ ex.2 sim
    rw [List.drop_eq_getElem_cons hlt] at hcl
    have hx2 : xs[i] = x := by
      have := List.getElem?_eq_getElem hlt
      rw [hx] at this; cases this; rfl
    rw [hx2] at hcl
    obtain ⟨o, S3, zs, k1, k2, k3⟩ := compD_cons hcl
    unfold cTurnD at k1
    split at k1
    · rename_i ρ1 hg
      obtain ⟨t, S4, hct, k1⟩ := bind_ok k1
      have r3 : RepR K mg F3 (ι.onO D (.dK ws)) (wipeS ρ own) (L2.wipe σ own) := ((((hr.wipe2 own).mono ex).reloc (ι := ι) (ι' := ι.onO D (.dK ws)) rfl)).mono e3
      refine ⟨ι.onO D (.dK ws), F3, S, wipeS ρ own, x, ρ1, s3, r3, rx, hg, fun ι4 F4 σ4 H4 e4 s4 r4 z4 => ⟨z4.wipe hts, ?_⟩⟩
      refine ⟨ι4, F4, S, ρ1, t, S4, s4, r4, hct, fun ι5 F5 H5 e5 s5 => ?_⟩
      obtain ⟨ι5', rfl, ex5⟩ := (e3.trans (e4.trans e5)).offO
      cases t with
      | false =>
        simp only [Bool.false_eq_true, if_false] at k1 ⊢
        cases k1
        simp only at k3
        subst k3
        exact ⟨ι5', F5, S3, done, rest, ws, ex.trans ex5, s5, l.mono ex5.2, k2, hdr⟩
      | true =>
        simp only [if_true] at k1 ⊢
        obtain ⟨y, S5, hky, k1⟩ := bind_ok k1
        obtain ⟨z, S6, hez, k1⟩ := bind_ok k1
        cases y with
        | l n => cases k1
        | ls n => cases k1
        | v y =>
        cases z with
        | l n => cases k1
        | ls n => cases k1
        | v z =>
        replace k1 : (if keyOk y = true then Out.ok (some (y, z)) S6 else Out.bad) = .ok o S3 := k1
        split at k1
        case isFalse => cases k1
        rename_i hok
        cases k1
        simp only at k3
        subst k3
        refine ⟨ι5'.onO D (.dK ws), F5, S4, ρ1, .v y, S5, s5, r4.mono e5, hky, fun ι6 F6 v6 H6 e6 s6 r6 => ?_⟩
        obtain ⟨ι6', rfl, ex6⟩ := e6.offO
        refine ⟨ι6'.onO D (.dK ws), F6, S5, ρ1, .v z, S3, s6, (r4.mono e5).mono e6, hez, fun ι7 F7 v7 H7 e7 s7 r7 => ?_⟩
        obtain ⟨ι7', rfl, ex7⟩ := e7.offO
        have hw7 : ι7'.w D = none := by rw [ex7.1.2, ex6.1.2, ex5.1.2, ex.1.2]; exact hw
        obtain ⟨key, rfl⟩ := keyOk_some hok
        have hv6 := keyP_rep (show Rep K mg F6 (keyP key) v6 from r6)
        have exx := ex5.trans (ex6.trans ex7)
        refine ⟨ws, key, hv6, s7.atO.1, ?_, ι7', F7, S3, done ++ [(keyP key, z)], zs, L2.putK ws key v7, ex.trans exx, s7.reO hw7 _, by rw [putAll_snoc]; exact (l.mono exx.2).put r7, k2, by rw [List.append_assoc]; exact hdr⟩
        have h1 := l.length
        have h2 := congrArg List.length hdr
        have h4 := putAll_len done []
        rw [List.length_append] at h2
        simp only [List.length_cons, List.length_nil] at h2 h4
        show ws.length < 16777216
        have h3 : ps.length ≤ 16777216 := hlen
        omega
    · cases k1
  · have hie : i = xs.length := by omega
    subst hie
    rw [List.drop_length] at hcl
    obtain ⟨rfl, rfl⟩ := compD_nil hcl
    rw [List.append_nil] at hdr
    subst hdr
    exact .inl ⟨wp.stops H (ex.2.trans sim.sub), hd ι F H ws ex sim l⟩
theorem dict_end {ps : List (PV × PV)} {z : SV} {Q : VK} {F1 : Hp} {ι1 : Plc} {ws : List (L2.Key × V)} (hm : mkD ps S = .ok z S') (ex : Ext ι1 F1 ι F) (sim : Sim K mg (ι.onO D (.dK ws)) F S H) (hw : ι.w D = none) (l : RepD K mg F (putAll [] ps) ws)
    (q : ∀ ι' F' v H', Ext ι1 F1 ι' F' → Sim K mg ι' F' S' H' → RepS K mg F' ι' z v → Q v H') : Q (.ref D) H := by
  obtain ⟨h1, h2, h3⟩ := sim.atO
  have s := sim.offO hw
  unfold mkD at hm
  split at hm
  · cases hm
    obtain ⟨s1, e1⟩ := s.enterO (x := .dic (putAll [] ps)) h1 h2 h3 hw ⟨h2, ws, rfl, l⟩
    refine q _ _ _ _ (ex.trans e1) s1 ⟨D, ?_, rfl⟩
    show (ι.l ++ [D])[S.length]? = some D
    rw [← s.len]; simp
  · cases hm
theorem mkD_len {ps : List (PV × PV)} {z : SV} (h : mkD ps S = .ok z S') : ps.length ≤ line := by
  unfold mkD at h
  split at h
  · assumption
  · cases h
theorem dc_sound {own ts : List Nat} {g : PV → Slots → Option Slots} {it : IS} {c : Slots → Store → Out Bool} {k e : VS} {σ : L2.St} {H : Hp} {Q : VK} (hts : ∀ t ∈ ts, t ∈ own) (h : rdE K mg (sDcomp own g it c k e) σ H Q) :
    tDc (rdI K mg wk it) (rdG K mg wk g ts) (rdT K mg c) (rdE K mg k) (rdE K mg e) own σ H Q := by
  obtain ⟨ι, F, S, ρ, z, S', sim, r, hf, q⟩ := h
  obtain ⟨xs, S1, h1, hf⟩ := bind_ok hf
  obtain ⟨ys, S2, h2, hf⟩ := bind_ok hf
  refine ⟨ι, F, S, ρ, xs, S1, sim, r, h1, fun ι1 F1 H1 J e1 s1 wp => ?_⟩
  intro D hD
  obtain ⟨s2, hw⟩ := s1.newO hD (.dK [])
  exact dcomp_core wp hts s2 hw (r.mono e1) h2 (mkD_len hf) fun ι3 F3 H3 ws ex s3 l3 => dict_end hf (e1.trans ex) s3 (by rw [ex.1.2]; exact hw) l3 q
end
section
variable {X : Cx} {kx vx tg iter : Expr} {ifs : List Expr} {scope : Scope} {own : List (PySem.Str × Nat)} {pos : Pos} {ts1 : List Nat} {g : PV → Slots → Option Slots} {it : IS} {c : Slots → Store → Out Bool} {fk fv : VS}
theorem s_dcomp (hc : X.calm = true) (hN : X.N.Nodup) (ok : BlkOk X.N X.env.scope scope own) (hts : ∀ t ∈ ts1, t ∈ own.map (·.2)) (hi : PI X tg iter (rdI X.K X.mg wk it))
    (hg : ∀ (s : Shared) (H : Hp) (C : Addr) (cl : List (PySem.Str × Addr)) (fp : List Addr), PG (X.blk s H scope (compEnvC scope cl C X.env) fp) tg (rdG X.K X.mg wk g ts1)) (ht : ∀ (s : Shared) (H : Hp) (C : Addr) (cl : List (PySem.Str × Addr)) (fp : List Addr), PTs (X.blk s H scope (compEnvC scope cl C X.env) fp) ifs (rdT X.K X.mg c))
    (hk : ∀ (s : Shared) (H : Hp) (C : Addr) (cl : List (PySem.Str × Addr)) (fp : List Addr), PE (X.blk s H scope (compEnvC scope cl C X.env) fp) kx (rdE X.K X.mg fk))
    (he : ∀ (s : Shared) (H : Hp) (C : Addr) (cl : List (PySem.Str × Addr)) (fp : List Addr), PE (X.blk s H scope (compEnvC scope cl C X.env) fp) vx (rdE X.K X.mg fv)) (hs : ∀ x, foldedSetIterable iter X.env x = pure x) :
    PE X (.DictComp kx vx [⟨tg, iter, ifs, 0⟩] scope pos) (rdE X.K X.mg (sDcomp (own.map (·.2)) g it c fk fv)) :=
  pe_mono (pe_dc hc hN hi ok hg ht hk he hs) fun σ H Q h => dc_sound hts h
end
section
variable {X : Cx} {kx vx tg iter : Expr} {ifs : List Expr} {scope : Scope} {own : List (PySem.Str × Nat)} {pos spos py : Pos} {ts1 : List Nat} {g : PV → Slots → Option Slots} {it : IS} {c : Slots → Store → Out Bool} {fk fv : VS} {i : Nat} {y : PySem.Str}
theorem ps_setDc {wi : TI} {g : TG} {tt : TT} {tk tv : TE} (hc : X.calm = true) (hN : X.N.Nodup) (hy : X.N[i]? = some y) (hyl : X.env.scope.names.lookup y = some .local)
    (hsw : swapsWith (.DictComp kx vx [⟨tg, iter, ifs, 0⟩] scope pos) (some (.Name y py)) spos.line X.env = pure true) (hi : PI X tg iter wi) (ok : BlkOk X.N X.env.scope scope own)
    (hg : ∀ (s : Shared) (H : Hp) (C : Addr) (cl : List (PySem.Str × Addr)) (fp : List Addr), PG (X.blk s H scope (compEnvC scope cl C X.env) fp) tg g) (ht : ∀ (s : Shared) (H : Hp) (C : Addr) (cl : List (PySem.Str × Addr)) (fp : List Addr), PTs (X.blk s H scope (compEnvC scope cl C X.env) fp) ifs tt)
    (hk : ∀ (s : Shared) (H : Hp) (C : Addr) (cl : List (PySem.Str × Addr)) (fp : List Addr), PE (X.blk s H scope (compEnvC scope cl C X.env) fp) kx tk)
    (he : ∀ (s : Shared) (H : Hp) (C : Addr) (cl : List (PySem.Str × Addr)) (fp : List Addr), PE (X.blk s H scope (compEnvC scope cl C X.env) fp) vx tv) (hs : ∀ x, foldedSetIterable iter X.env x = pure x) :
    PS X (.Assign [.Name y py] (.DictComp kx vx [⟨tg, iter, ifs, 0⟩] scope pos) spos) (tAsg (tDc wi g tt tk tv (own.map (·.2))) (gName i)) := by
  refine ⟨fun pins s σ H D I h => ?_⟩
  rw [exec_Assign_Name_used _ _ _ _ hsw]
  refine wpAny_bind (wpAny_standAt (wpAny_bind ?_))
  show wpAny _ X.A (do let _ ← comprehension (.DictComp kx vx [⟨tg, iter, ifs, 0⟩] scope pos) scope X.env (firstIterPos [⟨tg, iter, ifs, 0⟩] pos) newDict false (eval iter X.env) (some (assign (.Name y py) X.env))) _ _ s
  have h : tDc wi g tt tk tv (own.map (·.2)) σ H (fun x H1 => gName i x σ H1 D.nx) := h
  refine wpAny_bind (thn (dc_core (Qf := fun _ s' => SP X pins D .next s') hc hN I hi ok hg ht hk he hs h fun L C s' m H' I' q hn f => ?_) fun _ s' hq => wpAny_pure (wpAny_pure hq))
  show wpAny _ _ (assign (.Name y py) X.env (.ref L)) _ _ _
  refine wpAny_assign_Name (store_ok2 (v := V.ref L) I' hN hy (.inl hyl) rfl (fun s2 I2 ⟨a, sb, ha⟩ => ?_) (.inr hyl))
  obtain ⟨f0, f1, f2, f3, f4, f5⟩ := f
  have haC : C ≠ a := by
    rcases ha with z | z
    · rw [z]; exact f1
    · exact fun e => f4 y a z e.symm
  refine ⟨m, hn.sameBut sb haC, fun h3 sb3 => ?_⟩
  exact ⟨_, H', I2.turned (t' := s2.toks) (fun b o hb e => (sb3.2 b hb).trans e) f0 f1 f3 f4 f5, q⟩
theorem sw_trueD {gs : List Comprehension} {l : Nat} {env : Env} (hk : env.scope.kind = .function) (hy : env.scope.names.lookup y = some .local) (hl : (py.line == pos.line) = true)
    (ha : (scope.names.any fun (n, k) => n == y && (k == .local || k == .cell)) = false) : swapsWith (.DictComp kx vx gs scope pos) (some (.Name y py)) l env = pure true := by
  have ky : env.kindOf y = some .local := hy
  have hb : env.blockKind = .function := by unfold Env.blockKind; rw [hk]; rfl
  unfold swapsWith
  simp only [hb, ky, ha, Expr.pos, hl]
  rfl
theorem sw_cellD {gs : List Comprehension} {l : Nat} {env : Env} (hy : env.scope.names.lookup y = some .cell) : swapsWith (.DictComp kx vx gs scope pos) (some (.Name y py)) l env = pure false := by
  have ky : env.kindOf y = some .cell := hy
  have e : (NameKind.cell == NameKind.local) = false := by decide
  unfold swapsWith
  simp [ky, e]
theorem s_setDcomp (hc : X.calm = true) (hN : X.N.Nodup) (hy : X.N[i]? = some y) (hyl : X.env.scope.names.lookup y = some .local)
    (hsw : swapsWith (.DictComp kx vx [⟨tg, iter, ifs, 0⟩] scope pos) (some (.Name y py)) spos.line X.env = pure true) (ok : BlkOk X.N X.env.scope scope own) (hts : ∀ t ∈ ts1, t ∈ own.map (·.2)) (hi : PI X tg iter (rdI X.K X.mg wk it))
    (hg : ∀ (s : Shared) (H : Hp) (C : Addr) (cl : List (PySem.Str × Addr)) (fp : List Addr), PG (X.blk s H scope (compEnvC scope cl C X.env) fp) tg (rdG X.K X.mg wk g ts1)) (ht : ∀ (s : Shared) (H : Hp) (C : Addr) (cl : List (PySem.Str × Addr)) (fp : List Addr), PTs (X.blk s H scope (compEnvC scope cl C X.env) fp) ifs (rdT X.K X.mg c))
    (hk : ∀ (s : Shared) (H : Hp) (C : Addr) (cl : List (PySem.Str × Addr)) (fp : List Addr), PE (X.blk s H scope (compEnvC scope cl C X.env) fp) kx (rdE X.K X.mg fk))
    (he : ∀ (s : Shared) (H : Hp) (C : Addr) (cl : List (PySem.Str × Addr)) (fp : List Addr), PE (X.blk s H scope (compEnvC scope cl C X.env) fp) vx (rdE X.K X.mg fv)) (hs : ∀ x, foldedSetIterable iter X.env x = pure x) :
    PS X (.Assign [.Name y py] (.DictComp kx vx [⟨tg, iter, ifs, 0⟩] scope pos) spos) (rdS X.K X.mg (sSet i (sDcomp (own.map (·.2)) g it c fk fv))) :=
  ps_mono (ps_setDc hc hN hy hyl hsw hi ok hg ht hk he hs) fun D σ H h => dc_sound hts (set_fin h)
end
inductive DP (X : Cx) : List Expr → List Expr → LS → Prop
  | nil : DP X [] [] sNil
  | cons {k v : Expr} {ks vs : List Expr} {fk fv : VS} {ts : LS} (hk : PE X k (rdE X.K X.mg fk)) (hv : PE X v (rdE X.K X.mg fv)) (h : DP X ks vs ts) : DP X (k :: ks) (v :: vs) (sCons fk (sCons fv ts))
section
variable {X : Cx} {ks vs : List Expr} {ts : LS} {pos : Pos}
theorem DP.len (h : DP X ks vs ts) : ks.length = vs.length := by
  induction h with
  | nil => rfl
  | cons _ _ _ ih => simp [ih]
theorem DP.trs (h : DP X ks vs ts) : ∃ trs, PPs X pos (ks.map some) vs trs ∧ ∀ {ι F S ρ xs S' σ H ps} {Q : List (V × V) → Hp → Prop}, Sim X.K X.mg ι F S H → RepR X.K X.mg F ι ρ σ → ts ρ S = .ok xs S' → pairUp xs = some ps →
    (∀ ι' F' H' kvs, Ext ι F ι' F' → Sim X.K X.mg ι' F' S' H' → RepD X.K X.mg F' ps kvs → Q (kvs.map fun kv => (kV kv.1, kv.2)) H') → tPairs trs σ H Q := by
  induction h with
  | nil =>
    refine ⟨[], pps_nil, fun {ι F S ρ xs S' σ H ps Q} sim r hf hp q => ?_⟩
    cases hf
    cases hp
    exact q _ _ _ [] Ext.refl sim rfl
  | @cons k v ks vs fk fv ts hk hv h ih =>
    obtain ⟨trs, hP, ht⟩ := ih
    refine ⟨_, pps_cons hk hv hP, fun {ι F S ρ xs S' σ H ps Q} sim r hf hp q => ?_⟩
    obtain ⟨x, S1, h1, hf⟩ := bind_ok hf
    obtain ⟨ys, S2, hf2, hf⟩ := bind_ok hf
    obtain ⟨y, S3, h3, hf2⟩ := bind_ok hf2
    obtain ⟨zs, S4, h4, hf2⟩ := bind_ok hf2
    cases hf2
    cases hf
    cases x with
    | l n => simp [pairUp] at hp
    | ls n => simp [pairUp] at hp
    | v x =>
      cases y with
      | l n => simp [pairUp] at hp
      | ls n => simp [pairUp] at hp
      | v y =>
        unfold pairUp at hp
        split at hp
        · rename_i hok
          simp only [Option.map_eq_some_iff] at hp
          obtain ⟨ps', hp', rfl⟩ := hp
          refine ⟨ι, F, S, ρ, .v x, S1, sim, r, h1, fun ι1 F1 v1 H1 e1 s1 r1 => ?_⟩
          refine ⟨ι1, F1, S1, ρ, .v y, S3, s1, r.mono e1, h3, fun ι2 F2 v2 H2 e2 s2 r2 => ?_⟩
          refine ht s2 (r.mono (e1.trans e2)) h4 hp' fun ι3 F3 H3 kvs e3 s3 rd => ?_
          obtain ⟨key, rfl⟩ := keyOk_some hok
          have hv1 := keyP_rep (show Rep X.K X.mg F1 (keyP key) v1 from r1)
          subst hv1
          exact q _ _ _ ((key, v2) :: kvs) ((e1.trans e2).trans e3) s3 ⟨key, v2, kvs, rfl, rfl, Rep.mono e3.2 r2, rd⟩
        · cases hp
theorem RepD.puts {K : PySem.W.Frag} {mg : PySem.Str → Option Value} {F : Hp} : ∀ {ps : List (PV × PV)} {kvs : List (L2.Key × V)} {a : List (PV × PV)} {b : List (L2.Key × V)}, RepD K mg F ps kvs → RepD K mg F a b → RepD K mg F (putAll a ps) (mergeK b kvs)
  | [], _, a, b, r, l => by cases r; exact l
  | (k, x) :: ps, _, a, b, ⟨k', v, t, e1, e2, r1, r2⟩, l => by
    subst e1 e2
    exact RepD.puts (ps := ps) (kvs := t) r2 (l.put r1)
theorem s_dicd (h : DP X ks vs ts) (h0 : ks ≠ []) (h15 : ks.length ≤ 15) : PE X (.Dict (ks.map some) vs pos) (rdE X.K X.mg (sDicd ts)) := by
  obtain ⟨trs, hP, ht⟩ := h.trs (pos := pos)
  refine pe_ofV (pe_disp hP (by simp) (by rw [List.length_map]; exact h.len) (by simpa using h0) (by rw [List.length_map]; exact h15)) fun ι F S ρ y S' σ H Q sim r hf q => ?_
  obtain ⟨xs, S1, h1, hf⟩ := bind_ok hf
  unfold dispK at hf
  split at hf
  · rename_i ps hp
    split at hf
    · rename_i hl
      intro D hD
      obtain ⟨s2, hw⟩ := sim.newO hD (.dK [])
      have r2 : RepR X.K X.mg F (ι.onO D (.dK [])) ρ σ := r.reloc (ι := ι) (ι' := ι.onO D (.dK [])) rfl
      refine ht s2 r2 h1 hp fun ι3 F3 H3 kvs e3 s3 rd => ?_
      obtain ⟨ι3', rfl, ex⟩ := e3.offO
      refine ⟨s3.atO.1, kvs, rfl, by rw [← rd.length]; exact hl.1, ?_⟩
      have hw3 : ι3'.w D = none := by rw [ex.1.2]; exact hw
      exact dict_end hf ex (s3.reO hw3 (.dK (mergeK [] kvs))) hw3 (RepD.puts rd (show RepD X.K X.mg F3 [] [] from rfl)) q
    · cases hf
  · cases hf
end
def putV : List Nat → List V → L2.St → Option L2.St
  | [], [], σ => some σ
  | i :: is, v :: vs, σ => putV is vs (σ.set i (some v))
  | _, _, _ => none
theorem putV_ok {K : PySem.W.Frag} {mg : PySem.Str → Option Value} {F : Hp} {ι : Plc} : ∀ {is : List Nat} {xs : List SV} {vs : List V} {ρ ρ1 : Slots} {σ : L2.St}, RepR K mg F ι ρ σ → RepSs K mg F ι xs vs → setAll is xs ρ = some ρ1 → ∃ σ1, putV is vs σ = some σ1 ∧ RepR K mg F ι ρ1 σ1
  | [], [], vs, ρ, ρ1, σ, r, l, h => by
    cases l
    simp only [setAll, Option.some.injEq] at h
    subst h
    exact ⟨σ, rfl, r⟩
  | i :: is, x :: xs, vs, ρ, ρ1, σ, r, ⟨v, t, e, r1, l⟩, h => by
    subst e
    exact putV_ok (is := is) (xs := xs) (vs := t) (r.set r1 i) l h
  | [], _ :: _, _, _, _, _, _, _, h => by simp [setAll] at h
  | _ :: _, [], _, _, _, _, _, _, h => by simp [setAll] at h
inductive NamesOk (X : Cx) : List Expr → List Nat → Prop
  | nil : NamesOk X [] []
  | cons {x : PySem.Str} {p : Pos} {es : List Expr} {i : Nat} {is : List Nat} (hi : X.N[i]? = some x) (hx : Loc X.env.scope x) (hf : X.fn x = true ∨ X.env.scope.names.lookup x = some .local) (h : NamesOk X es is) : NamesOk X (.Name x p :: es) (i :: is)
section
variable {X : Cx} {es ns : List Expr} {is : List Nat} {pos pt pt2 : Pos} {kt k2 : Nat} {ts : LS}
theorem NamesOk.star (h : NamesOk X ns is) : ∀ e ∈ ns, noStar e = true := by
  induction h with
  | nil => intro e he; cases he
  | cons _ _ _ _ ih =>
    intro e he
    rcases List.mem_cons.mp he with rfl | he
    · rfl
    · exact ih e he
theorem NamesOk.len (h : NamesOk X ns is) : ns.length = is.length := by
  induction h with
  | nil => rfl
  | cons _ _ _ _ ih => simp [ih]
theorem pgs_names (hN : X.N.Nodup) (h : NamesOk X ns is) : PGs X ns (fun vs σ H Q => ∃ σ1, putV is vs σ = some σ1 ∧ Q σ1 H) := by
  induction h with
  | nil =>
    refine pgs_mono pgs_nil fun v σ H Q h => ?_
    obtain ⟨σ1, h1, q⟩ := h
    cases v with
    | nil => cases h1; exact ⟨rfl, q⟩
    | cons v vs => cases h1
  | @cons x p es i is hi hx hf h ih =>
    refine pgs_mono (pgs_cons (pg_name hN hi hx hf) ih (by rw [assign_one rfl]; rfl)) fun v σ H Q h => ?_
    obtain ⟨σ1, h1, q⟩ := h
    cases v with
    | nil => cases h1
    | cons v vs => exact ⟨v, vs, rfl, σ1, h1, q⟩
theorem s_parG (hsmall : ns.length ≤ 1000) (hc : X.calm = true) (hN : X.N.Nodup) (hn : NamesOk X ns is) (ha : PA X es (rdA X.K X.mg ts)) (hs : swapsWithSole [.Tuple ns kt pt] (.Tuple es k2 pt2) pos.line X.env = pure false) (hw : swappedStores [.Tuple ns kt pt] (.Tuple es k2 pt2) X.env = pure none) :
    PS X (.Assign [.Tuple ns kt pt] (.Tuple es k2 pt2) pos) (rdS X.K X.mg (sPar is ts)) := by
  have hl := assign_len X.env hn.star
  refine ps_mono (ps_asg (pe_tup ha) (pg_tup hc (pgs_names hN hn) hl.1 hl.2) hs hw rfl) fun D σ H h => ?_
  obtain ⟨ι, F, S, ρ, r, S', sim, rr, hf, q⟩ := h
  obtain ⟨xs, S1, h1, hf⟩ := bind_ok hf
  split at hf
  · rename_i ρ1 hset
    cases hf
    refine ⟨ι, F, S, ρ, xs, S', sim, rr, h1, fun ι1 F1 vs H1 e1 s1 r1 => ?_⟩
    obtain ⟨σ1, g1, g2⟩ := putV_ok (rr.mono e1) r1 hset
    have hlen : vs.length = is.length := by
      have : ∀ (is : List Nat) (vs : List V) (σ σ1 : L2.St), putV is vs σ = some σ1 → vs.length = is.length := by
        intro is
        induction is with
        | nil => intro vs σ σ1 h; cases vs with | nil => rfl | cons v vs => cases h
        | cons i is ih => intro vs σ σ1 h; cases vs with | nil => cases h | cons v vs => simpa using ih _ _ _ h
      exact this _ _ _ _ g1
    have hsm : vs.length ≤ sizeLine := by
      have h2 := hn.len
      rw [hlen, ← h2]
      exact Nat.le_trans (hsmall) (by decide)
    refine ⟨hsm, fun p hp => ?_⟩
    obtain ⟨s2, e2⟩ := s1.newF (o := .tup vs) hp
    refine ⟨p, vs, rfl, .inl (.inl upd_same), by rw [hlen, ← hn.len], σ1, g1, ?_⟩
    exact q _ _ _ (e1.trans e2) s2 _ (g2.mono e2)
  · cases hf
end
end FW

namespace FW
open PySem PySem.Spec PyProof.Rows L2 RZ
section
variable {X : Cx} {a b : Expr} {p p2 q pos : Pos} {fa fb : VS}
theorem rng_rep {K : PySem.W.Frag} {mg : PySem.Str → Option Value} {F : Hp} (i j : Int) : RepL K mg F (rng i j) (rgV i j) := by
  have e1 : rng i j = ((List.range (j - i).toNat).map fun (k : Nat) => i + (k : Int)).map PV.int := by unfold rng; rw [List.map_map]; rfl
  have e2 : rgV i j = ((List.range (j - i).toNat).map fun (k : Nat) => i + (k : Int)).map V.int := by unfold rgV; rw [List.map_map]; rfl
  rw [e1, e2]
  exact RepL.ofInts _
theorem rgOk_of {i j : Int} (h : (rngOk j && rngOk i && rngOk (-i) && rngOk (-j)) = true) : RgOk i j := by
  simp only [rngOk, Bool.and_eq_true, decide_eq_true_eq] at h
  obtain ⟨⟨⟨h1, h2⟩, h3⟩, h4⟩ := h
  exact ⟨by omega, by omega, by omega, by omega, by omega⟩
theorem bRange_inv {f : List PV → Store → Out SV} {x y z : SV} {S S' : Store} (h : bRange f x y S = .ok z S') : ∃ i j, x = .v (.int i) ∧ y = .v (.int j) ∧ RgOk i j ∧ f (rng i j) S = .ok z S' := by
  unfold bRange at h
  split at h
  · rename_i i j
    split at h
    · rename_i hok
      exact ⟨i, j, rfl, rfl, rgOk_of hok, h⟩
    · cases h
  · cases h
theorem s_listRg1 {m : Bool} (hc : X.calm = true) (hg : Gl X "list") (hm : X.mg "list" = none) (hg2 : Gl X "range") (hm2 : X.mg "range" = none) (ha : PE X a (rdE X.K X.mg fa)) (hs : noStar a = true) :
    PE X (.Call (.Name "list" p) [.Call (.Name "range" p2) [a] [] q] [] pos) (rdE X.K X.mg fun ρ S => (fa ρ S).bind fun x S1 => bRange (mkL m) (.v (.int 0)) x S1) := by
  refine pe_mono (pe_listRg hc hg hm (prg_1 hg2 hm2 ha (star_one hs [] X.env))) fun σ H Q h => ?_
  obtain ⟨ι, F, S, ρ, z, S', sim, r, hz, fin⟩ := h
  obtain ⟨x, S1, h1, hz⟩ := bind_ok hz
  obtain ⟨i, j, ei, rfl, ok, hz⟩ := bRange_inv hz
  cases ei
  refine ⟨ι, F, S, ρ, _, S1, sim, r, h1, fun ι1 F1 v H1 e1 s1 r1 => ?_⟩
  cases r1
  refine ⟨j, rfl, ok, ?_⟩
  exact (fin_mkL s1 (rng_rep 0 j) hz fun ι2 F2 u H2 e2 s2 r2 => fin _ _ _ _ (e1.trans e2) s2 r2).2
theorem s_listRg2 {m : Bool} (hc : X.calm = true) (hg : Gl X "list") (hm : X.mg "list" = none) (hg2 : Gl X "range") (hm2 : X.mg "range" = none) (ha : PE X a (rdE X.K X.mg fa)) (hs : noStar a = true) (hb : PE X b (rdE X.K X.mg fb)) (hs2 : noStar b = true) :
    PE X (.Call (.Name "list" p) [.Call (.Name "range" p2) [a, b] [] q] [] pos) (rdE X.K X.mg fun ρ S => (fa ρ S).bind fun x S1 => (fb ρ S1).bind fun y S2 => bRange (mkL m) x y S2) := by
  refine pe_mono (pe_listRg hc hg hm (prg_2 hg2 hm2 ha hb (star_one hs [b] X.env) (star_one hs2 [] X.env) (star_all q X.env (es := [b]) fun e he => by rw [List.mem_singleton] at he; subst he; exact hs2))) fun σ H Q h => ?_
  obtain ⟨ι, F, S, ρ, z, S', sim, r, hz, fin⟩ := h
  obtain ⟨x, S1, h1, hz⟩ := bind_ok hz
  obtain ⟨y, S2, h2, hz⟩ := bind_ok hz
  obtain ⟨i, j, rfl, rfl, ok, hz⟩ := bRange_inv hz
  refine ⟨ι, F, S, ρ, _, S1, sim, r, h1, fun ι1 F1 v H1 e1 s1 r1 => ⟨ι1, F1, S1, ρ, _, S2, s1, r.mono e1, h2, fun ι2 F2 w H2 e2 s2 r2 => ?_⟩⟩
  cases r1
  cases r2
  refine ⟨i, j, rfl, rfl, ok, ?_⟩
  exact (fin_mkL s2 (rng_rep i j) hz fun ι3 F3 u H3 e3 s3 r3 => fin _ _ _ _ (e1.trans (e2.trans e3)) s3 r3).2
theorem pe_tupRgN {e : Expr} {te : L2.St → Hp → (Int → Int → Hp → Prop) → Prop} {p pos : Pos} (hc : X.calm = true) (hg : Gl X "tuple") (hm : X.mg "tuple" = none) (he : PRg X e te) (na : starEach [e] X.env = (false, eval e X.env) :: starEach [] X.env := by rfl) :
    PE X (.Call (.Name "tuple" p) [e] [] pos) (fun σ H Q => te σ H fun a b H1 => RgOk a b ∧ NewT H1 Q (rgV a b)) := by
  refine ⟨fun pins s σ H Q I h => ?_⟩
  refine Call_ (ld_blt I hg hm boot_tuple (PyProof.Rows.callWith_type1 (args_cons (thn (he pins s σ H _ I h) fun x s1 ⟨r, a, b, t, u, v, H1, ex, hr, I1, ok, q⟩ => args_nil ?_) na) na))
  subst ex
  obtain ⟨b1, b2, b3, b4, b5⟩ := ok
  refine call_tuple_range (n := (b - a).toNat) (I1.ok.hd hc) hr (small_one b1 b2 b3 b4) (rangeSize_nat a b) b5 fun h' tk acc hk hi => ?_
  have I2 : Inv X pins σ H1 { s1 with heap := h', toks := tk } := I1.kept hk
  refine Inv.newTup (s := { s1 with toks := tk }) (tk := tk) (its := acc.toList) I2 (vals_rg hi) ?_ q ?_
  · rw [rgV_length, sizeLine_eq]; omega
  · rw [Array.toArray_toList]
theorem s_tupRg1 (hc : X.calm = true) (hg : Gl X "tuple") (hm : X.mg "tuple" = none) (hg2 : Gl X "range") (hm2 : X.mg "range" = none) (ha : PE X a (rdE X.K X.mg fa)) (hs : noStar a = true) :
    PE X (.Call (.Name "tuple" p) [.Call (.Name "range" p2) [a] [] q] [] pos) (rdE X.K X.mg fun ρ S => (fa ρ S).bind fun x S1 => bRange mkT (.v (.int 0)) x S1) := by
  refine pe_mono (pe_tupRgN hc hg hm (prg_1 hg2 hm2 ha (star_one hs [] X.env))) fun σ H Q h => ?_
  obtain ⟨ι, F, S, ρ, z, S', sim, r, hz, fin⟩ := h
  obtain ⟨x, S1, h1, hz⟩ := bind_ok hz
  obtain ⟨i, j, ei, rfl, ok, hz⟩ := bRange_inv hz
  cases ei
  refine ⟨ι, F, S, ρ, _, S1, sim, r, h1, fun ι1 F1 v H1 e1 s1 r1 => ?_⟩
  cases r1
  refine ⟨j, rfl, ok, ?_⟩
  obtain ⟨_, go, _⟩ := fin_mkT s1 (rng_rep 0 j) hz fun ι2 F2 u H2 e2 s2 r2 => fin _ _ _ _ (e1.trans e2) s2 r2
  exact go
theorem s_tupRg2 (hc : X.calm = true) (hg : Gl X "tuple") (hm : X.mg "tuple" = none) (hg2 : Gl X "range") (hm2 : X.mg "range" = none) (ha : PE X a (rdE X.K X.mg fa)) (hs : noStar a = true) (hb : PE X b (rdE X.K X.mg fb)) (hs2 : noStar b = true) :
    PE X (.Call (.Name "tuple" p) [.Call (.Name "range" p2) [a, b] [] q] [] pos) (rdE X.K X.mg fun ρ S => (fa ρ S).bind fun x S1 => (fb ρ S1).bind fun y S2 => bRange mkT x y S2) := by
  refine pe_mono (pe_tupRgN hc hg hm (prg_2 hg2 hm2 ha hb (star_one hs [b] X.env) (star_one hs2 [] X.env) (star_all q X.env (es := [b]) fun e he => by rw [List.mem_singleton] at he; subst he; exact hs2))) fun σ H Q h => ?_
  obtain ⟨ι, F, S, ρ, z, S', sim, r, hz, fin⟩ := h
  obtain ⟨x, S1, h1, hz⟩ := bind_ok hz
  obtain ⟨y, S2, h2, hz⟩ := bind_ok hz
  obtain ⟨i, j, rfl, rfl, ok, hz⟩ := bRange_inv hz
  refine ⟨ι, F, S, ρ, _, S1, sim, r, h1, fun ι1 F1 v H1 e1 s1 r1 => ⟨ι1, F1, S1, ρ, _, S2, s1, r.mono e1, h2, fun ι2 F2 w H2 e2 s2 r2 => ?_⟩⟩
  cases r1
  cases r2
  refine ⟨i, j, rfl, rfl, ok, ?_⟩
  obtain ⟨_, go, _⟩ := fin_mkT s2 (rng_rep i j) hz fun ι3 F3 u H3 e3 s3 r3 => fin _ _ _ _ (e1.trans (e2.trans e3)) s3 r3
  exact go
def rgK : BI → Option Nat
  | .listRange1 => some 1
  | .listRange2 => some 2
  | _ => none
def rgT : BI → Option Nat
  | .tupleRange1 => some 1
  | .tupleRange2 => some 2
  | _ => none
end
end FW

namespace FW
open PySem PySem.Spec PyProof.Rows L2 RZ
section
variable {X : Cx} {a b c e f d : Expr} {es : List Expr} {pos p apos cpos mpos : Pos} {fa fb fc fd : VS} {ts : LS}
theorem upd_upd {H : Hp} {p : Addr} {o o' : HO} : upd (upd H p o) p o' = upd H p o' := by
  funext q
  by_cases h : q = p
  · subst h; rw [upd_same, upd_same]
  · rw [upd_ne h, upd_ne h, upd_ne h]
theorem s_dicP : PE X (.Dict [] [] pos) (rdE X.K X.mg sDicP) := by
  refine ⟨fun pins s σ H Q I h => ?_⟩
  obtain ⟨ι, F, S, ρ, y, S', sim, r, hf, q⟩ := h
  unfold sDicP at hf
  cases hf
  refine thn (pe_dnewK.run pins s σ H (fun v H1 => ∃ p, H p = none ∧ v = .ref p ∧ H1 = upd H p (.dK [])) I (fun p hp => ⟨p, hp, rfl, rfl⟩)) fun u s1 ⟨v, H1, I1, rv, p, hp, e1, e2⟩ => ?_
  subst e1 e2
  obtain ⟨od, I2⟩ := I1.lock (d := p) upd_same trivial
  rw [upd_upd] at I2
  obtain ⟨s2, e2⟩ := sim.newF (o := .frz od (.dK [])) hp
  exact ⟨.ref p, _, I2, rv, q _ _ _ _ e2 s2 ⟨p, od, [], rfl, upd_same, rfl, rfl, rfl⟩⟩
theorem keysI_of {prog : Program} {w : World} : ∀ {l : List DictEntry} {ks vs : List PV}, KeysI l ks vs → ∀ e ∈ l, ∃ k, (PySem.intKind prog w).is k e.key = true ∧ e.hash = (PySem.intKind prog w).hash k
  | [], _, _, _, _, h => by cases h
  | e :: r, _, _, ⟨k, v, t, t', ks', vs', rfl, rfl, h1, h2, h3, h4⟩, x, hx => by
    rcases List.mem_cons.mp hx with rfl | hx
    · exact ⟨k, by rw [h1]; show Value.isInt k (.int k t) = true; simp [Value.isInt], h2⟩
    · exact keysI_of h4 x hx
theorem keysI_find {i : Int} : ∀ {l : List DictEntry} {ks vs : List PV}, KeysI l ks vs → match keyGet (.int i) (ks.zip vs) with
    | some y => ∃ (v : Int) (t : Tok), y = .int v ∧ (l.find? fun e => Value.isInt i e.key).map (·.val) = some (.int v t)
    | none => (l.find? fun e => Value.isInt i e.key).map (·.val) = none
  | [], _, _, ⟨rfl, rfl⟩ => rfl
  | e :: r, _, _, ⟨k, v, t, t', ks', vs', rfl, rfl, h1, h2, h3, h4⟩ => by
    have ih := keysI_find (i := i) h4
    have hk : Value.isInt i e.key = decide (k = i) := by rw [h1]; simp only [Value.isInt]; by_cases h : k = i <;> simp [h]
    unfold keyGet at ih ⊢
    by_cases h : k = i
    · subst h
      rw [List.find?_cons_of_pos (by rw [hk]; simp), List.zip_cons_cons, List.find?_cons_of_pos (by simp [keyEq])]
      exact ⟨v, t', rfl, by rw [Option.map_some, h3]⟩
    · rw [List.find?_cons_of_neg (by rw [hk]; simp [h]), List.zip_cons_cons, List.find?_cons_of_neg (by simp [keyEq, h])]
      exact ih
theorem keysI_by {prog : Program} {w : World} {es : Array DictEntry} {ks vs : List PV} {i : Int} (h : KeysI es.toList ks vs) : (keyGet (.int i) (ks.zip vs)).isSome = (findBy (PySem.intKind prog w).is es i).isSome ∧
    ∀ y, keyGet (.int i) (ks.zip vs) = some y → ∃ (v : Int) (t : Tok), y = .int v ∧ findBy (PySem.intKind prog w).is es i = some (.int v t) := by
  have f := keysI_find (i := i) h
  have e : findBy (PySem.intKind prog w).is es i = (es.toList.find? fun e => Value.isInt i e.key).map (·.val) := by
    obtain ⟨l⟩ := es
    unfold findBy
    rw [List.find?_toArray]
    rfl
  rw [e]
  cases hk : keyGet (.int i) (ks.zip vs) with
  | none => rw [hk] at f; exact ⟨by rw [show (Option.map (fun x => x.val) (List.find? (fun e => Value.isInt i e.key) es.toList) : Option Value) = none from f]; rfl, fun y z => by cases z⟩
  | some y =>
    rw [hk] at f
    obtain ⟨v, t, rfl, f⟩ := f
    exact ⟨by rw [f]; rfl, fun y z => by cases z; exact ⟨v, t, rfl, f⟩⟩
theorem globD_map {K : PySem.W.Frag} {prog : Program} {w : World} {h : Heap} {d : Addr} {es : Array DictEntry} {m : Nat} {ks vs : List PV} (X : K.In h) (hl : K.lookup d = some ⟨.type "dict", none, .dict es m, #[]⟩) (hk : KeysI es.toList ks vs) :
    h.MapOf (PySem.intKind prog w) d (fun i => findBy (PySem.intKind prog w).is es i) :=
  ⟨_, es, m, X _ _ hl, ⟨rfl, rfl, rfl⟩, rfl, fun e he => keysI_of hk e (Array.mem_toList_iff.mpr he), fun _ => rfl⟩
theorem op_gin {neg : Bool} {d : Addr} {es : Array DictEntry} {m : Nat} {ks vs : List PV} (hl : X.K.lookup d = some ⟨.type "dict", none, .dict es m, #[]⟩) (low : (d == sysModules) = false) (hk : KeysI es.toList ks vs) :
    OpR X (compareOp (if neg = true then .NotIn else .In)) (fun x y H Q => ∃ i : Int, x = .int i ∧ y = .ref d ∧ Q (.bl (xor neg (keyGet (.int i) (ks.zip vs)).isSome)) H) := by
  intro pins s σ H x y v u Q I rx ry h
  obtain ⟨i, rfl, rfl, q⟩ := h
  obtain ⟨t, rfl⟩ := rx
  cases ry
  have hi : (PySem.intKind X.prog X.w).is i (.int i t) = true := by show Value.isInt i (.int i t) = true; simp [Value.isInt]
  have e := (keysI_by (prog := X.prog) (w := X.w) (i := i) hk).1
  cases neg with
  | true => exact wpAny_notIn_of hi low (globD_map I.kIn hl hk) ⟨.bl _, H, I.tok _, rfl, by rw [e] at q; simpa using q⟩
  | false => exact wpAny_in_of hi low (globD_map I.kIn hl hk) ⟨.bl _, H, I.tok _, rfl, by rw [e] at q; simpa using q⟩
theorem s_gin {neg : Bool} {n : PySem.Str} {ks vs : List PV} (hg : Gl X n) (h : GlobD X.K X.mg n ks vs) (hd : (n == ("__debug__" : PySem.Str)) = false) (ha : PE X a (rdE X.K X.mg fa)) (hm : behindInMarks (if neg = true then .NotIn else .In) (.Name n p) = false) :
    PE X (.Compare a [if neg = true then .NotIn else .In] [.Name n p] pos) (rdE X.K X.mg (ofT (sGin neg ks vs fa)).v) := by
  obtain ⟨d, es, m, h1, h2, h3, h4⟩ := h
  refine pe_ofV (pe_cmpR (op_gin (neg := neg) h2 h3 h4) ha (pe_glob (v := .ref d) hg h1 rfl hd) hm) fun ι F S ρ z S' σ H Q sim r hf q => ?_
  obtain ⟨bb, S0, hf, hf0⟩ := bind_ok hf
  cases hf0
  obtain ⟨x, S1, k1, hf⟩ := bind_ok hf
  unfold ginOp at hf
  split at hf
  · rename_i i
    cases hf
    refine ⟨ι, F, S, ρ, _, _, sim, r, k1, fun ι1 F1 v H1 e1 s1 r1 => ?_⟩
    cases r1
    exact ⟨i, rfl, rfl, q _ _ _ _ e1 s1 rfl⟩
  · cases hf
theorem s_gin_t {neg : Bool} {n : PySem.Str} {ks vs : List PV} (hg : Gl X n) (h : GlobD X.K X.mg n ks vs) (hd : (n == ("__debug__" : PySem.Str)) = false) (ha : PE X a (rdE X.K X.mg fa)) (hm : behindInMarks (if neg = true then .NotIn else .In) (.Name n p) = false) :
    PT X (.Compare a [if neg = true then .NotIn else .In] [.Name n p] pos) (rdT X.K X.mg (sGin neg ks vs fa)) := by
  obtain ⟨d, es, m, h1, h2, h3, h4⟩ := h
  refine pt_ofT (pt_cmpR (op_gin (neg := neg) h2 h3 h4) ha (pe_glob (v := .ref d) hg h1 rfl hd) hm) fun ι F S ρ k S' σ H Q sim r hf q => ?_
  obtain ⟨x, S1, k1, hf⟩ := bind_ok hf
  unfold ginOp at hf
  split at hf
  · rename_i i
    cases hf
    refine ⟨ι, F, S, ρ, _, _, sim, r, k1, fun ι1 F1 v H1 e1 s1 r1 => ?_⟩
    cases r1
    exact ⟨i, rfl, rfl, _, rfl, q _ _ _ e1 s1⟩
  · cases hf
theorem s_gidx {n : PySem.Str} {ks vs : List PV} (hg : Gl X n) (h : GlobD X.K X.mg n ks vs) (hd : (n == ("__debug__" : PySem.Str)) = false) (ha : PE X a (rdE X.K X.mg fa)) (hp : plainIx a = true) :
    PE X (.Subscript (.Name n p) a pos) (rdE X.K X.mg (sGidx ks vs fa)) := by
  obtain ⟨d, es, m, h1, h2, h3, h4⟩ := h
  refine ⟨fun pins s σ H Q I hw => ?_⟩
  obtain ⟨ι, F, S, ρ, z, S', sim, r, hf, q⟩ := hw
  obtain ⟨x, S1, k1, hf⟩ := bind_ok hf
  unfold gidxOp at hf
  split at hf
  case h_2 => cases hf
  rename_i i
  split at hf
  case h_2 => cases hf
  rename_i y hy
  cases hf
  obtain ⟨v, t, rfl, hv⟩ := (keysI_by (prog := X.prog) (w := X.w) (i := i) h4).2 y hy
  refine subD_of PySem.F.slot_dict_getitem.lookup (plainIx_ok hp) (thn ((pe_glob (pos := p) (v := .ref d) hg h1 rfl hd).run pins s σ H (fun x H1 => x = .ref d ∧ H1 = H) I ⟨rfl, rfl⟩) fun u s1 ⟨x, H1, I1, rx, e1, e2⟩ => ?_)
  subst e1 e2
  obtain rfl : u = Value.ref d := rx
  refine thn (ha.run pins s1 σ _ (fun x H2 => x = .int i ∧ Q (.int v) H2) I1 ⟨ι, F, S, ρ, _, _, sim, r, k1, fun ι1 F1 w H1 e1 s1 r1 => ?_⟩) fun iv s2 ⟨y, H2, I2, ry, ey, q2⟩ => ?_
  · cases r1
    exact ⟨rfl, q _ _ _ _ e1 s1 rfl⟩
  · subst ey
    obtain ⟨t2, rfl⟩ := ry
    have hm := globD_map (prog := X.prog) (w := X.w) I2.kIn h2 h4
    exact ⟨hm.typeIs, wpAny_getItem_of (by show Value.isInt i (.int i t2) = true; simp [Value.isInt]) hm hv ⟨.int v, H2, I2.tok _, ⟨t, rfl⟩, q2⟩⟩
theorem keyI_rep {K : PySem.W.Frag} {mg : PySem.Str → Option Value} {F2 : Hp} {k : L2.Key} {v : V} : ∀ {ws : List (L2.Key × V)} {i : Nat}, ws[i]? = some (k, v) → allInt (ws.map (fun w => keyP w.1)) = true → Rep K mg F2 (keyP k) (kV k)
  | [], i, h, _ => by simp at h
  | w :: ws, 0, h, hi => by
    simp only [List.getElem?_cons_zero, Option.some.injEq] at h
    subst h
    cases k with
    | inl i => exact rfl
    | inr s => simp [keyP, allInt] at hi
  | w :: ws, i + 1, h, hi => by
    refine keyI_rep (ws := ws) (i := i) (by simpa using h) ?_
    rw [List.map_cons] at hi
    cases hk : keyP w.1 <;> rw [hk] at hi <;> simp [allInt] at hi
    exact hi
theorem wp_items {K : PySem.W.Frag} {mg : PySem.Str → Option Value} {F : Hp} {p : Addr} {od : Obj} {ws : List (L2.Key × V)} {xs : List PV} (hp : F p = some (.frz od (.dK ws))) (hint : allInt (ws.map (fun w => keyP w.1)) = true) (l : RepL K mg F xs (ws.map (·.2))) : WalkP true K mg F (zipL (ws.map (fun w => keyP w.1)) xs) (Iti p od ws) where
  goes i H hi hs := by
    rw [zipL_len, List.length_map] at hi
    exact ⟨hs _ _ hp, by omega⟩
  stops H hs := ⟨hs _ _ hp, by rw [zipL_len, List.length_map, l.length, List.length_map]; omega⟩
  yields i H v H' hi hs y ι F2 S s2 sim := by
    rw [zipL_len, List.length_map] at hi
    obtain ⟨T, k, v0, hk, rfl, hT, rfl⟩ := y
    have e2 := List.getElem?_eq_getElem (show i < xs.length by omega)
    obtain ⟨w, h1, g1⟩ := l.get e2
    rw [List.getElem?_map, hk] at h1
    cases h1
    have rk : Rep K mg F2 (keyP k) (kV k) := keyI_rep hk hint
    obtain ⟨F3, ex, s3, r3⟩ := pair_new sim hT rk (g1.mono s2)
    exact ⟨F3, _, ex, s3, by rw [zipL_get, List.getElem?_map, hk, e2]; rfl, r3⟩
  tracked i H v H' D o hi hs y h := by
    obtain ⟨T, k, v0, hk, rfl, hT, rfl⟩ := y
    rw [upd_ne (ne_of_none h hT)]; exact h
theorem wp_keys {K : PySem.W.Frag} {mg : PySem.Str → Option Value} {F : Hp} {p : Addr} {od : Obj} {ws : List (L2.Key × V)} (hp : F p = some (.frz od (.dK ws))) (hint : allInt (ws.map (fun w => keyP w.1)) = true) : WalkP wk K mg F (ws.map (fun w => keyP w.1)) (Itk p od ws) where
  goes i H hi hs := by
    rw [List.length_map] at hi
    exact ⟨hs _ _ hp, by omega⟩
  stops H hs := ⟨hs _ _ hp, by rw [List.length_map]; omega⟩
  yields i H v H' hi hs y ι F2 S s2 sim := by
    obtain ⟨rfl, k, v0, hk, rfl⟩ := y
    exact ⟨F2, _, Ext.refl, sim, by rw [List.getElem?_map, hk]; rfl, .inl (keyI_rep hk hint)⟩
  tracked i H v H' D o hi hs y h := by
    obtain ⟨rfl, k, v0, hk, rfl⟩ := y
    exact h
theorem wp_values {K : PySem.W.Frag} {mg : PySem.Str → Option Value} {F : Hp} {p : Addr} {od : Obj} {ws : List (L2.Key × V)} {xs : List PV} (hp : F p = some (.frz od (.dK ws))) (l : RepL K mg F xs (ws.map (·.2))) : WalkP wk K mg F xs (Itd p od ws) where
  goes i H hi hs := by
    rw [l.length, List.length_map] at hi
    exact ⟨hs _ _ hp, by omega⟩
  stops H hs := ⟨hs _ _ hp, by rw [l.length, List.length_map]; omega⟩
  yields i H v H' hi hs y ι F2 S s2 sim := by
    obtain ⟨rfl, k, hk⟩ := y
    have e2 := List.getElem?_eq_getElem hi
    obtain ⟨w, h1, g1⟩ := l.get e2
    rw [List.getElem?_map, hk] at h1
    cases h1
    exact ⟨F2, _, Ext.refl, sim, e2, .inl (g1.mono s2)⟩
  tracked i H v H' D o hi hs y h := by
    obtain ⟨rfl, k, hk⟩ := y
    exact h
theorem i_items {elts : List Expr} {kk : Nat} {tpos : Pos} (hd : PE X d (rdE X.K X.mg fd)) (hbase : attributeBase d "items" X.env (eval d X.env) = eval d X.env) (hline : (apos.endLine == cpos.line) = true) :
    PI X (.Tuple elts kk tpos) (.Call (.Attribute d "items" apos) [] [] cpos) (rdI X.K X.mg true (FW.iItems fd)) := by
  refine ⟨fun pins s σ H R I h => ?_⟩
  obtain ⟨ι, F, S, ρ, xs, S', sim, r, hf, q⟩ := h
  obtain ⟨x, S1, h1, hf⟩ := bind_ok hf
  unfold itemsOp at hf
  split at hf
  · cases hf
    refine (pi_items hd hbase hline).run pins s σ H R I ⟨ι, F, S, ρ, _, _, sim, r, h1, fun ι1 F1 v H1 e1 s1 r1 => ?_⟩
    obtain ⟨p, od, ws, rfl, hp, rfl, hint, l⟩ := r1
    exact ⟨p, od, ws, rfl, s1.sub _ _ hp, q _ _ _ _ e1 s1 (wp_items hp hint l)⟩
  · cases hf
theorem i_values {tg : Expr} (hd : PE X d (rdE X.K X.mg fd)) (hbase : attributeBase d "values" X.env (eval d X.env) = eval d X.env) (hline : (apos.endLine == cpos.line) = true) :
    PI X tg (.Call (.Attribute d "values" apos) [] [] cpos) (rdI X.K X.mg wk (FW.iValues fd)) := by
  refine ⟨fun pins s σ H R I h => ?_⟩
  obtain ⟨ι, F, S, ρ, xs, S', sim, r, hf, q⟩ := h
  obtain ⟨x, S1, h1, hf⟩ := bind_ok hf
  unfold valuesOp at hf
  split at hf
  · cases hf
    refine (pi_values hd hbase hline).run pins s σ H R I ⟨ι, F, S, ρ, _, _, sim, r, h1, fun ι1 F1 v H1 e1 s1 r1 => ?_⟩
    obtain ⟨p, od, ws, rfl, hp, rfl, hint, l⟩ := r1
    exact ⟨p, od, ws, rfl, s1.sub _ _ hp, q _ _ _ _ e1 s1 (wp_values hp l)⟩
  · cases hf
theorem i_keys {tg : Expr} (hd : PE X d (rdE X.K X.mg fd)) : PI X tg d (rdI X.K X.mg wk (FW.iKeys fd)) := by
  refine ⟨fun pins s σ H R I h => ?_⟩
  obtain ⟨ι, F, S, ρ, xs, S', sim, r, hf, q⟩ := h
  obtain ⟨x, S1, h1, hf⟩ := bind_ok hf
  unfold keysOp at hf
  split at hf
  · cases hf
    refine (pi_keys hd).run pins s σ H R I ⟨ι, F, S, ρ, _, _, sim, r, h1, fun ι1 F1 v H1 e1 s1 r1 => ?_⟩
    obtain ⟨p, od, ws, rfl, hp, rfl, hint, l⟩ := r1
    exact ⟨p, od, rfl, .inl ⟨ws, s1.sub _ _ hp, q _ _ _ _ e1 s1 (wp_keys hp hint)⟩⟩
  · cases hf
theorem s_put2 {i j : Nat} {x y : PySem.Str} {px py p1 p2 tp vp : Pos} {k1 k2 : Nat} {v1 v2 : Expr} (hc : X.calm = true) (hu : X.A.units + 1 < cLine) (hi : X.N[i]? = some x) (hv : Vis X.env.scope x) (hd : (x == ("__debug__" : PySem.Str)) = false) (hcd : (x == ("__classdict__" : PySem.Str)) = false)
    (hj : X.N[j]? = some y) (hv2 : Vis X.env.scope y) (hd2 : (y == ("__debug__" : PySem.Str)) = false) (hcd2 : (y == ("__classdict__" : PySem.Str)) = false)
    (ha : PE X a (rdE X.K X.mg fa)) (hp : plainIx a = true) (hb : PE X b (rdE X.K X.mg fb)) (hp2 : plainIx b = true) (he : PA X [v1, v2] (rdA X.K X.mg ts))
    (hsw : swappedStores [.Tuple [.Subscript (.Name x px) a p1, .Subscript (.Name y py) b p2] k1 tp] (.Tuple [v1, v2] k2 vp) X.env = pure none) :
    PS X (.Assign [.Tuple [.Subscript (.Name x px) a p1, .Subscript (.Name y py) b p2] k1 tp] (.Tuple [v1, v2] k2 vp) pos) (rdS X.K X.mg (sPut2 i fa j fb ts)) := by
  have g1 := pg_sub (X := X) (pos := p1) (pe_var (pos := px) hi hv hd hcd) ha (set_or set_list (set_dict hu)) (assign_sub hp)
  have g2 := pg_sub (X := X) (pos := p2) (pe_var (pos := py) hj hv2 hd2 hcd2) hb (set_or set_list (set_dict hu)) (assign_sub hp2)
  refine ps_mono (ps_asg (pe_tup he) (pg_tup (n := 2) hc (pgs_cons g1 (pgs_cons g2 pgs_nil rfl) rfl) rfl rfl) rfl hsw rfl) fun D σ H h => ?_
  obtain ⟨ι, F, S, ρ, r, S', sim, rr, hf, q⟩ := h
  obtain ⟨xs, S1, h1, hf⟩ := bind_ok hf
  split at hf
  case h_2 => cases hf
  rename_i x1 x2
  obtain ⟨y1, S2, h2, hf⟩ := bind_ok hf
  split at hf
  case h_2 => cases hf
  rename_i o1 ho1
  split at hf
  case h_2 => cases hf
  rename_i S3 hput
  obtain ⟨y2, S4, h3, hf⟩ := bind_ok hf
  split at hf
  case h_2 => cases hf
  rename_i o2 ho2
  split at hf
  case h_2 => cases hf
  rename_i S5 hput2
  cases hf
  refine ⟨ι, F, S, ρ, _, S1, sim, rr, h1, fun ι1 F1 vs H1 e1 s1 rs => ?_⟩
  obtain ⟨w1, wr, rfl, r1, rs⟩ := rs
  obtain ⟨w2, wr2, rfl, r2, rs⟩ := rs
  cases rs
  refine ⟨by show 2 ≤ sizeLine; decide, fun p hp0 => ?_⟩
  obtain ⟨sN, eN⟩ := s1.newF (o := .tup [w1, w2]) hp0
  obtain ⟨v1', q1, q2⟩ := rr.get ho1
  obtain ⟨v2', q3, q4⟩ := rr.get ho2
  refine ⟨p, [w1, w2], rfl, .inl (.inl upd_same), rfl, w1, [w2], rfl, ?_⟩
  refine ⟨v1', q1, ι1, _, S1, ρ, y1, S2, sN, rr.mono (e1.trans eN), h2, fun ι2 F2 u H2 e2 s2 ru => ?_⟩
  refine put_ok s2 (q2.mono ((e1.trans eN).trans e2)) ru (r1.mono (eN.trans e2)) hput fun H3 s3 => ?_
  refine ⟨w2, [], rfl, ?_⟩
  refine ⟨v2', q3, ι2, F2, S3, ρ, y2, S4, s3, rr.mono ((e1.trans eN).trans e2), h3, fun ι4 F4 u4 H4 e4 s4 ru4 => ?_⟩
  refine put_ok s4 (q4.mono (((e1.trans eN).trans e2).trans e4)) ru4 (r2.mono ((eN.trans e2).trans e4)) hput2 fun H5 s5 => ?_
  exact ⟨rfl, q _ _ _ (((e1.trans eN).trans e2).trans e4) s5 _ (rr.mono (((e1.trans eN).trans e2).trans e4))⟩
theorem s_count {o : Expr} (hc : X.calm = true) (ho : PE X o (rdE X.K X.mg fa)) (he : PE X e (rdE X.K X.mg fb)) (hs : noStar e = true) (hbase : attributeBase o "count" X.env (eval o X.env) = eval o X.env) (hline : (apos.endLine == cpos.line) = true) :
    PE X (.Call (.Attribute o "count" apos) [e] [] cpos) (rdE X.K X.mg (sCount fa fb)) := by
  have few : ((backTo cpos (starEach [e] X.env)).all (fun x => !x.1) && (backToKw cpos (keywordEach [] X.env)).all (fun x => x.1.isSome)
      && decide (([e] : List Expr).length + ([] : List Keyword).length + (if ([] : List Keyword).isEmpty then 0 else 1) < 30)) = true := by rw [star_one hs]; rfl
  refine pe_ofV (pe_bm PySem.F.plainAttrs_list PySem.F.slot_list_count PySem.F.type_list_count mt_lcount ho (pa_cons he pa_nil (star_one hs _ _)) hbase few hline (star_one hs _ _) rfl) fun ι F S ρ z S' σ H Q sim r hz q => ?_
  obtain ⟨x, S1, h1, hz⟩ := bind_ok hz
  split at hz
  case isFalse => cases hz
  rename_i hL1
  obtain ⟨y, S2, h2, hz⟩ := bind_ok hz
  split at hz
  case isFalse => cases hz
  rename_i hL2
  unfold countOp at hz
  split at hz
  case h_2 => cases hz
  rename_i k
  split at hz
  case h_2 => cases hz
  rename_i ys hys
  split at hz
  case h_2 => cases hz
  rename_i is his
  cases hz
  refine ⟨ι, F, S, ρ, x, S1, sim, r, h1, fun ι1 F1 v H1 e1 s1 r1 => ⟨(isLs_ty s1 r1 hL1).1, ?_⟩⟩
  refine ⟨ι1, F1, S1, ρ, _, _, s1, r.mono e1, h2, fun ι2 F2 w H2 e2 s2 r2 => ?_⟩
  obtain ⟨p, vs, rfl, l, hq⟩ := s2.seqL (r1.mono e2) hys
  cases r2
  have := l.ints his
  subst this
  exact ⟨p, is, k, rfl, rfl, .inl hq, q _ _ _ _ (e1.trans e2) s2 rfl⟩
theorem vals_snd {vs : List (L2.Key × Value)} {ws : List (L2.Key × V)} (kv : KV ws vs) : Vals (ws.map (·.2)) (vs.map (·.2)) := by
  unfold KV at kv
  induction kv with
  | nil => exact .nil
  | cons r t ih => exact .cons r.2 ih
theorem s_lvals {m : Bool} (hc : X.calm = true) (hg : Gl X "list") (hm : X.mg "list" = none) (hd : PE X d (rdE X.K X.mg fd)) (hbase : attributeBase d "values" X.env (eval d X.env) = eval d X.env) (hline : (apos.endLine == cpos.line) = true) :
    PE X (.Call (.Name "list" p) [.Call (.Attribute d "values" apos) [] [] cpos] [] pos) (rdE X.K X.mg (sLvals m fd)) := by
  refine ⟨fun pins s σ H Q I h => ?_⟩
  obtain ⟨ι, F, S, ρ, z, S', sim, r, hz, fin⟩ := h
  obtain ⟨x, S1, h1, hz⟩ := bind_ok hz
  have hs : starEach [.Call (.Attribute d "values" apos) [] [] cpos] X.env = (false, eval (.Call (.Attribute d "values" apos) [] [] cpos) X.env) :: starEach [] X.env := rfl
  refine wpAny_Call_Name_kw (ld_blt I hg hm (show bootBuiltins "list" = some (.type "list") by decide +kernel) ?_)
  refine PyProof.Rows.callWith_type1 ?_ hs rfl
  rw [hs]
  show wpAny _ _ (spliced ((false, eval (.Call (.Attribute d "values" apos) [] [] cpos) X.env) :: backTo pos (starEach [] X.env))) _ _ s
  refine Calls.spliced_cons ?_
  refine wpAny_Call_method (T := "dict") (id := "dict.values") hbase rfl hline PySem.F.plainAttrs_dict PySem.F.slot_dict_values PySem.F.type_dict_values (thn (hd.run pins s σ H (fun v H1 => ∃ ι1 F1, Ext ι F ι1 F1 ∧ Sim X.K X.mg ι1 F1 S1 H1 ∧ RepS X.K X.mg F1 ι1 x v) I ⟨ι, F, S, ρ, x, S1, sim, r, h1, fun ι1 F1 v H1 e1 s1 r1 => ⟨ι1, F1, e1, s1, r1⟩⟩) fun u s1 ⟨v, H1, I1, rv, ι1, F1, e1, sim1, r1⟩ => ?_)
  obtain ⟨ks, xs, rfl, hz⟩ : ∃ ks xs, x = .v (.dic ks xs) ∧ mkL m xs S1 = .ok z S' := by
    unfold lvalsOp at hz
    split at hz
    · exact ⟨_, _, rfl, hz⟩
    · cases hz
  obtain ⟨a, od, ws, rfl, hp, rfl, hint, l⟩ := r1
  obtain rfl : u = Value.ref a := rv
  obtain ⟨hs0, hgd, hx, es, ep, vs, hdt, hsz, kv, hat⟩ := I1.frzK (sim1.sub _ _ hp)
  have lk : ws.length = vs.length := Paired.length kv
  have I2 : Inv X pins σ H1 { s1 with heap := s1.heap.push { cls := .type "dict_values", data := .fields #[.ref a] } } := I1.kept (t' := s1.toks) fun b ob q => Heap.get?_push_of_some _ q
  refine ⟨hat.dictOf.typeIs, hat.dictOf.mapOf.noDict, ?_⟩
  show wpAny _ _ (callWith cpos (.builtin "dict.values") [.ref a] [] []) _ X.xe s1
  refine method_meetsIn PySem.F.slot_dict_values PySem.F.entry_dict_values rfl (PySem.evalArgs_none ⟨rfl, hat.dictOf.typeIs, PySem.F.args_dict_values_1 _, _, meets_dict_values (mixKind X.prog X.w) a hs0, ⟨vs, hat.dictOf⟩, ?_⟩)
  refine Calls.spliced_nil ?_
  obtain ⟨hle, go⟩ := fin_mkL (vs := ws.map (·.2)) sim1 l hz fun ι2 F2 u H2 e2 s2 r2 => fin ι2 F2 u H2 (e1.trans e2) s2 r2
  have hlen : ws.length ≤ sizeLine := by rw [List.length_map] at hle; exact hle
  refine PySem.W.kdl_call (PySem.W.kdl_values (knd := mixKind X.prog X.w) (kvs := vs) (ep := ep)) (I1.ok.hd hc) ⟨⟨_, Heap.get?_push_size _ rfl, rfl, rfl⟩, hat.push _⟩ (by omega) fun h' tk acc c hk hS hacc => ?_
  have hv : acc.toList = vs.map (·.2) := PySem.W.kdl_vals_eq acc.toList (by rw [Array.length_toList]; exact hacc.1) fun j v e => hacc.2 j v (by rw [← Array.getElem?_toList]; exact e)
  have hsz1 : s1.heap.objs.size ≤ (s1.heap.push { cls := .type "dict_values", data := .fields #[.ref a] }).objs.size := by rw [size_push']; exact Nat.le_succ _
  refine ⟨.ref _, _, inv_laid (us := acc.toList) (c := c) I2 (fun b u e => hk b u e) rfl rfl (Nat.le_refl _) (by rw [hv]; exact vals_snd kv) (by rw [List.length_map]; exact hlen) (by rw [Array.toArray_toList]; exact hS), rfl, go _ (I2.hok.fresh (Nat.le_refl _))⟩
end

section
variable {X : Cx} {elt tg iter a e : Expr} {ifs : List Expr} {scope : Scope} {own : List (PySem.Str × Nat)} {ts1 : List Nat} {g : PV → Slots → Option Slots} {it : IS} {c : Slots → Store → Out Bool} {f fa : VS} {pos spos p p2 apos cpos : Pos}
theorem s_compN (hc : X.calm = true) (hN : X.N.Nodup) (ok : BlkOk X.N X.env.scope scope own) (hts : ∀ t ∈ ts1, t ∈ own.map (·.2)) (hi : PI X tg iter (rdI X.K X.mg wk it))
    (hg : ∀ (s : Shared) (H : Hp) (C : Addr) (cl : List (PySem.Str × Addr)) (fp : List Addr), PG (X.blk s H scope (compEnvC scope cl C X.env) fp) tg (rdG X.K X.mg wk g ts1)) (ht : ∀ (s : Shared) (H : Hp) (C : Addr) (cl : List (PySem.Str × Addr)) (fp : List Addr), PTs (X.blk s H scope (compEnvC scope cl C X.env) fp) ifs (rdT X.K X.mg c))
    (he : ∀ (s : Shared) (H : Hp) (C : Addr) (cl : List (PySem.Str × Addr)) (fp : List Addr), PE (X.blk s H scope (compEnvC scope cl C X.env) fp) elt (rdE X.K X.mg f)) (hs : ∀ x, foldedSetIterable iter X.env x = pure x) :
    PE X (.ListComp elt [⟨tg, iter, ifs, 0⟩] scope pos) (rdE X.K X.mg (sCompN (own.map (·.2)) g it c f)) :=
  pe_mono (pe_lc hc hN hi ok hg ht he hs) fun σ H Q h => lcN_sound hts h
theorem s_setCompN {i : Nat} {y : PySem.Str} {py spos : Pos} (hc : X.calm = true) (hN : X.N.Nodup) (hy : X.N[i]? = some y) (hyl : X.env.scope.names.lookup y = some .local)
    (hsw : swapsWith (.ListComp elt [⟨tg, iter, ifs, 0⟩] scope pos) (some (.Name y py)) spos.line X.env = pure true) (ok : BlkOk X.N X.env.scope scope own) (hts : ∀ t ∈ ts1, t ∈ own.map (·.2)) (hi : PI X tg iter (rdI X.K X.mg wk it))
    (hg : ∀ (s : Shared) (H : Hp) (C : Addr) (cl : List (PySem.Str × Addr)) (fp : List Addr), PG (X.blk s H scope (compEnvC scope cl C X.env) fp) tg (rdG X.K X.mg wk g ts1)) (ht : ∀ (s : Shared) (H : Hp) (C : Addr) (cl : List (PySem.Str × Addr)) (fp : List Addr), PTs (X.blk s H scope (compEnvC scope cl C X.env) fp) ifs (rdT X.K X.mg c))
    (he : ∀ (s : Shared) (H : Hp) (C : Addr) (cl : List (PySem.Str × Addr)) (fp : List Addr), PE (X.blk s H scope (compEnvC scope cl C X.env) fp) elt (rdE X.K X.mg f)) (hs : ∀ x, foldedSetIterable iter X.env x = pure x) :
    PS X (.Assign [.Name y py] (.ListComp elt [⟨tg, iter, ifs, 0⟩] scope pos) spos) (rdS X.K X.mg (sSet i (sCompN (own.map (·.2)) g it c f))) :=
  ps_mono (ps_setLc hc hN hy hyl hsw hi ok hg ht he hs) fun D σ H h => lcN_sound hts (set_fin h)
theorem lsAt_inv {x : Option SV} {y : SV} {n : Nat} (h : lsAt x y = some n) : ∃ ns j k, x = some (.ls ns) ∧ y = .v (.int j) ∧ ix? ns.length j = some k ∧ ns[k]? = some n := by
  unfold lsAt at h
  split at h
  · rename_i ns j
    split at h
    · rename_i k hk
      exact ⟨ns, j, k, rfl, rfl, hk, h⟩
    · cases h
  · cases h
theorem atI_of {xs : List V} {j : Int} {n : Nat} {z : V} (h : ix? xs.length j = some n) (h1 : xs[n]? = some z) : atI xs j = some z := by
  unfold atI ixN
  unfold ix? at h
  by_cases h0 : 0 ≤ j
  · rw [if_pos h0] at h ⊢
    split at h
    · rename_i hl
      cases h
      rw [if_pos hl]
      exact h1
    · cases h
  · rw [if_neg h0] at h ⊢
    split at h
    · rename_i hl
      cases h
      rw [if_pos (by omega)]
      exact h1
    · cases h
theorem s_appE {i : Nat} {x : PySem.Str} (hi : X.N[i]? = some x) (hv : Vis X.env.scope x) (hd : (x == ("__debug__" : PySem.Str)) = false) (hcd : (x == ("__classdict__" : PySem.Str)) = false) (ha : PE X a (rdE X.K X.mg fa)) (hp : plainIx a = true) (he : PE X e (rdE X.K X.mg f)) (hs : noStar e = true) (hline : (apos.endLine == cpos.line) = true) :
    PS X (.Expr (.Call (.Attribute (.Subscript (.Name x p) a p2) "append" apos) [e] [] cpos) pos) (rdS X.K X.mg (sAppE i fa f)) := by
  refine ps_mono (ps_expr (pe_bm F.plainAttrs_list F.slot_list_append F.type_list_append mt_append (pe_ix ix_list (pe_var hi hv hd hcd) ha (plainIx_ok hp)) (pa_cons he pa_nil (star_one hs _ _)) rfl (by rw [star_one hs]; rfl) hline (star_one hs _ _) rfl) rfl) fun D σ H h => ?_
  obtain ⟨ι, F, S, ρ, r, S', sim, rr, hf, q⟩ := h
  obtain ⟨y, S1, h1, hf⟩ := bind_ok hf
  split at hf
  case h_2 => cases hf
  rename_i n hn
  split at hf
  case isFalse => cases hf
  rename_i hL
  obtain ⟨z, S2, h2, hf⟩ := bind_ok hf
  split at hf
  case h_2 => cases hf
  rename_i z xs hS
  split at hf
  case isFalse => cases hf
  rename_i hl
  cases hf
  obtain ⟨ns, j, k, g0, rfl, gk, gn⟩ := lsAt_inv hn
  obtain ⟨v, g1, pp, vs, rfl, hq, t⟩ := rr.get g0
  refine ⟨.ref pp, g1, ι, F, S, ρ, .v (.int j), S1, sim, rr, h1, fun ι1 F1 u H1 e1 s1 r1 => ?_⟩
  cases r1
  obtain ⟨w, w1, w2⟩ := (t.mono e1).get gn
  refine ⟨pp, vs, j, .ref w, rfl, rfl, .inl (s1.sub.rd (e1.2.rd hq)), atI_of (by rw [← t.length]; exact gk) w1, ?_⟩
  have g2 : RepS X.K X.mg F1 ι1 (.l n) (.ref w) := ⟨w, w2, rfl⟩
  have hv0 : tyV X.K "list" (.ref w) H1 := by
    unfold isLst at hL
    split at hL
    · rename_i zs hz
      obtain ⟨pp, vs, e, _, _, hH, _⟩ := s1.lstAt g2 hz
      cases e
      exact .inl ⟨rfl, vs, .inl (.inl hH)⟩
    · cases hL
  refine ⟨hv0, ι1, F1, S1, ρ, .v z, S2, s1, rr.mono e1, h2, fun ι2 F2 w2 H2 e2 s2 r2 => ?_⟩
  obtain ⟨pp, us, e, hp, hF, hH, l⟩ := s2.lstAt (g2.mono e2) hS
  cases e
  refine ⟨w, us, w2, rfl, rfl, hH, by rw [← l.length]; exact hl, ?_⟩
  exact q _ _ _ (e1.trans e2) (s2.write hp hF ⟨hF, us ++ [w2], rfl, l.app (RepL.one r2)⟩) _ (rr.mono (e1.trans e2))
theorem s_ixE {i : Nat} {x : PySem.Str} (hi : X.N[i]? = some x) (hv : Vis X.env.scope x) (hd : (x == ("__debug__" : PySem.Str)) = false) (hcd : (x == ("__classdict__" : PySem.Str)) = false) (ha : PE X a (rdE X.K X.mg fa)) (hp : plainIx a = true) :
    PE X (.Subscript (.Name x p) a pos) (rdE X.K X.mg (sIxE i fa)) := by
  refine ⟨fun pins s σ H Q I h => ?_⟩
  obtain ⟨ι, F, S, ρ, z, S', sim, rr, hf, q⟩ := h
  obtain ⟨y, S1, h1, hf⟩ := bind_ok hf
  unfold ixEOp at hf
  split at hf
  case h_2 => cases hf
  rename_i n hn
  cases hf
  obtain ⟨ns, j, k, g0, rfl, gk, gn⟩ := lsAt_inv hn
  obtain ⟨v, g1, pp, vs, rfl, hq, t⟩ := rr.get g0
  refine (pe_ix ix_list (pe_var hi hv hd hcd) ha (plainIx_ok hp)).run pins s σ H Q I ⟨.ref pp, g1, ι, F, S, ρ, .v (.int j), _, sim, rr, h1, fun ι1 F1 u H1 e1 s1 r1 => ?_⟩
  cases r1
  obtain ⟨w, w1, w2⟩ := (t.mono e1).get gn
  exact ⟨pp, vs, j, .ref w, rfl, rfl, .inl (s1.sub.rd (e1.2.rd hq)), atI_of (by rw [← t.length]; exact gk) w1, q _ _ _ _ e1 s1 ⟨w, w2, rfl⟩⟩
theorem s_subX {d : Expr} {fc : VS} {pos' : Pos} (hu : X.A.units + 1 < cLine) (hc : PE X d (rdE X.K X.mg fc)) (ha : PE X a (rdE X.K X.mg fa)) (hp : plainIx a = true) (he : PE X e (rdE X.K X.mg f)) :
    PS X (.Assign [.Subscript d a pos'] e pos) (rdS X.K X.mg (sSubX fc fa f)) := by
  refine ps_mono (ps_asg he (pg_sub hc ha (set_or set_list (set_dict hu)) (assign_sub hp)) sws_sub sst_sub) fun D σ H h => ?_
  obtain ⟨ι, F, S, ρ, r, S', sim, rr, hf, q⟩ := h
  obtain ⟨z, S1, h1, hf⟩ := bind_ok hf
  obtain ⟨o, S2, h2, hf⟩ := bind_ok hf
  obtain ⟨y, S3, h3, hf⟩ := bind_ok hf
  split at hf
  · rename_i S4 hp
    cases hf
    refine ⟨ι, F, S, ρ, z, S1, sim, rr, h1, fun ι1 F1 w H1 e1 s1 r1 => ?_⟩
    refine ⟨ι1, F1, S1, ρ, o, S2, s1, rr.mono e1, h2, fun ι2 F2 u H2 e2 s2 r2 => ?_⟩
    refine ⟨ι2, F2, S2, ρ, y, S3, s2, rr.mono (e1.trans e2), h3, fun ι3 F3 t H3 e3 s3 r3 => ?_⟩
    exact put_ok s3 (r2.mono e3) r3 (r1.mono (e2.trans e3)) hp fun H' s4 => q _ _ _ (e1.trans (e2.trans e3)) s4 _ (rr.mono (e1.trans (e2.trans e3)))
  · cases hf
end
end FW

namespace FW
open PySem PySem.Spec PyProof.Rows L2 RZ
theorem pair_newN {K : PySem.W.Frag} {mg : PySem.Str → Option Value} {ι : Plc} {F2 H : Hp} {S : Store} {T : Addr} {x y : PV} {v w : V} {o : Obj} (sim : Sim K mg ι F2 S H) (hT : H T = none) (hc : o.cls = .type "tuple") (hd : o.dict = none) (r1 : Rep K mg F2 x v) (r2 : Rep K mg F2 y w) :
    ∃ F3, Ext ι F2 ι F3 ∧ Sim K mg ι F3 S (upd H T (.frz o (.tup [v, w]))) ∧ Rep K mg F3 (.tup [x, y]) (.ref T) := by
  obtain ⟨s, e⟩ := sim.newF (o := .frz o (.tup [v, w])) hT
  exact ⟨_, e, s, T, [v, w], rfl, .inl ⟨o, upd_same, hc, hd⟩, v, [w], rfl, r1.mono e.2, RepL.one (r2.mono e.2)⟩
section
variable {prog : Program} {w : World} {A : Around} {E : Value → Shared → Prop} {s : Shared} {z TI TO T i1 i2 : Addr} {fp1 fp2 : List Addr} {n1 n2 i : Nat} {P1 P2 : Nat → Value → Prop} {St1 St2 : Nat → Heap → Prop} {f : Bool} {oT : Obj}
theorem zipH_next_item {Q : Value → Shared → Prop} (S : ZipSep2 z TI TO i1 i2 fp1 fp2) (D1 : Draws prog w A i1 fp1 n1 P1 St1) (D2 : Draws prog w A i2 fp2 n2 P2 St2)
    (hz : IsZipHeld s.heap z TI TO T f) (hT : s.heap.get? T = some oT) (hTI : IsTupOf2 s.heap TI (.ref i1) (.ref i2)) (st1 : St1 i s.heap) (st2 : St2 i s.heap) (hlt1 : i < n1) (hlt2 : i < n2)
    (hQ : ∀ x1 x2 h' tk, P1 i x1 → P2 i x2 → IsZipHeld h' z TI TO T true → St1 (i + 1) h' → St2 (i + 1) h' → IsTupOf2 h' s.heap.objs.size x1 x2 →
      (∀ c o, c ≠ z → c ≠ i1 → c ≠ i2 → s.heap.get? c = some o → h'.get? c = some o) → Q (.ref s.heap.objs.size) { s with heap := h', toks := tk }) :
    wpAny (model prog w) A (Builtin.«zip.__next__» ⟨[.ref z], []⟩) (fun fin s' => ∃ v, fin = .done (.ret v) ∧ Q v s') E s := by
  obtain ⟨hp, g, d, tk0, os⟩ := s
  show wpAny _ _ (field (.ref z) 2 >>= _) _ _ _
  refine wpAny_bind (wpAny_field hz rfl (x := .bool false) rfl ?_)
  show wpAny _ _ (field (.ref z) 3 >>= _) _ _ _
  refine wpAny_bind (wpAny_field hz rfl (x := .ref TI) rfl ?_)
  refine wpAny_bind (wpAny_seqItems hTI rfl ?_)
  show wpAny _ _ (Builtin.SmallTypes.ownedTupleIsFree (.ref z) >>= _) _ _ _
  refine wpAny_bind (wpAny_tupleHeld_zip hz hT fun h1 hz1 hs1 => ?_)
  replace hs1 : Heap.SameBut z hp h1 := hs1
  simp only [Bool.false_eq_true, if_false]
  refine wpAny_bind ?_
  rw [← Array.forIn_toList]
  simp only [List.forIn_cons, List.forIn_nil]
  refine wpAny_bind (wpAny_bind (wpAny_holding ?_))
  show wpAny _ _ (Builtin.SmallTypes.nextOf (.ref i1) >>= _) _ _ ⟨h1, g, d, tk0, os⟩
  refine wpAny_bind (D1.item i _ _ _ hlt1 (D1.over st1 hs1 S.zf1) fun x1 p1 tk1 hx1 sn1 hp1 => wpAny_pure ?_)
  replace hp1 : Heap.SameBut i1 h1 p1 := hp1
  refine wpAny_pure ?_
  refine wpAny_bind (wpAny_bind (wpAny_holding ?_))
  show wpAny _ _ (Builtin.SmallTypes.nextOf (.ref i2) >>= _) _ _ ⟨p1, g, d, tk1, os⟩
  refine wpAny_bind (D2.item i _ _ _ hlt2 (D2.over (D2.over st2 hs1 S.zf2) hp1 S.sep1_2) fun x2 p2 tk2 hx2 sn2 hp2 => wpAny_pure ?_)
  replace hp2 : Heap.SameBut i2 p1 p2 := hp2
  refine wpAny_pure (wpAny_pure ?_)
  show wpAny _ _ (newTuple [x1, x2] >>= _) _ _ ⟨p2, g, d, tk2, os⟩
  refine wpAny_bind (wpAny_newTuple ?_)
  have hsz : p2.objs.size = hp.objs.size := by rw [hp2.1, hp1.1, hs1.1]
  have hz3 : IsZipHeld p2 z TI TO T true := hp2.extBut _ _ S.zi2 (hp1.extBut _ _ S.zi1 hz1)
  have hk : ∀ c o, c ≠ z → c ≠ i1 → c ≠ i2 → hp.get? c = some o → p2.get? c = some o := fun c o c1 c2 c3 e => hp2.extBut _ _ c3 (hp1.extBut _ _ c2 (hs1.extBut _ _ c1 e))
  have hj1 : St1 (i + 1) p2 := D1.over sn1 hp2 S.sep2_1
  refine wpAny_pure ⟨_, rfl, ?_⟩
  show Q (.ref p2.objs.size) _
  have hp' : IsTupOf2 (p2.push { cls := .type "tuple", data := .seq #[x1, x2] }) p2.objs.size x1 x2 := Heap.get?_push_size _ rfl
  rw [hsz] at hp' ⊢
  exact hQ _ _ _ tk2 hx1 hx2 (Heap.get?_push_of_some _ hz3) (D1.frame _ _ _ hj1 fun b _ o e => Heap.get?_push_of_some _ e) (D2.frame _ _ _ sn2 fun b _ o e => Heap.get?_push_of_some _ e) hp' fun c o c1 c2 c3 e => Heap.get?_push_of_some _ (hk c o c1 c2 c3 e)
theorem zipH_next_end {Q : Fin → Shared → Prop} (S : ZipSep2 z TI TO i1 i2 fp1 fp2) (D1 : Draws prog w A i1 fp1 n1 P1 St1) (D2 : Draws prog w A i2 fp2 n2 P2 St2)
    (hz : IsZipHeld s.heap z TI TO T f) (hT : s.heap.get? T = some oT) (hTI : IsTupOf2 s.heap TI (.ref i1) (.ref i2)) (st1 : St1 i s.heap) (st2 : St2 i s.heap) (hle1 : i ≤ n1) (hle2 : i ≤ n2) (hend : i = n1 ∨ i = n2)
    (hE : ∀ h' tk e, (∀ c o, c ≠ z → c ≠ i1 → c ≠ i2 → s.heap.get? c = some o → h'.get? c = some o) → (∃ o, h'.get? e = some o ∧ o.cls = .type "StopIteration") → E (.ref e) { s with heap := h', toks := tk }) :
    wpAny (model prog w) A (Builtin.«zip.__next__» ⟨[.ref z], []⟩) Q E s := by
  obtain ⟨hp, g, d, tk0, os⟩ := s
  show wpAny _ _ (field (.ref z) 2 >>= _) _ _ _
  refine wpAny_bind (wpAny_field hz rfl (x := .bool false) rfl ?_)
  show wpAny _ _ (field (.ref z) 3 >>= _) _ _ _
  refine wpAny_bind (wpAny_field hz rfl (x := .ref TI) rfl ?_)
  refine wpAny_bind (wpAny_seqItems hTI rfl ?_)
  show wpAny _ _ (Builtin.SmallTypes.ownedTupleIsFree (.ref z) >>= _) _ _ _
  refine wpAny_bind (wpAny_tupleHeld_zip hz hT fun h1 hz1 hs1 => ?_)
  replace hs1 : Heap.SameBut z hp h1 := hs1
  simp only [Bool.false_eq_true, if_false]
  refine wpAny_bind ?_
  rw [← Array.forIn_toList]
  simp only [List.forIn_cons, List.forIn_nil]
  refine wpAny_bind (wpAny_bind (wpAny_holding ?_))
  show wpAny _ _ (Builtin.SmallTypes.nextOf (.ref i1) >>= _) _ _ ⟨h1, g, d, tk0, os⟩
  by_cases hlt1 : i < n1
  · refine wpAny_bind (D1.item i _ _ _ hlt1 (D1.over st1 hs1 S.zf1) fun x1 p1 tk1 hx1 sn1 hp1 => wpAny_pure ?_)
    replace hp1 : Heap.SameBut i1 h1 p1 := hp1
    refine wpAny_pure ?_
    have hi2 : i = n2 := by omega
    refine wpAny_bind (wpAny_bind (wpAny_holding ?_))
    show wpAny _ _ (Builtin.SmallTypes.nextOf (.ref i2) >>= _) _ _ ⟨p1, g, d, tk1, os⟩
    refine wpAny_bind (D2.done ⟨p1, g, d, tk1, os⟩ _ _ (by rw [← hi2]; exact (D2.over (D2.over st2 hs1 S.zf2) hp1 S.sep1_2)) fun q e hq he => ?_)
    exact hE q tk1 e (fun c o c1 c2 c3 x => hq _ _ c3 (hp1.extBut _ _ c2 (hs1.extBut _ _ c1 x))) he
  · have hi1 : i = n1 := by omega
    refine wpAny_bind (D1.done ⟨h1, g, d, tk0, os⟩ _ _ (by rw [← hi1]; exact (D1.over st1 hs1 S.zf1)) fun q e hq he => ?_)
    exact hE q tk0 e (fun c o c1 c2 c3 x => hq _ _ c2 (hs1.extBut _ _ c1 x)) he
theorem pyNext_zipH_item {Q : Option Value → Shared → Prop} (S : ZipSep2 z TI TO i1 i2 fp1 fp2) (D1 : Draws prog w A.in1 i1 fp1 n1 P1 St1) (D2 : Draws prog w A.in1 i2 fp2 n2 P2 St2)
    (hz : IsZipHeld s.heap z TI TO T f) (hT : s.heap.get? T = some oT) (hTI : IsTupOf2 s.heap TI (.ref i1) (.ref i2)) (st1 : St1 i s.heap) (st2 : St2 i s.heap) (hlt1 : i < n1) (hlt2 : i < n2)
    (hQ : ∀ x1 x2 h' tk, P1 i x1 → P2 i x2 → IsZipHeld h' z TI TO T true → St1 (i + 1) h' → St2 (i + 1) h' → IsTupOf2 h' s.heap.objs.size x1 x2 →
      (∀ c o, c ≠ z → c ≠ i1 → c ≠ i2 → s.heap.get? c = some o → h'.get? c = some o) → Q (some (.ref s.heap.objs.size)) { s with heap := h', toks := tk }) :
    wpAny (model prog w) A (pyNext (.ref z)) Q E s := by
  have hTy : s.TypeIs (.ref z) "zip" := ⟨_, hz, rfl⟩
  unfold pyNext
  exact wpAny_bind (wpAny_attempt (wpAny_callSpecial?_slot (name := Str.ofString "__next__") hTy F.slot_zip_next
    (wpAny_call_entry F.slot_zip_next hTy F.entry_zip_next
      (zipH_next_item S D1 D2 hz hT hTI st1 st2 hlt1 hlt2 fun x1 x2 h' tk y1 y2 b1 d1 d2 b5 b7 => wpAny_pure (hQ x1 x2 h' tk y1 y2 b1 d1 d2 b5 b7)) (F.args_zip_next_1 _))))
theorem pyNext_zipH_end {Q : Option Value → Shared → Prop} (S : ZipSep2 z TI TO i1 i2 fp1 fp2) (D1 : Draws prog w A.in1 i1 fp1 n1 P1 St1) (D2 : Draws prog w A.in1 i2 fp2 n2 P2 St2)
    (hz : IsZipHeld s.heap z TI TO T f) (hT : s.heap.get? T = some oT) (hTI : IsTupOf2 s.heap TI (.ref i1) (.ref i2)) (st1 : St1 i s.heap) (st2 : St2 i s.heap) (hle1 : i ≤ n1) (hle2 : i ≤ n2) (hend : i = n1 ∨ i = n2)
    (hQ : ∀ h' tk, (∀ c o, c ≠ z → c ≠ i1 → c ≠ i2 → s.heap.get? c = some o → h'.get? c = some o) → Q none { s with heap := h', toks := tk }) : wpAny (model prog w) A (pyNext (.ref z)) Q E s := by
  have hTy : s.TypeIs (.ref z) "zip" := ⟨_, hz, rfl⟩
  unfold pyNext
  refine wpAny_bind (wpAny_attempt (wpAny_callSpecial?_slot (name := Str.ofString "__next__") hTy F.slot_zip_next
    (wpAny_call_entry F.slot_zip_next hTy F.entry_zip_next (zipH_next_end S D1 D2 hz hT hTI st1 st2 hle1 hle2 hend fun h' tk e hk he => ?_) (F.args_zip_next_1 _))))
  obtain ⟨o, ho, hc⟩ := he
  refine wpAny_bind (wpAny_isInstance (T := "StopIteration") (b := true) ⟨o, ho, hc⟩ isSubtype_stop ?_)
  exact wpAny_pure (hQ _ _ hk)
def ZSt (z TI TO i1 i2 : Addr) (J1 J2 : Nat → Heap → Prop) (i : Nat) (h : Heap) : Prop :=
  IsTupOf2 h TI (.ref i1) (.ref i2) ∧ J1 i h ∧ J2 i h ∧ ((∃ a1 a2, IsZip h z TI TO .none ∧ IsTupOf2 h TO a1 a2) ∨ ∃ T f x y, IsZipHeld h z TI TO T f ∧ IsTupOf2 h T x y ∧ T ≠ z ∧ T ≠ i1 ∧ T ≠ i2)
theorem zst_item {J1 J2 : Nat → Heap → Prop} {L1 L2 : Heap → Prop} {Q : Option Value → Shared → Prop} (S : ZipSep2 z TI TO i1 i2 fp1 fp2) (D1 : Draws prog w A.in1 i1 fp1 n1 P1 (fun k h => J1 k h ∧ L1 h)) (D2 : Draws prog w A.in1 i2 fp2 n2 P2 (fun k h => J2 k h ∧ L2 h))
    (st : ZSt z TI TO i1 i2 J1 J2 i s.heap) (l1 : L1 s.heap) (l2 : L2 s.heap) (hlt1 : i < n1) (hlt2 : i < n2)
    (hQ : ∀ x1 x2 h' tk, P1 i x1 → P2 i x2 → ZSt z TI TO i1 i2 J1 J2 (i + 1) h' → IsTupOf2 h' s.heap.objs.size x1 x2 →
      (∀ c o, c ≠ z → c ≠ TO → c ≠ i1 → c ≠ i2 → s.heap.get? c = some o → h'.get? c = some o) → Q (some (.ref s.heap.objs.size)) { s with heap := h', toks := tk }) :
    wpAny (model prog w) A (pyNext (.ref z)) Q E s := by
  obtain ⟨hTI, s1, s2, st⟩ := st
  have lt : ∀ {c o}, s.heap.get? c = some o → s.heap.objs.size ≠ c := fun e => Nat.ne_of_gt (Heap.lt_size e)
  obtain ⟨_, e1⟩ := D1.live _ _ ⟨s1, l1⟩
  obtain ⟨_, e2⟩ := D2.live _ _ ⟨s2, l2⟩
  rcases st with ⟨a1, a2, hz, hTO⟩ | ⟨T, f, x, y, hz, hT, q1, q2, q3⟩
  · refine wpAny_pyNext_zipD2_item S D1 D2 hz hTI hTO ⟨s1, l1⟩ ⟨s2, l2⟩ hlt1 hlt2 fun x1 x2 h' tk y1 y2 b1 b2 d1 d2 b5 b6 hk => ?_
    exact hQ x1 x2 h' tk y1 y2 ⟨hk _ _ S.TIz S.TITO S.TIi1 S.TIi2 hTI, d1.1, d2.1, .inr ⟨s.heap.objs.size, false, x1, x2, b1, b5, lt hz, lt e1, lt e2⟩⟩ b5 hk
  · refine pyNext_zipH_item S D1 D2 hz hT hTI ⟨s1, l1⟩ ⟨s2, l2⟩ hlt1 hlt2 fun x1 x2 h' tk y1 y2 b1 d1 d2 b5 hk => ?_
    exact hQ x1 x2 h' tk y1 y2 ⟨hk _ _ S.TIz S.TIi1 S.TIi2 hTI, d1.1, d2.1, .inr ⟨T, true, x, y, b1, hk _ _ q1 q2 q3 hT, q1, q2, q3⟩⟩ b5 fun c o c1 _ c3 c4 e => hk c o c1 c3 c4 e
theorem zst_end {J1 J2 : Nat → Heap → Prop} {L1 L2 : Heap → Prop} {Q : Option Value → Shared → Prop} (S : ZipSep2 z TI TO i1 i2 fp1 fp2) (D1 : Draws prog w A.in1 i1 fp1 n1 P1 (fun k h => J1 k h ∧ L1 h)) (D2 : Draws prog w A.in1 i2 fp2 n2 P2 (fun k h => J2 k h ∧ L2 h))
    (st : ZSt z TI TO i1 i2 J1 J2 i s.heap) (l1 : L1 s.heap) (l2 : L2 s.heap) (hle1 : i ≤ n1) (hle2 : i ≤ n2) (hend : i = n1 ∨ i = n2)
    (hQ : ∀ h' tk, (∀ c o, c ≠ z → c ≠ TO → c ≠ i1 → c ≠ i2 → s.heap.get? c = some o → h'.get? c = some o) → Q none { s with heap := h', toks := tk }) : wpAny (model prog w) A (pyNext (.ref z)) Q E s := by
  obtain ⟨hTI, s1, s2, st⟩ := st
  rcases st with ⟨a1, a2, hz, hTO⟩ | ⟨T, f, x, y, hz, hT, q1, q2, q3⟩
  · exact wpAny_pyNext_zipD2_end S D1 D2 hz hTI hTO ⟨s1, l1⟩ ⟨s2, l2⟩ hle1 hle2 hend fun h' tk hk => hQ h' tk hk
  · exact pyNext_zipH_end S D1 D2 hz hT hTI ⟨s1, l1⟩ ⟨s2, l2⟩ hle1 hle2 hend fun h' tk hk => hQ h' tk fun c o c1 _ c3 c4 e => hk c o c1 c3 c4 e
end

theorem ZSt.keep {z TI TO i1 i2 S : Addr} {J1 J2 : Nat → Heap → Prop} {i : Nat} {h h' : Heap} {its : Array Value} {n : Nat} (st : ZSt z TI TO i1 i2 J1 J2 i h) (k1 : ∀ k h h', J1 k h → (∀ o, h.get? i1 = some o → h'.get? i1 = some o) → J1 k h') (k2 : ∀ k h h', J2 k h → (∀ o, h.get? i2 = some o → h'.get? i2 = some o) → J2 k h')
    (hS : h.get? S = some { cls := .type "list", data := .seq its n }) (hne : S ≠ z ∧ S ≠ TI ∧ S ≠ TO ∧ S ≠ i1 ∧ S ≠ i2) (k : ∀ c o, c ≠ S → h.get? c = some o → h'.get? c = some o) : ZSt z TI TO i1 i2 J1 J2 i h' := by
  obtain ⟨a1, a2, a3, st⟩ := st
  refine ⟨k _ _ (Ne.symm hne.2.1) a1, k1 _ _ _ a2 fun o e => k _ _ (Ne.symm hne.2.2.2.1) e, k2 _ _ _ a3 fun o e => k _ _ (Ne.symm hne.2.2.2.2) e, ?_⟩
  rcases st with ⟨x, y, b1, b2⟩ | ⟨T, f, x, y, b1, b2, q⟩
  · exact .inl ⟨x, y, k _ _ (Ne.symm hne.1) b1, k _ _ (Ne.symm hne.2.2.1) b2⟩
  · refine .inr ⟨T, f, x, y, k _ _ (Ne.symm hne.1) b1, k _ _ (fun e => ?_) b2, q⟩
    subst e
    have b3 : h.get? T = _ := b2
    rw [hS] at b3
    have := congrArg (fun o : Option Obj => o.map (·.cls)) b3
    simp at this
section
variable {X : Cx} {pins : List (Addr × Obj)} {σ : L2.St} {p q : Hp → List V → Prop} {z TI TO i1 i2 a b S : Addr} {J1 J2 : Nat → Heap → Prop} {L1 L2 : Array Value → Heap → Prop} {ι1 : Plc} {F1 : Hp} {St : Store} {xs ys : List PV} {vs ws : List V}
theorem list_at {H : Hp} {s : Shared} {us : List V} (I : Inv X pins σ H s) (h : H S = some (.lst us)) : us.length ≤ sizeLine ∧ ∃ (its : List Value) (n : Nat), Vals us its ∧ s.heap.get? S = some { cls := .type "list", data := .seq its.toArray n } := by
  obtain ⟨h1, its, n, h2, h3⟩ := I.hok S _ h
  exact ⟨h1, its, n, h2, h3⟩
set_option maxHeartbeats 8000000 in
theorem zl_loop {R : Result → Shared → Prop} {res : Value} (D : ZipSep2 z TI TO i1 i2 [i1, a] [i2, b]) (A1 : Src X.prog X.w X.K p i1 a J1 L1) (A2 : Src X.prog X.w X.K q i2 b J2 L2) {A : Around} (hA : A.handled = none)
    (l1 : RepL X.K X.mg F1 xs vs) (hp : ∀ H, Sub F1 H → p H vs) (l2 : RepL X.K X.mg F1 ys ws) (hq : ∀ H, Sub F1 H → q H ws) (hlen : (zipL xs ys).length ≤ sizeLine) (hw : ι1.w S = none)
    (hne : S ≠ z ∧ S ≠ TI ∧ S ≠ TO ∧ S ≠ i1 ∧ S ≠ i2) (hTO : TO < S)
    (hR : ∀ s ι F H us, Ext ι1 F1 ι F → Inv X pins σ H s → Sim X.K X.mg (ι.on S us) F St H → RepL X.K X.mg F (zipL xs ys) us → R (.ok (.ret res)) s) :
    ∀ (k i : Nat) (s : Shared) (H : Hp) (ι : Plc) (F : Hp) (us : List V), (zipL xs ys).length - i = k → i ≤ (zipL xs ys).length → Ext ι1 F1 ι F → Inv X pins σ H s → (∀ c ∈ [z, TI, TO, i1, i2], FpOk X pins H c) → ZSt z TI TO i1 i2 J1 J2 i s.heap →
      Sim X.K X.mg (ι.on S us) F St H → RepL X.K X.mg F ((zipL xs ys).take i) us → codeAny (model X.prog X.w) A (.builtin "list.extend.loop" ⟨[.ref S, .ref z, res], []⟩) R s := by
  intro k
  induction k with
  | zero =>
    intro i s H ι F us hk hi ex I hf st sim lu
    have hin : i = (zipL xs ys).length := by omega
    subst hin
    rw [List.take_length] at lu
    obtain ⟨us1, ru, lu1⟩ := A1.rd X rfl rfl rfl pins σ H s vs I (hp H (ex.2.trans sim.sub))
    obtain ⟨us2, rw2, lu2⟩ := A2.rd X rfl rfl rfl pins σ H s ws I (hq H (ex.2.trans sim.sub))
    have n1 := ru.length
    have n2 := rw2.length
    have m1 := l1.length
    have m2 := l2.length
    have hz := zipL_len xs ys
    refine codeAny_builtin PySem.F.entry_extend_loop ?_
    rw [Around.under_plainId PySem.F.plain_extend_loop _]
    show wpAny _ A.in1 (pyNext (.ref z) >>= _) _ _ _
    refine wpAny_bind (zst_end D (A1.dr _ us1.toArray hA) (A2.dr _ us2.toArray hA) st lu1 lu2 (by simp; omega) (by simp; omega) (by simp; omega) fun h' tk nk => ?_)
    refine wpAny_pure (hR _ ι F H us ex (I.turnedL (t' := tk) (ch := [z, TI, TO, i1, i2]) (fun c o hb g => ?_) hf) sim lu)
    simp only [List.mem_cons, List.not_mem_nil, or_false, not_or] at hb
    exact nk c o hb.1 hb.2.2.1 hb.2.2.2.1 hb.2.2.2.2 g
  | succ k ih =>
    intro i s H ι F us hk hi ex I hf st sim lu
    have hlt : i < (zipL xs ys).length := by omega
    obtain ⟨us1, ru, lu1⟩ := A1.rd X rfl rfl rfl pins σ H s vs I (hp H (ex.2.trans sim.sub))
    obtain ⟨us2, rw2, lu2⟩ := A2.rd X rfl rfl rfl pins σ H s ws I (hq H (ex.2.trans sim.sub))
    have n1 := ru.length
    have n2 := rw2.length
    have m1 := l1.length
    have m2 := l2.length
    have hz := zipL_len xs ys
    have hix : i < xs.length := by omega
    have hiy : i < ys.length := by omega
    obtain ⟨v, gv, rv⟩ := l1.get (List.getElem?_eq_getElem hix)
    obtain ⟨w, gw, rw3⟩ := l2.get (List.getElem?_eq_getElem hiy)
    obtain ⟨u1, gu1, mu1⟩ := ru.get gv
    obtain ⟨u2, gu2, mu2⟩ := rw2.get gw
    refine codeAny_builtin PySem.F.entry_extend_loop ?_
    rw [Around.under_plainId PySem.F.plain_extend_loop _]
    show wpAny _ A.in1 (pyNext (.ref z) >>= _) _ _ _
    refine wpAny_bind (zst_item D (A1.dr _ us1.toArray hA) (A2.dr _ us2.toArray hA) st lu1 lu2 (by simp; omega) (by simp; omega) fun x1 x2 h' tk y1 y2 st' hT nk => ?_)
    obtain rfl : x1 = u1 := Option.some.inj (y1.symm.trans (by simpa using gu1))
    obtain rfl : x2 = u2 := Option.some.inj (y2.symm.trans (by simpa using gu2))
    have nw : ObjOk X.prog X.w (upd H s.heap.objs.size (.frz { cls := .type "tuple", data := .seq #[x1, x2] } (.tup [v, w]))) h' s.heap.objs.size (.frz { cls := .type "tuple", data := .seq #[x1, x2] } (.tup [v, w])) :=
      ⟨hT, by show 2 ≤ sizeLine; decide, [x1, x2], .cons mu1 (.cons mu2 .nil), _, hT, rfl, _, rfl⟩
    have hTn : H s.heap.objs.size = none := I.hok.fresh (Nat.le_refl _)
    have I2 : Inv X pins σ (upd H s.heap.objs.size (.frz { cls := .type "tuple", data := .seq #[x1, x2] } (.tup [v, w]))) { s with heap := h', toks := tk } :=
      I.turnedNew (ch := [z, TI, TO, i1, i2]) (fun c o hb g => by
        simp only [List.mem_cons, List.not_mem_nil, or_false, not_or] at hb
        exact nk c o hb.1 hb.2.2.1 hb.2.2.2.1 hb.2.2.2.2 g) hf (Nat.le_refl _) nw
    have hSH := sim.at_on.1
    obtain ⟨zS, its, nn, rits, hSo⟩ := list_at I hSH
    have hSlt : S < s.heap.objs.size := Heap.lt_size hSo
    obtain ⟨F3, e3, s3, r3⟩ := pair_newN (o := { cls := .type "tuple", data := .seq #[x1, x2] }) (x := xs[i]) (y := ys[i]) (v := v) (w := w) sim hTn rfl rfl (rv.mono ex.2) (rw3.mono ex.2)
    have hS2 : (upd H s.heap.objs.size (.frz { cls := .type "tuple", data := .seq #[x1, x2] } (.tup [v, w]))) S = some (.lst us) := by rw [upd_ne (Nat.ne_of_lt hSlt)]; exact hSH
    obtain ⟨zS2, its2, nn2, rits2, hSo2⟩ := list_at I2 hS2
    have lus : us.length = i := by
      rw [← lu.length, List.length_take]
      omega
    have lits : its2.length = i := by rw [← rits2.length]; exact lus
    show wpAny _ A.in1 (updateSeq S (·.push (Value.ref s.heap.objs.size)) >>= _) _ _ _
    refine wpAny_bind ?_
    have hw3 : ι.w S = none := by rw [ex.1.2]; exact hw
    refine wpAny_updateSeq hSo2 rfl (wpAny_pure ⟨plainId_quiet PySem.F.plain_extend_loop _, ?_⟩) (by show its2.toArray.size ≤ _; rw [List.size_toArray]; omega) (by show (its2.toArray.push _).size ≤ _; rw [Array.size_push, List.size_toArray]; omega)
    have I3 := I2.lset (its' := its2 ++ [Value.ref s.heap.objs.size]) (f := (·.push (Value.ref s.heap.objs.size))) (t' := tk) (ys := us ++ [V.ref s.heap.objs.size]) hS2 hSo2 (by simp) (rits2.append (.cons rfl .nil)) (by rw [List.length_append, lus]; simp only [List.length_cons, List.length_nil]; omega)
    obtain ⟨ι', hι, ex3⟩ := e3.off
    have hι2 : ι' = ι := by
      obtain ⟨⟨⟨t, e1⟩, e2⟩, _⟩ := ex3
      have h0 : ι.l = ι'.l := (congrArg Plc.l hι : (ι.on S us).l = (ι'.on S us).l)
      cases ι; cases ι'
      simp only at h0 e2
      subst h0 e2
      rfl
    subst hι2
    refine ih (i + 1) _ _ ι' F3 (us ++ [V.ref s.heap.objs.size]) (by omega) hlt (ex.trans ex3) I3 (fun c hc => ?_) ?_ (s3.re_on hw3 _) ?_
    · obtain ⟨f1, f2⟩ := hf c hc
      have hcS : c ≠ S := fun e => by rw [e, hSH] at f1; cases f1
      have hcl : c < s.heap.objs.size := by
        obtain ⟨t1, t2, t3, t4⟩ := st
        obtain ⟨_, g1, _⟩ := A1.ob _ _ t2
        obtain ⟨_, g2, _⟩ := A2.ob _ _ t3
        simp only [List.mem_cons, List.not_mem_nil, or_false] at hc
        rcases hc with e | e | e | e | e <;> subst e
        · rcases t4 with ⟨_, _, t, _⟩ | ⟨_, _, _, _, t, _⟩
          · exact Heap.lt_size t
          · exact Heap.lt_size t
        · exact Heap.lt_size t1
        · exact Nat.lt_trans hTO hSlt
        · exact Heap.lt_size g1
        · exact Heap.lt_size g2
      refine ⟨?_, f2⟩
      rw [upd_ne hcS, upd_ne (Nat.ne_of_lt hcl)]
      exact f1
    · exact st'.keep A1.kp A2.kp hSo2 hne fun c o hc e => (Heap.get?_update_other _ _ (Ne.symm hc)).trans e
    · have hg : (zipL xs ys)[i]'hlt = .tup [xs[i], ys[i]] := by
        have h1 := zipL_get xs ys i
        rw [List.getElem?_eq_getElem hlt, List.getElem?_eq_getElem hix, List.getElem?_eq_getElem hiy] at h1
        exact Option.some.inj h1
      rw [List.take_succ_eq_append_getElem hlt, hg]
      exact (lu.mono ex3.2).app (RepL.one r3)
theorem zip_no_len : typeLookup (.type "zip") "__len__" = pure none := am_miss_of_fast (by decide +kernel)
theorem zip_no_hint : typeLookup (.type "zip") "__length_hint__" = pure none := am_miss_of_fast (by decide +kernel)
set_option maxHeartbeats 8000000 in
theorem zl_init {R : Result → Shared → Prop} (D : ZipSep2 z TI TO i1 i2 [i1, a] [i2, b]) (A1 : Src X.prog X.w X.K p i1 a J1 L1) (A2 : Src X.prog X.w X.K q i2 b J2 L2) {A : Around} (hA : A.handled = none)
    (l1 : RepL X.K X.mg F1 xs vs) (hp : ∀ H, Sub F1 H → p H vs) (l2 : RepL X.K X.mg F1 ys ws) (hq : ∀ H, Sub F1 H → q H ws) (hlen : (zipL xs ys).length ≤ sizeLine) (hw : ι1.w S = none)
    (hne : S ≠ z ∧ S ≠ TI ∧ S ≠ TO ∧ S ≠ i1 ∧ S ≠ i2) (hTO : TO < S) {s : Shared} {H : Hp} (I : Inv X pins σ H s) (hf : ∀ c ∈ [z, TI, TO, i1, i2], FpOk X pins H c) (hz : ∃ a1 a2, IsZip s.heap z TI TO .none ∧ IsTupOf2 s.heap TO a1 a2) (hTI : IsTupOf2 s.heap TI (.ref i1) (.ref i2)) (hj1 : J1 0 s.heap) (hj2 : J2 0 s.heap)
    (sim : Sim X.K X.mg (ι1.on S []) F1 St H)
    (hR : ∀ s ι F H us, Ext ι1 F1 ι F → Inv X pins σ H s → Sim X.K X.mg (ι.on S us) F St H → RepL X.K X.mg F (zipL xs ys) us → R (.ok (.ret .none)) s) :
    wpAny (model X.prog X.w) A.in1 (Builtin.«list.__init__» ⟨[.ref S, .ref z], []⟩)
      (fun fin s' => match fin with | .done f => R (.ok f) s' | .again c' => c'.quiet = true ∧ codeAny (model X.prog X.w) A c' R s') (fun e s' => R (.error e) s') s := by
  have step : ∀ {s1 : Shared} {H1 : Hp} {us us' : List V} {f : Array Value → Array Value} {its its' : List Value} {n : Nat} {tk : Nat}, Inv X pins σ H1 s1 → (∀ c ∈ [z, TI, TO, i1, i2], FpOk X pins H1 c) → (∃ a1 a2, IsZip s1.heap z TI TO .none ∧ IsTupOf2 s1.heap TO a1 a2) → IsTupOf2 s1.heap TI (.ref i1) (.ref i2) → J1 0 s1.heap → J2 0 s1.heap → Sim X.K X.mg (ι1.on S us) F1 St H1 →
      s1.heap.get? S = some { cls := .type "list", data := .seq its.toArray n } → f its.toArray = its'.toArray → Vals us' its' → us'.length ≤ sizeLine →
      Inv X pins σ (upd H1 S (.lst us')) { s1 with heap := s1.heap.update S (Obj.mapSeq f), toks := tk } ∧ (∀ c ∈ [z, TI, TO, i1, i2], FpOk X pins (upd H1 S (.lst us')) c) ∧ (∃ a1 a2, IsZip (s1.heap.update S (Obj.mapSeq f)) z TI TO .none ∧ IsTupOf2 (s1.heap.update S (Obj.mapSeq f)) TO a1 a2) ∧ IsTupOf2 (s1.heap.update S (Obj.mapSeq f)) TI (.ref i1) (.ref i2) ∧ J1 0 (s1.heap.update S (Obj.mapSeq f)) ∧ J2 0 (s1.heap.update S (Obj.mapSeq f)) ∧ Sim X.K X.mg (ι1.on S us') F1 St (upd H1 S (.lst us')) := by
    intro s1 H1 us us' f its its' n tk I hf hz hTI hj1 hj2 sim e hfe hv hl
    have up : ∀ c o, c ≠ S → s1.heap.get? c = some o → (s1.heap.update S (Obj.mapSeq f)).get? c = some o := fun c o hc e => (Heap.get?_update_other _ _ (Ne.symm hc)).trans e
    refine ⟨I.lset (sim.at_on.1) e hfe hv hl, fun c hc => ?_, ?_, up _ _ (Ne.symm hne.2.1) hTI, A1.kp _ _ _ hj1 fun o e => up _ _ (Ne.symm hne.2.2.2.1) e, A2.kp _ _ _ hj2 fun o e => up _ _ (Ne.symm hne.2.2.2.2) e, sim.re_on hw _⟩
    · obtain ⟨f1, f2⟩ := hf c hc
      have hcS : c ≠ S := fun e => by rw [e, sim.at_on.1] at f1; cases f1
      exact ⟨by rw [upd_ne hcS]; exact f1, f2⟩
    · obtain ⟨x, y, h1, h2⟩ := hz
      exact ⟨x, y, up _ _ (Ne.symm hne.1) h1, up _ _ (Ne.symm hne.2.2.1) h2⟩
  obtain ⟨_, its0, n0, rits0, hS0⟩ := list_at I sim.at_on.1
  cases rits0
  show wpAny _ _ (do let old ← Builtin.List.listItems (.ref S); Builtin.List.listUpdate (.ref S) (fun _ => #[]); letGo old.toList.reverse; Builtin.List.listExtendWith (.ref S) (.ref z) .none) _ _ s
  refine wpAny_bind ?_
  unfold Builtin.List.listItems
  refine wpAny_bind (wpAny_seqItems hS0 rfl (wpAny_pure ?_))
  show wpAny _ _ (updateSeq S (fun _ => #[]) >>= fun _ => letGo (#[] : Array Value).toList.reverse >>= fun _ => Builtin.List.listExtendWith (.ref S) (.ref z) .none) _ _ s
  refine wpAny_bind (wpAny_updateSeq hS0 rfl ?_)
  obtain ⟨I1, hf1, hz1, hTI1, hj11, hj21, sim1⟩ := step (us' := []) (f := fun _ => #[]) (its := []) (its' := []) (tk := s.toks) I hf hz hTI hj1 hj2 sim hS0 rfl .nil (Nat.zero_le _)
  refine wpAny_bind (wpAny_letGo ?_)
  obtain ⟨_, its1, n1, rits1, hS1⟩ := list_at I1 sim1.at_on.1
  cases rits1
  unfold Builtin.List.listExtendWith
  obtain ⟨x0, y0, hz10, hz11⟩ := id hz1
  have hTy : ∀ {s2 : Shared}, (∃ a1 a2, IsZip s2.heap z TI TO .none ∧ IsTupOf2 s2.heap TO a1 a2) → s2.TypeIs (.ref z) "zip" := fun ⟨_, _, h, _⟩ => ⟨_, h, rfl⟩
  refine wpAny_bind (wpAny_typeOf (T := "zip") (hTy hz1) ?_)
  have h1 : Builtin.List.listSameRef (.ref S) (.ref z) = false := by simp [Builtin.List.listSameRef, hne.1]
  have h2 : (Value.type "zip" == Value.type "list") = false := by decide
  have h3 : (Value.type "zip" == Value.type "tuple") = false := by decide
  simp only [h1, h2, h3, Bool.or_false, Bool.false_eq_true, if_false]
  refine wpAny_bind (wpAny_pyIter_zip hz10 ?_)
  refine wpAny_bind (wpAny_holding ?_)
  unfold Builtin.List.listLengthHint
  refine wpAny_bind (wpAny_specialOf (hTy hz1) zip_no_len ?_)
  show wpAny _ _ (specialOf (Value.ref z) (Str.ofString "__length_hint__") >>= _) _ _ _
  refine wpAny_bind (wpAny_specialOf (hTy hz1) zip_no_hint ?_)
  refine wpAny_pure ?_
  show wpAny _ _ (rule "list.extend.makes-room" >>= fun _ => Builtin.List.listTouch (.ref S) >>= fun _ =>
    again (.builtin "list.extend.loop" ⟨[.ref S, .ref z, .none], []⟩)) _ _ _
  refine wpAny_bind (wpAny_rule ?_)
  refine wpAny_bind ?_
  show wpAny _ _ (updateSeq S (·.push .none) >>= fun _ => updateSeq S (·.pop)) _ _ _
  refine wpAny_bind (wpAny_updateSeq hS1 rfl ?_)
  obtain ⟨I2, hf2, hz2, hTI2, hj12, hj22, sim2⟩ := step (us' := [V.non]) (f := (·.push Value.none)) (its := []) (its' := [Value.none]) (tk := s.toks) I1 hf1 hz1 hTI1 hj11 hj21 sim1 hS1 rfl (.cons rfl .nil) (by show 1 ≤ sizeLine; decide)
  obtain ⟨_, its2, n2, rits2, hS2⟩ := list_at I2 sim2.at_on.1
  have e2 : its2 = [Value.none] := by
    cases rits2 with
    | cons r1 r2 =>
      cases r2
      have r1 : _ = Value.none := r1
      rw [r1]
  subst e2
  refine wpAny_updateSeq (hz := by seq_fits) hS2 rfl ?_
  obtain ⟨I3, hf3, hz3, hTI3, hj13, hj23, sim3⟩ := step (us' := []) (f := (·.pop)) (its := [Value.none]) (its' := []) (tk := s.toks) I2 hf2 hz2 hTI2 hj12 hj22 sim2 hS2 rfl .nil (Nat.zero_le _)
  refine wpAny_pure ⟨plainId_quiet PySem.F.plain_extend_loop _, ?_⟩
  obtain ⟨x3, y3, hz30, hz31⟩ := hz3
  exact zl_loop D A1 A2 hA l1 hp l2 hq hlen hw hne hTO hR _ 0 _ _ ι1 F1 [] (Nat.sub_zero _) (Nat.zero_le _) Ext.refl I3 hf3 ⟨hTI3, hj13, hj23, .inl ⟨x3, y3, hz30, hz31⟩⟩ sim3 (show RepL X.K X.mg F1 [] [] from rfl)
end
structure Kd (P : Program) (w : World) (K : PySem.W.Frag) (p : Hp → List V → Prop) (a : Addr) (J : Addr → Nat → Heap → Prop) (L : Array Value → Heap → Prop) (o : Obj) : Prop where
  src : ∀ i, a ≠ i → Src P w K p i a (J i) L
  beg : ∀ items, Begins (.ref a) o (L items)
  st : ∀ i h, h.get? i = some o → J i 0 h
  lt : ∀ items h, L items h → a < h.objs.size
theorem kd_tup {P : Program} {w : World} {K : PySem.W.Frag} {a : Addr} : Kd P w K (fun H xs => SqT K H a xs) a (fun i k h => h.IsTupleIter i a k) (fun items h => h.IsTuple a items) { cls := .type "tuple_iterator", data := .fields #[.ref a, .int 0 0] } where
  src i h := src_tup h
  beg items := begins_tuple a items
  st i h g := ⟨_, g, rfl, rfl⟩
  lt items h g := by obtain ⟨o, ho, _⟩ := g; exact Heap.lt_size ho
theorem kd_lst {P : Program} {w : World} {K : PySem.W.Frag} {a : Addr} : Kd P w K (fun H xs => SqL K H a xs) a (fun i k h => h.IsListIter i a k) (fun items h => h.IsList a items) { cls := .type "list_iterator", data := .fields #[.ref a, .int 0 0] } where
  src i h := src_lst h
  beg items := begins_list a items
  st i h g := ⟨_, g, rfl, rfl⟩
  lt items h g := by obtain ⟨o, ho, _⟩ := g; exact Heap.lt_size ho
section
variable {X : Cx} {pins : List (Addr × Obj)} {σ : L2.St} {p q : Hp → List V → Prop} {a b : Addr} {J1 J2 : Addr → Nat → Heap → Prop} {L1 L2 : Array Value → Heap → Prop} {ι1 : Plc} {F1 : Hp} {St : Store} {xs ys : List PV} {vs ws : List V} {o1 o2 : Obj}
theorem in5 (N c : Nat) (h : c = N + 4 ∨ c = N + 2 ∨ c = N + 3 ∨ c = N ∨ c = N + 1) : N ≤ c ∧ c ≠ N + 5 := by omega
theorem zl_call {Q : Value → Shared → Prop} {E : Value → Shared → Prop} (hc : X.calm = true) (k1 : Kd X.prog X.w X.K p a J1 L1 o1) (k2 : Kd X.prog X.w X.K q b J2 L2 o2) {s : Shared} {H : Hp} (I : Inv X pins σ H s) (sim : Sim X.K X.mg ι1 F1 St H)
    (l1 : RepL X.K X.mg F1 xs vs) (hp : ∀ H, Sub F1 H → p H vs) (l2 : RepL X.K X.mg F1 ys ws) (hq : ∀ H, Sub F1 H → q H ws) (hlen : (zipL xs ys).length ≤ sizeLine)
    (hR : ∀ D s' ι F H' us, ι1.w D = none → Ext ι1 F1 ι F → Inv X pins σ H' s' → Sim X.K X.mg (ι.on D us) F St H' → RepL X.K X.mg F (zipL xs ys) us → Q (.ref D) s') :
    wpAny (model X.prog X.w) X.A (call (.type "zip") [.ref a, .ref b]) (fun v s' => wpAny (model X.prog X.w) X.A (call (.type "list") [v]) Q E s') E s := by
  obtain ⟨us1, ru, lu1⟩ := (k1.src (a + 1) (Nat.ne_of_lt (Nat.lt_succ_self _))).rd X rfl rfl rfl pins σ H s vs I (hp H sim.sub)
  obtain ⟨us2, rw2, lu2⟩ := (k2.src (b + 1) (Nat.ne_of_lt (Nat.lt_succ_self _))).rd X rfl rfl rfl pins σ H s ws I (hq H sim.sub)
  have la := k1.lt _ _ lu1
  have lb := k2.lt _ _ lu2
  refine zip_begins2 (k1.beg us1.toArray) (k2.beg us2.toArray) lu1 lu2 fun h' nz nT nO g1 g2 nsz nk => ?_
  have fresh5 : ∀ c, s.heap.objs.size ≤ c → FpOk X pins H c := fun c hle => I.fpOk hle (I.hok.fresh hle)
  have I2 : Inv X pins σ H { s with heap := h' } := I.kept (t' := s.toks) nk
  have hA : X.A.in1.handled = none := I.ok.hd hc
  refine callType_codes (Q₁ := fun obj s₁ => obj = .ref h'.objs.size ∧ s₁ = { s with heap := h'.push { cls := .type "list", data := .seq #[] } }) PySem.F.called_list (PySem.F.typeCall_list_1 _) PySem.F.entry_list_init
    (code_list_new _ ⟨rfl, rfl⟩) fun obj s₁ h₁ => ?_
  obtain ⟨rfl, rfl⟩ := h₁
  have hS : (h'.push { cls := .type "list", data := .seq #[] }).get? h'.objs.size = some { cls := .type "list", data := .seq #[] } := Heap.get?_push_size _ rfl
  have hn : H h'.objs.size = none := I2.hok.fresh (Nat.le_refl _)
  have I3 : Inv X pins σ (upd H h'.objs.size (.lst [])) { s with heap := h'.push { cls := .type "list", data := .seq #[] } } := I2.lnew (its := []) (ys := []) (t' := s.toks) .nil (Nat.zero_le _)
  obtain ⟨sim3, hw⟩ := sim.new_on hn
  have up : ∀ {c o}, h'.get? c = some o → (h'.push { cls := .type "list", data := .seq #[] }).get? c = some o := fun e => Heap.get?_push_of_some _ e
  have hne : ∀ j, j < 5 → h'.objs.size ≠ s.heap.objs.size + j := fun j hj => by rw [nsz]; omega
  refine ⟨⟨_, hS, rfl⟩, PySem.F.args_list_init_2 _ _, zl_init (A := X.A.in1) (S := h'.objs.size) (sep5 _ a b la lb) (k1.src _ (Nat.ne_of_lt la)) (k2.src _ (ne5 _ _ 1 lb)) hA l1 hp l2 hq hlen hw ⟨hne 4 (by decide), hne 2 (by decide), hne 3 (by decide), hne 0 (by decide), hne 1 (by decide)⟩ (by rw [nsz]; exact Nat.lt_succ_of_lt (Nat.lt_succ_self _)) I3 (fun c hc => ?_)
    ⟨_, _, up nz, up nO⟩ (up nT) (k1.st _ _ (up g1)) (k2.st _ _ (up g2)) sim3 fun s' ι F H' us ex I' sim' lu => ⟨rfl, hR _ s' ι F H' us hw ex I' sim' lu⟩⟩
  have hcs : s.heap.objs.size ≤ c ∧ c ≠ h'.objs.size := by
    simp only [List.mem_cons, List.not_mem_nil, or_false] at hc
    rw [nsz]
    exact in5 _ _ hc
  obtain ⟨f1, f2⟩ := fresh5 c hcs.1
  exact ⟨by rw [upd_ne hcs.2]; exact f1, f2⟩
end
section
variable {X : Cx} {e1 e2 : Expr} {p p2 pos q : Pos} {fa fb : VS}
theorem mkL_len {m : Bool} {xs : List PV} {S S' : Store} {z : SV} (h : mkL m xs S = .ok z S') : xs.length ≤ line := by
  unfold mkL at h
  split at h
  · assumption
  · cases h
theorem s_lzip {m : Bool} (hc : X.calm = true) (hg : Gl X "list") (hm : X.mg "list" = none) (hg2 : Gl X "zip") (hm2 : X.mg "zip" = none) (ha : PE X e1 (rdE X.K X.mg fa)) (hb : PE X e2 (rdE X.K X.mg fb)) (hs : noStar e1 = true) (hs2 : noStar e2 = true) :
    PE X (.Call (.Name "list" p) [.Call (.Name "zip" p2) [e1, e2] [] q] [] pos) (rdE X.K X.mg (sLzip m fa fb)) := by
  have pas := pa_cons ha (pa_cons hb pa_nil (star_one hs2 _ _)) (star_one hs _ _)
  refine ⟨fun pins s σ H Q I h => ?_⟩
  obtain ⟨ι, F, S, ρ, zz, S', sim, r, hz, fin⟩ := h
  obtain ⟨x, S1, h1, hz⟩ := bind_ok hz
  obtain ⟨y, S2, h2, hz⟩ := bind_ok hz
  have hz0 : (zipOp x y S2).bind (fun zs S1 => mkL m zs S1) = .ok zz S' := hz
  clear hz
  obtain ⟨zs, S3, h3, hz4⟩ := bind_ok hz0
  clear hz0
  have hz : mkL m zs S3 = .ok zz S' := hz4
  clear hz4
  refine Call_ (ld_blt I hg hm (show bootBuiltins "list" = some (.type "list") by decide +kernel) ?_)
  refine PyProof.Rows.callWith_type1 (PyProof.Rows.args_cons ?_ rfl) rfl rfl
  refine Call_ (ld_blt I hg2 hm2 PyProof.Rows.boot_zip (PyProof.Rows.callWith_type1 (thn (pas.run q pins s σ H (fun vs H1 => ∃ v w ι2 F2, vs = [v, w] ∧ Ext ι F ι2 F2 ∧ Sim X.K X.mg ι2 F2 S2 H1 ∧ RepS X.K X.mg F2 ι2 x v ∧ RepS X.K X.mg F2 ι2 y w) I
    ⟨ι, F, S, ρ, x, S1, sim, r, h1, fun ι1 F1 v H1 e1 s1 r1 => ⟨ι1, F1, S1, ρ, y, S2, s1, r.mono e1, h2, fun ι2 F2 w H2 e2 s2 r2 => ⟨v, w, ι2, F2, rfl, e1.trans e2, s2, r1.mono e2, r2⟩⟩⟩) fun us s1 ⟨vs, H1, I1, rr, v, w, ι2, F2, ev, ex, s2, r1, r2⟩ => ?_) (star_one hs _ _) (by rw [star_one hs2]; rfl)))
  subst ev
  obtain ⟨u1, us, rfl, m1, rr⟩ : ∃ u1 us', us = u1 :: us' ∧ RelV v u1 ∧ Vals [w] us' := by cases rr with | cons m r => exact ⟨_, _, rfl, m, r⟩
  obtain ⟨u2, us, rfl, m2, rr⟩ : ∃ u2 us', us = u2 :: us' ∧ RelV w u2 ∧ Vals [] us' := by cases rr with | cons m r => exact ⟨_, _, rfl, m, r⟩
  cases rr
  have hS3 : S3 = S2 ∧ ∀ zl, zs.length ≤ zl → zs.length ≤ zl := by
    unfold zipOp at h3
    split at h3 <;> first | (cases h3; exact ⟨rfl, fun _ h => h⟩) | cases h3
  obtain ⟨rfl, -⟩ := hS3
  have hl : zs.length ≤ sizeLine := by
    rw [← line_eq]
    exact mkL_len hz
  have core : ∀ {P Q' : Hp → List V → Prop} {a b : Addr} {J1 J2 : Addr → Nat → Heap → Prop} {L1 L2 : Array Value → Heap → Prop} {o1 o2 : Obj} {xs ys : List PV} {vs ws : List V}, Kd X.prog X.w X.K P a J1 L1 o1 → Kd X.prog X.w X.K Q' b J2 L2 o2 → v = .ref a → w = .ref b → RepL X.K X.mg F2 xs vs → (∀ H, Sub F2 H → P H vs) → RepL X.K X.mg F2 ys ws → (∀ H, Sub F2 H → Q' H ws) → zs = zipL xs ys →
      wpAny (model X.prog X.w) X.A (call (.type "zip") [u1, u2]) (fun v s' => wpAny (model X.prog X.w) X.A (call (.type "list") [v]) (fun u s3 => ∃ (v : V) (H3 : Hp), Inv X pins σ H3 s3 ∧ RelV v u ∧ Q v H3) X.xe s') X.xe s1 := by
    intro P Q' a b J1 J2 L1 L2 o1 o2 xs ys vs ws k1 k2 hv hw l1 hp l2 hq hzs
    subst hv hw hzs
    obtain rfl : u1 = Value.ref a := m1
    obtain rfl : u2 = Value.ref b := m2
    refine zl_call hc k1 k2 I1 s2 l1 hp l2 hq hl fun D s' ι3 F3 H' us hwD ex3 I' sim' lu => ⟨.ref D, H', I', rfl, ?_⟩
    exact comp_end hz ex3 sim' (by rw [ex3.1.2]; exact hwD) lu fun ι4 F4 u4 H4 e4 s4 r4 => fin ι4 F4 u4 H4 (ex.trans e4) s4 r4
  have done : wpAny (model X.prog X.w) X.A (call (.type "zip") [u1, u2]) (fun v s' => wpAny (model X.prog X.w) X.A (call (.type "list") [v]) (fun u s3 => ∃ (v : V) (H3 : Hp), Inv X pins σ H3 s3 ∧ RelV v u ∧ Q v H3) X.xe s') X.xe s1 := by
    unfold zipOp at h3
    split at h3
    · cases h3
      obtain ⟨p1, vs1, hv1, l1, hq1⟩ := s2.seqT r1 rfl
      obtain ⟨p2, vs2, hv2, l2, hq2⟩ := s2.seqT r2 rfl
      exact core kd_tup kd_tup hv1 hv2 l1 (fun H h => h.sqT hq1.sqT) l2 (fun H h => h.sqT hq2.sqT) rfl
    · cases h3
      obtain ⟨p1, vs1, hv1, hq1, l1⟩ := r1
      obtain ⟨p2, vs2, hv2, hq2, l2⟩ := r2
      exact core kd_lst kd_lst hv1 hv2 l1 (fun H h => .inl (h.rd hq1)) l2 (fun H h => .inl (h.rd hq2)) rfl
    · cases h3
      obtain ⟨p1, vs1, hv1, l1, hq1⟩ := s2.seqT r1 rfl
      obtain ⟨p2, vs2, hv2, hq2, l2⟩ := r2
      exact core kd_tup kd_lst hv1 hv2 l1 (fun H h => h.sqT hq1.sqT) l2 (fun H h => .inl (h.rd hq2)) rfl
    · cases h3
      obtain ⟨p1, vs1, hv1, hq1, l1⟩ := r1
      obtain ⟨p2, vs2, hv2, l2, hq2⟩ := s2.seqT r2 rfl
      exact core kd_lst kd_tup hv1 hv2 l1 (fun H h => .inl (h.rd hq1)) l2 (fun H h => h.sqT hq2.sqT) rfl
    · cases h3
  exact wpAny_mono done (fun v s' h => PyProof.Rows.args_nil h) fun _ _ h => h
end
end FW

namespace FW
open PySem PySem.Spec PyProof.Rows L2 RZ
theorem intsP_eq : ∀ {xs : List PV} {ns : List Int}, intsP xs = some ns → xs = ns.map .int
  | [], ns, h => by cases h; rfl
  | .int i :: xs, ns, h => by
    unfold intsP at h
    obtain ⟨m, h1, rfl⟩ := Option.map_eq_some_iff.mp h
    rw [intsP_eq h1]
    rfl
  | .non :: _, _, h => by cases h
  | .bl _ :: _, _, h => by cases h
  | .str _ :: _, _, h => by cases h
  | .tup _ :: _, _, h => by cases h
  | .lst _ :: _, _, h => by cases h
  | .fn _ :: _, _, h => by cases h
  | .dic _ _ :: _, _, h => by cases h
section
variable {K : PySem.W.Frag} {mg : PySem.Str → Option Value} {F H : Hp} {ι : Plc} {S : Store} {P : Addr → Prop}
def GR (P : Addr → Prop) (H : Hp) : List (Int × List Int) → List (L2.Key × V) → Prop
  | [], ws => ws = []
  | (b, l) :: r, ws => ∃ q t, ws = (.inl b, .ref q) :: t ∧ P q ∧ H q = some (.lst (l.map V.int)) ∧ (∀ w ∈ t, w.2 ≠ .ref q) ∧ GR P H r t
theorem GR.mem {g : List (Int × List Int)} {ws : List (L2.Key × V)} (h : GR P H g ws) : ∀ w ∈ ws, ∃ q xs, w.2 = .ref q ∧ P q ∧ H q = some (.lst xs) := by
  induction g generalizing ws with
  | nil => cases h; intro w hw; cases hw
  | cons a r ih =>
    obtain ⟨b, l⟩ := a
    obtain ⟨q, t, rfl, hp, hq, hne, ht⟩ := h
    intro w hw
    rcases List.mem_cons.mp hw with rfl | hw
    · exact ⟨q, _, rfl, hp, hq⟩
    · exact ih ht w hw
theorem GR.upd {y : Addr} {o : HO} {g : List (Int × List Int)} {ws : List (L2.Key × V)} (h : GR P H g ws) (hy : ∀ w ∈ ws, w.2 ≠ .ref y) : GR P (upd H y o) g ws := by
  induction g generalizing ws with
  | nil => exact h
  | cons a r ih =>
    obtain ⟨b, l⟩ := a
    obtain ⟨q, t, rfl, hp, hq, hne, ht⟩ := h
    refine ⟨q, t, rfl, hp, ?_, hne, ih ht fun w hw => hy w (List.mem_cons_of_mem _ hw)⟩
    rw [upd_ne fun e => hy _ List.mem_cons_self (by rw [e])]
    exact hq
theorem GR.len {g : List (Int × List Int)} {ws : List (L2.Key × V)} (h : GR P H g ws) : ws.length = g.length := by
  induction g generalizing ws with
  | nil => cases h; rfl
  | cons a r ih =>
    obtain ⟨b, l⟩ := a
    obtain ⟨q, t, rfl, hp, hq, hne, ht⟩ := h
    simp [ih ht]
theorem GR.step {g : List (Int × List Int)} {ws : List (L2.Key × V)} (h : GR P H g ws) (x k : Int) :
    (∃ (q : Addr) (l : List Int), valV ws (.inl x) = some (.ref q) ∧ P q ∧ H q = some (.lst (l.map V.int)) ∧ l.length ≤ (g.map fun a => a.2.length).sum ∧ GR P (L2.upd H q (.lst (l.map V.int ++ [V.int k]))) (gput g x k) ws) ∨
    (valV ws (.inl x) = none ∧ ∀ H' : Hp, ∀ q, GR P H' g ws → P q → H' q = some (.lst [V.int k]) → (∀ w ∈ ws, w.2 ≠ .ref q) → GR P H' (gput g x k) (ws ++ [(.inl x, .ref q)])) := by
  induction g generalizing ws with
  | nil =>
    cases h
    refine .inr ⟨rfl, fun H' q _ hp hq _ => ⟨q, [], rfl, hp, hq, fun w hw => (List.not_mem_nil hw).elim, rfl⟩⟩
  | cons a r ih =>
    obtain ⟨b, l⟩ := a
    obtain ⟨q, t, rfl, hp, hq, hne, ht⟩ := h
    by_cases hb : b = x
    · subst hb
      refine .inl ⟨q, l, ?_, hp, hq, by simp, ?_⟩
      · simp [valV]
      · unfold gput
        rw [if_pos rfl]
        refine ⟨q, t, rfl, hp, by rw [upd_same]; simp, hne, ht.upd hne⟩
    · have hv : valV ((Sum.inl b, V.ref q) :: t) (.inl x) = valV t (.inl x) := by
        have : ¬ ((Sum.inl b : L2.Key) = .inl x) := fun e => hb (Sum.inl.inj e)
        simp [valV, List.find?_cons, this]
      have hg : gput ((b, l) :: r) x k = (b, l) :: gput r x k := by
        show (if b = x then _ else _) = _
        rw [if_neg hb]
      rw [hg]
      rcases ih ht with ⟨q2, l2, h1, h2, h3, h4, h5⟩ | ⟨h1, h2⟩
      · have hqq : q2 ≠ q := fun e => by
          unfold valV at h1
          obtain ⟨w, hw, e2⟩ := Option.map_eq_some_iff.mp h1
          exact hne w (List.mem_of_find?_eq_some hw) (by rw [e2, e])
        refine .inl ⟨q2, l2, hv.trans h1, h2, h3, by simp; omega, q, t, rfl, hp, ?_, hne, h5⟩
        rw [upd_ne (Ne.symm hqq)]
        exact hq
      · refine .inr ⟨hv.trans h1, fun H' q2 hg2 hp2 hq2 hn2 => ?_⟩
        obtain ⟨q', t', e, hp', hq', hne', ht'⟩ := hg2
        cases e
        refine ⟨q, t ++ [(.inl x, .ref q2)], rfl, hp, hq', fun w hw => ?_, h2 H' q2 ht' hp2 hq2 fun w hw => hn2 w (List.mem_cons_of_mem _ hw)⟩
        rcases List.mem_append.mp hw with hw | hw
        · exact hne w hw
        · rw [List.mem_singleton.mp hw]
          intro e
          exact hn2 _ List.mem_cons_self e.symm
theorem Sim.keepF (s : Sim K mg ι F S H) {q : Addr} {o : HO} (hH : H q = some o) (hF : F q = none) (hι : q ∉ ι.l) (hw : ι.w q = none) : Sim K mg ι (L2.upd F q o) S H ∧ Ext ι F ι (L2.upd F q o) := by
  refine ⟨⟨fun a u e => ?_, s.len, s.nd, fun a u e => ?_, fun n x e => ?_⟩, ⟨⟨⟨[], by simp⟩, rfl⟩, sub_upd hF⟩⟩
  · by_cases ha : a = q
    · subst ha; rw [upd_same] at e; cases e; exact hH
    · rw [upd_ne ha] at e; exact s.sub _ _ e
  · obtain ⟨h1, h2, h3⟩ := s.frm a u e
    have ha : a ≠ q := fun z => by subst z; rw [hw] at e; cases e
    exact ⟨h1, by rw [upd_ne ha]; exact h2, h3⟩
  · obtain ⟨a, u, h1, h2, h3⟩ := s.at_ n x e
    have ha : a ≠ q := fun z => by subst z; exact hι (List.mem_of_getElem? h1)
    refine ⟨a, u, h1, h2, ?_⟩
    cases x with
    | lst xs => obtain ⟨k1, vs, k2, k3⟩ := h3; exact ⟨by rw [upd_ne ha]; exact k1, vs, k2, k3.mono (sub_upd hF)⟩
    | dic kvs => obtain ⟨k1, vs, k2, k3⟩ := h3; exact ⟨by rw [upd_ne ha]; exact k1, vs, k2, k3.mono (sub_upd hF)⟩
    | dtt kvs => obtain ⟨k1, vs, k2, k3⟩ := h3; exact ⟨by rw [upd_ne ha]; exact k1, vs, k2, k3.mono (sub_upd hF)⟩
    | gone => trivial
theorem GR.freeze {a : Addr} : ∀ {g : List (Int × List Int)} {ws : List (L2.Key × V)} {F : Hp}, Sim K mg ι F S H → F a = none → (∀ q, P q → q ∉ ι.l ∧ ι.w q = none ∧ q ≠ a) → (∀ w ∈ ws, ∀ q, w.2 = .ref q → F q = none) → GR P H g ws →
    ∃ F', Sim K mg ι F' S H ∧ Ext ι F ι F' ∧ F' a = none ∧ RepD K mg F' (grpO g) ws
  | [], ws, F, s, ha, hP, hF, h => by cases h; exact ⟨F, s, Ext.refl, ha, rfl⟩
  | (b, l) :: r, ws, F, s, ha, hP, hF, h => by
    obtain ⟨q, t, rfl, hp, hq, hne, ht⟩ := h
    obtain ⟨p1, p2, p3⟩ := hP q hp
    obtain ⟨s1, e1⟩ := s.keepF hq (hF _ List.mem_cons_self q rfl) p1 p2
    obtain ⟨F', s2, e2, ha2, hd⟩ := GR.freeze (F := L2.upd F q (.lst (l.map V.int))) s1 (by rw [upd_ne (Ne.symm p3)]; exact ha) hP (fun w hw q' e => by
      rw [upd_ne fun z => hne w hw (by rw [e, z])]
      exact hF w (List.mem_cons_of_mem _ hw) q' e) ht
    refine ⟨F', s2, e1.trans e2, ha2, .inl b, .ref q, t, rfl, rfl, ?_, hd⟩
    have : RepL K mg F' (l.map PV.int) (l.map V.int) := RepL.ofInts l
    exact ⟨q, _, rfl, .inl (e2.2 _ _ upd_same), this⟩
end
theorem upd_id {H : Hp} {a : Addr} {o : HO} (h : H a = some o) : L2.upd H a o = H := by
  funext b
  by_cases hb : b = a
  · subst hb; rw [upd_same, h]
  · rw [upd_ne hb]
theorem gput_sum : ∀ (g : List (Int × List Int)) (a k : Int), ((gput g a k).map fun x => x.2.length).sum = (g.map fun x => x.2.length).sum + 1
  | [], _, _ => rfl
  | (b, l) :: r, a, k => by
    unfold gput
    split
    · simp; omega
    · simp [gput_sum r a k]; omega
theorem grpL_sum (ns : List Int) : ∀ k, ((grpL ns k).map fun x => x.2.length).sum = k
  | 0 => rfl
  | k + 1 => by unfold grpL; rw [gput_sum, grpL_sum ns k]
theorem gput_len : ∀ (g : List (Int × List Int)) (a k : Int), (gput g a k).length ≤ g.length + 1
  | [], _, _ => Nat.le_refl _
  | (b, l) :: r, a, k => by
    unfold gput
    split
    · simp
    · have := gput_len r a k; simp; omega
theorem grpL_len (ns : List Int) : ∀ k, (grpL ns k).length ≤ k
  | 0 => Nat.le_refl _
  | k + 1 => by unfold grpL; exact Nat.le_trans (gput_len _ _ _) (Nat.succ_le_succ (grpL_len ns k))
section
variable {X : Cx} {d nm mny kv : Nat} {xd xn xm xk : PySem.Str}
theorem s_grp {p0 p1 p2 p3 p4 p5 p6 p7 p8 p9 pa apos apos2 cpos cpos2 pos : Pos} (hN : X.N.Nodup) (hp : PassesOwn (model X.prog X.w) X.A X.env X.xe) (hc : X.calm = true) (hg : Gl X "range") (hm : X.mg "range" = none)
    (id_ : X.N[d]? = some xd) (vd : Vis X.env.scope xd) (dd : (xd == ("__debug__" : PySem.Str)) = false) (cd : (xd == ("__classdict__" : PySem.Str)) = false)
    (in_ : X.N[nm]? = some xn) (vn : Vis X.env.scope xn) (dn : (xn == ("__debug__" : PySem.Str)) = false) (cn : (xn == ("__classdict__" : PySem.Str)) = false)
    (im : X.N[mny]? = some xm) (vm : Vis X.env.scope xm) (dm : (xm == ("__debug__" : PySem.Str)) = false) (cm : (xm == ("__classdict__" : PySem.Str)) = false)
    (ik : X.N[kv]? = some xk) (vk : Vis X.env.scope xk) (dk : (xk == ("__debug__" : PySem.Str)) = false) (ck : (xk == ("__classdict__" : PySem.Str)) = false)
    (lk : Loc X.env.scope xk) (fk : X.fn xk = true ∨ X.env.scope.names.lookup xk = some .local) (hl1 : (apos.endLine == cpos.line) = true) (hl2 : (apos2.endLine == cpos2.line) = true) :
    PS X (.For (.Name xk p0) (.Call (.Name "range" p1) [.Name xm p2] [] p3) [.Expr (.Call (.Attribute (.Call (.Attribute (.Name xd p4) "setdefault" apos) [.Subscript (.Name xn p5) (.Name xk p6) p7, .List [] p8] [] cpos) "append" apos2) [.Name xk p9] [] cpos2) pa] [] pos)
      (rdS X.K X.mg (sGrp d nm mny kv)) := by
  have hst : ∀ {es : List Expr} {x : PySem.Str} {p : Pos}, starEach (.Name x p :: es) X.env = (false, eval (.Name x p) X.env) :: starEach es X.env := rfl
  have hix : PE X (.Subscript (.Name xn p5) (.Name xk p6) p7) (tOp (rIxL X.K) (tVar nm) (tVar kv)) := pe_ix ix_list (pe_var in_ vn dn cn) (pe_var ik vk dk ck) (plainIx_ok rfl)
  have hsd := pe_dsetd (pe_var id_ vd dd cd (pos := p4)) hix (pe_lst (pos := p8) (pa_nil (X := X))) (apos := apos) (cpos := cpos) ⟨rfl, rfl, hl1, rfl⟩
  have hb := ps_expr (pos := pa) (pe_bm (apos := apos2) (cpos := cpos2) F.plainAttrs_list F.slot_list_append F.type_list_append mt_append hsd (pa_cons (pe_var ik vk dk ck (pos := p9)) pa_nil rfl) rfl rfl hl2 rfl rfl) rfl
  refine ps_mono (ps_for hp hc (pi_range1 hg hm (pa_cons (pe_var im vm dm cm) pa_nil rfl) rfl) (pg_name hN ik lk fk) (pss_one hb) fun _ => rfl) fun D σ H h => ?_
  obtain ⟨ι, F, S, ρ, r, S', sim, rr, hf, q⟩ := h
  unfold sGrp at hf
  split at hf
  case h_2 => cases hf
  rename_i p xs n gd gn gm
  split at hf
  case h_2 => cases hf
  rename_i ns hns
  split at hf
  case isFalse => cases hf
  rename_i hcnd
  simp only [Bool.and_eq_true, decide_eq_true_eq] at hcnd
  obtain ⟨⟨⟨⟨⟨h0, rfl⟩, hl⟩, hdk⟩, hnk⟩, hkl0⟩ := hcnd
  cases hf
  have hxs := intsP_eq hns
  subst hxs
  obtain ⟨vd', sd, rd⟩ := rr.get gd
  obtain ⟨a, ia, rfl⟩ := rd
  obtain ⟨vn', sn, rn⟩ := rr.get gn
  obtain ⟨pn, vs, rfl, hpn, lvs⟩ := rn
  obtain ⟨vm', sm, rm⟩ := rr.get gm
  cases rm
  have hS : S[p]? = some (.dic []) := by
    unfold isD0 at h0
    split at h0
    · rename_i e; exact e
    · cases h0
  obtain ⟨a', o, ia', hHa, hFa, ws0, rfl, hw0⟩ := sim.at_ p _ hS
  rw [ia] at ia'
  cases ia'
  cases hw0
  have hal : a ∈ ι.l := List.mem_of_getElem? ia
  have sim0 : Sim X.K X.mg ι F (S.set p .gone) H := by
    have := sim.write (x := .gone) ia hFa (o := .dK []) trivial
    rw [upd_id hHa] at this
    exact this
  have hvs : vs = ns.map V.int := by
    have : RepL X.K X.mg F (ns.map PV.int) (ns.map V.int) := RepL.ofInts ns
    clear rr
    have fn : ∀ (l : List Int) (us : List V), RepL X.K X.mg F (l.map PV.int) us → us = l.map V.int := fun l => by
      induction l with
      | nil => intro us h; exact h
      | cons i l ih =>
        intro us h
        obtain ⟨v, t, rfl, e, h⟩ := h
        cases e
        rw [ih t h]
        rfl
    exact fn ns vs lvs
  subst hvs
  refine ⟨.int ns.length, sm, (ns.length : Int), rfl, by omega, by omega, ?_⟩
  rw [Int.toNat_natCast]
  refine ⟨fun i m σ' H' => m = ns.length - i ∧ i ≤ ns.length ∧ RepR X.K X.mg F ι (ρ.set kv none) σ' ∧ σ'[d]? = some (some (.ref a)) ∧ σ'[nm]? = some (some (.ref pn)) ∧ σ'.length = σ.length ∧ Sim X.K X.mg ι F (S.set p .gone) H' ∧
    ∃ ws, H' a = some (.dK ws) ∧ GR (fun q => F q = none ∧ q ∉ ι.l ∧ ι.w q = none) H' (grpL ns i) ws, ⟨_, rfl, Nat.zero_le _, rr.forget kv, sd, sn, rfl, sim0, [], hHa, rfl⟩, ?_⟩
  rintro i m σ1 H1 ⟨rfl, hi, r1, sd1, sn1, sl1, s1, ws, hw, gr⟩
  by_cases hlt : i < ns.length
  · refine .inr ⟨hlt, _, fun σ' H' p' => ⟨ns.length - (i + 1), by omega, rfl, hlt, p'⟩, fun v H' y => ?_⟩
    obtain ⟨rfl, rfl⟩ := y
    rw [Int.zero_add]
    have hkl : kv < σ1.length := by
      rw [sl1, ← rr.1]
      exact hkl0
    have hns1 : SqL X.K H' pn (ns.map V.int) := .inl (s1.sub.rd hpn)
    have hai : atI (ns.map V.int) (i : Int) = some (V.int (ns.getD i 0)) := by
      refine atI_of (n := i) ?_ ?_
      · rw [List.length_map]
        unfold ix?
        rw [if_pos (by omega)]
        simp [hlt]
      · rw [List.getElem?_map, List.getD_eq_getElem?_getD, List.getElem?_eq_getElem hlt]
        rfl
    have g1 : (σ1.set kv (some (V.int (i : Int))))[d]? = some (some (.ref a)) := by rw [List.getElem?_set_ne (Ne.symm hdk)]; exact sd1
    have g2 : (σ1.set kv (some (V.int (i : Int))))[nm]? = some (some (.ref pn)) := by rw [List.getElem?_set_ne (Ne.symm hnk)]; exact sn1
    have g3 : (σ1.set kv (some (V.int (i : Int))))[kv]? = some (some (.int (i : Int))) := List.getElem?_set_self hkl
    have r2 : RepR X.K X.mg F ι (ρ.set kv none) (σ1.set kv (some (V.int (i : Int)))) := by
      have := (r1.set (x := .v (.int (i : Int))) (v := V.int (i : Int)) rfl kv).forget kv
      rw [List.set_set, List.set_set] at this
      exact this
    have hwl : ws.length < sizeLine := by
      have := gr.len
      have := grpL_len ns i
      rw [sizeLine_eq]
      omega
    refine ⟨.ref a, g1, a, rfl, .inl ⟨ws, .inl hw⟩, .ref pn, g2, .int (i : Int), g3, pn, _, (i : Int), _, rfl, rfl, hns1, hai, ?_⟩
    refine ⟨by simp, fun q0 hq0 => ?_⟩
    obtain ⟨fq, lq⟩ := s1.fresh hq0
    have wq : ι.w q0 = none := by
      cases e : ι.w q0 with
      | none => rfl
      | some o => rw [(s1.frm q0 o e).1] at hq0; cases hq0
    have hqa : a ≠ q0 := fun e => by rw [← e, hw] at hq0; cases hq0
    have nq : ∀ w ∈ ws, w.2 ≠ .ref q0 := fun w hw' e => by
      obtain ⟨q', xs, e', _, hx⟩ := gr.mem w hw'
      rw [e] at e'
      cases e'
      rw [hq0] at hx
      cases hx
    have s2 : Sim X.K X.mg ι F (S.set p .gone) (L2.upd H' q0 (.lst [])) := s1.drop fq lq wq
    have gr2 := gr.upd (o := .lst []) nq
    refine ⟨ws, .inl (ns.getD i 0), by rw [upd_ne hqa]; exact hw, rfl, hwl, fun v hv => ?_, fun hv => ?_⟩
    · rcases gr2.step (ns.getD i 0) (i : Int) with ⟨q, l, h1, h2, h3, h4, h5⟩ | ⟨h1, _⟩
      · rw [hv] at h1
        cases h1
        have hll : l.length ≤ i := by rw [grpL_sum] at h4; exact h4
        have hqa2 : a ≠ q := fun e => h2.2.1 (e ▸ hal)
        refine ⟨.inl ⟨rfl, _, .inl (.inl h3)⟩, .int (i : Int), g3, q, _, .int (i : Int), rfl, rfl, h3, by rw [List.length_map, sizeLine_eq]; omega, ?_⟩
        refine ⟨r2, g1, g2, by rw [List.length_set]; exact sl1, s2.drop h2.1 h2.2.1 h2.2.2, ws, by rw [upd_ne hqa2, upd_ne hqa]; exact hw, h5⟩
      · rw [hv] at h1
        cases h1
    · rcases gr2.step (ns.getD i 0) (i : Int) with ⟨q, l, h1, h2, h3, h4, h5⟩ | ⟨_, h5⟩
      · rw [hv] at h1
        cases h1
      · have hput : putK ws (.inl (ns.getD i 0)) (V.ref q0) = ws ++ [(.inl (ns.getD i 0), V.ref q0)] := by
          unfold putK
          rw [if_neg]
          intro e
          obtain ⟨w, hw1, hw2⟩ := List.any_eq_true.mp e
          unfold valV at hv
          have := List.find?_eq_none.mp (Option.map_eq_none_iff.mp hv) w hw1
          exact this hw2
        rw [hput]
        have s3 := s2.write (x := .gone) ia hFa (o := .dK (ws ++ [(.inl (ns.getD i 0), V.ref q0)])) trivial
        rw [List.set_set] at s3
        have h6 : L2.upd (L2.upd H' q0 (.lst [])) a (.dK (ws ++ [(.inl (ns.getD i 0), V.ref q0)])) q0 = some (.lst []) := by rw [upd_ne (Ne.symm hqa), upd_same]
        refine ⟨.inl ⟨rfl, _, .inl (.inl h6)⟩, .int (i : Int), g3, q0, _, .int (i : Int), rfl, rfl, h6, by rw [sizeLine_eq]; decide, ?_⟩
        refine ⟨r2, g1, g2, by rw [List.length_set]; exact sl1, s3.drop fq lq wq, _, by rw [upd_ne hqa, upd_same], ?_⟩
        refine h5 _ q0 ?_ ⟨fq, lq, wq⟩ upd_same nq
        refine GR.upd (GR.upd gr2 fun w hw' e => ?_) nq
        obtain ⟨q', xs, e', hq', _⟩ := gr2.mem w hw'
        rw [e] at e'
        cases e'
        exact hq'.2.1 hal
  · have hie : i = ns.length := by omega
    subst hie
    refine .inl ⟨Nat.le_refl _, ?_⟩
    obtain ⟨F', s2, e2, ha2, hd2⟩ := gr.freeze (a := a) s1 hFa (fun q hq => ⟨hq.2.1, hq.2.2, fun e => hq.2.1 (e ▸ hal)⟩) fun w hw q e => by
      obtain ⟨q', xs, e', hq', _⟩ := gr.mem w hw
      rw [e] at e'
      cases e'
      exact hq'.1
    have s3 := s2.write (x := .dic (grpO (grpL ns ns.length))) ia ha2 (o := .dK ws) ⟨ha2, ws, rfl, hd2⟩
    rw [upd_id hw, List.set_set] at s3
    exact q _ _ _ e2 s3 _ (r1.mono e2)
end
end FW

namespace FW
open PySem PySem.Spec PyProof.Rows L2 RZ

structure Ctx where
  N : List PySem.Str
  sc : Scope
  raw : Option Scope
  glob : List (PySem.Str × PV)
  fs : List PySem.Str
  blt : List PySem.Str
def isM1 : CE → Bool
  | .neg (.k (.int 1)) => true
  | _ => false
theorem isM1_eq {c : CE} (h : isM1 c = true) : c = .neg (.k (.int 1)) := by
  unfold isM1 at h
  split at h
  · rfl
  · cases h
mutual
def pvEq : PV → PV → Bool
  | .non, .non => true
  | .bl a, .bl b => a == b
  | .int i, .int j => decide (i = j)
  | .str a, .str b => decide (a = b)
  | .tup xs, .tup ys => pvEqs xs ys
  | .lst xs, .lst ys => pvEqs xs ys
  | .fn a, .fn b => decide (a = b)
  | .dic a b, .dic c d => pvEqs a c && pvEqs b d
  | _, _ => false
def pvEqs : List PV → List PV → Bool
  | [], [] => true
  | x :: xs, y :: ys => pvEq x y && pvEqs xs ys
  | _, _ => false
end
mutual
theorem pvEq_ok : ∀ {x y : PV}, pvEq x y = true → x = y
  | .non, y, h => by cases y <;> simp [pvEq] at h ⊢
  | .bl a, y, h => by cases y <;> simp [pvEq] at h ⊢; exact h
  | .int i, y, h => by cases y <;> simp [pvEq] at h ⊢; exact h
  | .str a, y, h => by cases y <;> simp [pvEq] at h ⊢; exact h
  | .tup xs, y, h => by cases y <;> simp [pvEq] at h ⊢; exact pvEqs_ok h
  | .lst xs, y, h => by cases y <;> simp [pvEq] at h ⊢; exact pvEqs_ok h
  | .fn a, y, h => by cases y <;> simp [pvEq] at h ⊢; exact h
  | .dic a b, y, h => by cases y <;> simp [pvEq] at h ⊢; exact ⟨pvEqs_ok h.1, pvEqs_ok h.2⟩
theorem pvEqs_ok : ∀ {xs ys : List PV}, pvEqs xs ys = true → xs = ys
  | [], ys, h => by cases ys <;> simp [pvEqs] at h ⊢
  | x :: xs, ys, h => by
    cases ys with
    | nil => simp [pvEqs] at h
    | cons y ys =>
      simp only [pvEqs, Bool.and_eq_true] at h
      rw [pvEq_ok h.1, pvEqs_ok h.2]
end
def glB (C : Ctx) (n : PySem.Str) : Bool := decide (C.sc.names.lookup n = some .globalImplicit)
def visB (C : Ctx) (x : PySem.Str) : Bool := match C.sc.names.lookup x with
  | some .local => true
  | some .cell => true
  | some .free => true
  | _ => false
def locB (C : Ctx) (x : PySem.Str) : Bool := match C.sc.names.lookup x with
  | some .local => true
  | some .cell => true
  | _ => false
def lclB (C : Ctx) (x : PySem.Str) : Bool := decide (C.sc.names.lookup x = some .local)
def stB (C : Ctx) (x : PySem.Str) : Bool := match C.raw with
  | none => true
  | some s => (s.names.lookup x == some .cell) || lclB C x
def nameB (x : PySem.Str) : Bool := !(x == ("__debug__" : PySem.Str)) && !(x == ("__classdict__" : PySem.Str))
def bltB (C : Ctx) (n : PySem.Str) : Bool := glB C n && decide (n ∈ C.blt) && nameB n && decide (n ≠ "__name__")
def globB (C : Ctx) (n : PySem.Str) (x : PV) : Bool := C.glob.any fun p => decide (p.1 = n) && pvEq p.2 x
def Ctx.blk (C : Ctx) (scope : Scope) : Ctx := { C with sc := relS scope C.sc, raw := some scope }
def plainT : Expr → Bool
  | .UnaryOp _ _ _ => false
  | .BoolOp _ _ _ => false
  | .IfExp _ _ _ _ => false
  | .Compare _ _ _ _ => false
  | _ => true
theorem plainT_ok {a : Expr} (h : plainT a = true) {env : Env} : ∀ whole, isTrue a env whole = (do let v ← whole; standAt a.pos; holding [v] (truthy v)) := by
  intro whole
  cases a <;> first | rfl | simp [plainT] at h
theorem neg_ok {a : Expr} {pos : Pos} {env : Env} : ∀ whole, isTrue (.UnaryOp .USub a pos) env whole = (do let v ← whole; standAt (Expr.UnaryOp .USub a pos).pos; holding [v] (truthy v)) := fun _ => rfl
def plainIter : Expr → Bool
  | .Set _ _ _ => false
  | _ => true
theorem plainIter_ok {a : Expr} (h : plainIter a = true) {env : Env} : ∀ x, foldedSetIterable a env x = pure x := by
  intro x
  cases a <;> first | rfl | simp [plainIter] at h
def bi1 (b : BI) : Option PySem.Str := match b with
  | .len => some "len" | .int => some "int" | .abs => some "abs" | .sum => some "sum" | .tuple => some "tuple" | .list => some "list" | .sorted => some "sorted" | .min1 => some "min" | .max1 => some "max" | _ => none
def bi2 (b : BI) : Option PySem.Str := match b with
  | .min2 => some "min" | .max2 => some "max" | _ => none
def okTy (C : Ctx) (T : Ty) (e : Expr) : Bool := match e with
  | .Name n _ => decide (n = PySem.Str.ofString (tyName T)) && bltB C n
  | _ => false
def okTys (C : Ctx) : List Ty → List Expr → Bool
  | [], [] => true
  | T :: ts, e :: es => okTy C T e && okTys C ts es
  | _, _ => false
def ownS (C : Ctx) (own : List Nat) : List (PySem.Str × Nat) := own.map fun j => (C.N.getD j ⟨#[]⟩, j)
theorem ownS_2 {C : Ctx} {own : List Nat} : (ownS C own).map (·.2) = own := by
  unfold ownS
  rw [List.map_map]
  show own.map (fun j => j) = own
  simp
mutual
def slG : CG → List Nat
  | .name i => [i]
  | .tup gs => slGs gs
def slGs : CGs → List Nat
  | .nil => []
  | .cons g gs => slG g ++ slGs gs
end
mutual
def okG (C : Ctx) : CG → Expr → Bool
  | .name i, e => match e with
    | .Name x _ => decide (C.N[i]? = some x) && locB C x && stB C x
    | _ => false
  | .tup gs, e => match e with
    | .Tuple es _ _ => okGs C gs es
    | _ => false
def okGs (C : Ctx) : CGs → List Expr → Bool
  | .nil, [] => true
  | .cons g gs, e :: es => okG C g e && okGs C gs es
  | _, _ => false
end
def isNonK : CE → Bool
  | .k .non => true
  | _ => false
def isTrueK : CE → Bool
  | .k (.bl true) => true
  | _ => false
mutual
def okE (C : Ctx) : CE → Expr → Bool
  | .var i, e => match e with
    | .Name x _ => decide (C.N[i]? = some x) && visB C x && nameB x
    | _ => false
  | .k x, e => match e with
    | .Constant k _ _ => decide (kOf x = some k)
    | _ => false
  | .glob n x, e => match e with
    | .Name m _ => decide (m = n) && glB C n && nameB n && globB C n x && notDic x
    | _ => false
  | .tup es, e => match e with
    | .Tuple xs _ _ => okL C es xs
    | _ => false
  | .list _ es, e => match e with
    | .List xs _ => okL C es xs
    | _ => false
  | .bin o _ a b, e => match e with
    | .BinOp x op y _ => decide (op = opOf o) && okE C a x && okE C b y
    | _ => false
  | .neg a, e => match e with
    | .UnaryOp op x _ => decide (op = .USub) && okE C a x
    | _ => false
  | .nt a, e => match e with
    | .UnaryOp op x _ => decide (op = .Not) && okE C a x
    | _ => false
  | .and es, e => match e with
    | .BoolOp op xs _ => decide (op = .And) && okA C es xs
    | _ => false
  | .or es, e => match e with
    | .BoolOp op xs _ => decide (op = .Or) && okA C es xs
    | _ => false
  | .cmp o a b, e => match e with
    | .Compare x [op] [y] _ => decide (op = opC o) && okE C a x && okE C b y && !(behindInMarks op y)
    | _ => false
  | .chain o o' a b c, e => match e with
    | .Compare x [op, op'] [y, z] _ => decide (op = opC o) && decide (op' = opC o') && okE C a x && okE C b y && okE C c z && !(lastMarks [op, op'] [y, z])
    | _ => false
  | .ite c a b, e => match e with
    | .IfExp x y z _ => okE C c x && okE C a y && okE C b z
    | _ => false
  | .call i es, e => match e with
    | .Call (.Name n _) args [] _ => decide (C.fs[i]? = some n) && glB C n && nameB n && okL C es args
    | _ => false
  | .fnv n, e => match e with
    | .Name m _ => decide (m = n) && glB C n && nameB n && decide (n ∈ C.fs)
    | _ => false
  | .callv f es, e => match e with
    | .Call fe (a :: as) [] _ => okE C f fe && callHead fe && okL C es (a :: as)
    | _ => false
  | .index a x, e => match e with
    | .Call (.Attribute (.Name y p) m apos) [z] [] cpos => decide (m = "index") && okE C a (.Name y p) && okE C x z && noStar z && (apos.endLine == cpos.line)
    | _ => false
  | .indexG n xs x, e => match e with
    | .Call (.Attribute (.Name y _) m apos) [z] [] cpos => decide (m = "index") && decide (y = n) && glB C n && nameB n && globB C n (.tup xs) && okE C x z && noStar z && (apos.endLine == cpos.line)
    | _ => false
  | .bi b _ es, e => match e with
    | .Call (.Name n _) [x] [] _ => (bltB C n && decide (bi1 b = some n) && okL C es [x]) || (decide (b = .sortedSet) && bltB C n && decide (n = "sorted") && (match x with
      | .Call (.Name n2 _) [y] [] _ => bltB C n2 && decide (n2 = "set") && okL C es [y]
      | _ => false)) || (decide (b = .sortedKeys) && bltB C n && decide (n = "sorted") && (match x with
      | .Call (.Attribute (.Name y p) k apos) [] [] mpos => decide (k = "keys") && okL C es [.Name y p] && (apos.endLine == mpos.line)
      | _ => false)) || (decide (n = "list") && bltB C n && (match x with
      | .Call (.Name n2 _) ys [] _ => bltB C n2 && decide (n2 = "range") && okL C es ys && decide (rgK b = some ys.length)
      | _ => false)) || (decide (b = .lenSet) && bltB C n && decide (n = "len") && (match x with
      | .Call (.Name n2 _) [y] [] _ => bltB C n2 && decide (n2 = "set") && okL C es [y]
      | _ => false)) || (decide (n = "tuple") && bltB C n && (match x with
      | .Call (.Name n2 _) ys [] _ => bltB C n2 && decide (n2 = "range") && okL C es ys && decide (rgT b = some ys.length)
      | _ => false))
    | .Call (.Name n _) [x, y] [] _ => bltB C n && decide (bi2 b = some n) && okL C es [x, y]
    | _ => false
  | .isi ts a, e => match e with
    | .Call (.Name n _) [x, T] [] _ => bltB C n && decide (n = "isinstance") && okE C a x && noStar x && (match T with
      | .Tuple Ts _ _ => okTys C ts Ts && decide (ts.length ≤ 8)
      | T => (match ts with
        | [t] => okTy C t T
        | _ => false))
    | _ => false
  | .idx a i, e => match e with
    | .Subscript x y _ => okE C a x && okE C i y && plainIx y
    | _ => false
  | .ixE i a, e => match e with
    | .Subscript (.Name x _) y _ => decide (C.N[i]? = some x) && visB C x && nameB x && okE C a y && plainIx y
    | _ => false
  | .dtt0, e => match e with
    | .Dict [] [] _ => true
    | _ => false
  | .getT d k x, e => match e with
    | .Call (.Attribute (.Name y p) m apos) [z, w] [] cpos => decide (m = "get") && okE C d (.Name y p) && okE C k z && okE C x w && noStar z && noStar w && (apos.endLine == cpos.line)
    | _ => false
  | .idxT d k, e => match e with
    | .Subscript x y _ => okE C d x && okE C k y && plainIx y
    | _ => false
  | .keysT _ d, e => match e with
    | .Call (.Name n _) [.Call (.Attribute (.Name y p) k apos) [] [] mpos] [] _ => bltB C n && decide (n = "sorted") && decide (k = "keys") && okE C d (.Name y p) && (apos.endLine == mpos.line)
    | _ => false
  | .slc _ a lo hi, e => match e with
    | .Subscript x (.Slice l h none _) _ => okE C a x && (match l with
      | none => isNonK lo
      | some l => okE C lo l && !isNonC lo) && (match h with
      | none => isNonK hi
      | some h => okE C hi h && !isNonC hi)
    | _ => false
  | .comp _ own tg it c elt, e => match e with
    | .ListComp x [⟨g, i, ifs, 0⟩] scope _ => blkC C.N C.sc scope (ownS C own) && (slG tg).all (fun t => decide (t ∈ own)) && okI C it g i && plainIter i && okG (C.blk scope) tg g && (match ifs with
      | [] => isTrueK c
      | [y] => okE (C.blk scope) c y
      | _ => false) && okE (C.blk scope) elt x
    | _ => false
  | .compN own tg it c elt, e => match e with
    | .ListComp x [⟨g, i, ifs, 0⟩] scope _ => blkC C.N C.sc scope (ownS C own) && (slG tg).all (fun t => decide (t ∈ own)) && okI C it g i && plainIter i && okG (C.blk scope) tg g && (match ifs with
      | [] => isTrueK c
      | [y] => okE (C.blk scope) c y
      | _ => false) && okE (C.blk scope) elt x
    | _ => false
  | .comp2 _ own own2 tg it c tg2 it2 c2 elt, e => match e with
    | .ListComp x [⟨g, i, ifs, 0⟩, ⟨g2, i2, ifs2, 0⟩] scope _ => blkC C.N C.sc scope (ownS C own) && own2.all (fun t => decide (t ∈ own)) && (slG tg).all (fun t => decide (t ∈ own)) && (slG tg2).all (fun t => decide (t ∈ own2)) && okI C it g i && plainIter i && okG (C.blk scope) tg g && (match ifs with
      | [] => isTrueK c
      | [y] => okE (C.blk scope) c y
      | _ => false) && okI (C.blk scope) it2 g2 i2 && plainIter i2 && okG (C.blk scope) tg2 g2 && (match ifs2 with
      | [] => isTrueK c2
      | [y] => okE (C.blk scope) c2 y
      | _ => false) && okE (C.blk scope) elt x
    | _ => false
  | .dic0, e => match e with
    | .Dict [] [] _ => true
    | _ => false
  | .get d k x, e => match e with
    | .Call (.Attribute (.Name y p) m apos) [z, w] [] cpos => decide (m = "get") && okE C d (.Name y p) && okE C k z && okE C x w && noStar z && noStar w && (apos.endLine == cpos.line)
    | _ => false
  | .rev _ a, e => match e with
    | .Subscript x (.Slice none none (some (.UnaryOp op (.Constant k _ _) _)) _) _ => decide (op = .USub) && decide (k = .int 1) && okE C a x
    | _ => false
  | .slcS _ k a, e => match e with
    | .Subscript x (.Slice (some (.Constant c1 _ _)) none (some (.Constant c2 _ _)) _) _ => decide (c2 = .int 2) && (decide (c1 = .int 0) && decide (k = 0) || decide (c1 = .int 1) && decide (k = 1)) && okE C a x
    | .Subscript x (.Slice none (some (.Constant c1 _ _)) (some (.UnaryOp op (.Constant c2 _ _) _)) _) _ => decide (op = .USub) && decide (c2 = .int 1) && decide (c1 = .int 0) && decide (k = 2) && okE C a x
    | _ => false
  | .dcomp own tg it c k x, e => match e with
    | .DictComp kx vx [⟨g, i, ifs, 0⟩] scope _ => blkC C.N C.sc scope (ownS C own) && (slG tg).all (fun t => decide (t ∈ own)) && okI C it g i && plainIter i && okG (C.blk scope) tg g && (match ifs with
      | [] => isTrueK c
      | [y] => okE (C.blk scope) c y
      | _ => false) && okE (C.blk scope) k kx && okE (C.blk scope) x vx
    | _ => false
  | .dicd es, e => match e with
    | .Dict ks vs _ => okD C es ks vs && !ks.isEmpty && decide (ks.length ≤ 15)
    | _ => false
  | .dicP, e => match e with
    | .Dict [] [] _ => true
    | _ => false
  | .count a x, e => match e with
    | .Call (.Attribute (.Name y p) m apos) [z] [] cpos => decide (m = "count") && okE C a (.Name y p) && okE C x z && noStar z && (apos.endLine == cpos.line)
    | _ => false
  | .lzip _ a b, e => match e with
    | .Call (.Name n _) [.Call (.Name z _) [x, y] [] _] [] _ => bltB C n && decide (n = "list") && bltB C z && decide (z = "zip") && okE C a x && okE C b y && noStar x && noStar y
    | _ => false
  | .gin neg n ks vs a, e => match e with
    | .Compare x [op] [.Name m p] _ => decide (op = if neg = true then .NotIn else .In) && decide (m = n) && glB C n && nameB n && globB C n (.dic ks vs) && okE C a x && !(behindInMarks op (.Name m p))
    | _ => false
  | .gidx n ks vs a, e => match e with
    | .Subscript (.Name m _) y _ => decide (m = n) && glB C n && nameB n && globB C n (.dic ks vs) && okE C a y && plainIx y
    | _ => false
  | .lvals _ d, e => match e with
    | .Call (.Name n _) [.Call (.Attribute (.Name y p) m apos) [] [] cpos] [] _ => bltB C n && decide (n = "list") && decide (m = "values") && okE C d (.Name y p) && (apos.endLine == cpos.line)
    | _ => false
/-- keys and values in turn -/
def okD (C : Ctx) : CL → List (Option Expr) → List Expr → Bool
  | .nil, [], [] => true
  | .cons k r, some x :: ks, vs => okE C k x && okDv C r ks vs
  | _, _, _ => false
def okDv (C : Ctx) : CL → List (Option Expr) → List Expr → Bool
  | .cons v r, ks, y :: vs => okE C v y && okD C r ks vs
  | _, _, _ => false
def okL (C : Ctx) : CL → List Expr → Bool
  | .nil, [] => true
  | .cons c cs, e :: es => okE C c e && noStar e && okL C cs es
  | _, _ => false
/-- the parts of an and / or -/
def okA (C : Ctx) : CL → List Expr → Bool
  | .cons c cs, e :: es => okE C c e && (match cs, es with
    | .nil, [] => true
    | .nil, _ :: _ => false
    | .cons _ _, es => okA C cs es)
  | _, _ => false
def okI (C : Ctx) : CI → Expr → Expr → Bool
  | .seq c, _, e => okE C c e
  | .rng1 a, _, e => match e with
    | .Call (.Name n _) [x] [] _ => bltB C n && decide (n = "range") && okE C a x && noStar x
    | _ => false
  | .rng2 a b, _, e => match e with
    | .Call (.Name n _) [x, y] [] _ => bltB C n && decide (n = "range") && okE C a x && noStar x && okE C b y && noStar y
    | _ => false
  | .rng3 a b c, _, e => match e with
    | .Call (.Name n _) [x, y, z] [] _ => bltB C n && decide (n = "range") && okE C a x && noStar x && okE C b y && noStar y && isM1 c && okE C c z && noStar z
    | _ => false
  | .zip2 a b, tg, e => match tg, e with
    | .Tuple _ _ _, .Call (.Name n _) [x, y] [] _ => bltB C n && decide (n = "zip") && okE C a x && noStar x && okE C b y && noStar y
    | _, _ => false
  | .enum a, tg, e => match tg, e with
    | .Tuple _ _ _, .Call (.Name n _) [x] [] _ => bltB C n && decide (n = "enumerate") && okE C a x && noStar x
    | _, _ => false
  | .items d, tg, e => match tg, e with
    | .Tuple _ _ _, .Call (.Attribute (.Name y p) m apos) [] [] cpos => decide (m = "items") && okE C d (.Name y p) && (apos.endLine == cpos.line)
    | _, _ => false
  | .values d, _, e => match e with
    | .Call (.Attribute (.Name y p) m apos) [] [] cpos => decide (m = "values") && okE C d (.Name y p) && (apos.endLine == cpos.line)
    | _ => false
  | .keys d, _, e => okE C d e
end
end FW

namespace FW
open PySem PySem.Spec PyProof.Rows L2 RZ

structure Fit (C : Ctx) (Γ : List (PySem.Str × Fn)) (X : Cx) (k : Nat) : Prop where
  N : X.N = C.N
  nd : X.N.Nodup
  sc : X.env.scope = C.sc
  calm : X.calm = true
  xe : X.xe = fun _ _ => False
  room : Room k X.A
  st : ∀ x, stB C x = true → X.fn x = true ∨ X.env.scope.names.lookup x = some .local
  fo : ∀ (i : Nat) (n : PySem.Str), C.fs[i]? = some n → ∃ f, Γ[i]? = some (n, f) ∧ FO X.prog X.w X.K X.mg X.base k n f
  fl : ∀ n f, Γ.lookup n = some f → FO X.prog X.w X.K X.mg X.base k n f
  glob : ∀ p ∈ C.glob, GlobOk X.K X.mg p.1 p.2
  blt : ∀ n ∈ C.blt, X.mg n = none
section
variable {C : Ctx} {Γ : List (PySem.Str × Fn)} {X : Cx} {k : Nat}
theorem Fit.blk (G : Fit C Γ X k) (s : Shared) (H : Hp) (scope : Scope) (D : Addr) (cl : List (PySem.Str × Addr)) (fp : List Addr) : Fit (C.blk scope) Γ (X.blk s H scope (compEnvC scope cl D X.env) fp) k where
  N := G.N
  nd := G.nd
  sc := by show relS scope X.env.scope = relS scope C.sc; rw [G.sc]
  calm := G.calm
  xe := rfl
  room := G.room
  st x h := by
    simp only [stB, Ctx.blk, Bool.or_eq_true] at h
    rcases h with h | h
    · exact .inl h
    · right
      show (relS scope X.env.scope).names.lookup x = _
      rw [G.sc]
      exact of_decide_eq_true h
  fo := G.fo
  fl := G.fl
  glob := G.glob
  blt := G.blt
theorem Fit.ix (G : Fit C Γ X k) {i : Nat} {x : PySem.Str} (h : C.N[i]? = some x) : X.N[i]? = some x := by rw [G.N]; exact h
theorem Fit.gl (G : Fit C Γ X k) {n : PySem.Str} (h : glB C n = true) : Gl X n := by
  show X.env.scope.names.lookup n = _
  rw [G.sc]
  exact of_decide_eq_true h
theorem Fit.vis (G : Fit C Γ X k) {n : PySem.Str} (h : visB C n = true) : Vis X.env.scope n := by
  rw [G.sc]
  unfold visB at h
  split at h
  · exact .inl (by assumption)
  · exact .inr (.inl (by assumption))
  · exact .inr (.inr (by assumption))
  · cases h
theorem Fit.loc (G : Fit C Γ X k) {n : PySem.Str} (h : locB C n = true) : L2.Loc X.env.scope n := by
  rw [G.sc]
  unfold locB at h
  split at h
  · exact .inl (by assumption)
  · exact .inr (by assumption)
  · cases h
theorem Fit.lcl (G : Fit C Γ X k) {n : PySem.Str} (h : lclB C n = true) : X.env.scope.names.lookup n = some .local := by
  rw [G.sc]
  exact of_decide_eq_true h
theorem nameB_ok {x : PySem.Str} (h : nameB x = true) : (x == ("__debug__" : PySem.Str)) = false ∧ (x == ("__classdict__" : PySem.Str)) = false := by
  simp only [nameB, Bool.and_eq_true, Bool.not_eq_true'] at h
  exact h
theorem Fit.bl (G : Fit C Γ X k) {n : PySem.Str} (h : bltB C n = true) : Gl X n ∧ X.mg n = none ∧ (n == ("__debug__" : PySem.Str)) = false ∧ n ≠ "__name__" := by
  simp only [bltB, Bool.and_eq_true, decide_eq_true_eq] at h
  obtain ⟨⟨⟨h1, h2⟩, h3⟩, h4⟩ := h
  exact ⟨G.gl h1, G.blt n h2, (nameB_ok h3).1, h4⟩
theorem Fit.hp (G : Fit C Γ X k) : PassesOwn (model X.prog X.w) X.A X.env X.xe := by rw [G.xe]; exact PassesOwn.never
theorem Fit.hu (G : Fit C Γ X k) : X.A.units + 65 < cLine := by have := G.room.un; omega
theorem Fit.gk (G : Fit C Γ X k) {n : PySem.Str} {x : PV} (h : globB C n x = true) : GlobOk X.K X.mg n x := by
  unfold globB at h
  rw [List.any_eq_true] at h
  obtain ⟨p, hp, h⟩ := h
  simp only [Bool.and_eq_true, decide_eq_true_eq] at h
  obtain ⟨rfl, h2⟩ := h
  have := pvEq_ok h2
  subst this
  exact G.glob p hp
theorem evL_len : ∀ (cs : CL) (es : List Expr), okL C cs es = true → ∀ ρ S xs S', evL Γ cs ρ S = .ok xs S' → xs.length = es.length
  | .nil, [], _, ρ, S, xs, S', h => by cases h; rfl
  | .nil, _ :: _, h, _, _, _, _, _ => by simp [okL] at h
  | .cons _ _, [], h, _, _, _, _, _ => by simp [okL] at h
  | .cons c cs, e :: es, hk, ρ, S, xs, S', h => by
    simp only [okL, Bool.and_eq_true] at hk
    obtain ⟨x, S1, h1, h⟩ := bind_ok h
    obtain ⟨ys, S2, h2, h⟩ := bind_ok h
    cases h
    rw [List.length_cons, List.length_cons, evL_len cs es hk.2 ρ S1 ys S' h2]
theorem okL_star : ∀ (cs : CL) (es : List Expr), okL C cs es = true → ∀ e ∈ es, noStar e = true
  | .nil, [], _, _, h => by cases h
  | .nil, _ :: _, h, _, _ => by simp [okL] at h
  | .cons _ _, [], h, _, _ => by simp [okL] at h
  | .cons c cs, e :: es, hk, x, h => by
    simp only [okL, Bool.and_eq_true] at hk
    rcases List.mem_cons.mp h with rfl | h
    · exact hk.1.2
    · exact okL_star cs es hk.2 x h
theorem boot1 {b : BI} {n : PySem.Str} (h : bi1 b = some n) (m : Bool) (hc : X.calm = true) (hu : X.A.units + 65 < cLine) : ∃ f, Blt X n (rdO X.K X.mg f) ∧ ∀ x S, biOp b m [x] S = f x S := by
  cases b <;> simp only [bi1, Option.some.injEq, reduceCtorEq] at h <;> subst h
  · exact ⟨bLen, .fn "len" (by decide +kernel) bi_len, fun _ _ => rfl⟩
  · exact ⟨bInt, .ty "int" (by decide +kernel) bi_int, fun _ _ => rfl⟩
  · exact ⟨bAbs, .fn "abs" (by decide +kernel) bi_abs, fun _ _ => rfl⟩
  · exact ⟨bSum, .fn "sum" (by decide +kernel) (bi_sum hc), fun _ _ => rfl⟩
  · exact ⟨bMin1, .fn "min" (by decide +kernel) (bi_min1 hc hu), fun _ _ => rfl⟩
  · exact ⟨bMax1, .fn "max" (by decide +kernel) (bi_max1 hc hu), fun _ _ => rfl⟩
  · exact ⟨bTuple, .ty "tuple" (by decide +kernel) bi_tuple, fun _ _ => rfl⟩
  · exact ⟨bList m, .ty "list" (by decide +kernel) bi_list, fun _ _ => rfl⟩
  · exact ⟨bSorted m, .fn "sorted" (by decide +kernel) (bi_sorted hu), fun _ _ => rfl⟩
theorem boot2 {b : BI} {n : PySem.Str} (h : bi2 b = some n) (m : Bool) (hc : X.calm = true) : ∃ f, Blt X n (rdP X.K X.mg f) ∧ ∀ x y S, biOp b m [x, y] S = f x y S := by
  cases b <;> simp only [bi2, Option.some.injEq, reduceCtorEq] at h <;> subst h
  · exact ⟨bMin2, .fn "min" (by decide +kernel) (bi_min2 hc), fun _ _ _ => rfl⟩
  · exact ⟨bMax2, .fn "max" (by decide +kernel) (bi_max2 hc), fun _ _ _ => rfl⟩
theorem okTys_get (G : Fit C Γ X k) : ∀ {ts : List Ty} {es : List Expr}, okTys C ts es = true → (∀ i : Nat, ∀ e, es[i]? = some e → ∃ T p, ts[i]? = some T ∧ e = .Name (PySem.Str.ofString (tyName T)) p) ∧ es.length = ts.length ∧
    (∀ T ∈ ts, Gl X (PySem.Str.ofString (tyName T)) ∧ X.mg (PySem.Str.ofString (tyName T)) = none)
  | [], [], _ => ⟨fun i e h => by simp at h, rfl, fun T h => by cases h⟩
  | [], _ :: _, h => by simp [okTys] at h
  | _ :: _, [], h => by simp [okTys] at h
  | T :: ts, e :: es, h => by
    simp only [okTys, Bool.and_eq_true] at h
    obtain ⟨g1, g2, g3⟩ := okTys_get G h.2
    have h1 := h.1
    unfold okTy at h1
    split at h1
    · rename_i n p
      simp only [Bool.and_eq_true, decide_eq_true_eq] at h1
      obtain ⟨rfl, h1⟩ := h1
      obtain ⟨b1, b2, _, _⟩ := G.bl h1
      refine ⟨fun i e he => ?_, by simp [g2], fun T' hT => ?_⟩
      · cases i with
        | zero => simp at he; subst he; exact ⟨T, p, rfl, rfl⟩
        | succ i => simpa using g1 i e (by simpa using he)
      · rcases List.mem_cons.mp hT with rfl | hT
        · exact ⟨b1, b2⟩
        · exact g3 T' hT
    · cases h1
theorem isTrueK_ok {c : CE} (h : isTrueK c = true) : c = .k (.bl true) := by
  unfold isTrueK at h
  split at h
  · rfl
  · cases h
theorem isNonK_ok {c : CE} (h : isNonK c = true) : c = .k .non := by
  unfold isNonK at h
  split at h
  · rfl
  · cases h
theorem pts_yes : PTs X [] (rdT X.K X.mg (ev Γ (.k (.bl true))).t) := ⟨fun pins s σ H Q I h => by
  obtain ⟨ι, F, S, ρ, x, S', sim, r, hf, q⟩ := h
  cases hf
  exact pts_nil.run pins s σ H Q I (q _ _ _ Ext.refl sim)⟩
theorem s_ite_t {c a b : Expr} {pos : Pos} {cs as bs : Sm} (hc : PT X c (rdT X.K X.mg cs.t)) (ha : PT X a (rdT X.K X.mg as.t)) (hb : PT X b (rdT X.K X.mg bs.t)) : PT X (.IfExp c a b pos) (rdT X.K X.mg (sIte cs as bs).t) := ⟨fun pins s σ H Q I h => by
  obtain ⟨ι, F, S, ρ, x, S', sim, r, hf, q⟩ := h
  obtain ⟨t, S1, h1, hf⟩ := bind_ok hf
  show wpAny _ _ (PySem.isTrue (.IfExp c a b pos) X.env _) _ _ _
  unfold PySem.isTrue
  refine wpAny_bind (thn (hc.run pins s σ H (fun b H1 => b = t ∧ ∃ ι1 F1, Ext ι F ι1 F1 ∧ Sim X.K X.mg ι1 F1 S1 H1) I ⟨ι, F, S, ρ, t, S1, sim, r, h1, fun ι1 F1 H1 e1 s1 => ⟨rfl, ι1, F1, e1, s1⟩⟩) fun b s1 ⟨H1, I1, eb, ι1, F1, e1, sim1⟩ => ?_)
  subst eb
  cases b with
  | true => exact ha.run pins s1 σ H1 Q I1 ⟨ι1, F1, S1, ρ, x, S', sim1, r.mono e1, hf, fun ι2 F2 H2 e2 s2 => q _ _ _ (e1.trans e2) s2⟩
  | false => exact hb.run pins s1 σ H1 Q I1 ⟨ι1, F1, S1, ρ, x, S', sim1, r.mono e1, hf, fun ι2 F2 H2 e2 s2 => q _ _ _ (e1.trans e2) s2⟩⟩
def Both (X : Cx) (e : Expr) (m : Sm) : Prop := PE X e (rdE X.K X.mg m.v) ∧ PT X e (rdT X.K X.mg m.t)
theorem both_v {e : Expr} {f : VS} (h : PE X e (rdE X.K X.mg f)) (hp : plainT e = true) : Both X e (ofV f) := ⟨h, s_tru h (plainT_ok hp)⟩
def wkT : Expr → Bool
  | .Tuple _ _ _ => true
  | _ => false
mutual
theorem g_sound (G : Fit C Γ X k) : ∀ (g : CG) (e : Expr), okG C g e = true → PG X e (rdG X.K X.mg (wkT e) (bindG g) (slG g)) ∧ noStar e = true
  | .name i, e, h => by
    unfold okG at h
    split at h
    · simp only [Bool.and_eq_true, decide_eq_true_eq] at h
      obtain ⟨⟨h1, h2⟩, h3⟩ := h
      have h1' := G.ix h1
      exact ⟨by simpa only [bindG, slG, wkT] using g_name G.nd h1' (G.loc h2) (G.st _ h3), rfl⟩
    · cases h
  | .tup gs, e, h => by
    unfold okG at h
    split at h
    · obtain ⟨h1, h2, h3⟩ := gs_sound G gs _ h
      refine ⟨pg_mono (g_tup (wk := true) G.calm h1 h2 h3) fun v σ H Q h => ?_, rfl⟩
      obtain ⟨ι, F, S, ρ, x, ρ', sim, r, rx, hg, q⟩ := h
      refine ⟨ι, F, S, ρ, x, ρ', sim, r, rx, ?_, q⟩
      cases x <;> simp only [bindG, reduceCtorEq] at hg ⊢ <;> exact hg
    · cases h
theorem gs_sound (G : Fit C Γ X k) : ∀ (gs : CGs) (es : List Expr), okGs C gs es = true → PGs X es (rdGs X.K X.mg (bindGs gs) (slGs gs)) ∧ (∀ e ∈ es, noStar e = true) ∧ ∀ xs ρ ρ', bindGs gs xs ρ = some ρ' → xs.length = es.length
  | .nil, [], _ => by
    refine ⟨pgs_mono gs_nil fun v σ H Q h => ?_, fun e h => (by cases h), fun xs ρ ρ' h => ?_⟩
    · obtain ⟨ι, F, S, ρ, xs, ρ', sim, r, l, hg, q⟩ := h
      refine ⟨ι, F, S, ρ, xs, ρ', sim, r, l, ?_, q⟩
      cases xs with
      | nil => simpa [bindGs] using hg
      | cons x xs => simp [bindGs] at hg
    · cases xs with
      | nil => rfl
      | cons x xs => simp [bindGs] at h
  | .nil, _ :: _, h => by simp [okGs] at h
  | .cons _ _, [], h => by simp [okGs] at h
  | .cons g gs, e :: es, h => by
    simp only [okGs, Bool.and_eq_true] at h
    obtain ⟨a1, a2⟩ := g_sound G g e h.1
    obtain ⟨b1, b2, b3⟩ := gs_sound G gs es h.2
    refine ⟨pgs_mono (gs_cons a1 b1 a2) fun v σ H Q h => ?_, fun x hx => ?_, fun xs ρ ρ' h => ?_⟩
    · obtain ⟨ι, F, S, ρ, xs, ρ', sim, r, l, hg, q⟩ := h
      refine ⟨ι, F, S, ρ, xs, ρ', sim, r, l, ?_, q⟩
      cases xs with
      | nil => simp [bindGs] at hg
      | cons x xs => simp only [bindGs] at hg; exact hg
    · rcases List.mem_cons.mp hx with rfl | hx
      · exact a2
      · exact b2 x hx
    · cases xs with
      | nil => simp [bindGs] at h
      | cons x xs =>
        simp only [bindGs] at h
        split at h
        · rw [List.length_cons, List.length_cons, b3 _ _ _ h]
        · cases h
end
def okTests (C : Ctx) (c : CE) (ifs : List Expr) : Bool := match ifs with
  | [] => isTrueK c
  | [y] => okE C c y
  | _ => false
theorem tests_sound {X : Cx} {c : CE} {ifs : List Expr} (ih : ∀ e, okE C c e = true → Both X e (ev Γ c)) (h : okTests C c ifs = true) : PTs X ifs (rdT X.K X.mg (ev Γ c).t) := by
  unfold okTests at h
  split at h
  · have := isTrueK_ok h
    subst this
    exact pts_yes
  · exact pts_one (ih _ h).2
  · cases h
theorem both_cmp {o : COp} {a b : Expr} {op : CmpOp} {pos : Pos} {fa fb : VS} (G : Fit C Γ X k) (e : op = opC o) (ha : PE X a (rdE X.K X.mg fa)) (hb : PE X b (rdE X.K X.mg fb)) (hm : behindInMarks op b = false) : Both X (.Compare a [op] [b] pos) (sCmp o fa fb) := by
  subst e
  exact ⟨s_cmp_v G.hu ha hb hm, s_cmp_t G.hu ha hb hm⟩
theorem both_chain {o o' : COp} {a b c : Expr} {op op' : CmpOp} {pos : Pos} {fa fb fc : VS} (G : Fit C Γ X k) (e : op = opC o) (e' : op' = opC o') (ha : PE X a (rdE X.K X.mg fa)) (hb : PE X b (rdE X.K X.mg fb)) (hc : PE X c (rdE X.K X.mg fc)) (hm : lastMarks [op, op'] [b, c] = false) : Both X (.Compare a [op, op'] [b, c] pos) (sChain o o' fa fb fc) := by
  subst e e'
  exact ⟨s_chain_v G.hu ha hb hc hm, s_chain_t G.hu ha hb hc hm⟩
theorem part_sound {lo : CE} {l : Option Expr} (ih : ∀ e, okE C lo e = true → Both X e (ev Γ lo)) (h : l = none → isNonK lo = true) (h2 : ∀ e, l = some e → (okE C lo e && !isNonC lo) = true) : PO X l (rdPart X.K X.mg (sPart (isNonC lo) (ev Γ lo).v)) := by
  cases l with
  | none =>
    have := isNonK_ok (h rfl)
    subst this
    exact s_po_none
  | some l =>
    have h := h2 l rfl
    simp only [Bool.and_eq_true, Bool.not_eq_true'] at h
    rw [h.2]
    exact s_po_some (ih l h.1).1
mutual
theorem e_sound {C : Ctx} {X : Cx} (G : Fit C Γ X k) : ∀ (c : CE) (e : Expr), okE C c e = true → Both X e (ev Γ c)
  | .var i, e, h => by
    unfold okE at h
    split at h
    · simp only [Bool.and_eq_true, decide_eq_true_eq] at h
      obtain ⟨⟨h1, h2⟩, h3⟩ := h
      exact both_v (s_var (G.ix h1) (G.vis h2) (nameB_ok h3).1 (nameB_ok h3).2) rfl
    · cases h
  | .k x, e, h => by
    unfold okE at h
    split at h
    · exact both_v (s_k (of_decide_eq_true h)) rfl
    · cases h
  | .glob n x, e, h => by
    unfold okE at h
    split at h
    · simp only [Bool.and_eq_true, decide_eq_true_eq] at h
      obtain ⟨⟨⟨⟨rfl, h2⟩, h3⟩, h4⟩, h5⟩ := h
      exact both_v (s_glob (G.gl h2) (G.gk h4) h5 (nameB_ok h3).1) rfl
    · cases h
  | .tup es, e, h => by
    unfold okE at h
    split at h
    · exact both_v (s_tup (l_sound G es _ h)) rfl
    · cases h
  | .list m es, e, h => by
    unfold okE at h
    split at h
    · exact both_v (s_list (l_sound G es _ h)) rfl
    · cases h
  | .bin o m a b, e, h => by
    unfold okE at h
    split at h
    · simp only [Bool.and_eq_true, decide_eq_true_eq] at h
      obtain ⟨⟨rfl, h2⟩, h3⟩ := h
      exact both_v (s_bin (e_sound G a _ h2).1 (e_sound G b _ h3).1) rfl
    · cases h
  | .neg a, e, h => by
    unfold okE at h
    split at h
    · simp only [Bool.and_eq_true, decide_eq_true_eq] at h
      obtain ⟨rfl, h2⟩ := h
      have := s_neg (pos := by assumption) (e_sound G a _ h2).1
      exact ⟨this, s_tru this neg_ok⟩
    · cases h
  | .nt a, e, h => by
    unfold okE at h
    split at h
    · simp only [Bool.and_eq_true, decide_eq_true_eq] at h
      obtain ⟨rfl, h2⟩ := h
      have := e_sound G a _ h2
      exact ⟨s_not_v this.1, s_not_t this.2⟩
    · cases h
  | .and es, e, h => by
    unfold okE at h
    split at h
    · simp only [Bool.and_eq_true, decide_eq_true_eq] at h
      obtain ⟨rfl, h2⟩ := h
      exact ⟨(and_sound G es _ h2 _).1, (and_sound G es _ h2 _).2.pt⟩
    · cases h
  | .or es, e, h => by
    unfold okE at h
    split at h
    · simp only [Bool.and_eq_true, decide_eq_true_eq] at h
      obtain ⟨rfl, h2⟩ := h
      exact ⟨(or_sound G es _ h2 _).1, (or_sound G es _ h2 _).2.pt⟩
    · cases h
  | .cmp o a b, e, h => by
    unfold okE at h
    split at h
    · simp only [Bool.and_eq_true, decide_eq_true_eq, Bool.not_eq_true'] at h
      obtain ⟨⟨⟨h1, h2⟩, h3⟩, h4⟩ := h
      exact both_cmp G h1 (e_sound G a _ h2).1 (e_sound G b _ h3).1 h4
    · cases h
  | .chain o o' a b c, e, h => by
    unfold okE at h
    split at h
    · simp only [Bool.and_eq_true, decide_eq_true_eq, Bool.not_eq_true'] at h
      obtain ⟨⟨⟨⟨⟨h1, h2⟩, h3⟩, h4⟩, h5⟩, h6⟩ := h
      exact both_chain G h1 h2 (e_sound G a _ h3).1 (e_sound G b _ h4).1 (e_sound G c _ h5).1 h6
    · cases h
  | .ite c a b, e, h => by
    unfold okE at h
    split at h
    · simp only [Bool.and_eq_true] at h
      obtain ⟨⟨h1, h2⟩, h3⟩ := h
      have hc := (e_sound G c _ h1).2
      have ha := e_sound G a _ h2
      have hb := e_sound G b _ h3
      exact ⟨s_ite_v hc ha.1 hb.1, s_ite_t hc ha.2 hb.2⟩
    · cases h
  | .call i es, e, h => by
    unfold okE at h
    split at h
    · rename_i n p args pos
      simp only [Bool.and_eq_true, decide_eq_true_eq] at h
      obtain ⟨⟨⟨h1, h2⟩, h3⟩, h4⟩ := h
      obtain ⟨f, hf, hfo⟩ := G.fo i n h1
      have hl := l_sound G es _ h4
      refine both_v ?_ rfl
      show PE X _ (rdE X.K X.mg (sCall (Γ[i]?.map Prod.snd) (evL Γ es)))
      rw [hf]
      cases args with
      | nil =>
        cases es with
        | nil => exact s_call0 G.room hfo (G.gl h2) (nameB_ok h3).1
        | cons c cs => simp [okL] at h4
      | cons a as => exact s_call G.room hfo (G.gl h2) (nameB_ok h3).1 hl (okL_star es _ h4)
    · cases h
  | .fnv n, e, h => by
    unfold okE at h
    split at h
    · simp only [Bool.and_eq_true, decide_eq_true_eq] at h
      obtain ⟨⟨⟨rfl, h2⟩, h3⟩, h4⟩ := h
      obtain ⟨i, hi⟩ := List.getElem?_of_mem h4
      obtain ⟨f, _, hfo⟩ := G.fo i _ hi
      exact both_v (s_fnv hfo (G.gl h2) (nameB_ok h3).1) rfl
    · cases h
  | .callv f es, e, h => by
    unfold okE at h
    split at h
    · simp only [Bool.and_eq_true] at h
      exact both_v (s_callv G.room G.fl (e_sound G f _ h.1.1).1 h.1.2 (l_sound G es _ h.2) (okL_star es _ h.2)) rfl
    · cases h
  | .index a x, e, h => by
    unfold okE at h
    split at h
    · simp only [Bool.and_eq_true, decide_eq_true_eq] at h
      obtain ⟨⟨⟨⟨rfl, h1⟩, h2⟩, h3⟩, h4⟩ := h
      exact both_v (s_index G.hu (e_sound G a _ h1).1 (e_sound G x _ h2).1 h3 rfl h4) rfl
    · cases h
  | .indexG n xs x, e, h => by
    unfold okE at h
    split at h
    · simp only [Bool.and_eq_true, decide_eq_true_eq] at h
      obtain ⟨⟨⟨⟨⟨⟨⟨rfl, rfl⟩, h1⟩, h2⟩, h3⟩, h4⟩, h5⟩, h6⟩ := h
      exact both_v (s_indexG G.hu (G.gl h1) (G.gk h3) (nameB_ok h2).1 (e_sound G x _ h4).1 h5 h6) rfl
    · cases h
  | .bi b m es, e, h => by
    unfold okE at h
    split at h
    · rw [Bool.or_eq_true, Bool.or_eq_true, Bool.or_eq_true, Bool.or_eq_true, Bool.or_eq_true] at h
      rcases h with ((((h | h) | h) | h) | h) | h
      · simp only [Bool.and_eq_true, decide_eq_true_eq] at h
        obtain ⟨⟨h1, h2⟩, h3⟩ := h
        obtain ⟨g1, g2, g3, g4⟩ := G.bl h1
        obtain ⟨f, B, hf⟩ := boot1 (X := X) h2 m G.calm G.hu
        exact both_v (s_bi1 B (g := biOp b m) hf g1 g2 g4 g3 (l_sound G es _ h3) (fun ρ S xs S' hh => evL_len es _ h3 ρ S xs S' hh) (okL_star es _ h3 _ List.mem_cons_self)) rfl
      · simp only [Bool.and_eq_true, decide_eq_true_eq] at h
        obtain ⟨⟨⟨rfl, h1⟩, rfl⟩, h2⟩ := h
        split at h2
        · simp only [Bool.and_eq_true, decide_eq_true_eq] at h2
          obtain ⟨⟨k1, rfl⟩, k2⟩ := h2
          obtain ⟨g1, g2, _, _⟩ := G.bl h1
          obtain ⟨l1, l2, _, _⟩ := G.bl k1
          match es, k2 with
          | .cons c .nil, k2 =>
            have hst := okL_star (.cons c .nil) _ k2 _ List.mem_cons_self
            simp only [okL, Bool.and_eq_true] at k2
            have hcc := (e_sound G c _ k2.1.1).1
            have eq : sBi .sortedSet m (evL Γ (.cons c .nil)) = fun ρ S => ((ev Γ c).v ρ S).bind fun x S1 => bSortedSet m x S1 := by
              funext ρ S
              show ((((ev Γ c).v ρ S).bind fun x S1 => _).bind _) = _
              cases (ev Γ c).v ρ S <;> rfl
            refine both_v ?_ rfl
            show PE X _ (rdE X.K X.mg (sBi .sortedSet m (evL Γ (.cons c .nil))))
            rw [eq]
            exact s_sortedSet G.calm G.hu g1 g2 l1 l2 hcc hst
          | .nil, k2 => simp [okL] at k2
          | .cons _ (.cons _ _), k2 => simp [okL] at k2
        · cases h2
      · simp only [Bool.and_eq_true, decide_eq_true_eq] at h
        obtain ⟨⟨⟨rfl, h1⟩, rfl⟩, h2⟩ := h
        split at h2
        · simp only [Bool.and_eq_true, decide_eq_true_eq] at h2
          obtain ⟨⟨rfl, k2⟩, k3⟩ := h2
          obtain ⟨g1, g2, _, _⟩ := G.bl h1
          match es, k2 with
          | .cons c .nil, k2 =>
            simp only [okL, Bool.and_eq_true] at k2
            have hcc := (e_sound G c _ k2.1.1).1
            have eq : sBi .sortedKeys m (evL Γ (.cons c .nil)) = fun ρ S => ((ev Γ c).v ρ S).bind fun x S1 => bSortedKeys m x S1 := by
              funext ρ S
              show ((((ev Γ c).v ρ S).bind fun x S1 => _).bind _) = _
              cases (ev Γ c).v ρ S <;> rfl
            refine both_v ?_ rfl
            show PE X _ (rdE X.K X.mg (sBi .sortedKeys m (evL Γ (.cons c .nil))))
            rw [eq]
            exact s_sortedKeys G.calm G.hu g1 g2 hcc rfl k3
          | .nil, k2 => simp [okL] at k2
          | .cons _ (.cons _ _), k2 => simp [okL] at k2
        · cases h2
      · simp only [Bool.and_eq_true, decide_eq_true_eq] at h
        obtain ⟨⟨rfl, h1⟩, h2⟩ := h
        split at h2
        · rename_i n2 p2 ys q2
          simp only [Bool.and_eq_true, decide_eq_true_eq] at h2
          obtain ⟨⟨⟨k1, rfl⟩, k2⟩, k3⟩ := h2
          obtain ⟨g1, g2, _, _⟩ := G.bl h1
          obtain ⟨l1, l2, _, _⟩ := G.bl k1
          have hlen := evL_len (Γ := Γ) es _ k2
          cases b <;> simp only [rgK, Option.some.injEq, reduceCtorEq] at k3
          · match ys, es, k2, k3 with
            | [y], .cons c .nil, k2, _ =>
              have hst := okL_star (.cons c .nil) _ k2 _ List.mem_cons_self
              simp only [okL, Bool.and_eq_true] at k2
              have hcc := (e_sound G c _ k2.1.1).1
              have eq : sBi .listRange1 m (evL Γ (.cons c .nil)) = fun ρ S => ((ev Γ c).v ρ S).bind fun x S1 => bRange (mkL m) (.v (.int 0)) x S1 := by
                funext ρ S
                show ((((ev Γ c).v ρ S).bind fun x S1 => _).bind _) = _
                cases (ev Γ c).v ρ S <;> rfl
              refine both_v ?_ rfl
              show PE X _ (rdE X.K X.mg (sBi .listRange1 m (evL Γ (.cons c .nil))))
              rw [eq]
              exact s_listRg1 G.calm g1 g2 l1 l2 hcc hst
            | [y], .nil, k2, _ => simp [okL] at k2
            | [y], .cons _ (.cons _ _), k2, _ => simp [okL] at k2
          · match ys, es, k2, k3 with
            | [y, z], .cons c (.cons d .nil), k2, _ =>
              have hst := okL_star (.cons c (.cons d .nil)) _ k2
              simp only [okL, Bool.and_eq_true] at k2
              have hcc := (e_sound G c _ k2.1.1).1
              have hdd := (e_sound G d _ k2.2.1.1).1
              have eq : sBi .listRange2 m (evL Γ (.cons c (.cons d .nil))) = fun ρ S => ((ev Γ c).v ρ S).bind fun x S1 => ((ev Γ d).v ρ S1).bind fun y S2 => bRange (mkL m) x y S2 := by
                funext ρ S
                show ((((ev Γ c).v ρ S).bind fun x S1 => ((((ev Γ d).v ρ S1).bind fun y S2 => _).bind _)).bind _) = _
                cases (ev Γ c).v ρ S with
                | ok x S1 =>
                  show ((((ev Γ d).v ρ S1).bind fun y S2 => _).bind _).bind _ = ((ev Γ d).v ρ S1).bind _
                  cases (ev Γ d).v ρ S1 <;> rfl
                | exc _ _ _ => rfl
                | bad => rfl
              refine both_v ?_ rfl
              show PE X _ (rdE X.K X.mg (sBi .listRange2 m (evL Γ (.cons c (.cons d .nil)))))
              rw [eq]
              exact s_listRg2 G.calm g1 g2 l1 l2 hcc (hst _ List.mem_cons_self) hdd (hst _ (List.mem_cons_of_mem _ List.mem_cons_self))
            | [y, z], .nil, k2, _ => simp [okL] at k2
            | [y, z], .cons _ .nil, k2, _ => simp [okL] at k2
            | [y, z], .cons _ (.cons _ (.cons _ _)), k2, _ => simp [okL] at k2
        · cases h2
      · simp only [Bool.and_eq_true, decide_eq_true_eq] at h
        obtain ⟨⟨⟨rfl, h1⟩, rfl⟩, h2⟩ := h
        split at h2
        · simp only [Bool.and_eq_true, decide_eq_true_eq] at h2
          obtain ⟨⟨k1, rfl⟩, k2⟩ := h2
          obtain ⟨g1, g2, _, _⟩ := G.bl h1
          obtain ⟨l1, l2, _, _⟩ := G.bl k1
          match es, k2 with
          | .cons c .nil, k2 =>
            have hst := okL_star (.cons c .nil) _ k2 _ List.mem_cons_self
            simp only [okL, Bool.and_eq_true] at k2
            have hcc := (e_sound G c _ k2.1.1).1
            have eq : sBi .lenSet m (evL Γ (.cons c .nil)) = fun ρ S => ((ev Γ c).v ρ S).bind fun x S1 => bLenSet x S1 := by
              funext ρ S
              show ((((ev Γ c).v ρ S).bind fun x S1 => _).bind _) = _
              cases (ev Γ c).v ρ S <;> rfl
            refine both_v ?_ rfl
            show PE X _ (rdE X.K X.mg (sBi .lenSet m (evL Γ (.cons c .nil))))
            rw [eq]
            exact s_lenSet G.calm G.hu g1 g2 l1 l2 hcc hst
          | .nil, k2 => simp [okL] at k2
          | .cons _ (.cons _ _), k2 => simp [okL] at k2
        · cases h2
      · simp only [Bool.and_eq_true, decide_eq_true_eq] at h
        obtain ⟨⟨rfl, h1⟩, h2⟩ := h
        split at h2
        · rename_i n2 p2 ys q2
          simp only [Bool.and_eq_true, decide_eq_true_eq] at h2
          obtain ⟨⟨⟨k1, rfl⟩, k2⟩, k3⟩ := h2
          obtain ⟨g1, g2, _, _⟩ := G.bl h1
          obtain ⟨l1, l2, _, _⟩ := G.bl k1
          have hlen := evL_len (Γ := Γ) es _ k2
          cases b <;> simp only [rgT, Option.some.injEq, reduceCtorEq] at k3
          · match ys, es, k2, k3 with
            | [y], .cons c .nil, k2, _ =>
              have hst := okL_star (.cons c .nil) _ k2 _ List.mem_cons_self
              simp only [okL, Bool.and_eq_true] at k2
              have hcc := (e_sound G c _ k2.1.1).1
              have eq : sBi .tupleRange1 m (evL Γ (.cons c .nil)) = fun ρ S => ((ev Γ c).v ρ S).bind fun x S1 => bRange mkT (.v (.int 0)) x S1 := by
                funext ρ S
                show ((((ev Γ c).v ρ S).bind fun x S1 => _).bind _) = _
                cases (ev Γ c).v ρ S <;> rfl
              refine both_v ?_ rfl
              show PE X _ (rdE X.K X.mg (sBi .tupleRange1 m (evL Γ (.cons c .nil))))
              rw [eq]
              exact s_tupRg1 G.calm g1 g2 l1 l2 hcc hst
            | [y], .nil, k2, _ => simp [okL] at k2
            | [y], .cons _ (.cons _ _), k2, _ => simp [okL] at k2
          · match ys, es, k2, k3 with
            | [y, z], .cons c (.cons d .nil), k2, _ =>
              have hst := okL_star (.cons c (.cons d .nil)) _ k2
              simp only [okL, Bool.and_eq_true] at k2
              have hcc := (e_sound G c _ k2.1.1).1
              have hdd := (e_sound G d _ k2.2.1.1).1
              have eq : sBi .tupleRange2 m (evL Γ (.cons c (.cons d .nil))) = fun ρ S => ((ev Γ c).v ρ S).bind fun x S1 => ((ev Γ d).v ρ S1).bind fun y S2 => bRange mkT x y S2 := by
                funext ρ S
                show ((((ev Γ c).v ρ S).bind fun x S1 => ((((ev Γ d).v ρ S1).bind fun y S2 => _).bind _)).bind _) = _
                cases (ev Γ c).v ρ S with
                | ok x S1 =>
                  show ((((ev Γ d).v ρ S1).bind fun y S2 => _).bind _).bind _ = ((ev Γ d).v ρ S1).bind _
                  cases (ev Γ d).v ρ S1 <;> rfl
                | exc _ _ _ => rfl
                | bad => rfl
              refine both_v ?_ rfl
              show PE X _ (rdE X.K X.mg (sBi .tupleRange2 m (evL Γ (.cons c (.cons d .nil)))))
              rw [eq]
              exact s_tupRg2 G.calm g1 g2 l1 l2 hcc (hst _ List.mem_cons_self) hdd (hst _ (List.mem_cons_of_mem _ List.mem_cons_self))
            | [y, z], .nil, k2, _ => simp [okL] at k2
            | [y, z], .cons _ .nil, k2, _ => simp [okL] at k2
            | [y, z], .cons _ (.cons _ (.cons _ _)), k2, _ => simp [okL] at k2
        · cases h2
    · simp only [Bool.and_eq_true, decide_eq_true_eq] at h
      obtain ⟨⟨h1, h2⟩, h3⟩ := h
      obtain ⟨g1, g2, g3, g4⟩ := G.bl h1
      obtain ⟨f, B, hf⟩ := boot2 (X := X) h2 m G.calm
      exact both_v (s_bi2 B (g := biOp b m) hf g1 g2 g4 g3 (l_sound G es _ h3) (fun ρ S xs S' hh => evL_len es _ h3 ρ S xs S' hh) (okL_star es _ h3 _ List.mem_cons_self) (okL_star es _ h3 _ (List.mem_cons_of_mem _ List.mem_cons_self))) rfl
    · cases h
  | .isi ts a, e, h => by
    unfold okE at h
    split at h
    · rename_i n p x T pos
      simp only [Bool.and_eq_true, decide_eq_true_eq] at h
      obtain ⟨⟨⟨⟨h1, rfl⟩, h2⟩, h3⟩, h4⟩ := h
      obtain ⟨g1, g2, g3, g4⟩ := G.bl h1
      have ha := (e_sound G a _ h2).1
      refine both_v ?_ rfl
      show PE X _ (rdE X.K X.mg (sIsi ts (ev Γ a).v))
      split at h4
      · simp only [Bool.and_eq_true, decide_eq_true_eq] at h4
        obtain ⟨t1, t2, t3⟩ := okTys_get G h4.1
        exact s_isi g1 g2 ha h3 t1 t2 t3 h4.2
      · split at h4
        · unfold okTy at h4
          split at h4
          · simp only [Bool.and_eq_true, decide_eq_true_eq] at h4
            obtain ⟨rfl, h4⟩ := h4
            obtain ⟨b1, b2, _, _⟩ := G.bl h4
            exact s_isi1 g1 g2 ha h3 b1 b2
          · cases h4
        · cases h4
    · cases h
  | .idx a i, e, h => by
    unfold okE at h
    split at h
    · simp only [Bool.and_eq_true] at h
      obtain ⟨⟨h1, h2⟩, h3⟩ := h
      exact both_v (s_idx (by have := G.hu; omega) (e_sound G a _ h1).1 (e_sound G i _ h2).1 h3) rfl
    · cases h
  | .ixE i a, e, h => by
    unfold okE at h
    split at h
    · simp only [Bool.and_eq_true, decide_eq_true_eq] at h
      obtain ⟨⟨⟨⟨h1, h2⟩, h3⟩, h4⟩, h5⟩ := h
      exact both_v (s_ixE (G.ix h1) (G.vis h2) (nameB_ok h3).1 (nameB_ok h3).2 (e_sound G a _ h4).1 h5) rfl
    · cases h
  | .dtt0, e, h => by
    unfold okE at h
    split at h
    · exact both_v s_dtt0 rfl
    · cases h
  | .getT d k x, e, h => by
    unfold okE at h
    split at h
    · simp only [Bool.and_eq_true, decide_eq_true_eq] at h
      obtain ⟨⟨⟨⟨⟨⟨rfl, h1⟩, h2⟩, h3⟩, h4⟩, h5⟩, h6⟩ := h
      exact both_v (s_getT (by have := G.hu; omega) (e_sound G d _ h1).1 (e_sound G k _ h2).1 (e_sound G x _ h3).1 h4 h5 rfl h6) rfl
    · cases h
  | .idxT d k, e, h => by
    unfold okE at h
    split at h
    · simp only [Bool.and_eq_true] at h
      obtain ⟨⟨h1, h2⟩, h3⟩ := h
      exact both_v (s_idxTt (by have := G.hu; omega) (e_sound G d _ h1).1 (e_sound G k _ h2).1 h3) rfl
    · cases h
  | .keysT m d, e, h => by
    unfold okE at h
    split at h
    · simp only [Bool.and_eq_true, decide_eq_true_eq] at h
      obtain ⟨⟨⟨⟨h1, rfl⟩, rfl⟩, h2⟩, h3⟩ := h
      obtain ⟨g1, g2, _, _⟩ := G.bl h1
      exact both_v (s_keysT G.calm G.hu g1 g2 (e_sound G d _ h2).1 rfl h3) rfl
    · cases h
  | .slc m a lo hi, e, h => by
    unfold okE at h
    split at h
    · rw [Bool.and_eq_true, Bool.and_eq_true] at h
      obtain ⟨⟨h1, h2⟩, h3⟩ := h
      exact both_v (s_slc (e_sound G a _ h1).1 (part_sound (e_sound G lo) (fun e => by subst e; exact h2) (fun e he => by subst he; exact h2)) (part_sound (e_sound G hi) (fun e => by subst e; exact h3) (fun e he => by subst he; exact h3))) rfl
    · cases h
  | .comp m own tg it c elt, e, h => by
    unfold okE at h
    split at h
    · rename_i x g i ifs scope pos
      simp only [Bool.and_eq_true, List.all_eq_true, decide_eq_true_eq] at h
      obtain ⟨⟨⟨⟨⟨⟨h1, h2⟩, h3⟩, h4⟩, h5⟩, h6⟩, h7⟩ := h
      refine both_v ?_ rfl
      have ok : BlkOk X.N X.env.scope scope (ownS C own) := by rw [G.N, G.sc]; exact blkOk_by h1
      have := s_comp (X := X) (m := m) (pos := pos) G.calm G.nd ok (ts1 := slG tg) (by rw [ownS_2]; exact h2) (i_sound G it g i h3)
        (fun s H D cl fp => (g_sound (G.blk s H scope D cl fp) tg g h5).1)
        (ifs := ifs) (c := (ev Γ c).t) (fun s H D cl fp => tests_sound (e_sound (G.blk s H scope D cl fp) c) h6)
        (fun s H D cl fp => (e_sound (G.blk s H scope D cl fp) elt x h7).1) (plainIter_ok h4)
      rw [ownS_2] at this
      exact this
    · cases h
  | .compN own tg it c elt, e, h => by
    unfold okE at h
    split at h
    · rename_i x g i ifs scope pos
      simp only [Bool.and_eq_true, List.all_eq_true, decide_eq_true_eq] at h
      obtain ⟨⟨⟨⟨⟨⟨h1, h2⟩, h3⟩, h4⟩, h5⟩, h6⟩, h7⟩ := h
      refine both_v ?_ rfl
      have ok : BlkOk X.N X.env.scope scope (ownS C own) := by rw [G.N, G.sc]; exact blkOk_by h1
      have := s_compN (X := X) (pos := pos) G.calm G.nd ok (ts1 := slG tg) (by rw [ownS_2]; exact h2) (i_sound G it g i h3)
        (fun s H D cl fp => (g_sound (G.blk s H scope D cl fp) tg g h5).1)
        (ifs := ifs) (c := (ev Γ c).t) (fun s H D cl fp => tests_sound (e_sound (G.blk s H scope D cl fp) c) h6)
        (fun s H D cl fp => (e_sound (G.blk s H scope D cl fp) elt x h7).1) (plainIter_ok h4)
      rw [ownS_2] at this
      exact this
    · cases h
  | .comp2 m own own2 tg it c tg2 it2 c2 elt, e, h => by
    unfold okE at h
    split at h
    · rename_i x g i ifs g2 i2 ifs2 scope pos
      simp only [Bool.and_eq_true, List.all_eq_true, decide_eq_true_eq] at h
      obtain ⟨⟨⟨⟨⟨⟨⟨⟨⟨⟨⟨⟨h1, h2⟩, h3⟩, h4⟩, h5⟩, h6⟩, h7⟩, h8⟩, h9⟩, h10⟩, h11⟩, h12⟩, h13⟩ := h
      refine both_v ?_ rfl
      have ok : BlkOk X.N X.env.scope scope (ownS C own) := by rw [G.N, G.sc]; exact blkOk_by h1
      have := s_comp2 (X := X) (m := m) (pos := pos) G.calm G.nd ok (own2 := own2) (ts1 := slG tg) (ts2 := slG tg2) (by rw [ownS_2]; exact h2) (by rw [ownS_2]; exact h3) h4 (i_sound G it g i h5)
        (fun s H D cl fp => (g_sound (G.blk s H scope D cl fp) tg g h7).1)
        (ifs := ifs) (c := (ev Γ c).t) (fun s H D cl fp => tests_sound (e_sound (G.blk s H scope D cl fp) c) h8)
        (fun s H D cl fp => i_sound (G.blk s H scope D cl fp) it2 g2 i2 h9)
        (fun s H D cl fp => (g_sound (G.blk s H scope D cl fp) tg2 g2 h11).1)
        (ifs1 := ifs2) (c2 := (ev Γ c2).t) (fun s H D cl fp => tests_sound (e_sound (G.blk s H scope D cl fp) c2) h12)
        (fun s H D cl fp => (e_sound (G.blk s H scope D cl fp) elt x h13).1) (plainIter_ok h6) (fun env => plainIter_ok h10)
      rw [ownS_2] at this
      exact this
    · cases h
  | .dic0, e, h => by
    unfold okE at h
    split at h
    · exact both_v s_dic0 rfl
    · cases h
  | .get d k x, e, h => by
    unfold okE at h
    split at h
    · simp only [Bool.and_eq_true, decide_eq_true_eq] at h
      obtain ⟨⟨⟨⟨⟨⟨rfl, h1⟩, h2⟩, h3⟩, h4⟩, h5⟩, h6⟩ := h
      exact both_v (s_get (by have := G.hu; omega) (e_sound G d _ h1).1 (e_sound G k _ h2).1 (e_sound G x _ h3).1 h4 h5 rfl h6) rfl
    · cases h
  | .rev m a, e, h => by
    unfold okE at h
    split at h
    · simp only [Bool.and_eq_true, decide_eq_true_eq] at h
      obtain ⟨⟨rfl, rfl⟩, h1⟩ := h
      exact both_v (s_rev (e_sound G a _ h1).1) rfl
    · cases h
  | .slcS m k a, e, h => by
    unfold okE at h
    split at h
    · simp only [Bool.and_eq_true, Bool.or_eq_true, decide_eq_true_eq] at h
      obtain ⟨⟨rfl, h2⟩, h1⟩ := h
      rcases h2 with ⟨rfl, rfl⟩ | ⟨rfl, rfl⟩
      · exact both_v (s_slS .a (e_sound G a _ h1).1) rfl
      · exact both_v (s_slS .b (e_sound G a _ h1).1) rfl
    · simp only [Bool.and_eq_true, decide_eq_true_eq] at h
      obtain ⟨⟨⟨⟨rfl, rfl⟩, rfl⟩, rfl⟩, h1⟩ := h
      exact both_v (s_slS .c (e_sound G a _ h1).1) rfl
    · cases h
  | .dcomp own tg it c kk x, e, h => by
    unfold okE at h
    split at h
    · rename_i kx vx g ii ifs scope pos
      simp only [Bool.and_eq_true, List.all_eq_true, decide_eq_true_eq] at h
      obtain ⟨⟨⟨⟨⟨⟨⟨k1, k2⟩, k3⟩, k4⟩, k5⟩, k6⟩, k7⟩, k8⟩ := h
      have ok : BlkOk X.N X.env.scope scope (ownS C own) := by rw [G.N, G.sc]; exact blkOk_by k1
      have := s_dcomp (X := X) (pos := pos) G.calm G.nd ok (ts1 := slG tg) (by rw [ownS_2]; exact k2) (i_sound G it g ii k3)
        (fun s H D cl fp => (g_sound (G.blk s H scope D cl fp) tg g k5).1)
        (c := (ev Γ c).t) (fun s H D cl fp => tests_sound (e_sound (G.blk s H scope D cl fp) c) k6)
        (fun s H D cl fp => (e_sound (G.blk s H scope D cl fp) kk _ k7).1)
        (fun s H D cl fp => (e_sound (G.blk s H scope D cl fp) x _ k8).1) (plainIter_ok k4)
      rw [ownS_2] at this
      exact both_v this rfl
    · cases h
  | .dicd es, e, h => by
    unfold okE at h
    split at h
    · simp only [Bool.and_eq_true, decide_eq_true_eq, Bool.not_eq_true'] at h
      obtain ⟨⟨h1, h2⟩, h3⟩ := h
      obtain ⟨kxs, rfl, hd⟩ := d_sound G es _ _ h1
      exact both_v (s_dicd hd (by intro z; subst z; simp at h2) (by simpa using h3)) rfl
    · cases h
  | .dicP, e, h => by
    unfold okE at h
    split at h
    · exact both_v s_dicP rfl
    · cases h
  | .count a x, e, h => by
    unfold okE at h
    split at h
    · simp only [Bool.and_eq_true, decide_eq_true_eq] at h
      obtain ⟨⟨⟨⟨rfl, h1⟩, h2⟩, h3⟩, h4⟩ := h
      exact both_v (s_count G.calm (e_sound G a _ h1).1 (e_sound G x _ h2).1 h3 rfl h4) rfl
    · cases h
  | .lzip m a b, e, h => by
    unfold okE at h
    split at h
    · simp only [Bool.and_eq_true, decide_eq_true_eq] at h
      obtain ⟨⟨⟨⟨⟨⟨⟨h1, rfl⟩, h2⟩, rfl⟩, h3⟩, h4⟩, h5⟩, h6⟩ := h
      obtain ⟨g1, g2, _, _⟩ := G.bl h1
      obtain ⟨l1, l2, _, _⟩ := G.bl h2
      exact both_v (s_lzip G.calm g1 g2 l1 l2 (e_sound G a _ h3).1 (e_sound G b _ h4).1 h5 h6) rfl
    · cases h
  | .gin neg n ks vs a, e, h => by
    unfold okE at h
    split at h
    · simp only [Bool.and_eq_true, decide_eq_true_eq, Bool.not_eq_true'] at h
      obtain ⟨⟨⟨⟨⟨⟨rfl, rfl⟩, h2⟩, h3⟩, h4⟩, h5⟩, h6⟩ := h
      exact ⟨s_gin (G.gl h2) (G.gk h4) (nameB_ok h3).1 (e_sound G a _ h5).1 h6, s_gin_t (G.gl h2) (G.gk h4) (nameB_ok h3).1 (e_sound G a _ h5).1 h6⟩
    · cases h
  | .gidx n ks vs a, e, h => by
    unfold okE at h
    split at h
    · simp only [Bool.and_eq_true, decide_eq_true_eq] at h
      obtain ⟨⟨⟨⟨⟨rfl, h2⟩, h3⟩, h4⟩, h5⟩, h6⟩ := h
      exact both_v (s_gidx (G.gl h2) (G.gk h4) (nameB_ok h3).1 (e_sound G a _ h5).1 h6) rfl
    · cases h
  | .lvals m d, e, h => by
    unfold okE at h
    split at h
    · simp only [Bool.and_eq_true, decide_eq_true_eq] at h
      obtain ⟨⟨⟨⟨h1, rfl⟩, rfl⟩, h2⟩, h3⟩ := h
      obtain ⟨g1, g2, _, _⟩ := G.bl h1
      exact both_v (s_lvals G.calm g1 g2 (e_sound G d _ h2).1 rfl h3) rfl
    · cases h
theorem d_sound {C : Ctx} {X : Cx} (G : Fit C Γ X k) : ∀ (cs : CL) (ks : List (Option Expr)) (vs : List Expr), okD C cs ks vs = true → ∃ kxs, ks = kxs.map some ∧ DP X kxs vs (evL Γ cs)
  | .nil, [], [], _ => ⟨[], rfl, .nil⟩
  | .nil, [], _ :: _, h => by simp [okD] at h
  | .nil, _ :: _, _, h => by simp [okD] at h
  | .cons _ _, [], _, h => by simp [okD] at h
  | .cons _ _, none :: _, _, h => by simp [okD] at h
  | .cons kc r, some x :: ks, vs, h => by
    simp only [okD, Bool.and_eq_true] at h
    obtain ⟨fv, ts, y, vs', e1, rfl, hy, kxs, rfl, hd⟩ := dv_sound G r ks vs h.2
    refine ⟨x :: kxs, rfl, ?_⟩
    show DP X (x :: kxs) (y :: vs') (sCons (ev Γ kc).v (evL Γ r))
    rw [e1]
    exact .cons (e_sound G kc x h.1).1 hy hd
theorem dv_sound {C : Ctx} {X : Cx} (G : Fit C Γ X k) : ∀ (cs : CL) (ks : List (Option Expr)) (vs : List Expr), okDv C cs ks vs = true → ∃ fv ts y vs', evL Γ cs = sCons fv ts ∧ vs = y :: vs' ∧ PE X y (rdE X.K X.mg fv) ∧ ∃ kxs, ks = kxs.map some ∧ DP X kxs vs' ts
  | .nil, _, _, h => by simp [okDv] at h
  | .cons _ _, _, [], h => by simp [okDv] at h
  | .cons v r, ks, y :: vs, h => by
    simp only [okDv, Bool.and_eq_true] at h
    obtain ⟨kxs, rfl, hd⟩ := d_sound G r ks vs h.2
    exact ⟨(ev Γ v).v, evL Γ r, y, vs, rfl, rfl, (e_sound G v y h.1).1, kxs, rfl, hd⟩
theorem l_sound {C : Ctx} {X : Cx} (G : Fit C Γ X k) : ∀ (cs : CL) (es : List Expr), okL C cs es = true → PA X es (rdA X.K X.mg (evL Γ cs))
  | .nil, [], _ => s_nil
  | .nil, _ :: _, h => by simp [okL] at h
  | .cons _ _, [], h => by simp [okL] at h
  | .cons c cs, e :: es, h => by
    simp only [okL, Bool.and_eq_true] at h
    exact s_cons (e_sound G c e h.1.1).1 (l_sound G cs es h.2) (star_one h.1.2 _ _)
theorem and_sound {C : Ctx} {X : Cx} (G : Fit C Γ X k) : ∀ (cs : CL) (es : List Expr), okA C cs es = true → ∀ pos, PE X (.BoolOp .And es pos) (rdE X.K X.mg (evAnd Γ cs).v) ∧ PW X (.BoolOp .And es pos) (rdT X.K X.mg (evAnd Γ cs).t)
  | .nil, _, h => by simp [okA] at h
  | .cons _ _, [], h => by simp [okA] at h
  | .cons c .nil, [e], h => fun pos => by
    simp only [okA, Bool.and_eq_true] at h
    have := e_sound G c e h.1
    exact ⟨pe_one this.1, pw_and1 this.2⟩
  | .cons c .nil, e :: e2 :: es, h => by simp [okA] at h
  | .cons c (.cons c2 cs), [e], h => by simp [okA] at h
  | .cons c (.cons c2 cs), e :: e2 :: es, h => fun pos => by
    unfold okA at h
    simp only [Bool.and_eq_true] at h
    have h1 := e_sound G c e h.1
    have h2 := and_sound G (.cons c2 cs) (e2 :: es) h.2 pos
    exact ⟨s_and_v (p := (ev Γ c, evAnd Γ (.cons c2 cs))) h1.1 h2.1, s_and_t (p := (ev Γ c, evAnd Γ (.cons c2 cs))) h1.2 h2.2⟩
theorem or_sound {C : Ctx} {X : Cx} (G : Fit C Γ X k) : ∀ (cs : CL) (es : List Expr), okA C cs es = true → ∀ pos, PE X (.BoolOp .Or es pos) (rdE X.K X.mg (evOr Γ cs).v) ∧ PW X (.BoolOp .Or es pos) (rdT X.K X.mg (evOr Γ cs).t)
  | .nil, _, h => by simp [okA] at h
  | .cons _ _, [], h => by simp [okA] at h
  | .cons c .nil, [e], h => fun pos => by
    simp only [okA, Bool.and_eq_true] at h
    have := e_sound G c e h.1
    exact ⟨pe_one this.1, pw_or1 this.2⟩
  | .cons c .nil, e :: e2 :: es, h => by simp [okA] at h
  | .cons c (.cons c2 cs), [e], h => by simp [okA] at h
  | .cons c (.cons c2 cs), e :: e2 :: es, h => fun pos => by
    unfold okA at h
    simp only [Bool.and_eq_true] at h
    have h1 := e_sound G c e h.1
    have h2 := or_sound G (.cons c2 cs) (e2 :: es) h.2 pos
    exact ⟨s_or_v (p := (ev Γ c, evOr Γ (.cons c2 cs))) h1.1 h2.1, s_or_t (p := (ev Γ c, evOr Γ (.cons c2 cs))) h1.2 h2.2⟩
theorem i_sound {C : Ctx} {X : Cx} (G : Fit C Γ X k) : ∀ (c : CI) (tg e : Expr), okI C c tg e = true → PI X tg e (rdI X.K X.mg (wkT tg) (evI Γ c))
  | .seq c, tg, e, h => by
    unfold okI at h
    exact i_seq (e_sound G c e h).1
  | .rng1 a, tg, e, h => by
    unfold okI at h
    split at h
    · simp only [Bool.and_eq_true, decide_eq_true_eq] at h
      obtain ⟨⟨⟨h1, rfl⟩, h2⟩, h3⟩ := h
      obtain ⟨g1, g2, _, _⟩ := G.bl h1
      exact i_rng1 g1 g2 (e_sound G a _ h2).1 h3
    · cases h
  | .rng2 a b, tg, e, h => by
    unfold okI at h
    split at h
    · simp only [Bool.and_eq_true, decide_eq_true_eq] at h
      obtain ⟨⟨⟨⟨⟨h1, rfl⟩, h2⟩, h3⟩, h4⟩, h5⟩ := h
      obtain ⟨g1, g2, _, _⟩ := G.bl h1
      exact i_rng2 g1 g2 (e_sound G a _ h2).1 (e_sound G b _ h4).1 h3 h5
    · cases h
  | .rng3 a b c, tg, e, h => by
    unfold okI at h
    split at h
    · simp only [Bool.and_eq_true, decide_eq_true_eq] at h
      obtain ⟨⟨⟨⟨⟨⟨⟨⟨h1, rfl⟩, h2⟩, h3⟩, h4⟩, h5⟩, h6⟩, h7⟩, h8⟩ := h
      obtain ⟨g1, g2, _, _⟩ := G.bl h1
      refine i_rngC g1 g2 (e_sound G a _ h2).1 (e_sound G b _ h4).1 (e_sound G c _ h7).1 h3 h5 h8 fun ρ S z S' hz => ?_
      rw [isM1_eq h6] at hz
      cases hz
      rfl
    · cases h
  | .zip2 a b, tg, e, h => by
    unfold okI at h
    split at h
    · simp only [Bool.and_eq_true, decide_eq_true_eq] at h
      obtain ⟨⟨⟨⟨⟨h1, rfl⟩, h2⟩, h3⟩, h4⟩, h5⟩ := h
      obtain ⟨g1, g2, _, _⟩ := G.bl h1
      exact i_zip G.calm g1 g2 (e_sound G a _ h2).1 (e_sound G b _ h4).1 h3 h5
    · cases h
  | .enum a, tg, e, h => by
    unfold okI at h
    split at h
    · simp only [Bool.and_eq_true, decide_eq_true_eq] at h
      obtain ⟨⟨⟨h1, rfl⟩, h2⟩, h3⟩ := h
      obtain ⟨g1, g2, _, _⟩ := G.bl h1
      exact i_enum g1 g2 (e_sound G a _ h2).1 h3
    · cases h
  | .keys d, tg, e, h => by
    unfold okI at h
    exact i_keys (e_sound G d e h).1
  | .items d, tg, e, h => by
    unfold okI at h
    split at h
    · simp only [Bool.and_eq_true, decide_eq_true_eq] at h
      obtain ⟨⟨rfl, h2⟩, h3⟩ := h
      exact i_items (e_sound G d _ h2).1 rfl h3
    · cases h
  | .values d, tg, e, h => by
    unfold okI at h
    split at h
    · simp only [Bool.and_eq_true, decide_eq_true_eq] at h
      obtain ⟨⟨rfl, h2⟩, h3⟩ := h
      exact i_values (e_sound G d _ h2).1 rfl h3
    · cases h
end
end
end FW

namespace FW
open PySem PySem.Spec PyProof.Rows L2 RZ

def isComp : Expr → Bool
  | .ListComp _ _ _ _ => true
  | .SetComp _ _ _ _ => true
  | .DictComp _ _ _ _ _ => true
  | _ => false
theorem sw_plain {v : Expr} {t : Option Expr} {l : Nat} {env : Env} (h : isComp v = false) : swapsWith v t l env = pure false := by
  cases v <;> first | rfl | simp [isComp] at h
theorem sw_tup {v : Expr} {es : List Expr} {k : Nat} {p : Pos} {l : Nat} {env : Env} : swapsWithSole [.Tuple es k p] v l env = pure false := by
  show swapsWith v (some (.Tuple es k p)) l env = pure false
  cases v <;> rfl
theorem sw_cell {elt : Expr} {gs : List Comprehension} {scope : Scope} {pos py : Pos} {y : PySem.Str} {l : Nat} {env : Env} (hy : env.scope.names.lookup y = some .cell) : swapsWith (.ListComp elt gs scope pos) (some (.Name y py)) l env = pure false := by
  have ky : env.kindOf y = some .cell := hy
  have e : (NameKind.cell == NameKind.local) = false := by decide
  unfold swapsWith
  simp [ky, e]
theorem any_star {g : Expr → Bool} (hg : ∀ e, noStar e = true → g e = false) : ∀ {vs : List Expr}, vs.all noStar = true → vs.any g = false
  | [], _ => rfl
  | v :: vs, h => by
    rw [List.all_cons, Bool.and_eq_true] at h
    rw [List.any_cons, any_star hg h.2, hg v h.1]; rfl
def nmOf (sc : Scope) (line : Nat) : Expr → Option PySem.Str
  | .Name id pos => if (sc.names.lookup id == some .local && pos.line == line) = true then some id else none
  | _ => none
theorem fm_eq {g h : Expr → Option PySem.Str} (e : ∀ x, g x = h x) (ts : List Expr) : ts.filterMap g = ts.filterMap h := by
  have : g = h := funext e
  rw [this]
def nmsOf (sc : Scope) (ts : List Expr) : List PySem.Str := ts.filterMap (nmOf sc ((ts.head?.map (·.pos.line)).getD 0))
theorem sw_names {ts vs : List Expr} {k k2 : Nat} {p p2 : Pos} {env : Env} (hb : env.blockKind = .function) (hl : (ts.length == 2 || ts.length == 3) = true) (hv : (vs.length == ts.length) = true) (hs : vs.all noStar = true)
   (hc : (vs.all (foldedForSure 8)) = false) (hc2 : (vs.all (constantsAlone 8)) = false) :
   swappedStores [.Tuple ts k p] (.Tuple vs k2 p2) env = pure (if ((nmsOf env.scope ts).length != ts.length || (nmsOf env.scope ts).eraseDups.length != (nmsOf env.scope ts).length) = true then none else some (nmsOf env.scope ts)) := by
  have h1 : (!(ts.length == 2 || ts.length == 3) || vs.length != ts.length || env.blockKind != .function) = false := by
    rw [hb, hl]
    have : vs.length = ts.length := by simpa using hv
    rw [this]
    simp
  unfold swappedStores
  simp only [h1, hc, hc2, Bool.false_eq_true, if_false]
  rw [any_star (by intro e he; cases e <;> first | rfl | simp [noStar] at he) hs]
  simp only [Bool.false_eq_true, if_false]
  rw [fm_eq (h := nmOf env.scope ((ts.head?.map (·.pos.line)).getD 0)) (by intro x; cases x <;> rfl) ts]
  unfold nmsOf
  split <;> rfl
theorem sw_folded {ts vs : List Expr} {k k2 : Nat} {p p2 : Pos} {env : Env} (hs : vs.all noStar = true)
   (hc : (vs.all (foldedForSure 8)) = true) :
   swappedStores [.Tuple ts k p] (.Tuple vs k2 p2) env = pure none := by
  unfold swappedStores
  simp only [hc, Bool.false_eq_true, if_false, if_true]
  rw [any_star (by intro e he; cases e <;> first | rfl | simp [noStar] at he) hs]
  simp only [Bool.false_eq_true, if_false]
  split
  · rfl
  · split <;> rfl
theorem sw_long {ts vs : List Expr} {k k2 : Nat} {p p2 : Pos} {env : Env} (hl : (!(ts.length == 2 || ts.length == 3) || vs.length != ts.length) = true) :
   swappedStores [.Tuple ts k p] (.Tuple vs k2 p2) env = pure none := by
  unfold swappedStores
  simp only [hl, Bool.true_or, if_true]
theorem sw_noTup {t v : Expr} {env : Env} (h : (match v with | .Tuple _ _ _ => false | _ => true) = true) : swappedStores [t] v env = pure none := by
  cases v <;> first | (cases t <;> rfl) | simp at h

def fnK (C : Ctx) : Bool := match C.sc.kind with
  | .function => true
  | _ => false
def swapB (C : Ctx) (ts vs : List Expr) : Bool :=
  fnK C && (ts.length == 2 || ts.length == 3) && (vs.length == ts.length) && vs.all noStar && !(vs.all (foldedForSure 8)) && !(vs.all (constantsAlone 8)) &&
  !((nmsOf C.sc ts).length != ts.length || (nmsOf C.sc ts).eraseDups.length != (nmsOf C.sc ts).length)
def noSwapB (C : Ctx) (ts vs : List Expr) : Bool :=
  (!(ts.length == 2 || ts.length == 3) || vs.length != ts.length) || (vs.all noStar && vs.all (foldedForSure 8)) ||
  (fnK C && (ts.length == 2 || ts.length == 3) && (vs.length == ts.length) && vs.all noStar && !(vs.all (foldedForSure 8)) && !(vs.all (constantsAlone 8)) &&
  ((nmsOf C.sc ts).length != ts.length || (nmsOf C.sc ts).eraseDups.length != (nmsOf C.sc ts).length))
section
variable {C : Ctx} {Γ : List (PySem.Str × Fn)} {X : Cx} {k : Nat}
theorem Fit.bk (G : Fit C Γ X k) (h : fnK C = true) : X.env.scope.kind = .function := by
  rw [G.sc]
  unfold fnK at h
  split at h
  · assumption
  · cases h
theorem bk_of {env : Env} (h : env.scope.kind = .function) : env.blockKind = .function := by unfold Env.blockKind; rw [h]; rfl
theorem swapB_ok {ts vs : List Expr} {j j2 : Nat} {p p2 : Pos} (G : Fit C Γ X k) (h : swapB C ts vs = true) : swappedStores [.Tuple ts j p] (.Tuple vs j2 p2) X.env = pure (some (nmsOf C.sc ts)) := by
  simp only [swapB, Bool.and_eq_true, Bool.not_eq_true'] at h
  obtain ⟨⟨⟨⟨⟨⟨h1, h2⟩, h3⟩, h4⟩, h5⟩, h6⟩, h7⟩ := h
  rw [sw_names (bk_of (G.bk h1)) h2 h3 h4 h5 h6, G.sc, h7]
  rfl
theorem noSwapB_ok {ts vs : List Expr} {j j2 : Nat} {p p2 : Pos} (G : Fit C Γ X k) (h : noSwapB C ts vs = true) : swappedStores [.Tuple ts j p] (.Tuple vs j2 p2) X.env = pure none := by
  simp only [noSwapB, Bool.or_eq_true (_ || _) _, Bool.or_eq_true (!_ || _) (_ && _)] at h
  rcases h with (h | h) | h
  · exact sw_long h
  · rw [Bool.and_eq_true] at h
    exact sw_folded h.1 h.2
  · simp only [Bool.and_eq_true, Bool.not_eq_true'] at h
    obtain ⟨⟨⟨⟨⟨⟨h1, h2⟩, h3⟩, h4⟩, h5⟩, h6⟩, h7⟩ := h
    rw [sw_names (bk_of (G.bk h1)) h2 h3 h4 h5 h6, G.sc, h7]
    rfl
end
def okSet (C : Ctx) (i : Nat) (e : CE) (x : PySem.Str) (px : Pos) (v : Expr) : Bool :=
  decide (C.N[i]? = some x) && locB C x && stB C x && okE C e v && (match v with
    | .ListComp _ gs scope pos => fnK C && ((decide (C.sc.names.lookup x = some .cell)) || (lclB C x && (px.line == pos.line) && !(scope.names.any fun (n, k) => n == x && (k == .local || k == .cell)) && (match e with
      | .comp _ _ _ _ _ _ => true
      | .compN _ _ _ _ _ => true
      | .comp2 _ _ _ _ _ _ _ _ _ _ => true
      | _ => false)))
    | .DictComp _ _ gs scope pos => fnK C && ((decide (C.sc.names.lookup x = some .cell)) || (lclB C x && (px.line == pos.line) && !(scope.names.any fun (n, k) => n == x && (k == .local || k == .cell)) && (match e with
      | .dcomp _ _ _ _ _ _ => true
      | _ => false)))
    | v => !(isComp v))
def okNames (C : Ctx) : List Nat → List Expr → Bool
  | [], [] => true
  | i :: is, .Name x _ :: es => decide (C.N[i]? = some x) && locB C x && stB C x && okNames C is es
  | _, _ => false
mutual
def okS (C : Ctx) : CS → Stmt → Bool
  | .set i e, st => match st with
    | .Assign [.Name x px] v _ => okSet C i e x px v
    | _ => false
  | .unpack gs e, st => match st with
    | .Assign [.Tuple ts _ _] v _ => okGs C gs ts && okE C e v && (match v with
      | .Tuple vs _ _ => noSwapB C ts vs
      | _ => true)
    | _ => false
  | .par is es, st => match st with
    | .Assign [.Tuple [.Name x px, .Name y py] _ _] (.Tuple vs _ _) _ => (match is with
      | [i, j] => swapB C [.Name x px, .Name y py] vs && decide (C.N[i]? = some x) && decide (C.N[j]? = some y) && decide (i ≠ j) && lclB C x && lclB C y && okL C es vs
      | _ => false)
    | .Assign [.Tuple [.Name x px, .Name y py, .Name z pz] _ _] (.Tuple vs _ _) _ => (match is with
      | [i, j, l] => swapB C [.Name x px, .Name y py, .Name z pz] vs && decide (C.N[i]? = some x) && decide (C.N[j]? = some y) && decide (C.N[l]? = some z) && decide (i ≠ j) && decide (i ≠ l) && decide (j ≠ l) && lclB C x && lclB C y && lclB C z && okL C es vs
      | _ => false)
    | _ => false
  | .sub i a e, st => match st with
    | .Assign [.Subscript (.Name x _) y _] v _ => decide (C.N[i]? = some x) && visB C x && nameB x && okE C a y && plainIx y && okE C e v
    | _ => false
  | .put2 i a j b es, st => match st with
    | .Assign [.Tuple [.Subscript (.Name x px) y p1, .Subscript (.Name x2 py) y2 p2] _ _] (.Tuple [v1, v2] _ _) _ => decide (C.N[i]? = some x) && visB C x && nameB x && decide (C.N[j]? = some x2) && visB C x2 && nameB x2 && okE C a y && plainIx y && okE C b y2 && plainIx y2 && okL C es [v1, v2] && noSwapB C [.Subscript (.Name x px) y p1, .Subscript (.Name x2 py) y2 p2] [v1, v2]
    | _ => false
  | .aug i o e, st => match st with
    | .AugAssign (.Name x _) op v _ => decide (C.N[i]? = some x) && locB C x && stB C x && okE C e v && ((decide (op = .Add) && decide (o = .add)) || (decide (op = .Sub) && decide (o = .sub)))
    | _ => false
  | .augsub i a o e, st => match st with
    | .AugAssign (.Subscript (.Name x _) y _) op v _ => decide (C.N[i]? = some x) && visB C x && nameB x && okE C a y && plainIx y && okE C e v && ((decide (op = .Add) && decide (o = .add)) || (decide (op = .Sub) && decide (o = .sub)))
    | _ => false
  | .pop i, st => match st with
    | .Expr (.Call (.Attribute (.Name x _) m apos) [] [] cpos) _ => decide (m = "pop") && decide (C.N[i]? = some x) && visB C x && nameB x && (apos.endLine == cpos.line)
    | _ => false
  | .parG is es, st => match st with
    | .Assign [.Tuple ns _ _] (.Tuple vs _ _) _ => okNames C is ns && okL C es vs && noSwapB C ns vs && decide (ns.length ≤ 1000)
    | _ => false
  | .app i e, st => match st with
    | .Expr (.Call (.Attribute (.Name x _) m apos) [v] [] cpos) _ => decide (m = "append") && decide (C.N[i]? = some x) && visB C x && nameB x && okE C e v && noStar v && (apos.endLine == cpos.line)
    | _ => false
  | .appE i a e, st => match st with
    | .Expr (.Call (.Attribute (.Subscript (.Name x _) y _) m apos) [v] [] cpos) _ => decide (m = "append") && decide (C.N[i]? = some x) && visB C x && nameB x && okE C a y && plainIx y && okE C e v && noStar v && (apos.endLine == cpos.line)
    | _ => false
  | .subX c a e, st => match st with
    | .Assign [.Subscript x y _] v _ => okE C c x && okE C a y && plainIx y && okE C e v
    | _ => false
  | .putT i a e, st => match st with
    | .Assign [.Subscript (.Name x _) y _] v _ => decide (C.N[i]? = some x) && visB C x && nameB x && okE C a y && plainIx y && okE C e v
    | _ => false
  | .expr e, st => match st with
    | .Expr v _ => okE C e v && !(isComp v)
    | _ => false
  | .ifs c a b, st => match st with
    | .If x y z _ => okE C c x && okB C a y && okB C b z
    | _ => false
  | .forr tg it body _, st => match st with
    | .For g i b [] _ => okG C tg g && okI C it g i && plainIter i && okB C body b
    | _ => false
  | .forl tg e body _, st => match st with
    | .For g i b [] _ => okG C tg g && okE C e i && plainIter i && okB C body b
    | _ => false
  | .whil c body _, st => match st with
    | .While x b [] _ => okE C c x && okB C body b
    | _ => false
  | .ret e, st => match st with
    | .Return (some v) _ => okE C e v
    | _ => false
  | .retN, st => match st with
    | .Return none _ => true
    | _ => false
  | .brk, st => match st with
    | .Break _ => true
    | _ => false
  | .cnt, st => match st with
    | .Continue _ => true
    | _ => false
  | .grp d nm mny kv, st => match st with
    | .For (.Name k _) (.Call (.Name r _) [.Name m _] [] _) [.Expr (.Call (.Attribute (.Call (.Attribute (.Name x _) sd apos) [.Subscript (.Name y _) (.Name k2 _) _, .List [] _] [] cpos) ap apos2) [.Name k3 _] [] cpos2) _] [] _ =>
      bltB C r && decide (r = "range") && decide (sd = "setdefault") && decide (ap = "append") && decide (k2 = k) && decide (k3 = k) && decide (C.N[d]? = some x) && visB C x && nameB x && decide (C.N[nm]? = some y) && visB C y && nameB y && decide (C.N[mny]? = some m) && visB C m && nameB m && decide (C.N[kv]? = some k) && visB C k && nameB k && locB C k && stB C k && (apos.endLine == cpos.line) && (apos2.endLine == cpos2.line)
    | _ => false
  | .raise _ _, _ => true
  | .freeze _, _ => false
def okB (C : Ctx) : CB → List Stmt → Bool
  | .nil, sts => match sts with
    | [] => true
    | _ => false
  | .cons s r, sts => match s with
    | .freeze _ => okB C r sts
    | _ => match sts with
      | [] => false
      | st :: sts => okS C s st && okB C r sts
end
section
variable {C : Ctx} {Γ : List (PySem.Str × Fn)} {X : Cx} {k : Nat}
theorem s_never {st : Stmt} {f : FS} (h : ∀ ρ S r S', f ρ S ≠ .ok r S') : PS X st (rdS X.K X.mg f) := ⟨fun pins s σ H D I ⟨ι, F, S, ρ, r, S', _, _, hf, _⟩ => absurd hf (h ρ S r S')⟩
theorem set_sound (G : Fit C Γ X k) {i : Nat} {e : CE} {x : PySem.Str} {px pos : Pos} {v : Expr} (h : okSet C i e x px v = true) : PS X (.Assign [.Name x px] v pos) (rdS X.K X.mg (evS Γ (.set i e))) := by
  unfold okSet at h
  simp only [Bool.and_eq_true, decide_eq_true_eq] at h
  obtain ⟨⟨⟨⟨h1, h2⟩, h3⟩, h4⟩, h5⟩ := h
  have hE := e_sound G e v h4
  have h1' := G.ix h1
  show PS X _ (rdS X.K X.mg (sSet i (ev Γ e).v))
  split at h5
  · rename_i elt gs scope vpos
    simp only [Bool.and_eq_true, Bool.or_eq_true, decide_eq_true_eq, Bool.not_eq_true'] at h5
    obtain ⟨hk, h5⟩ := h5
    rcases h5 with h5 | ⟨⟨⟨h5, h6⟩, h7⟩, h8⟩
    · exact s_set G.nd h1' (G.loc h2) hE.1 (sw_cell (by rw [G.sc]; exact h5)) (G.st _ h3)
    · have hsw := sw_true (elt := elt) (gs := gs) (l := pos.line) (G.bk hk) (G.lcl h5) h6 h7
      split at h8
      · rename_i m own tg it c el
        unfold okE at h4
        split at h4
        · rename_i a g ii ifs scope' pos' heq
          cases heq
          simp only [Bool.and_eq_true, List.all_eq_true, decide_eq_true_eq] at h4
          obtain ⟨⟨⟨⟨⟨⟨k1, k2⟩, k3⟩, k4⟩, k5⟩, k6⟩, k7⟩ := h4
          have ok : BlkOk X.N X.env.scope scope (ownS C own) := by rw [G.N, G.sc]; exact blkOk_by k1
          have := s_setComp (X := X) (m := m) G.calm G.nd h1' (G.lcl h5) hsw ok (ts1 := slG tg) (by rw [ownS_2]; exact k2) (i_sound G it g ii k3)
            (fun s H D cl fp => (g_sound (G.blk s H scope D cl fp) tg g k5).1)
            (c := (ev Γ c).t) (fun s H D cl fp => tests_sound (e_sound (G.blk s H scope D cl fp) c) k6)
            (fun s H D cl fp => (e_sound (G.blk s H scope D cl fp) el _ k7).1) (plainIter_ok k4)
          rw [ownS_2] at this
          exact this
        · cases h4
      · rename_i own tg it c el
        unfold okE at h4
        split at h4
        · rename_i a g ii ifs scope' pos' heq
          cases heq
          simp only [Bool.and_eq_true, List.all_eq_true, decide_eq_true_eq] at h4
          obtain ⟨⟨⟨⟨⟨⟨k1, k2⟩, k3⟩, k4⟩, k5⟩, k6⟩, k7⟩ := h4
          have ok : BlkOk X.N X.env.scope scope (ownS C own) := by rw [G.N, G.sc]; exact blkOk_by k1
          have := s_setCompN (X := X) G.calm G.nd h1' (G.lcl h5) hsw ok (ts1 := slG tg) (by rw [ownS_2]; exact k2) (i_sound G it g ii k3)
            (fun s H D cl fp => (g_sound (G.blk s H scope D cl fp) tg g k5).1)
            (c := (ev Γ c).t) (fun s H D cl fp => tests_sound (e_sound (G.blk s H scope D cl fp) c) k6)
            (fun s H D cl fp => (e_sound (G.blk s H scope D cl fp) el _ k7).1) (plainIter_ok k4)
          rw [ownS_2] at this
          exact this
        · cases h4
      · rename_i m own own2 tg it c tg2 it2 c2 el
        unfold okE at h4
        split at h4
        · rename_i a g ii ifs g2 i2 ifs2 scope' pos' heq
          cases heq
          simp only [Bool.and_eq_true, List.all_eq_true, decide_eq_true_eq] at h4
          obtain ⟨⟨⟨⟨⟨⟨⟨⟨⟨⟨⟨⟨k1, k2⟩, k3⟩, k4⟩, k5⟩, k6⟩, k7⟩, k8⟩, k9⟩, k10⟩, k11⟩, k12⟩, k13⟩ := h4
          have ok : BlkOk X.N X.env.scope scope (ownS C own) := by rw [G.N, G.sc]; exact blkOk_by k1
          have := s_setComp2 (X := X) (m := m) G.calm G.nd h1' (G.lcl h5) hsw ok (own2 := own2) (ts1 := slG tg) (ts2 := slG tg2) (by rw [ownS_2]; exact k2) (by rw [ownS_2]; exact k3) k4 (i_sound G it g ii k5)
            (fun s H D cl fp => (g_sound (G.blk s H scope D cl fp) tg g k7).1)
            (c := (ev Γ c).t) (fun s H D cl fp => tests_sound (e_sound (G.blk s H scope D cl fp) c) k8)
            (fun s H D cl fp => i_sound (G.blk s H scope D cl fp) it2 g2 i2 k9)
            (fun s H D cl fp => (g_sound (G.blk s H scope D cl fp) tg2 g2 k11).1)
            (c2 := (ev Γ c2).t) (fun s H D cl fp => tests_sound (e_sound (G.blk s H scope D cl fp) c2) k12)
            (fun s H D cl fp => (e_sound (G.blk s H scope D cl fp) el _ k13).1) (plainIter_ok k6) (fun env => plainIter_ok k10)
          rw [ownS_2] at this
          exact this
        · cases h4
      · cases h8
  · rename_i kx vx gs scope vpos
    simp only [Bool.and_eq_true, Bool.or_eq_true, decide_eq_true_eq, Bool.not_eq_true'] at h5
    obtain ⟨hk, h5⟩ := h5
    rcases h5 with h5 | ⟨⟨⟨h5, h6⟩, h7⟩, h8⟩
    · exact s_set G.nd h1' (G.loc h2) hE.1 (sw_cellD (by rw [G.sc]; exact h5)) (G.st _ h3)
    · have hsw := sw_trueD (kx := kx) (vx := vx) (gs := gs) (l := pos.line) (G.bk hk) (G.lcl h5) h6 h7
      split at h8
      · rename_i own tg it c ke xe
        unfold okE at h4
        split at h4
        · rename_i kx' vx' g ii ifs scope' pos' heq
          cases heq
          simp only [Bool.and_eq_true, List.all_eq_true, decide_eq_true_eq] at h4
          obtain ⟨⟨⟨⟨⟨⟨⟨k1, k2⟩, k3⟩, k4⟩, k5⟩, k6⟩, k7⟩, k8⟩ := h4
          have ok : BlkOk X.N X.env.scope scope (ownS C own) := by rw [G.N, G.sc]; exact blkOk_by k1
          have := s_setDcomp (X := X) G.calm G.nd h1' (G.lcl h5) hsw ok (ts1 := slG tg) (by rw [ownS_2]; exact k2) (i_sound G it g ii k3)
            (fun s H D cl fp => (g_sound (G.blk s H scope D cl fp) tg g k5).1)
            (c := (ev Γ c).t) (fun s H D cl fp => tests_sound (e_sound (G.blk s H scope D cl fp) c) k6)
            (fun s H D cl fp => (e_sound (G.blk s H scope D cl fp) ke _ k7).1)
            (fun s H D cl fp => (e_sound (G.blk s H scope D cl fp) xe _ k8).1) (plainIter_ok k4)
          rw [ownS_2] at this
          exact this
        · cases h4
      · cases h8
  · exact s_set G.nd h1' (G.loc h2) hE.1 (sw_plain (by simpa using h5)) (G.st _ h3)
theorem nms2 {x y : PySem.Str} {px py : Pos} (h : (nmsOf C.sc [.Name x px, .Name y py]).length = 2) : nmsOf C.sc [.Name x px, .Name y py] = [x, y] := by
  unfold nmsOf nmOf at h ⊢
  simp only [List.filterMap_cons, List.filterMap_nil] at h ⊢
  split at h <;> split at h <;> simp_all
theorem nms3 {x y z : PySem.Str} {px py pz : Pos} (h : (nmsOf C.sc [.Name x px, .Name y py, .Name z pz]).length = 3) : nmsOf C.sc [.Name x px, .Name y py, .Name z pz] = [x, y, z] := by
  unfold nmsOf nmOf at h ⊢
  simp only [List.filterMap_cons, List.filterMap_nil] at h ⊢
  split at h <;> split at h <;> split at h <;> simp_all
theorem swap_len {ts vs : List Expr} (h : swapB C ts vs = true) : (nmsOf C.sc ts).length = ts.length ∧ vs.length = ts.length := by
  simp only [swapB, Bool.and_eq_true, Bool.not_eq_true'] at h
  obtain ⟨⟨⟨⟨⟨⟨h1, h2⟩, h3⟩, h4⟩, h5⟩, h6⟩, h7⟩ := h
  rw [Bool.or_eq_false_iff] at h7
  exact ⟨by simpa using h7.1, by simpa using h3⟩
theorem names_sound (G : Fit C Γ X k) : ∀ {is : List Nat} {es : List Expr}, okNames C is es = true → NamesOk X es is
  | [], [], _ => .nil
  | [], _ :: _, h => by simp [okNames] at h
  | _ :: _, [], h => by simp [okNames] at h
  | i :: is, e :: es, h => by
    unfold okNames at h
    split at h
    · rename_i heq; cases heq
    · rename_i heq1 heq2
      cases heq1; cases heq2
      simp only [Bool.and_eq_true, decide_eq_true_eq] at h
      obtain ⟨⟨⟨h1, h2⟩, h3⟩, h4⟩ := h
      exact .cons (G.ix h1) (G.loc h2) (G.st _ h3) (names_sound G h4)
    · cases h
mutual
theorem s_sound (G : Fit C Γ X k) : ∀ (c : CS) (st : Stmt), okS C c st = true → PS X st (rdS X.K X.mg (evS Γ c))
  | .set i e, st, h => by
    unfold okS at h
    split at h
    · exact set_sound G h
    · cases h
  | .unpack gs e, st, h => by
    unfold okS at h
    split at h
    · rename_i ts k1 p1 v pos
      simp only [Bool.and_eq_true] at h
      obtain ⟨⟨h1, h2⟩, h3⟩ := h
      have hg := g_sound G (.tup gs) (.Tuple ts k1 p1) (by unfold okG; exact h1)
      refine s_unpack (e_sound G e v h2).1 hg.1 sw_tup ?_ rfl
      split at h3
      · exact noSwapB_ok G h3
      · rename_i hne
        refine sw_noTup ?_
        split
        · exact absurd rfl (hne _ _ _)
        · rfl
    · cases h
  | .par is es, st, h => by
    unfold okS at h
    split at h
    · rename_i x px y py k1 p1 vs k2 p2 pos
      split at h
      · rename_i i j
        simp only [Bool.and_eq_true, decide_eq_true_eq] at h
        obtain ⟨⟨⟨⟨⟨⟨h1, h2⟩, h3⟩, h4⟩, h5⟩, h6⟩, h7⟩ := h
        have hw := swapB_ok (j := k1) (p := p1) (j2 := k2) (p2 := p2) G h1
        have hl := swap_len h1
        rw [nms2 hl.1] at hw
        match vs, hl.2, h7, hw with
        | [a, b], _, h7, hw => exact s_par G.calm G.nd (G.ix h2) (G.ix h3) h4 (G.lcl h5) (G.lcl h6) (l_sound G es _ h7) hw
      · cases h
    · rename_i x px y py z pz k1 p1 vs k2 p2 pos
      split at h
      · rename_i i j l
        simp only [Bool.and_eq_true, decide_eq_true_eq] at h
        obtain ⟨⟨⟨⟨⟨⟨⟨⟨⟨⟨h1, h2⟩, h3⟩, h4⟩, h5⟩, h6⟩, h7⟩, h8⟩, h9⟩, h10⟩, h11⟩ := h
        have hw := swapB_ok (j := k1) (p := p1) (j2 := k2) (p2 := p2) G h1
        have hl := swap_len h1
        rw [nms3 hl.1] at hw
        match vs, hl.2, h11, hw with
        | [a, b, c], _, h11, hw => exact s_par3 G.calm G.nd (G.ix h2) (G.ix h3) (G.ix h4) h5 h6 h7 (G.lcl h8) (G.lcl h9) (G.lcl h10) (l_sound G es _ h11) hw
      · cases h
    · cases h
  | .sub i a e, st, h => by
    unfold okS at h
    split at h
    · simp only [Bool.and_eq_true, decide_eq_true_eq] at h
      obtain ⟨⟨⟨⟨⟨h1, h2⟩, h3⟩, h4⟩, h5⟩, h6⟩ := h
      exact s_sub (by have := G.hu; omega) (G.ix h1) (G.vis h2) (nameB_ok h3).1 (nameB_ok h3).2 (e_sound G a _ h4).1 h5 (e_sound G e _ h6).1
    · cases h
  | .put2 i a j b es, st, h => by
    unfold okS at h
    split at h
    · simp only [Bool.and_eq_true, decide_eq_true_eq] at h
      obtain ⟨⟨⟨⟨⟨⟨⟨⟨⟨⟨⟨h1, h2⟩, h3⟩, h4⟩, h5⟩, h6⟩, h7⟩, h8⟩, h9⟩, h10⟩, h11⟩, h12⟩ := h
      exact s_put2 G.calm (by have := G.hu; omega) (G.ix h1) (G.vis h2) (nameB_ok h3).1 (nameB_ok h3).2 (G.ix h4) (G.vis h5) (nameB_ok h6).1 (nameB_ok h6).2 (e_sound G a _ h7).1 h8 (e_sound G b _ h9).1 h10 (l_sound G es _ h11) (noSwapB_ok G h12)
    · cases h
  | .aug i o e, st, h => by
    unfold okS at h
    split at h
    · simp only [Bool.and_eq_true, Bool.or_eq_true, decide_eq_true_eq] at h
      obtain ⟨⟨⟨⟨h1, h2⟩, h3⟩, h4⟩, h5⟩ := h
      rcases h5 with ⟨rfl, rfl⟩ | ⟨rfl, rfl⟩
      · exact s_aug_add G.nd (G.ix h1) (G.loc h2) (e_sound G e _ h4).1 (G.st _ h3)
      · exact s_aug_sub G.nd (G.ix h1) (G.loc h2) (e_sound G e _ h4).1 (G.st _ h3)
    · cases h
  | .augsub i a o e, st, h => by
    unfold okS at h
    split at h
    · simp only [Bool.and_eq_true, Bool.or_eq_true, decide_eq_true_eq] at h
      obtain ⟨⟨⟨⟨⟨⟨h1, h2⟩, h3⟩, h4⟩, h5⟩, h6⟩, h7⟩ := h
      exact s_augsub (by have := G.hu; omega) (G.ix h1) (G.vis h2) (nameB_ok h3).1 (nameB_ok h3).2 (e_sound G a _ h4).1 h5 (e_sound G e _ h6).1 h7
    · cases h
  | .grp d nm mny kv, st, h => by
    unfold okS at h
    split at h
    · simp only [Bool.and_eq_true, decide_eq_true_eq] at h
      obtain ⟨⟨⟨⟨⟨⟨⟨⟨⟨⟨⟨⟨⟨⟨⟨⟨⟨⟨⟨⟨⟨h0, rfl⟩, rfl⟩, rfl⟩, rfl⟩, rfl⟩, h1⟩, h2⟩, h3⟩, h4⟩, h5⟩, h6⟩, h7⟩, h8⟩, h9⟩, k1⟩, k2⟩, k3⟩, k4⟩, k5⟩, k6⟩, k7⟩ := h
      obtain ⟨g1, g2, _, _⟩ := G.bl h0
      exact s_grp G.nd G.hp G.calm g1 g2 (G.ix h1) (G.vis h2) (nameB_ok h3).1 (nameB_ok h3).2 (G.ix h4) (G.vis h5) (nameB_ok h6).1 (nameB_ok h6).2 (G.ix h7) (G.vis h8) (nameB_ok h9).1 (nameB_ok h9).2 (G.ix k1) (G.vis k2) (nameB_ok k3).1 (nameB_ok k3).2 (G.loc k4) (G.st _ k5) k6 k7
    · cases h
  | .pop i, st, h => by
    unfold okS at h
    split at h
    · simp only [Bool.and_eq_true, decide_eq_true_eq] at h
      obtain ⟨⟨⟨⟨rfl, h1⟩, h2⟩, h3⟩, h4⟩ := h
      exact s_pop (G.ix h1) (G.vis h2) (nameB_ok h3).1 (nameB_ok h3).2 h4
    · cases h
  | .parG is es, st, h => by
    unfold okS at h
    split at h
    · simp only [Bool.and_eq_true, decide_eq_true_eq] at h
      obtain ⟨⟨⟨h1, h2⟩, h3⟩, h4⟩ := h
      exact s_parG h4 G.calm G.nd (names_sound G h1) (l_sound G es _ h2) sw_tup (noSwapB_ok G h3)
    · cases h
  | .app i e, st, h => by
    unfold okS at h
    split at h
    · simp only [Bool.and_eq_true, decide_eq_true_eq] at h
      obtain ⟨⟨⟨⟨⟨⟨rfl, h1⟩, h2⟩, h3⟩, h4⟩, h5⟩, h6⟩ := h
      exact s_app (G.ix h1) (G.vis h2) (nameB_ok h3).1 (nameB_ok h3).2 (e_sound G e _ h4).1 h5 h6
    · cases h
  | .appE i a e, st, h => by
    unfold okS at h
    split at h
    · simp only [Bool.and_eq_true, decide_eq_true_eq] at h
      obtain ⟨⟨⟨⟨⟨⟨⟨⟨rfl, h1⟩, h2⟩, h3⟩, h4⟩, h5⟩, h6⟩, h7⟩, h8⟩ := h
      exact s_appE (G.ix h1) (G.vis h2) (nameB_ok h3).1 (nameB_ok h3).2 (e_sound G a _ h4).1 h5 (e_sound G e _ h6).1 h7 h8
    · cases h
  | .subX c a e, st, h => by
    unfold okS at h
    split at h
    · simp only [Bool.and_eq_true] at h
      obtain ⟨⟨⟨h1, h2⟩, h3⟩, h4⟩ := h
      exact s_subX (by have := G.hu; omega) (e_sound G c _ h1).1 (e_sound G a _ h2).1 h3 (e_sound G e _ h4).1
    · cases h
  | .putT i a e, st, h => by
    unfold okS at h
    split at h
    · simp only [Bool.and_eq_true, decide_eq_true_eq] at h
      obtain ⟨⟨⟨⟨⟨h1, h2⟩, h3⟩, h4⟩, h5⟩, h6⟩ := h
      exact s_putT (by have := G.hu; omega) (G.ix h1) (G.vis h2) (nameB_ok h3).1 (nameB_ok h3).2 (e_sound G a _ h4).1 h5 (e_sound G e _ h6).1
    · cases h
  | .expr e, st, h => by
    unfold okS at h
    split at h
    · simp only [Bool.and_eq_true, Bool.not_eq_true'] at h
      exact s_expr (e_sound G e _ h.1).1 (sw_plain h.2)
    · cases h
  | .ifs c a b, st, h => by
    unfold okS at h
    split at h
    · simp only [Bool.and_eq_true] at h
      exact s_if (e_sound G c _ h.1.1).2 (b_sound G a _ h.1.2) (b_sound G b _ h.2)
    · cases h
  | .forr tg it body w, st, h => by
    unfold okS at h
    split at h
    · simp only [Bool.and_eq_true] at h
      obtain ⟨⟨⟨h1, h2⟩, h3⟩, h4⟩ := h
      exact s_for G.hp G.calm (i_sound G it _ _ h2) (g_sound G tg _ h1).1 (b_sound G body _ h4) (plainIter_ok h3)
    · cases h
  | .forl tg e body w, st, h => by
    unfold okS at h
    split at h
    · simp only [Bool.and_eq_true] at h
      obtain ⟨⟨⟨h1, h2⟩, h3⟩, h4⟩ := h
      exact s_forl G.hp G.calm (e_sound G e _ h2).1 (g_sound G tg _ h1).1 (b_sound G body _ h4) (plainIter_ok h3)
    · cases h
  | .whil c body w, st, h => by
    unfold okS at h
    split at h
    · simp only [Bool.and_eq_true] at h
      exact s_while G.hp (e_sound G c _ h.1).2 (b_sound G body _ h.2)
    · cases h
  | .ret e, st, h => by
    unfold okS at h
    split at h
    · exact s_ret (e_sound G e _ h).1
    · cases h
  | .retN, st, h => by
    unfold okS at h
    split at h
    · exact s_retN
    · cases h
  | .brk, st, h => by
    unfold okS at h
    split at h
    · exact s_brk
    · cases h
  | .cnt, st, h => by
    unfold okS at h
    split at h
    · exact s_cnt
    · cases h
  | .raise c es, st, h => s_never fun ρ S r S' hh => by
    obtain ⟨xs, S1, _, hh⟩ := bind_ok (show Out.bind _ _ = _ from hh)
    split at hh <;> cases hh
  | .freeze _, st, h => by unfold okS at h; cases h
theorem b_sound (G : Fit C Γ X k) : ∀ (c : CB) (sts : List Stmt), okB C c sts = true → PSs X sts (rdS X.K X.mg (evB Γ c))
  | .nil, sts, h => by
    unfold okB at h
    split at h
    · exact s_nilB
    · cases h
  | .cons s r, sts, h => by
    unfold okB at h
    split at h
    · exact s_freeze (b_sound G r sts h)
    · split at h
      · cases h
      · rw [Bool.and_eq_true] at h
        exact s_consB (s_sound G s _ h.1) (b_sound G r _ h.2)
end

variable {K : PySem.W.Frag} {mg : PySem.Str → Option Value} {F H : Hp} {ι ι' : Plc} {S S' : Store}
theorem leave_ok {S0 : Store} {ι0 : Plc} {F0 : Hp} {x y : SV} {v : V} {Q : V → Hp → Prop} (hl : ι0.l.length = S0.length) (ex : Ext ι0 F0 ι F) (s : Sim K mg ι F S H) (r : RepS K mg F ι x v) (h : leave S0.length x S = .ok y S')
    (q : ∀ ι' F' w H', Ext ι0 F0 ι' F' → Sim K mg ι' F' S' H' → RepS K mg F' ι' y w → Q w H') : Q v H := by
  have tk : ∀ {F1 : Hp}, Sub F0 F1 → Ext ι0 F0 ⟨ι.l.take S0.length, ι.w⟩ F1 := fun {F1} hs => by
    obtain ⟨⟨⟨t, e1⟩, e2⟩, e3⟩ := ex
    refine ⟨⟨⟨[], ?_⟩, e2⟩, hs⟩
    show ι.l.take S0.length = _
    rw [e1, ← hl, List.take_left, List.append_nil]
  unfold leave at h
  cases x with
  | ls _ => cases h
  | v x =>
    cases h
    exact q _ _ _ _ (tk ex.2) (s.take _) r
  | l m =>
    simp only at h
    split at h
    · rename_i hm
      cases h
      obtain ⟨p, h1, rfl⟩ := r
      refine q _ _ _ _ (tk ex.2) (s.take _) ⟨p, ?_, rfl⟩
      show (ι.l.take S0.length)[m]? = _
      rw [List.getElem?_take_of_lt hm]; exact h1
    · rename_i hm
      split at h
      · rename_i xs hS
        cases h
        obtain ⟨a, vs, h1, s2, e2, r2⟩ := s.shut hS
        obtain ⟨p, h3, rfl⟩ := r
        rw [h1] at h3; cases h3
        have s3 := s2.take S0.length
        have e : (S.set m Ob.gone).take S0.length = S.take S0.length := by
          rw [List.take_set_of_le (by omega)]
        rw [e] at s3
        exact q _ _ _ _ (tk (ex.2.trans e2.2)) s3 r2
      · rename_i kvs hS
        cases h
        obtain ⟨p, h3, rfl⟩ := r
        obtain ⟨a, o, h1, h2, h4, ws, e2, h5⟩ := s.at_ m _ hS
        rw [h3] at h1; cases h1
        subst e2
        have s3 := s.take S0.length
        have hmem : p ∈ ι.l := List.mem_of_getElem? h3
        have hw : ι.w p = none := by
          cases e : ι.w p with
          | none => rfl
          | some o => exact absurd hmem (s.frm _ _ e).2.2
        have hnot : p ∉ ι.l.take S0.length := fun hp => by
          obtain ⟨j, hj⟩ := List.getElem?_of_mem hp
          have hjl : j < S0.length := by
            have := (List.getElem?_eq_some_iff.mp hj).1
            simp at this; omega
          rw [List.getElem?_take_of_lt hjl] at hj
          obtain ⟨l1, e1⟩ := List.getElem?_eq_some_iff.mp hj
          obtain ⟨l2, e2⟩ := List.getElem?_eq_some_iff.mp h3
          have := (List.getElem_inj s.nd).mp (e1.trans e2.symm)
          omega
        obtain ⟨s4, e4⟩ := s3.enterO (x := .dic kvs) h2 h4 hnot hw ⟨h4, ws, rfl, h5⟩
        refine q _ _ _ _ ((tk ex.2).trans e4) s4 ⟨p, ?_, rfl⟩
        show (ι.l.take S0.length ++ [p])[S0.length]? = _
        have : (ι.l.take S0.length).length = S0.length := by
          rw [List.length_take, s.len]
          have := (List.getElem?_eq_some_iff.mp hS).1
          omega
        rw [List.getElem?_append_right (by omega), this]
        simp
      · cases h
theorem leaveM_ok {S0 : Store} {ι0 : Plc} {F0 : Hp} {x y : SV} {v : V} {Q : V → Hp → Prop} (hl : ι0.l.length = S0.length) (ex : Ext ι0 F0 ι F) (s : Sim K mg ι F S H) (r : RepS K mg F ι x v) (h : leaveM S0.length x S = .ok y S')
    (q : ∀ ι' F' w H', Ext ι0 F0 ι' F' → Sim K mg ι' F' S' H' → RepS K mg F' ι' y w → Q w H') : Q v H := by
  have tk : ∀ {F1 : Hp}, Sub F0 F1 → Ext ι0 F0 ⟨ι.l.take S0.length, ι.w⟩ F1 := fun {F1} hs => by
    obtain ⟨⟨⟨t, e1⟩, e2⟩, e3⟩ := ex
    refine ⟨⟨⟨[], ?_⟩, e2⟩, hs⟩
    show ι.l.take S0.length = _
    rw [e1, ← hl, List.take_left, List.append_nil]
  have mv : ∀ {m : Nat} {p : Addr} {ob : Ob} {o : HO}, ι.l[m]? = some p → ¬ m < S0.length → S[m]? = some ob → H p = some o → F p = none → RepO K mg F ob p o → y = .l S0.length → S' = S.take S0.length ++ [ob] → Q (.ref p) H := fun {m p ob o} h3 hm hS h2 h4 h5 ey eS => by
    have s3 := s.take S0.length
    have hmem : p ∈ ι.l := List.mem_of_getElem? h3
    have hw : ι.w p = none := by
      cases e : ι.w p with
      | none => rfl
      | some o => exact absurd hmem (s.frm _ _ e).2.2
    have hnot : p ∉ ι.l.take S0.length := fun hp => by
      obtain ⟨j, hj⟩ := List.getElem?_of_mem hp
      have hjl : j < S0.length := by
        have := (List.getElem?_eq_some_iff.mp hj).1
        simp at this; omega
      rw [List.getElem?_take_of_lt hjl] at hj
      obtain ⟨l1, e1⟩ := List.getElem?_eq_some_iff.mp hj
      obtain ⟨l2, e2⟩ := List.getElem?_eq_some_iff.mp h3
      have := (List.getElem_inj s.nd).mp (e1.trans e2.symm)
      omega
    obtain ⟨s4, e4⟩ := s3.enterO (x := ob) h2 h4 hnot hw h5
    subst ey eS
    refine q _ _ _ _ ((tk ex.2).trans e4) s4 ⟨p, ?_, rfl⟩
    show (ι.l.take S0.length ++ [p])[S0.length]? = _
    have : (ι.l.take S0.length).length = S0.length := by
      rw [List.length_take, s.len]
      have := (List.getElem?_eq_some_iff.mp hS).1
      omega
    rw [List.getElem?_append_right (by omega), this]
    simp
  unfold leaveM at h
  cases x with
  | ls _ => cases h
  | v x =>
    cases h
    exact q _ _ _ _ (tk ex.2) (s.take _) r
  | l m =>
    simp only at h
    split at h
    · rename_i hm
      cases h
      obtain ⟨p, h1, rfl⟩ := r
      refine q _ _ _ _ (tk ex.2) (s.take _) ⟨p, ?_, rfl⟩
      show (ι.l.take S0.length)[m]? = _
      rw [List.getElem?_take_of_lt hm]; exact h1
    · rename_i hm
      obtain ⟨p, h3, rfl⟩ := r
      split at h
      · rename_i xs hS
        cases h
        obtain ⟨a, o, h1, h2, h4⟩ := s.at_ m _ hS
        rw [h3] at h1; cases h1
        exact mv h3 hm hS h2 h4.1 h4 rfl rfl
      · rename_i kvs hS
        cases h
        obtain ⟨a, o, h1, h2, h4⟩ := s.at_ m _ hS
        rw [h3] at h1; cases h1
        exact mv h3 hm hS h2 h4.1 h4 rfl rfl
      · cases h
theorem start_rep {N : List PySem.Str} : ∀ {xs : List SV} {vs : List V}, RepSs K mg F ι xs vs → RepR K mg F ι (xs.map some ++ List.replicate (N.length - xs.length) none) (L2.start N vs) := by
  intro xs vs r
  have hl := r.length
  refine ⟨by simp [L2.start, hl], fun i x h => ?_⟩
  by_cases hi : i < xs.length
  · rw [List.getElem?_append_left (by simpa using hi)] at h
    rw [List.getElem?_map] at h
    cases hx : xs[i]? with
    | none => rw [hx] at h; cases h
    | some z =>
      rw [hx] at h
      cases h
      obtain ⟨v, h1, h2⟩ := r.get hx
      refine ⟨v, ?_, h2⟩
      unfold L2.start
      rw [List.getElem?_append_left (by simp; omega), List.getElem?_map, h1]
      rfl
  · rw [List.getElem?_append_right (by simpa using hi), List.getElem?_replicate] at h
    split at h <;> cases h
theorem fnSem_inv {d : Def} {xs : List SV} {y : SV} (h : fnSem Γ d xs S = .ok y S') : xs.length = d.np ∧ ∃ r S1, evB Γ d.body (xs.map some ++ List.replicate (d.ns - d.np) none) S = .ok r S1 ∧
    ((∃ x, r = .ret x ∧ leave S.length x S1 = .ok y S') ∨ (∃ ρ, r = .next ρ ∧ leave S.length (.v .non) S1 = .ok y S')) := by
  unfold fnSem at h
  split at h
  · rename_i hl
    refine ⟨hl, ?_⟩
    split at h
    · exact ⟨_, _, by assumption, .inl ⟨_, rfl, h⟩⟩
    · exact ⟨_, _, by assumption, .inr ⟨_, rfl, h⟩⟩
    · cases h
    · cases h
    · cases h
  · cases h
theorem fnSemM_inv {d : Def} {xs : List SV} {y : SV} (h : fnSemM Γ d xs S = .ok y S') : xs.length = d.np ∧ ∃ r S1, evB Γ d.body (xs.map some ++ List.replicate (d.ns - d.np) none) S = .ok r S1 ∧
    ((∃ x, r = .ret x ∧ leaveM S.length x S1 = .ok y S') ∨ (∃ ρ, r = .next ρ ∧ leaveM S.length (.v .non) S1 = .ok y S')) := by
  unfold fnSemM at h
  split at h
  · rename_i hl
    refine ⟨hl, ?_⟩
    split at h
    · exact ⟨_, _, by assumption, .inl ⟨_, rfl, h⟩⟩
    · exact ⟨_, _, by assumption, .inr ⟨_, rfl, h⟩⟩
    · cases h
    · cases h
    · cases h
  · cases h
def FOs (P : Program) (w : World) (K : PySem.W.Frag) (mg : PySem.Str → Option Value) (base : Heap) (k : Nat) : List PySem.Str → List (PySem.Str × Fn) → Prop
  | [], [] => True
  | n :: ns, f :: fs => (f.1 = n ∧ FO P w K mg base k n f.2) ∧ FOs P w K mg base k ns fs
  | _, _ => False
section
variable {P : Program} {w : World} {base : Heap}
theorem FOs.get {k : Nat} : ∀ {ns : List PySem.Str} {Γ : List (PySem.Str × Fn)}, FOs P w K mg base k ns Γ → ∀ (i : Nat) (n : PySem.Str), ns[i]? = some n → ∃ f, Γ[i]? = some (n, f) ∧ FO P w K mg base k n f
  | [], [], _, i, n, h => by simp at h
  | [], _ :: _, h, _, _, _ => h.elim
  | _ :: _, [], h, _, _, _ => h.elim
  | m :: ns, (m', f) :: fs, ⟨⟨h0, h1⟩, h2⟩, 0, n, h => by
    have h0 : m' = m := h0
    subst h0
    simp at h; subst h; exact ⟨f, rfl, h1⟩
  | m :: ns, f :: fs, ⟨h1, h2⟩, i + 1, n, h => by simpa using FOs.get h2 i n (by simpa using h)
theorem FOs.look {k : Nat} : ∀ {ns : List PySem.Str} {Γ : List (PySem.Str × Fn)}, FOs P w K mg base k ns Γ → ∀ (n : PySem.Str) (f : Fn), Γ.lookup n = some f → FO P w K mg base k n f
  | [], [], _, n, f, h => by cases h
  | [], _ :: _, h, _, _, _ => h.elim
  | _ :: _, [], h, _, _, _ => h.elim
  | m :: ns, (m', g) :: fs, ⟨⟨h0, h1⟩, h2⟩, n, f, h => by
    have h0 : m' = m := h0
    subst h0
    rw [List.lookup_cons] at h
    split at h
    · rename_i he
      cases h
      rw [eq_of_beq he]; exact h1
    · exact FOs.look h2 n f h
end
theorem fn_mk {P : Program} {w : World} {base : Heap} {x qual : PySem.Str} {params : Arguments} {body : List Stmt} {scope : Scope} {f : Addr} {fd : FuncData} {ps : List PySem.Str} {k : Nat} {d : Def} {C : Ctx}
    (F : FunD K x qual params body scope [] [] f fd) (S : FnScope C.N ps scope) (hsc : C.sc = scope) (hnp : d.np = ps.length) (hns : d.ns = C.N.length)
    (ok : okB C d.body body = true) (hfo : FOs P w K mg base k C.fs Γ) (hglob : ∀ p ∈ C.glob, GlobOk K mg p.1 p.2) (hblt : ∀ n ∈ C.blt, mg n = none) :
    FnOk P w K mg base CX0 (k + 1) f fd ps (fun vs H Q _ => rdV K mg (fnSem Γ d) vs H Q) := by
  have len : ∀ (vs : List V) (H : Hp) (Q : VK) (E : XK), rdV K mg (fnSem Γ d) vs H Q → vs.length = ps.length := fun vs H Q E h => by
    obtain ⟨ι, F, S, xs, y, S', sim, r, hf, q⟩ := h
    rw [← r.length, (fnSem_inv hf).1, hnp]
  refine F.ok S len fun cdv A outer s H vs Q E hr hsp => ?_
  obtain ⟨ι, F0, S0, xs, y, S', sim, r, hf, q⟩ := hsp
  obtain ⟨hx, fl, S1, hbody, hres⟩ := fnSem_inv hf
  have G : Fit C Γ (cxOf CX0 P w K mg base C.N qual scope f cdv A outer s H E).nox k :=
    { N := rfl, nd := S.nd, sc := hsc.symm, calm := rfl, xe := rfl, room := hr, st := fun _ _ => .inl rfl, fo := hfo.get, fl := hfo.look, glob := hglob, blt := hblt }
  refine ⟨_, (b_sound G d.body body ok).nox, ι, F0, S0, _, fl, S1, sim, ?_, hbody, fun ι1 F1 H1 e1 s1 => ?_⟩
  · have := start_rep (N := C.N) r
    rw [hx, ← hns] at this
    exact this
  · rcases hres with ⟨z, rfl, hz⟩ | ⟨ρ, rfl, hz⟩
    · exact fun v rv => leave_ok sim.len e1 s1 rv hz q
    · exact fun σ rr => leave_ok (v := .non) sim.len e1 s1 (show RepS K mg F1 ι1 (.v .non) .non from rfl) hz q
theorem fo_mk {P : Program} {w : World} {base : Heap} {x qual : PySem.Str} {params : Arguments} {body : List Stmt} {scope : Scope} {f : Addr} {fd : FuncData} {ps : List PySem.Str} {k : Nat} {d : Def} {C : Ctx} {name : PySem.Str}
    (F : FunD K x qual params body scope [] [] f fd) (hb : Binds K fd ps []) (hmg : mg name = some (.ref f)) (S : FnScope C.N ps scope) (hsc : C.sc = scope) (hnp : d.np = ps.length) (hns : d.ns = C.N.length)
    (ok : okB C d.body body = true) (hfo : FOs P w K mg base k C.fs Γ) (hglob : ∀ p ∈ C.glob, GlobOk K mg p.1 p.2) (hblt : ∀ n ∈ C.blt, mg n = none) :
    FO P w K mg base (k + 1) name (fnSem Γ d) := ⟨f, fd, ps, hmg, F.kp, hb, fn_mk F S hsc hnp hns ok hfo hglob hblt⟩
theorem fn_mkM {P : Program} {w : World} {base : Heap} {x qual : PySem.Str} {params : Arguments} {body : List Stmt} {scope : Scope} {f : Addr} {fd : FuncData} {ps : List PySem.Str} {k : Nat} {d : Def} {C : Ctx}
    (F : FunD K x qual params body scope [] [] f fd) (S : FnScope C.N ps scope) (hsc : C.sc = scope) (hnp : d.np = ps.length) (hns : d.ns = C.N.length)
    (ok : okB C d.body body = true) (hfo : FOs P w K mg base k C.fs Γ) (hglob : ∀ p ∈ C.glob, GlobOk K mg p.1 p.2) (hblt : ∀ n ∈ C.blt, mg n = none) :
    FnOk P w K mg base CX0 (k + 1) f fd ps (fun vs H Q _ => rdV K mg (fnSemM Γ d) vs H Q) := by
  have len : ∀ (vs : List V) (H : Hp) (Q : VK) (E : XK), rdV K mg (fnSemM Γ d) vs H Q → vs.length = ps.length := fun vs H Q E h => by
    obtain ⟨ι, F, S, xs, y, S', sim, r, hf, q⟩ := h
    rw [← r.length, (fnSemM_inv hf).1, hnp]
  refine F.ok S len fun cdv A outer s H vs Q E hr hsp => ?_
  obtain ⟨ι, F0, S0, xs, y, S', sim, r, hf, q⟩ := hsp
  obtain ⟨hx, fl, S1, hbody, hres⟩ := fnSemM_inv hf
  have G : Fit C Γ (cxOf CX0 P w K mg base C.N qual scope f cdv A outer s H E).nox k :=
    { N := rfl, nd := S.nd, sc := hsc.symm, calm := rfl, xe := rfl, room := hr, st := fun _ _ => .inl rfl, fo := hfo.get, fl := hfo.look, glob := hglob, blt := hblt }
  refine ⟨_, (b_sound G d.body body ok).nox, ι, F0, S0, _, fl, S1, sim, ?_, hbody, fun ι1 F1 H1 e1 s1 => ?_⟩
  · have := start_rep (N := C.N) r
    rw [hx, ← hns] at this
    exact this
  · rcases hres with ⟨z, rfl, hz⟩ | ⟨ρ, rfl, hz⟩
    · exact fun v rv => leaveM_ok sim.len e1 s1 rv hz q
    · exact fun σ rr => leaveM_ok (v := .non) sim.len e1 s1 (show RepS K mg F1 ι1 (.v .non) .non from rfl) hz q
theorem fo_mkM {P : Program} {w : World} {base : Heap} {x qual : PySem.Str} {params : Arguments} {body : List Stmt} {scope : Scope} {f : Addr} {fd : FuncData} {ps : List PySem.Str} {k : Nat} {d : Def} {C : Ctx} {name : PySem.Str}
    (F : FunD K x qual params body scope [] [] f fd) (hb : Binds K fd ps []) (hmg : mg name = some (.ref f)) (S : FnScope C.N ps scope) (hsc : C.sc = scope) (hnp : d.np = ps.length) (hns : d.ns = C.N.length)
    (ok : okB C d.body body = true) (hfo : FOs P w K mg base k C.fs Γ) (hglob : ∀ p ∈ C.glob, GlobOk K mg p.1 p.2) (hblt : ∀ n ∈ C.blt, mg n = none) :
    FO P w K mg base (k + 1) name (fnSemM Γ d) := ⟨f, fd, ps, hmg, F.kp, hb, fn_mkM F S hsc hnp hns ok hfo hglob hblt⟩
end
end FW

namespace FW
open PySem PySem.Spec PyProof.Rows L2 RZ

mutual
/-- the value stands for x, by the kept part of the heap -/
def repB (K : PySem.W.Frag) : PV → Value → Bool
  | .non, .none => true
  | .bl a, .bool b => a == b
  | .int i, .int j _ => decide (i = j)
  | .str s, .str t _ => decide (s = t) && PyData.strOk s
  | .tup xs, .ref p => match K.lookup p with
    | some ⟨.type c, none, .seq its _, _⟩ => decide (c = "tuple") && (decide (its.size ≤ sizeLine) && repBs K xs its.toList)
    | _ => false
  | _, _ => false
def repBs (K : PySem.W.Frag) : List PV → List Value → Bool
  | [], [] => true
  | x :: xs, u :: us => repB K x u && repBs K xs us
  | _, _ => false
end
section
variable {K : PySem.W.Frag} {mg : PySem.Str → Option Value}
mutual
theorem repB_ok : ∀ {x : PV} {u : Value}, repB K x u = true → ∃ v, RelV v u ∧ Rep K mg (fun _ => none) x v ∧ TupK K x v
  | .non, u, h => by
    cases u <;> simp [repB] at h
    exact ⟨.non, rfl, rfl, trivial⟩
  | .bl a, u, h => by
    cases u <;> simp [repB] at h
    subst h
    exact ⟨.bl a, rfl, rfl, trivial⟩
  | .int i, u, h => by
    cases u <;> simp [repB] at h
    subst h
    exact ⟨.int i, ⟨_, rfl⟩, rfl, trivial⟩
  | .str s, u, h => by
    cases u <;> simp [repB] at h
    obtain ⟨rfl, h⟩ := h
    exact ⟨.str s, ⟨_, rfl⟩, ⟨rfl, h⟩, trivial⟩
  | .tup xs, u, h => by
    cases u <;> try (simp [repB] at h; done)
    rename_i p
    unfold repB at h
    split at h
    · rename_i c its n sl hk
      rw [Bool.and_eq_true, Bool.and_eq_true, decide_eq_true_eq, decide_eq_true_eq] at h
      obtain ⟨rfl, h1, h2⟩ := h
      obtain ⟨vs, g1, g2⟩ := repBs_ok h2
      exact ⟨.ref p, rfl, ⟨p, vs, rfl, .inr ⟨_, its, n, hk, rfl, rfl, rfl, h1, g1⟩, g2⟩, p, _, rfl, hk, rfl, rfl⟩
    · cases h
  | .lst xs, u, h => by cases u <;> simp [repB] at h
  | .fn _, u, h => by cases u <;> simp [repB] at h
  | .dic _ _, u, h => by cases u <;> simp [repB] at h
theorem repBs_ok : ∀ {xs : List PV} {us : List Value}, repBs K xs us = true → ∃ vs, Vals vs us ∧ RepL K mg (fun _ => none) xs vs
  | [], us, h => by
    cases us <;> simp [repBs] at h
    exact ⟨[], .nil, rfl⟩
  | x :: xs, us, h => by
    cases us with
    | nil => simp [repBs] at h
    | cons u us =>
      simp only [repBs, Bool.and_eq_true] at h
      obtain ⟨v, a1, a2, _⟩ := repB_ok h.1
      obtain ⟨vs, b1, b2⟩ := repBs_ok h.2
      exact ⟨v :: vs, .cons a1 b1, v, vs, rfl, a2, b2⟩
end
end
def isIntW (k : Int) : Value → Bool
  | .int j _ => decide (j = k)
  | _ => false
def keysIB : List DictEntry → List PV → List PV → Bool
  | [], [], [] => true
  | e :: r, .int k :: ks, .int v :: vs => isIntW k e.key && decide (e.hash = hashInt k) && isIntW v e.val && keysIB r ks vs
  | _, _, _ => false
theorem isIntV_ok {k : Int} {u : Value} (h : isIntW k u = true) : ∃ t, u = .int k t := by
  unfold isIntW at h
  split at h
  · rename_i j t
    obtain rfl := of_decide_eq_true h
    exact ⟨t, rfl⟩
  · cases h
theorem keysIB_ok : ∀ {l : List DictEntry} {ks vs : List PV}, keysIB l ks vs = true → KeysI l ks vs
  | [], [], [], _ => ⟨rfl, rfl⟩
  | [], [], _ :: _, h => by simp [keysIB] at h
  | [], _ :: _, _, h => by simp [keysIB] at h
  | e :: r, ks, vs, h => by
    unfold keysIB at h
    split at h
    · rename_i h0; cases h0
    · rename_i e0 r0 k ks' v vs' h0
      cases h0
      simp only [Bool.and_eq_true, decide_eq_true_eq] at h
      obtain ⟨⟨⟨h1, h2⟩, h3⟩, h4⟩ := h
      obtain ⟨t, h1⟩ := isIntV_ok h1
      obtain ⟨t', h3⟩ := isIntV_ok h3
      exact ⟨k, v, t, t', ks', vs', rfl, rfl, h1, h2, h3, keysIB_ok h4⟩
    · cases h
def dicB (K : PySem.W.Frag) (ks vs : List PV) (d : Addr) : Bool := match K.lookup d with
  | some ⟨.type c, none, .dict es _, sl⟩ => decide (c = "dict") && decide (sl = #[]) && !(d == sysModules) && keysIB es.toList ks vs
  | _ => false
def constB (K : PySem.W.Frag) (p : PySem.Str × PV) : Bool := match PySem.W.nsIn K mainGlobals p.1 with
  | some (some u) => match p.2 with
    | .dic ks vs => match u with
      | .ref d => dicB K ks vs d
      | _ => false
    | x => repB K x u
  | _ => false
theorem constB_ok {K : PySem.W.Frag} {h : Heap} {mg : PySem.Str → Option Value} (X : K.In h) (G : h.Ns mainGlobals mg) {p : PySem.Str × PV} (c : constB K p = true) : GlobOk K mg p.1 p.2 := by
  obtain ⟨n, x⟩ := p
  unfold constB at c
  split at c
  · rename_i u e
    have val : repB K x u = true → notDic x = true → GlobOk K mg n x := fun c hx => by
      obtain ⟨v, h1, h2, h3⟩ := repB_ok (mg := mg) c
      have : ∃ u v, mg n = some u ∧ RelV v u ∧ Rep K mg (fun _ => none) x v ∧ TupK K x v := ⟨u, v, PySem.W.mg_of X G e, h1, h2, h3⟩
      cases x <;> first | exact this | cases hx
    cases x with
    | dic ks vs =>
      dsimp only at c
      split at c
      · rename_i d
        unfold dicB at c
        split at c
        · rename_i cc es m sl hk
          simp only [Bool.and_eq_true, decide_eq_true_eq, Bool.not_eq_true'] at c
          obtain ⟨⟨⟨rfl, rfl⟩, c3⟩, c4⟩ := c
          exact ⟨d, es, m, PySem.W.mg_of X G e, hk, c3, keysIB_ok c4⟩
        · cases c
      · cases c
    | non => exact val c rfl
    | bl _ => exact val c rfl
    | int _ => exact val c rfl
    | str _ => exact val c rfl
    | tup _ => exact val c rfl
    | lst _ => exact val c rfl
    | fn _ => exact val c rfl
  · cases c
def notList (o : Obj) : Bool := !(o.cls == .type "list")
def frN (g : Addr → Option Obj) (as : List Addr) : PySem.W.Frag := He.frG (fun a => (g a).filter notList) as
theorem frN_at {g : Addr → Option Obj} {as : List Addr} {a : Addr} {o : Obj} (h : (frN g as).lookup a = some o) : g a = some o ∧ notList o = true := by
  have := He.frG_at as h
  rw [Option.filter_eq_some_iff] at this
  exact this
abbrev AlF : Type := He.AlD × Bool
def obsF (fa : List He.Fa) (fn : List He.DefD) (gs : List (PySem.Str × PV)) (n : Nat) (g : Addr → Option Obj) : AlF :=
  (He.obsD fa fn (frN g (He.asD g n)), gs.all (constB (frN g (He.asD g n))))
structure SaysF (fa : List He.Fa) (fn : List He.DefD) (gs : List (PySem.Str × PV)) (K : PySem.W.Frag) : Prop where
  d : He.SaysD fa fn K
  g : gs.all (constB K) = true
  n : ∀ a o, K.lookup a = some o → notList o = true
def hookF (n : Nat) (fa : List He.Fa) (fn : List He.DefD) (gs : List (PySem.Str × PV)) : PySem.W.Hook where
  α := AlF
  obs := fun s => obsF fa fn gs n s.heap.get?
  val := fun _ => (He.valD fn, true)
  says := fun _ h => ∃ K : PySem.W.Frag, K.In h ∧ SaysF fa fn gs K
  of := fun _ _ e => ⟨_, fun _ _ z => (frN_at z).1, congrArg Prod.fst e, congrArg Prod.snd e, fun _ _ z => (frN_at z).2⟩
  keeps := fun _ _ _ ⟨K, hK, c⟩ k => ⟨K, PySem.W.Frag.In.keeps hK k, c⟩
theorem obsF_eq {n : Nat} {fa : List He.Fa} {fn : List He.DefD} {gs : List (PySem.Str × PV)} {g : Addr → Option Obj} {s : Shared} (h : ∀ a, g a = s.heap.get? a) : obsF fa fn gs n g = (hookF n fa fn gs).obs s := by
  have e : g = s.heap.get? := funext h
  rw [e] <;> rfl
theorem law_sp {K : PySem.W.Frag} {mg : PySem.Str → Option Value} {f : Fn} {H : Hp} {a : Addr} {ns : List Int} (hK : ∀ a o, K.lookup a = some o → notList o = true) (hS : SqL K H a (ns.map V.int)) (hf : ∃ S', f [.v (.lst (ns.map PV.int))] [] = .ok (.v (.bl true)) S') :
    rdV K mg f [.ref a] H fun v _ => v = .bl true := by
  have hr : Rd H a (.lst (ns.map V.int)) := by
    rcases hS with h | ⟨o, its, n, h1, h2, _⟩
    · exact h
    · have := hK a o h1
      rw [notList, h2] at this
      exact absurd this (by decide)
  obtain ⟨S', hf⟩ := hf
  have rep : ∀ (F : Hp) (ns : List Int), RepL K mg F (ns.map PV.int) (ns.map V.int) := by
    intro F ns
    induction ns with
    | nil => exact rfl
    | cons n ns ih => exact ⟨.int n, _, rfl, rfl, ih⟩
  have sim0 : ∀ u : HO, H a = some u → Sim K mg ⟨[], fun _ => none⟩ (upd (fun _ => none) a u) [] H := fun u h => by
    refine ⟨fun b o e => ?_, rfl, List.nodup_nil, fun b o e => (by cases e), fun n x e => by simp at e⟩
    by_cases hb : b = a
    · subst hb; rw [upd_same] at e; cases e; exact h
    · rw [upd_ne hb] at e; cases e
  have sim : ∃ F : Hp, Sim K mg ⟨[], fun _ => none⟩ F [] H ∧ Rd F a (.lst (ns.map V.int)) := by
    rcases hr with h | ⟨u, h⟩
    · exact ⟨_, sim0 _ h, .inl upd_same⟩
    · exact ⟨_, sim0 _ h, .inr ⟨u, upd_same⟩⟩
  obtain ⟨F, sim, hF⟩ := sim
  exact ⟨_, F, [], [.v (.lst (ns.map PV.int))], .v (.bl true), S', sim, ⟨.ref a, [], rfl, ⟨a, _, rfl, hF, rep F ns⟩, rfl⟩, hf, fun ι' F' v H' _ _ r => r⟩
end FW

namespace FW
open PySem PySem.Spec PyProof.Rows L2 RZ
abbrev faOf (glos blts : List PySem.Str) : List He.Fa := glos.map He.Fa.glo ++ blts.map He.Fa.free
section
variable {P : Program} {w : World} {K : PySem.W.Frag} {mg : PySem.Str → Option Value} {base h : Heap} {fa : List He.Fa} {fn : List He.DefD} {gs : List (PySem.Str × PV)} {glos blts : List PySem.Str}
theorem fact_mem (c : He.SaysD fa fn K) {f : He.Fa} (h : f ∈ fa) : f.ok K = true := by
  obtain ⟨i, hi⟩ := List.getElem?_of_mem h
  exact c.fact i hi
theorem glo_at (X : K.In h) (G : h.Ns mainGlobals mg) (c : He.SaysD (faOf glos blts) fn K) {n : PySem.Str} (hn : n ∈ glos) : mg n = some (.ref (He.ga K n)) :=
  He.glo_ok X G (fact_mem c (List.mem_append_left _ (List.mem_map_of_mem hn)))
theorem blt_all (X : K.In h) (G : h.Ns mainGlobals mg) (c : He.SaysD (faOf glos blts) fn K) : ∀ n ∈ blts, mg n = none := fun n hn =>
  He.free_ok X G (fact_mem c (List.mem_append_right _ (List.mem_map_of_mem hn)))
theorem glob_all (X : K.In h) (G : h.Ns mainGlobals mg) (c : SaysF fa fn gs K) : ∀ p ∈ gs, GlobOk K mg p.1 p.2 := fun p hp => constB_ok X G (List.all_eq_true.mp c.g p hp)
theorem fo_bad {x qual : PySem.Str} {params : Arguments} {body : List Stmt} {scope : Scope} {f : Addr} {fd : FuncData} {ps : List PySem.Str} {k : Nat} {name : PySem.Str} (F : FunD K x qual params body scope [] [] f fd) (hb : Binds K fd ps []) (hmg : mg name = some (.ref f)) :
    FO P w K mg base k name (fun _ _ => .bad) := by
  have no : ∀ {vs : List V} {H : Hp} {Q : VK}, rdV K mg (fun _ _ => .bad) vs H Q → False := fun h => by
    obtain ⟨ι, F, S, xs, y, S', sim, r, hf, q⟩ := h
    cases hf
  exact ⟨f, fd, ps, hmg, F.kp, hb, ⟨fun vs H Q E h => (no h).elim, fun A outer s H args us vs Q E hr he hbd hv h => (no h).elim⟩⟩
end
theorem law_end {l : PySem.W.OpenLaw} {k : Nat} {q : Program} {loose : List PySem.Str} {XP : (PySem.Str → Option Value) → Heap → Prop} {d : DefRec} {x : PySem.Str} {n : Nat} {fn : List He.DefD} {gs : List (PySem.Str × PV)} {glos blts : List PySem.Str} {f : Fn} {hm : Nat} {dl : He.DefD} {il : Nat}
    (hn : l.most = some n) (hn2 : n ≤ sizeLine) (hdf : d.params.defaults = []) (hr : Room k callerA) (hdl : fn[il]? = some dl) (hd0 : dl.dfl = []) (hk0 : dl.kwd = []) (hx : dl.at_ = (d.name, none)) (hgl : d.name ∈ glos)
    (hbd : ∀ (kV doc pm : Value) (an : Option Addr) (cdv ct : Value) (us : List Value), us.length = ([x] : List PySem.Str).length → bindArgs (PySem.W.fnOf dl.name dl.qual dl.params dl.body dl.scope .none kV doc pm an cdv ct) ⟨us, []⟩ = pure (([x] : List PySem.Str).zip us))
    (F : ∀ (w : World) (mg : PySem.Str → Option Value) (h : Heap) (K : PySem.W.Frag) (base : Heap) (fd : FuncData), K.In h → h.Ns mainGlobals mg → SaysF (faOf glos blts) fn gs K → FunD K dl.name dl.qual dl.params dl.body dl.scope [] [] (He.fAd K dl.at_) fd →
      FnOk l.prog w K mg base CX0 k (He.fAd K dl.at_) fd [x] (fun vs H Q _ => rdV K mg f vs H Q))
    (hf : ∀ ns : List Int, ns.length ≤ n → ∃ S', f [.v (.lst (ns.map PV.int))] [] = .ok (.v (.bl true)) S') :
    PySem.W.WalkO q loose XP (hookF hm (faOf glos blts) fn gs).says l.row.toRowW d [] (fun f vs => PySem.call f vs) := by
  refine walk_ofE (n := n) (k := k) (x := x) (CX := CX0) hn hn2 hdf hr ?_ (fun _ _ _ _ z => z)
  intro w mg fad h Y G hmg
  obtain ⟨K, KX, c⟩ := Y
  obtain ⟨fd, FD⟩ := c.d.def_ il hdl
  have e1 : dl.dvs K = [] := by unfold He.DefD.dvs; rw [hd0]; rfl
  have e2 : dl.kws K = [] := by unfold He.DefD.kws; rw [hk0]; rfl
  rw [e1, e2] at FD
  have ea : He.fAd K dl.at_ = fad := by
    have := glo_at KX G c.d hgl
    rw [hmg] at this
    cases this
    rw [hx]
    rfl
  have hb := FunD.bindsA (ps := [x]) FD hbd
  refine ⟨K, fd, fun vs H Q _ => rdV K mg f vs H Q, KX, fun s u => hb s [u] rfl, fun H a ns hl _ hS => law_sp c.n hS (hf ns hl), fun base _ _ => ?_⟩
  rw [← ea]
  exact F w mg h K base fd KX G c FD
end FW

namespace FWP
open PySem FW
def d__law_taken : FW.Def := ⟨2, 4, (.cons (.ifs (.cmp .gt (.idx (.var 0) (.k (.int 3))) (.k (.int 0)))
      (.cons (.set 3 (.bin .mod false (.bi .int false (.cons (.idx (.var 0) (.k (.int 3))) .nil)) (.var 1)))
      (.cons (.sub 0 (.k (.int 3)) (.bin .fdiv false (.idx (.var 0) (.k (.int 3))) (.var 1)))
      (.cons (.ret (.var 3)) .nil)))
      (.nil))
      (.cons (.sub 0 (.k (.int 1)) (.bin .add false (.idx (.var 0) (.k (.int 1))) (.k (.int 1))))
      (.cons (.ifs (.cmp .gt (.idx (.var 0) (.k (.int 1))) (.bi .len false (.cons (.idx (.var 0) (.k (.int 0))) .nil)))
      (.cons (.sub 0 (.k (.int 2)) (.bin .mod false (.bi .int false (.cons (.bin .add false (.bin .mul false (.idx (.var 0) (.k (.int 2))) (.k (.int 48271))) (.k (.int 11))) .nil)) (.k (.int 2147483647))))
      (.cons (.ret (.bin .mod false (.bi .int false (.cons (.bin .fdiv false (.idx (.var 0) (.k (.int 2))) (.k (.int 7))) .nil)) (.var 1))) .nil))
      (.nil))
      (.cons (.set 2 (.idx (.idx (.var 0) (.k (.int 0))) (.bin .sub false (.idx (.var 0) (.k (.int 1))) (.k (.int 1)))))
      (.cons (.sub 0 (.k (.int 2)) (.bin .mod false (.bi .int false (.cons (.bin .add false (.bin .add false (.bin .mul false (.idx (.var 0) (.k (.int 2))) (.k (.int 48271))) (.var 2)) (.k (.int 11))) .nil)) (.k (.int 2147483647))))
      (.cons (.ifs (.cmp .ge (.var 2) (.bin .pow false (.k (.int 10)) (.k (.int 18))))
      (.cons (.sub 0 (.k (.int 3)) (.bin .fdiv false (.var 2) (.var 1))) .nil)
      (.nil))
      (.cons (.ret (.bin .mod false (.bi .int false (.cons (.var 2) .nil)) (.var 1))) .nil)))))))⟩
def F__law_taken : Fn := fnSem [] d__law_taken
def d__law_pick : FW.Def := ⟨2, 2, (.cons (.ret (.idx (.var 1) (.call 0 (.cons (.var 0) (.cons (.bi .len false (.cons (.var 1) .nil)) .nil))))) .nil)⟩
def F__law_pick : Fn := fnSem [("_law_taken", F__law_taken)] d__law_pick
def d__law_alike : FW.Def := ⟨2, 3, (.cons (.ifs (.isi [.tuple, .list] (.var 1))
      (.cons (.ifs (.or (.cons (.nt (.isi [.tuple, .list] (.var 0))) (.cons (.cmp .ne (.isi [.list] (.var 0)) (.isi [.list] (.var 1))) .nil)))
      (.cons (.ret (.k (.bl false))) .nil)
      (.nil))
      (.cons (.ifs (.cmp .ne (.bi .len false (.cons (.var 0) .nil)) (.bi .len false (.cons (.var 1) .nil)))
      (.cons (.ret (.k (.bl false))) .nil)
      (.nil))
      (.cons (.ret (.cmp .eq (.comp false [2] (.name 2) (.rng1 (.bi .len false (.cons (.var 1) .nil))) (.nt (.call 0 (.cons (.idx (.var 0) (.var 2)) (.cons (.idx (.var 1) (.var 2)) .nil)))) (.var 2)) (.list false .nil))) .nil)))
      (.nil))
      (.cons (.ifs (.or (.cons (.cmp .is (.var 1) (.k .non)) (.cons (.isi [.str] (.var 1)) .nil)))
      (.cons (.ret (.and (.cons (.cmp .eq (.var 0) (.var 1)) (.cons (.cmp .eq (.isi [.str] (.var 0)) (.isi [.str] (.var 1))) .nil)))) .nil)
      (.nil))
      (.cons (.ret (.and (.cons (.isi [.int] (.var 0)) (.cons (.cmp .eq (.isi [.bool] (.var 0)) (.isi [.bool] (.var 1))) (.cons (.cmp .eq (.var 0) (.var 1)) .nil))))) .nil)))⟩
def F__law_alike : Nat → Fn
  | 0 => fun _ _ => .bad
  | n + 1 => fnSem [("_law_alike", F__law_alike n)] d__law_alike
def d_is_in : FW.Def := ⟨3, 3, (.cons (.ret (.and (.cons (.isi [.int] (.var 0)) (.cons (.nt (.isi [.bool] (.var 0))) (.cons (.chain .le .le (.var 1) (.var 0) (.var 2)) .nil))))) .nil)⟩
def F_is_in : Fn := fnSem [] d_is_in
end FWP

namespace FWP
open PySem FW
abbrev I (i : Int) : SV := .v (.int i)
theorem fmod_nat (a b : Nat) : (a : Int).fmod (b : Int) = ((a % b : Nat) : Int) := by
  rw [Int.fmod_eq_emod_of_nonneg _ (Int.natCast_nonneg b)]; rfl
theorem log_lt {n k : Nat} (h : n < 2 ^ k) (hk : 0 < k) : n.log2 < k := by
  by_cases h0 : n = 0
  · subst h0; simpa using hk
  · exact (Nat.log2_lt h0).mpr h
theorem mulOk_of {a b : Int} {k l : Nat} (h1 : a.natAbs < 2 ^ k) (h2 : b.natAbs < 2 ^ l) (hk : k + l ≤ 1000000) : mulOk a b = true := by
  refine decide_eq_true ?_
  have e1 : a.natAbs.log2 < k + 1 := log_lt (Nat.lt_of_lt_of_le h1 (Nat.pow_le_pow_right (by decide) (by omega))) (by omega)
  have e2 : b.natAbs.log2 < l + 1 := log_lt (Nat.lt_of_lt_of_le h2 (Nat.pow_le_pow_right (by decide) (by omega))) (by omega)
  omega
def rv (q : Rat) : PV := .tup [.int q.num, .int q.den]
def Bd (k : Nat) (q : Rat) : Prop := q.num.natAbs < 2 ^ k ∧ q.den < 2 ^ k
theorem Bd.mono {k l : Nat} {q : Rat} (h : Bd k q) (hl : k ≤ l) : Bd l q := ⟨Nat.lt_of_lt_of_le h.1 (Nat.pow_le_pow_right (by decide) hl), Nat.lt_of_lt_of_le h.2 (Nat.pow_le_pow_right (by decide) hl)⟩
theorem mul_lt {a b k l : Nat} (h1 : a < 2 ^ k) (h2 : b < 2 ^ l) : a * b < 2 ^ (k + l) := by
  rw [Nat.pow_add]
  exact Nat.mul_lt_mul'' h1 h2
theorem Bd.mk {n d : Int} {k : Nat} (h0 : d ≠ 0) (h1 : n.natAbs < 2 ^ k) (h2 : d.natAbs < 2 ^ k) : Bd k (Rat.divInt n d) := by
  have hs : ∀ (x : Int) (g : Nat), (x / (g : Int)).natAbs ≤ x.natAbs := fun x g => Int.natAbs_ediv_le_natAbs _ _
  refine ⟨?_, ?_⟩
  · rw [Rat.num_divInt]
    have : (d.sign * n).natAbs = n.natAbs := by rw [Int.natAbs_mul, Int.natAbs_sign_of_ne_zero h0, Nat.one_mul]
    have := hs (d.sign * n) (d.gcd n)
    omega
  · rw [Rat.den_divInt, if_neg h0]
    exact Nat.lt_of_le_of_lt (Nat.div_le_self _ _) h2
theorem mul_eq (q r : Rat) : q * r = Rat.divInt (q.num * r.num) ((q.den : Int) * (r.den : Int)) := by
  conv => lhs; rw [← Rat.num_divInt_den q, ← Rat.num_divInt_den r]
  exact Rat.divInt_mul_divInt _ _
theorem den_ne (q : Rat) : (q.den : Int) ≠ 0 := by have := q.den_nz; omega
theorem add_eq (q r : Rat) : q + r = Rat.divInt (q.num * r.den + r.num * q.den) ((q.den : Int) * (r.den : Int)) := by
  conv => lhs; rw [← Rat.num_divInt_den q, ← Rat.num_divInt_den r]
  exact Rat.divInt_add_divInt _ _ (den_ne q) (den_ne r)
theorem neg_eq (q : Rat) : -q = Rat.divInt (-q.num) q.den := by
  conv => lhs; rw [← Rat.num_divInt_den q]
  exact Rat.neg_divInt _ _
theorem sub_eq (q r : Rat) : q - r = Rat.divInt (q.num * r.den - r.num * q.den) ((q.den : Int) * (r.den : Int)) := by
  rw [Rat.sub_eq_add_neg, neg_eq]
  conv => lhs; rw [← Rat.num_divInt_den q]
  rw [Rat.divInt_add_divInt _ _ (den_ne q) (den_ne r), Int.neg_mul, Int.sub_eq_add_neg]
section
variable {k l : Nat} {q r : Rat}
theorem Bd.mul (hq : Bd k q) (hr : Bd l r) : Bd (k + l) (q * r) := by
  rw [mul_eq]
  refine Bd.mk (Int.mul_ne_zero (den_ne q) (den_ne r)) ?_ ?_
  · rw [Int.natAbs_mul]; exact mul_lt hq.1 hr.1
  · rw [Int.natAbs_mul]; exact mul_lt hq.2 hr.2
theorem cross_lt (hq : Bd k q) (hr : Bd l r) : (q.num * (r.den : Int)).natAbs < 2 ^ (k + l) ∧ (r.num * (q.den : Int)).natAbs < 2 ^ (k + l) ∧ ((q.den : Int) * (r.den : Int)).natAbs < 2 ^ (k + l) := by
  refine ⟨?_, ?_, ?_⟩
  · rw [Int.natAbs_mul]; exact mul_lt hq.1 hr.2
  · rw [Int.natAbs_mul, Nat.add_comm]; exact mul_lt hr.1 hq.2
  · rw [Int.natAbs_mul]; exact mul_lt hq.2 hr.2
theorem two_pow_add {a b c n : Nat} (h1 : a < 2 ^ n) (h2 : b < 2 ^ n) (h : c ≤ a + b) : c < 2 ^ (n + 1) := by rw [Nat.pow_succ]; omega
theorem Bd.add (hq : Bd k q) (hr : Bd l r) : Bd (k + l + 1) (q + r) := by
  obtain ⟨h1, h2, h3⟩ := cross_lt hq hr
  rw [add_eq]
  exact Bd.mk (Int.mul_ne_zero (den_ne q) (den_ne r)) (two_pow_add h1 h2 (Int.natAbs_add_le _ _)) (two_pow_add h3 h3 (by omega))
theorem Bd.sub (hq : Bd k q) (hr : Bd l r) : Bd (k + l + 1) (q - r) := by
  obtain ⟨h1, h2, h3⟩ := cross_lt hq hr
  rw [sub_eq]
  refine Bd.mk (Int.mul_ne_zero (den_ne q) (den_ne r)) (two_pow_add h1 h2 ?_) (two_pow_add h3 h3 (by omega))
  omega
end
end FWP

namespace FWP
open PySem FW
def okA : Nat → PV → Bool
  | 0, _ => false
  | n + 1, .tup xs => decide (xs.length ≤ 4000000) && xs.all (okA n)
  | n + 1, .lst xs => decide (xs.length ≤ 4000000) && xs.all (okA n)
  | _ + 1, .fn _ => false
  | _ + 1, .dic _ _ => false
  | _ + 1, _ => true
theorem compL_none {f : PV → Store → Out (Option PV)} {S : Store} : ∀ {xs : List PV}, (∀ x ∈ xs, f x S = .ok none S) → compL f xs S = .ok [] S
  | [], _ => rfl
  | x :: xs, h => by
    show (f x S).bind _ = _
    rw [h x List.mem_cons_self]
    show (compL f xs S).bind _ = _
    rw [compL_none fun y hy => h y (List.mem_cons_of_mem _ hy)]
    rfl
theorem mem_rngN {x : PV} {n : Nat} (h : x ∈ rngN n) : ∃ i : Nat, i < n ∧ x = .int i := by
  unfold rngN at h
  obtain ⟨i, hi, rfl⟩ := List.mem_map.mp h
  exact ⟨i, by simpa using hi, rfl⟩
def cAlike : CE := .comp false [2] (.name 2) (.rng1 (.bi .len false (.cons (.var 1) .nil))) (.nt (.call 0 (.cons (.idx (.var 0) (.var 2)) (.cons (.idx (.var 1) (.var 2)) .nil)))) (.var 2)
theorem comp_alike {f : Fn} {x : PV} {xs : List PV} {S : Store} {t : Bool} (hx : seqOf S (.v x) = some (t, xs)) (hl : xs.length ≤ 4000000) (hf : ∀ y ∈ xs, f [.v y, .v y] S = .ok (.v (.bl true)) S) :
    (ev [("_law_alike", f)] cAlike).v [some (.v x), some (.v x), none] S = .ok (.v (.lst [])) S := by
  have hr : rngOk (xs.length : Int) = true := decide_eq_true (by omega)
  have hr2 : rngOk (-(xs.length : Int)) = true := decide_eq_true (by omega)
  show sComp false [2] _ _ _ _ _ _ = _
  unfold sComp
  have hi : (evI [("_law_alike", f)] (.rng1 (.bi .len false (.cons (.var 1) .nil)))) [some (.v x), some (.v x), none] S = .ok (rngN xs.length) S := by
    show (iRng1 _) _ S = _
    simp [hx, hr, hr2]
  rw [hi]
  show (compL _ _ S).bind _ = _
  rw [compL_none fun y hy => ?_]
  · rfl
  · obtain ⟨i, hi, rfl⟩ := mem_rngN hy
    have hget : xs[i]? = some xs[i] := List.getElem?_eq_getElem hi
    have h1 : ix? xs.length (i : Int) = some i := by simp [ix?, hi]
    have e := hf xs[i] (List.getElem_mem hi)
    simp only [cTurn, bindG, wipeS, List.set_cons_succ, List.set_cons_zero]
    simp [hx, hi, hget, e]
theorem alike_refl : ∀ (n : Nat) (x : PV) (S : Store), okA n x = true → F__law_alike n [.v x, .v x] S = .ok (.v (.bl true)) S := by
  intro n
  induction n with
  | zero => intro x S h; simp [okA] at h
  | succ n ih =>
    intro x S h
    show fnSem [("_law_alike", F__law_alike n)] d__law_alike [.v x, .v x] S = _
    have seq : ∀ (t : Bool) (xs : List PV), seqOf S (.v x) = some (t, xs) → xs.length ≤ 4000000 → xs.all (okA n) = true → (ev [("_law_alike", F__law_alike n)] cAlike).v [some (.v x), some (.v x), none] S = .ok (.v (.lst [])) S := fun t xs hx hl ha =>
      comp_alike hx hl fun y hy => ih y S (List.all_eq_true.mp ha y hy)
    cases x with
    | tup xs =>
      simp only [okA, Bool.and_eq_true, decide_eq_true_eq] at h
      have e := seq false xs rfl h.1 h.2
      unfold cAlike at e
      simp [d__law_alike, e, line]
    | lst xs =>
      simp only [okA, Bool.and_eq_true, decide_eq_true_eq] at h
      have e := seq true xs rfl h.1 h.2
      unfold cAlike at e
      simp [d__law_alike, e, line]
    | fn s => simp [okA] at h
    | dic a b => simp [okA] at h
    | non => simp [d__law_alike, line]
    | bl b => simp [d__law_alike, line]
    | int i => simp [d__law_alike, line]
    | str s => simp [d__law_alike, line]
def rowV (ns : List Int) (a b c : Int) : Ob := .lst [.lst (ns.map .int), .int a, .int b, .int c]
def Row (S : Store) (p : Nat) : Prop := ∃ (ns : List Int) (a b c : Int), S[p]? = some (rowV ns a b c) ∧ 0 ≤ a ∧ 0 ≤ b ∧ b < 2147483648
def But (p : Nat) (S S' : Store) : Prop := S'.length = S.length ∧ ∀ n, n ≠ p → S'[n]? = S[n]?
theorem But.refl {p : Nat} {S : Store} : But p S S := ⟨rfl, fun _ _ => rfl⟩
theorem But.trans {p : Nat} {S S' S'' : Store} (a : But p S S') (b : But p S' S'') : But p S S'' := ⟨b.1.trans a.1, fun n h => (b.2 n h).trans (a.2 n h)⟩
theorem But.set {p : Nat} {S : Store} {o : Ob} : But p S (S.set p o) := ⟨by simp, fun n h => by rw [List.getElem?_set_ne (Ne.symm h)]⟩
theorem int_at (ns : List Int) (i : Nat) : (ns.map PV.int)[i]? = (ns[i]?).map PV.int := List.getElem?_map ..
theorem seqOf_set {S : Store} {p : Nat} {xs : List PV} (hp : p < S.length) : seqOf (S.set p (.lst xs)) (.l p) = some (true, xs) := seqOf_l (List.getElem?_set_self hp)
theorem divOk_small {x m : Int} (h0 : 0 < m) (h : m < 4294967296) : divOk x m = true := by
  have : m.natAbs.log2 < 32 := log_lt (by omega) (by decide)
  have h2 : m ≠ 0 := by omega
  simp [divOk, h2]
  left; omega
theorem mulOk_seed {b : Int} (h : 0 ≤ b) (h2 : b < 2147483648) : mulOk b 48271 = true := mulOk_of (k := 31) (l := 16) (by omega) (by decide) (by decide)
theorem taken_spec {S : Store} {p : Nat} {m : Int} (h : Row S p) (hm : 0 < m) (hm2 : m < 4294967296) : ∃ (j : Int) (S' : Store), F__law_taken [.l p, I m] S = .ok (I j) S' ∧ 0 ≤ j ∧ j < m ∧ Row S' p ∧ But p S S' := by
  obtain ⟨ns, a, b, c, hS, ha, hb, hb2⟩ := h
  have hp : p < S.length := (List.getElem?_eq_some_iff.mp hS).1
  have hm0 : m ≠ 0 := by omega
  have hS0 : S[p]? = some (.lst [.lst (ns.map .int), .int a, .int b, .int c]) := hS
  have hmod : ∀ x : Int, 0 ≤ x.fmod m ∧ x.fmod m < m := fun x => by
    rw [Int.fmod_eq_emod_of_nonneg _ (by omega)]
    exact ⟨Int.emod_nonneg _ hm0, Int.emod_lt_of_pos _ hm⟩
  have hmod2 : ∀ x : Int, 0 ≤ x.fmod 2147483647 ∧ x.fmod 2147483647 < 2147483648 := fun x => by
    rw [Int.fmod_eq_emod_of_nonneg _ (by omega)]
    omega
  have hd := fun x => divOk_small (x := x) hm hm2
  have hq := seqOf_l hS0
  have g : ∀ o, (S.set p o)[p]? = some o := fun o => List.getElem?_set_self hp
  have ht : ∀ o, (S.set p o).take S.length = S.set p o := fun o => List.take_of_length_le (by simp)
  have hqs : ∀ xs, seqOf (S.set p (.lst xs)) (.l p) = some (true, xs) := fun xs => seqOf_set hp
  have hd7 := fun x => divOk_small (x := x) (m := 7) (by decide) (by decide)
  have hmul := mulOk_seed hb hb2
  by_cases h1 : 0 < c
  · refine ⟨c.fmod m, S.set p (rowV ns a b (c.fdiv m)), ?_, (hmod c).1, (hmod c).2, ⟨ns, a, b, _, List.getElem?_set_self hp, ha, hb, hb2⟩, But.set⟩
    simp [F__law_taken, d__law_taken, hS0, hq, hqs, g, ht, h1, hm0, hd, rowV]
  · by_cases h2 : (ns.length : Int) < a + 1
    · refine ⟨(((b * 48271 + 11).fmod 2147483647).fdiv 7).fmod m, S.set p (rowV ns (a + 1) ((b * 48271 + 11).fmod 2147483647) c), ?_, (hmod _).1, (hmod _).2, ⟨ns, _, _, _, List.getElem?_set_self hp, by omega, (hmod2 _).1, (hmod2 _).2⟩, But.set⟩
      simp [F__law_taken, d__law_taken, hS0, hq, hqs, g, ht, h1, h2, hm0, hd, hd7, hmul, rowV]
    · have hlt : a.toNat < ns.length := by omega
      have hc := int_at ns a.toNat
      rw [List.getElem?_eq_getElem hlt] at hc
      have h3 : a < (ns.length : Int) := by omega
      by_cases h4 : (1000000000000000000 : Int) ≤ ns[a.toNat]
      · refine ⟨(ns[a.toNat]).fmod m, S.set p (rowV ns (a + 1) ((b * 48271 + ns[a.toNat] + 11).fmod 2147483647) ((ns[a.toNat]).fdiv m)), ?_, (hmod _).1, (hmod _).2, ⟨ns, _, _, _, List.getElem?_set_self hp, by omega, (hmod2 _).1, (hmod2 _).2⟩, But.set⟩
        simp [F__law_taken, d__law_taken, hS0, hq, hqs, g, ht, h1, h2, h3, hlt, hc, h4, ha, hm0, hd, hmul, rowV]
      · refine ⟨(ns[a.toNat]).fmod m, S.set p (rowV ns (a + 1) ((b * 48271 + ns[a.toNat] + 11).fmod 2147483647) c), ?_, (hmod _).1, (hmod _).2, ⟨ns, _, _, _, List.getElem?_set_self hp, by omega, (hmod2 _).1, (hmod2 _).2⟩, But.set⟩
        simp [F__law_taken, d__law_taken, hS0, hq, hqs, g, ht, h1, h2, h3, hlt, hc, h4, ha, hm0, hd, hmul, rowV]
theorem pick_spec {S : Store} {p : Nat} {t : Bool} {xs : List PV} {x : PV} (h : Row S p) (hx : ∀ S, seqOf S (.v x) = some (t, xs)) (h0 : 0 < xs.length) (h1 : xs.length < 4294967296) :
    ∃ (z : PV) (S' : Store), F__law_pick [.l p, .v x] S = .ok (.v z) S' ∧ z ∈ xs ∧ Row S' p ∧ But p S S' := by
  obtain ⟨j, S', e, j0, j1, hr, hb⟩ := taken_spec (m := (xs.length : Int)) h (by omega) (by omega)
  have hj : j.toNat < xs.length := by omega
  have hlt : j < (xs.length : Int) := j1
  have ht : S'.take S.length = S' := List.take_of_length_le (by rw [hb.1]; exact Nat.le_refl _)
  refine ⟨xs[j.toNat], S', ?_, List.getElem_mem hj, hr, hb⟩
  simp [F__law_pick, d__law_pick, hx, e, j0, hlt, hj, ht]
end FWP

namespace Lk22
open PySem PySem.Spec PyProof.Rows L2 FW
def top (i : Nat) : Stmt := PySem.Challenge.pw_faultworks_k22_whole_sets_of_paths_with.main.body.getD i (.Pass ⟨0, 0, 0, 0⟩)
def gs : List (PySem.Str × PV) := [("MOST_PARTS", (.int 8))]
def blts : List PySem.Str := ["len", "int", "tuple", "range", "sorted", "isinstance", "list", "str", "bool", "sum", "set", "enumerate"]
def glos0 : List PySem.Str := ["_law_taken", "_law_pick", "_law_some_set", "_law_least", "_law_system", "_law_alike", "_law_subsets", "mask_of", "is_in", "are_sets", "is_system", "need_system", "parts_of", "values_of", "numbers_of", "signed_terms", "_law_used", "law"]
def glos : List PySem.Str := glos0
def d__law_taken : FW.Def := ⟨2, 4, (.cons (.ifs (.cmp .gt (.idx (.var 0) (.k (.int 3))) (.k (.int 0)))
      (.cons (.set 3 (.bin .mod false (.bi .int false (.cons (.idx (.var 0) (.k (.int 3))) .nil)) (.var 1)))
      (.cons (.sub 0 (.k (.int 3)) (.bin .fdiv false (.idx (.var 0) (.k (.int 3))) (.var 1)))
      (.cons (.ret (.var 3)) .nil)))
      (.nil))
      (.cons (.sub 0 (.k (.int 1)) (.bin .add false (.idx (.var 0) (.k (.int 1))) (.k (.int 1))))
      (.cons (.ifs (.cmp .gt (.idx (.var 0) (.k (.int 1))) (.bi .len false (.cons (.idx (.var 0) (.k (.int 0))) .nil)))
      (.cons (.sub 0 (.k (.int 2)) (.bin .mod false (.bi .int false (.cons (.bin .add false (.bin .mul false (.idx (.var 0) (.k (.int 2))) (.k (.int 48271))) (.k (.int 11))) .nil)) (.k (.int 2147483647))))
      (.cons (.ret (.bin .mod false (.bi .int false (.cons (.bin .fdiv false (.idx (.var 0) (.k (.int 2))) (.k (.int 7))) .nil)) (.var 1))) .nil))
      (.nil))
      (.cons (.set 2 (.idx (.idx (.var 0) (.k (.int 0))) (.bin .sub false (.idx (.var 0) (.k (.int 1))) (.k (.int 1)))))
      (.cons (.sub 0 (.k (.int 2)) (.bin .mod false (.bi .int false (.cons (.bin .add false (.bin .add false (.bin .mul false (.idx (.var 0) (.k (.int 2))) (.k (.int 48271))) (.var 2)) (.k (.int 11))) .nil)) (.k (.int 2147483647))))
      (.cons (.ifs (.cmp .ge (.var 2) (.bin .pow false (.k (.int 10)) (.k (.int 18))))
      (.cons (.sub 0 (.k (.int 3)) (.bin .fdiv false (.var 2) (.var 1))) .nil)
      (.nil))
      (.cons (.ret (.bin .mod false (.bi .int false (.cons (.var 2) .nil)) (.var 1))) .nil)))))))⟩
def C__law_taken : FW.Ctx := ⟨["_law_row", "_law_many", "_law_cell", "_law_found"], L2.defScope (top 17), none, gs, [], blts⟩
def D__law_taken : He.DefD := ⟨("_law_taken", none), "_law_taken", "_law_taken", L2.defArgs (top 17), L2.defBody (top 17), L2.defScope (top 17), [], []⟩
theorem ok__law_taken : okB C__law_taken d__law_taken.body (L2.defBody (top 17)) = true := by decide +kernel
theorem sc__law_taken : FnScope C__law_taken.N ["_law_row", "_law_many"] (L2.defScope (top 17)) := ⟨rfl, rfl, rfl, by decide +kernel, rfl, by decide +kernel, by decide +kernel⟩
def F__law_taken : Fn := fnSem [] d__law_taken
def d__law_pick : FW.Def := ⟨2, 2, (.cons (.ret (.idx (.var 1) (.call 0 (.cons (.var 0) (.cons (.bi .len false (.cons (.var 1) .nil)) .nil))))) .nil)⟩
def C__law_pick : FW.Ctx := ⟨["_law_row", "_law_things"], L2.defScope (top 18), none, gs, ["_law_taken"], blts⟩
def D__law_pick : He.DefD := ⟨("_law_pick", none), "_law_pick", "_law_pick", L2.defArgs (top 18), L2.defBody (top 18), L2.defScope (top 18), [], []⟩
theorem ok__law_pick : okB C__law_pick d__law_pick.body (L2.defBody (top 18)) = true := by decide +kernel
theorem sc__law_pick : FnScope C__law_pick.N ["_law_row", "_law_things"] (L2.defScope (top 18)) := ⟨rfl, rfl, rfl, by decide +kernel, rfl, by decide +kernel, by decide +kernel⟩
def F__law_pick : Fn := fnSem [("_law_taken", F__law_taken)] d__law_pick
def d__law_some_set : FW.Def := ⟨2, 4, (.cons (.set 2 (.call 0 (.cons (.var 0) (.cons (.list false (.cons (.k (.int 2)) (.cons (.k (.int 2)) (.cons (.k (.int 3)) .nil)))) .nil))))
      (.cons (.ret (.bi .tuple false (.cons (.comp false [3] (.name 3) (.rng1 (.var 1)) (.cmp .eq (.call 1 (.cons (.var 0) (.cons (.var 2) .nil))) (.k (.int 0))) (.var 3)) .nil))) .nil))⟩
def C__law_some_set : FW.Ctx := ⟨["_law_row", "_law_many", "_law_rare", "_law_k"], L2.defScope (top 19), none, gs, ["_law_pick", "_law_taken"], blts⟩
def D__law_some_set : He.DefD := ⟨("_law_some_set", none), "_law_some_set", "_law_some_set", L2.defArgs (top 19), L2.defBody (top 19), L2.defScope (top 19), [], []⟩
theorem ok__law_some_set : okB C__law_some_set d__law_some_set.body (L2.defBody (top 19)) = true := by decide +kernel
theorem sc__law_some_set : FnScope C__law_some_set.N ["_law_row", "_law_many"] (L2.defScope (top 19)) := ⟨rfl, rfl, rfl, by decide +kernel, rfl, by decide +kernel, by decide +kernel⟩
def F__law_some_set : Fn := fnSem [("_law_pick", F__law_pick), ("_law_taken", F__law_taken)] d__law_some_set
def d__law_least : FW.Def := ⟨1, 6, (.cons (.set 1 (.list false .nil))
      (.cons (.forr (.name 2) (.seq (.var 0))
      (.cons (.set 3 (.comp false [4] (.name 4) (.seq (.var 0)) (.and (.cons (.cmp .ne (.var 4) (.var 2)) (.cons (.cmp .eq (.comp false [5] (.name 5) (.seq (.var 4)) (.cmp .notin (.var 5) (.var 2)) (.var 5)) (.list false .nil)) .nil))) (.var 4)))
      (.cons (.set 1 (.bin .add false (.var 1) (.ite (.and (.cons (.cmp .eq (.var 3) (.list false .nil)) (.cons (.cmp .notin (.var 2) (.var 1)) .nil))) (.list false (.cons (.var 2) .nil)) (.list false .nil)))) .nil)) [])
      (.cons (.ret (.bi .tuple false (.cons (.bi .sorted false (.cons (.var 1) .nil)) .nil))) .nil)))⟩
def C__law_least : FW.Ctx := ⟨["_law_sets", "_law_found", "_law_one", "_law_less", "_law_other", "_law_k"], L2.defScope (top 20), none, gs, [], blts⟩
def D__law_least : He.DefD := ⟨("_law_least", none), "_law_least", "_law_least", L2.defArgs (top 20), L2.defBody (top 20), L2.defScope (top 20), [], []⟩
theorem ok__law_least : okB C__law_least d__law_least.body (L2.defBody (top 20)) = true := by decide +kernel
theorem sc__law_least : FnScope C__law_least.N ["_law_sets"] (L2.defScope (top 20)) := ⟨rfl, rfl, rfl, by decide +kernel, rfl, by decide +kernel, by decide +kernel⟩
def F__law_least : Fn := fnSem [] d__law_least
def d__law_system : FW.Def := ⟨2, 6, (.cons (.set 2 (.bin .add false (.k (.int 1)) (.call 0 (.cons (.var 0) (.cons (.var 1) .nil)))))
      (.cons (.set 3 (.comp false [4] (.name 4) (.rng1 (.call 3 (.cons (.var 0) (.cons (.list false (.cons (.k (.int 1)) (.cons (.k (.int 2)) (.cons (.k (.int 3)) (.cons (.k (.int 4)) (.cons (.k (.int 5)) (.cons (.k (.int 6)) .nil))))))) .nil)))) (.k (.bl true)) (.call 1 (.cons (.var 0) (.cons (.var 2) .nil)))))
      (.cons (.set 3 (.comp false [5] (.name 5) (.seq (.var 3)) (.or (.cons (.cmp .ne (.var 5) (.tup .nil)) (.cons (.cmp .eq (.call 0 (.cons (.var 0) (.cons (.k (.int 9)) .nil))) (.k (.int 0))) .nil))) (.var 5)))
      (.cons (.ret (.tup (.cons (.var 2) (.cons (.call 2 (.cons (.var 3) .nil)) .nil)))) .nil))))⟩
def C__law_system : FW.Ctx := ⟨["_law_row", "_law_most", "_law_many", "_law_sets", "_law_turn", "_law_one"], L2.defScope (top 21), none, gs, ["_law_taken", "_law_some_set", "_law_least", "_law_pick"], blts⟩
def D__law_system : He.DefD := ⟨("_law_system", none), "_law_system", "_law_system", L2.defArgs (top 21), L2.defBody (top 21), L2.defScope (top 21), [], []⟩
theorem ok__law_system : okB C__law_system d__law_system.body (L2.defBody (top 21)) = true := by decide +kernel
theorem sc__law_system : FnScope C__law_system.N ["_law_row", "_law_most"] (L2.defScope (top 21)) := ⟨rfl, rfl, rfl, by decide +kernel, rfl, by decide +kernel, by decide +kernel⟩
def F__law_system : Fn := fnSem [("_law_taken", F__law_taken), ("_law_some_set", F__law_some_set), ("_law_least", F__law_least), ("_law_pick", F__law_pick)] d__law_system
def d__law_alike : FW.Def := ⟨2, 3, (.cons (.ifs (.isi [.tuple, .list] (.var 1))
      (.cons (.ifs (.or (.cons (.nt (.isi [.tuple, .list] (.var 0))) (.cons (.cmp .ne (.isi [.list] (.var 0)) (.isi [.list] (.var 1))) .nil)))
      (.cons (.ret (.k (.bl false))) .nil)
      (.nil))
      (.cons (.ifs (.cmp .ne (.bi .len false (.cons (.var 0) .nil)) (.bi .len false (.cons (.var 1) .nil)))
      (.cons (.ret (.k (.bl false))) .nil)
      (.nil))
      (.cons (.ret (.cmp .eq (.comp false [2] (.name 2) (.rng1 (.bi .len false (.cons (.var 1) .nil))) (.nt (.call 0 (.cons (.idx (.var 0) (.var 2)) (.cons (.idx (.var 1) (.var 2)) .nil)))) (.var 2)) (.list false .nil))) .nil)))
      (.nil))
      (.cons (.ifs (.or (.cons (.cmp .is (.var 1) (.k .non)) (.cons (.isi [.str] (.var 1)) .nil)))
      (.cons (.ret (.and (.cons (.cmp .eq (.var 0) (.var 1)) (.cons (.cmp .eq (.isi [.str] (.var 0)) (.isi [.str] (.var 1))) .nil)))) .nil)
      (.nil))
      (.cons (.ret (.and (.cons (.isi [.int] (.var 0)) (.cons (.cmp .eq (.isi [.bool] (.var 0)) (.isi [.bool] (.var 1))) (.cons (.cmp .eq (.var 0) (.var 1)) .nil))))) .nil)))⟩
def C__law_alike : FW.Ctx := ⟨["_law_found", "_law_due", "_law_k"], L2.defScope (top 24), none, gs, ["_law_alike"], blts⟩
def D__law_alike : He.DefD := ⟨("_law_alike", none), "_law_alike", "_law_alike", L2.defArgs (top 24), L2.defBody (top 24), L2.defScope (top 24), [], []⟩
theorem ok__law_alike : okB C__law_alike d__law_alike.body (L2.defBody (top 24)) = true := by decide +kernel
theorem sc__law_alike : FnScope C__law_alike.N ["_law_found", "_law_due"] (L2.defScope (top 24)) := ⟨rfl, rfl, rfl, by decide +kernel, rfl, by decide +kernel, by decide +kernel⟩
def F__law_alike : Nat → Fn
  | 0 => fun _ _ => .bad
  | n + 1 => fnSem [("_law_alike", F__law_alike n)] d__law_alike
def d__law_subsets : FW.Def := ⟨2, 5, (.cons (.set 2 (.list false (.cons (.tup .nil) .nil)))
      (.cons (.forr (.name 3) (.rng1 (.var 0))
      (.cons (.set 2 (.bin .add false (.var 2) (.comp false [4] (.name 4) (.seq (.var 2)) (.cmp .lt (.bi .len false (.cons (.var 4) .nil)) (.var 1)) (.bin .add false (.var 4) (.tup (.cons (.var 3) .nil)))))) .nil) [])
      (.cons (.ret (.bi .sorted false (.cons (.comp false [4] (.name 4) (.seq (.var 2)) (.cmp .eq (.bi .len false (.cons (.var 4) .nil)) (.var 1)) (.var 4)) .nil))) .nil)))⟩
def C__law_subsets : FW.Ctx := ⟨["_law_many", "_law_size", "_law_found", "_law_k", "_law_lot"], L2.defScope (top 22), none, gs, [], blts⟩
def D__law_subsets : He.DefD := ⟨("_law_subsets", none), "_law_subsets", "_law_subsets", L2.defArgs (top 22), L2.defBody (top 22), L2.defScope (top 22), [], []⟩
theorem ok__law_subsets : okB C__law_subsets d__law_subsets.body (L2.defBody (top 22)) = true := by decide +kernel
theorem sc__law_subsets : FnScope C__law_subsets.N ["_law_many", "_law_size"] (L2.defScope (top 22)) := ⟨rfl, rfl, rfl, by decide +kernel, rfl, by decide +kernel, by decide +kernel⟩
def F__law_subsets : Fn := fnSem [] d__law_subsets
def d_mask_of : FW.Def := ⟨1, 2, (.cons (.ret (.bi .sum false (.cons (.comp false [1] (.name 1) (.seq (.var 0)) (.k (.bl true)) (.bin .shl false (.k (.int 1)) (.var 1))) .nil))) .nil)⟩
def C_mask_of : FW.Ctx := ⟨["parts", "k"], L2.defScope (top 8), none, gs, [], blts⟩
def D_mask_of : He.DefD := ⟨("mask_of", none), "mask_of", "mask_of", L2.defArgs (top 8), L2.defBody (top 8), L2.defScope (top 8), [], []⟩
theorem ok_mask_of : okB C_mask_of d_mask_of.body (L2.defBody (top 8)) = true := by decide +kernel
theorem sc_mask_of : FnScope C_mask_of.N ["parts"] (L2.defScope (top 8)) := ⟨rfl, rfl, rfl, by decide +kernel, rfl, by decide +kernel, by decide +kernel⟩
def F_mask_of : Fn := fnSem [] d_mask_of
def d_is_in : FW.Def := ⟨3, 3, (.cons (.ret (.and (.cons (.isi [.int] (.var 0)) (.cons (.nt (.isi [.bool] (.var 0))) (.cons (.chain .le .le (.var 1) (.var 0) (.var 2)) .nil))))) .nil)⟩
def C_is_in : FW.Ctx := ⟨["value", "least", "most"], L2.defScope (top 4), none, gs, [], blts⟩
def D_is_in : He.DefD := ⟨("is_in", none), "is_in", "is_in", L2.defArgs (top 4), L2.defBody (top 4), L2.defScope (top 4), [], []⟩
theorem ok_is_in : okB C_is_in d_is_in.body (L2.defBody (top 4)) = true := by decide +kernel
theorem sc_is_in : FnScope C_is_in.N ["value", "least", "most"] (L2.defScope (top 4)) := ⟨rfl, rfl, rfl, by decide +kernel, rfl, by decide +kernel, by decide +kernel⟩
def F_is_in : Fn := fnSem [] d_is_in
def d_are_sets : FW.Def := ⟨2, 7, (.cons (.ifs (.nt (.isi [.tuple] (.var 0)))
      (.cons (.ret (.k (.bl false))) .nil)
      (.nil))
      (.cons (.forr (.name 2) (.seq (.var 0))
      (.cons (.ifs (.or (.cons (.nt (.isi [.tuple] (.var 2))) (.cons (.cmp .ne (.comp false [5] (.name 5) (.seq (.var 2)) (.nt (.call 1 (.cons (.var 5) (.cons (.k (.int 0)) (.cons (.bin .sub false (.var 1) (.k (.int 1))) .nil))))) (.var 5)) (.list false .nil)) .nil)))
      (.cons (.ret (.k (.bl false))) .nil)
      (.nil))
      (.cons (.ifs (.cmp .ne (.bi .list false (.cons (.var 2) .nil)) (.bi .sortedSet false (.cons (.var 2) .nil)))
      (.cons (.ret (.k (.bl false))) .nil)
      (.nil)) .nil)) [])
      (.cons (.ifs (.cmp .ne (.bi .list false (.cons (.var 0) .nil)) (.bi .sortedSet false (.cons (.var 0) .nil)))
      (.cons (.ret (.k (.bl false))) .nil)
      (.nil))
      (.cons (.set 3 (.comp false [2] (.name 2) (.seq (.var 0)) (.k (.bl true)) (.call 0 (.cons (.var 2) .nil))))
      (.cons (.ret (.cmp .eq (.comp false [4] (.name 4) (.seq (.var 3)) (.cmp .ne (.comp false [6] (.name 6) (.seq (.var 3)) (.and (.cons (.cmp .ne (.var 4) (.var 6)) (.cons (.cmp .eq (.bin .band false (.var 4) (.var 6)) (.var 4)) .nil))) (.var 6)) (.list false .nil)) (.var 4)) (.list false .nil))) .nil)))))⟩
def C_are_sets : FW.Ctx := ⟨["value", "many", "one", "masks", "a", "k", "b"], L2.defScope (top 7), none, gs, ["mask_of", "is_in"], blts⟩
def D_are_sets : He.DefD := ⟨("are_sets", none), "are_sets", "are_sets", L2.defArgs (top 7), L2.defBody (top 7), L2.defScope (top 7), [], []⟩
theorem ok_are_sets : okB C_are_sets d_are_sets.body (L2.defBody (top 7)) = true := by decide +kernel
theorem sc_are_sets : FnScope C_are_sets.N ["value", "many"] (L2.defScope (top 7)) := ⟨rfl, rfl, rfl, by decide +kernel, rfl, by decide +kernel, by decide +kernel⟩
def F_are_sets : Fn := fnSem [("mask_of", F_mask_of), ("is_in", F_is_in)] d_are_sets
def d_is_system : FW.Def := ⟨1, 1, (.cons (.ifs (.or (.cons (.nt (.isi [.tuple] (.var 0))) (.cons (.cmp .ne (.bi .len false (.cons (.var 0) .nil)) (.k (.int 2))) (.cons (.nt (.call 1 (.cons (.idx (.var 0) (.k (.int 0))) (.cons (.k (.int 1)) (.cons (.glob "MOST_PARTS" (.int 8)) .nil))))) .nil))))
      (.cons (.ret (.k (.bl false))) .nil)
      (.nil))
      (.cons (.ret (.call 0 (.cons (.idx (.var 0) (.k (.int 1))) (.cons (.idx (.var 0) (.k (.int 0))) .nil)))) .nil))⟩
def C_is_system : FW.Ctx := ⟨["value"], L2.defScope (top 10), none, gs, ["are_sets", "is_in"], blts⟩
def D_is_system : He.DefD := ⟨("is_system", none), "is_system", "is_system", L2.defArgs (top 10), L2.defBody (top 10), L2.defScope (top 10), [], []⟩
theorem ok_is_system : okB C_is_system d_is_system.body (L2.defBody (top 10)) = true := by decide +kernel
theorem sc_is_system : FnScope C_is_system.N ["value"] (L2.defScope (top 10)) := ⟨rfl, rfl, rfl, by decide +kernel, rfl, by decide +kernel, by decide +kernel⟩
def F_is_system : Fn := fnSem [("are_sets", F_are_sets), ("is_in", F_is_in)] d_is_system
def d_need_system : FW.Def := ⟨1, 1, (.cons (.ifs (.nt (.call 0 (.cons (.var 0) .nil)))
      (.cons (.raise "" .nil) .nil)
      (.nil)) .nil)⟩
def C_need_system : FW.Ctx := ⟨["system"], L2.defScope (top 11), none, gs, ["is_system"], blts⟩
def D_need_system : He.DefD := ⟨("need_system", none), "need_system", "need_system", L2.defArgs (top 11), L2.defBody (top 11), L2.defScope (top 11), [], []⟩
theorem ok_need_system : okB C_need_system d_need_system.body (L2.defBody (top 11)) = true := by decide +kernel
theorem sc_need_system : FnScope C_need_system.N ["system"] (L2.defScope (top 11)) := ⟨rfl, rfl, rfl, by decide +kernel, rfl, by decide +kernel, by decide +kernel⟩
def F_need_system : Fn := fnSem [("is_system", F_is_system)] d_need_system
def d_parts_of : FW.Def := ⟨1, 2, (.cons (.ret (.bi .tuple false (.cons (.comp false [1] (.name 1) (.rng1 (.glob "MOST_PARTS" (.int 8))) (.cmp .eq (.bin .band false (.bin .shr false (.var 0) (.var 1)) (.k (.int 1))) (.k (.int 1))) (.var 1)) .nil))) .nil)⟩
def C_parts_of : FW.Ctx := ⟨["mask", "k"], L2.defScope (top 9), none, gs, [], blts⟩
def D_parts_of : He.DefD := ⟨("parts_of", none), "parts_of", "parts_of", L2.defArgs (top 9), L2.defBody (top 9), L2.defScope (top 9), [], []⟩
theorem ok_parts_of : okB C_parts_of d_parts_of.body (L2.defBody (top 9)) = true := by decide +kernel
theorem sc_parts_of : FnScope C_parts_of.N ["mask"] (L2.defScope (top 9)) := ⟨rfl, rfl, rfl, by decide +kernel, rfl, by decide +kernel, by decide +kernel⟩
def F_parts_of : Fn := fnSem [] d_parts_of
def d_values_of : FW.Def := ⟨1, 5, (.cons (.set 1 (.comp false [2] (.name 2) (.seq (.idx (.var 0) (.k (.int 1)))) (.k (.bl true)) (.call 0 (.cons (.var 2) .nil))))
      (.cons (.ret (.comp false [3] (.name 3) (.rng1 (.bin .shl false (.k (.int 1)) (.idx (.var 0) (.k (.int 0))))) (.k (.bl true)) (.bi .int false (.cons (.cmp .ne (.comp false [4] (.name 4) (.seq (.var 1)) (.cmp .eq (.bin .band false (.var 4) (.var 3)) (.var 4)) (.var 4)) (.list false .nil)) .nil)))) .nil))⟩
def d_values_of_m : FW.Def := ⟨1, 5, (.cons (.set 1 (.comp false [2] (.name 2) (.seq (.idx (.var 0) (.k (.int 1)))) (.k (.bl true)) (.call 0 (.cons (.var 2) .nil))))
      (.cons (.ret (.comp true [3] (.name 3) (.rng1 (.bin .shl false (.k (.int 1)) (.idx (.var 0) (.k (.int 0))))) (.k (.bl true)) (.bi .int false (.cons (.cmp .ne (.comp false [4] (.name 4) (.seq (.var 1)) (.cmp .eq (.bin .band false (.var 4) (.var 3)) (.var 4)) (.var 4)) (.list false .nil)) .nil)))) .nil))⟩
def C_values_of : FW.Ctx := ⟨["system", "masks", "path", "place", "a"], L2.defScope (top 12), none, gs, ["mask_of"], blts⟩
def D_values_of : He.DefD := ⟨("values_of", none), "values_of", "values_of", L2.defArgs (top 12), L2.defBody (top 12), L2.defScope (top 12), [], []⟩
theorem ok_values_of : okB C_values_of d_values_of.body (L2.defBody (top 12)) = true := by decide +kernel
theorem ok_values_of_m : okB C_values_of d_values_of_m.body (L2.defBody (top 12)) = true := by decide +kernel
theorem sc_values_of : FnScope C_values_of.N ["system"] (L2.defScope (top 12)) := ⟨rfl, rfl, rfl, by decide +kernel, rfl, by decide +kernel, by decide +kernel⟩
def F_values_of : Fn := fnSem [("mask_of", F_mask_of)] d_values_of
def F_values_of_m : Fn := fnSemM [("mask_of", F_mask_of)] d_values_of_m
def d_numbers_of : FW.Def := ⟨1, 4, (.cons (.set 1 (.call 1 (.cons (.var 0) .nil)))
      (.cons (.forr (.name 2) (.rng1 (.idx (.var 0) (.k (.int 0))))
      (.cons (.forr (.name 3) (.rng1 (.bin .shl false (.k (.int 1)) (.idx (.var 0) (.k (.int 0)))))
      (.cons (.ifs (.cmp .eq (.bin .band false (.bin .shr false (.var 3) (.var 2)) (.k (.int 1))) (.k (.int 1)))
      (.cons (.augsub 1 (.var 3) .sub (.idx (.var 1) (.bin .bxor false (.var 3) (.bin .shl false (.k (.int 1)) (.var 2))))) .nil)
      (.nil)) .nil) []) .nil) [])
      (.cons (.ret (.var 1)) .nil)))⟩
def C_numbers_of : FW.Ctx := ⟨["system", "found", "k", "place"], L2.defScope (top 14), none, gs, ["values_of", "values_of"], blts⟩
def D_numbers_of : He.DefD := ⟨("numbers_of", none), "numbers_of", "numbers_of", L2.defArgs (top 14), L2.defBody (top 14), L2.defScope (top 14), [], []⟩
theorem ok_numbers_of : okB C_numbers_of d_numbers_of.body (L2.defBody (top 14)) = true := by decide +kernel
theorem sc_numbers_of : FnScope C_numbers_of.N ["system"] (L2.defScope (top 14)) := ⟨rfl, rfl, rfl, by decide +kernel, rfl, by decide +kernel, by decide +kernel⟩
def F_numbers_of : Fn := fnSem [("values_of", F_values_of), ("values_of", F_values_of_m)] d_numbers_of
def d_signed_terms : FW.Def := ⟨1, 4, (.cons (.expr (.call 0 (.cons (.var 0) .nil)))
      (.cons (.set 1 (.comp false [2, 3] (.tup (.cons (.name 2) (.cons (.name 3) .nil))) (.enum (.call 2 (.cons (.var 0) .nil))) (.cmp .ne (.var 3) (.k (.int 0))) (.tup (.cons (.call 1 (.cons (.var 2) .nil)) (.cons (.var 3) .nil)))))
      (.cons (.ret (.bi .tuple false (.cons (.bi .sorted false (.cons (.var 1) .nil)) .nil))) .nil)))⟩
def C_signed_terms : FW.Ctx := ⟨["system", "found", "place", "number"], L2.defScope (top 15), none, gs, ["need_system", "parts_of", "numbers_of"], blts⟩
def D_signed_terms : He.DefD := ⟨("signed_terms", none), "signed_terms", "signed_terms", L2.defArgs (top 15), L2.defBody (top 15), L2.defScope (top 15), [], []⟩
theorem ok_signed_terms : okB C_signed_terms d_signed_terms.body (L2.defBody (top 15)) = true := by decide +kernel
theorem sc_signed_terms : FnScope C_signed_terms.N ["system"] (L2.defScope (top 15)) := ⟨rfl, rfl, rfl, by decide +kernel, rfl, by decide +kernel, by decide +kernel⟩
def F_signed_terms : Fn := fnSem [("need_system", F_need_system), ("parts_of", F_parts_of), ("numbers_of", F_numbers_of)] d_signed_terms
def d__law_used : FW.Def := ⟨1, 4, (.cons (.set 1 (.list false .nil))
      (.cons (.forr (.name 2) (.seq (.var 0))
      (.cons (.set 1 (.bin .add false (.var 1) (.comp false [3] (.name 3) (.seq (.var 2)) (.cmp .notin (.var 3) (.var 1)) (.var 3)))) .nil) [])
      (.cons (.ret (.bi .sorted false (.cons (.var 1) .nil))) .nil)))⟩
def C__law_used : FW.Ctx := ⟨["_law_paths", "_law_found", "_law_path", "_law_k"], L2.defScope (top 23), none, gs, [], blts⟩
def D__law_used : He.DefD := ⟨("_law_used", none), "_law_used", "_law_used", L2.defArgs (top 23), L2.defBody (top 23), L2.defScope (top 23), [], []⟩
theorem ok__law_used : okB C__law_used d__law_used.body (L2.defBody (top 23)) = true := by decide +kernel
theorem sc__law_used : FnScope C__law_used.N ["_law_paths"] (L2.defScope (top 23)) := ⟨rfl, rfl, rfl, by decide +kernel, rfl, by decide +kernel, by decide +kernel⟩
def F__law_used : Fn := fnSem [] d__law_used
def d_law : FW.Def := ⟨1, 9, (.cons (.set 1 (.list true (.cons (.var 0) (.cons (.k (.int 0)) (.cons (.k (.int 4022)) (.cons (.k (.int 0)) .nil))))))
      (.cons (.set 2 (.call 0 (.cons (.var 1) (.cons (.k (.int 6)) .nil))))
      (.cons (.set 2 (.tup (.cons (.idx (.var 2) (.k (.int 0))) (.cons (.slc false (.idx (.var 2) (.k (.int 1))) (.k .non) (.k (.int 6))) .nil))))
      (.cons (.set 3 .dtt0)
      (.cons (.forr (.name 4) (.rng2 (.k (.int 1)) (.bin .add false (.bi .len false (.cons (.idx (.var 2) (.k (.int 1))) .nil)) (.k (.int 1))))
      (.cons (.forr (.name 6) (.seq (.call 2 (.cons (.bi .len false (.cons (.idx (.var 2) (.k (.int 1))) .nil)) (.cons (.var 4) .nil))))
      (.cons (.set 7 (.bi .tuple false (.cons (.call 4 (.cons (.comp false [8] (.name 8) (.seq (.var 6)) (.k (.bl true)) (.idx (.idx (.var 2) (.k (.int 1))) (.var 8))) .nil)) .nil)))
      (.cons (.putT 3 (.var 7) (.bin .add false (.getT (.var 3) (.var 7) (.k (.int 0))) (.ite (.cmp .eq (.bin .mod false (.bi .int false (.cons (.var 4) .nil)) (.k (.int 2))) (.k (.int 1))) (.k (.int 1)) (.neg (.k (.int 1)))))) .nil)) []) .nil) [])
      (.cons (.set 5 (.comp false [7] (.name 7) (.seq (.keysT false (.var 3))) (.cmp .ne (.idxT (.var 3) (.var 7)) (.k (.int 0))) (.tup (.cons (.var 7) (.cons (.idxT (.var 3) (.var 7)) .nil)))))
      (.cons (.ret (.call 1 (.cons (.call 3 (.cons (.var 2) .nil)) (.cons (.bi .tuple false (.cons (.var 5) .nil)) .nil)))) .nil)))))))⟩
def C_law : FW.Ctx := ⟨["_law_script", "_law_row", "_law_system_here", "_law_told", "_law_size", "_law_due", "_law_lot", "_law_union", "_law_j"], L2.defScope (top 25), none, gs, ["_law_system", "_law_alike", "_law_subsets", "signed_terms", "_law_used"], blts⟩
def D_law : He.DefD := ⟨("law", none), "law", "law", L2.defArgs (top 25), L2.defBody (top 25), L2.defScope (top 25), [], []⟩
theorem ok_law : okB C_law d_law.body (L2.defBody (top 25)) = true := by decide +kernel
theorem sc_law : FnScope C_law.N ["_law_script"] (L2.defScope (top 25)) := ⟨rfl, rfl, rfl, by decide +kernel, rfl, by decide +kernel, by decide +kernel⟩
def F_law : Fn := fnSem [("_law_system", F__law_system), ("_law_alike", F__law_alike 8), ("_law_subsets", F__law_subsets), ("signed_terms", F_signed_terms), ("_law_used", F__law_used)] d_law
def fn : List He.DefD := [D__law_taken, D__law_pick, D__law_some_set, D__law_least, D__law_system, D__law_alike, D__law_subsets, D_mask_of, D_is_in, D_are_sets, D_is_system, D_need_system, D_parts_of, D_values_of, D_numbers_of, D_signed_terms, D__law_used, D_law]
abbrev fa : List He.Fa := faOf glos blts
section
variable {P : Program} {w : World} {K : PySem.W.Frag} {mg : PySem.Str → Option Value} {base h : Heap}
theorem fo__law_taken (X : K.In h) (G : h.Ns mainGlobals mg) (c : SaysF fa fn gs K) : FO P w K mg base 1 "_law_taken" F__law_taken := by
  obtain ⟨fd, F⟩ := c.d.def_ 0 (d := D__law_taken) rfl
  exact fo_mk (k := 0) F (F.bindsN fun _ _ _ _ _ _ us hl => match us, hl with | [_, _], _ => rfl) (glo_at X G c.d (n := "_law_taken") (by decide +kernel)) sc__law_taken rfl rfl rfl ok__law_taken trivial (glob_all X G c) (blt_all X G c.d)
theorem fo__law_pick (X : K.In h) (G : h.Ns mainGlobals mg) (c : SaysF fa fn gs K) : FO P w K mg base 2 "_law_pick" F__law_pick := by
  obtain ⟨fd, F⟩ := c.d.def_ 1 (d := D__law_pick) rfl
  exact fo_mk (k := 1) F (F.bindsN fun _ _ _ _ _ _ us hl => match us, hl with | [_, _], _ => rfl) (glo_at X G c.d (n := "_law_pick") (by decide +kernel)) sc__law_pick rfl rfl rfl ok__law_pick ⟨⟨rfl, (fo__law_taken X G c).mono (by decide)⟩, trivial⟩ (glob_all X G c) (blt_all X G c.d)
theorem fo__law_some_set (X : K.In h) (G : h.Ns mainGlobals mg) (c : SaysF fa fn gs K) : FO P w K mg base 3 "_law_some_set" F__law_some_set := by
  obtain ⟨fd, F⟩ := c.d.def_ 2 (d := D__law_some_set) rfl
  exact fo_mk (k := 2) F (F.bindsN fun _ _ _ _ _ _ us hl => match us, hl with | [_, _], _ => rfl) (glo_at X G c.d (n := "_law_some_set") (by decide +kernel)) sc__law_some_set rfl rfl rfl ok__law_some_set ⟨⟨rfl, (fo__law_pick X G c).mono (by decide)⟩, ⟨rfl, (fo__law_taken X G c).mono (by decide)⟩, trivial⟩ (glob_all X G c) (blt_all X G c.d)
theorem fo__law_least (X : K.In h) (G : h.Ns mainGlobals mg) (c : SaysF fa fn gs K) : FO P w K mg base 1 "_law_least" F__law_least := by
  obtain ⟨fd, F⟩ := c.d.def_ 3 (d := D__law_least) rfl
  exact fo_mk (k := 0) F (F.bindsN fun _ _ _ _ _ _ us hl => match us, hl with | [_], _ => rfl) (glo_at X G c.d (n := "_law_least") (by decide +kernel)) sc__law_least rfl rfl rfl ok__law_least trivial (glob_all X G c) (blt_all X G c.d)
theorem fo__law_system (X : K.In h) (G : h.Ns mainGlobals mg) (c : SaysF fa fn gs K) : FO P w K mg base 4 "_law_system" F__law_system := by
  obtain ⟨fd, F⟩ := c.d.def_ 4 (d := D__law_system) rfl
  exact fo_mk (k := 3) F (F.bindsN fun _ _ _ _ _ _ us hl => match us, hl with | [_, _], _ => rfl) (glo_at X G c.d (n := "_law_system") (by decide +kernel)) sc__law_system rfl rfl rfl ok__law_system ⟨⟨rfl, (fo__law_taken X G c).mono (by decide)⟩, ⟨rfl, (fo__law_some_set X G c).mono (by decide)⟩, ⟨rfl, (fo__law_least X G c).mono (by decide)⟩, ⟨rfl, (fo__law_pick X G c).mono (by decide)⟩, trivial⟩ (glob_all X G c) (blt_all X G c.d)
theorem fo__law_alike' (X : K.In h) (G : h.Ns mainGlobals mg) (c : SaysF fa fn gs K) : ∀ n : Nat, FO P w K mg base (1 + n) "_law_alike" (F__law_alike n)
  | 0 => by
    obtain ⟨fd, F⟩ := c.d.def_ 5 (d := D__law_alike) rfl
    exact fo_bad (ps := ["_law_found", "_law_due"]) F (F.bindsN fun _ _ _ _ _ _ us hl => match us, hl with | [_, _], _ => rfl) (glo_at X G c.d (n := "_law_alike") (by decide +kernel))
  | n + 1 => by
    obtain ⟨fd, F⟩ := c.d.def_ 5 (d := D__law_alike) rfl
    have ih : FO P w K mg base (1 + n) "_law_alike" (F__law_alike n) := fo__law_alike' X G c n
    exact fo_mk (k := 1 + n) F (F.bindsN fun _ _ _ _ _ _ us hl => match us, hl with | [_, _], _ => rfl) (glo_at X G c.d (n := "_law_alike") (by decide +kernel)) sc__law_alike rfl rfl rfl ok__law_alike ⟨⟨rfl, ih⟩, trivial⟩ (glob_all X G c) (blt_all X G c.d)
theorem fo__law_alike (X : K.In h) (G : h.Ns mainGlobals mg) (c : SaysF fa fn gs K) : FO P w K mg base 9 "_law_alike" (F__law_alike 8) := fo__law_alike' X G c 8
theorem fo__law_subsets (X : K.In h) (G : h.Ns mainGlobals mg) (c : SaysF fa fn gs K) : FO P w K mg base 1 "_law_subsets" F__law_subsets := by
  obtain ⟨fd, F⟩ := c.d.def_ 6 (d := D__law_subsets) rfl
  exact fo_mk (k := 0) F (F.bindsN fun _ _ _ _ _ _ us hl => match us, hl with | [_, _], _ => rfl) (glo_at X G c.d (n := "_law_subsets") (by decide +kernel)) sc__law_subsets rfl rfl rfl ok__law_subsets trivial (glob_all X G c) (blt_all X G c.d)
theorem fo_mask_of (X : K.In h) (G : h.Ns mainGlobals mg) (c : SaysF fa fn gs K) : FO P w K mg base 1 "mask_of" F_mask_of := by
  obtain ⟨fd, F⟩ := c.d.def_ 7 (d := D_mask_of) rfl
  exact fo_mk (k := 0) F (F.bindsN fun _ _ _ _ _ _ us hl => match us, hl with | [_], _ => rfl) (glo_at X G c.d (n := "mask_of") (by decide +kernel)) sc_mask_of rfl rfl rfl ok_mask_of trivial (glob_all X G c) (blt_all X G c.d)
theorem fo_is_in (X : K.In h) (G : h.Ns mainGlobals mg) (c : SaysF fa fn gs K) : FO P w K mg base 1 "is_in" F_is_in := by
  obtain ⟨fd, F⟩ := c.d.def_ 8 (d := D_is_in) rfl
  exact fo_mk (k := 0) F (F.bindsN fun _ _ _ _ _ _ us hl => match us, hl with | [_, _, _], _ => rfl) (glo_at X G c.d (n := "is_in") (by decide +kernel)) sc_is_in rfl rfl rfl ok_is_in trivial (glob_all X G c) (blt_all X G c.d)
theorem fo_are_sets (X : K.In h) (G : h.Ns mainGlobals mg) (c : SaysF fa fn gs K) : FO P w K mg base 2 "are_sets" F_are_sets := by
  obtain ⟨fd, F⟩ := c.d.def_ 9 (d := D_are_sets) rfl
  exact fo_mk (k := 1) F (F.bindsN fun _ _ _ _ _ _ us hl => match us, hl with | [_, _], _ => rfl) (glo_at X G c.d (n := "are_sets") (by decide +kernel)) sc_are_sets rfl rfl rfl ok_are_sets ⟨⟨rfl, (fo_mask_of X G c).mono (by decide)⟩, ⟨rfl, (fo_is_in X G c).mono (by decide)⟩, trivial⟩ (glob_all X G c) (blt_all X G c.d)
theorem fo_is_system (X : K.In h) (G : h.Ns mainGlobals mg) (c : SaysF fa fn gs K) : FO P w K mg base 3 "is_system" F_is_system := by
  obtain ⟨fd, F⟩ := c.d.def_ 10 (d := D_is_system) rfl
  exact fo_mk (k := 2) F (F.bindsN fun _ _ _ _ _ _ us hl => match us, hl with | [_], _ => rfl) (glo_at X G c.d (n := "is_system") (by decide +kernel)) sc_is_system rfl rfl rfl ok_is_system ⟨⟨rfl, (fo_are_sets X G c).mono (by decide)⟩, ⟨rfl, (fo_is_in X G c).mono (by decide)⟩, trivial⟩ (glob_all X G c) (blt_all X G c.d)
theorem fo_need_system (X : K.In h) (G : h.Ns mainGlobals mg) (c : SaysF fa fn gs K) : FO P w K mg base 4 "need_system" F_need_system := by
  obtain ⟨fd, F⟩ := c.d.def_ 11 (d := D_need_system) rfl
  exact fo_mk (k := 3) F (F.bindsN fun _ _ _ _ _ _ us hl => match us, hl with | [_], _ => rfl) (glo_at X G c.d (n := "need_system") (by decide +kernel)) sc_need_system rfl rfl rfl ok_need_system ⟨⟨rfl, (fo_is_system X G c).mono (by decide)⟩, trivial⟩ (glob_all X G c) (blt_all X G c.d)
theorem fo_parts_of (X : K.In h) (G : h.Ns mainGlobals mg) (c : SaysF fa fn gs K) : FO P w K mg base 1 "parts_of" F_parts_of := by
  obtain ⟨fd, F⟩ := c.d.def_ 12 (d := D_parts_of) rfl
  exact fo_mk (k := 0) F (F.bindsN fun _ _ _ _ _ _ us hl => match us, hl with | [_], _ => rfl) (glo_at X G c.d (n := "parts_of") (by decide +kernel)) sc_parts_of rfl rfl rfl ok_parts_of trivial (glob_all X G c) (blt_all X G c.d)
theorem fo_values_of (X : K.In h) (G : h.Ns mainGlobals mg) (c : SaysF fa fn gs K) : FO P w K mg base 2 "values_of" F_values_of := by
  obtain ⟨fd, F⟩ := c.d.def_ 13 (d := D_values_of) rfl
  exact fo_mk (k := 1) F (F.bindsN fun _ _ _ _ _ _ us hl => match us, hl with | [_], _ => rfl) (glo_at X G c.d (n := "values_of") (by decide +kernel)) sc_values_of rfl rfl rfl ok_values_of ⟨⟨rfl, (fo_mask_of X G c).mono (by decide)⟩, trivial⟩ (glob_all X G c) (blt_all X G c.d)
theorem fo_values_of_m (X : K.In h) (G : h.Ns mainGlobals mg) (c : SaysF fa fn gs K) : FO P w K mg base 2 "values_of" F_values_of_m := by
  obtain ⟨fd, F⟩ := c.d.def_ 13 (d := D_values_of) rfl
  exact fo_mkM (k := 1) F (F.bindsN fun _ _ _ _ _ _ us hl => match us, hl with | [_], _ => rfl) (glo_at X G c.d (n := "values_of") (by decide +kernel)) sc_values_of rfl rfl rfl ok_values_of_m ⟨⟨rfl, (fo_mask_of X G c).mono (by decide)⟩, trivial⟩ (glob_all X G c) (blt_all X G c.d)
theorem fo_numbers_of (X : K.In h) (G : h.Ns mainGlobals mg) (c : SaysF fa fn gs K) : FO P w K mg base 3 "numbers_of" F_numbers_of := by
  obtain ⟨fd, F⟩ := c.d.def_ 14 (d := D_numbers_of) rfl
  exact fo_mk (k := 2) F (F.bindsN fun _ _ _ _ _ _ us hl => match us, hl with | [_], _ => rfl) (glo_at X G c.d (n := "numbers_of") (by decide +kernel)) sc_numbers_of rfl rfl rfl ok_numbers_of ⟨⟨rfl, (fo_values_of X G c).mono (by decide)⟩, ⟨rfl, (fo_values_of_m X G c).mono (by decide)⟩, trivial⟩ (glob_all X G c) (blt_all X G c.d)
theorem fo_signed_terms (X : K.In h) (G : h.Ns mainGlobals mg) (c : SaysF fa fn gs K) : FO P w K mg base 5 "signed_terms" F_signed_terms := by
  obtain ⟨fd, F⟩ := c.d.def_ 15 (d := D_signed_terms) rfl
  exact fo_mk (k := 4) F (F.bindsN fun _ _ _ _ _ _ us hl => match us, hl with | [_], _ => rfl) (glo_at X G c.d (n := "signed_terms") (by decide +kernel)) sc_signed_terms rfl rfl rfl ok_signed_terms ⟨⟨rfl, (fo_need_system X G c).mono (by decide)⟩, ⟨rfl, (fo_parts_of X G c).mono (by decide)⟩, ⟨rfl, (fo_numbers_of X G c).mono (by decide)⟩, trivial⟩ (glob_all X G c) (blt_all X G c.d)
theorem fo__law_used (X : K.In h) (G : h.Ns mainGlobals mg) (c : SaysF fa fn gs K) : FO P w K mg base 1 "_law_used" F__law_used := by
  obtain ⟨fd, F⟩ := c.d.def_ 16 (d := D__law_used) rfl
  exact fo_mk (k := 0) F (F.bindsN fun _ _ _ _ _ _ us hl => match us, hl with | [_], _ => rfl) (glo_at X G c.d (n := "_law_used") (by decide +kernel)) sc__law_used rfl rfl rfl ok__law_used trivial (glob_all X G c) (blt_all X G c.d)
theorem fn_law {fd : FuncData} (X : K.In h) (G : h.Ns mainGlobals mg) (c : SaysF fa fn gs K) (F : FunD K D_law.name D_law.qual D_law.params D_law.body D_law.scope [] [] (He.fAd K D_law.at_) fd) : FnOk P w K mg base CX0 10 (He.fAd K D_law.at_) fd ["_law_script"] (fun vs H Q _ => rdV K mg F_law vs H Q) :=
  fn_mk (k := 9) F sc_law rfl rfl rfl ok_law ⟨⟨rfl, (fo__law_system X G c).mono (by decide)⟩, ⟨rfl, (fo__law_alike X G c).mono (by decide)⟩, ⟨rfl, (fo__law_subsets X G c).mono (by decide)⟩, ⟨rfl, (fo_signed_terms X G c).mono (by decide)⟩, ⟨rfl, (fo__law_used X G c).mono (by decide)⟩, trivial⟩ (glob_all X G c) (blt_all X G c.d)
end
def loose0 : List PySem.Str := ["FaultError", "BadSystem", "is_in", "MOST_PARTS", "are_sets", "mask_of", "parts_of", "is_system", "need_system", "values_of", "numbers_of", "signed_terms", "_law_taken", "_law_pick", "_law_some_set", "_law_least", "_law_system", "_law_subsets", "_law_used", "_law_alike"]
def loose : List PySem.Str := loose0
abbrev hk : PySem.W.Hook := hookF 4 fa fn gs
def ob (s : PySem.W.SharedT) : AlF := obsF fa fn gs 4 (HandSHeadRun.getT s)
theorem ob_eq (s : PySem.W.SharedT) : ob s = hk.obs s.abs := obsF_eq (HandSHeadRun.getT_eq s)
theorem run (w : World) : HandSHeadRun.RunEq (PySem.W.OpenLaw.row PySem.Challenge.rw_faultworks_k22_whole_sets_of_paths_with) (PySem.W.view (PySem.W.OpenLaw.row PySem.Challenge.rw_faultworks_k22_whole_sets_of_paths_with).prog [25]) hk ob 4000 loose w := by
  intro os
  kernel_rfl
def lLaw : Nat := 10
end Lk22

namespace FWP
open PySem FW
def iv (t : Nat) : PV := .int (t : Int)
theorem ix_nat {n t : Nat} : ix? n (t : Int) = if t < n then some t else none := by
  by_cases h : t < n <;> simp [ix?, h]
theorem ix_nat1 {n t : Nat} : ix? n ((t : Int) + 1) = if t + 1 < n then some (t + 1) else none := ix_nat (t := t + 1)
theorem ix_0 {n : Nat} : ix? n 0 = if 0 < n then some 0 else none := ix_nat (t := 0)
theorem ix_1 {n : Nat} : ix? n 1 = if 1 < n then some 1 else none := ix_nat (t := 1)
theorem ix_2 {n : Nat} : ix? n 2 = if 2 < n then some 2 else none := ix_nat (t := 2)
theorem ix_last {n : Nat} (h : 0 < n) : ix? n (-1) = some (n - 1) := by
  have a : (0 : Int) ≤ -1 + n := by omega
  have b : (-1 + (n : Int)).toNat = n - 1 := by omega
  simp [ix?, a, b]
theorem forL_inv {f : PV → FS} (I : Nat → Slots → Store → Prop) : ∀ (xs : List PV) (i : Nat) {ρ : Slots} {S : Store}, (∀ j x ρ S, xs[j]? = some x → I (i + j) ρ S → ∃ ρ' S', f x ρ S = .ok (.next ρ') S' ∧ I (i + j + 1) ρ' S') → I i ρ S →
    ∃ ρ' S', forL f [] xs ρ S = .ok (.next ρ') S' ∧ I (i + xs.length) ρ' S'
  | [], i, ρ, S, _, h => ⟨ρ, S, rfl, h⟩
  | x :: xs, i, ρ, S, hf, h => by
    obtain ⟨ρ1, S1, e1, h1⟩ := hf 0 x ρ S rfl h
    obtain ⟨ρ2, S2, e2, h2⟩ := forL_inv I xs (i + 1) (fun j y ρ S hy hI => by
      have := hf (j + 1) y ρ S hy (by rw [show i + (j + 1) = i + 1 + j by omega]; exact hI)
      rwa [show i + (j + 1) = i + 1 + j by omega] at this) h1
    refine ⟨ρ2, S2, ?_, by rw [List.length_cons, show i + (xs.length + 1) = i + 1 + xs.length by omega]; exact h2⟩
    show (f x ρ S).bind _ = _
    rw [e1]
    exact e2
theorem compL_nat {α : Type} {f : PV → Store → Out (Option PV)} {x : α → PV} {p : α → Bool} {g : α → PV} {S : Store} : ∀ {l : List α}, (∀ a ∈ l, f (x a) S = .ok (if p a = true then some (g a) else none) S) → compL f (l.map x) S = .ok ((l.filter p).map g) S
  | [], _ => rfl
  | a :: l, h => by
    show (f (x a) S).bind _ = _
    rw [h a List.mem_cons_self]
    show (compL f (l.map x) S).bind _ = _
    rw [compL_nat fun y hy => h y (List.mem_cons_of_mem _ hy)]
    cases hg : p a <;> simp [hg]
theorem comp_eq {α : Type} {Γ : List (Str × Fn)} {m : Bool} {own : List Nat} {tg : CG} {it : CI} {c e : CE} {ρ : Slots} {S : Store} {x : α → PV} (l : List α) (p : α → Bool) (g : α → PV) (hi : evI Γ it ρ S = .ok (l.map x) S)
    (h : ∀ a ∈ l, cTurn (bindG tg) (ev Γ c).t (ev Γ e).v (wipeS ρ own) (x a) S = .ok (if p a = true then some (g a) else none) S) :
    (ev Γ (.comp m own tg it c e)).v ρ S = mkL m ((l.filter p).map g) S := by
  rw [ev_comp]
  show sComp _ _ _ _ _ _ _ _ = _
  unfold sComp
  rw [hi]
  show (compL _ _ S).bind _ = _
  rw [compL_nat h]
  rfl
theorem comp_map {α : Type} {Γ : List (Str × Fn)} {m : Bool} {own : List Nat} {tg : CG} {it : CI} {c e : CE} {ρ : Slots} {S : Store} {x : α → PV} (l : List α) (g : α → PV) (hi : evI Γ it ρ S = .ok (l.map x) S)
    (h : ∀ a ∈ l, cTurn (bindG tg) (ev Γ c).t (ev Γ e).v (wipeS ρ own) (x a) S = .ok (some (g a)) S) :
    (ev Γ (.comp m own tg it c e)).v ρ S = mkL m (l.map g) S := by
  have := comp_eq (m := m) (c := c) (e := e) l (fun _ => true) g hi (fun a ha => by rw [h a ha]; rfl)
  rw [this, List.filter_eq_self.mpr (fun _ _ => rfl)]
theorem comp_f {α : Type} {Γ : List (Str × Fn)} {c0 : CE} {own : List Nat} {tg : CG} {it : CI} {c e : CE} {ρ : Slots} {S : Store} {x : α → PV} (hc : c0 = .comp false own tg it c e) (l : List α) (p : α → Bool) (g : α → PV) (hl : l.length ≤ line) (hi : evI Γ it ρ S = .ok (l.map x) S)
    (h : ∀ a ∈ l, cTurn (bindG tg) (ev Γ c).t (ev Γ e).v (wipeS ρ own) (x a) S = .ok (if p a = true then some (g a) else none) S) :
    (ev Γ c0).v ρ S = .ok (.v (.lst ((l.filter p).map g))) S := by
  subst hc
  rw [comp_eq l p g hi h]
  have := List.length_filter_le p l
  unfold mkL
  rw [if_pos (by rw [List.length_map]; omega)]
  rfl
theorem comp_fm {α : Type} {Γ : List (Str × Fn)} {c0 : CE} {own : List Nat} {tg : CG} {it : CI} {c e : CE} {ρ : Slots} {S : Store} {x : α → PV} (hc : c0 = .comp false own tg it c e) (l : List α) (g : α → PV) (hl : l.length ≤ line) (hi : evI Γ it ρ S = .ok (l.map x) S)
    (h : ∀ a ∈ l, cTurn (bindG tg) (ev Γ c).t (ev Γ e).v (wipeS ρ own) (x a) S = .ok (some (g a)) S) :
    (ev Γ c0).v ρ S = .ok (.v (.lst (l.map g))) S := by
  subst hc
  rw [comp_map l g hi h]
  unfold mkL
  rw [if_pos (by rw [List.length_map]; exact hl)]
  rfl
theorem eqP_nilR {xs : List PV} (h : noFns xs = true) : eqP (.lst xs) (.lst []) = some xs.isEmpty := by
  have : (noFn (.lst xs) && noFn (.lst []) && (dpLe eqD (.lst xs) || dpLe eqD (.lst []))) = true := by
    rw [show noFn (.lst xs) = noFns xs from rfl, h, show dpLe eqD (.lst []) = true from rfl, Bool.or_true]
    rfl
  unfold eqP
  rw [if_pos this]
  cases xs <;> rfl
def nats (a b : Nat) : List Nat := List.range' a (b - a)
theorem rng_nats (a b : Nat) : rng (a : Int) (b : Int) = (nats a b).map iv := by
  unfold rng nats
  rw [show ((b : Int) - a).toNat = b - a by omega, List.range'_eq_map_range, List.map_map]
  rfl
theorem rngN_nats (b : Nat) : rngN (b : Int) = (nats 0 b).map iv := by
  have := rng_nats 0 b
  rw [← this]
  unfold rngN rng
  simp
theorem rngOk_nat {n : Nat} (h : n ≤ 4000000) : rngOk (n : Int) = true ∧ rngOk (-(n : Int)) = true := ⟨decide_eq_true (by omega), decide_eq_true (by omega)⟩
theorem rng1Op_nat {n : Nat} (h : n ≤ 4000000) (S : Store) : rng1Op (.v (.int (n : Int))) S = .ok ((nats 0 n).map iv) S := by
  obtain ⟨a, b⟩ := rngOk_nat h
  simp [a, b, rngN_nats]
theorem rng2Op_nat {a b : Nat} (h : a ≤ 4000000) (h' : b ≤ 4000000) (S : Store) : rng2Op (.v (.int (a : Int))) (.v (.int (b : Int))) S = .ok ((nats a b).map iv) S := by
  obtain ⟨a1, a2⟩ := rngOk_nat h
  obtain ⟨b1, b2⟩ := rngOk_nat h'
  simp [a1, a2, b1, b2, rng_nats]
section
variable {Γ : List (Str × Fn)} {a b : CE} {ρ : Slots} {S : Store} {x y : Int} {m n : Nat}
end
theorem cut_to {xs : List PV} {t : Nat} (h : t ≤ xs.length) : cut xs none (some (t : Int)) = xs.take t := by
  have e : sx xs.length xs.length (some (t : Int)) = t := by
    show (if (t : Int) < 0 then ((t : Int) + (xs.length : Int)).toNat else min (t : Int).toNat xs.length) = t
    rw [if_neg (by omega)]
    simp [h]
  unfold cut
  rw [e, show sx xs.length 0 none = 0 from rfl]
  simp
end FWP

namespace FWP
open PySem FW FWP
end FWP

namespace FWP
open PySem FW FWP
abbrev c__law_some_set_0 : CE := (.comp false [3] (.name 3) (.rng1 (.var 1)) (.cmp .eq (.call 1 (.cons (.var 0) (.cons (.var 2) .nil))) (.k (.int 0))) (.var 3))
def d__law_some_set : FW.Def := ⟨2, 4, (.cons (.set 2 (.call 0 (.cons (.var 0) (.cons (.list false (.cons (.k (.int 2)) (.cons (.k (.int 2)) (.cons (.k (.int 3)) .nil)))) .nil))))
      (.cons (.ret (.bi .tuple false (.cons c__law_some_set_0 .nil))) .nil))⟩
def g__law_some_set : List (Str × Fn) := [("_law_pick", F__law_pick), ("_law_taken", F__law_taken)]
def F__law_some_set : Fn := fnSem g__law_some_set d__law_some_set
@[simp] theorem g__law_some_set_0 : g__law_some_set[0]?.map Prod.snd = some F__law_pick := rfl
@[simp] theorem g__law_some_set_1 : g__law_some_set[1]?.map Prod.snd = some F__law_taken := rfl

abbrev c__law_least_1 : CE := (.comp false [5] (.name 5) (.seq (.var 4)) (.cmp .notin (.var 5) (.var 2)) (.var 5))
abbrev c__law_least_0 : CE := (.comp false [4] (.name 4) (.seq (.var 0)) (.and (.cons (.cmp .ne (.var 4) (.var 2)) (.cons (.cmp .eq c__law_least_1 (.list false .nil)) .nil))) (.var 4))
abbrev b__law_least_0 : CB := (.cons (.set 3 c__law_least_0)
      (.cons (.set 1 (.bin .add false (.var 1) (.ite (.and (.cons (.cmp .eq (.var 3) (.list false .nil)) (.cons (.cmp .notin (.var 2) (.var 1)) .nil))) (.list false (.cons (.var 2) .nil)) (.list false .nil)))) .nil))
def d__law_least : FW.Def := ⟨1, 6, (.cons (.set 1 (.list false .nil))
      (.cons (.forr (.name 2) (.seq (.var 0))
      b__law_least_0 [])
      (.cons (.ret (.bi .tuple false (.cons (.bi .sorted false (.cons (.var 1) .nil)) .nil))) .nil)))⟩
def g__law_least : List (Str × Fn) := []
def F__law_least : Fn := fnSem g__law_least d__law_least

abbrev c__law_system_0 : CE := (.comp false [4] (.name 4) (.rng1 (.call 3 (.cons (.var 0) (.cons (.list false (.cons (.k (.int 1)) (.cons (.k (.int 2)) (.cons (.k (.int 3)) (.cons (.k (.int 4)) (.cons (.k (.int 5)) (.cons (.k (.int 6)) .nil))))))) .nil)))) (.k (.bl true)) (.call 1 (.cons (.var 0) (.cons (.var 2) .nil))))
abbrev c__law_system_1 : CE := (.comp false [5] (.name 5) (.seq (.var 3)) (.or (.cons (.cmp .ne (.var 5) (.tup .nil)) (.cons (.cmp .eq (.call 0 (.cons (.var 0) (.cons (.k (.int 9)) .nil))) (.k (.int 0))) .nil))) (.var 5))
def d__law_system : FW.Def := ⟨2, 6, (.cons (.set 2 (.bin .add false (.k (.int 1)) (.call 0 (.cons (.var 0) (.cons (.var 1) .nil)))))
      (.cons (.set 3 c__law_system_0)
      (.cons (.set 3 c__law_system_1)
      (.cons (.ret (.tup (.cons (.var 2) (.cons (.call 2 (.cons (.var 3) .nil)) .nil)))) .nil))))⟩
def g__law_system : List (Str × Fn) := [("_law_taken", F__law_taken), ("_law_some_set", F__law_some_set), ("_law_least", F__law_least), ("_law_pick", F__law_pick)]
def F__law_system : Fn := fnSem g__law_system d__law_system
@[simp] theorem g__law_system_0 : g__law_system[0]?.map Prod.snd = some F__law_taken := rfl
@[simp] theorem g__law_system_1 : g__law_system[1]?.map Prod.snd = some F__law_some_set := rfl
@[simp] theorem g__law_system_2 : g__law_system[2]?.map Prod.snd = some F__law_least := rfl
@[simp] theorem g__law_system_3 : g__law_system[3]?.map Prod.snd = some F__law_pick := rfl

abbrev c_mask_of_0 : CE := (.comp false [1] (.name 1) (.seq (.var 0)) (.k (.bl true)) (.bin .shl false (.k (.int 1)) (.var 1)))
def d_mask_of : FW.Def := ⟨1, 2, (.cons (.ret (.bi .sum false (.cons c_mask_of_0 .nil))) .nil)⟩
def g_mask_of : List (Str × Fn) := []
def F_mask_of : Fn := fnSem g_mask_of d_mask_of

abbrev c_are_sets_0 : CE := (.comp false [5] (.name 5) (.seq (.var 2)) (.nt (.call 1 (.cons (.var 5) (.cons (.k (.int 0)) (.cons (.bin .sub false (.var 1) (.k (.int 1))) .nil))))) (.var 5))
abbrev b_are_sets_0 : CB := (.cons (.ifs (.or (.cons (.nt (.isi [.tuple] (.var 2))) (.cons (.cmp .ne c_are_sets_0 (.list false .nil)) .nil)))
      (.cons (.ret (.k (.bl false))) .nil)
      (.nil))
      (.cons (.ifs (.cmp .ne (.bi .list false (.cons (.var 2) .nil)) (.bi .sortedSet false (.cons (.var 2) .nil)))
      (.cons (.ret (.k (.bl false))) .nil)
      (.nil)) .nil))
abbrev c_are_sets_1 : CE := (.comp false [2] (.name 2) (.seq (.var 0)) (.k (.bl true)) (.call 0 (.cons (.var 2) .nil)))
abbrev c_are_sets_3 : CE := (.comp false [6] (.name 6) (.seq (.var 3)) (.and (.cons (.cmp .ne (.var 4) (.var 6)) (.cons (.cmp .eq (.bin .band false (.var 4) (.var 6)) (.var 4)) .nil))) (.var 6))
abbrev c_are_sets_2 : CE := (.comp false [4] (.name 4) (.seq (.var 3)) (.cmp .ne c_are_sets_3 (.list false .nil)) (.var 4))
def d_are_sets : FW.Def := ⟨2, 7, (.cons (.ifs (.nt (.isi [.tuple] (.var 0)))
      (.cons (.ret (.k (.bl false))) .nil)
      (.nil))
      (.cons (.forr (.name 2) (.seq (.var 0))
      b_are_sets_0 [])
      (.cons (.ifs (.cmp .ne (.bi .list false (.cons (.var 0) .nil)) (.bi .sortedSet false (.cons (.var 0) .nil)))
      (.cons (.ret (.k (.bl false))) .nil)
      (.nil))
      (.cons (.set 3 c_are_sets_1)
      (.cons (.ret (.cmp .eq c_are_sets_2 (.list false .nil))) .nil)))))⟩
def g_are_sets : List (Str × Fn) := [("mask_of", F_mask_of), ("is_in", F_is_in)]
def F_are_sets : Fn := fnSem g_are_sets d_are_sets
@[simp] theorem g_are_sets_0 : g_are_sets[0]?.map Prod.snd = some F_mask_of := rfl
@[simp] theorem g_are_sets_1 : g_are_sets[1]?.map Prod.snd = some F_is_in := rfl

def d_is_system : FW.Def := ⟨1, 1, (.cons (.ifs (.or (.cons (.nt (.isi [.tuple] (.var 0))) (.cons (.cmp .ne (.bi .len false (.cons (.var 0) .nil)) (.k (.int 2))) (.cons (.nt (.call 1 (.cons (.idx (.var 0) (.k (.int 0))) (.cons (.k (.int 1)) (.cons (.glob "MOST_PARTS" (.int 8)) .nil))))) .nil))))
      (.cons (.ret (.k (.bl false))) .nil)
      (.nil))
      (.cons (.ret (.call 0 (.cons (.idx (.var 0) (.k (.int 1))) (.cons (.idx (.var 0) (.k (.int 0))) .nil)))) .nil))⟩
def g_is_system : List (Str × Fn) := [("are_sets", F_are_sets), ("is_in", F_is_in)]
def F_is_system : Fn := fnSem g_is_system d_is_system
@[simp] theorem g_is_system_0 : g_is_system[0]?.map Prod.snd = some F_are_sets := rfl
@[simp] theorem g_is_system_1 : g_is_system[1]?.map Prod.snd = some F_is_in := rfl

def d_need_system : FW.Def := ⟨1, 1, (.cons (.ifs (.nt (.call 0 (.cons (.var 0) .nil)))
      (.cons (.raise "" .nil) .nil)
      (.nil)) .nil)⟩
def g_need_system : List (Str × Fn) := [("is_system", F_is_system)]
def F_need_system : Fn := fnSem g_need_system d_need_system
@[simp] theorem g_need_system_0 : g_need_system[0]?.map Prod.snd = some F_is_system := rfl

abbrev c_values_of_0 : CE := (.comp false [2] (.name 2) (.seq (.idx (.var 0) (.k (.int 1)))) (.k (.bl true)) (.call 0 (.cons (.var 2) .nil)))
abbrev c_values_of_2 : CE := (.comp false [4] (.name 4) (.seq (.var 1)) (.cmp .eq (.bin .band false (.var 4) (.var 3)) (.var 4)) (.var 4))
abbrev c_values_of_1 : CE := (.comp false [3] (.name 3) (.rng1 (.bin .shl false (.k (.int 1)) (.idx (.var 0) (.k (.int 0))))) (.k (.bl true)) (.bi .int false (.cons (.cmp .ne c_values_of_2 (.list false .nil)) .nil)))
def d_values_of : FW.Def := ⟨1, 5, (.cons (.set 1 c_values_of_0)
      (.cons (.ret c_values_of_1) .nil))⟩
def g_values_of : List (Str × Fn) := [("mask_of", F_mask_of)]
def F_values_of : Fn := fnSem g_values_of d_values_of
@[simp] theorem g_values_of_0 : g_values_of[0]?.map Prod.snd = some F_mask_of := rfl

abbrev c_parts_of_0 : CE := (.comp false [1] (.name 1) (.rng1 (.glob "MOST_PARTS" (.int 8))) (.cmp .eq (.bin .band false (.bin .shr false (.var 0) (.var 1)) (.k (.int 1))) (.k (.int 1))) (.var 1))
def d_parts_of : FW.Def := ⟨1, 2, (.cons (.ret (.bi .tuple false (.cons c_parts_of_0 .nil))) .nil)⟩
def g_parts_of : List (Str × Fn) := []
def F_parts_of : Fn := fnSem g_parts_of d_parts_of

abbrev c__law_subsets_0 : CE := (.comp false [4] (.name 4) (.seq (.var 2)) (.cmp .lt (.bi .len false (.cons (.var 4) .nil)) (.var 1)) (.bin .add false (.var 4) (.tup (.cons (.var 3) .nil))))
abbrev b__law_subsets_0 : CB := (.cons (.set 2 (.bin .add false (.var 2) c__law_subsets_0)) .nil)
abbrev c__law_subsets_1 : CE := (.comp false [4] (.name 4) (.seq (.var 2)) (.cmp .eq (.bi .len false (.cons (.var 4) .nil)) (.var 1)) (.var 4))
def d__law_subsets : FW.Def := ⟨2, 5, (.cons (.set 2 (.list false (.cons (.tup .nil) .nil)))
      (.cons (.forr (.name 3) (.rng1 (.var 0))
      b__law_subsets_0 [])
      (.cons (.ret (.bi .sorted false (.cons c__law_subsets_1 .nil))) .nil)))⟩
def g__law_subsets : List (Str × Fn) := []
def F__law_subsets : Fn := fnSem g__law_subsets d__law_subsets

abbrev c__law_used_0 : CE := (.comp false [3] (.name 3) (.seq (.var 2)) (.cmp .notin (.var 3) (.var 1)) (.var 3))
abbrev b__law_used_0 : CB := (.cons (.set 1 (.bin .add false (.var 1) c__law_used_0)) .nil)
def d__law_used : FW.Def := ⟨1, 4, (.cons (.set 1 (.list false .nil))
      (.cons (.forr (.name 2) (.seq (.var 0))
      b__law_used_0 [])
      (.cons (.ret (.bi .sorted false (.cons (.var 1) .nil))) .nil)))⟩
def g__law_used : List (Str × Fn) := []
def F__law_used : Fn := fnSem g__law_used d__law_used

end FWP

namespace FWP
open PySem FW FWP
end FWP

namespace FWP
open PySem FW FWP
end FWP

namespace FWP
open PySem FW FWP
end FWP

namespace FWP
open PySem FW FWP
end FWP

namespace FWP
open PySem FW FWP
abbrev c_values_of_m_0 : CE := (.comp false [2] (.name 2) (.seq (.idx (.var 0) (.k (.int 1)))) (.k (.bl true)) (.call 0 (.cons (.var 2) .nil)))
abbrev c_values_of_m_2 : CE := (.comp false [4] (.name 4) (.seq (.var 1)) (.cmp .eq (.bin .band false (.var 4) (.var 3)) (.var 4)) (.var 4))
abbrev c_values_of_m_1 : CE := (.comp true [3] (.name 3) (.rng1 (.bin .shl false (.k (.int 1)) (.idx (.var 0) (.k (.int 0))))) (.k (.bl true)) (.bi .int false (.cons (.cmp .ne c_values_of_m_2 (.list false .nil)) .nil)))
def d_values_of_m : FW.Def := ⟨1, 5, (.cons (.set 1 c_values_of_m_0)
      (.cons (.ret c_values_of_m_1) .nil))⟩
def F_values_of_m : Fn := fnSemM g_values_of d_values_of_m

abbrev b_numbers_dom_1 : CB := (.cons (.ifs (.cmp .eq (.bin .band false (.bin .shr false (.var 3) (.var 2)) (.k (.int 1))) (.k (.int 1)))
      (.cons (.augsub 1 (.var 3) .sub (.idx (.var 1) (.bin .bxor false (.var 3) (.bin .shl false (.k (.int 1)) (.var 2))))) .nil)
      (.nil)) .nil)
abbrev b_numbers_dom_0 : CB := (.cons (.forr (.name 3) (.rng1 (.bin .shl false (.k (.int 1)) (.idx (.var 0) (.k (.int 0)))))
      b_numbers_dom_1 []) .nil)
def d_numbers_dom : FW.Def := ⟨1, 4, (.cons (.set 1 (.call 1 (.cons (.var 0) .nil)))
      (.cons (.forr (.name 2) (.rng1 (.idx (.var 0) (.k (.int 0))))
      b_numbers_dom_0 [])
      (.cons (.ret (.var 1)) .nil)))⟩
def g_numbers_dom : List (Str × Fn) := [("values_of", F_values_of), ("values_of", F_values_of_m)]
def F_numbers_dom : Fn := fnSem g_numbers_dom d_numbers_dom
@[simp] theorem g_numbers_dom_0 : g_numbers_dom[0]?.map Prod.snd = some F_values_of := rfl
@[simp] theorem g_numbers_dom_1 : g_numbers_dom[1]?.map Prod.snd = some F_values_of_m := rfl

abbrev c_signed_terms_0 : CE := (.comp false [2, 3] (.tup (.cons (.name 2) (.cons (.name 3) .nil))) (.enum (.call 2 (.cons (.var 0) .nil))) (.cmp .ne (.var 3) (.k (.int 0))) (.tup (.cons (.call 1 (.cons (.var 2) .nil)) (.cons (.var 3) .nil))))
def d_signed_terms : FW.Def := ⟨1, 4, (.cons (.expr (.call 0 (.cons (.var 0) .nil)))
      (.cons (.set 1 c_signed_terms_0)
      (.cons (.ret (.bi .tuple false (.cons (.bi .sorted false (.cons (.var 1) .nil)) .nil))) .nil)))⟩
def g_signed_terms : List (Str × Fn) := [("need_system", F_need_system), ("parts_of", F_parts_of), ("numbers_dom", F_numbers_dom)]
def F_signed_terms : Fn := fnSem g_signed_terms d_signed_terms
@[simp] theorem g_signed_terms_0 : g_signed_terms[0]?.map Prod.snd = some F_need_system := rfl
@[simp] theorem g_signed_terms_1 : g_signed_terms[1]?.map Prod.snd = some F_parts_of := rfl
@[simp] theorem g_signed_terms_2 : g_signed_terms[2]?.map Prod.snd = some F_numbers_dom := rfl

end FWP

namespace FWP
open PySem FW
abbrev nn (t : Nat) : PV := .int (t : Int)
abbrev bitV (b : Bool) : PV := .int (if b = true then 1 else 0)
structure Tag {α : Sort _} (a : α) : Type where
def Mem {α : Type} (a : α) (l : List α) : Prop := a ∈ l
theorem Mem.out {α : Type} {a : α} {l : List α} (h : Mem a l) : a ∈ l := h
noncomputable instance {α : Type} {a : α} {l : List α} : Decidable (Mem a l) := Classical.propDecidable _
def compG {α : Type} (f : α → Store → Out (Option PV)) : List α → Store → Out (List PV)
  | [], S => .ok [] S
  | a :: l, S => (f a S).bind fun y S1 => (compG f l S1).bind fun ys S2 => .ok (match y with | some y => y :: ys | none => ys) S2
theorem compG_congr {α : Type} {f g : α → Store → Out (Option PV)} {l : List α} {S : Store} (h : ∀ a, a ∈ l → ∀ S, f a S = g a S) : compG f l S = compG g l S := by
  induction l generalizing S with
  | nil => rfl
  | cons a l ih =>
    show (f a S).bind _ = (g a S).bind _
    rw [h a List.mem_cons_self]
    congr 1
    funext y S1
    rw [ih fun b hb => h b (List.mem_cons_of_mem _ hb)]
theorem compG_mem {α : Type} {f h : α → Store → Out (Option PV)} {l : List α} {S : Store} : compG (fun a S => if Mem a l then f a S else h a S) l S = compG f l S := compG_congr fun a ha S => if_pos ha
theorem compL_mapG {α : Type} {f : PV → Store → Out (Option PV)} {x : α → PV} {l : List α} {S : Store} : compL f (l.map x) S = compG (fun a S => if Mem a l then f (x a) S else .bad) l S := by
  rw [compG_mem]
  induction l generalizing S with
  | nil => rfl
  | cons a l ih =>
    show (f (x a) S).bind _ = (f (x a) S).bind _
    congr 1
    funext y S1
    exact congrArg (fun o => Out.bind o _) ih
theorem compG_all' {α : Type} {g : α → PV} : ∀ {l : List α} {S : Store}, compG (fun a S => .ok (some (g a)) S) l S = .ok (l.map g) S
  | [], _ => rfl
  | a :: l, S => by
    show (compG _ l S).bind _ = _
    rw [compG_all']
    rfl
theorem compG_none' {α : Type} : ∀ {l : List α} {S : Store}, compG (fun _ S => .ok none S) l S = .ok [] S
  | [], _ => rfl
  | a :: l, S => by
    show (compG _ l S).bind _ = _
    rw [compG_none']
    rfl
theorem compG_some' {α : Type} {P : α → Prop} [∀ a, Decidable (P a)] {g : α → PV} : ∀ {l : List α} {S : Store}, compG (fun a S => if P a then .ok (some (g a)) S else .ok none S) l S = .ok ((l.filter fun a => decide (P a)).map g) S
  | [], _ => rfl
  | a :: l, S => by
    show (if P a then _ else _ : Out (Option PV)).bind _ = _
    by_cases h : P a
    · rw [if_pos h]
      show (compG _ l S).bind _ = _
      rw [compG_some']
      simp [h]
    · rw [if_neg h]
      show (compG _ l S).bind _ = _
      rw [compG_some']
      simp [h]
theorem compG_two' {α : Type} {P : α → Prop} [∀ a, Decidable (P a)] {g h : α → PV} : ∀ {l : List α} {S : Store}, compG (fun a S => if P a then .ok (some (g a)) S else .ok (some (h a)) S) l S = .ok (l.map fun a => if P a then g a else h a) S
  | [], _ => rfl
  | a :: l, S => by
    show (if P a then _ else _ : Out (Option PV)).bind _ = _
    by_cases h : P a
    · rw [if_pos h]
      show (compG _ l S).bind _ = _
      rw [compG_two']
      simp [h]
    · rw [if_neg h]
      show (compG _ l S).bind _ = _
      rw [compG_two']
      simp [h]
section
variable {α : Type} {l : List α} {S : Store} {g h : α → PV}
theorem compG_all : compG (fun a S => if Mem a l then .ok (some (g a)) S else .bad) l S = .ok (l.map g) S := compG_mem.trans compG_all'
theorem compG_none : compG (fun a S => if Mem a l then .ok none S else .bad) l S = .ok [] S := compG_mem.trans compG_none'
theorem compG_some {P : α → Prop} [∀ a, Decidable (P a)] : compG (fun a S => if Mem a l then (if P a then .ok (some (g a)) S else .ok none S) else .bad) l S = .ok ((l.filter fun a => decide (P a)).map g) S := compG_mem.trans compG_some'
theorem compG_two {P : α → Prop} [∀ a, Decidable (P a)] : compG (fun a S => if Mem a l then (if P a then .ok (some (g a)) S else .ok (some (h a)) S) else .bad) l S = .ok (l.map fun a => if P a then g a else h a) S := compG_mem.trans compG_two'
theorem compG_3 {P Q : α → Prop} [∀ a, Decidable (P a)] [∀ a, Decidable (Q a)] : compG (fun a S => if Mem a l then (if P a then (if Q a then .ok (some (g a)) S else .ok (some (h a)) S) else .ok none S) else .bad) l S = .ok ((l.filter fun a => decide (P a)).map fun a => if Q a then g a else h a) S := by
  have : (fun (a : α) (S : Store) => if Mem a l then (if P a then (if Q a then Out.ok (some (g a)) S else .ok (some (h a)) S) else .ok none S) else .bad) = fun a S => if Mem a l then (if P a then .ok (some (if Q a then g a else h a)) S else .ok none S) else .bad := by
    funext a S
    split
    · split
      · split <;> rfl
      · rfl
    · rfl
  rw [this]
  exact compG_some (g := fun a => if Q a then g a else h a)
end
theorem ite_int {c : Prop} [Decidable c] {i j : Int} : (if c then PV.int i else PV.int j) = PV.int (if c then i else j) := by split <;> rfl
def compGG {α : Type} (f : α → Store → Out (List PV)) : List α → Store → Out (List PV)
  | [], S => .ok [] S
  | a :: l, S => (f a S).bind fun y S1 => (compGG f l S1).bind fun ys S2 => .ok (y ++ ys) S2
theorem compGG_congr {α : Type} {f g : α → Store → Out (List PV)} {l : List α} {S : Store} (h : ∀ a, a ∈ l → ∀ S, f a S = g a S) : compGG f l S = compGG g l S := by
  induction l generalizing S with
  | nil => rfl
  | cons a l ih =>
    show (f a S).bind _ = (g a S).bind _
    rw [h a List.mem_cons_self]
    congr 1
    funext y S1
    rw [ih fun b hb => h b (List.mem_cons_of_mem _ hb)]
theorem compGG_mem {α : Type} {f h : α → Store → Out (List PV)} {l : List α} {S : Store} : compGG (fun a S => if Mem a l then f a S else h a S) l S = compGG f l S := compGG_congr fun a ha S => if_pos ha
theorem compLL_map {α : Type} {f : PV → Store → Out (List PV)} {x : α → PV} {l : List α} {S : Store} : compLL f (l.map x) S = compGG (fun a S => if Mem a l then f (x a) S else .bad) l S := by
  rw [compGG_mem]
  induction l generalizing S with
  | nil => rfl
  | cons a l ih =>
    show (f (x a) S).bind _ = (f (x a) S).bind _
    congr 1
    funext y S1
    exact congrArg (fun o => Out.bind o _) ih
theorem compGG_all' {α β : Type} {x : β → PV} {g : α → List β} : ∀ {l : List α} {S : Store}, compGG (fun a S => .ok ((g a).map x) S) l S = .ok ((l.flatMap g).map x) S
  | [], _ => rfl
  | a :: l, S => by
    show (compGG _ l S).bind _ = _
    rw [compGG_all']
    simp
theorem compGG_all {α β : Type} {x : β → PV} {g : α → List β} {l : List α} {S : Store} : compGG (fun a S => if Mem a l then .ok ((g a).map x) S else .bad) l S = .ok ((l.flatMap g).map x) S := compGG_mem.trans compGG_all'
theorem ite_both {α : Sort _} {A B : Prop} [Decidable A] [Decidable B] {x y : α} : (if A then (if B then x else y) else y) = if A ∧ B then x else y := by by_cases A <;> by_cases B <;> simp [*]
theorem ite_okb {A : Prop} [Decidable A] {p q : Bool} {S : Store} : (if A then Out.ok p S else Out.ok q S) = .ok (if A then p else q) S := by split <;> rfl
theorem mkL_f {xs : List PV} {S : Store} (h : xs.length ≤ 16777216) : mkL false xs S = .ok (.v (.lst xs)) S := by unfold mkL; rw [if_pos (show xs.length ≤ line from h)]; rfl
theorem mkL_t {xs : List PV} {S : Store} (h : xs.length ≤ 16777216) : mkL true xs S = .ok (.l S.length) (S ++ [.lst xs]) := by unfold mkL; rw [if_pos (show xs.length ≤ line from h)]; rfl
theorem mkT_ok {xs : List PV} {S : Store} (h : xs.length ≤ 16777216) : mkT xs S = .ok (.v (.tup xs)) S := by unfold mkT; rw [if_pos (show xs.length ≤ line from h)]
theorem rng1_n {n : Nat} {S : Store} (h : n ≤ 4000000) : rng1Op (.v (.int (n : Int))) S = .ok ((List.range n).map nn) S := by
  rw [rng1Op_nat h]
  simp only [nats, Nat.sub_zero, List.range_eq_range']
  rfl
theorem rng1_i {i : Int} {S : Store} (h : 0 ≤ i) (h2 : i ≤ 4000000) : rng1Op (.v (.int i)) S = .ok ((List.range i.toNat).map nn) S := by
  have := rng1_n (n := i.toNat) (S := S) (by omega)
  rwa [show ((i.toNat : Nat) : Int) = i by omega] at this
def bitN (k : Nat) : Nat := 2 ^ k
theorem bitN_le {n : Nat} (h : n ≤ 8) : bitN n ≤ 256 := by
  have : ∀ m, m ≤ 8 → bitN m ≤ 256 := by decide
  exact this n h
theorem rng2_n {a b : Nat} {S : Store} (h : a ≤ 4000000) (h' : b ≤ 4000000) : rng2Op (.v (.int (a : Int))) (.v (.int (b : Int))) S = .ok ((nats a b).map nn) S := rng2Op_nat h h' S
theorem zip_map {α β : Type} {x : α → PV} {y : β → PV} : ∀ {l : List α} {l' : List β}, zipL (l.map x) (l'.map y) = (l.zip l').map fun ab => .tup [x ab.1, y ab.2]
  | [], _ => by simp [zipL]
  | _ :: _, [] => by simp [zipL]
  | a :: l, b :: l' => by simp [zipL, zip_map]
theorem enum_map {α : Type} {x : α → PV} : ∀ {l : List α} {i : Nat}, enumL i (l.map x) = (l.zipIdx i).map fun ai => .tup [nn ai.2, x ai.1]
  | [], _ => rfl
  | a :: l, i => by
    show PV.tup [nn i, x a] :: enumL (i + 1) (l.map x) = _
    rw [enum_map]
    rfl
theorem noFns_map {α : Type} {g : α → PV} : ∀ {l : List α}, noFns (l.map g) = l.all fun a => noFn (g a)
  | [] => rfl
  | a :: l => by show (noFn (g a) && noFns (l.map g)) = _; rw [noFns_map]; rfl
@[simp] theorem noFn_int {i} : noFn (.int i) = true := rfl
@[simp] theorem noFn_bl {i} : noFn (.bl i) = true := rfl
@[simp] theorem noFn_str {i} : noFn (.str i) = true := rfl
@[simp] theorem noFn_non : noFn .non = true := rfl
@[simp] theorem noFn_tup {xs} : noFn (.tup xs) = noFns xs := rfl
@[simp] theorem noFn_lst {xs} : noFn (.lst xs) = noFns xs := rfl
@[simp] theorem noFns_nil : noFns [] = true := rfl
@[simp] theorem noFns_cons {x xs} : noFns (x :: xs) = (noFn x && noFns xs) := rfl
theorem eqP_nilL {xs : List PV} : eqP (.lst xs) (.lst []) = if noFns xs = true then some xs.isEmpty else none := by
  by_cases h : noFns xs = true
  · rw [eqP_nilR h, if_pos h]
  · rw [if_neg h]
    unfold eqP
    rw [if_neg]
    simp [h]
theorem op_shl {k : Nat} (h : k ≤ 1000000) : intOp .shl 1 (k : Int) = some ((bitN k : Nat) : Int) := by
  unfold intOp bitN
  simp
  omega
theorem op_shln {a k : Nat} (h : k ≤ 1000000) (h2 : a < 18446744073709551616) : intOp .shl (a : Int) (k : Int) = some ((a * bitN k : Nat) : Int) := by
  unfold intOp bitN
  simp
  omega
def shrN (m k : Nat) : Nat := m >>> k
def andN (m k : Nat) : Nat := m &&& k
def orN (m k : Nat) : Nat := m ||| k
def xorN (m k : Nat) : Nat := m ^^^ k
theorem op_shr {m k : Nat} : intOp .shr (m : Int) (k : Int) = some ((shrN m k : Nat) : Int) := by
  unfold intOp shrN
  simp [Nat.shiftRight_eq_div_pow]
theorem op_and {a b : Nat} : intOp .band (a : Int) (b : Int) = some ((andN a b : Nat) : Int) := by
  unfold intOp andN
  simp
theorem op_bit {m k : Nat} : intOp .band ((shrN m k : Nat) : Int) 1 = some (if m.testBit k = true then 1 else 0) := by
  have : intOp .band ((shrN m k : Nat) : Int) 1 = some ((andN (shrN m k) 1 : Nat) : Int) := op_and (b := 1)
  rw [this]
  congr 1
  show ((m >>> k &&& 1 : Nat) : Int) = _
  rw [Nat.and_one_is_mod, Nat.testBit_eq_decide_div_mod_eq, Nat.shiftRight_eq_div_pow]
  by_cases h : m / 2 ^ k % 2 = 1
  · simp [h]
  · have : m / 2 ^ k % 2 = 0 := by omega
    simp [this]
theorem op_or {a b : Nat} : intOp .bor (a : Int) (b : Int) = some ((orN a b : Nat) : Int) := by
  unfold intOp orN
  simp
theorem op_xor {a b : Nat} : intOp .bxor (a : Int) (b : Int) = some ((xorN a b : Nat) : Int) := by
  unfold intOp xorN
  simp
theorem op_add {a b : Int} : intOp .add a b = some (a + b) := rfl
theorem op_sub {a b : Int} : intOp .sub a b = some (a - b) := rfl
theorem ints_mapf {α : Type} {f : α → Int} : ∀ {l : List α}, ints? (l.map fun a => PV.int (f a)) = some (l.map f)
  | [] => rfl
  | a :: l => by simp [ints?, ints_mapf]
theorem sumI_map {α : Type} {f : α → Nat} : ∀ {l : List α}, sumI (l.map fun a => ((f a : Nat) : Int)) = (((l.map f).sum : Nat) : Int)
  | [] => rfl
  | a :: l => by
    show ((f a : Nat) : Int) + sumI (l.map fun a => ((f a : Nat) : Int)) = _
    rw [sumI_map]
    rfl
theorem ix_n {n t : Nat} (h : t < n) : ix? n (t : Int) = some t := by rw [ix_nat, if_pos h]
theorem ix_n1 {n t : Nat} (h : t + 1 < n) : ix? n ((t : Int) + 1) = some (t + 1) := by rw [ix_nat1, if_pos h]
theorem ix_i0 {n : Nat} (h : 0 < n) : ix? n 0 = some 0 := by rw [ix_0, if_pos h]
theorem ix_i1 {n : Nat} (h : 1 < n) : ix? n 1 = some 1 := by rw [ix_1, if_pos h]
theorem ix_i2 {n : Nat} (h : 2 < n) : ix? n 2 = some 2 := by rw [ix_2, if_pos h]
def ith {α : Type} [Inhabited α] (l : List α) (t : Nat) : α := l.getD t default
theorem get_ith {α : Type} [Inhabited α] {l : List α} {t : Nat} (h : t < l.length) : l[t]? = some (ith l t) := by
  rw [List.getElem?_eq_getElem h]
  unfold ith
  rw [List.getD_eq_getElem?_getD, List.getElem?_eq_getElem h]
  rfl
theorem ith_zero {α : Type} [Inhabited α] {a : α} {l : List α} : ith (a :: l) 0 = a := rfl
theorem ith_succ {α : Type} [Inhabited α] {a : α} {l : List α} {n : Nat} : ith (a :: l) (n + 1) = ith l n := rfl
theorem ith_map {α β : Type} [Inhabited α] [Inhabited β] {l : List α} {f : α → β} {t : Nat} (h : t < l.length) : ith (l.map f) t = f (ith l t) := by
  unfold ith
  rw [List.getD_eq_getElem?_getD, List.getD_eq_getElem?_getD, List.getElem?_map, List.getElem?_eq_getElem h]
  rfl
theorem cast_inj {a b : Nat} : ((a : Int) = (b : Int)) = (a = b) := propext ⟨fun h => by omega, fun h => by omega⟩
theorem cast_0 {a : Nat} : ((a : Int) = 0) = (a = 0) := propext ⟨fun h => by omega, fun h => by omega⟩
theorem bit_1 {b : Bool} : ((if b = true then (1 : Int) else 0) = 1) = (b = true) := by cases b <;> simp
theorem bit_0 {b : Bool} : ((if b = true then (1 : Int) else 0) = 0) = (b = false) := by cases b <;> simp
end FWP

namespace FWP
open PySem FW
def _root_.FW.Out.bd {α β : Type} (x : Out α) (f : α → Store → Out β) (_ : Tag f := ⟨⟩) : Out β := x.bind f
theorem bd_ok {α β : Type} {a : α} {S : Store} {f : α → Store → Out β} {t : Tag f} : Out.bd (.ok a S) f t = f a S := rfl
theorem bd_exc {α β : Type} {c : Str} {as : List PV} {S : Store} {f : α → Store → Out β} {t : Tag f} : Out.bd (.exc c as S) f t = .exc c as S := rfl
theorem bd_bad {α β : Type} {f : α → Store → Out β} {t : Tag f} : Out.bd .bad f t = .bad := rfl
theorem bd_ite {α β : Type} {c : Prop} [Decidable c] {x y : Out α} {f : α → Store → Out β} {t : Tag f} : (if c then x else y).bd f t = if c then x.bd f ⟨⟩ else y.bd f ⟨⟩ := by split <;> rfl
def compLT (f : PV → Store → Out (Option PV)) (xs : List PV) (S : Store) (_ : Tag f := ⟨⟩) : Out (List PV) := compL f xs S
def compLLT (f : PV → Store → Out (List PV)) (xs : List PV) (S : Store) (_ : Tag f := ⟨⟩) : Out (List PV) := compLL f xs S
theorem compLT_map {α : Type} {f : PV → Store → Out (Option PV)} {x : α → PV} {l : List α} {S : Store} {t : Tag f} : compLT f (l.map x) S t = compG (fun a S => if Mem a l then f (x a) S else .bad) l S := compL_mapG
theorem compLLT_map {α : Type} {f : PV → Store → Out (List PV)} {x : α → PV} {l : List α} {S : Store} {t : Tag f} : compLLT f (l.map x) S t = compGG (fun a S => if Mem a l then f (x a) S else .bad) l S := compLL_map
theorem compLT_nil {f : PV → Store → Out (Option PV)} {S : Store} {t : Tag f} : compLT f [] S t = .ok [] S := rfl
theorem compLLT_nil {f : PV → Store → Out (List PV)} {S : Store} {t : Tag f} : compLLT f [] S t = .ok [] S := rfl
def optB {α β : Type} (o : Option α) (f : α → Out β) (_ : Tag f := ⟨⟩) : Out β := match o with
  | some a => f a
  | none => .bad
theorem optB_none {α β : Type} {f : α → Out β} {t : Tag f} : optB none f t = .bad := rfl
theorem optB_some {α β : Type} {a : α} {f : α → Out β} {t : Tag f} : optB (some a) f t = f a := rfl
def truK (x : SV) (S : Store) : Out Bool := optB (truth S x) fun b => .ok b S
theorem truK_eq {x S} : truK x S = optB (truth S x) fun b => .ok b S := rfl
def blK (b : Bool) (S : Store) : Out SV := .ok (.v (.bl b)) S
theorem blK_eq {b S} : blK b S = .ok (.v (.bl b)) S := rfl
section
variable {Γ : List (Str × Fn)} {ρ : Slots} {S : Store}
theorem v_var {i} : (ev Γ (.var i)).v ρ S = optB (getS ρ i) fun x => .ok x S := by
  show (match getS ρ i with | some x => _ | none => _) = _
  cases getS ρ i <;> rfl
theorem v_k {x} : (ev Γ (.k x)).v ρ S = .ok (.v x) S := rfl
theorem v_glob {n x} : (ev Γ (.glob n x)).v ρ S = .ok (.v x) S := rfl
def tupK (xs : List SV) (S : Store) : Out SV := optB (pures? xs) fun ys => mkT ys S
theorem tupK_eq {xs S} : tupK xs S = optB (pures? xs) fun ys => mkT ys S := rfl
theorem v_tup {es} : (ev Γ (.tup es)).v ρ S = (evL Γ es ρ S).bd tupK := by
  show (evL Γ es ρ S).bind _ = Out.bind _ _
  congr 1
  funext xs S1
  cases h : pures? xs <;> simp only [tupK, optB, h]
def lstK (m : Bool) (xs : List SV) (S : Store) : Out SV := optB (pures? xs) fun ys => mkL m ys S
theorem lstK_eq {m xs S} : lstK m xs S = optB (pures? xs) fun ys => mkL m ys S := rfl
theorem v_list {m es} : (ev Γ (.list m es)).v ρ S = (evL Γ es ρ S).bd (lstK m) := by
  show (evL Γ es ρ S).bind _ = Out.bind _ _
  congr 1
  funext xs S1
  cases h : pures? xs <;> simp only [lstK, optB, h]
theorem v_bin {o m a b} : (ev Γ (.bin o m a b)).v ρ S = ((ev Γ a).v ρ S).bd fun x S1 => ((ev Γ b).v ρ S1).bd fun y S2 => binOp o m x y S2 := rfl
theorem v_neg {a} : (ev Γ (.neg a)).v ρ S = ((ev Γ a).v ρ S).bd negOp := rfl
theorem t_nt {a} : (ev Γ (.nt a)).t ρ S = ((ev Γ a).t ρ S).bd fun b S1 => .ok (!b) S1 := rfl
theorem v_nt {a} : (ev Γ (.nt a)).v ρ S = (((ev Γ a).v ρ S).bd truK).bd fun b S1 => .ok (.v (.bl (!b))) S1 := by
  show (tru (ev Γ a).v ρ S).bind _ = Out.bind _ _
  congr 1
  show ((ev Γ a).v ρ S).bind _ = Out.bind _ _
  congr 1
  funext x S1
  cases h : truth S1 x <;> simp only [truK, optB, h]
theorem v_and {es} : (ev Γ (.and es)).v ρ S = (evAnd Γ es).v ρ S := rfl
theorem t_and {es} : (ev Γ (.and es)).t ρ S = (evAnd Γ es).t ρ S := rfl
theorem v_or {es} : (ev Γ (.or es)).v ρ S = (evOr Γ es).v ρ S := rfl
theorem t_or {es} : (ev Γ (.or es)).t ρ S = (evOr Γ es).t ρ S := rfl
theorem v_and1 {e} : (evAnd Γ (.cons e .nil)).v ρ S = (ev Γ e).v ρ S := rfl
theorem t_and1 {e} : (evAnd Γ (.cons e .nil)).t ρ S = (ev Γ e).t ρ S := rfl
theorem v_or1 {e} : (evOr Γ (.cons e .nil)).v ρ S = (ev Γ e).v ρ S := rfl
theorem t_or1 {e} : (evOr Γ (.cons e .nil)).t ρ S = (ev Γ e).t ρ S := rfl
theorem v_and2 {e f es} : (evAnd Γ (.cons e (.cons f es))).v ρ S = ((ev Γ e).v ρ S).bd fun x S1 => optB (truth S1 x) fun t => if t = true then (evAnd Γ (.cons f es)).v ρ S1 else .ok x S1 := by
  show ((ev Γ e).v ρ S).bind _ = Out.bind _ _
  congr 1
  funext x S1
  cases h : truth S1 x with
  | none => simp only [optB]
  | some b => cases b <;> simp [optB]
theorem t_and2 {e f es} : (evAnd Γ (.cons e (.cons f es))).t ρ S = ((ev Γ e).t ρ S).bd fun t S1 => if t = true then (evAnd Γ (.cons f es)).t ρ S1 else .ok false S1 := rfl
theorem v_or2 {e f es} : (evOr Γ (.cons e (.cons f es))).v ρ S = ((ev Γ e).v ρ S).bd fun x S1 => optB (truth S1 x) fun t => if t = true then .ok x S1 else (evOr Γ (.cons f es)).v ρ S1 := by
  show ((ev Γ e).v ρ S).bind _ = Out.bind _ _
  congr 1
  funext x S1
  cases h : truth S1 x with
  | none => simp only [optB]
  | some b => cases b <;> simp [optB]
theorem t_or2 {e f es} : (evOr Γ (.cons e (.cons f es))).t ρ S = ((ev Γ e).t ρ S).bd fun t S1 => if t = true then .ok true S1 else (evOr Γ (.cons f es)).t ρ S1 := rfl
theorem t_cmp {o a b} : (ev Γ (.cmp o a b)).t ρ S = ((ev Γ a).v ρ S).bd fun x S1 => ((ev Γ b).v ρ S1).bd fun y S2 => optB (cmpOp o x y S2) fun b => .ok b S2 := by
  show ((ev Γ a).v ρ S).bind _ = Out.bind _ _
  congr 1
  funext x S1
  show ((ev Γ b).v ρ S1).bind _ = Out.bind _ _
  congr 1
  funext y S2
  cases h : cmpOp o x y S2 <;> simp only [optB, h]
theorem v_cmp {o a b} : (ev Γ (.cmp o a b)).v ρ S = ((ev Γ (.cmp o a b)).t ρ S).bd blK := rfl
theorem t_chain {o o' a b c} : (ev Γ (.chain o o' a b c)).t ρ S = ((ev Γ a).v ρ S).bd fun x S1 => ((ev Γ b).v ρ S1).bd fun y S2 => optB (cmpOp o x y S2) fun t => if t = true then ((ev Γ c).v ρ S2).bd fun z S3 => optB (cmpOp o' y z S3) fun b => .ok b S3 else .ok false S2 := by
  show ((ev Γ a).v ρ S).bind _ = Out.bind _ _
  congr 1
  funext x S1
  show ((ev Γ b).v ρ S1).bind _ = Out.bind _ _
  congr 1
  funext y S2
  cases h : cmpOp o x y S2 with
  | none => simp only [optB, h]
  | some t =>
    cases t
    · simp [optB, h]
    · simp only [optB, h, if_pos]
      congr 1
      funext z S3
      cases h : cmpOp o' y z S3 <;> simp only [h]
theorem v_chain {o o' a b c} : (ev Γ (.chain o o' a b c)).v ρ S = ((ev Γ (.chain o o' a b c)).t ρ S).bd blK := rfl
theorem v_ite {c a b} : (ev Γ (.ite c a b)).v ρ S = ((ev Γ c).t ρ S).bd fun t S1 => if t = true then (ev Γ a).v ρ S1 else (ev Γ b).v ρ S1 := rfl
theorem t_ite {c a b} : (ev Γ (.ite c a b)).t ρ S = ((ev Γ c).t ρ S).bd fun t S1 => if t = true then (ev Γ a).t ρ S1 else (ev Γ b).t ρ S1 := rfl
def callG (Γ : List (Str × Fn)) (i : Nat) (xs : List SV) (S : Store) : Out SV := optB (Γ[i]?.map Prod.snd) fun f => f xs S
theorem callG_eq {i xs S} : callG Γ i xs S = optB (Γ[i]?.map Prod.snd) fun f => f xs S := rfl
theorem v_call {i es} : (ev Γ (.call i es)).v ρ S = (evL Γ es ρ S).bd (callG Γ i) := by
  show (evL Γ es ρ S).bind _ = Out.bind _ _
  congr 1
  funext xs S1
  cases h : Γ[i]?.map Prod.snd <;> simp only [callG, optB, h]
theorem v_fnv {n} : (ev Γ (.fnv n)).v ρ S = .ok (.v (.fn n)) S := rfl
theorem v_callv {e es} : (ev Γ (.callv e es)).v ρ S = sCallv Γ (ev Γ e).v (evL Γ es) ρ S := rfl
theorem v_index {a x} : (ev Γ (.index a x)).v ρ S = ((ev Γ a).v ρ S).bd fun y S1 => if isLs S1 y = true then ((ev Γ x).v ρ S1).bd fun z S2 => if isLs S2 y = true then indexOp y z S2 else .bad else if isTu y = true then ((ev Γ x).v ρ S1).bd fun z S2 => indexOp y z S2 else .bad := rfl
theorem v_indexG {n xs x} : (ev Γ (.indexG n xs x)).v ρ S = ((ev Γ x).v ρ S).bd fun z S1 => indexOp (.v (.tup xs)) z S1 := rfl
theorem v_bi {b m es} : (ev Γ (.bi b m es)).v ρ S = (evL Γ es ρ S).bd fun xs S1 => biOp b m xs S1 := rfl
theorem v_isi {ts e} : (ev Γ (.isi ts e)).v ρ S = ((ev Γ e).v ρ S).bd fun x S1 => ofOpt (isTys S1 x ts) S1 := rfl
theorem v_idx {a i} : (ev Γ (.idx a i)).v ρ S = ((ev Γ a).v ρ S).bd fun x S1 => ((ev Γ i).v ρ S1).bd fun y S2 => idxOp x y S2 := rfl
def partO (c : CE) (Γ : List (Str × Fn)) (ρ : Slots) (S : Store) : Out SV := if isNonC c = true then .ok (.v .non) S else ((ev Γ c).v ρ S).bind intOnly
theorem partO_eq {c} : partO c Γ ρ S = if isNonC c = true then .ok (.v .non) S else ((ev Γ c).v ρ S).bd intOnly := rfl
theorem v_slc {m a lo hi} : (ev Γ (.slc m a lo hi)).v ρ S = ((ev Γ a).v ρ S).bd fun x S1 => (partO lo Γ ρ S1).bd fun l S2 => (partO hi Γ ρ S2).bd fun h S3 => slcOp m x l h S3 := by
  have e : ∀ c S, sPart (isNonC c) (ev Γ c).v ρ S = partO c Γ ρ S := fun c S => by
    unfold partO sPart
    cases isNonC c <;> rfl
  show ((ev Γ a).v ρ S).bind _ = Out.bind _ _
  congr 1
  funext x S1
  show (sPart (isNonC lo) (ev Γ lo).v ρ S1).bind _ = Out.bind _ _
  rw [e]
  congr 1
  funext l S2
  show (sPart (isNonC hi) (ev Γ hi).v ρ S2).bind _ = Out.bind _ _
  rw [e]
theorem v_comp {m own tg it c e} : (ev Γ (.comp m own tg it c e)).v ρ S = (evI Γ it ρ S).bd fun xs S1 => (compLT (cTurn (bindG tg) (ev Γ c).t (ev Γ e).v (wipeS ρ own)) xs S1).bd fun ys S2 => mkL m ys S2 := rfl
theorem v_comp2 {m own own2 tg it c1 tg2 it2 c e} : (ev Γ (.comp2 m own own2 tg it c1 tg2 it2 c e)).v ρ S = (evI Γ it ρ S).bd fun xs S1 => (compLLT (cTurn2 (bindG tg) (ev Γ c1).t own2 (bindG tg2) (evI Γ it2) (ev Γ c).t (ev Γ e).v (wipeS ρ own)) xs S1).bd fun ys S2 => mkL m ys S2 := rfl
theorem v_dic0 : (ev Γ .dic0).v ρ S = .ok (.l S.length) (S ++ [.dic []]) := rfl
theorem v_get {d k x} : (ev Γ (.get d k x)).v ρ S = ((ev Γ d).v ρ S).bd fun d S1 => if isDc S1 d = true then ((ev Γ k).v ρ S1).bd fun k S2 => ((ev Γ x).v ρ S2).bd fun x S3 => getOp d k x S3 else .bad := rfl
theorem t_of {v : VS} : (tru v) ρ S = (v ρ S).bd truK := by
  show (v ρ S).bind _ = Out.bind _ _
  congr 1
  funext x S1
  cases h : truth S1 x <;> simp only [truK, optB, h]
theorem t_var {i} : (ev Γ (.var i)).t ρ S = ((ev Γ (.var i)).v ρ S).bd truK := t_of
theorem t_k {x} : (ev Γ (.k x)).t ρ S = ((ev Γ (.k x)).v ρ S).bd truK := by
  have := t_of (v := sK x) (ρ := ρ) (S := S)
  exact this
theorem t_call {i es} : (ev Γ (.call i es)).t ρ S = ((ev Γ (.call i es)).v ρ S).bd truK := t_of
theorem t_callv {i es} : (ev Γ (.callv i es)).t ρ S = ((ev Γ (.callv i es)).v ρ S).bd truK := t_of
theorem t_idx {a i} : (ev Γ (.idx a i)).t ρ S = ((ev Γ (.idx a i)).v ρ S).bd truK := t_of
theorem t_isi {a i} : (ev Γ (.isi a i)).t ρ S = ((ev Γ (.isi a i)).v ρ S).bd truK := t_of
theorem t_bin {o m a b} : (ev Γ (.bin o m a b)).t ρ S = ((ev Γ (.bin o m a b)).v ρ S).bd truK := t_of
theorem t_bi {b m es} : (ev Γ (.bi b m es)).t ρ S = ((ev Γ (.bi b m es)).v ρ S).bd truK := t_of
theorem l_nil : evL Γ .nil ρ S = .ok [] S := rfl
theorem l_cons {e es} : evL Γ (.cons e es) ρ S = ((ev Γ e).v ρ S).bd fun x S1 => (evL Γ es ρ S1).bd fun xs S2 => .ok (x :: xs) S2 := rfl
theorem qi_seq {e} : evI Γ (.seq e) ρ S = ((ev Γ e).v ρ S).bd seqOp := rfl
theorem qi_rng1 {a} : evI Γ (.rng1 a) ρ S = ((ev Γ a).v ρ S).bd rng1Op := rfl
theorem qi_rng2 {a b} : evI Γ (.rng2 a b) ρ S = ((ev Γ a).v ρ S).bd fun x S1 => ((ev Γ b).v ρ S1).bd fun y S2 => rng2Op x y S2 := rfl
theorem i_rng3 {a b c} : evI Γ (.rng3 a b c) ρ S = ((ev Γ a).v ρ S).bd fun x S1 => ((ev Γ b).v ρ S1).bd fun y S2 => ((ev Γ c).v ρ S2).bd fun z S3 => rng3Op x y z S3 := rfl
theorem qi_zip {a b} : evI Γ (.zip2 a b) ρ S = ((ev Γ a).v ρ S).bd fun x S1 => ((ev Γ b).v ρ S1).bd fun y S2 => zipOp x y S2 := rfl
theorem qi_enum {a} : evI Γ (.enum a) ρ S = ((ev Γ a).v ρ S).bd enumOp := rfl
def okK (xs : SV) (S : Store) : Out (Option PV) := match xs with
  | .v y => .ok (some y) S
  | .l _ => .bad
  | .ls _ => .bad
theorem okK_v {y S} : okK (.v y) S = .ok (some y) S := rfl
theorem cTurn_eq {g c e x} : cTurn g c e ρ x S = optB (g x ρ) fun ρ1 => (c ρ1 S).bd fun t S1 => if t = true then (e ρ1 S1).bd okK else .ok none S1 := by
  show (match g x ρ with | some ρ1 => _ | none => _) = _
  cases g x ρ <;> rfl
theorem cTurn2_eq {g c own2 g2 it2 c2 e x} : cTurn2 g c own2 g2 it2 c2 e ρ x S = optB (g x ρ) fun ρ1 => (c ρ1 S).bd fun t S1 => if t = true then (it2 ρ1 S1).bd fun zs S2 => compLT (cTurn g2 c2 e (wipeS ρ1 own2)) zs S2 else .ok [] S1 := by
  show (match g x ρ with | some ρ1 => _ | none => _) = _
  cases g x ρ <;> rfl
theorem v_rev {m a} : (ev Γ (.rev m a)).v ρ S = ((ev Γ a).v ρ S).bd fun x S1 => bRev m x S1 := rfl
def compDT (f : PV → Store → Out (Option (PV × PV))) (xs : List PV) (S : Store) (_ : Tag f := ⟨⟩) : Out (List (PV × PV)) := compD f xs S
theorem v_dcomp {own tg it c k e} : (ev Γ (.dcomp own tg it c k e)).v ρ S = (evI Γ it ρ S).bd fun xs S1 => (compDT (cTurnD (bindG tg) (ev Γ c).t (ev Γ k).v (ev Γ e).v (wipeS ρ own)) xs S1).bd fun ys S2 => mkD ys S2 := rfl
theorem cTurnD_eq {g c k e x} : cTurnD g c k e ρ x S = optB (g x ρ) fun ρ1 => (c ρ1 S).bd fun t S1 => if t = true then (k ρ1 S1).bd fun y S2 => (e ρ1 S2).bd fun z S3 => pairO y z S3 else .ok none S1 := by
  show (match g x ρ with | some ρ1 => _ | none => _) = _
  cases g x ρ <;> rfl
theorem pairO_v {y z : PV} : pairO (.v y) (.v z) S = if keyOk y = true then .ok (some (y, z)) S else .bad := rfl
theorem v_dicd {es} : (ev Γ (.dicd es)).v ρ S = (evL Γ es ρ S).bd dispK := rfl
theorem dispK_eq {xs} : dispK xs S = optB (pairUp xs) fun ps => if ps.length ≤ 15 ∧ ps ≠ [] then mkD ps S else .bad := by
  unfold dispK optB
  cases pairUp xs <;> rfl
theorem pu_nil : pairUp [] = some [] := rfl
theorem pu_cons {k x : PV} {r : List SV} : pairUp (.v k :: .v x :: r) = if keyOk k = true then (pairUp r).map ((k, x) :: ·) else none := rfl
theorem keyOk_int {i : Int} : keyOk (.int i) = true := rfl
theorem keyOk_str {s : Str} : keyOk (.str s) = true := rfl
theorem mkD_ok {ps : List (PV × PV)} (h : ps.length ≤ 16777216) : mkD ps S = .ok (.l S.length) (S ++ [.dic (putAll [] ps)]) := if_pos h
def seqK (Γ : List (Str × Fn)) (r : CB) (f : FW.Flow) (S : Store) : Out FW.Flow := match f with
  | .next ρ1 => evB Γ r ρ1 S
  | .ret x => .ok (.ret x) S
  | .brk ρ1 => .ok (.brk ρ1) S
  | .cnt ρ1 => .ok (.cnt ρ1) S
theorem seqK_next {r ρ1} : seqK Γ r (.next ρ1) S = evB Γ r ρ1 S := rfl
theorem seqK_ret {r x} : seqK Γ r (.ret x) S = .ok (.ret x) S := rfl
theorem seqK_brk {r ρ1} : seqK Γ r (.brk ρ1) S = .ok (.brk ρ1) S := rfl
theorem seqK_cnt {r ρ1} : seqK Γ r (.cnt ρ1) S = .ok (.cnt ρ1) S := rfl
theorem b_nil : evB Γ .nil ρ S = .ok (.next ρ) S := rfl
theorem b_cons {s r} : evB Γ (.cons s r) ρ S = (evS Γ s ρ S).bd (seqK Γ r) := rfl
theorem qs_set {i e} : evS Γ (.set i e) ρ S = ((ev Γ e).v ρ S).bd fun x S1 => .ok (.next (ρ.set i (some x))) S1 := rfl
def svP : SV → Option PV
  | .v x => some x
  | .l _ => none
  | .ls _ => none
theorem svP_v {x} : svP (.v x) = some x := rfl
theorem qs_unpack {gs e} : evS Γ (.unpack gs e) ρ S = ((ev Γ e).v ρ S).bd fun x S1 => optB (svP x) fun y => optB (bindG (.tup gs) y ρ) fun ρ1 => .ok (.next ρ1) S1 := by
  show ((ev Γ e).v ρ S).bind _ = Out.bind _ _
  congr 1
  funext x S1
  cases x with
  | v x => simp only [svP, optB]; cases h : bindG (.tup gs) x ρ <;> simp only [h]
  | l n => rfl
  | ls n => rfl
theorem qs_par {is es} : evS Γ (.par is es) ρ S = (evL Γ es ρ S).bd fun xs S1 => optB (setAll is xs ρ) fun ρ1 => .ok (.next ρ1) S1 := by
  show (evL Γ es ρ S).bind _ = Out.bind _ _
  congr 1
  funext xs S1
  cases h : setAll is xs ρ <;> simp only [optB, h]
theorem qs_sub {i a e} : evS Γ (.sub i a e) ρ S = ((ev Γ e).v ρ S).bd fun x S1 => ((ev Γ a).v ρ S1).bd fun y S2 => optB (getS ρ i) fun o => optB (putOp o y x S2) fun S3 => .ok (.next ρ) S3 := by
  show ((ev Γ e).v ρ S).bind _ = Out.bind _ _
  congr 1
  funext x S1
  show ((ev Γ a).v ρ S1).bind _ = Out.bind _ _
  congr 1
  funext y S2
  cases h : getS ρ i with
  | none => simp only [optB, h]
  | some o => simp only [optB, h]; cases h2 : putOp o y x S2 <;> simp only [h2]
theorem s_aug {i o e} : evS Γ (.aug i o e) ρ S = optB (getS ρ i) fun x => ((ev Γ e).v ρ S).bd fun y S1 => optB (augOp o x y) fun z => .ok (.next (ρ.set i (some z))) S1 := by
  show (match getS ρ i with | some x => _ | none => _) = _
  cases getS ρ i with
  | none => rfl
  | some x =>
    show ((ev Γ e).v ρ S).bind _ = ((ev Γ e).v ρ S).bind _
    congr 1
    funext y S1
    cases h : augOp o x y <;> simp only [optB, h]
def lstAt (S : Store) (n : Nat) : Option (List PV) := match S[n]? with
  | some (.lst xs) => some xs
  | _ => none
theorem lstAt_eq {n xs} (h : S[n]? = some (.lst xs)) : lstAt S n = some xs := by unfold lstAt; rw [h]
def svL : SV → Option Nat
  | .l n => some n
  | .v _ => none
  | .ls _ => none
theorem svL_l {n} : svL (.l n) = some n := rfl
def appIf {α : Type} (n : Nat) (x : Out α) : Out α := if n < 16777216 then x else .bad
theorem appIf_ok {α : Type} {n : Nat} {x : Out α} (h : n < 16777216) : appIf n x = x := if_pos h
theorem qs_app {i e} : evS Γ (.app i e) ρ S = optB ((getS ρ i).bind svL) fun n => if isLst S n = true then ((ev Γ e).v ρ S).bd fun x S1 => optB (svP x) fun y => optB (lstAt S1 n) fun xs => appIf xs.length (.ok (.next ρ) (S1.set n (.lst (xs ++ [y])))) else .bad := by
  show (match getS ρ i with | some (.l n) => _ | _ => _) = _
  cases getS ρ i with
  | none => rfl
  | some x =>
    cases x with
    | v x => rfl
    | ls n => rfl
    | l n =>
      simp only [Option.bind_some, svL, optB]
      split
      · congr 1
        funext x S1
        cases x with
        | l m => rfl
        | ls m => rfl
        | v y =>
          simp only [svP, lstAt]
          cases h : S1[n]? with
          | none => simp only
          | some o => cases o <;> rfl
      · rfl
theorem qs_pop {i} : evS Γ (.pop i) ρ S = optB ((getS ρ i).bind svL) fun n => optB (lstAt S n) fun xs => if xs.isEmpty = true then .bad else .ok (.next ρ) (S.set n (.lst xs.dropLast)) := by
  show (match getS ρ i with | some (.l n) => _ | _ => _) = _
  cases getS ρ i with
  | none => rfl
  | some x =>
    cases x with
    | v x => rfl
    | ls n => rfl
    | l n =>
      simp only [Option.bind_some, svL, optB, lstAt]
      cases h : S[n]? with
      | none => simp only
      | some o => cases o <;> rfl
theorem qs_augsub {i a o e} : evS Γ (.augsub i a o e) ρ S = optB (getS ρ i) fun ob => ((ev Γ a).v ρ S).bd fun y S1 => optB (oldOf ob y S1) fun old => ((ev Γ e).v ρ S1).bd fun z S2 => optB (augsubOp o ob y z old S2) fun S3 => .ok (.next ρ) S3 := by
  show (match getS ρ i with | some ob => _ | none => _) = _
  cases getS ρ i with
  | none => rfl
  | some ob =>
    show ((ev Γ a).v ρ S).bind _ = ((ev Γ a).v ρ S).bind _
    congr 1
    funext y S1
    cases h : oldOf ob y S1 with
    | none => simp only [optB, h]
    | some old =>
      simp only [optB, h]
      show ((ev Γ e).v ρ S1).bind _ = ((ev Γ e).v ρ S1).bind _
      congr 1
      funext z S2
      cases h2 : augsubOp o ob y z old S2 <;> simp only [optB, h2]
theorem qs_parG {is es} : evS Γ (.parG is es) ρ S = (evL Γ es ρ S).bd fun xs S1 => optB (setAll is xs ρ) fun ρ1 => .ok (.next ρ1) S1 := qs_par (is := is)
theorem qs_expr {e} : evS Γ (.expr e) ρ S = ((ev Γ e).v ρ S).bd fun _ S1 => .ok (.next ρ) S1 := rfl
theorem s_ifs {c a b} : evS Γ (.ifs c a b) ρ S = ((ev Γ c).t ρ S).bd fun t S1 => if t = true then evB Γ a ρ S1 else evB Γ b ρ S1 := rfl
theorem qs_ret {e} : evS Γ (.ret e) ρ S = ((ev Γ e).v ρ S).bd fun x S1 => .ok (.ret x) S1 := rfl
theorem qs_retN : evS Γ .retN ρ S = .ok (.ret (.v .non)) S := rfl
theorem qs_brk : evS Γ .brk ρ S = .ok (.brk ρ) S := rfl
theorem qs_cnt : evS Γ .cnt ρ S = .ok (.cnt ρ) S := rfl
def turnF (Γ : List (Str × Fn)) (tg : CG) (b : CB) : PV → FS := sTurn (bindG tg) (evB Γ b)
theorem turnF_eq {tg b x} : turnF Γ tg b x ρ S = optB (bindG tg x ρ) fun ρ1 => evB Γ b ρ1 S := by
  show (match bindG tg x ρ with | some ρ1 => _ | none => _) = _
  cases bindG tg x ρ <;> rfl
theorem s_forr {tg it b w} : evS Γ (.forr tg it b w) ρ S = (evI Γ it ρ S).bd fun xs S1 => forL (turnF Γ tg b) w xs (wipeS ρ w) S1 := rfl
def loopF (Γ : List (Str × Fn)) (c : CE) (b : CB) (n : Nat) (ρ : Slots) (S : Store) : Out FW.Flow := whileL (ev Γ c).t (evB Γ b) [] n ρ S
theorem s_whil {c b} : evS Γ (.whil c b []) ρ S = loopF Γ c b fuel ρ S := rfl
def frzD (S : Store) (ρ : Slots) (i n : Nat) : Out FW.Flow := match S[n]? with
  | some (.dic kvs) => if allInt (kvs.map Prod.fst) = true then .ok (.next (ρ.set i (some (.v (.dic (kvs.map Prod.fst) (kvs.map Prod.snd)))))) (S.set n .gone) else .bad
  | _ => .bad
def frz (S : Store) (ρ : Slots) (i : Nat) (x : SV) : Out FW.Flow := match x with
  | .l n => match lstAt S n with
    | some xs => .ok (.next (ρ.set i (some (.v (.lst xs))))) (S.set n .gone)
    | none => frzD S ρ i n
  | .v _ => .ok (.next ρ) S
  | .ls ns => match shutAll ns S with
    | some p => .ok (.next (ρ.set i (some (.v (.lst p.1))))) p.2
    | none => .bad
theorem frz_l {i n} : frz S ρ i (.l n) = match lstAt S n with
    | some xs => .ok (.next (ρ.set i (some (.v (.lst xs))))) (S.set n .gone)
    | none => frzD S ρ i n := rfl
theorem frz_v {i x} : frz S ρ i (.v x) = .ok (.next ρ) S := rfl
def frzO (S : Store) (ρ : Slots) (i : Nat) (x : Option SV) : Out FW.Flow := match x with
  | some x => frz S ρ i x
  | none => .ok (.next ρ) S
theorem frzO_some {i x} : frzO S ρ i (some x) = frz S ρ i x := rfl
theorem frzO_none {i} : frzO S ρ i none = .ok (.next ρ) S := rfl
theorem qs_freeze {i} : evS Γ (.freeze i) ρ S = frzO S ρ i (getS ρ i) := by
  show (match getS ρ i with | some (.l n) => _ | some (.ls _) => _ | some (.v _) => _ | none => _) = _
  cases getS ρ i with
  | none => rfl
  | some x =>
    cases x with
    | v x => rfl
    | l n =>
      simp only [frzO, frz, frzD, lstAt]
      cases h : S[n]? with
      | none => simp only
      | some o => cases o <;> simp only
    | ls n => rfl
def endK (S : Store) (r : Out FW.Flow) : Out SV := match r with
  | .ok (.ret x) S1 => leave S.length x S1
  | .ok (.next _) S1 => leave S.length (.v .non) S1
  | .ok _ _ => .bad
  | .exc c as S1 => .exc c as (S1.take S.length)
  | .bad => .bad
theorem endK_ret {x S1} : endK S (.ok (.ret x) S1) = leave S.length x S1 := rfl
theorem endK_next {ρ1 S1} : endK S (.ok (.next ρ1) S1) = leave S.length (.v .non) S1 := rfl
theorem endK_ite {c : Prop} [Decidable c] {x y} : endK S (if c then x else y) = if c then endK S x else endK S y := by split <;> rfl
def startB (Γ : List (Str × Fn)) (b : CB) (ρ : Slots) (S : Store) (_ : Tag b := ⟨⟩) : Out FW.Flow := evB Γ b ρ S
theorem startB_eq {b t} : startB Γ b ρ S t = evB Γ b ρ S := rfl
theorem fn_eq {np ns b xs} (h : xs.length = np) : fnSem Γ ⟨np, ns, b⟩ xs S = endK S (startB Γ b (xs.map some ++ List.replicate (ns - np) none) S) := by
  unfold fnSem startB
  rw [if_pos h]
  generalize evB Γ _ _ _ = r
  rcases r with ⟨f, S1⟩ | _ | _
  · cases f <;> rfl
  · rfl
  · rfl
theorem leave_v {n x} : leave n (.v x) S = .ok (.v x) (S.take n) := rfl
def endM (S : Store) (r : Out FW.Flow) : Out SV := match r with
  | .ok (.ret x) S1 => leaveM S.length x S1
  | .ok (.next _) S1 => leaveM S.length (.v .non) S1
  | .ok _ _ => .bad
  | .exc c as S1 => .exc c as (S1.take S.length)
  | .bad => .bad
theorem endM_ret {x S1} : endM S (.ok (.ret x) S1) = leaveM S.length x S1 := rfl
theorem endM_ite {c : Prop} [Decidable c] {x y} : endM S (if c then x else y) = if c then endM S x else endM S y := by split <;> rfl
theorem fnM_eq {np ns b xs} (h : xs.length = np) : fnSemM Γ ⟨np, ns, b⟩ xs S = endM S (startB Γ b (xs.map some ++ List.replicate (ns - np) none) S) := by
  unfold fnSemM startB
  rw [if_pos h]
  generalize evB Γ _ _ _ = r
  rcases r with ⟨f, S1⟩ | _ | _
  · cases f <;> rfl
  · rfl
  · rfl
theorem leaveM_v {n x} : leaveM n (.v x) S = .ok (.v x) (S.take n) := rfl
theorem leaveM_l {n k xs} (h : ¬ k < n) (h2 : S[k]? = some (.lst xs)) : leaveM n (.l k) S = .ok (.l n) (S.take n ++ [.lst xs]) := by
  unfold leaveM
  simp only [if_neg h, h2]
end
theorem bg_name {i x} {ρ : Slots} : bindG (.name i) x ρ = some (ρ.set i (some (.v x))) := by simp only [bindG]
theorem bg_tup {gs xs} {ρ : Slots} : bindG (.tup gs) (.tup xs) ρ = bindGs gs xs ρ := by simp only [bindG]
theorem bg_lst {gs xs} {ρ : Slots} : bindG (.tup gs) (.lst xs) ρ = bindGs gs xs ρ := by simp only [bindG]
theorem bgs_nil {ρ : Slots} : bindGs .nil [] ρ = some ρ := by simp only [bindGs]
theorem bgs_cons {g gs x xs} {ρ : Slots} : bindGs (.cons g gs) (x :: xs) ρ = (bindG g x ρ).bind fun ρ1 => bindGs gs xs ρ1 := by
  simp only [bindGs]
  cases bindG g x ρ <;> rfl
theorem wp_nil {ρ : Slots} : wipeS ρ [] = ρ := by simp only [wipeS]
theorem wp_cons {ρ : Slots} {i is} : wipeS ρ (i :: is) = (wipeS ρ is).set i none := by simp only [wipeS]
theorem pr_nil : pures? [] = some [] := by simp only [pures?]
theorem pr_cons {x r} : pures? (.v x :: r) = (pures? r).map (x :: ·) := by simp only [pures?]
theorem sa_nil {ρ : Slots} : setAll [] [] ρ = some ρ := by simp only [setAll]
theorem sa_cons {i is x xs} {ρ : Slots} : setAll (i :: is) (x :: xs) ρ = setAll is xs (ρ.set i (some x)) := by simp only [setAll]
theorem gs_some {ρ : Slots} {x} : getS (some x :: ρ) 0 = some x := by simp [getS]
theorem gs_none {ρ : Slots} : getS (none :: ρ) 0 = none := by simp [getS]
theorem gs_succ {ρ : Slots} {a i} : getS (a :: ρ) (i + 1) = getS ρ i := by simp [getS]
section
variable {S : Store} {m : Bool} {xs ys : List PV} {i j : Int} {b : Bool} {n : Nat}
theorem sq_tup : seqOp (.v (.tup xs)) S = .ok xs S := by simp [seqOp]
theorem sq_lst : seqOp (.v (.lst xs)) S = .ok xs S := by simp [seqOp]
theorem zp_tup : zipOp (.v (.tup xs)) (.v (.tup ys)) S = .ok (zipL xs ys) S := by simp [zipOp]
theorem zp_lst : zipOp (.v (.lst xs)) (.v (.lst ys)) S = .ok (zipL xs ys) S := by simp [zipOp]
theorem en_lst : enumOp (.v (.lst xs)) S = .ok (enumL 0 xs) S := by simp [enumOp]
def atO (xs : List PV) (j : Int) : Option PV := (ix? xs.length j).bind fun n => xs[n]?
theorem idx_seq {x : SV} {t : Bool} (h : seqOf S x = some (t, xs)) : idxOp x (.v (.int j)) S = optB (atO xs j) fun z => .ok (.v z) S := by
  unfold idxOp atO
  simp only [h]
  cases ix? xs.length j with
  | none => rfl
  | some n => simp only [Option.bind_some]; cases xs[n]? <;> rfl
theorem idx_tup : idxOp (.v (.tup xs)) (.v (.int j)) S = optB (atO xs j) fun z => .ok (.v z) S := idx_seq rfl
theorem idx_lst : idxOp (.v (.lst xs)) (.v (.int j)) S = optB (atO xs j) fun z => .ok (.v z) S := idx_seq rfl
theorem idx_l (h : S[n]? = some (.lst xs)) : idxOp (.l n) (.v (.int j)) S = optB (atO xs j) fun z => .ok (.v z) S := idx_seq (seqOf_l h)
theorem at_map {α : Type} [Inhabited α] {l : List α} {x : α → PV} {t : Nat} (h : t < l.length) : atO (l.map x) (t : Int) = some (x (ith l t)) := by
  unfold atO
  rw [List.length_map, ix_n h, Option.bind_some, List.getElem?_map, get_ith h]
  rfl
theorem at_map1 {α : Type} [Inhabited α] {l : List α} {x : α → PV} {t : Nat} (h : t + 1 < l.length) : atO (l.map x) ((t : Int) + 1) = some (x (ith l (t + 1))) := at_map h
theorem at_0 {a : PV} : atO (a :: xs) 0 = some a := by
  unfold atO
  rw [ix_i0 (by simp)]
  rfl
theorem at_1 {a a1 : PV} : atO (a :: a1 :: xs) 1 = some a1 := by
  unfold atO
  rw [ix_i1 (by simp)]
  rfl
theorem at_2 {a a1 a2 : PV} : atO (a :: a1 :: a2 :: xs) 2 = some a2 := by
  unfold atO
  rw [ix_i2 (by simp)]
  rfl
theorem at_map0 {α : Type} [Inhabited α] {l : List α} {x : α → PV} (h : 0 < l.length) : atO (l.map x) 0 = some (x (ith l 0)) := at_map (t := 0) h
theorem at_mapl {α : Type} [Inhabited α] {l : List α} {x : α → PV} (h : 0 < l.length) : atO (l.map x) (-1) = some (x (ith l (l.length - 1))) := by
  unfold atO
  rw [List.length_map, ix_last h, Option.bind_some, List.getElem?_map, get_ith (by omega)]
  rfl
theorem cm_is {x : SV} : cmpOp .is x (.v .non) S = some (isNonS x) := by simp [cmpOp]
theorem cm_isnot {x : SV} : cmpOp .isnot x (.v .non) S = some (!isNonS x) := by simp [cmpOp]
theorem cm_isi {a : Int} {b : Bool} : cmpOp .is (.v (.int a)) (.v (.bl b)) S = some false := by simp [cmpOp]
theorem cm_isb {a b : Bool} : cmpOp .is (.v (.bl a)) (.v (.bl b)) S = some (a == b) := by simp [cmpOp]
theorem ns_non : isNonS (.v .non) = true := by simp
theorem ns_bl : isNonS (.v (.bl b)) = false := by simp
theorem ns_int : isNonS (.v (.int i)) = false := by simp
theorem ns_tup : isNonS (.v (.tup xs)) = false := by simp
theorem ns_lst : isNonS (.v (.lst xs)) = false := by simp
theorem ns_l : isNonS (.l n) = false := by simp
theorem cm_eqv {x y : PV} : cmpOp .eq (.v x) (.v y) S = eqP x y := by simp [cmpOp]
theorem cm_nev {x y : PV} : cmpOp .ne (.v x) (.v y) S = (eqP x y).map (!·) := by simp [cmpOp]
theorem cm_eqlv {y : PV} (h : S[n]? = some (.lst xs)) : cmpOp .eq (.l n) (.v y) S = eqP (.lst xs) y := by simp [cmpOp, pure_l h]
theorem cm_nelv {y : PV} (h : S[n]? = some (.lst xs)) : cmpOp .ne (.l n) (.v y) S = (eqP (.lst xs) y).map (!·) := by simp [cmpOp, pure_l h]
theorem cm_lt : cmpOp .lt (.v (.int i)) (.v (.int j)) S = some (decide (i < j)) := by simp [cmpOp]
theorem cm_le : cmpOp .le (.v (.int i)) (.v (.int j)) S = some (decide (i ≤ j)) := by simp [cmpOp]
theorem cm_gt : cmpOp .gt (.v (.int i)) (.v (.int j)) S = some (decide (j < i)) := by simp [cmpOp]
theorem cm_ge : cmpOp .ge (.v (.int i)) (.v (.int j)) S = some (decide (j ≤ i)) := by simp [cmpOp]
theorem cm_in_t {x : PV} : cmpOp .isin (.v x) (.v (.tup ys)) S = anyEq x ys := by simp [cmpOp, memOp]
theorem cm_in_l {x : PV} : cmpOp .isin (.v x) (.v (.lst ys)) S = anyEq x ys := by simp [cmpOp, memOp]
theorem cm_nin_t {x : PV} : cmpOp .notin (.v x) (.v (.tup ys)) S = (anyEq x ys).map (!·) := by simp [cmpOp, memOp]
theorem cm_nin_l {x : PV} : cmpOp .notin (.v x) (.v (.lst ys)) S = (anyEq x ys).map (!·) := by simp [cmpOp, memOp]
theorem cm_in_p {x : PV} (h : S[n]? = some (.lst ys)) : cmpOp .isin (.v x) (.l n) S = anyEq x ys := by simp [cmpOp, memOp, seqOf_l h]
theorem cm_nin_p {x : PV} (h : S[n]? = some (.lst ys)) : cmpOp .notin (.v x) (.l n) S = (anyEq x ys).map (!·) := by simp [cmpOp, memOp, seqOf_l h]
theorem bo_ii {o : BOp} : binOp o m (.v (.int i)) (.v (.int j)) S = optB (intOp o i j) fun k => .ok (.v (.int k)) S := by
  cases h : intOp o i j <;> simp only [binOp, h] <;> rfl
theorem bo_ib : binOp .add m (.v (.int i)) (.v (.bl b)) S = .ok (.v (.int (i + (if b then 1 else 0)))) S := by simp [binOp]
theorem bo_tt : binOp .add m (.v (.tup xs)) (.v (.tup ys)) S = mkT (xs ++ ys) S := by simp [binOp, -mkT]
theorem bo_ll : binOp .add m (.v (.lst xs)) (.v (.lst ys)) S = mkL m (xs ++ ys) S := by simp [binOp, -mkL]
theorem bo_pl (h : S[n]? = some (.lst xs)) : binOp .add m (.l n) (.v (.lst ys)) S = mkL m (xs ++ ys) S := by simp [binOp, -mkL, seqOf_l h]
theorem bo_tm : binOp .mul m (.v (.tup xs)) (.v (.int j)) S = if -1000 ≤ j ∧ j ≤ 1000 ∧ xs.length ≤ 1000 then mkT (rep j.toNat xs) S else .bad := by simp [binOp, -mkT]
theorem bo_lm : binOp .mul m (.v (.lst xs)) (.v (.int j)) S = if xs.length * j.toNat ≤ 16777216 ∧ -1000000 ≤ j ∧ j ≤ 1000000 then mkL m (rep j.toNat xs) S else .bad := by
  simp only [binOp, seqOf_lst]
  rfl
theorem ng_i : negOp (.v (.int i)) S = .ok (.v (.int (-i))) S := by simp [negOp]
theorem it_of {x : SV} {ts} : isTys S x ts = (tgOf S x).map fun g => ts.any (tgIs g) := by
  unfold isTys
  cases tgOf S x <;> rfl
theorem oo_some : ofOpt (some b) S = .ok (.v (.bl b)) S := rfl
theorem qbi_len {x} : biOp .len m [x] S = bLen x S := by simp [biOp, -bLen]
theorem qbi_int {x} : biOp .int m [x] S = bInt x S := by simp [biOp, -bInt]
theorem qbi_abs {x} : biOp .abs m [x] S = bAbs x S := by simp [biOp, -bAbs]
theorem qbi_sum {x} : biOp .sum m [x] S = bSum x S := by simp [biOp, -bSum]
theorem qbi_tuple {x} : biOp .tuple m [x] S = bTuple x S := by simp [biOp, -bTuple]
theorem qbi_list {x} : biOp .list m [x] S = bList m x S := by simp [biOp, -bList]
theorem qbi_sorted {x} : biOp .sorted m [x] S = bSorted m x S := by simp [biOp]
theorem bi_sset {x} : biOp .sortedSet m [x] S = bSortedSet m x S := by simp [biOp]
theorem bi_skey {x} : biOp .sortedKeys m [x] S = bSortedKeys m x S := by simp [biOp]
theorem bi_lset {x} : biOp .lenSet m [x] S = bLenSet x S := by simp [biOp]
theorem qbi_min1 {x} : biOp .min1 m [x] S = bMin1 x S := by simp [biOp]
theorem qbi_max1 {x} : biOp .max1 m [x] S = bMax1 x S := by simp [biOp]
theorem qbi_min2 {x y} : biOp .min2 m [x, y] S = bMin2 x y S := by simp [biOp, -bMin2]
theorem qbi_max2 {x y} : biOp .max2 m [x, y] S = bMax2 x y S := by simp [biOp, -bMax2]
theorem bi_lr1 {x} : biOp .listRange1 m [x] S = bRange (mkL m) (.v (.int 0)) x S := by simp [biOp, -mkL]
theorem bi_tr1 {x} : biOp .tupleRange1 m [x] S = bRange mkT (.v (.int 0)) x S := by simp [biOp, -mkT]
theorem ln_t : bLen (.v (.tup xs)) S = .ok (.v (.int xs.length)) S := by simp [bLen]
theorem ln_l : bLen (.v (.lst xs)) S = .ok (.v (.int xs.length)) S := by simp [bLen]
theorem ln_p (h : S[n]? = some (.lst xs)) : bLen (.l n) S = .ok (.v (.int xs.length)) S := by simp [bLen, seqOf_l h]
theorem in_i : bInt (.v (.int i)) S = .ok (.v (.int i)) S := by simp [bInt]
theorem in_b : bInt (.v (.bl b)) S = .ok (.v (.int (if b = true then 1 else 0))) S := by simp [bInt]
theorem ab_i : bAbs (.v (.int i)) S = .ok (.v (.int (if i < 0 then -i else i))) S := by simp [bAbs]
theorem sm_t : bSum (.v (.tup xs)) S = optB (ints? xs) fun is => .ok (.v (.int (sumI is))) S := by
  simp only [bSum, onSeq, seqOf_tup]
  cases ints? xs <;> rfl
theorem sm_l : bSum (.v (.lst xs)) S = optB (ints? xs) fun is => .ok (.v (.int (sumI is))) S := by
  simp only [bSum, onSeq, seqOf_lst]
  cases ints? xs <;> rfl
theorem tp_t : bTuple (.v (.tup xs)) S = mkT xs S := by simp [bTuple, onSeq, -mkT]
theorem tp_l : bTuple (.v (.lst xs)) S = mkT xs S := by simp [bTuple, onSeq, -mkT]
theorem tp_p (h : S[n]? = some (.lst xs)) : bTuple (.l n) S = mkT xs S := by simp [bTuple, onSeq, -mkT, seqOf_l h]
theorem ls_t : bList m (.v (.tup xs)) S = mkL m xs S := by simp [bList, onSeq, -mkL]
theorem ls_l : bList m (.v (.lst xs)) S = mkL m xs S := by simp [bList, onSeq, -mkL]
theorem ls_p (h : S[n]? = some (.lst xs)) : bList m (.l n) S = mkL m xs S := by simp [bList, onSeq, -mkL, seqOf_l h]
theorem so_l : bSorted m (.v (.lst xs)) S = if sortOk xs = true then mkL m (isortK xs) S else .bad := by simp only [bSorted, seqOf_lst]
theorem ss_t : bSortedSet m (.v (.tup xs)) S = if setOk xs = true then mkL m (isortK (dedup xs)) S else .bad := by simp only [bSortedSet, seqOf_tup]
theorem lr_n {a : Nat} (h : a ≤ 4000000) : bRange (mkL m) (.v (.int 0)) (.v (.int (a : Int))) S = mkL m ((List.range a).map nn) S := by
  obtain ⟨h1, h2⟩ := rngOk_nat h
  have e : rng 0 (a : Int) = (List.range a).map nn := by
    have := rng_nats 0 a
    rw [show ((0 : Nat) : Int) = 0 from rfl] at this
    rw [this]
    simp only [nats, Nat.sub_zero, List.range_eq_range']
    rfl
  simp only [bRange, h1, h2, e]
  rfl
theorem sl_t {l h : PV} : slcOp m (.v (.tup xs)) (.v l) (.v h) S = optB (part? l) fun lo => optB (part? h) fun hi => mkT (cut xs lo hi) S := by
  cases h1 : part? l <;> cases h2 : part? h <;> simp only [slcOp, h1, h2, optB, seqOf_tup] <;> rfl
theorem sl_l {l h : PV} : slcOp m (.v (.lst xs)) (.v l) (.v h) S = optB (part? l) fun lo => optB (part? h) fun hi => mkL m (cut xs lo hi) S := by
  cases h1 : part? l <;> cases h2 : part? h <;> simp only [slcOp, h1, h2, optB, seqOf_lst] <;> rfl
theorem pt_n : part? .non = some none := by simp
theorem pt_i : part? (.int i) = some (some i) := by simp
theorem io_i : intOnly (.v (.int i)) S = .ok (.v (.int i)) S := by simp
theorem au_add : augOp .add (.v (.int i)) (.v (.int j)) = some (.v (.int (i + j))) := by simp
theorem au_sub : augOp .sub (.v (.int i)) (.v (.int j)) = some (.v (.int (i - j))) := by simp
theorem pu_lst {x : PV} {k : Nat} (h : S[n]? = some (.lst xs)) (h2 : ix? xs.length j = some k) : putOp (.l n) (.v (.int j)) (.v x) S = some (S.set n (.lst (xs.set k x))) := by simp only [putOp, h, h2]
theorem nnc_non : isNonC (.k .non) = true := by simp
theorem nnc_int : isNonC (.k (.int i)) = false := by simp
theorem nnc_var : isNonC (.var n) = false := by simp
theorem nnc_bin {o m a b} : isNonC (.bin o m a b) = false := by simp
theorem nnc_bi {o m a} : isNonC (.bi o m a) = false := by simp
theorem nnc_neg {a} : isNonC (.neg a) = false := by simp
theorem nnc_idx {a b} : isNonC (.idx a b) = false := by simp
theorem leave_l {k : Nat} (h : ¬ k < n) (h2 : S[k]? = some (.lst xs)) : leave n (.l k) S = .ok (.v (.lst xs)) (S.take n) := by
  unfold leave
  simp only [if_neg h, h2]
theorem take_app {o : Ob} : (S ++ [o]).take S.length = S := by simp
theorem take_self : S.take S.length = S := List.take_length
end
theorem cut_ton {xs : List PV} {t : Nat} (h : t ≤ xs.length) : cut xs none (some (t : Int)) = xs.take t := cut_to h
theorem cut_fromn {xs : List PV} {t : Nat} (h : t + 1 ≤ xs.length) : cut xs (some ((t : Int) + 1)) none = xs.drop (t + 1) := by
  have e : sx xs.length 0 (some ((t : Int) + 1)) = t + 1 := by
    show (if (t : Int) + 1 < 0 then ((t : Int) + 1 + (xs.length : Int)).toNat else min ((t : Int) + 1).toNat xs.length) = t + 1
    rw [if_neg (by omega)]
    omega
  unfold cut
  rw [e, show sx xs.length xs.length none = xs.length from rfl]
  rw [List.take_of_length_le (by rw [List.length_drop]; omega)]
section
variable {S : Store} {xs : List PV} {o o' : Ob}
theorem nw_at : (S ++ [o])[S.length]? = some o := by simp
theorem nw_lst : lstAt (S ++ [.lst xs]) S.length = some xs := lstAt_eq nw_at
theorem nw_isl : isLst (S ++ [.lst xs]) S.length = true := isLst_l nw_at
theorem nw_set : (S ++ [o]).set S.length o' = S ++ [o'] := by simp
theorem nw_seq : seqOf (S ++ [.lst xs]) (.l S.length) = some (true, xs) := seqOf_l nw_at
theorem nw_tup : bTuple (.l S.length) (S ++ [.lst xs]) = mkT xs (S ++ [.lst xs]) := tp_p nw_at
theorem nw_len : bLen (.l S.length) (S ++ [.lst xs]) = .ok (.v (.int xs.length)) (S ++ [.lst xs]) := ln_p nw_at
theorem nw_idx {j : Int} : idxOp (.l S.length) (.v (.int j)) (S ++ [.lst xs]) = optB (atO xs j) fun z => .ok (.v z) (S ++ [.lst xs]) := idx_l nw_at
theorem nw_add {m : Bool} {ys : List PV} : binOp .add m (.l S.length) (.v (.lst ys)) (S ++ [.lst xs]) = mkL m (xs ++ ys) (S ++ [.lst xs]) := bo_pl nw_at
theorem nw_eq {y : PV} : cmpOp .eq (.l S.length) (.v y) (S ++ [.lst xs]) = eqP (.lst xs) y := cm_eqlv nw_at
theorem nw_ne {y : PV} : cmpOp .ne (.l S.length) (.v y) (S ++ [.lst xs]) = (eqP (.lst xs) y).map (!·) := cm_nelv nw_at
theorem nw_leave : leave S.length (.l S.length) (S ++ [.lst xs]) = .ok (.v (.lst xs)) S := by
  rw [leave_l (Nat.lt_irrefl _) nw_at]
  simp
theorem nw_leaveM : leaveM S.length (.l S.length) (S ++ [.lst xs]) = .ok (.l S.length) (S ++ [.lst xs]) := by
  rw [leaveM_l (Nat.lt_irrefl _) nw_at]
  simp
theorem nw_rev {m : Bool} : bRev m (.l S.length) (S ++ [.lst xs]) = mkL m xs.reverse (S ++ [.lst xs]) := by
  unfold bRev
  rw [nw_seq]
theorem rev_l {m : Bool} : bRev m (.v (.lst xs)) S = mkL m xs.reverse S := rfl
theorem old_at {n : Nat} {j : Int} (h : S[n]? = some (.lst xs)) : oldOf (.l n) (.v (.int j)) S = atO xs j := by
  unfold oldOf
  rw [idx_l h]
  cases atO xs j <;> rfl
theorem nw_old {j : Int} : oldOf (.l S.length) (.v (.int j)) (S ++ [.lst xs]) = atO xs j := old_at nw_at
theorem asub_eq {o : BOp} {ob y z : SV} {old : PV} {S : Store} : augsubOp o ob y z old S = (augOp o (.v old) z).bind fun w => putOp ob y w S := by
  unfold augsubOp
  cases augOp o (.v old) z <;> rfl
theorem nw_put {t : Nat} {x : PV} (h : t < xs.length) : putOp (.l S.length) (.v (.int (t : Int))) (.v x) (S ++ [.lst xs]) = some (S ++ [.lst (xs.set t x)]) := by
  rw [pu_lst nw_at (ix_n h), nw_set]
theorem snoc_map {α : Type} {x : α → PV} {l : List α} {a : α} : l.map x ++ [x a] = (l ++ [a]).map x := by simp
end
section
variable {S : Store} {xs : List PV} {o o' x : Ob}
theorem w2a_at : (S ++ [o, o'])[S.length]? = some o := by simp
theorem w2b_at : (S ++ [o, o'])[S.length + 1]? = some o' := by simp
theorem w2a_lst : lstAt (S ++ [.lst xs, o']) S.length = some xs := lstAt_eq w2a_at
theorem w2b_lst : lstAt (S ++ [o, .lst xs]) (S.length + 1) = some xs := lstAt_eq w2b_at
theorem w2a_isl : isLst (S ++ [.lst xs, o']) S.length = true := isLst_l w2a_at
theorem w2b_isl : isLst (S ++ [o, .lst xs]) (S.length + 1) = true := isLst_l w2b_at
theorem w2a_set : (S ++ [o, o']).set S.length x = S ++ [x, o'] := by simp
theorem w2b_set : (S ++ [o, o']).set (S.length + 1) x = S ++ [o, x] := by
  rw [List.set_append, if_neg (by omega), Nat.add_sub_cancel_left]
  rfl
theorem w2a_tup : bTuple (.l S.length) (S ++ [.lst xs, o']) = mkT xs (S ++ [.lst xs, o']) := tp_p w2a_at
theorem w2b_tup : bTuple (.l (S.length + 1)) (S ++ [o, .lst xs]) = mkT xs (S ++ [o, .lst xs]) := tp_p w2b_at
theorem w2a_len : bLen (.l S.length) (S ++ [.lst xs, o']) = .ok (.v (.int xs.length)) (S ++ [.lst xs, o']) := ln_p w2a_at
theorem w2b_len : bLen (.l (S.length + 1)) (S ++ [o, .lst xs]) = .ok (.v (.int xs.length)) (S ++ [o, .lst xs]) := ln_p w2b_at
theorem w2a_idx {j : Int} : idxOp (.l S.length) (.v (.int j)) (S ++ [.lst xs, o']) = optB (atO xs j) fun z => .ok (.v z) (S ++ [.lst xs, o']) := idx_l w2a_at
theorem w2b_idx {j : Int} : idxOp (.l (S.length + 1)) (.v (.int j)) (S ++ [o, .lst xs]) = optB (atO xs j) fun z => .ok (.v z) (S ++ [o, .lst xs]) := idx_l w2b_at
end
def optC (y : Option PV) (ys : List PV) : List PV := match y with
  | some y => y :: ys
  | none => ys
theorem optC_some {y : PV} {ys : List PV} : optC (some y) ys = y :: ys := rfl
theorem optC_none {ys : List PV} : optC none ys = ys := rfl
def compGD {α : Type} (f : α → Store → Out (Option (PV × PV))) : List α → Store → Out (List (PV × PV))
  | [], S => .ok [] S
  | a :: l, S => (f a S).bind fun y S1 => (compGD f l S1).bind fun ys S2 => .ok (match y with | some y => y :: ys | none => ys) S2
theorem compGD_congr {α : Type} {f g : α → Store → Out (Option (PV × PV))} {l : List α} {S : Store} (h : ∀ a, a ∈ l → ∀ S, f a S = g a S) : compGD f l S = compGD g l S := by
  induction l generalizing S with
  | nil => rfl
  | cons a l ih =>
    show (f a S).bind _ = (g a S).bind _
    rw [h a List.mem_cons_self]
    congr 1
    funext y S1
    rw [ih fun b hb => h b (List.mem_cons_of_mem _ hb)]
theorem compGD_mem {α : Type} {f h : α → Store → Out (Option (PV × PV))} {l : List α} {S : Store} : compGD (fun a S => if Mem a l then f a S else h a S) l S = compGD f l S := compGD_congr fun a ha S => if_pos ha
theorem compDT_map {α : Type} {f : PV → Store → Out (Option (PV × PV))} {x : α → PV} {l : List α} {S : Store} {t : Tag f} : compDT f (l.map x) S t = compGD (fun a S => if Mem a l then f (x a) S else .bad) l S := by
  rw [compGD_mem]
  show compD f (l.map x) S = _
  induction l generalizing S with
  | nil => rfl
  | cons a l ih =>
    show (f (x a) S).bind _ = (f (x a) S).bind _
    congr 1
    funext y S1
    rw [ih] <;> rfl
theorem compGD_all' {α : Type} {g : α → PV × PV} : ∀ {l : List α} {S : Store}, compGD (fun a S => .ok (some (g a)) S) l S = .ok (l.map g) S
  | [], _ => rfl
  | a :: l, S => by
    show (compGD _ l S).bind _ = _
    rw [compGD_all']
    rfl
theorem compGD_all {α : Type} {g : α → PV × PV} {l : List α} {S : Store} : compGD (fun a S => if Mem a l then .ok (some (g a)) S else .bad) l S = .ok (l.map g) S := compGD_mem.trans compGD_all'
end FWP

namespace FWP
open PySem FW
class Enc {α : Type} [DecidableEq α] (d : outParam Nat) (x : α → PV) : Prop where
  eq : ∀ a b, eqv (x a) (x b) = decide (a = b)
  nf : ∀ a, noFn (x a) = true
  dp : ∀ a, dpLe d (x a) = true
theorem cast_inj' {a b : Nat} : ((a : Int) = (b : Int)) ↔ (a = b) := by omega
instance : Enc 0 nn := ⟨fun a b => by simp [eqv, cast_inj'], fun _ => rfl, fun _ => rfl⟩
instance : Enc 0 (fun t : Nat => PV.int (t : Int)) := inferInstanceAs (Enc 0 nn)
instance : Enc 0 bitV := ⟨fun a b => by cases a <;> cases b <;> rfl, fun _ => rfl, fun _ => rfl⟩
instance : Enc 0 (fun b : Bool => PV.int (if b = true then 1 else 0)) := inferInstanceAs (Enc 0 bitV)
instance : Enc 0 PV.int := ⟨fun a b => rfl, fun _ => rfl, fun _ => rfl⟩
instance : Enc 0 PV.bl := ⟨fun a b => by cases a <;> cases b <;> rfl, fun _ => rfl, fun _ => rfl⟩
mutual
theorem dpLe_mono : ∀ {n m : Nat} {v : PV}, dpLe n v = true → n ≤ m → dpLe m v = true
  | _, _, .non, _, _ => by simp [dpLe]
  | _, _, .bl _, _, _ => by simp [dpLe]
  | _, _, .int _, _, _ => by simp [dpLe]
  | _, _, .str _, _, _ => by simp [dpLe]
  | _, _, .fn _, _, _ => by simp [dpLe]
  | 0, _, .tup _, h, _ => by simp [dpLe] at h
  | 0, _, .lst _, h, _ => by simp [dpLe] at h
  | n + 1, m, .tup xs, h, hm => by
    obtain ⟨m, rfl⟩ : ∃ k, m = k + 1 := ⟨m - 1, by omega⟩
    exact dpLes_mono (n := n) h (by omega)
  | n + 1, m, .lst xs, h, hm => by
    obtain ⟨m, rfl⟩ : ∃ k, m = k + 1 := ⟨m - 1, by omega⟩
    exact dpLes_mono (n := n) h (by omega)
theorem dpLes_mono : ∀ {n m : Nat} {vs : List PV}, dpLes n vs = true → n ≤ m → dpLes m vs = true
  | _, _, [], _, _ => by simp [dpLes]
  | n, m, v :: vs, h, hm => by
    simp only [dpLes, Bool.and_eq_true] at h ⊢
    exact ⟨dpLe_mono h.1 hm, dpLes_mono h.2 hm⟩
end
section
variable {α : Type} [DecidableEq α] {d : Nat} {x : α → PV} [E : Enc d x]
include E
theorem eqvs_enc : ∀ {l l' : List α}, eqvs (l.map x) (l'.map x) = decide (l = l')
  | [], [] => rfl
  | [], _ :: _ => rfl
  | _ :: _, [] => rfl
  | a :: l, b :: l' => by
    show (eqv (x a) (x b) && eqvs (l.map x) (l'.map x)) = _
    rw [E.eq, eqvs_enc]
    by_cases h1 : a = b <;> by_cases h2 : l = l' <;> simp [h1, h2]
theorem noFns_enc : ∀ {l : List α}, noFns (l.map x) = true
  | [] => rfl
  | a :: l => by show (noFn (x a) && noFns (l.map x)) = true; rw [E.nf, noFns_enc]; rfl
theorem dpLes_enc : ∀ {l : List α}, dpLes d (l.map x) = true
  | [] => rfl
  | a :: l => by show (dpLe d (x a) && dpLes d (l.map x)) = true; rw [E.dp, dpLes_enc]; rfl
instance : Enc (d + 1) (fun l : List α => PV.tup (l.map x)) := ⟨fun a b => eqvs_enc, fun a => noFns_enc, fun a => dpLes_enc⟩
instance : Enc (d + 1) (fun l : List α => PV.lst (l.map x)) := ⟨fun a b => eqvs_enc, fun a => noFns_enc, fun a => dpLes_enc⟩
theorem eqP_enc {a b : α} (hd : d ≤ 24) : eqP (x a) (x b) = some (decide (a = b)) := by
  unfold eqP
  rw [E.nf, E.nf, dpLe_mono (E.dp a) (show d ≤ eqD from hd), E.eq]
  rfl
theorem eqP_tups {l l' : List α} (hd : d ≤ 23) : eqP (.tup (l.map x)) (.tup (l'.map x)) = some (decide (l = l')) := eqP_enc (x := fun l : List α => PV.tup (l.map x)) (by omega)
theorem eqP_lsts {l l' : List α} (hd : d ≤ 23) : eqP (.lst (l.map x)) (.lst (l'.map x)) = some (decide (l = l')) := eqP_enc (x := fun l : List α => PV.lst (l.map x)) (by omega)
theorem any_enc {a : α} {l : List α} : ((l.map x).any fun y => eqv y (x a)) = decide (a ∈ l) := by
  induction l with
  | nil => rfl
  | cons b l ih =>
    rw [List.map_cons, List.any_cons, ih, E.eq]
    by_cases h1 : b = a <;> by_cases h2 : a ∈ l <;> simp [h1, h2, eq_comm]
    exact fun h => h1 h.symm
theorem anyEq_enc {a : α} {l : List α} (hd : d ≤ 24) : anyEq (x a) (l.map x) = some (decide (a ∈ l)) := by
  unfold anyEq
  rw [E.nf, noFns_enc (x := x), dpLe_mono (E.dp a) (show d ≤ eqD from hd), any_enc (x := x)]
  rfl
end
theorem anyEq_int {α : Type} {i : Int} {f : α → Int} {l : List α} : anyEq (.int i) (l.map fun a => PV.int (f a)) = some (decide (∃ a, a ∈ l ∧ f a = i)) := by
  have : (l.map fun a => PV.int (f a)) = (l.map f).map PV.int := by simp
  rw [this, anyEq_enc (x := PV.int) (by decide)]
  congr 2
  simp
def insG {α : Type} (le : α → α → Bool) (x : α) : List α → List α
  | [] => [x]
  | y :: r => if le x y = true then x :: y :: r else y :: insG le x r
def sortG {α : Type} (le : α → α → Bool) : List α → List α
  | [] => []
  | x :: r => insG le x (sortG le r)
section
variable {α : Type} {le : α → α → Bool}
theorem mem_insG {x y : α} : ∀ {l : List α}, y ∈ insG le x l ↔ y = x ∨ y ∈ l
  | [] => by simp [insG]
  | z :: l => by
    unfold insG
    split
    · simp
    · simp only [List.mem_cons, mem_insG]
      grind
theorem mem_sortG {y : α} : ∀ {l : List α}, y ∈ sortG le l ↔ y ∈ l
  | [] => by simp [sortG]
  | z :: l => by simp only [sortG, mem_insG, mem_sortG, List.mem_cons]
theorem insG_len {x : α} : ∀ {l : List α}, (insG le x l).length = l.length + 1
  | [] => rfl
  | z :: l => by
    unfold insG
    split
    · rfl
    · simp [insG_len]
theorem sortG_len : ∀ {l : List α}, (sortG le l).length = l.length
  | [] => rfl
  | z :: l => by simp only [sortG, insG_len, sortG_len, List.length_cons]
theorem insG_perm {x : α} : ∀ {l : List α}, (insG le x l).Perm (x :: l)
  | [] => List.Perm.refl _
  | z :: l => by
    unfold insG
    split
    · exact List.Perm.refl _
    · exact (List.Perm.cons z insG_perm).trans (List.Perm.swap _ _ _)
theorem sortG_perm : ∀ {l : List α}, (sortG le l).Perm l
  | [] => List.Perm.refl _
  | z :: l => insG_perm.trans (List.Perm.cons z sortG_perm)
theorem insG_pw (tr : ∀ a b c, le a b = true → le b c = true → le a c = true) (tot : ∀ a b, le a b = true ∨ le b a = true) {x : α} : ∀ {l : List α}, l.Pairwise (fun a b => le a b = true) → (insG le x l).Pairwise (fun a b => le a b = true)
  | [], _ => by simp [insG]
  | z :: l, h => by
    obtain ⟨h1, h2⟩ := List.pairwise_cons.mp h
    unfold insG
    split
    · rename_i hx
      refine List.pairwise_cons.mpr ⟨fun b hb => ?_, h⟩
      rcases List.mem_cons.mp hb with rfl | hb
      · exact hx
      · exact tr _ _ _ hx (h1 b hb)
    · rename_i hx
      refine List.pairwise_cons.mpr ⟨fun b hb => ?_, insG_pw tr tot h2⟩
      rcases mem_insG.mp hb with rfl | hb
      · exact (tot b z).resolve_left hx
      · exact h1 b hb
theorem sortG_pw (tr : ∀ a b c, le a b = true → le b c = true → le a c = true) (tot : ∀ a b, le a b = true ∨ le b a = true) : ∀ l : List α, (sortG le l).Pairwise (fun a b => le a b = true)
  | [] => List.Pairwise.nil
  | z :: l => insG_pw tr tot (sortG_pw tr tot l)
theorem insG_head {x : α} : ∀ {l : List α}, (∀ y ∈ l, le x y = true) → insG le x l = x :: l
  | [], _ => rfl
  | y :: l, h => by unfold insG; rw [if_pos (h y List.mem_cons_self)]
theorem sortG_id : ∀ {l : List α}, l.Pairwise (fun a b => le a b = true) → sortG le l = l
  | [], _ => rfl
  | x :: l, h => by
    obtain ⟨h1, h2⟩ := List.pairwise_cons.mp h
    show insG le x (sortG le l) = _
    rw [sortG_id h2, insG_head h1]
theorem sorted_unique {lt : α → α → Prop} (irr : ∀ a, ¬ lt a a) (tr : ∀ a b c, lt a b → lt b c → lt a c) : ∀ {l l' : List α}, l.Pairwise lt → l'.Pairwise lt → (∀ a, a ∈ l ↔ a ∈ l') → l = l'
  | [], [], _, _, _ => rfl
  | [], b :: l', _, _, h => absurd ((h b).mpr List.mem_cons_self) (by simp)
  | a :: l, [], _, _, h => absurd ((h a).mp List.mem_cons_self) (by simp)
  | a :: l, b :: l', h1, h2, h => by
    obtain ⟨p1, q1⟩ := List.pairwise_cons.mp h1
    obtain ⟨p2, q2⟩ := List.pairwise_cons.mp h2
    have e : a = b := by
      rcases List.mem_cons.mp ((h a).mp List.mem_cons_self) with e | m
      · exact e
      · rcases List.mem_cons.mp ((h b).mpr List.mem_cons_self) with e | m'
        · exact e.symm
        · exact absurd (tr _ _ _ (p1 b m') (p2 a m)) (irr a)
    subst e
    congr 1
    refine sorted_unique irr tr q1 q2 fun c => ⟨fun m => ?_, fun m => ?_⟩
    · rcases List.mem_cons.mp ((h c).mp (List.mem_cons_of_mem _ m)) with e | m'
      · subst e; exact absurd (p1 c m) (irr c)
      · exact m'
    · rcases List.mem_cons.mp ((h c).mpr (List.mem_cons_of_mem _ m)) with e | m'
      · subst e; exact absurd (p2 c m) (irr c)
      · exact m'
end
theorem sort_map {α : Type} {x : α → PV} {le : α → α → Bool} (h : ∀ a b, leK (x a) (x b) = le a b) : ∀ {l : List α}, isortK (l.map x) = (sortG le l).map x := by
  have ins : ∀ {a : α} {l : List α}, insB leK (x a) (l.map x) = (insG le a l).map x := fun {a l} => by
    induction l with
    | nil => rfl
    | cons b l ih =>
      show (if leK (x a) (x b) = true then x a :: x b :: l.map x else x b :: insB leK (x a) (l.map x)) = _
      rw [h, ih]
      show _ = List.map x (if le a b = true then a :: b :: l else b :: insG le a l)
      split <;> rfl
  intro l
  induction l with
  | nil => rfl
  | cons a l ih =>
    show insB leK (x a) (isortK (l.map x)) = _
    rw [ih, ins]
    rfl
def ltL : List Nat → List Nat → Bool
  | [], [] => false
  | [], _ :: _ => true
  | _ :: _, [] => false
  | x :: xs, y :: ys => if x = y then ltL xs ys else decide (x < y)
def leL (a b : List Nat) : Bool := !ltL b a
def leN (a b : Nat) : Bool := decide (a ≤ b)
theorem leK_nn (a b : Nat) : leK (nn a) (nn b) = leN a b := by
  show (!decide ((b : Int) < (a : Int))) = decide (a ≤ b)
  by_cases h : a ≤ b
  · have : ¬ (b : Int) < (a : Int) := by omega
    simp [h, this]
  · have : (b : Int) < (a : Int) := by omega
    simp [h, this]
theorem ltKs_nn : ∀ a b : List Nat, ltKs (a.map nn) (b.map nn) = ltL a b
  | [], [] => rfl
  | [], _ :: _ => rfl
  | _ :: _, [] => rfl
  | x :: xs, y :: ys => by
    show (if eqv (nn x) (nn y) = true then ltKs (xs.map nn) (ys.map nn) else ltK (nn x) (nn y)) = _
    rw [ltKs_nn xs ys]
    show _ = if x = y then ltL xs ys else decide (x < y)
    by_cases h : x = y
    · subst h
      rw [if_pos (by simp [eqv]), if_pos rfl]
    · rw [if_neg (by simp [eqv]; omega), if_neg h]
      show decide ((x : Int) < (y : Int)) = decide (x < y)
      by_cases h2 : x < y
      · have : (x : Int) < (y : Int) := by omega
        simp [h2, this]
      · have : ¬ (x : Int) < (y : Int) := by omega
        simp [h2, this]
abbrev setV (p : List Nat) : PV := .tup (p.map nn)
theorem leK_setV (a b : List Nat) : leK (setV a) (setV b) = leL a b := by
  show (!ltKs (b.map nn) (a.map nn)) = _
  rw [ltKs_nn]
  rfl
theorem ltL_irr : ∀ a, ltL a a = false
  | [] => rfl
  | x :: xs => by unfold ltL; rw [if_pos rfl]; exact ltL_irr xs
theorem ltL_trans : ∀ {a b c : List Nat}, ltL a b = true → ltL b c = true → ltL a c = true
  | [], [], c, h, _ => by simp [ltL] at h
  | [], _ :: _, [], _, h => by simp [ltL] at h
  | [], _ :: _, _ :: _, _, _ => rfl
  | _ :: _, [], _, h, _ => by simp [ltL] at h
  | _ :: _, _ :: _, [], _, h => by simp [ltL] at h
  | x :: xs, y :: ys, z :: zs, h1, h2 => by
    unfold ltL at h1 h2 ⊢
    by_cases e1 : x = y
    · subst e1
      rw [if_pos rfl] at h1
      by_cases e2 : x = z
      · subst e2
        rw [if_pos rfl] at h2 ⊢
        exact ltL_trans h1 h2
      · rw [if_neg e2] at h2 ⊢
        exact h2
    · rw [if_neg e1] at h1
      have h1 := of_decide_eq_true h1
      by_cases e2 : y = z
      · subst e2
        rw [if_neg e1]
        exact decide_eq_true h1
      · rw [if_neg e2] at h2
        have h2 := of_decide_eq_true h2
        rw [if_neg (by omega)]
        exact decide_eq_true (by omega)
theorem ltL_tri : ∀ {a b : List Nat}, ltL a b = false → ltL b a = false → a = b
  | [], [], _, _ => rfl
  | [], _ :: _, h, _ => by simp [ltL] at h
  | _ :: _, [], _, h => by simp [ltL] at h
  | x :: xs, y :: ys, h1, h2 => by
    unfold ltL at h1 h2
    by_cases e : x = y
    · subst e
      rw [if_pos rfl] at h1 h2
      rw [ltL_tri h1 h2]
    · rw [if_neg e] at h1
      rw [if_neg (fun h => e h.symm)] at h2
      have := of_decide_eq_false h1
      have := of_decide_eq_false h2
      omega
theorem leL_total (a b : List Nat) : leL a b = true ∨ leL b a = true := by
  unfold leL
  cases h1 : ltL b a with
  | false => exact .inl rfl
  | true =>
    cases h2 : ltL a b with
    | false => exact .inr rfl
    | true => have := ltL_trans h1 h2; rw [ltL_irr] at this; cases this
theorem leL_iff {a b : List Nat} : leL a b = true ↔ a = b ∨ ltL a b = true := by
  unfold leL
  constructor
  · intro h
    cases h2 : ltL a b with
    | true => exact .inr rfl
    | false => exact .inl (ltL_tri h2 (by simpa using h))
  · rintro (rfl | h)
    · simp [ltL_irr]
    · cases h2 : ltL b a with
      | false => rfl
      | true => have := ltL_trans h h2; rw [ltL_irr] at this; cases this
theorem leL_trans (a b c : List Nat) (h1 : leL a b = true) (h2 : leL b c = true) : leL a c = true := by
  rw [leL_iff] at *
  rcases h1 with rfl | h1
  · exact h2
  · rcases h2 with rfl | h2
    · exact .inr h1
    · exact .inr (ltL_trans h1 h2)
theorem leN_total (a b : Nat) : leN a b = true ∨ leN b a = true := by unfold leN; simp; omega
theorem leN_trans (a b c : Nat) (h1 : leN a b = true) (h2 : leN b c = true) : leN a c = true := by unfold leN at *; simp at *; omega
abbrev sortS : List (List Nat) → List (List Nat) := sortG leL
abbrev sortN : List Nat → List Nat := sortG leN
abbrev Asc (l : List Nat) : Prop := l.Pairwise (· < ·)
abbrev AscS (l : List (List Nat)) : Prop := l.Pairwise (fun a b => ltL a b = true)
theorem asc_of {l : List Nat} (h : l.Pairwise (fun a b => leN a b = true)) (hn : l.Nodup) : Asc l := by
  refine (h.and hn).imp fun {a b} ⟨h1, h2⟩ => ?_
  have := of_decide_eq_true h1
  omega
theorem ascS_of {l : List (List Nat)} (h : l.Pairwise (fun a b => leL a b = true)) (hn : l.Nodup) : AscS l := by
  refine (h.and hn).imp fun {a b} ⟨h1, h2⟩ => ?_
  exact (leL_iff.mp h1).resolve_left h2
theorem sortS_asc {l : List (List Nat)} (hn : l.Nodup) : AscS (sortS l) := ascS_of (sortG_pw leL_trans leL_total l) ((sortG_perm.nodup_iff).mpr hn)
theorem sortN_asc {l : List Nat} (hn : l.Nodup) : Asc (sortN l) := asc_of (sortG_pw leN_trans leN_total l) ((sortG_perm.nodup_iff).mpr hn)
theorem ascS_unique {l l' : List (List Nat)} (h : AscS l) (h' : AscS l') (hm : ∀ a, a ∈ l ↔ a ∈ l') : l = l' := sorted_unique (lt := fun a b => ltL a b = true) (fun a => by rw [ltL_irr]; exact Bool.false_ne_true) (fun _ _ _ => ltL_trans) h h' hm
theorem asc_unique {l l' : List Nat} (h : Asc l) (h' : Asc l') (hm : ∀ a, a ∈ l ↔ a ∈ l') : l = l' := sorted_unique (fun a => Nat.lt_irrefl a) (fun _ _ _ => Nat.lt_trans) h h' hm
theorem asc_nodup {l : List Nat} (h : Asc l) : l.Nodup := h.imp fun h => Nat.ne_of_lt h
theorem ascS_nodup {l : List (List Nat)} (h : AscS l) : l.Nodup := h.imp fun {a b} h e => by subst e; rw [ltL_irr] at h; cases h
theorem sortS_id {l : List (List Nat)} (h : AscS l) : sortS l = l := sortG_id (h.imp fun h => leL_iff.mpr (.inr h))
theorem sortN_id {l : List Nat} (h : Asc l) : sortN l = l := sortG_id (h.imp fun h => decide_eq_true (Nat.le_of_lt h))
end FWP

namespace FWP
open PySem FW
theorem loop_fold {α β : Type} {x : α → PV} {f : PV → FS} {S : Store} {step : β → α → β} (J : β → Slots → Prop) : ∀ (l : List α) (b : β) {ρ : Slots}, J b ρ → (∀ a, a ∈ l → ∀ b ρ, J b ρ → ∃ ρ', f (x a) ρ S = .ok (.next ρ') S ∧ J (step b a) ρ') →
    ∃ ρ', forL f [] (l.map x) ρ S = .ok (.next ρ') S ∧ J (l.foldl step b) ρ'
  | [], b, ρ, hJ, _ => ⟨ρ, rfl, hJ⟩
  | a :: l, b, ρ, hJ, h => by
    obtain ⟨ρ1, e1, h1⟩ := h a List.mem_cons_self b ρ hJ
    obtain ⟨ρ2, e2, h2⟩ := loop_fold J l (step b a) h1 fun c hc => h c (List.mem_cons_of_mem _ hc)
    refine ⟨ρ2, ?_, h2⟩
    show (f (x a) ρ S).bind _ = _
    rw [e1, Out.bind_ok]
    exact e2
theorem forL_cons {f : PV → FS} {x : PV} {xs : List PV} {ρ ρ1 : Slots} {S S1 : Store} (e : f x ρ S = .ok (.next ρ1) S1) : forL f [] (x :: xs) ρ S = forL f [] xs ρ1 S1 := by
  show (f x ρ S).bind _ = _
  rw [e]
  rfl
end FWP

namespace FWP
open PySem FW
abbrev pathsV (P : List (List Nat)) : PV := .tup (P.map setV)
abbrev sysV (n : Nat) (P : List (List Nat)) : PV := .tup [nn n, pathsV P]
abbrev stV (st : List Bool) : PV := .tup (st.map bitV)
def mask (p : List Nat) : Nat := (p.map bitN).sum
def partsOf (m : Nat) : List Nat := (List.range 8).filter fun k => m.testBit k
def stAt (n m : Nat) : List Bool := (List.range n).map fun k => m.testBit k
theorem asc_range {n : Nat} : Asc (List.range n) := List.pairwise_lt_range
theorem asc_filter {l : List Nat} {p : Nat → Bool} (h : Asc l) : Asc (l.filter p) := List.Pairwise.filter p h
theorem partsOf_asc {m : Nat} : Asc (partsOf m) := asc_filter asc_range
theorem mem_partsOf {m k : Nat} : k ∈ partsOf m ↔ k < 8 ∧ m.testBit k = true := by simp [partsOf]
theorem mask_mul : ∀ {p : List Nat} {k : Nat}, Asc p → (∀ j ∈ p, k < j) → ∃ c, mask p = 2 ^ (k + 1) * c
  | [], k, _, _ => ⟨0, by simp [mask]⟩
  | a :: p, k, h, hk => by
    obtain ⟨h1, h2⟩ := List.pairwise_cons.mp h
    have ha := hk a List.mem_cons_self
    obtain ⟨c, hc⟩ := mask_mul (k := k) h2 fun j hj => hk j (List.mem_cons_of_mem _ hj)
    refine ⟨2 ^ (a - (k + 1)) + c, ?_⟩
    show bitN a + mask p = _
    rw [hc, Nat.mul_add, ← Nat.pow_add, show k + 1 + (a - (k + 1)) = a by omega]
    rfl
theorem mask_bit : ∀ {p : List Nat} {k : Nat}, Asc p → (mask p).testBit k = decide (k ∈ p)
  | [], k, _ => by simp [mask]
  | a :: p, k, h => by
    obtain ⟨h1, h2⟩ := List.pairwise_cons.mp h
    obtain ⟨c, hc⟩ := mask_mul (k := a) h2 h1
    have ih := mask_bit (k := k) h2
    have e : mask (a :: p) = 2 ^ (a + 1) * c + 2 ^ a := by
      show bitN a + mask p = _
      rw [hc, Nat.add_comm]
      rfl
    rw [hc] at ih
    rw [e, Nat.testBit_two_pow_mul_add _ (Nat.pow_lt_pow_right (by decide) (by omega))]
    rw [Nat.testBit_two_pow_mul] at ih
    by_cases hk : k < a + 1
    · rw [if_pos hk, Nat.testBit_two_pow]
      have : k ∉ p := fun hm => by have := h1 k hm; omega
      by_cases h3 : a = k
      · subst h3; simp
      · simp [h3, this, fun h => h3 (Eq.symm h)]
        omega
    · rw [if_neg hk]
      have h4 : k ≥ a + 1 := by omega
      simp only [h4, decide_true, Bool.true_and] at ih
      rw [ih]
      have : k ≠ a := by omega
      simp [this]
theorem and_bit {a b k : Nat} : (a &&& b).testBit k = (a.testBit k && b.testBit k) := Nat.testBit_and a b k
theorem mask_sub {p : List Nat} {m : Nat} (h : Asc p) : (mask p &&& m = mask p) ↔ ∀ k ∈ p, m.testBit k = true := by
  constructor
  · intro e k hk
    have := congrArg (·.testBit k) e
    simp only [and_bit, mask_bit h, hk, decide_true, Bool.true_and] at this
    exact this
  · intro e
    refine Nat.eq_of_testBit_eq fun k => ?_
    rw [and_bit, mask_bit h]
    by_cases hk : k ∈ p
    · simp [hk, e k hk]
    · simp [hk]
theorem mask_lt {p : List Nat} {n : Nat} (h : Asc p) (hn : ∀ k ∈ p, k < n) : mask p < 2 ^ n := by
  refine Nat.lt_pow_two_of_testBit _ fun i hi => ?_
  rw [mask_bit h]
  exact decide_eq_false fun hm => by have := hn i hm; omega
theorem parts_mask {p : List Nat} (h : Asc p) (hn : ∀ k ∈ p, k < 8) : partsOf (mask p) = p := by
  refine asc_unique partsOf_asc h fun k => ?_
  rw [mem_partsOf, mask_bit h]
  constructor
  · intro hk; simpa using hk.2
  · intro hk; exact ⟨hn k hk, by simpa using hk⟩
theorem mask_parts {m : Nat} (h : m < 256) : mask (partsOf m) = m := by
  refine Nat.eq_of_testBit_eq fun k => ?_
  rw [mask_bit partsOf_asc]
  by_cases hk : m.testBit k = true
  · have : k < 8 := by
      refine Nat.lt_of_not_le fun h8 => ?_
      rw [Nat.testBit_lt_two_pow (Nat.lt_of_lt_of_le h (Nat.pow_le_pow_right (n := 2) (by decide) h8))] at hk
      cases hk
    rw [hk]
    exact decide_eq_true (mem_partsOf.mpr ⟨this, hk⟩)
  · rw [Bool.not_eq_true] at hk
    rw [hk]
    exact decide_eq_false fun hm => by rw [(mem_partsOf.mp hm).2] at hk; cases hk
theorem mask_inj {p q : List Nat} (hp : Asc p) (hq : Asc q) (h : mask p = mask q) : p = q :=
  asc_unique hp hq fun k => by
    have := mask_bit (k := k) hp
    rw [h, mask_bit hq] at this
    exact ⟨fun hk => by rw [decide_eq_true hk] at this; exact of_decide_eq_true this, fun hk => by rw [decide_eq_true hk] at this; exact of_decide_eq_true this.symm⟩
theorem asc_len {p : List Nat} {n : Nat} (h : Asc p) (hn : ∀ k ∈ p, k < n) : p.length ≤ n := by
  have := List.Nodup.length_le_of_subset (asc_nodup h) (l₂ := List.range n) fun k hk => List.mem_range.mpr (hn k hk)
  simpa using this
structure Good (n : Nat) (P : List (List Nat)) : Prop where
  n1 : 1 ≤ n
  n8 : n ≤ 8
  asc : ∀ p ∈ P, Asc p
  lt : ∀ p ∈ P, ∀ k ∈ p, k < n
  srt : AscS P
  anti : ∀ p ∈ P, ∀ q ∈ P, (∀ k ∈ p, k ∈ q) → p = q
def wk (P : List (List Nat)) (f : Nat → Bool) : Bool := P.any fun p => p.all f
theorem wk_iff {P : List (List Nat)} {f : Nat → Bool} : wk P f = true ↔ ∃ p ∈ P, ∀ k ∈ p, f k = true := by simp [wk]
theorem wk_congr {P : List (List Nat)} {f g : Nat → Bool} (h : ∀ p ∈ P, ∀ k ∈ p, f k = g k) : wk P f = wk P g := by
  rw [Bool.eq_iff_iff, wk_iff, wk_iff]
  exact ⟨fun ⟨p, hp, hk⟩ => ⟨p, hp, fun k hkp => by rw [← h p hp k hkp]; exact hk k hkp⟩, fun ⟨p, hp, hk⟩ => ⟨p, hp, fun k hkp => by rw [h p hp k hkp]; exact hk k hkp⟩⟩
section
variable {n : Nat} {P : List (List Nat)}
theorem Good.plen (h : Good n P) {p : List Nat} (hp : p ∈ P) : p.length ≤ 8 := Nat.le_trans (asc_len (h.asc p hp) (h.lt p hp)) h.n8
theorem Good.len (h : Good n P) : P.length ≤ 256 := by
  have e : (P.map mask).Nodup := by
    unfold List.Nodup
    rw [List.pairwise_map]
    have := (List.Pairwise.and (ascS_nodup h.srt) (List.Pairwise.and_mem.mp h.srt))
    exact this.imp fun {a b} ⟨hne, ha, hb, _⟩ he => hne (mask_inj (h.asc a ha) (h.asc b hb) he)
  have := List.Nodup.length_le_of_subset e (l₂ := List.range 256) fun m hm => by
    obtain ⟨p, hp, rfl⟩ := List.mem_map.mp hm
    exact List.mem_range.mpr (Nat.lt_of_lt_of_le (mask_lt (h.asc p hp) (h.lt p hp)) (Nat.pow_le_pow_right (n := 2) (by decide) h.n8))
  simpa using this
theorem wk_place (h : Good n P) (m : Nat) : wk P (fun k => m.testBit k) = P.any fun p => decide (mask p &&& m = mask p) := by
  rw [Bool.eq_iff_iff, wk_iff, List.any_eq_true]
  exact ⟨fun ⟨p, hp, hk⟩ => ⟨p, hp, decide_eq_true ((mask_sub (h.asc p hp)).mpr hk)⟩, fun ⟨p, hp, hk⟩ => ⟨p, hp, (mask_sub (h.asc p hp)).mp (of_decide_eq_true hk)⟩⟩
end
theorem stAt_len (n m : Nat) : (stAt n m).length = n := by simp [stAt]
theorem ith_stAt {n m k : Nat} (h : k < n) : ith (stAt n m) k = m.testBit k := by
  unfold stAt
  rw [ith_map (by simpa using h)]
  simp [ith, h]
end FWP

namespace FWP
open PySem FW
theorem anyEq_sets {q : List Nat} {M : List (List Nat)} : anyEq (.tup (q.map nn)) (M.map setV) = some (decide (q ∈ M)) := by
  have := anyEq_enc (x := setV) (a := q) (l := M) (by decide)
  rw [show PV.tup (q.map nn) = setV q from rfl, this]
  congr
end FWP
local macro_rules | `(tactic| simp! [$xs,*]) => `(tactic| (simp -implicitDefEqProofs -dsimp (disch := (first | with_reducible assumption | exact FWP.Mem.out (by assumption) | (((try simp only [List.length_map, List.length_range, List.length_append, List.length_cons, List.length_nil, List.length_tail, List.length_zip, List.length_reverse, List.length_take, List.length_drop, List.length_set, List.length_replicate, List.length_zipIdx, FW.line]) <;> first | omega | (first | exact FWP.Mem.out (by assumption) | (with_reducible show (_ : Nat) < _; solve_by_elim (maxDepth := 4) [FWP.Mem.out]) | (with_reducible show (_ : Nat) ≤ _; solve_by_elim (maxDepth := 4) [FWP.Mem.out]) | (with_reducible show _ ∈ _; solve_by_elim (maxDepth := 4) [FWP.Mem.out]) | fail) | (refine Nat.le_trans (List.length_filter_le _ _) ?_; (try simp only [List.length_map, List.length_range, List.length_append, List.length_cons, List.length_nil]) <;> first | omega | (first | exact FWP.Mem.out (by assumption) | (with_reducible show (_ : Nat) < _; solve_by_elim (maxDepth := 4) [FWP.Mem.out]) | (with_reducible show (_ : Nat) ≤ _; solve_by_elim (maxDepth := 4) [FWP.Mem.out]) | (with_reducible show _ ∈ _; solve_by_elim (maxDepth := 4) [FWP.Mem.out]) | fail) | fail) | fail)) | fail)) [↓FWP.v_var, ↓FWP.v_k, ↓FWP.v_glob, ↓FWP.v_tup, ↓FWP.v_list, ↓FWP.v_bin, ↓FWP.v_neg, ↓FWP.t_nt, ↓FWP.v_nt, ↓FWP.v_and, ↓FWP.t_and, ↓FWP.v_or, ↓FWP.t_or, ↓FWP.v_and1, ↓FWP.t_and1, ↓FWP.v_or1, ↓FWP.t_or1, ↓FWP.v_and2, ↓FWP.t_and2, ↓FWP.v_or2, ↓FWP.t_or2, ↓FWP.t_cmp, ↓FWP.v_cmp, ↓FWP.t_chain, ↓FWP.v_chain, ↓FWP.v_ite, ↓FWP.t_ite, ↓FWP.v_call, ↓FWP.v_fnv, ↓FWP.v_callv, ↓FWP.v_index, ↓FWP.v_indexG, ↓FWP.v_bi, ↓FWP.v_isi, ↓FWP.v_idx, ↓FWP.v_slc, ↓FWP.v_comp, ↓FWP.v_comp2, ↓FWP.v_dic0, ↓FWP.v_get, ↓FWP.v_rev, ↓FWP.v_dcomp, ↓FWP.cTurnD_eq, FWP.pairO_v, ↓FWP.v_dicd, FWP.dispK_eq, FWP.pu_nil, FWP.pu_cons, FWP.keyOk_int, FWP.keyOk_str, FWP.mkD_ok, ↓FWP.compDT_map, FWP.compGD_all, ↓FWP.qs_pop, ↓FWP.qs_augsub, ↓FWP.qs_parG, FWP.fnM_eq, FWP.endM_ret, FWP.endM_ite, FWP.leaveM_v, FWP.nw_leaveM, FWP.nw_rev, FWP.rev_l, FWP.nw_old, FWP.asub_eq, FWP.nw_put, FWP.w2a_lst, FWP.w2b_lst, FWP.w2a_isl, FWP.w2b_isl, FWP.w2a_set, FWP.w2b_set, FWP.w2a_tup, FWP.w2b_tup, FWP.w2a_len, FWP.w2b_len, FWP.w2a_idx, FWP.w2b_idx, FWP.optC_some, FWP.optC_none, ↓FWP.t_var, ↓FWP.t_k, ↓FWP.t_call, ↓FWP.t_callv, ↓FWP.t_idx, ↓FWP.t_isi, ↓FWP.t_bin, ↓FWP.t_bi, ↓FWP.l_nil, ↓FWP.l_cons, ↓FWP.qi_seq, ↓FWP.qi_rng1, ↓FWP.qi_rng2, ↓FWP.i_rng3, ↓FWP.qi_zip, ↓FWP.qi_enum, ↓FWP.okK_v, ↓FWP.cTurn_eq, ↓FWP.cTurn2_eq, -FW.seqOp, FWP.sq_tup, FWP.sq_lst, -FW.zipOp, FWP.zp_tup, FWP.zp_lst, -FW.enumOp, FWP.en_lst, -FW.idxOp, FWP.idx_tup, FWP.idx_lst, FWP.idx_l, FWP.at_map, FWP.at_map0, FWP.at_map1, FWP.at_mapl, FWP.at_0, FWP.at_1, FWP.at_2, -FW.cmpOp, -FW.isNonS, FWP.cm_is, FWP.cm_isnot, FWP.cm_isb, FWP.cm_isi, FWP.ns_non, FWP.ns_bl, FWP.ns_int, FWP.ns_tup, FWP.ns_lst, FWP.ns_l, FWP.cm_eqv, FWP.cm_nev, FWP.cm_eqlv, FWP.cm_nelv, FWP.cm_lt, FWP.cm_le, FWP.cm_gt, FWP.cm_ge, FWP.cm_in_t, FWP.cm_in_l, FWP.cm_nin_t, FWP.cm_nin_l, FWP.cm_in_p, FWP.cm_nin_p, -FW.binOp, FWP.bo_ii, FWP.bo_ib, FWP.bo_tt, FWP.bo_ll, FWP.bo_pl, FWP.bo_tm, FWP.bo_lm, -FW.negOp, FWP.ng_i, -FW.isTys, FWP.it_of, FWP.oo_some, -FW.biOp, FWP.qbi_len, FWP.qbi_int, FWP.qbi_abs, FWP.qbi_sum, FWP.qbi_tuple, FWP.qbi_list, FWP.qbi_sorted, FWP.bi_sset, FWP.bi_skey, FWP.bi_lset, FWP.qbi_min1, FWP.qbi_max1, FWP.qbi_min2, FWP.qbi_max2, FWP.bi_lr1, FWP.bi_tr1, -FW.bLen, FWP.ln_t, FWP.ln_l, FWP.ln_p, -FW.bInt, FWP.in_i, FWP.in_b, -FW.bAbs, FWP.ab_i, -FW.bSum, FWP.sm_t, FWP.sm_l, -FW.bTuple, FWP.tp_t, FWP.tp_l, FWP.tp_p, -FW.bList, FWP.ls_t, FWP.ls_l, FWP.ls_p, FWP.lr_n, -FW.slcOp, FWP.sl_t, FWP.sl_l, -FW.part?, FWP.pt_n, FWP.pt_i, -FW.intOnly, FWP.io_i, -FW.augOp, FWP.au_add, FWP.au_sub, -FW.putOp, -FW.isNonC, FWP.nnc_non, FWP.nnc_int, FWP.nnc_var, FWP.nnc_bin, FWP.nnc_bi, FWP.nnc_neg, FWP.nnc_idx, -FW.leave, FWP.leave_l, FWP.take_app, FWP.take_self, FWP.nw_lst, FWP.nw_isl, FWP.nw_set, FWP.nw_tup, FWP.nw_len, FWP.nw_idx, FWP.nw_leave, FWP.nw_add, FWP.nw_eq, FWP.nw_ne, FWP.cut_ton, FWP.cut_fromn, -FW.getS, FWP.gs_some, FWP.gs_none, FWP.gs_succ, -FW.bindG, -FW.bindGs, -FW.wipeS, -FW.pures?, -FW.setAll, FWP.bg_name, FWP.bg_tup, FWP.bg_lst, FWP.bgs_nil, FWP.bgs_cons, FWP.wp_nil, FWP.wp_cons, FWP.pr_nil, FWP.pr_cons, FWP.sa_nil, FWP.sa_cons, ↓FWP.seqK_next, ↓FWP.seqK_ret, ↓FWP.seqK_brk, ↓FWP.seqK_cnt, ↓FWP.b_nil, ↓FWP.b_cons, ↓FWP.qs_set, ↓FWP.qs_unpack, ↓FWP.qs_par, ↓FWP.qs_sub, ↓FWP.s_aug, ↓FWP.qs_app, FWP.appIf_ok, ↓FWP.qs_expr, ↓FWP.s_ifs, ↓FWP.qs_ret, ↓FWP.qs_retN, ↓FWP.qs_brk, ↓FWP.qs_cnt, ↓FWP.turnF_eq, ↓FWP.s_forr, ↓FWP.s_whil, ↓FWP.qs_freeze, ↓FWP.frzO_some, ↓FWP.frzO_none, ↓FWP.frz_l, ↓FWP.frz_v, ↓FWP.bd_ok, ↓FWP.bd_exc, ↓FWP.bd_bad, ↓FWP.compLT_nil, ↓FWP.compLLT_nil, ↓FWP.optB_none, ↓FWP.optB_some, ↓FWP.truK_eq, ↓FWP.blK_eq, ↓FWP.tupK_eq, ↓FWP.lstK_eq, ↓FWP.callG_eq, ↓FWP.partO_eq, ↓FWP.svP_v, ↓FWP.svL_l, ↓FWP.endK_ret, ↓FWP.endK_next, ↓FWP.endK_ite, ↓FWP.fn_eq, FWP.startB_eq, -FW.fnSem, FWP.leave_v, ↓FWP.compLT_map, ↓FWP.compLLT_map, FWP.compG_all, FWP.compG_none, FWP.compG_some, FWP.compG_two, FWP.compG_3, FWP.ite_int, FWP.compGG_all, ↓FWP.bd_ite, FWP.ite_both, -ite_not, -Classical.ite_not, -List.map_set, FWP.ite_okb, -FW.intOp, FWP.op_shl, FWP.op_shln, FWP.op_shr, FWP.op_bit, FWP.op_and, FWP.op_or, FWP.op_xor, FWP.op_add, FWP.op_sub, -FW.mkL, FWP.mkL_f, FWP.mkL_t, -FW.mkT, FWP.mkT_ok, FWP.zip_map, FWP.enum_map, FWP.rng1_n, FWP.rng1_i, FWP.rng2_n, -FW.rng1Op, -FW.rng2Op, FWP.ints_mapf, FWP.sumI_map, -FW.ix?, FWP.ix_n, FWP.ix_n1, FWP.ix_i0, FWP.ix_i1, FWP.ix_i2, FWP.eqP_nilL, FWP.noFns_map, FWP.bit_1, FWP.bit_0, -getElem?_pos, -getElem?_neg, FWP.get_ith, FWP.ith_zero, FWP.ith_succ, FWP.ith_map, FWP.nn, FWP.bitV, FWP.eqP_tups, FWP.eqP_lsts, FWP.eqP_enc, FWP.anyEq_enc, FWP.anyEq_int, FWP.anyEq_sets, List.isEmpty_iff, List.filter_eq_nil_iff, FWP.cast_inj, FWP.setV, FWP.pathsV, FWP.sysV, FWP.stV, $xs,*]))
namespace FWP
open PySem FW
theorem forL_same {f : PV → FS} (J : Slots → Prop) {xs : List PV} {ρ : Slots} {S : Store} (h0 : J ρ) (h : ∀ x ∈ xs, ∀ ρ, J ρ → ∃ ρ', f x ρ S = .ok (.next ρ') S ∧ J ρ') : ∃ ρ', forL f [] xs ρ S = .ok (.next ρ') S ∧ J ρ' := by
  obtain ⟨ρ', S', e, hJ, rfl⟩ := forL_inv (f := f) (fun _ ρ S' => J ρ ∧ S' = S) xs 0 (ρ := ρ) (S := S) (fun j x ρ S' hx ⟨hJ, hS⟩ => by
    subst hS
    obtain ⟨ρ', e, hJ'⟩ := h x (List.mem_of_getElem? hx) ρ hJ
    exact ⟨ρ', _, e, hJ', rfl⟩) ⟨h0, rfl⟩
  exact ⟨ρ', e, hJ⟩
theorem is_in_int {i a b : Int} {S : Store} : F_is_in [.v (.int i), .v (.int a), .v (.int b)] S = .ok (.v (.bl (decide (a ≤ i ∧ i ≤ b)))) S := by
  simp [F_is_in, d_is_in]
  by_cases h : a ≤ i
  · by_cases h2 : i ≤ b <;> simp [h, h2]
  · simp [h]
theorem F_mask_of_eq {p : List Nat} {S : Store} (h : p.length ≤ 1000) (h2 : ∀ k ∈ p, k ≤ 1000000) : F_mask_of [.v (setV p)] S = .ok (.v (nn (mask p))) S := by
  simp! [F_mask_of, d_mask_of, g_mask_of, c_mask_of_0, mask]
theorem F_parts_of_eq {m : Nat} {S : Store} : F_parts_of [.v (nn m)] S = .ok (.v (setV (partsOf m))) S := by
  simp! [F_parts_of, d_parts_of, g_parts_of, c_parts_of_0, partsOf]
section
variable {n : Nat} {P : List (List Nat)} {S : Store}
theorem F_mask_good (h : Good n P) {p : List Nat} (hp : p ∈ P) {S : Store} : F_mask_of [.v (setV p)] S = .ok (.v (nn (mask p))) S :=
  F_mask_of_eq (Nat.le_trans (h.plen hp) (by decide)) fun k hk => by have := h.lt p hp k hk; have := h.n8; omega
def vals (n : Nat) (P : List (List Nat)) : List Bool := (List.range (bitN n)).map fun m => wk P fun k => m.testBit k
end
theorem dedup_enc {α : Type} [DecidableEq α] {d : Nat} {x : α → PV} [E : Enc d x] : ∀ {l : List α}, l.Nodup → dedup (l.map x) = l.map x
  | [], _ => rfl
  | a :: l, h => by
    obtain ⟨h1, h2⟩ := List.pairwise_cons.mp h
    have e : ((l.map x).any fun y => eqv y (x a)) = false := by
      rw [any_enc (x := x)]
      exact decide_eq_false fun hm => h1 a hm rfl
    show (if ((l.map x).any fun y => eqv y (x a)) = true then dedup (l.map x) else x a :: dedup (l.map x)) = _
    rw [e, if_neg (by decide), dedup_enc h2]
    rfl
theorem allInt_nn : ∀ {l : List Nat}, allInt (l.map nn) = true
  | [] => rfl
  | a :: l => allInt_nn (l := l)
theorem allIntT_setV : ∀ {l : List (List Nat)}, allIntT (l.map setV) = true
  | [] => rfl
  | a :: l => by show (allInt (a.map nn) && allIntT (l.map setV)) = true; rw [allInt_nn, allIntT_setV]; rfl
theorem alikePs_nn : ∀ {a b : List Nat}, alikePs (a.map nn) (b.map nn) = true
  | [], _ => rfl
  | _ :: _, [] => rfl
  | a :: l, b :: l' => by show (alikeP (nn a) (nn b) && alikePs (l.map nn) (l'.map nn)) = true; rw [alikePs_nn]; rfl
theorem allAlike_setV {l : List (List Nat)} : allAlike (l.map setV) = true := by
  unfold allAlike
  refine List.all_eq_true.mpr fun x hx => List.all_eq_true.mpr fun y hy => ?_
  obtain ⟨a, _, rfl⟩ := List.mem_map.mp hx
  obtain ⟨b, _, rfl⟩ := List.mem_map.mp hy
  exact alikePs_nn
theorem allAlike_nn {l : List Nat} : allAlike (l.map nn) = true := by
  unfold allAlike
  refine List.all_eq_true.mpr fun x hx => List.all_eq_true.mpr fun y hy => ?_
  obtain ⟨a, _, rfl⟩ := List.mem_map.mp hx
  obtain ⟨b, _, rfl⟩ := List.mem_map.mp hy
  rfl
def SetsOk (P : List (List Nat)) : Prop := P.length < 2 ∨ ∀ p ∈ P, p ≠ []
theorem sortOk_sets {P : List (List Nat)} (h : SetsOk P) : sortOk (P.map setV) = true := by
  unfold sortOk
  rw [noFns_enc, allAlike_setV, dpLes_mono (dpLes_enc (x := setV)) (show 1 ≤ eqD by decide)]
  rcases h with h | h
  · simp [h]
  · have : (P.map setV).all isNT = true := List.all_eq_true.mpr fun x hx => by
      obtain ⟨a, ha, rfl⟩ := List.mem_map.mp hx
      cases a with
      | nil => exact absurd rfl (h [] ha)
      | cons b a => rfl
    rw [this]
    simp
theorem sortOk_nn {l : List Nat} : sortOk (l.map nn) = true := by
  unfold sortOk
  rw [noFns_enc, allAlike_nn, dpLes_mono (dpLes_enc (x := nn)) (show 0 ≤ eqD by decide)]
  have : (l.map nn).all isOne = true := List.all_eq_true.mpr fun x hx => by
    obtain ⟨a, ha, rfl⟩ := List.mem_map.mp hx
    rfl
  rw [this]
  simp
theorem setOk_nn {l : List Nat} (h : l.length < 64) : setOk (l.map nn) = true := by
  unfold setOk
  simp [h, allInt_nn]
theorem setOk_sets {P : List (List Nat)} (h : P.length < 64) (h2 : SetsOk P) : setOk (P.map setV) = true := by
  unfold setOk
  simp only [List.length_map, h, sortOk_sets h2, allIntT_setV]
  simp
theorem sort_nn {l : List Nat} : isortK (l.map nn) = (sortN l).map nn := sort_map leK_nn
theorem sort_setV {l : List (List Nat)} : isortK (l.map setV) = (sortS l).map setV := sort_map leK_setV
theorem so_nn {m : Bool} {l : List Nat} {S : Store} : bSorted m (.v (.lst (l.map nn))) S = mkL m ((sortN l).map nn) S := by
  rw [so_l, if_pos sortOk_nn, sort_nn]
theorem so_sets {m : Bool} {P : List (List Nat)} {S : Store} (h : SetsOk P) : bSorted m (.v (.lst (P.map setV))) S = mkL m ((sortS P).map setV) S := by
  rw [so_l, if_pos (sortOk_sets h), sort_setV]
theorem ss_nn {m : Bool} {l : List Nat} {S : Store} (h : l.length < 64) (hn : Asc l) : bSortedSet m (.v (.tup (l.map nn))) S = mkL m (l.map nn) S := by
  rw [ss_t, if_pos (setOk_nn h), dedup_enc (asc_nodup hn), sort_nn, sortN_id hn]
theorem ss_sets {m : Bool} {P : List (List Nat)} {S : Store} (h : P.length < 64) (h2 : SetsOk P) (hn : AscS P) : bSortedSet m (.v (.tup (P.map setV))) S = mkL m (P.map setV) S := by
  rw [ss_t, if_pos (setOk_sets h h2), dedup_enc (ascS_nodup hn), sort_setV, sortS_id hn]
section
variable {n : Nat} {P : List (List Nat)} {S : Store}
theorem Good.sets (h : Good n P) : SetsOk P := by
  by_cases h0 : [] ∈ P
  · left
    have : ∀ p ∈ P, p = [] := fun p hp => (h.anti [] h0 p hp (by simp)).symm
    have hn := ascS_nodup h.srt
    match P, this, hn with
    | [], _, _ => exact Nat.zero_lt_succ _
    | [_], _, _ => exact Nat.lt_succ_self _
    | a :: b :: l, ha, hn =>
      have e1 := ha a (by simp)
      have e2 := ha b (by simp)
      subst e1 e2
      simp at hn
  · right
    intro p hp e
    subst e
    exact h0 hp
theorem are_turn (h : Good n P) {p : List Nat} (hp : p ∈ P) {w : Option SV} : turnF g_are_sets (.name 2) b_are_sets_0 (setV p) [some (.v (pathsV P)), some (.v (nn n)), w, none, none, none, none] S = .ok (.next [some (.v (pathsV P)), some (.v (nn n)), some (.v (setV p)), none, none, none, none]) S := by
  have hl := h.plen hp
  have hlt := h.lt p hp
  have ha := h.asc p hp
  have e : ∀ k ∈ p, ∀ S, F_is_in [.v (nn k), .v (.int 0), .v (.int ((n : Int) - 1))] S = .ok (.v (.bl true)) S := fun k hk S => by
    have := hlt k hk
    rw [is_in_int]
    congr 3
    exact decide_eq_true (by omega)
  simp! [b_are_sets_0, e, ss_nn]
theorem are_loop (h : Good n P) : ∃ w, forL (turnF g_are_sets (.name 2) b_are_sets_0) [] (P.map setV) [some (.v (pathsV P)), some (.v (nn n)), none, none, none, none, none] S = .ok (.next [some (.v (pathsV P)), some (.v (nn n)), w, none, none, none, none]) S := by
  obtain ⟨ρ', e, w, rfl⟩ := forL_same (fun ρ => ∃ w, ρ = [some (.v (pathsV P)), some (.v (nn n)), w, none, none, none, none]) (f := turnF g_are_sets (.name 2) b_are_sets_0) (xs := P.map setV) (ρ := [some (.v (pathsV P)), some (.v (nn n)), none, none, none, none, none]) (S := S) ⟨none, rfl⟩ fun x hx ρ hJ => by
    obtain ⟨p, hp, rfl⟩ := List.mem_map.mp hx
    obtain ⟨w, rfl⟩ := hJ
    exact ⟨_, are_turn h hp, _, rfl⟩
  exact ⟨w, e⟩
theorem F_are_sets_eq (h : Good n P) (h64 : P.length < 64) : F_are_sets [.v (pathsV P), .v (nn n)] S = .ok (.v (.bl true)) S := by
  obtain ⟨w, e⟩ := are_loop (S := S) h
  have hs := h.sets
  have ha := h.srt
  have em : ∀ p ∈ P, ∀ S, F_mask_of [.v (setV p)] S = .ok (.v (nn (mask p))) S := fun p hp S => F_mask_good h hp
  have an : ∀ p ∈ P, ∀ q ∈ P, mask p ≠ mask q → ¬ mask p &&& mask q = mask p := fun p hp q hq hne e => by
    have := (mask_sub (h.asc p hp)).mp e
    refine hne (congrArg mask (h.anti p hp q hq fun k hk => ?_))
    have := this k hk
    rw [mask_bit (h.asc q hq)] at this
    exact of_decide_eq_true this
  simp! [F_are_sets, d_are_sets, e, ss_sets, em]
  exact an
theorem F_is_system_eq (h : Good n P) (h64 : P.length < 64) : F_is_system [.v (sysV n P)] S = .ok (.v (.bl true)) S := by
  have e := fun S => F_are_sets_eq (S := S) h h64
  have e2 : ∀ S, F_is_in [.v (nn n), .v (.int 1), .v (.int 8)] S = .ok (.v (.bl true)) S := fun S => by
    rw [is_in_int]
    congr 3
    exact decide_eq_true (by have := h.n1; have := h.n8; omega)
  simp! [F_is_system, d_is_system, e, e2]
theorem F_need_system_eq (h : Good n P) (h64 : P.length < 64) : F_need_system [.v (sysV n P)] S = .ok (.v .non) S := by
  have e := fun S => F_is_system_eq (S := S) h h64
  simp! [F_need_system, d_need_system, e]
end
end FWP

namespace FWP
open PySem FW
section
variable {n : Nat} {vs : List Bool} {S : Store} {V : PV}
theorem xor_lt {m k : Nat} (hm : m < bitN n) (hk : k < n) : m ^^^ bitN k < bitN n := Nat.xor_lt_two_pow hm (Nat.pow_lt_pow_right (by decide) hk)
end
end FWP

namespace FWP
open PySem FW
section
variable {n : Nat} {vs : List Bool} {P Q : List (List Nat)}
theorem bitN_bit {k j : Nat} : (bitN k).testBit j = decide (k = j) := Nat.testBit_two_pow
theorem bit_lt {m k : Nat} (hm : m < bitN n) (hk : m.testBit k = true) : k < n := by
  refine Nat.lt_of_not_le fun h => ?_
  rw [Nat.testBit_lt_two_pow (Nat.lt_of_lt_of_le hm (Nat.pow_le_pow_right (by decide) h))] at hk
  cases hk
theorem xor_bit {m k j : Nat} : (m ^^^ bitN k).testBit j = (m.testBit j != decide (k = j)) := by rw [Nat.testBit_xor, bitN_bit]
theorem xor_less {m k : Nat} (hk : m.testBit k = true) : m ^^^ bitN k < m := by
  have e : m &&& (m ^^^ bitN k) = m ^^^ bitN k := Nat.eq_of_testBit_eq fun j => by
    rw [Nat.testBit_and, xor_bit]
    by_cases hj : k = j
    · subst hj; simp [hk]
    · simp [hj]
  have h1 : m ^^^ bitN k ≤ m := by
    have := Nat.and_le_left (n := m) (m := m ^^^ bitN k)
    rwa [e] at this
  have h2 : m ^^^ bitN k ≠ m := fun h => by
    have := congrArg (·.testBit k) h
    simp only [xor_bit, hk] at this
    simp at this
  omega
theorem bitN8 (h8 : n ≤ 8) {m : Nat} (hm : m < bitN n) : m < 256 := Nat.lt_of_lt_of_le hm (bitN_le h8)
theorem parts_inj (h8 : n ≤ 8) {a b : Nat} (ha : a < bitN n) (hb : b < bitN n) (h : partsOf a = partsOf b) : a = b := by
  have := congrArg mask h
  rwa [mask_parts (bitN8 h8 ha), mask_parts (bitN8 h8 hb)] at this
theorem sets_of_anti {L : List (List Nat)} (hn : L.Nodup) (h : ∀ p ∈ L, ∀ q ∈ L, (∀ k ∈ p, k ∈ q) → p = q) : SetsOk L := by
  by_cases h0 : [] ∈ L
  · left
    have hall : ∀ p ∈ L, p = [] := fun p hp => (h [] h0 p hp (by simp)).symm
    match L, hall, hn with
    | [], _, _ => exact Nat.zero_lt_succ _
    | [_], _, _ => exact Nat.lt_succ_self _
    | a :: b :: l, ha, hn =>
      have e1 := ha a (by simp)
      have e2 := ha b (by simp)
      subst e1 e2
      simp at hn
  · right
    intro p hp e
    subst e
    exact h0 hp
end
end FWP

namespace FWP
open PySem FW
theorem compL_sub {α : Type} {f : PV → Store → Out (Option PV)} {x : α → PV} {J : Store → Prop} : ∀ {l : List α} {S : Store}, J S → (∀ a ∈ l, ∀ S, J S → ∃ (b : Bool) (S' : Store), f (x a) S = .ok (if b = true then some (x a) else none) S' ∧ J S') → ∃ (l' : List α) (S' : Store), compL f (l.map x) S = .ok (l'.map x) S' ∧ l'.Sublist l ∧ J S'
  | [], S, hJ, _ => ⟨[], S, rfl, List.Sublist.refl _, hJ⟩
  | a :: l, S, hJ, h => by
    obtain ⟨b, S1, e1, h1⟩ := h a List.mem_cons_self S hJ
    obtain ⟨l', S2, e2, h2, h3⟩ := compL_sub (l := l) h1 fun c hc => h c (List.mem_cons_of_mem _ hc)
    refine ⟨if b = true then a :: l' else l', S2, ?_, ?_, h3⟩
    · show (f (x a) S).bind _ = _
      rw [e1]
      show (compL f (l.map x) S1).bind _ = _
      rw [e2]
      cases b <;> rfl
    · cases b
      · exact List.Sublist.cons _ h2
      · exact List.Sublist.cons_cons _ h2
theorem compL_gen {α β : Type} {f : PV → Store → Out (Option PV)} {x : α → PV} {y : β → PV} {J : Store → Prop} {Q : β → Prop} : ∀ {l : List α} {S : Store}, J S → (∀ a ∈ l, ∀ S, J S → ∃ (b : β) (S' : Store), f (x a) S = .ok (some (y b)) S' ∧ Q b ∧ J S') → ∃ (l' : List β) (S' : Store), compL f (l.map x) S = .ok (l'.map y) S' ∧ l'.length = l.length ∧ (∀ b ∈ l', Q b) ∧ J S'
  | [], S, hJ, _ => ⟨[], S, rfl, rfl, fun b hb => absurd hb (by simp), hJ⟩
  | a :: l, S, hJ, h => by
    obtain ⟨b, S1, e1, q1, h1⟩ := h a List.mem_cons_self S hJ
    obtain ⟨l', S2, e2, h2, h3, h4⟩ := compL_gen (l := l) (Q := Q) h1 fun c hc => h c (List.mem_cons_of_mem _ hc)
    refine ⟨b :: l', S2, ?_, by simp [h2], fun c hc => ?_, h4⟩
    · show (f (x a) S).bind _ = _
      rw [e1]
      show (compL f (l.map x) S1).bind _ = _
      rw [e2]
      rfl
    · rcases List.mem_cons.mp hc with rfl | hc
      · exact q1
      · exact h3 c hc
def Dr (p : Nat) (S S' : Store) : Prop := Row S' p ∧ But p S S'
theorem Dr.refl {p : Nat} {S : Store} (h : Row S p) : Dr p S S := ⟨h, But.refl⟩
theorem Dr.len {p : Nat} {S S' : Store} (h : Dr p S S') : S'.length = S.length := h.2.1
theorem Dr.take {p : Nat} {S S' : Store} (h : Dr p S S') : S'.take S.length = S' := List.take_of_length_le (by rw [h.len]; exact Nat.le_refl _)
theorem taken_d {S0 S : Store} {p : Nat} {m : Int} (h : Dr p S0 S) (hm : 0 < m) (hm2 : m < 4294967296) : ∃ (j : Nat) (S' : Store), F__law_taken [.l p, I m] S = .ok (.v (nn j)) S' ∧ (j : Int) < m ∧ Dr p S0 S' := by
  obtain ⟨j, S', e, h0, h1, r, b⟩ := taken_spec h.1 hm hm2
  obtain ⟨j, rfl⟩ : ∃ k : Nat, j = k := ⟨j.toNat, by omega⟩
  exact ⟨j, S', e, h1, r, h.2.trans b⟩
theorem pick_d {S0 S : Store} {p : Nat} {xs : List PV} (h : Dr p S0 S) (h0 : 0 < xs.length) (h1 : xs.length < 4294967296) : ∃ (z : PV) (S' : Store), F__law_pick [.l p, .v (.lst xs)] S = .ok (.v z) S' ∧ z ∈ xs ∧ Dr p S0 S' := by
  obtain ⟨z, S', e, hz, r, b⟩ := pick_spec (x := .lst xs) (t := true) h.1 (fun _ => rfl) h0 h1
  exact ⟨z, S', e, hz, r, h.2.trans b⟩
section
variable {n p : Nat} {S0 S : Store}
theorem comp_v {Γ : List (Str × Fn)} {m own tg it c e} {ρ : Slots} {S S1 S2 : Store} {xs ys : List PV} (hi : evI Γ it ρ S = .ok xs S1) (hc : compL (cTurn (bindG tg) (ev Γ c).t (ev Γ e).v (wipeS ρ own)) xs S1 = .ok ys S2) : (ev Γ (.comp m own tg it c e)).v ρ S = mkL m ys S2 := by
  rw [v_comp, hi]
  show (compL _ xs S1).bind _ = _
  rw [hc, Out.bind_ok]
theorem some_set_spec (h : Dr p S0 S) (h8 : n ≤ 8) : ∃ (q : List Nat) (S' : Store), F__law_some_set [.l p, .v (nn n)] S = .ok (.v (setV q)) S' ∧ Asc q ∧ (∀ k ∈ q, k < n) ∧ Dr p S0 S' := by
  obtain ⟨z, S1, e1, hz, d1⟩ := pick_d (xs := [.int 2, .int 2, .int 3]) h (by decide) (by decide)
  obtain ⟨m, rfl, hm0, hm1⟩ : ∃ m : Int, z = .int m ∧ 0 < m ∧ m < 4294967296 := by
    simp only [List.mem_cons, List.not_mem_nil, or_false] at hz
    rcases hz with rfl | rfl | rfl
    · exact ⟨2, rfl, by decide, by decide⟩
    · exact ⟨2, rfl, by decide, by decide⟩
    · exact ⟨3, rfl, by decide, by decide⟩
  have ec : ∃ (q : List Nat) (S' : Store), (ev g__law_some_set c__law_some_set_0).v [some (.l p), some (.v (nn n)), some (.v (.int m)), none] S1 = mkL false (q.map nn) S' ∧ q.Sublist (List.range n) ∧ Dr p S0 S' := by
    obtain ⟨q, S', e, hs, hd⟩ := compL_sub (J := Dr p S0) (x := nn) (l := List.range n) (S := S1) (f := cTurn (bindG (.name 3)) (ev g__law_some_set (.cmp .eq (.call 1 (.cons (.var 0) (.cons (.var 2) .nil))) (.k (.int 0)))).t (ev g__law_some_set (.var 3)).v (wipeS [some (.l p), some (.v (nn n)), some (.v (.int m)), none] [3])) d1 fun k hk S hS => by
      obtain ⟨j, S', e, hj, hd⟩ := taken_d (m := m) hS hm0 hm1
      refine ⟨decide (j = 0), S', ?_, hd⟩
      simp! [e, cast_0]
      by_cases hj0 : j = 0 <;> simp [hj0]
    exact ⟨q, S', comp_v (by simp! []) e, hs, hd⟩
  obtain ⟨q, S2, e2, hs, d2⟩ := ec
  have ha : Asc q := List.Pairwise.sublist hs asc_range
  have hlt : ∀ k ∈ q, k < n := fun k hk => List.mem_range.mp (hs.subset hk)
  have hl := asc_len ha hlt
  have hl2 := h.len
  have hl3 := d2.len
  have ht : S2.take S.length = S2 := List.take_of_length_le (by omega)
  exact ⟨q, S2, by simp! [F__law_some_set, d__law_some_set, e1, ↓e2, ht], ha, hlt, d2⟩
def keep (L : List (List Nat)) (p : List Nat) : Bool := L.all fun o => decide (o = p) || o.any fun k => decide (k ∉ p)
def leastA (L : List (List Nat)) (f M : List (List Nat)) : List (List Nat) := M.foldl (fun f p => f ++ if keep L p = true ∧ p ∉ f then [p] else []) f
abbrev leastS (L M : List (List Nat)) : List (List Nat) := leastA L [] M
theorem keep_iff {L : List (List Nat)} {q : List Nat} : keep L q = true ↔ ∀ o ∈ L, (∀ k ∈ o, k ∈ q) → o = q := by
  unfold keep
  simp only [List.all_eq_true, Bool.or_eq_true, decide_eq_true_eq, List.any_eq_true]
  refine forall_congr' fun o => imp_congr_right fun _ => ⟨fun h hs => ?_, fun h => ?_⟩
  · rcases h with h | ⟨k, hk, hn⟩
    · exact h
    · exact absurd (hs k hk) hn
  · by_cases hs : ∀ k ∈ o, k ∈ q
    · exact .inl (h hs)
    · obtain ⟨k, hk⟩ := Classical.not_forall.mp hs
      obtain ⟨hk, hn⟩ := Classical.not_imp.mp hk
      exact .inr ⟨k, hk, hn⟩
theorem leastA_cons {L f M : List (List Nat)} {q : List Nat} : leastA L f (q :: M) = leastA L (f ++ if keep L q = true ∧ q ∉ f then [q] else []) M := rfl
theorem mem_leastA {L : List (List Nat)} {q : List Nat} : ∀ {M f : List (List Nat)}, q ∈ leastA L f M ↔ q ∈ f ∨ (q ∈ M ∧ keep L q = true)
  | [], f => by simp [leastA]
  | r :: M, f => by
    rw [leastA_cons, mem_leastA, List.mem_append]
    by_cases h : keep L r = true ∧ r ∉ f
    · rw [if_pos h]
      rw [List.mem_singleton, List.mem_cons]
      constructor
      · rintro ((h1 | rfl) | h2)
        · exact .inl h1
        · exact .inr ⟨.inl rfl, h.1⟩
        · exact .inr ⟨.inr h2.1, h2.2⟩
      · rintro (h1 | ⟨rfl | h1, h2⟩)
        · exact .inl (.inl h1)
        · exact .inl (.inr rfl)
        · exact .inr ⟨h1, h2⟩
    · rw [if_neg h]
      simp only [List.not_mem_nil, or_false, List.mem_cons]
      constructor
      · rintro (h1 | h2)
        · exact .inl h1
        · exact .inr ⟨.inr h2.1, h2.2⟩
      · rintro (h1 | ⟨rfl | h1, h2⟩)
        · exact .inl h1
        · exact .inl (Classical.byContradiction fun hn => h ⟨h2, hn⟩)
        · exact .inr ⟨h1, h2⟩
theorem leastA_nodup {L : List (List Nat)} : ∀ {M f : List (List Nat)}, f.Nodup → (leastA L f M).Nodup
  | [], f, h => h
  | r :: M, f, hf => by
    rw [leastA_cons]
    refine leastA_nodup ?_
    by_cases h : keep L r = true ∧ r ∉ f
    · rw [if_pos h]
      refine List.pairwise_append.mpr ⟨hf, List.pairwise_singleton _ _, fun a ha b hb e => ?_⟩
      rw [List.mem_singleton] at hb
      subst hb e
      exact h.2 ha
    · rw [if_neg h, List.append_nil]
      exact hf
theorem mem_leastS {L M : List (List Nat)} {q : List Nat} : q ∈ leastS L M ↔ q ∈ M ∧ keep L q = true := by
  rw [mem_leastA]
  simp
theorem leastS_nodup {L M : List (List Nat)} : (leastS L M).Nodup := leastA_nodup List.Pairwise.nil
theorem leastS_anti {L : List (List Nat)} : ∀ a ∈ leastS L L, ∀ b ∈ leastS L L, (∀ k ∈ a, k ∈ b) → a = b := fun a ha b hb hs => keep_iff.mp (mem_leastS.mp hb).2 a (mem_leastS.mp ha).1 hs
theorem least_turn {L : List (List Nat)} {V : PV} (hV : V = .tup (L.map setV) ∨ V = .lst (L.map setV)) (hL : L.length ≤ 1000) (hp : ∀ q ∈ L, q.length ≤ 16777216) {M : List (List Nat)} (hM : M.length ≤ 1000) {q : List Nat} {w2 w3 w4 w5 : Option SV} : ∃ w3' : Option SV, turnF g__law_least (.name 2) b__law_least_0 (setV q) [some (.v V), some (.v (.lst (M.map setV))), w2, w3, w4, w5] S =
    .ok (.next [some (.v V), some (.v (.lst ((M ++ if keep L q = true ∧ q ∉ M then [q] else []).map setV))), some (.v (setV q)), w3', w4, w5]) S := by
  have hk : (∀ a : List Nat, a ∈ L → ¬a = q → ∃ x : Nat, x ∈ a ∧ ¬x ∈ q) ↔ keep L q = true := by
    rw [keep_iff]
    refine forall_congr' fun a => imp_congr_right fun _ => ⟨fun h hs => Classical.byContradiction fun hn => ?_, fun h hn => ?_⟩
    · obtain ⟨x, h1, h2⟩ := h hn
      exact h2 (hs x h1)
    · refine Classical.byContradiction fun hx => hn (h fun k hk => Classical.byContradiction fun hq => hx ⟨k, hk, hq⟩)
  refine ⟨some (.v (.lst ((L.filter fun a => !decide (a = q) && decide (∀ x, x ∈ a → x ∈ q)).map setV))), ?_⟩
  by_cases h1 : keep L q = true <;> by_cases h2 : q ∈ M <;> rcases hV with rfl | rfl <;> simp! [b__law_least_0, hk, h1, h2]
theorem least_loop {L : List (List Nat)} {V : PV} (hV : V = .tup (L.map setV) ∨ V = .lst (L.map setV)) (hL : L.length ≤ 1000) (hp : ∀ q ∈ L, q.length ≤ 16777216) : ∀ (R : List (List Nat)) (f : List (List Nat)) (w2 w3 : Option SV), f.length + R.length ≤ 1000 → ∃ w2' w3' : Option SV, forL (turnF g__law_least (.name 2) b__law_least_0) [] (R.map setV) [some (.v V), some (.v (.lst (f.map setV))), w2, w3, none, none] S =
    .ok (.next [some (.v V), some (.v (.lst ((leastA L f R).map setV))), w2', w3', none, none]) S
  | [], f, w2, w3, _ => ⟨w2, w3, rfl⟩
  | q :: R, f, w2, w3, hl => by
    rw [List.length_cons] at hl
    obtain ⟨w3', e⟩ := least_turn (S := S) hV hL hp (M := f) (by omega) (q := q) (w2 := w2) (w3 := w3) (w4 := none) (w5 := none)
    obtain ⟨w2'', w3'', e2⟩ := least_loop hV hL hp R (f ++ if keep L q = true ∧ q ∉ f then [q] else []) (some (.v (setV q))) w3' (by
      rw [List.length_append]
      split <;> simp <;> omega)
    refine ⟨w2'', w3'', ?_⟩
    show (turnF g__law_least (.name 2) b__law_least_0 (setV q) _ S).bind _ = _
    rw [e, Out.bind_ok, leastA_cons]
    exact e2
theorem F__law_least_eq {L : List (List Nat)} {V : PV} (hV : V = .tup (L.map setV) ∨ V = .lst (L.map setV)) (hL : L.length ≤ 1000) (hp : ∀ q ∈ L, q.length ≤ 16777216) : F__law_least [.v V] S = .ok (.v (pathsV (sortS (leastS L L)))) S := by
  obtain ⟨w2, w3, e⟩ := least_loop (S := S) hV hL hp L [] none none (by simpa using hL)
  have hs : SetsOk (leastS L L) := sets_of_anti leastS_nodup leastS_anti
  have hl : (leastS L L).length ≤ 1000 := Nat.le_trans (List.Nodup.length_le_of_subset leastS_nodup fun a ha => (mem_leastS.mp ha).1) hL
  have hl2 : (sortS (leastS L L)).length ≤ 1000 := by rw [sortG_len]; exact hl
  have e' : forL (turnF g__law_least (.name 2) b__law_least_0) [] (L.map setV) [some (.v V), some (.v (.lst [])), none, none, none, none] S = .ok (.next [some (.v V), some (.v (.lst ((leastS L L).map setV))), w2, w3, none, none]) S := e
  rcases hV with rfl | rfl
  · simp! [F__law_least, d__law_least, e', so_sets]
  · simp! [F__law_least, d__law_least, e', so_sets]
theorem least_good {L : List (List Nat)} (h1 : 1 ≤ n) (h8 : n ≤ 8) (ha : ∀ q ∈ L, Asc q) (hlt : ∀ q ∈ L, ∀ k ∈ q, k < n) : Good n (sortS (leastS L L)) := by
  have mm : ∀ q, q ∈ sortS (leastS L L) → q ∈ L := fun q hq => (mem_leastS.mp (mem_sortG.mp hq)).1
  exact ⟨h1, h8, fun q hq => ha q (mm q hq), fun q hq => hlt q (mm q hq), sortS_asc leastS_nodup, fun a ha b hb => leastS_anti a (mem_sortG.mp ha) b (mem_sortG.mp hb)⟩
theorem system_spec {most : Nat} (h : Dr p S0 S) (hS : S.length = S0.length) (h1 : 1 ≤ most) (h8 : most ≤ 8) : ∃ (n : Nat) (P : List (List Nat)) (S' : Store), F__law_system [.l p, .v (nn most)] S = .ok (.v (sysV n P)) S' ∧ Good n P ∧ n ≤ most ∧ P.length ≤ 6 ∧ Dr p S0 S' := by
  obtain ⟨j, S1, e1, hj, d1⟩ := taken_d (m := (most : Int)) h (by omega) (by omega)
  have hj' : j < most := by omega
  obtain ⟨z, S2, e2, hz, d2⟩ := pick_d (xs := [.int 1, .int 2, .int 3, .int 4, .int 5, .int 6]) d1 (by decide) (by decide)
  obtain ⟨m, rfl, hm⟩ : ∃ m : Nat, z = nn m ∧ m ≤ 6 := by
    simp only [List.mem_cons, List.not_mem_nil, or_false] at hz
    rcases hz with rfl | rfl | rfl | rfl | rfl | rfl
    · exact ⟨1, rfl, by decide⟩
    · exact ⟨2, rfl, by decide⟩
    · exact ⟨3, rfl, by decide⟩
    · exact ⟨4, rfl, by decide⟩
    · exact ⟨5, rfl, by decide⟩
    · exact ⟨6, rfl, by decide⟩
  obtain ⟨n, hn⟩ : ∃ n, n = 1 + j := ⟨_, rfl⟩
  have hn8 : n ≤ 8 := by omega
  have hn1 : 1 ≤ n := by omega
  have hc : (1 : Int) + (j : Int) = (n : Int) := by omega
  obtain ⟨L, S3, e3, hL, hq, d3⟩ := compL_gen (J := Dr p S0) (x := nn) (y := setV) (Q := fun q => Asc q ∧ ∀ k ∈ q, k < n) (l := List.range m) (S := S2) (f := cTurn (bindG (.name 4)) (ev g__law_system (.k (.bl true))).t (ev g__law_system (.call 1 (.cons (.var 0) (.cons (.var 2) .nil)))).v (wipeS [some (.l p), some (.v (nn most)), some (.v (nn n)), none, none, none] [4])) d2 fun k hk S hS => by
    obtain ⟨q, S', e, ha, hl, hd⟩ := some_set_spec hS hn8
    exact ⟨q, S', by simp! [e], ⟨ha, hl⟩, hd⟩
  obtain ⟨L', S4, e4, hs, d4⟩ := compL_sub (J := Dr p S0) (x := setV) (l := L) (S := S3) (f := cTurn (bindG (.name 5)) (ev g__law_system (.or (.cons (.cmp .ne (.var 5) (.tup .nil)) (.cons (.cmp .eq (.call 0 (.cons (.var 0) (.cons (.k (.int 9)) .nil))) (.k (.int 0))) .nil)))).t (ev g__law_system (.var 5)).v (wipeS [some (.l p), some (.v (nn most)), some (.v (nn n)), some (.v (.lst (L.map setV))), none, none] [5])) d3 fun q hq S hS => by
    by_cases h0 : q = []
    · subst h0
      obtain ⟨i, S', e, hi, hd⟩ := taken_d (m := 9) hS (by decide) (by decide)
      refine ⟨decide (i = 0), S', ?_, hd⟩
      simp! [e, cast_0]
      by_cases hj0 : i = 0 <;> simp [hj0]
    · refine ⟨true, S, ?_, hS⟩
      have : eqP (.tup (q.map nn)) (.tup []) = some false := by
        have := eqP_tups (x := nn) (l := q) (l' := []) (by decide)
        rw [List.map_nil] at this
        rw [this]
        simp [h0]
      simp! [this]
  rw [List.length_range] at hL
  have hL' : L'.length ≤ 6 := Nat.le_trans hs.length_le (by omega)
  have ha : ∀ q ∈ L', Asc q := fun q h => (hq q (hs.subset h)).1
  have hlt : ∀ q ∈ L', ∀ k ∈ q, k < n := fun q h => (hq q (hs.subset h)).2
  have g := least_good (L := L') hn1 hn8 ha hlt
  have e5 := fun S => F__law_least_eq (S := S) (L := L') (V := .lst (L'.map setV)) (.inr rfl) (by omega) fun q hq => Nat.le_trans (asc_len (ha q hq) (hlt q hq)) (by omega)
  have ev1 : (ev g__law_system c__law_system_0).v [some (.l p), some (.v (nn most)), some (.v (nn n)), none, none, none] S1 = mkL false (L.map setV) S3 := comp_v (by simp! [e2]) e3
  have ev2 : (ev g__law_system c__law_system_1).v [some (.l p), some (.v (nn most)), some (.v (nn n)), some (.v (.lst (L.map setV))), none, none] S3 = mkL false (L'.map setV) S4 := comp_v (by simp! []) e4
  have ht : S4.take S.length = S4 := List.take_of_length_le (by rw [d4.len, hS]; exact Nat.le_refl _)
  refine ⟨n, sortS (leastS L' L'), S4, ?_, g, by omega, ?_, d4⟩
  · have e1' : F__law_taken [.l p, .v (.int (most : Int))] S = .ok (.v (.int (j : Int))) S1 := e1
    simp only [nn] at ev1 ev2
    simp! [F__law_system, d__law_system, e1', hc, ↓ev1, ↓ev2, e5, ht]
  · rw [sortG_len]
    exact Nat.le_trans (List.Nodup.length_le_of_subset leastS_nodup fun a ha => (mem_leastS.mp ha).1) hL'
end
end FWP

namespace FWP
open PySem FW
def lawStates (n : Nat) : List (List Bool) := (List.range (bitN n)).map (stAt n)
theorem stAt_succ {i m : Nat} (h : m < bitN i) : stAt (i + 1) m = stAt i m ++ [false] ∧ stAt (i + 1) (bitN i + m) = stAt i m ++ [true] := by
  unfold stAt
  rw [List.range_succ, List.map_append, List.map_append]
  constructor
  · rw [List.map_singleton, Nat.testBit_lt_two_pow h]
  · rw [List.map_singleton, show bitN i = 2 ^ i from rfl, Nat.testBit_two_pow_add_eq, Nat.testBit_lt_two_pow h]
    congr 1
    exact List.map_congr_left fun k hk => Nat.testBit_two_pow_add_gt (List.mem_range.mp hk) m
theorem lawStates_succ (i : Nat) : lawStates (i + 1) = (lawStates i).map (· ++ [false]) ++ (lawStates i).map (· ++ [true]) := by
  unfold lawStates
  rw [show bitN (i + 1) = bitN i + bitN i by unfold bitN; rw [Nat.pow_succ]; omega, List.range_add, List.map_append, List.map_map, List.map_map, List.map_map]
  congr 1
  · exact List.map_congr_left fun m hm => (stAt_succ (List.mem_range.mp hm)).1
  · exact List.map_congr_left fun m hm => (stAt_succ (List.mem_range.mp hm)).2
theorem lawStates_mem {n : Nat} {st : List Bool} (h : st ∈ lawStates n) : st.length = n := by
  obtain ⟨m, _, rfl⟩ := List.mem_map.mp h
  exact stAt_len n m
section
variable {n p : Nat} {S0 S : Store}
end
end FWP

namespace FWP
open PySem FW
theorem okA_map {α : Type} {n : Nat} {x : α → PV} {l : List α} (hl : l.length ≤ 4000000) (h : ∀ a ∈ l, okA n (x a) = true) : okA (n + 1) (.tup (l.map x)) = true := by
  simp only [okA, List.length_map, hl, decide_true, Bool.true_and, List.all_map, List.all_eq_true]
  exact h
theorem okA_set {n : Nat} {q : List Nat} (h : q.length ≤ 4000000) : okA (n + 2) (setV q) = true := okA_map h fun _ _ => rfl
theorem okA_paths {n : Nat} {P : List (List Nat)} (h : P.length ≤ 4000000) (hq : ∀ q ∈ P, q.length ≤ 4000000) : okA (n + 3) (pathsV P) = true := okA_map h fun q hq' => okA_set (hq q hq')
theorem okA_pair {n : Nat} {a b : PV} (ha : okA n a = true) (hb : okA n b = true) : okA (n + 1) (.tup [a, b]) = true := by simp [okA, ha, hb]
section
variable {n : Nat} {P : List (List Nat)} {vs : List Bool} {S : Store}
theorem Good.okS (h : Good n P) {m : Nat} : okA (m + 4) (sysV n P) = true := okA_pair rfl (okA_paths (by have := h.len; omega) fun q hq => by have := h.plen hq; omega)
end
end FWP

namespace FWP
open PySem FW
section
variable {n k : Nat} {P : List (List Nat)} {S : Store} {st : List Bool}
end
end FWP

namespace FWP
open PySem FW
def putK (K : List Nat) (c : Nat) : List Nat := if c ∈ K then K else K ++ [c]
theorem nodup_len {K : List Nat} {b : Nat} (h : K.Nodup) (hb : ∀ c ∈ K, c < b) : K.length ≤ b := by
  have := List.Nodup.length_le_of_subset h (l₂ := List.range b) fun c hc => List.mem_range.mpr (hb c hc)
  simpa using this
structure CutI (n : Nat) (Q : List (List Nat)) (M : List Nat) : Prop where
  asc : Asc M
  lt : ∀ c ∈ M, c < bitN n
  anti : ∀ a ∈ M, ∀ b ∈ M, a &&& b = b → a = b
  up : ∀ m, (∃ c ∈ M, c &&& m = c) ↔ ∀ p ∈ Q, ∃ k ∈ p, m.testBit k = true
section
variable {n : Nat} {P Q : List (List Nat)} {M : List Nat} {p : List Nat} {S : Store}
theorem Good.mask_lt (h : Good n P) {p : List Nat} (hp : p ∈ P) : mask p < bitN n := FWP.mask_lt (h.asc p hp) (h.lt p hp)
end
end FWP

namespace FWP
open PySem FW
section
variable {n : Nat} {P Q : List (List Nat)} {S : Store}
end
end FWP

namespace FWP
open PySem FW
def subs : Nat → List (List Nat)
  | 0 => [[]]
  | m + 1 => subs m ++ (subs m).map (· ++ [m])
theorem subs_len : ∀ m, (subs m).length = bitN m
  | 0 => rfl
  | m + 1 => by
    show (subs m ++ _).length = _
    rw [List.length_append, List.length_map, subs_len m]
    show 2 ^ m + 2 ^ m = 2 ^ (m + 1)
    omega
theorem subs_lt : ∀ {m : Nat} {L : List Nat}, L ∈ subs m → ∀ k ∈ L, k < m
  | 0, L, h, k, hk => by
    rw [show subs 0 = [[]] from rfl, List.mem_singleton] at h
    subst h
    cases hk
  | m + 1, L, h, k, hk => by
    rcases List.mem_append.mp h with h | h
    · have := subs_lt h k hk; omega
    · obtain ⟨L', h', rfl⟩ := List.mem_map.mp h
      rcases List.mem_append.mp hk with hk | hk
      · have := subs_lt h' k hk; omega
      · rw [List.mem_singleton] at hk; omega
theorem subs_asc : ∀ {m : Nat} {L : List Nat}, L ∈ subs m → Asc L
  | 0, L, h => by
    rw [show subs 0 = [[]] from rfl, List.mem_singleton] at h
    subst h
    exact List.Pairwise.nil
  | m + 1, L, h => by
    rcases List.mem_append.mp h with h | h
    · exact subs_asc h
    · obtain ⟨L', h', rfl⟩ := List.mem_map.mp h
      refine List.pairwise_append.mpr ⟨subs_asc h', List.pairwise_singleton _ _, fun a ha b hb => ?_⟩
      rw [List.mem_singleton] at hb
      subst hb
      exact subs_lt h' a ha
def subsLe (m s : Nat) : List (List Nat) := (subs m).filter fun l => decide (l.length ≤ s)
theorem subsLe_succ (m s : Nat) : subsLe (m + 1) s = subsLe m s ++ ((subsLe m s).filter fun l => decide (l.length < s)).map (· ++ [m]) := by
  unfold subsLe
  rw [show subs (m + 1) = subs m ++ (subs m).map (· ++ [m]) from rfl, List.filter_append, List.filter_map, List.filter_filter]
  congr 2
  refine List.filter_congr fun l _ => ?_
  show decide ((l ++ [m]).length ≤ s) = _
  rw [List.length_append, List.length_singleton]
  by_cases h : l.length < s
  · rw [decide_eq_true (show l.length + 1 ≤ s by omega), decide_eq_true h, decide_eq_true (show l.length ≤ s by omega)]; rfl
  · rw [decide_eq_false (show ¬ l.length + 1 ≤ s by omega), decide_eq_false h]; rfl
theorem subsLe_len (m s : Nat) : (subsLe m s).length ≤ bitN m := by
  have := List.length_filter_le (fun l : List Nat => decide (l.length ≤ s)) (subs m)
  rw [subs_len] at this
  exact this
def subsEq (m s : Nat) : List (List Nat) := sortS ((subs m).filter fun l => decide (l.length = s))
theorem mem_subsEq {m s : Nat} {L : List Nat} : L ∈ subsEq m s ↔ L ∈ subs m ∧ L.length = s := by
  unfold subsEq
  rw [mem_sortG, List.mem_filter]
  simp
theorem subsEq_len (m s : Nat) : (subsEq m s).length ≤ bitN m := by
  unfold subsEq
  rw [sortG_len]
  have := List.length_filter_le (fun l : List Nat => decide (l.length = s)) (subs m)
  rw [subs_len] at this
  exact this
theorem bitN_10 {m : Nat} (h : m ≤ 10) : bitN m ≤ 1024 := by
  have : ∀ m, m ≤ 10 → bitN m ≤ 1024 := by decide
  exact this m h
section
variable {m s : Nat} {S : Store}
theorem subs_turn (hm : m ≤ 10) {k : Nat} (hk : k < m) {w3 : Option SV} : turnF g__law_subsets (.name 3) b__law_subsets_0 (nn k) [some (.v (nn m)), some (.v (nn s)), some (.v (.lst ((subsLe k s).map setV))), w3, none] S =
    .ok (.next [some (.v (nn m)), some (.v (nn s)), some (.v (.lst ((subsLe (k + 1) s).map setV))), some (.v (nn k)), none]) S := by
  have hl := subsLe_len k s
  have hb := bitN_10 (m := k) (by omega)
  have hq : ∀ q ∈ subsLe k s, q.length ≤ 1000 := fun q hq => by
    have h1 := (List.mem_filter.mp hq).1
    have := asc_len (subs_asc h1) (subs_lt h1)
    omega
  have e2 : ∀ q ∈ subsLe k s, ∀ S, mkT (q.map nn ++ [nn k]) S = .ok (.v (setV (q ++ [k]))) S := fun q h S => by
    rw [mkT_ok (by have := hq q h; simp; omega), snoc_map]
  have e3 : (((subsLe k s).filter fun l => decide (l.length < s)).map fun q => setV (q ++ [k])) = (((subsLe k s).filter fun l => decide (l.length < s)).map (· ++ [k])).map setV := by rw [List.map_map]; rfl
  have hfl := List.length_filter_le (fun l : List Nat => decide (l.length < s)) (subsLe k s)
  have hap : (((subsLe k s).filter fun l => decide (l.length < s)).map setV).length ≤ 1024 := by rw [List.length_map]; omega
  rw [subsLe_succ, List.map_append, ← e3]
  simp only [nn] at e2
  simp! [b__law_subsets_0, e2]
theorem F__law_subsets_eq (hm : m ≤ 10) (hs : 1 ≤ s) : F__law_subsets [.v (nn m), .v (nn s)] S = .ok (.v (.lst ((subsEq m s).map setV))) S := by
  obtain ⟨ρ', S', e, hJ, rfl⟩ := forL_inv (f := turnF g__law_subsets (.name 3) b__law_subsets_0) (fun i ρ S' => (∃ w3, ρ = [some (.v (nn m)), some (.v (nn s)), some (.v (.lst ((subsLe i s).map setV))), w3, none]) ∧ S' = S) ((List.range m).map nn) 0 (ρ := [some (.v (nn m)), some (.v (nn s)), some (.v (.lst ((subsLe 0 s).map setV))), none, none]) (S := S) (fun j x ρ S' hx ⟨⟨w3, hρ⟩, hS⟩ => by
    subst hρ hS
    rw [List.getElem?_map] at hx
    by_cases hj : j < m
    · rw [List.getElem?_range hj] at hx
      obtain rfl := Option.some.inj hx
      rw [Nat.zero_add]
      exact ⟨_, _, subs_turn hm hj, ⟨_, rfl⟩, rfl⟩
    · rw [List.getElem?_eq_none (by simpa using hj)] at hx
      cases hx) ⟨⟨none, rfl⟩, rfl⟩
  obtain ⟨w3, rfl⟩ := hJ
  rw [Nat.zero_add, List.length_map, List.length_range] at e
  have e' : forL (turnF g__law_subsets (.name 3) b__law_subsets_0) [] ((List.range m).map nn) [some (.v (nn m)), some (.v (nn s)), some (.v (.lst [.tup []])), none, none] S' = .ok (.next [some (.v (nn m)), some (.v (nn s)), some (.v (.lst ((subsLe m s).map setV))), w3, none]) S' := e
  have hf : (subsLe m s).filter (fun l => decide (l.length = s)) = (subs m).filter fun l => decide (l.length = s) := by
    unfold subsLe
    rw [List.filter_filter]
    refine List.filter_congr fun l _ => ?_
    by_cases h : l.length = s
    · rw [decide_eq_true h, decide_eq_true (show l.length ≤ s by omega)]; rfl
    · rw [decide_eq_false h]; rfl
  have hso : SetsOk ((subs m).filter fun l => decide (l.length = s)) := .inr fun p hp h0 => by
    have := of_decide_eq_true (List.mem_filter.mp hp).2
    rw [h0] at this
    simp at this
    omega
  have hb := bitN_10 hm
  have hl := subsLe_len m s
  have hl2 := subsEq_len m s
  have hsl : (subs m).length ≤ 1024 := by rw [subs_len]; exact hb
  have e2 : ∀ m' S, bSorted m' (.v (.lst (((subs m).filter fun l => decide (l.length = s)).map setV))) S = mkL m' ((subsEq m s).map setV) S := fun m' S => so_sets hso
  simp! [F__law_subsets, d__law_subsets, e', hf, e2]
end
def usedA (f : List Nat) (Q : List (List Nat)) : List Nat := Q.foldl (fun f p => f ++ p.filter fun k => decide (k ∉ f)) f
def usedL (Q : List (List Nat)) : List Nat := sortN (usedA [] Q)
theorem mem_usedA {k : Nat} : ∀ {Q : List (List Nat)} {f : List Nat}, k ∈ usedA f Q ↔ k ∈ f ∨ ∃ p ∈ Q, k ∈ p
  | [], f => by simp [usedA]
  | p :: Q, f => by
    show k ∈ usedA (f ++ p.filter fun k => decide (k ∉ f)) Q ↔ _
    rw [mem_usedA, List.mem_append, List.mem_filter]
    simp only [decide_eq_true_eq, List.mem_cons, exists_eq_or_imp]
    by_cases h : k ∈ f <;> simp [h]
theorem usedA_nodup : ∀ {Q : List (List Nat)} {f : List Nat}, f.Nodup → (∀ p ∈ Q, p.Nodup) → (usedA f Q).Nodup
  | [], f, h, _ => h
  | p :: Q, f, h, hQ => by
    show (usedA (f ++ p.filter fun k => decide (k ∉ f)) Q).Nodup
    refine usedA_nodup ?_ fun q hq => hQ q (List.mem_cons_of_mem _ hq)
    refine List.pairwise_append.mpr ⟨h, List.Pairwise.filter _ (hQ p List.mem_cons_self), fun a ha b hb e => ?_⟩
    subst e
    have := (List.mem_filter.mp hb).2
    simp [ha] at this
theorem mem_usedL {Q : List (List Nat)} {k : Nat} : k ∈ usedL Q ↔ ∃ p ∈ Q, k ∈ p := by
  unfold usedL
  rw [mem_sortG, mem_usedA]
  simp
theorem usedL_asc {Q : List (List Nat)} (h : ∀ p ∈ Q, Asc p) : Asc (usedL Q) := sortN_asc (usedA_nodup List.Pairwise.nil fun p hp => asc_nodup (h p hp))
theorem F__law_usedV {Q : List (List Nat)} {S : Store} {V : PV} (hV : V = .tup (Q.map setV) ∨ V = .lst (Q.map setV)) (h : ∀ p ∈ Q, Asc p) (h8 : ∀ p ∈ Q, ∀ k ∈ p, k < 8) : F__law_used [.v V] S = .ok (.v (.lst ((usedL Q).map nn))) S := by
  have len : ∀ {f : List Nat}, f.Nodup → (∀ k ∈ f, k < 8) → f.length ≤ 8 := fun h1 h2 => nodup_len h1 h2
  obtain ⟨ρ', e, ⟨w2, rfl⟩, _, _⟩ := loop_fold (x := setV) (S := S) (f := turnF g__law_used (.name 2) b__law_used_0) (step := fun f p => f ++ p.filter fun k => decide (k ∉ f)) (fun f ρ => (∃ w2, ρ = [some (.v V), some (.v (.lst (f.map nn))), w2, none]) ∧ f.Nodup ∧ ∀ k ∈ f, k < 8) Q [] (ρ := [some (.v V), some (.v (.lst (([] : List Nat).map nn))), none, none]) ⟨⟨none, rfl⟩, List.Pairwise.nil, by simp⟩ fun p hp f ρ ⟨⟨w2, hρ⟩, hn, hlt⟩ => by
    subst hρ
    have hl := len hn hlt
    have hpl := len (asc_nodup (h p hp)) (h8 p hp)
    have hfl := List.length_filter_le (fun k => !decide (k ∈ f)) p
    refine ⟨[some (.v V), some (.v (.lst ((f ++ p.filter fun k => decide (k ∉ f)).map nn))), some (.v (setV p)), none], ?_, ⟨_, rfl⟩, ?_, ?_⟩
    · simp! [b__law_used_0]
    · exact usedA_nodup (Q := [p]) hn fun q hq => by rw [List.mem_singleton] at hq; subst hq; exact asc_nodup (h _ hp)
    · intro k hk
      rcases List.mem_append.mp hk with hk | hk
      · exact hlt k hk
      · exact h8 p hp k (List.mem_filter.mp hk).1
  have e' : forL (turnF g__law_used (.name 2) b__law_used_0) [] (Q.map setV) [some (.v V), some (.v (.lst [])), none, none] S = .ok (.next [some (.v V), some (.v (.lst ((usedA [] Q).map nn))), w2, none]) S := e
  have hul : (usedL Q).length ≤ 8 := nodup_len (asc_nodup (usedL_asc h)) fun k hk => by
    obtain ⟨p, hp, hk⟩ := mem_usedL.mp hk
    exact h8 p hp k hk
  have e2 : ∀ m' S, bSorted m' (.v (.lst ((usedA [] Q).map nn))) S = mkL m' ((usedL Q).map nn) S := fun m' S => so_nn
  rcases hV with rfl | rfl <;> simp! [F__law_used, d__law_used, e', e2]
theorem F__law_used_eq {Q : List (List Nat)} {S : Store} (h : ∀ p ∈ Q, Asc p) (h8 : ∀ p ∈ Q, ∀ k ∈ p, k < 8) : F__law_used [.v (.lst (Q.map setV))] S = .ok (.v (.lst ((usedL Q).map nn))) S := F__law_usedV (.inr rfl) h h8
end FWP

namespace FWP
open PySem FW
section
variable {n k : Nat} {P Q : List (List Nat)} {M K : List Nat} {S : Store}
theorem Good.sub (h : Good n P) (hs : Q.Sublist P) : Good n Q :=
  ⟨h.n1, h.n8, fun p hp => h.asc p (hs.subset hp), fun p hp => h.lt p (hs.subset hp), h.srt.sublist hs, fun p hp q hq => h.anti p (hs.subset hp) q (hs.subset hq)⟩
end
end FWP

namespace FWP
open PySem FW
section
variable {k l : Nat} {q r : Rat} {S : Store}
end
abbrev rvs (L : List Rat) : List PV := L.map rv
def lv (L : List Rat) : PV := .tup (rvs L)
theorem rv_inj {q r : Rat} (h1 : q.num = r.num) (h2 : q.den = r.den) : q = r := Rat.ext h1 h2
theorem eqv_rv (q r : Rat) : eqv (rv q) (rv r) = decide (q = r) := by
  show (decide (q.num = r.num) && (decide ((q.den : Int) = (r.den : Int)) && true)) = _
  by_cases h : q = r
  · subst h; simp
  · rw [decide_eq_false h]
    by_cases h1 : q.num = r.num
    · have : ¬ ((q.den : Int) = (r.den : Int)) := fun z => h (rv_inj h1 (by omega))
      simp [this]
    · simp [h1]
structure LifeN (n k : Nat) (L : List Rat) : Prop where
  len : 2 ≤ L.length ∧ L.length ≤ n
  bd : ∀ q ∈ L, Bd k q
  ch : ∀ q ∈ L, 0 ≤ q ∧ q ≤ 1
  first : L[0]? = some 1
  last : L[L.length - 1]? = some 0
  pos : ∀ q ∈ L.dropLast, q ≠ 0
  fall : ∀ (t : Nat) (q r : Rat), L[t]? = some q → L[t + 1]? = some r → r ≤ q
section
variable {k : Nat} {L : List Rat} {S : Store}
end
end FWP

namespace FWP
open PySem FW
def sumR : List Rat → Rat
  | [] => 0
  | q :: r => q + sumR r
theorem Bd.neg {k : Nat} {q : Rat} (h : Bd k q) : Bd k (-q) := ⟨by rw [Rat.neg_num, Int.natAbs_neg]; exact h.1, by rw [Rat.neg_den]; exact h.2⟩
theorem Bd.zero : Bd 1 0 := ⟨by decide, by decide⟩
def Cm (D : Int) (q : Rat) : Prop := ∃ n : Int, q * (D : Rat) = (n : Rat)
theorem Cm.one : Cm D 1 := ⟨D, by grind⟩
theorem Cm.zero : Cm D 0 := ⟨0, by simp⟩
theorem Cm.add {q r : Rat} (h1 : Cm D q) (h2 : Cm D r) : Cm D (q + r) := by
  obtain ⟨n, hn⟩ := h1
  obtain ⟨m, hm⟩ := h2
  exact ⟨n + m, by rw [Rat.intCast_add, ← hn, ← hm]; grind⟩
theorem Cm.neg {q : Rat} (h1 : Cm D q) : Cm D (-q) := by
  obtain ⟨n, hn⟩ := h1
  exact ⟨-n, by rw [Rat.intCast_neg, ← hn]; grind⟩
theorem Cm.sub {q r : Rat} (h1 : Cm D q) (h2 : Cm D r) : Cm D (q - r) := by
  rw [Rat.sub_eq_add_neg]; exact h1.add h2.neg
theorem Cm.mul {q r : Rat} (h1 : Cm D q) (h2 : Cm E r) : Cm (D * E) (q * r) := by
  obtain ⟨n, hn⟩ := h1
  obtain ⟨m, hm⟩ := h2
  exact ⟨n * m, by rw [Rat.intCast_mul, Rat.intCast_mul, ← hn, ← hm]; grind⟩
theorem Cm.up {q : Rat} (h1 : Cm D q) (E : Int) : Cm (D * E) q := by
  have := h1.mul (Cm.one (D := E))
  rwa [Rat.mul_one] at this
theorem Cm.int (x : Int) {q : Rat} (h1 : Cm D q) : Cm D (x * q) := by
  obtain ⟨n, hn⟩ := h1
  exact ⟨x * n, by rw [Rat.intCast_mul, ← hn]; grind⟩
theorem mul_den (q : Rat) : q * (q.den : Rat) = (q.num : Rat) := by
  have h := Rat.num_divInt_den q
  rw [Rat.divInt_eq_div] at h
  have hz : ((q.den : Int) : Rat) ≠ 0 := by exact_mod_cast q.den_nz
  have e : ((q.den : Int) : Rat) = (q.den : Rat) := rfl
  rw [e] at h hz
  grind
theorem Cm.bd {q : Rat} {M k : Nat} (h : Cm D q) (hD : 0 < D) (h1 : 0 ≤ q) (h2 : q ≤ (M : Int)) (hk : (M + 1) * D.toNat < 2 ^ k) : Bd k q := by
  obtain ⟨n, hn⟩ := h
  have hz : (q.den : Rat) ≠ 0 := by exact_mod_cast q.den_nz
  have e : q.num * D = n * q.den := by
    have e1 : q * (q.den : Rat) = (q.num : Rat) := mul_den q
    have : ((q.num * D : Int) : Rat) = ((n * (q.den : Int) : Int) : Rat) := by
      rw [Rat.intCast_mul, Rat.intCast_mul, ← hn, ← e1]
      show q * (q.den : Rat) * D = q * D * (q.den : Rat)
      grind
    exact_mod_cast this
  have hdvd : q.den ∣ D.natAbs := by
    have : q.den ∣ q.num.natAbs * D.natAbs := by
      rw [← Int.natAbs_mul, e, Int.natAbs_mul]
      exact ⟨n.natAbs, by rw [Nat.mul_comm]; rfl⟩
    exact Nat.Coprime.dvd_of_dvd_mul_left q.reduced.symm this
  have hden : q.den ≤ D.toNat := by
    have := Nat.le_of_dvd (by omega) hdvd
    omega
  have hM : D.toNat ≤ (M + 1) * D.toNat := Nat.le_mul_of_pos_left _ (by omega)
  refine ⟨?_, by omega⟩
  have n0 : 0 ≤ q.num := Rat.num_nonneg.mpr h1
  have hq : q.num ≤ (M : Int) * q.den := by
    have e1 : q * (q.den : Rat) = (q.num : Rat) := mul_den q
    have hp : (0 : Rat) ≤ (q.den : Rat) := by exact_mod_cast Nat.zero_le _
    have : (q.num : Rat) ≤ (((M : Int) * (q.den : Int) : Int) : Rat) := by
      rw [Rat.intCast_mul, ← e1]
      exact Rat.mul_le_mul_of_nonneg_right h2 hp
    exact_mod_cast this
  have h3 : q.num.toNat ≤ M * q.den := by
    have : ((q.num.toNat : Nat) : Int) ≤ ((M * q.den : Nat) : Int) := by rw [Int.toNat_of_nonneg n0]; exact_mod_cast hq
    exact_mod_cast this
  have h4 : M * q.den ≤ M * D.toNat := Nat.mul_le_mul_left _ hden
  have h5 : (M + 1) * D.toNat = M * D.toNat + D.toNat := Nat.succ_mul _ _
  omega
section
variable {k l : Nat} {q r : Rat} {S : Store}
end
end FWP

namespace FWP
open PySem FW
instance : Enc 1 rv := ⟨eqv_rv, fun _ => rfl, fun _ => rfl⟩
theorem sumR_append : ∀ (L M : List Rat), sumR (L ++ M) = sumR L + sumR M
  | [], M => by show sumR M = 0 + sumR M; grind
  | q :: L, M => by show q + sumR (L ++ M) = q + sumR L + sumR M; rw [sumR_append L M]; grind
section
variable {α : Type}
theorem sumR_add (f g : α → Rat) : ∀ l : List α, sumR (l.map fun a => f a + g a) = sumR (l.map f) + sumR (l.map g)
  | [] => by show (0 : Rat) = 0 + 0; grind
  | a :: l => by show f a + g a + _ = f a + _ + (g a + _); rw [sumR_add f g l]; grind
theorem sumR_mul (c : Rat) (f : α → Rat) : ∀ l : List α, sumR (l.map fun a => c * f a) = c * sumR (l.map f)
  | [] => by show (0 : Rat) = c * 0; grind
  | a :: l => by show c * f a + _ = c * (f a + _); rw [sumR_mul c f l]; grind
theorem sumR_congr {f g : α → Rat} {l : List α} (h : ∀ a ∈ l, f a = g a) : sumR (l.map f) = sumR (l.map g) := by rw [List.map_congr_left h]
theorem sumR_filter (p : α → Bool) (f : α → Rat) : ∀ l : List α, sumR ((l.filter p).map f) = sumR (l.map fun a => if p a = true then f a else 0)
  | [] => rfl
  | a :: l => by
    have ih := sumR_filter p f l
    cases h : p a
    · rw [List.filter_cons_of_neg (by simp [h])]
      show _ = (if p a = true then f a else 0) + sumR (l.map _)
      rw [ih, h, if_neg (by decide)]
      grind
    · rw [List.filter_cons_of_pos h]
      show f a + _ = (if p a = true then f a else 0) + sumR (l.map _)
      rw [ih, h, if_pos rfl]
theorem Cm.sumR {D : Int} {L : List Rat} (h : ∀ q ∈ L, Cm D q) : Cm D (sumR L) := by
  induction L with
  | nil => exact Cm.zero
  | cons q L ih => exact (h q List.mem_cons_self).add (ih fun r hr => h r (List.mem_cons_of_mem _ hr))
end
structure Ch (D : Nat) (q : Rat) : Prop where
  cm : Cm (D : Int) q
  nn : 0 ≤ q
  le : q ≤ 1
section
variable {D E : Nat} {q r : Rat}
theorem Ch.bd {k : Nat} (h : Ch D q) (h0 : 0 < D) (hk : 2 * D < 2 ^ k) : Bd k q := h.cm.bd (M := 1) (by omega) h.nn h.le (by simpa using hk)
theorem Ch.one : Ch D 1 := ⟨Cm.one, by decide, Rat.le_refl⟩
theorem Ch.zero : Ch D 0 := ⟨Cm.zero, Rat.le_refl, by decide⟩
theorem Ch.mul (h : Ch D q) (h' : Ch E r) : Ch (D * E) (q * r) := by
  refine ⟨?_, ?_, ?_⟩
  · have := h.cm.mul h'.cm
    rwa [← Int.natCast_mul] at this
  · exact Rat.mul_nonneg h.nn h'.nn
  · have h1 := Rat.mul_le_mul_of_nonneg_right h.le h'.nn
    have h2 := h'.le
    grind
theorem Ch.compl (h : Ch D q) : Ch D (1 - q) := ⟨Cm.one.sub h.cm, by have := h.le; grind, by have := h.nn; grind⟩
theorem Ch.up (h : Ch D q) (E : Nat) : Ch (D * E) q := ⟨by have := h.cm.up (E : Int); rwa [← Int.natCast_mul] at this, h.nn, h.le⟩
theorem Ch.pick {b : Bool} (h : Ch D q) : Ch D (if b = true then q else 1 - q) := by
  cases b
  · exact h.compl
  · exact h
end
def pwF (a : Rat) (cb : Rat × Bool) : Rat := a * (if cb.2 = true then cb.1 else 1 - cb.1)
def pw (cs : List Rat) (st : List Bool) : Rat := (cs.zip st).foldl pwF 1
theorem snoc_of {α : Type} {l : List α} {n : Nat} (h : l.length = n + 1) : ∃ (i : List α) (a : α), l = i ++ [a] ∧ i.length = n := by
  have hne : l ≠ [] := fun e => by subst e; simp at h
  refine ⟨l.dropLast, l.getLast hne, (List.dropLast_concat_getLast hne).symm, by simp [h]⟩
theorem ith_snoc {st : List Bool} {b : Bool} {k : Nat} : ith (st ++ [b]) k = if k < st.length then ith st k else (if k = st.length then b else false) := by
  unfold ith
  rw [List.getD_eq_getElem?_getD, List.getD_eq_getElem?_getD]
  by_cases h : k < st.length
  · rw [if_pos h, List.getElem?_append_left h]
  · rw [if_neg h, List.getElem?_append_right (by omega)]
    by_cases h2 : k = st.length
    · subst h2; simp
    · rw [if_neg h2, List.getElem?_eq_none (by simp; omega)]
      rfl
abbrev b2r (b : Bool) : Rat := if b = true then 1 else 0
section
variable {D n : Nat} {cs : List Rat} {p : List Bool → Bool} {S : Store}
end
end FWP

namespace FWP
open PySem FW
section
variable {D n p : Nat} {P : List (List Nat)} {cs : List Rat} {S S0 : Store}
structure Sz (D n : Nat) : Prop where
  d0 : 0 < D
  sz : 2 * D ^ n < 2 ^ 2500
theorem Sz.pos (h : Sz D n) (i : Nat) : 0 < D ^ i := Nat.pow_pos h.d0
theorem Sz.le (h : Sz D n) {i : Nat} (hi : i ≤ n) : 2 * D ^ i < 2 ^ 2500 := by
  have := Nat.pow_le_pow_right h.d0 hi
  have := h.sz
  omega
theorem Sz.bd (h : Sz D n) {i : Nat} (hi : i ≤ n) {q : Rat} (hq : Ch (D ^ i) q) : Bd 2500 q := hq.bd (h.pos i) (h.le hi)
end
end FWP

namespace FWP
open PySem FW
def prodL (L : List Rat) : Rat := L.foldl (· * ·) 1
theorem prodL_snoc {L : List Rat} {q : Rat} : prodL (L ++ [q]) = prodL L * q := by unfold prodL; rw [List.foldl_append]; rfl
theorem snoc_ind {α : Type} {Q : List α → Prop} (h0 : Q []) (h1 : ∀ l a, Q l → Q (l ++ [a])) (l : List α) : Q l := by
  suffices ∀ n (l : List α), l.length = n → Q l from this _ l rfl
  intro n
  induction n with
  | zero => intro l h; obtain rfl := List.eq_nil_of_length_eq_zero h; exact h0
  | succ n ih =>
    intro l h
    obtain ⟨i, a, rfl, hi⟩ := snoc_of h
    exact h1 i a (ih i hi)
theorem b2r_and {a b : Bool} : b2r (a && b) = b2r a * b2r b := by
  cases a <;> cases b
  · show (0 : Rat) = 0 * 0; grind
  · show (0 : Rat) = 0 * 1; grind
  · show (0 : Rat) = 1 * 0; grind
  · show (1 : Rat) = 1 * 1; grind
theorem b2r_not {a : Bool} : b2r (!a) = 1 - b2r a := by
  cases a
  · show (1 : Rat) = 1 - 0; grind
  · show (0 : Rat) = 1 - 1; grind
section
variable {D n : Nat} {P : List (List Nat)} {cs : List Rat}
end
end FWP

namespace FWP
open PySem FW
theorem sumR_perm {L M : List Rat} (h : L.Perm M) : sumR L = sumR M := by
  induction h with
  | nil => rfl
  | cons a _ ih => show a + _ = a + _; rw [ih]
  | swap a b l => show b + (a + sumR l) = a + (b + sumR l); grind
  | trans _ _ h1 h2 => exact h1.trans h2
def sgn (L : List Nat) : Rat := if L.length % 2 = 1 then 1 else -1
theorem sgn_snoc {L : List Nat} {k : Nat} : sgn (L ++ [k]) = - sgn L := by
  unfold sgn
  rw [List.length_append, List.length_singleton]
  by_cases h : L.length % 2 = 1
  · rw [if_pos h, if_neg (by omega)]
  · rw [if_neg h, if_pos (by omega)]; grind
theorem sum_signs (x : Nat → Rat) : ∀ m : Nat, sumR ((subs m).map fun L => sgn L * prodL (L.map x)) = - prodL ((List.range m).map fun j => 1 - x j)
  | 0 => by
    show sgn [] * prodL [] + 0 = - prodL []
    show (-1 : Rat) * 1 + 0 = -1
    grind
  | m + 1 => by
    have ih := sum_signs x m
    rw [show subs (m + 1) = subs m ++ (subs m).map (· ++ [m]) from rfl, List.map_append, List.map_map, sumR_append, ih, List.range_succ, List.map_append, List.map_singleton, prodL_snoc]
    have : sumR ((subs m).map ((fun L => sgn L * prodL (L.map x)) ∘ fun L => L ++ [m])) = sumR ((subs m).map fun L => (- x m) * (sgn L * prodL (L.map x))) := by
      refine sumR_congr fun L _ => ?_
      show sgn (L ++ [m]) * prodL ((L ++ [m]).map x) = _
      rw [sgn_snoc, List.map_append, List.map_singleton, prodL_snoc]
      grind
    rw [this, sumR_mul, ih]
    grind
theorem sum_sizes (f : List Nat → Rat) (m : Nat) : ∀ t : Nat, sumR ((nats 1 (t + 1)).flatMap fun s => (subsEq m s).map f) = sumR (((subs m).filter fun L => decide (1 ≤ L.length ∧ L.length ≤ t)).map f)
  | 0 => by
    rw [List.filter_eq_nil_iff.mpr fun L _ => by rw [decide_eq_false (by omega)]; decide]
    rfl
  | t + 1 => by
    have e1 : nats 1 (t + 1 + 1) = nats 1 (t + 1) ++ [t + 1] := by
      unfold nats
      rw [show t + 1 + 1 - 1 = (t + 1 - 1) + 1 by omega, List.range'_concat]
      congr 2
      omega
    rw [e1, List.flatMap_append, sumR_append, sum_sizes f m t]
    have e2 : sumR ([t + 1].flatMap fun s => (subsEq m s).map f) = sumR (((subs m).filter fun L => decide (L.length = t + 1)).map f) := by
      rw [List.flatMap_singleton]
      exact sumR_perm (List.Perm.map f sortG_perm)
    rw [e2, sumR_filter, sumR_filter, sumR_filter, ← sumR_add]
    refine sumR_congr fun L _ => ?_
    by_cases h1 : 1 ≤ L.length ∧ L.length ≤ t
    · rw [decide_eq_true h1, decide_eq_false (show ¬ L.length = t + 1 by omega), decide_eq_true (show 1 ≤ L.length ∧ L.length ≤ t + 1 by omega)]
      simp only [if_true, Bool.false_eq_true, if_false]
      grind
    · by_cases h2 : L.length = t + 1
      · rw [decide_eq_false h1, decide_eq_true h2, decide_eq_true (show 1 ≤ L.length ∧ L.length ≤ t + 1 by omega)]
        simp only [if_true, Bool.false_eq_true, if_false]
        grind
      · rw [decide_eq_false h1, decide_eq_false h2, decide_eq_false (show ¬ (1 ≤ L.length ∧ L.length ≤ t + 1) by omega)]
        simp only [Bool.false_eq_true, if_false]
        grind
theorem subs_ne : ∀ m : Nat, ∀ L ∈ subs m, L.length ≤ m := fun m L h => asc_len (subs_asc h) (subs_lt h)
theorem subs_nil_one (f : List Nat → Rat) : ∀ m : Nat, sumR ((subs m).map f) = f [] + sumR (((subs m).filter fun L => decide (1 ≤ L.length ∧ L.length ≤ m)).map f)
  | m => by
    have gen : ∀ (m t : Nat), m ≤ t → sumR ((subs m).map f) = f [] + sumR (((subs m).filter fun L => decide (1 ≤ L.length ∧ L.length ≤ t)).map f) := by
      intro m
      induction m with
      | zero =>
        intro t _
        show f [] + 0 = f [] + sumR ((([[]] : List (List Nat)).filter fun L => decide (1 ≤ L.length ∧ L.length ≤ t)).map f)
        rw [List.filter_eq_nil_iff.mpr fun L hL => by rw [List.mem_singleton] at hL; subst hL; simp]
        rfl
      | succ m ih =>
        intro t ht
        rw [show subs (m + 1) = subs m ++ (subs m).map (· ++ [m]) from rfl, List.map_append, sumR_append, List.filter_append, List.map_append, sumR_append, ih t (by omega)]
        have : ((subs m).map (· ++ [m])).filter (fun L => decide (1 ≤ L.length ∧ L.length ≤ t)) = (subs m).map (· ++ [m]) := List.filter_eq_self.mpr fun L hL => by
          obtain ⟨L', h', rfl⟩ := List.mem_map.mp hL
          have := subs_ne m L' h'
          exact decide_eq_true (by rw [List.length_append, List.length_singleton]; omega)
        rw [this]
        grind
    exact gen m m (Nat.le_refl _)
def sumS (m : Nat) (f : List Nat → Rat) : Rat := sumR ((nats 1 (m + 1)).flatMap fun s => (subsEq m s).map f)
theorem sumS_signs (x : Nat → Rat) (m : Nat) : sumS m (fun L => sgn L * prodL (L.map x)) = 1 - prodL ((List.range m).map fun j => 1 - x j) := by
  have h1 := sum_signs x m
  rw [subs_nil_one] at h1
  unfold sumS
  rw [sum_sizes]
  have h2 : sgn [] * prodL (([] : List Nat).map x) = -1 := by
    show (-1 : Rat) * 1 = -1
    grind
  rw [h2] at h1
  grind
theorem prodL_b2r {α : Type} (p : α → Bool) (l : List α) : prodL (l.map fun a => b2r (p a)) = b2r (l.all p) := by
  refine snoc_ind (Q := fun l => prodL (l.map fun a => b2r (p a)) = b2r (l.all p)) rfl (fun l a ih => ?_) l
  rw [List.map_append, List.map_singleton, prodL_snoc, ih, List.all_append, ← b2r_and]
  simp
section
variable {n : Nat} {cs : List Rat} {b : Bool} {Q : List (List Nat)}
theorem flat_map {α β γ : Type} (g : α → List β) (f : β → γ) (l : List α) : (l.flatMap fun a => (g a).map f) = (l.flatMap g).map f := by
  induction l with
  | nil => rfl
  | cons a l ih => rw [List.flatMap_cons, List.flatMap_cons, ih, List.map_append]
theorem map_ith {α : Type} [Inhabited α] (l : List α) : (List.range l.length).map (ith l) = l := by
  refine List.ext_getElem? fun i => ?_
  rw [List.getElem?_map]
  by_cases h : i < l.length
  · rw [List.getElem?_range h, get_ith h]; rfl
  · rw [List.getElem?_eq_none (by simpa using h), List.getElem?_eq_none (by omega)]; rfl
end
end FWP

namespace FWP
open PySem FW
theorem set_snoc_lt {α : Type} {l : List α} {a b : α} {k : Nat} (h : k < l.length) : (l ++ [a]).set k b = l.set k b ++ [a] := by rw [List.set_append, if_pos h]
theorem set_snoc_eq {α : Type} {l : List α} {a b : α} : (l ++ [a]).set l.length b = l ++ [b] := by rw [List.set_append, if_neg (Nat.lt_irrefl _)]; simp
section
variable {D n k : Nat} {P : List (List Nat)} {cs : List Rat} {st : List Bool}
end
end FWP

namespace FWP
open PySem FW
theorem ith_range {N m : Nat} (h : m < N) : ith (List.range N) m = m := by simp [ith, h]
theorem set_range {α : Type} {N j : Nat} {g : Nat → α} {x : α} (hj : j < N) : ((List.range N).map g).set j x = (List.range N).map fun m => if m = j then x else g m := by
  refine List.ext_getElem? fun i => ?_
  rw [List.getElem?_set]
  by_cases hi : i < N
  · by_cases e : j = i
    · subst e; simp [hi]
    · have : ¬ i = j := fun h => e h.symm
      simp [hi, e, this]
  · by_cases e : j = i
    · omega
    · simp [hi, e]
def stepK (k : Nat) (f : Nat → Int) (m : Nat) : Int := if m.testBit k = true then f m - f (m ^^^ bitN k) else f m
def iterK : Nat → (Nat → Int) → Nat → Int
  | 0, f => f
  | k + 1, f => stepK k (iterK k f)
def midK (k j : Nat) (f : Nat → Int) (m : Nat) : Int := if m < j then stepK k f m else f m
abbrev intsV (N : Nat) (f : Nat → Int) : List PV := (List.range N).map fun m => PV.int (f m)
section
variable {n k : Nat} {P : List (List Nat)} {S : Store} {w0 w2 w3 : Option SV}
theorem F_values_of_m_eq (h : Good n P) : F_values_of_m [.v (sysV n P)] S = .ok (.l S.length) (S ++ [.lst ((vals n P).map bitV)]) := by
  have e : ∀ p ∈ P, ∀ S, F_mask_of [.v (setV p)] S = .ok (.v (nn (mask p))) S := fun p hp S => F_mask_good h hp
  have h8 := h.n8
  have hb := bitN_le h8
  have hl := h.len
  have : vals n P = (List.range (bitN n)).map fun m => P.any fun p => decide (mask p &&& m = mask p) := by
    unfold vals
    exact List.map_congr_left fun m _ => wk_place h m
  simp! [F_values_of_m, d_values_of_m, g_values_of, e, this, andN]
def wkI (P : List (List Nat)) (m : Nat) : Int := if wk P (fun k => m.testBit k) = true then 1 else 0
theorem vals_ints : (vals n P).map bitV = intsV (bitN n) (wkI P) := by
  unfold vals
  rw [List.map_map]
  rfl
theorem dom_turn (h8 : n ≤ 8) (hk : k < n) {j : Nat} (hj : j < bitN n) {f : Nat → Int} : turnF g_numbers_dom (.name 3) b_numbers_dom_1 (nn j) [w0, some (.l S.length), some (.v (nn k)), w3] (S ++ [.lst (intsV (bitN n) (midK k j f))]) =
    .ok (.next [w0, some (.l S.length), some (.v (nn k)), some (.v (nn j))]) (S ++ [.lst (intsV (bitN n) (midK k (j + 1) f))]) := by
  have hjl : j < (List.range (bitN n)).length := by simpa using hj
  have hx := xor_lt hj hk
  have hxl : xorN j (bitN k) < (List.range (bitN n)).length := by rw [List.length_range]; exact hx
  have i1 := ith_range hj
  have i2 : ith (List.range (bitN n)) (xorN j (bitN k)) = xorN j (bitN k) := ith_range hx
  have hk2 : k ≤ 1000000 := by omega
  cases hb : j.testBit k with
  | false =>
    have : intsV (bitN n) (midK k (j + 1) f) = intsV (bitN n) (midK k j f) := List.map_congr_left fun m _ => by
      congr 1
      unfold midK
      by_cases h1 : m < j
      · rw [if_pos h1, if_pos (by omega)]
      · rw [if_neg h1]
        split
        · have : m = j := by omega
          subst this
          unfold stepK
          rw [hb, if_neg (by decide)]
        · rfl
    rw [this]
    simp! [b_numbers_dom_1, hb]
  | true =>
    have hlt : j ^^^ bitN k < j := xor_less hb
    have v1 : midK k j f j = f j := by unfold midK; rw [if_neg (Nat.lt_irrefl _)]
    have v2 : midK k j f (xorN j (bitN k)) = f (j ^^^ bitN k) := by
      unfold midK xorN
      rw [if_pos hlt]
      unfold stepK
      rw [xor_bit, hb]
      simp
    have hs : (intsV (bitN n) (midK k j f)).set j (.int (f j - f (j ^^^ bitN k))) = intsV (bitN n) (midK k (j + 1) f) := by
      unfold intsV
      rw [set_range hj]
      refine List.map_congr_left fun m _ => ?_
      by_cases e : m = j
      · subst e
        rw [if_pos rfl]
        congr 1
        unfold midK
        rw [if_pos (by omega)]
        unfold stepK
        rw [hb, if_pos rfl]
      · rw [if_neg e]
        congr 1
        unfold midK
        by_cases h1 : m < j
        · rw [if_pos h1, if_pos (by omega)]
        · rw [if_neg h1, if_neg (by omega)]
    have hl : j < (intsV (bitN n) (midK k j f)).length := by simpa using hj
    have e1 : oldOf (.l S.length) (.v (.int (j : Int))) (S ++ [.lst (intsV (bitN n) (midK k j f))]) = some (.int (f j)) := by
      rw [nw_old, at_map hjl, i1, v1]
    have e2 : idxOp (.l S.length) (.v (.int ((xorN j (bitN k) : Nat) : Int))) (S ++ [.lst (intsV (bitN n) (midK k j f))]) = .ok (.v (.int (f (j ^^^ bitN k)))) (S ++ [.lst (intsV (bitN n) (midK k j f))]) := by
      rw [nw_idx, at_map hxl, i2, v2]
      rfl
    have e3 : putOp (.l S.length) (.v (.int (j : Int))) (.v (.int (f j - f (j ^^^ bitN k)))) (S ++ [.lst (intsV (bitN n) (midK k j f))]) = some (S ++ [.lst (intsV (bitN n) (midK k (j + 1) f))]) := by
      rw [nw_put hl, hs]
    generalize intsV (bitN n) (midK k j f) = L at *
    simp! [b_numbers_dom_1, hb, e1, e2, e3]
theorem mid_full {f : Nat → Int} : intsV (bitN n) (midK k (bitN n) f) = intsV (bitN n) (stepK k f) := List.map_congr_left fun m hm => by
  congr 1
  unfold midK
  rw [if_pos (List.mem_range.mp hm)]
theorem mid_zero {f : Nat → Int} : intsV (bitN n) (midK k 0 f) = intsV (bitN n) f := List.map_congr_left fun m hm => by
  congr 1
theorem dom_loop (h8 : n ≤ 8) (hk : k < n) {f : Nat → Int} : ∃ w3', forL (turnF g_numbers_dom (.name 3) b_numbers_dom_1) [] ((List.range (bitN n)).map nn) [w0, some (.l S.length), some (.v (nn k)), w3] (S ++ [.lst (intsV (bitN n) f)]) =
    .ok (.next [w0, some (.l S.length), some (.v (nn k)), w3']) (S ++ [.lst (intsV (bitN n) (stepK k f))]) := by
  obtain ⟨ρ', T', e, ⟨w3', rfl⟩, rfl⟩ := forL_inv (f := turnF g_numbers_dom (.name 3) b_numbers_dom_1) (fun i ρ T => (∃ w3, ρ = [w0, some (.l S.length), some (.v (nn k)), w3]) ∧ T = S ++ [.lst (intsV (bitN n) (midK k i f))]) ((List.range (bitN n)).map nn) 0 (ρ := [w0, some (.l S.length), some (.v (nn k)), w3]) (S := S ++ [.lst (intsV (bitN n) f)]) (fun j x ρ T hx ⟨⟨w3, hρ⟩, hT⟩ => by
    subst hρ hT
    rw [List.getElem?_map] at hx
    by_cases hj : j < bitN n
    · rw [List.getElem?_range hj] at hx
      obtain rfl := Option.some.inj hx
      rw [Nat.zero_add]
      exact ⟨_, _, dom_turn h8 hk hj, ⟨_, rfl⟩, rfl⟩
    · rw [List.getElem?_eq_none (by simpa using hj)] at hx
      cases hx) ⟨⟨w3, rfl⟩, by rw [mid_zero]⟩
  rw [Nat.zero_add, List.length_map, List.length_range, mid_full] at e
  exact ⟨w3', e⟩
theorem F_numbers_dom_eq (h : Good n P) : F_numbers_dom [.v (sysV n P)] S = .ok (.v (.lst (intsV (bitN n) (iterK n (wkI P))))) S := by
  have h8 := h.n8
  have hb := bitN_le h8
  have e1 := F_values_of_m_eq (S := S) h
  rw [vals_ints] at e1
  obtain ⟨ρ', T', e, ⟨w2, w3, rfl⟩, rfl⟩ := forL_inv (f := turnF g_numbers_dom (.name 2) b_numbers_dom_0) (fun i ρ T => (∃ w2 w3, ρ = [some (.v (sysV n P)), some (.l S.length), w2, w3]) ∧ T = S ++ [.lst (intsV (bitN n) (iterK i (wkI P)))]) ((List.range n).map nn) 0 (ρ := [some (.v (sysV n P)), some (.l S.length), none, none]) (S := S ++ [.lst (intsV (bitN n) (wkI P))]) (fun j x ρ T hx ⟨⟨w2, w3, hρ⟩, hT⟩ => by
    subst hρ hT
    rw [List.getElem?_map] at hx
    by_cases hj : j < n
    · rw [List.getElem?_range hj] at hx
      obtain rfl := Option.some.inj hx
      rw [Nat.zero_add]
      obtain ⟨w3', e⟩ := dom_loop (S := S) (w0 := some (.v (sysV n P))) (w3 := w3) h8 hj (f := iterK j (wkI P))
      refine ⟨[some (.v (sysV n P)), some (.l S.length), some (.v (nn j)), w3'], S ++ [.lst (intsV (bitN n) (iterK (j + 1) (wkI P)))], ?_, ⟨_, _, rfl⟩, rfl⟩
      rw [show iterK (j + 1) (wkI P) = stepK j (iterK j (wkI P)) from rfl]
      generalize intsV (bitN n) (iterK j (wkI P)) = L at *
      generalize intsV (bitN n) (stepK j (iterK j (wkI P))) = L' at *
      have hj2 : j ≤ 1000000 := by omega
      simp! [b_numbers_dom_0, e]
    · rw [List.getElem?_eq_none (by simpa using hj)] at hx
      cases hx) ⟨⟨none, none, rfl⟩, rfl⟩
  rw [Nat.zero_add, List.length_map, List.length_range] at e
  have hl : (intsV (bitN n) (iterK n (wkI P))).length ≤ 256 := by simpa using hb
  generalize intsV (bitN n) (iterK n (wkI P)) = L at *
  generalize intsV (bitN n) (wkI P) = L0 at *
  simp! [F_numbers_dom, d_numbers_dom, e1, e]
end
end FWP

namespace FWP
open PySem FW
theorem sumI_append : ∀ (a b : List Int), sumI (a ++ b) = sumI a + sumI b
  | [], b => by show sumI b = 0 + sumI b; omega
  | x :: a, b => by show x + sumI (a ++ b) = x + sumI a + sumI b; rw [sumI_append a b]; omega
theorem sumI_sub {α : Type} (f g : α → Int) : ∀ l : List α, sumI (l.map fun a => f a - g a) = sumI (l.map f) - sumI (l.map g)
  | [] => rfl
  | a :: l => by show f a - g a + _ = f a + _ - (g a + _); rw [sumI_sub f g l]; omega
theorem sumI_neg {α : Type} (f : α → Int) : ∀ l : List α, sumI (l.map fun a => - f a) = - sumI (l.map f)
  | [] => rfl
  | a :: l => by show - f a + _ = - (f a + _); rw [sumI_neg f l]; omega
def cnt (st : List Bool) : Nat := (st.filter id).length
theorem cnt_snoc {st : List Bool} {b : Bool} : cnt (st ++ [b]) = cnt st + if b = true then 1 else 0 := by
  unfold cnt
  rw [List.filter_append]
  cases b <;> simp
theorem ith_snoc_n {st : List Bool} {b : Bool} {n : Nat} (h : st.length = n) : ith (st ++ [b]) n = b := by rw [ith_snoc, if_neg (by omega), if_pos h.symm]
theorem ith_snoc_l {st : List Bool} {b : Bool} {k : Nat} (h : k < st.length) : ith (st ++ [b]) k = ith st k := by rw [ith_snoc, if_pos h]
def subS (n : Nat) (v st : List Bool) : Bool := (List.range n).all fun k => !ith v k || ith st k
theorem subS_iff {n : Nat} {v st : List Bool} : subS n v st = true ↔ ∀ k, k < n → ith v k = true → ith st k = true := by
  unfold subS
  simp only [List.all_eq_true, List.mem_range, Bool.or_eq_true, Bool.not_eq_true']
  refine forall_congr' fun k => imp_congr_right fun _ => ⟨fun h hv => h.resolve_left (by rw [hv]; decide), fun h => ?_⟩
  cases hv : ith v k
  · exact .inl rfl
  · exact .inr (h hv)
theorem subS_snoc {n : Nat} {v st : List Bool} {c b : Bool} (hv : v.length = n) (hs : st.length = n) : subS (n + 1) (v ++ [c]) (st ++ [b]) = (subS n v st && (!c || b)) := by
  unfold subS
  rw [List.range_succ, List.all_append]
  congr 1
  · rw [Bool.eq_iff_iff, List.all_eq_true, List.all_eq_true]
    refine forall_congr' fun k => ?_
    by_cases hk : k ∈ List.range n
    · have := List.mem_range.mp hk
      rw [ith_snoc_l (by omega), ith_snoc_l (by omega)]
    · exact ⟨fun _ h => absurd h hk, fun _ h => absurd h hk⟩
  · rw [List.all_cons, List.all_nil, Bool.and_true, ith_snoc_n hv, ith_snoc_n hs]
def sg2 (a b : Nat) : Int := if (a + b) % 2 = 0 then 1 else -1
theorem sg2_succ (a b : Nat) : sg2 (a + 1) b = - sg2 a b := by
  unfold sg2
  by_cases h : (a + b) % 2 = 0
  · rw [if_pos h, if_neg (by omega)]
  · rw [if_neg h, if_pos (by omega)]; rfl
theorem sg2_both (a b : Nat) : sg2 (a + 1) (b + 1) = sg2 a b := by
  unfold sg2
  rw [show a + 1 + (b + 1) = a + b + 2 by omega, Nat.add_mod_right]
def termT (n : Nat) (g : List Bool → Int) (st v : List Bool) : Int := if subS n v st = true then sg2 (cnt st) (cnt v) * g v else 0
def numT (n : Nat) (g : List Bool → Int) (st : List Bool) : Int := sumI ((lawStates n).map (termT n g st))
theorem numT_snoc {n : Nat} {g : List Bool → Int} {st : List Bool} (b : Bool) (hs : st.length = n) : numT (n + 1) g (st ++ [b]) = (if b = true then numT n (fun s => g (s ++ [true])) st - numT n (fun s => g (s ++ [false])) st else numT n (fun s => g (s ++ [false])) st) := by
  unfold numT
  rw [lawStates_succ, List.map_append, sumI_append, List.map_map, List.map_map]
  cases b
  · rw [if_neg (by decide)]
    have e1 : (lawStates n).map (termT (n + 1) g (st ++ [false]) ∘ fun s => s ++ [false]) = (lawStates n).map (termT n (fun s => g (s ++ [false])) st) := List.map_congr_left fun v hv => by
      show termT (n + 1) g (st ++ [false]) (v ++ [false]) = _
      unfold termT
      rw [subS_snoc (lawStates_mem hv) hs, cnt_snoc, cnt_snoc]
      simp
    have e2 : (lawStates n).map (termT (n + 1) g (st ++ [false]) ∘ fun s => s ++ [true]) = (lawStates n).map (fun _ => 0 - 0) := List.map_congr_left fun v hv => by
      show termT (n + 1) g (st ++ [false]) (v ++ [true]) = _
      unfold termT
      rw [subS_snoc (lawStates_mem hv) hs]
      simp
    rw [e1, e2, sumI_sub]
    omega
  · rw [if_pos rfl]
    have e1 : (lawStates n).map (termT (n + 1) g (st ++ [true]) ∘ fun s => s ++ [false]) = (lawStates n).map (fun v => - termT n (fun s => g (s ++ [false])) st v) := List.map_congr_left fun v hv => by
      show termT (n + 1) g (st ++ [true]) (v ++ [false]) = _
      unfold termT
      rw [subS_snoc (lawStates_mem hv) hs, cnt_snoc, cnt_snoc]
      simp only [if_true, Bool.not_false, Bool.true_or, Bool.and_true, Bool.false_eq_true, if_false, Nat.add_zero, sg2_succ]
      split
      · rw [Int.neg_mul]
      · rfl
    have e2 : (lawStates n).map (termT (n + 1) g (st ++ [true]) ∘ fun s => s ++ [true]) = (lawStates n).map (termT n (fun s => g (s ++ [true])) st) := List.map_congr_left fun v hv => by
      show termT (n + 1) g (st ++ [true]) (v ++ [true]) = _
      unfold termT
      rw [subS_snoc (lawStates_mem hv) hs, cnt_snoc, cnt_snoc]
      simp only [if_true, Bool.or_true, Bool.and_true, sg2_both]
    rw [e1, e2, sumI_neg]
    omega
def stepT (k : Nat) (g : List Bool → Int) (st : List Bool) : Int := if ith st k = true then g st - g (st.set k false) else g st
def iterT : Nat → (List Bool → Int) → List Bool → Int
  | 0, g => g
  | k + 1, g => stepT k (iterT k g)
theorem iterT_snoc {g : List Bool → Int} {b : Bool} : ∀ (k : Nat) {st : List Bool}, k ≤ st.length → iterT k g (st ++ [b]) = iterT k (fun s => g (s ++ [b])) st
  | 0, st, _ => rfl
  | k + 1, st, h => by
    show stepT k (iterT k g) (st ++ [b]) = stepT k (iterT k fun s => g (s ++ [b])) st
    unfold stepT
    rw [ith_snoc_l (by omega), set_snoc_lt (by omega), iterT_snoc k (by omega), iterT_snoc k (by simp; omega)]
theorem iterT_num : ∀ (n : Nat) {g : List Bool → Int} {st : List Bool}, st.length = n → iterT n g st = numT n g st
  | 0, g, st, h => by
    obtain rfl := List.eq_nil_of_length_eq_zero h
    show g [] = sumI [termT 0 g [] []]
    unfold termT
    show g [] = (if subS 0 [] [] = true then sg2 (cnt []) (cnt []) * g [] else 0) + 0
    rw [if_pos (by rfl), show sg2 (cnt []) (cnt []) = 1 from rfl]
    omega
  | n + 1, g, st, h => by
    obtain ⟨st, b, rfl, g2⟩ := snoc_of h
    show stepT n (iterT n g) (st ++ [b]) = _
    unfold stepT
    rw [numT_snoc b g2, ith_snoc_n g2]
    have e : (st ++ [b]).set n false = st ++ [false] := by rw [← g2]; exact set_snoc_eq
    rw [e, iterT_snoc n (by omega), iterT_snoc n (by omega), iterT_num n g2, iterT_num n g2]
    cases b <;> rfl
section
variable {n : Nat} {P : List (List Nat)}
theorem stAt_xor {m k : Nat} (hk : k < n) (hb : m.testBit k = true) : stAt n (m ^^^ bitN k) = (stAt n m).set k false := by
  refine List.ext_getElem? fun j => ?_
  rw [List.getElem?_set]
  unfold stAt
  by_cases hj : j < n
  · rw [List.getElem?_map, List.getElem?_map, List.getElem?_range hj]
    by_cases e : k = j
    · subst e
      rw [if_pos rfl, if_pos (by simpa using hk)]
      simp [xor_bit, hb, bitN_bit]
    · rw [if_neg e]
      simp [xor_bit, e, bitN_bit]
  · rw [List.getElem?_eq_none (by simpa using hj)]
    by_cases e : k = j
    · omega
    · rw [if_neg e, List.getElem?_eq_none (by simpa using hj)]
theorem iterK_T {f : Nat → Int} {g : List Bool → Int} (hf : ∀ m, m < bitN n → f m = g (stAt n m)) : ∀ (k : Nat), k ≤ n → ∀ m, m < bitN n → iterK k f m = iterT k g (stAt n m)
  | 0, _, m, hm => hf m hm
  | k + 1, hk, m, hm => by
    show stepK k (iterK k f) m = stepT k (iterT k g) (stAt n m)
    unfold stepK stepT
    rw [ith_stAt (by omega), iterK_T hf k (by omega) m hm]
    split
    · rename_i hb
      rw [iterK_T hf k (by omega) _ (xor_lt hm (by omega)), stAt_xor (by omega) hb]
    · rfl
def wkG (P : List (List Nat)) (st : List Bool) : Int := if wk P (ith st) = true then 1 else 0
theorem wkI_G (h : Good n P) {m : Nat} (hm : m < bitN n) : wkI P m = wkG P (stAt n m) := by
  unfold wkI wkG
  rw [wk_congr (P := P) (f := ith (stAt n m)) (g := fun k => m.testBit k) fun p hp j hj => ith_stAt (h.lt p hp j hj)]
def numP (n : Nat) (P : List (List Nat)) (m : Nat) : Int := numT n (wkG P) (stAt n m)
theorem iterK_num (h : Good n P) {m : Nat} (hm : m < bitN n) : iterK n (wkI P) m = numP n P m := by
  rw [iterK_T (fun m hm => wkI_G h hm) n (Nat.le_refl _) m hm, iterT_num n (stAt_len n m)]
  rfl
end
end FWP

namespace FWP
open PySem FW
abbrev pairV (a : List Nat × Int) : PV := .tup [setV a.1, .int a.2]
def lePair (a b : List Nat × Int) : Bool := leK (pairV a) (pairV b)
theorem sort_pairs {l : List (List Nat × Int)} : isortK (l.map pairV) = (sortG lePair l).map pairV := sort_map fun _ _ => rfl
theorem sortOk_pairs {l : List (List Nat × Int)} : sortOk (l.map pairV) = true := by
  have h1 : noFns (l.map pairV) = true := by
    rw [noFns_map]
    refine List.all_eq_true.mpr fun a _ => ?_
    show (noFns (a.1.map nn) && true) = true
    rw [noFns_enc]; rfl
  have h2 : allAlike (l.map pairV) = true := by
    unfold allAlike
    refine List.all_eq_true.mpr fun x hx => List.all_eq_true.mpr fun y hy => ?_
    obtain ⟨a, _, rfl⟩ := List.mem_map.mp hx
    obtain ⟨b, _, rfl⟩ := List.mem_map.mp hy
    show (alikePs (a.1.map nn) (b.1.map nn) && true) = true
    rw [alikePs_nn]; rfl
  have h3 : dpLes eqD (l.map pairV) = true := by
    induction l with
    | nil => rfl
    | cons a l ih =>
      have ih := ih (by rw [List.map_cons] at h1; simp only [noFns, Bool.and_eq_true] at h1; exact h1.2) (by
        unfold allAlike at h2 ⊢
        refine List.all_eq_true.mpr fun x hx => List.all_eq_true.mpr fun y hy => ?_
        exact List.all_eq_true.mp (List.all_eq_true.mp h2 x (List.mem_cons_of_mem _ hx)) y (List.mem_cons_of_mem _ hy))
      have : dpLes 22 (a.1.map nn) = true := dpLes_mono (dpLes_enc (x := nn)) (by decide)
      show ((dpLes 22 (a.1.map nn) && (true && true)) && dpLes eqD (l.map pairV)) = true
      rw [this, ih]
      rfl
  have h4 : (l.map pairV).all isNT = true := List.all_eq_true.mpr fun x hx => by
    obtain ⟨a, _, rfl⟩ := List.mem_map.mp hx
    rfl
  unfold sortOk
  rw [h1, h2, h3, h4]
  simp
theorem zip_range (N : Nat) : (List.range N).zipIdx = (List.range N).map fun m => (m, m) := by
  refine List.ext_getElem? fun i => ?_
  rw [List.getElem?_zipIdx, List.getElem?_map]
  by_cases h : i < N
  · rw [List.getElem?_range h]; simp
  · rw [List.getElem?_eq_none (by simpa using h)]; rfl
section
variable {n : Nat} {P : List (List Nat)} {S : Store} {cs : List Rat}
def termsL (n : Nat) (P : List (List Nat)) : List (List Nat × Int) := ((List.range (bitN n)).filter fun m => !decide (numP n P m = 0)).map fun m => (partsOf m, numP n P m)
def termsS (n : Nat) (P : List (List Nat)) : List (List Nat × Int) := sortG lePair (termsL n P)
theorem termsL_len : (termsL n P).length ≤ bitN n := by
  unfold termsL
  rw [List.length_map]
  have := List.length_filter_le (fun m => !decide (numP n P m = 0)) (List.range (bitN n))
  rwa [List.length_range] at this
theorem termsS_len : (termsS n P).length ≤ bitN n := by unfold termsS; rw [sortG_len]; exact termsL_len
theorem F_signed_terms_eq (h : Good n P) (h64 : P.length < 64) : F_signed_terms [.v (sysV n P)] S = .ok (.v (.tup ((termsS n P).map pairV))) S := by
  have h8 := h.n8
  have hb := bitN_le h8
  have e1 := fun S => F_need_system_eq (S := S) h h64
  have e2 : ∀ S, F_numbers_dom [.v (sysV n P)] S = .ok (.v (.lst (intsV (bitN n) (numP n P)))) S := fun S => by
    rw [F_numbers_dom_eq h]
    congr 3
    exact List.map_congr_left fun m hm => by rw [iterK_num h (List.mem_range.mp hm)]
  have e3 := fun m S => F_parts_of_eq (m := m) (S := S)
  have hz : ((List.range (bitN n)).zipIdx 0).length ≤ 16777216 := by simp; omega
  have hl1 := termsL_len (n := n) (P := P)
  have hl2 := termsS_len (n := n) (P := P)
  have hf : ((((List.range (bitN n)).zipIdx 0).filter fun a => !decide (numP n P a.1 = 0)).map fun a => PV.tup [setV (partsOf a.2), .int (numP n P a.1)]) = (termsL n P).map pairV := by
    rw [show (List.range (bitN n)).zipIdx 0 = _ from zip_range _, List.filter_map, List.map_map]
    unfold termsL
    rw [List.map_map]
    rfl
  have e4 : ∀ m' S, bSorted m' (.v (.lst ((termsL n P).map pairV))) S = mkL m' ((termsS n P).map pairV) S := fun m' S => by
    rw [so_l, if_pos sortOk_pairs, sort_pairs]
    rfl
  simp! [F_signed_terms, d_signed_terms, e1, e2, e3, hf, e4]
end
end FWP

namespace FWP
open PySem FW
section
variable {k u : List Int} {v : Int} {kvs : List (List Int × Int)}
theorem tGet_cons {p : List Int × Int} : tGet k (p :: kvs) = if p.1 = k then some p.2 else tGet k kvs := by
  unfold tGet
  rw [List.find?_cons]
  by_cases h : p.1 = k
  · rw [decide_eq_true h, if_pos h]; rfl
  · rw [decide_eq_false h, if_neg h]
theorem tGet_none : tGet k kvs = none ↔ k ∉ kvs.map (·.1) := by
  induction kvs with
  | nil => simp [tGet]
  | cons p kvs ih =>
    rw [tGet_cons, List.map_cons, List.mem_cons, not_or, ← ih]
    by_cases h : p.1 = k
    · rw [if_pos h]
      simp [h]
    · rw [if_neg h]
      exact ⟨fun e => ⟨fun e2 => h e2.symm, e⟩, fun e => e.2⟩
theorem tGet_app {r : List (List Int × Int)} : tGet k (kvs ++ r) = match tGet k kvs with
  | some x => some x
  | none => tGet k r := by
  induction kvs with
  | nil => rfl
  | cons p kvs ih =>
    rw [List.cons_append, tGet_cons, tGet_cons]
    by_cases h : p.1 = k
    · rw [if_pos h, if_pos h]
    · rw [if_neg h, if_neg h, ih]
theorem tGet_map : tGet k (kvs.map fun p => if p.1 = u then (p.1, v) else p) = if u = k then (tGet k kvs).map (fun _ => v) else tGet k kvs := by
  induction kvs with
  | nil => simp [tGet]
  | cons p kvs ih =>
    rw [List.map_cons, tGet_cons, tGet_cons, ih]
    by_cases h1 : p.1 = u
    · rw [if_pos h1]
      by_cases h2 : p.1 = k
      · rw [if_pos h2, if_pos h2, if_pos (h1.symm.trans h2)]; rfl
      · rw [if_neg h2, if_neg h2]
    · rw [if_neg h1]
      by_cases h2 : p.1 = k
      · rw [if_pos h2, if_pos h2, if_neg fun e => h1 (h2.trans e.symm)]
      · rw [if_neg h2, if_neg h2]
theorem tGet_put : tGet k (tPut u v kvs) = if u = k then some v else tGet k kvs := by
  unfold tPut
  by_cases h : (tGet u kvs).isSome = true
  · rw [if_pos h, tGet_map]
    by_cases e : u = k
    · subst e
      rw [if_pos rfl, if_pos rfl]
      obtain ⟨x, hx⟩ := Option.isSome_iff_exists.mp h
      rw [hx]
      rfl
    · rw [if_neg e, if_neg e]
  · rw [if_neg h, tGet_app]
    have hn : tGet u kvs = none := by
      cases e : tGet u kvs with
      | none => rfl
      | some x => rw [e] at h; exact absurd rfl h
    by_cases e : u = k
    · subst e
      rw [hn, if_pos rfl]
      simp [tGet]
    · rw [if_neg e]
      cases e2 : tGet k kvs with
      | some x => rfl
      | none => simp [tGet, e]
theorem tPut_keys : (tPut u v kvs).map (·.1) = if u ∈ kvs.map (·.1) then kvs.map (·.1) else kvs.map (·.1) ++ [u] := by
  unfold tPut
  by_cases h : u ∈ kvs.map (·.1)
  · have hs : (tGet u kvs).isSome = true := by
      cases e : tGet u kvs with
      | none => exact absurd h (tGet_none.mp e)
      | some x => rfl
    rw [if_pos hs, if_pos h, List.map_map]
    refine List.map_congr_left fun p _ => ?_
    simp only [Function.comp]
    split <;> rfl
  · have hs : ¬ (tGet u kvs).isSome = true := by
      rw [tGet_none.mpr h]
      decide
    rw [if_neg hs, if_neg h, List.map_append]
    rfl
end
def stepD {α : Type} (key : α → List Int) (sg : α → Int) (kvs : List (List Int × Int)) (a : α) : List (List Int × Int) := tPut (key a) ((tGet (key a) kvs).getD 0 + sg a) kvs
section
variable {α : Type} {key : α → List Int} {sg : α → Int}
theorem stepD_ok : ∀ (l : List α), ((l.foldl (stepD key sg) []).map (·.1)).Nodup ∧ (∀ k, k ∈ (l.foldl (stepD key sg) []).map (·.1) ↔ ∃ a ∈ l, key a = k) ∧
    (∀ k, (tGet k (l.foldl (stepD key sg) [])).getD 0 = sumI (l.map fun a => if key a = k then sg a else 0)) ∧ (l.foldl (stepD key sg) []).length ≤ l.length := fun l => by
  refine snoc_ind (Q := fun l => ((l.foldl (stepD key sg) []).map (·.1)).Nodup ∧ (∀ k, k ∈ (l.foldl (stepD key sg) []).map (·.1) ↔ ∃ a ∈ l, key a = k) ∧
    (∀ k, (tGet k (l.foldl (stepD key sg) [])).getD 0 = sumI (l.map fun a => if key a = k then sg a else 0)) ∧ (l.foldl (stepD key sg) []).length ≤ l.length) ?_ ?_ l
  · exact ⟨List.nodup_nil, fun k => by simp, fun k => rfl, Nat.le_refl _⟩
  · intro l a ⟨h1, h2, h3, h4⟩
    rw [List.foldl_append]
    show (((stepD key sg (l.foldl (stepD key sg) []) a)).map (·.1)).Nodup ∧ (∀ k, k ∈ (stepD key sg (l.foldl (stepD key sg) []) a).map (·.1) ↔ _) ∧ (∀ k, (tGet k (stepD key sg (l.foldl (stepD key sg) []) a)).getD 0 = _) ∧ (stepD key sg (l.foldl (stepD key sg) []) a).length ≤ _
    obtain ⟨D, hD⟩ : ∃ D, D = l.foldl (stepD key sg) [] := ⟨_, rfl⟩
    rw [← hD] at h1 h2 h3 h4 ⊢
    unfold stepD
    rw [tPut_keys]
    refine ⟨?_, fun k => ?_, fun k => ?_, ?_⟩
    · split
      · exact h1
      · rename_i hn
        refine List.nodup_append.mpr ⟨h1, by simp, fun x hx y hy e => ?_⟩
        rw [List.mem_singleton] at hy
        exact hn (hy ▸ e ▸ hx)
    · have e : k ∈ (if key a ∈ D.map (·.1) then D.map (·.1) else D.map (·.1) ++ [key a]) ↔ k ∈ D.map (·.1) ∨ k = key a := by
        split
        · rename_i hm
          exact ⟨.inl, fun h => h.elim id fun e => e ▸ hm⟩
        · rw [List.mem_append, List.mem_singleton]
      rw [e, h2]
      constructor
      · rintro (⟨b, hb, rfl⟩ | rfl)
        · exact ⟨b, List.mem_append_left _ hb, rfl⟩
        · exact ⟨a, by simp, rfl⟩
      · rintro ⟨b, hb, rfl⟩
        rcases List.mem_append.mp hb with hb | hb
        · exact .inl ⟨b, hb, rfl⟩
        · rw [List.mem_singleton] at hb
          exact .inr (by rw [hb])
    · rw [tGet_put, List.map_append, sumI_append, ← h3]
      show _ = _ + ((if key a = k then sg a else 0) + 0)
      by_cases e : key a = k
      · subst e
        rw [if_pos rfl, if_pos rfl]
        show (tGet (key a) D).getD 0 + sg a = _
        omega
      · rw [if_neg e, if_neg e]
        omega
    · unfold tPut
      split
      · rw [List.length_map, List.length_append]
        simp only [List.length_singleton]
        omega
      · rw [List.length_append, List.length_append]
        simp only [List.length_singleton]
        omega
end
section
variable {n : Nat} {P : List (List Nat)}
theorem numT_ind : ∀ (n : Nat) (U st : List Bool), U.length = n → st.length = n → numT n (fun v => if subS n U v = true then 1 else 0) st = if st = U then 1 else 0
  | 0, U, st, h1, h2 => by
    obtain rfl := List.eq_nil_of_length_eq_zero h1
    obtain rfl := List.eq_nil_of_length_eq_zero h2
    decide
  | n + 1, U, st, h1, h2 => by
    obtain ⟨U, c, rfl, hU⟩ := snoc_of h1
    obtain ⟨st, b, rfl, hs⟩ := snoc_of h2
    rw [numT_snoc b hs]
    have e : ∀ d : Bool, numT n (fun s => if subS (n + 1) (U ++ [c]) (s ++ [d]) = true then (1 : Int) else 0) st = if (!c || d) = true then (if st = U then 1 else 0) else 0 := fun d => by
      have ih := numT_ind n U st hU hs
      by_cases hd : (!c || d) = true
      · rw [if_pos hd, ← ih]
        unfold numT
        congr 1
        refine List.map_congr_left fun v hv => ?_
        unfold termT
        dsimp only
        rw [subS_snoc hU (lawStates_mem hv), hd, Bool.and_true]
      · rw [if_neg hd]
        unfold numT
        have : ∀ l : List (List Bool), (∀ v ∈ l, v.length = n) → sumI (l.map (termT n (fun s => if subS (n + 1) (U ++ [c]) (s ++ [d]) = true then (1 : Int) else 0) st)) = 0 := fun l => by
          induction l with
          | nil => intro _; rfl
          | cons v l ih2 =>
            intro hl
            rw [List.map_cons, show ∀ (a : Int) l, sumI (a :: l) = a + sumI l from fun _ _ => rfl, ih2 fun w hw => hl w (List.mem_cons_of_mem _ hw)]
            unfold termT
            dsimp only
            have hd2 : (!c || d) = false := by cases c <;> cases d <;> first | rfl | exact absurd rfl hd
            rw [subS_snoc hU (hl v List.mem_cons_self), hd2, Bool.and_false]
            split <;> simp
        exact this _ fun v hv => lawStates_mem hv
    rw [e, e]
    have hx : (st ++ [b] = U ++ [c]) ↔ (st = U ∧ b = c) := by
      constructor
      · intro h
        have := List.append_inj' h rfl
        exact ⟨this.1, by simpa using this.2⟩
      · rintro ⟨rfl, rfl⟩; rfl
    by_cases hu : st = U
    · cases b <;> cases c <;> simp [hx, hu]
    · cases b <;> cases c <;> simp [hx, hu]
end
end FWP

namespace FWP
open PySem FW
def lotsL (m : Nat) : List (List Nat) := (nats 1 (m + 1)).flatMap fun s => subsEq m s
def sgI (L : List Nat) : Int := if L.length % 2 = 1 then 1 else -1
def uP (P : List (List Nat)) (L : List Nat) : List Nat := usedL (L.map (ith P))
def stOf (n : Nat) (U : List Nat) : List Bool := (List.range n).map fun k => decide (k ∈ U)
section
variable {n : Nat} {P : List (List Nat)}
theorem sumI_rat {α : Type} (f : α → Int) : ∀ l : List α, ((sumI (l.map f) : Int) : Rat) = sumR (l.map fun a => ((f a : Int) : Rat))
  | [] => rfl
  | a :: l => by
    show ((f a + sumI (l.map f) : Int) : Rat) = (f a : Rat) + sumR (l.map fun a => ((f a : Int) : Rat))
    rw [← sumI_rat f l, Rat.intCast_add]
theorem lots_sum (f : List Nat → Rat) (m : Nat) : sumR ((lotsL m).map f) = sumS m f := by
  unfold lotsL sumS
  rw [flat_map]
theorem mem_lots {m : Nat} {L : List Nat} (h : L ∈ lotsL m) : L ∈ subs m := by
  obtain ⟨s, _, h⟩ := List.mem_flatMap.mp h
  exact (mem_subsEq.mp h).1
theorem wk_signs (st : List Bool) : wkG P st = sumI ((lotsL P.length).map fun L => sgI L * if (L.all fun j => (ith P j).all (ith st)) = true then 1 else 0) := by
  rw [← Rat.intCast_inj, sumI_rat]
  have e : (fun L => ((sgI L * (if (L.all fun j => (ith P j).all (ith st)) = true then 1 else 0) : Int) : Rat)) = fun L => sgn L * prodL (L.map fun j => b2r ((ith P j).all (ith st))) := funext fun L => by
    rw [prodL_b2r, Rat.intCast_mul]
    congr 1
    · unfold sgI sgn
      split <;> rfl
    · cases L.all fun j => (ith P j).all (ith st) <;> rfl
  rw [e, lots_sum, sumS_signs]
  have e2 : prodL ((List.range P.length).map fun j => 1 - b2r ((ith P j).all (ith st))) = b2r (P.all fun p => !p.all (ith st)) := by
    rw [← prodL_b2r]
    congr 1
    conv => rhs; rw [← map_ith P, List.map_map]
    refine List.map_congr_left fun j _ => ?_
    simp only [Function.comp]
    rw [b2r_not]
  rw [e2]
  have e3 : (P.all fun p => !p.all (ith st)) = !wk P (ith st) := by
    unfold wk
    rw [List.not_any_eq_all_not]
  rw [e3, b2r_not]
  unfold wkG
  cases wk P (ith st) with
  | true => rw [if_pos rfl]; show (1 : Rat) = 1 - (1 - 1); grind
  | false => rw [if_neg (by decide)]; show (0 : Rat) = 1 - (1 - 0); grind
theorem numT_zero : numT n (fun _ => 0) st = 0 := by
  unfold numT
  have : ∀ l : List (List Bool), sumI (l.map (termT n (fun _ => 0) st)) = 0 := fun l => by
    induction l with
    | nil => rfl
    | cons v l ih =>
      show termT n (fun _ => 0) st v + sumI (l.map (termT n (fun _ => 0) st)) = 0
      rw [ih]
      unfold termT
      split <;> simp
  exact this _
theorem numT_lin {a b : List Bool → Int} {c : Int} : numT n (fun v => c * a v + b v) st = c * numT n a st + numT n b st := by
  unfold numT
  have : ∀ l : List (List Bool), sumI (l.map (termT n (fun v => c * a v + b v) st)) = c * sumI (l.map (termT n a st)) + sumI (l.map (termT n b st)) := fun l => by
    induction l with
    | nil => show (0 : Int) = c * 0 + 0; omega
    | cons v l ih =>
      show termT n (fun v => c * a v + b v) st v + sumI (l.map (termT n (fun v => c * a v + b v) st)) = c * (termT n a st v + sumI (l.map (termT n a st))) + (termT n b st v + sumI (l.map (termT n b st)))
      rw [ih]
      unfold termT
      split <;> grind
  exact this _
theorem numT_sum {α : Type} {c : α → Int} {g : α → List Bool → Int} : ∀ l : List α, numT n (fun v => sumI (l.map fun a => c a * g a v)) st = sumI (l.map fun a => c a * numT n (g a) st)
  | [] => numT_zero
  | a :: l => by
    show numT n (fun v => c a * g a v + sumI (l.map fun a => c a * g a v)) st = c a * numT n (g a) st + sumI (l.map fun a => c a * numT n (g a) st)
    rw [numT_lin, numT_sum l]
theorem stOf_ith {U : List Nat} {k : Nat} (h : k < n) : ith (stOf n U) k = decide (k ∈ U) := by
  unfold stOf
  rw [ith_map (by rw [List.length_range]; exact h), ith_range h]
theorem stOf_len {U : List Nat} : (stOf n U).length = n := by unfold stOf; rw [List.length_map, List.length_range]
theorem uP_asc (h : Good n P) {L : List Nat} (hL : L ∈ lotsL P.length) : Asc (uP P L) := usedL_asc fun p hp => by
  obtain ⟨j, hj, rfl⟩ := List.mem_map.mp hp
  exact h.asc _ (List.mem_of_getElem? (get_ith (subs_lt (mem_lots hL) j hj)))
theorem uP_lt (h : Good n P) {L : List Nat} (hL : L ∈ lotsL P.length) {k : Nat} (hk : k ∈ uP P L) : k < n := by
  obtain ⟨p, hp, hkp⟩ := mem_usedL.mp hk
  obtain ⟨j, hj, rfl⟩ := List.mem_map.mp hp
  exact h.lt _ (List.mem_of_getElem? (get_ith (subs_lt (mem_lots hL) j hj))) k hkp
theorem lot_sub (h : Good n P) {L : List Nat} (hL : L ∈ lotsL P.length) {v : List Bool} : (L.all fun j => (ith P j).all (ith v)) = subS n (stOf n (uP P L)) v := by
  rw [Bool.eq_iff_iff, subS_iff, List.all_eq_true]
  constructor
  · intro hall k hk hs
    rw [stOf_ith hk, decide_eq_true_iff] at hs
    obtain ⟨p, hp, hkp⟩ := mem_usedL.mp hs
    obtain ⟨j, hj, rfl⟩ := List.mem_map.mp hp
    exact List.all_eq_true.mp (hall j hj) k hkp
  · intro hsub j hj
    rw [List.all_eq_true]
    intro k hk
    have hu : k ∈ uP P L := mem_usedL.mpr ⟨ith P j, List.mem_map_of_mem hj, hk⟩
    have hkn := uP_lt h hL hu
    exact hsub k hkn (by rw [stOf_ith hkn]; exact decide_eq_true hu)
theorem stOf_inj {U V : List Nat} (hU : Asc U) (hV : Asc V) (hu : ∀ k ∈ U, k < n) (hv : ∀ k ∈ V, k < n) : stOf n U = stOf n V ↔ U = V := by
  constructor
  · intro e
    refine asc_unique hU hV fun k => ?_
    by_cases hk : k < n
    · have e2 : ith (stOf n U) k = ith (stOf n V) k := by rw [e]
      rw [stOf_ith hk, stOf_ith hk] at e2
      exact decide_eq_decide.mp e2
    · exact ⟨fun h => absurd (hu k h) hk, fun h => absurd (hv k h) hk⟩
  · rintro rfl; rfl
theorem num_lots (h : Good n P) {U : List Nat} (hU : Asc U) (hu : ∀ k ∈ U, k < n) : numT n (wkG P) (stOf n U) = sumI ((lotsL P.length).map fun L => if uP P L = U then sgI L else 0) := by
  have e : wkG P = fun st => sumI ((lotsL P.length).map fun L => sgI L * (fun v => if (L.all fun j => (ith P j).all (ith v)) = true then 1 else 0) st) := funext fun st => wk_signs st
  rw [e]
  refine Eq.trans (numT_sum (n := n) (st := stOf n U) (c := sgI) (g := fun L v => if (L.all fun j => (ith P j).all (ith v)) = true then 1 else 0) (lotsL P.length)) ?_
  congr 1
  refine List.map_congr_left fun L hL => ?_
  have e2 : (fun v => if (L.all fun j => (ith P j).all (ith v)) = true then (1 : Int) else 0) = fun v => if subS n (stOf n (uP P L)) v = true then 1 else 0 := funext fun v => by rw [lot_sub h hL]
  rw [e2, numT_ind n _ _ stOf_len stOf_len]
  have e3 := stOf_inj (n := n) hU (uP_asc h hL) hu (fun k hk => uP_lt h hL hk)
  by_cases hx : uP P L = U
  · rw [if_pos (e3.mpr hx.symm), if_pos hx]; omega
  · rw [if_neg fun e => hx (e3.mp e).symm, if_neg hx]; omega
theorem insG_map {α β : Type} {le : β → β → Bool} {le' : α → α → Bool} {f : α → β} (h : ∀ a b, le (f a) (f b) = le' a b) : ∀ l : List α, sortG le (l.map f) = (sortG le' l).map f
  | [] => rfl
  | a :: l => by
    have ih := insG_map h l
    have ins : ∀ l : List α, insG le (f a) (l.map f) = (insG le' a l).map f := fun l => by
      induction l with
      | nil => rfl
      | cons b l ih =>
        show (if le (f a) (f b) = true then f a :: f b :: l.map f else f b :: insG le (f a) (l.map f)) = (if le' a b = true then a :: b :: l else b :: insG le' a l).map f
        rw [h, ih]
        split <;> rfl
    show insG le (f a) (sortG le (l.map f)) = (insG le' a (sortG le' l)).map f
    rw [ih, ins]
theorem lePair_val {f : List Nat → Int} (U V : List Nat) : lePair (U, f U) (V, f V) = leL U V := by
  show (!(if eqv (setV V) (setV U) = true then ltKs [.int (f V)] [.int (f U)] else ltK (setV V) (setV U))) = !ltL V U
  have e1 : ltK (setV V) (setV U) = ltL V U := ltKs_nn V U
  have e3 : eqv (setV V) (setV U) = decide (V = U) := eqvs_enc
  rw [e1, e3]
  by_cases h : V = U
  · subst h
    rw [if_pos (decide_eq_true rfl), ltL_irr]
    show (!(if eqv (.int (f V)) (.int (f V)) = true then ltKs [] [] else ltK (.int (f V)) (.int (f V)))) = _
    rw [if_pos (by simp [eqv])]
    rfl
  · rw [if_neg (by simp [h])]
end
end FWP

namespace P22
open PySem FW FWP
abbrev c_law_0 : CE := (.comp false [8] (.name 8) (.seq (.var 6)) (.k (.bl true)) (.idx (.idx (.var 2) (.k (.int 1))) (.var 8)))
abbrev b_law_1 : CB := (.cons (.set 7 (.bi .tuple false (.cons (.call 4 (.cons c_law_0 .nil)) .nil)))
      (.cons (.putT 3 (.var 7) (.bin .add false (.getT (.var 3) (.var 7) (.k (.int 0))) (.ite (.cmp .eq (.bin .mod false (.bi .int false (.cons (.var 4) .nil)) (.k (.int 2))) (.k (.int 1))) (.k (.int 1)) (.neg (.k (.int 1)))))) .nil))
abbrev b_law_0 : CB := (.cons (.forr (.name 6) (.seq (.call 2 (.cons (.bi .len false (.cons (.idx (.var 2) (.k (.int 1))) .nil)) (.cons (.var 4) .nil))))
      b_law_1 []) .nil)
abbrev c_law_1 : CE := (.comp false [7] (.name 7) (.seq (.keysT false (.var 3))) (.cmp .ne (.idxT (.var 3) (.var 7)) (.k (.int 0))) (.tup (.cons (.var 7) (.cons (.idxT (.var 3) (.var 7)) .nil))))
abbrev t_law_6 : CB := .cons (.ret (.call 1 (.cons (.call 3 (.cons (.var 2) .nil)) (.cons (.bi .tuple false (.cons (.var 5) .nil)) .nil)))) .nil
abbrev t_law_5 : CB := .cons (.set 5 c_law_1) t_law_6
abbrev t_law_4 : CB := .cons (.forr (.name 4) (.rng2 (.k (.int 1)) (.bin .add false (.bi .len false (.cons (.idx (.var 2) (.k (.int 1))) .nil)) (.k (.int 1))))
      b_law_0 []) t_law_5
abbrev t_law_3 : CB := .cons (.set 3 .dtt0) t_law_4
abbrev t_law_2 : CB := .cons (.set 2 (.tup (.cons (.idx (.var 2) (.k (.int 0))) (.cons (.slc false (.idx (.var 2) (.k (.int 1))) (.k .non) (.k (.int 6))) .nil)))) t_law_3
abbrev t_law_1 : CB := .cons (.set 2 (.call 0 (.cons (.var 1) (.cons (.k (.int 6)) .nil)))) t_law_2
abbrev t_law_0 : CB := .cons (.set 1 (.list true (.cons (.var 0) (.cons (.k (.int 0)) (.cons (.k (.int 4022)) (.cons (.k (.int 0)) .nil)))))) t_law_1
def d_law : FW.Def := ⟨1, 9, t_law_0⟩
def g_law : List (Str × Fn) := [("_law_system", F__law_system), ("_law_alike", F__law_alike 8), ("_law_subsets", F__law_subsets), ("signed_terms", F_signed_terms), ("_law_used", F__law_used)]
def F_law : Fn := fnSem g_law d_law
@[simp] theorem g_law_0 : g_law[0]?.map Prod.snd = some F__law_system := rfl
@[simp] theorem g_law_1 : g_law[1]?.map Prod.snd = some (F__law_alike 8) := rfl
@[simp] theorem g_law_2 : g_law[2]?.map Prod.snd = some F__law_subsets := rfl
@[simp] theorem g_law_3 : g_law[3]?.map Prod.snd = some F_signed_terms := rfl
@[simp] theorem g_law_4 : g_law[4]?.map Prod.snd = some F__law_used := rfl

end P22

namespace P22
open PySem FW FWP
theorem op_mod2 {a : Nat} : intOp .mod (a : Int) 2 = some ((a % 2 : Nat) : Int) := by
  have := fmod_nat a 2
  simp [intOp]
  exact this
theorem cut6 {xs : List PV} : cut xs none (some 6) = xs.take 6 := by
  unfold cut
  rw [show sx xs.length 0 none = 0 from rfl, show sx xs.length xs.length (some 6) = min 6 xs.length from rfl]
  simp only [List.drop_zero, Nat.sub_zero]
  by_cases h : 6 ≤ xs.length
  · rw [Nat.min_eq_left h]
  · rw [Nat.min_eq_right (by omega), List.take_of_length_le (Nat.le_refl _), List.take_of_length_le (by omega)]
def iN (U : List Nat) : List Int := U.map fun k : Nat => ((k : Nat) : Int)
def uI (P : List (List Nat)) (L : List Nat) : List Int := iN (uP P L)
theorem intsO_nn : ∀ U : List Nat, intsO (U.map nn) = some (iN U)
  | [] => rfl
  | k :: U => by
    show (intsO (U.map nn)).map ((k : Int) :: ·) = _
    rw [intsO_nn U]
    rfl
theorem tk_set {U : List Nat} : tkOf (.v (setV U)) = some (iN U) := intsO_nn U
theorem dtt_end {T : Store} {kvs : List (List Int × Int)} : dttOf (T ++ [.dtt kvs]) (.l T.length) = some kvs := by
  simp [dttOf]
theorem iN_inj {U V : List Nat} (h : iN U = iN V) : U = V := by
  have e : (iN U).map Int.toNat = (iN V).map Int.toNat := by rw [h]
  unfold iN at e
  rw [List.map_map, List.map_map] at e
  have e2 : (Int.toNat ∘ fun k : Nat => (k : Int)) = id := funext fun k => by simp
  rwa [e2, List.map_id, List.map_id] at e
theorem v_getT {Γ : List (Str × Fn)} {ρ : Slots} {T : Store} {kvs : List (List Int × Int)} {i k : Nat} {U : List Nat} {j : Int} (h1 : getS ρ i = some (.l T.length)) (h2 : getS ρ k = some (.v (setV U))) : (ev Γ (.getT (.var i) (.var k) (.k (.int j)))).v ρ (T ++ [.dtt kvs]) = .ok (.v (.int ((tGet (iN U) kvs).getD j))) (T ++ [.dtt kvs]) := by
  show sGetT (ev Γ (.var i)).v (ev Γ (.var k)).v (ev Γ (.k (.int j))).v ρ _ = _
  have a1 : (ev Γ (.var i)).v ρ (T ++ [.dtt kvs]) = .ok (.l T.length) (T ++ [.dtt kvs]) := by simp! [h1]
  have a2 : (ev Γ (.var k)).v ρ (T ++ [.dtt kvs]) = .ok (.v (setV U)) (T ++ [.dtt kvs]) := by simp! [h2]
  have a3 : (ev Γ (.k (.int j))).v ρ (T ++ [.dtt kvs]) = .ok (.v (.int j)) (T ++ [.dtt kvs]) := by simp! []
  unfold sGetT
  rw [a1, Out.bind_ok, dtt_end, if_pos (show (some kvs).isSome = true from rfl), a2, Out.bind_ok, a3, Out.bind_ok]
  unfold getTOp
  rw [dtt_end, tk_set]
theorem v_idxT {Γ : List (Str × Fn)} {ρ : Slots} {T : Store} {kvs : List (List Int × Int)} {i k : Nat} {U : List Nat} {v : Int} (h1 : getS ρ i = some (.l T.length)) (h2 : getS ρ k = some (.v (setV U))) (h3 : tGet (iN U) kvs = some v) : (ev Γ (.idxT (.var i) (.var k))).v ρ (T ++ [.dtt kvs]) = .ok (.v (.int v)) (T ++ [.dtt kvs]) := by
  show sTtIdx (ev Γ (.var i)).v (ev Γ (.var k)).v ρ _ = _
  have a1 : (ev Γ (.var i)).v ρ (T ++ [.dtt kvs]) = .ok (.l T.length) (T ++ [.dtt kvs]) := by simp! [h1]
  have a2 : (ev Γ (.var k)).v ρ (T ++ [.dtt kvs]) = .ok (.v (setV U)) (T ++ [.dtt kvs]) := by simp! [h2]
  unfold sTtIdx
  rw [a1, Out.bind_ok, a2, Out.bind_ok]
  unfold ttIdxOp
  rw [dtt_end, tk_set]
  dsimp only
  rw [h3]
theorem qs_putT {Γ : List (Str × Fn)} {ρ : Slots} {T : Store} {kvs : List (List Int × Int)} {i : Nat} {a e : CE} {U : List Nat} {v : Int} (h0 : (ev Γ e).v ρ (T ++ [.dtt kvs]) = .ok (.v (.int v)) (T ++ [.dtt kvs])) (h1 : getS ρ i = some (.l T.length)) (h2 : (ev Γ a).v ρ (T ++ [.dtt kvs]) = .ok (.v (setV U)) (T ++ [.dtt kvs])) (hl : kvs.length < line) :
    evS Γ (.putT i a e) ρ (T ++ [.dtt kvs]) = .ok (.next ρ) (T ++ [.dtt (tPut (iN U) v kvs)]) := by
  show sPutT i (ev Γ a).v (ev Γ e).v ρ _ = _
  unfold sPutT
  rw [h0, Out.bind_ok, h2, Out.bind_ok, h1]
  unfold putTOp
  rw [tk_set]
  dsimp only
  rw [show (T ++ [Ob.dtt kvs])[T.length]? = some (.dtt kvs) by simp]
  dsimp only
  rw [if_pos hl]
  simp
section
variable {n : Nat} {P : List (List Nat)} {T : Store} {w0 : Option SV}
abbrev rho (w0 : Option SV) (n : Nat) (P : List (List Nat)) (T : Store) (s : Nat) (w6 w7 : Option SV) : Slots := [w0, some (.l 0), some (.v (sysV n P)), some (.l T.length), some (.v (nn s)), none, w6, w7, none]
theorem k_turn (hg : Good n P) (hP : P.length ≤ 6) {L : List Nat} (hL : L ∈ lotsL P.length) {kvs : List (List Int × Int)} (hl : kvs.length ≤ 1000) {w6 w7 : Option SV} :
    turnF g_law (.name 6) b_law_1 (setV L) (rho w0 n P T L.length w6 w7) (T ++ [.dtt kvs]) = .ok (.next (rho w0 n P T L.length (some (.v (setV L))) (some (.v (setV (uP P L)))))) (T ++ [.dtt (stepD (uI P) sgI kvs L)]) := by
  have hj : ∀ j ∈ L, j < P.length := subs_lt (mem_lots hL)
  have hQ : ∀ p ∈ L.map (ith P), p ∈ P := fun p hp => by
    obtain ⟨j, hj', rfl⟩ := List.mem_map.mp hp
    exact List.mem_of_getElem? (get_ith (hj j hj'))
  have e1 := fun S => F__law_used_eq (Q := L.map (ith P)) (S := S) (fun p hp => hg.asc p (hQ p hp)) fun p hp k hk => by have := hg.lt p (hQ p hp) k hk; have := hg.n8; omega
  have hLl : L.length ≤ 8 := by have := asc_len (subs_asc (mem_lots hL)) hj; omega
  have c0 : ∀ S, (ev g_law c_law_0).v [w0, some (.l 0), some (.v (sysV n P)), some (.l T.length), some (.v (nn L.length)), none, some (.v (setV L)), w7, none] S = .ok (.v (.lst ((L.map (ith P)).map setV))) S := fun S => by
    rw [List.map_map]
    refine comp_fm (x := nn) rfl L (setV ∘ ith P) (by show _ ≤ 16777216; omega) ?_ fun j hjL => ?_
    · obtain ⟨Z, hZ⟩ : ∃ Z, Z = sysV n P := ⟨_, rfl⟩
      rw [← hZ]
      clear hZ
      simp! []
    · have a1 : atO (P.map setV) (j : Int) = some (setV (ith P j)) := at_map (hj j hjL)
      obtain ⟨Z, hZ⟩ : ∃ Z, Z = P.map setV := ⟨_, rfl⟩
      obtain ⟨Y, hY⟩ : ∃ Z, Z = setV (ith P j) := ⟨_, rfl⟩
      rw [← hZ, ← hY] at a1
      show _ = Out.ok (some (setV (ith P j))) S
      show cTurn _ _ _ (wipeS [w0, some (.l 0), some (.v (.tup [nn n, .tup (P.map setV)])), some (.l T.length), some (.v (nn L.length)), none, some (.v (setV L)), w7, none] _) _ _ = _
      rw [← hZ, ← hY]
      clear hZ hY
      simp! [a1]
  have ul : (uP P L).length ≤ 8 := by
    have := asc_len (uP_asc hg hL) fun k hk => uP_lt hg hL hk
    have := hg.n8
    omega
  have s1 : evS g_law (.set 7 (.bi .tuple false (.cons (.call 4 (.cons c_law_0 .nil)) .nil))) (rho w0 n P T L.length (some (.v (setV L))) w7) (T ++ [.dtt kvs]) = .ok (.next (rho w0 n P T L.length (some (.v (setV L))) (some (.v (setV (uP P L)))))) (T ++ [.dtt kvs]) := by
    have e1' : ∀ S, F__law_used [.v (.lst ((L.map (ith P)).map setV))] S = .ok (.v (.lst ((uP P L).map nn))) S := e1
    have um : ((uP P L).map nn).length ≤ 16777216 := by rw [List.length_map]; omega
    obtain ⟨A, hA⟩ : ∃ Z, Z = (L.map (ith P)).map setV := ⟨_, rfl⟩
    obtain ⟨B, hB⟩ : ∃ Z, Z = (uP P L).map nn := ⟨_, rfl⟩
    have hs : setV (uP P L) = .tup B := by rw [hB]
    rw [hs]
    simp only [← hA, ← hB] at c0 e1' um
    obtain ⟨Z, hZ⟩ : ∃ Z, Z = sysV n P := ⟨_, rfl⟩
    obtain ⟨C, hC⟩ : ∃ Z, Z = setV L := ⟨_, rfl⟩
    unfold rho
    rw [← hZ, ← hC] at c0 ⊢
    clear hA hB hZ hC hs
    simp! [↓c0, e1', mkT_ok um]
  have s2 : evS g_law (.putT 3 (.var 7) (.bin .add false (.getT (.var 3) (.var 7) (.k (.int 0))) (.ite (.cmp .eq (.bin .mod false (.bi .int false (.cons (.var 4) .nil)) (.k (.int 2))) (.k (.int 1))) (.k (.int 1)) (.neg (.k (.int 1)))))) (rho w0 n P T L.length (some (.v (setV L))) (some (.v (setV (uP P L))))) (T ++ [.dtt kvs]) =
      .ok (.next (rho w0 n P T L.length (some (.v (setV L))) (some (.v (setV (uP P L)))))) (T ++ [.dtt (stepD (uI P) sgI kvs L)]) := by
    refine qs_putT ?_ rfl ?_ (by show _ < 16777216; omega)
    · have g := v_getT (Γ := g_law) (ρ := rho w0 n P T L.length (some (.v (setV L))) (some (.v (setV (uP P L))))) (T := T) (kvs := kvs) (i := 3) (k := 7) (U := uP P L) (j := 0) rfl rfl
      obtain ⟨x, hx⟩ : ∃ x, x = (tGet (iN (uP P L)) kvs).getD 0 := ⟨_, rfl⟩
      show _ = Out.ok (SV.v (.int ((tGet (iN (uP P L)) kvs).getD 0 + sgI L))) _
      rw [← hx] at g ⊢
      unfold sgI
      by_cases h2 : L.length % 2 = 1
      · rw [if_pos h2]
        simp! [↓g, op_mod2, h2]
      · have h3 : L.length % 2 = 0 := by omega
        rw [if_neg h2]
        simp! [↓g, op_mod2, h3]
    · simp! []
  show evB g_law b_law_1 (rho w0 n P T L.length (some (.v (setV L))) w7) (T ++ [.dtt kvs]) = _
  show (evS g_law _ _ _).bind _ = _
  rw [s1, Out.bind_ok]
  show (evS g_law _ _ _).bind _ = _
  rw [s2, Out.bind_ok]
  rfl
theorem k_loop (hg : Good n P) (hP : P.length ≤ 6) {s : Nat} : ∀ (b : List (List Nat)) (kvs : List (List Int × Int)) (w6 w7 : Option SV), (∀ L ∈ b, L ∈ lotsL P.length ∧ L.length = s) → kvs.length + b.length ≤ 1000 →
    ∃ w6' w7', forL (turnF g_law (.name 6) b_law_1) [] (b.map setV) (rho w0 n P T s w6 w7) (T ++ [.dtt kvs]) = .ok (.next (rho w0 n P T s w6' w7')) (T ++ [.dtt (b.foldl (stepD (uI P) sgI) kvs)])
  | [], kvs, w6, w7, _, _ => ⟨w6, w7, rfl⟩
  | L :: b, kvs, w6, w7, hb, hl => by
    obtain ⟨hL, hs⟩ := hb L List.mem_cons_self
    subst hs
    rw [List.length_cons] at hl
    have e := k_turn (w0 := w0) (T := T) (w6 := w6) (w7 := w7) hg hP hL (kvs := kvs) (by omega)
    have hk : (stepD (uI P) sgI kvs L).length ≤ kvs.length + 1 := by
      unfold stepD tPut
      split
      · rw [List.length_map]; omega
      · rw [List.length_append, List.length_singleton]; omega
    obtain ⟨w6', w7', ih⟩ := k_loop hg hP b (stepD (uI P) sgI kvs L) (some (.v (setV L))) (some (.v (setV (uP P L)))) (fun M hM => hb M (List.mem_cons_of_mem _ hM)) (by omega)
    exact ⟨w6', w7', by rw [List.map_cons, forL_cons e]; exact ih⟩
theorem subs64 {m : Nat} (h : m ≤ 6) : (subs m).length ≤ 64 := by
  rw [subs_len]
  have : 2 ^ m ≤ 2 ^ 6 := Nat.pow_le_pow_right (by decide) h
  exact this
theorem subsEq64 {m s : Nat} (h : m ≤ 6) : (subsEq m s).length ≤ 64 := by
  unfold subsEq
  have := subs64 h
  have h2 := List.length_filter_le (fun l : List Nat => decide (l.length = s)) (subs m)
  have h3 : (sortS ((subs m).filter fun l => decide (l.length = s))).length = ((subs m).filter fun l => decide (l.length = s)).length := sortG_len
  omega
theorem s_loop (hg : Good n P) (hP : P.length ≤ 6) : ∀ (b : List Nat) (kvs : List (List Int × Int)) (w4 w6 w7 : Option SV), (∀ s ∈ b, 1 ≤ s ∧ s ≤ P.length) → kvs.length + 64 * b.length ≤ 1000 →
    ∃ w4' w6' w7', forL (turnF g_law (.name 4) b_law_0) [] (b.map nn) [w0, some (.l 0), some (.v (sysV n P)), some (.l T.length), w4, none, w6, w7, none] (T ++ [.dtt kvs]) =
      .ok (.next [w0, some (.l 0), some (.v (sysV n P)), some (.l T.length), w4', none, w6', w7', none]) (T ++ [.dtt ((b.flatMap fun s => subsEq P.length s).foldl (stepD (uI P) sgI) kvs)])
  | [], kvs, w4, w6, w7, _, _ => ⟨w4, w6, w7, rfl⟩
  | s :: b, kvs, w4, w6, w7, hb, hl => by
    obtain ⟨h1, h2⟩ := hb s List.mem_cons_self
    rw [List.length_cons] at hl
    have h64 := subsEq64 (s := s) hP
    obtain ⟨x6, x7, e⟩ := k_loop (w0 := w0) (T := T) (s := s) hg hP (subsEq P.length s) kvs w6 w7 (fun L hL => ⟨List.mem_flatMap.mpr ⟨s, by unfold nats; rw [List.mem_range'_1]; omega, hL⟩, (mem_subsEq.mp hL).2⟩) (by omega)
    have e2 := fun S => F__law_subsets_eq (S := S) (m := P.length) (s := s) (by omega) h1
    have hk : ((subsEq P.length s).foldl (stepD (uI P) sgI) kvs).length ≤ kvs.length + (subsEq P.length s).length := by
      have key : ∀ (l : List (List Nat)) (kvs : List (List Int × Int)), (l.foldl (stepD (uI P) sgI) kvs).length ≤ kvs.length + l.length := fun l => by
        induction l with
        | nil => intro kvs; exact Nat.le_refl _
        | cons L l ih =>
          intro kvs
          have a := ih (stepD (uI P) sgI kvs L)
          have b : (stepD (uI P) sgI kvs L).length ≤ kvs.length + 1 := by
            unfold stepD tPut
            split
            · rw [List.length_map]; omega
            · rw [List.length_append, List.length_singleton]; omega
          rw [List.length_cons]
          show (l.foldl (stepD (uI P) sgI) (stepD (uI P) sgI kvs L)).length ≤ _
          omega
      exact key _ _
    obtain ⟨y4, y6, y7, ih⟩ := s_loop hg hP b ((subsEq P.length s).foldl (stepD (uI P) sgI) kvs) (some (.v (nn s))) x6 x7 (fun t ht => hb t (List.mem_cons_of_mem _ ht)) (by omega)
    have ht : turnF g_law (.name 4) b_law_0 (nn s) [w0, some (.l 0), some (.v (sysV n P)), some (.l T.length), w4, none, w6, w7, none] (T ++ [.dtt kvs]) = .ok (.next (rho w0 n P T s x6 x7)) (T ++ [.dtt ((subsEq P.length s).foldl (stepD (uI P) sgI) kvs)]) := by
      have hpl : (P.map setV).length = P.length := List.length_map _
      unfold rho at e
      obtain ⟨A, hA⟩ : ∃ Z, Z = (subsEq P.length s).map setV := ⟨_, rfl⟩
      obtain ⟨Z, hZ⟩ : ∃ Z, Z = P.map setV := ⟨_, rfl⟩
      obtain ⟨D, hD⟩ : ∃ Z, Z = (subsEq P.length s).foldl (stepD (uI P) sgI) kvs := ⟨_, rfl⟩
      obtain ⟨m, hm⟩ : ∃ m, m = P.length := ⟨_, rfl⟩
      simp only [← hA] at e2 e
      simp only [← hm] at e2
      rw [← hD] at e ⊢
      rw [← hZ, ← hm] at hpl
      unfold rho
      change forL (turnF g_law (.name 6) b_law_1) [] A [w0, some (.l 0), some (.v (.tup [nn n, .tup (P.map setV)])), some (.l T.length), some (.v (nn s)), none, w6, w7, none] (T ++ [.dtt kvs]) = .ok (.next [w0, some (.l 0), some (.v (.tup [nn n, .tup (P.map setV)])), some (.l T.length), some (.v (nn s)), none, x6, x7, none]) _ at e
      show turnF g_law (.name 4) b_law_0 (nn s) [w0, some (.l 0), some (.v (.tup [nn n, .tup (P.map setV)])), some (.l T.length), w4, none, w6, w7, none] (T ++ [.dtt kvs]) = .ok (.next [w0, some (.l 0), some (.v (.tup [nn n, .tup (P.map setV)])), some (.l T.length), some (.v (nn s)), none, x6, x7, none]) _
      rw [← hZ] at e ⊢
      clear hA hZ hD ih hk h64
      simp! [b_law_0, e2, e, hpl]
    refine ⟨y4, y6, y7, ?_⟩
    rw [List.map_cons, forL_cons ht, List.flatMap_cons, List.foldl_append]
    exact ih
def dicL (P : List (List Nat)) : List (List Int × Int) := (lotsL P.length).foldl (stepD (uI P) sgI) []
def keyN (P : List (List Nat)) : List (List Nat) := (dicL P).map fun p => p.1.map Int.toNat
def told (P : List (List Nat)) (U : List Nat) : Int := (tGet (iN U) (dicL P)).getD 0
theorem toNat_iN {U : List Nat} : (iN U).map Int.toNat = U := by
  unfold iN
  rw [List.map_map]
  have e2 : (Int.toNat ∘ fun k : Nat => ((k : Nat) : Int)) = id := funext fun k => by simp
  rw [e2, List.map_id]
theorem key_of_lot {p : List Int × Int} (hp : p ∈ dicL P) : ∃ L ∈ lotsL P.length, p.1 = iN (uP P L) := by
  obtain ⟨-, h2, -, -⟩ := stepD_ok (key := uI P) (sg := sgI) (lotsL P.length)
  obtain ⟨L, hL, e⟩ := (h2 p.1).mp (List.mem_map_of_mem hp)
  exact ⟨L, hL, e.symm⟩
theorem mem_keyN {U : List Nat} : U ∈ keyN P ↔ ∃ L ∈ lotsL P.length, uP P L = U := by
  obtain ⟨-, h2, -, -⟩ := stepD_ok (key := uI P) (sg := sgI) (lotsL P.length)
  unfold keyN
  rw [List.mem_map]
  constructor
  · rintro ⟨p, hp, rfl⟩
    obtain ⟨L, hL, e⟩ := key_of_lot hp
    exact ⟨L, hL, by rw [e, toNat_iN]⟩
  · rintro ⟨L, hL, rfl⟩
    obtain ⟨p, hp, e⟩ := List.mem_map.mp ((h2 (uI P L)).mpr ⟨L, hL, rfl⟩)
    exact ⟨p, hp, by rw [e]; exact toNat_iN⟩
theorem keyN_nodup : (keyN P).Nodup := by
  obtain ⟨h1, -, -, -⟩ := stepD_ok (key := uI P) (sg := sgI) (lotsL P.length)
  unfold keyN
  unfold List.Nodup at h1 ⊢
  rw [List.pairwise_map] at h1 ⊢
  refine (List.Pairwise.and_mem.mp h1).imp fun {p q} ⟨hp, hq, hne⟩ e => hne ?_
  obtain ⟨L, _, e1⟩ := key_of_lot hp
  obtain ⟨M, _, e2⟩ := key_of_lot hq
  rw [e1, e2, toNat_iN, toNat_iN] at e
  rw [e1, e2, e]
theorem keys_set : (dicL P).map (fun p => tpI p.1) = (keyN P).map setV := by
  unfold keyN
  rw [List.map_map]
  refine List.map_congr_left fun p hp => ?_
  obtain ⟨L, _, e⟩ := key_of_lot hp
  show tpI p.1 = setV (p.1.map Int.toNat)
  rw [e, toNat_iN]
  show PV.tup ((iN (uP P L)).map .int) = _
  unfold iN
  rw [List.map_map]
  rfl
theorem told_num (hg : Good n P) {U : List Nat} (hU : Asc U) (hu : ∀ k ∈ U, k < n) : told P U = numT n (wkG P) (stOf n U) := by
  obtain ⟨-, -, h3, -⟩ := stepD_ok (key := uI P) (sg := sgI) (lotsL P.length)
  unfold told dicL
  rw [h3, num_lots hg hU hu]
  congr 1
  refine List.map_congr_left fun L _ => ?_
  by_cases h : uP P L = U
  · rw [if_pos (show uI P L = iN U by unfold uI; rw [h]), if_pos h]
  · rw [if_neg fun e : uI P L = iN U => h (iN_inj e), if_neg h]
theorem tGet_key {U : List Nat} (h : U ∈ keyN P) : tGet (iN U) (dicL P) = some (told P U) := by
  unfold told
  cases e : tGet (iN U) (dicL P) with
  | some v => rfl
  | none =>
    obtain ⟨-, h2, -, -⟩ := stepD_ok (key := uI P) (sg := sgI) (lotsL P.length)
    obtain ⟨L, hL, e2⟩ := mem_keyN.mp h
    exact absurd ((h2 (iN U)).mpr ⟨L, hL, by unfold uI; rw [e2]⟩) (tGet_none.mp e)
theorem dic_len (hP : P.length ≤ 6) : (dicL P).length ≤ 1000 := by
  obtain ⟨-, -, -, h4⟩ := stepD_ok (key := uI P) (sg := sgI) (lotsL P.length)
  have : ∀ m, m ≤ 6 → (lotsL m).length ≤ 1000 := fun m hm => by
    have key : ∀ l : List Nat, (l.flatMap fun s => subsEq m s).length ≤ 64 * l.length := fun l => by
      induction l with
      | nil => exact Nat.le_refl _
      | cons s l ih =>
        rw [List.flatMap_cons, List.length_append, List.length_cons]
        have := subsEq64 (s := s) hm
        omega
    have := key (nats 1 (m + 1))
    unfold lotsL
    have h2 : (nats 1 (m + 1)).length = m := by unfold nats; rw [List.length_range']; omega
    omega
  exact Nat.le_trans h4 (this _ hP)
theorem keys_ne (hg : Good n P) (hP : P.length ≤ 6) : (decide ((dicL P).length < 2) || (dicL P).all fun p => !p.1.isEmpty) = true := by
  rw [Bool.or_eq_true, decide_eq_true_iff, List.all_eq_true]
  by_cases h : ∀ p ∈ dicL P, (!p.1.isEmpty) = true
  · exact .inr h
  · left
    obtain ⟨p, hp⟩ := Classical.not_forall.mp h
    obtain ⟨hp, he⟩ := Classical.not_imp.mp hp
    obtain ⟨L, hL, e⟩ := key_of_lot hp
    have hu : uP P L = [] := by
      cases hx : uP P L with
      | nil => rfl
      | cons k U =>
        rw [e, hx] at he
        exact absurd rfl he
    have hLne : L ≠ [] := fun e0 => by
      obtain ⟨s, hs, hLs⟩ := List.mem_flatMap.mp hL
      have := (mem_subsEq.mp hLs).2
      unfold nats at hs
      rw [List.mem_range'_1] at hs
      rw [e0] at this
      simp at this
      omega
    obtain ⟨j, hj⟩ := List.exists_mem_of_ne_nil L hLne
    have hjl := subs_lt (mem_lots hL) j hj
    have hm : ith P j ∈ P := List.mem_of_getElem? (get_ith hjl)
    have hje : ith P j = [] := by
      cases hx : ith P j with
      | nil => rfl
      | cons k U =>
        have : k ∈ uP P L := mem_usedL.mpr ⟨ith P j, List.mem_map_of_mem hj, by rw [hx]; exact List.mem_cons_self⟩
        rw [hu] at this
        cases this
    have hall : ∀ q ∈ P, q = [] := fun q hq => (hg.anti [] (hje ▸ hm) q hq fun k hk => by cases hk).symm
    have hlen : P.length ≤ 1 := by
      have hn := ascS_nodup hg.srt
      match P, hn, hall with
      | [], _, _ => simp
      | [a], _, _ => simp
      | a :: b :: r, hn, hall =>
        have h1 := hall a (by simp)
        have h2 := hall b (by simp)
        rw [List.nodup_cons] at hn
        exact absurd (by rw [h1, h2]; simp) hn.1
    obtain ⟨-, -, -, h4⟩ := stepD_ok (key := uI P) (sg := sgI) (lotsL P.length)
    have : ∀ m, m ≤ 1 → (lotsL m).length ≤ 1 := by decide
    have := this _ hlen
    show (dicL P).length < 2
    unfold dicL
    omega
theorem stOf_parts (h8 : n ≤ 8) {m : Nat} (hm : m < bitN n) : stOf n (partsOf m) = stAt n m := by
  unfold stOf stAt
  refine List.map_congr_left fun k hk => ?_
  rw [Bool.eq_iff_iff, decide_eq_true_iff, mem_partsOf]
  have := List.mem_range.mp hk
  exact ⟨fun h => h.2, fun h => ⟨by omega, h⟩⟩
theorem due_eq (hg : Good n P) : ((sortS (keyN P)).filter fun U => decide (told P U ≠ 0)).map (fun U => PV.tup [setV U, .int (told P U)]) = (termsS n P).map pairV := by
  have h8 := hg.n8
  have e1 : termsL n P = (((List.range (bitN n)).filter fun m => !decide (numP n P m = 0)).map partsOf).map fun U => (U, told P U) := by
    unfold termsL
    rw [List.map_map]
    refine List.map_congr_left fun m hm => ?_
    have hm' := List.mem_range.mp (List.mem_filter.mp hm).1
    show (partsOf m, numP n P m) = (partsOf m, told P (partsOf m))
    rw [told_num hg partsOf_asc fun k hk => bit_lt hm' (mem_partsOf.mp hk).2, stOf_parts h8 hm']
    rfl
  have e2 : sortS (((List.range (bitN n)).filter fun m => !decide (numP n P m = 0)).map partsOf) = (sortS (keyN P)).filter fun U => decide (told P U ≠ 0) := by
    refine ascS_unique (sortS_asc ?_) ((sortS_asc keyN_nodup).filter _) fun U => ?_
    · unfold List.Nodup
      rw [List.pairwise_map]
      have : ((List.range (bitN n)).filter fun m => !decide (numP n P m = 0)).Nodup := List.nodup_range.filter _
      refine (List.Pairwise.and_mem.mp this).imp fun {a b} ⟨ha, hb, hne⟩ e => hne ?_
      exact parts_inj h8 (List.mem_range.mp (List.mem_filter.mp ha).1) (List.mem_range.mp (List.mem_filter.mp hb).1) e
    · rw [mem_sortG, List.mem_filter, mem_sortG, List.mem_map]
      constructor
      · rintro ⟨m, hm, rfl⟩
        obtain ⟨hm1, hm2⟩ := List.mem_filter.mp hm
        have hm' := List.mem_range.mp hm1
        have lt : ∀ k ∈ partsOf m, k < n := fun k hk => bit_lt hm' (mem_partsOf.mp hk).2
        have ht := told_num hg (U := partsOf m) partsOf_asc lt
        rw [stOf_parts h8 hm'] at ht
        have hne : told P (partsOf m) ≠ 0 := by
          rw [ht]
          have : ¬ numP n P m = 0 := by simpa using hm2
          exact this
        refine ⟨?_, decide_eq_true hne⟩
        refine Classical.byContradiction fun hno => hne ?_
        rw [told_num hg partsOf_asc lt, num_lots hg partsOf_asc lt]
        have : ∀ l : List (List Nat), (∀ L ∈ l, L ∈ lotsL P.length) → sumI (l.map fun L => if uP P L = partsOf m then sgI L else 0) = 0 := fun l => by
          induction l with
          | nil => intro _; rfl
          | cons L l ih =>
            intro hl
            show (if uP P L = partsOf m then sgI L else 0) + sumI (l.map fun L => if uP P L = partsOf m then sgI L else 0) = 0
            rw [ih fun M hM => hl M (List.mem_cons_of_mem _ hM), if_neg fun e => hno (mem_keyN.mpr ⟨L, hl L List.mem_cons_self, e⟩)]
            rfl
        exact this _ fun L hL => hL
      · rintro ⟨hU, hne⟩
        obtain ⟨L, hL, rfl⟩ := mem_keyN.mp hU
        have ha := uP_asc hg hL
        have hlt : ∀ k ∈ uP P L, k < n := fun k hk => uP_lt hg hL hk
        have hmm : mask (uP P L) < bitN n ∧ partsOf (mask (uP P L)) = uP P L := ⟨mask_lt ha hlt, parts_mask ha fun k hk => by have := hlt k hk; omega⟩
        refine ⟨mask (uP P L), List.mem_filter.mpr ⟨List.mem_range.mpr hmm.1, ?_⟩, hmm.2⟩
        have ht := told_num hg ha hlt
        rw [← hmm.2, stOf_parts h8 hmm.1] at ht
        rw [hmm.2] at ht
        have h0 := of_decide_eq_true hne
        rw [ht] at h0
        rw [decide_eq_false (show ¬ numP n P (mask (uP P L)) = 0 from h0)]
        rfl
  unfold termsS
  rw [e1, insG_map (le' := leL) (f := fun U => (U, told P U)) fun a b => lePair_val a b, List.map_map, ← e2]
  rfl
theorem keys_v (hg : Good n P) (hP : P.length ≤ 6) {Γ : List (Str × Fn)} {ρ : Slots} (h1 : getS ρ 3 = some (.l T.length)) : evI Γ (.seq (.keysT false (.var 3))) ρ (T ++ [.dtt (dicL P)]) = .ok ((sortS (keyN P)).map setV) (T ++ [.dtt (dicL P)]) := by
  have a1 : (ev Γ (.var 3)).v ρ (T ++ [.dtt (dicL P)]) = .ok (.l T.length) (T ++ [.dtt (dicL P)]) := by simp! [h1]
  have hl := dic_len hP
  have hs : (sortS (keyN P)).length = (dicL P).length := by
    have : (sortS (keyN P)).length = (keyN P).length := sortG_len
    rw [this]
    unfold keyN
    rw [List.length_map]
  show (sKeysT false (ev Γ (.var 3)).v ρ (T ++ [.dtt (dicL P)])).bind seqOp = _
  unfold sKeysT
  rw [a1, Out.bind_ok]
  unfold bKeysT
  rw [dtt_end]
  dsimp only
  rw [if_pos (keys_ne hg hP), keys_set, sort_setV, mkL_f (by rw [List.length_map, hs]; omega), Out.bind_ok]
  rfl
theorem due_v (hg : Good n P) (hP : P.length ≤ 6) {w4 w6 w7 : Option SV} :
    (ev g_law c_law_1).v [w0, some (.l 0), some (.v (sysV n P)), some (.l T.length), w4, none, w6, w7, none] (T ++ [.dtt (dicL P)]) = .ok (.v (.lst ((termsS n P).map pairV))) (T ++ [.dtt (dicL P)]) := by
  have hl := dic_len hP
  have hs : (sortS (keyN P)).length = (dicL P).length := by
    have : (sortS (keyN P)).length = (keyN P).length := sortG_len
    rw [this]
    unfold keyN
    rw [List.length_map]
  rw [← due_eq hg]
  refine comp_f (x := setV) rfl (sortS (keyN P)) (fun U => decide (told P U ≠ 0)) (fun U => PV.tup [setV U, .int (told P U)]) (by show _ ≤ 16777216; omega) (keys_v hg hP rfl) fun U hU => ?_
  have hk : U ∈ keyN P := mem_sortG.mp hU
  have ht := tGet_key hk
  obtain ⟨Z, hZ⟩ : ∃ Z, Z = sysV n P := ⟨_, rfl⟩
  obtain ⟨x, hx⟩ : ∃ x, x = told P U := ⟨_, rfl⟩
  rw [← hx] at ht
  rw [← hZ]
  have g := v_idxT (Γ := g_law) (ρ := [w0, some (.l 0), some (.v Z), some (.l T.length), w4, none, w6, some (.v (setV U)), none]) (T := T) (kvs := dicL P) (i := 3) (k := 7) (U := U) (v := x) rfl rfl ht
  obtain ⟨Y, hY⟩ : ∃ Z, Z = setV U := ⟨_, rfl⟩
  obtain ⟨D, hD⟩ : ∃ Z, Z = T ++ [Ob.dtt (dicL P)] := ⟨_, rfl⟩
  rw [← hY, ← hD] at g
  show cTurn _ _ _ _ (setV U) _ = .ok (if decide (told P U ≠ 0) = true then some (PV.tup [setV U, .int (told P U)]) else none) _
  rw [← hx, ← hY, ← hD]
  clear hY hD hx hZ ht
  by_cases h0 : x = 0
  · subst h0
    simp! [↓g]
  · have hb : decide (x ≠ 0) = true := decide_eq_true h0
    have he : eqP (.int x) (.int 0) = some false := by rw [eqP_int, decide_eq_false h0]
    simp! [↓g, he, h0]
end
theorem v_dtt0 {Γ : List (Str × Fn)} {ρ : Slots} {S : Store} : (ev Γ .dtt0).v ρ S = .ok (.l S.length) (S ++ [.dtt []]) := rfl
theorem main_core {ns : List Int} {S1 : Store} {N m : Nat} {Zs Ts : List PV} {D : List (List Int × Int)} {w4 w6 w7 : Option SV}
    (e1 : F__law_system [.l 0, .v (.int 6)] [.lst [.lst (ns.map .int), .int 0, .int 4022, .int 0]] = .ok (.v (.tup [nn N, .tup Zs])) S1)
    (ct : cut Zs none (some 6) = Zs) (l1 : Zs.length ≤ 16777216) (hm : Zs.length = m) (hm2 : m ≤ 6)
    (eL : forL (turnF g_law (.name 4) b_law_0) [] ((nats 1 (m + 1)).map nn) [some (.v (.lst (ns.map PV.int))), some (.l 0), some (.v (.tup [nn N, .tup Zs])), some (.l S1.length), none, none, none, none, none] (S1 ++ [.dtt []]) =
      .ok (.next [some (.v (.lst (ns.map PV.int))), some (.l 0), some (.v (.tup [nn N, .tup Zs])), some (.l S1.length), w4, none, w6, w7, none]) (S1 ++ [.dtt D]))
    (c1 : (ev g_law c_law_1).v [some (.v (.lst (ns.map PV.int))), some (.l 0), some (.v (.tup [nn N, .tup Zs])), some (.l S1.length), w4, none, w6, w7, none] (S1 ++ [.dtt D]) = .ok (.v (.lst Ts)) (S1 ++ [.dtt D]))
    (e3 : ∀ S, F_signed_terms [.v (.tup [nn N, .tup Zs])] S = .ok (.v (.tup Ts)) S) (ea : ∀ S, F__law_alike 8 [.v (.tup Ts), .v (.tup Ts)] S = .ok (.v (.bl true)) S) (lt : Ts.length ≤ 16777216) :
    F_law [.v (.lst (ns.map PV.int))] [] = .ok (.v (.bl true)) [] := by
  have r : ∀ S, rng2Op (.v (.int 1)) (.v (.int ((m : Int) + 1))) S = .ok ((nats 1 (m + 1)).map nn) S := fun S => rng2_n (a := 1) (b := m + 1) (by omega) (by omega)
  simp! [F_law, d_law, e1, ct, mkT_ok l1, hm, ↓v_dtt0, r, eL, ↓c1, e3, ea, mkT_ok lt]
theorem main (ns : List Int) (h : ns.length ≤ 63) : ∃ S', F_law [.v (.lst (ns.map PV.int))] [] = .ok (.v (.bl true)) S' := by
  have hrow : Row [rowV ns 0 4022 0] 0 := ⟨ns, 0, 4022, 0, rfl, by decide, by decide, by decide⟩
  obtain ⟨n, P, S1, e1, hg, hn6, hP, d1⟩ := system_spec (most := 6) (Dr.refl hrow) rfl (by decide) (by decide)
  have h8 := hg.n8
  have hb := bitN_le h8
  have htl := termsS_len (n := n) (P := P)
  replace e1 : F__law_system [.l 0, .v (.int 6)] [.lst [.lst (ns.map .int), .int 0, .int 4022, .int 0]] = .ok (.v (sysV n P)) S1 := e1
  have hln : (nats 1 (P.length + 1)).length = P.length := by unfold nats; rw [List.length_range']; omega
  obtain ⟨w4, w6, w7, eL⟩ := s_loop (w0 := some (.v (.lst (ns.map PV.int)))) (T := S1) hg hP (nats 1 (P.length + 1)) [] none none none (fun s hs => by unfold nats at hs; rw [List.mem_range'_1] at hs; omega) (by simp only [List.length_nil]; omega)
  have c1 := due_v (w0 := some (.v (.lst (ns.map PV.int)))) (T := S1) (w4 := w4) (w6 := w6) (w7 := w7) hg hP
  have e3 := fun S => F_signed_terms_eq (S := S) hg (by omega)
  have hm : ∀ x ∈ termsS n P, Asc x.1 ∧ ∀ k ∈ x.1, k < n := fun x hx => by
    obtain ⟨m, hm, rfl⟩ := List.mem_map.mp (mem_sortG.mp hx)
    have hm' := List.mem_range.mp (List.mem_filter.mp hm).1
    exact ⟨partsOf_asc, fun k hk => bit_lt hm' (mem_partsOf.mp hk).2⟩
  have ea : ∀ S, F__law_alike 8 [.v (.tup ((termsS n P).map pairV)), .v (.tup ((termsS n P).map pairV))] S = .ok (.v (.bl true)) S := fun S => alike_refl 8 _ S (okA_map (n := 7) (by omega) fun a ha => okA_pair (okA_set (by have := asc_len (hm a ha).1 (hm a ha).2; omega)) rfl)
  exact ⟨[], main_core (N := n) (m := P.length) (Zs := P.map setV) (Ts := (termsS n P).map pairV) (D := dicL P) e1 (by rw [cut6, List.take_of_length_le (by rw [List.length_map]; exact hP)]) (by rw [List.length_map]; omega) (List.length_map _) hP eL c1 e3 ea (by rw [List.length_map]; omega)⟩
theorem F_law_is : Lk22.F_law = F_law := rfl
theorem main' (ns : List Int) (h : ns.length ≤ 63) : ∃ S', Lk22.F_law [.v (.lst (ns.map PV.int))] [] = .ok (.v (.bl true)) S' := by
  rw [F_law_is]
  exact main ns h
end P22

open PySem PySem.W PySem.Calls PyProof.Rows
theorem PySem.Challenge.cw_faultworks_k22_whole_sets_of_paths_with_holds : PySem.Challenge.rw_faultworks_k22_whole_sets_of_paths_with.Holds := by
  w_on; o_law
  refine HandSHeadRun.head_any (q := view (OpenLaw.row PySem.Challenge.rw_faultworks_k22_whole_sets_of_paths_with).prog [25]) (H := Lk22.hk) (ob := Lk22.ob) (M := 4000) (loose := Lk22.loose) (d := HandSHeadRun.topDef (OpenLaw.row PySem.Challenge.rw_faultworks_k22_whole_sets_of_paths_with).prog 25) (kwd := []) Lk22.ob_eq
    (by kernel_rfl) (fun s => by kernel_rfl) Lk22.run (by kernel_rfl) (by kernel_rfl) (by kernel_rfl) (by rfl) (by first | assumption | decide +kernel) (by decide +kernel) ⟨rfl, rfl, rfl, rfl, rfl, by decide +kernel⟩ ?hw ?hc
  case hw => w_witness2
  case hc =>
    exact FW.law_end (l := PySem.Challenge.rw_faultworks_k22_whole_sets_of_paths_with) (n := 63) (k := Lk22.lLaw) (x := "_law_script") (f := Lk22.F_law) (dl := Lk22.D_law) (il := 17) rfl (by decide) (by kernel_rfl) ⟨rfl, by decide, by decide⟩ rfl rfl rfl rfl (by decide +kernel)
      (fun _ _ _ _ _ _ us hl => match us, hl with | [_], _ => rfl)
      (fun w mg h K base fd X G c F => Lk22.fn_law X G c F) P22.main'
