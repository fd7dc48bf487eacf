import PyProof.Rows.All
import PySem.Str
import Wide.All
import OpenK.AllK
import Wide.FinOn
import HandS.Base
import HandS.Call
import HandS.List
import HandS.Comp
import HandS.Dict
import HandS.Iter
import HandS.Walk
import HandS.Conv
import HandS.Flow
import HandS.Words
import HandS.TupMul
import HandS.TupAny
import HandS.Style
import HandS.TupLe
import HandS.IsInst
import HandS.Deep
import PyProof.Rows.BitMore
import KE.BitLaws
import KE.SortData
import KE.DataMinMax
import HandS.SetFor
import HandS.TupSets
import HandS.SortOrd
import HandS.SortInts
import HandS.Strs
import KE.KTupSum
import HandS.TryOnly
import HandS.Zip
import HandS.Small
import HandS.DictComp
import KE.KDictList
import HandS.Defaults
import KE.KStateDown
import HandS.Head0
import HandS.Head1
import HandS.Head2
import HandS.HeadEnd
import HandS.HeadHook1
import HandS.HeadHook2
import PySem.Challenge.RW_faultworks_k73_whole_weighted_votes
set_option Elab.async false
set_option linter.all false
set_option maxRecDepth 100000
set_option maxHeartbeats 0
namespace FW
open PySem (Str)

inductive PV where
  | non | bl (b : Bool) | int (i : Int) | str (s : Str) | tup (xs : List PV) | lst (xs : List PV) | fn (n : Str) | dic (ks vs : List PV)
  deriving Inhabited
inductive Ob where
  | lst (xs : List PV) | dic (kvs : List (PV × PV)) | gone
  deriving Inhabited
inductive SV where
  | v (x : PV) | l (n : Nat)
  deriving Inhabited
abbrev Store := List Ob
abbrev Slots := List (Option SV)
inductive Out (α : Type) where
  | ok (a : α) (S : Store) | exc (c : Str) (as : List PV) (S : Store) | bad
  deriving Inhabited
def Out.bind {α β : Type} : Out α → (α → Store → Out β) → Out β
  | .ok a S, f => f a S
  | .exc c as S, _ => .exc c as S
  | .bad, _ => .bad
@[simp] theorem Out.bind_ok {α β : Type} (a : α) (S : Store) (f : α → Store → Out β) : (Out.ok a S).bind f = f a S := rfl
@[simp] theorem Out.bind_exc {α β : Type} (c : Str) (as : List PV) (S : Store) (f : α → Store → Out β) : (Out.exc c as S).bind f = .exc c as S := rfl
@[simp] theorem Out.bind_bad {α β : Type} (f : α → Store → Out β) : (Out.bad).bind f = .bad := rfl
abbrev Fn := List SV → Store → Out SV

mutual
/-- x == y -/
def eqv : PV → PV → Bool
  | .non, .non => true
  | .bl a, .bl b => a == b
  | .bl a, .int j => decide ((if a = true then 1 else 0) = j)
  | .int i, .bl b => decide (i = (if b = true then 1 else 0))
  | .int i, .int j => decide (i = j)
  | .str a, .str b => decide (a = b)
  | .tup xs, .tup ys => eqvs xs ys
  | .lst xs, .lst ys => eqvs xs ys
  | .fn _, .fn _ => true
  | .fn _, .non => true
  | .non, .fn _ => true
  | .non, .dic _ _ => true
  | .fn _, .dic _ _ => true
  | .dic _ _, .non => true
  | .dic _ _, .fn _ => true
  | .dic _ _, .dic _ _ => true
  | _, _ => false
def eqvs : List PV → List PV → Bool
  | [], [] => true
  | x :: xs, y :: ys => eqv x y && eqvs xs ys
  | _, _ => false
end
mutual
/-- not deeper than n -/
def dpLe : Nat → PV → Bool
  | _, .non => true
  | _, .bl _ => true
  | _, .int _ => true
  | _, .str _ => true
  | _, .fn _ => true
  | _, .dic _ _ => false
  | 0, .tup _ => false
  | 0, .lst _ => false
  | n + 1, .tup xs => dpLes n xs
  | n + 1, .lst xs => dpLes n xs
def dpLes : Nat → List PV → Bool
  | _, [] => true
  | n, x :: xs => dpLe n x && dpLes n xs
end
mutual
/-- no def within -/
def noFn : PV → Bool
  | .fn _ => false
  | .dic _ _ => false
  | .tup xs => noFns xs
  | .lst xs => noFns xs
  | _ => true
def noFns : List PV → Bool
  | [] => true
  | x :: xs => noFn x && noFns xs
end
def eqD : Nat := 24
def eqP (x y : PV) : Option Bool := if (noFn x && noFn y && (dpLe eqD x || dpLe eqD y)) = true then some (eqv x y) else none
mutual
/-- x < y; none: not told here -/
def ltP : PV → PV → Option Bool
  | .int i, .int j => some (decide (i < j))
  | .str a, .str b => some (decide (a.cps.toList < b.cps.toList))
  | .tup xs, .tup ys => ltPs xs ys
  | _, _ => none
def ltPs : List PV → List PV → Option Bool
  | [], [] => some false
  | [], _ :: _ => some true
  | _ :: _, [] => some false
  | x :: xs, y :: ys => if eqv x y = true then ltPs xs ys else match ltP x y, ltPs xs ys with
    | some b, some _ => some b
    | _, _ => none
end
mutual
/-- the two can be compared, place by place -/
def alikeP : PV → PV → Bool
  | .non, .non => true
  | .bl _, .bl _ => true
  | .int _, .int _ => true
  | .str _, .str _ => true
  | .lst xs, .lst ys => alikePs xs ys
  | .tup xs, .tup ys => alikePs xs ys
  | _, _ => false
def alikePs : List PV → List PV → Bool
  | x :: xs, y :: ys => alikeP x y && alikePs xs ys
  | [], _ => true
  | _ :: _, [] => true
end
mutual
/-- x < y, for values that are alike -/
def ltK : PV → PV → Bool
  | .bl a, .bl b => !a && b
  | .int i, .int j => decide (i < j)
  | .str a, .str b => decide (a.cps.toList < b.cps.toList)
  | .lst xs, .lst ys => ltKs xs ys
  | .tup xs, .tup ys => ltKs xs ys
  | _, _ => false
def ltKs : List PV → List PV → Bool
  | [], [] => false
  | [], _ :: _ => true
  | _ :: _, [] => false
  | x :: xs, y :: ys => if eqv x y = true then ltKs xs ys else ltK x y
end
def isNT : PV → Bool
  | .tup (_ :: _) => true
  | _ => false
def isOne : PV → Bool
  | .bl _ => true
  | .int _ => true
  | .str _ => true
  | .lst _ => true
  | _ => false
def allAlike (xs : List PV) : Bool := xs.all fun x => xs.all fun y => alikeP x y
def sortOk (xs : List PV) : Bool := noFns xs && (decide (xs.length < 2) || (allAlike xs && (xs.all isNT || xs.all isOne) && dpLes eqD xs))
def insB (le : PV → PV → Bool) (x : PV) : List PV → List PV
  | [] => [x]
  | y :: r => if le x y = true then x :: y :: r else y :: insB le x r
def sortB (le : PV → PV → Bool) : List PV → List PV
  | [] => []
  | x :: r => insB le x (sortB le r)
def leK (x y : PV) : Bool := !ltK y x
def isortK (xs : List PV) : List PV := sortB leK xs
def isSome1 : PV → Bool
  | .non => false
  | .fn _ => false
  | .dic _ _ => false
  | _ => true
def minOk (xs : List PV) : Bool := noFns xs && allAlike xs && dpLes eqD xs && xs.all isSome1
def allInt : List PV → Bool
  | [] => true
  | .int _ :: r => allInt r
  | _ => false
def allIntT : List PV → Bool
  | [] => true
  | .tup xs :: r => allInt xs && allIntT r
  | _ => false
def setOk (xs : List PV) : Bool := decide (xs.length < 64) && (allInt xs || (allIntT xs && sortOk xs))

inductive BOp where
  | add | sub | mul | fdiv | mod | shl | shr | band | bor | bxor | pow
  deriving DecidableEq
inductive COp where
  | eq | ne | lt | le | gt | ge | is | isnot | isin | notin
  deriving DecidableEq
inductive BI where
  | len | int | abs | sum | min1 | max1 | min2 | max2 | tuple | list | sorted | sortedSet | sortedKeys | lenSet | listRange1 | listRange2 | tupleRange1 | tupleRange2 | sortedRange | str
  deriving DecidableEq
inductive Ty where
  | int | bool | tuple | list | str | dict
  deriving DecidableEq

mutual
inductive CE where
  | var (i : Nat)
  | k (x : PV)
  | glob (n : Str) (x : PV)
  | tup (es : CL)
  | list (m : Bool) (es : CL)
  | bin (o : BOp) (m : Bool) (a b : CE)
  | neg (a : CE)
  | nt (a : CE)
  | and (es : CL)
  | or (es : CL)
  | cmp (o : COp) (a b : CE)
  | chain (o o' : COp) (a b c : CE)
  | ite (c a b : CE)
  | call (i : Nat) (es : CL)
  | fnv (n : Str)
  | callv (e : CE) (es : CL)
  | index (a x : CE)
  | indexG (n : Str) (xs : List PV) (x : CE)
  | bi (b : BI) (m : Bool) (es : CL)
  | isi (ts : List Ty) (e : CE)
  | idx (a i : CE)
  | slc (m : Bool) (a : CE) (lo hi : CE)
  | comp (m : Bool) (own : List Nat) (tg : CG) (it : CI) (cond : CE) (elt : CE)
  | comp2 (m : Bool) (own own2 : List Nat) (tg : CG) (it : CI) (c1 : CE) (tg2 : CG) (it2 : CI) (cond : CE) (elt : CE)
  | dic0
  | get (d k x : CE)
  | rev (m : Bool) (a : CE)
  | slcS (m : Bool) (k : Nat) (a : CE)
  | dcomp (own : List Nat) (tg : CG) (it : CI) (cond k x : CE)
  | dicd (es : CL)
  | dicP
  | count (a x : CE)
  | lzip (m : Bool) (a b : CE)
  | gin (neg : Bool) (n : Str) (ks vs : List PV) (e : CE)
  | gidx (n : Str) (ks vs : List PV) (e : CE)
  | lvals (m : Bool) (d : CE)
inductive CL where
  | nil | cons (e : CE) (es : CL)
inductive CG where
  | name (i : Nat) | tup (gs : CGs)
inductive CGs where
  | nil | cons (g : CG) (gs : CGs)
/-- what is walked -/
inductive CI where
  | seq (e : CE) | rng1 (a : CE) | rng2 (a b : CE) | rng3 (a b c : CE) | zip2 (a b : CE) | enum (a : CE)
  | keys (d : CE) | items (d : CE) | values (d : CE)
end
mutual
inductive CS where
  | set (i : Nat) (e : CE)
  | unpack (gs : CGs) (e : CE)
  | par (is : List Nat) (es : CL)
  | sub (i : Nat) (a e : CE)
  | put2 (i : Nat) (a : CE) (j : Nat) (b : CE) (es : CL)
  | aug (i : Nat) (o : BOp) (e : CE)
  | augsub (i : Nat) (a : CE) (o : BOp) (e : CE)
  | app (i : Nat) (e : CE)
  | expr (e : CE)
  | ifs (c : CE) (a b : CB)
  | forr (tg : CG) (it : CI) (body : CB) (wipe : List Nat)
  | whil (c : CE) (body : CB) (wipe : List Nat)
  | forl (tg : CG) (e : CE) (body : CB) (wipe : List Nat)
  | ret (e : CE)
  | retN
  | brk
  | cnt
  | raise (c : Str) (es : CL)
  | freeze (i : Nat)
  | pop (i : Nat)
  | parG (is : List Nat) (es : CL)
inductive CB where
  | nil | cons (s : CS) (r : CB)
end

def seqOf (S : Store) : SV → Option (Bool × List PV)
  | .v (.tup xs) => some (false, xs)
  | .v (.lst xs) => some (true, xs)
  | .l n => match S[n]? with
    | some (.lst xs) => some (true, xs)
    | _ => none
  | _ => none
def dicOf (S : Store) : SV → Option (List (PV × PV))
  | .l n => match S[n]? with
    | some (.dic kvs) => some kvs
    | _ => none
  | _ => none
def dicR (S : Store) : SV → Option (List (PV × PV))
  | .v (.dic ks vs) => some (ks.zip vs)
  | x => dicOf S x
def truth (S : Store) : SV → Option Bool
  | .v .non => some false
  | .v (.bl b) => some b
  | .v (.int i) => some (i != 0)
  | .v (.str _) => none
  | .v (.fn _) => none
  | .v (.dic _ _) => none
  | .v (.tup xs) => some (!xs.isEmpty)
  | .v (.lst xs) => some (!xs.isEmpty)
  | .l n => match S[n]? with
    | some (.lst xs) => some (!xs.isEmpty)
    | _ => none
def line : Nat := 16777216
@[simp] def mkL (m : Bool) (xs : List PV) (S : Store) : Out SV :=
  if xs.length ≤ line then (if m then .ok (.l S.length) (S ++ [.lst xs]) else .ok (.v (.lst xs)) S) else .bad
@[simp] def mkT (xs : List PV) (S : Store) : Out SV := if xs.length ≤ line then .ok (.v (.tup xs)) S else .bad
def mulOk (i j : Int) : Bool := decide (i.natAbs.log2 + j.natAbs.log2 < 100000000)
def divOk (i j : Int) : Bool := decide (j ≠ 0) && (decide (j.natAbs.log2 < 9000) || decide (i.natAbs.log2 < 13000))
@[simp] def asInt : PV → Option Int
  | .int i => some i
  | .bl b => some (if b then 1 else 0)
  | _ => none
def rep (n : Nat) (xs : List PV) : List PV := (List.replicate n xs).flatten
@[simp] def intOp (o : BOp) (i j : Int) : Option Int := match o with
  | .add => some (i + j)
  | .sub => some (i - j)
  | .mul => if mulOk i j then some (i * j) else none
  | .fdiv => if divOk i j = true then some (i.fdiv j) else none
  | .mod => if j = 0 then none else some (i.fmod j)
  | .shl => if 0 ≤ j ∧ j ≤ 1000000 ∧ i.natAbs < 2 ^ 64 then some (i * 2 ^ j.toNat) else none
  | .shr => if 0 ≤ j then some (i / 2 ^ j.toNat) else none
  | .band => if 0 ≤ i ∧ 0 ≤ j then some (Int.ofNat (i.toNat &&& j.toNat)) else none
  | .bor => if 0 ≤ i ∧ 0 ≤ j then some (Int.ofNat (i.toNat ||| j.toNat)) else none
  | .bxor => if 0 ≤ i ∧ 0 ≤ j then some (Int.ofNat (i.toNat ^^^ j.toNat)) else none
  | .pow => if 0 ≤ j ∧ j ≤ 1000000 ∧ i.natAbs < 2 ^ 64 then some (i ^ j.toNat) else none
@[simp] def binOp (o : BOp) (m : Bool) (x y : SV) (S : Store) : Out SV :=
  match x, y with
  | .v (.int i), .v (.int j) => match intOp o i j with
    | some k => .ok (.v (.int k)) S
    | none => .bad
  | .v (.str a), .v (.str b) => match o with
    | .add => if a.length + b.length ≤ line ∧ (a ++ b).cps.all (· < 0x110000) = true then .ok (.v (.str (a ++ b))) S else .bad
    | _ => .bad
  | .v (.int i), .v (.bl b) => match o with
    | .add => .ok (.v (.int (i + (if b then 1 else 0)))) S
    | _ => .bad
  | .v (.bl a), .v (.bl b) => match o with
    | .sub => .ok (.v (.int ((if a then 1 else 0) - (if b then 1 else 0)))) S
    | _ => .bad
  | x, .v (.int j) => match o, seqOf S x with
    | .mul, some (true, xs) => if xs.length * j.toNat ≤ line ∧ -1000000 ≤ j ∧ j ≤ 1000000 then mkL m (rep j.toNat xs) S else .bad
    | .mul, some (false, xs) => if -1000 ≤ j ∧ j ≤ 1000 ∧ xs.length ≤ 1000 then mkT (rep j.toNat xs) S else .bad
    | _, _ => .bad
  | x, y => match o, seqOf S x, seqOf S y with
    | .add, some (true, xs), some (true, ys) => mkL m (xs ++ ys) S
    | .add, some (false, xs), some (false, ys) => mkT (xs ++ ys) S
    | _, _, _ => .bad
def pure? (S : Store) : SV → Option PV
  | .v x => some x
  | .l n => match S[n]? with
    | some (.lst xs) => some (.lst xs)
    | _ => none
def anyEq (x : PV) (ys : List PV) : Option Bool := if (noFn x && noFns ys && (dpLe eqD x || dpLes eqD ys)) = true then some (ys.any fun y => eqv y x) else none
def keyOk : PV → Bool
  | .int _ => true
  | .str _ => true
  | _ => false
def keyEq : PV → PV → Bool
  | .int i, .int j => decide (i = j)
  | .str a, .str b => decide (a = b)
  | _, _ => false
def keyGet (k : PV) (kvs : List (PV × PV)) : Option PV := (kvs.find? fun kv => keyEq kv.1 k).map (·.2)
def keyPut (k v : PV) (kvs : List (PV × PV)) : List (PV × PV) :=
  if (kvs.any fun kv => keyEq kv.1 k) = true then kvs.map (fun kv => if keyEq kv.1 k = true then (kv.1, v) else kv) else kvs ++ [(k, v)]
@[simp] def isNonS : SV → Bool
  | .v .non => true
  | _ => false
@[simp] def memOp (x y : SV) (S : Store) : Option Bool := match pure? S x with
  | some x => match seqOf S y with
    | some (_, ys) => anyEq x ys
    | none => match dicR S y with
      | some kvs => if keyOk x = true then some (keyGet x kvs).isSome else none
      | none => none
  | none => none
@[simp] def cmpOp (o : COp) (x y : SV) (S : Store) : Option Bool :=
  match o with
  | .is => match y with
    | .v .non => some (isNonS x)
    | .v (.bl b) => match x with
      | .v (.bl a) => some (a == b)
      | _ => none
    | _ => none
  | .isnot => match y with
    | .v .non => some (!isNonS x)
    | .v (.bl b) => match x with
      | .v (.bl a) => some (!(a == b))
      | _ => none
    | _ => none
  | .isin => memOp x y S
  | .notin => (memOp x y S).map (!·)
  | .eq => match pure? S x, pure? S y with
    | some x, some y => eqP x y
    | _, _ => none
  | .ne => match pure? S x, pure? S y with
    | some x, some y => (eqP x y).map (!·)
    | _, _ => none
  | .lt => match x, y with
    | .v (.int i), .v (.int j) => some (decide (i < j))
    | .v (.tup xs), .v (.tup ys) => if (noFn (.tup xs) && noFn (.tup ys) && (dpLe eqD (.tup xs) && dpLe eqD (.tup ys))) = true then ltP (.tup xs) (.tup ys) else none
    | _, _ => none
  | .le => match x, y with
    | .v (.int i), .v (.int j) => some (decide (i ≤ j))
    | _, _ => none
  | .gt => match x, y with
    | .v (.int i), .v (.int j) => some (decide (j < i))
    | _, _ => none
  | .ge => match x, y with
    | .v (.int i), .v (.int j) => some (decide (j ≤ i))
    | _, _ => none
inductive Tg where
  | non | bl | int | str | tup | lst | dic
def tgOf (S : Store) : SV → Option Tg
  | .v .non => some .non
  | .v (.bl _) => some .bl
  | .v (.int _) => some .int
  | .v (.str _) => some .str
  | .v (.tup _) => some .tup
  | .v (.lst _) => some .lst
  | .v (.fn _) => none
  | .v (.dic _ _) => some .dic
  | .l n => match S[n]? with
    | some (.lst _) => some .lst
    | some (.dic _) => some .dic
    | _ => none
@[simp] def tgIs : Tg → Ty → Bool
  | .bl, .int => true
  | .bl, .bool => true
  | .int, .int => true
  | .str, .str => true
  | .tup, .tuple => true
  | .lst, .list => true
  | .dic, .dict => true
  | _, _ => false
@[simp] def isTys (S : Store) (x : SV) (ts : List Ty) : Option Bool := match tgOf S x with
  | some g => some (ts.any (tgIs g))
  | none => none
@[simp] def ix? (n : Nat) (i : Int) : Option Nat := if 0 ≤ i then (if i < n then some i.toNat else none) else (if 0 ≤ i + n then some (i + n).toNat else none)
def sx (n d : Nat) : Option Int → Nat
  | none => d
  | some v => if v < 0 then (v + n).toNat else min v.toNat n
@[simp] def part? : PV → Option (Option Int)
  | .non => some none
  | .int i => some (some i)
  | _ => none
def cut (xs : List PV) (lo hi : Option Int) : List PV := (xs.drop (sx xs.length 0 lo)).take (sx xs.length xs.length hi - sx xs.length 0 lo)
@[simp] def ints? : List PV → Option (List Int)
  | [] => some []
  | .int i :: r => (ints? r).map (i :: ·)
  | _ => none
def sumI : List Int → Int
  | [] => 0
  | i :: r => i + sumI r
def minP : PV → List PV → PV
  | x, [] => x
  | x, y :: r => if ltK y x then minP y r else minP x r
def maxP : PV → List PV → PV
  | x, [] => x
  | x, y :: r => if ltK x y then maxP y r else maxP x r
def dedup : List PV → List PV
  | [] => []
  | x :: r => if (r.any fun y => eqv y x) = true then dedup r else x :: dedup r
def rng (a b : Int) : List PV := (List.range (b - a).toNat).map fun i => .int (a + Int.ofNat i)
def rngN (n : Int) : List PV := (List.range n.toNat).map fun i => .int (Int.ofNat i)
def rng3 (a b c : Int) : List PV := (List.range (if 0 < c then ((b - a + c - 1) / c).toNat else ((a - b - c - 1) / (-c)).toNat)).map fun i => .int (a + Int.ofNat i * c)
def rngOk (n : Int) : Bool := decide (n ≤ 4000000)
@[simp] def ofOpt (r : Option Bool) (S : Store) : Out SV := match r with
  | some b => .ok (.v (.bl b)) S
  | none => .bad
@[simp] def bLen (x : SV) (S : Store) : Out SV := match seqOf S x with
  | some (_, ys) => .ok (.v (.int ys.length)) S
  | none => match dicOf S x with
    | some kvs => .ok (.v (.int kvs.length)) S
    | none => .bad
@[simp] def bInt (x : SV) (S : Store) : Out SV := match x with
  | .v (.int i) => .ok (.v (.int i)) S
  | .v (.bl b) => .ok (.v (.int (if b = true then 1 else 0))) S
  | _ => .bad
@[simp] def bAbs (x : SV) (S : Store) : Out SV := match x with
  | .v (.int i) => .ok (.v (.int (if i < 0 then -i else i))) S
  | _ => .bad
@[simp] def onSeq (f : List PV → Out SV) (x : SV) (S : Store) : Out SV := match seqOf S x with
  | some (_, ys) => f ys
  | none => .bad
@[simp] def bSum (x : SV) (S : Store) : Out SV := onSeq (fun ys => match ints? ys with
  | some is => .ok (.v (.int (sumI is))) S
  | none => .bad) x S
def bMin1 (x : SV) (S : Store) : Out SV := onSeq (fun ys => match ys with
  | [] => .bad
  | y :: ys => if minOk (y :: ys) = true then .ok (.v (minP y ys)) S else .bad) x S
def bMax1 (x : SV) (S : Store) : Out SV := onSeq (fun ys => match ys with
  | [] => .bad
  | y :: ys => if minOk (y :: ys) = true then .ok (.v (maxP y ys)) S else .bad) x S
@[simp] def bMin2 (x y : SV) (S : Store) : Out SV := match x, y with
  | .v (.int i), .v (.int j) => .ok (.v (.int (if j < i then j else i))) S
  | _, _ => .bad
@[simp] def bMax2 (x y : SV) (S : Store) : Out SV := match x, y with
  | .v (.int i), .v (.int j) => .ok (.v (.int (if j > i then j else i))) S
  | _, _ => .bad
@[simp] def bTuple (x : SV) (S : Store) : Out SV := onSeq (fun ys => mkT ys S) x S
@[simp] def bList (m : Bool) (x : SV) (S : Store) : Out SV := onSeq (fun ys => mkL m ys S) x S
def bSorted (m : Bool) (x : SV) (S : Store) : Out SV := match seqOf S x with
  | some (_, ys) => if sortOk ys = true then mkL m (isortK ys) S else .bad
  | _ => .bad
def bSortedSet (m : Bool) (x : SV) (S : Store) : Out SV := match seqOf S x with
  | some (false, ys) => if setOk ys = true then mkL m (isortK (dedup ys)) S else .bad
  | _ => .bad
def bLenSet (x : SV) (S : Store) : Out SV := match seqOf S x with
  | some (false, ys) => if setOk ys = true then .ok (.v (.int (dedup ys).length)) S else .bad
  | _ => .bad
def bRange (f : List PV → Store → Out SV) (x y : SV) (S : Store) : Out SV := match x, y with
  | .v (.int a), .v (.int b) => if (rngOk b && rngOk a && rngOk (-a) && rngOk (-b)) = true then f (rng a b) S else .bad
  | _, _ => .bad
def bSortedKeys (m : Bool) (d : SV) (S : Store) : Out SV := match dicOf S d with
  | some kvs => if allInt (kvs.map Prod.fst) = true then mkL m (isortK (kvs.map Prod.fst)) S else .bad
  | none => .bad
@[simp] def biOp (b : BI) (m : Bool) (xs : List SV) (S : Store) : Out SV := match xs with
  | [x] => match b with
    | .len => bLen x S
    | .int => bInt x S
    | .abs => bAbs x S
    | .sum => bSum x S
    | .min1 => bMin1 x S
    | .max1 => bMax1 x S
    | .tuple => bTuple x S
    | .list => bList m x S
    | .sorted => bSorted m x S
    | .sortedSet => bSortedSet m x S
    | .sortedKeys => bSortedKeys m x S
    | .lenSet => bLenSet x S
    | .listRange1 => bRange (mkL m) (.v (.int 0)) x S
    | .tupleRange1 => bRange mkT (.v (.int 0)) x S
    | _ => .bad
  | [x, y] => match b with
    | .min2 => bMin2 x y S
    | .max2 => bMax2 x y S
    | .listRange2 => bRange (mkL m) x y S
    | .tupleRange2 => bRange mkT x y S
    | _ => .bad
  | _ => .bad
@[simp] def pures? : List SV → Option (List PV)
  | [] => some []
  | .v x :: r => (pures? r).map (x :: ·)
  | .l _ :: _ => none
@[simp] def getS (ρ : Slots) (i : Nat) : Option SV := match ρ[i]? with
  | some (some x) => some x
  | _ => none
@[simp] def wipeS (ρ : Slots) : List Nat → Slots
  | [] => ρ
  | i :: is => (wipeS ρ is).set i none
mutual
@[simp] def bindG : CG → PV → Slots → Option Slots
  | .name i, x, ρ => some (ρ.set i (some (.v x)))
  | .tup gs, x, ρ => match x with
    | .tup xs => bindGs gs xs ρ
    | .lst xs => bindGs gs xs ρ
    | _ => none
@[simp] def bindGs : CGs → List PV → Slots → Option Slots
  | .nil, [], ρ => some ρ
  | .cons g gs, x :: xs, ρ => match bindG g x ρ with
    | some ρ' => bindGs gs xs ρ'
    | none => none
  | _, _, _ => none
end
def zipL : List PV → List PV → List PV
  | x :: xs, y :: ys => .tup [x, y] :: zipL xs ys
  | _, _ => []
def enumL (i : Nat) : List PV → List PV
  | [] => []
  | x :: xs => .tup [.int (Int.ofNat i), x] :: enumL (i + 1) xs

def compL (f : PV → Store → Out (Option PV)) : List PV → Store → Out (List PV)
  | [], S => .ok [] S
  | x :: xs, S => (f x S).bind fun y S1 => (compL f xs S1).bind fun ys S2 => .ok (match y with | some y => y :: ys | none => ys) S2
def compLL (f : PV → Store → Out (List PV)) : List PV → Store → Out (List PV)
  | [], S => .ok [] S
  | x :: xs, S => (f x S).bind fun y S1 => (compLL f xs S1).bind fun ys S2 => .ok (y ++ ys) S2
inductive Flow where
  | next (ρ : Slots) | ret (x : SV) | brk (ρ : Slots) | cnt (ρ : Slots)
  deriving Inhabited
def forL (f : PV → Slots → Store → Out Flow) (w : List Nat) : List PV → Slots → Store → Out Flow
  | [], ρ, S => .ok (.next ρ) S
  | x :: xs, ρ, S => (f x ρ S).bind fun r S1 => match r with
    | .next ρ1 => forL f w xs (wipeS ρ1 w) S1
    | .cnt ρ1 => forL f w xs (wipeS ρ1 w) S1
    | .brk ρ1 => .ok (.next ρ1) S1
    | .ret y => .ok (.ret y) S1
def whileL (c : Slots → Store → Out Bool) (f : Slots → Store → Out Flow) (w : List Nat) : Nat → Slots → Store → Out Flow
  | 0, _, _ => .bad
  | n + 1, ρ, S => (c ρ S).bind fun b S1 => if b then (f ρ S1).bind fun r S2 => match r with
    | .next ρ1 => whileL c f w n (wipeS ρ1 w) S2
    | .cnt ρ1 => whileL c f w n (wipeS ρ1 w) S2
    | .brk ρ1 => .ok (.next ρ1) S2
    | .ret y => .ok (.ret y) S2
    else .ok (.next ρ) S1
def fuel : Nat := 1000000000000
def forM (f : PV → Slots → Store → Out Flow) (w : List Nat) (n : Nat) : Nat → Nat → Slots → Store → Out Flow
  | 0, _, _, _ => .bad
  | m + 1, i, ρ, S => match S[n]? with
    | some (.lst ys) => match ys[i]? with
      | some x => (f x ρ S).bind fun r S2 => match r with
        | .next ρ1 => forM f w n m (i + 1) (wipeS ρ1 w) S2
        | .cnt ρ1 => forM f w n m (i + 1) (wipeS ρ1 w) S2
        | .brk ρ1 => .ok (.next ρ1) S2
        | .ret y => .ok (.ret y) S2
      | none => .ok (.next ρ) S
    | _ => .bad

abbrev VS := Slots → Store → Out SV
abbrev LS := Slots → Store → Out (List SV)
abbrev IS := Slots → Store → Out (List PV)
structure Sm where
  v : VS
  t : Slots → Store → Out Bool
@[simp] def tru (v : VS) : Slots → Store → Out Bool := fun ρ S => (v ρ S).bind fun x S1 => match truth S1 x with
  | some b => .ok b S1
  | none => .bad
@[simp] def ofV (v : VS) : Sm := ⟨v, tru v⟩
@[simp] def ofT (t : Slots → Store → Out Bool) : Sm := ⟨fun ρ S => (t ρ S).bind fun b S1 => .ok (.v (.bl b)) S1, t⟩
@[simp] def sVar (i : Nat) : VS := fun ρ S => match getS ρ i with
  | some x => .ok x S
  | none => .bad
@[simp] def sK (x : PV) : VS := fun _ S => .ok (.v x) S
@[simp] def sTup (es : LS) : VS := fun ρ S => (es ρ S).bind fun xs S1 => match pures? xs with
  | some ys => mkT ys S1
  | none => .bad
@[simp] def sList (m : Bool) (es : LS) : VS := fun ρ S => (es ρ S).bind fun xs S1 => match pures? xs with
  | some ys => mkL m ys S1
  | none => .bad
@[simp] def sBin (o : BOp) (m : Bool) (a b : VS) : VS := fun ρ S => (a ρ S).bind fun x S1 => (b ρ S1).bind fun y S2 => binOp o m x y S2
@[simp] def negOp (x : SV) (S : Store) : Out SV := match x with
  | .v (.int i) => .ok (.v (.int (-i))) S
  | _ => .bad
@[simp] def sNeg (a : VS) : VS := fun ρ S => (a ρ S).bind negOp
@[simp] def sNot (a : Sm) : Sm := ⟨fun ρ S => (tru a.v ρ S).bind fun b S1 => .ok (.v (.bl (!b))) S1, fun ρ S => (a.t ρ S).bind fun b S1 => .ok (!b) S1⟩
@[simp] def sCmp (o : COp) (a b : VS) : Sm := ofT fun ρ S => (a ρ S).bind fun x S1 => (b ρ S1).bind fun y S2 => match cmpOp o x y S2 with
  | some b => .ok b S2
  | none => .bad
@[simp] def sChain (o o' : COp) (a b c : VS) : Sm := ofT fun ρ S => (a ρ S).bind fun x S1 => (b ρ S1).bind fun y S2 => match cmpOp o x y S2 with
  | some true => (c ρ S2).bind fun z S3 => match cmpOp o' y z S3 with
    | some b => .ok b S3
    | none => .bad
  | some false => .ok false S2
  | none => .bad
@[simp] def sIte (c a b : Sm) : Sm := ⟨fun ρ S => (c.t ρ S).bind fun t S1 => if t = true then a.v ρ S1 else b.v ρ S1, fun ρ S => (c.t ρ S).bind fun t S1 => if t = true then a.t ρ S1 else b.t ρ S1⟩
@[simp] def sCall (f : Option Fn) (es : LS) : VS := fun ρ S => (es ρ S).bind fun xs S1 => match f with
  | some f => f xs S1
  | none => .bad
@[simp] def sCallv (Γ : List (Str × Fn)) (f : VS) (es : LS) : VS := fun ρ S => (f ρ S).bind fun x S1 => match x with
  | .v (.fn n) => match Γ.lookup n with
    | some g => sCall (some g) es ρ S1
    | none => .bad
  | _ => .bad
def ixOf (x : PV) : List PV → Option Nat
  | [] => none
  | y :: r => if eqv y x = true then some 0 else (ixOf x r).map (· + 1)
def allStr : List PV → Bool
  | [] => true
  | .str _ :: r => allStr r
  | _ => false
def isStrV : PV → Bool
  | .str _ => true
  | _ => false
def indexOp (a x : SV) (S : Store) : Out SV := match x with
  | .v y => match seqOf S a with
    | some (true, ys) => if (noFn y && noFns ys && dpLe 8 y && dpLes 8 ys) = true then (match ixOf y ys with
      | some j => .ok (.v (.int j)) S
      | none => .bad) else .bad
    | some (false, ys) => if (isStrV y && allStr ys) = true then (match ixOf y ys with
      | some j => .ok (.v (.int j)) S
      | none => .bad) else .bad
    | none => .bad
  | .l _ => .bad
def isLs (S : Store) (x : SV) : Bool := match seqOf S x with
  | some (true, _) => true
  | _ => false
def sIndex (a x : VS) : VS := fun ρ S => (a ρ S).bind fun y S1 => if isLs S1 y = true then (x ρ S1).bind fun z S2 => if isLs S2 y = true then indexOp y z S2 else .bad else .bad
def sIndexG (xs : List PV) (x : VS) : VS := fun ρ S => (x ρ S).bind fun z S1 => indexOp (.v (.tup xs)) z S1
@[simp] def sBi (b : BI) (m : Bool) (es : LS) : VS := fun ρ S => (es ρ S).bind fun xs S1 => biOp b m xs S1
@[simp] def sIsi (ts : List Ty) (e : VS) : VS := fun ρ S => (e ρ S).bind fun x S1 => ofOpt (isTys S1 x ts) S1
@[simp] def idxOp (x y : SV) (S : Store) : Out SV := match y with
  | .v k => match seqOf S x with
    | some (_, xs) => match k with
      | .int j => match ix? xs.length j with
        | some n => match xs[n]? with
          | some z => .ok (.v z) S
          | none => .bad
        | none => .bad
      | _ => .bad
    | none => match dicR S x with
      | some kvs => if keyOk k = true then (match keyGet k kvs with
        | some z => .ok (.v z) S
        | none => .bad) else .bad
      | none => .bad
  | .l _ => .bad
@[simp] def sIdx (a i : VS) : VS := fun ρ S => (a ρ S).bind fun x S1 => (i ρ S1).bind fun y S2 => idxOp x y S2
@[simp] def slcOp (m : Bool) (x l h : SV) (S : Store) : Out SV := match l, h with
  | .v l, .v h => match part? l, part? h with
    | some lo, some hi => match seqOf S x with
      | some (t, xs) => if t = true then mkL m (cut xs lo hi) S else mkT (cut xs lo hi) S
      | none => .bad
    | _, _ => .bad
  | _, _ => .bad
@[simp] def sSlc (m : Bool) (a lo hi : VS) : VS := fun ρ S => (a ρ S).bind fun x S1 => (lo ρ S1).bind fun l S2 => (hi ρ S2).bind fun h S3 => slcOp m x l h S3
@[simp] def cTurn (g : PV → Slots → Option Slots) (c : Slots → Store → Out Bool) (e : VS) (ρ : Slots) : PV → Store → Out (Option PV) := fun x S => match g x ρ with
  | some ρ1 => (c ρ1 S).bind fun t S1 => if t = true then (e ρ1 S1).bind fun y S2 => match y with
    | .v y => .ok (some y) S2
    | .l _ => .bad
    else .ok none S1
  | none => .bad
@[simp] def sComp (m : Bool) (own : List Nat) (g : PV → Slots → Option Slots) (it : IS) (c : Slots → Store → Out Bool) (e : VS) : VS := fun ρ S =>
  (it ρ S).bind fun xs S1 => (compL (cTurn g c e (wipeS ρ own)) xs S1).bind fun ys S2 => mkL m ys S2
def cTurn2 (g : PV → Slots → Option Slots) (c : Slots → Store → Out Bool) (own2 : List Nat) (g2 : PV → Slots → Option Slots) (it2 : IS) (c2 : Slots → Store → Out Bool) (e : VS) (ρ : Slots) : PV → Store → Out (List PV) := fun x S => match g x ρ with
  | some ρ1 => (c ρ1 S).bind fun t S1 => if t = true then (it2 ρ1 S1).bind fun zs S2 => compL (cTurn g2 c2 e (wipeS ρ1 own2)) zs S2 else .ok [] S1
  | none => .bad
def sComp2 (m : Bool) (own own2 : List Nat) (g : PV → Slots → Option Slots) (it : IS) (c : Slots → Store → Out Bool) (g2 : PV → Slots → Option Slots) (it2 : IS) (c2 : Slots → Store → Out Bool) (e : VS) : VS := fun ρ S =>
  (it ρ S).bind fun xs S1 => (compLL (cTurn2 g c own2 g2 it2 c2 e (wipeS ρ own)) xs S1).bind fun ys S2 => mkL m ys S2
def sDic0 : VS := fun _ S => .ok (.l S.length) (S ++ [.dic []])
def getOp (d k x : SV) (S : Store) : Out SV := match k, x with
  | .v k, .v x => match dicR S d with
    | some kvs => if keyOk k = true then .ok (.v ((keyGet k kvs).getD x)) S else .bad
    | none => .bad
  | _, _ => .bad
def isDc (S : Store) (x : SV) : Bool := match dicR S x with
  | some _ => true
  | none => false
def sGet (d k x : VS) : VS := fun ρ S => (d ρ S).bind fun d S1 => if isDc S1 d = true then (k ρ S1).bind fun k S2 => (x ρ S2).bind fun x S3 => getOp d k x S3 else .bad
def bRev (m : Bool) (x : SV) (S : Store) : Out SV := match seqOf S x with
  | some (true, xs) => mkL m xs.reverse S
  | some (false, xs) => mkT xs.reverse S
  | _ => .bad
def evens {α : Type} : List α → List α
  | [] => []
  | [x] => [x]
  | x :: _ :: r => x :: evens r
def pickS {α : Type} (k : Nat) (xs : List α) : List α := match k with
  | 0 => evens xs
  | 1 => evens (xs.drop 1)
  | _ => (xs.drop 1).reverse
def bSlcS (m : Bool) (k : Nat) (x : SV) (S : Store) : Out SV := match seqOf S x with
  | some (true, xs) => mkL m (pickS k xs) S
  | _ => .bad
def sSlcS (m : Bool) (k : Nat) (f : VS) : VS := fun ρ S => (f ρ S).bind fun x S1 => bSlcS m k x S1
def sRev (m : Bool) (f : VS) : VS := fun ρ S => (f ρ S).bind fun x S1 => bRev m x S1
def compD (f : PV → Store → Out (Option (PV × PV))) : List PV → Store → Out (List (PV × PV))
  | [], S => .ok [] S
  | x :: xs, S => (f x S).bind fun y S1 => (compD f xs S1).bind fun ys S2 => .ok (match y with | some y => y :: ys | none => ys) S2
def pairO (y z : SV) (S : Store) : Out (Option (PV × PV)) := match y, z with
  | .v y, .v z => if keyOk y = true then .ok (some (y, z)) S else .bad
  | _, _ => .bad
def cTurnD (g : PV → Slots → Option Slots) (c : Slots → Store → Out Bool) (k e : VS) (ρ : Slots) : PV → Store → Out (Option (PV × PV)) := fun x S => match g x ρ with
  | some ρ1 => (c ρ1 S).bind fun t S1 => if t = true then (k ρ1 S1).bind fun y S2 => (e ρ1 S2).bind fun z S3 => pairO y z S3 else .ok none S1
  | none => .bad
def putAll (kvs : List (PV × PV)) (ps : List (PV × PV)) : List (PV × PV) := ps.foldl (fun a p => keyPut p.1 p.2 a) kvs
def mkD (ps : List (PV × PV)) (S : Store) : Out SV := if ps.length ≤ line then .ok (.l S.length) (S ++ [.dic (putAll [] ps)]) else .bad
def sDcomp (own : List Nat) (g : PV → Slots → Option Slots) (it : IS) (c : Slots → Store → Out Bool) (k e : VS) : VS := fun ρ S =>
  (it ρ S).bind fun xs S1 => (compD (cTurnD g c k e (wipeS ρ own)) xs S1).bind fun ys S2 => mkD ys S2
def pairUp : List SV → Option (List (PV × PV))
  | [] => some []
  | .v k :: .v x :: r => if keyOk k = true then (pairUp r).map ((k, x) :: ·) else none
  | _ => none
def dispK (xs : List SV) (S : Store) : Out SV := match pairUp xs with
  | some ps => if ps.length ≤ 15 ∧ ps ≠ [] then mkD ps S else .bad
  | none => .bad
def sDicd (ts : LS) : VS := fun ρ S => (ts ρ S).bind dispK
@[simp] def sNil : LS := fun _ S => .ok [] S
@[simp] def sCons (e : VS) (es : LS) : LS := fun ρ S => (e ρ S).bind fun x S1 => (es ρ S1).bind fun xs S2 => .ok (x :: xs) S2
@[simp] def sAnd1 (a b : Sm) : Sm := ⟨fun ρ S => (a.v ρ S).bind fun x S1 => match truth S1 x with
    | some true => b.v ρ S1
    | some false => .ok x S1
    | none => .bad,
  fun ρ S => (a.t ρ S).bind fun t S1 => if t = true then b.t ρ S1 else .ok false S1⟩
@[simp] def sOr1 (a b : Sm) : Sm := ⟨fun ρ S => (a.v ρ S).bind fun x S1 => match truth S1 x with
    | some true => .ok x S1
    | some false => b.v ρ S1
    | none => .bad,
  fun ρ S => (a.t ρ S).bind fun t S1 => if t = true then .ok true S1 else b.t ρ S1⟩
def sBad : Sm := ⟨fun _ _ => .bad, fun _ _ => .bad⟩
@[simp] def rng2Op (x y : SV) (S : Store) : Out (List PV) := match x, y with
  | .v (.int i), .v (.int j) => if (rngOk i && rngOk j && rngOk (-i) && rngOk (-j)) = true then .ok (rng i j) S else .bad
  | _, _ => .bad
@[simp] def iRng2 (a b : VS) : IS := fun ρ S => (a ρ S).bind fun x S1 => (b ρ S1).bind fun y S2 => rng2Op x y S2
def rng3Op (x y z : SV) (S : Store) : Out (List PV) := match x, y, z with
  | .v (.int i), .v (.int j), .v (.int k) => if (rngOk i && rngOk j && rngOk (-i) && rngOk (-j) && decide (k ≠ 0) && rngOk k && rngOk (-k)) = true then .ok (rng3 i j k) S else .bad
  | _, _, _ => .bad
def iRng3 (a b c : VS) : IS := fun ρ S => (a ρ S).bind fun x S1 => (b ρ S1).bind fun y S2 => (c ρ S2).bind fun z S3 => rng3Op x y z S3
@[simp] def zipOp (x y : SV) (S : Store) : Out (List PV) := match x, y with
  | .v (.tup xs), .v (.tup ys) => .ok (zipL xs ys) S
  | .v (.lst xs), .v (.lst ys) => .ok (zipL xs ys) S
  | _, _ => .bad
@[simp] def iZip (a b : VS) : IS := fun ρ S => (a ρ S).bind fun x S1 => (b ρ S1).bind fun y S2 => zipOp x y S2
@[simp] def enumOp (x : SV) (S : Store) : Out (List PV) := match x with
  | .v (.lst xs) => .ok (enumL 0 xs) S
  | _ => .bad
@[simp] def iEnum (a : VS) : IS := fun ρ S => (a ρ S).bind enumOp
@[simp] def seqOp (x : SV) (S : Store) : Out (List PV) := match x with
  | .v (.tup xs) => .ok xs S
  | .v (.lst xs) => .ok xs S
  | _ => .bad
@[simp] def rng1Op (x : SV) (S : Store) : Out (List PV) := match x with
  | .v (.int n) => if (rngOk n && rngOk (-n)) = true then .ok (rngN n) S else .bad
  | _ => .bad
@[simp] def iSeq (e : VS) : IS := fun ρ S => (e ρ S).bind seqOp
@[simp] def iRng1 (a : VS) : IS := fun ρ S => (a ρ S).bind rng1Op
@[simp] def intOnly (x : SV) (S : Store) : Out SV := match x with
  | .v (.int i) => .ok (.v (.int i)) S
  | _ => .bad
@[simp] def isNonC : CE → Bool
  | .k .non => true
  | _ => false
@[simp] def sPart (b : Bool) (f : VS) : VS := if b = true then sK .non else fun ρ S => (f ρ S).bind intOnly
def sDicP : VS := fun _ S => .ok (.v (.dic [] [])) S
def countOp (x y : SV) (S : Store) : Out SV := match y with
  | .v (.int k) => match seqOf S x with
    | some (true, ys) => match ints? ys with
      | some is => .ok (.v (.int (is.count k : Nat))) S
      | none => .bad
    | _ => .bad
  | _ => .bad
def sCount (a x : VS) : VS := fun ρ S => (a ρ S).bind fun y S1 => if isLs S1 y = true then (x ρ S1).bind fun z S2 => if isLs S2 y = true then countOp y z S2 else .bad else .bad
def lzipOp (m : Bool) (x y : SV) (S : Store) : Out SV := (zipOp x y S).bind fun zs S1 => mkL m zs S1
def sLzip (m : Bool) (a b : VS) : VS := fun ρ S => (a ρ S).bind fun x S1 => (b ρ S1).bind fun y S2 => lzipOp m x y S2
def ginOp (neg : Bool) (ks vs : List PV) (x : SV) (S : Store) : Out Bool := match x with
  | .v (.int i) => .ok (xor neg (keyGet (.int i) (ks.zip vs)).isSome) S
  | _ => .bad
def sGin (neg : Bool) (ks vs : List PV) (e : VS) : Slots → Store → Out Bool := fun ρ S => (e ρ S).bind fun x S1 => ginOp neg ks vs x S1
def gidxOp (ks vs : List PV) (x : SV) (S : Store) : Out SV := match x with
  | .v (.int i) => match keyGet (.int i) (ks.zip vs) with
    | some y => .ok (.v y) S
    | none => .bad
  | _ => .bad
def sGidx (ks vs : List PV) (e : VS) : VS := fun ρ S => (e ρ S).bind fun x S1 => gidxOp ks vs x S1
def lvalsOp (m : Bool) (x : SV) (S : Store) : Out SV := match x with
  | .v (.dic _ vs) => mkL m vs S
  | _ => .bad
def sLvals (m : Bool) (d : VS) : VS := fun ρ S => (d ρ S).bind fun x S1 => lvalsOp m x S1
def itemsOp (x : SV) (S : Store) : Out (List PV) := match x with
  | .v (.dic ks vs) => .ok (zipL ks vs) S
  | _ => .bad
def iItems (d : VS) : IS := fun ρ S => (d ρ S).bind itemsOp
def keysOp (x : SV) (S : Store) : Out (List PV) := match x with
  | .v (.dic ks _) => .ok ks S
  | _ => .bad
def iKeys (d : VS) : IS := fun ρ S => (d ρ S).bind keysOp
def valuesOp (x : SV) (S : Store) : Out (List PV) := match x with
  | .v (.dic _ vs) => .ok vs S
  | _ => .bad
def iValues (d : VS) : IS := fun ρ S => (d ρ S).bind valuesOp
mutual
def ev (Γ : List (Str × Fn)) : CE → Sm
  | .var i => ofV (sVar i)
  | .k x => ofV (sK x)
  | .glob _ x => ofV (sK x)
  | .tup es => ofV (sTup (evL Γ es))
  | .list m es => ofV (sList m (evL Γ es))
  | .bin o m a b => ofV (sBin o m (ev Γ a).v (ev Γ b).v)
  | .neg a => ofV (sNeg (ev Γ a).v)
  | .nt a => sNot (ev Γ a)
  | .and es => evAnd Γ es
  | .or es => evOr Γ es
  | .cmp o a b => sCmp o (ev Γ a).v (ev Γ b).v
  | .chain o o' a b c => sChain o o' (ev Γ a).v (ev Γ b).v (ev Γ c).v
  | .ite c a b => sIte (ev Γ c) (ev Γ a) (ev Γ b)
  | .call i es => ofV (sCall (Γ[i]?.map Prod.snd) (evL Γ es))
  | .fnv n => ofV (sK (.fn n))
  | .callv e es => ofV (sCallv Γ (ev Γ e).v (evL Γ es))
  | .index a x => ofV (sIndex (ev Γ a).v (ev Γ x).v)
  | .indexG _ xs x => ofV (sIndexG xs (ev Γ x).v)
  | .bi b m es => ofV (sBi b m (evL Γ es))
  | .isi ts e => ofV (sIsi ts (ev Γ e).v)
  | .idx a i => ofV (sIdx (ev Γ a).v (ev Γ i).v)
  | .slc m a lo hi => ofV (sSlc m (ev Γ a).v (sPart (isNonC lo) (ev Γ lo).v) (sPart (isNonC hi) (ev Γ hi).v))
  | .comp m own tg it c e => ofV (sComp m own (bindG tg) (evI Γ it) (ev Γ c).t (ev Γ e).v)
  | .comp2 m own own2 tg it c tg2 it2 c2 e => ofV (sComp2 m own own2 (bindG tg) (evI Γ it) (ev Γ c).t (bindG tg2) (evI Γ it2) (ev Γ c2).t (ev Γ e).v)
  | .dic0 => ofV sDic0
  | .get d k x => ofV (sGet (ev Γ d).v (ev Γ k).v (ev Γ x).v)
  | .rev m a => ofV (sRev m (ev Γ a).v)
  | .slcS m k a => ofV (sSlcS m k (ev Γ a).v)
  | .dcomp own tg it c k e => ofV (sDcomp own (bindG tg) (evI Γ it) (ev Γ c).t (ev Γ k).v (ev Γ e).v)
  | .dicd es => ofV (sDicd (evL Γ es))
  | .dicP => ofV sDicP
  | .count a x => ofV (sCount (ev Γ a).v (ev Γ x).v)
  | .lzip m a b => ofV (sLzip m (ev Γ a).v (ev Γ b).v)
  | .gin neg _ ks vs e => ofT (sGin neg ks vs (ev Γ e).v)
  | .gidx _ ks vs e => ofV (sGidx ks vs (ev Γ e).v)
  | .lvals m d => ofV (sLvals m (ev Γ d).v)
def evL (Γ : List (Str × Fn)) : CL → LS
  | .nil => sNil
  | .cons e es => sCons (ev Γ e).v (evL Γ es)
def evAnd (Γ : List (Str × Fn)) : CL → Sm
  | .nil => sBad
  | .cons e es => match es with
    | .nil => ev Γ e
    | _ => sAnd1 (ev Γ e) (evAnd Γ es)
def evOr (Γ : List (Str × Fn)) : CL → Sm
  | .nil => sBad
  | .cons e es => match es with
    | .nil => ev Γ e
    | _ => sOr1 (ev Γ e) (evOr Γ es)
/-- the items that are walked -/
def evI (Γ : List (Str × Fn)) : CI → IS
  | .seq e => iSeq (ev Γ e).v
  | .rng1 a => iRng1 (ev Γ a).v
  | .rng2 a b => iRng2 (ev Γ a).v (ev Γ b).v
  | .rng3 a b c => iRng3 (ev Γ a).v (ev Γ b).v (ev Γ c).v
  | .zip2 a b => iZip (ev Γ a).v (ev Γ b).v
  | .enum a => iEnum (ev Γ a).v
  | .keys d => iKeys (ev Γ d).v
  | .items d => iItems (ev Γ d).v
  | .values d => iValues (ev Γ d).v
end

@[simp] def setAll : List Nat → List SV → Slots → Option Slots
  | [], [], ρ => some ρ
  | i :: is, x :: xs, ρ => setAll is xs (ρ.set i (some x))
  | _, _, _ => none
abbrev FS := Slots → Store → Out Flow
@[simp] def sSeq (f g : FS) : FS := fun ρ S => (f ρ S).bind fun r S1 => match r with
  | .next ρ1 => g ρ1 S1
  | .ret x => .ok (.ret x) S1
  | .brk ρ1 => .ok (.brk ρ1) S1
  | .cnt ρ1 => .ok (.cnt ρ1) S1
@[simp] def sNext : FS := fun ρ S => .ok (.next ρ) S
@[simp] def sFreeze (i : Nat) : FS := fun ρ S => match getS ρ i with
    | some (.l n) => match S[n]? with
      | some (.lst xs) => .ok (.next (ρ.set i (some (.v (.lst xs))))) (S.set n .gone)
      | some (.dic kvs) => if allInt (kvs.map Prod.fst) = true then .ok (.next (ρ.set i (some (.v (.dic (kvs.map Prod.fst) (kvs.map Prod.snd)))))) (S.set n .gone) else .bad
      | _ => .bad
    | some (.v _) => .ok (.next ρ) S
    | none => .ok (.next ρ) S
@[simp] def sSet (i : Nat) (f : VS) : FS := fun ρ S => (f ρ S).bind fun x S1 => .ok (.next (ρ.set i (some x))) S1
@[simp] def sUnpack (g : PV → Slots → Option Slots) (f : VS) : FS := fun ρ S => (f ρ S).bind fun x S1 => match x with
    | .v x => match g x ρ with
      | some ρ1 => .ok (.next ρ1) S1
      | none => .bad
    | .l _ => .bad
@[simp] def sPar (is : List Nat) (ts : LS) : FS := fun ρ S => (ts ρ S).bind fun xs S1 => match setAll is xs ρ with
    | some ρ1 => .ok (.next ρ1) S1
    | none => .bad
@[simp] def sExpr (f : VS) : FS := fun ρ S => (f ρ S).bind fun _ S1 => .ok (.next ρ) S1
@[simp] def sIfs (c : Slots → Store → Out Bool) (f g : FS) : FS := fun ρ S => (c ρ S).bind fun t S1 => if t = true then f ρ S1 else g ρ S1
@[simp] def sRet (f : VS) : FS := fun ρ S => (f ρ S).bind fun x S1 => .ok (.ret x) S1
@[simp] def sRetN : FS := fun _ S => .ok (.ret (.v .non)) S
@[simp] def sBrk : FS := fun ρ S => .ok (.brk ρ) S
@[simp] def sCnt : FS := fun ρ S => .ok (.cnt ρ) S
@[simp] def sTurn (g : PV → Slots → Option Slots) (f : FS) : PV → FS := fun x ρ S => match g x ρ with
    | some ρ1 => f ρ1 S
    | none => .bad
@[simp] def sFor (g : PV → Slots → Option Slots) (it : IS) (f : FS) (w : List Nat) : FS := fun ρ S => (it ρ S).bind fun xs S1 => forL (sTurn g f) w xs (wipeS ρ w) S1
@[simp] def sForM (g : PV → Slots → Option Slots) (e : VS) (f : FS) (w : List Nat) : FS := fun ρ S => (e ρ S).bind fun x S1 => match x with
    | .l n => forM (sTurn g f) w n fuel 0 (wipeS ρ w) S1
    | _ => .bad
@[simp] def sWhile (c : Slots → Store → Out Bool) (f : FS) (w : List Nat) : FS := fun ρ S => whileL c f w fuel (wipeS ρ w) S
def isLst (S : Store) (n : Nat) : Bool := match S[n]? with
  | some (.lst _) => true
  | _ => false
@[simp] def sApp (i : Nat) (f : VS) : FS := fun ρ S => match getS ρ i with
    | some (.l n) => if isLst S n = true then (f ρ S).bind fun x S1 => match x, S1[n]? with
      | .v x, some (.lst xs) => if xs.length < line then .ok (.next ρ) (S1.set n (.lst (xs ++ [x]))) else .bad
      | _, _ => .bad
      else .bad
    | _ => .bad
@[simp] def putOp (o y x : SV) (S : Store) : Option Store := match o, x, y with
  | .l n, .v x, .v y => match S[n]? with
    | some (.lst xs) => match y with
      | .int j => match ix? xs.length j with
        | some k => some (S.set n (.lst (xs.set k x)))
        | none => none
      | _ => none
    | some (.dic kvs) => if keyOk y = true ∧ kvs.length < line then some (S.set n (.dic (keyPut y x kvs))) else none
    | _ => none
  | _, _, _ => none
@[simp] def sSub (i : Nat) (a f : VS) : FS := fun ρ S => (f ρ S).bind fun x S1 => (a ρ S1).bind fun y S2 => match getS ρ i with
  | some o => match putOp o y x S2 with
    | some S3 => .ok (.next ρ) S3
    | none => .bad
  | none => .bad
def sPut2 (i : Nat) (a : VS) (j : Nat) (b : VS) (ts : LS) : FS := fun ρ S => (ts ρ S).bind fun xs S1 => match xs with
  | [.v x, .v x2] => (a ρ S1).bind fun y S2 => match getS ρ i with
    | some o => match putOp o y (.v x) S2 with
      | some S3 => (b ρ S3).bind fun y2 S4 => match getS ρ j with
        | some o2 => match putOp o2 y2 (.v x2) S4 with
          | some S5 => .ok (.next ρ) S5
          | none => .bad
        | none => .bad
      | none => .bad
    | none => .bad
  | _ => .bad
@[simp] def augOp (o : BOp) (x y : SV) : Option SV := match x, y with
  | .v (.int a), .v (.int b) => match o with
    | .add => some (.v (.int (a + b)))
    | .sub => some (.v (.int (a - b)))
    | _ => none
  | _, _ => none
@[simp] def sAug (i : Nat) (o : BOp) (f : VS) : FS := fun ρ S => match getS ρ i with
    | some x => (f ρ S).bind fun y S1 => match augOp o x y with
      | some z => .ok (.next (ρ.set i (some z))) S1
      | none => .bad
    | none => .bad
def sPop (i : Nat) : FS := fun ρ S => match getS ρ i with
    | some (.l n) => match S[n]? with
      | some (.lst xs) => if xs.isEmpty = true then .bad else .ok (.next ρ) (S.set n (.lst xs.dropLast))
      | _ => .bad
    | _ => .bad
def augsubOp (o : BOp) (ob y z : SV) (old : PV) (S : Store) : Option Store := match augOp o (.v old) z with
  | some w => putOp ob y w S
  | none => none
def oldOf (ob y : SV) (S : Store) : Option PV := match idxOp ob y S with
  | .ok (.v x) _ => some x
  | _ => none
def sAugsub (i : Nat) (a : VS) (o : BOp) (f : VS) : FS := fun ρ S => match getS ρ i with
  | some ob => (a ρ S).bind fun y S1 => match oldOf ob y S1 with
    | some old => (f ρ S1).bind fun z S2 => match augsubOp o ob y z old S2 with
      | some S3 => .ok (.next ρ) S3
      | none => .bad
    | none => .bad
  | none => .bad
def sRaise (c : Str) (ts : LS) : FS := fun ρ S => (ts ρ S).bind fun xs S1 => match pures? xs with
    | some ys => .exc c ys S1
    | none => .bad
mutual
def evS (Γ : List (Str × Fn)) : CS → FS
  | .set i e => sSet i (ev Γ e).v
  | .unpack gs e => sUnpack (bindG (.tup gs)) (ev Γ e).v
  | .par is es => sPar is (evL Γ es)
  | .sub i a e => sSub i (ev Γ a).v (ev Γ e).v
  | .put2 i a j b es => sPut2 i (ev Γ a).v j (ev Γ b).v (evL Γ es)
  | .aug i o e => sAug i o (ev Γ e).v
  | .augsub i a o e => sAugsub i (ev Γ a).v o (ev Γ e).v
  | .app i e => sApp i (ev Γ e).v
  | .expr e => sExpr (ev Γ e).v
  | .ifs c a b => sIfs (ev Γ c).t (evB Γ a) (evB Γ b)
  | .forr tg it body w => sFor (bindG tg) (evI Γ it) (evB Γ body) w
  | .whil c body w => sWhile (ev Γ c).t (evB Γ body) w
  | .forl tg e body w => sForM (bindG tg) (ev Γ e).v (evB Γ body) w
  | .ret e => sRet (ev Γ e).v
  | .retN => sRetN
  | .brk => sBrk
  | .cnt => sCnt
  | .raise c es => sRaise c (evL Γ es)
  | .freeze i => sFreeze i
  | .pop i => sPop i
  | .parG is es => sPar is (evL Γ es)
def evB (Γ : List (Str × Fn)) : CB → FS
  | .nil => sNext
  | .cons s r => sSeq (evS Γ s) (evB Γ r)
end
@[simp] theorem ev_var (Γ : List (Str × Fn)) {i} : ev Γ (.var i) = ofV (sVar i) := rfl
@[simp] theorem ev_k (Γ : List (Str × Fn)) {x} : ev Γ (.k x) = ofV (sK x) := rfl
@[simp] theorem ev_glob (Γ : List (Str × Fn)) {n} {x} : ev Γ (.glob n x) = ofV (sK x) := rfl
@[simp] theorem ev_tup (Γ : List (Str × Fn)) {es} : ev Γ (.tup es) = ofV (sTup (evL Γ es)) := rfl
@[simp] theorem ev_list (Γ : List (Str × Fn)) {m} {es} : ev Γ (.list m es) = ofV (sList m (evL Γ es)) := rfl
@[simp] theorem ev_bin (Γ : List (Str × Fn)) {o} {m} {a} {b} : ev Γ (.bin o m a b) = ofV (sBin o m (ev Γ a).v (ev Γ b).v) := rfl
@[simp] theorem ev_neg (Γ : List (Str × Fn)) {a} : ev Γ (.neg a) = ofV (sNeg (ev Γ a).v) := rfl
@[simp] theorem ev_nt (Γ : List (Str × Fn)) {a} : ev Γ (.nt a) = sNot (ev Γ a) := rfl
@[simp] theorem ev_and (Γ : List (Str × Fn)) {es} : ev Γ (.and es) = evAnd Γ es := rfl
@[simp] theorem ev_or (Γ : List (Str × Fn)) {es} : ev Γ (.or es) = evOr Γ es := rfl
@[simp] theorem ev_cmp (Γ : List (Str × Fn)) {o} {a} {b} : ev Γ (.cmp o a b) = sCmp o (ev Γ a).v (ev Γ b).v := rfl
@[simp] theorem ev_chain (Γ : List (Str × Fn)) {o} {o'} {a} {b} {c} : ev Γ (.chain o o' a b c) = sChain o o' (ev Γ a).v (ev Γ b).v (ev Γ c).v := rfl
@[simp] theorem ev_ite (Γ : List (Str × Fn)) {c} {a} {b} : ev Γ (.ite c a b) = sIte (ev Γ c) (ev Γ a) (ev Γ b) := rfl
@[simp] theorem ev_call (Γ : List (Str × Fn)) {i} {es} : ev Γ (.call i es) = ofV (sCall (Γ[i]?.map Prod.snd) (evL Γ es)) := rfl
@[simp] theorem ev_fnv (Γ : List (Str × Fn)) {n} : ev Γ (.fnv n) = ofV (sK (.fn n)) := rfl
@[simp] theorem ev_callv (Γ : List (Str × Fn)) {e} {es} : ev Γ (.callv e es) = ofV (sCallv Γ (ev Γ e).v (evL Γ es)) := rfl
@[simp] theorem ev_index (Γ : List (Str × Fn)) {a} {x} : ev Γ (.index a x) = ofV (sIndex (ev Γ a).v (ev Γ x).v) := rfl
@[simp] theorem ev_indexG (Γ : List (Str × Fn)) {n} {xs} {x} : ev Γ (.indexG n xs x) = ofV (sIndexG xs (ev Γ x).v) := rfl
@[simp] theorem ev_bi (Γ : List (Str × Fn)) {b} {m} {es} : ev Γ (.bi b m es) = ofV (sBi b m (evL Γ es)) := rfl
@[simp] theorem ev_isi (Γ : List (Str × Fn)) {ts} {e} : ev Γ (.isi ts e) = ofV (sIsi ts (ev Γ e).v) := rfl
@[simp] theorem ev_idx (Γ : List (Str × Fn)) {a} {i} : ev Γ (.idx a i) = ofV (sIdx (ev Γ a).v (ev Γ i).v) := rfl
@[simp] theorem ev_slc (Γ : List (Str × Fn)) {m} {a} {lo} {hi} : ev Γ (.slc m a lo hi) = ofV (sSlc m (ev Γ a).v (sPart (isNonC lo) (ev Γ lo).v) (sPart (isNonC hi) (ev Γ hi).v)) := rfl
@[simp] theorem evL_nil (Γ : List (Str × Fn)) : evL Γ .nil = sNil := rfl
@[simp] theorem evL_cons (Γ : List (Str × Fn)) {e es} : evL Γ (.cons e es) = sCons (ev Γ e).v (evL Γ es) := rfl
@[simp] theorem evAnd_one (Γ : List (Str × Fn)) {e} : evAnd Γ (.cons e .nil) = ev Γ e := rfl
@[simp] theorem evAnd_cons (Γ : List (Str × Fn)) {e f es} : evAnd Γ (.cons e (.cons f es)) = sAnd1 (ev Γ e) (evAnd Γ (.cons f es)) := rfl
@[simp] theorem evOr_one (Γ : List (Str × Fn)) {e} : evOr Γ (.cons e .nil) = ev Γ e := rfl
@[simp] theorem evOr_cons (Γ : List (Str × Fn)) {e f es} : evOr Γ (.cons e (.cons f es)) = sOr1 (ev Γ e) (evOr Γ (.cons f es)) := rfl
@[simp] theorem evS_set (Γ : List (Str × Fn)) {i} {e} : evS Γ (.set i e) = sSet i (ev Γ e).v := rfl
@[simp] theorem evS_unpack (Γ : List (Str × Fn)) {gs} {e} : evS Γ (.unpack gs e) = sUnpack (bindG (.tup gs)) (ev Γ e).v := rfl
@[simp] theorem evS_par (Γ : List (Str × Fn)) {is} {es} : evS Γ (.par is es) = sPar is (evL Γ es) := rfl
@[simp] theorem evS_sub (Γ : List (Str × Fn)) {i} {a} {e} : evS Γ (.sub i a e) = sSub i (ev Γ a).v (ev Γ e).v := rfl
@[simp] theorem evS_aug (Γ : List (Str × Fn)) {i} {o} {e} : evS Γ (.aug i o e) = sAug i o (ev Γ e).v := rfl
@[simp] theorem evS_app (Γ : List (Str × Fn)) {i} {e} : evS Γ (.app i e) = sApp i (ev Γ e).v := rfl
@[simp] theorem evS_expr (Γ : List (Str × Fn)) {e} : evS Γ (.expr e) = sExpr (ev Γ e).v := rfl
@[simp] theorem evS_ifs (Γ : List (Str × Fn)) {c} {a} {b} : evS Γ (.ifs c a b) = sIfs (ev Γ c).t (evB Γ a) (evB Γ b) := rfl
@[simp] theorem evS_ret (Γ : List (Str × Fn)) {e} : evS Γ (.ret e) = sRet (ev Γ e).v := rfl
@[simp] theorem evS_retN (Γ : List (Str × Fn)) : evS Γ (.retN) = sRetN := rfl
@[simp] theorem evS_brk (Γ : List (Str × Fn)) : evS Γ (.brk) = sBrk := rfl
@[simp] theorem evS_cnt (Γ : List (Str × Fn)) : evS Γ (.cnt) = sCnt := rfl
@[simp] theorem evS_raise (Γ : List (Str × Fn)) {c} {es} : evS Γ (.raise c es) = sRaise c (evL Γ es) := rfl
@[simp] theorem evS_freeze (Γ : List (Str × Fn)) {i} : evS Γ (.freeze i) = sFreeze i := rfl
@[simp] theorem evB_nil (Γ : List (Str × Fn)) : evB Γ .nil = sNext := rfl
@[simp] theorem evB_cons (Γ : List (Str × Fn)) {s r} : evB Γ (.cons s r) = sSeq (evS Γ s) (evB Γ r) := rfl
@[simp] theorem seqOf_tup {S : Store} {xs} : seqOf S (.v (.tup xs)) = some (false, xs) := rfl
@[simp] theorem seqOf_lst {S : Store} {xs} : seqOf S (.v (.lst xs)) = some (true, xs) := rfl
@[simp] theorem seqOf_non {S : Store} : seqOf S (.v .non) = none := rfl
@[simp] theorem seqOf_bl {S : Store} {x} : seqOf S (.v (.bl x)) = none := rfl
@[simp] theorem seqOf_int {S : Store} {x} : seqOf S (.v (.int x)) = none := rfl
@[simp] theorem seqOf_str {S : Store} {x} : seqOf S (.v (.str x)) = none := rfl
@[simp] theorem seqOf_fn {S : Store} {x} : seqOf S (.v (.fn x)) = none := rfl
@[simp] theorem seqOf_dic {S : Store} {x y} : seqOf S (.v (.dic x y)) = none := rfl
@[simp] theorem seqOf_l {S : Store} {n xs} (h : S[n]? = some (.lst xs)) : seqOf S (.l n) = some (true, xs) := by simp only [seqOf, h]
@[simp] theorem dicOf_v {S : Store} {x} : dicOf S (.v x) = none := rfl
@[simp] theorem dicR_non {S : Store} : dicR S (.v .non) = none := rfl
@[simp] theorem dicR_bl {S : Store} {x} : dicR S (.v (.bl x)) = none := rfl
@[simp] theorem dicR_int {S : Store} {x} : dicR S (.v (.int x)) = none := rfl
@[simp] theorem dicR_str {S : Store} {x} : dicR S (.v (.str x)) = none := rfl
@[simp] theorem dicR_tup {S : Store} {x} : dicR S (.v (.tup x)) = none := rfl
@[simp] theorem dicR_lst {S : Store} {x} : dicR S (.v (.lst x)) = none := rfl
@[simp] theorem dicR_fn {S : Store} {x} : dicR S (.v (.fn x)) = none := rfl
@[simp] theorem dicR_dic {S : Store} {x y} : dicR S (.v (.dic x y)) = some (x.zip y) := rfl
@[simp] theorem dicR_l {S : Store} {n kvs} (h : S[n]? = some (.dic kvs)) : dicR S (.l n) = some kvs := by simp only [dicR, dicOf, h]
@[simp] theorem dicOf_l {S : Store} {n kvs} (h : S[n]? = some (.dic kvs)) : dicOf S (.l n) = some kvs := by simp only [dicOf, h]
@[simp] theorem pure_v {S : Store} {x} : pure? S (.v x) = some x := rfl
@[simp] theorem pure_l {S : Store} {n xs} (h : S[n]? = some (.lst xs)) : pure? S (.l n) = some (.lst xs) := by simp only [pure?, h]
@[simp] theorem truth_non {S : Store} : truth S (.v .non) = some false := rfl
@[simp] theorem truth_bl {S : Store} {b} : truth S (.v (.bl b)) = some b := rfl
@[simp] theorem truth_int {S : Store} {i} : truth S (.v (.int i)) = some (i != 0) := rfl
@[simp] theorem truth_tup {S : Store} {xs} : truth S (.v (.tup xs)) = some (!xs.isEmpty) := rfl
@[simp] theorem truth_lst {S : Store} {xs} : truth S (.v (.lst xs)) = some (!xs.isEmpty) := rfl
@[simp] theorem truth_l {S : Store} {n xs} (h : S[n]? = some (.lst xs)) : truth S (.l n) = some (!xs.isEmpty) := by simp only [truth, h]
@[simp] theorem tgOf_non {S : Store} : tgOf S (.v .non) = some .non := rfl
@[simp] theorem tgOf_bl {S : Store} {x} : tgOf S (.v (.bl x)) = some .bl := rfl
@[simp] theorem tgOf_int {S : Store} {x} : tgOf S (.v (.int x)) = some .int := rfl
@[simp] theorem tgOf_str {S : Store} {x} : tgOf S (.v (.str x)) = some .str := rfl
@[simp] theorem tgOf_tup {S : Store} {x} : tgOf S (.v (.tup x)) = some .tup := rfl
@[simp] theorem tgOf_lst {S : Store} {x} : tgOf S (.v (.lst x)) = some .lst := rfl
@[simp] theorem tgOf_dic {S : Store} {x y} : tgOf S (.v (.dic x y)) = some .dic := rfl
@[simp] theorem tgOf_l {S : Store} {n xs} (h : S[n]? = some (.lst xs)) : tgOf S (.l n) = some .lst := by simp only [tgOf, h]
@[simp] theorem isLst_l {S : Store} {n xs} (h : S[n]? = some (.lst xs)) : isLst S n = true := by simp only [isLst, h]
@[simp] theorem eqP_int {i j} : eqP (.int i) (.int j) = some (decide (i = j)) := rfl
@[simp] theorem eqP_bl {a b} : eqP (.bl a) (.bl b) = some (a == b) := rfl
@[simp] theorem eqP_str {a b} : eqP (.str a) (.str b) = some (decide (a = b)) := rfl
@[simp] theorem eqP_non : eqP .non .non = some true := rfl
@[simp] theorem eqP_nil : eqP (.lst []) (.lst []) = some true := rfl
@[simp] theorem eqP_nilT : eqP (.tup []) (.tup []) = some true := rfl
@[simp] theorem eqP_non_int {i} : eqP (.int i) .non = some false := rfl
theorem evS_forr (Γ : List (Str × Fn)) {tg it b w} : evS Γ (.forr tg it b w) = sFor (bindG tg) (evI Γ it) (evB Γ b) w := rfl
theorem ev_comp (Γ : List (Str × Fn)) {m own tg it c e} : ev Γ (.comp m own tg it c e) = ofV (sComp m own (bindG tg) (evI Γ it) (ev Γ c).t (ev Γ e).v) := rfl
@[simp] theorem evI_seq (Γ : List (Str × Fn)) {e} : evI Γ (.seq e) = iSeq (ev Γ e).v := rfl
@[simp] theorem evI_rng1 (Γ : List (Str × Fn)) {a} : evI Γ (.rng1 a) = iRng1 (ev Γ a).v := rfl
@[simp] theorem evI_rng2 (Γ : List (Str × Fn)) {a b} : evI Γ (.rng2 a b) = iRng2 (ev Γ a).v (ev Γ b).v := rfl
@[simp] theorem evI_zip2 (Γ : List (Str × Fn)) {a b} : evI Γ (.zip2 a b) = iZip (ev Γ a).v (ev Γ b).v := rfl
@[simp] theorem evI_enum (Γ : List (Str × Fn)) {a} : evI Γ (.enum a) = iEnum (ev Γ a).v := rfl
@[simp] def leave (n : Nat) (x : SV) (S : Store) : Out SV := match x with
  | .v x => .ok (.v x) (S.take n)
  | .l m => if m < n then .ok (.l m) (S.take n) else match S[m]? with
    | some (.lst xs) => .ok (.v (.lst xs)) (S.take n)
    | some (.dic kvs) => .ok (.l n) (S.take n ++ [.dic kvs])
    | _ => .bad
def leaveM (n : Nat) (x : SV) (S : Store) : Out SV := match x with
  | .v x => .ok (.v x) (S.take n)
  | .l m => if m < n then .ok (.l m) (S.take n) else match S[m]? with
    | some (.lst xs) => .ok (.l n) (S.take n ++ [.lst xs])
    | some (.dic kvs) => .ok (.l n) (S.take n ++ [.dic kvs])
    | _ => .bad
structure Def where
  np : Nat
  ns : Nat
  body : CB
@[simp] def fnSem (Γ : List (Str × Fn)) (d : Def) : Fn := fun xs S =>
  if xs.length = d.np then
    match evB Γ d.body (xs.map some ++ List.replicate (d.ns - d.np) none) S with
    | .ok (.ret x) S1 => leave S.length x S1
    | .ok (.next _) S1 => leave S.length (.v .non) S1
    | .ok _ _ => .bad
    | .exc c as S1 => .exc c as (S1.take S.length)
    | .bad => .bad
  else .bad
def fnSemM (Γ : List (Str × Fn)) (d : Def) : Fn := fun xs S =>
  if xs.length = d.np then
    match evB Γ d.body (xs.map some ++ List.replicate (d.ns - d.np) none) S with
    | .ok (.ret x) S1 => leaveM S.length x S1
    | .ok (.next _) S1 => leaveM S.length (.v .non) S1
    | .ok _ _ => .bad
    | .exc c as S1 => .exc c as (S1.take S.length)
    | .bad => .bad
  else .bad
end FW

namespace FW
open PySem PySem.Spec PyProof.Rows L2

structure Plc where
  l : List Addr
  w : Hp
def keyP : L2.Key → PV
  | .inl i => .int i
  | .inr s => .str s
mutual
def Rep (K : PySem.W.Frag) (mg : PySem.Str → Option Value) (F : Hp) : PV → V → Prop
  | .non, v => v = .non
  | .bl b, v => v = .bl b
  | .int i, v => v = .int i
  | .str s, v => v = .str s ∧ PyData.strOk s = true
  | .tup xs, v => ∃ p vs, v = .ref p ∧ SqT K F p vs ∧ RepL K mg F xs vs
  | .lst xs, v => ∃ p vs, v = .ref p ∧ Rd F p (.lst vs) ∧ RepL K mg F xs vs
  | .fn n, v => ∃ a, v = .ref a ∧ mg n = some (.ref a)
  | .dic ks xs, v => ∃ p od ws, v = .ref p ∧ F p = some (.frz od (.dK ws)) ∧ ks = ws.map (fun w => keyP w.1) ∧ allInt ks = true ∧ RepL K mg F xs (ws.map (·.2))
def RepL (K : PySem.W.Frag) (mg : PySem.Str → Option Value) (F : Hp) : List PV → List V → Prop
  | [], vs => vs = []
  | x :: xs, vs => ∃ v r, vs = v :: r ∧ Rep K mg F x v ∧ RepL K mg F xs r
end
section
variable {K : PySem.W.Frag} {mg : PySem.Str → Option Value} {F F' H H' : Hp} {ι ι' : Plc} {S S' : Store}
def Sub (F F' : Hp) : Prop := ∀ a o, F a = some o → F' a = some o
theorem Sub.refl : Sub F F := fun _ _ h => h
theorem Sub.trans {F''} (h : Sub F F') (g : Sub F' F'') : Sub F F'' := fun a o e => g a o (h a o e)
theorem Sub.rd {p : Addr} {o : HO} (h : Sub F F') (r : Rd F p o) : Rd F' p o := by
  rcases r with r | ⟨u, r⟩
  · exact .inl (h _ _ r)
  · exact .inr ⟨u, h _ _ r⟩
theorem Sub.sqT {p : Addr} {vs : List V} (h : Sub F F') (r : SqT K F p vs) : SqT K F' p vs := r.elim (fun r => .inl (h.rd r)) .inr
mutual
theorem Rep.mono (h : Sub F F') : ∀ {x : PV} {v : V}, Rep K mg F x v → Rep K mg F' x v
  | .non, _, r => r
  | .bl _, _, r => r
  | .int _, _, r => r
  | .str _, _, r => r
  | .tup _, _, ⟨p, vs, e, s, r⟩ => ⟨p, vs, e, h.sqT s, RepL.mono h r⟩
  | .lst _, _, ⟨p, vs, e, s, r⟩ => ⟨p, vs, e, h.rd s, RepL.mono h r⟩
  | .fn _, _, r => r
  | .dic _ _, _, ⟨p, od, ws, e, s, k, g, r⟩ => ⟨p, od, ws, e, h _ _ s, k, g, RepL.mono h r⟩
theorem RepL.mono (h : Sub F F') : ∀ {xs : List PV} {vs : List V}, RepL K mg F xs vs → RepL K mg F' xs vs
  | [], _, r => r
  | _ :: _, _, ⟨v, r, e, a, b⟩ => ⟨v, r, e, Rep.mono h a, RepL.mono h b⟩
end
theorem RepL.length : ∀ {xs : List PV} {vs : List V}, RepL K mg F xs vs → xs.length = vs.length
  | [], _, r => by cases r; rfl
  | _ :: _, _, ⟨v, r, e, a, b⟩ => by subst e; simp [RepL.length b]
theorem RepL.app : ∀ {xs ys : List PV} {vs ws : List V}, RepL K mg F xs vs → RepL K mg F ys ws → RepL K mg F (xs ++ ys) (vs ++ ws)
  | [], _, _, _, r, q => by cases r; exact q
  | _ :: _, _, _, _, ⟨v, r, e, a, b⟩, q => by subst e; exact ⟨v, _, rfl, a, RepL.app b q⟩
theorem RepL.get : ∀ {xs : List PV} {vs : List V} {i : Nat} {x : PV}, RepL K mg F xs vs → xs[i]? = some x → ∃ v, vs[i]? = some v ∧ Rep K mg F x v
  | [], _, _, _, _, h => by simp at h
  | _ :: _, _, 0, _, ⟨v, r, e, a, b⟩, h => by simp at h; subst h e; exact ⟨v, rfl, a⟩
  | _ :: _, _, i + 1, _, ⟨v, r, e, a, b⟩, h => by subst e; obtain ⟨w, h1, h2⟩ := RepL.get (i := i) b (by simpa using h); exact ⟨w, by simpa using h1, h2⟩
theorem RepL.set {x : PV} {v : V} (q : Rep K mg F x v) : ∀ {xs : List PV} {vs : List V} (i : Nat), RepL K mg F xs vs → RepL K mg F (xs.set i x) (vs.set i v)
  | [], _, _, r => by cases r; exact rfl
  | _ :: _, _, 0, ⟨w, r, e, a, b⟩ => by subst e; exact ⟨v, r, rfl, q, b⟩
  | _ :: _, _, i + 1, ⟨w, r, e, a, b⟩ => by subst e; exact ⟨w, _, rfl, a, RepL.set q i b⟩
theorem RepL.take : ∀ {xs : List PV} {vs : List V} (n : Nat), RepL K mg F xs vs → RepL K mg F (xs.take n) (vs.take n)
  | [], _, _, r => by cases r; simp [RepL]
  | _ :: _, _, 0, _ => by simp [RepL]
  | _ :: _, _, n + 1, ⟨w, r, e, a, b⟩ => by subst e; exact ⟨w, _, rfl, a, RepL.take n b⟩
theorem RepL.drop : ∀ {xs : List PV} {vs : List V} (n : Nat), RepL K mg F xs vs → RepL K mg F (xs.drop n) (vs.drop n)
  | [], _, _, r => by cases r; simp [RepL]
  | _ :: _, _, 0, r => r
  | _ :: _, _, n + 1, ⟨w, r, e, a, b⟩ => by subst e; exact RepL.drop n b
theorem RepL.one {x : PV} {v : V} (q : Rep K mg F x v) : RepL K mg F [x] [v] := ⟨v, [], rfl, q, rfl⟩

def RepS (K : PySem.W.Frag) (mg : PySem.Str → Option Value) (F : Hp) (ι : Plc) : SV → V → Prop
  | .v x, v => Rep K mg F x v
  | .l n, v => ∃ p, ι.l[n]? = some p ∧ v = .ref p
def RepSs (K : PySem.W.Frag) (mg : PySem.Str → Option Value) (F : Hp) (ι : Plc) : List SV → List V → Prop
  | [], vs => vs = []
  | x :: xs, vs => ∃ v r, vs = v :: r ∧ RepS K mg F ι x v ∧ RepSs K mg F ι xs r
def Ext (ι : Plc) (F : Hp) (ι' : Plc) (F' : Hp) : Prop := ((∃ t, ι'.l = ι.l ++ t) ∧ ι'.w = ι.w) ∧ Sub F F'
theorem Ext.refl : Ext ι F ι F := ⟨⟨⟨[], by simp⟩, rfl⟩, Sub.refl⟩
theorem Ext.trans {ι'' F''} (a : Ext ι F ι' F') (b : Ext ι' F' ι'' F'') : Ext ι F ι'' F'' := by
  obtain ⟨⟨⟨t, e⟩, w⟩, s⟩ := a
  obtain ⟨⟨⟨t', e'⟩, w'⟩, s'⟩ := b
  exact ⟨⟨⟨t ++ t', by rw [e', e, List.append_assoc]⟩, w'.trans w⟩, s.trans s'⟩
theorem Ext.ix (a : Ext ι F ι' F') {n : Nat} {p : Addr} (h : ι.l[n]? = some p) : ι'.l[n]? = some p := by
  obtain ⟨⟨⟨t, e⟩, _⟩, _⟩ := a
  rw [e, List.getElem?_append_left (List.getElem?_eq_some_iff.mp h).1]; exact h
theorem RepS.mono (a : Ext ι F ι' F') : ∀ {x : SV} {v : V}, RepS K mg F ι x v → RepS K mg F' ι' x v
  | .v _, _, r => Rep.mono a.2 r
  | .l _, _, ⟨p, h, e⟩ => ⟨p, a.ix h, e⟩
theorem RepSs.mono (a : Ext ι F ι' F') : ∀ {xs : List SV} {vs : List V}, RepSs K mg F ι xs vs → RepSs K mg F' ι' xs vs
  | [], _, r => r
  | _ :: _, _, ⟨v, r, e, q, t⟩ => ⟨v, r, e, RepS.mono a q, RepSs.mono a t⟩
theorem RepSs.length : ∀ {xs : List SV} {vs : List V}, RepSs K mg F ι xs vs → xs.length = vs.length
  | [], _, r => by cases r; rfl
  | _ :: _, _, ⟨v, r, e, a, b⟩ => by subst e; simp [RepSs.length b]
theorem RepSs.get : ∀ {xs : List SV} {vs : List V} {i : Nat} {x : SV}, RepSs K mg F ι xs vs → xs[i]? = some x → ∃ v, vs[i]? = some v ∧ RepS K mg F ι x v
  | [], _, _, _, _, h => by simp at h
  | _ :: _, _, 0, _, ⟨v, r, e, a, b⟩, h => by simp at h; subst h e; exact ⟨v, rfl, a⟩
  | _ :: _, _, i + 1, _, ⟨v, r, e, a, b⟩, h => by subst e; obtain ⟨w, h1, h2⟩ := RepSs.get (i := i) b (by simpa using h); exact ⟨w, by simpa using h1, h2⟩
theorem RepSs.pures : ∀ {xs : List SV} {vs : List V} {ys : List PV}, RepSs K mg F ι xs vs → pures? xs = some ys → RepL K mg F ys vs
  | [], _, _, r, h => by simp [pures?] at h; subst h; exact r
  | .v x :: xs, _, ys, ⟨v, r, e, a, b⟩, h => by
    simp only [pures?, Option.map_eq_some_iff] at h
    obtain ⟨zs, h1, h2⟩ := h
    subst h2 e
    exact ⟨v, r, rfl, a, RepSs.pures b h1⟩
  | .l _ :: _, _, _, _, h => by simp [pures?] at h

def RepD (K : PySem.W.Frag) (mg : PySem.Str → Option Value) (F : Hp) : List (PV × PV) → List (L2.Key × V) → Prop
  | [], ws => ws = []
  | (k, x) :: r, ws => ∃ k' v t, ws = (k', v) :: t ∧ k = keyP k' ∧ Rep K mg F x v ∧ RepD K mg F r t
theorem RepD.mono (h : Sub F F') : ∀ {xs : List (PV × PV)} {ws : List (L2.Key × V)}, RepD K mg F xs ws → RepD K mg F' xs ws
  | [], _, r => r
  | (_, _) :: _, _, ⟨k', v, t, e, a, b, c⟩ => ⟨k', v, t, e, a, b.mono h, RepD.mono h c⟩
theorem RepD.length : ∀ {xs : List (PV × PV)} {ws : List (L2.Key × V)}, RepD K mg F xs ws → xs.length = ws.length
  | [], _, r => by cases r; rfl
  | (_, _) :: _, _, ⟨k', v, t, e, a, b, c⟩ => by subst e; simp [RepD.length c]
def RepO (K : PySem.W.Frag) (mg : PySem.Str → Option Value) (F : Hp) : Ob → Addr → HO → Prop
  | .lst xs, a, o => F a = none ∧ ∃ vs, o = .lst vs ∧ RepL K mg F xs vs
  | .dic kvs, a, o => F a = none ∧ ∃ ws, o = .dK ws ∧ RepD K mg F kvs ws
  | .gone, _, _ => True
theorem RepO.mono (h : Sub F F') {x : Ob} {a : Addr} {o : HO} (n : x = .gone ∨ F' a = none) (r : RepO K mg F x a o) : RepO K mg F' x a o := by
  cases x with
  | lst xs => obtain ⟨_, vs, e, q⟩ := r; exact ⟨n.resolve_left (by simp), vs, e, q.mono h⟩
  | dic kvs => obtain ⟨_, ws, e, q⟩ := r; exact ⟨n.resolve_left (by simp), ws, e, q.mono h⟩
  | gone => trivial
structure Sim (K : PySem.W.Frag) (mg : PySem.Str → Option Value) (ι : Plc) (F : Hp) (S : Store) (H : Hp) : Prop where
  sub : Sub F H
  len : ι.l.length = S.length
  nd : ι.l.Nodup
  frm : ∀ a o, ι.w a = some o → H a = some o ∧ F a = none ∧ a ∉ ι.l
  at_ : ∀ (n : Nat) (x : Ob), S[n]? = some x → ∃ a o, ι.l[n]? = some a ∧ H a = some o ∧ RepO K mg F x a o
theorem Sim.has (s : Sim K mg ι F S H) {a : Addr} (h : a ∈ ι.l) : ∃ o, H a = some o := by
  obtain ⟨n, hn⟩ := List.getElem?_of_mem h
  have hl : n < S.length := by rw [← s.len]; exact (List.getElem?_eq_some_iff.mp hn).1
  obtain ⟨b, o, h1, h2, _⟩ := s.at_ n S[n] (List.getElem?_eq_getElem hl)
  rw [hn] at h1; cases h1
  exact ⟨o, h2⟩
theorem Sim.fresh (s : Sim K mg ι F S H) {p : Addr} (h : H p = none) : F p = none ∧ p ∉ ι.l := by
  refine ⟨?_, fun hp => ?_⟩
  · cases e : F p with
    | none => rfl
    | some o => rw [s.sub _ _ e] at h; cases h
  · obtain ⟨o, e⟩ := s.has hp
    rw [e] at h; cases h
theorem sub_upd {p : Addr} {o : HO} (h : F p = none) : Sub F (upd F p o) := fun a u e => by
  rw [upd_ne (ne_of_none e h)]; exact e
theorem Sim.newF (s : Sim K mg ι F S H) {p : Addr} {o : HO} (h : H p = none) : Sim K mg ι (upd F p o) S (upd H p o) ∧ Ext ι F ι (upd F p o) := by
  obtain ⟨hF, hp⟩ := s.fresh h
  refine ⟨⟨fun a u e => ?_, s.len, s.nd, fun a u e => ?_, fun n x e => ?_⟩, ⟨⟨⟨[], by simp⟩, rfl⟩, sub_upd hF⟩⟩
  · by_cases ha : a = p
    · subst ha; rw [upd_same] at e ⊢; exact e
    · rw [upd_ne ha] at e ⊢; exact s.sub _ _ e
  · obtain ⟨h1, h2, h3⟩ := s.frm a u e
    have ha : a ≠ p := ne_of_none h1 h
    exact ⟨by rw [upd_ne ha]; exact h1, by rw [upd_ne ha]; exact h2, h3⟩
  · obtain ⟨a, u, h1, h2, h3⟩ := s.at_ n x e
    have hap : a ≠ p := fun z => hp (z ▸ List.mem_of_getElem? h1)
    refine ⟨a, u, h1, by rw [upd_ne hap]; exact h2, h3.mono (sub_upd hF) ?_⟩
    cases x with
    | gone => exact .inl rfl
    | lst _ => right; rw [upd_ne hap]; exact h3.1
    | dic _ => right; rw [upd_ne hap]; exact h3.1
theorem Sim.newL (s : Sim K mg ι F S H) {p : Addr} {x : Ob} {o : HO} (h : H p = none) (r : RepO K mg F x p o) : Sim K mg ⟨ι.l ++ [p], ι.w⟩ F (S ++ [x]) (upd H p o) ∧ Ext ι F ⟨ι.l ++ [p], ι.w⟩ F := by
  obtain ⟨hF, hp⟩ := s.fresh h
  refine ⟨⟨fun a u e => ?_, by simp [s.len], ?_, fun a u e => ?_, fun n y e => ?_⟩, ⟨⟨⟨[p], rfl⟩, rfl⟩, Sub.refl⟩⟩
  · rw [upd_ne (fun z => by subst z; rw [hF] at e; cases e)]; exact s.sub _ _ e
  · show (ι.l ++ [p]).Nodup
    rw [List.nodup_append]
    exact ⟨s.nd, by simp, fun a ha b hb => by simp at hb; subst hb; exact fun z => hp (z ▸ ha)⟩
  · obtain ⟨h1, h2, h3⟩ := s.frm a u e
    have ha : a ≠ p := ne_of_none h1 h
    exact ⟨by rw [upd_ne ha]; exact h1, h2, by simp [h3, ha]⟩
  · by_cases hn : n < S.length
    · rw [List.getElem?_append_left hn] at e
      obtain ⟨a, u, h1, h2, h3⟩ := s.at_ n y e
      have hap : a ≠ p := fun z => hp (z ▸ List.mem_of_getElem? h1)
      exact ⟨a, u, by show (ι.l ++ [p])[n]? = _; rw [List.getElem?_append_left (by rw [s.len]; exact hn)]; exact h1, by rw [upd_ne hap]; exact h2, h3⟩
    · have hn2 : n = S.length := by
        have := (List.getElem?_eq_some_iff.mp e).1
        simp at this; omega
      subst hn2
      simp at e; subst e
      exact ⟨p, o, by show (ι.l ++ [p])[S.length]? = _; rw [← s.len]; simp, upd_same, r⟩
theorem Sim.write (s : Sim K mg ι F S H) {n : Nat} {a : Addr} {x : Ob} {o : HO} (hi : ι.l[n]? = some a) (hF : F a = none) (r : RepO K mg F x a o) : Sim K mg ι F (S.set n x) (upd H a o) := by
  refine ⟨fun b u e => ?_, by simp [s.len], s.nd, fun b u e => ?_, fun m y e => ?_⟩
  · rw [upd_ne (fun z => by subst z; rw [hF] at e; cases e)]; exact s.sub _ _ e
  · obtain ⟨h1, h2, h3⟩ := s.frm b u e
    exact ⟨by rw [upd_ne (fun z => by subst z; exact h3 (List.mem_of_getElem? hi))]; exact h1, h2, h3⟩
  · by_cases hm : m = n
    · subst hm
      have hl : m < S.length := by
        have := (List.getElem?_eq_some_iff.mp e).1
        simpa using this
      rw [List.getElem?_set_self hl] at e
      cases e
      exact ⟨a, o, hi, upd_same, r⟩
    · rw [List.getElem?_set_ne (Ne.symm hm)] at e
      obtain ⟨b, u, h1, h2, h3⟩ := s.at_ m y e
      have hba : b ≠ a := fun z => by
        subst z
        obtain ⟨l1, e1⟩ := List.getElem?_eq_some_iff.mp h1
        obtain ⟨l2, e2⟩ := List.getElem?_eq_some_iff.mp hi
        exact hm ((List.getElem_inj s.nd).mp (e1.trans e2.symm))
      exact ⟨b, u, h1, by rw [upd_ne hba]; exact h2, h3⟩
theorem Sim.shut (s : Sim K mg ι F S H) {n : Nat} {xs : List PV} (hn : S[n]? = some (.lst xs)) :
    ∃ a vs, ι.l[n]? = some a ∧ Sim K mg ι (upd F a (.lst vs)) (S.set n .gone) H ∧ Ext ι F ι (upd F a (.lst vs)) ∧ Rep K mg (upd F a (.lst vs)) (.lst xs) (.ref a) := by
  obtain ⟨a, o, h1, h2, h3, vs, e, h4⟩ := s.at_ n _ hn
  subst e
  have sb : Sub F (upd F a (.lst vs)) := sub_upd h3
  refine ⟨a, vs, h1, ⟨fun b u e => ?_, by simp [s.len], s.nd, fun b u e => ?_, fun m y e => ?_⟩, ⟨⟨⟨[], by simp⟩, rfl⟩, sb⟩, a, vs, rfl, .inl upd_same, h4.mono sb⟩
  · by_cases hb : b = a
    · subst hb; rw [upd_same] at e; cases e; exact h2
    · rw [upd_ne hb] at e; exact s.sub _ _ e
  · obtain ⟨k1, k2, k3⟩ := s.frm b u e
    exact ⟨k1, by rw [upd_ne (fun z => by subst z; exact k3 (List.mem_of_getElem? h1))]; exact k2, k3⟩
  · by_cases hm : m = n
    · subst hm
      have hl : m < S.length := (List.getElem?_eq_some_iff.mp hn).1
      rw [List.getElem?_set_self hl] at e
      cases e
      exact ⟨a, _, h1, h2, trivial⟩
    · rw [List.getElem?_set_ne (Ne.symm hm)] at e
      obtain ⟨b, u, g1, g2, g3⟩ := s.at_ m y e
      have hba : b ≠ a := fun z => by
        subst z
        obtain ⟨l1, e1⟩ := List.getElem?_eq_some_iff.mp g1
        obtain ⟨l2, e2⟩ := List.getElem?_eq_some_iff.mp h1
        exact hm ((List.getElem_inj s.nd).mp (e1.trans e2.symm))
      refine ⟨b, u, g1, g2, g3.mono sb ?_⟩
      cases y with
      | gone => exact .inl rfl
      | lst _ => right; rw [upd_ne hba]; exact g3.1
      | dic _ => right; rw [upd_ne hba]; exact g3.1
theorem Sim.take (s : Sim K mg ι F S H) (n : Nat) : Sim K mg ⟨ι.l.take n, ι.w⟩ F (S.take n) H := by
  refine ⟨s.sub, by simp [s.len], s.nd.sublist (List.take_sublist _ _), fun a u e => ?_, fun m x e => ?_⟩
  · obtain ⟨h1, h2, h3⟩ := s.frm a u e
    exact ⟨h1, h2, fun h => h3 (List.mem_of_mem_take h)⟩
  · have hm : m < n := by
      have := (List.getElem?_eq_some_iff.mp e).1
      simp at this; omega
    rw [List.getElem?_take_of_lt hm] at e
    show ∃ a o, (ι.l.take n)[m]? = some a ∧ _
    rw [List.getElem?_take_of_lt hm]
    exact s.at_ m x e
theorem Sim.apart (s : Sim K mg ι F S H) {p : Addr} {o : HO} (hH : H p = some o) (hF : F p = none) (hι : p ∉ ι.l) : Sim K mg ⟨ι.l, upd ι.w p o⟩ F S H :=
  ⟨s.sub, s.len, s.nd, fun a u e => by
    by_cases ha : a = p
    · subst ha
      have e : upd ι.w a o a = some u := e
      rw [upd_same] at e; cases e
      exact ⟨hH, hF, hι⟩
    · have e : upd ι.w p o a = some u := e
      rw [upd_ne ha] at e; exact s.frm a u e, s.at_⟩
theorem Sim.drop (s : Sim K mg ι F S H) {D : Addr} {o : HO} (hF : F D = none) (hι : D ∉ ι.l) (hw : ι.w D = none) : Sim K mg ι F S (upd H D o) := by
  refine ⟨fun a u e => ?_, s.len, s.nd, fun a u e => ?_, fun n x e => ?_⟩
  · rw [upd_ne (fun z => by subst z; rw [hF] at e; cases e)]; exact s.sub _ _ e
  · obtain ⟨h1, h2, h3⟩ := s.frm a u e
    exact ⟨by rw [upd_ne (fun z => by subst z; rw [hw] at e; cases e)]; exact h1, h2, h3⟩
  · obtain ⟨a, u, h1, h2, h3⟩ := s.at_ n x e
    exact ⟨a, u, h1, by rw [upd_ne (fun z => by subst z; exact hι (List.mem_of_getElem? h1))]; exact h2, h3⟩
theorem Sim.forget (s : Sim K mg ι F S H) {w : Hp} (h : Sub w ι.w) : Sim K mg ⟨ι.l, w⟩ F S H := ⟨s.sub, s.len, s.nd, fun a u e => s.frm a u (h a u e), s.at_⟩
theorem Sim.seq (s : Sim K mg ι F S H) {x : SV} {v : V} {t : Bool} {xs : List PV} (r : RepS K mg F ι x v) (h : seqOf S x = some (t, xs)) :
    ∃ p vs, v = .ref p ∧ RepL K mg F xs vs ∧ (if t = true then Rd H p (.lst vs) else SqT K H p vs) := by
  cases x with
  | v x =>
    cases x <;> simp only [seqOf, Option.some.injEq, Prod.mk.injEq, reduceCtorEq] at h
    · obtain ⟨rfl, rfl⟩ := h
      obtain ⟨p, vs, e, q, z⟩ := r
      exact ⟨p, vs, e, z, by simpa using s.sub.sqT q⟩
    · obtain ⟨rfl, rfl⟩ := h
      obtain ⟨p, vs, e, q, z⟩ := r
      exact ⟨p, vs, e, z, by simpa using s.sub.rd q⟩
  | l n =>
    obtain ⟨p, hp, rfl⟩ := r
    simp only [seqOf] at h
    split at h
    · rename_i ys e
      simp only [Option.some.injEq, Prod.mk.injEq] at h
      obtain ⟨rfl, rfl⟩ := h
      obtain ⟨a, o, h1, h2, h3, vs, e2, h4⟩ := s.at_ n _ e
      rw [hp] at h1; cases h1
      subst e2
      exact ⟨p, vs, rfl, h4, by simpa using Rd.of h2⟩
    · cases h
theorem Sim.dic (s : Sim K mg ι F S H) {x : SV} {v : V} {kvs : List (PV × PV)} (r : RepS K mg F ι x v) (h : dicOf S x = some kvs) :
    ∃ n p ws, x = .l n ∧ ι.l[n]? = some p ∧ S[n]? = some (.dic kvs) ∧ v = .ref p ∧ F p = none ∧ H p = some (.dK ws) ∧ RepD K mg F kvs ws := by
  cases x with
  | v x => simp [dicOf] at h
  | l n =>
    obtain ⟨p, hp, rfl⟩ := r
    simp only [dicOf] at h
    split at h
    · rename_i ys e
      cases h
      obtain ⟨a, o, h1, h2, h3, ws, e2, h4⟩ := s.at_ n _ e
      rw [hp] at h1; cases h1
      subst e2
      exact ⟨n, p, ws, rfl, hp, e, rfl, h3, h2, h4⟩
    · cases h
theorem RepD.of_zip : ∀ {ws : List (L2.Key × V)} {xs : List PV}, RepL K mg F xs (ws.map (·.2)) → RepD K mg F ((ws.map (fun w => keyP w.1)).zip xs) ws
  | [], [], _ => rfl
  | [], _ :: _, ⟨v, r, e, _, _⟩ => by cases e
  | w :: ws, [], r => by cases r
  | w :: ws, x :: xs, ⟨v, r, e, a, b⟩ => by
    obtain ⟨rfl, rfl⟩ := List.cons.inj e
    exact ⟨w.1, w.2, ws, rfl, rfl, a, RepD.of_zip b⟩
theorem Sim.dicR (s : Sim K mg ι F S H) {x : SV} {v : V} {kvs : List (PV × PV)} (r : RepS K mg F ι x v) (h : dicR S x = some kvs) :
    ∃ p ws, v = .ref p ∧ Rd H p (.dK ws) ∧ RepD K mg F kvs ws := by
  unfold FW.dicR at h
  split at h
  · cases h
    obtain ⟨p, od, ws, rfl, hp, rfl, _, q⟩ := r
    exact ⟨p, ws, rfl, .inr ⟨od, s.sub _ _ hp⟩, RepD.of_zip q⟩
  · obtain ⟨n, p, ws, rfl, _, _, rfl, _, hH, rd⟩ := s.dic r h
    exact ⟨p, ws, rfl, .inl hH, rd⟩
theorem Sim.shutD (s : Sim K mg ι F S H) {n : Nat} {kvs : List (PV × PV)} (hn : S[n]? = some (.dic kvs)) (hint : allInt (kvs.map Prod.fst) = true) :
    ∃ a ws, ι.l[n]? = some a ∧ H a = some (.dK ws) ∧ ∀ od, Sim K mg ι (upd F a (.frz od (.dK ws))) (S.set n .gone) (upd H a (.frz od (.dK ws))) ∧ Ext ι F ι (upd F a (.frz od (.dK ws))) ∧ Rep K mg (upd F a (.frz od (.dK ws))) (.dic (kvs.map Prod.fst) (kvs.map Prod.snd)) (.ref a) := by
  obtain ⟨a, o, h1, h2, h3, ws, e, h4⟩ := s.at_ n _ hn
  subst e
  refine ⟨a, ws, h1, h2, fun od => ?_⟩
  have sb : Sub F (upd F a (.frz od (.dK ws))) := sub_upd h3
  have hai : a ∈ ι.l := List.mem_of_getElem? h1
  refine ⟨⟨fun b u e => ?_, by simp [s.len], s.nd, fun b u e => ?_, fun m y e => ?_⟩, ⟨⟨⟨[], by simp⟩, rfl⟩, sb⟩, a, od, ws, rfl, upd_same, ?_, hint, ?_⟩
  · by_cases hb : b = a
    · subst hb; rw [upd_same] at e ⊢; exact e
    · rw [upd_ne hb] at e ⊢; exact s.sub _ _ e
  · obtain ⟨k1, k2, k3⟩ := s.frm b u e
    have hba : b ≠ a := fun z => by subst z; exact k3 hai
    exact ⟨by rw [upd_ne hba]; exact k1, by rw [upd_ne hba]; exact k2, k3⟩
  · by_cases hm : m = n
    · subst hm
      have hl : m < S.length := (List.getElem?_eq_some_iff.mp hn).1
      rw [List.getElem?_set_self hl] at e
      cases e
      exact ⟨a, _, h1, upd_same, trivial⟩
    · rw [List.getElem?_set_ne (Ne.symm hm)] at e
      obtain ⟨b, u, g1, g2, g3⟩ := s.at_ m y e
      have hba : b ≠ a := fun z => by
        subst z
        obtain ⟨l1, e1⟩ := List.getElem?_eq_some_iff.mp g1
        obtain ⟨l2, e2⟩ := List.getElem?_eq_some_iff.mp h1
        exact hm ((List.getElem_inj s.nd).mp (e1.trans e2.symm))
      refine ⟨b, u, g1, by rw [upd_ne hba]; exact g2, g3.mono sb ?_⟩
      cases y with
      | gone => exact .inl rfl
      | lst _ => right; rw [upd_ne hba]; exact g3.1
      | dic _ => right; rw [upd_ne hba]; exact g3.1
  · clear sb h2 h1 hn hint
    induction kvs generalizing ws with
    | nil => cases h4; rfl
    | cons p r ih =>
      obtain ⟨k, x⟩ := p
      obtain ⟨k', v, t, rfl, rfl, _, q⟩ := h4
      rw [List.map_cons, List.map_cons, ih _ q]
  · have h5 : RepL K mg F (kvs.map Prod.snd) (ws.map (·.2)) := by
      clear sb h2 h1 hn hint
      induction kvs generalizing ws with
      | nil => cases h4; rfl
      | cons p r ih =>
        obtain ⟨k, x⟩ := p
        obtain ⟨k', v, t, rfl, rfl, hx, q⟩ := h4
        exact ⟨v, _, rfl, hx, ih _ q⟩
    exact h5.mono sb
end

def RepR (K : PySem.W.Frag) (mg : PySem.Str → Option Value) (F : Hp) (ι : Plc) (ρ : Slots) (σ : L2.St) : Prop :=
  ρ.length = σ.length ∧ ∀ (i : Nat) (x : SV), ρ[i]? = some (some x) → ∃ v, σ[i]? = some (some v) ∧ RepS K mg F ι x v
section
variable {K : PySem.W.Frag} {mg : PySem.Str → Option Value} {F F' H H' : Hp} {ι ι' : Plc} {S S' : Store} {ρ ρ' : Slots} {σ σ' : L2.St}
theorem RepR.mono (a : Ext ι F ι' F') (r : RepR K mg F ι ρ σ) : RepR K mg F' ι' ρ σ := ⟨r.1, fun i x h => by
  obtain ⟨v, h1, h2⟩ := r.2 i x h
  exact ⟨v, h1, h2.mono a⟩⟩
theorem RepR.set {x : SV} {v : V} (r : RepR K mg F ι ρ σ) (q : RepS K mg F ι x v) (i : Nat) : RepR K mg F ι (ρ.set i (some x)) (σ.set i (some v)) := by
  refine ⟨by simp [r.1], fun j y h => ?_⟩
  by_cases hj : j = i
  · subst hj
    have hl : j < ρ.length := by
      have := (List.getElem?_eq_some_iff.mp h).1
      simpa using this
    rw [List.getElem?_set_self hl] at h
    cases h
    exact ⟨v, by rw [List.getElem?_set_self (by rw [← r.1]; exact hl)], q⟩
  · rw [List.getElem?_set_ne (Ne.symm hj)] at h
    obtain ⟨w, h1, h2⟩ := r.2 j y h
    exact ⟨w, by rw [List.getElem?_set_ne (Ne.symm hj)]; exact h1, h2⟩
theorem RepR.setL {x : SV} {v : V} (r : RepR K mg F ι ρ σ) (q : RepS K mg F ι x v) {i : Nat} (h : σ[i]? = some (some v)) : RepR K mg F ι (ρ.set i (some x)) σ := by
  refine ⟨by simp [r.1], fun j y h' => ?_⟩
  by_cases hj : j = i
  · subst hj
    have hl : j < ρ.length := by
      have := (List.getElem?_eq_some_iff.mp h').1
      simpa using this
    rw [List.getElem?_set_self hl] at h'
    cases h'
    exact ⟨v, h, q⟩
  · rw [List.getElem?_set_ne (Ne.symm hj)] at h'
    exact r.2 j y h'
theorem RepR.forget (r : RepR K mg F ι ρ σ) (i : Nat) : RepR K mg F ι (ρ.set i none) σ := by
  refine ⟨by simp [r.1], fun j y h => ?_⟩
  by_cases hj : j = i
  · subst hj
    have hl : j < ρ.length := by
      have := (List.getElem?_eq_some_iff.mp h).1
      simpa using this
    rw [List.getElem?_set_self hl] at h
    cases h
  · rw [List.getElem?_set_ne (Ne.symm hj)] at h
    exact r.2 j y h
theorem RepR.wipe (r : RepR K mg F ι ρ σ) : ∀ w : List Nat, RepR K mg F ι (wipeS ρ w) σ
  | [] => r
  | i :: is => (RepR.wipe r is).forget i
theorem RepR.wipe2 (r : RepR K mg F ι ρ σ) : ∀ w : List Nat, RepR K mg F ι (wipeS ρ w) (L2.wipe σ w)
  | [] => r
  | i :: is => by
    have q := RepR.wipe2 r is
    refine ⟨by simp [wipeS, L2.wipe, q.1], fun j y h => ?_⟩
    simp only [wipeS] at h
    by_cases hj : j = i
    · subst hj
      have hl : j < (wipeS ρ is).length := by
        have := (List.getElem?_eq_some_iff.mp h).1
        simpa using this
      rw [List.getElem?_set_self hl] at h
      cases h
    · rw [List.getElem?_set_ne (Ne.symm hj)] at h
      obtain ⟨v, h1, h2⟩ := q.2 j y h
      exact ⟨v, by simp only [L2.wipe]; rw [List.getElem?_set_ne (Ne.symm hj)]; exact h1, h2⟩
theorem RepR.get {i : Nat} {x : SV} (r : RepR K mg F ι ρ σ) (h : getS ρ i = some x) : ∃ v, σ[i]? = some (some v) ∧ RepS K mg F ι x v := by
  unfold getS at h
  split at h
  · cases h; rename_i y e; exact r.2 i _ e
  · cases h
end

section
variable (K : PySem.W.Frag) (mg : PySem.Str → Option Value)
def rdE (f : VS) : TE := fun σ H Q => ∃ ι F S ρ x S', Sim K mg ι F S H ∧ RepR K mg F ι ρ σ ∧ f ρ S = .ok x S' ∧
  ∀ ι' F' v H', Ext ι F ι' F' → Sim K mg ι' F' S' H' → RepS K mg F' ι' x v → Q v H'
def rdT (f : Slots → Store → Out Bool) : TT := fun σ H Q => ∃ ι F S ρ x S', Sim K mg ι F S H ∧ RepR K mg F ι ρ σ ∧ f ρ S = .ok x S' ∧
  ∀ ι' F' H', Ext ι F ι' F' → Sim K mg ι' F' S' H' → Q x H'
def rdA (f : LS) : TA := fun σ H Q => ∃ ι F S ρ xs S', Sim K mg ι F S H ∧ RepR K mg F ι ρ σ ∧ f ρ S = .ok xs S' ∧
  ∀ ι' F' vs H', Ext ι F ι' F' → Sim K mg ι' F' S' H' → RepSs K mg F' ι' xs vs → Q vs H'
def rd1 (f : SV → Store → Out SV) : V → Hp → VK → Prop := fun v H Q => ∃ ι F S x y S', Sim K mg ι F S H ∧ RepS K mg F ι x v ∧ f x S = .ok y S' ∧
  ∀ ι' F' w H', Ext ι F ι' F' → Sim K mg ι' F' S' H' → RepS K mg F' ι' y w → Q w H'
def rd2 (f : SV → SV → Store → Out SV) : V → V → Hp → VK → Prop := fun v w H Q => ∃ ι F S x y z S', Sim K mg ι F S H ∧ RepS K mg F ι x v ∧ RepS K mg F ι y w ∧ f x y S = .ok z S' ∧
  ∀ ι' F' u H', Ext ι F ι' F' → Sim K mg ι' F' S' H' → RepS K mg F' ι' z u → Q u H'
def rdV (f : List SV → Store → Out SV) : List V → Hp → VK → Prop := fun vs H Q => ∃ ι F S xs y S', Sim K mg ι F S H ∧ RepSs K mg F ι xs vs ∧ f xs S = .ok y S' ∧
  ∀ ι' F' w H', Ext ι F ι' F' → Sim K mg ι' F' S' H' → RepS K mg F' ι' y w → Q w H'
def rdEnd (D : Ends) (ι : Plc) (F : Hp) (r : Flow) (S' : Store) : Prop := ∀ ι' F' H', Ext ι F ι' F' → Sim K mg ι' F' S' H' → match r with
  | .next ρ => ∀ σ, RepR K mg F' ι' ρ σ → D.nx σ H'
  | .brk ρ => ∀ σ, RepR K mg F' ι' ρ σ → D.bk σ H'
  | .cnt ρ => ∀ σ, RepR K mg F' ι' ρ σ → D.ct σ H'
  | .ret x => ∀ v, RepS K mg F' ι' x v → D.rt v H'
def rdS (f : Slots → Store → Out Flow) : TS := fun D σ H => ∃ ι F S ρ r S', Sim K mg ι F S H ∧ RepR K mg F ι ρ σ ∧ f ρ S = .ok r S' ∧ rdEnd K mg D ι F r S'
end
section
variable {X : Cx} {e : Expr} {es : List Expr}
theorem pe_mono {t t' : TE} (h : PE X e t) (m : ∀ σ H Q, t' σ H Q → t σ H Q) : PE X e t' := ⟨fun pins s σ H Q I q => h.run pins s σ H Q I (m σ H Q q)⟩
theorem pt_mono {t t' : TT} (h : PT X e t) (m : ∀ σ H Q, t' σ H Q → t σ H Q) : PT X e t' := ⟨fun pins s σ H Q I q => h.run pins s σ H Q I (m σ H Q q)⟩
theorem pw_mono {t t' : TT} (h : PW X e t) (m : ∀ σ H Q, t' σ H Q → t σ H Q) : PW X e t' := ⟨fun wh pins s σ H Q I q => h.run wh pins s σ H Q I (m σ H Q q)⟩
theorem pa_mono {t t' : TA} (h : PA X es t) (m : ∀ σ H Q, t' σ H Q → t σ H Q) : PA X es t' := ⟨fun pos pins s σ H Q I q => h.run pos pins s σ H Q I (m σ H Q q)⟩
theorem ps_mono {st : Stmt} {t t' : TS} (h : PS X st t) (m : ∀ D σ H, t' D σ H → t D σ H) : PS X st t' := ⟨fun pins s σ H D I q => h.run pins s σ H D I (m D σ H q)⟩
theorem pss_mono {st : List Stmt} {t t' : TS} (h : PSs X st t) (m : ∀ D σ H, t' D σ H → t D σ H) : PSs X st t' := ⟨fun pins s σ H D I q => h.run pins s σ H D I (m D σ H q)⟩
theorem bind_ok {α β : Type} {a : Out α} {f : α → Store → Out β} {y : β} {S' : Store} (h : a.bind f = .ok y S') : ∃ x S1, a = .ok x S1 ∧ f x S1 = .ok y S' := by
  cases a with
  | ok x S1 => exact ⟨x, S1, rfl, h⟩
  | exc c as S => simp [Out.bind] at h
  | bad => simp [Out.bind] at h
end
end FW

namespace FW
open PySem PySem.Spec PyProof.Rows L2
section
variable (l : Addr) (its : Array Value) (ep : Nat) (dc : Option Addr) (sl : Array (Option Value)) (k : Int) (tk : Tok)
theorem tmul_same (big : (decide (k < -(2 ^ 63)) || decide (k ≥ 2 ^ 63)) = false) (one : (its.isEmpty || k == 1) = true) : Meets (Builtin.«tuple.__mul__» ⟨[.ref l, .int k tk], []⟩) (fun _ R s => s.heap.get? l = some { cls := .type "tuple", dict := dc, data := .seq its ep, slots := sl } ∧ R (.ok (.ret (Value.ref l))) s) :=
  .of_wp fun prog w A R s h => by
    obtain ⟨hp, gs, dr, tks, os⟩ := s
    obtain ⟨at_, goal⟩ := h
    have ix := AutoSeq1.idx_int
    wp_walk using wpAny_loadPart' at_
    refine wpAny_ite_false (decide_eq_false (by rw [big]; exact Bool.false_ne_true)) ?_
    wp_walk using wpAny_loadPart' at_
    exact ⟨_, rfl, goal⟩
theorem tmul_none (big : (decide (k < -(2 ^ 63)) || decide (k ≥ 2 ^ 63)) = false) (one : (its.isEmpty || k == 1) = false) (low : (decide (k ≤ 0) || its.isEmpty) = true) : Meets (Builtin.«tuple.__mul__» ⟨[.ref l, .int k tk], []⟩) (fun _ R s => s.heap.get? l = some { cls := .type "tuple", dict := dc, data := .seq its ep, slots := sl } ∧
    R (.ok (.ret (Value.ref s.heap.objs.size))) { s with heap := s.heap.push { cls := Value.type "tuple", data := Data.seq #[] }, toks := s.toks }) :=
  .of_wp fun prog w A R s h => by
    obtain ⟨hp, gs, dr, tks, os⟩ := s
    obtain ⟨at_, goal⟩ := h
    have ix := AutoSeq1.idx_int
    wp_walk using wpAny_loadPart' at_
    refine wpAny_ite_false (decide_eq_false (by rw [big]; exact Bool.false_ne_true)) ?_
    wp_walk using wpAny_loadPart' at_
    exact ⟨_, rfl, goal⟩
end
section
variable {X : Cx}
def rMulT (K : PySem.W.Frag) : R2 := fun x y H Q => ∃ l k xs, x = .ref l ∧ y = .int k ∧ SqT K H l xs ∧ -1000 ≤ k ∧ k ≤ 1000 ∧ (((xs = [] ∨ k = 1) ∧ Q (.ref l) H) ∨ (xs ≠ [] ∧ k ≤ 0 ∧ ∀ p, H p = none → Q (.ref p) (upd H p (.tup []))))
theorem op_mulT : OpR X (binaryOp .Mult) (rMulT X.K) := by
  intro pins s σ H x y v u Q I rx ry h
  obtain ⟨l, k, xs, rfl, rfl, hq, lo, hi, h⟩ := h
  cases rx
  obtain ⟨tk, rfl⟩ := ry
  obtain ⟨its, rv, ⟨⟨cl, dc, dt, sl⟩, ho, hcl, ep, hdt⟩, hz⟩ := I.tuple hq
  simp only at hcl hdt
  subst hcl hdt
  have len : its.length = xs.length := rv.length.symm
  have big : (decide (k < -(2 ^ 63)) || decide (k ≥ 2 ^ 63)) = false := by rw [decide_eq_false (by omega), decide_eq_false (by omega)]; rfl
  have e0 : its.toArray.isEmpty = xs.isEmpty := by cases its <;> cases xs <;> simp_all
  rcases h with ⟨h1, q⟩ | ⟨h1, h2, q⟩
  · have one : (its.toArray.isEmpty || k == 1) = true := by
      rw [e0]
      rcases h1 with rfl | rfl
      · rfl
      · simp
    refine wpAny_binaryOp_repeat_ref (T := "tuple") (U := "int") (by decide) ⟨_, ho, rfl⟩ (fun s' => typeIs_int s' k tk) noFill_tuple_mul F.fills_int_mul F.slot_int_rmul repeat_tuple F.slot_int_index.lookup (call_meets F.slot_int_rmul (typeIs_int s k tk) F.entry_int_rmul (F.args_int_rmul_2 _ _) (int_rmul_tuple k tk l its.toArray ep dc sl) ⟨ho, rfl, ⟨_, ho, rfl⟩, ?_⟩)
    exact call_meets F.slot_tuple_mul ⟨_, ho, rfl⟩ F.entry_tuple_mul (F.args_tuple_mul_2 _ _) (tmul_same l its.toArray ep dc sl k tk big one) ⟨ho, ⟨.ref l, H, I, rfl, q⟩⟩
  · have ne : its.toArray.isEmpty = false := by rw [e0]; cases xs <;> simp_all
    have one : (its.toArray.isEmpty || k == 1) = false := by rw [ne, Bool.false_or]; exact beq_eq_false_iff_ne.mpr (by omega)
    have low : (decide (k ≤ 0) || its.toArray.isEmpty) = true := by rw [decide_eq_true h2]; rfl
    refine wpAny_binaryOp_repeat_ref (T := "tuple") (U := "int") (by decide) ⟨_, ho, rfl⟩ (fun s' => typeIs_int s' k tk) noFill_tuple_mul F.fills_int_mul F.slot_int_rmul repeat_tuple F.slot_int_index.lookup (call_meets F.slot_int_rmul (typeIs_int s k tk) F.entry_int_rmul (F.args_int_rmul_2 _ _) (int_rmul_tuple k tk l its.toArray ep dc sl) ⟨ho, rfl, ⟨_, ho, rfl⟩, ?_⟩)
    refine call_meets F.slot_tuple_mul ⟨_, ho, rfl⟩ F.entry_tuple_mul (F.args_tuple_mul_2 _ _) (tmul_none l its.toArray ep dc sl k tk big one low) ⟨ho, ?_⟩
    refine ⟨.ref s.heap.objs.size, _, I.laid (t' := s.toks) (o := .tup []) (fun b ob e => Heap.get?_push_of_some _ e) (Nat.le_refl _) ⟨Nat.zero_le _, [], .nil, IsTup.new _ _⟩, rfl, q _ (I.hok.fresh (Nat.le_refl _))⟩
end
end FW

namespace FW
open PySem PySem.Spec PyProof.Rows L2

theorem and_or_sum : ∀ a b : Nat, (a &&& b) + (a ||| b) = a + b := by
  intro a
  induction a using Nat.strongRecOn with
  | _ a ih =>
    intro b
    by_cases h : a = 0
    · subst h; simp
    · have i := ih (a / 2) (by omega) (b / 2)
      have e1 : (a &&& b) / 2 = a / 2 &&& b / 2 := Nat.and_div_two
      have e2 : (a ||| b) / 2 = a / 2 ||| b / 2 := Nat.or_div_two
      rw [← e1, ← e2] at i
      have e3 : (a &&& b) % 2 = (a % 2) &&& (b % 2) := Nat.and_mod_two_pow (n := 1)
      have e4 : (a ||| b) % 2 = (a % 2) ||| (b % 2) := Nat.or_mod_two_pow (n := 1)
      rcases Nat.mod_two_eq_zero_or_one a with ha | ha <;> rcases Nat.mod_two_eq_zero_or_one b with hb | hb <;> simp only [ha, hb] at e3 e4 <;> simp only [Nat.and_zero, Nat.zero_and, Nat.and_self, Nat.or_zero, Nat.zero_or, Nat.or_self, Nat.xor_zero, Nat.zero_xor, Nat.xor_self] at e3 e4 <;> (clear e1 e2 ih; omega)
theorem and_xor_sum : ∀ a b : Nat, 2 * (a &&& b) + (a ^^^ b) = a + b := by
  intro a
  induction a using Nat.strongRecOn with
  | _ a ih =>
    intro b
    by_cases h : a = 0
    · subst h; simp
    · have i := ih (a / 2) (by omega) (b / 2)
      have e1 : (a &&& b) / 2 = a / 2 &&& b / 2 := Nat.and_div_two
      have e2 : (a ^^^ b) / 2 = a / 2 ^^^ b / 2 := Nat.xor_div_two
      rw [← e1, ← e2] at i
      have e3 : (a &&& b) % 2 = (a % 2) &&& (b % 2) := Nat.and_mod_two_pow (n := 1)
      have e4 : (a ^^^ b) % 2 = (a % 2) ^^^ (b % 2) := Nat.xor_mod_two_pow (n := 1)
      rcases Nat.mod_two_eq_zero_or_one a with ha | ha <;> rcases Nat.mod_two_eq_zero_or_one b with hb | hb <;> simp only [ha, hb] at e3 e4 <;> simp only [Nat.and_zero, Nat.zero_and, Nat.and_self, Nat.or_zero, Nat.zero_or, Nat.or_self, Nat.xor_zero, Nat.zero_xor, Nat.xor_self] at e3 e4 <;> (clear e1 e2 ih; omega)
theorem line_eq : line = sizeLine := by rw [sizeLine_eq]; rfl
def opOf : BOp → Operator
  | .add => .Add | .sub => .Sub | .mul => .Mult | .fdiv => .FloorDiv | .mod => .Mod | .shl => .LShift | .shr => .RShift | .band => .BitAnd | .bor => .BitOr | .bxor => .BitXor | .pow => .Pow
def opC : COp → CmpOp
  | .eq => .Eq | .ne => .NotEq | .lt => .Lt | .le => .LtE | .gt => .Gt | .ge => .GtE | .is => .Is | .isnot => .IsNot | .isin => .In | .notin => .NotIn

section
variable {K : PySem.W.Frag} {mg : PySem.Str → Option Value} {F H : Hp} {ι : Plc} {S S' : Store}
theorem fin_mkL {m : Bool} {xs : List PV} {vs : List V} {z : SV} {Q : VK} (s : Sim K mg ι F S H) (r : RepL K mg F xs vs) (h : mkL m xs S = .ok z S')
    (q : ∀ ι' F' u H', Ext ι F ι' F' → Sim K mg ι' F' S' H' → RepS K mg F' ι' z u → Q u H') : vs.length ≤ sizeLine ∧ ∀ p, H p = none → Q (.ref p) (upd H p (.lst vs)) := by
  unfold mkL at h
  split at h
  · rename_i hl
    refine ⟨by rw [← r.length, ← line_eq]; exact hl, fun p hp => ?_⟩
    split at h
    · cases h
      obtain ⟨s', e⟩ := s.newL (x := .lst xs) (o := .lst vs) hp ⟨(s.fresh hp).1, vs, rfl, r⟩
      exact q _ _ _ _ e s' ⟨p, by rw [← s.len]; simp, rfl⟩
    · cases h
      obtain ⟨s', e⟩ := s.newF (o := .lst vs) hp
      exact q _ _ _ _ e s' ⟨p, vs, rfl, .inl upd_same, r.mono e.2⟩
  · cases h
theorem fin_mkT {xs : List PV} {vs : List V} {z : SV} {Q : VK} (s : Sim K mg ι F S H) (r : RepL K mg F xs vs) (h : mkT xs S = .ok z S')
    (q : ∀ ι' F' u H', Ext ι F ι' F' → Sim K mg ι' F' S' H' → RepS K mg F' ι' z u → Q u H') :
    vs.length ≤ sizeLine ∧ (∀ p, H p = none → Q (.ref p) (upd H p (.tup vs))) ∧ ∀ p, SqT K F p vs → Q (.ref p) H := by
  unfold mkT at h
  split at h
  · rename_i hl
    cases h
    refine ⟨by rw [← r.length, ← line_eq]; exact hl, fun p hp => ?_, fun p hp => ?_⟩
    · obtain ⟨s', e⟩ := s.newF (o := .tup vs) hp
      exact q _ _ _ _ e s' ⟨p, vs, rfl, .inl (.inl upd_same), r.mono e.2⟩
    · exact q _ _ _ _ Ext.refl s ⟨p, vs, rfl, hp, r⟩
  · cases h
theorem Sim.seqT (s : Sim K mg ι F S H) {x : SV} {v : V} {xs : List PV} (r : RepS K mg F ι x v) (h : seqOf S x = some (false, xs)) :
    ∃ p vs, v = .ref p ∧ RepL K mg F xs vs ∧ SqT K F p vs := by
  cases x with
  | v x =>
    cases x <;> simp only [seqOf, Option.some.injEq, Prod.mk.injEq, reduceCtorEq] at h
    · obtain ⟨_, rfl⟩ := h
      obtain ⟨p, vs, e, q, z⟩ := r
      exact ⟨p, vs, e, z, q⟩
    · cases h.1
  | l n =>
    simp only [seqOf] at h
    split at h <;> simp at h
theorem Sim.seqL (s : Sim K mg ι F S H) {x : SV} {v : V} {xs : List PV} (r : RepS K mg F ι x v) (h : seqOf S x = some (true, xs)) :
    ∃ p vs, v = .ref p ∧ RepL K mg F xs vs ∧ Rd H p (.lst vs) := by
  obtain ⟨p, vs, e, r', q⟩ := s.seq r h
  exact ⟨p, vs, e, r', by simpa using q⟩
end
section
variable {X : Cx}
theorem Inv.rdL {pins : List (Addr × Obj)} {σ : L2.St} {H : Hp} {s : Shared} {l : Addr} {xs : List V} (I : Inv X pins σ H s) (hH : Rd H l (.lst xs)) : xs.length ≤ sizeLine ∧ ∃ (its : List Value) (n : Nat), Vals xs its ∧ xs.length = its.length ∧ s.heap.get? l = some { cls := .type "list", data := .seq its.toArray n } := by
  obtain ⟨z, its, n, r, e⟩ := hH.ok I.hok
  exact ⟨z, its, n, r, r.length, e⟩
def rCatR : R2 := fun x y H Q => ∃ l b xs zs, x = .ref l ∧ y = .ref b ∧ Rd H l (.lst xs) ∧ Rd H b (.lst zs) ∧ xs.length + zs.length ≤ sizeLine ∧ ∀ p, H p = none → Q (.ref p) (upd H p (.lst (xs ++ zs)))
theorem op_catR : OpR X (binaryOp .Add) rCatR := by
  intro pins s σ H x y v u Q I rx ry h
  obtain ⟨l, b, xs, zs, rfl, rfl, hH, hB, hz, q⟩ := h
  cases rx
  cases ry
  obtain ⟨z, its, n, r, hl, e⟩ := Inv.rdL I hH
  obtain ⟨z2, its2, n2, r2, hl2, e2⟩ := Inv.rdL I hB
  refine PySem.P.add_list e e2 ?_ (by rw [List.size_toArray, List.size_toArray]; omega)
  have ea : its.toArray ++ its2.toArray = (its ++ its2).toArray := by simp
  rw [ea]
  exact ⟨.ref _, _, I.lnew (t' := s.toks) (r.append r2) (by rw [List.length_append]; omega), rfl, q _ I.fresh⟩
def rRepR : R2 := fun x y H Q => ∃ l k xs, x = .ref l ∧ y = .int k ∧ Rd H l (.lst xs) ∧ -(2 ^ 63) ≤ k ∧ k < 2 ^ 63 ∧ xs.length * k.toNat ≤ sizeLine ∧
  ∀ p, H p = none → Q (.ref p) (upd H p (.lst (List.replicate k.toNat xs).flatten))
theorem op_repR : OpR X (binaryOp .Mult) rRepR := by
  intro pins s σ H x y v u Q I rx ry h
  obtain ⟨l, k, xs, rfl, rfl, hH, h1, h2, hz, q⟩ := h
  cases rx
  obtain ⟨t, rfl⟩ := ry
  obtain ⟨z, its, n, r, hl, e⟩ := Inv.rdL I hH
  have hlen : its.toArray.size * k.toNat ≤ sizeLine := by rw [List.size_toArray, ← hl]; exact hz
  have hcap : ¬ its.toArray.size * k.toNat > (2 ^ 63 - 1) / 8 := by
    have : (sizeLine : Nat) ≤ (2 ^ 63 - 1) / 8 := by decide
    omega
  have hfit : ¬ (!Builtin.List.listFitsIndex k) = true := by
    rw [fitsIndex_both h1 h2]
    exact Bool.false_ne_true
  have hlong : ¬ Builtin.List.listTooLong (its.toArray.size * k.toNat) = true := by
    rw [notLongL hlen]
    exact Bool.false_ne_true
  have hnew : List.foldl (fun x1 x2 => x1 ++ x2) #[] (List.replicate (if its.toArray.isEmpty = true then 0 else k.toNat) its.toArray) = (List.replicate k.toNat its).flatten.toArray := by
    have f0 : ∀ m : Nat, List.foldl (fun x1 x2 => x1 ++ x2) #[] (List.replicate m its.toArray) = (List.replicate m its).flatten.toArray := fun m => by
      have := foldl_rep its m []
      rw [List.nil_append] at this
      exact this
    rw [f0]
    cases its with
    | nil => simp
    | cons a r' => rw [if_neg (by simp)]
  refine wpAny_binaryOp_repeat_ref (T := "list") (U := "int") (by decide) ⟨_, e, rfl⟩ (fun s' => typeIs_int s' k t) noFill_list_mul F.fills_int_mul F.slot_int_rmul repeat_list F.slot_int_index.lookup
    (call_meets F.slot_int_rmul (typeIs_int s k t) F.entry_int_rmul (F.args_int_rmul_2 _ _) (int___rmul___int_list k t l its.toArray n)
      ⟨e, rfl, ⟨_, e, rfl⟩, call_meets F.slot_list_mul ⟨_, e, rfl⟩ F.entry_list_mul (F.args_list_mul_2 _ _) (AutoListH.list___mul___list_int_3 l its.toArray n k t hfit hcap hlong) ⟨e, ?_⟩⟩)
  rw [hnew]
  exact ⟨.ref _, _, I.lnew (t' := s.toks) (r.rep k.toNat) (by rw [PyProof.Rows.lm_len_rep_flat, Nat.mul_comm]; exact hz), rfl, q _ I.fresh⟩

theorem CMulF.ok {i j : Int} (h : mulOk i j = true) : IntMulOk i j := by
  have b : ∀ x : Int, Builtin.Int.intBits x ≤ x.natAbs.log2 + 1 := fun x => by
    unfold Builtin.Int.intBits
    split <;> omega
  have h1 := b i
  have h2 := b j
  have h3 : i.natAbs.log2 + j.natAbs.log2 < 100000000 := of_decide_eq_true h
  have e : bitsLine = 134217728 := by decide
  unfold IntMulOk
  intro z
  rw [Bool.and_eq_true] at z
  have z2 := z.2
  unfold Builtin.Int.intTooBig at z2
  have z3 := of_decide_eq_true z2
  rw [e] at z3
  omega
theorem noPylongF {i j : Int} (h : divOk i j = true) : j ≠ 0 ∧ Builtin.divisionGoesByPylong i j = false := by
  unfold divOk at h
  simp only [Bool.and_eq_true, Bool.or_eq_true, decide_eq_true_eq] at h
  refine ⟨h.1, ?_⟩
  rcases h.2 with h | h
  · exact PyProof.noPylong_of_log2 h
  · unfold Builtin.divisionGoesByPylong
    have hi : (if (i == 0) = true then 0 else i.natAbs.log2 / 30 + 1) ≤ 434 := by
      split
      · omega
      · omega
    simp only [Bool.and_eq_false_iff, decide_eq_false_iff_not]
    by_cases hj : (if (j == 0) = true then 0 else j.natAbs.log2 / 30 + 1) > 300
    · right; omega
    · left; exact hj
theorem op_int (o : BOp) : OpR X (binaryOp (opOf o)) (fun x y H Q => ∃ i j k, x = .int i ∧ y = .int j ∧ intOp o i j = some k ∧ Q (.int k) H) := by
  intro pins s σ H x y v u Q I rx ry h
  obtain ⟨i, j, k, rfl, rfl, hk, q⟩ := h
  cases o <;> simp only [intOp] at hk
  · cases hk; exact op_add pins s σ H _ _ v u Q I rx ry ⟨i, j, rfl, rfl, q⟩
  · cases hk; exact op_sub pins s σ H _ _ v u Q I rx ry ⟨i, j, rfl, rfl, q⟩
  · split at hk
    · rename_i hc
      cases hk
      obtain ⟨t, rfl⟩ := rx
      obtain ⟨t', rfl⟩ := ry
      exact mul_int ⟨.int _, H, I.tok _, ⟨_, rfl⟩, q⟩ (CMulF.ok hc)
    · cases hk
  · split at hk
    · rename_i hc
      cases hk
      obtain ⟨t, rfl⟩ := rx
      obtain ⟨t', rfl⟩ := ry
      obtain ⟨h0, h1⟩ := noPylongF hc
      exact floordiv_int h0 ⟨.int _, H, I.tok _, ⟨_, rfl⟩, q⟩ (.inl h1)
    · cases hk
  · split at hk
    · cases hk
    · rename_i hc
      cases hk
      exact op_modN pins s σ H _ _ v u Q I rx ry ⟨i, j, rfl, rfl, hc, q⟩
  · split at hk
    · rename_i hc
      cases hk
      exact op_shl pins s σ H _ _ v u Q I rx ry ⟨i, j, rfl, rfl, hc, q⟩
    · cases hk
  · split at hk
    · rename_i hc
      cases hk
      exact op_shr pins s σ H _ _ v u Q I rx ry ⟨i, j, rfl, rfl, hc, q⟩
    · cases hk
  · split at hk
    · rename_i hc
      cases hk
      exact op_and pins s σ H _ _ v u Q I rx ry ⟨i, j, rfl, rfl, by show Q (V.int (Builtin.bitAnd i j)) H; rw [bitAnd_pp hc.1 hc.2]; exact q⟩
    · cases hk
  · split at hk
    · rename_i hc
      cases hk
      refine op_or pins s σ H _ _ v u Q I rx ry ⟨i, j, rfl, rfl, ?_⟩
      obtain ⟨a, rfl⟩ := Int.eq_ofNat_of_zero_le hc.1
      obtain ⟨b, rfl⟩ := Int.eq_ofNat_of_zero_le hc.2
      have e : Builtin.bitOr (a : Int) (b : Int) = ((a ||| b : Nat) : Int) := by
        rw [bitOr_and, bitAnd_pp (Int.natCast_nonneg a) (Int.natCast_nonneg b), Int.toNat_natCast, Int.toNat_natCast]
        have := and_or_sum a b
        omega
      show Q (V.int (Builtin.bitOr (a : Int) (b : Int))) H
      rw [e]; exact q
    · cases hk
  · split at hk
    · rename_i hc
      cases hk
      refine op_xor pins s σ H _ _ v u Q I rx ry ⟨i, j, rfl, rfl, ?_⟩
      obtain ⟨a, rfl⟩ := Int.eq_ofNat_of_zero_le hc.1
      obtain ⟨b, rfl⟩ := Int.eq_ofNat_of_zero_le hc.2
      have e : Builtin.bitXor (a : Int) (b : Int) = ((a ^^^ b : Nat) : Int) := by
        rw [bitXor_and, bitAnd_pp (Int.natCast_nonneg a) (Int.natCast_nonneg b), Int.toNat_natCast, Int.toNat_natCast]
        have := and_xor_sum a b
        omega
      show Q (V.int (Builtin.bitXor (a : Int) (b : Int))) H
      rw [e]; exact q
    · cases hk
  · split at hk
    · rename_i hc
      cases hk
      exact op_pow pins s σ H _ _ v u Q I rx ry ⟨i, j, rfl, rfl, hc, q⟩
    · cases hk

theorem RepL.rep {K : PySem.W.Frag} {mg : PySem.Str → Option Value} {F : Hp} {xs : List PV} {vs : List V} (r : RepL K mg F xs vs) : ∀ n : Nat, RepL K mg F (FW.rep n xs) (List.replicate n vs).flatten
  | 0 => by simp [FW.rep, RepL]
  | n + 1 => by
    have := RepL.rep r n
    simp only [FW.rep, List.replicate_succ, List.flatten_cons] at this ⊢
    exact r.app this
theorem op_sub_bb : OpR X (binaryOp .Sub) (fun x y H Q => ∃ i k, x = .bl i ∧ y = .bl k ∧ Q (.int (b2i i - b2i k)) H) := by
  intro pins s σ H x y v u Q I rx ry h
  obtain ⟨i, k, rfl, rfl, q⟩ := h
  cases rx
  cases ry
  exact sub_bool ⟨.int (b2i i - b2i k), H, I.tok _, ⟨_, rfl⟩, q⟩
theorem op_bin (o : BOp) (m : Bool) : OpR X (binaryOp (opOf o)) (rd2 X.K X.mg (binOp o m)) := by
  intro pins s σ H x y v u Q I rx ry h
  obtain ⟨ι, F, S, sx, sy, z, S', sim, r1, r2, h, q⟩ := h
  unfold binOp at h
  split at h
  · split at h
    · rename_i i j _ k hk
      cases h
      cases r1; cases r2
      exact op_int o pins s σ H _ _ v u Q I rx ry ⟨i, j, k, rfl, rfl, hk, q _ _ _ _ Ext.refl sim rfl⟩
    · cases h
  · split at h
    · split at h
      · rename_i a b _ hl
        cases h
        obtain ⟨rfl, _⟩ := r1
        obtain ⟨rfl, _⟩ := r2
        exact op_add_str pins s σ H _ _ v u Q I rx ry ⟨a, b, rfl, rfl, by rw [← line_eq]; exact hl.1, q _ _ _ _ Ext.refl sim ⟨rfl, hl.2⟩⟩
      · cases h
    · cases h
  · split at h
    · rename_i i b _
      cases h
      cases r1; cases r2
      exact op_add_ib pins s σ H _ _ v u Q I rx ry ⟨i, b, rfl, rfl, by unfold b2i; exact q _ _ _ _ Ext.refl sim rfl⟩
    · cases h
  · split at h
    · rename_i a b _
      cases h
      cases r1; cases r2
      exact op_sub_bb pins s σ H _ _ v u Q I rx ry ⟨a, b, rfl, rfl, by unfold b2i; exact q _ _ _ _ Ext.refl sim rfl⟩
    · cases h
  · cases r2
    split at h
    · rename_i _ j _ _ _ xs hs
      obtain ⟨p, vs, rfl, r, hp⟩ := sim.seqL r1 hs
      split at h
      · rename_i hc
        obtain ⟨hl, g⟩ := fin_mkL sim (r.rep j.toNat) h q
        exact op_repR pins s σ H _ _ v u Q I rx ry ⟨p, j, vs, rfl, rfl, hp, by omega, by omega, by rw [← r.length, ← line_eq]; exact hc.1, g⟩
      · cases h
    · rename_i _ j _ _ _ xs hs
      obtain ⟨p, vs, rfl, r, hp⟩ := sim.seqT r1 hs
      split at h
      · rename_i hc
        obtain ⟨hl, g, g2⟩ := fin_mkT sim (r.rep j.toNat) h q
        by_cases hne : vs = [] ∨ j = 1
        · refine op_mulT pins s σ H _ _ v u Q I rx ry ⟨p, j, vs, rfl, rfl, sim.sub.sqT hp, hc.1, hc.2.1, .inl ⟨hne, g2 p ?_⟩⟩
          have e : (List.replicate j.toNat vs).flatten = vs := by
            rcases hne with rfl | rfl
            · simp
            · simp
          rw [e]
          exact hp
        · by_cases h0 : j ≤ 0
          · refine op_mulT pins s σ H _ _ v u Q I rx ry ⟨p, j, vs, rfl, rfl, sim.sub.sqT hp, hc.1, hc.2.1, .inr ⟨fun e => hne (.inl e), h0, fun p' hp' => ?_⟩⟩
            have := g p' hp'
            rw [show j.toNat = 0 by omega] at this
            exact this
          · exact op_repT pins s σ H _ _ v u Q I rx ry ⟨p, j, vs, rfl, rfl, sim.sub.sqT hp, fun e => hne (.inl e), by omega, hc.2.1, by rw [← r.length]; exact hc.2.2, g⟩
      · cases h
    · cases h
  · split at h
    · rename_i xs ys hs ht
      obtain ⟨p, vs, rfl, r, hp⟩ := sim.seqL r1 hs
      obtain ⟨p2, ws, rfl, r', hp2⟩ := sim.seqL r2 ht
      obtain ⟨hl, g⟩ := fin_mkL sim (r.app r') h q
      exact op_catR pins s σ H _ _ v u Q I rx ry ⟨p, p2, vs, ws, rfl, rfl, hp, hp2, by rw [List.length_append] at hl; exact hl, g⟩
    · rename_i xs ys hs ht
      obtain ⟨p, vs, rfl, r, hp⟩ := sim.seqT r1 hs
      obtain ⟨p2, ws, rfl, r', hp2⟩ := sim.seqT r2 ht
      obtain ⟨hl, g, g2⟩ := fin_mkT sim (r.app r') h q
      refine op_catA pins s σ H _ _ v u Q I rx ry ⟨p, p2, vs, ws, rfl, rfl, sim.sub.sqT hp, sim.sub.sqT hp2, by rw [List.length_append] at hl; exact hl, fun e => ?_, fun _ e => ?_, fun _ _ => g⟩
      · subst e; exact g2 p2 hp2
      · subst e; rw [List.append_nil] at g2; exact g2 p hp
    · cases h

mutual
def pd : PV → PyData
  | .non => .none
  | .bl b => .bool b
  | .int i => .int i
  | .str s => .str s
  | .tup xs => .tuple (pds xs)
  | .lst xs => .list (pds xs)
  | .fn _ => .none
  | .dic _ _ => .none
def pds : List PV → List PyData
  | [] => []
  | x :: xs => pd x :: pds xs
end
mutual
theorem pd_lay {K : PySem.W.Frag} {mg : PySem.Str → Option Value} {F : Hp} : ∀ {x : PV} {v : V}, Rep K mg F x v → (pd x).canLay0 = true
  | .non, _, _ => by simp [pd, PyData.canLay0]
  | .bl _, _, _ => by simp [pd, PyData.canLay0]
  | .int _, _, _ => by simp [pd, PyData.canLay0]
  | .str s, _, h => by simp only [pd, PyData.canLay0]; exact h.2
  | .tup xs, _, ⟨_, _, _, _, r⟩ => by simp only [pd, PyData.canLay0]; exact pds_lay r
  | .lst xs, _, ⟨_, _, _, _, r⟩ => by simp only [pd, PyData.canLay0]; exact pds_lay r
  | .fn _, _, _ => by simp [pd, PyData.canLay0]
  | .dic _ _, _, _ => by simp [pd, PyData.canLay0]
theorem pds_lay {K : PySem.W.Frag} {mg : PySem.Str → Option Value} {F : Hp} : ∀ {xs : List PV} {vs : List V}, RepL K mg F xs vs → PyData.canLayAll0 (pds xs) = true
  | [], _, _ => by simp [pds, PyData.canLayAll0]
  | _ :: _, _, ⟨_, _, _, a, b⟩ => by simp [pds, PyData.canLayAll0, pd_lay a, pds_lay b]
end
mutual
theorem pd_depth : ∀ {n : Nat} {x : PV}, dpLe n x = true → (pd x).depth ≤ n
  | _, .non, _ => by simp [pd, PyData.depth]
  | _, .bl _, _ => by simp [pd, PyData.depth]
  | _, .int _, _ => by simp [pd, PyData.depth]
  | _, .str s, _ => by simp [pd, PyData.depth]
  | _, .fn _, _ => by simp [pd, PyData.depth]
  | _, .dic _ _, _ => by simp [pd, PyData.depth]
  | 0, .tup xs, h => by simp [dpLe] at h
  | 0, .lst xs, h => by simp [dpLe] at h
  | n + 1, .tup xs, h => by simp only [dpLe] at h; simp only [pd, PyData.depth]; have := pds_depth h; omega
  | n + 1, .lst xs, h => by simp only [dpLe] at h; simp only [pd, PyData.depth]; have := pds_depth h; omega
theorem pds_depth : ∀ {n : Nat} {xs : List PV}, dpLes n xs = true → PyData.depthAll (pds xs) ≤ n
  | _, [], _ => by simp [pds, PyData.depthAll]
  | _, x :: xs, h => by
    simp only [dpLes, Bool.and_eq_true] at h
    simp only [pds, PyData.depthAll]
    have := pd_depth h.1
    have := pds_depth h.2
    omega
end
mutual
theorem pd_eqv : ∀ x y : PV, PyData.eqv (pd x) (pd y) = eqv x y
  | .non, y => by cases y <;> rfl
  | .bl a, y => by cases y <;> first | rfl | (simp only [pd, PyData.eqv, eqv]; rw [Bool.beq_eq_decide_eq])
  | .int i, y => by cases y <;> first | rfl | (simp only [pd, PyData.eqv, eqv]; rw [Bool.beq_eq_decide_eq])
  | .str s, y => by cases y <;> first | rfl | (simp only [pd, PyData.eqv, eqv]; rw [Bool.beq_eq_decide_eq])
  | .tup xs, y => by cases y <;> first | rfl | (simp only [pd, PyData.eqv, eqv]; exact pds_eqv xs _)
  | .lst xs, y => by cases y <;> first | rfl | (simp only [pd, PyData.eqv, eqv]; exact pds_eqv xs _)
  | .fn _, y => by cases y <;> rfl
  | .dic _ _, y => by cases y <;> rfl
theorem pds_eqv : ∀ xs ys : List PV, PyData.eqvAll (pds xs) (pds ys) = eqvs xs ys
  | [], ys => by cases ys <;> rfl
  | x :: xs, [] => rfl
  | x :: xs, y :: ys => by simp only [pds, PyData.eqvAll, eqvs]; rw [pd_eqv x y, pds_eqv xs ys]
end
mutual
theorem Rep.dp {K : PySem.W.Frag} {mg : PySem.Str → Option Value} {F H : Hp} (hs : Sub F H) : ∀ {x : PV} {v : V}, Rep K mg F x v → noFn x = true → Dp K H v (pd x)
  | .non, _, h, _ => by cases h; exact .non
  | .bl _, _, h, _ => by cases h; exact .bl _
  | .int _, _, h, _ => by cases h; exact .int _
  | .str s, _, h, _ => by obtain ⟨rfl, _⟩ := h; exact .str _
  | .tup xs, _, ⟨_, _, e, q, r⟩, n => by subst e; exact .tup (hs.sqT q) (RepL.dp hs r n)
  | .lst xs, _, ⟨_, _, e, q, r⟩, n => by subst e; exact .lst (.inl (hs.rd q)) (RepL.dp hs r n)
  | .fn _, _, _, n => by cases n
  | .dic _ _, _, _, n => by cases n
theorem RepL.dp {K : PySem.W.Frag} {mg : PySem.Str → Option Value} {F H : Hp} (hs : Sub F H) : ∀ {xs : List PV} {vs : List V}, RepL K mg F xs vs → noFns xs = true → DpAll K H vs (pds xs)
  | [], _, h, _ => by cases h; exact .nil
  | _ :: _, _, ⟨_, _, e, a, b⟩, n => by
    subst e
    simp only [noFns, Bool.and_eq_true] at n
    exact .cons (a.dp hs n.1) (RepL.dp hs b n.2)
end
section
variable {X : Cx}
theorem pure_dp {K : PySem.W.Frag} {mg : PySem.Str → Option Value} {F H : Hp} {ι : Plc} {S : Store} {x : SV} {v : V} {y : PV} (sim : Sim K mg ι F S H) (r : RepS K mg F ι x v) (h : pure? S x = some y) (hn : noFn y = true) : Dp K H v (pd y) ∧ (pd y).canLay0 = true := by
  cases x with
  | v x => simp only [pure?, Option.some.injEq] at h; subst h; exact ⟨Rep.dp sim.sub r hn, pd_lay r⟩
  | l n =>
    simp only [pure?] at h
    split at h
    · rename_i xs e
      cases h
      obtain ⟨p, vs, rfl, rl, q⟩ := sim.seqL (x := .l n) r (by simp only [seqOf, e]; rfl)
      exact ⟨.lst (.inl q) (RepL.dp sim.sub rl hn), by simp only [pd, PyData.canLay0]; exact pds_lay rl⟩
    · cases h
def rdC (K : PySem.W.Frag) (mg : PySem.Str → Option Value) (f : SV → SV → Store → Option Bool) : V → V → Hp → VK → Prop := fun v w H Q => ∃ ι F S x y b, Sim K mg ι F S H ∧ RepS K mg F ι x v ∧ RepS K mg F ι y w ∧ f x y S = some b ∧ Q (.bl b) H
theorem eq_room {A : Around} {x y : PV} (h : (dpLe eqD x || dpLe eqD y) = true) (hu : A.units + 64 < cLine) : A.units + min (pd x).depth (pd y).depth < cLine := by
  rw [Bool.or_eq_true] at h
  rcases h with h | h
  · have := pd_depth h; simp only [eqD] at this; omega
  · have := pd_depth h; simp only [eqD] at this; omega
theorem op_eqF (hu : X.A.units + 64 < cLine) : OpR X (compareOp .Eq) (rdC X.K X.mg (cmpOp .eq)) := by
  intro pins s σ H x y v u Q I rx ry h
  obtain ⟨ι, F, S, sx, sy, b, sim, r1, r2, h, q⟩ := h
  simp only [cmpOp] at h
  split at h
  · rename_i px py h1 h2
    unfold eqP at h
    split at h
    · rename_i hd
      cases h
      rw [Bool.and_eq_true, Bool.and_eq_true] at hd
      obtain ⟨⟨n1, n2⟩, hd⟩ := hd
      obtain ⟨d1, l1⟩ := pure_dp sim r1 h1 n1
      obtain ⟨d2, l2⟩ := pure_dp sim r2 h2 n2
      obtain ⟨as, g1⟩ := Dp.reads I _ x v d1 rx
      obtain ⟨bs, g2⟩ := Dp.reads I _ y u d2 ry
      exact SeqAt.compareEq_reads g1 g2 l1 l2 (eq_room hd hu) ⟨.bl _, H, I, by rw [pd_eqv]; rfl, q⟩
    · cases h
  · cases h
theorem op_neF (hu : X.A.units + 64 < cLine) : OpR X (compareOp .NotEq) (rdC X.K X.mg (cmpOp .ne)) := by
  intro pins s σ H x y v u Q I rx ry h
  obtain ⟨ι, F, S, sx, sy, b, sim, r1, r2, h, q⟩ := h
  simp only [cmpOp] at h
  split at h
  · rename_i px py h1 h2
    unfold eqP at h
    split at h
    · rename_i hd
      cases h
      rw [Bool.and_eq_true, Bool.and_eq_true] at hd
      obtain ⟨⟨n1, n2⟩, hd⟩ := hd
      obtain ⟨d1, l1⟩ := pure_dp sim r1 h1 n1
      obtain ⟨d2, l2⟩ := pure_dp sim r2 h2 n2
      obtain ⟨as, g1⟩ := Dp.reads I _ x v d1 rx
      obtain ⟨bs, g2⟩ := Dp.reads I _ y u d2 ry
      exact SeqAt.compareNe_reads g1 g2 l1 l2 (eq_room hd hu) ⟨.bl _, H, I, by rw [pd_eqv]; rfl, q⟩
    · cases h
  · cases h

theorem noFns_get : ∀ {ys : List PV} {j : Nat} {y : PV}, noFns ys = true → ys[j]? = some y → noFn y = true
  | [], _, _, _, h => by simp at h
  | _ :: _, 0, _, n, h => by
    simp only [noFns, Bool.and_eq_true] at n
    simp at h; subst h; exact n.1
  | _ :: _, j + 1, _, n, h => by
    simp only [noFns, Bool.and_eq_true] at n
    exact noFns_get (j := j) n.2 (by simpa using h)
theorem in_fun {K : PySem.W.Frag} {mg : PySem.Str → Option Value} {F : Hp} {A : Around} {pins : List (Addr × Obj)} {σ : L2.St} {H : Hp} {s : Shared} {ys : List PV} {ws : List V} {its : List Value} {px : PV} {vx : V} {ux : Value}
    (I : Inv X pins σ H s) (hK : X.K = K) (hs : Sub F H) (r : RepL K mg F ys ws) (rv : Vals ws its) (dx : Dp X.K H vx (pd px)) (lx : (pd px).canLay0 = true) (rx : RelV vx ux) (hd : (dpLe eqD px || dpLes eqD ys) = true) (hnf : noFns ys = true) (hu : A.units + 64 < cLine) :
    ∃ e : Value → Bool, (∀ y, y ∈ its.toArray → SeqAt.EqAt A s y ux (e y)) ∧ its.toArray.any e = ys.any fun y => eqv y px := by
  subst hK
  have got : ∀ (j : Nat) (u : Value), its[j]? = some u → ∃ y v, ys[j]? = some y ∧ Rep X.K mg F y v ∧ RelV v u := fun j u hj => by
    have hl : j < its.length := (List.getElem?_eq_some_iff.mp hj).1
    have hl2 : j < ys.length := by rw [r.length, rv.length]; exact hl
    obtain ⟨v, h1, h2⟩ := r.get (List.getElem?_eq_getElem hl2)
    obtain ⟨u', h3, h4⟩ := rv.get h1
    rw [hj] at h3; cases h3
    exact ⟨_, v, List.getElem?_eq_getElem hl2, h2, h4⟩
  have same : ∀ (i j : Nat) (u : Value) (y z : PV), its[i]? = some u → its[j]? = some u → ys[i]? = some y → ys[j]? = some z → eqv y px = eqv z px := fun i j u y z h1 h2 h3 h4 => by
    obtain ⟨y', v, g1, g2, g3⟩ := got i u h1
    obtain ⟨z', v', k1, k2, k3⟩ := got j u h2
    rw [h3] at g1; cases g1
    rw [h4] at k1; cases k1
    obtain ⟨as, q1⟩ := Dp.reads I _ v u (g2.dp hs (noFns_get hnf h3)) g3
    obtain ⟨bs, q2⟩ := Dp.reads I _ v' u (k2.dp hs (noFns_get hnf h4)) k3
    have e := SeqAt.Reads.unique _ _ _ _ _ (pd_lay g2) q1 q2
    rw [← pd_eqv, ← pd_eqv, e]
  classical
  refine ⟨fun u => decide (∃ (j : Nat) (y : PV), its[j]? = some u ∧ ys[j]? = some y ∧ eqv y px = true), fun u hu' => ?_, ?_⟩
  · obtain ⟨j, hj⟩ := List.getElem?_of_mem (List.mem_toArray.mp hu')
    obtain ⟨y, v, h1, h2, h3⟩ := got j u hj
    have e : decide (∃ (j : Nat) (y : PV), its[j]? = some u ∧ ys[j]? = some y ∧ eqv y px = true) = eqv y px := by
      by_cases hy : eqv y px = true
      · rw [hy]; exact decide_eq_true ⟨j, y, hj, h1, hy⟩
      · have : eqv y px = false := by simpa using hy
        rw [this]
        refine decide_eq_false ?_
        rintro ⟨i, z, g1, g2, g3⟩
        have := same i j u z y g1 hj g2 h1
        rw [g3] at this
        exact hy this.symm
    show SeqAt.EqAt A s u ux (decide (∃ (j : Nat) (y : PV), its[j]? = some u ∧ ys[j]? = some y ∧ eqv y px = true))
    rw [e]
    obtain ⟨as, q1⟩ := Dp.reads I _ v u (h2.dp hs (noFns_get hnf h1)) h3
    obtain ⟨bs, q2⟩ := Dp.reads I _ vx ux dx rx
    have hroom : A.units + min (pd y).depth (pd px).depth < cLine := by
      rw [Bool.or_eq_true] at hd
      rcases hd with h | h
      · have := pd_depth h; simp only [eqD] at this; omega
      · have hm : ∀ {n : Nat} {l : List PV}, dpLes n l = true → ∀ z ∈ l, dpLe n z = true := by
          intro n l
          induction l with
          | nil => intro _ z hz; cases hz
          | cons a t ih =>
            intro hh z hz
            simp only [dpLes, Bool.and_eq_true] at hh
            rcases List.mem_cons.mp hz with rfl | hz
            · exact hh.1
            · exact ih hh.2 z hz
        have := pd_depth (hm h y (List.mem_of_getElem? h1)); simp only [eqD] at this; omega
    have := SeqAt.eqAt_reads (pd y) (pd px) A s u ux as bs q1 q2 (pd_lay h2) lx hroom
    rw [pd_eqv] at this
    exact this
  · rw [Bool.eq_iff_iff]
    simp only [List.any_toArray, List.any_eq_true, decide_eq_true_eq]
    constructor
    · rintro ⟨u, hu', j, y, h1, h2, h3⟩
      exact ⟨y, List.mem_of_getElem? h2, h3⟩
    · rintro ⟨y, hy, h3⟩
      obtain ⟨j, hj⟩ := List.getElem?_of_mem hy
      have hl : j < its.length := by rw [← rv.length, ← r.length]; exact (List.getElem?_eq_some_iff.mp hj).1
      exact ⟨its[j], List.getElem_mem hl, j, y, List.getElem?_eq_getElem hl, hj, h3⟩
theorem key_of? {x : PV} (h : keyOk x = true) : ∃ k, x = keyP k := by
  cases x <;> simp [keyOk] at h
  · exact ⟨.inl _, rfl⟩
  · exact ⟨.inr _, rfl⟩
theorem keyP_inj {a b : L2.Key} : keyEq (keyP a) (keyP b) = decide (a = b) := by
  cases a <;> cases b <;> simp [keyP, keyEq]
theorem keyP_rep {K : PySem.W.Frag} {mg : PySem.Str → Option Value} {F : Hp} {k : L2.Key} {v : V} (h : Rep K mg F (keyP k) v) : v = kV k := by
  cases k with
  | inl i => exact h
  | inr s => exact h.1
theorem RepD.get {K : PySem.W.Frag} {mg : PySem.Str → Option Value} {F : Hp} (k : L2.Key) : ∀ {kvs : List (PV × PV)} {ws : List (L2.Key × V)}, RepD K mg F kvs ws → match keyGet (keyP k) kvs with
    | some x => ∃ v, valV ws k = some v ∧ Rep K mg F x v
    | none => valV ws k = none
  | [], _, r => by cases r; exact rfl
  | (k1, x) :: r, _, ⟨k', v, t, e, e1, a, b⟩ => by
    subst e e1
    have ih := RepD.get k b
    unfold keyGet valV at ih ⊢
    by_cases h : k' = k
    · subst h
      simp only [List.find?_cons, keyP_inj, decide_true, Option.map_some]
      exact ⟨v, rfl, a⟩
    · simp only [List.find?_cons, keyP_inj, decide_eq_false h]
      exact ih
theorem RepD.isSome {K : PySem.W.Frag} {mg : PySem.Str → Option Value} {F : Hp} (k : L2.Key) {kvs : List (PV × PV)} {ws : List (L2.Key × V)} (r : RepD K mg F kvs ws) : (keyGet (keyP k) kvs).isSome = (valV ws k).isSome := by
  have := r.get k
  cases e : keyGet (keyP k) kvs with
  | some x => rw [e] at this; obtain ⟨v, h, _⟩ := this; rw [h]; rfl
  | none => rw [e] at this; rw [this]; rfl
theorem mem_inv {x y : SV} {S : Store} {b : Bool} (h : memOp x y S = some b) :
    (∃ px t ys, pure? S x = some px ∧ seqOf S y = some (t, ys) ∧ (noFn px && noFns ys && (dpLe eqD px || dpLes eqD ys)) = true ∧ b = ys.any fun y => eqv y px) ∨
    ∃ k kvs, pure? S x = some (keyP k) ∧ dicR S y = some kvs ∧ b = (keyGet (keyP k) kvs).isSome := by
  unfold memOp at h
  cases e1 : pure? S x with
  | none => rw [e1] at h; cases h
  | some px =>
    rw [e1] at h
    simp only at h
    cases e2 : seqOf S y with
    | some p =>
      obtain ⟨t, ys⟩ := p
      rw [e2] at h
      simp only [anyEq] at h
      split at h
      · rename_i hd
        cases h
        exact .inl ⟨px, t, ys, rfl, rfl, hd, rfl⟩
      · cases h
    | none =>
      rw [e2] at h
      simp only at h
      cases e3 : dicR S y with
      | none => rw [e3] at h; cases h
      | some kvs =>
        rw [e3] at h
        simp only at h
        split at h
        · rename_i hk
          cases h
          obtain ⟨k, rfl⟩ := key_of? hk
          exact .inr ⟨k, kvs, rfl, rfl, rfl⟩
        · cases h
theorem key_val {K : PySem.W.Frag} {mg : PySem.Str → Option Value} {F : Hp} {ι : Plc} {S : Store} {x : SV} {v : V} {k : L2.Key} (r : RepS K mg F ι x v) (h : pure? S x = some (keyP k)) : v = kV k := by
  cases x with
  | v x' => simp only [pure?, Option.some.injEq] at h; subst h; exact keyP_rep r
  | l m =>
    simp only [pure?] at h
    split at h
    · cases k <;> simp [keyP] at h
    · cases h
theorem DGet_R {H : Hp} {a : Addr} {kvs : List (L2.Key × V)} {k : L2.Key} (e : Rd H a (.dK kvs)) : DGet H a (kV k) (valV kvs k) := .inl ⟨kvs, k, e, rfl, rfl⟩
theorem op_inF (hu : X.A.units + 65 < cLine) : OpR X (compareOp .In) (rdC X.K X.mg (cmpOp .isin)) := by
  intro pins s σ H x y v u Q I rx ry h
  obtain ⟨ι, F, S, sx, sy, b, sim, r1, r2, h, q⟩ := h
  rcases mem_inv h with ⟨px, t, ys, h1, h2, hd, rfl⟩ | ⟨k, kvs, h1, h2, rfl⟩
  · rw [Bool.and_eq_true, Bool.and_eq_true] at hd
    obtain ⟨⟨n1, n2⟩, hd⟩ := hd
    obtain ⟨d1, l1⟩ := pure_dp sim r1 h1 n1
    cases t with
    | true =>
      obtain ⟨p, vs, rfl, r, hp⟩ := sim.seqL r2 h2
      cases ry
      obtain ⟨_, its, n, rv, _, e⟩ := Inv.rdL I hp
      obtain ⟨f, g1, g2⟩ := in_fun (A := X.A.in1) I rfl sim.sub r rv d1 l1 rx hd n2 (by show X.A.units + 1 + 64 < cLine; omega)
      exact SeqAt.in_listAt f ⟨_, e, rfl, _, rfl⟩ g1 ⟨.bl _, H, I, by rw [g2]; rfl, q⟩
    | false =>
      obtain ⟨p, vs, rfl, r, hp⟩ := sim.seqT r2 h2
      cases ry
      obtain ⟨its, rv, ht, _⟩ := I.tuple (sim.sub.sqT hp)
      obtain ⟨f, g1, g2⟩ := in_fun (A := X.A.in1) I rfl sim.sub r rv d1 l1 rx hd n2 (by show X.A.units + 1 + 64 < cLine; omega)
      exact SeqAt.in_tupleAt f ht g1 ⟨.bl _, H, I, by rw [g2]; rfl, q⟩
  · obtain ⟨p, ws, rfl, hH, rd⟩ := sim.dicR r2 h2
    cases ry
    have hv := key_val r1 h1
    subst hv
    exact d_in (by omega) I (DGet_R hH) rx fun s' I' => ⟨.bl _, H, I', rfl, by rw [← rd.isSome k]; exact q⟩
theorem op_notinF (hu : X.A.units + 65 < cLine) : OpR X (compareOp .NotIn) (rdC X.K X.mg (cmpOp .notin)) := by
  intro pins s σ H x y v u Q I rx ry h
  obtain ⟨ι, F, S, sx, sy, b, sim, r1, r2, h, q⟩ := h
  obtain ⟨b, h', rfl⟩ := Option.map_eq_some_iff.mp h
  rcases mem_inv h' with ⟨px, t, ys, h1, h2, hd, rfl⟩ | ⟨k, kvs, h1, h2, rfl⟩
  · rw [Bool.and_eq_true, Bool.and_eq_true] at hd
    obtain ⟨⟨n1, n2⟩, hd⟩ := hd
    obtain ⟨d1, l1⟩ := pure_dp sim r1 h1 n1
    cases t with
    | true =>
      obtain ⟨p, vs, rfl, r, hp⟩ := sim.seqL r2 h2
      cases ry
      obtain ⟨_, its, n, rv, _, e⟩ := Inv.rdL I hp
      obtain ⟨f, g1, g2⟩ := in_fun (A := X.A.in1) I rfl sim.sub r rv d1 l1 rx hd n2 (by show X.A.units + 1 + 64 < cLine; omega)
      exact SeqAt.notIn_listAt f ⟨_, e, rfl, _, rfl⟩ g1 ⟨.bl _, H, I, by rw [g2]; rfl, q⟩
    | false =>
      obtain ⟨p, vs, rfl, r, hp⟩ := sim.seqT r2 h2
      cases ry
      obtain ⟨its, rv, ht, _⟩ := I.tuple (sim.sub.sqT hp)
      obtain ⟨f, g1, g2⟩ := in_fun (A := X.A.in1) I rfl sim.sub r rv d1 l1 rx hd n2 (by show X.A.units + 1 + 64 < cLine; omega)
      exact SeqAt.notIn_tupleAt f ht g1 ⟨.bl _, H, I, by rw [g2]; rfl, q⟩
  · obtain ⟨p, ws, rfl, hH, rd⟩ := sim.dicR r2 h2
    cases ry
    have hv := key_val r1 h1
    subst hv
    exact d_notIn (by omega) I (DGet_R hH) rx fun s' I' => ⟨.bl _, H, I', rfl, by rw [← rd.isSome k]; exact q⟩

mutual
theorem lt_run {pins : List (Addr × Obj)} {σ : L2.St} {H : Hp} {s : Shared} {mg : PySem.Str → Option Value} {F : Hp} (I : Inv X pins σ H s) (hs : Sub F H) : ∀ (x y : PV) (n : Nat) (A : Around) (b : Bool) (v w : V) (u z : Value), A.units + n + 1 < cLine → dpLe n x = true → noFn x = true → noFn y = true →
    ltP x y = some b → Rep X.K mg F x v → Rep X.K mg F y w → RelV v u → RelV w z → Ob.RcOp .Lt A s u z b
  | .int i, y, n, A, b, v, w, u, z, hu, hd, nx, ny, h, r1, r2, q1, q2 => by
    cases y <;> simp only [ltP, reduceCtorEq, Option.some.injEq] at h
    subst h
    cases r1; cases r2
    obtain ⟨t, rfl⟩ := q1
    obtain ⟨t', rfl⟩ := q2
    exact Ob.RcOp.lt_int _ _ _ _
  | .str i, y, n, A, b, v, w, u, z, hu, hd, nx, ny, h, r1, r2, q1, q2 => by
    cases y <;> simp only [ltP, reduceCtorEq, Option.some.injEq] at h
    subst h
    obtain ⟨rfl, _⟩ := r1
    obtain ⟨rfl, _⟩ := r2
    obtain ⟨t, rfl⟩ := q1
    obtain ⟨t', rfl⟩ := q2
    exact fun prog w E Q hq => PySem.P.lt_str hq
  | .tup xs, y, 0, A, b, v, w, u, z, hu, hd, nx, ny, h, r1, r2, q1, q2 => by simp [dpLe] at hd
  | .tup xs, y, n + 1, A, b, v, w, u, z, hu, hd, nx, ny, h, r1, r2, q1, q2 => by
    cases y with
    | tup ys =>
      simp only [ltP] at h
      simp only [dpLe] at hd
      obtain ⟨p, vs, rfl, t1, l1⟩ := r1
      obtain ⟨p2, ws, rfl, t2, l2⟩ := r2
      cases q1; cases q2
      obtain ⟨its, rv, ht, _⟩ := I.tuple (hs.sqT t1)
      obtain ⟨its2, rv2, ht2, _⟩ := I.tuple (hs.sqT t2)
      obtain ⟨e, r, h1, h2, h3⟩ := lt_runs I hs xs ys n A.in1 b vs ws its its2 (by show A.units + 1 + n + 1 < cLine; omega) hd nx ny h l1 l2 rv rv2
      have g := Ob.RcOp.tuples_lt (A := A) (e := e) (r := r) ht ht2 (by omega) (fun j a b => h1 j (by simpa using a) (by simpa using b)) (fun j a b => h2 j (by simpa using a) (by simpa using b))
      simp only [List.size_toArray] at g
      rw [h3] at g
      exact g
    | _ => simp [ltP] at h
  | .non, y, n, A, b, v, w, u, z, hu, hd, nx, ny, h, r1, r2, q1, q2 => by cases y <;> simp [ltP] at h
  | .bl _, y, n, A, b, v, w, u, z, hu, hd, nx, ny, h, r1, r2, q1, q2 => by cases y <;> simp [ltP] at h
  | .lst _, y, n, A, b, v, w, u, z, hu, hd, nx, ny, h, r1, r2, q1, q2 => by cases y <;> simp [ltP] at h
  | .fn _, y, n, A, b, v, w, u, z, hu, hd, nx, ny, h, r1, r2, q1, q2 => by cases y <;> simp [ltP] at h
  | .dic _ _, y, n, A, b, v, w, u, z, hu, hd, nx, ny, h, r1, r2, q1, q2 => by cases y <;> simp [ltP] at h
theorem lt_runs {pins : List (Addr × Obj)} {σ : L2.St} {H : Hp} {s : Shared} {mg : PySem.Str → Option Value} {F : Hp} (I : Inv X pins σ H s) (hs : Sub F H) : ∀ (xs ys : List PV) (n : Nat) (A : Around) (b : Bool) (vs ws : List V) (us zs : List Value), A.units + n + 1 < cLine → dpLes n xs = true → noFns xs = true → noFns ys = true →
    ltPs xs ys = some b → RepL X.K mg F xs vs → RepL X.K mg F ys ws → Vals vs us → Vals ws zs → ∃ e r : Nat → Bool,
      (∀ j (h1 : j < us.length) (h2 : j < zs.length), SeqAt.EqAt A s us[j] zs[j] (e j)) ∧ (∀ j (h1 : j < us.length) (h2 : j < zs.length), e j = false → Ob.RcOp .Lt A s us[j] zs[j] (r j)) ∧
      Ob.lexAt e r (decide (us.length < zs.length)) 0 (min us.length zs.length) = b
  | [], [], n, A, b, vs, ws, us, zs, hu, hd, nx, ny, h, l1, l2, r1, r2 => by
    cases l1; cases l2; cases r1; cases r2
    simp only [ltPs, Option.some.injEq] at h
    exact ⟨fun _ => true, fun _ => true, fun j h1 => absurd h1 (by simp), fun j h1 => absurd h1 (by simp), by rw [← h]; rfl⟩
  | [], y :: ys, n, A, b, vs, ws, us, zs, hu, hd, nx, ny, h, l1, l2, r1, r2 => by
    cases l1; cases r1
    obtain ⟨w, wr, rfl, _, _⟩ := l2
    cases r2
    simp only [ltPs, Option.some.injEq] at h
    exact ⟨fun _ => true, fun _ => true, fun j h1 => absurd h1 (by simp), fun j h1 => absurd h1 (by simp), by rw [← h]; simp [Ob.lexAt]⟩
  | x :: xs, [], n, A, b, vs, ws, us, zs, hu, hd, nx, ny, h, l1, l2, r1, r2 => by
    cases l2; cases r2
    simp only [ltPs, Option.some.injEq] at h
    exact ⟨fun _ => true, fun _ => true, fun j _ h1 => absurd h1 (by simp), fun j _ h1 => absurd h1 (by simp), by rw [← h]; simp [Ob.lexAt]⟩
  | x :: xs, y :: ys, n, A, b, vs, ws, us, zs, hu, hd, nx, ny, h, l1, l2, r1, r2 => by
    obtain ⟨v, vr, rfl, a1, l1⟩ := l1
    obtain ⟨w, wr, rfl, a2, l2⟩ := l2
    cases r1 with
    | @cons _ u _ ut b1 r1 =>
    cases r2 with
    | @cons _ z _ zt b2 r2 =>
    simp only [dpLes, Bool.and_eq_true] at hd
    simp only [noFns, Bool.and_eq_true] at nx ny
    have eqh : SeqAt.EqAt A s u z (eqv x y) := by
      obtain ⟨as, g1⟩ := Dp.reads I _ v u (a1.dp hs nx.1) b1
      obtain ⟨bs, g2⟩ := Dp.reads I _ w z (a2.dp hs ny.1) b2
      have := SeqAt.eqAt_reads (pd x) (pd y) A s u z as bs g1 g2 (pd_lay a1) (pd_lay a2) (by have := pd_depth hd.1; omega)
      rw [pd_eqv] at this
      exact this
    have shift : ∀ (f : Nat → Bool) (a : Bool) (r : Nat → Bool) (c : Bool) (zz : Bool) (k i : Nat), Ob.lexAt (fun j => if j = 0 then a else f (j - 1)) (fun j => if j = 0 then c else r (j - 1)) zz (i + 1) k = Ob.lexAt f r zz i k := by
      intro f a r c zz k
      induction k with
      | zero => intro i; rfl
      | succ k ih => intro i; rw [Ob.lexAt_succ, Ob.lexAt_succ, ih (i + 1)]; simp
    have hlen : ∀ c : Bool, decide ((u :: ut).length < (z :: zt).length) = decide (ut.length < zt.length) := fun _ => by simp
    have hmin : min (u :: ut).length (z :: zt).length = min ut.length zt.length + 1 := by simp only [List.length_cons]; omega
    simp only [ltPs] at h
    by_cases he : eqv x y = true
    · rw [if_pos he] at h
      obtain ⟨e, r, h1, h2, h3⟩ := lt_runs I hs xs ys n A b vr wr ut zt hu hd.2 nx.2 ny.2 h l1 l2 r1 r2
      refine ⟨fun j => if j = 0 then true else e (j - 1), fun j => if j = 0 then true else r (j - 1), fun j g1 g2 => ?_, fun j g1 g2 g3 => ?_, ?_⟩
      · cases j with
        | zero => simpa [he] using eqh
        | succ j => simpa using h1 j (by simpa using g1) (by simpa using g2)
      · cases j with
        | zero => simp at g3
        | succ j => simpa using h2 j (by simpa using g1) (by simpa using g2) (by simpa using g3)
      · rw [hlen true, hmin, Ob.lexAt_succ, if_pos (by simp), shift e true r true]
        exact h3
    · have he' : eqv x y = false := by simpa using he
      rw [if_neg he] at h
      cases e1 : ltP x y with
      | none => rw [e1] at h; simp at h
      | some b1' =>
        cases e2 : ltPs xs ys with
        | none => rw [e1, e2] at h; simp at h
        | some b2' =>
          rw [e1, e2] at h
          simp only [Option.some.injEq] at h
          subst h
          have g := lt_run I hs x y n A b1' v w u z hu hd.1 nx.1 ny.1 e1 a1 a2 b1 b2
          obtain ⟨e, r, h1, h2, h3⟩ := lt_runs I hs xs ys n A b2' vr wr ut zt hu hd.2 nx.2 ny.2 e2 l1 l2 r1 r2
          refine ⟨fun j => if j = 0 then false else e (j - 1), fun j => if j = 0 then b1' else r (j - 1), fun j g1 g2 => ?_, fun j g1 g2 g3 => ?_, ?_⟩
          · cases j with
            | zero => simpa [he'] using eqh
            | succ j => simpa using h1 j (by simpa using g1) (by simpa using g2)
          · cases j with
            | zero => simpa using g
            | succ j => simpa using h2 j (by simpa using g1) (by simpa using g2) (by simpa using g3)
          · rw [hlen true, hmin, Ob.lexAt_succ, if_neg (by simp)]
            simp
end
theorem is_non {pins : List (Addr × Obj)} {σ : L2.St} {H : Hp} {F : Hp} {ι : Plc} {sx : SV} {x : V} {K : PySem.W.Frag} {mg : PySem.Str → Option Value} (r : RepS K mg F ι sx x) :
    decide (x = V.non) = isNonS sx := by
  cases sx with
  | v p =>
    cases p with
    | non => cases r; rfl
    | bl b => cases r; rfl
    | int i => cases r; rfl
    | str z => obtain ⟨rfl, _⟩ := r; rfl
    | tup xs => obtain ⟨p, vs, rfl, _⟩ := r; rfl
    | lst xs => obtain ⟨p, vs, rfl, _⟩ := r; rfl
    | fn _ => obtain ⟨p, rfl, _⟩ := r; rfl
    | dic _ _ => obtain ⟨p, od, ws, rfl, _⟩ := r; rfl
  | l n => obtain ⟨p, _, rfl⟩ := r; rfl
theorem op_cmpF (hu : X.A.units + 65 < cLine) (o : COp) : OpR X (compareOp (opC o)) (rdC X.K X.mg (cmpOp o)) := by
  cases o with
  | eq => exact op_eqF (by omega)
  | ne => exact op_neF (by omega)
  | isin => exact op_inF hu
  | notin => exact op_notinF hu
  | lt =>
    intro pins s σ H x y v u Q I rx ry h
    obtain ⟨ι, F, S, sx, sy, b, sim, r1, r2, h, q⟩ := h
    simp only [cmpOp] at h
    split at h
    · rename_i i j
      cases h; cases r1; cases r2
      exact op_lt pins s σ H _ _ v u Q I rx ry ⟨i, j, rfl, rfl, q⟩
    · rename_i xs ys
      split at h
      · rename_i hd
        rw [Bool.and_eq_true, Bool.and_eq_true, Bool.and_eq_true] at hd
        have g := lt_run I sim.sub (.tup xs) (.tup ys) eqD X.A b x y v u (by simp only [eqD]; omega) hd.2.1 hd.1.1 hd.1.2 h r1 r2 rx ry
        exact g _ _ _ _ ⟨.bl b, H, I, rfl, q⟩
      · cases h
    · cases h
  | le =>
    intro pins s σ H x y v u Q I rx ry h
    obtain ⟨ι, F, S, sx, sy, b, sim, r1, r2, h, q⟩ := h
    simp only [cmpOp] at h
    split at h
    · rename_i i j
      cases h; cases r1; cases r2
      exact op_le pins s σ H _ _ v u Q I rx ry ⟨i, j, rfl, rfl, q⟩
    · cases h
  | gt =>
    intro pins s σ H x y v u Q I rx ry h
    obtain ⟨ι, F, S, sx, sy, b, sim, r1, r2, h, q⟩ := h
    simp only [cmpOp] at h
    split at h
    · rename_i i j
      cases h; cases r1; cases r2
      exact op_gt pins s σ H _ _ v u Q I rx ry ⟨i, j, rfl, rfl, q⟩
    · cases h
  | ge =>
    intro pins s σ H x y v u Q I rx ry h
    obtain ⟨ι, F, S, sx, sy, b, sim, r1, r2, h, q⟩ := h
    simp only [cmpOp] at h
    split at h
    · rename_i i j
      cases h; cases r1; cases r2
      exact op_ge pins s σ H _ _ v u Q I rx ry ⟨i, j, rfl, rfl, q⟩
    · cases h
  | is =>
    intro pins s σ H x y v u Q I rx ry h
    obtain ⟨ι, F, S, sx, sy, b, sim, r1, r2, h, q⟩ := h
    simp only [cmpOp] at h
    split at h
    · cases r2
      refine op_isN pins s σ H _ _ v u Q I rx ry ⟨rfl, ?_⟩
      rw [is_non (pins := pins) (σ := σ) (H := H) r1]
      cases h; exact q
    · split at h
      · rename_i c _ a
        cases h; cases r1; cases r2
        exact op_isBl pins s σ H _ _ v u Q I rx ry ⟨a, c, rfl, rfl, by rw [← Bool.beq_eq_decide_eq]; exact q⟩
      · cases h
    · cases h
  | isnot =>
    intro pins s σ H x y v u Q I rx ry h
    obtain ⟨ι, F, S, sx, sy, b, sim, r1, r2, h, q⟩ := h
    simp only [cmpOp] at h
    split at h
    · cases r2
      refine op_notN pins s σ H _ _ v u Q I rx ry ⟨rfl, ?_⟩
      rw [is_non (pins := pins) (σ := σ) (H := H) r1]
      cases h; exact q
    · split at h
      · rename_i c _ a
        cases h; cases r1; cases r2
        exact op_notBl pins s σ H _ _ v u Q I rx ry ⟨a, c, rfl, rfl, by rw [← Bool.beq_eq_decide_eq]; exact q⟩
      · cases h
    · cases h
end
end
end FW

namespace FW
open PySem PySem.Spec PyProof.Rows L2
mutual
theorem alike_pd : ∀ {x y : PV}, alikeP x y = true → PySem.W.alike (pd x) (pd y) = true
  | .non, y, h => by cases y <;> simp only [alikeP, Bool.false_eq_true] at h; rfl
  | .bl _, y, h => by cases y <;> simp only [alikeP, Bool.false_eq_true] at h; rfl
  | .int _, y, h => by cases y <;> simp only [alikeP, Bool.false_eq_true] at h; rfl
  | .str _, y, h => by cases y <;> simp only [alikeP, Bool.false_eq_true] at h; rfl
  | .lst xs, y, h => by cases y <;> simp only [alikeP, Bool.false_eq_true] at h; simp only [pd, PySem.W.alike]; exact alike_pds h
  | .tup xs, y, h => by cases y <;> simp only [alikeP, Bool.false_eq_true] at h; simp only [pd, PySem.W.alike]; exact alike_pds h
  | .fn _, y, h => by cases y <;> simp only [alikeP, Bool.false_eq_true] at h
theorem alike_pds : ∀ {xs ys : List PV}, alikePs xs ys = true → PySem.W.alikeAll (pds xs) (pds ys) = true
  | [], _, _ => by simp only [pds]; rw [PySem.W.alikeAll]
  | _ :: _, [], _ => by simp only [pds]; rw [PySem.W.alikeAll]
  | x :: xs, y :: ys, h => by
    simp only [alikePs, Bool.and_eq_true] at h
    simp only [pds, PySem.W.alikeAll, Bool.and_eq_true]
    exact ⟨alike_pd h.1, alike_pds h.2⟩
end
mutual
theorem ltK_pd : ∀ {x y : PV}, alikeP x y = true → PySem.W.dataLt (pd x) (pd y) = ltK x y
  | .non, y, h => by cases y <;> simp only [alikeP, Bool.false_eq_true] at h; rfl
  | .bl a, y, h => by
    cases y <;> simp only [alikeP, Bool.false_eq_true] at h
    rename_i b
    simp only [pd, ltK, PySem.W.dataLt_bool]
    cases a <;> cases b <;> rfl
  | .int _, y, h => by cases y <;> simp only [alikeP, Bool.false_eq_true] at h; simp only [pd, ltK, PySem.W.dataLt_int]
  | .str _, y, h => by cases y <;> simp only [alikeP, Bool.false_eq_true] at h; simp only [pd, ltK, PySem.W.dataLt_str]
  | .lst xs, y, h => by cases y <;> simp only [alikeP, Bool.false_eq_true] at h; simp only [pd, ltK, PySem.W.dataLt_list]; exact ltKs_pd h
  | .tup xs, y, h => by cases y <;> simp only [alikeP, Bool.false_eq_true] at h; simp only [pd, ltK, PySem.W.dataLt_tuple]; exact ltKs_pd h
  | .fn _, y, h => by cases y <;> simp only [alikeP, Bool.false_eq_true] at h
theorem ltKs_pd : ∀ {xs ys : List PV}, alikePs xs ys = true → PyProof.Rows.lexLt PyProof.Rows.itemOrd (PySem.W.keyToksAll (pds xs)) (PySem.W.keyToksAll (pds ys)) = ltKs xs ys
  | [], [], _ => by simp only [pds, PySem.W.keyToksAll, ltKs]; decide
  | [], y :: ys, _ => by
    simp only [pds, PySem.W.keyToksAll, ltKs]
    rw [PySem.W.lex_atom (by decide)]
    decide
  | x :: xs, [], _ => by
    simp only [pds, PySem.W.keyToksAll, ltKs]
    rw [PySem.W.lex_atom (by decide)]
    decide
  | x :: xs, y :: ys, h => by
    simp only [alikePs, Bool.and_eq_true] at h
    simp only [pds, ltKs]
    rw [PySem.W.dataLt_cons (alike_pd h.1), pd_eqv]
    split
    · exact ltKs_pd h.2
    · exact ltK_pd h.1
end
abbrev leD : PV → PV → Bool := PySem.W.dataLe false pd
theorem leD_eq (x y : PV) : leD x y = !PySem.W.dataLt (pd y) (pd x) := rfl
theorem leK_leD {x y : PV} (h : alikeP y x = true) : leK x y = leD x y := by rw [leD_eq, ltK_pd h]; rfl
section
variable {le le' : PV → PV → Bool}
theorem mem_insB {x y : PV} : ∀ {l : List PV}, y ∈ insB le x l ↔ y = x ∨ y ∈ l
  | [] => by simp [insB]
  | z :: r => by
    unfold insB
    split
    · simp
    · rw [List.mem_cons, mem_insB, List.mem_cons]
      constructor
      · rintro (h | h | h)
        · exact .inr (.inl h)
        · exact .inl h
        · exact .inr (.inr h)
      · rintro (h | h | h)
        · exact .inr (.inl h)
        · exact .inl h
        · exact .inr (.inr h)
theorem mem_sortB {y : PV} : ∀ {l : List PV}, y ∈ sortB le l ↔ y ∈ l
  | [] => by simp [sortB]
  | x :: r => by unfold sortB; rw [mem_insB, mem_sortB, List.mem_cons]
theorem insB_congr {x : PV} : ∀ {l : List PV}, (∀ y ∈ l, le x y = le' x y) → insB le x l = insB le' x l
  | [], _ => rfl
  | z :: r, h => by
    unfold insB
    rw [h z List.mem_cons_self, insB_congr fun y hy => h y (List.mem_cons_of_mem _ hy)]
theorem sortB_congr : ∀ {l : List PV}, (∀ x ∈ l, ∀ y ∈ l, le x y = le' x y) → sortB le l = sortB le' l
  | [], _ => rfl
  | x :: r, h => by
    unfold sortB
    rw [sortB_congr fun a ha b hb => h a (List.mem_cons_of_mem _ ha) b (List.mem_cons_of_mem _ hb)]
    exact insB_congr fun y hy => h x List.mem_cons_self y (List.mem_cons_of_mem _ (mem_sortB.mp hy))
theorem insB_pw (T : PySem.W.TotalLe le) {x : PV} : ∀ {l : List PV}, l.Pairwise (fun a b => le a b = true) → (insB le x l).Pairwise (fun a b => le a b = true)
  | [], _ => by simp [insB]
  | z :: r, h => by
    obtain ⟨h1, h2⟩ := List.pairwise_cons.mp h
    unfold insB
    split
    · rename_i hx
      refine List.pairwise_cons.mpr ⟨fun y hy => ?_, h⟩
      rcases List.mem_cons.mp hy with rfl | hy
      · exact hx
      · exact T.trans _ _ _ hx (h1 y hy)
    · rename_i hx
      have hz : le z x = true := (T.total z x).resolve_right hx
      refine List.pairwise_cons.mpr ⟨fun y hy => ?_, insB_pw T h2⟩
      rcases mem_insB.mp hy with rfl | hy
      · exact hz
      · exact h1 y hy
theorem insB_st (T : PySem.W.TotalLe le) {x c : PV} : ∀ {l : List PV}, (insB le x l).filter (PySem.W.sameRank le c) = (x :: l).filter (PySem.W.sameRank le c)
  | [] => rfl
  | z :: r => by
    unfold insB
    split
    · rfl
    · rename_i hx
      rw [List.filter_cons, insB_st T]
      by_cases hz : PySem.W.sameRank le c z = true
      · have hcx : ¬ PySem.W.sameRank le c x = true := fun h => by
          unfold PySem.W.sameRank at hz h
          rw [Bool.and_eq_true] at hz h
          exact hx (T.trans _ _ _ h.2 hz.1)
        rw [if_pos hz, List.filter_cons_of_neg hcx, List.filter_cons_of_neg hcx, List.filter_cons_of_pos hz]
      · rw [if_neg hz]
        by_cases hcx : PySem.W.sameRank le c x = true
        · rw [List.filter_cons_of_pos hcx, List.filter_cons_of_pos hcx, List.filter_cons_of_neg hz]
        · rw [List.filter_cons_of_neg hcx, List.filter_cons_of_neg hcx, List.filter_cons_of_neg hz]
theorem sortB_pw (T : PySem.W.TotalLe le) : ∀ l : List PV, (sortB le l).Pairwise (fun a b => le a b = true)
  | [] => .nil
  | x :: r => insB_pw T (sortB_pw T r)
theorem sortB_st (T : PySem.W.TotalLe le) (c : PV) : ∀ l : List PV, (sortB le l).filter (PySem.W.sameRank le c) = l.filter (PySem.W.sameRank le c)
  | [] => rfl
  | x :: r => by
    unfold sortB
    rw [insB_st T, List.filter_cons, List.filter_cons, sortB_st T c r]
theorem sortB_eq (T : PySem.W.TotalLe le) (l : List PV) : sortB le l = l.mergeSort le := PySem.W.sort_unique T (sortB_pw T l) fun c => sortB_st T c l
end
theorem leD_total : PySem.W.TotalLe leD := PySem.W.sortLe_total _ _ _
theorem isortK_eq {ys : List PV} (h : allAlike ys = true) : isortK ys = ys.mergeSort leD := by
  rw [← sortB_eq leD_total]
  refine sortB_congr fun x hx y hy => leK_leD ?_
  unfold allAlike at h
  exact List.all_eq_true.mp (List.all_eq_true.mp h y hy) x hx
theorem insB_len {le : PV → PV → Bool} (x : PV) : ∀ l : List PV, (insB le x l).length = l.length + 1
  | [] => rfl
  | z :: r => by unfold insB; split <;> simp [insB_len x r]
theorem isortK_len (l : List PV) : (isortK l).length = l.length := by
  unfold isortK
  induction l with
  | nil => rfl
  | cons x r ih => unfold sortB; rw [insB_len, ih]; rfl
theorem isortK_short {ys : List PV} (h : ys.length < 2) : isortK ys = ys := by
  match ys, h with
  | [], _ => rfl
  | [_], _ => rfl
  | _ :: _ :: _, h => simp at h; omega
section
variable {X : Cx} {K : PySem.W.Frag} {mg : PySem.Str → Option Value} {F H : Hp}
def RV (K : PySem.W.Frag) (mg : PySem.Str → Option Value) (F : Hp) (u : Value) (x : PV) : Prop := ∃ v : V, RelV v u ∧ Rep K mg F x v
theorem each_of : ∀ {ys : List PV} {ws : List V} {us : List Value}, RepL K mg F ys ws → Vals ws us → PySem.W.EachIs (RV K mg F) us ys
  | [], _, _, r, q => by cases r; cases q; exact .nil
  | _ :: _, _, _, ⟨v, t, e, a, b⟩, q => by
    subst e
    cases q with
    | cons h1 h2 => exact .cons ⟨v, h1, a⟩ (each_of b h2)
theorem of_each : ∀ {ys : List PV} {us : List Value}, PySem.W.EachIs (RV K mg F) us ys → ∃ ws, RepL K mg F ys ws ∧ Vals ws us
  | [], _, .nil => ⟨[], rfl, .nil⟩
  | _ :: _, _, .cons ⟨v, h1, a⟩ h => by
    obtain ⟨ws, r, q⟩ := of_each h
    exact ⟨v :: ws, ⟨v, ws, rfl, a, r⟩, .cons h1 q⟩
theorem each_reads {pins : List (Addr × Obj)} {σ : L2.St} {H : Hp} {s : Shared} (I : Inv X pins σ H s) (hs : Sub F H) : ∀ {ys : List PV} {us : List Value}, noFns ys = true → PySem.W.EachIs (RV X.K mg F) us ys → PySem.W.EachIs (fun v b => ∃ as, PySem.Reads s.heap v (pd b) as) us ys
  | [], _, _, .nil => .nil
  | y :: ys, _, n, .cons ⟨v, h1, a⟩ h => by
    simp only [noFns, Bool.and_eq_true] at n
    exact .cons (Dp.reads I _ v _ (a.dp hs n.1) h1) (each_reads I hs n.2 h)
end
theorem pds_map : ∀ ys : List PV, pds ys = ys.map pd
  | [] => rfl
  | y :: ys => by show pd y :: pds ys = _; rw [pds_map ys]; rfl
theorem allAlike_pd {ys : List PV} (h : allAlike ys = true) : PySem.W.AllAlike (ys.map pd) := by
  intro d hd d' hd'
  obtain ⟨y, hy, rfl⟩ := List.mem_map.mp hd
  obtain ⟨y', hy', rfl⟩ := List.mem_map.mp hd'
  unfold allAlike at h
  exact alike_pd (List.all_eq_true.mp (List.all_eq_true.mp h y hy) y' hy')
theorem sortable_pd {ys : List PV} (h : (ys.all isNT || ys.all isOne) = true) : PySem.W.Sortable (ys.map pd) := by
  rw [Bool.or_eq_true] at h
  rcases h with h | h
  · refine .inl fun d hd => ?_
    obtain ⟨y, hy, rfl⟩ := List.mem_map.mp hd
    have := List.all_eq_true.mp h y hy
    cases y with
    | tup xs => cases xs with
      | nil => simp [isNT] at this
      | cons x xs => exact ⟨_, _, rfl⟩
    | _ => simp [isNT] at this
  · refine .inr fun d hd => ?_
    obtain ⟨y, hy, rfl⟩ := List.mem_map.mp hd
    have := List.all_eq_true.mp h y hy
    cases y <;> simp [isOne] at this <;> exact ⟨(by simp [pd]), fun xs => by simp [pd]⟩
theorem dpLes_mem : ∀ {n : Nat} {ys : List PV}, dpLes n ys = true → ∀ y ∈ ys, dpLe n y = true
  | _, [], _, _, h => by cases h
  | n, z :: ys, h, y, hy => by
    simp only [dpLes, Bool.and_eq_true] at h
    rcases List.mem_cons.mp hy with rfl | hy
    · exact h.1
    · exact dpLes_mem h.2 y hy
section
variable {X : Cx}
theorem call_sorted {pins : List (Addr × Obj)} {σ : L2.St} {H F : Hp} {s : Shared} {E : Value → Shared → Prop} {p : Addr} {ys : List PV} {ws : List V} {us : List Value} {Q : Value → Shared → Prop} (hu : X.A.units + 64 < cLine) (I : Inv X pins σ H s) (hs : Sub F H) (r : RepL X.K X.mg F ys ws) (rv : Vals ws us) (hl : s.heap.IsList p us.toArray) (hz : us.length ≤ sizeLine) (hok : sortOk ys = true)
    (h : ∀ (zs : List V) (q : Addr), RepL X.K X.mg F (isortK ys) zs → H q = none → ∀ s', Inv X pins σ (upd H q (.lst zs)) s' → Q (.ref q) s') : wpAny (model X.prog X.w) X.A (call (.builtin "sorted") [.ref p]) Q E s := by
  have e1 := each_of r rv
  have fin : ∀ out : List Value, out.length = us.length → PySem.W.EachIs (RV X.K X.mg F) out (isortK ys) → Q (.ref (s.heap.objs.size + 1)) { s with heap := sortedAll s.heap us out.toArray } := fun out hl2 eo => by
    obtain ⟨zs, r2, q2⟩ := of_each eo
    obtain ⟨n, hn⟩ := sortedAll_at s.heap us out.toArray
    have hfr : H (s.heap.objs.size + 1) = none := I.hok.fresh (Nat.le_succ _)
    refine h zs _ r2 hfr _ (I.laid (t' := s.toks) (fun b o e => sortedAll_old e) (Nat.le_succ _) ⟨?_, out, n, q2, hn⟩)
    rw [q2.length, hl2]; exact hz
  unfold sortOk at hok
  rw [Bool.and_eq_true] at hok
  obtain ⟨hn, hok⟩ := hok
  have er := each_reads I hs hn e1
  by_cases h2 : ys.length < 2
  · refine SrtO.sorted_ord (ltv := fun _ _ => false) ⟨fun _ _ h => (by cases h), fun _ _ _ _ _ => rfl⟩ hl hz (fun h3 => absurd h3 (by rw [← rv.length, ← r.length]; omega)) fun out _ hb => ?_
    rw [isortK_short h2] at fin
    have : out = us := by
      have hp := hb.perm
      have hlu : us.length < 2 := by rw [← rv.length, ← r.length]; exact h2
      match us, hlu with
      | [], _ => exact hp.eq_nil
      | [u], _ => exact List.perm_singleton.mp hp
      | _ :: _ :: _, h => simp at h; omega
    rw [this]
    exact fin us rfl e1
  · rw [decide_eq_false h2, Bool.false_or, Bool.and_eq_true, Bool.and_eq_true] at hok
    obtain ⟨⟨ha, hk⟩, hd⟩ := hok
    rw [isortK_eq ha] at fin
    refine PySem.W.sorted_data (enc := pd) (bs := ys) (R := RV X.K X.mg F) hl e1 er (allAlike_pd ha) (sortable_pd hk) (by rw [r.length, rv.length]; exact hz) (fun b hb => ?_) fun out hlen eo => fin out (by rw [hlen, r.length, rv.length]) eo
    have := pd_depth (dpLes_mem hd b hb)
    simp only [eqD] at this
    omega
theorem call_sortedT {pins : List (Addr × Obj)} {σ : L2.St} {H F : Hp} {s : Shared} {E : Value → Shared → Prop} {p : Addr} {ys : List PV} {ws : List V} {us : List Value} {Q : Value → Shared → Prop} (hu : X.A.units + 64 < cLine) (I : Inv X pins σ H s) (hs : Sub F H) (r : RepL X.K X.mg F ys ws) (rv : Vals ws us) (hl : s.heap.IsTuple p us.toArray) (hz : us.length ≤ sizeLine) (hok : sortOk ys = true)
    (h : ∀ (zs : List V) (q : Addr), RepL X.K X.mg F (isortK ys) zs → H q = none → ∀ s', Inv X pins σ (upd H q (.lst zs)) s' → Q (.ref q) s') : wpAny (model X.prog X.w) X.A (call (.builtin "sorted") [.ref p]) Q E s := by
  obtain ⟨o, ho, hc, n, hd⟩ := hl
  have e1 := each_of r rv
  refine Calls.call_function_entry kind_sorted plain_sorted entry_sorted (args_sorted1 _) ?_
  unfold Builtin.«sorted»
  refine wpAny_bind (m := checkCount "sorted" 1 1 _) ?_
  refine wpAny_pure ?_
  refine wpAny_bind (wpAny_collect_seq p (.inr rfl) ho hc hd (fun h' hk => ?_) (by rw [List.size_toArray]; exact hz))
  rw [show us.toArray.toList = us by simp]
  refine wpAny_bind (wpAny_newList (items := us) ?_ hz)
  have I1 : Inv X pins σ H { s with heap := h' } := I.kept (t' := s.toks) hk
  have hoL : (h'.push (seqObj "list" us.toArray 0)).get? h'.objs.size = some (seqObj "list" us.toArray 0) := Heap.get?_push_size _ rfl
  have hfr : H h'.objs.size = none := I1.hok.fresh (Nat.le_refl _)
  have keep : ∀ b o, h'.get? b = some o → b ≠ h'.objs.size ∧ (h'.push (seqObj "list" us.toArray 0)).get? b = some o := fun b o q => ⟨Nat.ne_of_lt (Heap.lt_size q), Heap.get?_push_of_some _ q⟩
  have fin : ∀ out : List Value, out.length = us.length → PySem.W.EachIs (RV X.K X.mg F) out (isortK ys) → Q (.ref h'.objs.size) { s with heap := sortedHeap (h'.push (seqObj "list" us.toArray 0)) h'.objs.size us out.toArray } := fun out hl2 eo => by
    obtain ⟨zs, r2, q2⟩ := of_each eo
    obtain ⟨m, hm⟩ := sortedHeap_at (out := out.toArray) hoL
    refine h zs _ r2 hfr _ (I1.laid (t' := s.toks) (fun b o e => ?_) (Nat.le_refl _) ⟨by rw [q2.length, hl2]; exact hz, out, m, q2, hm⟩)
    obtain ⟨k1, k2⟩ := keep b o e
    rw [sortedHeap_old k1 (Heap.lt_size k2)]
    exact k2
  unfold sortOk at hok
  rw [Bool.and_eq_true] at hok
  obtain ⟨hn, hok⟩ := hok
  have er := each_reads I1 hs hn e1
  have key : ∀ E' : Value → Shared → Prop, wpAny (model X.prog X.w) X.A.in1.in1 (Builtin.«list.sort» ⟨[.ref h'.objs.size], []⟩) (fun f s' => f = .done (.ret .none) ∧ Q (.ref h'.objs.size) s') E' { s with heap := h'.push (seqObj "list" us.toArray 0) } := fun E' => by
    by_cases h2 : ys.length < 2
    · have hu2 : us.length < 2 := by rw [← rv.length, ← r.length]; exact h2
      refine SrtO.list_sort_ord (ltv := fun _ _ => false) (s := { s with heap := h'.push (seqObj "list" us.toArray 0) }) ⟨fun _ _ h => (by cases h), fun _ _ _ _ _ => rfl⟩ hoL hz (fun h3 => absurd h3 (by omega)) fun out _ hb => ⟨rfl, ?_⟩
      have : out = us := by
        have hp := hb.perm
        match us, hu2 with
        | [], _ => exact hp.eq_nil
        | [u], _ => exact List.perm_singleton.mp hp
        | _ :: _ :: _, h => simp at h; omega
      rw [isortK_short h2] at fin
      rw [this]
      exact fin us rfl e1
    · rw [decide_eq_false h2, Bool.false_or, Bool.and_eq_true, Bool.and_eq_true] at hok
      obtain ⟨⟨ha, hk2⟩, hdp⟩ := hok
      have er' : PySem.W.EachIs (fun v b => ∃ as, Reads (PySem.W.sortingHeap (h'.push (seqObj "list" us.toArray 0)) h'.objs.size us) v (pd b) as) us ys := er.mono fun v b hx => by
        obtain ⟨as, rd⟩ := hx
        refine ⟨as, PyProof.Rows.Reads.keeps (fun b o hb => ?_) rd⟩
        obtain ⟨k1, k2⟩ := keep b o hb
        exact PySem.W.sortingHeap_old k1 k2
      have hus : us.length = ys.length := by rw [r.length, rv.length]
      refine PySem.W.list_sort_vals (κ := PySem.W.dataKind (PySem.W.sortingHeap (h'.push (seqObj "list" us.toArray 0)) h'.objs.size us) (ys.map pd)) (s := { s with heap := h'.push (seqObj "list" us.toArray 0) }) hoL (PySem.W.SortsAt.data (PySem.W.each_map pd er') (allAlike_pd ha) (sortable_pd hk2) fun d hd2 => ?_) hz ⟨rfl, ?_⟩
      · obtain ⟨b, hb, rfl⟩ := List.mem_map.mp hd2
        have := pd_depth (dpLes_mem hdp b hb)
        simp only [eqD] at this
        show X.A.units + 2 + _ < _
        omega
      · rw [isortK_eq ha] at fin
        exact fin _ (by rw [PySem.W.sortVals_length false rfl]) (PySem.W.sortVals_data false e1 er' (allAlike_pd ha))
  refine wpAny_bind (wpAny_holding (wpAny_call_entry slot_list_sort ⟨_, hoL, rfl⟩ entry_list_sort (wpAny_mono (key _) (fun f s' hf => ?_) fun _ _ e => e) (args_list_sort _)))
  obtain ⟨rfl, hq⟩ := hf
  exact ⟨_, rfl, wpAny_pure ⟨_, rfl, hq⟩⟩
mutual
theorem pd_inj : ∀ {x y : PV}, noFn x = true → noFn y = true → pd x = pd y → x = y
  | .non, y, _, n, h => by cases y <;> first | rfl | (simp [pd] at h; done) | (simp [noFn] at n)
  | .bl _, y, _, _, h => by cases y <;> simp [pd] at h; rw [h]
  | .int _, y, _, _, h => by cases y <;> simp [pd] at h; rw [h]
  | .str _, y, _, _, h => by cases y <;> simp [pd] at h; rw [h]
  | .tup xs, y, n1, n2, h => by cases y <;> simp only [pd, PyData.tuple.injEq, reduceCtorEq] at h; rw [pds_inj n1 n2 h]
  | .lst xs, y, n1, n2, h => by cases y <;> simp only [pd, PyData.list.injEq, reduceCtorEq] at h; rw [pds_inj n1 n2 h]
  | .fn _, _, n, _, _ => by simp [noFn] at n
theorem pds_inj : ∀ {xs ys : List PV}, noFns xs = true → noFns ys = true → pds xs = pds ys → xs = ys
  | [], ys, _, _, h => by cases ys <;> simp [pds] at h; rfl
  | x :: xs, ys, n1, n2, h => by
    cases ys with
    | nil => simp [pds] at h
    | cons y ys =>
      simp only [pds, List.cons.injEq] at h
      simp only [noFns, Bool.and_eq_true] at n1 n2
      rw [pd_inj n1.1 n2.1 h.1, pds_inj n1.2 n2.2 h.2]
end
theorem minP_mem : ∀ {ys : List PV} {y : PV}, minP y ys ∈ y :: ys
  | [], y => by simp [minP]
  | z :: r, y => by
    unfold minP
    split
    · exact List.mem_cons_of_mem _ minP_mem
    · rcases List.mem_cons.mp (minP_mem (ys := r) (y := y)) with h | h
      · rw [h]; exact List.mem_cons_self
      · exact List.mem_cons_of_mem _ (List.mem_cons_of_mem _ h)
theorem maxP_mem : ∀ {ys : List PV} {y : PV}, maxP y ys ∈ y :: ys
  | [], y => by simp [maxP]
  | z :: r, y => by
    unfold maxP
    split
    · exact List.mem_cons_of_mem _ maxP_mem
    · rcases List.mem_cons.mp (maxP_mem (ys := r) (y := y)) with h | h
      · rw [h]; exact List.mem_cons_self
      · exact List.mem_cons_of_mem _ (List.mem_cons_of_mem _ h)
theorem minD_pd : ∀ {ys : List PV} {y : PV}, (∀ a ∈ y :: ys, ∀ b ∈ y :: ys, alikeP a b = true) → PySem.W.minD (pd y) (pds ys) = pd (minP y ys)
  | [], y, _ => rfl
  | z :: r, y, h => by
    have e : PySem.W.minD (pd y) (pds (z :: r)) = PySem.W.minD (if PySem.W.dataLt (pd z) (pd y) = true then pd z else pd y) (pds r) := rfl
    rw [e, ltK_pd (h z (by simp) y (by simp))]
    unfold minP
    split
    · exact minD_pd fun a ha b hb => h a (List.mem_cons_of_mem _ ha) b (List.mem_cons_of_mem _ hb)
    · refine minD_pd fun a ha b hb => h a ?_ b ?_
      · rcases List.mem_cons.mp ha with rfl | ha
        · exact List.mem_cons_self
        · exact List.mem_cons_of_mem _ (List.mem_cons_of_mem _ ha)
      · rcases List.mem_cons.mp hb with rfl | hb
        · exact List.mem_cons_self
        · exact List.mem_cons_of_mem _ (List.mem_cons_of_mem _ hb)
theorem maxD_pd : ∀ {ys : List PV} {y : PV}, (∀ a ∈ y :: ys, ∀ b ∈ y :: ys, alikeP a b = true) → PySem.W.maxD (pd y) (pds ys) = pd (maxP y ys)
  | [], y, _ => rfl
  | z :: r, y, h => by
    have e : PySem.W.maxD (pd y) (pds (z :: r)) = PySem.W.maxD (if PySem.W.dataLt (pd y) (pd z) = true then pd z else pd y) (pds r) := rfl
    rw [e, ltK_pd (h y (by simp) z (by simp))]
    unfold maxP
    split
    · exact maxD_pd fun a ha b hb => h a (List.mem_cons_of_mem _ ha) b (List.mem_cons_of_mem _ hb)
    · refine maxD_pd fun a ha b hb => h a ?_ b ?_
      · rcases List.mem_cons.mp ha with rfl | ha
        · exact List.mem_cons_self
        · exact List.mem_cons_of_mem _ (List.mem_cons_of_mem _ ha)
      · rcases List.mem_cons.mp hb with rfl | hb
        · exact List.mem_cons_self
        · exact List.mem_cons_of_mem _ (List.mem_cons_of_mem _ hb)
theorem noFns_mem : ∀ {ys : List PV}, noFns ys = true → ∀ y ∈ ys, noFn y = true
  | [], _, _, h => by cases h
  | z :: ys, n, y, hy => by
    simp only [noFns, Bool.and_eq_true] at n
    rcases List.mem_cons.mp hy with rfl | hy
    · exact n.1
    · exact noFns_mem n.2 y hy
theorem readsAll_of {pins : List (Addr × Obj)} {σ : L2.St} {H F : Hp} {s : Shared} (I : Inv X pins σ H s) (hs : Sub F H) : ∀ {ys : List PV} {us : List Value}, noFns ys = true → PySem.W.EachIs (RV X.K X.mg F) us ys → ∃ as, ReadsAll s.heap us (pds ys) as
  | [], _, _, .nil => ⟨[], .nil⟩
  | y :: ys, _, n, .cons ⟨v, h1, a⟩ h => by
    simp only [noFns, Bool.and_eq_true] at n
    obtain ⟨as, q⟩ := Dp.reads I _ v _ (a.dp hs n.1) h1
    obtain ⟨bs, q2⟩ := readsAll_of I hs n.2 h
    exact ⟨_, .cons q q2⟩
theorem each_get {R : Value → PV → Prop} : ∀ {us : List Value} {ys : List PV} {i : Nat} {u : Value}, PySem.W.EachIs R us ys → us[i]? = some u → ∃ y, ys[i]? = some y ∧ R u y
  | _, _, _, _, .nil, h => by simp at h
  | _, _, 0, _, .cons a _, h => by simp at h; subst h; exact ⟨_, rfl, a⟩
  | _, _, i + 1, _, .cons _ b, h => by obtain ⟨y, h1, h2⟩ := each_get (i := i) b (by simpa using h); exact ⟨y, by simpa using h1, h2⟩
theorem pick_item {pins : List (Addr × Obj)} {σ : L2.St} {H F : Hp} {s : Shared} {h' : Heap} (I : Inv X pins σ H s) (hs : Sub F H) {ys : List PV} {us : List Value} {i : Nat} {u : Value} {z : PV} {bs : List Addr} (hn : noFns ys = true) (e1 : PySem.W.EachIs (RV X.K X.mg F) us ys) (hi : us[i]? = some u)
    (hz : z ∈ ys) (hr : PySem.Reads h' u (pd z) bs) (hk : ∀ b o, s.heap.get? b = some o → h'.get? b = some o) : ∃ v : V, RelV v u ∧ Rep X.K X.mg F z v := by
  obtain ⟨y, hy, v, h1, h2⟩ := each_get e1 hi
  have hym := List.mem_of_getElem? hy
  obtain ⟨as, q⟩ := Dp.reads I _ v u (h2.dp hs (noFns_mem hn y hym)) h1
  have e := SeqAt.Reads.unique _ _ _ _ _ (pd_lay h2) (PySem.W.reads_keeps hk q) hr
  have e2 := pd_inj (noFns_mem hn y hym) (noFns_mem hn z hz) e
  exact ⟨v, h1, by rw [← e2]; exact h2⟩
theorem alikeAll_pd {ys : List PV} (h : allAlike ys = true) (hn : ∀ y ∈ ys, pd y ≠ .none) : PySem.W.AlikeAll (pds ys) := by
  rw [pds_map]
  refine ⟨fun d hd d' hd' => allAlike_pd h d hd d' hd', fun d hd => ?_⟩
  obtain ⟨y, hy, rfl⟩ := List.mem_map.mp hd
  exact hn y hy
end
end FW

namespace FW
open PySem PySem.Spec PyProof.Rows L2
section
variable {X : Cx} {a b c e : Expr} {es : List Expr} {pos : Pos} {fa fb fc : VS} {ts : LS}

theorem pe_ofV {t : TE} {f : VS} (h : PE X e t) (m : ∀ (ι : Plc) (F : Hp) (S : Store) (ρ : Slots) (x : SV) (S' : Store) (σ : L2.St) (H : Hp) (Q : VK), Sim X.K X.mg ι F S H → RepR X.K X.mg F ι ρ σ → f ρ S = .ok x S' →
    (∀ ι' F' v H', Ext ι F ι' F' → Sim X.K X.mg ι' F' S' H' → RepS X.K X.mg F' ι' x v → Q v H') → t σ H Q) : PE X e (rdE X.K X.mg f) :=
  pe_mono h fun σ H Q ⟨ι, F, S, ρ, x, S', sim, r, hf, q⟩ => m ι F S ρ x S' σ H Q sim r hf q
theorem s_var {i : Nat} {x : PySem.Str} (hN : X.N[i]? = some x) (hv : Vis X.env.scope x) (hd : (x == ("__debug__" : PySem.Str)) = false) (hcd : (x == ("__classdict__" : PySem.Str)) = false) : PE X (.Name x pos) (rdE X.K X.mg (sVar i)) := by
  refine pe_ofV (pe_var (i := i) hN hv hd hcd) fun ι F S ρ y S' σ H Q sim r hf q => ?_
  unfold sVar at hf
  split at hf
  · rename_i z hz
    cases hf
    obtain ⟨v, h1, h2⟩ := r.get hz
    exact ⟨v, h1, q _ _ _ _ Ext.refl sim h2⟩
  · cases hf
def kOf : PV → Option Const
  | .non => some .none
  | .bl b => some (.bool b)
  | .int i => some (.int i)
  | .str s => if PyData.strOk s = true then some (.str s) else none
  | _ => none
theorem s_k {x : PV} {k : Const} {j : Nat} (h : kOf x = some k) : PE X (.Constant k j pos) (rdE X.K X.mg (sK x)) := by
  have fin : ∀ {v : V}, Rep X.K X.mg (fun _ => none) x v → PE X (.Constant k j pos) (tC v) → PE X (.Constant k j pos) (rdE X.K X.mg (sK x)) := fun {v} r p =>
    pe_ofV p fun ι F S ρ y S' σ H Q sim rr hf q => by
      cases hf
      exact q _ _ _ _ Ext.refl sim (r.mono fun _ _ z => by cases z)
  cases x with
  | non => cases h; exact fin (v := .non) rfl pe_non
  | bl b => cases h; exact fin (v := .bl b) rfl pe_bl
  | int i => cases h; exact fin (v := .int i) rfl pe_int
  | str s =>
    simp only [kOf] at h
    split at h
    · rename_i hs
      cases h
      exact fin (v := .str s) ⟨rfl, hs⟩ pe_str
    · cases h
  | tup xs => cases h
  | lst xs => cases h
  | fn _ => cases h
  | dic _ _ => cases h
def TupK (K : PySem.W.Frag) (x : PV) (v : V) : Prop := match x with
  | .tup _ => ∃ p o, v = .ref p ∧ K.lookup p = some o ∧ o.cls = .type "tuple" ∧ o.dict = none
  | _ => True
def KeysI : List DictEntry → List PV → List PV → Prop
  | [], ks, vs => ks = [] ∧ vs = []
  | e :: r, ks, vs => ∃ (k v : Int) (t t' : Tok) (ks' vs' : List PV), ks = .int k :: ks' ∧ vs = .int v :: vs' ∧ e.key = .int k t ∧ e.hash = hashInt k ∧ e.val = .int v t' ∧ KeysI r ks' vs'
def GlobD (K : PySem.W.Frag) (mg : PySem.Str → Option Value) (n : PySem.Str) (ks vs : List PV) : Prop :=
  ∃ (d : Addr) (es : Array DictEntry) (m : Nat), mg n = some (.ref d) ∧ K.lookup d = some ⟨.type "dict", none, .dict es m, #[]⟩ ∧ (d == sysModules) = false ∧ KeysI es.toList ks vs
def notDic : PV → Bool
  | .dic _ _ => false
  | _ => true
def GlobOk (K : PySem.W.Frag) (mg : PySem.Str → Option Value) (n : PySem.Str) (x : PV) : Prop := match x with
  | .dic ks vs => GlobD K mg n ks vs
  | x => ∃ u v, mg n = some u ∧ RelV v u ∧ Rep K mg (fun _ => none) x v ∧ TupK K x v
theorem GlobOk.val {K : PySem.W.Frag} {mg : PySem.Str → Option Value} {n : PySem.Str} {x : PV} (h : GlobOk K mg n x) (hx : notDic x = true) : ∃ u v, mg n = some u ∧ RelV v u ∧ Rep K mg (fun _ => none) x v ∧ TupK K x v := by
  cases x <;> first | exact h | cases hx
theorem s_glob {n : PySem.Str} {x : PV} (hg : Gl X n) (h : GlobOk X.K X.mg n x) (hx : notDic x = true) (hd : (n == ("__debug__" : PySem.Str)) = false) : PE X (.Name n pos) (rdE X.K X.mg (sK x)) := by
  obtain ⟨u, v, h1, h2, h3, _⟩ := h.val hx
  refine pe_ofV (pe_glob hg h1 h2 hd) fun ι F S ρ y S' σ H Q sim rr hf q => ?_
  cases hf
  exact q _ _ _ _ Ext.refl sim (h3.mono fun _ _ z => by cases z)
theorem s_nil : PA X [] (rdA X.K X.mg sNil) := pa_mono pa_nil fun σ H Q h => by
  obtain ⟨ι, F, S, ρ, xs, S', sim, r, hf, q⟩ := h
  cases hf
  exact q _ _ _ _ Ext.refl sim rfl
theorem s_cons (ha : PE X e (rdE X.K X.mg fa)) (hr : PA X es (rdA X.K X.mg ts)) (hs : starEach (e :: es) X.env = (false, eval e X.env) :: starEach es X.env) : PA X (e :: es) (rdA X.K X.mg (sCons fa ts)) :=
  pa_mono (pa_cons ha hr hs) fun σ H Q h => by
    obtain ⟨ι, F, S, ρ, xs, S', sim, r, hf, q⟩ := h
    obtain ⟨x, S1, h1, hf⟩ := bind_ok hf
    obtain ⟨ys, S2, h2, hf⟩ := bind_ok hf
    cases hf
    refine ⟨ι, F, S, ρ, x, S1, sim, r, h1, fun ι1 F1 v H1 e1 s1 r1 => ?_⟩
    refine ⟨ι1, F1, S1, ρ, ys, S', s1, r.mono e1, h2, fun ι2 F2 vs H2 e2 s2 r2 => ?_⟩
    exact q _ _ _ _ (e1.trans e2) s2 ⟨v, vs, rfl, r1.mono e2, r2⟩
theorem s_tup {k : Nat} (h : PA X es (rdA X.K X.mg ts)) : PE X (.Tuple es k pos) (rdE X.K X.mg (sTup ts)) := by
  refine pe_ofV (pe_tup h) fun ι F S ρ y S' σ H Q sim r hf q => ?_
  obtain ⟨xs, S1, h1, hf⟩ := bind_ok hf
  split at hf
  · rename_i ys hp
    refine ⟨ι, F, S, ρ, xs, S1, sim, r, h1, fun ι1 F1 vs H1 e1 s1 r1 => ?_⟩
    obtain ⟨g1, g2, _⟩ := fin_mkT s1 (r1.pures hp) hf fun ι2 F2 u H2 e2 s2 r2 => q _ _ _ _ (e1.trans e2) s2 r2
    exact ⟨g1, g2⟩
  · cases hf
theorem s_list {m : Bool} (h : PA X es (rdA X.K X.mg ts)) : PE X (.List es pos) (rdE X.K X.mg (sList m ts)) := by
  refine pe_ofV (pe_lst h) fun ι F S ρ y S' σ H Q sim r hf q => ?_
  obtain ⟨xs, S1, h1, hf⟩ := bind_ok hf
  split at hf
  · rename_i ys hp
    refine ⟨ι, F, S, ρ, xs, S1, sim, r, h1, fun ι1 F1 vs H1 e1 s1 r1 => ?_⟩
    exact fin_mkL s1 (r1.pures hp) hf fun ι2 F2 u H2 e2 s2 r2 => q _ _ _ _ (e1.trans e2) s2 r2
  · cases hf
theorem two {σ : L2.St} {H : Hp} {R : V → V → Hp → Prop} {ι : Plc} {F : Hp} {S S' : Store} {ρ : Slots} {β : Type} {g : SV → SV → Store → Out β} {z : β} (sim : Sim X.K X.mg ι F S H) (r : RepR X.K X.mg F ι ρ σ)
    (h : ((fa ρ S).bind fun x S1 => (fb ρ S1).bind fun y S2 => g x y S2) = .ok z S')
    (q : ∀ ι2 F2 x y v w S2 H2, Ext ι F ι2 F2 → Sim X.K X.mg ι2 F2 S2 H2 → RepR X.K X.mg F2 ι2 ρ σ → RepS X.K X.mg F2 ι2 x v → RepS X.K X.mg F2 ι2 y w → g x y S2 = .ok z S' → R v w H2) :
    rdE X.K X.mg fa σ H fun v H1 => rdE X.K X.mg fb σ H1 fun w H2 => R v w H2 := by
  obtain ⟨x, S1, h1, h⟩ := bind_ok h
  obtain ⟨y, S2, h2, h⟩ := bind_ok h
  refine ⟨ι, F, S, ρ, x, S1, sim, r, h1, fun ι1 F1 v H1 e1 s1 r1 => ?_⟩
  refine ⟨ι1, F1, S1, ρ, y, S2, s1, r.mono e1, h2, fun ι2 F2 w H2 e2 s2 r2 => ?_⟩
  exact q _ _ _ _ _ _ _ _ (e1.trans e2) s2 (r.mono (e1.trans e2)) (r1.mono e2) r2 h
theorem s_bin {o : BOp} {m : Bool} (ha : PE X a (rdE X.K X.mg fa)) (hb : PE X b (rdE X.K X.mg fb)) : PE X (.BinOp a (opOf o) b pos) (rdE X.K X.mg (sBin o m fa fb)) := by
  refine pe_ofV (pe_op (op_bin o m) ha hb) fun ι F S ρ y S' σ H Q sim r hf q => ?_
  exact two sim r hf fun ι2 F2 x y v w S2 H2 e s _ r1 r2 h => ⟨ι2, F2, S2, x, y, _, S', s, r1, r2, h, fun ι3 F3 u H3 e3 s3 r3 => q _ _ _ _ (e.trans e3) s3 r3⟩
theorem s_neg (ha : PE X a (rdE X.K X.mg fa)) : PE X (.UnaryOp .USub a pos) (rdE X.K X.mg (sNeg fa)) := by
  refine pe_ofV (pe_un un_neg ha) fun ι F S ρ y S' σ H Q sim r hf q => ?_
  obtain ⟨x, S1, h1, h⟩ := bind_ok hf
  refine ⟨ι, F, S, ρ, x, S1, sim, r, h1, fun ι1 F1 v H1 e1 s1 r1 => ?_⟩
  unfold negOp at h
  split at h
  · rename_i i
    cases h; cases r1
    exact ⟨i, rfl, q _ _ _ _ e1 s1 rfl⟩
  · cases h
theorem tru_of {K : PySem.W.Frag} {mg : PySem.Str → Option Value} {ι : Plc} {F H : Hp} {S : Store} {x : SV} {v : V} {k : Bool} (sim : Sim K mg ι F S H) (r : RepS K mg F ι x v) (h : truth S x = some k) : TruV K v H k := by
  cases x with
  | v x =>
    cases x with
    | non => cases r; cases h; rfl
    | bl b => cases r; cases h; rfl
    | int i => cases r; cases h; rfl
    | str s => cases h
    | tup xs =>
      obtain ⟨p, vs, rfl, r', q⟩ := sim.seqT r rfl
      cases h
      exact .inr (.inl ⟨vs, sim.sub.sqT q, by have := r'.length; cases xs <;> cases vs <;> simp at this ⊢⟩)
    | lst xs =>
      obtain ⟨p, vs, rfl, r', q⟩ := sim.seqL r rfl
      cases h
      exact .inl ⟨vs, .inl q, by have := r'.length; cases xs <;> cases vs <;> simp at this ⊢⟩
    | fn _ => cases h
    | dic _ _ => cases h
  | l n =>
    simp only [truth] at h
    split at h
    · rename_i xs e
      cases h
      obtain ⟨p, vs, rfl, r', q⟩ := sim.seqL (x := .l n) (xs := xs) r (by simp only [seqOf, e])
      exact .inl ⟨vs, .inl q, by have := r'.length; cases xs <;> cases vs <;> simp at this ⊢⟩
    · cases h
theorem pt_ofT {t : TT} {f : Slots → Store → Out Bool} (h : PT X e t) (m : ∀ (ι : Plc) (F : Hp) (S : Store) (ρ : Slots) (x : Bool) (S' : Store) (σ : L2.St) (H : Hp) (Q : Bool → Hp → Prop), Sim X.K X.mg ι F S H → RepR X.K X.mg F ι ρ σ → f ρ S = .ok x S' →
    (∀ ι' F' H', Ext ι F ι' F' → Sim X.K X.mg ι' F' S' H' → Q x H') → t σ H Q) : PT X e (rdT X.K X.mg f) :=
  pt_mono h fun σ H Q ⟨ι, F, S, ρ, x, S', sim, r, hf, q⟩ => m ι F S ρ x S' σ H Q sim r hf q
theorem s_tru (ha : PE X a (rdE X.K X.mg fa)) (he : ∀ whole, isTrue a X.env whole = (do let v ← whole; standAt a.pos; holding [v] (truthy v))) : PT X a (rdT X.K X.mg (tru fa)) := by
  refine pt_ofT (pt_truth ha he) fun ι F S ρ k S' σ H Q sim r hf q => ?_
  obtain ⟨x, S1, h1, h⟩ := bind_ok hf
  refine ⟨ι, F, S, ρ, x, S1, sim, r, h1, fun ι1 F1 v H1 e1 s1 r1 => ?_⟩
  split at h
  · rename_i b hb
    cases h
    exact ⟨k, tru_of s1 r1 hb, q _ _ _ e1 s1⟩
  · cases h
theorem s_not_v (ha : PE X a (rdE X.K X.mg fa)) : PE X (.UnaryOp .Not a pos) (rdE X.K X.mg fun ρ S => (tru fa ρ S).bind fun b S1 => .ok (.v (.bl (!b))) S1) := by
  refine pe_ofV (pe_notT ha) fun ι F S ρ k S' σ H Q sim r hf q => ?_
  obtain ⟨b, S0, h0, hf⟩ := bind_ok hf
  cases hf
  obtain ⟨x, S1, h1, h⟩ := bind_ok h0
  refine ⟨ι, F, S, ρ, x, S1, sim, r, h1, fun ι1 F1 v H1 e1 s1 r1 => ?_⟩
  split at h
  · rename_i b' hb
    cases h
    exact ⟨b, tru_of s1 r1 hb, q _ _ _ _ e1 s1 rfl⟩
  · cases h
theorem s_not_t {f : Slots → Store → Out Bool} (ha : PT X a (rdT X.K X.mg f)) : PT X (.UnaryOp .Not a pos) (rdT X.K X.mg fun ρ S => (f ρ S).bind fun b S1 => .ok (!b) S1) := by
  refine pt_ofT (pt_not ha) fun ι F S ρ k S' σ H Q sim r hf q => ?_
  obtain ⟨b, S0, h0, hf⟩ := bind_ok hf
  cases hf
  exact ⟨ι, F, S, ρ, b, _, sim, r, h0, fun ι1 F1 H1 e1 s1 => q _ _ _ e1 s1⟩
theorem s_and_v {p : Sm × Sm} (ha : PE X a (rdE X.K X.mg p.1.v)) (hb : PE X (.BoolOp .And (b :: es) pos) (rdE X.K X.mg p.2.v)) : PE X (.BoolOp .And (a :: b :: es) pos) (rdE X.K X.mg (sAnd1 p.1 p.2).v) := by
  refine pe_ofV (pe_andT ha hb) fun ι F S ρ k S' σ H Q sim r hf q => ?_
  obtain ⟨x, S1, h1, h⟩ := bind_ok hf
  refine ⟨ι, F, S, ρ, x, S1, sim, r, h1, fun ι1 F1 v H1 e1 s1 r1 => ?_⟩
  split at h
  · rename_i hb
    refine ⟨true, tru_of s1 r1 hb, ?_⟩
    rw [if_pos rfl]
    exact ⟨ι1, F1, S1, ρ, k, S', s1, r.mono e1, h, fun ι2 F2 v2 H2 e2 s2 r2 => q _ _ _ _ (e1.trans e2) s2 r2⟩
  · rename_i hb
    cases h
    refine ⟨false, tru_of s1 r1 hb, ?_⟩
    rw [if_neg (by simp)]
    exact q _ _ _ _ e1 s1 r1
  · cases h
theorem s_or_v {p : Sm × Sm} (ha : PE X a (rdE X.K X.mg p.1.v)) (hb : PE X (.BoolOp .Or (b :: es) pos) (rdE X.K X.mg p.2.v)) : PE X (.BoolOp .Or (a :: b :: es) pos) (rdE X.K X.mg (sOr1 p.1 p.2).v) := by
  refine pe_ofV (pe_orT ha hb) fun ι F S ρ k S' σ H Q sim r hf q => ?_
  obtain ⟨x, S1, h1, h⟩ := bind_ok hf
  refine ⟨ι, F, S, ρ, x, S1, sim, r, h1, fun ι1 F1 v H1 e1 s1 r1 => ?_⟩
  split at h
  · rename_i hb
    cases h
    refine ⟨true, tru_of s1 r1 hb, ?_⟩
    rw [if_pos rfl]
    exact q _ _ _ _ e1 s1 r1
  · rename_i hb
    refine ⟨false, tru_of s1 r1 hb, ?_⟩
    rw [if_neg (by simp)]
    exact ⟨ι1, F1, S1, ρ, k, S', s1, r.mono e1, h, fun ι2 F2 v2 H2 e2 s2 r2 => q _ _ _ _ (e1.trans e2) s2 r2⟩
  · cases h
theorem s_and_t {p : Sm × Sm} (ha : PT X a (rdT X.K X.mg p.1.t)) (hb : PW X (.BoolOp .And (b :: es) pos) (rdT X.K X.mg p.2.t)) : PW X (.BoolOp .And (a :: b :: es) pos) (rdT X.K X.mg (sAnd1 p.1 p.2).t) := by
  refine pw_mono (pw_and ha hb) fun σ H Q ⟨ι, F, S, ρ, k, S', sim, r, hf, q⟩ => ?_
  obtain ⟨t, S1, h1, h⟩ := bind_ok hf
  refine ⟨ι, F, S, ρ, t, S1, sim, r, h1, fun ι1 F1 H1 e1 s1 => ?_⟩
  split at h
  · rename_i ht
    rw [if_pos ht]
    exact ⟨ι1, F1, S1, ρ, k, S', s1, r.mono e1, h, fun ι2 F2 H2 e2 s2 => q _ _ _ (e1.trans e2) s2⟩
  · rename_i ht
    cases h
    rw [if_neg ht]
    exact q _ _ _ e1 s1
theorem s_or_t {p : Sm × Sm} (ha : PT X a (rdT X.K X.mg p.1.t)) (hb : PW X (.BoolOp .Or (b :: es) pos) (rdT X.K X.mg p.2.t)) : PW X (.BoolOp .Or (a :: b :: es) pos) (rdT X.K X.mg (sOr1 p.1 p.2).t) := by
  refine pw_mono (pw_or ha hb) fun σ H Q ⟨ι, F, S, ρ, k, S', sim, r, hf, q⟩ => ?_
  obtain ⟨t, S1, h1, h⟩ := bind_ok hf
  refine ⟨ι, F, S, ρ, t, S1, sim, r, h1, fun ι1 F1 H1 e1 s1 => ?_⟩
  split at h
  · rename_i ht
    cases h
    rw [if_pos ht]
    exact q _ _ _ e1 s1
  · rename_i ht
    rw [if_neg ht]
    exact ⟨ι1, F1, S1, ρ, k, S', s1, r.mono e1, h, fun ι2 F2 H2 e2 s2 => q _ _ _ (e1.trans e2) s2⟩
theorem s_cmp_v {o : COp} (hu : X.A.units + 65 < cLine) (ha : PE X a (rdE X.K X.mg fa)) (hb : PE X b (rdE X.K X.mg fb)) (hm : behindInMarks (opC o) b = false) : PE X (.Compare a [opC o] [b] pos) (rdE X.K X.mg (sCmp o fa fb).v) := by
  refine pe_ofV (pe_cmpR (op_cmpF hu o) ha hb hm) fun ι F S ρ k S' σ H Q sim r hf q => ?_
  obtain ⟨bb, S0, h0, hf⟩ := bind_ok hf
  cases hf
  refine two sim r h0 fun ι2 F2 x y v w S2 H2 e s _ r1 r2 h => ?_
  split at h
  · rename_i b' hb
    cases h
    exact ⟨ι2, F2, _, x, y, _, s, r1, r2, hb, q _ _ _ _ e s rfl⟩
  · cases h
theorem s_cmp_t {o : COp} (hu : X.A.units + 65 < cLine) (ha : PE X a (rdE X.K X.mg fa)) (hb : PE X b (rdE X.K X.mg fb)) (hm : behindInMarks (opC o) b = false) : PT X (.Compare a [opC o] [b] pos) (rdT X.K X.mg (sCmp o fa fb).t) := by
  refine pt_ofT (pt_cmpR (op_cmpF hu o) ha hb hm) fun ι F S ρ k S' σ H Q sim r hf q => ?_
  refine two sim r hf fun ι2 F2 x y v w S2 H2 e s _ r1 r2 h => ?_
  split at h
  · rename_i b' hb
    cases h
    exact ⟨ι2, F2, _, x, y, _, s, r1, r2, hb, k, rfl, q _ _ _ e s⟩
  · cases h
theorem s_chain_v {o o' : COp} (hu : X.A.units + 65 < cLine) (ha : PE X a (rdE X.K X.mg fa)) (hb : PE X b (rdE X.K X.mg fb)) (hc : PE X c (rdE X.K X.mg fc)) (hm : lastMarks [opC o, opC o'] [b, c] = false) : PE X (.Compare a [opC o, opC o'] [b, c] pos) (rdE X.K X.mg (sChain o o' fa fb fc).v) := by
  refine pe_ofV (pe_chain (op_cmpF hu o) (op_cmpF hu o') ha hb hc hm) fun ι F S ρ k S' σ H Q sim r hf q => ?_
  obtain ⟨bb, S0, h0, hf⟩ := bind_ok hf
  cases hf
  refine two sim r h0 fun ι2 F2 x y v w S2 H2 e s rr r1 r2 h => ?_
  split at h
  · rename_i hb
    obtain ⟨z, S3, h3, h⟩ := bind_ok h
    refine ⟨ι2, F2, _, x, y, _, s, r1, r2, hb, true, rfl, ?_⟩
    rw [if_pos rfl]
    refine ⟨ι2, F2, _, ρ, z, S3, s, rr, h3, fun ι4 F4 v4 H4 e4 s4 r4 => ?_⟩
    split at h
    · rename_i b' hb
      cases h
      exact ⟨ι4, F4, _, y, z, _, s4, r2.mono e4, r4, hb, q _ _ _ _ (e.trans e4) s4 rfl⟩
    · cases h
  · rename_i hb
    cases h
    refine ⟨ι2, F2, _, x, y, _, s, r1, r2, hb, false, rfl, ?_⟩
    rw [if_neg (by simp)]
    exact q _ _ _ _ e s rfl
  · cases h
theorem s_chain_t {o o' : COp} (hu : X.A.units + 65 < cLine) (ha : PE X a (rdE X.K X.mg fa)) (hb : PE X b (rdE X.K X.mg fb)) (hc : PE X c (rdE X.K X.mg fc)) (hm : lastMarks [opC o, opC o'] [b, c] = false) : PT X (.Compare a [opC o, opC o'] [b, c] pos) (rdT X.K X.mg (sChain o o' fa fb fc).t) := by
  refine pt_ofT (pt_chain (op_cmpF hu o) (op_cmpF hu o') ha hb hc hm) fun ι F S ρ k S' σ H Q sim r hf q => ?_
  refine two sim r hf fun ι2 F2 x y v w S2 H2 e s rr r1 r2 h => ?_
  split at h
  · rename_i hb
    obtain ⟨z, S3, h3, h⟩ := bind_ok h
    refine ⟨ι2, F2, _, x, y, _, s, r1, r2, hb, true, rfl, ?_⟩
    rw [if_pos rfl]
    refine ⟨ι2, F2, _, ρ, z, S3, s, rr, h3, fun ι4 F4 v4 H4 e4 s4 r4 => ?_⟩
    split at h
    · rename_i b' hb
      cases h
      exact ⟨ι4, F4, _, y, z, _, s4, r2.mono e4, r4, hb, k, rfl, q _ _ _ (e.trans e4) s4⟩
    · cases h
  · rename_i hb
    cases h
    refine ⟨ι2, F2, _, x, y, _, s, r1, r2, hb, false, rfl, ?_⟩
    rw [if_neg (by simp)]
    exact ⟨false, rfl, q _ _ _ e s⟩
  · cases h
theorem s_ite_v {cs as bs : Sm} (hc : PT X c (rdT X.K X.mg cs.t)) (ha : PE X a (rdE X.K X.mg as.v)) (hb : PE X b (rdE X.K X.mg bs.v)) : PE X (.IfExp c a b pos) (rdE X.K X.mg (sIte cs as bs).v) := by
  refine pe_ofV (pe_ifExp hc ha hb) fun ι F S ρ k S' σ H Q sim r hf q => ?_
  obtain ⟨t, S1, h1, h⟩ := bind_ok hf
  refine ⟨ι, F, S, ρ, t, S1, sim, r, h1, fun ι1 F1 H1 e1 s1 => ?_⟩
  split at h
  · rename_i ht
    rw [if_pos ht]
    exact ⟨ι1, F1, S1, ρ, k, S', s1, r.mono e1, h, fun ι2 F2 v2 H2 e2 s2 r2 => q _ _ _ _ (e1.trans e2) s2 r2⟩
  · rename_i ht
    rw [if_neg ht]
    exact ⟨ι1, F1, S1, ρ, k, S', s1, r.mono e1, h, fun ι2 F2 v2 H2 e2 s2 r2 => q _ _ _ _ (e1.trans e2) s2 r2⟩
end
end FW

namespace FW
open PySem PySem.Spec PyProof.Rows L2

def FO (P : Program) (w : World) (K : PySem.W.Frag) (mg : PySem.Str → Option Value) (base : Heap) (k : Nat) (n : PySem.Str) (f : Fn) : Prop :=
  ∃ (a : Addr) (fd : FuncData) (ps : List PySem.Str), mg n = some (.ref a) ∧ PySem.W.keepIn K (.ref a) = true ∧ Binds K fd ps [] ∧ FnOk P w K mg base L2.CX0 k a fd ps (fun vs H Q _ => rdV K mg f vs H Q)
theorem FO.mono {P : Program} {w : World} {K : PySem.W.Frag} {mg : PySem.Str → Option Value} {base : Heap} {j k : Nat} {n : PySem.Str} {f : Fn} (h : FO P w K mg base j n f) (hk : j ≤ k) : FO P w K mg base k n f := by
  obtain ⟨a, fd, ps, h1, h2, h3, h4⟩ := h
  exact ⟨a, fd, ps, h1, h2, h3, h4.mono hk⟩
def noStar : Expr → Bool
  | .Starred _ _ => false
  | _ => true
theorem star_one {e : Expr} (h : noStar e = true) (es : List Expr) (env : Env) : starEach (e :: es) env = (false, eval e env) :: starEach es env := by
  cases e <;> first | rfl | simp [noStar] at h
theorem star_all (pos : Pos) (env : Env) : ∀ {es : List Expr}, (∀ e ∈ es, noStar e = true) → (backTo pos (starEach es env)).any (·.1) = false
  | [], _ => rfl
  | e :: es, h => by
    rw [star_one (h e List.mem_cons_self)]
    have := star_all pos env (es := es) fun x hx => h x (List.mem_cons_of_mem _ hx)
    simp only [backTo, List.map_cons, List.any_cons] at this ⊢
    simpa using this
section
variable {X : Cx} {a b c e : Expr} {es : List Expr} {pos p : Pos} {fa fb fc : VS} {ts : LS} {n : PySem.Str}
theorem call_fin {f : Fn} {ts : LS} {ι : Plc} {F' : Hp} {S S' : Store} {ρ : Slots} {x : SV} {σ : L2.St} {H : Hp} {Q : VK} (sim : Sim X.K X.mg ι F' S H) (r : RepR X.K X.mg F' ι ρ σ) (hf : sCall (some f) ts ρ S = .ok x S')
    (q : ∀ ι' F'' v H', Ext ι F' ι' F'' → Sim X.K X.mg ι' F'' S' H' → RepS X.K X.mg F'' ι' x v → Q v H') : tCall (fun vs H Q _ => rdV X.K X.mg f vs H Q) [] E0 (rdA X.K X.mg ts) σ H Q := by
  obtain ⟨xs, S1, h1, h⟩ := bind_ok hf
  refine ⟨ι, F', S, ρ, xs, S1, sim, r, h1, fun ι1 F1 vs H1 e1 s1 r1 => ?_⟩
  show rdV X.K X.mg f (vs ++ []) H1 Q
  rw [List.append_nil]
  exact ⟨ι1, F1, S1, xs, x, S', s1, r1, h, fun ι2 F2 u H2 e2 s2 r2 => q _ _ _ _ (e1.trans e2) s2 r2⟩
theorem s_call0 {k : Nat} {f : Fn} (hr : Room k X.A) (hf : FO X.prog X.w X.K X.mg X.base k n f) (hg : Gl X n) (hd : (n == ("__debug__" : PySem.Str)) = false) : PE X (.Call (.Name n p) [] [] pos) (rdE X.K X.mg (sCall (some f) sNil)) := by
  obtain ⟨ad, fd, ps, hm, hk, hb, F⟩ := hf
  refine pe_ofV (pe_mono (pe_call0 F hr hg hm hk hb .nil pass0 hd) fun σ H Q h => ?_) fun ι F' S ρ x S' σ H Q sim r hf q => call_fin sim r hf q
  obtain ⟨ι, F', S, ρ, xs, S', sim, r, hh, q⟩ := h
  cases hh
  exact q _ _ _ _ Ext.refl sim rfl
theorem s_call {k : Nat} {f : Fn} (hr : Room k X.A) (hf : FO X.prog X.w X.K X.mg X.base k n f) (hg : Gl X n) (hd : (n == ("__debug__" : PySem.Str)) = false) (ha : PA X (e :: es) (rdA X.K X.mg ts)) (hs : ∀ x ∈ e :: es, noStar x = true) :
    PE X (.Call (.Name n p) (e :: es) [] pos) (rdE X.K X.mg (sCall (some f) ts)) := by
  obtain ⟨ad, fd, ps, hm, hk, hb, F⟩ := hf
  exact pe_ofV (pe_call F hr hg hm hk hb .nil pass0 ha hd (star_one (hs e List.mem_cons_self) es X.env) (star_all pos X.env fun x hx => hs x (List.mem_cons_of_mem _ hx))) fun ι F' S ρ x S' σ H Q sim r hf q => call_fin sim r hf q

theorem s_fnv {k : Nat} {f : Fn} (hf : FO X.prog X.w X.K X.mg X.base k n f) (hg : Gl X n) (hd : (n == ("__debug__" : PySem.Str)) = false) : PE X (.Name n p) (rdE X.K X.mg (sK (.fn n))) := by
  obtain ⟨ad, fd, ps, hm, hk, hb, F⟩ := hf
  refine pe_ofV (pe_glob hg hm (v := .ref ad) rfl hd) fun ι F S ρ y S' σ H Q sim rr hf q => ?_
  cases hf
  exact q _ _ _ _ Ext.refl sim ⟨ad, rfl, hm⟩
def callHead : Expr → Bool
  | .Name _ _ => true
  | .Subscript _ _ _ => true
  | _ => false
theorem s_callv {k : Nat} {Γ : List (PySem.Str × Fn)} {fe : Expr} {ff : VS} (hr : Room k X.A) (hΓ : ∀ n f, Γ.lookup n = some f → FO X.prog X.w X.K X.mg X.base k n f) (hf : PE X fe (rdE X.K X.mg ff)) (hh : callHead fe = true) (ha : PA X (e :: es) (rdA X.K X.mg ts)) (hs : ∀ x ∈ e :: es, noStar x = true) :
    PE X (.Call fe (e :: es) [] pos) (rdE X.K X.mg (sCallv Γ ff ts)) := by
  refine ⟨fun pins s σ H Q I h => ?_⟩
  obtain ⟨ι, F, S, ρ, z, S', sim, r, hz, q⟩ := h
  obtain ⟨x, S1, h1, hz⟩ := bind_ok hz
  split at hz
  · rename_i n
    split at hz
    · rename_i g hg
      obtain ⟨ad, fd, ps, hm, hk, hb, Fn⟩ := hΓ n g hg
      have go : wpAny (model X.prog X.w) X.A (eval fe X.env) (fun f s1 => wpAny (model X.prog X.w) X.A (callWith pos f [] (backTo pos (starEach (e :: es) X.env)) []) (EP X pins σ Q) X.xe s1) X.xe s := by
        refine thn (hf.run pins s σ H (fun v H1 => v = .ref ad ∧ ∃ ι1 F1, Ext ι F ι1 F1 ∧ Sim X.K X.mg ι1 F1 S1 H1) I ⟨ι, F, S, ρ, _, S1, sim, r, h1, fun ι1 F1 v H1 e1 s1 r1 => ?_⟩) fun u s1 ⟨v, H1, I1, r1, ev, ι1, F1, e1, sim1⟩ => ?_
        · obtain ⟨a, rfl, ha'⟩ := r1
          rw [hm] at ha'; cases ha'
          exact ⟨rfl, ι1, F1, e1, s1⟩
        · subst ev
          cases r1
          have hc := call_fin (Q := Q) (ts := ts) (σ := σ) sim1 (r.mono e1) hz (fun ι2 F2 v2 H2 e2 s2 r2 => q _ _ _ _ (e1.trans e2) s2 r2)
          exact PySem.W.callWith_K (h₀ := X.base) I1.ok.mod.kin hk (thn (ha.run pos pins s1 σ H1 _ I1 hc) fun us s2 ⟨vs, H2, I2, r2, q2⟩ => ⟨I2.kIn, run_fn Fn hr hb .nil pass0 I2 r2 q2⟩) (star_one (hs e List.mem_cons_self) es X.env) (star_all pos X.env fun x hx => hs x (List.mem_cons_of_mem _ hx))
      cases fe <;> first | (simp [callHead] at hh; done) | exact wpAny_Call_Name_kw go | exact Call_ go rfl
    · cases hz
  · cases hz
theorem ixOf_some {x : PV} : ∀ {ys : List PV} {j : Nat}, ixOf x ys = some j → ∃ z, ys[j]? = some z ∧ eqv z x = true ∧ ∀ m z', m < j → ys[m]? = some z' → eqv z' x = false
  | [], _, h => by simp [ixOf] at h
  | y :: r, j, h => by
    unfold ixOf at h
    split at h
    · rename_i he
      cases h
      exact ⟨y, rfl, he, fun m z' hm => by omega⟩
    · rename_i he
      obtain ⟨i, hi, rfl⟩ := Option.map_eq_some_iff.mp h
      obtain ⟨z, h1, h2, h3⟩ := ixOf_some hi
      refine ⟨z, by simpa using h1, h2, fun m z' hm hz => ?_⟩
      cases m with
      | zero => simp at hz; subst hz; simpa using he
      | succ m => exact h3 m z' (by omega) (by simpa using hz)
theorem pds_get : ∀ {ys : List PV} {j : Nat} {d : PyData}, (pds ys)[j]? = some d → ∃ y, ys[j]? = some y ∧ d = pd y
  | [], _, _, h => by simp [pds] at h
  | y :: _, 0, _, h => by simp [pds] at h; exact ⟨y, rfl, h.symm⟩
  | _ :: r, j + 1, _, h => by simp only [pds, List.getElem?_cons_succ] at h; obtain ⟨y, h1, h2⟩ := pds_get h; exact ⟨y, by simpa using h1, h2⟩
theorem pds_at : ∀ {ys : List PV} {j : Nat} {y : PV}, ys[j]? = some y → (pds ys)[j]? = some (pd y)
  | [], _, _, h => by simp at h
  | y :: _, 0, _, h => by simp at h; subst h; rfl
  | _ :: r, j + 1, _, h => by simp only [pds, List.getElem?_cons_succ]; exact pds_at (by simpa using h)
theorem strs_of {K : PySem.W.Frag} {mg : PySem.Str → Option Value} {F : Hp} : ∀ {ys : List PV} {vs : List V}, RepL K mg F ys vs → allStr ys = true → ∃ ss : List PySem.Str, ys = ss.map PV.str ∧ vs = ss.map V.str
  | [], _, r, _ => by cases r; exact ⟨[], rfl, rfl⟩
  | y :: ys, _, ⟨v, t, e, a, b⟩, h => by
    cases y <;> simp only [allStr, Bool.false_eq_true] at h
    obtain ⟨rfl, _⟩ := a
    obtain ⟨ss, rfl, rfl⟩ := strs_of b h
    subst e
    exact ⟨_ :: ss, rfl, rfl⟩
theorem mt_ix (hu : X.A.units + 65 < cLine) {t : Bool} : MtR X (if t = true then "list.index" else "tuple.index") (fun x xs H Q => ∃ y, xs = [y] ∧ ∃ ι F S sx sy z ys, Sim X.K X.mg ι F S H ∧ RepS X.K X.mg F ι sx x ∧ RepS X.K X.mg F ι sy y ∧ seqOf S sx = some (t, ys) ∧ indexOp sx sy S = .ok z S ∧
    ∀ w, RepS X.K X.mg F ι z w → Q w H) := by
  intro pins s σ H x xs v us Q I rx rxs h
  obtain ⟨y, rfl, ι, F, S, sx, sy, z, ys, sim, r1, r2, hs, hi, q⟩ := h
  unfold indexOp at hi
  split at hi
  · rename_i py
    cases t with
    | true =>
      rw [hs] at hi
      simp only at hi
      split at hi
      · rename_i hc
        simp only [Bool.and_eq_true] at hc
        obtain ⟨⟨⟨n1, n2⟩, d1⟩, d2⟩ := hc
        split at hi
        · rename_i j hj
          cases hi
          obtain ⟨p, vs, rfl, l, hq⟩ := sim.seqL r1 hs
          obtain ⟨zz, g1, g2, g3⟩ := ixOf_some hj
          refine mt_indexD hu pins s σ H _ _ v us Q I rx rxs ⟨p, y, pd py, pds ys, j, pd zz, rfl, rfl, .lst (.inl hq) (RepL.dp sim.sub l n2), Rep.dp sim.sub r2 n1, ?_, ?_, pds_at g1, by rw [pd_eqv]; exact g2, fun m z' hm hz => ?_, q _ rfl⟩
          · simp only [SeqAt.shaped, PyData.canLay0, PyData.depth, Bool.and_eq_true, decide_eq_true_eq]
            exact ⟨pds_lay l, decide_eq_true (by have := pds_depth d2; omega)⟩
          · simp only [SeqAt.shaped, Bool.and_eq_true]
            exact ⟨pd_lay r2, decide_eq_true (by have := pd_depth d1; omega)⟩
          · obtain ⟨y', k1, rfl⟩ := pds_get hz
            rw [pd_eqv]
            exact g3 m y' hm k1
        · cases hi
      · cases hi
    | false =>
      rw [hs] at hi
      simp only at hi
      split at hi
      · rename_i hc
        simp only [Bool.and_eq_true] at hc
        split at hi
        · rename_i j hj
          cases hi
          obtain ⟨p, vs, rfl, l, hq⟩ := sim.seqT r1 hs
          obtain ⟨ss, rfl, rfl⟩ := strs_of l hc.2
          cases py <;> simp only [isStrV, Bool.false_eq_true, false_and] at hc
          rename_i w
          obtain ⟨rfl, _⟩ := r2
          obtain ⟨zz, g1, g2, g3⟩ := ixOf_some hj
          refine mt_tup_index pins s σ H _ _ v us Q I rx rxs ⟨p, ss, w, j, rfl, rfl, sim.sub.sqT hq, ?_, fun m hm hz => ?_, q _ rfl⟩
          · rw [List.getElem?_map] at g1
            obtain ⟨u, hu1, rfl⟩ := Option.map_eq_some_iff.mp g1
            simp only [eqv, decide_eq_true_eq] at g2
            subst g2
            exact hu1
          · have := g3 m (.str w) hm (by rw [List.getElem?_map, hz]; rfl)
            simp [eqv] at this
        · cases hi
      · cases hi
  · cases hi
theorem index_inv {a x z : SV} {S S' : Store} (h : indexOp a x S = .ok z S') : S' = S ∧ ∃ t ys, seqOf S a = some (t, ys) := by
  unfold indexOp at h
  split at h
  · split at h
    · split at h
      · split at h
        · cases h; exact ⟨rfl, _, _, by assumption⟩
        · cases h
      · cases h
    · split at h
      · split at h
        · cases h; exact ⟨rfl, _, _, by assumption⟩
        · cases h
      · cases h
    · cases h
  · cases h
theorem isLs_ty {K : PySem.W.Frag} {mg : PySem.Str → Option Value} {F H : Hp} {ι : Plc} {S : Store} {x : SV} {v : V} (sim : Sim K mg ι F S H) (r : RepS K mg F ι x v) (h : isLs S x = true) : tyV K "list" v H ∧ ∃ ys, seqOf S x = some (true, ys) := by
  unfold isLs at h
  split at h
  · rename_i ys hy
    obtain ⟨p, vs, rfl, l, hq⟩ := sim.seqL r hy
    exact ⟨.inl ⟨rfl, vs, .inl hq⟩, ys, hy⟩
  · cases h
theorem s_index {apos cpos : Pos} {o : Expr} (hu : X.A.units + 65 < cLine) (ho : PE X o (rdE X.K X.mg fa)) (he : PE X e (rdE X.K X.mg fb)) (hs : noStar e = true) (hbase : attributeBase o "index" X.env (eval o X.env) = eval o X.env) (hline : (apos.endLine == cpos.line) = true) :
    PE X (.Call (.Attribute o "index" apos) [e] [] cpos) (rdE X.K X.mg (sIndex fa fb)) := by
  have few : ((backTo cpos (starEach [e] X.env)).all (fun x => !x.1) && (backToKw cpos (keywordEach [] X.env)).all (fun x => x.1.isSome)
      && decide (([e] : List Expr).length + ([] : List Keyword).length + (if ([] : List Keyword).isEmpty then 0 else 1) < 30)) = true := by rw [star_one hs]; rfl
  refine pe_ofV (pe_bm F.plainAttrs_list F.slot_list_index F.type_list_index (mt_ix (t := true) hu) ho (pa_cons he pa_nil (star_one hs _ _)) hbase few hline (star_one hs _ _) rfl) fun ι F S ρ z S' σ H Q sim r hz q => ?_
  obtain ⟨x, S1, h1, hz⟩ := bind_ok hz
  split at hz
  case isFalse => cases hz
  rename_i hL1
  obtain ⟨y, S2, h2, hz⟩ := bind_ok hz
  split at hz
  case isFalse => cases hz
  rename_i hL2
  obtain ⟨rfl, _⟩ := index_inv hz
  refine ⟨ι, F, S, ρ, x, S1, sim, r, h1, fun ι1 F1 v H1 e1 s1 r1 => ⟨(isLs_ty s1 r1 hL1).1, ?_⟩⟩
  refine ⟨ι1, F1, S1, ρ, y, S', s1, r.mono e1, h2, fun ι2 F2 w H2 e2 s2 r2 => ?_⟩
  obtain ⟨_, ys, hy⟩ := isLs_ty s2 (r1.mono e2) hL2
  exact ⟨w, rfl, ι2, F2, S', x, y, z, ys, s2, r1.mono e2, r2, hy, hz, fun u ru => q _ _ _ _ (e1.trans e2) s2 ru⟩
theorem s_indexG {apos cpos : Pos} {xs : List PV} (hu : X.A.units + 65 < cLine) (hg : Gl X n) (h : GlobOk X.K X.mg n (.tup xs)) (hd : (n == ("__debug__" : PySem.Str)) = false) (he : PE X e (rdE X.K X.mg fb)) (hs : noStar e = true) (hline : (apos.endLine == cpos.line) = true) :
    PE X (.Call (.Attribute (.Name n p) "index" apos) [e] [] cpos) (rdE X.K X.mg (sIndexG xs fb)) := by
  have few : ((backTo cpos (starEach [e] X.env)).all (fun x => !x.1) && (backToKw cpos (keywordEach [] X.env)).all (fun x => x.1.isSome)
      && decide (([e] : List Expr).length + ([] : List Keyword).length + (if ([] : List Keyword).isEmpty then 0 else 1) < 30)) = true := by rw [star_one hs]; rfl
  obtain ⟨u, v, g1, g2, g3, g4⟩ := h
  refine pe_ofV (pe_bm F.plainAttrs_tuple F.slot_tuple_index F.type_tuple_index (mt_ix (t := false) hu) (pe_glob hg g1 g2 hd) (pa_cons he pa_nil (star_one hs _ _)) rfl few hline (star_one hs _ _) rfl) fun ι F S ρ z S' σ H Q sim r hz q => ?_
  obtain ⟨y, S1, h1, hz⟩ := bind_ok hz
  obtain ⟨rfl, _⟩ := index_inv hz
  obtain ⟨pp, o, rfl, k1, k2, k3⟩ := g4
  refine ⟨.inr (.inl ⟨rfl, o, k1, k2, k3⟩), ι, F, S, ρ, y, S', sim, r, h1, fun ι1 F1 w H1 e1 s1 r1 => ?_⟩
  exact ⟨w, rfl, ι1, F1, S', .v (.tup xs), y, z, xs, s1, g3.mono (fun _ _ z => by cases z), r1, rfl, hz, fun u ru => q _ _ _ _ e1 s1 ru⟩
theorem vs_one {K : PySem.W.Frag} {mg : PySem.Str → Option Value} {F : Hp} {ι : Plc} {x : SV} {vs : List V} (h : RepSs K mg F ι [x] vs) : ∃ v, vs = [v] ∧ RepS K mg F ι x v := by
  obtain ⟨v, r, e, q, z⟩ := h
  cases z
  exact ⟨v, e, q⟩
theorem vs_two {K : PySem.W.Frag} {mg : PySem.Str → Option Value} {F : Hp} {ι : Plc} {x y : SV} {vs : List V} (h : RepSs K mg F ι [x, y] vs) : ∃ v w, vs = [v, w] ∧ RepS K mg F ι x v ∧ RepS K mg F ι y w := by
  obtain ⟨v, r, e, q, z⟩ := h
  obtain ⟨w, rfl, q2⟩ := vs_one z
  exact ⟨v, w, e, q, q2⟩
theorem RepL.ints {K : PySem.W.Frag} {mg : PySem.Str → Option Value} {F : Hp} : ∀ {ys : List PV} {vs : List V} {is : List Int}, RepL K mg F ys vs → ints? ys = some is → vs = is.map V.int
  | [], _, is, r, h => by cases r; simp [ints?] at h; subst h; rfl
  | y :: ys, _, is, ⟨v, t, e, a, b⟩, h => by
    cases y <;> simp only [ints?, reduceCtorEq, Option.map_eq_some_iff] at h
    obtain ⟨js, h1, h2⟩ := h
    subst h2 e
    cases a
    rw [RepL.ints b h1]
    rfl
theorem sumI_eq : ∀ is : List Int, sumI is = is.sum
  | [] => rfl
  | i :: r => by rw [sumI, sumI_eq r, List.sum_cons]
theorem seq_or {K : PySem.W.Frag} {mg : PySem.Str → Option Value} {F H : Hp} {ι : Plc} {S : Store} {x : SV} {v : V} {t : Bool} {ys : List PV} (sim : Sim K mg ι F S H) (r : RepS K mg F ι x v) (h : seqOf S x = some (t, ys)) :
    ∃ p vs, v = .ref p ∧ RepL K mg F ys vs ∧ (SqL K H p vs ∨ SqT K H p vs) := by
  cases t with
  | true => obtain ⟨p, vs, e, l, q⟩ := sim.seqL r h; exact ⟨p, vs, e, l, .inl (.inl q)⟩
  | false => obtain ⟨p, vs, e, l, q⟩ := sim.seqT r h; exact ⟨p, vs, e, l, .inr (sim.sub.sqT q)⟩
def rdO (K : PySem.W.Frag) (mg : PySem.Str → Option Value) (f : SV → Store → Out SV) : List V → Hp → VK → Prop := fun vs H Q => ∃ v, vs = [v] ∧ rd1 K mg f v H Q
theorem bi_len : CallR X (.builtin "len") (rdO X.K X.mg bLen) := by
  intro pins s σ H vs us Q I r h
  obtain ⟨v, rfl, ι, F, S, x, y, S', sim, rv, h, q⟩ := h
  unfold bLen at h
  cases h1 : seqOf S x with
  | some p =>
    obtain ⟨t, ys⟩ := p
    rw [h1] at h
    cases h
    obtain ⟨p, vs, rfl, l, hq⟩ := seq_or sim rv h1
    exact call_len_seq pins s σ H _ us Q I r ⟨p, vs, rfl, hq, by rw [← l.length]; exact q _ _ _ _ Ext.refl sim rfl⟩
  | none =>
    rw [h1] at h
    simp only at h
    cases h2 : dicOf S x with
    | none => rw [h2] at h; cases h
    | some kvs =>
      rw [h2] at h
      cases h
      obtain ⟨n, p, ws, rfl, hι, hS, rfl, hF, hH, rd⟩ := sim.dic rv h2
      obtain ⟨u, rfl, ru⟩ := vals1 r
      cases ru
      refine d_len I (.inl hH) fun t s' I' => ⟨.int _, H, I', ⟨t, rfl⟩, ?_⟩
      rw [← rd.length]
      exact q _ _ _ _ Ext.refl sim rfl
theorem bi_int : CallR X (.type "int") (rdO X.K X.mg bInt) := by
  intro pins s σ H vs us Q I r h
  obtain ⟨v, rfl, ι, F, S, x, y, S', sim, rv, h, q⟩ := h
  unfold bInt at h
  split at h
  · rename_i i
    cases h; cases rv
    exact call_int1 pins s σ H _ us Q I r (.inl ⟨i, rfl, q _ _ _ _ Ext.refl sim rfl⟩)
  · rename_i b
    cases h; cases rv
    exact call_int1 pins s σ H _ us Q I r (.inr ⟨b, rfl, q _ _ _ _ Ext.refl sim rfl⟩)
  · cases h
theorem bi_abs : CallR X (.builtin "abs") (rdO X.K X.mg bAbs) := by
  intro pins s σ H vs us Q I r h
  obtain ⟨v, rfl, ι, F, S, x, y, S', sim, rv, h, q⟩ := h
  unfold bAbs at h
  split at h
  · rename_i i
    cases h; cases rv
    exact call_abs pins s σ H _ us Q I r ⟨i, rfl, q _ _ _ _ Ext.refl sim rfl⟩
  · cases h
theorem onSeq_inv {f : List PV → Out SV} {x : SV} {S : Store} {z : SV} {S' : Store} (h : onSeq f x S = .ok z S') : ∃ t ys, seqOf S x = some (t, ys) ∧ f ys = .ok z S' := by
  unfold onSeq at h
  cases e : seqOf S x with
  | none => rw [e] at h; cases h
  | some p => obtain ⟨t, ys⟩ := p; rw [e] at h; exact ⟨t, ys, rfl, h⟩
theorem bi_sum (hc : X.calm = true) : CallR X (.builtin "sum") (rdO X.K X.mg bSum) := by
  intro pins s σ H vs us Q I r h
  obtain ⟨v, rfl, ι, F, S, x, y, S', sim, rv, h, q⟩ := h
  obtain ⟨t, ys, h1, h⟩ := onSeq_inv h
  split at h
  · rename_i is hi
    cases h
    obtain ⟨p, vs, rfl, l, hq⟩ := seq_or sim rv h1
    rw [l.ints hi] at hq
    have q' : Q (.int is.sum) H := by
      rw [← sumI_eq]
      exact q _ _ _ _ Ext.refl sim rfl
    rcases hq with hq | hq
    · exact cr_sum hc pins s σ H _ us Q I r ⟨p, is, rfl, hq, q'⟩
    · obtain ⟨its, rv, hl, _⟩ := I.tuple hq
      rw [Vals.ref1 r]
      have hia := rv.ints
      obtain ⟨xs, e⟩ := hia.allInts.items
      have hn : numsOf (intItems xs).toList = is := by rw [← e]; exact hia.numsOf
      rw [nums_intItems] at hn
      have hl' : s.heap.IsTuple p its.toArray := hl
      rw [e] at hl'
      refine PySem.W.ktm_sumG (I.ok.hd hc) hl' fun h' tk t' hk => ⟨.int _, H, I.kept hk, ⟨_, rfl⟩, ?_⟩
      rw [preSum_eq, List.take_of_length_le (by simp), hn]; exact q'
  · cases h
theorem bi_tuple : CallR X (.type "tuple") (rdO X.K X.mg bTuple) := by
  intro pins s σ H vs us Q I r h
  obtain ⟨v, rfl, ι, F, S, x, y, S', sim, rv, h, q⟩ := h
  obtain ⟨t, ys, h1, h⟩ := onSeq_inv h
  cases t with
  | true =>
    obtain ⟨p, vs, rfl, l, hq⟩ := sim.seqL rv h1
    obtain ⟨_, g, _⟩ := fin_mkT sim l h q
    exact call_tuple_of pins s σ H _ us Q I r ⟨p, vs, rfl, .inl ⟨.inl hq, g⟩⟩
  | false =>
    obtain ⟨p, vs, rfl, l, hq⟩ := sim.seqT rv h1
    obtain ⟨_, _, g⟩ := fin_mkT sim l h q
    exact call_tuple_of pins s σ H _ us Q I r ⟨p, vs, rfl, .inr ⟨sim.sub.sqT hq, g p hq⟩⟩
theorem bi_list {m : Bool} : CallR X (.type "list") (rdO X.K X.mg (bList m)) := by
  intro pins s σ H vs us Q I r h
  obtain ⟨v, rfl, ι, F, S, x, y, S', sim, rv, h, q⟩ := h
  obtain ⟨t, ys, h1, h⟩ := onSeq_inv h
  obtain ⟨p, vs, rfl, l, hq⟩ := seq_or sim rv h1
  obtain ⟨_, g⟩ := fin_mkL sim l h q
  exact call_list_of pins s σ H _ us Q I r ⟨p, vs, rfl, hq, g⟩
theorem RepL.ofInts {K : PySem.W.Frag} {mg : PySem.Str → Option Value} {F : Hp} : ∀ is : List Int, RepL K mg F (is.map .int) (is.map V.int)
  | [] => rfl
  | i :: r => ⟨.int i, _, rfl, rfl, RepL.ofInts r⟩
theorem bi_sorted {m : Bool} (hu : X.A.units + 65 < cLine) : CallR X (.builtin "sorted") (rdO X.K X.mg (bSorted m)) := by
  intro pins s σ H vs us Q I r h
  obtain ⟨v, rfl, ι, F, S, x, y, S', sim, rv, h, q⟩ := h
  unfold bSorted at h
  split at h
  · rename_i t ys h1
    split at h
    · rename_i hok
      cases t with
      | true =>
        obtain ⟨p, ws, rfl, l, hq⟩ := sim.seqL rv h1
        obtain ⟨its, rvs, hl, hz⟩ := I.list (.inl hq)
        rw [Vals.ref1 r]
        refine call_sorted (us := its) (by omega) I sim.sub l rvs hl.isList (by rw [← rvs.length]; exact hz) hok fun zs p' rz hn s' I' => ?_
        exact ⟨.ref p', _, I', rfl, (fin_mkL sim rz h q).2 p' hn⟩
      | false =>
        obtain ⟨p, ws, rfl, l, hq⟩ := sim.seqT rv h1
        obtain ⟨its, rvs, hl, hz⟩ := I.tuple (sim.sub.sqT hq)
        rw [Vals.ref1 r]
        refine call_sortedT (us := its) (by omega) I sim.sub l rvs hl (by rw [← rvs.length]; exact hz) hok fun zs p' rz hn s' I' => ?_
        exact ⟨.ref p', _, I', rfl, (fin_mkL sim rz h q).2 p' hn⟩
    · cases h
  · cases h
theorem readsArr {h : Heap} {us : List Value} {ds : List PyData} {as : List Addr} (hr : ReadsAll h us ds as) : ReadsAll h us.toArray.toList ds as := hr
theorem some1_pd {y : PV} (h : isSome1 y = true) : pd y ≠ .none := by cases y <;> simp [isSome1] at h <;> simp [pd]
theorem bi_min1 (hc : X.calm = true) (hu : X.A.units + 65 < cLine) : CallR X (.builtin "min") (rdO X.K X.mg bMin1) := by
  intro pins s σ H vs us Q I r h
  obtain ⟨v, rfl, ι, F, S, x, z, S', sim, rv, h, q⟩ := h
  obtain ⟨t, ys, h1, h⟩ := onSeq_inv h
  obtain ⟨p, ws, rfl, l, hq⟩ := seq_or sim rv h1
  cases ys with
  | nil => cases h
  | cons y ys =>
    simp only at h
    split at h
    · rename_i hok
      cases h
      unfold minOk at hok
      simp only [Bool.and_eq_true] at hok
      obtain ⟨⟨⟨hn, ha⟩, hd⟩, hsn⟩ := hok
      rw [Vals.ref1 r]
      have hA := alikeAll_pd ha fun y hy => some1_pd (List.all_eq_true.mp hsn y hy)
      have hal : ∀ a ∈ y :: ys, ∀ b ∈ y :: ys, alikeP a b = true := fun a ha' b hb' => List.all_eq_true.mp (List.all_eq_true.mp ha a ha') b hb'
      have hdd : X.A.units + 1 + PyData.depthAll (pd y :: pds ys) < cLine := by
        have := pds_depth hd
        simp only [eqD] at this
        show X.A.units + 1 + PyData.depthAll (pds (y :: ys)) < cLine
        omega
      rcases hq with hq | hq
      · obtain ⟨its, rvs, hl, hz⟩ := I.list hq
        have e1 := each_of l rvs
        obtain ⟨as, hr⟩ := readsAll_of I sim.sub hn e1
        refine PySem.W.min_list_data (x := pd y) (xs := pds ys) (I.ok.hd hc) hl.isList (readsArr hr) hA hdd fun i u h' tk bs hi hru hk => ?_
        rw [minD_pd hal] at hru
        obtain ⟨w, hw1, hw2⟩ := pick_item I sim.sub hn e1 (by simpa using hi) minP_mem hru hk
        exact ⟨w, H, I.kept hk, hw1, q _ _ _ _ Ext.refl sim hw2⟩
      · obtain ⟨its, rvs, hl, hz⟩ := I.tuple hq
        have e1 := each_of l rvs
        obtain ⟨as, hr⟩ := readsAll_of I sim.sub hn e1
        refine PySem.W.min_tuple_data (x := pd y) (xs := pds ys) (I.ok.hd hc) hl (readsArr hr) hA hdd fun i u h' tk bs hi hru hk => ?_
        rw [minD_pd hal] at hru
        obtain ⟨w, hw1, hw2⟩ := pick_item I sim.sub hn e1 (by simpa using hi) minP_mem hru hk
        exact ⟨w, H, I.kept hk, hw1, q _ _ _ _ Ext.refl sim hw2⟩
    · cases h
theorem bi_max1 (hc : X.calm = true) (hu : X.A.units + 65 < cLine) : CallR X (.builtin "max") (rdO X.K X.mg bMax1) := by
  intro pins s σ H vs us Q I r h
  obtain ⟨v, rfl, ι, F, S, x, z, S', sim, rv, h, q⟩ := h
  obtain ⟨t, ys, h1, h⟩ := onSeq_inv h
  obtain ⟨p, ws, rfl, l, hq⟩ := seq_or sim rv h1
  cases ys with
  | nil => cases h
  | cons y ys =>
    simp only at h
    split at h
    · rename_i hok
      cases h
      unfold minOk at hok
      simp only [Bool.and_eq_true] at hok
      obtain ⟨⟨⟨hn, ha⟩, hd⟩, hsn⟩ := hok
      rw [Vals.ref1 r]
      have hA := alikeAll_pd ha fun y hy => some1_pd (List.all_eq_true.mp hsn y hy)
      have hal : ∀ a ∈ y :: ys, ∀ b ∈ y :: ys, alikeP a b = true := fun a ha' b hb' => List.all_eq_true.mp (List.all_eq_true.mp ha a ha') b hb'
      have hdd : X.A.units + 1 + PyData.depthAll (pd y :: pds ys) < cLine := by
        have := pds_depth hd
        simp only [eqD] at this
        show X.A.units + 1 + PyData.depthAll (pds (y :: ys)) < cLine
        omega
      rcases hq with hq | hq
      · obtain ⟨its, rvs, hl, hz⟩ := I.list hq
        have e1 := each_of l rvs
        obtain ⟨as, hr⟩ := readsAll_of I sim.sub hn e1
        refine PySem.W.max_list_data (x := pd y) (xs := pds ys) (I.ok.hd hc) hl.isList (readsArr hr) hA hdd fun i u h' tk bs hi hru hk => ?_
        rw [maxD_pd hal] at hru
        obtain ⟨w, hw1, hw2⟩ := pick_item I sim.sub hn e1 (by simpa using hi) maxP_mem hru hk
        exact ⟨w, H, I.kept hk, hw1, q _ _ _ _ Ext.refl sim hw2⟩
      · obtain ⟨its, rvs, hl, hz⟩ := I.tuple hq
        have e1 := each_of l rvs
        obtain ⟨as, hr⟩ := readsAll_of I sim.sub hn e1
        refine PySem.W.max_tuple_data (x := pd y) (xs := pds ys) (I.ok.hd hc) hl (readsArr hr) hA hdd fun i u h' tk bs hi hru hk => ?_
        rw [maxD_pd hal] at hru
        obtain ⟨w, hw1, hw2⟩ := pick_item I sim.sub hn e1 (by simpa using hi) maxP_mem hru hk
        exact ⟨w, H, I.kept hk, hw1, q _ _ _ _ Ext.refl sim hw2⟩
    · cases h
def rdP (K : PySem.W.Frag) (mg : PySem.Str → Option Value) (f : SV → SV → Store → Out SV) : List V → Hp → VK → Prop := fun vs H Q => ∃ v w, vs = [v, w] ∧ rd2 K mg f v w H Q
theorem bi_min2 (hc : X.calm = true) : CallR X (.builtin "min") (rdP X.K X.mg bMin2) := by
  intro pins s σ H vs us Q I r h
  obtain ⟨v, w, rfl, ι, F, S, x, y, z, S', sim, r1, r2, h, q⟩ := h
  unfold bMin2 at h
  split at h
  · rename_i i j
    cases h; cases r1; cases r2
    exact call_min2 hc pins s σ H _ us Q I r ⟨i, j, rfl, q _ _ _ _ Ext.refl sim rfl⟩
  · cases h
theorem bi_max2 (hc : X.calm = true) : CallR X (.builtin "max") (rdP X.K X.mg bMax2) := by
  intro pins s σ H vs us Q I r h
  obtain ⟨v, w, rfl, ι, F, S, x, y, z, S', sim, r1, r2, h, q⟩ := h
  unfold bMax2 at h
  split at h
  · rename_i i j
    cases h; cases r1; cases r2
    exact call_max2 hc pins s σ H _ us Q I r ⟨i, j, rfl, q _ _ _ _ Ext.refl sim rfl⟩
  · cases h
inductive Blt (X : Cx) (n : PySem.Str) (r : List V → Hp → VK → Prop) : Prop where
  | fn (id : String) (hv : bootBuiltins n = some (.builtin id)) (h : CallR X (.builtin id) r)
  | ty (T : String) (hv : bootBuiltins n = some (.type T)) (h : CallR X (.type T) r)
theorem s_bi1 {f : SV → Store → Out SV} {g : List SV → Store → Out SV} (B : Blt X n (rdO X.K X.mg f)) (hfg : ∀ x S, g [x] S = f x S) (hg : Gl X n) (hm : X.mg n = none) (hn : n ≠ "__name__") (hd : (n == ("__debug__" : PySem.Str)) = false)
    (ha : PA X [e] (rdA X.K X.mg ts)) (h1 : ∀ ρ S xs S', ts ρ S = .ok xs S' → xs.length = 1) (hs : noStar e = true) :
    PE X (.Call (.Name n p) [e] [] pos) (rdE X.K X.mg fun ρ S => (ts ρ S).bind g) := by
  have fin : ∀ (ι : Plc) (F : Hp) (S : Store) (ρ : Slots) (x : SV) (S' : Store) (σ : L2.St) (H : Hp) (Q : VK), Sim X.K X.mg ι F S H → RepR X.K X.mg F ι ρ σ → (ts ρ S).bind g = .ok x S' →
      (∀ ι' F' v H', Ext ι F ι' F' → Sim X.K X.mg ι' F' S' H' → RepS X.K X.mg F' ι' x v → Q v H') → tCB (rdO X.K X.mg f) (rdA X.K X.mg ts) σ H Q := by
    intro ι F S ρ x S' σ H Q sim r hf q
    obtain ⟨xs, S1, g1, h⟩ := bind_ok hf
    refine ⟨ι, F, S, ρ, xs, S1, sim, r, g1, fun ι1 F1 vs H1 e1 s1 r1 => ?_⟩
    match xs, h1 _ _ _ _ g1, h, r1 with
    | [x1], _, h, r1 =>
      obtain ⟨v, rfl, rv⟩ := vs_one r1
      rw [hfg] at h
      exact ⟨v, rfl, ι1, F1, S1, x1, x, S', s1, rv, h, fun ι2 F2 u H2 e2 s2 r2 => q _ _ _ _ (e1.trans e2) s2 r2⟩
  cases B with
  | fn id hv h => exact pe_ofV (pe_callB h hg hm hv ha hn hd (star_one hs [] X.env) rfl) fin
  | ty T hv h => exact pe_ofV (pe_callTy h hg hm hv ha hn hd (star_one hs [] X.env) rfl) fin
theorem s_bi2 {e2 : Expr} {f : SV → SV → Store → Out SV} {g : List SV → Store → Out SV} (B : Blt X n (rdP X.K X.mg f)) (hfg : ∀ x y S, g [x, y] S = f x y S) (hg : Gl X n) (hm : X.mg n = none) (hn : n ≠ "__name__") (hd : (n == ("__debug__" : PySem.Str)) = false)
    (ha : PA X [e, e2] (rdA X.K X.mg ts)) (h1 : ∀ ρ S xs S', ts ρ S = .ok xs S' → xs.length = 2) (hs : noStar e = true) (hs2 : noStar e2 = true) :
    PE X (.Call (.Name n p) [e, e2] [] pos) (rdE X.K X.mg fun ρ S => (ts ρ S).bind g) := by
  have fin : ∀ (ι : Plc) (F : Hp) (S : Store) (ρ : Slots) (x : SV) (S' : Store) (σ : L2.St) (H : Hp) (Q : VK), Sim X.K X.mg ι F S H → RepR X.K X.mg F ι ρ σ → (ts ρ S).bind g = .ok x S' →
      (∀ ι' F' v H', Ext ι F ι' F' → Sim X.K X.mg ι' F' S' H' → RepS X.K X.mg F' ι' x v → Q v H') → tCB (rdP X.K X.mg f) (rdA X.K X.mg ts) σ H Q := by
    intro ι F S ρ x S' σ H Q sim r hf q
    obtain ⟨xs, S1, g1, h⟩ := bind_ok hf
    refine ⟨ι, F, S, ρ, xs, S1, sim, r, g1, fun ι1 F1 vs H1 e1 s1 r1 => ?_⟩
    match xs, h1 _ _ _ _ g1, h, r1 with
    | [x1, x2], _, h, r1 =>
      obtain ⟨v, w, rfl, rv, rw'⟩ := vs_two r1
      rw [hfg] at h
      exact ⟨v, w, rfl, ι1, F1, S1, x1, x2, x, S', s1, rv, rw', h, fun ι2 F2 u H2 e2 s2 r2 => q _ _ _ _ (e1.trans e2) s2 r2⟩
  cases B with
  | fn id hv h => exact pe_ofV (pe_callB h hg hm hv ha hn hd (star_one hs [e2] X.env) (by rw [star_one hs2]; rfl)) fin
  | ty T hv h => exact pe_ofV (pe_callTy h hg hm hv ha hn hd (star_one hs [e2] X.env) (by rw [star_one hs2]; rfl)) fin

def plainIx : Expr → Bool
  | .Slice _ _ _ _ => false
  | _ => true
theorem plainIx_ok {b : Expr} (h : plainIx b = true) : ∀ o i, subscripted b false o i = operate [o, i] (getItem o i) := by
  intro o i
  cases b <;> first | rfl | simp [plainIx] at h
theorem ix_at {xs : List V} {ys : List PV} {K : PySem.W.Frag} {mg : PySem.Str → Option Value} {F : Hp} {j : Int} {n : Nat} {z : PV} (l : RepL K mg F ys xs) (h : ix? ys.length j = some n) (hz : ys[n]? = some z) : ∃ v, atI xs j = some v ∧ Rep K mg F z v := by
  obtain ⟨v, h1, h2⟩ := l.get hz
  refine ⟨v, ?_, h2⟩
  unfold atI ixN
  rw [l.length] at h
  unfold ix? at h
  by_cases h0 : 0 ≤ j
  · rw [if_pos h0] at h ⊢
    split at h
    · rename_i hl
      cases h
      rw [if_pos hl]
      exact h1
    · cases h
  · rw [if_neg h0] at h ⊢
    split at h
    · rename_i hl
      cases h
      rw [if_pos (by omega)]
      exact h1
    · cases h
theorem idx_inv {x y : SV} {S : Store} {z : SV} {S' : Store} (h : idxOp x y S = .ok z S') : S' = S ∧ ∃ w, z = .v w ∧
    ((∃ t xs j n, y = .v (.int j) ∧ seqOf S x = some (t, xs) ∧ ix? xs.length j = some n ∧ xs[n]? = some w) ∨ ∃ k kvs, y = .v (keyP k) ∧ dicR S x = some kvs ∧ keyGet (keyP k) kvs = some w) := by
  unfold idxOp at h
  cases y with
  | l n => cases h
  | v k =>
    simp only at h
    cases e1 : seqOf S x with
    | some p =>
      obtain ⟨t, xs⟩ := p
      rw [e1] at h
      simp only at h
      split at h
      · rename_i j
        split at h
        · rename_i n hn
          split at h
          · rename_i w hw
            cases h
            exact ⟨rfl, w, rfl, .inl ⟨t, xs, j, n, rfl, rfl, hn, hw⟩⟩
          · cases h
        · cases h
      · cases h
    | none =>
      rw [e1] at h
      simp only at h
      cases e2 : dicR S x with
      | none => rw [e2] at h; cases h
      | some kvs =>
        rw [e2] at h
        simp only at h
        split at h
        · rename_i hk
          obtain ⟨k', rfl⟩ := key_of? hk
          split at h
          · rename_i w hw
            cases h
            exact ⟨rfl, w, rfl, .inr ⟨k', kvs, rfl, rfl, hw⟩⟩
          · cases h
        · cases h
theorem s_idx (hu : X.A.units + 1 < cLine) (ha : PE X a (rdE X.K X.mg fa)) (hb : PE X b (rdE X.K X.mg fb)) (hp : plainIx b = true) : PE X (.Subscript a b pos) (rdE X.K X.mg (sIdx fa fb)) := by
  refine ⟨fun pins s σ H Q I h => ?_⟩
  obtain ⟨ι, F, S, ρ, z, S', sim, r, hf, q⟩ := h
  obtain ⟨x, S1, h1, hf⟩ := bind_ok hf
  obtain ⟨y, S2, h2, hf⟩ := bind_ok hf
  obtain ⟨rfl, w, rfl, hc⟩ := idx_inv hf
  have go : ∀ (R : V → V → Hp → Prop), (∀ ι2 F2 v u H2, Ext ι F ι2 F2 → Sim X.K X.mg ι2 F2 S' H2 → RepS X.K X.mg F2 ι2 x v → RepS X.K X.mg F2 ι2 y u → R v u H2) → rdE X.K X.mg fa σ H fun v H1 => rdE X.K X.mg fb σ H1 fun u H2 => R v u H2 := fun R hR =>
    ⟨ι, F, S, ρ, x, S1, sim, r, h1, fun ι1 F1 v H1 e1 s1 r1 => ⟨ι1, F1, S1, ρ, y, S', s1, r.mono e1, h2, fun ι2 F2 u H2 e2 s2 r2 => hR ι2 F2 v u H2 (e1.trans e2) s2 (r1.mono e2) r2⟩⟩
  rcases hc with ⟨t, xs, j, n, rfl, hs, hn, hw⟩ | ⟨k, kvs, rfl, hd, hk⟩
  · cases t with
    | true =>
      refine (pe_ix ix_list ha hb (plainIx_ok hp)).run pins s σ H Q I (go _ fun ι2 F2 v u H2 e s2 r1 r2 => ?_)
      obtain ⟨p, vs, rfl, l, hq⟩ := s2.seqL r1 hs
      obtain ⟨v, g1, g2⟩ := ix_at l hn hw
      cases r2
      exact ⟨p, vs, j, v, rfl, rfl, .inl hq, g1, q _ _ _ _ e s2 g2⟩
    | false =>
      refine (pe_ix ix_tup ha hb (plainIx_ok hp)).run pins s σ H Q I (go _ fun ι2 F2 v u H2 e s2 r1 r2 => ?_)
      obtain ⟨p, vs, rfl, l, hq⟩ := s2.seqT r1 hs
      obtain ⟨v, g1, g2⟩ := ix_at l hn hw
      cases r2
      exact ⟨p, vs, j, v, rfl, rfl, s2.sub.sqT hq, g1, q _ _ _ _ e s2 g2⟩
  · refine (pe_dget hu ha hb (plainIx_ok hp)).run pins s σ H Q I (go _ fun ι2 F2 v u H2 e s2 r1 r2 => ?_)
    obtain ⟨p, ws, rfl, hH, rd⟩ := s2.dicR r1 hd
    have := rd.get k
    rw [hk] at this
    obtain ⟨v', g1, g2⟩ := this
    have hu := keyP_rep r2
    subst hu
    exact ⟨p, v', rfl, by rw [← g1]; exact DGet_R hH, q _ _ _ _ e s2 g2⟩
def rdPart (K : PySem.W.Frag) (mg : PySem.Str → Option Value) (f : VS) : TO := fun σ H Q => ∃ ι F S ρ x o S', Sim K mg ι F S H ∧ RepR K mg F ι ρ σ ∧ f ρ S = .ok (.v x) S' ∧ part? x = some o ∧ ∀ ι' F' H', Ext ι F ι' F' → Sim K mg ι' F' S' H' → Q o H'
theorem po_mono {lo : Option Expr} {t t' : TO} (h : PO X lo t) (m : ∀ σ H Q, t' σ H Q → t σ H Q) : PO X lo t' := ⟨fun pins s σ H Q I q => h.run pins s σ H Q I (m σ H Q q)⟩
theorem s_po_none : PO X none (rdPart X.K X.mg (sK .non)) := po_mono po_none fun σ H Q h => by
  obtain ⟨ι, F, S, ρ, x, o, S', sim, r, hf, ho, q⟩ := h
  cases hf
  cases ho
  exact q _ _ _ Ext.refl sim
theorem s_po_some (ha : PE X a (rdE X.K X.mg fa)) : PO X (some a) (rdPart X.K X.mg (sPart false fa)) := po_mono (po_some ha) fun σ H Q h => by
  obtain ⟨ι, F, S, ρ, x, o, S', sim, r, hf, ho, q⟩ := h
  unfold sPart at hf
  rw [if_neg (by simp)] at hf
  obtain ⟨z, S1, h1, hf⟩ := bind_ok hf
  unfold intOnly at hf
  split at hf
  · rename_i i
    cases hf
    cases ho
    refine ⟨ι, F, S, ρ, _, _, sim, r, h1, fun ι1 F1 v H1 e1 s1 r1 => ?_⟩
    cases r1
    exact ⟨i, rfl, q _ _ _ e1 s1⟩
  · cases hf
theorem RepL.cut {K : PySem.W.Frag} {mg : PySem.Str → Option Value} {F : Hp} {xs : List PV} {vs : List V} (l : RepL K mg F xs vs) (lo hi : Option Int) : RepL K mg F (FW.cut xs lo hi) (cutV vs lo hi) := by
  unfold FW.cut cutV
  have e : ∀ (n d : Nat) (o : Option Int), sx n d o = HT.sIx n d o := fun n d o => by cases o <;> rfl
  rw [e, e, ← l.length]
  exact (l.drop _).take _
theorem s_slc {m : Bool} {lo hi : Option Expr} {fl fh : VS} {p2 : Pos} (ha : PE X a (rdE X.K X.mg fa)) (hl : PO X lo (rdPart X.K X.mg fl)) (hh : PO X hi (rdPart X.K X.mg fh)) : PE X (.Subscript a (.Slice lo hi none p2) pos) (rdE X.K X.mg (sSlc m fa fl fh)) := by
  refine ⟨fun pins s σ H Q I h => ?_⟩
  obtain ⟨ι, F, S, ρ, z, S', sim, r, hf, q⟩ := h
  obtain ⟨x, S1, h1, hf⟩ := bind_ok hf
  obtain ⟨l, S2, h2, hf⟩ := bind_ok hf
  obtain ⟨u, S3, h3, hf⟩ := bind_ok hf
  unfold slcOp at hf
  match l, u, h2, h3, hf with
  | .l _, _, h2, h3, hf => cases hf
  | .v _, .l _, h2, h3, hf => cases hf
  | .v l, .v u, h2, h3, hf =>
    simp only at hf
    split at hf
    · rename_i lo' hi' p1 p2
      cases e : seqOf S3 x with
      | none => rw [e] at hf; cases hf
      | some y =>
        obtain ⟨t, xs⟩ := y
        rw [e] at hf
        have go : ∀ (R : V → Option Int → Option Int → Hp → Prop), (∀ ι2 F2 v H2, Ext ι F ι2 F2 → Sim X.K X.mg ι2 F2 S3 H2 → RepS X.K X.mg F2 ι2 x v → R v lo' hi' H2) →
            rdE X.K X.mg fa σ H fun v H1 => rdPart X.K X.mg fl σ H1 fun a H2 => rdPart X.K X.mg fh σ H2 fun b H3 => R v a b H3 := fun R hR =>
          ⟨ι, F, S, ρ, x, S1, sim, r, h1, fun ι1 F1 v H1 e1 s1 r1 => ⟨ι1, F1, S1, ρ, l, lo', S2, s1, r.mono e1, h2, p1, fun ι2 F2 H2 e2 s2 =>
            ⟨ι2, F2, S2, ρ, u, hi', S3, s2, r.mono (e1.trans e2), h3, p2, fun ι3 F3 H3 e3 s3 => hR ι3 F3 v H3 ((e1.trans e2).trans e3) s3 (r1.mono (e2.trans e3))⟩⟩⟩
        simp only at hf
        cases t with
        | true =>
          rw [if_pos rfl] at hf
          refine (pe_slice sl_list ha hl hh).run pins s σ H Q I (go _ fun ι2 F2 v H2 e2 s2 r2 => ?_)
          obtain ⟨p, vs, rfl, ll, hq⟩ := s2.seqL r2 e
          obtain ⟨_, g⟩ := fin_mkL s2 (ll.cut lo' hi') hf fun ι3 F3 u H3 e3 s3 r3 => q _ _ _ _ (e2.trans e3) s3 r3
          exact ⟨p, vs, rfl, .inl hq, g⟩
        | false =>
          rw [if_neg (by simp)] at hf
          refine (pe_slice sl_tupA ha hl hh).run pins s σ H Q I (go _ fun ι2 F2 v H2 e2 s2 r2 => ?_)
          obtain ⟨p, vs, rfl, ll, hq⟩ := s2.seqT r2 e
          obtain ⟨_, g, g2⟩ := fin_mkT s2 (ll.cut lo' hi') hf fun ι3 F3 u H3 e3 s3 r3 => q _ _ _ _ (e2.trans e3) s3 r3
          refine ⟨p, vs, rfl, s2.sub.sqT hq, fun hw => ?_, fun _ => g⟩
          refine g2 p ?_
          have : cutV vs lo' hi' = vs := by
            unfold cutV
            rw [hw.1, hw.2, Nat.sub_zero, List.drop_zero, List.take_length]
          rw [this]; exact hq
    · cases hf
def tyName : Ty → String
  | .int => "int" | .bool => "bool" | .tuple => "tuple" | .list => "list" | .str => "str" | .dict => "dict"
def tgName : Tg → String
  | .non => "NoneType" | .bl => "bool" | .int => "int" | .str => "str" | .tup => "tuple" | .lst => "list" | .dic => "dict"
theorem tg_kit (g : Tg) (T : Ty) : kitB (tgName g) (tyName T) = some (tgIs g T) := by
  cases g <;> cases T <;> decide +kernel
theorem tg_kits {K : PySem.W.Frag} (g : Tg) : ∀ ts : List Ty, PySem.W.kitAny K (.type (tgName g)) (ts.map fun T => Value.type (tyName T)) = some (ts.any (tgIs g))
  | [] => kitAny_nil
  | T :: ts => by
    rw [List.map_cons, List.any_cons]
    refine kitAny_cons (kit_ty (tg_kit g T)) (fun h => ?_) (fun h => ?_)
    · rw [h, Bool.false_or]; exact tg_kits g ts
    · rw [h, Bool.true_or]
theorem tg_ty {K : PySem.W.Frag} {mg : PySem.Str → Option Value} {ι : Plc} {F H : Hp} {S : Store} {x : SV} {v : V} {g : Tg} (sim : Sim K mg ι F S H) (r : RepS K mg F ι x v) (h : tgOf S x = some g) : TyX K H v (.type (tgName g)) := by
  cases x with
  | v x =>
    cases x with
    | non => cases h; cases r; exact .base .non
    | bl b => cases h; cases r; exact .base (.bl _)
    | int i => cases h; cases r; exact .base (.int _)
    | str s => cases h; obtain ⟨rfl, _⟩ := r; exact .base (.str _)
    | tup xs =>
      cases h
      obtain ⟨p, vs, rfl, l, q⟩ := sim.seqT r rfl
      rcases sim.sub.sqT q with (q | ⟨o, q⟩) | ⟨o, its, n, q1, q2, _⟩
      · exact .base (.tup q)
      · exact .fTuple q
      · exact .kTuple q1 q2
    | lst xs =>
      cases h
      obtain ⟨p, vs, rfl, l, q⟩ := sim.seqL r rfl
      rcases q with q | ⟨o, q⟩
      · exact .base (.lst q)
      · exact .base (.frz q)
    | fn _ => cases h
    | dic _ _ => cases h; obtain ⟨p, od, ws, rfl, hp, _⟩ := r; exact .fDict (sim.sub _ _ hp)
  | l n =>
    simp only [tgOf] at h
    split at h
    · rename_i xs e
      cases h
      obtain ⟨p, vs, rfl, l, q⟩ := sim.seqL (x := .l n) (xs := xs) r (by simp only [seqOf, e])
      rcases q with q | ⟨o, q⟩
      · exact .base (.lst q)
      · exact .base (.frz q)
    · rename_i kvs e
      cases h
      obtain ⟨n, p, ws, hn, hι, hS, rfl, hF, hH, rd⟩ := sim.dic (x := .l n) (kvs := kvs) r (by simp only [dicOf, e])
      exact .base (.dK hH)
    · cases h
theorem is_inv {S : Store} {x : SV} {ts : List Ty} {z : SV} {S' : Store} (h : ofOpt (isTys S x ts) S = .ok z S') : ∃ g, tgOf S x = some g ∧ z = .v (.bl (ts.any (tgIs g))) ∧ S' = S := by
  unfold isTys at h
  cases e : tgOf S x with
  | none => rw [e] at h; cases h
  | some g => rw [e] at h; cases h; exact ⟨g, rfl, rfl, rfl⟩
theorem boot_ty : ∀ T : Ty, bootBuiltins (PySem.Str.ofString (tyName T)) = some (.type (tyName T)) := by
  intro T
  cases T <;> decide +kernel
theorem pe_ty {T : Ty} (hg : Gl X (PySem.Str.ofString (tyName T))) (hm : X.mg (PySem.Str.ofString (tyName T)) = none) : PE X (.Name (PySem.Str.ofString (tyName T)) p) (tC (.ty (tyName T))) :=
  pe_bltn hg hm (boot_ty T) rfl (by cases T <;> decide) (by cases T <;> decide)
theorem boot_isi : bootBuiltins "isinstance" = some (.builtin "isinstance") := by decide +kernel
theorem s_isi1 {T : Ty} {p1 : Pos} (hg : Gl X "isinstance") (hm : X.mg "isinstance" = none) (ha : PE X a (rdE X.K X.mg fa)) (hs : noStar a = true) (hgT : Gl X (PySem.Str.ofString (tyName T))) (hmT : X.mg (PySem.Str.ofString (tyName T)) = none) :
    PE X (.Call (.Name "isinstance" p) [a, .Name (PySem.Str.ofString (tyName T)) p1] [] pos) (rdE X.K X.mg (sIsi [T] fa)) := by
  refine pe_ofV (pe_callB call_isi hg hm boot_isi (pa_cons ha (pa_cons (pe_ty hgT hmT) pa_nil) (star_one hs _ _)) (by decide) (by decide) (star_one hs _ _) rfl) fun ι F S ρ z S' σ H Q sim r hf q => ?_
  obtain ⟨x, S1, h1, h⟩ := bind_ok hf
  obtain ⟨g, hg, rfl, rfl⟩ := is_inv h
  refine ⟨ι, F, S, ρ, x, S', sim, r, h1, fun ι1 F1 v H1 e1 s1 r1 => ?_⟩
  exact ⟨v, .ty (tyName T), _, _, _, rfl, .ty _, tg_ty s1 r1 hg, kit_ty (by rw [tg_kit]), by have := q _ _ _ _ e1 s1 rfl; simpa using this⟩
theorem paired_tys : ∀ ts : List Ty, Paired ClsV (ts.map fun T => V.ty (tyName T)) (ts.map fun T => Value.type (tyName T))
  | [] => .nil
  | T :: ts => .cons (.ty _) (paired_tys ts)
theorem pa_tys : ∀ {ts : List Ty} {es : List Expr}, (∀ i : Nat, ∀ e, es[i]? = some e → ∃ T p, ts[i]? = some T ∧ e = .Name (PySem.Str.ofString (tyName T)) p) → es.length = ts.length →
    (∀ T ∈ ts, Gl X (PySem.Str.ofString (tyName T)) ∧ X.mg (PySem.Str.ofString (tyName T)) = none) → PA X es (fun _ H Q => Q (ts.map fun T => V.ty (tyName T)) H)
  | [], [], _, _, _ => pa_nil
  | T :: ts, e :: es, h, hl, hg => by
    obtain ⟨T', p, h1, rfl⟩ := h 0 e rfl
    cases h1
    have ih := pa_tys (ts := ts) (es := es) (fun i e he => by simpa using h (i + 1) e (by simpa using he)) (by simpa using hl) (fun T hT => hg T (List.mem_cons_of_mem _ hT))
    exact pa_mono (pa_cons (pe_ty (hg T List.mem_cons_self).1 (hg T List.mem_cons_self).2) ih) fun σ H Q q => q
  | [], _ :: _, _, hl, _ => by simp at hl
  | _ :: _, [], _, hl, _ => by simp at hl
theorem s_isi {ts' : List Ty} {es' : List Expr} {k : Nat} {p1 : Pos} (hg : Gl X "isinstance") (hm : X.mg "isinstance" = none) (ha : PE X a (rdE X.K X.mg fa)) (hs : noStar a = true)
    (h : ∀ i : Nat, ∀ e, es'[i]? = some e → ∃ T p, ts'[i]? = some T ∧ e = .Name (PySem.Str.ofString (tyName T)) p) (hl : es'.length = ts'.length) (hgT : ∀ T ∈ ts', Gl X (PySem.Str.ofString (tyName T)) ∧ X.mg (PySem.Str.ofString (tyName T)) = none) (h8 : ts'.length ≤ 8) :
    PE X (.Call (.Name "isinstance" p) [a, .Tuple es' k p1] [] pos) (rdE X.K X.mg (sIsi ts' fa)) := by
  refine pe_ofV (pe_callB call_isiT hg hm boot_isi (pa_cons ha (pa_cons (pe_tup (pa_tys h hl hgT)) pa_nil) (star_one hs _ _)) (by decide) (by decide) (star_one hs _ _) rfl) fun ι F S ρ z S' σ H Q sim r hf q => ?_
  obtain ⟨x, S1, h1, h⟩ := bind_ok hf
  obtain ⟨g, hg, rfl, rfl⟩ := is_inv h
  refine ⟨ι, F, S, ρ, x, S', sim, r, h1, fun ι1 F1 v H1 e1 s1 r1 => ?_⟩
  refine ⟨by rw [List.length_map, sizeLine_eq]; omega, fun tp hp => ?_⟩
  obtain ⟨s2, e2⟩ := s1.newF (o := .tup (ts'.map fun T => V.ty (tyName T))) hp
  refine ⟨v, tp, _, _, ts'.map fun T => Value.type (tyName T), _, rfl, upd_same, ?_, tg_ty s2 (r1.mono e2) hg, tg_kits g ts', q _ _ _ _ (e1.trans e2) s2 rfl⟩
  exact paired_tys ts'
end
end FW

namespace FW
open PySem PySem.Spec PyProof.Rows L2
mutual
theorem eqv_same : ∀ {x y : PV}, alikeP x y = true → eqv x y = true → x = y
  | .non, y, h, _ => by cases y <;> simp only [alikeP, Bool.false_eq_true] at h; rfl
  | .bl _, y, h, e => by cases y <;> simp only [alikeP, Bool.false_eq_true] at h; simp [eqv] at e; rw [e]
  | .int _, y, h, e => by cases y <;> simp only [alikeP, Bool.false_eq_true] at h; simp [eqv] at e; rw [e]
  | .str _, y, h, e => by cases y <;> simp only [alikeP, Bool.false_eq_true] at h; simp [eqv] at e; rw [e]
  | .lst xs, y, h, e => by cases y <;> simp only [alikeP, Bool.false_eq_true] at h; simp only [eqv] at e; rw [eqvs_same h e]
  | .tup xs, y, h, e => by cases y <;> simp only [alikeP, Bool.false_eq_true] at h; simp only [eqv] at e; rw [eqvs_same h e]
  | .fn _, y, h, _ => by cases y <;> simp only [alikeP, Bool.false_eq_true] at h
  | .dic _ _, y, h, _ => by cases y <;> simp only [alikeP, Bool.false_eq_true] at h
theorem eqvs_same : ∀ {xs ys : List PV}, alikePs xs ys = true → eqvs xs ys = true → xs = ys
  | [], ys, _, e => by cases ys <;> simp [eqvs] at e; rfl
  | x :: xs, [], _, e => by simp [eqvs] at e
  | x :: xs, y :: ys, h, e => by
    simp only [alikePs, eqvs, Bool.and_eq_true] at h e
    rw [eqv_same h.1 e.1, eqvs_same h.2 e.2]
end
theorem leD_anti {x y : PV} (ha : alikeP x y = true) (h1 : leD x y = true) (h2 : leD y x = true) : x = y := by
  refine eqv_same ha ?_
  rw [leD_eq, Bool.not_eq_true'] at h1 h2
  have k : PySem.W.keyToks (pd x) = PySem.W.keyToks (pd y) := (listOrd itemOrd).total _ _ h2 h1
  cases e : eqv x y with
  | true => rfl
  | false =>
    rw [← pd_eqv] at e
    have := (PySem.W.toks_eqv _ _ (alike_pd ha)).2 e [] [.inl 0]
    have p := PySem.W.lex_pre (PySem.W.keyToks (pd y)) [] [.inl 0]
    have q := PySem.W.lex_pre (PySem.W.keyToks (pd y)) [] []
    rw [List.append_nil] at this p q
    rw [k, p] at this
    rw [q] at this
    exact absurd this (by decide)
theorem sorted_one {l m : List PV} (ha : ∀ x ∈ l, ∀ y ∈ l, alikeP x y = true) (p : l.Perm m) (h1 : l.Pairwise (fun a b => leD a b = true)) (h2 : m.Pairwise (fun a b => leD a b = true)) : l = m := by
  induction l generalizing m with
  | nil => exact p.nil_eq
  | cons x l ih =>
    cases m with
    | nil => have := p.length_eq; simp at this
    | cons y m =>
      have e : x = y := by
        rcases List.mem_cons.mp (p.mem_iff.mp List.mem_cons_self) with e | hx
        · exact e
        · rcases List.mem_cons.mp (p.mem_iff.mpr (List.mem_cons_self (a := y) (l := m))) with e | hy
          · exact e.symm
          · exact leD_anti (ha x List.mem_cons_self y (List.mem_cons_of_mem _ hy)) ((List.pairwise_cons.mp h1).1 y hy) ((List.pairwise_cons.mp h2).1 x hx)
      subst e
      rw [ih (fun a ha' b hb' => ha a (List.mem_cons_of_mem _ ha') b (List.mem_cons_of_mem _ hb')) p.cons_inv (List.pairwise_cons.mp h1).2 (List.pairwise_cons.mp h2).2]
theorem any_eqv {x : PV} {l : List PV} (ha : ∀ y ∈ l, alikeP y x = true) (hx : eqv x x = true) : (l.any fun y => eqv y x) = true ↔ x ∈ l := by
  rw [List.any_eq_true]
  constructor
  · rintro ⟨y, hy, e⟩
    rw [← eqv_same (ha y hy) e]
    exact hy
  · intro h
    exact ⟨x, h, hx⟩
theorem mem_dedup : ∀ {l : List PV}, (∀ x ∈ l, ∀ y ∈ l, alikeP x y = true) → (∀ x ∈ l, eqv x x = true) → ∀ {x : PV}, x ∈ dedup l ↔ x ∈ l
  | [], _, _, _ => by simp [dedup]
  | y :: r, ha, hr, x => by
    have ih := mem_dedup (l := r) (fun a ha' b hb' => ha a (List.mem_cons_of_mem _ ha') b (List.mem_cons_of_mem _ hb')) (fun a h => hr a (List.mem_cons_of_mem _ h)) (x := x)
    unfold dedup
    split
    · rename_i h
      rw [ih, List.mem_cons]
      constructor
      · exact .inr
      · rintro (rfl | h2)
        · exact (any_eqv (fun z hz => ha z (List.mem_cons_of_mem _ hz) _ List.mem_cons_self) (hr _ List.mem_cons_self)).mp h
        · exact h2
    · rw [List.mem_cons, ih, List.mem_cons]
theorem nodup_dedup : ∀ {l : List PV}, (∀ x ∈ l, ∀ y ∈ l, alikeP x y = true) → (∀ x ∈ l, eqv x x = true) → (dedup l).Nodup
  | [], _, _ => by simp [dedup]
  | y :: r, ha, hr => by
    have a' : ∀ a ∈ r, ∀ b ∈ r, alikeP a b = true := fun a ha' b hb' => ha a (List.mem_cons_of_mem _ ha') b (List.mem_cons_of_mem _ hb')
    have r' : ∀ a ∈ r, eqv a a = true := fun a h => hr a (List.mem_cons_of_mem _ h)
    have ih := nodup_dedup a' r'
    unfold dedup
    split
    · exact ih
    · rename_i h
      refine List.nodup_cons.mpr ⟨fun hm => h ?_, ih⟩
      exact (any_eqv (fun z hz => ha z (List.mem_cons_of_mem _ hz) _ List.mem_cons_self) (hr _ List.mem_cons_self)).mpr ((mem_dedup a' r').mp hm)
theorem set_sorted {ys zs : List PV} (ha : ∀ x ∈ ys, ∀ y ∈ ys, alikeP x y = true) (hr : ∀ x ∈ ys, eqv x x = true) (h1 : zs.Pairwise (fun a b => leD a b = true)) (h2 : zs.Nodup) (h3 : ∀ x, x ∈ zs ↔ x ∈ ys) : isortK (dedup ys) = zs := by
  have hd : ∀ x, x ∈ dedup ys ↔ x ∈ ys := fun x => mem_dedup ha hr
  have aa : allAlike (dedup ys) = true := List.all_eq_true.mpr fun x hx => List.all_eq_true.mpr fun y hy => ha x ((hd x).mp hx) y ((hd y).mp hy)
  rw [isortK_eq aa]
  have pm := List.mergeSort_perm (dedup ys) leD
  refine sorted_one (fun x hx y hy => ha x ((hd x).mp (pm.mem_iff.mp hx)) y ((hd y).mp (pm.mem_iff.mp hy))) ?_ (PySem.W.sort_pairwise leD_total _) h1
  exact pm.trans ((List.perm_ext_iff_of_nodup (nodup_dedup ha hr) h2).mpr fun x => (hd x).trans (h3 x).symm)
theorem allInt_ints : ∀ {ys : List PV}, allInt ys = true → ∃ ns : List Int, ys = ns.map .int
  | [], _ => ⟨[], rfl⟩
  | y :: ys, h => by
    cases y <;> simp only [allInt, Bool.false_eq_true] at h
    obtain ⟨ns, rfl⟩ := allInt_ints h
    exact ⟨_ :: ns, rfl⟩
theorem ints_sorted {ns ns' : List Int} (h1 : ns'.Pairwise (· < ·)) (h2 : ∀ k, k ∈ ns' ↔ k ∈ ns) : isortK (dedup (ns.map .int)) = ns'.map .int := by
  refine set_sorted (fun x hx y hy => ?_) (fun x hx => ?_) ?_ ?_ fun x => ?_
  · obtain ⟨a, _, rfl⟩ := List.mem_map.mp hx
    obtain ⟨b, _, rfl⟩ := List.mem_map.mp hy
    rfl
  · obtain ⟨a, _, rfl⟩ := List.mem_map.mp hx
    simp [eqv]
  · refine List.pairwise_map.mpr (h1.imp fun {a b} h => ?_)
    rw [leD_eq]
    simp only [pd, PySem.W.dataLt_int]
    simp
    omega
  · refine List.Pairwise.map _ (fun a b h => ?_) h1
    intro e
    injection e with e
    have h' : a < b := h
    omega
  · rw [List.mem_map, List.mem_map]
    constructor
    · rintro ⟨a, ha, rfl⟩; exact ⟨a, (h2 a).mp ha, rfl⟩
    · rintro ⟨a, ha, rfl⟩; exact ⟨a, (h2 a).mpr ha, rfl⟩
section
variable {X : Cx}
theorem RepL.vints {K : PySem.W.Frag} {mg : PySem.Str → Option Value} {F : Hp} : ∀ {ns : List Int} {vs : List V}, RepL K mg F (ns.map .int) vs → vs = ns.map V.int
  | [], _, r => by cases r; rfl
  | n :: ns, _, ⟨v, t, e, a, b⟩ => by subst e; cases a; rw [RepL.vints b]; rfl
theorem inv_laid {pins : List (Addr × Obj)} {σ : L2.St} {H : Hp} {s s' : Shared} {p : Addr} {vs : List V} {us : List Value} {c : Nat} (I : Inv X pins σ H s) (k : ∀ b u, s.heap.get? b = some u → s'.heap.get? b = some u) (hg : s'.gens = s.gens) (ho : s'.os = s.os) (hp : s.heap.objs.size ≤ p)
    (hv : Vals vs us) (hz : vs.length ≤ sizeLine) (hn : s'.heap.get? p = some (seqObj "list" us.toArray c)) : Inv X pins σ (upd H p (.lst vs)) s' :=
  I.call' (ch := []) ho (Un.laid k hp (I.hok.fresh hp)) (I.hok.laid k hp ⟨hz, us, c, hv, hn⟩) (by rw [hg]; exact I.bare) (fun _ z => nomatch z)
theorem ints_of_vals : ∀ {ns : List Int} {us : List Value}, IntsAre us ns → Vals (ns.map V.int) us
  | _, _, .nil => .nil
  | _, _, .cons k t h => .cons ⟨t, rfl⟩ (ints_of_vals h)
theorem set_ints {pins : List (Addr × Obj)} {σ : L2.St} {H : Hp} {s : Shared} {E : Value → Shared → Prop} {p : Addr} {ns : List Int} {Q : Value → Shared → Prop} (hc : X.calm = true) (I : Inv X pins σ H s) (hq : SqT X.K H p (ns.map V.int)) (hl : ns.length < 64)
    (h : ∀ (a : Addr) (s1 : Shared) (c : Nat), SetR X.w s1.heap a (fun j => decide (j ∈ ns)) c → c ≤ ns.length → Inv X pins σ H s1 → Q (.ref a) s1) : wpAny (model X.prog X.w) X.A (call (.type "set") [.ref p]) Q E s := by
  obtain ⟨its, rvs, ht, hz⟩ := I.tuple hq
  refine call_set_tupI (P := X.prog) (w := X.w) ns (I.ok.hd hc) ht (by simpa using rvs.ints) (by unfold scanBound; omega) fun h' tk c R hcn hk => ?_
  exact h _ _ c R hcn (I.kept hk)
abbrev set0 (w : World) : Obj := { cls := .type "set", dict := none, data := .set #[] 0 (.fresh 0 0 (!w.params.followText "set-order")) }
set_option maxHeartbeats 8000000 in
theorem make_set {P : Program} {w : World} {A : Around} {E : Value → Shared → Prop} {s : Shared} {t : Addr} {its : Array Value} (rows : List (Addr × List Int)) {Q : Value → Shared → Prop} (calm : A.handled = none) (ht : s.heap.IsTuple t its) (hi : its.toList = rows.map fun q => Value.ref q.1)
    (hk : ∀ q ∈ rows, IsT P w s.heap q.2 q.1) (few : rows.length < 64) (hu : A.units + 3 < cLine)
    (done : ∀ (g : Heap) (tk : Nat) L es ep tab, SetTR P w g s.heap.objs.size L es ep tab → Got rows rows.length L → (∀ b o, s.heap.get? b = some o → g.get? b = some o) → Q (.ref s.heap.objs.size) { s with heap := g, toks := tk }) :
    wpAny (model P w) A (call (.type "set") [.ref t]) Q E s := by
  have hsz : its.size = rows.length := by have := congrArg List.length hi; simpa using this
  obtain ⟨_, _, mro⟩ := F.called_set.mro
  have made := F.called_set.made
  have sub := F.called_set.sub
  refine wpAny_call (codeAny_of_tree ?_)
  show wpAny (model P w) _ (callAny (Value.type "set") _) _ _ s
  refine wpAny_pure ⟨Code.quiet_builtin _ (by decide +kernel), codeAny_builtin F.entry_type_call ?_⟩
  rw [Around.under_plain (weight_type_call_type "set" [Value.ref t] []) rfl]
  have nt := F.called_set.notType
  have cc := F.called_set.canCreate
  have tc := F.typeCall_set_1 (.ref t)
  repeat (any_goals (first | assumption | wp_step))
  refine codeAny_mono (code_set_led1 (.ref t) (E := E) (Q₁ := fun o1 s1 => o1 = .ref s.heap.objs.size ∧ s1 = { s with heap := s.heap.push (set0 w) }) ⟨rfl, rfl⟩) fun r1 s1 hr1 => ?_
  rcases r1 with e1 | fl1
  · exact hr1
  cases fl1 with
  | ret o1 =>
    obtain ⟨rfl, rfl⟩ := hr1
    have there : (s.heap.push (set0 w)).get? s.heap.objs.size = some (set0 w) := Heap.get?_push_size _ rfl
    have ty : Shared.TypeIs { s with heap := s.heap.push (set0 w) } (Value.ref s.heap.objs.size) "set" := ⟨_, there, rfl⟩
    have il := F.called_set.init.lookup
    have ib := F.called_set.init.bind (Value.ref s.heap.objs.size)
    repeat (any_goals (first | assumption | wp_step))
    refine codeAny_mono (codeAny_call_builtin (R := wants (fun r2 s2 => r2 = .none ∧ ∃ g tk L es ep tab, s2 = { s with heap := g, toks := tk } ∧ SetTR P w g s.heap.objs.size L es ep tab ∧ Got rows rows.length L ∧ (∀ b o, s.heap.get? b = some o → g.get? b = some o)) E)
      F.called_set.init.plain F.entry_set_init (check_set_init_1 ty ?_)) fun r2 s2 hr2 => ?_
    · obtain ⟨ob, hob, hcl, n, hdt⟩ := ht
      obtain ⟨cl, dc, dt, sl⟩ := ob
      simp only at hcl hdt
      subst hcl hdt
      have hob1 : (s.heap.push (set0 w)).get? t = some { cls := .type "tuple", dict := dc, data := .seq its n, slots := sl } := Heap.get?_push_of_some _ hob
      have no1 := F.sub_tuple_set
      have no2 := F.sub_tuple_frozenset
      have no3 : (Value.type "tuple" == Value.type "dict") = false := by decide
      have tup1 : (s.heap.push (set0 w)).IsTuple t its := ⟨_, hob1, rfl, n, rfl⟩
      have lt : t < s.heap.objs.size := Heap.lt_size hob
      have calm3 : A.in1.in1.in1.handled = none := by simp [calm]
      have size1 : (s.heap.push (set0 w)).objs.size = s.heap.objs.size + 1 := Heap.size_push ..
      have apart : t ≠ (s.heap.push (set0 w)).objs.size := by rw [size1]; exact Nat.ne_of_lt (Nat.lt_succ_of_lt lt)
      have gone : ∀ b, s.heap.objs.size ≤ b → s.heap.get? b = none := fun b hb => by
        cases e : s.heap.get? b with
        | none => rfl
        | some o => exact absurd (Heap.lt_size e) (Nat.not_lt_of_le hb)
      have item : ∀ (i : Nat) (v : Value), its[i]? = some v → ∃ q, rows[i]? = some q ∧ v = .ref q.1 := fun i v hv => by
        have e : its.toList[i]? = some v := by rw [Array.getElem?_toList]; exact hv
        rw [hi, List.getElem?_map, Option.map_eq_some_iff] at e
        obtain ⟨q, e1, e2⟩ := e
        exact ⟨q, e1, e2.symm⟩
      unfold Builtin.«set.__init__» noKeywords Builtin.Frozenset.updateFrom
      generalize hIt : pyIter = it
      wp_walk
      subst hIt
      refine wpAny_pyIter_tuple tup1 (wpAny_bind (wpAny_runValue ?_))
      refine set_update_tups (Walks.tuple calm3 _ t apart its).toS s.heap.objs.size (by rw [size1]; simp only [List.mem_cons, List.not_mem_nil, or_false, not_or]; exact ⟨Nat.ne_of_lt (Nat.lt_succ_self _), Nat.ne_of_gt lt⟩) rows hsz few item s.heap hk (gone _ (Nat.le_refl _)) (fun b hb => gone b (by rw [List.mem_singleton.mp hb, size1]; exact Nat.le_succ _)) hu its.size 0 _ (by omega) (Nat.zero_le _)
        ⟨⟨_, Heap.get?_push_size _ rfl, rfl, rfl⟩, tup1.push _⟩ (fun b o e => Heap.get?_push_of_some _ (Heap.get?_push_of_some _ e)) ⟨[], #[], 0, _, setTR_fresh (Heap.get?_push_of_some _ there), Got.zero rows⟩ fun s3 L es ep tab mv hS got kp => ?_
      obtain ⟨g3, gens3, dr3, tk3, os3⟩ := s3
      obtain rfl : gens3 = s.gens := mv.gens
      obtain rfl : dr3 = s.drawn := mv.drawn
      obtain rfl : os3 = s.os := mv.os
      rw [hsz] at got
      show wpAny _ _ _ _ _ _
      refine wpAny_pure ?_
      show wpAny _ _ (ret Value.none) _ _ _
      exact wpAny_pure ⟨rfl, g3, tk3, L, es, ep, tab, rfl, hS, got, kp⟩
    · rcases r2 with e2 | fl2
      · exact hr2
      cases fl2 with
      | ret r =>
        obtain ⟨rfl, g, tk, L, es, ep, tab, rfl, hS, got, kp⟩ := hr2
        repeat (any_goals (first | assumption | wp_step))
        exact done _ _ _ _ _ _ hS got kp
      | _ => exact hr2.elim
  | _ => exact hr1.elim
end
end FW

namespace FW
open PySem PySem.Spec PyProof.Rows L2
theorem perm_back {α β : Type} {f : α → β} : ∀ {l m : List β}, l.Perm m → ∀ {L : List α}, m = L.map f → ∃ L1 : List α, L1.Perm L ∧ l = L1.map f
  | _, _, .nil, L, e => by
    cases L with
    | nil => exact ⟨[], .refl _, rfl⟩
    | cons a L => cases e
  | _, _, .cons x p, L, e => by
    cases L with
    | nil => cases e
    | cons a L =>
      rw [List.map_cons, List.cons.injEq] at e
      obtain ⟨rfl, e⟩ := e
      obtain ⟨L1, p1, rfl⟩ := perm_back p e
      exact ⟨a :: L1, p1.cons a, rfl⟩
  | _, _, .swap x y l, L, e => by
    match L, e with
    | a :: b :: L, e =>
      rw [List.map_cons, List.map_cons, List.cons.injEq, List.cons.injEq] at e
      obtain ⟨rfl, rfl, rfl⟩ := e
      exact ⟨b :: a :: L, .swap _ _ _, rfl⟩
  | _, _, .trans p q, L, e => by
    obtain ⟨L1, p1, e1⟩ := perm_back q e
    obtain ⟨L2, p2, e2⟩ := perm_back p e1
    exact ⟨L2, p2.trans p1, e2⟩
theorem short_perm {α : Type} {a b : List α} (p : a.Perm b) (h : b.length < 2) : a = b := by
  match b, h with
  | [], _ => exact p.eq_nil
  | [x], _ => exact List.perm_singleton.mp p
  | _ :: _ :: _, h => simp at h; omega
def tupI (k : List Int) : PV := .tup (k.map .int)
theorem alike_tupI (k l : List Int) : alikeP (tupI k) (tupI l) = true := by
  show alikePs (k.map .int) (l.map .int) = true
  induction k generalizing l with
  | nil => cases l <;> rfl
  | cons a k ih =>
    cases l with
    | nil => rfl
    | cons b l => show (true && alikePs _ _) = true; rw [ih]; rfl
theorem eqv_tupI (k : List Int) : eqv (tupI k) (tupI k) = true := by
  show eqvs (k.map .int) (k.map .int) = true
  induction k with
  | nil => rfl
  | cons a k ih => show (decide (a = a) && eqvs _ _) = true; rw [ih]; simp
theorem map_int_inj : ∀ {a b : List Int}, a.map PV.int = b.map .int → a = b
  | [], [], _ => rfl
  | [], _ :: _, h => by cases h
  | _ :: _, [], h => by cases h
  | x :: a, y :: b, h => by
    rw [List.map_cons, List.map_cons, List.cons.injEq] at h
    obtain ⟨h1, h2⟩ := h
    injection h1 with h1
    rw [h1, map_int_inj h2]
theorem tupI_inj {k l : List Int} (h : tupI k = tupI l) : k = l := map_int_inj (PV.tup.inj h)
theorem rows_sorted {ks : List (List Int)} {L : List (List Int)} (h1 : L.Pairwise fun k l => leD (tupI k) (tupI l) = true) (h2 : L.Nodup) (h3 : ∀ k, k ∈ L ↔ k ∈ ks) : isortK (dedup (ks.map tupI)) = L.map tupI := by
  refine set_sorted (fun x hx y hy => ?_) (fun x hx => ?_) (List.pairwise_map.mpr h1) ?_ fun x => ?_
  · obtain ⟨a, _, rfl⟩ := List.mem_map.mp hx
    obtain ⟨b, _, rfl⟩ := List.mem_map.mp hy
    exact alike_tupI a b
  · obtain ⟨a, _, rfl⟩ := List.mem_map.mp hx
    exact eqv_tupI a
  · exact List.Pairwise.map _ (fun a b h e => h (tupI_inj e)) h2
  · rw [List.mem_map, List.mem_map]
    constructor
    · rintro ⟨a, ha, rfl⟩; exact ⟨a, (h3 a).mp ha, rfl⟩
    · rintro ⟨a, ha, rfl⟩; exact ⟨a, (h3 a).mpr ha, rfl⟩
theorem allIntT_rows : ∀ {ys : List PV}, allIntT ys = true → ∃ ks : List (List Int), ys = ks.map tupI
  | [], _ => ⟨[], rfl⟩
  | y :: ys, h => by
    cases y <;> simp only [allIntT, Bool.false_eq_true] at h
    rw [Bool.and_eq_true] at h
    obtain ⟨ns, rfl⟩ := allInt_ints h.1
    obtain ⟨ks, rfl⟩ := allIntT_rows h.2
    exact ⟨ns :: ks, rfl⟩
theorem rows_rep {K : PySem.W.Frag} {mg : PySem.Str → Option Value} {F : Hp} : ∀ {ks : List (List Int)} {ws : List V}, RepL K mg F (ks.map tupI) ws → ∃ L : List (Addr × List Int), L.map (·.2) = ks ∧ ws = L.map (fun q => V.ref q.1) ∧ ∀ q ∈ L, SqT K F q.1 (q.2.map V.int)
  | [], _, r => by cases r; exact ⟨[], rfl, rfl, fun q h => by cases h⟩
  | k :: ks, _, ⟨v, t, e, a, b⟩ => by
    subst e
    obtain ⟨p, vs, rfl, hq, hr⟩ := a
    obtain ⟨L, e1, e2, h⟩ := rows_rep b
    rw [RepL.vints hr] at hq
    refine ⟨(p, k) :: L, by rw [List.map_cons, e1], by rw [List.map_cons, e2], fun q hm => ?_⟩
    rcases List.mem_cons.mp hm with rfl | hm
    · exact hq
    · exact h q hm
theorem rep_rows {K : PySem.W.Frag} {mg : PySem.Str → Option Value} {F : Hp} : ∀ {L : List (Addr × List Int)}, (∀ q ∈ L, SqT K F q.1 (q.2.map V.int)) → RepL K mg F ((L.map (·.2)).map tupI) (L.map fun q => V.ref q.1)
  | [], _ => rfl
  | q :: L, h => by
    refine ⟨V.ref q.1, _, rfl, ⟨q.1, q.2.map V.int, rfl, h q List.mem_cons_self, ?_⟩, rep_rows fun r hr => h r (List.mem_cons_of_mem _ hr)⟩
    have : ∀ ns : List Int, RepL K mg F (ns.map .int) (ns.map V.int) := fun ns => by
      induction ns with
      | nil => rfl
      | cons n ns ih => exact ⟨V.int n, _, rfl, rfl, ih⟩
    exact this q.2
theorem reads_rows {P : Program} {w : World} {h : Heap} {k : List Int} {b : Addr} (x : IsT P w h k b) : Reads h (.ref b) (pd (tupI k)) [] := by
  obtain ⟨o, items, n, ho, hc, hd, hi⟩ := x
  refine .tuple ho hc hd ?_
  have := ints_of_items hi
  generalize items.toList = l at this
  clear hd hi ho hc
  induction this with
  | nil => exact .nil
  | cons k t _ ih => exact .cons (.int k t) ih
theorem depth_rows (k : List Int) : (pd (tupI k)).depth ≤ 1 := pd_depth (by show dpLes 0 (k.map .int) = true; induction k with | nil => rfl | cons a k ih => show (true && dpLes 0 (k.map .int)) = true; rw [ih]; rfl)
section
variable {P : Program} {w : World} {A : Around} {E : Value → Shared → Prop} {s : Shared}
theorem sorted_rows {a : Addr} {L : List (Addr × List Int)} {es : Array (Int × Value)} {ep : Nat} {tab : SetTable} {Q : Value → Shared → Prop} (R : SetTR P w s.heap a L es ep tab) (calm : A.handled = none) (hu : A.units + 64 < cLine) (hne : L.length < 2 ∨ ∀ q ∈ L, q.2 ≠ [])
    (done : ∀ s' p (c : Nat) (M : List (Addr × List Int)), (∀ b o, s.heap.get? b = some o → s'.heap.get? b = some o) → s'.gens = s.gens → s'.os = s.os → s.heap.objs.size ≤ p → s'.heap.get? p = some (seqObj "list" (M.map fun q => Value.ref q.1).toArray c) → M.Perm L →
      (M.Pairwise fun q r => leD (tupI q.2) (tupI r.2) = true) → Q (.ref p) s') : wpAny (model P w) A (call (.builtin "sorted") [.ref a]) Q E s := by
  obtain ⟨o, ho, hex, hd⟩ := R.ob
  have few := R.few
  have size := R.size
  refine Calls.call_function_entry kind_sorted plain_sorted entry_sorted (args_sorted1 _) ?_
  unfold Builtin.«sorted»
  refine wpAny_bind (m := checkCount "sorted" 1 1 _) (wpAny_pure ?_)
  refine wpAny_bind (collect_set (A := A.in1) calm ⟨o, ho, hex.1, hd⟩ R.fits (by unfold scanBound; omega) R.tab.ris R.led fun s1 vs keep grow hg ho' pm => ?_)
  have rows : es.toList.map (·.2) = L.map fun q => Value.ref q.1 := by rw [R.rows]; unfold rowsOf; rw [List.map_map]; rfl
  rw [rows] at pm
  obtain ⟨L1, p1, rfl⟩ := perm_back pm rfl
  have hl1 : L1.length < 64 := by rw [p1.length_eq]; exact few
  have hvl : (L1.map fun q => Value.ref q.1).length < 64 := by rw [List.length_map]; exact hl1
  refine wpAny_bind (wpAny_newList ?_ (by rw [sizeLine_eq]; omega))
  have new : (s1.heap.push (seqObj "list" (L1.map fun q => Value.ref q.1).toArray 0)).get? s1.heap.objs.size = some (seqObj "list" (L1.map fun q => Value.ref q.1).toArray 0) := Heap.get?_push_size _ rfl
  have fin : ∀ M : List (Addr × List Int), M.Perm L → (M.Pairwise fun q r => leD (tupI q.2) (tupI r.2) = true) → Q (.ref s1.heap.objs.size) { s1 with heap := sortedHeap (s1.heap.push (seqObj "list" (L1.map fun q => Value.ref q.1).toArray 0)) s1.heap.objs.size (L1.map fun q => Value.ref q.1) (M.map fun q => Value.ref q.1).toArray } := fun M pM sM => by
    obtain ⟨c, hc⟩ := sortedHeap_at (vs := L1.map fun q => Value.ref q.1) (out := (M.map fun q => Value.ref q.1).toArray) new
    refine done _ s1.heap.objs.size c M (fun b u e => ?_) hg ho' grow hc pM sM
    have e1 := keep b u e
    have lt := Heap.lt_size e1
    show (sortedHeap _ _ _ _).get? b = some u
    rw [sortedHeap_old (Nat.ne_of_lt lt) (by rw [size_push']; exact Nat.lt_succ_of_lt lt)]
    exact Heap.get?_push_of_some _ e1
  by_cases h2 : L1.length < 2
  · refine wpAny_bind (wpAny_holding (wpAny_call_entry slot_list_sort ⟨_, new, rfl⟩ entry_list_sort (SrtO.list_sort_ord (ltv := fun _ _ => false) ⟨fun _ _ h => (by cases h), fun _ _ _ _ _ => rfl⟩ new (by rw [sizeLine_eq]; omega) (fun h3 => absurd h3 (by rw [List.length_map]; omega)) fun out _ hb => ⟨_, rfl, ?_⟩) (args_list_sort _)))
    have eo : out = L1.map fun q => Value.ref q.1 := short_perm hb.perm (by rw [List.length_map]; exact h2)
    rw [eo]
    refine wpAny_pure ⟨_, rfl, fin L1 p1 ?_⟩
    match L1, h2 with
    | [], _ => exact .nil
    | [q], _ => exact List.pairwise_singleton _ _
    | _ :: _ :: _, h => simp at h; omega
  · have hall : ∀ q ∈ L1, q.2 ≠ [] := fun q hq => (hne.resolve_left (by rw [← p1.length_eq]; exact h2)) q (p1.mem_iff.mp hq)
    have each : ∀ {Z : Value → (Addr × List Int) → Prop} {M : List (Addr × List Int)}, (∀ q ∈ M, Z (.ref q.1) q) → PySem.W.EachIs Z (M.map fun q => Value.ref q.1) M := fun {Z M} h => by
      induction M with
      | nil => exact .nil
      | cons q M ih => exact .cons (h q List.mem_cons_self) (ih fun r hr => h r (List.mem_cons_of_mem _ hr))
    have back : ∀ {out : List Value} {M : List (Addr × List Int)}, PySem.W.EachIs (fun v (q : Addr × List Int) => v = Value.ref q.1) out M → out = M.map fun q => Value.ref q.1 := fun {out M} h => by
      induction h with
      | nil => rfl
      | cons e _ ih => rw [e, ih]; rfl
    refine wpAny_bind (wpAny_holding (PySem.W.list_sort_data (bs := L1) (enc := fun q => pd (tupI q.2)) (R := fun v q => v = Value.ref q.1) new (each fun _ _ => rfl) (each fun q hq => ⟨[], reads_rows (isT_keep (R.tup q (p1.mem_iff.mp hq)) fun b u e => Heap.get?_push_of_some _ (keep b u e)), fun h => by cases h⟩)
      (fun d hd d' hd' => ?_) (.inl fun d hd => ?_) (by rw [sizeLine_eq]; omega) (fun q hq => ?_) fun out hlen eo => ?_))
    · obtain ⟨q, _, rfl⟩ := List.mem_map.mp hd
      obtain ⟨r, _, rfl⟩ := List.mem_map.mp hd'
      exact alike_pd (alike_tupI q.2 r.2)
    · obtain ⟨q, hq, rfl⟩ := List.mem_map.mp hd
      have := hall q hq
      cases e : q.2 with
      | nil => exact absurd e this
      | cons x r => exact ⟨.int x, pds (r.map .int), rfl⟩
    · have := depth_rows q.2
      show A.in1.units + 1 + _ < cLine
      have hi : A.in1.units ≤ A.units + 1 := Nat.le_refl _
      omega
    · rw [back eo]
      refine wpAny_pure ⟨_, rfl, fin _ ((List.mergeSort_perm _ _).trans p1) ?_⟩
      exact PySem.W.sort_pairwise (le := PySem.W.dataLe false fun q : Addr × List Int => pd (tupI q.2)) (PySem.W.sortLe_total _ _ _) L1
end
section
variable {X : Cx} {e : Expr} {p p2 q pos : Pos} {f : VS}
theorem setOk_few {ys : List PV} (h : setOk ys = true) : ys.length < 64 := by
  unfold setOk at h
  rw [Bool.and_eq_true] at h
  exact of_decide_eq_true h.1
theorem call_set {pins : List (Addr × Obj)} {σ : L2.St} {H F : Hp} {s : Shared} {E : Value → Shared → Prop} {t : Addr} {ys : List PV} {ws : List V} {Q : Value → Shared → Prop} (hc : X.calm = true) (hu : X.A.units + 65 < cLine) (I : Inv X pins σ H s) (hs : Sub F H) (r : RepL X.K X.mg F ys ws) (hq : SqT X.K F t ws) (hok : setOk ys = true)
    (hi : ∀ (a : Addr) (s1 : Shared) (c : Nat) (ns : List Int), ys = ns.map .int → SetR X.w s1.heap a (fun j => decide (j ∈ ns)) c → c ≤ ns.length → Inv X pins σ H s1 → Q (.ref a) s1)
    (ht : ∀ (a : Addr) (s1 : Shared) (ks : List (List Int)) (L : List (Addr × List Int)) es ep tab, ys = ks.map tupI → SetTR X.prog X.w s1.heap a L es ep tab → (∀ k, k ∈ L.map (·.2) ↔ k ∈ ks) → (∀ q ∈ L, SqT X.K F q.1 (q.2.map V.int)) → Inv X pins σ H s1 → Q (.ref a) s1) :
    wpAny (model X.prog X.w) X.A (call (.type "set") [.ref t]) Q E s := by
  have few := setOk_few hok
  unfold setOk at hok
  rw [Bool.and_eq_true, Bool.or_eq_true, Bool.and_eq_true] at hok
  rcases hok.2 with h1 | ⟨h1, _⟩
  · obtain ⟨ns, rfl⟩ := allInt_ints h1
    rw [RepL.vints r] at hq
    exact set_ints hc I (hs.sqT hq) (by simpa using few) fun a s1 c R hcn I1 => hi a s1 c ns rfl R hcn I1
  · obtain ⟨ks, rfl⟩ := allIntT_rows h1
    obtain ⟨L0, e1, e2, h0⟩ := rows_rep r
    subst e2
    obtain ⟨its, rv, pl, hz⟩ := I.tuple (hs.sqT hq)
    refine make_set (P := X.prog) (w := X.w) L0 (I.ok.hd hc) pl (by simpa using refs_of_vals rv) (fun q hm => I.isT (hs.sqT (h0 q hm))) (by rw [← e1, List.length_map, List.length_map] at few; exact few) (by omega) fun g tk L es ep tab R got kp => ?_
    have sub : ∀ q ∈ L, q ∈ L0 := fun q hm => List.mem_of_mem_take (got.sub q hm)
    refine ht _ _ ks L es ep tab rfl R (fun k => ?_) (fun q hm => h0 q (sub q hm)) (I.kept kp)
    rw [← e1]
    constructor
    · intro hk
      obtain ⟨q, hm, rfl⟩ := List.mem_map.mp hk
      exact List.mem_map.mpr ⟨q, sub q hm, rfl⟩
    · intro hk
      obtain ⟨q, hm, rfl⟩ := List.mem_map.mp hk
      exact got.all q (by rw [List.take_length]; exact hm)
theorem s_sortedSet {m : Bool} (hc : X.calm = true) (hu : X.A.units + 65 < cLine) (hg : Gl X "sorted") (hm : X.mg "sorted" = none) (hg2 : Gl X "set") (hm2 : X.mg "set" = none) (ha : PE X e (rdE X.K X.mg f)) (hs : noStar e = true) :
    PE X (.Call (.Name "sorted" p) [.Call (.Name "set" p2) [e] [] q] [] pos) (rdE X.K X.mg fun ρ S => (f ρ S).bind fun x S1 => bSortedSet m x S1) := by
  have na : starEach [e] X.env = (false, eval e X.env) :: starEach [] X.env := star_one hs [] X.env
  refine ⟨fun pins s σ H Q I h => ?_⟩
  obtain ⟨ι, F, S, ρ, z, S', sim, r, hz, fin⟩ := h
  obtain ⟨x, S1, h1, hz⟩ := bind_ok hz
  refine Call_ (ld_blt I hg hm PyProof.Rows.boot_sorted ?_)
  refine PyProof.Rows.callWith_builtin1 (PyProof.Rows.args_cons ?_ rfl) rfl rfl
  refine Call_ (ld_blt I hg2 hm2 PyProof.Rows.boot_set ?_)
  refine PyProof.Rows.callWith_type1 (PyProof.Rows.args_cons (thn (ha.run pins s σ H (fun v H1 => ∃ ι1 F1, Ext ι F ι1 F1 ∧ Sim X.K X.mg ι1 F1 S1 H1 ∧ RepS X.K X.mg F1 ι1 x v) I ⟨ι, F, S, ρ, x, S1, sim, r, h1, fun ι1 F1 v H1 e1 s1 r1 => ⟨ι1, F1, e1, s1, r1⟩⟩) fun u s1 ⟨v, H1, I1, rv, ι1, F1, e1, sim1, r1⟩ => PyProof.Rows.args_nil ?_) na) na rfl
  unfold bSortedSet at hz
  split at hz
  · rename_i ys hseq
    split at hz
    · rename_i hok
      obtain ⟨t, ws, rfl, rl, hq⟩ := sim1.seqT r1 hseq
      cases rv
      have few := setOk_few hok
      refine call_set hc hu I1 sim1.sub rl hq hok (fun a s2 c ns ey R hcn I2 => ?_) fun a s2 ks L es ep tab ey R hmem hrow I2 => ?_
      · subst ey
        rw [List.length_map] at few
        refine PyProof.Rows.args_nil ?_
        refine sorted_set R (I2.ok.hd hc) (by omega) fun s3 p' out c' ns' keep hgn hos hsz hp hia hpw hmm hlen => ?_
        have eq := ints_sorted hpw (ns := ns) fun k => (hmm k).trans (by simp)
        rw [eq] at hz
        obtain ⟨hl, go⟩ := fin_mkL (vs := ns'.map V.int) sim1 (by
          have : ∀ l : List Int, RepL X.K X.mg F1 (l.map .int) (l.map V.int) := fun l => by
            induction l with
            | nil => rfl
            | cons n l ih => exact ⟨V.int n, _, rfl, rfl, ih⟩
          exact this ns') hz fun ι2 F2 u H2 e2 s2 r2 => fin ι2 F2 u H2 (e1.trans e2) s2 r2
        exact ⟨.ref p', _, inv_laid I2 keep hgn hos hsz (ints_of_vals hia) hl (by simpa using hp), rfl, go p' (I2.hok.fresh hsz)⟩
      · subst ey
        have hnd := R.nd
        have hne : L.length < 2 ∨ ∀ q ∈ L, q.2 ≠ [] := by
          unfold setOk at hok
          rw [Bool.and_eq_true, Bool.or_eq_true, Bool.and_eq_true] at hok
          rcases hok.2 with h | ⟨_, h⟩
          · cases ks with
            | nil =>
              left
              cases L with
              | nil => simp
              | cons q L => have := (hmem q.2).mp (by simp); simp at this
            | cons k ks => cases h
          · unfold sortOk at h
            rw [Bool.and_eq_true, Bool.or_eq_true] at h
            rcases h.2 with h | h
            · left
              have hk : ks.length < 2 := by simpa using h
              match ks, hk with
              | [], _ =>
                cases L with
                | nil => simp
                | cons q L => have := (hmem q.2).mp (by simp); simp at this
              | [k], _ =>
                match L, hnd, hmem with
                | [], _, _ => simp
                | [q], _, _ => simp
                | q :: q' :: L, hnd, hmem =>
                  have a1 := (hmem q.2).mp (by simp)
                  have a2 := (hmem q'.2).mp (by simp)
                  simp only [List.mem_singleton] at a1 a2
                  rw [List.map_cons, List.map_cons, List.nodup_cons] at hnd
                  exact absurd (by rw [a1, a2]; exact List.mem_cons_self) hnd.1
              | _ :: _ :: _, hk => simp at hk; omega
            · right
              intro q hq hnil
              have hk := (hmem q.2).mp (List.mem_map.mpr ⟨q, hq, rfl⟩)
              rw [Bool.and_eq_true, Bool.and_eq_true, Bool.or_eq_true] at h
              have hmemy : tupI q.2 ∈ ks.map tupI := List.mem_map.mpr ⟨_, hk, rfl⟩
              rcases h.1.2 with h | h
              · have := List.all_eq_true.mp h _ hmemy
                rw [hnil] at this
                cases this
              · have := List.all_eq_true.mp h _ hmemy
                cases this
        refine PyProof.Rows.args_nil ?_
        refine sorted_rows R (I2.ok.hd hc) (by omega) hne fun s3 p' c M keep hgn hos hsz hp pM sM => ?_
        have hMk : (M.map (·.2)).Nodup := (pM.map (·.2)).nodup_iff.mpr hnd
        have eq := rows_sorted (ks := ks) (L := M.map (·.2)) (List.pairwise_map.mpr sM) hMk fun k => by rw [(pM.map (·.2)).mem_iff]; exact hmem k
        rw [eq] at hz
        obtain ⟨hl, go⟩ := fin_mkL (vs := M.map fun q => V.ref q.1) sim1 (rep_rows fun q hm => hrow q (pM.mem_iff.mp hm)) hz fun ι2 F2 u H2 e2 s2 r2 => fin ι2 F2 u H2 (e1.trans e2) s2 r2
        exact ⟨.ref p', _, inv_laid I2 keep hgn hos hsz (vals_of_refs M) hl hp, rfl, go p' (I2.hok.fresh hsz)⟩
    · cases hz
  · cases hz
end
end FW

namespace FW
open PySem PySem.Spec PyProof.Rows L2
section
variable {X : Cx} {a b c e f : Expr} {pos apos cpos : Pos} {fa fb fc : VS}
theorem s_dic0 : PE X (.Dict [] [] pos) (rdE X.K X.mg sDic0) := by
  refine pe_ofV pe_dnewK fun ι F S ρ y S' σ H Q sim r hf q => fun p hp => ?_
  unfold sDic0 at hf
  cases hf
  obtain ⟨s', e⟩ := sim.newL (x := .dic []) (o := .dK []) hp ⟨(sim.fresh hp).1, [], rfl, rfl⟩
  exact q _ _ _ _ e s' ⟨p, by rw [← sim.len]; simp, rfl⟩
theorem isDc_some {S : Store} {x : SV} (h : isDc S x = true) : ∃ kvs, dicR S x = some kvs := by
  unfold isDc at h
  split at h
  · exact ⟨_, by assumption⟩
  · cases h
theorem keyOk_some {k : PV} (h : keyOk k = true) : ∃ k' : L2.Key, k = keyP k' := by
  cases k <;> simp only [keyOk, Bool.false_eq_true] at h
  · exact ⟨.inl _, rfl⟩
  · exact ⟨.inr _, rfl⟩
theorem s_get (hu : X.A.units + 1 < cLine) (ho : PE X a (rdE X.K X.mg fa)) (he : PE X e (rdE X.K X.mg fb)) (hf : PE X f (rdE X.K X.mg fc)) (h1 : noStar e = true) (h2 : noStar f = true) (hbase : attributeBase a "get" X.env (eval a X.env) = eval a X.env) (hline : (apos.endLine == cpos.line) = true) :
    PE X (.Call (.Attribute a "get" apos) [e, f] [] cpos) (rdE X.K X.mg (sGet fa fb fc)) := by
  have m : M2 X a "get" apos e f cpos := ⟨hbase, by rw [star_one h1, star_one h2]; rfl, hline, by rw [star_one h1, star_one h2]; rfl⟩
  refine pe_ofV (pe_dget2 hu ho he hf m) fun ι F S ρ y S' σ H Q sim r hz q => ?_
  unfold sGet at hz
  obtain ⟨x, S1, g1, hz⟩ := bind_ok hz
  split at hz
  case isFalse => cases hz
  rename_i hd
  obtain ⟨k, S2, g2, hz⟩ := bind_ok hz
  obtain ⟨d, S3, g3, hz⟩ := bind_ok hz
  refine ⟨ι, F, S, ρ, x, S1, sim, r, g1, fun ι1 F1 v H1 e1 s1 r1 => ?_⟩
  obtain ⟨kvs, hk⟩ := isDc_some hd
  obtain ⟨p, ws, rfl, hH, rd⟩ := s1.dicR r1 hk
  refine ⟨p, rfl, .inl ⟨ws, hH⟩, ?_⟩
  refine ⟨ι1, F1, S1, ρ, k, S2, s1, r.mono e1, g2, fun ι2 F2 w H2 e2 s2 r2 => ?_⟩
  refine ⟨ι2, F2, S2, ρ, d, S3, s2, r.mono (e1.trans e2), g3, fun ι3 F3 z H3 e3 s3 r3 => ?_⟩
  unfold getOp at hz
  split at hz
  · rename_i k x
    split at hz
    · rename_i kvs3 hk3
      split at hz
      · rename_i hok
        cases hz
        obtain ⟨p', ws', hp, hH', rd'⟩ := s3.dicR (r1.mono (e2.trans e3)) hk3
        cases hp
        obtain ⟨key, rfl⟩ := keyOk_some hok
        have r2' := r2.mono e3
        have hw := keyP_rep r2'
        subst hw
        have hg := rd'.get key
        refine ⟨valV ws' key, DGet_R hH', q _ _ _ _ (e1.trans (e2.trans e3)) s3 ?_⟩
        cases hkg : keyGet (keyP key) kvs3 with
        | none =>
          rw [hkg] at hg
          have : valV ws' key = none := hg
          rw [this]
          exact r3
        | some w =>
          rw [hkg] at hg
          obtain ⟨v', i1, i2⟩ := hg
          rw [i1]
          exact i2
      · cases hz
    · cases hz
  · cases hz
def RI (v : Value) (y : PV) : Prop := ∃ k t, y = .int k ∧ v = Value.int k t
theorem ri_of : ∀ {us : List Value} {ks : List Int}, IntsAre us ks → PySem.W.EachIs RI us (ks.map PV.int)
  | _, _, .nil => .nil
  | _, _, .cons k t h => .cons ⟨k, t, rfl, rfl⟩ (ri_of h)
theorem ri_back {us : List Value} {ys : List PV} (h : PySem.W.EachIs RI us ys) : ∃ ns : List Int, ys = ns.map .int ∧ IntsAre us ns := by
  induction h with
  | nil => exact ⟨[], rfl, .nil⟩
  | cons e _ ih =>
    obtain ⟨k, t, rfl, rfl⟩ := e
    obtain ⟨ns, rfl, hi⟩ := ih
    exact ⟨k :: ns, rfl, .cons k t hi⟩
theorem ri_reads {h : Heap} {a : Addr} : ∀ {us : List Value} {ks : List Int}, IntsAre us ks → PySem.W.EachIs (fun v b => ∃ as, PySem.Reads h v (pd b) as ∧ a ∉ as) us (ks.map PV.int)
  | _, _, .nil => .nil
  | _, _, .cons k t hr => .cons ⟨[], .int k t, fun h => by cases h⟩ (ri_reads hr)
theorem alike_ints (ks : List Int) : allAlike (ks.map PV.int) = true := by
  unfold allAlike
  refine List.all_eq_true.mpr fun x hx => List.all_eq_true.mpr fun y hy => ?_
  obtain ⟨i, _, rfl⟩ := List.mem_map.mp hx
  obtain ⟨j, _, rfl⟩ := List.mem_map.mp hy
  rfl
theorem sortable_ints (ks : List Int) : ((ks.map PV.int).all isNT || (ks.map PV.int).all isOne) = true := by
  have : (ks.map PV.int).all isOne = true := List.all_eq_true.mpr fun x hx => by
    obtain ⟨i, _, rfl⟩ := List.mem_map.mp hx
    rfl
  rw [this, Bool.or_true]
theorem call_sortedKV {pins : List (Addr × Obj)} {σ : L2.St} {H : Hp} {s : Shared} {E : Value → Shared → Prop} {v d : Addr} {vs : List (Key × Value)} {ep : Nat} {ks : List Int} {Q : Value → Shared → Prop} (hcalm : X.calm = true) (hu : X.A.units + 65 < cLine) (I : Inv X pins σ H s)
    (hv : PySem.W.KdlKeysView s.heap v d) (hat : s.heap.DictAt (mixKind X.prog X.w) d vs ep) (hkeys : vs.map (·.1) = ks.map Sum.inl) (h16 : vs.length ≤ sizeLine)
    (done : ∀ (p : Addr) (s' : Shared) (ns : List Int), isortK (ks.map .int) = ns.map .int → H p = none → Inv X pins σ (upd H p (.lst (ns.map V.int))) s' → Q (.ref p) s') : wpAny (model X.prog X.w) X.A (call (.builtin "sorted") [.ref v]) Q E s := by
  have hl : vs.length = ks.length := by
    have e := congrArg List.length hkeys
    rw [List.length_map, List.length_map] at e
    exact e
  refine Calls.call_function_entry PyProof.Rows.kind_sorted PyProof.Rows.plain_sorted PyProof.Rows.entry_sorted (PyProof.Rows.args_sorted1 _) ?_
  unfold Builtin.«sorted»
  refine wpAny_bind (m := checkCount "sorted" 1 1 _) (wpAny_pure ?_)
  refine wpAny_bind (PySem.W.kdu_collect (A := X.A.in1) (PySem.W.kdl_keys (knd := mixKind X.prog X.w) (kvs := vs) (ep := ep) (r := v) (d := d)) (I.ok.hd hcalm) ⟨hv, hat⟩ h16 fun h' tk acc hk hacc => ?_)
  have hal : acc.toList.length = ks.length := by rw [Array.length_toList, hacc.1, hl]
  have hS : IntsAre acc.toList ks := ints_each hal fun j v e => by
    obtain ⟨k, x, e1, e2⟩ := hacc.2 j v (by rw [← Array.getElem?_toList]; exact e)
    have e3 : (vs.map (·.1))[j]? = some k := by rw [List.getElem?_map, e1]; rfl
    rw [hkeys, List.getElem?_map] at e3
    cases e4 : ks[j]? with
    | none => rw [e4] at e3; cases e3
    | some y =>
      rw [e4] at e3
      have e5 : Sum.inl y = k := Option.some.inj e3
      subst e5
      rcases keyIs_shape (show keyIs (Sum.inl y) v = true from e2) with ⟨i, t, ek, ev⟩ | ⟨z, t, ek, ev⟩
      · cases ek
        exact ⟨y, t, rfl, ev⟩
      · cases ek
  have I1 : Inv X pins σ H { s with heap := h', toks := tk } := I.kept hk
  refine wpAny_bind (wpAny_newList ?_ (by rw [hal, ← hl]; exact h16))
  have new : (h'.push (seqObj "list" acc.toList.toArray 0)).get? h'.objs.size = some (seqObj "list" acc.toList.toArray 0) := Heap.get?_push_size _ rfl
  have fin : ∀ (out : List Value) (ns : List Int), isortK (ks.map .int) = ns.map .int → IntsAre out ns → ns.length = ks.length → Q (.ref h'.objs.size) { s with heap := sortedHeap (h'.push (seqObj "list" acc.toList.toArray 0)) h'.objs.size acc.toList out.toArray, toks := tk } := fun out ns e1 e2 e3 => by
    obtain ⟨c, hc⟩ := sortedHeap_at (vs := acc.toList) (out := out.toArray) new
    refine done _ _ ns e1 (I1.hok.fresh (Nat.le_refl _)) (inv_laid (us := out) (c := c) I1 (fun b u e => ?_) rfl rfl (Nat.le_refl _) (ints_of_vals e2) (by rw [List.length_map, e3, ← hl]; exact h16) hc)
    have lt := Heap.lt_size e
    show (sortedHeap _ _ _ _).get? b = some u
    rw [sortedHeap_old (Nat.ne_of_lt lt) (by rw [size_push']; exact Nat.lt_succ_of_lt lt)]
    exact Heap.get?_push_of_some _ e
  show wpAny _ _ _ _ _ { s with heap := h'.push (seqObj "list" acc.toList.toArray 0), toks := tk }
  refine wpAny_bind (wpAny_holding (PySem.W.list_sort_data (s := { s with heap := h'.push (seqObj "list" acc.toList.toArray 0), toks := tk }) (bs := ks.map PV.int) (enc := pd) (R := RI) new (ri_of hS) (ri_reads hS) (allAlike_pd (alike_ints ks)) (sortable_pd (sortable_ints ks)) (by rw [List.length_map, ← hl]; exact h16) (fun b hb => ?_) fun out hlen eo => ?_))
  · obtain ⟨i, _, rfl⟩ := List.mem_map.mp hb
    show X.A.in1.units + 1 + 0 < cLine
    have hi : X.A.in1.units ≤ X.A.units + 1 := Nat.le_refl _
    omega
  · have eo' : PySem.W.EachIs RI out (isortK (ks.map .int)) := by
      rw [isortK_eq (alike_ints ks)]
      exact eo
    obtain ⟨ns, e1, e2⟩ := ri_back eo'
    have e3 : ns.length = ks.length := by
      have := congrArg List.length e1
      rw [isortK_len, List.length_map, List.length_map] at this
      exact this.symm
    exact wpAny_pure ⟨_, rfl, fin out ns e1 e2 e3⟩
theorem repD_keys {K : PySem.W.Frag} {mg : PySem.Str → Option Value} {F : Hp} : ∀ {kvs : List (PV × PV)} {ws : List (L2.Key × V)} {ks : List Int}, RepD K mg F kvs ws → kvs.map Prod.fst = ks.map PV.int → ws.map (·.1) = ks.map Sum.inl
  | [], _, ks, r, e => by
    cases r
    cases ks with
    | nil => rfl
    | cons k ks => cases e
  | (k0, x) :: kvs, _, [], r, e => by cases e
  | (k0, x) :: kvs, _, k :: ks, ⟨k', v, t, e1, e2, _, b⟩, e => by
    subst e1
    have h1 : k0 = .int k := (List.cons.inj e).1
    have h2 := (List.cons.inj e).2
    rw [e2] at h1
    cases k' with
    | inl i =>
      cases h1
      show Sum.inl _ :: t.map (·.1) = _
      rw [repD_keys b h2]
      rfl
    | inr s => cases h1
theorem s_sortedKeys {m : Bool} {p mpos : Pos} (hc : X.calm = true) (hu : X.A.units + 65 < cLine) (hg : Gl X "sorted") (hm : X.mg "sorted" = none) (ha : PE X a (rdE X.K X.mg fa)) (hbase : attributeBase a "keys" X.env (eval a X.env) = eval a X.env) (hline : (apos.endLine == mpos.line) = true) :
    PE X (.Call (.Name "sorted" p) [.Call (.Attribute a "keys" apos) [] [] mpos] [] pos) (rdE X.K X.mg fun ρ S => (fa ρ S).bind fun x S1 => bSortedKeys m x S1) := by
  refine ⟨fun pins s σ H Q I h => ?_⟩
  obtain ⟨ι, F, S, ρ, z, S', sim, r, hz, fin⟩ := h
  obtain ⟨x, S1, h1, hz⟩ := bind_ok hz
  refine Call_ (ld_blt I hg hm PyProof.Rows.boot_sorted ?_)
  refine PyProof.Rows.callWith_builtin1 (PyProof.Rows.args_cons ?_ rfl) rfl rfl
  refine wpAny_Call_method0_late hbase hline (thn (ha.run pins s σ H (fun v H1 => ∃ ι1 F1, Ext ι F ι1 F1 ∧ Sim X.K X.mg ι1 F1 S1 H1 ∧ RepS X.K X.mg F1 ι1 x v) I ⟨ι, F, S, ρ, x, S1, sim, r, h1, fun ι1 F1 v H1 e1 s1 r1 => ⟨ι1, F1, e1, s1, r1⟩⟩) fun u s1 ⟨v, H1, I1, rv, ι1, F1, e1, sim1, r1⟩ => ?_)
  unfold bSortedKeys at hz
  split at hz
  case h_2 => cases hz
  rename_i kvs hk
  split at hz
  case isFalse => cases hz
  rename_i hok
  obtain ⟨ks, hks⟩ := allInt_ints hok
  rw [hks] at hz
  obtain ⟨n, d, ws, rfl, hι, hS, rfl, hF, hH, rd⟩ := sim1.dic r1 hk
  obtain rfl : u = Value.ref d := rv
  obtain ⟨hz16, hsys, vs, rel, dof⟩ := dk_of I1.hok hH
  obtain ⟨ep, dat⟩ := dof.dictAt
  have dat' := dat
  obtain ⟨ob, es, ho, ex, hdat, hko, hpr, hnd⟩ := dat'
  have hkeys : vs.map (·.1) = ks.map Sum.inl := rel.keys.symm.trans (repD_keys rd hks)
  have hlv : vs.length = ws.length := (KV.length rel).symm
  refine ⟨"dict", "dict.keys", PySem.F.plainAttrs_dict, PySem.F.slot_dict_keys, PySem.F.type_dict_keys, ⟨ob, ho, ex.1⟩, fun b e => ?_, Calls.callWith_builtin rfl (PySem.evalArgs_none ?_)⟩
  · cases e
    exact ⟨ob, ho, ex.2.1⟩
  refine call_meetsIn PySem.F.slot_dict_keys ⟨ob, ho, ex.1⟩ PySem.F.entry_dict_keys (PySem.F.args_dict_keys_1 _) (PySem.W.kdl_meets_keys (mixKind X.prog X.w) d hsys) ⟨⟨vs, dof⟩, ?_⟩
  have k1 : ∀ b u, s1.heap.get? b = some u → (s1.heap.push { cls := .type "dict_keys", data := .fields #[.ref d] }).get? b = some u := fun b u e => Heap.get?_push_of_some _ e
  have I2 : Inv X pins σ H1 { s1 with heap := s1.heap.push { cls := .type "dict_keys", data := .fields #[.ref d] } } := I1.kept (t' := s1.toks) k1
  refine PyProof.Rows.args_nil ?_
  refine call_sortedKV (ks := ks) hc hu I2 ⟨_, Heap.get?_push_size _ rfl, rfl, rfl⟩ (dat.keep k1) hkeys (by rw [hlv]; exact hz16) fun p s2 ns en hp I3 => ?_
  rw [en] at hz
  obtain ⟨hl, go⟩ := fin_mkL (vs := ns.map V.int) sim1 (by
    have : ∀ l : List Int, RepL X.K X.mg F1 (l.map .int) (l.map V.int) := fun l => by
      induction l with
      | nil => rfl
      | cons n l ih => exact ⟨V.int n, _, rfl, rfl, ih⟩
    exact this ns) hz fun ι2 F2 u H2 e2 s2 r2 => fin ι2 F2 u H2 (e1.trans e2) s2 r2
  exact ⟨.ref p, _, I3, rfl, go p hp⟩
end
end FW

namespace FW
open PySem PySem.Spec PyProof.Rows L2 RZ

def Same (ts : List Nat) (σ σ' : L2.St) : Prop := σ'.length = σ.length ∧ ∀ j, j ∉ ts → σ'[j]? = σ[j]?
section
variable {ts us : List Nat} {σ σ' σ'' : L2.St}
theorem Same.refl : Same ts σ σ := ⟨rfl, fun _ _ => rfl⟩
theorem Same.trans (a : Same ts σ σ') (b : Same ts σ' σ'') : Same ts σ σ'' := ⟨b.1.trans a.1, fun j h => (b.2 j h).trans (a.2 j h)⟩
theorem Same.mono (a : Same ts σ σ') (h : ∀ t ∈ ts, t ∈ us) : Same us σ σ' := ⟨a.1, fun j hj => a.2 j fun z => hj (h j z)⟩
theorem Same.set {i : Nat} {x : Option V} (h : i ∈ ts) : Same ts σ (σ.set i x) := ⟨by simp, fun j hj => by rw [List.getElem?_set_ne (fun z => by subst z; exact hj h)]⟩
theorem wipe_in : ∀ (vs : List Nat) (j : Nat), j ∈ vs → (L2.wipe σ vs)[j]? = if j < σ.length then some none else none
  | [], _, h => by cases h
  | v :: vs, j, h => by
    unfold L2.wipe
    by_cases hj : v = j
    · subst hj
      rw [List.getElem?_set]
      simp [L2.wipe_length]
    · rw [List.getElem?_set_ne hj]
      exact wipe_in vs j ((List.mem_cons.mp h).resolve_left fun z => hj z.symm)
theorem Same.wipe {own : List Nat} (a : Same ts (L2.wipe σ own) σ') (h : ∀ t ∈ ts, t ∈ own) : L2.wipe σ' own = L2.wipe σ own := by
  refine List.ext_getElem? fun j => ?_
  by_cases hj : j ∈ own
  · rw [wipe_in own j hj, wipe_in own j hj, a.1, L2.wipe_length]
  · rw [L2.wipe_out hj, a.2 j fun z => hj (h j z)]
end
section
variable (K : PySem.W.Frag) (mg : PySem.Str → Option Value)
def rdG (g : PV → Slots → Option Slots) (ts : List Nat) : TG := fun v σ H Q => ∃ ι F S ρ x ρ', Sim K mg ι F S H ∧ RepR K mg F ι ρ σ ∧ Rep K mg F x v ∧ g x ρ = some ρ' ∧
  ∀ ι' F' σ' H', Ext ι F ι' F' → Sim K mg ι' F' S H' → RepR K mg F' ι' ρ' σ' → Same ts σ σ' → Q σ' H'
def rdGs (g : List PV → Slots → Option Slots) (ts : List Nat) : TGs := fun vs σ H Q => ∃ ι F S ρ xs ρ', Sim K mg ι F S H ∧ RepR K mg F ι ρ σ ∧ RepL K mg F xs vs ∧ g xs ρ = some ρ' ∧
  ∀ ι' F' σ' H', Ext ι F ι' F' → Sim K mg ι' F' S H' → RepR K mg F' ι' ρ' σ' → Same ts σ σ' → Q σ' H'
end
theorem assign_one {e : Expr} (h : noStar e = true) (es : List Expr) (env : Env) : assignEach (e :: es) env = (false, assign e env) :: assignEach es env := by
  cases e <;> first | rfl | simp [noStar] at h
theorem assign_len (env : Env) : ∀ {es : List Expr}, (∀ e ∈ es, noStar e = true) → (assignEach es env).length = es.length ∧ (assignEach es env).findIdx? (·.1) = none
  | [], _ => ⟨rfl, rfl⟩
  | e :: es, h => by
    obtain ⟨h1, h2⟩ := assign_len env (es := es) fun x hx => h x (List.mem_cons_of_mem _ hx)
    rw [assign_one (h e List.mem_cons_self)]
    refine ⟨by simp [h1], ?_⟩
    rw [List.findIdx?_cons]
    simp [h2]
section
variable {X : Cx} {e : Expr} {es : List Expr} {pos p : Pos}
theorem pg_mono {t t' : TG} (h : PG X e t) (m : ∀ v σ H Q, t' v σ H Q → t v σ H Q) : PG X e t' := ⟨fun pins s σ H v u Q I r q => h.run pins s σ H v u Q I r (m v σ H Q q)⟩
theorem pgs_mono {t t' : TGs} (h : PGs X es t) (m : ∀ v σ H Q, t' v σ H Q → t v σ H Q) : PGs X es t' := ⟨fun pins s σ H v u Q I r q => h.run pins s σ H v u Q I r (m v σ H Q q)⟩
theorem g_name {i : Nat} {x : PySem.Str} (hN : X.N.Nodup) (hi : X.N[i]? = some x) (hx : Loc X.env.scope x) (hf : X.fn x = true ∨ X.env.scope.names.lookup x = some .local) : PG X (.Name x pos) (rdG X.K X.mg (fun y ρ => some (ρ.set i (some (.v y)))) [i]) :=
  pg_mono (pg_name hN hi hx hf) fun v σ H Q h => by
    obtain ⟨ι, F, S, ρ, x, ρ', sim, r, rx, hg, q⟩ := h
    cases hg
    exact q _ _ _ _ Ext.refl sim (r.set (x := .v x) rx i) (Same.set List.mem_cons_self)
theorem g_tup {k : Nat} {ts : List Nat} {g : List PV → Slots → Option Slots} (hc : X.calm = true) (h : PGs X es (rdGs X.K X.mg g ts)) (hs : ∀ e ∈ es, noStar e = true) (hl : ∀ xs ρ ρ', g xs ρ = some ρ' → xs.length = es.length) :
    PG X (.Tuple es k pos) (rdG X.K X.mg (fun x ρ => match x with | .tup xs => g xs ρ | .lst xs => g xs ρ | _ => none) ts) := by
  refine ⟨fun pins s σ H v u Q I ru h' => ?_⟩
  obtain ⟨ι, F, S, ρ, x, ρ', sim, r, rx, hg, q⟩ := h'
  simp only at hg
  split at hg
  · rename_i xs
    obtain ⟨p, vs, rfl, l, hq⟩ := sim.seqT (x := .v (.tup xs)) rx rfl
    exact (pg_tup hc h (assign_len X.env hs).1 (assign_len X.env hs).2).run pins s σ H _ u Q I ru ⟨p, vs, rfl, sim.sub.sqT hq, by rw [← l.length, hl _ _ _ hg], ι, F, S, ρ, xs, ρ', sim, r, l, hg, q⟩
  · rename_i xs
    obtain ⟨p, vs, rfl, l, hq⟩ := sim.seqL (x := .v (.lst xs)) rx rfl
    exact (pg_lst hc h (assign_len X.env hs).1 (assign_len X.env hs).2).run pins s σ H _ u Q I ru ⟨p, vs, rfl, .inl hq, by rw [← l.length, hl _ _ _ hg], ι, F, S, ρ, xs, ρ', sim, r, l, hg, q⟩
  · cases hg
theorem gs_nil : PGs X [] (rdGs X.K X.mg (fun xs ρ => match xs with | [] => some ρ | _ => none) []) := pgs_mono pgs_nil fun v σ H Q h => by
  obtain ⟨ι, F, S, ρ, xs, ρ', sim, r, l, hg, q⟩ := h
  simp only at hg
  split at hg
  · cases hg; cases l
    exact ⟨rfl, q _ _ _ _ Ext.refl sim r Same.refl⟩
  · cases hg
theorem gs_cons {t1 t2 : List Nat} {g : PV → Slots → Option Slots} {gs : List PV → Slots → Option Slots} (h1 : PG X e (rdG X.K X.mg g t1)) (h2 : PGs X es (rdGs X.K X.mg gs t2)) (hs : noStar e = true) :
    PGs X (e :: es) (rdGs X.K X.mg (fun xs ρ => match xs with | x :: xs => (match g x ρ with | some ρ' => gs xs ρ' | none => none) | [] => none) (t1 ++ t2)) :=
  pgs_mono (pgs_cons h1 h2 (by rw [assign_one hs]; rfl)) fun v σ H Q h => by
    obtain ⟨ι, F, S, ρ, xs, ρ', sim, r, l, hg, q⟩ := h
    cases xs with
    | nil => cases hg
    | cons x xs =>
      simp only at hg
      split at hg
      · rename_i ρ1 h1
        obtain ⟨v, vr, rfl, rx, l⟩ := l
        refine ⟨v, vr, rfl, ι, F, S, ρ, x, ρ1, sim, r, rx, h1, fun ι1 F1 σ1 H1 e1 s1 r1 z1 => ?_⟩
        exact ⟨ι1, F1, S, ρ1, xs, ρ', s1, r1, l.mono e1.2, hg, fun ι2 F2 σ2 H2 e2 s2 r2 z2 => q _ _ _ _ (e1.trans e2) s2 r2 ((z1.mono fun _ => List.mem_append_left _).trans (z2.mono fun _ => List.mem_append_right _))⟩
      · cases hg
end

structure WalkP (K : PySem.W.Frag) (mg : PySem.Str → Option Value) (F : Hp) (xs : List PV) (J : It) : Prop where
  goes : ∀ i H, i < xs.length → Sub F H → J.go i H
  stops : ∀ H, Sub F H → J.stop xs.length H
  yields : ∀ i H v H', i < xs.length → Sub F H → J.yld i H v H' → ∀ ι F2 S, Sub F F2 → Sim K mg ι F2 S H → ∃ F3 y, Ext ι F2 ι F3 ∧ Sim K mg ι F3 S H' ∧ xs[i]? = some y ∧ Rep K mg F3 y v
  tracked : ∀ i H v H' D o, i < xs.length → Sub F H → J.yld i H v H' → H D = some o → H' D = some o
section
variable (K : PySem.W.Frag) (mg : PySem.Str → Option Value)
def rdI (f : IS) : TI := fun σ H R => ∃ ι F S ρ xs S', Sim K mg ι F S H ∧ RepR K mg F ι ρ σ ∧ f ρ S = .ok xs S' ∧ ∀ ι' F' H' J, Ext ι F ι' F' → Sim K mg ι' F' S' H' → WalkP K mg F' xs J → R J H'
end
section
variable {X : Cx} {K : PySem.W.Frag} {mg : PySem.Str → Option Value} {F H : Hp} {a b e : Expr} {tg : Expr} {fa fb fc : VS} {pos p : Pos}
theorem wp_list {p : Addr} {xs : List PV} {vs : List V} (l : RepL K mg F xs vs) (hq : Rd F p (.lst vs)) : WalkP K mg F xs (Itl K p) where
  goes i H hi hs := by
    obtain ⟨v, h1, _⟩ := l.get (List.getElem?_eq_getElem hi)
    exact ⟨vs, v, .inl (hs.rd hq), h1⟩
  stops H hs := ⟨vs, .inl (hs.rd hq), by rw [l.length]; exact Nat.le_refl _⟩
  yields i H v H' hi hs y ι F2 S s2 sim := by
    obtain ⟨rfl, y⟩ := y
    obtain ⟨w, h1, h2⟩ := l.get (List.getElem?_eq_getElem hi)
    have := y vs (.inl (hs.rd hq))
    rw [h1] at this; cases this
    exact ⟨F2, _, Ext.refl, sim, List.getElem?_eq_getElem hi, h2.mono s2⟩
  tracked i H v H' D o hi hs y h := by obtain ⟨rfl, _⟩ := y; exact h
theorem wp_tup {p : Addr} {xs : List PV} {vs : List V} (l : RepL K mg F xs vs) (hq : SqT K F p vs) : WalkP K mg F xs (Itt K p) where
  goes i H hi hs := by
    obtain ⟨v, h1, _⟩ := l.get (List.getElem?_eq_getElem hi)
    exact ⟨vs, v, hs.sqT hq, h1⟩
  stops H hs := ⟨vs, hs.sqT hq, by rw [l.length]; exact Nat.le_refl _⟩
  yields i H v H' hi hs y ι F2 S s2 sim := by
    obtain ⟨rfl, y⟩ := y
    obtain ⟨w, h1, h2⟩ := l.get (List.getElem?_eq_getElem hi)
    have := y vs (hs.sqT hq)
    rw [h1] at this; cases this
    exact ⟨F2, _, Ext.refl, sim, List.getElem?_eq_getElem hi, h2.mono s2⟩
  tracked i H v H' D o hi hs y h := by obtain ⟨rfl, _⟩ := y; exact h
theorem i_seq (ha : PE X a (rdE X.K X.mg fa)) : PI X tg a (rdI X.K X.mg (iSeq fa)) := by
  refine ⟨fun pins s σ H R I h => ?_⟩
  obtain ⟨ι, F, S, ρ, xs, S', sim, r, hf, q⟩ := h
  obtain ⟨x, S1, h1, hf⟩ := bind_ok hf
  unfold seqOp at hf
  split at hf
  · cases hf
    refine (pi_tup ha).run pins s σ H R I ⟨ι, F, S, ρ, _, _, sim, r, h1, fun ι1 F1 v H1 e1 s1 r1 => ?_⟩
    obtain ⟨p, vs, rfl, l, hq⟩ := s1.seqT r1 rfl
    exact ⟨p, rfl, ⟨vs, s1.sub.sqT hq⟩, q _ _ _ _ e1 s1 (wp_tup l hq)⟩
  · cases hf
    refine (pi_list ha).run pins s σ H R I ⟨ι, F, S, ρ, _, _, sim, r, h1, fun ι1 F1 v H1 e1 s1 r1 => ?_⟩
    obtain ⟨p, vs, rfl, hq, l⟩ := r1
    exact ⟨p, rfl, ⟨vs, .inl (s1.sub.rd hq)⟩, q _ _ _ _ e1 s1 (wp_list l hq)⟩
  · cases hf
theorem wp_range {i j : Int} : WalkP K mg F (rng i j) (Itr i (j - i).toNat) where
  goes n H hi hs := by show n < (j - i).toNat; simpa [rng] using hi
  stops H hs := by show (j - i).toNat ≤ (rng i j).length; simp [rng]
  yields n H v H' hi hs y ι F2 S s2 sim := by
    obtain ⟨rfl, rfl⟩ := y
    refine ⟨F2, .int (i + n), Ext.refl, sim, ?_, rfl⟩
    have hn : n < (j - i).toNat := by simpa [rng] using hi
    simp only [rng, List.getElem?_map, List.getElem?_range hn, Option.map_some]
    rfl
  tracked n H v H' D o hi hs y h := by obtain ⟨rfl, _⟩ := y; exact h
theorem rngN_eq (n : Int) : rngN n = rng 0 n := by
  unfold rngN rng
  rw [Int.sub_zero]
  refine List.map_congr_left fun i _ => ?_
  rw [Int.zero_add]
theorem rngOk_le {n : Int} (h : rngOk n = true) : n ≤ 4000000 := of_decide_eq_true h
theorem i_rng1 (hg : Gl X "range") (hm : X.mg "range" = none) (ha : PE X a (rdE X.K X.mg fa)) (hs : noStar a = true) : PI X tg (.Call (.Name "range" p) [a] [] pos) (rdI X.K X.mg (iRng1 fa)) := by
  refine ⟨fun pins s σ H R I h => ?_⟩
  obtain ⟨ι, F, S, ρ, xs, S', sim, r, hf, q⟩ := h
  obtain ⟨x, S1, h1, hf⟩ := bind_ok hf
  unfold rng1Op at hf
  split at hf
  · rename_i n
    split at hf
    · rename_i hn
      cases hf
      rw [Bool.and_eq_true] at hn
      have h2 := rngOk_le hn.1
      have h3 := rngOk_le hn.2
      refine (pi_range1 hg hm (pa_cons ha pa_nil (star_one hs _ _)) (star_one hs _ _)).run pins s σ H R I ⟨ι, F, S, ρ, _, _, sim, r, h1, fun ι1 F1 v H1 e1 s1 r1 => ?_⟩
      cases r1
      refine ⟨n, rfl, by omega, by omega, q _ _ _ _ e1 s1 ?_⟩
      rw [rngN_eq]
      have := wp_range (K := X.K) (mg := X.mg) (F := F1) (i := 0) (j := n)
      rw [Int.sub_zero] at this
      exact this
    · cases hf
  · cases hf
theorem i_rng2 (hg : Gl X "range") (hm : X.mg "range" = none) (ha : PE X a (rdE X.K X.mg fa)) (hb : PE X b (rdE X.K X.mg fb)) (hs : noStar a = true) (hs2 : noStar b = true) : PI X tg (.Call (.Name "range" p) [a, b] [] pos) (rdI X.K X.mg (iRng2 fa fb)) := by
  refine ⟨fun pins s σ H R I h => ?_⟩
  obtain ⟨ι, F, S, ρ, xs, S', sim, r, hf0, q⟩ := h
  obtain ⟨x, S1, h1, hf1⟩ := bind_ok hf0
  obtain ⟨y, S2, h2, hf⟩ := bind_ok hf1
  clear hf0 hf1
  unfold rng2Op at hf
  split at hf
  · rename_i i j
    split at hf
    · rename_i hn
      cases hf
      simp only [Bool.and_eq_true] at hn
      obtain ⟨⟨⟨n1, n2⟩, n3⟩, n4⟩ := hn
      have h3 := rngOk_le n1
      have h4 := rngOk_le n2
      have h5 := rngOk_le n3
      have h6 := rngOk_le n4
      refine (pi_range2 hg hm (pa_cons ha (pa_cons hb pa_nil (star_one hs2 _ _)) (star_one hs _ _)) (by rw [star_one hs, star_one hs2]; rfl) (star_one hs2 _ _)).run pins s σ H R I ⟨ι, F, S, ρ, _, _, sim, r, h1, fun ι1 F1 v H1 e1 s1 r1 => ?_⟩
      refine ⟨ι1, F1, S1, ρ, _, _, s1, r.mono e1, h2, fun ι2 F2 w H2 e2 s2 r2 => ?_⟩
      cases r1; cases r2
      exact ⟨i, j, rfl, ⟨by omega, by omega, by omega, by omega⟩, q _ _ _ _ (e1.trans e2) s2 wp_range⟩
    · cases hf
  · cases hf
theorem zipL_get : ∀ (xs ys : List PV) (i : Nat), (zipL xs ys)[i]? = match xs[i]?, ys[i]? with | some x, some y => some (.tup [x, y]) | _, _ => none
  | [], ys, i => by cases ys <;> simp [zipL]
  | x :: xs, [], i => by simp [zipL]
  | x :: xs, y :: ys, 0 => by simp [zipL]
  | x :: xs, y :: ys, i + 1 => by simp only [zipL, List.getElem?_cons_succ]; exact zipL_get xs ys i
theorem zipL_len : ∀ (xs ys : List PV), (zipL xs ys).length = min xs.length ys.length
  | [], ys => by cases ys <;> simp [zipL]
  | x :: xs, [] => by simp [zipL]
  | x :: xs, y :: ys => by simp only [zipL, List.length_cons, zipL_len xs ys]; omega
theorem pair_new {ι : Plc} {F2 H : Hp} {S : Store} {T : Addr} {x y : PV} {v w : V} (sim : Sim K mg ι F2 S H) (hT : H T = none) (r1 : Rep K mg F2 x v) (r2 : Rep K mg F2 y w) :
    ∃ F3, Ext ι F2 ι F3 ∧ Sim K mg ι F3 S (upd H T (.tup [v, w])) ∧ Rep K mg F3 (.tup [x, y]) (.ref T) := by
  obtain ⟨s, e⟩ := sim.newF (o := .tup [v, w]) hT
  exact ⟨_, e, s, T, [v, w], rfl, .inl (.inl upd_same), ⟨v, [w], rfl, r1.mono e.2, RepL.one (r2.mono e.2)⟩⟩
theorem wp_zipL {a b : Addr} {xs ys : List PV} {vs ws : List V} (l : RepL K mg F xs vs) (hq : Rd F a (.lst vs)) (l2 : RepL K mg F ys ws) (hq2 : Rd F b (.lst ws)) : WalkP K mg F (zipL xs ys) (Itz K a b) where
  goes i H hi hs := by
    rw [zipL_len] at hi
    obtain ⟨v, h1, _⟩ := l.get (List.getElem?_eq_getElem (show i < xs.length by omega))
    obtain ⟨w, h2, _⟩ := l2.get (List.getElem?_eq_getElem (show i < ys.length by omega))
    exact ⟨vs, ws, v, w, .inl (hs.rd hq), .inl (hs.rd hq2), h1, h2⟩
  stops H hs := ⟨vs, ws, .inl (hs.rd hq), .inl (hs.rd hq2), by rw [zipL_len, l.length, l2.length]; omega⟩
  yields i H v H' hi hs y ι F2 S s2 sim := by
    rw [zipL_len] at hi
    obtain ⟨T, x, z, rfl, hT, rfl, y1, y2⟩ := y
    have e1 := List.getElem?_eq_getElem (show i < xs.length by omega)
    have e2 := List.getElem?_eq_getElem (show i < ys.length by omega)
    obtain ⟨v, h1, g1⟩ := l.get e1
    obtain ⟨w, h2, g2⟩ := l2.get e2
    have k1 := y1 vs (.inl (hs.rd hq))
    have k2 := y2 ws (.inl (hs.rd hq2))
    rw [h1] at k1; cases k1
    rw [h2] at k2; cases k2
    obtain ⟨F3, ex, s3, r3⟩ := pair_new sim hT (g1.mono s2) (g2.mono s2)
    exact ⟨F3, _, ex, s3, by rw [zipL_get, e1, e2], r3⟩
  tracked i H v H' D o hi hs y h := by
    obtain ⟨T, x, z, rfl, hT, rfl, y1, y2⟩ := y
    rw [upd_ne (ne_of_none h hT)]; exact h
theorem wp_zipT {a b : Addr} {xs ys : List PV} {vs ws : List V} (l : RepL K mg F xs vs) (hq : SqT K F a vs) (l2 : RepL K mg F ys ws) (hq2 : SqT K F b ws) : WalkP K mg F (zipL xs ys) (ItzT K a b) where
  goes i H hi hs := by
    rw [zipL_len] at hi
    obtain ⟨v, h1, _⟩ := l.get (List.getElem?_eq_getElem (show i < xs.length by omega))
    obtain ⟨w, h2, _⟩ := l2.get (List.getElem?_eq_getElem (show i < ys.length by omega))
    exact ⟨vs, ws, v, w, hs.sqT hq, hs.sqT hq2, h1, h2⟩
  stops H hs := ⟨vs, ws, hs.sqT hq, hs.sqT hq2, by rw [zipL_len, l.length, l2.length]; omega⟩
  yields i H v H' hi hs y ι F2 S s2 sim := by
    rw [zipL_len] at hi
    obtain ⟨T, x, z, rfl, hT, rfl, y1, y2⟩ := y
    have e1 := List.getElem?_eq_getElem (show i < xs.length by omega)
    have e2 := List.getElem?_eq_getElem (show i < ys.length by omega)
    obtain ⟨v, h1, g1⟩ := l.get e1
    obtain ⟨w, h2, g2⟩ := l2.get e2
    have k1 := y1 vs (hs.sqT hq)
    have k2 := y2 ws (hs.sqT hq2)
    rw [h1] at k1; cases k1
    rw [h2] at k2; cases k2
    obtain ⟨F3, ex, s3, r3⟩ := pair_new sim hT (g1.mono s2) (g2.mono s2)
    exact ⟨F3, _, ex, s3, by rw [zipL_get, e1, e2], r3⟩
  tracked i H v H' D o hi hs y h := by
    obtain ⟨T, x, z, rfl, hT, rfl, y1, y2⟩ := y
    rw [upd_ne (ne_of_none h hT)]; exact h
theorem i_zip {elts : List Expr} {kk : Nat} {tpos : Pos} (hc : X.calm = true) (hg : Gl X "zip") (hm : X.mg "zip" = none) (ha : PE X a (rdE X.K X.mg fa)) (hb : PE X b (rdE X.K X.mg fb)) (hs : noStar a = true) (hs2 : noStar b = true) : PI X (.Tuple elts kk tpos) (.Call (.Name "zip" p) [a, b] [] pos) (rdI X.K X.mg (iZip fa fb)) := by
  refine ⟨fun pins s σ H R I h => ?_⟩
  obtain ⟨ι, F, S, ρ, xs, S', sim, r, hf, q⟩ := h
  obtain ⟨x, S1, h1, hf⟩ := bind_ok hf
  obtain ⟨y, S2, h2, hf⟩ := bind_ok hf
  refine (pi_zipA hg hm (pa_cons ha (pa_cons hb pa_nil (star_one hs2 _ _)) (star_one hs _ _)) (star_one hs _ _) (by rw [star_one hs2]; rfl)).run pins s σ H R I ⟨ι, F, S, ρ, _, _, sim, r, h1, fun ι1 F1 v H1 e1 s1 r1 => ?_⟩
  refine ⟨ι1, F1, S1, ρ, _, _, s1, r.mono e1, h2, fun ι2 F2 w H2 e2 s2 r2 => ?_⟩
  unfold zipOp at hf
  split at hf
  · cases hf
    obtain ⟨p, vs, rfl, l, hq⟩ := s2.seqT (r1.mono e2) rfl
    obtain ⟨p2, ws, rfl, l2, hq2⟩ := s2.seqT r2 rfl
    exact ⟨p, p2, vs, ws, rfl, .inr ⟨s2.sub.sqT hq, s2.sub.sqT hq2, q _ _ _ _ (e1.trans e2) s2 (wp_zipT l hq l2 hq2)⟩⟩
  · cases hf
    obtain ⟨p, vs, rfl, hq, l⟩ := r1.mono e2
    obtain ⟨p2, ws, rfl, hq2, l2⟩ := r2
    exact ⟨p, p2, vs, ws, rfl, .inl ⟨.inl (s2.sub.rd hq), .inl (s2.sub.rd hq2), q _ _ _ _ (e1.trans e2) s2 (wp_zipL l hq l2 hq2)⟩⟩
  · cases hf
theorem enumL_get : ∀ (xs : List PV) (k i : Nat), (enumL k xs)[i]? = (xs[i]?).map fun x => .tup [.int (Int.ofNat (k + i)), x]
  | [], k, i => by simp [enumL]
  | x :: xs, k, 0 => by simp [enumL]
  | x :: xs, k, i + 1 => by
    simp only [enumL, List.getElem?_cons_succ]
    rw [enumL_get xs (k + 1) i, show k + 1 + i = k + (i + 1) by omega]
theorem enumL_len : ∀ (xs : List PV) (k : Nat), (enumL k xs).length = xs.length
  | [], k => rfl
  | x :: xs, k => by simp [enumL, enumL_len xs]
theorem wp_enum {a : Addr} {xs : List PV} {vs : List V} (l : RepL K mg F xs vs) (hq : Rd F a (.lst vs)) : WalkP K mg F (enumL 0 xs) (Ite K a) where
  goes i H hi hs := by
    rw [enumL_len] at hi
    obtain ⟨v, h1, _⟩ := l.get (List.getElem?_eq_getElem hi)
    exact ⟨vs, v, .inl (hs.rd hq), h1⟩
  stops H hs := ⟨vs, .inl (hs.rd hq), by rw [enumL_len, l.length]; exact Nat.le_refl _⟩
  yields i H v H' hi hs y ι F2 S s2 sim := by
    rw [enumL_len] at hi
    obtain ⟨T, x, rfl, hT, rfl, y1⟩ := y
    have e1 := List.getElem?_eq_getElem hi
    obtain ⟨v, h1, g1⟩ := l.get e1
    have k1 := y1 vs (.inl (hs.rd hq))
    rw [h1] at k1; cases k1
    obtain ⟨F3, ex, s3, r3⟩ := pair_new sim hT (show Rep K mg F2 (.int (Int.ofNat i)) (.int (i : Nat)) from rfl) (g1.mono s2)
    exact ⟨F3, _, ex, s3, by rw [enumL_get, e1, Nat.zero_add]; rfl, r3⟩
  tracked i H v H' D o hi hs y h := by
    obtain ⟨T, x, rfl, hT, rfl, y1⟩ := y
    rw [upd_ne (ne_of_none h hT)]; exact h
theorem i_enum {elts : List Expr} {kk : Nat} {tpos : Pos} (hg : Gl X "enumerate") (hm : X.mg "enumerate" = none) (ha : PE X a (rdE X.K X.mg fa)) (hs : noStar a = true) : PI X (.Tuple elts kk tpos) (.Call (.Name "enumerate" p) [a] [] pos) (rdI X.K X.mg (iEnum fa)) := by
  refine ⟨fun pins s σ H R I h => ?_⟩
  obtain ⟨ι, F, S, ρ, xs, S', sim, r, hf, q⟩ := h
  obtain ⟨x, S1, h1, hf⟩ := bind_ok hf
  refine (pi_enum hg hm (pa_cons ha pa_nil (star_one hs _ _)) (star_one hs _ _)).run pins s σ H R I ⟨ι, F, S, ρ, _, _, sim, r, h1, fun ι1 F1 v H1 e1 s1 r1 => ?_⟩
  unfold enumOp at hf
  split at hf
  · cases hf
    obtain ⟨p, vs, rfl, hq, l⟩ := r1
    exact ⟨p, vs, rfl, .inl (s1.sub.rd hq), q _ _ _ _ e1 s1 (wp_enum l hq)⟩
  · cases hf
end

section
variable {X : Cx} {elt tg iter : Expr} {ifs : List Expr} {scope : Scope} {own : List (PySem.Str × Nat)} {pos : Pos}
theorem compL_nil {f : PV → Store → Out (Option PV)} {S S' : Store} {ys : List PV} (h : compL f [] S = .ok ys S') : ys = [] ∧ S' = S := by cases h; exact ⟨rfl, rfl⟩
theorem compL_cons {f : PV → Store → Out (Option PV)} {x : PV} {xs : List PV} {S S' : Store} {ys : List PV} (h : compL f (x :: xs) S = .ok ys S') :
    ∃ o S1 zs, f x S = .ok o S1 ∧ compL f xs S1 = .ok zs S' ∧ ys = (match o with | some y => y :: zs | none => zs) := by
  obtain ⟨o, S1, h1, h⟩ := bind_ok h
  obtain ⟨zs, S2, h2, h⟩ := bind_ok h
  cases h
  exact ⟨o, S1, zs, h1, h2, rfl⟩
end
def Plc.on (ι : Plc) (D : Addr) (vs : List V) : Plc := ⟨ι.l, upd ι.w D (.lst vs)⟩
section
variable {K : PySem.W.Frag} {mg : PySem.Str → Option Value} {F F' H H' : Hp} {ι ι' : Plc} {S S' : Store} {ρ ρ' : Slots} {σ σ' : L2.St} {D : Addr} {vs : List V}
theorem RepS.reloc (h : ι'.l = ι.l) : ∀ {x : SV} {v : V}, RepS K mg F ι x v → RepS K mg F ι' x v
  | .v _, _, r => r
  | .l _, _, ⟨p, e, q⟩ => ⟨p, by rw [h]; exact e, q⟩
theorem RepR.reloc (h : ι'.l = ι.l) (r : RepR K mg F ι ρ σ) : RepR K mg F ι' ρ σ := ⟨r.1, fun i x e => by
  obtain ⟨v, h1, h2⟩ := r.2 i x e
  exact ⟨v, h1, h2.reloc h⟩⟩
theorem Ext.off (e : Ext (ι.on D vs) F ι' F') : ∃ ι2, ι' = ι2.on D vs ∧ Ext ι F ι2 F' := by
  obtain ⟨⟨⟨t, e1⟩, e2⟩, e3⟩ := e
  refine ⟨⟨ι'.l, ι.w⟩, ?_, ⟨⟨t, e1⟩, rfl⟩, e3⟩
  cases ι'
  have e2 : _ = _ := e2
  simp only at e2
  subst e2
  rfl
theorem Ext.on (e : Ext ι F ι' F') : Ext (ι.on D vs) F (ι'.on D vs) F' := by
  obtain ⟨⟨⟨t, e1⟩, e2⟩, e3⟩ := e
  exact ⟨⟨⟨t, e1⟩, by show upd ι'.w _ _ = upd ι.w _ _; rw [e2]⟩, e3⟩
theorem Sim.at_on (s : Sim K mg (ι.on D vs) F S H) : H D = some (.lst vs) ∧ F D = none ∧ D ∉ ι.l := s.frm D _ (by show upd ι.w D _ D = _; rw [upd_same])
theorem Sim.off (s : Sim K mg (ι.on D vs) F S H) (hw : ι.w D = none) : Sim K mg ι F S H := s.forget (w := ι.w) fun a o e => by
  show upd ι.w D _ a = _
  rw [upd_ne (fun z => by subst z; rw [hw] at e; cases e)]
  exact e
theorem Sim.re_on (s : Sim K mg (ι.on D vs) F S H) (hw : ι.w D = none) (ws : List V) : Sim K mg (ι.on D ws) F S (upd H D (.lst ws)) := by
  obtain ⟨_, h2, h3⟩ := s.at_on
  exact ((s.off hw).drop h2 h3 hw).apart upd_same h2 h3
theorem Sim.new_on (s : Sim K mg ι F S H) (h : H D = none) : Sim K mg (ι.on D []) F S (upd H D (.lst [])) ∧ ι.w D = none := by
  obtain ⟨h2, h3⟩ := s.fresh h
  have hw : ι.w D = none := by
    cases e : ι.w D with
    | none => rfl
    | some o => rw [(s.frm _ _ e).1] at h; cases h
  exact ⟨(s.drop h2 h3 hw).apart upd_same h2 h3, hw⟩
theorem Sim.enter (s : Sim K mg ι F S H) {xs : List PV} (hH : H D = some (.lst vs)) (hF : F D = none) (hι : D ∉ ι.l) (hw : ι.w D = none) (l : RepL K mg F xs vs) :
    Sim K mg ⟨ι.l ++ [D], ι.w⟩ F (S ++ [.lst xs]) H ∧ Ext ι F ⟨ι.l ++ [D], ι.w⟩ F := by
  refine ⟨⟨s.sub, by simp [s.len], ?_, fun a u e => ?_, fun n y e => ?_⟩, ⟨⟨⟨[D], rfl⟩, rfl⟩, Sub.refl⟩⟩
  · show (ι.l ++ [D]).Nodup
    rw [List.nodup_append]
    exact ⟨s.nd, by simp, fun a ha b hb => by simp at hb; subst hb; exact fun z => hι (z ▸ ha)⟩
  · obtain ⟨h1, h2, h3⟩ := s.frm a u e
    have ha : a ≠ D := fun z => by subst z; rw [hw] at e; cases e
    exact ⟨h1, h2, by simp [h3, ha]⟩
  · by_cases hn : n < S.length
    · rw [List.getElem?_append_left hn] at e
      obtain ⟨a, u, h1, h2, h3⟩ := s.at_ n y e
      exact ⟨a, u, by show (ι.l ++ [D])[n]? = _; rw [List.getElem?_append_left (by rw [s.len]; exact hn)]; exact h1, h2, h3⟩
    · have hn2 : n = S.length := by
        have := (List.getElem?_eq_some_iff.mp e).1
        simp at this; omega
      subst hn2
      simp at e; subst e
      exact ⟨D, _, by show (ι.l ++ [D])[S.length]? = _; rw [← s.len]; simp, hH, hF, vs, rfl, l⟩
theorem Sim.ice (s : Sim K mg ι F S H) {o : HO} (hH : H D = some o) (hF : F D = none) (hι : D ∉ ι.l) (hw : ι.w D = none) : Sim K mg ι (upd F D o) S H ∧ Ext ι F ι (upd F D o) := by
  refine ⟨⟨fun a u e => ?_, s.len, s.nd, fun a u e => ?_, fun n y e => ?_⟩, ⟨⟨⟨[], by simp⟩, rfl⟩, sub_upd hF⟩⟩
  · by_cases ha : a = D
    · subst ha; rw [upd_same] at e; cases e; exact hH
    · rw [upd_ne ha] at e; exact s.sub _ _ e
  · obtain ⟨h1, h2, h3⟩ := s.frm a u e
    have ha : a ≠ D := fun z => by subst z; rw [hw] at e; cases e
    exact ⟨h1, by rw [upd_ne ha]; exact h2, h3⟩
  · obtain ⟨a, u, h1, h2, h3⟩ := s.at_ n y e
    have hap : a ≠ D := fun z => by subst z; exact hι (List.mem_of_getElem? h1)
    refine ⟨a, u, h1, h2, h3.mono (sub_upd hF) ?_⟩
    cases y with
    | gone => exact .inl rfl
    | lst _ => right; rw [upd_ne hap]; exact h3.1
    | dic _ => right; rw [upd_ne hap]; exact h3.1
theorem comp_core {F1 : Hp} {ι1 : Plc} {S1 S2 : Store} {H1 : Hp} {xs done0 rest0 : List PV} {vs0 : List V} {J : It} {g : PV → Slots → Option Slots} {ts own : List Nat} {c : Slots → Store → Out Bool} {e : VS} {Qd : Hp → Prop}
    (wp : WalkP K mg F1 xs J) (hts : ∀ t ∈ ts, t ∈ own) (s0 : Sim K mg (ι1.on D vs0) F1 S1 H1) (hw : ι1.w D = none) (l0 : RepL K mg F1 done0 vs0) (hr : RepR K mg F1 ι1 ρ σ)
    (hc : compL (cTurn g c e (wipeS ρ own)) xs S1 = .ok rest0 S2) (hlen : (done0 ++ rest0).length ≤ line)
    (hd : ∀ ι F H vs, Ext ι1 F1 ι F → Sim K mg (ι.on D vs) F S2 H → RepL K mg F (done0 ++ rest0) vs → Qd H) :
    ∃ W : Nat → Nat → Hp → Prop, (∃ m, W 0 m H1) ∧ ∀ i m H, W i m H →
      (J.stop i H ∧ Qd H) ∨ (J.go i H ∧ ∃ Nx : Hp → Prop, (∀ H', Nx H' → ∃ m', m' < m ∧ W (i + 1) m' H') ∧ ∀ x H', J.yld i H x H' → rdG K mg g ts x (L2.wipe σ own) H' fun σ2 H2 => L2.wipe σ2 own = L2.wipe σ own ∧ rdT K mg c σ2 H2 fun b H3 =>
        if b = true then rdE K mg e σ2 H3 fun y H4 => ∃ acc, H4 D = some (.lst acc) ∧ acc.length < sizeLine ∧ Nx (upd H4 D (.lst (acc ++ [y]))) else Nx H3) := by
  refine ⟨fun i m H => m = xs.length - i ∧ i ≤ xs.length ∧ ∃ ι F S done rest vs, Ext ι1 F1 ι F ∧ Sim K mg (ι.on D vs) F S H ∧ RepL K mg F done vs ∧ compL (cTurn g c e (wipeS ρ own)) (xs.drop i) S = .ok rest S2 ∧ done ++ rest = done0 ++ rest0,
    ⟨xs.length, by simp, Nat.zero_le _, ι1, F1, S1, done0, rest0, vs0, Ext.refl, s0, l0, hc, rfl⟩, ?_⟩
  rintro i m H ⟨rfl, hi, ι, F, S, done, rest, vs, ex, sim, l, hcl, hdr⟩
  by_cases hlt : i < xs.length
  · have sb1 : Sub F1 H := ex.2.trans sim.sub
    refine .inr ⟨wp.goes i H hlt sb1, _, fun H' p' => ⟨xs.length - (i + 1), by omega, rfl, hlt, p'⟩, fun v H' y => ?_⟩
    obtain ⟨F3, x, e3, s3, hx, rx⟩ := wp.yields i H v H' hlt sb1 y _ _ _ ex.2 sim
    rw [List.drop_eq_getElem_cons hlt] at hcl
    have hx2 : xs[i] = x := by
      have := List.getElem?_eq_getElem hlt
      rw [hx] at this; cases this; rfl
    rw [hx2] at hcl
    obtain ⟨o, S3, zs, k1, k2, k3⟩ := compL_cons hcl
    unfold cTurn at k1
    split at k1
    · rename_i ρ1 hg
      obtain ⟨t, S4, hct, k1⟩ := bind_ok k1
      have r3 : RepR K mg F3 (ι.on D vs) (wipeS ρ own) (L2.wipe σ own) := ((((hr.wipe2 own).mono ex).reloc (ι' := ι.on D vs) rfl)).mono e3
      refine ⟨ι.on D vs, F3, S, wipeS ρ own, x, ρ1, s3, r3, rx, hg, fun ι4 F4 σ4 H4 e4 s4 r4 z4 => ⟨z4.wipe hts, ?_⟩⟩
      refine ⟨ι4, F4, S, ρ1, t, S4, s4, r4, hct, fun ι5 F5 H5 e5 s5 => ?_⟩
      obtain ⟨ι5', rfl, ex5⟩ := (e3.trans (e4.trans e5)).off
      cases t with
      | false =>
        simp only [Bool.false_eq_true, if_false] at k1 ⊢
        cases k1
        simp only at k3
        subst k3
        exact ⟨ι5', F5, S3, done, rest, vs, ex.trans ex5, s5, l.mono ex5.2, k2, hdr⟩
      | true =>
        simp only [if_true] at k1 ⊢
        obtain ⟨y, S5, hey, k1⟩ := bind_ok k1
        cases y with
        | l n => cases k1
        | v y =>
          cases k1
          simp only at k3
          subst k3
          refine ⟨ι5'.on D vs, F5, S4, ρ1, .v y, S3, s5, r4.mono e5, hey, fun ι6 F6 w H6 e6 s6 r6 => ?_⟩
          obtain ⟨ι6', rfl, ex6⟩ := e6.off
          have hw6 : ι6'.w D = none := by rw [ex6.1.2, ex5.1.2, ex.1.2]; exact hw
          refine ⟨vs, s6.at_on.1, ?_, ι6', F6, S3, done ++ [y], zs, vs ++ [w], ex.trans (ex5.trans ex6), s6.re_on hw6 _, (l.mono (ex5.trans ex6).2).app (RepL.one r6), k2, by rw [List.append_assoc]; exact hdr⟩
          have h1 := l.length
          have h2 := congrArg List.length hdr
          rw [List.length_append] at h2
          simp only [List.length_cons] at h2
          show vs.length < 16777216
          have h3 : (done0 ++ rest0).length ≤ 16777216 := hlen
          omega
    · cases k1
  · have hie : i = xs.length := by omega
    subst hie
    rw [List.drop_length] at hcl
    obtain ⟨rfl, rfl⟩ := compL_nil hcl
    rw [List.append_nil] at hdr
    subst hdr
    exact .inl ⟨wp.stops H (ex.2.trans sim.sub), hd ι F H vs ex sim l⟩
theorem comp_end {m : Bool} {ys : List PV} {z : SV} {Q : VK} {F1 : Hp} {ι1 : Plc} (hm : mkL m ys S = .ok z S') (ex : Ext ι1 F1 ι F) (sim : Sim K mg (ι.on D vs) F S H) (hw : ι.w D = none) (l : RepL K mg F ys vs)
    (q : ∀ ι' F' v H', Ext ι1 F1 ι' F' → Sim K mg ι' F' S' H' → RepS K mg F' ι' z v → Q v H') : Q (.ref D) H := by
  obtain ⟨h1, h2, h3⟩ := sim.at_on
  have s := sim.off hw
  unfold mkL at hm
  split at hm
  · cases m with
    | true =>
      simp only [if_true] at hm
      cases hm
      obtain ⟨s1, e1⟩ := s.enter h1 h2 h3 hw l
      refine q _ _ _ _ (ex.trans e1) s1 ⟨D, ?_, rfl⟩
      show (ι.l ++ [D])[S.length]? = some D
      rw [← s.len]; simp
    | false =>
      simp only [Bool.false_eq_true, if_false] at hm
      cases hm
      obtain ⟨s1, e1⟩ := s.ice h1 h2 h3 hw
      exact q _ _ _ _ (ex.trans e1) s1 ⟨D, vs, rfl, .inl upd_same, l.mono e1.2⟩
  · cases hm
theorem lc_sound {m : Bool} {own ts : List Nat} {g : PV → Slots → Option Slots} {it : IS} {c : Slots → Store → Out Bool} {e : VS} {σ : L2.St} {H : Hp} {Q : VK} (hts : ∀ t ∈ ts, t ∈ own) (h : rdE K mg (sComp m own g it c e) σ H Q) :
    tLc (rdI K mg it) (rdG K mg g ts) (rdT K mg c) (rdE K mg e) own σ H Q := by
  obtain ⟨ι, F, S, ρ, z, S', sim, r, hf, q⟩ := h
  obtain ⟨xs, S1, h1, hf⟩ := bind_ok hf
  obtain ⟨ys, S2, h2, hf⟩ := bind_ok hf
  refine ⟨ι, F, S, ρ, xs, S1, sim, r, h1, fun ι1 F1 H1 J e1 s1 wp => ?_⟩
  intro D hD
  obtain ⟨s2, hw⟩ := s1.new_on hD
  have hlen : ([] ++ ys).length ≤ line := by
    unfold mkL at hf
    split at hf
    · rename_i hl; exact hl
    · cases hf
  exact comp_core wp hts s2 hw (show RepL K mg F1 [] [] from rfl) (r.mono e1) h2 hlen fun ι3 F3 H3 vs ex s3 l3 => comp_end hf (e1.trans ex) s3 (by rw [ex.1.2]; exact hw) l3 q
theorem compLL_nil {f : PV → Store → Out (List PV)} {S S' : Store} {ys : List PV} (h : compLL f [] S = .ok ys S') : ys = [] ∧ S' = S := by cases h; exact ⟨rfl, rfl⟩
theorem compLL_cons {f : PV → Store → Out (List PV)} {x : PV} {xs : List PV} {S S' : Store} {ys : List PV} (h : compLL f (x :: xs) S = .ok ys S') :
    ∃ o S1 zs, f x S = .ok o S1 ∧ compLL f xs S1 = .ok zs S' ∧ ys = o ++ zs := by
  obtain ⟨o, S1, h1, h⟩ := bind_ok h
  obtain ⟨zs, S2, h2, h⟩ := bind_ok h
  cases h
  exact ⟨o, S1, zs, h1, h2, rfl⟩
theorem lc2_sound {m : Bool} {own own2 ts ts2 : List Nat} {g g2 : PV → Slots → Option Slots} {it it2 : IS} {c c2 : Slots → Store → Out Bool} {e : VS} {σ : L2.St} {H : Hp} {Q : VK} (hts : ∀ t ∈ ts, t ∈ own) (hts2 : ∀ t ∈ ts2, t ∈ own2) (h : rdE K mg (sComp2 m own own2 g it c g2 it2 c2 e) σ H Q) :
    tLc2 (rdI K mg it) (rdG K mg g ts) (rdT K mg c) (rdI K mg it2) (rdG K mg g2 ts2) (rdT K mg c2) (rdE K mg e) own own2 σ H Q := by
  obtain ⟨ι, F, S, ρ, z, S', sim, r, hf, q⟩ := h
  obtain ⟨xs, S1, h1, hf⟩ := bind_ok hf
  obtain ⟨ys, S2, hc, hf⟩ := bind_ok hf
  refine ⟨ι, F, S, ρ, xs, S1, sim, r, h1, fun ι1 F1 H1 J e1 s1 wp => ?_⟩
  intro D hD
  obtain ⟨s2, hw⟩ := s1.new_on hD
  have hlen : ys.length ≤ line := by
    unfold mkL at hf
    split at hf
    · rename_i hl; exact hl
    · cases hf
  have hr := r.mono e1
  refine ⟨fun i m H => m = xs.length - i ∧ i ≤ xs.length ∧ ∃ ι F S done rest vs, Ext ι1 F1 ι F ∧ Sim K mg (ι.on D vs) F S H ∧ RepL K mg F done vs ∧ compLL (cTurn2 g c own2 g2 it2 c2 e (wipeS ρ own)) (xs.drop i) S = .ok rest S2 ∧ done ++ rest = ys,
    ⟨xs.length, by simp, Nat.zero_le _, ι1, F1, S1, [], ys, [], Ext.refl, s2, rfl, hc, rfl⟩, ?_⟩
  rintro i m H ⟨rfl, hi, ι, F, S, done, rest, vs, ex, sim, l, hcl, hdr⟩
  by_cases hlt : i < xs.length
  · have sb1 : Sub F1 H := ex.2.trans sim.sub
    refine .inr ⟨wp.goes i H hlt sb1, _, fun H' p' => ⟨xs.length - (i + 1), by omega, rfl, hlt, p'⟩, fun v H' y => ?_⟩
    obtain ⟨F3, x, e3, s3, hx, rx⟩ := wp.yields i H v H' hlt sb1 y _ _ _ ex.2 sim
    rw [List.drop_eq_getElem_cons hlt] at hcl
    have hx2 : xs[i] = x := by
      have := List.getElem?_eq_getElem hlt
      rw [hx] at this; cases this; rfl
    rw [hx2] at hcl
    obtain ⟨o, S3, zs, k1, k2, k3⟩ := compLL_cons hcl
    unfold cTurn2 at k1
    split at k1
    · rename_i ρ1 hg
      obtain ⟨t, S4, hct, k1⟩ := bind_ok k1
      have r3 : RepR K mg F3 (ι.on D vs) (wipeS ρ own) (L2.wipe σ own) := ((((hr.wipe2 own).mono ex).reloc (ι' := ι.on D vs) rfl)).mono e3
      refine ⟨ι.on D vs, F3, S, wipeS ρ own, x, ρ1, s3, r3, rx, hg, fun ι4 F4 σ4 H4 e4 s4 r4 z4 => ⟨z4.wipe hts, ?_⟩⟩
      refine ⟨ι4, F4, S, ρ1, t, S4, s4, r4, hct, fun ι5 F5 H5 e5 s5 => ?_⟩
      obtain ⟨ι5', rfl, ex5⟩ := (e3.trans (e4.trans e5)).off
      cases t with
      | false =>
        simp only [Bool.false_eq_true, if_false] at k1 ⊢
        cases k1
        rw [k3, List.nil_append] at hdr
        exact ⟨ι5', F5, S3, done, zs, vs, ex.trans ex5, s5, l.mono ex5.2, k2, hdr⟩
      | true =>
        simp only [if_true] at k1 ⊢
        obtain ⟨ws, S5, hit, k1⟩ := bind_ok k1
        subst k3
        refine ⟨ι5'.on D vs, F5, S4, ρ1, ws, S5, s5, r4.mono e5, hit, fun ι6 F6 H6 J2 e6 s6 wp2 => ?_⟩
        obtain ⟨ι6', rfl, ex6⟩ := e6.off
        have hw6 : ι6'.w D = none := by rw [ex6.1.2, ex5.1.2, ex.1.2]; exact hw
        have hlen2 : (done ++ o).length ≤ line := by
          have h2 := congrArg List.length hdr
          simp only [List.length_append] at h2 ⊢
          have : ys.length ≤ line := hlen
          omega
        exact comp_core wp2 hts2 s6 hw6 (l.mono (ex5.trans ex6).2) ((r4.mono (e5.trans e6)).reloc (ι' := ι6') rfl) k1 hlen2 fun ι7 F7 H7 vs7 ex7 s7 l7 =>
          ⟨ι7, F7, S3, done ++ o, zs, vs7, ex.trans (ex5.trans (ex6.trans ex7)), s7, l7, k2, by rw [List.append_assoc]; exact hdr⟩
    · cases k1
  · have hie : i = xs.length := by omega
    subst hie
    rw [List.drop_length] at hcl
    obtain ⟨rfl, rfl⟩ := compLL_nil hcl
    rw [List.append_nil] at hdr
    subst hdr
    exact .inl ⟨wp.stops H (ex.2.trans sim.sub), comp_end hf (e1.trans ex) sim (by rw [ex.1.2]; exact hw) l q⟩
end
end FW

namespace FW
open PySem PySem.Spec PyProof.Rows L2 RZ

section
variable {X : Cx} {e a b : Expr} {es : List Expr} {st : Stmt} {sts orelse : List Stmt} {pos pos' pos2 p : Pos} {f fa fb : VS} {ts : LS}
theorem s_nilB : PSs X [] (rdS X.K X.mg sNext) := pss_mono pss_nil fun D σ H h => by
  obtain ⟨ι, F, S, ρ, r, S', sim, rr, hf, q⟩ := h
  cases hf
  exact q _ _ _ Ext.refl sim _ rr
theorem s_consB {f g : Slots → Store → Out Flow} (h1 : PS X st (rdS X.K X.mg f)) (h2 : PSs X sts (rdS X.K X.mg g)) : PSs X (st :: sts) (rdS X.K X.mg (sSeq f g)) := pss_mono (pss_cons h1 h2) fun D σ H h => by
  obtain ⟨ι, F, S, ρ, r, S', sim, rr, hf, q⟩ := h
  obtain ⟨f1, S1, k1, hf⟩ := bind_ok hf
  refine ⟨ι, F, S, ρ, f1, S1, sim, rr, k1, fun ι1 F1 H1 e1 s1 => ?_⟩
  cases f1 with
  | next ρ1 => exact fun σ1 r1 => ⟨ι1, F1, S1, ρ1, r, S', s1, r1, hf, fun ι2 F2 H2 e2 s2 => q _ _ _ (e1.trans e2) s2⟩
  | ret x => cases hf; exact q _ _ _ e1 s1
  | brk ρ1 => cases hf; exact q _ _ _ e1 s1
  | cnt ρ1 => cases hf; exact q _ _ _ e1 s1
theorem freeze_step {i : Nat} {t : TS} (h : PSs X sts t) : PSs X sts (fun D σ H => ∃ ι F S ρ ρ1 S1, Sim X.K X.mg ι F S H ∧ RepR X.K X.mg F ι ρ σ ∧ sFreeze i ρ S = .ok (.next ρ1) S1 ∧
    ∀ ι' F' H', Ext ι F ι' F' → Sim X.K X.mg ι' F' S1 H' → RepR X.K X.mg F' ι' ρ1 σ → t D σ H') := by
  refine ⟨fun pins s σ H D I hw => ?_⟩
  obtain ⟨ι, F, S, ρ, ρ1, S1, sim, rr, k1, q⟩ := hw
  unfold sFreeze at k1
  split at k1
  · rename_i n hn
    split at k1
    · rename_i xs hS
      cases k1
      obtain ⟨v, h1, pp, h2, rfl⟩ := rr.get hn
      obtain ⟨ad, vs, k2, s2, e2, r2⟩ := sim.shut hS
      rw [h2] at k2; cases k2
      exact h.run pins s σ H D I (q _ _ _ e2 s2 ((rr.mono e2).setL (x := .v (.lst xs)) r2 h1))
    · rename_i kvs hS
      split at k1
      case isFalse => cases k1
      rename_i hint
      cases k1
      obtain ⟨v, h1, pp, h2, rfl⟩ := rr.get hn
      obtain ⟨ad, ws, k2, hH, go⟩ := sim.shutD hS hint
      rw [h2] at k2; cases k2
      obtain ⟨od, I1⟩ := I.lock hH trivial
      obtain ⟨s2, e2, r2⟩ := go od
      exact h.run pins s σ _ D I1 (q _ _ _ e2 s2 ((rr.mono e2).setL (x := .v (.dic (kvs.map Prod.fst) (kvs.map Prod.snd))) r2 h1))
    · cases k1
  · cases k1
    exact h.run pins s σ H D I (q _ _ _ Ext.refl sim rr)
  · cases k1
    exact h.run pins s σ H D I (q _ _ _ Ext.refl sim rr)
theorem sFreeze_next {i : Nat} {ρ : Slots} {S S1 : Store} {f : Flow} (h : sFreeze i ρ S = .ok f S1) : ∃ ρ1, f = .next ρ1 := by
  unfold sFreeze at h
  split at h
  · split at h
    · cases h; exact ⟨_, rfl⟩
    · split at h
      · cases h; exact ⟨_, rfl⟩
      · cases h
    · cases h
  · cases h; exact ⟨_, rfl⟩
  · cases h; exact ⟨_, rfl⟩
theorem s_freeze {i : Nat} {g : Slots → Store → Out Flow} (h : PSs X sts (rdS X.K X.mg g)) : PSs X sts (rdS X.K X.mg (sSeq (sFreeze i) g)) := pss_mono (freeze_step h) fun D σ H h => by
  obtain ⟨ι, F, S, ρ, r, S', sim, rr, hf, q⟩ := h
  obtain ⟨f1, S1, k1, hf⟩ := bind_ok hf
  obtain ⟨ρ1, rfl⟩ := sFreeze_next k1
  exact ⟨ι, F, S, ρ, ρ1, S1, sim, rr, k1, fun ι1 F1 H1 e1 s1 r1 => ⟨ι1, F1, S1, ρ1, r, S', s1, r1, hf, fun ι3 F3 H3 e3 s3 => q _ _ _ (e1.trans e3) s3⟩⟩
theorem set_fin {K : PySem.W.Frag} {mg : PySem.Str → Option Value} {i : Nat} {D : Ends} {σ : L2.St} {H : Hp} (h : rdS K mg (sSet i f) D σ H) : rdE K mg f σ H fun x H1 => D.nx (σ.set i (some x)) H1 := by
  obtain ⟨ι, F, S, ρ, r, S', sim, rr, hf, q⟩ := h
  obtain ⟨x, S1, h1, hf⟩ := bind_ok hf
  cases hf
  exact ⟨ι, F, S, ρ, x, S', sim, rr, h1, fun ι1 F1 v H1 e1 s1 r1 => q ι1 F1 H1 e1 s1 _ ((rr.mono e1).set r1 i)⟩
theorem s_set {i : Nat} {x : PySem.Str} (hN : X.N.Nodup) (hi : X.N[i]? = some x) (hx : Loc X.env.scope x) (he : PE X e (rdE X.K X.mg f)) (hs : swapsWith e (some (.Name x pos')) pos.line X.env = pure false) (hf : X.fn x = true ∨ X.env.scope.names.lookup x = some .local) :
    PS X (.Assign [.Name x pos'] e pos) (rdS X.K X.mg (sSet i f)) :=
  ps_mono (ps_set hN hi hx he hs hf) fun D σ H h => set_fin h
section
variable {elt tg iter tg1 iter1 : Expr} {ifs ifs1 : List Expr} {scope : Scope} {own : List (PySem.Str × Nat)} {own2 ts1 ts2 : List Nat} {g g2 : PV → Slots → Option Slots} {it it2 : IS} {c c2 : Slots → Store → Out Bool} {m : Bool}
theorem s_comp (hc : X.calm = true) (hN : X.N.Nodup) (ok : BlkOk X.N X.env.scope scope own) (hts : ∀ t ∈ ts1, t ∈ own.map (·.2)) (hi : PI X tg iter (rdI X.K X.mg it))
    (hg : ∀ (s : Shared) (H : Hp) (C : Addr) (cl : List (PySem.Str × Addr)) (fp : List Addr), PG (X.blk s H scope (compEnvC scope cl C X.env) fp) tg (rdG X.K X.mg g ts1)) (ht : ∀ (s : Shared) (H : Hp) (C : Addr) (cl : List (PySem.Str × Addr)) (fp : List Addr), PTs (X.blk s H scope (compEnvC scope cl C X.env) fp) ifs (rdT X.K X.mg c))
    (he : ∀ (s : Shared) (H : Hp) (C : Addr) (cl : List (PySem.Str × Addr)) (fp : List Addr), PE (X.blk s H scope (compEnvC scope cl C X.env) fp) elt (rdE X.K X.mg f)) (hs : ∀ x, foldedSetIterable iter X.env x = pure x) :
    PE X (.ListComp elt [⟨tg, iter, ifs, 0⟩] scope pos) (rdE X.K X.mg (sComp m (own.map (·.2)) g it c f)) :=
  pe_mono (pe_lc hc hN hi ok hg ht he hs) fun σ H Q h => lc_sound hts h
theorem s_setComp {i : Nat} {y : PySem.Str} {py spos : Pos} (hc : X.calm = true) (hN : X.N.Nodup) (hy : X.N[i]? = some y) (hyl : X.env.scope.names.lookup y = some .local)
    (hsw : swapsWith (.ListComp elt [⟨tg, iter, ifs, 0⟩] scope pos) (some (.Name y py)) spos.line X.env = pure true) (ok : BlkOk X.N X.env.scope scope own) (hts : ∀ t ∈ ts1, t ∈ own.map (·.2)) (hi : PI X tg iter (rdI X.K X.mg it))
    (hg : ∀ (s : Shared) (H : Hp) (C : Addr) (cl : List (PySem.Str × Addr)) (fp : List Addr), PG (X.blk s H scope (compEnvC scope cl C X.env) fp) tg (rdG X.K X.mg g ts1)) (ht : ∀ (s : Shared) (H : Hp) (C : Addr) (cl : List (PySem.Str × Addr)) (fp : List Addr), PTs (X.blk s H scope (compEnvC scope cl C X.env) fp) ifs (rdT X.K X.mg c))
    (he : ∀ (s : Shared) (H : Hp) (C : Addr) (cl : List (PySem.Str × Addr)) (fp : List Addr), PE (X.blk s H scope (compEnvC scope cl C X.env) fp) elt (rdE X.K X.mg f)) (hs : ∀ x, foldedSetIterable iter X.env x = pure x) :
    PS X (.Assign [.Name y py] (.ListComp elt [⟨tg, iter, ifs, 0⟩] scope pos) spos) (rdS X.K X.mg (sSet i (sComp m (own.map (·.2)) g it c f))) :=
  ps_mono (ps_setLc hc hN hy hyl hsw hi ok hg ht he hs) fun D σ H h => lc_sound hts (set_fin h)
theorem s_comp2 (hc : X.calm = true) (hN : X.N.Nodup) (ok : BlkOk X.N X.env.scope scope own) (hv : ∀ i ∈ own2, i ∈ own.map (·.2)) (hts : ∀ t ∈ ts1, t ∈ own.map (·.2)) (hts2 : ∀ t ∈ ts2, t ∈ own2) (hi : PI X tg iter (rdI X.K X.mg it))
    (hg : ∀ (s : Shared) (H : Hp) (C : Addr) (cl : List (PySem.Str × Addr)) (fp : List Addr), PG (X.blk s H scope (compEnvC scope cl C X.env) fp) tg (rdG X.K X.mg g ts1)) (ht : ∀ (s : Shared) (H : Hp) (C : Addr) (cl : List (PySem.Str × Addr)) (fp : List Addr), PTs (X.blk s H scope (compEnvC scope cl C X.env) fp) ifs (rdT X.K X.mg c))
    (hi1 : ∀ (s : Shared) (H : Hp) (C : Addr) (cl : List (PySem.Str × Addr)) (fp : List Addr), PI (X.blk s H scope (compEnvC scope cl C X.env) fp) tg1 iter1 (rdI X.K X.mg it2))
    (hg1 : ∀ (s : Shared) (H : Hp) (C : Addr) (cl : List (PySem.Str × Addr)) (fp : List Addr), PG (X.blk s H scope (compEnvC scope cl C X.env) fp) tg1 (rdG X.K X.mg g2 ts2)) (ht1 : ∀ (s : Shared) (H : Hp) (C : Addr) (cl : List (PySem.Str × Addr)) (fp : List Addr), PTs (X.blk s H scope (compEnvC scope cl C X.env) fp) ifs1 (rdT X.K X.mg c2))
    (he : ∀ (s : Shared) (H : Hp) (C : Addr) (cl : List (PySem.Str × Addr)) (fp : List Addr), PE (X.blk s H scope (compEnvC scope cl C X.env) fp) elt (rdE X.K X.mg f)) (hs : ∀ x, foldedSetIterable iter X.env x = pure x) (hs1 : ∀ env x, foldedSetIterable iter1 env x = pure x) :
    PE X (.ListComp elt [⟨tg, iter, ifs, 0⟩, ⟨tg1, iter1, ifs1, 0⟩] scope pos) (rdE X.K X.mg (sComp2 m (own.map (·.2)) own2 g it c g2 it2 c2 f)) :=
  pe_mono (pe_lc2 hc hN hi ok hv hg ht hi1 hg1 ht1 he hs hs1) fun σ H Q h => lc2_sound hts hts2 h
theorem s_setComp2 {i : Nat} {y : PySem.Str} {py spos : Pos} (hc : X.calm = true) (hN : X.N.Nodup) (hy : X.N[i]? = some y) (hyl : X.env.scope.names.lookup y = some .local)
    (hsw : swapsWith (.ListComp elt [⟨tg, iter, ifs, 0⟩, ⟨tg1, iter1, ifs1, 0⟩] scope pos) (some (.Name y py)) spos.line X.env = pure true) (ok : BlkOk X.N X.env.scope scope own) (hv : ∀ i ∈ own2, i ∈ own.map (·.2)) (hts : ∀ t ∈ ts1, t ∈ own.map (·.2)) (hts2 : ∀ t ∈ ts2, t ∈ own2) (hi : PI X tg iter (rdI X.K X.mg it))
    (hg : ∀ (s : Shared) (H : Hp) (C : Addr) (cl : List (PySem.Str × Addr)) (fp : List Addr), PG (X.blk s H scope (compEnvC scope cl C X.env) fp) tg (rdG X.K X.mg g ts1)) (ht : ∀ (s : Shared) (H : Hp) (C : Addr) (cl : List (PySem.Str × Addr)) (fp : List Addr), PTs (X.blk s H scope (compEnvC scope cl C X.env) fp) ifs (rdT X.K X.mg c))
    (hi1 : ∀ (s : Shared) (H : Hp) (C : Addr) (cl : List (PySem.Str × Addr)) (fp : List Addr), PI (X.blk s H scope (compEnvC scope cl C X.env) fp) tg1 iter1 (rdI X.K X.mg it2))
    (hg1 : ∀ (s : Shared) (H : Hp) (C : Addr) (cl : List (PySem.Str × Addr)) (fp : List Addr), PG (X.blk s H scope (compEnvC scope cl C X.env) fp) tg1 (rdG X.K X.mg g2 ts2)) (ht1 : ∀ (s : Shared) (H : Hp) (C : Addr) (cl : List (PySem.Str × Addr)) (fp : List Addr), PTs (X.blk s H scope (compEnvC scope cl C X.env) fp) ifs1 (rdT X.K X.mg c2))
    (he : ∀ (s : Shared) (H : Hp) (C : Addr) (cl : List (PySem.Str × Addr)) (fp : List Addr), PE (X.blk s H scope (compEnvC scope cl C X.env) fp) elt (rdE X.K X.mg f)) (hs : ∀ x, foldedSetIterable iter X.env x = pure x) (hs1 : ∀ env x, foldedSetIterable iter1 env x = pure x) :
    PS X (.Assign [.Name y py] (.ListComp elt [⟨tg, iter, ifs, 0⟩, ⟨tg1, iter1, ifs1, 0⟩] scope pos) spos) (rdS X.K X.mg (sSet i (sComp2 m (own.map (·.2)) own2 g it c g2 it2 c2 f))) :=
  ps_mono (ps_setLc2 hc hN hy hyl hsw hi ok hv hg ht hi1 hg1 ht1 he hs hs1) fun D σ H h => lc2_sound hts hts2 (set_fin h)
end
theorem s_unpack {tg : Expr} {g : PV → Slots → Option Slots} {ts1 : List Nat} (he : PE X e (rdE X.K X.mg f)) (hg : PG X tg (rdG X.K X.mg g ts1)) (hs : swapsWithSole [tg] e pos.line X.env = pure false) (hw : swappedStores [tg] e X.env = pure none) (h1 : noStar tg = true) :
    PS X (.Assign [tg] e pos) (rdS X.K X.mg (sUnpack g f)) :=
  ps_mono (ps_asg he hg hs hw (by rw [assign_one h1]; rfl)) fun D σ H h => by
    obtain ⟨ι, F, S, ρ, r, S', sim, rr, hf, q⟩ := h
    obtain ⟨x, S1, h1, hf⟩ := bind_ok hf
    cases x with
    | l n => cases hf
    | v x =>
      simp only at hf
      split at hf
      · rename_i ρ1 hg
        cases hf
        refine ⟨ι, F, S, ρ, .v x, S', sim, rr, h1, fun ι1 F1 v H1 e1 s1 r1 => ?_⟩
        exact ⟨ι1, F1, S', ρ, x, ρ1, s1, rr.mono e1, r1, hg, fun ι2 F2 σ2 H2 e2 s2 r2 _ => q _ _ _ (e1.trans e2) s2 _ r2⟩
      · cases hf
theorem set2 {i j : Nat} {xs : List SV} {ρ ρ1 : Slots} (h : setAll [i, j] xs ρ = some ρ1) : ∃ x y, xs = [x, y] ∧ ρ1 = (ρ.set i (some x)).set j (some y) := by
  match xs, h with
  | [x, y], h => simp only [setAll, Option.some.injEq] at h; exact ⟨x, y, rfl, h.symm⟩
theorem set3 {i j k : Nat} {xs : List SV} {ρ ρ1 : Slots} (h : setAll [i, j, k] xs ρ = some ρ1) : ∃ x y z, xs = [x, y, z] ∧ ρ1 = ((ρ.set i (some x)).set j (some y)).set k (some z) := by
  match xs, h with
  | [x, y, z], h => simp only [setAll, Option.some.injEq] at h; exact ⟨x, y, z, rfl, h.symm⟩
theorem s_par {i j : Nat} {x y : PySem.Str} {px py pt : Pos} {kt : Nat} {k2 : Nat} {pt2 : Pos} (hc : X.calm = true) (hN : X.N.Nodup) (hi : X.N[i]? = some x) (hj : X.N[j]? = some y) (hij : i ≠ j)
    (hx : X.env.scope.names.lookup x = some .local) (hy : X.env.scope.names.lookup y = some .local) (ha : PA X [a, b] (rdA X.K X.mg ts))
    (hw : swappedStores [.Tuple [.Name x px, .Name y py] kt pt] (.Tuple [a, b] k2 pt2) X.env = pure (some [x, y])) :
    PS X (.Assign [.Tuple [.Name x px, .Name y py] kt pt] (.Tuple [a, b] k2 pt2) pos) (rdS X.K X.mg (sPar [i, j] ts)) :=
  ps_mono (ps_par hc hN hi hj hij hx hy ha hw) fun D σ H h => by
    obtain ⟨ι, F, S, ρ, r, S', sim, rr, hf, q⟩ := h
    obtain ⟨xs, S1, h1, hf⟩ := bind_ok hf
    split at hf
    · rename_i ρ1 hs
      cases hf
      obtain ⟨x, y, rfl, rfl⟩ := set2 hs
      refine ⟨ι, F, S, ρ, _, S', sim, rr, h1, fun ι1 F1 vs H1 e1 s1 r1 => ?_⟩
      obtain ⟨v, w, rfl, g1, g2⟩ := vs_two r1
      exact ⟨v, w, rfl, q _ _ _ e1 s1 _ (((rr.mono e1).set g1 i).set g2 j)⟩
    · cases hf
theorem s_par3 {c : Expr} {i j l : Nat} {x y z : PySem.Str} {px py pz pt : Pos} {kt : Nat} {k2 : Nat} {pt2 : Pos} (hc : X.calm = true) (hN : X.N.Nodup) (hi : X.N[i]? = some x) (hj : X.N[j]? = some y) (hl : X.N[l]? = some z) (hij : i ≠ j) (hil : i ≠ l) (hjl : j ≠ l)
    (hx : X.env.scope.names.lookup x = some .local) (hy : X.env.scope.names.lookup y = some .local) (hz : X.env.scope.names.lookup z = some .local) (ha : PA X [a, b, c] (rdA X.K X.mg ts))
    (hw : swappedStores [.Tuple [.Name x px, .Name y py, .Name z pz] kt pt] (.Tuple [a, b, c] k2 pt2) X.env = pure (some [x, y, z])) :
    PS X (.Assign [.Tuple [.Name x px, .Name y py, .Name z pz] kt pt] (.Tuple [a, b, c] k2 pt2) pos) (rdS X.K X.mg (sPar [i, j, l] ts)) :=
  ps_mono (ps_par3 hc hN hi hj hl hij hil hjl hx hy hz ha hw) fun D σ H h => by
    obtain ⟨ι, F, S, ρ, r, S', sim, rr, hf, q⟩ := h
    obtain ⟨xs, S1, h1, hf⟩ := bind_ok hf
    split at hf
    · rename_i ρ1 hs
      cases hf
      obtain ⟨x, y, z, rfl, rfl⟩ := set3 hs
      refine ⟨ι, F, S, ρ, _, S', sim, rr, h1, fun ι1 F1 vs H1 e1 s1 r1 => ?_⟩
      obtain ⟨v, r', rfl, g1, r1⟩ := r1
      obtain ⟨w, u, rfl, g2, g3⟩ := vs_two r1
      exact ⟨v, w, u, rfl, q _ _ _ e1 s1 _ ((((rr.mono e1).set g1 i).set g2 j).set g3 l)⟩
    · cases hf
theorem s_expr (he : PE X e (rdE X.K X.mg f)) (hs : swapsWith e none pos.line X.env = pure false) : PS X (.Expr e pos) (rdS X.K X.mg (sExpr f)) := ps_mono (ps_expr he hs) fun D σ H h => by
  obtain ⟨ι, F, S, ρ, r, S', sim, rr, hf, q⟩ := h
  obtain ⟨x, S1, h1, hf⟩ := bind_ok hf
  cases hf
  exact ⟨ι, F, S, ρ, x, S', sim, rr, h1, fun ι1 F1 v H1 e1 s1 r1 => q _ _ _ e1 s1 _ (rr.mono e1)⟩
theorem s_if {c : Slots → Store → Out Bool} {g h : Slots → Store → Out Flow} (hc : PT X e (rdT X.K X.mg c)) (ha : PSs X sts (rdS X.K X.mg g)) (hb : PSs X orelse (rdS X.K X.mg h)) : PS X (.If e sts orelse pos) (rdS X.K X.mg (sIfs c g h)) := ps_mono (ps_if hc ha hb) fun D σ H h => by
  obtain ⟨ι, F, S, ρ, r, S', sim, rr, hf, q⟩ := h
  obtain ⟨t, S1, h1, hf⟩ := bind_ok hf
  refine ⟨ι, F, S, ρ, t, S1, sim, rr, h1, fun ι1 F1 H1 e1 s1 => ?_⟩
  cases t with
  | true => exact ⟨ι1, F1, S1, ρ, r, S', s1, rr.mono e1, hf, fun ι2 F2 H2 e2 s2 => q _ _ _ (e1.trans e2) s2⟩
  | false => exact ⟨ι1, F1, S1, ρ, r, S', s1, rr.mono e1, hf, fun ι2 F2 H2 e2 s2 => q _ _ _ (e1.trans e2) s2⟩
theorem s_ret (he : PE X e (rdE X.K X.mg f)) : PS X (.Return (some e) pos) (rdS X.K X.mg (sRet f)) := ps_mono (ps_ret he) fun D σ H h => by
  obtain ⟨ι, F, S, ρ, r, S', sim, rr, hf, q⟩ := h
  obtain ⟨x, S1, h1, hf⟩ := bind_ok hf
  cases hf
  exact ⟨ι, F, S, ρ, x, S', sim, rr, h1, fun ι1 F1 v H1 e1 s1 r1 => q _ _ _ e1 s1 _ r1⟩
theorem s_retN : PS X (.Return none pos) (rdS X.K X.mg sRetN) := ps_mono ps_retN fun D σ H h => by
  obtain ⟨ι, F, S, ρ, r, S', sim, rr, hf, q⟩ := h
  cases hf
  exact q _ _ _ Ext.refl sim _ rfl
theorem s_brk : PS X (.Break pos) (rdS X.K X.mg sBrk) := ps_mono ps_break fun D σ H h => by
  obtain ⟨ι, F, S, ρ, r, S', sim, rr, hf, q⟩ := h
  cases hf
  exact q _ _ _ Ext.refl sim _ rr
theorem s_cnt : PS X (.Continue pos) (rdS X.K X.mg sCnt) := ps_mono ps_continue fun D σ H h => by
  obtain ⟨ι, F, S, ρ, r, S', sim, rr, hf, q⟩ := h
  cases hf
  exact q _ _ _ Ext.refl sim _ rr
theorem s_for {tg iter : Expr} {g : PV → Slots → Option Slots} {ts1 : List Nat} {it : IS} {f : Slots → Store → Out Flow} {w : List Nat} (hp : PassesOwn (model X.prog X.w) X.A X.env X.xe) (hc : X.calm = true) (hi : PI X tg iter (rdI X.K X.mg it)) (hg : PG X tg (rdG X.K X.mg g ts1)) (hb : PSs X sts (rdS X.K X.mg f)) (hs : ∀ x, foldedSetIterable iter X.env x = pure x) :
    PS X (.For tg iter sts [] pos) (rdS X.K X.mg (sFor g it f w)) := ps_mono (ps_for hp hc hi hg hb hs) fun D σ H h => by
  obtain ⟨ι, F, S, ρ, r, S', sim, rr, hf, q⟩ := h
  obtain ⟨xs, S1, h1, hf⟩ := bind_ok hf
  refine ⟨ι, F, S, ρ, xs, S1, sim, rr, h1, fun ι1 F1 H1 J e1 s1 wp => ?_⟩
  refine ⟨fun i m σ H => m = xs.length - i ∧ i ≤ xs.length ∧ ∃ ι2 F2 S2 ρ2, Ext ι1 F1 ι2 F2 ∧ Sim X.K X.mg ι2 F2 S2 H ∧ RepR X.K X.mg F2 ι2 ρ2 σ ∧ forL (sTurn g f) w (xs.drop i) ρ2 S2 = .ok r S',
    ⟨xs.length, by simp, Nat.zero_le _, ι1, F1, S1, _, Ext.refl, s1, (rr.mono e1).wipe w, hf⟩, ?_⟩
  rintro i m σ2 H2 ⟨rfl, hi, ι2, F2, S2, ρ2, ex, s2, r2, hl⟩
  by_cases hlt : i < xs.length
  · have sb1 : Sub F1 H2 := ex.2.trans s2.sub
    refine .inr ⟨wp.goes i H2 hlt sb1, _, fun σ' H' p' => ⟨xs.length - (i + 1), by omega, rfl, hlt, p'⟩, fun v H' y => ?_⟩
    obtain ⟨F3, x, e3, s3, hx, rx⟩ := wp.yields i H2 v H' hlt sb1 y _ _ _ ex.2 s2
    rw [List.drop_eq_getElem_cons hlt] at hl
    have hx2 : xs[i] = x := by
      have := List.getElem?_eq_getElem hlt
      rw [hx] at this; cases this; rfl
    rw [hx2] at hl
    obtain ⟨f1, S3, k1, k2⟩ := bind_ok hl
    unfold sTurn at k1
    split at k1
    · rename_i ρ3 hgx
      refine ⟨ι2, F3, S2, ρ2, x, ρ3, s3, r2.mono e3, rx, hgx, fun ι4 F4 σ4 H4 e4 s4 r4 _ => ?_⟩
      refine ⟨ι4, F4, S2, ρ3, f1, S3, s4, r4, k1, fun ι5 F5 H5 e5 s5 => ?_⟩
      have ex5 := ex.trans (e3.trans (e4.trans e5))
      cases f1 with
      | next ρ4 => exact fun σ5 r5 => ⟨ι5, F5, S3, _, ex5, s5, r5.wipe w, k2⟩
      | cnt ρ4 => exact fun σ5 r5 => ⟨ι5, F5, S3, _, ex5, s5, r5.wipe w, k2⟩
      | brk ρ4 => cases k2; exact fun σ5 r5 => q _ _ _ (e1.trans ex5) s5 _ r5
      | ret z => cases k2; exact fun v5 r5 => q _ _ _ (e1.trans ex5) s5 _ r5
    · cases k1
  · have hie : i = xs.length := by omega
    subst hie
    rw [List.drop_length] at hl
    cases hl
    exact .inl ⟨wp.stops H2 (ex.2.trans s2.sub), q _ _ _ (e1.trans ex) s2 _ r2⟩
theorem s_forl {tg e : Expr} {g : PV → Slots → Option Slots} {ts1 : List Nat} {fe : VS} {f : Slots → Store → Out Flow} {w : List Nat} (hp : PassesOwn (model X.prog X.w) X.A X.env X.xe) (hc : X.calm = true) (he : PE X e (rdE X.K X.mg fe)) (hg : PG X tg (rdG X.K X.mg g ts1)) (hb : PSs X sts (rdS X.K X.mg f)) (hs : ∀ x, foldedSetIterable e X.env x = pure x) :
    PS X (.For tg e sts [] pos) (rdS X.K X.mg (sForM g fe f w)) := ps_mono (ps_for hp hc (pi_list he) hg hb hs) fun D σ H h => by
  obtain ⟨ι, F, S, ρ, r, S', sim, rr, hf, q⟩ := h
  obtain ⟨z, S1, h1, hf⟩ := bind_ok hf
  split at hf
  · rename_i n
    generalize hfu : fuel = fu at hf
    clear hfu
    refine ⟨ι, F, S, ρ, _, S1, sim, rr, h1, fun ι1 F1 v H1 e1 s1 r1 => ?_⟩
    obtain ⟨p, hp1, rfl⟩ := r1
    have live : ∀ {ι2 F2 S2 H2 ys}, Ext ι1 F1 ι2 F2 → Sim X.K X.mg ι2 F2 S2 H2 → S2[n]? = some (.lst ys) → ∃ vs, SqL X.K H2 p vs ∧ RepL X.K X.mg F2 ys vs := fun {ι2 F2 S2 H2 ys} ex s2 hy => by
      obtain ⟨a, o, g1, g2, g3⟩ := s2.at_ n _ hy
      obtain ⟨⟨⟨t, ht⟩, _⟩, _⟩ := ex
      have : ι2.l[n]? = some p := by rw [ht, List.getElem?_append_left (List.getElem?_eq_some_iff.mp hp1).1]; exact hp1
      rw [g1] at this; cases this
      obtain ⟨_, vs, rfl, l⟩ := g3
      exact ⟨vs, .inl (.inl g2), l⟩
    have hl0 : ∃ vs, SqL X.K H1 p vs := by
      cases fu with
      | zero => cases hf
      | succ m =>
        unfold forM at hf
        split at hf
        · rename_i ys hy
          obtain ⟨vs, h2, _⟩ := live Ext.refl s1 hy
          exact ⟨vs, h2⟩
        · cases hf
    refine ⟨p, rfl, hl0, ?_⟩
    refine ⟨fun i m σ H => ∃ ι2 F2 S2 ρ2, Ext ι1 F1 ι2 F2 ∧ Sim X.K X.mg ι2 F2 S2 H ∧ RepR X.K X.mg F2 ι2 ρ2 σ ∧ forM (sTurn g f) w n m i ρ2 S2 = .ok r S', ⟨fu, ι1, F1, S1, _, Ext.refl, s1, (rr.mono e1).wipe w, hf⟩, ?_⟩
    rintro i m σ2 H2 ⟨ι2, F2, S2, ρ2, ex, s2, r2, hl⟩
    cases m with
    | zero => cases hl
    | succ m =>
      unfold forM at hl
      split at hl
      · rename_i ys hy
        obtain ⟨vs, hq, l⟩ := live ex s2 hy
        split at hl
        · rename_i x hx
          obtain ⟨v0, hv0, rx⟩ := l.get hx
          refine .inr ⟨⟨vs, v0, hq, hv0⟩, _, fun σ' H' p' => ⟨m, Nat.lt_succ_self m, p'⟩, fun v H' y => ?_⟩
          obtain ⟨rfl, y⟩ := y
          have := y vs hq
          rw [hv0] at this; cases this
          obtain ⟨f1, S3, k1, k2⟩ := bind_ok hl
          unfold sTurn at k1
          split at k1
          · rename_i ρ3 hgx
            refine ⟨ι2, F2, S2, ρ2, x, ρ3, s2, r2, rx, hgx, fun ι4 F4 σ4 H4 e4 s4 r4 _ => ?_⟩
            refine ⟨ι4, F4, S2, ρ3, f1, S3, s4, r4, k1, fun ι5 F5 H5 e5 s5 => ?_⟩
            have ex5 := ex.trans (e4.trans e5)
            cases f1 with
            | next ρ4 => exact fun σ5 r5 => ⟨ι5, F5, S3, _, ex5, s5, r5.wipe w, k2⟩
            | cnt ρ4 => exact fun σ5 r5 => ⟨ι5, F5, S3, _, ex5, s5, r5.wipe w, k2⟩
            | brk ρ4 => cases k2; exact fun σ5 r5 => q _ _ _ (e1.trans ex5) s5 _ r5
            | ret z => cases k2; exact fun v5 r5 => q _ _ _ (e1.trans ex5) s5 _ r5
          · cases k1
        · rename_i hx
          cases hl
          refine .inl ⟨⟨vs, hq, ?_⟩, q _ _ _ (e1.trans ex) s2 _ r2⟩
          rw [← l.length]
          exact List.getElem?_eq_none_iff.mp hx
      · cases hl
  · cases hf
theorem s_while {c : Slots → Store → Out Bool} {f : Slots → Store → Out Flow} {w : List Nat} (hp : PassesOwn (model X.prog X.w) X.A X.env X.xe) (hc : PT X e (rdT X.K X.mg c)) (hb : PSs X sts (rdS X.K X.mg f)) :
    PS X (.While e sts [] pos) (rdS X.K X.mg (sWhile c f w)) := ps_mono (ps_while hp hc hb) fun D σ H h => by
  obtain ⟨ι, F, S, ρ, r, S', sim, rr, hf, q⟩ := h
  unfold sWhile at hf
  generalize fuel = n at hf
  refine ⟨fun m σ H => ∃ ι2 F2 S2 ρ2, Ext ι F ι2 F2 ∧ Sim X.K X.mg ι2 F2 S2 H ∧ RepR X.K X.mg F2 ι2 ρ2 σ ∧ whileL c f w m ρ2 S2 = .ok r S', ⟨n, ι, F, S, _, Ext.refl, sim, rr.wipe w, hf⟩, ?_⟩
  rintro m σ2 H2 ⟨ι2, F2, S2, ρ2, ex, s2, r2, hl⟩
  cases m with
  | zero => cases hl
  | succ m =>
    obtain ⟨t, S3, k1, k2⟩ := bind_ok hl
    refine ⟨ι2, F2, S2, ρ2, t, S3, s2, r2, k1, fun ι3 F3 H3 e3 s3 => ?_⟩
    cases t with
    | false =>
      simp only [Bool.false_eq_true, if_false] at k2 ⊢
      cases k2
      exact q _ _ _ (ex.trans e3) s3 _ (r2.mono e3)
    | true =>
      simp only [if_true] at k2 ⊢
      obtain ⟨f1, S4, k3, k4⟩ := bind_ok k2
      refine ⟨fun σ' H' => ∃ ι2 F2 S2 ρ2, Ext ι F ι2 F2 ∧ Sim X.K X.mg ι2 F2 S2 H' ∧ RepR X.K X.mg F2 ι2 ρ2 σ' ∧ whileL c f w m ρ2 S2 = .ok r S', fun σ' H' z => ⟨m, Nat.lt_succ_self m, z⟩, ?_⟩
      refine ⟨ι3, F3, S3, ρ2, f1, S4, s3, r2.mono e3, k3, fun ι5 F5 H5 e5 s5 => ?_⟩
      have ex5 := ex.trans (e3.trans e5)
      cases f1 with
      | next ρ4 => exact fun σ5 r5 => ⟨ι5, F5, S4, _, ex5, s5, r5.wipe w, k4⟩
      | cnt ρ4 => exact fun σ5 r5 => ⟨ι5, F5, S4, _, ex5, s5, r5.wipe w, k4⟩
      | brk ρ4 => cases k4; exact fun σ5 r5 => q _ _ _ ex5 s5 _ r5
      | ret z => cases k4; exact fun v5 r5 => q _ _ _ ex5 s5 _ r5
end
end FW

namespace FW
open PySem PySem.Spec PyProof.Rows L2 RZ
section
variable {K : PySem.W.Frag} {mg : PySem.Str → Option Value} {F F' H H' : Hp} {ι ι' : Plc} {S S' : Store}
theorem Sim.lstAt (s : Sim K mg ι F S H) {n : Nat} {xs : List PV} {v : V} (r : RepS K mg F ι (.l n) v) (h : S[n]? = some (.lst xs)) : ∃ p vs, v = .ref p ∧ ι.l[n]? = some p ∧ F p = none ∧ H p = some (.lst vs) ∧ RepL K mg F xs vs := by
  obtain ⟨p, hp, rfl⟩ := r
  obtain ⟨a, o, h1, h2, h3, vs, e2, h4⟩ := s.at_ n _ h
  rw [hp] at h1; cases h1
  subst e2
  exact ⟨p, vs, rfl, hp, h3, h2, h4⟩
theorem RepD.put {k : L2.Key} {x : PV} {v : V} (q : Rep K mg F x v) : ∀ {kvs : List (PV × PV)} {ws : List (L2.Key × V)}, RepD K mg F kvs ws → RepD K mg F (keyPut (keyP k) x kvs) (putK ws k v) := by
  have any_eq : ∀ {kvs : List (PV × PV)} {ws : List (L2.Key × V)}, RepD K mg F kvs ws → (kvs.any fun kv => keyEq kv.1 (keyP k)) = (ws.any fun kv => decide (kv.1 = k)) := by
    intro kvs
    induction kvs with
    | nil => intro ws r; cases r; rfl
    | cons p r ih =>
      obtain ⟨k1, x1⟩ := p
      rintro _ ⟨k', v', t, rfl, rfl, a, b⟩
      simp only [List.any_cons, keyP_inj, ih b]
  have map_ok : ∀ {kvs : List (PV × PV)} {ws : List (L2.Key × V)}, RepD K mg F kvs ws → RepD K mg F (kvs.map (fun kv => if keyEq kv.1 (keyP k) = true then (kv.1, x) else kv)) (ws.map (fun kv => if kv.1 = k then (kv.1, v) else kv)) := by
    intro kvs
    induction kvs with
    | nil => intro ws r; cases r; rfl
    | cons p r ih =>
      obtain ⟨k1, x1⟩ := p
      rintro _ ⟨k', v', t, rfl, rfl, a, b⟩
      simp only [List.map_cons, keyP_inj, decide_eq_true_eq]
      by_cases h : k' = k
      · rw [if_pos h, if_pos h]
        exact ⟨k', v, _, rfl, rfl, q, ih b⟩
      · rw [if_neg h, if_neg h]
        exact ⟨k', v', _, rfl, rfl, a, ih b⟩
  have app_ok : ∀ {kvs : List (PV × PV)} {ws : List (L2.Key × V)}, RepD K mg F kvs ws → RepD K mg F (kvs ++ [(keyP k, x)]) (ws ++ [(k, v)]) := by
    intro kvs
    induction kvs with
    | nil => intro ws r; cases r; exact ⟨k, v, [], rfl, rfl, q, rfl⟩
    | cons p r ih =>
      obtain ⟨k1, x1⟩ := p
      rintro _ ⟨k', v', t, rfl, rfl, a, b⟩
      exact ⟨k', v', _, rfl, rfl, a, ih b⟩
  intro kvs ws r
  unfold keyPut putK
  rw [any_eq r]
  split
  · exact map_ok r
  · exact app_ok r
end
section
variable {X : Cx} {e a b : Expr} {es : List Expr} {pos pos' pos2 p apos cpos : Pos} {f fa fb : VS} {i : Nat} {x : PySem.Str}
theorem s_app (hi : X.N[i]? = some x) (hv : Vis X.env.scope x) (hd : (x == ("__debug__" : PySem.Str)) = false) (hcd : (x == ("__classdict__" : PySem.Str)) = false) (he : PE X e (rdE X.K X.mg f)) (hs : noStar e = true) (hline : (apos.endLine == cpos.line) = true) :
    PS X (.Expr (.Call (.Attribute (.Name x p) "append" apos) [e] [] cpos) pos) (rdS X.K X.mg (sApp i f)) := by
  refine ps_mono (ps_expr (pe_bm F.plainAttrs_list F.slot_list_append F.type_list_append mt_append (pe_var hi hv hd hcd) (pa_cons he pa_nil (star_one hs _ _)) rfl (by rw [star_one hs]; rfl) hline (star_one hs _ _) rfl) rfl) fun D σ H h => ?_
  obtain ⟨ι, F, S, ρ, r, S', sim, rr, hf, q⟩ := h
  unfold sApp at hf
  split at hf
  · rename_i n hn
    split at hf
    case isFalse => cases hf
    rename_i hL
    obtain ⟨y, S1, h1, hf⟩ := bind_ok hf
    split at hf
    · rename_i y xs hS
      split at hf
      · rename_i hl
        cases hf
        obtain ⟨v, g1, g2⟩ := rr.get hn
        refine ⟨v, g1, ?_⟩
        have hv0 : tyV X.K "list" v H := by
          unfold isLst at hL
          split at hL
          · rename_i zs hz
            obtain ⟨pp, vs, rfl, _, _, hH, _⟩ := sim.lstAt g2 hz
            exact .inl ⟨rfl, vs, .inl (.inl hH)⟩
          · cases hL
        refine ⟨hv0, ι, F, S, ρ, .v y, S1, sim, rr, h1, fun ι1 F1 w H1 e1 s1 r1 => ?_⟩
        obtain ⟨pp, vs, rfl, hp, hF, hH, l⟩ := s1.lstAt (g2.mono e1) hS
        refine ⟨pp, vs, w, rfl, rfl, hH, by rw [← l.length]; exact hl, ?_⟩
        exact q _ _ _ e1 (s1.write hp hF ⟨hF, vs ++ [w], rfl, l.app (RepL.one r1)⟩) _ (rr.mono e1)
      · cases hf
    · cases hf
  · cases hf
theorem set_or {t t' : TSet} (h : PSet X t) (h' : PSet X t') : PSet X (fun o i v H Q => t o i v H Q ∨ t' o i v H Q) := fun pins s σ H o i v ov iv u Q I r1 r2 r3 g => g.elim (h pins s σ H o i v ov iv u Q I r1 r2 r3) (h' pins s σ H o i v ov iv u Q I r1 r2 r3)
theorem put_ok {K : PySem.W.Frag} {mg : PySem.Str → Option Value} {F : Hp} {ι : Plc} {S S' : Store} {o y x : SV} {vo vy vx : V} {H : Hp} {Q : Hp → Prop} (sim : Sim K mg ι F S H) (ro : RepS K mg F ι o vo) (ry : RepS K mg F ι y vy) (rx : RepS K mg F ι x vx) (h : putOp o y x S = some S')
    (q : ∀ H', Sim K mg ι F S' H' → Q H') : rSetL vo vy vx H Q ∨ rSetD vo vy vx H Q := by
  unfold putOp at h
  split at h
  · rename_i n x y
    split at h
    · rename_i xs hS
      split at h
      · rename_i j
        split at h
        · rename_i k hk
          cases h
          cases ry
          obtain ⟨p, vs, rfl, hp, hF, hH, l⟩ := sim.lstAt ro hS
          refine .inl ⟨p, vs, j, k, rfl, rfl, hH, ?_, q _ (sim.write hp hF ⟨hF, _, rfl, l.set rx k⟩)⟩
          rw [← l.length]
          unfold ix? at hk
          unfold ixN
          by_cases h0 : 0 ≤ j
          · rw [if_pos h0] at hk ⊢
            split at hk
            · rename_i hl; cases hk; rw [if_pos hl]
            · cases hk
          · rw [if_neg h0] at hk ⊢
            split at hk
            · rename_i hl; cases hk; rw [if_pos (by omega)]
            · cases hk
        · cases h
      · cases h
    · rename_i kvs hS
      split at h
      · rename_i hk
        cases h
        obtain ⟨k', rfl⟩ := key_of? hk.1
        obtain ⟨n', p, ws, e0, hι, _, rfl, hF, hH, rd⟩ := sim.dic (x := .l n) (kvs := kvs) ro (by simp only [dicOf, hS])
        cases e0
        have := keyP_rep ry
        subst this
        refine .inr ⟨p, _, rfl, DPut.k hH (by rw [← rd.length]; exact hk.2), q _ (sim.write hι hF ⟨hF, _, rfl, rd.put rx⟩)⟩
      · cases h
    · cases h
  · cases h
theorem sw_sub {o j : Expr} {e : Expr} {l : Nat} {env : Env} {p : Pos} : swapsWith e (some (.Subscript o j p)) l env = pure false := by
  cases e <;> rfl
theorem sws_sub {o j : Expr} {e : Expr} {l : Nat} {env : Env} {p : Pos} : swapsWithSole [.Subscript o j p] e l env = pure false := sw_sub (o := o) (j := j) (p := p) (l := l) (env := env)
theorem sst_sub {o j : Expr} {e : Expr} {env : Env} {p : Pos} : swappedStores [.Subscript o j p] e env = pure none := by
  cases e <;> rfl
theorem assign_sub {o j : Expr} {env : Env} {p : Pos} (h : plainIx j = true) : ∀ v, assign (.Subscript o j p) env v = (do
      let ov ← holding [v] (eval o env)
      let iv ← holding [v, ov] (eval j env)
      standAt p
      holding [v, ov, iv] (setItem ov iv v)
      release [v, ov, iv] []) := by
  intro v
  cases j <;> first | rfl | simp [plainIx] at h
theorem s_sub (hu : X.A.units + 1 < cLine) (hi : X.N[i]? = some x) (hv : Vis X.env.scope x) (hd : (x == ("__debug__" : PySem.Str)) = false) (hcd : (x == ("__classdict__" : PySem.Str)) = false) (ha : PE X a (rdE X.K X.mg fa)) (hp : plainIx a = true) (he : PE X e (rdE X.K X.mg f)) :
    PS X (.Assign [.Subscript (.Name x p) a pos'] e pos) (rdS X.K X.mg (sSub i fa f)) := by
  refine ps_mono (ps_asg he (pg_sub (pe_var hi hv hd hcd) ha (set_or set_list (set_dict hu)) (assign_sub hp)) sws_sub sst_sub) fun D σ H h => ?_
  obtain ⟨ι, F, S, ρ, r, S', sim, rr, hf, q⟩ := h
  obtain ⟨y, S1, h1, hf⟩ := bind_ok hf
  obtain ⟨z, S2, h2, hf⟩ := bind_ok hf
  split at hf
  · rename_i o ho
    split at hf
    · rename_i S3 hp
      cases hf
      obtain ⟨v, g1, g2⟩ := rr.get ho
      refine ⟨ι, F, S, ρ, y, S1, sim, rr, h1, fun ι1 F1 w H1 e1 s1 r1 => ?_⟩
      refine ⟨v, g1, ι1, F1, S1, ρ, z, S2, s1, rr.mono e1, h2, fun ι2 F2 u H2 e2 s2 r2 => ?_⟩
      exact put_ok s2 (g2.mono (e1.trans e2)) r2 (r1.mono e2) hp fun H' s3 => q _ _ _ (e1.trans e2) s3 _ (rr.mono (e1.trans e2))
    · cases hf
  · cases hf
theorem s_aug_add (hN : X.N.Nodup) (hi : X.N[i]? = some x) (hx : Loc X.env.scope x) (he : PE X e (rdE X.K X.mg f)) (hf : X.fn x = true ∨ X.env.scope.names.lookup x = some .local) :
    PS X (.AugAssign (.Name x pos') .Add e pos) (rdS X.K X.mg (sAug i .add f)) := by
  refine ps_mono (ps_aug hN hi hx he ip_add hf) fun D σ H h => ?_
  obtain ⟨ι, F, S, ρ, r, S', sim, rr, hf, q⟩ := h
  unfold sAug at hf
  split at hf
  · rename_i y hy
    obtain ⟨z, S1, h1, hf⟩ := bind_ok hf
    unfold augOp at hf
    split at hf
    · rename_i w hw
      split at hw
      · cases hw; cases hf
        obtain ⟨v, g1, g2⟩ := rr.get hy
        cases g2
        refine ⟨_, g1, ι, F, S, ρ, _, S', sim, rr, h1, fun ι1 F1 w H1 e1 s1 r1 => ?_⟩
        cases r1
        exact ⟨_, _, rfl, rfl, q _ _ _ e1 s1 _ ((rr.mono e1).set (x := .v (.int _)) rfl i)⟩
      · cases hw
    · cases hf
  · cases hf
theorem s_aug_sub (hN : X.N.Nodup) (hi : X.N[i]? = some x) (hx : Loc X.env.scope x) (he : PE X e (rdE X.K X.mg f)) (hf : X.fn x = true ∨ X.env.scope.names.lookup x = some .local) :
    PS X (.AugAssign (.Name x pos') .Sub e pos) (rdS X.K X.mg (sAug i .sub f)) := by
  refine ps_mono (ps_aug hN hi hx he ip_sub hf) fun D σ H h => ?_
  obtain ⟨ι, F, S, ρ, r, S', sim, rr, hf, q⟩ := h
  unfold sAug at hf
  split at hf
  · rename_i y hy
    obtain ⟨z, S1, h1, hf⟩ := bind_ok hf
    unfold augOp at hf
    split at hf
    · rename_i w hw
      split at hw
      · cases hw; cases hf
        obtain ⟨v, g1, g2⟩ := rr.get hy
        cases g2
        refine ⟨_, g1, ι, F, S, ρ, _, S', sim, rr, h1, fun ι1 F1 w H1 e1 s1 r1 => ?_⟩
        cases r1
        exact ⟨_, _, rfl, rfl, q _ _ _ e1 s1 _ ((rr.mono e1).set (x := .v (.int _)) rfl i)⟩
      · cases hw
    · cases hf
  · cases hf
end
end FW

namespace FW
open PySem PySem.Spec PyProof.Rows L2 RZ
section
variable {K : PySem.W.Frag} {mg : PySem.Str → Option Value} {F F' H H' : Hp} {ι ι' : Plc} {S S' : Store} {ρ ρ' : Slots} {σ σ' : L2.St} {D : Addr}
theorem RepL.rev : ∀ {xs : List PV} {vs : List V}, RepL K mg F xs vs → RepL K mg F xs.reverse vs.reverse
  | [], _, r => by cases r; exact rfl
  | x :: xs, _, ⟨v, r, e, a, b⟩ => by
    subst e
    rw [List.reverse_cons, List.reverse_cons]
    exact (RepL.rev b).app (RepL.one a)
theorem RepL.init : ∀ {xs : List PV} {vs : List V}, RepL K mg F xs vs → RepL K mg F xs.dropLast vs.dropLast
  | [], _, r => by cases r; exact rfl
  | [x], _, ⟨v, r, e, a, b⟩ => by subst e; cases b; exact rfl
  | x :: y :: xs, _, ⟨v, r, e, a, b⟩ => by
    subst e
    obtain ⟨w, r', e2, a2, b2⟩ := b
    subst e2
    have := RepL.init (xs := y :: xs) (vs := w :: r') ⟨w, r', rfl, a2, b2⟩
    exact ⟨v, _, rfl, a, this⟩
end
section
variable {X : Cx} {a e : Expr} {pos : Pos} {fa f : VS} {i : Nat} {x : PySem.Str}
theorem fmc {α β : Type} {f g : α → Option β} : ∀ {l : List α}, (∀ a ∈ l, f a = g a) → l.filterMap f = l.filterMap g
  | [], _ => rfl
  | a :: l, h => by rw [List.filterMap_cons, List.filterMap_cons, h a List.mem_cons_self, fmc fun b hb => h b (List.mem_cons_of_mem _ hb)]
theorem evens_get {α : Type} : ∀ (xs : List α), (List.range ((xs.length + 1) / 2)).filterMap (fun j => xs[2 * j]?) = evens xs
  | [] => by simp [evens]
  | [x] => by simp [evens]
  | x :: y :: r => by
    have e : ((x :: y :: r).length + 1) / 2 = (r.length + 1) / 2 + 1 := by simp only [List.length_cons]; omega
    rw [e, List.range_succ_eq_map, List.filterMap_cons]
    show x :: _ = x :: evens r
    rw [← evens_get r, List.filterMap_map]
    congr 1
theorem evens_len {α : Type} : ∀ (xs : List α), (evens xs).length ≤ xs.length
  | [] => Nat.le_refl _
  | [x] => Nat.le_refl _
  | x :: y :: r => by
    have := evens_len r
    simp only [evens, List.length_cons]
    omega
theorem pickS_len {α : Type} (k : Nat) (xs : List α) : (pickS k xs).length ≤ xs.length := by
  unfold pickS
  split
  · exact evens_len xs
  · exact Nat.le_trans (evens_len _) (by rw [List.length_drop]; omega)
  · rw [List.length_reverse, List.length_drop]; omega
theorem evens_rep {K : PySem.W.Frag} {mg : PySem.Str → Option Value} {F : Hp} : ∀ {xs : List PV} {vs : List V}, RepL K mg F xs vs → RepL K mg F (evens xs) (evens vs)
  | [], _, r => by cases r; exact rfl
  | [x], _, ⟨v, r, e, a, b⟩ => by subst e; cases b; exact ⟨v, [], rfl, a, rfl⟩
  | x :: y :: xs, _, ⟨v, r, e, a, b⟩ => by
    subst e
    obtain ⟨w, r', e2, a2, b2⟩ := b
    subst e2
    exact ⟨v, evens r', rfl, a, evens_rep (xs := xs) (vs := r') b2⟩
theorem pickS_rep {K : PySem.W.Frag} {mg : PySem.Str → Option Value} {F : Hp} (k : Nat) {xs : List PV} {vs : List V} (r : RepL K mg F xs vs) : RepL K mg F (pickS k xs) (pickS k vs) := by
  unfold pickS
  split
  · exact evens_rep r
  · exact evens_rep (r.drop 1)
  · exact (r.drop 1).rev
theorem evens_vals : ∀ {xs : List V} {us : List Value}, Vals xs us → Vals (evens xs) (evens us)
  | _, _, .nil => .nil
  | _, _, .cons r .nil => .cons r .nil
  | _, _, .cons r (.cons r2 t) => .cons r (evens_vals t)
theorem vals_drop1 : ∀ {xs : List V} {us : List Value}, Vals xs us → Vals (xs.drop 1) (us.drop 1)
  | _, _, .nil => .nil
  | _, _, .cons r t => t
theorem pickS_vals (k : Nat) {xs : List V} {us : List Value} (r : Vals xs us) : Vals (pickS k xs) (pickS k us) := by
  unfold pickS
  split
  · exact evens_vals r
  · exact evens_vals (vals_drop1 r)
  · exact (vals_drop1 r).reverse
def loS : Nat → Option Int
  | 0 => some 0
  | 1 => some 1
  | _ => none
def hiS : Nat → Option Int
  | 0 => none
  | 1 => none
  | _ => some 0
def stS : Nat → Option Int
  | 0 => some 2
  | 1 => some 2
  | _ => some (-1)
theorem pickS_eq (k : Nat) (xs : List Value) : slicePick xs.toArray (loS k) (hiS k) (stS k) = (pickS k xs).toArray := by
  have pick : ∀ {l : List Nat} {g : Nat → Nat} {n : Nat}, l = (List.range n).map g → l.filterMap (fun i => xs.toArray[i]?) = (List.range n).filterMap fun j => xs[g j]? := fun {l g n} e => by
    rw [e, List.filterMap_map]
    refine fmc fun j _ => ?_
    simp
  unfold slicePick
  match k with
  | 0 =>
    have b : sliceBounds (some 0) none (some 2) xs.toArray.size = (0, (xs.length : Int), 2) := by
      simp [sliceBounds]
      omega
    show ((sliceRange (sliceBounds (some 0) none (some 2) xs.toArray.size).1 _ _).filterMap _).toArray = (evens xs).toArray
    rw [b, ← evens_get xs]
    congr 1
    have e : sliceRange 0 (xs.length : Int) 2 = (List.range ((xs.length + 1) / 2)).map fun j => 2 * j := by
      unfold sliceRange
      have c : (if (2 : Int) > 0 then (if (0 : Int) < (xs.length : Int) then ((xs.length : Int) - 0 + 2 - 1) / 2 else 0) else (if (0 : Int) > (xs.length : Int) then (0 - (xs.length : Int) - 2 - 1) / (-2) else 0)).toNat = (xs.length + 1) / 2 := by
        rw [if_pos (by decide)]
        split <;> omega
      simp only [c]
      refine List.map_congr_left fun j _ => ?_
      omega
    exact pick e
  | 1 =>
    have b : sliceBounds (some 1) none (some 2) xs.toArray.size = (((min 1 xs.length : Nat) : Int), (xs.length : Int), 2) := by
      simp [sliceBounds]
      try omega
    show ((sliceRange (sliceBounds (some 1) none (some 2) xs.toArray.size).1 (sliceBounds (some 1) none (some 2) xs.toArray.size).2.1 (sliceBounds (some 1) none (some 2) xs.toArray.size).2.2).filterMap _).toArray = (evens (xs.drop 1)).toArray
    rw [b, ← evens_get (xs.drop 1)]
    congr 1
    have e : sliceRange ((min 1 xs.length : Nat) : Int) (xs.length : Int) 2 = (List.range (((xs.drop 1).length + 1) / 2)).map fun j => min 1 xs.length + 2 * j := by
      unfold sliceRange
      have c : (if (2 : Int) > 0 then (if ((min 1 xs.length : Nat) : Int) < (xs.length : Int) then ((xs.length : Int) - ((min 1 xs.length : Nat) : Int) + 2 - 1) / 2 else 0) else (if ((min 1 xs.length : Nat) : Int) > (xs.length : Int) then (((min 1 xs.length : Nat) : Int) - (xs.length : Int) - 2 - 1) / (-2) else 0)).toNat = ((xs.drop 1).length + 1) / 2 := by
        rw [if_pos (by decide), List.length_drop]
        split <;> omega
      simp only [c]
      refine List.map_congr_left fun j _ => ?_
      omega
    rw [pick e]
    refine fmc fun j hj => ?_
    have := List.mem_range.mp hj
    rw [List.length_drop] at this
    rw [List.getElem?_drop]
    congr 1
    omega
  | k + 2 =>
    have b : sliceBounds none (some 0) (some (-1)) xs.toArray.size = ((xs.length : Int) - 1, max (-1) (min 0 ((xs.length : Int) - 1)), -1) := by
      simp [sliceBounds]
    show ((sliceRange (sliceBounds none (some 0) (some (-1)) xs.toArray.size).1 (sliceBounds none (some 0) (some (-1)) xs.toArray.size).2.1 (sliceBounds none (some 0) (some (-1)) xs.toArray.size).2.2).filterMap _).toArray = ((xs.drop 1).reverse).toArray
    rw [b]
    congr 1
    have e : sliceRange ((xs.length : Int) - 1) (max (-1) (min 0 ((xs.length : Int) - 1))) (-1) = (List.range (xs.length - 1)).map fun j => xs.length - 1 - j := by
      unfold sliceRange
      have c : (if (-1 : Int) > 0 then (if (xs.length : Int) - 1 < max (-1) (min 0 ((xs.length : Int) - 1)) then (max (-1) (min 0 ((xs.length : Int) - 1)) - ((xs.length : Int) - 1) + -1 - 1) / -1 else 0) else (if (xs.length : Int) - 1 > max (-1) (min 0 ((xs.length : Int) - 1)) then ((xs.length : Int) - 1 - max (-1) (min 0 ((xs.length : Int) - 1)) - -1 - 1) / (- -1) else 0)).toNat = xs.length - 1 := by
        rw [if_neg (by decide)]
        rw [show (- -1 : Int) = 1 by decide, Int.ediv_one]
        split <;> omega
      simp only [c]
      refine List.map_congr_left fun j hj => ?_
      have := List.mem_range.mp hj
      omega
    rw [pick e]
    refine List.ext_getElem? fun i => ?_
    have fm : ∀ (n : Nat) (g : Nat → Nat), (∀ j, j < n → g j < xs.length) → (List.range n).filterMap (fun j => xs[g j]?) = (List.range n).map fun j => xs.getD (g j) default := fun n g hg => by
      rw [← List.filterMap_eq_map]
      refine fmc fun j hj => ?_
      have := hg j (List.mem_range.mp hj)
      simp [this]
    rw [fm _ _ fun j hj => by omega]
    by_cases hi : i < xs.length - 1
    · rw [List.getElem?_map, List.getElem?_range hi, List.getElem?_reverse (by rw [List.length_drop]; omega), List.getElem?_drop, List.length_drop]
      show some (xs.getD (xs.length - 1 - i) default) = _
      have h2 : 1 + (xs.length - 1 - 1 - i) = xs.length - 1 - i := by omega
      rw [h2, List.getElem?_eq_getElem (by omega), List.getD_eq_getElem?_getD, List.getElem?_eq_getElem (by omega)]
      rfl
    · rw [List.getElem?_eq_none (by simp; omega), List.getElem?_eq_none (by simp; omega)]
def tSlS (K : PySem.W.Frag) (k : Nat) (te : TE) : TE := fun σ H Q => te σ H fun x H1 => ∃ a xs, x = .ref a ∧ SqL K H1 a xs ∧ ∀ p, H1 p = none → Q (.ref p) (upd H1 p (.lst (pickS k xs)))
inductive PartsS : Nat → Option Expr → Option Expr → Expr → Prop
  | a {k1 k2 p1 p2} : PartsS 0 (some (.Constant (.int 0) k1 p1)) none (.Constant (.int 2) k2 p2)
  | b {k1 k2 p1 p2} : PartsS 1 (some (.Constant (.int 1) k1 p1)) none (.Constant (.int 2) k2 p2)
  | c {k1 k2 p1 p2 p3} : PartsS 2 none (some (.Constant (.int 0) k1 p1)) (.UnaryOp .USub (.Constant (.int 1) k2 p2) p3)
theorem pe_slS {k : Nat} {lo hi : Option Expr} {st : Expr} {p3 : Pos} {te : TE} (hp : PartsS k lo hi st) (he : PE X a te) : PE X (.Subscript a (.Slice lo hi (some st) p3) pos) (tSlS X.K k te) := by
  have key : ∀ (l u s' : Option Int), l = loS k → u = hiS k → s' = stS k → (∃ t, PO X lo t ∧ ∀ σ H (Q : Option Int → Hp → Prop), Q l H → t σ H Q) → (∃ t, PO X hi t ∧ ∀ σ H (Q : Option Int → Hp → Prop), Q u H → t σ H Q) → (∃ t, PO X (some st) t ∧ ∀ σ H (Q : Option Int → Hp → Prop), Q s' H → t σ H Q) → (subscripted (.Slice lo hi (some st) p3) false = fun v u => operate [v, u] (getItem v u)) → PE X (.Subscript a (.Slice lo hi (some st) p3) pos) (tSlS X.K k te) := by
    intro l u s' el eu es ⟨t1, P1, q1⟩ ⟨t2, P2, q2⟩ ⟨t3, P3, q3⟩ hsub
    subst el eu es
    refine ⟨fun pins s σ H Q I h => ?_⟩
    refine Subscript_ (thn (he.run pins s σ H _ I h) fun v s1 ⟨x, H1, I1, r1, qq⟩ => ?_)
    obtain ⟨b, xs, ex, hx, q⟩ := qq
    subst ex
    cases r1
    refine wpAny_Slice (thn (P1.run pins s1 σ H1 (fun o H2 => o = loS k ∧ H2 = H1) I1 (q1 _ _ _ ⟨rfl, rfl⟩)) fun vl s2 ⟨l, H2, I2, pl, el, e2⟩ => ?_)
    subst el e2
    refine thn (P2.run pins s2 σ H2 (fun o H3 => o = hiS k ∧ H3 = H2) I2 (q2 _ _ _ ⟨rfl, rfl⟩)) fun vu s3 ⟨u, H3, I3, pu, eu, e3⟩ => ?_
    subst eu e3
    refine thn (P3.run pins s3 σ H3 (fun o H4 => o = stS k ∧ H4 = H3) I3 (q3 _ _ _ ⟨rfl, rfl⟩)) fun vs s4 ⟨o, H4, I4, ps, eo, e4⟩ => ?_
    subst eo e4
    have I5 : Inv X pins σ H4 { s4 with heap := s4.heap.push { cls := .type "slice", data := .fields #[vl, vu, vs] } } := I4.kept (t' := s4.toks) fun b ob q => Heap.get?_push_of_some _ q
    obtain ⟨its, r, ht, hz⟩ := I5.list hx
    have hlen := r.length
    have h0 : stS k ≠ some 0 := by
      match k with
      | 0 => decide
      | 1 => decide
      | k + 2 => show (some (-1) : Option Int) ≠ some 0; decide
    show wpAny (model X.prog X.w) X.A (subscriptTail a (.Slice lo hi (some st) p3) (.ref b) (.ref s4.heap.objs.size)) (EP X pins σ Q) X.xe { s4 with heap := s4.heap.push { cls := .type "slice", data := .fields #[vl, vu, vs] } }
    refine tail_any (ops := [.ref b, .ref s4.heap.objs.size]) ht.isList.typeIs (PySem.slot_list_getitem.lookup) ?_ (by rw [hsub])
    refine wpAny_getItem_list_slice ht.isList (Heap.IsSliceOf.new _ vl vu vs) pl pu ps h0 ?_ (by rw [List.size_toArray]; omega)
    rw [pickS_eq]
    refine ⟨.ref _, _, I5.laid (t' := s4.toks) (o := .lst (pickS k xs)) (fun b ob q => Heap.get?_push_of_some _ q) (Nat.le_refl _) ?_, rfl, q _ (I5.hok.fresh (Nat.le_refl _))⟩
    exact ⟨Nat.le_trans (pickS_len k xs) hz, _, 0, pickS_vals k r, Heap.get?_push_size _ rfl⟩
  have ci : ∀ {i : Int} {j : Nat} {p : Pos}, ∃ t, PO X (some (.Constant (.int i) j p)) t ∧ ∀ σ H (Q : Option Int → Hp → Prop), Q (some i) H → t σ H Q := fun {i j p} => ⟨_, po_some (pe_int (i := i)), fun σ H Q h => ⟨_, rfl, h⟩⟩
  have cn : ∃ t, PO X none t ∧ ∀ σ H (Q : Option Int → Hp → Prop), Q none H → t σ H Q := ⟨_, po_none, fun σ H Q h => h⟩
  cases hp with
  | a => exact key (some 0) none (some 2) rfl rfl rfl ci cn ci rfl
  | b => exact key (some 1) none (some 2) rfl rfl rfl ci cn ci rfl
  | c => exact key none (some 0) (some (-1)) rfl rfl rfl cn ci ⟨_, po_some (pe_un un_neg pe_int), fun σ H Q h => ⟨1, rfl, -1, rfl, h⟩⟩ rfl
theorem s_slS {m : Bool} {k : Nat} {lo hi : Option Expr} {st : Expr} {p3 : Pos} (hp : PartsS k lo hi st) (ha : PE X a (rdE X.K X.mg fa)) : PE X (.Subscript a (.Slice lo hi (some st) p3) pos) (rdE X.K X.mg (sSlcS m k fa)) := by
  refine pe_ofV (pe_slS hp ha) fun ι F S ρ y S' σ H Q sim r hf q => ?_
  obtain ⟨x, S1, h1, hf⟩ := bind_ok hf
  refine ⟨ι, F, S, ρ, x, S1, sim, r, h1, fun ι1 F1 v H1 e1 s1 r1 => ?_⟩
  unfold bSlcS at hf
  split at hf
  · rename_i xs hx
    obtain ⟨p, vs, rfl, l, hq⟩ := s1.seq r1 hx
    simp only [if_true] at hq
    obtain ⟨_, go⟩ := fin_mkL s1 (pickS_rep k l) hf fun ι2 F2 u H2 e2 s2 r2 => q _ _ _ _ (e1.trans e2) s2 r2
    exact ⟨p, vs, rfl, .inl hq, go⟩
  · cases hf
theorem applied_rev {prog : Program} {w : World} {A : Around} {E : Value → Shared → Prop} {s : Shared} {sl : Addr} {vl vu vs : Value} {n : Nat} {Q : Int × Int × Nat → Shared → Prop} (hs : s.heap.IsSliceOf sl vl vu vs) (pl : IsPart vl none) (pu : IsPart vu none) (ps : IsPart vs (some (-1)))
    (h : Q ((n : Int) - 1, -1, n) s) : wpAny (model prog w) A (Builtin.Slice.sliceApplied (.ref sl) (pure (n : Int))) Q E s := by
  obtain ⟨os, hos, hcs, hds⟩ := id hs
  unfold Builtin.Slice.sliceApplied Builtin.Slice.sliceFields
  refine wpAny_bind (wpAny_bind (wpAny_field hos hds (x := vl) rfl (wpAny_bind (wpAny_field hos hds (x := vu) rfl (wpAny_bind (wpAny_field hos hds (x := vs) rfl (wpAny_pure ?_)))))))
  refine wpAny_bind (HT.slicePart_ ps ?_)
  show wpAny _ _ (if ((-1 : Int) == 0) = true then _ else _) _ _ s
  rw [if_neg (by decide)]
  refine wpAny_bind (HT.slicePart_ pl (wpAny_bind (HT.slicePart_ pu (wpAny_bind (wpAny_pure ?_)))))
  show wpAny _ _ (match Builtin.Slice.sliceAdjust none none (-1) (n : Int) with | (lo, hi) => pure (lo, (-1 : Int), Builtin.Slice.slicePlaces lo hi (-1))) _ _ s
  have e : Builtin.Slice.sliceAdjust none none (-1) (n : Int) = ((n : Int) - 1, -1) := rfl
  rw [e]
  have e2 : Builtin.Slice.slicePlaces ((n : Int) - 1) (-1) (-1) = n := by
    unfold Builtin.Slice.slicePlaces
    rw [if_neg (by decide)]
    rw [show (- -1 : Int) = 1 by decide, Int.ediv_one]
    split <;> omega
  show wpAny _ _ (pure ((n : Int) - 1, (-1 : Int), Builtin.Slice.slicePlaces ((n : Int) - 1) (-1) (-1))) _ _ s
  rw [e2]
  exact wpAny_pure h
theorem pick_rev (xs : Array Value) : ((List.range xs.size).filterMap fun (m : Nat) => xs[(((xs.size : Int) - 1) + (m : Int) * (-1)).toNat]?).toArray = xs.toList.reverse.toArray := by
  congr 1
  refine List.ext_getElem? fun i => ?_
  have e : (List.range xs.size).filterMap (fun (m : Nat) => xs[(((xs.size : Int) - 1) + (m : Int) * (-1)).toNat]?) = (List.range xs.size).map fun m => xs.toList.getD (xs.size - 1 - m) default := by
    rw [← List.filterMap_eq_map]
    refine fmc fun m hm => ?_
    have := List.mem_range.mp hm
    have h2 : (((xs.size : Int) - 1) + (m : Int) * (-1)).toNat = xs.size - 1 - m := by omega
    rw [h2, Array.getElem?_eq_getElem (by omega)]
    show _ = some (xs.toList.getD (xs.size - 1 - m) default)
    rw [List.getD_eq_getElem?_getD, List.getElem?_eq_getElem (by rw [Array.length_toList]; omega)]
    rfl
  rw [e]
  by_cases hi : i < xs.size
  · rw [List.getElem?_map, List.getElem?_range hi, List.getElem?_reverse (by rw [Array.length_toList]; exact hi), Array.length_toList, List.getElem?_eq_getElem (by rw [Array.length_toList]; omega)]
    show some (xs.toList.getD (xs.size - 1 - i) default) = _
    rw [List.getD_eq_getElem?_getD, List.getElem?_eq_getElem (by rw [Array.length_toList]; omega)]
    rfl
  · rw [List.getElem?_eq_none (by simpa using hi), List.getElem?_eq_none (by rw [List.length_reverse, Array.length_toList]; omega)]
theorem getItem_tuple_rev {prog : Program} {w : World} {A : Around} {E : Value → Shared → Prop} {s : Shared} {t sl : Addr} {items : Array Value} {vl vu vs : Value} {Q : Value → Shared → Prop} (ht : IsTup s.heap t items) (hs : s.heap.IsSliceOf sl vl vu vs) (pl : IsPart vl none) (pu : IsPart vu none) (ps : IsPart vs (some (-1)))
    (h : Q (.ref s.heap.objs.size) { s with heap := s.heap.push { cls := .type "tuple", data := .seq items.toList.reverse.toArray } })
    (hsz : items.size ≤ sizeLine) : wpAny (model prog w) A (getItem (.ref t) (.ref sl)) Q E s := by
  have htake : sizeOk (.seq items.toList.reverse.toArray) := by
    show items.toList.reverse.toArray.size ≤ sizeLine
    rw [List.size_toArray, List.length_reverse, Array.length_toList]
    exact hsz
  obtain ⟨os, hos, hcs, hds⟩ := id hs
  have hTs : s.TypeIs (.ref sl) "slice" := ⟨os, hos, hcs⟩
  unfold getItem
  try with_reducible refine wpAny_holding ?_
  first | refine wpAny_bind (wpAny_pure ?_) | skip
  refine wpAny_bind (wpAny_sequenceKey ht.typeIs (by decide) ?_)
  refine wpAny_bind (wpAny_callSpecial?_slot (name := PySem.Str.ofString "__getitem__") ht.typeIs PyProof.Rows.slot_tuple_getitem
    (wpAny_call_entry PyProof.Rows.slot_tuple_getitem ht.typeIs entry_tuple_getitem ?_ (args_tuple_getitem _ _)))
  show wpAny _ _ (Builtin.Tuple.tupleItemsOf (.ref t) >>= _) _ _ s
  refine wpAny_bind (tupleItemsOf_ ht ?_)
  refine wpAny_bind (wpAny_typeOf hTs ?_)
  rw [if_pos (by decide)]
  refine wpAny_bind (applied_rev hs pl pu ps ?_)
  have hno : ¬ ((((items.size : Int) - 1) == 0 && (-1 : Int) == 1 && items.size == items.size) = true) := by
    intro q
    rw [Bool.and_eq_true, Bool.and_eq_true] at q
    exact absurd q.1.2 (by decide)
  show wpAny _ _ (if (((items.size : Int) - 1) == 0 && (-1 : Int) == 1 && items.size == items.size) = true then _ else _) _ _ s
  rw [if_neg hno, pick_rev]
  first
    | exact wpAny_bind (m := Builtin.Tuple.tupleExact _) (wpAny_newObj_type (wpAny_pure ⟨_, rfl, wpAny_pure h⟩) htake)
    | exact wpAny_bind (m := Builtin.Tuple.tupleExact _) (wpAny_newObj_type (wpAny_bind (wpAny_pure (wpAny_pure ⟨_, rfl, wpAny_pure h⟩))) htake)
    | exact wpAny_bind (wpAny_bind (m := Builtin.Tuple.tupleExact _) (wpAny_newObj_type (wpAny_pure (wpAny_pure ⟨_, rfl, wpAny_pure h⟩)) htake))
    | exact wpAny_bind (wpAny_bind (m := Builtin.Tuple.tupleExact _) (wpAny_newObj_type (wpAny_pure ⟨_, rfl, wpAny_pure h⟩) htake))
def tRev2 (K : PySem.W.Frag) (te : TE) : TE := fun σ H Q => te σ H fun x H1 => (∃ a xs, x = .ref a ∧ SqL K H1 a xs ∧ ∀ p, H1 p = none → Q (.ref p) (upd H1 p (.lst xs.reverse))) ∨ (∃ a xs, x = .ref a ∧ SqT K H1 a xs ∧ ∀ p, H1 p = none → Q (.ref p) (upd H1 p (.tup xs.reverse)))
theorem pe_rev2 {e : Expr} {te : TE} {k : Nat} {p1 p2 p3 pos : Pos} (he : PE X e te) : PE X (.Subscript e (.Slice none none (some (.UnaryOp .USub (.Constant (.int 1) k p1) p2)) p3) pos) (tRev2 X.K te) := by
  refine ⟨fun pins s σ H Q I h => ?_⟩
  refine Subscript_ (thn (he.run pins s σ H _ I h) fun v s1 ⟨x, H1, I1, r1, q1⟩ => ?_)
  have hst : PO X (some (.UnaryOp .USub (.Constant (.int 1) k p1) p2)) (tPart (tUn (rU fun i => .int (-i)) (tC (.int 1)))) := po_some (pe_un un_neg pe_int)
  refine wpAny_Slice (thn (po_none.run pins s1 σ H1 (fun o H2 => o = none ∧ H2 = H1) I1 ⟨rfl, rfl⟩) fun vl s2 ⟨l, H2, I2, pl, el, e2⟩ => ?_)
  subst el e2
  refine thn (po_none.run pins s2 σ H2 (fun o H3 => o = none ∧ H3 = H2) I2 ⟨rfl, rfl⟩) fun vu s3 ⟨u, H3, I3, pu, eu, e3⟩ => ?_
  subst eu e3
  refine thn (hst.run pins s3 σ H3 (fun o H4 => o = some (-1) ∧ H4 = H3) I3 ⟨1, rfl, -1, rfl, rfl, rfl⟩) fun vs s4 ⟨o, H4, I4, ps, eo, e4⟩ => ?_
  subst eo e4
  have I5 : Inv X pins σ H4 { s4 with heap := s4.heap.push { cls := .type "slice", data := .fields #[vl, vu, vs] } } := I4.kept (t' := s4.toks) fun b ob q => Heap.get?_push_of_some _ q
  rcases q1 with ⟨a, xs, ex, hx, q⟩ | ⟨a, xs, ex, hx, q⟩
  · subst ex
    cases r1
    obtain ⟨its, r, ht, hz⟩ := I5.list hx
    have hlen := r.length
    show wpAny (model X.prog X.w) X.A (subscriptTail e (.Slice none none (some (.UnaryOp .USub (.Constant (.int 1) k p1) p2)) p3) (.ref a) (.ref s4.heap.objs.size)) (EP X pins σ Q) X.xe { s4 with heap := s4.heap.push { cls := .type "slice", data := .fields #[vl, vu, vs] } }
    refine tail_any (ops := [.ref a, .ref s4.heap.objs.size]) ht.isList.typeIs (PySem.slot_list_getitem.lookup) ?_ (by with_unfolding_all rfl)
    refine wpAny_getItem_list_slice ht.isList (Heap.IsSliceOf.new _ vl vu vs) pl pu ps (by decide) ?_ (by rw [List.size_toArray]; omega)
    rw [PySem.W.krv_pick]
    refine ⟨.ref _, _, I5.laid (t' := s4.toks) (o := .lst xs.reverse) (fun b ob q => Heap.get?_push_of_some _ q) (Nat.le_refl _) ?_, rfl, q _ (I5.hok.fresh (Nat.le_refl _))⟩
    exact ⟨by rw [List.length_reverse]; exact hz, _, 0, r.reverse, Heap.get?_push_size _ rfl⟩
  · subst ex
    cases r1
    obtain ⟨its, r, ht, hz⟩ := I5.tuple hx
    have hlen := r.length
    show wpAny (model X.prog X.w) X.A (subscriptTail e (.Slice none none (some (.UnaryOp .USub (.Constant (.int 1) k p1) p2)) p3) (.ref a) (.ref s4.heap.objs.size)) (EP X pins σ Q) X.xe { s4 with heap := s4.heap.push { cls := .type "slice", data := .fields #[vl, vu, vs] } }
    refine tail_any (ops := [.ref a, .ref s4.heap.objs.size]) ht.typeIs (PyProof.Rows.slot_tuple_getitem.lookup) ?_ (by with_unfolding_all rfl)
    refine getItem_tuple_rev ht (Heap.IsSliceOf.new _ vl vu vs) pl pu ps ?_ (by rw [List.size_toArray]; omega)
    refine ⟨.ref _, _, I5.laid (t' := s4.toks) (o := .tup xs.reverse) (fun b ob q => Heap.get?_push_of_some _ q) (Nat.le_refl _) ?_, rfl, q _ (I5.hok.fresh (Nat.le_refl _))⟩
    exact ⟨by rw [List.length_reverse]; exact hz, _, r.reverse, IsTup.new _ _⟩
theorem s_rev {m : Bool} {k : Nat} {p1 p2 p3 : Pos} (ha : PE X a (rdE X.K X.mg fa)) : PE X (.Subscript a (.Slice none none (some (.UnaryOp .USub (.Constant (.int 1) k p1) p2)) p3) pos) (rdE X.K X.mg (sRev m fa)) := by
  refine pe_ofV (pe_rev2 ha) fun ι F S ρ y S' σ H Q sim r hf q => ?_
  obtain ⟨x, S1, h1, hf⟩ := bind_ok hf
  refine ⟨ι, F, S, ρ, x, S1, sim, r, h1, fun ι1 F1 v H1 e1 s1 r1 => ?_⟩
  unfold bRev at hf
  split at hf
  · rename_i xs hx
    obtain ⟨p, vs, rfl, l, hq⟩ := s1.seq r1 hx
    simp only [if_true] at hq
    obtain ⟨_, go⟩ := fin_mkL s1 l.rev hf fun ι2 F2 u H2 e2 s2 r2 => q _ _ _ _ (e1.trans e2) s2 r2
    exact .inl ⟨p, vs, rfl, .inl hq, go⟩
  · rename_i xs hx
    obtain ⟨p, vs, rfl, l, hq⟩ := s1.seq r1 hx
    simp only [Bool.false_eq_true, if_false] at hq
    obtain ⟨_, go, _⟩ := fin_mkT s1 l.rev hf fun ι2 F2 u H2 e2 s2 r2 => q _ _ _ _ (e1.trans e2) s2 r2
    exact .inr ⟨p, vs, rfl, hq, go⟩
  · cases hf
theorem s_pop {p apos cpos : Pos} (hi : X.N[i]? = some x) (hv : Vis X.env.scope x) (hd : (x == ("__debug__" : PySem.Str)) = false) (hcd : (x == ("__classdict__" : PySem.Str)) = false) (hline : (apos.endLine == cpos.line) = true) :
    PS X (.Expr (.Call (.Attribute (.Name x p) "pop" apos) [] [] cpos) pos) (rdS X.K X.mg (sPop i)) := by
  refine ps_mono (ps_expr (pe_bm0 F.plainAttrs_list F.slot_list_pop F.type_list_pop mt_pop (pe_var hi hv hd hcd) rfl hline) rfl) fun D σ H h => ?_
  obtain ⟨ι, F, S, ρ, r, S', sim, rr, hf, q⟩ := h
  unfold sPop at hf
  split at hf
  · rename_i n hn
    split at hf
    · rename_i xs hS
      split at hf
      · cases hf
      · rename_i hne
        cases hf
        obtain ⟨v, g1, g2⟩ := rr.get hn
        refine ⟨v, g1, ?_⟩
        obtain ⟨pp, vs, rfl, hp, hF, hH, l⟩ := sim.lstAt g2 hS
        refine ⟨.inl ⟨rfl, vs, .inl (.inl hH)⟩, ?_⟩
        have hl : 0 < vs.length := by
          rw [← l.length]
          cases xs with
          | nil => simp at hne
          | cons x xs => simp
        refine ⟨pp, vs, vs[vs.length - 1], rfl, rfl, hH, List.getElem?_eq_getElem (by omega), ?_⟩
        exact q _ _ _ Ext.refl (sim.write hp hF ⟨hF, _, rfl, l.init⟩) _ rr
    · cases hf
  · cases hf
def rGet (K : PySem.W.Frag) (o i : V) (H : Hp) (Q : VK) : Prop := (∃ p xs k v, o = .ref p ∧ i = .int k ∧ SqL K H p xs ∧ atI xs k = some v ∧ Q v H) ∨ (∃ p v, o = .ref p ∧ DGet H p i (some v) ∧ Q v H)
theorem get_any (hu : X.A.units + 1 < cLine) : PGet X (rGet X.K) := by
  intro pins s σ H o i ov iv Q I ro ri h
  rcases h with ⟨p, xs, k, z, rfl, rfl, hq, he, q⟩ | ⟨p, v, rfl, g, q⟩
  · cases ro
    obtain ⟨t, rfl⟩ := ri
    obtain ⟨its, r, pl, hz⟩ := I.list hq
    obtain ⟨j, h1, h2, h3, h4, h5⟩ := atI_get he
    obtain ⟨w, ew, rw'⟩ := r.get h2
    have hl := r.length
    have hn := line63
    have fin : EP X pins σ Q w s := ⟨z, H, I, rw', q⟩
    by_cases h0 : 0 ≤ k
    · have hj : k.toNat = j := by
        rw [seqIndex_of h0 h5] at h1
        exact Option.some.inj h1
      exact wpAny_getItem_list pl.isList h0 (by omega) (by rw [hj]; simpa using ew) fin
    · have hj : (k + (its.toArray.size : Int)).toNat = j := by
        rw [seqIndex_neg (by omega) h4] at h1
        rw [List.size_toArray, ← hl]
        exact Option.some.inj h1
      exact wpAny_getItem_list_neg pl.isList (by omega) (by rw [List.size_toArray] <;> omega) (by omega) (by rw [hj]; simpa using ew) fin
  · cases ro
    exact d_getItem hu I g ri fun w' s' I' rw' => ⟨v, H, I', rw', q⟩
theorem get_ok {K : PySem.W.Frag} {mg : PySem.Str → Option Value} {F : Hp} {ι : Plc} {S : Store} {o y : SV} {vo vy : V} {H : Hp} {Q : VK} {z : PV} (sim : Sim K mg ι F S H) (ro : RepS K mg F ι o vo) (ry : RepS K mg F ι y vy) (h : oldOf o y S = some z) (hl : ∀ t xs, seqOf S o = some (t, xs) → t = true)
    (q : ∀ v, Rep K mg F z v → Q v H) : rGet K vo vy H Q := by
  unfold oldOf at h
  split at h
  · rename_i w S1 hi
    cases h
    unfold idxOp at hi
    split at hi
    · rename_i k
      split at hi
      · rename_i t xs hs
        obtain rfl := hl t xs hs
        split at hi
        · rename_i j
          split at hi
          · rename_i n hn
            split at hi
            · rename_i z' hz
              cases hi
              obtain ⟨p, vs, rfl, l, hq⟩ := sim.seq ro hs
              simp only [if_true] at hq
              obtain ⟨v, h1, h2⟩ := ix_at l hn hz
              cases ry
              exact .inl ⟨p, vs, j, v, rfl, rfl, .inl hq, h1, q v h2⟩
            · cases hi
          · cases hi
        · cases hi
      · split at hi
        · rename_i kvs hk
          split at hi
          · rename_i hok
            split at hi
            · rename_i z' hz
              cases hi
              obtain ⟨p, ws, rfl, hH, rd⟩ := sim.dicR ro hk
              obtain ⟨key, rfl⟩ := keyOk_some hok
              have hw := keyP_rep (show Rep K mg F (keyP key) vy from ry)
              subst hw
              have hg := rd.get key
              rw [hz] at hg
              obtain ⟨v', i1, i2⟩ := hg
              exact .inr ⟨p, v', rfl, by rw [← i1]; exact DGet_R hH, q v' i2⟩
            · cases hi
          · cases hi
        · cases hi
    · cases hi
  · cases h
theorem aug_ok {o : BOp} {z : SV} {old : PV} {w : SV} {K : PySem.W.Frag} {mg : PySem.Str → Option Value} {F : Hp} {ι : Plc} {v u : V} (h : augOp o (.v old) z = some w) (r1 : Rep K mg F old v) (r2 : RepS K mg F ι z u) :
    ∃ i j, v = .int i ∧ u = .int j ∧ ((o = .add ∧ w = .v (.int (i + j))) ∨ (o = .sub ∧ w = .v (.int (i - j)))) := by
  unfold augOp at h
  split at h
  · rename_i x y i j hx
    cases hx
    cases r1
    cases r2
    split at h
    · cases h; exact ⟨_, _, rfl, rfl, .inl ⟨rfl, rfl⟩⟩
    · cases h; exact ⟨_, _, rfl, rfl, .inr ⟨rfl, rfl⟩⟩
    · cases h
  · cases h
theorem s_augsub {op : Operator} {o : BOp} {p tpos : Pos} (hu : X.A.units + 1 < cLine) (hi : X.N[i]? = some x) (hv : Vis X.env.scope x) (hd : (x == ("__debug__" : PySem.Str)) = false) (hcd : (x == ("__classdict__" : PySem.Str)) = false) (ha : PE X a (rdE X.K X.mg fa)) (hp : plainIx a = true) (he : PE X e (rdE X.K X.mg f))
    (ho : (op = .Add ∧ o = .add) ∨ (op = .Sub ∧ o = .sub)) :
    PS X (.AugAssign (.Subscript (.Name x p) a tpos) op e pos) (rdS X.K X.mg (sAugsub i fa o f)) := by
  have hst : ∀ ov iv new, augStore a ov iv new = (do holding [new, ov, iv] (setItem ov iv new); release [new, ov, iv] []; pure .next) := by
    intro ov iv new
    cases a <;> first | rfl | simp [plainIx] at hp
  have core : ∀ {tip : TIp}, PIp X op tip → (∀ i j : Int, ∀ H (Q : VK), Q (.int (if o = .add then i + j else i - j)) H → tip (.int i) (.int j) H Q) → PS X (.AugAssign (.Subscript (.Name x p) a tpos) op e pos) (rdS X.K X.mg (sAugsub i fa o f)) := fun {tip} hip htip => by
    refine ps_mono (ps_augS (pe_var hi hv hd hcd) ha (get_any hu) he hip (set_or set_list (set_dict hu)) hst) fun D σ H h => ?_
    obtain ⟨ι, F, S, ρ, r, S', sim, rr, hf, q⟩ := h
    unfold sAugsub at hf
    split at hf
    · rename_i ob hob
      obtain ⟨y, S1, h1, hf⟩ := bind_ok hf
      split at hf
      · rename_i old hold
        obtain ⟨z, S2, h2, hf⟩ := bind_ok hf
        split at hf
        · rename_i S3 hput
          cases hf
          obtain ⟨v, g1, g2⟩ := rr.get hob
          refine ⟨v, g1, ι, F, S, ρ, y, S1, sim, rr, h1, fun ι1 F1 vy H1 e1 s1 r1 => ?_⟩
          have hput' := hput
          unfold augsubOp at hput'
          split at hput'
          · rename_i w hw
            refine get_ok s1 (g2.mono e1) r1 hold (fun t xs hs => ?_) fun vold rold => ?_
            · -- what is written to is a place
              unfold putOp at hput'
              split at hput'
              · rename_i n _ _
                simp only [seqOf] at hs
                split at hs
                · cases hs; rfl
                · cases hs
              · cases hput'
            · refine ⟨ι1, F1, S1, ρ, z, S2, s1, rr.mono e1, h2, fun ι2 F2 u H2 e2 s2 r2 => ?_⟩
              obtain ⟨i', j', rfl, rfl, hw'⟩ := aug_ok hw (rold.mono e2.2) r2
              refine htip _ _ _ _ ?_
              refine put_ok s2 (g2.mono (e1.trans e2)) (r1.mono e2) (x := w) ?_ hput' fun H' s3 => q _ _ _ (e1.trans e2) s3 _ (rr.mono (e1.trans e2))
              rcases hw' with ⟨rfl, rfl⟩ | ⟨rfl, rfl⟩
              · exact rfl
              · exact rfl
          · cases hput'
        · cases hf
      · cases hf
    · cases hf
  rcases ho with ⟨rfl, rfl⟩ | ⟨rfl, rfl⟩
  · exact core ip_add fun i j H Q h => ⟨i, j, rfl, rfl, h⟩
  · exact core ip_sub fun i j H Q h => ⟨i, j, rfl, rfl, h⟩
end
def Plc.onO (ι : Plc) (D : Addr) (o : HO) : Plc := ⟨ι.l, upd ι.w D o⟩
section
variable {K : PySem.W.Frag} {mg : PySem.Str → Option Value} {F F' H H' : Hp} {ι ι' : Plc} {S S' : Store} {ρ ρ' : Slots} {σ σ' : L2.St} {D : Addr} {u w : HO}
theorem Sim.enterO (s : Sim K mg ι F S H) {D : Addr} {o : HO} {x : Ob} (hH : H D = some o) (hF : F D = none) (hι : D ∉ ι.l) (hw : ι.w D = none) (r : RepO K mg F x D o) :
    Sim K mg ⟨ι.l ++ [D], ι.w⟩ F (S ++ [x]) H ∧ Ext ι F ⟨ι.l ++ [D], ι.w⟩ F := by
  refine ⟨⟨s.sub, by simp [s.len], ?_, fun a u e => ?_, fun n y e => ?_⟩, ⟨⟨⟨[D], rfl⟩, rfl⟩, Sub.refl⟩⟩
  · show (ι.l ++ [D]).Nodup
    rw [List.nodup_append]
    exact ⟨s.nd, by simp, fun a ha b hb => by simp at hb; subst hb; exact fun z => hι (z ▸ ha)⟩
  · obtain ⟨h1, h2, h3⟩ := s.frm a u e
    have ha : a ≠ D := fun z => by subst z; rw [hw] at e; cases e
    exact ⟨h1, h2, by simp [h3, ha]⟩
  · by_cases hn : n < S.length
    · rw [List.getElem?_append_left hn] at e
      obtain ⟨a, u, h1, h2, h3⟩ := s.at_ n y e
      exact ⟨a, u, by show (ι.l ++ [D])[n]? = _; rw [List.getElem?_append_left (by rw [s.len]; exact hn)]; exact h1, h2, h3⟩
    · have hn2 : n = S.length := by
        have := (List.getElem?_eq_some_iff.mp e).1
        simp at this; omega
      subst hn2
      simp at e; subst e
      exact ⟨D, _, by show (ι.l ++ [D])[S.length]? = _; rw [← s.len]; simp, hH, r⟩
theorem Ext.offO (e : Ext (ι.onO D u) F ι' F') : ∃ ι2, ι' = ι2.onO D u ∧ Ext ι F ι2 F' := by
  obtain ⟨⟨⟨t, e1⟩, e2⟩, e3⟩ := e
  refine ⟨⟨ι'.l, ι.w⟩, ?_, ⟨⟨t, e1⟩, rfl⟩, e3⟩
  cases ι'
  have e2 : _ = _ := e2
  simp only at e2
  subst e2
  rfl
theorem Sim.atO (s : Sim K mg (ι.onO D u) F S H) : H D = some u ∧ F D = none ∧ D ∉ ι.l := s.frm D _ (by show upd ι.w D _ D = _; rw [upd_same])
theorem Sim.offO (s : Sim K mg (ι.onO D u) F S H) (hw : ι.w D = none) : Sim K mg ι F S H := s.forget (w := ι.w) fun a o e => by
  show upd ι.w D _ a = _
  rw [upd_ne (fun z => by subst z; rw [hw] at e; cases e)]
  exact e
theorem Sim.reO (s : Sim K mg (ι.onO D u) F S H) (hw : ι.w D = none) (w : HO) : Sim K mg (ι.onO D w) F S (upd H D w) := by
  obtain ⟨_, h2, h3⟩ := s.atO
  exact ((s.offO hw).drop h2 h3 hw).apart upd_same h2 h3
theorem Sim.newO (s : Sim K mg ι F S H) (h : H D = none) (w : HO) : Sim K mg (ι.onO D w) F S (upd H D w) ∧ ι.w D = none := by
  obtain ⟨h2, h3⟩ := s.fresh h
  have hw : ι.w D = none := by
    cases e : ι.w D with
    | none => rfl
    | some o => rw [(s.frm _ _ e).1] at h; cases h
  exact ⟨(s.drop h2 h3 hw).apart upd_same h2 h3, hw⟩
theorem compD_nil {f : PV → Store → Out (Option (PV × PV))} {S S' : Store} {ys : List (PV × PV)} (h : compD f [] S = .ok ys S') : ys = [] ∧ S' = S := by cases h; exact ⟨rfl, rfl⟩
theorem compD_cons {f : PV → Store → Out (Option (PV × PV))} {x : PV} {xs : List PV} {S S' : Store} {ys : List (PV × PV)} (h : compD f (x :: xs) S = .ok ys S') :
    ∃ o S1 zs, f x S = .ok o S1 ∧ compD f xs S1 = .ok zs S' ∧ ys = (match o with | some y => y :: zs | none => zs) := by
  obtain ⟨o, S1, h1, h⟩ := bind_ok h
  obtain ⟨zs, S2, h2, h⟩ := bind_ok h
  cases h
  exact ⟨o, S1, zs, h1, h2, rfl⟩
theorem keyPut_len (k v : PV) (kvs : List (PV × PV)) : (keyPut k v kvs).length ≤ kvs.length + 1 := by
  unfold keyPut
  split
  · rw [List.length_map]; omega
  · rw [List.length_append]; simp
theorem putAll_len : ∀ (ps kvs : List (PV × PV)), (putAll kvs ps).length ≤ kvs.length + ps.length
  | [], kvs => by simp [putAll]
  | p :: ps, kvs => by
    have h1 := putAll_len ps (keyPut p.1 p.2 kvs)
    have h2 := keyPut_len p.1 p.2 kvs
    show (putAll (keyPut p.1 p.2 kvs) ps).length ≤ _
    rw [List.length_cons]
    omega
theorem putAll_snoc {kvs ps : List (PV × PV)} {y z : PV} : putAll kvs (ps ++ [(y, z)]) = keyPut y z (putAll kvs ps) := by
  unfold putAll
  rw [List.foldl_append]
  rfl
theorem dcomp_core {F1 : Hp} {ι1 : Plc} {S1 S2 : Store} {H1 : Hp} {xs : List PV} {ps : List (PV × PV)} {J : It} {g : PV → Slots → Option Slots} {ts own : List Nat} {c : Slots → Store → Out Bool} {k e : VS} {Qd : Hp → Prop}
    (wp : WalkP K mg F1 xs J) (hts : ∀ t ∈ ts, t ∈ own) (s0 : Sim K mg (ι1.onO D (.dK [])) F1 S1 H1) (hw : ι1.w D = none) (hr : RepR K mg F1 ι1 ρ σ)
    (hc : compD (cTurnD g c k e (wipeS ρ own)) xs S1 = .ok ps S2) (hlen : ps.length ≤ line)
    (hd : ∀ ι F H ws, Ext ι1 F1 ι F → Sim K mg (ι.onO D (.dK ws)) F S2 H → RepD K mg F (putAll [] ps) ws → Qd H) :
    ∃ W : Nat → Nat → Hp → Prop, (∃ m, W 0 m H1) ∧ ∀ i m H, W i m H →
      (J.stop i H ∧ Qd H) ∨ (J.go i H ∧ ∃ Nx : Hp → Prop, (∀ H', Nx H' → ∃ m', m' < m ∧ W (i + 1) m' H') ∧ ∀ x H', J.yld i H x H' → rdG K mg g ts x (L2.wipe σ own) H' fun σ2 H2 => L2.wipe σ2 own = L2.wipe σ own ∧ rdT K mg c σ2 H2 fun b H3 =>
        if b = true then rdE K mg k σ2 H3 fun y H4 => rdE K mg e σ2 H4 fun z H5 => ∃ kvs k, y = kV k ∧ H5 D = some (.dK kvs) ∧ kvs.length < sizeLine ∧ Nx (upd H5 D (.dK (L2.putK kvs k z))) else Nx H3) := by
  refine ⟨fun i m H => m = xs.length - i ∧ i ≤ xs.length ∧ ∃ ι F S done rest ws, Ext ι1 F1 ι F ∧ Sim K mg (ι.onO D (.dK ws)) F S H ∧ RepD K mg F (putAll [] done) ws ∧ compD (cTurnD g c k e (wipeS ρ own)) (xs.drop i) S = .ok rest S2 ∧ done ++ rest = ps,
    ⟨xs.length, by simp, Nat.zero_le _, ι1, F1, S1, [], ps, [], Ext.refl, s0, rfl, hc, rfl⟩, ?_⟩
  rintro i m H ⟨rfl, hi, ι, F, S, done, rest, ws, ex, sim, l, hcl, hdr⟩
  by_cases hlt : i < xs.length
  · have sb1 : Sub F1 H := ex.2.trans sim.sub
    refine .inr ⟨wp.goes i H hlt sb1, _, fun H' p' => ⟨xs.length - (i + 1), by omega, rfl, hlt, p'⟩, fun v H' y => ?_⟩
    obtain ⟨F3, x, e3, s3, hx, rx⟩ := wp.yields i H v H' hlt sb1 y _ _ _ ex.2 sim
    rw [List.drop_eq_getElem_cons hlt] at hcl
    have hx2 : xs[i] = x := by
      have := List.getElem?_eq_getElem hlt
      rw [hx] at this; cases this; rfl
    rw [hx2] at hcl
    obtain ⟨o, S3, zs, k1, k2, k3⟩ := compD_cons hcl
    unfold cTurnD at k1
    split at k1
    · rename_i ρ1 hg
      obtain ⟨t, S4, hct, k1⟩ := bind_ok k1
      have r3 : RepR K mg F3 (ι.onO D (.dK ws)) (wipeS ρ own) (L2.wipe σ own) := ((((hr.wipe2 own).mono ex).reloc (ι' := ι.onO D (.dK ws)) rfl)).mono e3
      refine ⟨ι.onO D (.dK ws), F3, S, wipeS ρ own, x, ρ1, s3, r3, rx, hg, fun ι4 F4 σ4 H4 e4 s4 r4 z4 => ⟨z4.wipe hts, ?_⟩⟩
      refine ⟨ι4, F4, S, ρ1, t, S4, s4, r4, hct, fun ι5 F5 H5 e5 s5 => ?_⟩
      obtain ⟨ι5', rfl, ex5⟩ := (e3.trans (e4.trans e5)).offO
      cases t with
      | false =>
        simp only [Bool.false_eq_true, if_false] at k1 ⊢
        cases k1
        simp only at k3
        subst k3
        exact ⟨ι5', F5, S3, done, rest, ws, ex.trans ex5, s5, l.mono ex5.2, k2, hdr⟩
      | true =>
        simp only [if_true] at k1 ⊢
        obtain ⟨y, S5, hky, k1⟩ := bind_ok k1
        obtain ⟨z, S6, hez, k1⟩ := bind_ok k1
        cases y with
        | l n => cases k1
        | v y =>
        cases z with
        | l n => cases k1
        | v z =>
        replace k1 : (if keyOk y = true then Out.ok (some (y, z)) S6 else Out.bad) = .ok o S3 := k1
        split at k1
        case isFalse => cases k1
        rename_i hok
        cases k1
        simp only at k3
        subst k3
        refine ⟨ι5'.onO D (.dK ws), F5, S4, ρ1, .v y, S5, s5, r4.mono e5, hky, fun ι6 F6 v6 H6 e6 s6 r6 => ?_⟩
        obtain ⟨ι6', rfl, ex6⟩ := e6.offO
        refine ⟨ι6'.onO D (.dK ws), F6, S5, ρ1, .v z, S3, s6, (r4.mono e5).mono e6, hez, fun ι7 F7 v7 H7 e7 s7 r7 => ?_⟩
        obtain ⟨ι7', rfl, ex7⟩ := e7.offO
        have hw7 : ι7'.w D = none := by rw [ex7.1.2, ex6.1.2, ex5.1.2, ex.1.2]; exact hw
        obtain ⟨key, rfl⟩ := keyOk_some hok
        have hv6 := keyP_rep (show Rep K mg F6 (keyP key) v6 from r6)
        have exx := ex5.trans (ex6.trans ex7)
        refine ⟨ws, key, hv6, s7.atO.1, ?_, ι7', F7, S3, done ++ [(keyP key, z)], zs, L2.putK ws key v7, ex.trans exx, s7.reO hw7 _, by rw [putAll_snoc]; exact (l.mono exx.2).put r7, k2, by rw [List.append_assoc]; exact hdr⟩
        have h1 := l.length
        have h2 := congrArg List.length hdr
        have h4 := putAll_len done []
        rw [List.length_append] at h2
        simp only [List.length_cons, List.length_nil] at h2 h4
        show ws.length < 16777216
        have h3 : ps.length ≤ 16777216 := hlen
        omega
    · cases k1
  · have hie : i = xs.length := by omega
    subst hie
    rw [List.drop_length] at hcl
    obtain ⟨rfl, rfl⟩ := compD_nil hcl
    rw [List.append_nil] at hdr
    subst hdr
    exact .inl ⟨wp.stops H (ex.2.trans sim.sub), hd ι F H ws ex sim l⟩
theorem dict_end {ps : List (PV × PV)} {z : SV} {Q : VK} {F1 : Hp} {ι1 : Plc} {ws : List (L2.Key × V)} (hm : mkD ps S = .ok z S') (ex : Ext ι1 F1 ι F) (sim : Sim K mg (ι.onO D (.dK ws)) F S H) (hw : ι.w D = none) (l : RepD K mg F (putAll [] ps) ws)
    (q : ∀ ι' F' v H', Ext ι1 F1 ι' F' → Sim K mg ι' F' S' H' → RepS K mg F' ι' z v → Q v H') : Q (.ref D) H := by
  obtain ⟨h1, h2, h3⟩ := sim.atO
  have s := sim.offO hw
  unfold mkD at hm
  split at hm
  · cases hm
    obtain ⟨s1, e1⟩ := s.enterO (x := .dic (putAll [] ps)) h1 h2 h3 hw ⟨h2, ws, rfl, l⟩
    refine q _ _ _ _ (ex.trans e1) s1 ⟨D, ?_, rfl⟩
    show (ι.l ++ [D])[S.length]? = some D
    rw [← s.len]; simp
  · cases hm
theorem mkD_len {ps : List (PV × PV)} {z : SV} (h : mkD ps S = .ok z S') : ps.length ≤ line := by
  unfold mkD at h
  split at h
  · assumption
  · cases h
theorem dc_sound {own ts : List Nat} {g : PV → Slots → Option Slots} {it : IS} {c : Slots → Store → Out Bool} {k e : VS} {σ : L2.St} {H : Hp} {Q : VK} (hts : ∀ t ∈ ts, t ∈ own) (h : rdE K mg (sDcomp own g it c k e) σ H Q) :
    tDc (rdI K mg it) (rdG K mg g ts) (rdT K mg c) (rdE K mg k) (rdE K mg e) own σ H Q := by
  obtain ⟨ι, F, S, ρ, z, S', sim, r, hf, q⟩ := h
  obtain ⟨xs, S1, h1, hf⟩ := bind_ok hf
  obtain ⟨ys, S2, h2, hf⟩ := bind_ok hf
  refine ⟨ι, F, S, ρ, xs, S1, sim, r, h1, fun ι1 F1 H1 J e1 s1 wp => ?_⟩
  intro D hD
  obtain ⟨s2, hw⟩ := s1.newO hD (.dK [])
  exact dcomp_core wp hts s2 hw (r.mono e1) h2 (mkD_len hf) fun ι3 F3 H3 ws ex s3 l3 => dict_end hf (e1.trans ex) s3 (by rw [ex.1.2]; exact hw) l3 q
end
section
variable {X : Cx} {kx vx tg iter : Expr} {ifs : List Expr} {scope : Scope} {own : List (PySem.Str × Nat)} {pos : Pos} {ts1 : List Nat} {g : PV → Slots → Option Slots} {it : IS} {c : Slots → Store → Out Bool} {fk fv : VS}
theorem s_dcomp (hc : X.calm = true) (hN : X.N.Nodup) (ok : BlkOk X.N X.env.scope scope own) (hts : ∀ t ∈ ts1, t ∈ own.map (·.2)) (hi : PI X tg iter (rdI X.K X.mg it))
    (hg : ∀ (s : Shared) (H : Hp) (C : Addr) (cl : List (PySem.Str × Addr)) (fp : List Addr), PG (X.blk s H scope (compEnvC scope cl C X.env) fp) tg (rdG X.K X.mg g ts1)) (ht : ∀ (s : Shared) (H : Hp) (C : Addr) (cl : List (PySem.Str × Addr)) (fp : List Addr), PTs (X.blk s H scope (compEnvC scope cl C X.env) fp) ifs (rdT X.K X.mg c))
    (hk : ∀ (s : Shared) (H : Hp) (C : Addr) (cl : List (PySem.Str × Addr)) (fp : List Addr), PE (X.blk s H scope (compEnvC scope cl C X.env) fp) kx (rdE X.K X.mg fk))
    (he : ∀ (s : Shared) (H : Hp) (C : Addr) (cl : List (PySem.Str × Addr)) (fp : List Addr), PE (X.blk s H scope (compEnvC scope cl C X.env) fp) vx (rdE X.K X.mg fv)) (hs : ∀ x, foldedSetIterable iter X.env x = pure x) :
    PE X (.DictComp kx vx [⟨tg, iter, ifs, 0⟩] scope pos) (rdE X.K X.mg (sDcomp (own.map (·.2)) g it c fk fv)) :=
  pe_mono (pe_dc hc hN hi ok hg ht hk he hs) fun σ H Q h => dc_sound hts h
end
section
variable {X : Cx} {kx vx tg iter : Expr} {ifs : List Expr} {scope : Scope} {own : List (PySem.Str × Nat)} {pos spos py : Pos} {ts1 : List Nat} {g : PV → Slots → Option Slots} {it : IS} {c : Slots → Store → Out Bool} {fk fv : VS} {i : Nat} {y : PySem.Str}
theorem ps_setDc {wi : TI} {g : TG} {tt : TT} {tk tv : TE} (hc : X.calm = true) (hN : X.N.Nodup) (hy : X.N[i]? = some y) (hyl : X.env.scope.names.lookup y = some .local)
    (hsw : swapsWith (.DictComp kx vx [⟨tg, iter, ifs, 0⟩] scope pos) (some (.Name y py)) spos.line X.env = pure true) (hi : PI X tg iter wi) (ok : BlkOk X.N X.env.scope scope own)
    (hg : ∀ (s : Shared) (H : Hp) (C : Addr) (cl : List (PySem.Str × Addr)) (fp : List Addr), PG (X.blk s H scope (compEnvC scope cl C X.env) fp) tg g) (ht : ∀ (s : Shared) (H : Hp) (C : Addr) (cl : List (PySem.Str × Addr)) (fp : List Addr), PTs (X.blk s H scope (compEnvC scope cl C X.env) fp) ifs tt)
    (hk : ∀ (s : Shared) (H : Hp) (C : Addr) (cl : List (PySem.Str × Addr)) (fp : List Addr), PE (X.blk s H scope (compEnvC scope cl C X.env) fp) kx tk)
    (he : ∀ (s : Shared) (H : Hp) (C : Addr) (cl : List (PySem.Str × Addr)) (fp : List Addr), PE (X.blk s H scope (compEnvC scope cl C X.env) fp) vx tv) (hs : ∀ x, foldedSetIterable iter X.env x = pure x) :
    PS X (.Assign [.Name y py] (.DictComp kx vx [⟨tg, iter, ifs, 0⟩] scope pos) spos) (tAsg (tDc wi g tt tk tv (own.map (·.2))) (gName i)) := by
  refine ⟨fun pins s σ H D I h => ?_⟩
  rw [exec_Assign_Name_used _ _ _ _ hsw]
  refine wpAny_bind (wpAny_standAt (wpAny_bind ?_))
  show wpAny _ X.A (do let _ ← comprehension (.DictComp kx vx [⟨tg, iter, ifs, 0⟩] scope pos) scope X.env (firstIterPos [⟨tg, iter, ifs, 0⟩] pos) newDict false (eval iter X.env) (some (assign (.Name y py) X.env))) _ _ s
  have h : tDc wi g tt tk tv (own.map (·.2)) σ H (fun x H1 => gName i x σ H1 D.nx) := h
  refine wpAny_bind (thn (dc_core (Qf := fun _ s' => SP X pins D .next s') hc hN I hi ok hg ht hk he hs h fun L C s' m H' I' q hn f => ?_) fun _ s' hq => wpAny_pure (wpAny_pure hq))
  show wpAny _ _ (assign (.Name y py) X.env (.ref L)) _ _ _
  refine wpAny_assign_Name (store_ok2 (v := V.ref L) I' hN hy (.inl hyl) rfl (fun s2 I2 ⟨a, sb, ha⟩ => ?_) (.inr hyl))
  obtain ⟨f0, f1, f2, f3, f4, f5⟩ := f
  have haC : C ≠ a := by
    rcases ha with z | z
    · rw [z]; exact f1
    · exact fun e => f4 y a z e.symm
  refine ⟨m, hn.sameBut sb haC, fun h3 sb3 => ?_⟩
  exact ⟨_, H', I2.turned (t' := s2.toks) (fun b o hb e => (sb3.2 b hb).trans e) f0 f1 f3 f4 f5, q⟩
theorem sw_trueD {gs : List Comprehension} {l : Nat} {env : Env} (hk : env.scope.kind = .function) (hy : env.scope.names.lookup y = some .local) (hl : (py.line == pos.line) = true)
    (ha : (scope.names.any fun (n, k) => n == y && (k == .local || k == .cell)) = false) : swapsWith (.DictComp kx vx gs scope pos) (some (.Name y py)) l env = pure true := by
  have ky : env.kindOf y = some .local := hy
  have hb : env.blockKind = .function := by unfold Env.blockKind; rw [hk]; rfl
  unfold swapsWith
  simp only [hb, ky, ha, Expr.pos, hl]
  rfl
theorem sw_cellD {gs : List Comprehension} {l : Nat} {env : Env} (hy : env.scope.names.lookup y = some .cell) : swapsWith (.DictComp kx vx gs scope pos) (some (.Name y py)) l env = pure false := by
  have ky : env.kindOf y = some .cell := hy
  have e : (NameKind.cell == NameKind.local) = false := by decide
  unfold swapsWith
  simp [ky, e]
theorem s_setDcomp (hc : X.calm = true) (hN : X.N.Nodup) (hy : X.N[i]? = some y) (hyl : X.env.scope.names.lookup y = some .local)
    (hsw : swapsWith (.DictComp kx vx [⟨tg, iter, ifs, 0⟩] scope pos) (some (.Name y py)) spos.line X.env = pure true) (ok : BlkOk X.N X.env.scope scope own) (hts : ∀ t ∈ ts1, t ∈ own.map (·.2)) (hi : PI X tg iter (rdI X.K X.mg it))
    (hg : ∀ (s : Shared) (H : Hp) (C : Addr) (cl : List (PySem.Str × Addr)) (fp : List Addr), PG (X.blk s H scope (compEnvC scope cl C X.env) fp) tg (rdG X.K X.mg g ts1)) (ht : ∀ (s : Shared) (H : Hp) (C : Addr) (cl : List (PySem.Str × Addr)) (fp : List Addr), PTs (X.blk s H scope (compEnvC scope cl C X.env) fp) ifs (rdT X.K X.mg c))
    (hk : ∀ (s : Shared) (H : Hp) (C : Addr) (cl : List (PySem.Str × Addr)) (fp : List Addr), PE (X.blk s H scope (compEnvC scope cl C X.env) fp) kx (rdE X.K X.mg fk))
    (he : ∀ (s : Shared) (H : Hp) (C : Addr) (cl : List (PySem.Str × Addr)) (fp : List Addr), PE (X.blk s H scope (compEnvC scope cl C X.env) fp) vx (rdE X.K X.mg fv)) (hs : ∀ x, foldedSetIterable iter X.env x = pure x) :
    PS X (.Assign [.Name y py] (.DictComp kx vx [⟨tg, iter, ifs, 0⟩] scope pos) spos) (rdS X.K X.mg (sSet i (sDcomp (own.map (·.2)) g it c fk fv))) :=
  ps_mono (ps_setDc hc hN hy hyl hsw hi ok hg ht hk he hs) fun D σ H h => dc_sound hts (set_fin h)
end
inductive DP (X : Cx) : List Expr → List Expr → LS → Prop
  | nil : DP X [] [] sNil
  | cons {k v : Expr} {ks vs : List Expr} {fk fv : VS} {ts : LS} (hk : PE X k (rdE X.K X.mg fk)) (hv : PE X v (rdE X.K X.mg fv)) (h : DP X ks vs ts) : DP X (k :: ks) (v :: vs) (sCons fk (sCons fv ts))
section
variable {X : Cx} {ks vs : List Expr} {ts : LS} {pos : Pos}
theorem DP.len (h : DP X ks vs ts) : ks.length = vs.length := by
  induction h with
  | nil => rfl
  | cons _ _ _ ih => simp [ih]
theorem DP.trs (h : DP X ks vs ts) : ∃ trs, PPs X pos (ks.map some) vs trs ∧ ∀ {ι F S ρ xs S' σ H ps} {Q : List (V × V) → Hp → Prop}, Sim X.K X.mg ι F S H → RepR X.K X.mg F ι ρ σ → ts ρ S = .ok xs S' → pairUp xs = some ps →
    (∀ ι' F' H' kvs, Ext ι F ι' F' → Sim X.K X.mg ι' F' S' H' → RepD X.K X.mg F' ps kvs → Q (kvs.map fun kv => (kV kv.1, kv.2)) H') → tPairs trs σ H Q := by
  induction h with
  | nil =>
    refine ⟨[], pps_nil, fun {ι F S ρ xs S' σ H ps Q} sim r hf hp q => ?_⟩
    cases hf
    cases hp
    exact q _ _ _ [] Ext.refl sim rfl
  | @cons k v ks vs fk fv ts hk hv h ih =>
    obtain ⟨trs, hP, ht⟩ := ih
    refine ⟨_, pps_cons hk hv hP, fun {ι F S ρ xs S' σ H ps Q} sim r hf hp q => ?_⟩
    obtain ⟨x, S1, h1, hf⟩ := bind_ok hf
    obtain ⟨ys, S2, hf2, hf⟩ := bind_ok hf
    obtain ⟨y, S3, h3, hf2⟩ := bind_ok hf2
    obtain ⟨zs, S4, h4, hf2⟩ := bind_ok hf2
    cases hf2
    cases hf
    cases x with
    | l n => simp [pairUp] at hp
    | v x =>
      cases y with
      | l n => simp [pairUp] at hp
      | v y =>
        unfold pairUp at hp
        split at hp
        · rename_i hok
          simp only [Option.map_eq_some_iff] at hp
          obtain ⟨ps', hp', rfl⟩ := hp
          refine ⟨ι, F, S, ρ, .v x, S1, sim, r, h1, fun ι1 F1 v1 H1 e1 s1 r1 => ?_⟩
          refine ⟨ι1, F1, S1, ρ, .v y, S3, s1, r.mono e1, h3, fun ι2 F2 v2 H2 e2 s2 r2 => ?_⟩
          refine ht s2 (r.mono (e1.trans e2)) h4 hp' fun ι3 F3 H3 kvs e3 s3 rd => ?_
          obtain ⟨key, rfl⟩ := keyOk_some hok
          have hv1 := keyP_rep (show Rep X.K X.mg F1 (keyP key) v1 from r1)
          subst hv1
          exact q _ _ _ ((key, v2) :: kvs) ((e1.trans e2).trans e3) s3 ⟨key, v2, kvs, rfl, rfl, Rep.mono e3.2 r2, rd⟩
        · cases hp
theorem RepD.puts {K : PySem.W.Frag} {mg : PySem.Str → Option Value} {F : Hp} : ∀ {ps : List (PV × PV)} {kvs : List (L2.Key × V)} {a : List (PV × PV)} {b : List (L2.Key × V)}, RepD K mg F ps kvs → RepD K mg F a b → RepD K mg F (putAll a ps) (mergeK b kvs)
  | [], _, a, b, r, l => by cases r; exact l
  | (k, x) :: ps, _, a, b, ⟨k', v, t, e1, e2, r1, r2⟩, l => by
    subst e1 e2
    exact RepD.puts (ps := ps) (kvs := t) r2 (l.put r1)
theorem s_dicd (h : DP X ks vs ts) (h0 : ks ≠ []) (h15 : ks.length ≤ 15) : PE X (.Dict (ks.map some) vs pos) (rdE X.K X.mg (sDicd ts)) := by
  obtain ⟨trs, hP, ht⟩ := h.trs (pos := pos)
  refine pe_ofV (pe_disp hP (by simp) (by rw [List.length_map]; exact h.len) (by simpa using h0) (by rw [List.length_map]; exact h15)) fun ι F S ρ y S' σ H Q sim r hf q => ?_
  obtain ⟨xs, S1, h1, hf⟩ := bind_ok hf
  unfold dispK at hf
  split at hf
  · rename_i ps hp
    split at hf
    · rename_i hl
      intro D hD
      obtain ⟨s2, hw⟩ := sim.newO hD (.dK [])
      have r2 : RepR X.K X.mg F (ι.onO D (.dK [])) ρ σ := r.reloc (ι' := ι.onO D (.dK [])) rfl
      refine ht s2 r2 h1 hp fun ι3 F3 H3 kvs e3 s3 rd => ?_
      obtain ⟨ι3', rfl, ex⟩ := e3.offO
      refine ⟨s3.atO.1, kvs, rfl, by rw [← rd.length]; exact hl.1, ?_⟩
      have hw3 : ι3'.w D = none := by rw [ex.1.2]; exact hw
      exact dict_end hf ex (s3.reO hw3 (.dK (mergeK [] kvs))) hw3 (RepD.puts rd (show RepD X.K X.mg F3 [] [] from rfl)) q
    · cases hf
  · cases hf
end
def putV : List Nat → List V → L2.St → Option L2.St
  | [], [], σ => some σ
  | i :: is, v :: vs, σ => putV is vs (σ.set i (some v))
  | _, _, _ => none
theorem putV_ok {K : PySem.W.Frag} {mg : PySem.Str → Option Value} {F : Hp} {ι : Plc} : ∀ {is : List Nat} {xs : List SV} {vs : List V} {ρ ρ1 : Slots} {σ : L2.St}, RepR K mg F ι ρ σ → RepSs K mg F ι xs vs → setAll is xs ρ = some ρ1 → ∃ σ1, putV is vs σ = some σ1 ∧ RepR K mg F ι ρ1 σ1
  | [], [], vs, ρ, ρ1, σ, r, l, h => by
    cases l
    simp only [setAll, Option.some.injEq] at h
    subst h
    exact ⟨σ, rfl, r⟩
  | i :: is, x :: xs, vs, ρ, ρ1, σ, r, ⟨v, t, e, r1, l⟩, h => by
    subst e
    exact putV_ok (is := is) (xs := xs) (vs := t) (r.set r1 i) l h
  | [], _ :: _, _, _, _, _, _, _, h => by simp [setAll] at h
  | _ :: _, [], _, _, _, _, _, _, h => by simp [setAll] at h
inductive NamesOk (X : Cx) : List Expr → List Nat → Prop
  | nil : NamesOk X [] []
  | cons {x : PySem.Str} {p : Pos} {es : List Expr} {i : Nat} {is : List Nat} (hi : X.N[i]? = some x) (hx : Loc X.env.scope x) (hf : X.fn x = true ∨ X.env.scope.names.lookup x = some .local) (h : NamesOk X es is) : NamesOk X (.Name x p :: es) (i :: is)
section
variable {X : Cx} {es ns : List Expr} {is : List Nat} {pos pt pt2 : Pos} {kt k2 : Nat} {ts : LS}
theorem NamesOk.star (h : NamesOk X ns is) : ∀ e ∈ ns, noStar e = true := by
  induction h with
  | nil => intro e he; cases he
  | cons _ _ _ _ ih =>
    intro e he
    rcases List.mem_cons.mp he with rfl | he
    · rfl
    · exact ih e he
theorem NamesOk.len (h : NamesOk X ns is) : ns.length = is.length := by
  induction h with
  | nil => rfl
  | cons _ _ _ _ ih => simp [ih]
theorem pgs_names (hN : X.N.Nodup) (h : NamesOk X ns is) : PGs X ns (fun vs σ H Q => ∃ σ1, putV is vs σ = some σ1 ∧ Q σ1 H) := by
  induction h with
  | nil =>
    refine pgs_mono pgs_nil fun v σ H Q h => ?_
    obtain ⟨σ1, h1, q⟩ := h
    cases v with
    | nil => cases h1; exact ⟨rfl, q⟩
    | cons v vs => cases h1
  | @cons x p es i is hi hx hf h ih =>
    refine pgs_mono (pgs_cons (pg_name hN hi hx hf) ih (by rw [assign_one rfl]; rfl)) fun v σ H Q h => ?_
    obtain ⟨σ1, h1, q⟩ := h
    cases v with
    | nil => cases h1
    | cons v vs => exact ⟨v, vs, rfl, σ1, h1, q⟩
theorem s_parG (hsmall : ns.length ≤ 1000) (hc : X.calm = true) (hN : X.N.Nodup) (hn : NamesOk X ns is) (ha : PA X es (rdA X.K X.mg ts)) (hs : swapsWithSole [.Tuple ns kt pt] (.Tuple es k2 pt2) pos.line X.env = pure false) (hw : swappedStores [.Tuple ns kt pt] (.Tuple es k2 pt2) X.env = pure none) :
    PS X (.Assign [.Tuple ns kt pt] (.Tuple es k2 pt2) pos) (rdS X.K X.mg (sPar is ts)) := by
  have hl := assign_len X.env hn.star
  refine ps_mono (ps_asg (pe_tup ha) (pg_tup hc (pgs_names hN hn) hl.1 hl.2) hs hw rfl) fun D σ H h => ?_
  obtain ⟨ι, F, S, ρ, r, S', sim, rr, hf, q⟩ := h
  obtain ⟨xs, S1, h1, hf⟩ := bind_ok hf
  split at hf
  · rename_i ρ1 hset
    cases hf
    refine ⟨ι, F, S, ρ, xs, S', sim, rr, h1, fun ι1 F1 vs H1 e1 s1 r1 => ?_⟩
    obtain ⟨σ1, g1, g2⟩ := putV_ok (rr.mono e1) r1 hset
    have hlen : vs.length = is.length := by
      have : ∀ (is : List Nat) (vs : List V) (σ σ1 : L2.St), putV is vs σ = some σ1 → vs.length = is.length := by
        intro is
        induction is with
        | nil => intro vs σ σ1 h; cases vs with | nil => rfl | cons v vs => cases h
        | cons i is ih => intro vs σ σ1 h; cases vs with | nil => cases h | cons v vs => simpa using ih _ _ _ h
      exact this _ _ _ _ g1
    have hsm : vs.length ≤ sizeLine := by
      have h2 := hn.len
      rw [hlen, ← h2]
      exact Nat.le_trans (hsmall) (by decide)
    refine ⟨hsm, fun p hp => ?_⟩
    obtain ⟨s2, e2⟩ := s1.newF (o := .tup vs) hp
    refine ⟨p, vs, rfl, .inl (.inl upd_same), by rw [hlen, ← hn.len], σ1, g1, ?_⟩
    exact q _ _ _ (e1.trans e2) s2 _ (g2.mono e2)
  · cases hf
end
end FW

namespace FW
open PySem PySem.Spec PyProof.Rows L2 RZ
section
variable {X : Cx} {a b : Expr} {p p2 q pos : Pos} {fa fb : VS}
theorem rng_rep {K : PySem.W.Frag} {mg : PySem.Str → Option Value} {F : Hp} (i j : Int) : RepL K mg F (rng i j) (rgV i j) := by
  have e1 : rng i j = ((List.range (j - i).toNat).map fun (k : Nat) => i + (k : Int)).map PV.int := by unfold rng; rw [List.map_map]; rfl
  have e2 : rgV i j = ((List.range (j - i).toNat).map fun (k : Nat) => i + (k : Int)).map V.int := by unfold rgV; rw [List.map_map]; rfl
  rw [e1, e2]
  exact RepL.ofInts _
theorem rgOk_of {i j : Int} (h : (rngOk j && rngOk i && rngOk (-i) && rngOk (-j)) = true) : RgOk i j := by
  simp only [rngOk, Bool.and_eq_true, decide_eq_true_eq] at h
  obtain ⟨⟨⟨h1, h2⟩, h3⟩, h4⟩ := h
  exact ⟨by omega, by omega, by omega, by omega, by omega⟩
theorem bRange_inv {f : List PV → Store → Out SV} {x y z : SV} {S S' : Store} (h : bRange f x y S = .ok z S') : ∃ i j, x = .v (.int i) ∧ y = .v (.int j) ∧ RgOk i j ∧ f (rng i j) S = .ok z S' := by
  unfold bRange at h
  split at h
  · rename_i i j
    split at h
    · rename_i hok
      exact ⟨i, j, rfl, rfl, rgOk_of hok, h⟩
    · cases h
  · cases h
theorem s_listRg1 {m : Bool} (hc : X.calm = true) (hg : Gl X "list") (hm : X.mg "list" = none) (hg2 : Gl X "range") (hm2 : X.mg "range" = none) (ha : PE X a (rdE X.K X.mg fa)) (hs : noStar a = true) :
    PE X (.Call (.Name "list" p) [.Call (.Name "range" p2) [a] [] q] [] pos) (rdE X.K X.mg fun ρ S => (fa ρ S).bind fun x S1 => bRange (mkL m) (.v (.int 0)) x S1) := by
  refine pe_mono (pe_listRg hc hg hm (prg_1 hg2 hm2 ha (star_one hs [] X.env))) fun σ H Q h => ?_
  obtain ⟨ι, F, S, ρ, z, S', sim, r, hz, fin⟩ := h
  obtain ⟨x, S1, h1, hz⟩ := bind_ok hz
  obtain ⟨i, j, ei, rfl, ok, hz⟩ := bRange_inv hz
  cases ei
  refine ⟨ι, F, S, ρ, _, S1, sim, r, h1, fun ι1 F1 v H1 e1 s1 r1 => ?_⟩
  cases r1
  refine ⟨j, rfl, ok, ?_⟩
  exact (fin_mkL s1 (rng_rep 0 j) hz fun ι2 F2 u H2 e2 s2 r2 => fin _ _ _ _ (e1.trans e2) s2 r2).2
theorem s_listRg2 {m : Bool} (hc : X.calm = true) (hg : Gl X "list") (hm : X.mg "list" = none) (hg2 : Gl X "range") (hm2 : X.mg "range" = none) (ha : PE X a (rdE X.K X.mg fa)) (hs : noStar a = true) (hb : PE X b (rdE X.K X.mg fb)) (hs2 : noStar b = true) :
    PE X (.Call (.Name "list" p) [.Call (.Name "range" p2) [a, b] [] q] [] pos) (rdE X.K X.mg fun ρ S => (fa ρ S).bind fun x S1 => (fb ρ S1).bind fun y S2 => bRange (mkL m) x y S2) := by
  refine pe_mono (pe_listRg hc hg hm (prg_2 hg2 hm2 ha hb (star_one hs [b] X.env) (star_one hs2 [] X.env) (star_all q X.env (es := [b]) fun e he => by rw [List.mem_singleton] at he; subst he; exact hs2))) fun σ H Q h => ?_
  obtain ⟨ι, F, S, ρ, z, S', sim, r, hz, fin⟩ := h
  obtain ⟨x, S1, h1, hz⟩ := bind_ok hz
  obtain ⟨y, S2, h2, hz⟩ := bind_ok hz
  obtain ⟨i, j, rfl, rfl, ok, hz⟩ := bRange_inv hz
  refine ⟨ι, F, S, ρ, _, S1, sim, r, h1, fun ι1 F1 v H1 e1 s1 r1 => ⟨ι1, F1, S1, ρ, _, S2, s1, r.mono e1, h2, fun ι2 F2 w H2 e2 s2 r2 => ?_⟩⟩
  cases r1
  cases r2
  refine ⟨i, j, rfl, rfl, ok, ?_⟩
  exact (fin_mkL s2 (rng_rep i j) hz fun ι3 F3 u H3 e3 s3 r3 => fin _ _ _ _ (e1.trans (e2.trans e3)) s3 r3).2
def rgK : BI → Option Nat
  | .listRange1 => some 1
  | .listRange2 => some 2
  | _ => none
end
end FW

namespace FW
open PySem PySem.Spec PyProof.Rows L2 RZ
section
variable {X : Cx} {a b c e f d : Expr} {es : List Expr} {pos p apos cpos mpos : Pos} {fa fb fc fd : VS} {ts : LS}
theorem upd_upd {H : Hp} {p : Addr} {o o' : HO} : upd (upd H p o) p o' = upd H p o' := by
  funext q
  by_cases h : q = p
  · subst h; rw [upd_same, upd_same]
  · rw [upd_ne h, upd_ne h, upd_ne h]
theorem s_dicP : PE X (.Dict [] [] pos) (rdE X.K X.mg sDicP) := by
  refine ⟨fun pins s σ H Q I h => ?_⟩
  obtain ⟨ι, F, S, ρ, y, S', sim, r, hf, q⟩ := h
  unfold sDicP at hf
  cases hf
  refine thn (pe_dnewK.run pins s σ H (fun v H1 => ∃ p, H p = none ∧ v = .ref p ∧ H1 = upd H p (.dK [])) I (fun p hp => ⟨p, hp, rfl, rfl⟩)) fun u s1 ⟨v, H1, I1, rv, p, hp, e1, e2⟩ => ?_
  subst e1 e2
  obtain ⟨od, I2⟩ := I1.lock (d := p) upd_same trivial
  rw [upd_upd] at I2
  obtain ⟨s2, e2⟩ := sim.newF (o := .frz od (.dK [])) hp
  exact ⟨.ref p, _, I2, rv, q _ _ _ _ e2 s2 ⟨p, od, [], rfl, upd_same, rfl, rfl, rfl⟩⟩
theorem keysI_of {prog : Program} {w : World} : ∀ {l : List DictEntry} {ks vs : List PV}, KeysI l ks vs → ∀ e ∈ l, ∃ k, (PySem.intKind prog w).is k e.key = true ∧ e.hash = (PySem.intKind prog w).hash k
  | [], _, _, _, _, h => by cases h
  | e :: r, _, _, ⟨k, v, t, t', ks', vs', rfl, rfl, h1, h2, h3, h4⟩, x, hx => by
    rcases List.mem_cons.mp hx with rfl | hx
    · exact ⟨k, by rw [h1]; show Value.isInt k (.int k t) = true; simp [Value.isInt], h2⟩
    · exact keysI_of h4 x hx
theorem keysI_find {i : Int} : ∀ {l : List DictEntry} {ks vs : List PV}, KeysI l ks vs → match keyGet (.int i) (ks.zip vs) with
    | some y => ∃ (v : Int) (t : Tok), y = .int v ∧ (l.find? fun e => Value.isInt i e.key).map (·.val) = some (.int v t)
    | none => (l.find? fun e => Value.isInt i e.key).map (·.val) = none
  | [], _, _, ⟨rfl, rfl⟩ => rfl
  | e :: r, _, _, ⟨k, v, t, t', ks', vs', rfl, rfl, h1, h2, h3, h4⟩ => by
    have ih := keysI_find (i := i) h4
    have hk : Value.isInt i e.key = decide (k = i) := by rw [h1]; simp only [Value.isInt]; by_cases h : k = i <;> simp [h]
    unfold keyGet at ih ⊢
    by_cases h : k = i
    · subst h
      rw [List.find?_cons_of_pos (by rw [hk]; simp), List.zip_cons_cons, List.find?_cons_of_pos (by simp [keyEq])]
      exact ⟨v, t', rfl, by rw [Option.map_some, h3]⟩
    · rw [List.find?_cons_of_neg (by rw [hk]; simp [h]), List.zip_cons_cons, List.find?_cons_of_neg (by simp [keyEq, h])]
      exact ih
theorem keysI_by {prog : Program} {w : World} {es : Array DictEntry} {ks vs : List PV} {i : Int} (h : KeysI es.toList ks vs) : (keyGet (.int i) (ks.zip vs)).isSome = (findBy (PySem.intKind prog w).is es i).isSome ∧
    ∀ y, keyGet (.int i) (ks.zip vs) = some y → ∃ (v : Int) (t : Tok), y = .int v ∧ findBy (PySem.intKind prog w).is es i = some (.int v t) := by
  have f := keysI_find (i := i) h
  have e : findBy (PySem.intKind prog w).is es i = (es.toList.find? fun e => Value.isInt i e.key).map (·.val) := by
    obtain ⟨l⟩ := es
    unfold findBy
    rw [List.find?_toArray]
    rfl
  rw [e]
  cases hk : keyGet (.int i) (ks.zip vs) with
  | none => rw [hk] at f; exact ⟨by rw [show (Option.map (fun x => x.val) (List.find? (fun e => Value.isInt i e.key) es.toList) : Option Value) = none from f]; rfl, fun y z => by cases z⟩
  | some y =>
    rw [hk] at f
    obtain ⟨v, t, rfl, f⟩ := f
    exact ⟨by rw [f]; rfl, fun y z => by cases z; exact ⟨v, t, rfl, f⟩⟩
theorem globD_map {K : PySem.W.Frag} {prog : Program} {w : World} {h : Heap} {d : Addr} {es : Array DictEntry} {m : Nat} {ks vs : List PV} (X : K.In h) (hl : K.lookup d = some ⟨.type "dict", none, .dict es m, #[]⟩) (hk : KeysI es.toList ks vs) :
    h.MapOf (PySem.intKind prog w) d (fun i => findBy (PySem.intKind prog w).is es i) :=
  ⟨_, es, m, X _ _ hl, ⟨rfl, rfl, rfl⟩, rfl, fun e he => keysI_of hk e (Array.mem_toList_iff.mpr he), fun _ => rfl⟩
theorem op_gin {neg : Bool} {d : Addr} {es : Array DictEntry} {m : Nat} {ks vs : List PV} (hl : X.K.lookup d = some ⟨.type "dict", none, .dict es m, #[]⟩) (low : (d == sysModules) = false) (hk : KeysI es.toList ks vs) :
    OpR X (compareOp (if neg = true then .NotIn else .In)) (fun x y H Q => ∃ i : Int, x = .int i ∧ y = .ref d ∧ Q (.bl (xor neg (keyGet (.int i) (ks.zip vs)).isSome)) H) := by
  intro pins s σ H x y v u Q I rx ry h
  obtain ⟨i, rfl, rfl, q⟩ := h
  obtain ⟨t, rfl⟩ := rx
  cases ry
  have hi : (PySem.intKind X.prog X.w).is i (.int i t) = true := by show Value.isInt i (.int i t) = true; simp [Value.isInt]
  have e := (keysI_by (prog := X.prog) (w := X.w) (i := i) hk).1
  cases neg with
  | true => exact wpAny_notIn_of hi low (globD_map I.kIn hl hk) ⟨.bl _, H, I.tok _, rfl, by rw [e] at q; simpa using q⟩
  | false => exact wpAny_in_of hi low (globD_map I.kIn hl hk) ⟨.bl _, H, I.tok _, rfl, by rw [e] at q; simpa using q⟩
theorem s_gin {neg : Bool} {n : PySem.Str} {ks vs : List PV} (hg : Gl X n) (h : GlobD X.K X.mg n ks vs) (hd : (n == ("__debug__" : PySem.Str)) = false) (ha : PE X a (rdE X.K X.mg fa)) (hm : behindInMarks (if neg = true then .NotIn else .In) (.Name n p) = false) :
    PE X (.Compare a [if neg = true then .NotIn else .In] [.Name n p] pos) (rdE X.K X.mg (ofT (sGin neg ks vs fa)).v) := by
  obtain ⟨d, es, m, h1, h2, h3, h4⟩ := h
  refine pe_ofV (pe_cmpR (op_gin (neg := neg) h2 h3 h4) ha (pe_glob (v := .ref d) hg h1 rfl hd) hm) fun ι F S ρ z S' σ H Q sim r hf q => ?_
  obtain ⟨bb, S0, hf, hf0⟩ := bind_ok hf
  cases hf0
  obtain ⟨x, S1, k1, hf⟩ := bind_ok hf
  unfold ginOp at hf
  split at hf
  · rename_i i
    cases hf
    refine ⟨ι, F, S, ρ, _, _, sim, r, k1, fun ι1 F1 v H1 e1 s1 r1 => ?_⟩
    cases r1
    exact ⟨i, rfl, rfl, q _ _ _ _ e1 s1 rfl⟩
  · cases hf
theorem s_gin_t {neg : Bool} {n : PySem.Str} {ks vs : List PV} (hg : Gl X n) (h : GlobD X.K X.mg n ks vs) (hd : (n == ("__debug__" : PySem.Str)) = false) (ha : PE X a (rdE X.K X.mg fa)) (hm : behindInMarks (if neg = true then .NotIn else .In) (.Name n p) = false) :
    PT X (.Compare a [if neg = true then .NotIn else .In] [.Name n p] pos) (rdT X.K X.mg (sGin neg ks vs fa)) := by
  obtain ⟨d, es, m, h1, h2, h3, h4⟩ := h
  refine pt_ofT (pt_cmpR (op_gin (neg := neg) h2 h3 h4) ha (pe_glob (v := .ref d) hg h1 rfl hd) hm) fun ι F S ρ k S' σ H Q sim r hf q => ?_
  obtain ⟨x, S1, k1, hf⟩ := bind_ok hf
  unfold ginOp at hf
  split at hf
  · rename_i i
    cases hf
    refine ⟨ι, F, S, ρ, _, _, sim, r, k1, fun ι1 F1 v H1 e1 s1 r1 => ?_⟩
    cases r1
    exact ⟨i, rfl, rfl, _, rfl, q _ _ _ e1 s1⟩
  · cases hf
theorem s_gidx {n : PySem.Str} {ks vs : List PV} (hg : Gl X n) (h : GlobD X.K X.mg n ks vs) (hd : (n == ("__debug__" : PySem.Str)) = false) (ha : PE X a (rdE X.K X.mg fa)) (hp : plainIx a = true) :
    PE X (.Subscript (.Name n p) a pos) (rdE X.K X.mg (sGidx ks vs fa)) := by
  obtain ⟨d, es, m, h1, h2, h3, h4⟩ := h
  refine ⟨fun pins s σ H Q I hw => ?_⟩
  obtain ⟨ι, F, S, ρ, z, S', sim, r, hf, q⟩ := hw
  obtain ⟨x, S1, k1, hf⟩ := bind_ok hf
  unfold gidxOp at hf
  split at hf
  case h_2 => cases hf
  rename_i i
  split at hf
  case h_2 => cases hf
  rename_i y hy
  cases hf
  obtain ⟨v, t, rfl, hv⟩ := (keysI_by (prog := X.prog) (w := X.w) (i := i) h4).2 y hy
  refine subD_of PySem.F.slot_dict_getitem.lookup (plainIx_ok hp) (thn ((pe_glob (pos := p) (v := .ref d) hg h1 rfl hd).run pins s σ H (fun x H1 => x = .ref d ∧ H1 = H) I ⟨rfl, rfl⟩) fun u s1 ⟨x, H1, I1, rx, e1, e2⟩ => ?_)
  subst e1 e2
  obtain rfl : u = Value.ref d := rx
  refine thn (ha.run pins s1 σ _ (fun x H2 => x = .int i ∧ Q (.int v) H2) I1 ⟨ι, F, S, ρ, _, _, sim, r, k1, fun ι1 F1 w H1 e1 s1 r1 => ?_⟩) fun iv s2 ⟨y, H2, I2, ry, ey, q2⟩ => ?_
  · cases r1
    exact ⟨rfl, q _ _ _ _ e1 s1 rfl⟩
  · subst ey
    obtain ⟨t2, rfl⟩ := ry
    have hm := globD_map (prog := X.prog) (w := X.w) I2.kIn h2 h4
    exact ⟨hm.typeIs, wpAny_getItem_of (by show Value.isInt i (.int i t2) = true; simp [Value.isInt]) hm hv ⟨.int v, H2, I2.tok _, ⟨t, rfl⟩, q2⟩⟩
theorem keyI_rep {K : PySem.W.Frag} {mg : PySem.Str → Option Value} {F2 : Hp} {k : L2.Key} {v : V} : ∀ {ws : List (L2.Key × V)} {i : Nat}, ws[i]? = some (k, v) → allInt (ws.map (fun w => keyP w.1)) = true → Rep K mg F2 (keyP k) (kV k)
  | [], i, h, _ => by simp at h
  | w :: ws, 0, h, hi => by
    simp only [List.getElem?_cons_zero, Option.some.injEq] at h
    subst h
    cases k with
    | inl i => exact rfl
    | inr s => simp [keyP, allInt] at hi
  | w :: ws, i + 1, h, hi => by
    refine keyI_rep (ws := ws) (i := i) (by simpa using h) ?_
    rw [List.map_cons] at hi
    cases hk : keyP w.1 <;> rw [hk] at hi <;> simp [allInt] at hi
    exact hi
theorem wp_items {K : PySem.W.Frag} {mg : PySem.Str → Option Value} {F : Hp} {p : Addr} {od : Obj} {ws : List (L2.Key × V)} {xs : List PV} (hp : F p = some (.frz od (.dK ws))) (hint : allInt (ws.map (fun w => keyP w.1)) = true) (l : RepL K mg F xs (ws.map (·.2))) : WalkP K mg F (zipL (ws.map (fun w => keyP w.1)) xs) (Iti p od ws) where
  goes i H hi hs := by
    rw [zipL_len, List.length_map] at hi
    exact ⟨hs _ _ hp, by omega⟩
  stops H hs := ⟨hs _ _ hp, by rw [zipL_len, List.length_map, l.length, List.length_map]; omega⟩
  yields i H v H' hi hs y ι F2 S s2 sim := by
    rw [zipL_len, List.length_map] at hi
    obtain ⟨T, k, v0, hk, rfl, hT, rfl⟩ := y
    have e2 := List.getElem?_eq_getElem (show i < xs.length by omega)
    obtain ⟨w, h1, g1⟩ := l.get e2
    rw [List.getElem?_map, hk] at h1
    cases h1
    have rk : Rep K mg F2 (keyP k) (kV k) := keyI_rep hk hint
    obtain ⟨F3, ex, s3, r3⟩ := pair_new sim hT rk (g1.mono s2)
    exact ⟨F3, _, ex, s3, by rw [zipL_get, List.getElem?_map, hk, e2]; rfl, r3⟩
  tracked i H v H' D o hi hs y h := by
    obtain ⟨T, k, v0, hk, rfl, hT, rfl⟩ := y
    rw [upd_ne (ne_of_none h hT)]; exact h
theorem wp_keys {K : PySem.W.Frag} {mg : PySem.Str → Option Value} {F : Hp} {p : Addr} {od : Obj} {ws : List (L2.Key × V)} (hp : F p = some (.frz od (.dK ws))) (hint : allInt (ws.map (fun w => keyP w.1)) = true) : WalkP K mg F (ws.map (fun w => keyP w.1)) (Itk p od ws) where
  goes i H hi hs := by
    rw [List.length_map] at hi
    exact ⟨hs _ _ hp, by omega⟩
  stops H hs := ⟨hs _ _ hp, by rw [List.length_map]; omega⟩
  yields i H v H' hi hs y ι F2 S s2 sim := by
    obtain ⟨rfl, k, v0, hk, rfl⟩ := y
    exact ⟨F2, _, Ext.refl, sim, by rw [List.getElem?_map, hk]; rfl, keyI_rep hk hint⟩
  tracked i H v H' D o hi hs y h := by
    obtain ⟨rfl, k, v0, hk, rfl⟩ := y
    exact h
theorem wp_values {K : PySem.W.Frag} {mg : PySem.Str → Option Value} {F : Hp} {p : Addr} {od : Obj} {ws : List (L2.Key × V)} {xs : List PV} (hp : F p = some (.frz od (.dK ws))) (l : RepL K mg F xs (ws.map (·.2))) : WalkP K mg F xs (Itd p od ws) where
  goes i H hi hs := by
    rw [l.length, List.length_map] at hi
    exact ⟨hs _ _ hp, by omega⟩
  stops H hs := ⟨hs _ _ hp, by rw [l.length, List.length_map]; omega⟩
  yields i H v H' hi hs y ι F2 S s2 sim := by
    obtain ⟨rfl, k, hk⟩ := y
    have e2 := List.getElem?_eq_getElem hi
    obtain ⟨w, h1, g1⟩ := l.get e2
    rw [List.getElem?_map, hk] at h1
    cases h1
    exact ⟨F2, _, Ext.refl, sim, e2, g1.mono s2⟩
  tracked i H v H' D o hi hs y h := by
    obtain ⟨rfl, k, hk⟩ := y
    exact h
theorem i_items {elts : List Expr} {kk : Nat} {tpos : Pos} (hd : PE X d (rdE X.K X.mg fd)) (hbase : attributeBase d "items" X.env (eval d X.env) = eval d X.env) (hline : (apos.endLine == cpos.line) = true) :
    PI X (.Tuple elts kk tpos) (.Call (.Attribute d "items" apos) [] [] cpos) (rdI X.K X.mg (FW.iItems fd)) := by
  refine ⟨fun pins s σ H R I h => ?_⟩
  obtain ⟨ι, F, S, ρ, xs, S', sim, r, hf, q⟩ := h
  obtain ⟨x, S1, h1, hf⟩ := bind_ok hf
  unfold itemsOp at hf
  split at hf
  · cases hf
    refine (pi_items hd hbase hline).run pins s σ H R I ⟨ι, F, S, ρ, _, _, sim, r, h1, fun ι1 F1 v H1 e1 s1 r1 => ?_⟩
    obtain ⟨p, od, ws, rfl, hp, rfl, hint, l⟩ := r1
    exact ⟨p, od, ws, rfl, s1.sub _ _ hp, q _ _ _ _ e1 s1 (wp_items hp hint l)⟩
  · cases hf
theorem i_values {tg : Expr} (hd : PE X d (rdE X.K X.mg fd)) (hbase : attributeBase d "values" X.env (eval d X.env) = eval d X.env) (hline : (apos.endLine == cpos.line) = true) :
    PI X tg (.Call (.Attribute d "values" apos) [] [] cpos) (rdI X.K X.mg (FW.iValues fd)) := by
  refine ⟨fun pins s σ H R I h => ?_⟩
  obtain ⟨ι, F, S, ρ, xs, S', sim, r, hf, q⟩ := h
  obtain ⟨x, S1, h1, hf⟩ := bind_ok hf
  unfold valuesOp at hf
  split at hf
  · cases hf
    refine (pi_values hd hbase hline).run pins s σ H R I ⟨ι, F, S, ρ, _, _, sim, r, h1, fun ι1 F1 v H1 e1 s1 r1 => ?_⟩
    obtain ⟨p, od, ws, rfl, hp, rfl, hint, l⟩ := r1
    exact ⟨p, od, ws, rfl, s1.sub _ _ hp, q _ _ _ _ e1 s1 (wp_values hp l)⟩
  · cases hf
theorem i_keys {tg : Expr} (hd : PE X d (rdE X.K X.mg fd)) : PI X tg d (rdI X.K X.mg (FW.iKeys fd)) := by
  refine ⟨fun pins s σ H R I h => ?_⟩
  obtain ⟨ι, F, S, ρ, xs, S', sim, r, hf, q⟩ := h
  obtain ⟨x, S1, h1, hf⟩ := bind_ok hf
  unfold keysOp at hf
  split at hf
  · cases hf
    refine (pi_keys hd).run pins s σ H R I ⟨ι, F, S, ρ, _, _, sim, r, h1, fun ι1 F1 v H1 e1 s1 r1 => ?_⟩
    obtain ⟨p, od, ws, rfl, hp, rfl, hint, l⟩ := r1
    exact ⟨p, od, rfl, .inl ⟨ws, s1.sub _ _ hp, q _ _ _ _ e1 s1 (wp_keys hp hint)⟩⟩
  · cases hf
theorem s_put2 {i j : Nat} {x y : PySem.Str} {px py p1 p2 tp vp : Pos} {k1 k2 : Nat} {v1 v2 : Expr} (hc : X.calm = true) (hu : X.A.units + 1 < cLine) (hi : X.N[i]? = some x) (hv : Vis X.env.scope x) (hd : (x == ("__debug__" : PySem.Str)) = false) (hcd : (x == ("__classdict__" : PySem.Str)) = false)
    (hj : X.N[j]? = some y) (hv2 : Vis X.env.scope y) (hd2 : (y == ("__debug__" : PySem.Str)) = false) (hcd2 : (y == ("__classdict__" : PySem.Str)) = false)
    (ha : PE X a (rdE X.K X.mg fa)) (hp : plainIx a = true) (hb : PE X b (rdE X.K X.mg fb)) (hp2 : plainIx b = true) (he : PA X [v1, v2] (rdA X.K X.mg ts))
    (hsw : swappedStores [.Tuple [.Subscript (.Name x px) a p1, .Subscript (.Name y py) b p2] k1 tp] (.Tuple [v1, v2] k2 vp) X.env = pure none) :
    PS X (.Assign [.Tuple [.Subscript (.Name x px) a p1, .Subscript (.Name y py) b p2] k1 tp] (.Tuple [v1, v2] k2 vp) pos) (rdS X.K X.mg (sPut2 i fa j fb ts)) := by
  have g1 := pg_sub (X := X) (pos := p1) (pe_var (pos := px) hi hv hd hcd) ha (set_or set_list (set_dict hu)) (assign_sub hp)
  have g2 := pg_sub (X := X) (pos := p2) (pe_var (pos := py) hj hv2 hd2 hcd2) hb (set_or set_list (set_dict hu)) (assign_sub hp2)
  refine ps_mono (ps_asg (pe_tup he) (pg_tup (n := 2) hc (pgs_cons g1 (pgs_cons g2 pgs_nil rfl) rfl) rfl rfl) rfl hsw rfl) fun D σ H h => ?_
  obtain ⟨ι, F, S, ρ, r, S', sim, rr, hf, q⟩ := h
  obtain ⟨xs, S1, h1, hf⟩ := bind_ok hf
  split at hf
  case h_2 => cases hf
  rename_i x1 x2
  obtain ⟨y1, S2, h2, hf⟩ := bind_ok hf
  split at hf
  case h_2 => cases hf
  rename_i o1 ho1
  split at hf
  case h_2 => cases hf
  rename_i S3 hput
  obtain ⟨y2, S4, h3, hf⟩ := bind_ok hf
  split at hf
  case h_2 => cases hf
  rename_i o2 ho2
  split at hf
  case h_2 => cases hf
  rename_i S5 hput2
  cases hf
  refine ⟨ι, F, S, ρ, _, S1, sim, rr, h1, fun ι1 F1 vs H1 e1 s1 rs => ?_⟩
  obtain ⟨w1, wr, rfl, r1, rs⟩ := rs
  obtain ⟨w2, wr2, rfl, r2, rs⟩ := rs
  cases rs
  refine ⟨by show 2 ≤ sizeLine; decide, fun p hp0 => ?_⟩
  obtain ⟨sN, eN⟩ := s1.newF (o := .tup [w1, w2]) hp0
  obtain ⟨v1', q1, q2⟩ := rr.get ho1
  obtain ⟨v2', q3, q4⟩ := rr.get ho2
  refine ⟨p, [w1, w2], rfl, .inl (.inl upd_same), rfl, w1, [w2], rfl, ?_⟩
  refine ⟨v1', q1, ι1, _, S1, ρ, y1, S2, sN, rr.mono (e1.trans eN), h2, fun ι2 F2 u H2 e2 s2 ru => ?_⟩
  refine put_ok s2 (q2.mono ((e1.trans eN).trans e2)) ru (r1.mono (eN.trans e2)) hput fun H3 s3 => ?_
  refine ⟨w2, [], rfl, ?_⟩
  refine ⟨v2', q3, ι2, F2, S3, ρ, y2, S4, s3, rr.mono ((e1.trans eN).trans e2), h3, fun ι4 F4 u4 H4 e4 s4 ru4 => ?_⟩
  refine put_ok s4 (q4.mono (((e1.trans eN).trans e2).trans e4)) ru4 (r2.mono ((eN.trans e2).trans e4)) hput2 fun H5 s5 => ?_
  exact ⟨rfl, q _ _ _ (((e1.trans eN).trans e2).trans e4) s5 _ (rr.mono (((e1.trans eN).trans e2).trans e4))⟩
theorem s_count {o : Expr} (hc : X.calm = true) (ho : PE X o (rdE X.K X.mg fa)) (he : PE X e (rdE X.K X.mg fb)) (hs : noStar e = true) (hbase : attributeBase o "count" X.env (eval o X.env) = eval o X.env) (hline : (apos.endLine == cpos.line) = true) :
    PE X (.Call (.Attribute o "count" apos) [e] [] cpos) (rdE X.K X.mg (sCount fa fb)) := by
  have few : ((backTo cpos (starEach [e] X.env)).all (fun x => !x.1) && (backToKw cpos (keywordEach [] X.env)).all (fun x => x.1.isSome)
      && decide (([e] : List Expr).length + ([] : List Keyword).length + (if ([] : List Keyword).isEmpty then 0 else 1) < 30)) = true := by rw [star_one hs]; rfl
  refine pe_ofV (pe_bm PySem.F.plainAttrs_list PySem.F.slot_list_count PySem.F.type_list_count mt_lcount ho (pa_cons he pa_nil (star_one hs _ _)) hbase few hline (star_one hs _ _) rfl) fun ι F S ρ z S' σ H Q sim r hz q => ?_
  obtain ⟨x, S1, h1, hz⟩ := bind_ok hz
  split at hz
  case isFalse => cases hz
  rename_i hL1
  obtain ⟨y, S2, h2, hz⟩ := bind_ok hz
  split at hz
  case isFalse => cases hz
  rename_i hL2
  unfold countOp at hz
  split at hz
  case h_2 => cases hz
  rename_i k
  split at hz
  case h_2 => cases hz
  rename_i ys hys
  split at hz
  case h_2 => cases hz
  rename_i is his
  cases hz
  refine ⟨ι, F, S, ρ, x, S1, sim, r, h1, fun ι1 F1 v H1 e1 s1 r1 => ⟨(isLs_ty s1 r1 hL1).1, ?_⟩⟩
  refine ⟨ι1, F1, S1, ρ, _, _, s1, r.mono e1, h2, fun ι2 F2 w H2 e2 s2 r2 => ?_⟩
  obtain ⟨p, vs, rfl, l, hq⟩ := s2.seqL (r1.mono e2) hys
  cases r2
  have := l.ints his
  subst this
  exact ⟨p, is, k, rfl, rfl, .inl hq, q _ _ _ _ (e1.trans e2) s2 rfl⟩
theorem vals_snd {vs : List (L2.Key × Value)} {ws : List (L2.Key × V)} (kv : KV ws vs) : Vals (ws.map (·.2)) (vs.map (·.2)) := by
  unfold KV at kv
  induction kv with
  | nil => exact .nil
  | cons r t ih => exact .cons r.2 ih
theorem s_lvals {m : Bool} (hc : X.calm = true) (hg : Gl X "list") (hm : X.mg "list" = none) (hd : PE X d (rdE X.K X.mg fd)) (hbase : attributeBase d "values" X.env (eval d X.env) = eval d X.env) (hline : (apos.endLine == cpos.line) = true) :
    PE X (.Call (.Name "list" p) [.Call (.Attribute d "values" apos) [] [] cpos] [] pos) (rdE X.K X.mg (sLvals m fd)) := by
  refine ⟨fun pins s σ H Q I h => ?_⟩
  obtain ⟨ι, F, S, ρ, z, S', sim, r, hz, fin⟩ := h
  obtain ⟨x, S1, h1, hz⟩ := bind_ok hz
  have hs : starEach [.Call (.Attribute d "values" apos) [] [] cpos] X.env = (false, eval (.Call (.Attribute d "values" apos) [] [] cpos) X.env) :: starEach [] X.env := rfl
  refine wpAny_Call_Name_kw (ld_blt I hg hm (show bootBuiltins "list" = some (.type "list") by decide +kernel) ?_)
  refine PyProof.Rows.callWith_type1 ?_ hs rfl
  rw [hs]
  show wpAny _ _ (spliced ((false, eval (.Call (.Attribute d "values" apos) [] [] cpos) X.env) :: backTo pos (starEach [] X.env))) _ _ s
  refine Calls.spliced_cons ?_
  refine wpAny_Call_method (T := "dict") (id := "dict.values") hbase rfl hline PySem.F.plainAttrs_dict PySem.F.slot_dict_values PySem.F.type_dict_values (thn (hd.run pins s σ H (fun v H1 => ∃ ι1 F1, Ext ι F ι1 F1 ∧ Sim X.K X.mg ι1 F1 S1 H1 ∧ RepS X.K X.mg F1 ι1 x v) I ⟨ι, F, S, ρ, x, S1, sim, r, h1, fun ι1 F1 v H1 e1 s1 r1 => ⟨ι1, F1, e1, s1, r1⟩⟩) fun u s1 ⟨v, H1, I1, rv, ι1, F1, e1, sim1, r1⟩ => ?_)
  obtain ⟨ks, xs, rfl, hz⟩ : ∃ ks xs, x = .v (.dic ks xs) ∧ mkL m xs S1 = .ok z S' := by
    unfold lvalsOp at hz
    split at hz
    · exact ⟨_, _, rfl, hz⟩
    · cases hz
  obtain ⟨a, od, ws, rfl, hp, rfl, hint, l⟩ := r1
  obtain rfl : u = Value.ref a := rv
  obtain ⟨hs0, hgd, hx, es, ep, vs, hdt, hsz, kv, hat⟩ := I1.frzK (sim1.sub _ _ hp)
  have lk : ws.length = vs.length := Paired.length kv
  have I2 : Inv X pins σ H1 { s1 with heap := s1.heap.push { cls := .type "dict_values", data := .fields #[.ref a] } } := I1.kept (t' := s1.toks) fun b ob q => Heap.get?_push_of_some _ q
  refine ⟨hat.dictOf.typeIs, hat.dictOf.mapOf.noDict, ?_⟩
  show wpAny _ _ (callWith cpos (.builtin "dict.values") [.ref a] [] []) _ X.xe s1
  refine method_meetsIn PySem.F.slot_dict_values PySem.F.entry_dict_values rfl (PySem.evalArgs_none ⟨rfl, hat.dictOf.typeIs, PySem.F.args_dict_values_1 _, _, meets_dict_values (mixKind X.prog X.w) a hs0, ⟨vs, hat.dictOf⟩, ?_⟩)
  refine Calls.spliced_nil ?_
  obtain ⟨hle, go⟩ := fin_mkL (vs := ws.map (·.2)) sim1 l hz fun ι2 F2 u H2 e2 s2 r2 => fin ι2 F2 u H2 (e1.trans e2) s2 r2
  have hlen : ws.length ≤ sizeLine := by rw [List.length_map] at hle; exact hle
  refine PySem.W.kdl_call (PySem.W.kdl_values (knd := mixKind X.prog X.w) (kvs := vs) (ep := ep)) (I1.ok.hd hc) ⟨⟨_, Heap.get?_push_size _ rfl, rfl, rfl⟩, hat.push _⟩ (by omega) fun h' tk acc c hk hS hacc => ?_
  have hv : acc.toList = vs.map (·.2) := PySem.W.kdl_vals_eq acc.toList (by rw [Array.length_toList]; exact hacc.1) fun j v e => hacc.2 j v (by rw [← Array.getElem?_toList]; exact e)
  have hsz1 : s1.heap.objs.size ≤ (s1.heap.push { cls := .type "dict_values", data := .fields #[.ref a] }).objs.size := by rw [size_push']; exact Nat.le_succ _
  refine ⟨.ref _, _, inv_laid (us := acc.toList) (c := c) I2 (fun b u e => hk b u e) rfl rfl (Nat.le_refl _) (by rw [hv]; exact vals_snd kv) (by rw [List.length_map]; exact hlen) (by rw [Array.toArray_toList]; exact hS), rfl, go _ (I2.hok.fresh (Nat.le_refl _))⟩
end
end FW

namespace FW
open PySem PySem.Spec PyProof.Rows L2 RZ

structure Ctx where
  N : List PySem.Str
  sc : Scope
  raw : Option Scope
  glob : List (PySem.Str × PV)
  fs : List PySem.Str
  blt : List PySem.Str
mutual
def pvEq : PV → PV → Bool
  | .non, .non => true
  | .bl a, .bl b => a == b
  | .int i, .int j => decide (i = j)
  | .str a, .str b => decide (a = b)
  | .tup xs, .tup ys => pvEqs xs ys
  | .lst xs, .lst ys => pvEqs xs ys
  | .fn a, .fn b => decide (a = b)
  | .dic a b, .dic c d => pvEqs a c && pvEqs b d
  | _, _ => false
def pvEqs : List PV → List PV → Bool
  | [], [] => true
  | x :: xs, y :: ys => pvEq x y && pvEqs xs ys
  | _, _ => false
end
mutual
theorem pvEq_ok : ∀ {x y : PV}, pvEq x y = true → x = y
  | .non, y, h => by cases y <;> simp [pvEq] at h ⊢
  | .bl a, y, h => by cases y <;> simp [pvEq] at h ⊢; exact h
  | .int i, y, h => by cases y <;> simp [pvEq] at h ⊢; exact h
  | .str a, y, h => by cases y <;> simp [pvEq] at h ⊢; exact h
  | .tup xs, y, h => by cases y <;> simp [pvEq] at h ⊢; exact pvEqs_ok h
  | .lst xs, y, h => by cases y <;> simp [pvEq] at h ⊢; exact pvEqs_ok h
  | .fn a, y, h => by cases y <;> simp [pvEq] at h ⊢; exact h
  | .dic a b, y, h => by cases y <;> simp [pvEq] at h ⊢; exact ⟨pvEqs_ok h.1, pvEqs_ok h.2⟩
theorem pvEqs_ok : ∀ {xs ys : List PV}, pvEqs xs ys = true → xs = ys
  | [], ys, h => by cases ys <;> simp [pvEqs] at h ⊢
  | x :: xs, ys, h => by
    cases ys with
    | nil => simp [pvEqs] at h
    | cons y ys =>
      simp only [pvEqs, Bool.and_eq_true] at h
      rw [pvEq_ok h.1, pvEqs_ok h.2]
end
def glB (C : Ctx) (n : PySem.Str) : Bool := decide (C.sc.names.lookup n = some .globalImplicit)
def visB (C : Ctx) (x : PySem.Str) : Bool := match C.sc.names.lookup x with
  | some .local => true
  | some .cell => true
  | some .free => true
  | _ => false
def locB (C : Ctx) (x : PySem.Str) : Bool := match C.sc.names.lookup x with
  | some .local => true
  | some .cell => true
  | _ => false
def lclB (C : Ctx) (x : PySem.Str) : Bool := decide (C.sc.names.lookup x = some .local)
def stB (C : Ctx) (x : PySem.Str) : Bool := match C.raw with
  | none => true
  | some s => (s.names.lookup x == some .cell) || lclB C x
def nameB (x : PySem.Str) : Bool := !(x == ("__debug__" : PySem.Str)) && !(x == ("__classdict__" : PySem.Str))
def bltB (C : Ctx) (n : PySem.Str) : Bool := glB C n && decide (n ∈ C.blt) && nameB n && decide (n ≠ "__name__")
def globB (C : Ctx) (n : PySem.Str) (x : PV) : Bool := C.glob.any fun p => decide (p.1 = n) && pvEq p.2 x
def Ctx.blk (C : Ctx) (scope : Scope) : Ctx := { C with sc := relS scope C.sc, raw := some scope }
def plainT : Expr → Bool
  | .UnaryOp _ _ _ => false
  | .BoolOp _ _ _ => false
  | .IfExp _ _ _ _ => false
  | .Compare _ _ _ _ => false
  | _ => true
theorem plainT_ok {a : Expr} (h : plainT a = true) {env : Env} : ∀ whole, isTrue a env whole = (do let v ← whole; standAt a.pos; holding [v] (truthy v)) := by
  intro whole
  cases a <;> first | rfl | simp [plainT] at h
theorem neg_ok {a : Expr} {pos : Pos} {env : Env} : ∀ whole, isTrue (.UnaryOp .USub a pos) env whole = (do let v ← whole; standAt (Expr.UnaryOp .USub a pos).pos; holding [v] (truthy v)) := fun _ => rfl
def plainIter : Expr → Bool
  | .Set _ _ _ => false
  | _ => true
theorem plainIter_ok {a : Expr} (h : plainIter a = true) {env : Env} : ∀ x, foldedSetIterable a env x = pure x := by
  intro x
  cases a <;> first | rfl | simp [plainIter] at h
def bi1 (b : BI) : Option PySem.Str := match b with
  | .len => some "len" | .int => some "int" | .abs => some "abs" | .sum => some "sum" | .tuple => some "tuple" | .list => some "list" | .sorted => some "sorted" | .min1 => some "min" | .max1 => some "max" | _ => none
def bi2 (b : BI) : Option PySem.Str := match b with
  | .min2 => some "min" | .max2 => some "max" | _ => none
def okTy (C : Ctx) (T : Ty) (e : Expr) : Bool := match e with
  | .Name n _ => decide (n = PySem.Str.ofString (tyName T)) && bltB C n
  | _ => false
def okTys (C : Ctx) : List Ty → List Expr → Bool
  | [], [] => true
  | T :: ts, e :: es => okTy C T e && okTys C ts es
  | _, _ => false
def ownS (C : Ctx) (own : List Nat) : List (PySem.Str × Nat) := own.map fun j => (C.N.getD j ⟨#[]⟩, j)
theorem ownS_2 {C : Ctx} {own : List Nat} : (ownS C own).map (·.2) = own := by
  unfold ownS
  rw [List.map_map]
  show own.map (fun j => j) = own
  simp
mutual
def slG : CG → List Nat
  | .name i => [i]
  | .tup gs => slGs gs
def slGs : CGs → List Nat
  | .nil => []
  | .cons g gs => slG g ++ slGs gs
end
mutual
def okG (C : Ctx) : CG → Expr → Bool
  | .name i, e => match e with
    | .Name x _ => decide (C.N[i]? = some x) && locB C x && stB C x
    | _ => false
  | .tup gs, e => match e with
    | .Tuple es _ _ => okGs C gs es
    | _ => false
def okGs (C : Ctx) : CGs → List Expr → Bool
  | .nil, [] => true
  | .cons g gs, e :: es => okG C g e && okGs C gs es
  | _, _ => false
end
def isNonK : CE → Bool
  | .k .non => true
  | _ => false
def isTrueK : CE → Bool
  | .k (.bl true) => true
  | _ => false
mutual
def okE (C : Ctx) : CE → Expr → Bool
  | .var i, e => match e with
    | .Name x _ => decide (C.N[i]? = some x) && visB C x && nameB x
    | _ => false
  | .k x, e => match e with
    | .Constant k _ _ => decide (kOf x = some k)
    | _ => false
  | .glob n x, e => match e with
    | .Name m _ => decide (m = n) && glB C n && nameB n && globB C n x && notDic x
    | _ => false
  | .tup es, e => match e with
    | .Tuple xs _ _ => okL C es xs
    | _ => false
  | .list _ es, e => match e with
    | .List xs _ => okL C es xs
    | _ => false
  | .bin o _ a b, e => match e with
    | .BinOp x op y _ => decide (op = opOf o) && okE C a x && okE C b y
    | _ => false
  | .neg a, e => match e with
    | .UnaryOp op x _ => decide (op = .USub) && okE C a x
    | _ => false
  | .nt a, e => match e with
    | .UnaryOp op x _ => decide (op = .Not) && okE C a x
    | _ => false
  | .and es, e => match e with
    | .BoolOp op xs _ => decide (op = .And) && okA C es xs
    | _ => false
  | .or es, e => match e with
    | .BoolOp op xs _ => decide (op = .Or) && okA C es xs
    | _ => false
  | .cmp o a b, e => match e with
    | .Compare x [op] [y] _ => decide (op = opC o) && okE C a x && okE C b y && !(behindInMarks op y)
    | _ => false
  | .chain o o' a b c, e => match e with
    | .Compare x [op, op'] [y, z] _ => decide (op = opC o) && decide (op' = opC o') && okE C a x && okE C b y && okE C c z && !(lastMarks [op, op'] [y, z])
    | _ => false
  | .ite c a b, e => match e with
    | .IfExp x y z _ => okE C c x && okE C a y && okE C b z
    | _ => false
  | .call i es, e => match e with
    | .Call (.Name n _) args [] _ => decide (C.fs[i]? = some n) && glB C n && nameB n && okL C es args
    | _ => false
  | .fnv n, e => match e with
    | .Name m _ => decide (m = n) && glB C n && nameB n && decide (n ∈ C.fs)
    | _ => false
  | .callv f es, e => match e with
    | .Call fe (a :: as) [] _ => okE C f fe && callHead fe && okL C es (a :: as)
    | _ => false
  | .index a x, e => match e with
    | .Call (.Attribute (.Name y p) m apos) [z] [] cpos => decide (m = "index") && okE C a (.Name y p) && okE C x z && noStar z && (apos.endLine == cpos.line)
    | _ => false
  | .indexG n xs x, e => match e with
    | .Call (.Attribute (.Name y _) m apos) [z] [] cpos => decide (m = "index") && decide (y = n) && glB C n && nameB n && globB C n (.tup xs) && okE C x z && noStar z && (apos.endLine == cpos.line)
    | _ => false
  | .bi b _ es, e => match e with
    | .Call (.Name n _) [x] [] _ => (bltB C n && decide (bi1 b = some n) && okL C es [x]) || (decide (b = .sortedSet) && bltB C n && decide (n = "sorted") && (match x with
      | .Call (.Name n2 _) [y] [] _ => bltB C n2 && decide (n2 = "set") && okL C es [y]
      | _ => false)) || (decide (b = .sortedKeys) && bltB C n && decide (n = "sorted") && (match x with
      | .Call (.Attribute (.Name y p) k apos) [] [] mpos => decide (k = "keys") && okL C es [.Name y p] && (apos.endLine == mpos.line)
      | _ => false)) || (decide (n = "list") && bltB C n && (match x with
      | .Call (.Name n2 _) ys [] _ => bltB C n2 && decide (n2 = "range") && okL C es ys && decide (rgK b = some ys.length)
      | _ => false))
    | .Call (.Name n _) [x, y] [] _ => bltB C n && decide (bi2 b = some n) && okL C es [x, y]
    | _ => false
  | .isi ts a, e => match e with
    | .Call (.Name n _) [x, T] [] _ => bltB C n && decide (n = "isinstance") && okE C a x && noStar x && (match T with
      | .Tuple Ts _ _ => okTys C ts Ts && decide (ts.length ≤ 8)
      | T => (match ts with
        | [t] => okTy C t T
        | _ => false))
    | _ => false
  | .idx a i, e => match e with
    | .Subscript x y _ => okE C a x && okE C i y && plainIx y
    | _ => false
  | .slc _ a lo hi, e => match e with
    | .Subscript x (.Slice l h none _) _ => okE C a x && (match l with
      | none => isNonK lo
      | some l => okE C lo l && !isNonC lo) && (match h with
      | none => isNonK hi
      | some h => okE C hi h && !isNonC hi)
    | _ => false
  | .comp _ own tg it c elt, e => match e with
    | .ListComp x [⟨g, i, ifs, 0⟩] scope _ => blkC C.N C.sc scope (ownS C own) && (slG tg).all (fun t => decide (t ∈ own)) && okI C it g i && plainIter i && okG (C.blk scope) tg g && (match ifs with
      | [] => isTrueK c
      | [y] => okE (C.blk scope) c y
      | _ => false) && okE (C.blk scope) elt x
    | _ => false
  | .comp2 _ own own2 tg it c tg2 it2 c2 elt, e => match e with
    | .ListComp x [⟨g, i, ifs, 0⟩, ⟨g2, i2, ifs2, 0⟩] scope _ => blkC C.N C.sc scope (ownS C own) && own2.all (fun t => decide (t ∈ own)) && (slG tg).all (fun t => decide (t ∈ own)) && (slG tg2).all (fun t => decide (t ∈ own2)) && okI C it g i && plainIter i && okG (C.blk scope) tg g && (match ifs with
      | [] => isTrueK c
      | [y] => okE (C.blk scope) c y
      | _ => false) && okI (C.blk scope) it2 g2 i2 && plainIter i2 && okG (C.blk scope) tg2 g2 && (match ifs2 with
      | [] => isTrueK c2
      | [y] => okE (C.blk scope) c2 y
      | _ => false) && okE (C.blk scope) elt x
    | _ => false
  | .dic0, e => match e with
    | .Dict [] [] _ => true
    | _ => false
  | .get d k x, e => match e with
    | .Call (.Attribute (.Name y p) m apos) [z, w] [] cpos => decide (m = "get") && okE C d (.Name y p) && okE C k z && okE C x w && noStar z && noStar w && (apos.endLine == cpos.line)
    | _ => false
  | .rev _ a, e => match e with
    | .Subscript x (.Slice none none (some (.UnaryOp op (.Constant k _ _) _)) _) _ => decide (op = .USub) && decide (k = .int 1) && okE C a x
    | _ => false
  | .slcS _ k a, e => match e with
    | .Subscript x (.Slice (some (.Constant c1 _ _)) none (some (.Constant c2 _ _)) _) _ => decide (c2 = .int 2) && (decide (c1 = .int 0) && decide (k = 0) || decide (c1 = .int 1) && decide (k = 1)) && okE C a x
    | .Subscript x (.Slice none (some (.Constant c1 _ _)) (some (.UnaryOp op (.Constant c2 _ _) _)) _) _ => decide (op = .USub) && decide (c2 = .int 1) && decide (c1 = .int 0) && decide (k = 2) && okE C a x
    | _ => false
  | .dcomp own tg it c k x, e => match e with
    | .DictComp kx vx [⟨g, i, ifs, 0⟩] scope _ => blkC C.N C.sc scope (ownS C own) && (slG tg).all (fun t => decide (t ∈ own)) && okI C it g i && plainIter i && okG (C.blk scope) tg g && (match ifs with
      | [] => isTrueK c
      | [y] => okE (C.blk scope) c y
      | _ => false) && okE (C.blk scope) k kx && okE (C.blk scope) x vx
    | _ => false
  | .dicd es, e => match e with
    | .Dict ks vs _ => okD C es ks vs && !ks.isEmpty && decide (ks.length ≤ 15)
    | _ => false
  | .dicP, e => match e with
    | .Dict [] [] _ => true
    | _ => false
  | .count a x, e => match e with
    | .Call (.Attribute (.Name y p) m apos) [z] [] cpos => decide (m = "count") && okE C a (.Name y p) && okE C x z && noStar z && (apos.endLine == cpos.line)
    | _ => false
  | .lzip _ _ _, _ => false
  | .gin neg n ks vs a, e => match e with
    | .Compare x [op] [.Name m p] _ => decide (op = if neg = true then .NotIn else .In) && decide (m = n) && glB C n && nameB n && globB C n (.dic ks vs) && okE C a x && !(behindInMarks op (.Name m p))
    | _ => false
  | .gidx n ks vs a, e => match e with
    | .Subscript (.Name m _) y _ => decide (m = n) && glB C n && nameB n && globB C n (.dic ks vs) && okE C a y && plainIx y
    | _ => false
  | .lvals _ d, e => match e with
    | .Call (.Name n _) [.Call (.Attribute (.Name y p) m apos) [] [] cpos] [] _ => bltB C n && decide (n = "list") && decide (m = "values") && okE C d (.Name y p) && (apos.endLine == cpos.line)
    | _ => false
/-- keys and values in turn -/
def okD (C : Ctx) : CL → List (Option Expr) → List Expr → Bool
  | .nil, [], [] => true
  | .cons k r, some x :: ks, vs => okE C k x && okDv C r ks vs
  | _, _, _ => false
def okDv (C : Ctx) : CL → List (Option Expr) → List Expr → Bool
  | .cons v r, ks, y :: vs => okE C v y && okD C r ks vs
  | _, _, _ => false
def okL (C : Ctx) : CL → List Expr → Bool
  | .nil, [] => true
  | .cons c cs, e :: es => okE C c e && noStar e && okL C cs es
  | _, _ => false
/-- the parts of an and / or -/
def okA (C : Ctx) : CL → List Expr → Bool
  | .cons c cs, e :: es => okE C c e && (match cs, es with
    | .nil, [] => true
    | .nil, _ :: _ => false
    | .cons _ _, es => okA C cs es)
  | _, _ => false
def okI (C : Ctx) : CI → Expr → Expr → Bool
  | .seq c, _, e => okE C c e
  | .rng1 a, _, e => match e with
    | .Call (.Name n _) [x] [] _ => bltB C n && decide (n = "range") && okE C a x && noStar x
    | _ => false
  | .rng2 a b, _, e => match e with
    | .Call (.Name n _) [x, y] [] _ => bltB C n && decide (n = "range") && okE C a x && noStar x && okE C b y && noStar y
    | _ => false
  | .zip2 a b, tg, e => match tg, e with
    | .Tuple _ _ _, .Call (.Name n _) [x, y] [] _ => bltB C n && decide (n = "zip") && okE C a x && noStar x && okE C b y && noStar y
    | _, _ => false
  | .enum a, tg, e => match tg, e with
    | .Tuple _ _ _, .Call (.Name n _) [x] [] _ => bltB C n && decide (n = "enumerate") && okE C a x && noStar x
    | _, _ => false
  | .items d, tg, e => match tg, e with
    | .Tuple _ _ _, .Call (.Attribute (.Name y p) m apos) [] [] cpos => decide (m = "items") && okE C d (.Name y p) && (apos.endLine == cpos.line)
    | _, _ => false
  | .values d, _, e => match e with
    | .Call (.Attribute (.Name y p) m apos) [] [] cpos => decide (m = "values") && okE C d (.Name y p) && (apos.endLine == cpos.line)
    | _ => false
  | .keys d, _, e => okE C d e
  | _, _, _ => false
end
end FW

namespace FW
open PySem PySem.Spec PyProof.Rows L2 RZ

structure Fit (C : Ctx) (Γ : List (PySem.Str × Fn)) (X : Cx) (k : Nat) : Prop where
  N : X.N = C.N
  nd : X.N.Nodup
  sc : X.env.scope = C.sc
  calm : X.calm = true
  xe : X.xe = fun _ _ => False
  room : Room k X.A
  st : ∀ x, stB C x = true → X.fn x = true ∨ X.env.scope.names.lookup x = some .local
  fo : ∀ (i : Nat) (n : PySem.Str), C.fs[i]? = some n → ∃ f, Γ[i]? = some (n, f) ∧ FO X.prog X.w X.K X.mg X.base k n f
  fl : ∀ n f, Γ.lookup n = some f → FO X.prog X.w X.K X.mg X.base k n f
  glob : ∀ p ∈ C.glob, GlobOk X.K X.mg p.1 p.2
  blt : ∀ n ∈ C.blt, X.mg n = none
section
variable {C : Ctx} {Γ : List (PySem.Str × Fn)} {X : Cx} {k : Nat}
theorem Fit.blk (G : Fit C Γ X k) (s : Shared) (H : Hp) (scope : Scope) (D : Addr) (cl : List (PySem.Str × Addr)) (fp : List Addr) : Fit (C.blk scope) Γ (X.blk s H scope (compEnvC scope cl D X.env) fp) k where
  N := G.N
  nd := G.nd
  sc := by show relS scope X.env.scope = relS scope C.sc; rw [G.sc]
  calm := G.calm
  xe := rfl
  room := G.room
  st x h := by
    simp only [stB, Ctx.blk, Bool.or_eq_true] at h
    rcases h with h | h
    · exact .inl h
    · right
      show (relS scope X.env.scope).names.lookup x = _
      rw [G.sc]
      exact of_decide_eq_true h
  fo := G.fo
  fl := G.fl
  glob := G.glob
  blt := G.blt
theorem Fit.ix (G : Fit C Γ X k) {i : Nat} {x : PySem.Str} (h : C.N[i]? = some x) : X.N[i]? = some x := by rw [G.N]; exact h
theorem Fit.gl (G : Fit C Γ X k) {n : PySem.Str} (h : glB C n = true) : Gl X n := by
  show X.env.scope.names.lookup n = _
  rw [G.sc]
  exact of_decide_eq_true h
theorem Fit.vis (G : Fit C Γ X k) {n : PySem.Str} (h : visB C n = true) : Vis X.env.scope n := by
  rw [G.sc]
  unfold visB at h
  split at h
  · exact .inl (by assumption)
  · exact .inr (.inl (by assumption))
  · exact .inr (.inr (by assumption))
  · cases h
theorem Fit.loc (G : Fit C Γ X k) {n : PySem.Str} (h : locB C n = true) : L2.Loc X.env.scope n := by
  rw [G.sc]
  unfold locB at h
  split at h
  · exact .inl (by assumption)
  · exact .inr (by assumption)
  · cases h
theorem Fit.lcl (G : Fit C Γ X k) {n : PySem.Str} (h : lclB C n = true) : X.env.scope.names.lookup n = some .local := by
  rw [G.sc]
  exact of_decide_eq_true h
theorem nameB_ok {x : PySem.Str} (h : nameB x = true) : (x == ("__debug__" : PySem.Str)) = false ∧ (x == ("__classdict__" : PySem.Str)) = false := by
  simp only [nameB, Bool.and_eq_true, Bool.not_eq_true'] at h
  exact h
theorem Fit.bl (G : Fit C Γ X k) {n : PySem.Str} (h : bltB C n = true) : Gl X n ∧ X.mg n = none ∧ (n == ("__debug__" : PySem.Str)) = false ∧ n ≠ "__name__" := by
  simp only [bltB, Bool.and_eq_true, decide_eq_true_eq] at h
  obtain ⟨⟨⟨h1, h2⟩, h3⟩, h4⟩ := h
  exact ⟨G.gl h1, G.blt n h2, (nameB_ok h3).1, h4⟩
theorem Fit.hp (G : Fit C Γ X k) : PassesOwn (model X.prog X.w) X.A X.env X.xe := by rw [G.xe]; exact PassesOwn.never
theorem Fit.hu (G : Fit C Γ X k) : X.A.units + 65 < cLine := by have := G.room.un; omega
theorem Fit.gk (G : Fit C Γ X k) {n : PySem.Str} {x : PV} (h : globB C n x = true) : GlobOk X.K X.mg n x := by
  unfold globB at h
  rw [List.any_eq_true] at h
  obtain ⟨p, hp, h⟩ := h
  simp only [Bool.and_eq_true, decide_eq_true_eq] at h
  obtain ⟨rfl, h2⟩ := h
  have := pvEq_ok h2
  subst this
  exact G.glob p hp
theorem evL_len : ∀ (cs : CL) (es : List Expr), okL C cs es = true → ∀ ρ S xs S', evL Γ cs ρ S = .ok xs S' → xs.length = es.length
  | .nil, [], _, ρ, S, xs, S', h => by cases h; rfl
  | .nil, _ :: _, h, _, _, _, _, _ => by simp [okL] at h
  | .cons _ _, [], h, _, _, _, _, _ => by simp [okL] at h
  | .cons c cs, e :: es, hk, ρ, S, xs, S', h => by
    simp only [okL, Bool.and_eq_true] at hk
    obtain ⟨x, S1, h1, h⟩ := bind_ok h
    obtain ⟨ys, S2, h2, h⟩ := bind_ok h
    cases h
    rw [List.length_cons, List.length_cons, evL_len cs es hk.2 ρ S1 ys S' h2]
theorem okL_star : ∀ (cs : CL) (es : List Expr), okL C cs es = true → ∀ e ∈ es, noStar e = true
  | .nil, [], _, _, h => by cases h
  | .nil, _ :: _, h, _, _ => by simp [okL] at h
  | .cons _ _, [], h, _, _ => by simp [okL] at h
  | .cons c cs, e :: es, hk, x, h => by
    simp only [okL, Bool.and_eq_true] at hk
    rcases List.mem_cons.mp h with rfl | h
    · exact hk.1.2
    · exact okL_star cs es hk.2 x h
theorem boot1 {b : BI} {n : PySem.Str} (h : bi1 b = some n) (m : Bool) (hc : X.calm = true) (hu : X.A.units + 65 < cLine) : ∃ f, Blt X n (rdO X.K X.mg f) ∧ ∀ x S, biOp b m [x] S = f x S := by
  cases b <;> simp only [bi1, Option.some.injEq, reduceCtorEq] at h <;> subst h
  · exact ⟨bLen, .fn "len" (by decide +kernel) bi_len, fun _ _ => rfl⟩
  · exact ⟨bInt, .ty "int" (by decide +kernel) bi_int, fun _ _ => rfl⟩
  · exact ⟨bAbs, .fn "abs" (by decide +kernel) bi_abs, fun _ _ => rfl⟩
  · exact ⟨bSum, .fn "sum" (by decide +kernel) (bi_sum hc), fun _ _ => rfl⟩
  · exact ⟨bMin1, .fn "min" (by decide +kernel) (bi_min1 hc hu), fun _ _ => rfl⟩
  · exact ⟨bMax1, .fn "max" (by decide +kernel) (bi_max1 hc hu), fun _ _ => rfl⟩
  · exact ⟨bTuple, .ty "tuple" (by decide +kernel) bi_tuple, fun _ _ => rfl⟩
  · exact ⟨bList m, .ty "list" (by decide +kernel) bi_list, fun _ _ => rfl⟩
  · exact ⟨bSorted m, .fn "sorted" (by decide +kernel) (bi_sorted hu), fun _ _ => rfl⟩
theorem boot2 {b : BI} {n : PySem.Str} (h : bi2 b = some n) (m : Bool) (hc : X.calm = true) : ∃ f, Blt X n (rdP X.K X.mg f) ∧ ∀ x y S, biOp b m [x, y] S = f x y S := by
  cases b <;> simp only [bi2, Option.some.injEq, reduceCtorEq] at h <;> subst h
  · exact ⟨bMin2, .fn "min" (by decide +kernel) (bi_min2 hc), fun _ _ _ => rfl⟩
  · exact ⟨bMax2, .fn "max" (by decide +kernel) (bi_max2 hc), fun _ _ _ => rfl⟩
theorem okTys_get (G : Fit C Γ X k) : ∀ {ts : List Ty} {es : List Expr}, okTys C ts es = true → (∀ i : Nat, ∀ e, es[i]? = some e → ∃ T p, ts[i]? = some T ∧ e = .Name (PySem.Str.ofString (tyName T)) p) ∧ es.length = ts.length ∧
    (∀ T ∈ ts, Gl X (PySem.Str.ofString (tyName T)) ∧ X.mg (PySem.Str.ofString (tyName T)) = none)
  | [], [], _ => ⟨fun i e h => by simp at h, rfl, fun T h => by cases h⟩
  | [], _ :: _, h => by simp [okTys] at h
  | _ :: _, [], h => by simp [okTys] at h
  | T :: ts, e :: es, h => by
    simp only [okTys, Bool.and_eq_true] at h
    obtain ⟨g1, g2, g3⟩ := okTys_get G h.2
    have h1 := h.1
    unfold okTy at h1
    split at h1
    · rename_i n p
      simp only [Bool.and_eq_true, decide_eq_true_eq] at h1
      obtain ⟨rfl, h1⟩ := h1
      obtain ⟨b1, b2, _, _⟩ := G.bl h1
      refine ⟨fun i e he => ?_, by simp [g2], fun T' hT => ?_⟩
      · cases i with
        | zero => simp at he; subst he; exact ⟨T, p, rfl, rfl⟩
        | succ i => simpa using g1 i e (by simpa using he)
      · rcases List.mem_cons.mp hT with rfl | hT
        · exact ⟨b1, b2⟩
        · exact g3 T' hT
    · cases h1
theorem isTrueK_ok {c : CE} (h : isTrueK c = true) : c = .k (.bl true) := by
  unfold isTrueK at h
  split at h
  · rfl
  · cases h
theorem isNonK_ok {c : CE} (h : isNonK c = true) : c = .k .non := by
  unfold isNonK at h
  split at h
  · rfl
  · cases h
theorem pts_yes : PTs X [] (rdT X.K X.mg (ev Γ (.k (.bl true))).t) := ⟨fun pins s σ H Q I h => by
  obtain ⟨ι, F, S, ρ, x, S', sim, r, hf, q⟩ := h
  cases hf
  exact pts_nil.run pins s σ H Q I (q _ _ _ Ext.refl sim)⟩
theorem s_ite_t {c a b : Expr} {pos : Pos} {cs as bs : Sm} (hc : PT X c (rdT X.K X.mg cs.t)) (ha : PT X a (rdT X.K X.mg as.t)) (hb : PT X b (rdT X.K X.mg bs.t)) : PT X (.IfExp c a b pos) (rdT X.K X.mg (sIte cs as bs).t) := ⟨fun pins s σ H Q I h => by
  obtain ⟨ι, F, S, ρ, x, S', sim, r, hf, q⟩ := h
  obtain ⟨t, S1, h1, hf⟩ := bind_ok hf
  show wpAny _ _ (PySem.isTrue (.IfExp c a b pos) X.env _) _ _ _
  unfold PySem.isTrue
  refine wpAny_bind (thn (hc.run pins s σ H (fun b H1 => b = t ∧ ∃ ι1 F1, Ext ι F ι1 F1 ∧ Sim X.K X.mg ι1 F1 S1 H1) I ⟨ι, F, S, ρ, t, S1, sim, r, h1, fun ι1 F1 H1 e1 s1 => ⟨rfl, ι1, F1, e1, s1⟩⟩) fun b s1 ⟨H1, I1, eb, ι1, F1, e1, sim1⟩ => ?_)
  subst eb
  cases b with
  | true => exact ha.run pins s1 σ H1 Q I1 ⟨ι1, F1, S1, ρ, x, S', sim1, r.mono e1, hf, fun ι2 F2 H2 e2 s2 => q _ _ _ (e1.trans e2) s2⟩
  | false => exact hb.run pins s1 σ H1 Q I1 ⟨ι1, F1, S1, ρ, x, S', sim1, r.mono e1, hf, fun ι2 F2 H2 e2 s2 => q _ _ _ (e1.trans e2) s2⟩⟩
def Both (X : Cx) (e : Expr) (m : Sm) : Prop := PE X e (rdE X.K X.mg m.v) ∧ PT X e (rdT X.K X.mg m.t)
theorem both_v {e : Expr} {f : VS} (h : PE X e (rdE X.K X.mg f)) (hp : plainT e = true) : Both X e (ofV f) := ⟨h, s_tru h (plainT_ok hp)⟩
mutual
theorem g_sound (G : Fit C Γ X k) : ∀ (g : CG) (e : Expr), okG C g e = true → PG X e (rdG X.K X.mg (bindG g) (slG g)) ∧ noStar e = true
  | .name i, e, h => by
    unfold okG at h
    split at h
    · simp only [Bool.and_eq_true, decide_eq_true_eq] at h
      obtain ⟨⟨h1, h2⟩, h3⟩ := h
      have h1' := G.ix h1
      exact ⟨by simpa only [bindG, slG] using g_name G.nd h1' (G.loc h2) (G.st _ h3), rfl⟩
    · cases h
  | .tup gs, e, h => by
    unfold okG at h
    split at h
    · obtain ⟨h1, h2, h3⟩ := gs_sound G gs _ h
      refine ⟨pg_mono (g_tup G.calm h1 h2 h3) fun v σ H Q h => ?_, rfl⟩
      obtain ⟨ι, F, S, ρ, x, ρ', sim, r, rx, hg, q⟩ := h
      refine ⟨ι, F, S, ρ, x, ρ', sim, r, rx, ?_, q⟩
      cases x <;> simp only [bindG, reduceCtorEq] at hg ⊢ <;> exact hg
    · cases h
theorem gs_sound (G : Fit C Γ X k) : ∀ (gs : CGs) (es : List Expr), okGs C gs es = true → PGs X es (rdGs X.K X.mg (bindGs gs) (slGs gs)) ∧ (∀ e ∈ es, noStar e = true) ∧ ∀ xs ρ ρ', bindGs gs xs ρ = some ρ' → xs.length = es.length
  | .nil, [], _ => by
    refine ⟨pgs_mono gs_nil fun v σ H Q h => ?_, fun e h => (by cases h), fun xs ρ ρ' h => ?_⟩
    · obtain ⟨ι, F, S, ρ, xs, ρ', sim, r, l, hg, q⟩ := h
      refine ⟨ι, F, S, ρ, xs, ρ', sim, r, l, ?_, q⟩
      cases xs with
      | nil => simpa [bindGs] using hg
      | cons x xs => simp [bindGs] at hg
    · cases xs with
      | nil => rfl
      | cons x xs => simp [bindGs] at h
  | .nil, _ :: _, h => by simp [okGs] at h
  | .cons _ _, [], h => by simp [okGs] at h
  | .cons g gs, e :: es, h => by
    simp only [okGs, Bool.and_eq_true] at h
    obtain ⟨a1, a2⟩ := g_sound G g e h.1
    obtain ⟨b1, b2, b3⟩ := gs_sound G gs es h.2
    refine ⟨pgs_mono (gs_cons a1 b1 a2) fun v σ H Q h => ?_, fun x hx => ?_, fun xs ρ ρ' h => ?_⟩
    · obtain ⟨ι, F, S, ρ, xs, ρ', sim, r, l, hg, q⟩ := h
      refine ⟨ι, F, S, ρ, xs, ρ', sim, r, l, ?_, q⟩
      cases xs with
      | nil => simp [bindGs] at hg
      | cons x xs => simp only [bindGs] at hg; exact hg
    · rcases List.mem_cons.mp hx with rfl | hx
      · exact a2
      · exact b2 x hx
    · cases xs with
      | nil => simp [bindGs] at h
      | cons x xs =>
        simp only [bindGs] at h
        split at h
        · rw [List.length_cons, List.length_cons, b3 _ _ _ h]
        · cases h
end
def okTests (C : Ctx) (c : CE) (ifs : List Expr) : Bool := match ifs with
  | [] => isTrueK c
  | [y] => okE C c y
  | _ => false
theorem tests_sound {X : Cx} {c : CE} {ifs : List Expr} (ih : ∀ e, okE C c e = true → Both X e (ev Γ c)) (h : okTests C c ifs = true) : PTs X ifs (rdT X.K X.mg (ev Γ c).t) := by
  unfold okTests at h
  split at h
  · have := isTrueK_ok h
    subst this
    exact pts_yes
  · exact pts_one (ih _ h).2
  · cases h
theorem both_cmp {o : COp} {a b : Expr} {op : CmpOp} {pos : Pos} {fa fb : VS} (G : Fit C Γ X k) (e : op = opC o) (ha : PE X a (rdE X.K X.mg fa)) (hb : PE X b (rdE X.K X.mg fb)) (hm : behindInMarks op b = false) : Both X (.Compare a [op] [b] pos) (sCmp o fa fb) := by
  subst e
  exact ⟨s_cmp_v G.hu ha hb hm, s_cmp_t G.hu ha hb hm⟩
theorem both_chain {o o' : COp} {a b c : Expr} {op op' : CmpOp} {pos : Pos} {fa fb fc : VS} (G : Fit C Γ X k) (e : op = opC o) (e' : op' = opC o') (ha : PE X a (rdE X.K X.mg fa)) (hb : PE X b (rdE X.K X.mg fb)) (hc : PE X c (rdE X.K X.mg fc)) (hm : lastMarks [op, op'] [b, c] = false) : Both X (.Compare a [op, op'] [b, c] pos) (sChain o o' fa fb fc) := by
  subst e e'
  exact ⟨s_chain_v G.hu ha hb hc hm, s_chain_t G.hu ha hb hc hm⟩
theorem part_sound {lo : CE} {l : Option Expr} (ih : ∀ e, okE C lo e = true → Both X e (ev Γ lo)) (h : l = none → isNonK lo = true) (h2 : ∀ e, l = some e → (okE C lo e && !isNonC lo) = true) : PO X l (rdPart X.K X.mg (sPart (isNonC lo) (ev Γ lo).v)) := by
  cases l with
  | none =>
    have := isNonK_ok (h rfl)
    subst this
    exact s_po_none
  | some l =>
    have h := h2 l rfl
    simp only [Bool.and_eq_true, Bool.not_eq_true'] at h
    rw [h.2]
    exact s_po_some (ih l h.1).1
mutual
theorem e_sound {C : Ctx} {X : Cx} (G : Fit C Γ X k) : ∀ (c : CE) (e : Expr), okE C c e = true → Both X e (ev Γ c)
  | .var i, e, h => by
    unfold okE at h
    split at h
    · simp only [Bool.and_eq_true, decide_eq_true_eq] at h
      obtain ⟨⟨h1, h2⟩, h3⟩ := h
      exact both_v (s_var (G.ix h1) (G.vis h2) (nameB_ok h3).1 (nameB_ok h3).2) rfl
    · cases h
  | .k x, e, h => by
    unfold okE at h
    split at h
    · exact both_v (s_k (of_decide_eq_true h)) rfl
    · cases h
  | .glob n x, e, h => by
    unfold okE at h
    split at h
    · simp only [Bool.and_eq_true, decide_eq_true_eq] at h
      obtain ⟨⟨⟨⟨rfl, h2⟩, h3⟩, h4⟩, h5⟩ := h
      exact both_v (s_glob (G.gl h2) (G.gk h4) h5 (nameB_ok h3).1) rfl
    · cases h
  | .tup es, e, h => by
    unfold okE at h
    split at h
    · exact both_v (s_tup (l_sound G es _ h)) rfl
    · cases h
  | .list m es, e, h => by
    unfold okE at h
    split at h
    · exact both_v (s_list (l_sound G es _ h)) rfl
    · cases h
  | .bin o m a b, e, h => by
    unfold okE at h
    split at h
    · simp only [Bool.and_eq_true, decide_eq_true_eq] at h
      obtain ⟨⟨rfl, h2⟩, h3⟩ := h
      exact both_v (s_bin (e_sound G a _ h2).1 (e_sound G b _ h3).1) rfl
    · cases h
  | .neg a, e, h => by
    unfold okE at h
    split at h
    · simp only [Bool.and_eq_true, decide_eq_true_eq] at h
      obtain ⟨rfl, h2⟩ := h
      have := s_neg (pos := by assumption) (e_sound G a _ h2).1
      exact ⟨this, s_tru this neg_ok⟩
    · cases h
  | .nt a, e, h => by
    unfold okE at h
    split at h
    · simp only [Bool.and_eq_true, decide_eq_true_eq] at h
      obtain ⟨rfl, h2⟩ := h
      have := e_sound G a _ h2
      exact ⟨s_not_v this.1, s_not_t this.2⟩
    · cases h
  | .and es, e, h => by
    unfold okE at h
    split at h
    · simp only [Bool.and_eq_true, decide_eq_true_eq] at h
      obtain ⟨rfl, h2⟩ := h
      exact ⟨(and_sound G es _ h2 _).1, (and_sound G es _ h2 _).2.pt⟩
    · cases h
  | .or es, e, h => by
    unfold okE at h
    split at h
    · simp only [Bool.and_eq_true, decide_eq_true_eq] at h
      obtain ⟨rfl, h2⟩ := h
      exact ⟨(or_sound G es _ h2 _).1, (or_sound G es _ h2 _).2.pt⟩
    · cases h
  | .cmp o a b, e, h => by
    unfold okE at h
    split at h
    · simp only [Bool.and_eq_true, decide_eq_true_eq, Bool.not_eq_true'] at h
      obtain ⟨⟨⟨h1, h2⟩, h3⟩, h4⟩ := h
      exact both_cmp G h1 (e_sound G a _ h2).1 (e_sound G b _ h3).1 h4
    · cases h
  | .chain o o' a b c, e, h => by
    unfold okE at h
    split at h
    · simp only [Bool.and_eq_true, decide_eq_true_eq, Bool.not_eq_true'] at h
      obtain ⟨⟨⟨⟨⟨h1, h2⟩, h3⟩, h4⟩, h5⟩, h6⟩ := h
      exact both_chain G h1 h2 (e_sound G a _ h3).1 (e_sound G b _ h4).1 (e_sound G c _ h5).1 h6
    · cases h
  | .ite c a b, e, h => by
    unfold okE at h
    split at h
    · simp only [Bool.and_eq_true] at h
      obtain ⟨⟨h1, h2⟩, h3⟩ := h
      have hc := (e_sound G c _ h1).2
      have ha := e_sound G a _ h2
      have hb := e_sound G b _ h3
      exact ⟨s_ite_v hc ha.1 hb.1, s_ite_t hc ha.2 hb.2⟩
    · cases h
  | .call i es, e, h => by
    unfold okE at h
    split at h
    · rename_i n p args pos
      simp only [Bool.and_eq_true, decide_eq_true_eq] at h
      obtain ⟨⟨⟨h1, h2⟩, h3⟩, h4⟩ := h
      obtain ⟨f, hf, hfo⟩ := G.fo i n h1
      have hl := l_sound G es _ h4
      refine both_v ?_ rfl
      show PE X _ (rdE X.K X.mg (sCall (Γ[i]?.map Prod.snd) (evL Γ es)))
      rw [hf]
      cases args with
      | nil =>
        cases es with
        | nil => exact s_call0 G.room hfo (G.gl h2) (nameB_ok h3).1
        | cons c cs => simp [okL] at h4
      | cons a as => exact s_call G.room hfo (G.gl h2) (nameB_ok h3).1 hl (okL_star es _ h4)
    · cases h
  | .fnv n, e, h => by
    unfold okE at h
    split at h
    · simp only [Bool.and_eq_true, decide_eq_true_eq] at h
      obtain ⟨⟨⟨rfl, h2⟩, h3⟩, h4⟩ := h
      obtain ⟨i, hi⟩ := List.getElem?_of_mem h4
      obtain ⟨f, _, hfo⟩ := G.fo i _ hi
      exact both_v (s_fnv hfo (G.gl h2) (nameB_ok h3).1) rfl
    · cases h
  | .callv f es, e, h => by
    unfold okE at h
    split at h
    · simp only [Bool.and_eq_true] at h
      exact both_v (s_callv G.room G.fl (e_sound G f _ h.1.1).1 h.1.2 (l_sound G es _ h.2) (okL_star es _ h.2)) rfl
    · cases h
  | .index a x, e, h => by
    unfold okE at h
    split at h
    · simp only [Bool.and_eq_true, decide_eq_true_eq] at h
      obtain ⟨⟨⟨⟨rfl, h1⟩, h2⟩, h3⟩, h4⟩ := h
      exact both_v (s_index G.hu (e_sound G a _ h1).1 (e_sound G x _ h2).1 h3 rfl h4) rfl
    · cases h
  | .indexG n xs x, e, h => by
    unfold okE at h
    split at h
    · simp only [Bool.and_eq_true, decide_eq_true_eq] at h
      obtain ⟨⟨⟨⟨⟨⟨⟨rfl, rfl⟩, h1⟩, h2⟩, h3⟩, h4⟩, h5⟩, h6⟩ := h
      exact both_v (s_indexG G.hu (G.gl h1) (G.gk h3) (nameB_ok h2).1 (e_sound G x _ h4).1 h5 h6) rfl
    · cases h
  | .bi b m es, e, h => by
    unfold okE at h
    split at h
    · rw [Bool.or_eq_true, Bool.or_eq_true, Bool.or_eq_true] at h
      rcases h with ((h | h) | h) | h
      · simp only [Bool.and_eq_true, decide_eq_true_eq] at h
        obtain ⟨⟨h1, h2⟩, h3⟩ := h
        obtain ⟨g1, g2, g3, g4⟩ := G.bl h1
        obtain ⟨f, B, hf⟩ := boot1 (X := X) h2 m G.calm G.hu
        exact both_v (s_bi1 B (g := biOp b m) hf g1 g2 g4 g3 (l_sound G es _ h3) (fun ρ S xs S' hh => evL_len es _ h3 ρ S xs S' hh) (okL_star es _ h3 _ List.mem_cons_self)) rfl
      · simp only [Bool.and_eq_true, decide_eq_true_eq] at h
        obtain ⟨⟨⟨rfl, h1⟩, rfl⟩, h2⟩ := h
        split at h2
        · simp only [Bool.and_eq_true, decide_eq_true_eq] at h2
          obtain ⟨⟨k1, rfl⟩, k2⟩ := h2
          obtain ⟨g1, g2, _, _⟩ := G.bl h1
          obtain ⟨l1, l2, _, _⟩ := G.bl k1
          match es, k2 with
          | .cons c .nil, k2 =>
            have hst := okL_star (.cons c .nil) _ k2 _ List.mem_cons_self
            simp only [okL, Bool.and_eq_true] at k2
            have hcc := (e_sound G c _ k2.1.1).1
            have eq : sBi .sortedSet m (evL Γ (.cons c .nil)) = fun ρ S => ((ev Γ c).v ρ S).bind fun x S1 => bSortedSet m x S1 := by
              funext ρ S
              show ((((ev Γ c).v ρ S).bind fun x S1 => _).bind _) = _
              cases (ev Γ c).v ρ S <;> rfl
            refine both_v ?_ rfl
            show PE X _ (rdE X.K X.mg (sBi .sortedSet m (evL Γ (.cons c .nil))))
            rw [eq]
            exact s_sortedSet G.calm G.hu g1 g2 l1 l2 hcc hst
          | .nil, k2 => simp [okL] at k2
          | .cons _ (.cons _ _), k2 => simp [okL] at k2
        · cases h2
      · simp only [Bool.and_eq_true, decide_eq_true_eq] at h
        obtain ⟨⟨⟨rfl, h1⟩, rfl⟩, h2⟩ := h
        split at h2
        · simp only [Bool.and_eq_true, decide_eq_true_eq] at h2
          obtain ⟨⟨rfl, k2⟩, k3⟩ := h2
          obtain ⟨g1, g2, _, _⟩ := G.bl h1
          match es, k2 with
          | .cons c .nil, k2 =>
            simp only [okL, Bool.and_eq_true] at k2
            have hcc := (e_sound G c _ k2.1.1).1
            have eq : sBi .sortedKeys m (evL Γ (.cons c .nil)) = fun ρ S => ((ev Γ c).v ρ S).bind fun x S1 => bSortedKeys m x S1 := by
              funext ρ S
              show ((((ev Γ c).v ρ S).bind fun x S1 => _).bind _) = _
              cases (ev Γ c).v ρ S <;> rfl
            refine both_v ?_ rfl
            show PE X _ (rdE X.K X.mg (sBi .sortedKeys m (evL Γ (.cons c .nil))))
            rw [eq]
            exact s_sortedKeys G.calm G.hu g1 g2 hcc rfl k3
          | .nil, k2 => simp [okL] at k2
          | .cons _ (.cons _ _), k2 => simp [okL] at k2
        · cases h2
      · simp only [Bool.and_eq_true, decide_eq_true_eq] at h
        obtain ⟨⟨rfl, h1⟩, h2⟩ := h
        split at h2
        · rename_i n2 p2 ys q2
          simp only [Bool.and_eq_true, decide_eq_true_eq] at h2
          obtain ⟨⟨⟨k1, rfl⟩, k2⟩, k3⟩ := h2
          obtain ⟨g1, g2, _, _⟩ := G.bl h1
          obtain ⟨l1, l2, _, _⟩ := G.bl k1
          have hlen := evL_len (Γ := Γ) es _ k2
          cases b <;> simp only [rgK, Option.some.injEq, reduceCtorEq] at k3
          · match ys, es, k2, k3 with
            | [y], .cons c .nil, k2, _ =>
              have hst := okL_star (.cons c .nil) _ k2 _ List.mem_cons_self
              simp only [okL, Bool.and_eq_true] at k2
              have hcc := (e_sound G c _ k2.1.1).1
              have eq : sBi .listRange1 m (evL Γ (.cons c .nil)) = fun ρ S => ((ev Γ c).v ρ S).bind fun x S1 => bRange (mkL m) (.v (.int 0)) x S1 := by
                funext ρ S
                show ((((ev Γ c).v ρ S).bind fun x S1 => _).bind _) = _
                cases (ev Γ c).v ρ S <;> rfl
              refine both_v ?_ rfl
              show PE X _ (rdE X.K X.mg (sBi .listRange1 m (evL Γ (.cons c .nil))))
              rw [eq]
              exact s_listRg1 G.calm g1 g2 l1 l2 hcc hst
            | [y], .nil, k2, _ => simp [okL] at k2
            | [y], .cons _ (.cons _ _), k2, _ => simp [okL] at k2
          · match ys, es, k2, k3 with
            | [y, z], .cons c (.cons d .nil), k2, _ =>
              have hst := okL_star (.cons c (.cons d .nil)) _ k2
              simp only [okL, Bool.and_eq_true] at k2
              have hcc := (e_sound G c _ k2.1.1).1
              have hdd := (e_sound G d _ k2.2.1.1).1
              have eq : sBi .listRange2 m (evL Γ (.cons c (.cons d .nil))) = fun ρ S => ((ev Γ c).v ρ S).bind fun x S1 => ((ev Γ d).v ρ S1).bind fun y S2 => bRange (mkL m) x y S2 := by
                funext ρ S
                show ((((ev Γ c).v ρ S).bind fun x S1 => ((((ev Γ d).v ρ S1).bind fun y S2 => _).bind _)).bind _) = _
                cases (ev Γ c).v ρ S with
                | ok x S1 =>
                  show ((((ev Γ d).v ρ S1).bind fun y S2 => _).bind _).bind _ = ((ev Γ d).v ρ S1).bind _
                  cases (ev Γ d).v ρ S1 <;> rfl
                | exc _ _ _ => rfl
                | bad => rfl
              refine both_v ?_ rfl
              show PE X _ (rdE X.K X.mg (sBi .listRange2 m (evL Γ (.cons c (.cons d .nil)))))
              rw [eq]
              exact s_listRg2 G.calm g1 g2 l1 l2 hcc (hst _ List.mem_cons_self) hdd (hst _ (List.mem_cons_of_mem _ List.mem_cons_self))
            | [y, z], .nil, k2, _ => simp [okL] at k2
            | [y, z], .cons _ .nil, k2, _ => simp [okL] at k2
            | [y, z], .cons _ (.cons _ (.cons _ _)), k2, _ => simp [okL] at k2
        · cases h2
    · simp only [Bool.and_eq_true, decide_eq_true_eq] at h
      obtain ⟨⟨h1, h2⟩, h3⟩ := h
      obtain ⟨g1, g2, g3, g4⟩ := G.bl h1
      obtain ⟨f, B, hf⟩ := boot2 (X := X) h2 m G.calm
      exact both_v (s_bi2 B (g := biOp b m) hf g1 g2 g4 g3 (l_sound G es _ h3) (fun ρ S xs S' hh => evL_len es _ h3 ρ S xs S' hh) (okL_star es _ h3 _ List.mem_cons_self) (okL_star es _ h3 _ (List.mem_cons_of_mem _ List.mem_cons_self))) rfl
    · cases h
  | .isi ts a, e, h => by
    unfold okE at h
    split at h
    · rename_i n p x T pos
      simp only [Bool.and_eq_true, decide_eq_true_eq] at h
      obtain ⟨⟨⟨⟨h1, rfl⟩, h2⟩, h3⟩, h4⟩ := h
      obtain ⟨g1, g2, g3, g4⟩ := G.bl h1
      have ha := (e_sound G a _ h2).1
      refine both_v ?_ rfl
      show PE X _ (rdE X.K X.mg (sIsi ts (ev Γ a).v))
      split at h4
      · simp only [Bool.and_eq_true, decide_eq_true_eq] at h4
        obtain ⟨t1, t2, t3⟩ := okTys_get G h4.1
        exact s_isi g1 g2 ha h3 t1 t2 t3 h4.2
      · split at h4
        · unfold okTy at h4
          split at h4
          · simp only [Bool.and_eq_true, decide_eq_true_eq] at h4
            obtain ⟨rfl, h4⟩ := h4
            obtain ⟨b1, b2, _, _⟩ := G.bl h4
            exact s_isi1 g1 g2 ha h3 b1 b2
          · cases h4
        · cases h4
    · cases h
  | .idx a i, e, h => by
    unfold okE at h
    split at h
    · simp only [Bool.and_eq_true] at h
      obtain ⟨⟨h1, h2⟩, h3⟩ := h
      exact both_v (s_idx (by have := G.hu; omega) (e_sound G a _ h1).1 (e_sound G i _ h2).1 h3) rfl
    · cases h
  | .slc m a lo hi, e, h => by
    unfold okE at h
    split at h
    · rw [Bool.and_eq_true, Bool.and_eq_true] at h
      obtain ⟨⟨h1, h2⟩, h3⟩ := h
      exact both_v (s_slc (e_sound G a _ h1).1 (part_sound (e_sound G lo) (fun e => by subst e; exact h2) (fun e he => by subst he; exact h2)) (part_sound (e_sound G hi) (fun e => by subst e; exact h3) (fun e he => by subst he; exact h3))) rfl
    · cases h
  | .comp m own tg it c elt, e, h => by
    unfold okE at h
    split at h
    · rename_i x g i ifs scope pos
      simp only [Bool.and_eq_true, List.all_eq_true, decide_eq_true_eq] at h
      obtain ⟨⟨⟨⟨⟨⟨h1, h2⟩, h3⟩, h4⟩, h5⟩, h6⟩, h7⟩ := h
      refine both_v ?_ rfl
      have ok : BlkOk X.N X.env.scope scope (ownS C own) := by rw [G.N, G.sc]; exact blkOk_by h1
      have := s_comp (X := X) (m := m) (pos := pos) G.calm G.nd ok (ts1 := slG tg) (by rw [ownS_2]; exact h2) (i_sound G it g i h3)
        (fun s H D cl fp => (g_sound (G.blk s H scope D cl fp) tg g h5).1)
        (ifs := ifs) (c := (ev Γ c).t) (fun s H D cl fp => tests_sound (e_sound (G.blk s H scope D cl fp) c) h6)
        (fun s H D cl fp => (e_sound (G.blk s H scope D cl fp) elt x h7).1) (plainIter_ok h4)
      rw [ownS_2] at this
      exact this
    · cases h
  | .comp2 m own own2 tg it c tg2 it2 c2 elt, e, h => by
    unfold okE at h
    split at h
    · rename_i x g i ifs g2 i2 ifs2 scope pos
      simp only [Bool.and_eq_true, List.all_eq_true, decide_eq_true_eq] at h
      obtain ⟨⟨⟨⟨⟨⟨⟨⟨⟨⟨⟨⟨h1, h2⟩, h3⟩, h4⟩, h5⟩, h6⟩, h7⟩, h8⟩, h9⟩, h10⟩, h11⟩, h12⟩, h13⟩ := h
      refine both_v ?_ rfl
      have ok : BlkOk X.N X.env.scope scope (ownS C own) := by rw [G.N, G.sc]; exact blkOk_by h1
      have := s_comp2 (X := X) (m := m) (pos := pos) G.calm G.nd ok (own2 := own2) (ts1 := slG tg) (ts2 := slG tg2) (by rw [ownS_2]; exact h2) (by rw [ownS_2]; exact h3) h4 (i_sound G it g i h5)
        (fun s H D cl fp => (g_sound (G.blk s H scope D cl fp) tg g h7).1)
        (ifs := ifs) (c := (ev Γ c).t) (fun s H D cl fp => tests_sound (e_sound (G.blk s H scope D cl fp) c) h8)
        (fun s H D cl fp => i_sound (G.blk s H scope D cl fp) it2 g2 i2 h9)
        (fun s H D cl fp => (g_sound (G.blk s H scope D cl fp) tg2 g2 h11).1)
        (ifs1 := ifs2) (c2 := (ev Γ c2).t) (fun s H D cl fp => tests_sound (e_sound (G.blk s H scope D cl fp) c2) h12)
        (fun s H D cl fp => (e_sound (G.blk s H scope D cl fp) elt x h13).1) (plainIter_ok h6) (fun env => plainIter_ok h10)
      rw [ownS_2] at this
      exact this
    · cases h
  | .dic0, e, h => by
    unfold okE at h
    split at h
    · exact both_v s_dic0 rfl
    · cases h
  | .get d k x, e, h => by
    unfold okE at h
    split at h
    · simp only [Bool.and_eq_true, decide_eq_true_eq] at h
      obtain ⟨⟨⟨⟨⟨⟨rfl, h1⟩, h2⟩, h3⟩, h4⟩, h5⟩, h6⟩ := h
      exact both_v (s_get (by have := G.hu; omega) (e_sound G d _ h1).1 (e_sound G k _ h2).1 (e_sound G x _ h3).1 h4 h5 rfl h6) rfl
    · cases h
  | .rev m a, e, h => by
    unfold okE at h
    split at h
    · simp only [Bool.and_eq_true, decide_eq_true_eq] at h
      obtain ⟨⟨rfl, rfl⟩, h1⟩ := h
      exact both_v (s_rev (e_sound G a _ h1).1) rfl
    · cases h
  | .slcS m k a, e, h => by
    unfold okE at h
    split at h
    · simp only [Bool.and_eq_true, Bool.or_eq_true, decide_eq_true_eq] at h
      obtain ⟨⟨rfl, h2⟩, h1⟩ := h
      rcases h2 with ⟨rfl, rfl⟩ | ⟨rfl, rfl⟩
      · exact both_v (s_slS .a (e_sound G a _ h1).1) rfl
      · exact both_v (s_slS .b (e_sound G a _ h1).1) rfl
    · simp only [Bool.and_eq_true, decide_eq_true_eq] at h
      obtain ⟨⟨⟨⟨rfl, rfl⟩, rfl⟩, rfl⟩, h1⟩ := h
      exact both_v (s_slS .c (e_sound G a _ h1).1) rfl
    · cases h
  | .dcomp own tg it c kk x, e, h => by
    unfold okE at h
    split at h
    · rename_i kx vx g ii ifs scope pos
      simp only [Bool.and_eq_true, List.all_eq_true, decide_eq_true_eq] at h
      obtain ⟨⟨⟨⟨⟨⟨⟨k1, k2⟩, k3⟩, k4⟩, k5⟩, k6⟩, k7⟩, k8⟩ := h
      have ok : BlkOk X.N X.env.scope scope (ownS C own) := by rw [G.N, G.sc]; exact blkOk_by k1
      have := s_dcomp (X := X) (pos := pos) G.calm G.nd ok (ts1 := slG tg) (by rw [ownS_2]; exact k2) (i_sound G it g ii k3)
        (fun s H D cl fp => (g_sound (G.blk s H scope D cl fp) tg g k5).1)
        (c := (ev Γ c).t) (fun s H D cl fp => tests_sound (e_sound (G.blk s H scope D cl fp) c) k6)
        (fun s H D cl fp => (e_sound (G.blk s H scope D cl fp) kk _ k7).1)
        (fun s H D cl fp => (e_sound (G.blk s H scope D cl fp) x _ k8).1) (plainIter_ok k4)
      rw [ownS_2] at this
      exact both_v this rfl
    · cases h
  | .dicd es, e, h => by
    unfold okE at h
    split at h
    · simp only [Bool.and_eq_true, decide_eq_true_eq, Bool.not_eq_true'] at h
      obtain ⟨⟨h1, h2⟩, h3⟩ := h
      obtain ⟨kxs, rfl, hd⟩ := d_sound G es _ _ h1
      exact both_v (s_dicd hd (by intro z; subst z; simp at h2) (by simpa using h3)) rfl
    · cases h
  | .dicP, e, h => by
    unfold okE at h
    split at h
    · exact both_v s_dicP rfl
    · cases h
  | .count a x, e, h => by
    unfold okE at h
    split at h
    · simp only [Bool.and_eq_true, decide_eq_true_eq] at h
      obtain ⟨⟨⟨⟨rfl, h1⟩, h2⟩, h3⟩, h4⟩ := h
      exact both_v (s_count G.calm (e_sound G a _ h1).1 (e_sound G x _ h2).1 h3 rfl h4) rfl
    · cases h
  | .lzip _ _ _, e, h => by unfold okE at h; cases h
  | .gin neg n ks vs a, e, h => by
    unfold okE at h
    split at h
    · simp only [Bool.and_eq_true, decide_eq_true_eq, Bool.not_eq_true'] at h
      obtain ⟨⟨⟨⟨⟨⟨rfl, rfl⟩, h2⟩, h3⟩, h4⟩, h5⟩, h6⟩ := h
      exact ⟨s_gin (G.gl h2) (G.gk h4) (nameB_ok h3).1 (e_sound G a _ h5).1 h6, s_gin_t (G.gl h2) (G.gk h4) (nameB_ok h3).1 (e_sound G a _ h5).1 h6⟩
    · cases h
  | .gidx n ks vs a, e, h => by
    unfold okE at h
    split at h
    · simp only [Bool.and_eq_true, decide_eq_true_eq] at h
      obtain ⟨⟨⟨⟨⟨rfl, h2⟩, h3⟩, h4⟩, h5⟩, h6⟩ := h
      exact both_v (s_gidx (G.gl h2) (G.gk h4) (nameB_ok h3).1 (e_sound G a _ h5).1 h6) rfl
    · cases h
  | .lvals m d, e, h => by
    unfold okE at h
    split at h
    · simp only [Bool.and_eq_true, decide_eq_true_eq] at h
      obtain ⟨⟨⟨⟨h1, rfl⟩, rfl⟩, h2⟩, h3⟩ := h
      obtain ⟨g1, g2, _, _⟩ := G.bl h1
      exact both_v (s_lvals G.calm g1 g2 (e_sound G d _ h2).1 rfl h3) rfl
    · cases h
theorem d_sound {C : Ctx} {X : Cx} (G : Fit C Γ X k) : ∀ (cs : CL) (ks : List (Option Expr)) (vs : List Expr), okD C cs ks vs = true → ∃ kxs, ks = kxs.map some ∧ DP X kxs vs (evL Γ cs)
  | .nil, [], [], _ => ⟨[], rfl, .nil⟩
  | .nil, [], _ :: _, h => by simp [okD] at h
  | .nil, _ :: _, _, h => by simp [okD] at h
  | .cons _ _, [], _, h => by simp [okD] at h
  | .cons _ _, none :: _, _, h => by simp [okD] at h
  | .cons kc r, some x :: ks, vs, h => by
    simp only [okD, Bool.and_eq_true] at h
    obtain ⟨fv, ts, y, vs', e1, rfl, hy, kxs, rfl, hd⟩ := dv_sound G r ks vs h.2
    refine ⟨x :: kxs, rfl, ?_⟩
    show DP X (x :: kxs) (y :: vs') (sCons (ev Γ kc).v (evL Γ r))
    rw [e1]
    exact .cons (e_sound G kc x h.1).1 hy hd
theorem dv_sound {C : Ctx} {X : Cx} (G : Fit C Γ X k) : ∀ (cs : CL) (ks : List (Option Expr)) (vs : List Expr), okDv C cs ks vs = true → ∃ fv ts y vs', evL Γ cs = sCons fv ts ∧ vs = y :: vs' ∧ PE X y (rdE X.K X.mg fv) ∧ ∃ kxs, ks = kxs.map some ∧ DP X kxs vs' ts
  | .nil, _, _, h => by simp [okDv] at h
  | .cons _ _, _, [], h => by simp [okDv] at h
  | .cons v r, ks, y :: vs, h => by
    simp only [okDv, Bool.and_eq_true] at h
    obtain ⟨kxs, rfl, hd⟩ := d_sound G r ks vs h.2
    exact ⟨(ev Γ v).v, evL Γ r, y, vs, rfl, rfl, (e_sound G v y h.1).1, kxs, rfl, hd⟩
theorem l_sound {C : Ctx} {X : Cx} (G : Fit C Γ X k) : ∀ (cs : CL) (es : List Expr), okL C cs es = true → PA X es (rdA X.K X.mg (evL Γ cs))
  | .nil, [], _ => s_nil
  | .nil, _ :: _, h => by simp [okL] at h
  | .cons _ _, [], h => by simp [okL] at h
  | .cons c cs, e :: es, h => by
    simp only [okL, Bool.and_eq_true] at h
    exact s_cons (e_sound G c e h.1.1).1 (l_sound G cs es h.2) (star_one h.1.2 _ _)
theorem and_sound {C : Ctx} {X : Cx} (G : Fit C Γ X k) : ∀ (cs : CL) (es : List Expr), okA C cs es = true → ∀ pos, PE X (.BoolOp .And es pos) (rdE X.K X.mg (evAnd Γ cs).v) ∧ PW X (.BoolOp .And es pos) (rdT X.K X.mg (evAnd Γ cs).t)
  | .nil, _, h => by simp [okA] at h
  | .cons _ _, [], h => by simp [okA] at h
  | .cons c .nil, [e], h => fun pos => by
    simp only [okA, Bool.and_eq_true] at h
    have := e_sound G c e h.1
    exact ⟨pe_one this.1, pw_and1 this.2⟩
  | .cons c .nil, e :: e2 :: es, h => by simp [okA] at h
  | .cons c (.cons c2 cs), [e], h => by simp [okA] at h
  | .cons c (.cons c2 cs), e :: e2 :: es, h => fun pos => by
    unfold okA at h
    simp only [Bool.and_eq_true] at h
    have h1 := e_sound G c e h.1
    have h2 := and_sound G (.cons c2 cs) (e2 :: es) h.2 pos
    exact ⟨s_and_v (p := (ev Γ c, evAnd Γ (.cons c2 cs))) h1.1 h2.1, s_and_t (p := (ev Γ c, evAnd Γ (.cons c2 cs))) h1.2 h2.2⟩
theorem or_sound {C : Ctx} {X : Cx} (G : Fit C Γ X k) : ∀ (cs : CL) (es : List Expr), okA C cs es = true → ∀ pos, PE X (.BoolOp .Or es pos) (rdE X.K X.mg (evOr Γ cs).v) ∧ PW X (.BoolOp .Or es pos) (rdT X.K X.mg (evOr Γ cs).t)
  | .nil, _, h => by simp [okA] at h
  | .cons _ _, [], h => by simp [okA] at h
  | .cons c .nil, [e], h => fun pos => by
    simp only [okA, Bool.and_eq_true] at h
    have := e_sound G c e h.1
    exact ⟨pe_one this.1, pw_or1 this.2⟩
  | .cons c .nil, e :: e2 :: es, h => by simp [okA] at h
  | .cons c (.cons c2 cs), [e], h => by simp [okA] at h
  | .cons c (.cons c2 cs), e :: e2 :: es, h => fun pos => by
    unfold okA at h
    simp only [Bool.and_eq_true] at h
    have h1 := e_sound G c e h.1
    have h2 := or_sound G (.cons c2 cs) (e2 :: es) h.2 pos
    exact ⟨s_or_v (p := (ev Γ c, evOr Γ (.cons c2 cs))) h1.1 h2.1, s_or_t (p := (ev Γ c, evOr Γ (.cons c2 cs))) h1.2 h2.2⟩
theorem i_sound {C : Ctx} {X : Cx} (G : Fit C Γ X k) : ∀ (c : CI) (tg e : Expr), okI C c tg e = true → PI X tg e (rdI X.K X.mg (evI Γ c))
  | .seq c, tg, e, h => by
    unfold okI at h
    exact i_seq (e_sound G c e h).1
  | .rng1 a, tg, e, h => by
    unfold okI at h
    split at h
    · simp only [Bool.and_eq_true, decide_eq_true_eq] at h
      obtain ⟨⟨⟨h1, rfl⟩, h2⟩, h3⟩ := h
      obtain ⟨g1, g2, _, _⟩ := G.bl h1
      exact i_rng1 g1 g2 (e_sound G a _ h2).1 h3
    · cases h
  | .rng2 a b, tg, e, h => by
    unfold okI at h
    split at h
    · simp only [Bool.and_eq_true, decide_eq_true_eq] at h
      obtain ⟨⟨⟨⟨⟨h1, rfl⟩, h2⟩, h3⟩, h4⟩, h5⟩ := h
      obtain ⟨g1, g2, _, _⟩ := G.bl h1
      exact i_rng2 g1 g2 (e_sound G a _ h2).1 (e_sound G b _ h4).1 h3 h5
    · cases h
  | .rng3 a b c, tg, e, h => by unfold okI at h; cases h
  | .zip2 a b, tg, e, h => by
    unfold okI at h
    split at h
    · simp only [Bool.and_eq_true, decide_eq_true_eq] at h
      obtain ⟨⟨⟨⟨⟨h1, rfl⟩, h2⟩, h3⟩, h4⟩, h5⟩ := h
      obtain ⟨g1, g2, _, _⟩ := G.bl h1
      exact i_zip G.calm g1 g2 (e_sound G a _ h2).1 (e_sound G b _ h4).1 h3 h5
    · cases h
  | .enum a, tg, e, h => by
    unfold okI at h
    split at h
    · simp only [Bool.and_eq_true, decide_eq_true_eq] at h
      obtain ⟨⟨⟨h1, rfl⟩, h2⟩, h3⟩ := h
      obtain ⟨g1, g2, _, _⟩ := G.bl h1
      exact i_enum g1 g2 (e_sound G a _ h2).1 h3
    · cases h
  | .keys d, tg, e, h => by
    unfold okI at h
    exact i_keys (e_sound G d e h).1
  | .items d, tg, e, h => by
    unfold okI at h
    split at h
    · simp only [Bool.and_eq_true, decide_eq_true_eq] at h
      obtain ⟨⟨rfl, h2⟩, h3⟩ := h
      exact i_items (e_sound G d _ h2).1 rfl h3
    · cases h
  | .values d, tg, e, h => by
    unfold okI at h
    split at h
    · simp only [Bool.and_eq_true, decide_eq_true_eq] at h
      obtain ⟨⟨rfl, h2⟩, h3⟩ := h
      exact i_values (e_sound G d _ h2).1 rfl h3
    · cases h
end
end
end FW

namespace FW
open PySem PySem.Spec PyProof.Rows L2 RZ

def isComp : Expr → Bool
  | .ListComp _ _ _ _ => true
  | .SetComp _ _ _ _ => true
  | .DictComp _ _ _ _ _ => true
  | _ => false
theorem sw_plain {v : Expr} {t : Option Expr} {l : Nat} {env : Env} (h : isComp v = false) : swapsWith v t l env = pure false := by
  cases v <;> first | rfl | simp [isComp] at h
theorem sw_tup {v : Expr} {es : List Expr} {k : Nat} {p : Pos} {l : Nat} {env : Env} : swapsWithSole [.Tuple es k p] v l env = pure false := by
  show swapsWith v (some (.Tuple es k p)) l env = pure false
  cases v <;> rfl
theorem sw_cell {elt : Expr} {gs : List Comprehension} {scope : Scope} {pos py : Pos} {y : PySem.Str} {l : Nat} {env : Env} (hy : env.scope.names.lookup y = some .cell) : swapsWith (.ListComp elt gs scope pos) (some (.Name y py)) l env = pure false := by
  have ky : env.kindOf y = some .cell := hy
  have e : (NameKind.cell == NameKind.local) = false := by decide
  unfold swapsWith
  simp [ky, e]
theorem any_star {g : Expr → Bool} (hg : ∀ e, noStar e = true → g e = false) : ∀ {vs : List Expr}, vs.all noStar = true → vs.any g = false
  | [], _ => rfl
  | v :: vs, h => by
    rw [List.all_cons, Bool.and_eq_true] at h
    rw [List.any_cons, any_star hg h.2, hg v h.1]; rfl
def nmOf (sc : Scope) (line : Nat) : Expr → Option PySem.Str
  | .Name id pos => if (sc.names.lookup id == some .local && pos.line == line) = true then some id else none
  | _ => none
theorem fm_eq {g h : Expr → Option PySem.Str} (e : ∀ x, g x = h x) (ts : List Expr) : ts.filterMap g = ts.filterMap h := by
  have : g = h := funext e
  rw [this]
def nmsOf (sc : Scope) (ts : List Expr) : List PySem.Str := ts.filterMap (nmOf sc ((ts.head?.map (·.pos.line)).getD 0))
theorem sw_names {ts vs : List Expr} {k k2 : Nat} {p p2 : Pos} {env : Env} (hb : env.blockKind = .function) (hl : (ts.length == 2 || ts.length == 3) = true) (hv : (vs.length == ts.length) = true) (hs : vs.all noStar = true)
   (hc : (vs.all (foldedForSure 8)) = false) (hc2 : (vs.all (constantsAlone 8)) = false) :
   swappedStores [.Tuple ts k p] (.Tuple vs k2 p2) env = pure (if ((nmsOf env.scope ts).length != ts.length || (nmsOf env.scope ts).eraseDups.length != (nmsOf env.scope ts).length) = true then none else some (nmsOf env.scope ts)) := by
  have h1 : (!(ts.length == 2 || ts.length == 3) || vs.length != ts.length || env.blockKind != .function) = false := by
    rw [hb, hl]
    have : vs.length = ts.length := by simpa using hv
    rw [this]
    simp
  unfold swappedStores
  simp only [h1, hc, hc2, Bool.false_eq_true, if_false]
  rw [any_star (by intro e he; cases e <;> first | rfl | simp [noStar] at he) hs]
  simp only [Bool.false_eq_true, if_false]
  rw [fm_eq (h := nmOf env.scope ((ts.head?.map (·.pos.line)).getD 0)) (by intro x; cases x <;> rfl) ts]
  unfold nmsOf
  split <;> rfl
theorem sw_folded {ts vs : List Expr} {k k2 : Nat} {p p2 : Pos} {env : Env} (hs : vs.all noStar = true)
   (hc : (vs.all (foldedForSure 8)) = true) :
   swappedStores [.Tuple ts k p] (.Tuple vs k2 p2) env = pure none := by
  unfold swappedStores
  simp only [hc, Bool.false_eq_true, if_false, if_true]
  rw [any_star (by intro e he; cases e <;> first | rfl | simp [noStar] at he) hs]
  simp only [Bool.false_eq_true, if_false]
  split
  · rfl
  · split <;> rfl
theorem sw_long {ts vs : List Expr} {k k2 : Nat} {p p2 : Pos} {env : Env} (hl : (!(ts.length == 2 || ts.length == 3) || vs.length != ts.length) = true) :
   swappedStores [.Tuple ts k p] (.Tuple vs k2 p2) env = pure none := by
  unfold swappedStores
  simp only [hl, Bool.true_or, if_true]
theorem sw_noTup {t v : Expr} {env : Env} (h : (match v with | .Tuple _ _ _ => false | _ => true) = true) : swappedStores [t] v env = pure none := by
  cases v <;> first | (cases t <;> rfl) | simp at h

def fnK (C : Ctx) : Bool := match C.sc.kind with
  | .function => true
  | _ => false
def swapB (C : Ctx) (ts vs : List Expr) : Bool :=
  fnK C && (ts.length == 2 || ts.length == 3) && (vs.length == ts.length) && vs.all noStar && !(vs.all (foldedForSure 8)) && !(vs.all (constantsAlone 8)) &&
  !((nmsOf C.sc ts).length != ts.length || (nmsOf C.sc ts).eraseDups.length != (nmsOf C.sc ts).length)
def noSwapB (C : Ctx) (ts vs : List Expr) : Bool :=
  (!(ts.length == 2 || ts.length == 3) || vs.length != ts.length) || (vs.all noStar && vs.all (foldedForSure 8)) ||
  (fnK C && (ts.length == 2 || ts.length == 3) && (vs.length == ts.length) && vs.all noStar && !(vs.all (foldedForSure 8)) && !(vs.all (constantsAlone 8)) &&
  ((nmsOf C.sc ts).length != ts.length || (nmsOf C.sc ts).eraseDups.length != (nmsOf C.sc ts).length))
section
variable {C : Ctx} {Γ : List (PySem.Str × Fn)} {X : Cx} {k : Nat}
theorem Fit.bk (G : Fit C Γ X k) (h : fnK C = true) : X.env.scope.kind = .function := by
  rw [G.sc]
  unfold fnK at h
  split at h
  · assumption
  · cases h
theorem bk_of {env : Env} (h : env.scope.kind = .function) : env.blockKind = .function := by unfold Env.blockKind; rw [h]; rfl
theorem swapB_ok {ts vs : List Expr} {j j2 : Nat} {p p2 : Pos} (G : Fit C Γ X k) (h : swapB C ts vs = true) : swappedStores [.Tuple ts j p] (.Tuple vs j2 p2) X.env = pure (some (nmsOf C.sc ts)) := by
  simp only [swapB, Bool.and_eq_true, Bool.not_eq_true'] at h
  obtain ⟨⟨⟨⟨⟨⟨h1, h2⟩, h3⟩, h4⟩, h5⟩, h6⟩, h7⟩ := h
  rw [sw_names (bk_of (G.bk h1)) h2 h3 h4 h5 h6, G.sc, h7]
  rfl
theorem noSwapB_ok {ts vs : List Expr} {j j2 : Nat} {p p2 : Pos} (G : Fit C Γ X k) (h : noSwapB C ts vs = true) : swappedStores [.Tuple ts j p] (.Tuple vs j2 p2) X.env = pure none := by
  simp only [noSwapB, Bool.or_eq_true (_ || _) _, Bool.or_eq_true (!_ || _) (_ && _)] at h
  rcases h with (h | h) | h
  · exact sw_long h
  · rw [Bool.and_eq_true] at h
    exact sw_folded h.1 h.2
  · simp only [Bool.and_eq_true, Bool.not_eq_true'] at h
    obtain ⟨⟨⟨⟨⟨⟨h1, h2⟩, h3⟩, h4⟩, h5⟩, h6⟩, h7⟩ := h
    rw [sw_names (bk_of (G.bk h1)) h2 h3 h4 h5 h6, G.sc, h7]
    rfl
end
def okSet (C : Ctx) (i : Nat) (e : CE) (x : PySem.Str) (px : Pos) (v : Expr) : Bool :=
  decide (C.N[i]? = some x) && locB C x && stB C x && okE C e v && (match v with
    | .ListComp _ gs scope pos => fnK C && ((decide (C.sc.names.lookup x = some .cell)) || (lclB C x && (px.line == pos.line) && !(scope.names.any fun (n, k) => n == x && (k == .local || k == .cell)) && (match e with
      | .comp _ _ _ _ _ _ => true
      | .comp2 _ _ _ _ _ _ _ _ _ _ => true
      | _ => false)))
    | .DictComp _ _ gs scope pos => fnK C && ((decide (C.sc.names.lookup x = some .cell)) || (lclB C x && (px.line == pos.line) && !(scope.names.any fun (n, k) => n == x && (k == .local || k == .cell)) && (match e with
      | .dcomp _ _ _ _ _ _ => true
      | _ => false)))
    | v => !(isComp v))
def okNames (C : Ctx) : List Nat → List Expr → Bool
  | [], [] => true
  | i :: is, .Name x _ :: es => decide (C.N[i]? = some x) && locB C x && stB C x && okNames C is es
  | _, _ => false
mutual
def okS (C : Ctx) : CS → Stmt → Bool
  | .set i e, st => match st with
    | .Assign [.Name x px] v _ => okSet C i e x px v
    | _ => false
  | .unpack gs e, st => match st with
    | .Assign [.Tuple ts _ _] v _ => okGs C gs ts && okE C e v && (match v with
      | .Tuple vs _ _ => noSwapB C ts vs
      | _ => true)
    | _ => false
  | .par is es, st => match st with
    | .Assign [.Tuple [.Name x px, .Name y py] _ _] (.Tuple vs _ _) _ => (match is with
      | [i, j] => swapB C [.Name x px, .Name y py] vs && decide (C.N[i]? = some x) && decide (C.N[j]? = some y) && decide (i ≠ j) && lclB C x && lclB C y && okL C es vs
      | _ => false)
    | .Assign [.Tuple [.Name x px, .Name y py, .Name z pz] _ _] (.Tuple vs _ _) _ => (match is with
      | [i, j, l] => swapB C [.Name x px, .Name y py, .Name z pz] vs && decide (C.N[i]? = some x) && decide (C.N[j]? = some y) && decide (C.N[l]? = some z) && decide (i ≠ j) && decide (i ≠ l) && decide (j ≠ l) && lclB C x && lclB C y && lclB C z && okL C es vs
      | _ => false)
    | _ => false
  | .sub i a e, st => match st with
    | .Assign [.Subscript (.Name x _) y _] v _ => decide (C.N[i]? = some x) && visB C x && nameB x && okE C a y && plainIx y && okE C e v
    | _ => false
  | .put2 i a j b es, st => match st with
    | .Assign [.Tuple [.Subscript (.Name x px) y p1, .Subscript (.Name x2 py) y2 p2] _ _] (.Tuple [v1, v2] _ _) _ => decide (C.N[i]? = some x) && visB C x && nameB x && decide (C.N[j]? = some x2) && visB C x2 && nameB x2 && okE C a y && plainIx y && okE C b y2 && plainIx y2 && okL C es [v1, v2] && noSwapB C [.Subscript (.Name x px) y p1, .Subscript (.Name x2 py) y2 p2] [v1, v2]
    | _ => false
  | .aug i o e, st => match st with
    | .AugAssign (.Name x _) op v _ => decide (C.N[i]? = some x) && locB C x && stB C x && okE C e v && ((decide (op = .Add) && decide (o = .add)) || (decide (op = .Sub) && decide (o = .sub)))
    | _ => false
  | .augsub i a o e, st => match st with
    | .AugAssign (.Subscript (.Name x _) y _) op v _ => decide (C.N[i]? = some x) && visB C x && nameB x && okE C a y && plainIx y && okE C e v && ((decide (op = .Add) && decide (o = .add)) || (decide (op = .Sub) && decide (o = .sub)))
    | _ => false
  | .pop i, st => match st with
    | .Expr (.Call (.Attribute (.Name x _) m apos) [] [] cpos) _ => decide (m = "pop") && decide (C.N[i]? = some x) && visB C x && nameB x && (apos.endLine == cpos.line)
    | _ => false
  | .parG is es, st => match st with
    | .Assign [.Tuple ns _ _] (.Tuple vs _ _) _ => okNames C is ns && okL C es vs && noSwapB C ns vs && decide (ns.length ≤ 1000)
    | _ => false
  | .app i e, st => match st with
    | .Expr (.Call (.Attribute (.Name x _) m apos) [v] [] cpos) _ => decide (m = "append") && decide (C.N[i]? = some x) && visB C x && nameB x && okE C e v && noStar v && (apos.endLine == cpos.line)
    | _ => false
  | .expr e, st => match st with
    | .Expr v _ => okE C e v && !(isComp v)
    | _ => false
  | .ifs c a b, st => match st with
    | .If x y z _ => okE C c x && okB C a y && okB C b z
    | _ => false
  | .forr tg it body _, st => match st with
    | .For g i b [] _ => okG C tg g && okI C it g i && plainIter i && okB C body b
    | _ => false
  | .forl tg e body _, st => match st with
    | .For g i b [] _ => okG C tg g && okE C e i && plainIter i && okB C body b
    | _ => false
  | .whil c body _, st => match st with
    | .While x b [] _ => okE C c x && okB C body b
    | _ => false
  | .ret e, st => match st with
    | .Return (some v) _ => okE C e v
    | _ => false
  | .retN, st => match st with
    | .Return none _ => true
    | _ => false
  | .brk, st => match st with
    | .Break _ => true
    | _ => false
  | .cnt, st => match st with
    | .Continue _ => true
    | _ => false
  | .raise _ _, _ => true
  | .freeze _, _ => false
def okB (C : Ctx) : CB → List Stmt → Bool
  | .nil, sts => match sts with
    | [] => true
    | _ => false
  | .cons s r, sts => match s with
    | .freeze _ => okB C r sts
    | _ => match sts with
      | [] => false
      | st :: sts => okS C s st && okB C r sts
end
section
variable {C : Ctx} {Γ : List (PySem.Str × Fn)} {X : Cx} {k : Nat}
theorem s_never {st : Stmt} {f : FS} (h : ∀ ρ S r S', f ρ S ≠ .ok r S') : PS X st (rdS X.K X.mg f) := ⟨fun pins s σ H D I ⟨ι, F, S, ρ, r, S', _, _, hf, _⟩ => absurd hf (h ρ S r S')⟩
theorem set_sound (G : Fit C Γ X k) {i : Nat} {e : CE} {x : PySem.Str} {px pos : Pos} {v : Expr} (h : okSet C i e x px v = true) : PS X (.Assign [.Name x px] v pos) (rdS X.K X.mg (evS Γ (.set i e))) := by
  unfold okSet at h
  simp only [Bool.and_eq_true, decide_eq_true_eq] at h
  obtain ⟨⟨⟨⟨h1, h2⟩, h3⟩, h4⟩, h5⟩ := h
  have hE := e_sound G e v h4
  have h1' := G.ix h1
  show PS X _ (rdS X.K X.mg (sSet i (ev Γ e).v))
  split at h5
  · rename_i elt gs scope vpos
    simp only [Bool.and_eq_true, Bool.or_eq_true, decide_eq_true_eq, Bool.not_eq_true'] at h5
    obtain ⟨hk, h5⟩ := h5
    rcases h5 with h5 | ⟨⟨⟨h5, h6⟩, h7⟩, h8⟩
    · exact s_set G.nd h1' (G.loc h2) hE.1 (sw_cell (by rw [G.sc]; exact h5)) (G.st _ h3)
    · have hsw := sw_true (elt := elt) (gs := gs) (l := pos.line) (G.bk hk) (G.lcl h5) h6 h7
      split at h8
      · rename_i m own tg it c el
        unfold okE at h4
        split at h4
        · rename_i a g ii ifs scope' pos' heq
          cases heq
          simp only [Bool.and_eq_true, List.all_eq_true, decide_eq_true_eq] at h4
          obtain ⟨⟨⟨⟨⟨⟨k1, k2⟩, k3⟩, k4⟩, k5⟩, k6⟩, k7⟩ := h4
          have ok : BlkOk X.N X.env.scope scope (ownS C own) := by rw [G.N, G.sc]; exact blkOk_by k1
          have := s_setComp (X := X) (m := m) G.calm G.nd h1' (G.lcl h5) hsw ok (ts1 := slG tg) (by rw [ownS_2]; exact k2) (i_sound G it g ii k3)
            (fun s H D cl fp => (g_sound (G.blk s H scope D cl fp) tg g k5).1)
            (c := (ev Γ c).t) (fun s H D cl fp => tests_sound (e_sound (G.blk s H scope D cl fp) c) k6)
            (fun s H D cl fp => (e_sound (G.blk s H scope D cl fp) el _ k7).1) (plainIter_ok k4)
          rw [ownS_2] at this
          exact this
        · cases h4
      · rename_i m own own2 tg it c tg2 it2 c2 el
        unfold okE at h4
        split at h4
        · rename_i a g ii ifs g2 i2 ifs2 scope' pos' heq
          cases heq
          simp only [Bool.and_eq_true, List.all_eq_true, decide_eq_true_eq] at h4
          obtain ⟨⟨⟨⟨⟨⟨⟨⟨⟨⟨⟨⟨k1, k2⟩, k3⟩, k4⟩, k5⟩, k6⟩, k7⟩, k8⟩, k9⟩, k10⟩, k11⟩, k12⟩, k13⟩ := h4
          have ok : BlkOk X.N X.env.scope scope (ownS C own) := by rw [G.N, G.sc]; exact blkOk_by k1
          have := s_setComp2 (X := X) (m := m) G.calm G.nd h1' (G.lcl h5) hsw ok (own2 := own2) (ts1 := slG tg) (ts2 := slG tg2) (by rw [ownS_2]; exact k2) (by rw [ownS_2]; exact k3) k4 (i_sound G it g ii k5)
            (fun s H D cl fp => (g_sound (G.blk s H scope D cl fp) tg g k7).1)
            (c := (ev Γ c).t) (fun s H D cl fp => tests_sound (e_sound (G.blk s H scope D cl fp) c) k8)
            (fun s H D cl fp => i_sound (G.blk s H scope D cl fp) it2 g2 i2 k9)
            (fun s H D cl fp => (g_sound (G.blk s H scope D cl fp) tg2 g2 k11).1)
            (c2 := (ev Γ c2).t) (fun s H D cl fp => tests_sound (e_sound (G.blk s H scope D cl fp) c2) k12)
            (fun s H D cl fp => (e_sound (G.blk s H scope D cl fp) el _ k13).1) (plainIter_ok k6) (fun env => plainIter_ok k10)
          rw [ownS_2] at this
          exact this
        · cases h4
      · cases h8
  · rename_i kx vx gs scope vpos
    simp only [Bool.and_eq_true, Bool.or_eq_true, decide_eq_true_eq, Bool.not_eq_true'] at h5
    obtain ⟨hk, h5⟩ := h5
    rcases h5 with h5 | ⟨⟨⟨h5, h6⟩, h7⟩, h8⟩
    · exact s_set G.nd h1' (G.loc h2) hE.1 (sw_cellD (by rw [G.sc]; exact h5)) (G.st _ h3)
    · have hsw := sw_trueD (kx := kx) (vx := vx) (gs := gs) (l := pos.line) (G.bk hk) (G.lcl h5) h6 h7
      split at h8
      · rename_i own tg it c ke xe
        unfold okE at h4
        split at h4
        · rename_i kx' vx' g ii ifs scope' pos' heq
          cases heq
          simp only [Bool.and_eq_true, List.all_eq_true, decide_eq_true_eq] at h4
          obtain ⟨⟨⟨⟨⟨⟨⟨k1, k2⟩, k3⟩, k4⟩, k5⟩, k6⟩, k7⟩, k8⟩ := h4
          have ok : BlkOk X.N X.env.scope scope (ownS C own) := by rw [G.N, G.sc]; exact blkOk_by k1
          have := s_setDcomp (X := X) G.calm G.nd h1' (G.lcl h5) hsw ok (ts1 := slG tg) (by rw [ownS_2]; exact k2) (i_sound G it g ii k3)
            (fun s H D cl fp => (g_sound (G.blk s H scope D cl fp) tg g k5).1)
            (c := (ev Γ c).t) (fun s H D cl fp => tests_sound (e_sound (G.blk s H scope D cl fp) c) k6)
            (fun s H D cl fp => (e_sound (G.blk s H scope D cl fp) ke _ k7).1)
            (fun s H D cl fp => (e_sound (G.blk s H scope D cl fp) xe _ k8).1) (plainIter_ok k4)
          rw [ownS_2] at this
          exact this
        · cases h4
      · cases h8
  · exact s_set G.nd h1' (G.loc h2) hE.1 (sw_plain (by simpa using h5)) (G.st _ h3)
theorem nms2 {x y : PySem.Str} {px py : Pos} (h : (nmsOf C.sc [.Name x px, .Name y py]).length = 2) : nmsOf C.sc [.Name x px, .Name y py] = [x, y] := by
  unfold nmsOf nmOf at h ⊢
  simp only [List.filterMap_cons, List.filterMap_nil] at h ⊢
  split at h <;> split at h <;> simp_all
theorem nms3 {x y z : PySem.Str} {px py pz : Pos} (h : (nmsOf C.sc [.Name x px, .Name y py, .Name z pz]).length = 3) : nmsOf C.sc [.Name x px, .Name y py, .Name z pz] = [x, y, z] := by
  unfold nmsOf nmOf at h ⊢
  simp only [List.filterMap_cons, List.filterMap_nil] at h ⊢
  split at h <;> split at h <;> split at h <;> simp_all
theorem swap_len {ts vs : List Expr} (h : swapB C ts vs = true) : (nmsOf C.sc ts).length = ts.length ∧ vs.length = ts.length := by
  simp only [swapB, Bool.and_eq_true, Bool.not_eq_true'] at h
  obtain ⟨⟨⟨⟨⟨⟨h1, h2⟩, h3⟩, h4⟩, h5⟩, h6⟩, h7⟩ := h
  rw [Bool.or_eq_false_iff] at h7
  exact ⟨by simpa using h7.1, by simpa using h3⟩
theorem names_sound (G : Fit C Γ X k) : ∀ {is : List Nat} {es : List Expr}, okNames C is es = true → NamesOk X es is
  | [], [], _ => .nil
  | [], _ :: _, h => by simp [okNames] at h
  | _ :: _, [], h => by simp [okNames] at h
  | i :: is, e :: es, h => by
    unfold okNames at h
    split at h
    · rename_i heq; cases heq
    · rename_i heq1 heq2
      cases heq1; cases heq2
      simp only [Bool.and_eq_true, decide_eq_true_eq] at h
      obtain ⟨⟨⟨h1, h2⟩, h3⟩, h4⟩ := h
      exact .cons (G.ix h1) (G.loc h2) (G.st _ h3) (names_sound G h4)
    · cases h
mutual
theorem s_sound (G : Fit C Γ X k) : ∀ (c : CS) (st : Stmt), okS C c st = true → PS X st (rdS X.K X.mg (evS Γ c))
  | .set i e, st, h => by
    unfold okS at h
    split at h
    · exact set_sound G h
    · cases h
  | .unpack gs e, st, h => by
    unfold okS at h
    split at h
    · rename_i ts k1 p1 v pos
      simp only [Bool.and_eq_true] at h
      obtain ⟨⟨h1, h2⟩, h3⟩ := h
      have hg := g_sound G (.tup gs) (.Tuple ts k1 p1) (by unfold okG; exact h1)
      refine s_unpack (e_sound G e v h2).1 hg.1 sw_tup ?_ rfl
      split at h3
      · exact noSwapB_ok G h3
      · rename_i hne
        refine sw_noTup ?_
        split
        · exact absurd rfl (hne _ _ _)
        · rfl
    · cases h
  | .par is es, st, h => by
    unfold okS at h
    split at h
    · rename_i x px y py k1 p1 vs k2 p2 pos
      split at h
      · rename_i i j
        simp only [Bool.and_eq_true, decide_eq_true_eq] at h
        obtain ⟨⟨⟨⟨⟨⟨h1, h2⟩, h3⟩, h4⟩, h5⟩, h6⟩, h7⟩ := h
        have hw := swapB_ok (j := k1) (p := p1) (j2 := k2) (p2 := p2) G h1
        have hl := swap_len h1
        rw [nms2 hl.1] at hw
        match vs, hl.2, h7, hw with
        | [a, b], _, h7, hw => exact s_par G.calm G.nd (G.ix h2) (G.ix h3) h4 (G.lcl h5) (G.lcl h6) (l_sound G es _ h7) hw
      · cases h
    · rename_i x px y py z pz k1 p1 vs k2 p2 pos
      split at h
      · rename_i i j l
        simp only [Bool.and_eq_true, decide_eq_true_eq] at h
        obtain ⟨⟨⟨⟨⟨⟨⟨⟨⟨⟨h1, h2⟩, h3⟩, h4⟩, h5⟩, h6⟩, h7⟩, h8⟩, h9⟩, h10⟩, h11⟩ := h
        have hw := swapB_ok (j := k1) (p := p1) (j2 := k2) (p2 := p2) G h1
        have hl := swap_len h1
        rw [nms3 hl.1] at hw
        match vs, hl.2, h11, hw with
        | [a, b, c], _, h11, hw => exact s_par3 G.calm G.nd (G.ix h2) (G.ix h3) (G.ix h4) h5 h6 h7 (G.lcl h8) (G.lcl h9) (G.lcl h10) (l_sound G es _ h11) hw
      · cases h
    · cases h
  | .sub i a e, st, h => by
    unfold okS at h
    split at h
    · simp only [Bool.and_eq_true, decide_eq_true_eq] at h
      obtain ⟨⟨⟨⟨⟨h1, h2⟩, h3⟩, h4⟩, h5⟩, h6⟩ := h
      exact s_sub (by have := G.hu; omega) (G.ix h1) (G.vis h2) (nameB_ok h3).1 (nameB_ok h3).2 (e_sound G a _ h4).1 h5 (e_sound G e _ h6).1
    · cases h
  | .put2 i a j b es, st, h => by
    unfold okS at h
    split at h
    · simp only [Bool.and_eq_true, decide_eq_true_eq] at h
      obtain ⟨⟨⟨⟨⟨⟨⟨⟨⟨⟨⟨h1, h2⟩, h3⟩, h4⟩, h5⟩, h6⟩, h7⟩, h8⟩, h9⟩, h10⟩, h11⟩, h12⟩ := h
      exact s_put2 G.calm (by have := G.hu; omega) (G.ix h1) (G.vis h2) (nameB_ok h3).1 (nameB_ok h3).2 (G.ix h4) (G.vis h5) (nameB_ok h6).1 (nameB_ok h6).2 (e_sound G a _ h7).1 h8 (e_sound G b _ h9).1 h10 (l_sound G es _ h11) (noSwapB_ok G h12)
    · cases h
  | .aug i o e, st, h => by
    unfold okS at h
    split at h
    · simp only [Bool.and_eq_true, Bool.or_eq_true, decide_eq_true_eq] at h
      obtain ⟨⟨⟨⟨h1, h2⟩, h3⟩, h4⟩, h5⟩ := h
      rcases h5 with ⟨rfl, rfl⟩ | ⟨rfl, rfl⟩
      · exact s_aug_add G.nd (G.ix h1) (G.loc h2) (e_sound G e _ h4).1 (G.st _ h3)
      · exact s_aug_sub G.nd (G.ix h1) (G.loc h2) (e_sound G e _ h4).1 (G.st _ h3)
    · cases h
  | .augsub i a o e, st, h => by
    unfold okS at h
    split at h
    · simp only [Bool.and_eq_true, Bool.or_eq_true, decide_eq_true_eq] at h
      obtain ⟨⟨⟨⟨⟨⟨h1, h2⟩, h3⟩, h4⟩, h5⟩, h6⟩, h7⟩ := h
      exact s_augsub (by have := G.hu; omega) (G.ix h1) (G.vis h2) (nameB_ok h3).1 (nameB_ok h3).2 (e_sound G a _ h4).1 h5 (e_sound G e _ h6).1 h7
    · cases h
  | .pop i, st, h => by
    unfold okS at h
    split at h
    · simp only [Bool.and_eq_true, decide_eq_true_eq] at h
      obtain ⟨⟨⟨⟨rfl, h1⟩, h2⟩, h3⟩, h4⟩ := h
      exact s_pop (G.ix h1) (G.vis h2) (nameB_ok h3).1 (nameB_ok h3).2 h4
    · cases h
  | .parG is es, st, h => by
    unfold okS at h
    split at h
    · simp only [Bool.and_eq_true, decide_eq_true_eq] at h
      obtain ⟨⟨⟨h1, h2⟩, h3⟩, h4⟩ := h
      exact s_parG h4 G.calm G.nd (names_sound G h1) (l_sound G es _ h2) sw_tup (noSwapB_ok G h3)
    · cases h
  | .app i e, st, h => by
    unfold okS at h
    split at h
    · simp only [Bool.and_eq_true, decide_eq_true_eq] at h
      obtain ⟨⟨⟨⟨⟨⟨rfl, h1⟩, h2⟩, h3⟩, h4⟩, h5⟩, h6⟩ := h
      exact s_app (G.ix h1) (G.vis h2) (nameB_ok h3).1 (nameB_ok h3).2 (e_sound G e _ h4).1 h5 h6
    · cases h
  | .expr e, st, h => by
    unfold okS at h
    split at h
    · simp only [Bool.and_eq_true, Bool.not_eq_true'] at h
      exact s_expr (e_sound G e _ h.1).1 (sw_plain h.2)
    · cases h
  | .ifs c a b, st, h => by
    unfold okS at h
    split at h
    · simp only [Bool.and_eq_true] at h
      exact s_if (e_sound G c _ h.1.1).2 (b_sound G a _ h.1.2) (b_sound G b _ h.2)
    · cases h
  | .forr tg it body w, st, h => by
    unfold okS at h
    split at h
    · simp only [Bool.and_eq_true] at h
      obtain ⟨⟨⟨h1, h2⟩, h3⟩, h4⟩ := h
      exact s_for G.hp G.calm (i_sound G it _ _ h2) (g_sound G tg _ h1).1 (b_sound G body _ h4) (plainIter_ok h3)
    · cases h
  | .forl tg e body w, st, h => by
    unfold okS at h
    split at h
    · simp only [Bool.and_eq_true] at h
      obtain ⟨⟨⟨h1, h2⟩, h3⟩, h4⟩ := h
      exact s_forl G.hp G.calm (e_sound G e _ h2).1 (g_sound G tg _ h1).1 (b_sound G body _ h4) (plainIter_ok h3)
    · cases h
  | .whil c body w, st, h => by
    unfold okS at h
    split at h
    · simp only [Bool.and_eq_true] at h
      exact s_while G.hp (e_sound G c _ h.1).2 (b_sound G body _ h.2)
    · cases h
  | .ret e, st, h => by
    unfold okS at h
    split at h
    · exact s_ret (e_sound G e _ h).1
    · cases h
  | .retN, st, h => by
    unfold okS at h
    split at h
    · exact s_retN
    · cases h
  | .brk, st, h => by
    unfold okS at h
    split at h
    · exact s_brk
    · cases h
  | .cnt, st, h => by
    unfold okS at h
    split at h
    · exact s_cnt
    · cases h
  | .raise c es, st, h => s_never fun ρ S r S' hh => by
    obtain ⟨xs, S1, _, hh⟩ := bind_ok (show Out.bind _ _ = _ from hh)
    split at hh <;> cases hh
  | .freeze _, st, h => by unfold okS at h; cases h
theorem b_sound (G : Fit C Γ X k) : ∀ (c : CB) (sts : List Stmt), okB C c sts = true → PSs X sts (rdS X.K X.mg (evB Γ c))
  | .nil, sts, h => by
    unfold okB at h
    split at h
    · exact s_nilB
    · cases h
  | .cons s r, sts, h => by
    unfold okB at h
    split at h
    · exact s_freeze (b_sound G r sts h)
    · split at h
      · cases h
      · rw [Bool.and_eq_true] at h
        exact s_consB (s_sound G s _ h.1) (b_sound G r _ h.2)
end

variable {K : PySem.W.Frag} {mg : PySem.Str → Option Value} {F H : Hp} {ι ι' : Plc} {S S' : Store}
theorem leave_ok {S0 : Store} {ι0 : Plc} {F0 : Hp} {x y : SV} {v : V} {Q : V → Hp → Prop} (hl : ι0.l.length = S0.length) (ex : Ext ι0 F0 ι F) (s : Sim K mg ι F S H) (r : RepS K mg F ι x v) (h : leave S0.length x S = .ok y S')
    (q : ∀ ι' F' w H', Ext ι0 F0 ι' F' → Sim K mg ι' F' S' H' → RepS K mg F' ι' y w → Q w H') : Q v H := by
  have tk : ∀ {F1 : Hp}, Sub F0 F1 → Ext ι0 F0 ⟨ι.l.take S0.length, ι.w⟩ F1 := fun {F1} hs => by
    obtain ⟨⟨⟨t, e1⟩, e2⟩, e3⟩ := ex
    refine ⟨⟨⟨[], ?_⟩, e2⟩, hs⟩
    show ι.l.take S0.length = _
    rw [e1, ← hl, List.take_left, List.append_nil]
  unfold leave at h
  cases x with
  | v x =>
    cases h
    exact q _ _ _ _ (tk ex.2) (s.take _) r
  | l m =>
    simp only at h
    split at h
    · rename_i hm
      cases h
      obtain ⟨p, h1, rfl⟩ := r
      refine q _ _ _ _ (tk ex.2) (s.take _) ⟨p, ?_, rfl⟩
      show (ι.l.take S0.length)[m]? = _
      rw [List.getElem?_take_of_lt hm]; exact h1
    · rename_i hm
      split at h
      · rename_i xs hS
        cases h
        obtain ⟨a, vs, h1, s2, e2, r2⟩ := s.shut hS
        obtain ⟨p, h3, rfl⟩ := r
        rw [h1] at h3; cases h3
        have s3 := s2.take S0.length
        have e : (S.set m Ob.gone).take S0.length = S.take S0.length := by
          rw [List.take_set_of_le (by omega)]
        rw [e] at s3
        exact q _ _ _ _ (tk (ex.2.trans e2.2)) s3 r2
      · rename_i kvs hS
        cases h
        obtain ⟨p, h3, rfl⟩ := r
        obtain ⟨a, o, h1, h2, h4, ws, e2, h5⟩ := s.at_ m _ hS
        rw [h3] at h1; cases h1
        subst e2
        have s3 := s.take S0.length
        have hmem : p ∈ ι.l := List.mem_of_getElem? h3
        have hw : ι.w p = none := by
          cases e : ι.w p with
          | none => rfl
          | some o => exact absurd hmem (s.frm _ _ e).2.2
        have hnot : p ∉ ι.l.take S0.length := fun hp => by
          obtain ⟨j, hj⟩ := List.getElem?_of_mem hp
          have hjl : j < S0.length := by
            have := (List.getElem?_eq_some_iff.mp hj).1
            simp at this; omega
          rw [List.getElem?_take_of_lt hjl] at hj
          obtain ⟨l1, e1⟩ := List.getElem?_eq_some_iff.mp hj
          obtain ⟨l2, e2⟩ := List.getElem?_eq_some_iff.mp h3
          have := (List.getElem_inj s.nd).mp (e1.trans e2.symm)
          omega
        obtain ⟨s4, e4⟩ := s3.enterO (x := .dic kvs) h2 h4 hnot hw ⟨h4, ws, rfl, h5⟩
        refine q _ _ _ _ ((tk ex.2).trans e4) s4 ⟨p, ?_, rfl⟩
        show (ι.l.take S0.length ++ [p])[S0.length]? = _
        have : (ι.l.take S0.length).length = S0.length := by
          rw [List.length_take, s.len]
          have := (List.getElem?_eq_some_iff.mp hS).1
          omega
        rw [List.getElem?_append_right (by omega), this]
        simp
      · cases h
theorem start_rep {N : List PySem.Str} : ∀ {xs : List SV} {vs : List V}, RepSs K mg F ι xs vs → RepR K mg F ι (xs.map some ++ List.replicate (N.length - xs.length) none) (L2.start N vs) := by
  intro xs vs r
  have hl := r.length
  refine ⟨by simp [L2.start, hl], fun i x h => ?_⟩
  by_cases hi : i < xs.length
  · rw [List.getElem?_append_left (by simpa using hi)] at h
    rw [List.getElem?_map] at h
    cases hx : xs[i]? with
    | none => rw [hx] at h; cases h
    | some z =>
      rw [hx] at h
      cases h
      obtain ⟨v, h1, h2⟩ := r.get hx
      refine ⟨v, ?_, h2⟩
      unfold L2.start
      rw [List.getElem?_append_left (by simp; omega), List.getElem?_map, h1]
      rfl
  · rw [List.getElem?_append_right (by simpa using hi), List.getElem?_replicate] at h
    split at h <;> cases h
theorem fnSem_inv {d : Def} {xs : List SV} {y : SV} (h : fnSem Γ d xs S = .ok y S') : xs.length = d.np ∧ ∃ r S1, evB Γ d.body (xs.map some ++ List.replicate (d.ns - d.np) none) S = .ok r S1 ∧
    ((∃ x, r = .ret x ∧ leave S.length x S1 = .ok y S') ∨ (∃ ρ, r = .next ρ ∧ leave S.length (.v .non) S1 = .ok y S')) := by
  unfold fnSem at h
  split at h
  · rename_i hl
    refine ⟨hl, ?_⟩
    split at h
    · exact ⟨_, _, by assumption, .inl ⟨_, rfl, h⟩⟩
    · exact ⟨_, _, by assumption, .inr ⟨_, rfl, h⟩⟩
    · cases h
    · cases h
    · cases h
  · cases h
def FOs (P : Program) (w : World) (K : PySem.W.Frag) (mg : PySem.Str → Option Value) (base : Heap) (k : Nat) : List PySem.Str → List (PySem.Str × Fn) → Prop
  | [], [] => True
  | n :: ns, f :: fs => (f.1 = n ∧ FO P w K mg base k n f.2) ∧ FOs P w K mg base k ns fs
  | _, _ => False
section
variable {P : Program} {w : World} {base : Heap}
theorem FOs.get {k : Nat} : ∀ {ns : List PySem.Str} {Γ : List (PySem.Str × Fn)}, FOs P w K mg base k ns Γ → ∀ (i : Nat) (n : PySem.Str), ns[i]? = some n → ∃ f, Γ[i]? = some (n, f) ∧ FO P w K mg base k n f
  | [], [], _, i, n, h => by simp at h
  | [], _ :: _, h, _, _, _ => h.elim
  | _ :: _, [], h, _, _, _ => h.elim
  | m :: ns, (m', f) :: fs, ⟨⟨h0, h1⟩, h2⟩, 0, n, h => by
    have h0 : m' = m := h0
    subst h0
    simp at h; subst h; exact ⟨f, rfl, h1⟩
  | m :: ns, f :: fs, ⟨h1, h2⟩, i + 1, n, h => by simpa using FOs.get h2 i n (by simpa using h)
theorem FOs.look {k : Nat} : ∀ {ns : List PySem.Str} {Γ : List (PySem.Str × Fn)}, FOs P w K mg base k ns Γ → ∀ (n : PySem.Str) (f : Fn), Γ.lookup n = some f → FO P w K mg base k n f
  | [], [], _, n, f, h => by cases h
  | [], _ :: _, h, _, _, _ => h.elim
  | _ :: _, [], h, _, _, _ => h.elim
  | m :: ns, (m', g) :: fs, ⟨⟨h0, h1⟩, h2⟩, n, f, h => by
    have h0 : m' = m := h0
    subst h0
    rw [List.lookup_cons] at h
    split at h
    · rename_i he
      cases h
      rw [eq_of_beq he]; exact h1
    · exact FOs.look h2 n f h
end
theorem fn_mk {P : Program} {w : World} {base : Heap} {x qual : PySem.Str} {params : Arguments} {body : List Stmt} {scope : Scope} {f : Addr} {fd : FuncData} {ps : List PySem.Str} {k : Nat} {d : Def} {C : Ctx}
    (F : FunD K x qual params body scope [] [] f fd) (S : FnScope C.N ps scope) (hsc : C.sc = scope) (hnp : d.np = ps.length) (hns : d.ns = C.N.length)
    (ok : okB C d.body body = true) (hfo : FOs P w K mg base k C.fs Γ) (hglob : ∀ p ∈ C.glob, GlobOk K mg p.1 p.2) (hblt : ∀ n ∈ C.blt, mg n = none) :
    FnOk P w K mg base CX0 (k + 1) f fd ps (fun vs H Q _ => rdV K mg (fnSem Γ d) vs H Q) := by
  have len : ∀ (vs : List V) (H : Hp) (Q : VK) (E : XK), rdV K mg (fnSem Γ d) vs H Q → vs.length = ps.length := fun vs H Q E h => by
    obtain ⟨ι, F, S, xs, y, S', sim, r, hf, q⟩ := h
    rw [← r.length, (fnSem_inv hf).1, hnp]
  refine F.ok S len fun cdv A outer s H vs Q E hr hsp => ?_
  obtain ⟨ι, F0, S0, xs, y, S', sim, r, hf, q⟩ := hsp
  obtain ⟨hx, fl, S1, hbody, hres⟩ := fnSem_inv hf
  have G : Fit C Γ (cxOf CX0 P w K mg base C.N qual scope f cdv A outer s H E).nox k :=
    { N := rfl, nd := S.nd, sc := hsc.symm, calm := rfl, xe := rfl, room := hr, st := fun _ _ => .inl rfl, fo := hfo.get, fl := hfo.look, glob := hglob, blt := hblt }
  refine ⟨_, (b_sound G d.body body ok).nox, ι, F0, S0, _, fl, S1, sim, ?_, hbody, fun ι1 F1 H1 e1 s1 => ?_⟩
  · have := start_rep (N := C.N) r
    rw [hx, ← hns] at this
    exact this
  · rcases hres with ⟨z, rfl, hz⟩ | ⟨ρ, rfl, hz⟩
    · exact fun v rv => leave_ok sim.len e1 s1 rv hz q
    · exact fun σ rr => leave_ok (v := .non) sim.len e1 s1 (show RepS K mg F1 ι1 (.v .non) .non from rfl) hz q
theorem fo_mk {P : Program} {w : World} {base : Heap} {x qual : PySem.Str} {params : Arguments} {body : List Stmt} {scope : Scope} {f : Addr} {fd : FuncData} {ps : List PySem.Str} {k : Nat} {d : Def} {C : Ctx} {name : PySem.Str}
    (F : FunD K x qual params body scope [] [] f fd) (hb : Binds K fd ps []) (hmg : mg name = some (.ref f)) (S : FnScope C.N ps scope) (hsc : C.sc = scope) (hnp : d.np = ps.length) (hns : d.ns = C.N.length)
    (ok : okB C d.body body = true) (hfo : FOs P w K mg base k C.fs Γ) (hglob : ∀ p ∈ C.glob, GlobOk K mg p.1 p.2) (hblt : ∀ n ∈ C.blt, mg n = none) :
    FO P w K mg base (k + 1) name (fnSem Γ d) := ⟨f, fd, ps, hmg, F.kp, hb, fn_mk F S hsc hnp hns ok hfo hglob hblt⟩
end
end FW

namespace FW
open PySem PySem.Spec PyProof.Rows L2 RZ

mutual
/-- the value stands for x, by the kept part of the heap -/
def repB (K : PySem.W.Frag) : PV → Value → Bool
  | .non, .none => true
  | .bl a, .bool b => a == b
  | .int i, .int j _ => decide (i = j)
  | .str s, .str t _ => decide (s = t) && PyData.strOk s
  | .tup xs, .ref p => match K.lookup p with
    | some ⟨.type c, none, .seq its _, _⟩ => decide (c = "tuple") && (decide (its.size ≤ sizeLine) && repBs K xs its.toList)
    | _ => false
  | _, _ => false
def repBs (K : PySem.W.Frag) : List PV → List Value → Bool
  | [], [] => true
  | x :: xs, u :: us => repB K x u && repBs K xs us
  | _, _ => false
end
section
variable {K : PySem.W.Frag} {mg : PySem.Str → Option Value}
mutual
theorem repB_ok : ∀ {x : PV} {u : Value}, repB K x u = true → ∃ v, RelV v u ∧ Rep K mg (fun _ => none) x v ∧ TupK K x v
  | .non, u, h => by
    cases u <;> simp [repB] at h
    exact ⟨.non, rfl, rfl, trivial⟩
  | .bl a, u, h => by
    cases u <;> simp [repB] at h
    subst h
    exact ⟨.bl a, rfl, rfl, trivial⟩
  | .int i, u, h => by
    cases u <;> simp [repB] at h
    subst h
    exact ⟨.int i, ⟨_, rfl⟩, rfl, trivial⟩
  | .str s, u, h => by
    cases u <;> simp [repB] at h
    obtain ⟨rfl, h⟩ := h
    exact ⟨.str s, ⟨_, rfl⟩, ⟨rfl, h⟩, trivial⟩
  | .tup xs, u, h => by
    cases u <;> try (simp [repB] at h; done)
    rename_i p
    unfold repB at h
    split at h
    · rename_i c its n sl hk
      rw [Bool.and_eq_true, Bool.and_eq_true, decide_eq_true_eq, decide_eq_true_eq] at h
      obtain ⟨rfl, h1, h2⟩ := h
      obtain ⟨vs, g1, g2⟩ := repBs_ok h2
      exact ⟨.ref p, rfl, ⟨p, vs, rfl, .inr ⟨_, its, n, hk, rfl, rfl, h1, g1⟩, g2⟩, p, _, rfl, hk, rfl, rfl⟩
    · cases h
  | .lst xs, u, h => by cases u <;> simp [repB] at h
  | .fn _, u, h => by cases u <;> simp [repB] at h
  | .dic _ _, u, h => by cases u <;> simp [repB] at h
theorem repBs_ok : ∀ {xs : List PV} {us : List Value}, repBs K xs us = true → ∃ vs, Vals vs us ∧ RepL K mg (fun _ => none) xs vs
  | [], us, h => by
    cases us <;> simp [repBs] at h
    exact ⟨[], .nil, rfl⟩
  | x :: xs, us, h => by
    cases us with
    | nil => simp [repBs] at h
    | cons u us =>
      simp only [repBs, Bool.and_eq_true] at h
      obtain ⟨v, a1, a2, _⟩ := repB_ok h.1
      obtain ⟨vs, b1, b2⟩ := repBs_ok h.2
      exact ⟨v :: vs, .cons a1 b1, v, vs, rfl, a2, b2⟩
end
end
def isIntV (k : Int) : Value → Bool
  | .int j _ => decide (j = k)
  | _ => false
def keysIB : List DictEntry → List PV → List PV → Bool
  | [], [], [] => true
  | e :: r, .int k :: ks, .int v :: vs => isIntV k e.key && decide (e.hash = hashInt k) && isIntV v e.val && keysIB r ks vs
  | _, _, _ => false
theorem isIntV_ok {k : Int} {u : Value} (h : isIntV k u = true) : ∃ t, u = .int k t := by
  unfold isIntV at h
  split at h
  · rename_i j t
    obtain rfl := of_decide_eq_true h
    exact ⟨t, rfl⟩
  · cases h
theorem keysIB_ok : ∀ {l : List DictEntry} {ks vs : List PV}, keysIB l ks vs = true → KeysI l ks vs
  | [], [], [], _ => ⟨rfl, rfl⟩
  | [], [], _ :: _, h => by simp [keysIB] at h
  | [], _ :: _, _, h => by simp [keysIB] at h
  | e :: r, ks, vs, h => by
    unfold keysIB at h
    split at h
    · rename_i h0; cases h0
    · rename_i e0 r0 k ks' v vs' h0
      cases h0
      simp only [Bool.and_eq_true, decide_eq_true_eq] at h
      obtain ⟨⟨⟨h1, h2⟩, h3⟩, h4⟩ := h
      obtain ⟨t, h1⟩ := isIntV_ok h1
      obtain ⟨t', h3⟩ := isIntV_ok h3
      exact ⟨k, v, t, t', ks', vs', rfl, rfl, h1, h2, h3, keysIB_ok h4⟩
    · cases h
def dicB (K : PySem.W.Frag) (ks vs : List PV) (d : Addr) : Bool := match K.lookup d with
  | some ⟨.type c, none, .dict es _, sl⟩ => decide (c = "dict") && decide (sl = #[]) && !(d == sysModules) && keysIB es.toList ks vs
  | _ => false
def constB (K : PySem.W.Frag) (p : PySem.Str × PV) : Bool := match PySem.W.nsIn K mainGlobals p.1 with
  | some (some u) => match p.2 with
    | .dic ks vs => match u with
      | .ref d => dicB K ks vs d
      | _ => false
    | x => repB K x u
  | _ => false
theorem constB_ok {K : PySem.W.Frag} {h : Heap} {mg : PySem.Str → Option Value} (X : K.In h) (G : h.Ns mainGlobals mg) {p : PySem.Str × PV} (c : constB K p = true) : GlobOk K mg p.1 p.2 := by
  obtain ⟨n, x⟩ := p
  unfold constB at c
  split at c
  · rename_i u e
    have val : repB K x u = true → notDic x = true → GlobOk K mg n x := fun c hx => by
      obtain ⟨v, h1, h2, h3⟩ := repB_ok (mg := mg) c
      have : ∃ u v, mg n = some u ∧ RelV v u ∧ Rep K mg (fun _ => none) x v ∧ TupK K x v := ⟨u, v, PySem.W.mg_of X G e, h1, h2, h3⟩
      cases x <;> first | exact this | cases hx
    cases x with
    | dic ks vs =>
      dsimp only at c
      split at c
      · rename_i d
        unfold dicB at c
        split at c
        · rename_i cc es m sl hk
          simp only [Bool.and_eq_true, decide_eq_true_eq, Bool.not_eq_true'] at c
          obtain ⟨⟨⟨rfl, rfl⟩, c3⟩, c4⟩ := c
          exact ⟨d, es, m, PySem.W.mg_of X G e, hk, c3, keysIB_ok c4⟩
        · cases c
      · cases c
    | non => exact val c rfl
    | bl _ => exact val c rfl
    | int _ => exact val c rfl
    | str _ => exact val c rfl
    | tup _ => exact val c rfl
    | lst _ => exact val c rfl
    | fn _ => exact val c rfl
  · cases c
def notList (o : Obj) : Bool := !(o.cls == .type "list")
def frN (g : Addr → Option Obj) (as : List Addr) : PySem.W.Frag := He.frG (fun a => (g a).filter notList) as
theorem frN_at {g : Addr → Option Obj} {as : List Addr} {a : Addr} {o : Obj} (h : (frN g as).lookup a = some o) : g a = some o ∧ notList o = true := by
  have := He.frG_at as h
  rw [Option.filter_eq_some_iff] at this
  exact this
abbrev AlF : Type := He.AlD × Bool
def obsF (fa : List He.Fa) (fn : List He.DefD) (gs : List (PySem.Str × PV)) (n : Nat) (g : Addr → Option Obj) : AlF :=
  (He.obsD fa fn (frN g (He.asD g n)), gs.all (constB (frN g (He.asD g n))))
structure SaysF (fa : List He.Fa) (fn : List He.DefD) (gs : List (PySem.Str × PV)) (K : PySem.W.Frag) : Prop where
  d : He.SaysD fa fn K
  g : gs.all (constB K) = true
  n : ∀ a o, K.lookup a = some o → notList o = true
def hookF (n : Nat) (fa : List He.Fa) (fn : List He.DefD) (gs : List (PySem.Str × PV)) : PySem.W.Hook where
  α := AlF
  obs := fun s => obsF fa fn gs n s.heap.get?
  val := fun _ => (He.valD fn, true)
  says := fun _ h => ∃ K : PySem.W.Frag, K.In h ∧ SaysF fa fn gs K
  of := fun _ _ e => ⟨_, fun _ _ z => (frN_at z).1, congrArg Prod.fst e, congrArg Prod.snd e, fun _ _ z => (frN_at z).2⟩
  keeps := fun _ _ _ ⟨K, hK, c⟩ k => ⟨K, PySem.W.Frag.In.keeps hK k, c⟩
theorem obsF_eq {n : Nat} {fa : List He.Fa} {fn : List He.DefD} {gs : List (PySem.Str × PV)} {g : Addr → Option Obj} {s : Shared} (h : ∀ a, g a = s.heap.get? a) : obsF fa fn gs n g = (hookF n fa fn gs).obs s := by
  have e : g = s.heap.get? := funext h
  rw [e] <;> rfl
theorem law_sp {K : PySem.W.Frag} {mg : PySem.Str → Option Value} {f : Fn} {H : Hp} {a : Addr} {ns : List Int} (hK : ∀ a o, K.lookup a = some o → notList o = true) (hS : SqL K H a (ns.map V.int)) (hf : ∃ S', f [.v (.lst (ns.map PV.int))] [] = .ok (.v (.bl true)) S') :
    rdV K mg f [.ref a] H fun v _ => v = .bl true := by
  have hr : Rd H a (.lst (ns.map V.int)) := by
    rcases hS with h | ⟨o, its, n, h1, h2, _⟩
    · exact h
    · have := hK a o h1
      rw [notList, h2] at this
      exact absurd this (by decide)
  obtain ⟨S', hf⟩ := hf
  have rep : ∀ (F : Hp) (ns : List Int), RepL K mg F (ns.map PV.int) (ns.map V.int) := by
    intro F ns
    induction ns with
    | nil => exact rfl
    | cons n ns ih => exact ⟨.int n, _, rfl, rfl, ih⟩
  have sim0 : ∀ u : HO, H a = some u → Sim K mg ⟨[], fun _ => none⟩ (upd (fun _ => none) a u) [] H := fun u h => by
    refine ⟨fun b o e => ?_, rfl, List.nodup_nil, fun b o e => (by cases e), fun n x e => by simp at e⟩
    by_cases hb : b = a
    · subst hb; rw [upd_same] at e; cases e; exact h
    · rw [upd_ne hb] at e; cases e
  have sim : ∃ F : Hp, Sim K mg ⟨[], fun _ => none⟩ F [] H ∧ Rd F a (.lst (ns.map V.int)) := by
    rcases hr with h | ⟨u, h⟩
    · exact ⟨_, sim0 _ h, .inl upd_same⟩
    · exact ⟨_, sim0 _ h, .inr ⟨u, upd_same⟩⟩
  obtain ⟨F, sim, hF⟩ := sim
  exact ⟨_, F, [], [.v (.lst (ns.map PV.int))], .v (.bl true), S', sim, ⟨.ref a, [], rfl, ⟨a, _, rfl, hF, rep F ns⟩, rfl⟩, hf, fun ι' F' v H' _ _ r => r⟩
end FW

namespace FW
open PySem PySem.Spec PyProof.Rows L2 RZ
abbrev faOf (glos blts : List PySem.Str) : List He.Fa := glos.map He.Fa.glo ++ blts.map He.Fa.free
section
variable {P : Program} {w : World} {K : PySem.W.Frag} {mg : PySem.Str → Option Value} {base h : Heap} {fa : List He.Fa} {fn : List He.DefD} {gs : List (PySem.Str × PV)} {glos blts : List PySem.Str}
theorem fact_mem (c : He.SaysD fa fn K) {f : He.Fa} (h : f ∈ fa) : f.ok K = true := by
  obtain ⟨i, hi⟩ := List.getElem?_of_mem h
  exact c.fact i hi
theorem glo_at (X : K.In h) (G : h.Ns mainGlobals mg) (c : He.SaysD (faOf glos blts) fn K) {n : PySem.Str} (hn : n ∈ glos) : mg n = some (.ref (He.ga K n)) :=
  He.glo_ok X G (fact_mem c (List.mem_append_left _ (List.mem_map_of_mem hn)))
theorem blt_all (X : K.In h) (G : h.Ns mainGlobals mg) (c : He.SaysD (faOf glos blts) fn K) : ∀ n ∈ blts, mg n = none := fun n hn =>
  He.free_ok X G (fact_mem c (List.mem_append_right _ (List.mem_map_of_mem hn)))
theorem glob_all (X : K.In h) (G : h.Ns mainGlobals mg) (c : SaysF fa fn gs K) : ∀ p ∈ gs, GlobOk K mg p.1 p.2 := fun p hp => constB_ok X G (List.all_eq_true.mp c.g p hp)
theorem fo_bad {x qual : PySem.Str} {params : Arguments} {body : List Stmt} {scope : Scope} {f : Addr} {fd : FuncData} {ps : List PySem.Str} {k : Nat} {name : PySem.Str} (F : FunD K x qual params body scope [] [] f fd) (hb : Binds K fd ps []) (hmg : mg name = some (.ref f)) :
    FO P w K mg base k name (fun _ _ => .bad) := by
  have no : ∀ {vs : List V} {H : Hp} {Q : VK}, rdV K mg (fun _ _ => .bad) vs H Q → False := fun h => by
    obtain ⟨ι, F, S, xs, y, S', sim, r, hf, q⟩ := h
    cases hf
  exact ⟨f, fd, ps, hmg, F.kp, hb, ⟨fun vs H Q E h => (no h).elim, fun A outer s H args us vs Q E hr he hbd hv h => (no h).elim⟩⟩
end
theorem law_end {l : PySem.W.OpenLaw} {k : Nat} {q : Program} {loose : List PySem.Str} {XP : (PySem.Str → Option Value) → Heap → Prop} {d : DefRec} {x : PySem.Str} {n : Nat} {fn : List He.DefD} {gs : List (PySem.Str × PV)} {glos blts : List PySem.Str} {f : Fn} {hm : Nat} {dl : He.DefD} {il : Nat}
    (hn : l.most = some n) (hn2 : n ≤ sizeLine) (hdf : d.params.defaults = []) (hr : Room k callerA) (hdl : fn[il]? = some dl) (hd0 : dl.dfl = []) (hk0 : dl.kwd = []) (hx : dl.at_ = (d.name, none)) (hgl : d.name ∈ glos)
    (hbd : ∀ (kV doc pm : Value) (an : Option Addr) (cdv ct : Value) (us : List Value), us.length = ([x] : List PySem.Str).length → bindArgs (PySem.W.fnOf dl.name dl.qual dl.params dl.body dl.scope .none kV doc pm an cdv ct) ⟨us, []⟩ = pure (([x] : List PySem.Str).zip us))
    (F : ∀ (w : World) (mg : PySem.Str → Option Value) (h : Heap) (K : PySem.W.Frag) (base : Heap) (fd : FuncData), K.In h → h.Ns mainGlobals mg → SaysF (faOf glos blts) fn gs K → FunD K dl.name dl.qual dl.params dl.body dl.scope [] [] (He.fAd K dl.at_) fd →
      FnOk l.prog w K mg base CX0 k (He.fAd K dl.at_) fd [x] (fun vs H Q _ => rdV K mg f vs H Q))
    (hf : ∀ ns : List Int, ns.length ≤ n → ∃ S', f [.v (.lst (ns.map PV.int))] [] = .ok (.v (.bl true)) S') :
    PySem.W.WalkO q loose XP (hookF hm (faOf glos blts) fn gs).says l.row.toRowW d [] (fun f vs => PySem.call f vs) := by
  refine walk_ofE (n := n) (k := k) (x := x) (CX := CX0) hn hn2 hdf hr ?_ (fun _ _ _ _ z => z)
  intro w mg fad h Y G hmg
  obtain ⟨K, KX, c⟩ := Y
  obtain ⟨fd, FD⟩ := c.d.def_ il hdl
  have e1 : dl.dvs K = [] := by unfold He.DefD.dvs; rw [hd0]; rfl
  have e2 : dl.kws K = [] := by unfold He.DefD.kws; rw [hk0]; rfl
  rw [e1, e2] at FD
  have ea : He.fAd K dl.at_ = fad := by
    have := glo_at KX G c.d hgl
    rw [hmg] at this
    cases this
    rw [hx]
    rfl
  have hb := FunD.bindsA (ps := [x]) FD hbd
  refine ⟨K, fd, fun vs H Q _ => rdV K mg f vs H Q, KX, fun s u => hb s [u] rfl, fun H a ns hl _ hS => law_sp c.n hS (hf ns hl), fun base _ _ => ?_⟩
  rw [← ea]
  exact F w mg h K base fd KX G c FD
end FW

namespace FWP
open PySem FW
def d__law_taken : FW.Def := ⟨2, 4, (.cons (.ifs (.cmp .gt (.idx (.var 0) (.k (.int 3))) (.k (.int 0)))
      (.cons (.set 3 (.bin .mod false (.bi .int false (.cons (.idx (.var 0) (.k (.int 3))) .nil)) (.var 1)))
      (.cons (.sub 0 (.k (.int 3)) (.bin .fdiv false (.idx (.var 0) (.k (.int 3))) (.var 1)))
      (.cons (.ret (.var 3)) .nil)))
      (.nil))
      (.cons (.sub 0 (.k (.int 1)) (.bin .add false (.idx (.var 0) (.k (.int 1))) (.k (.int 1))))
      (.cons (.ifs (.cmp .gt (.idx (.var 0) (.k (.int 1))) (.bi .len false (.cons (.idx (.var 0) (.k (.int 0))) .nil)))
      (.cons (.sub 0 (.k (.int 2)) (.bin .mod false (.bi .int false (.cons (.bin .add false (.bin .mul false (.idx (.var 0) (.k (.int 2))) (.k (.int 48271))) (.k (.int 11))) .nil)) (.k (.int 2147483647))))
      (.cons (.ret (.bin .mod false (.bi .int false (.cons (.bin .fdiv false (.idx (.var 0) (.k (.int 2))) (.k (.int 7))) .nil)) (.var 1))) .nil))
      (.nil))
      (.cons (.set 2 (.idx (.idx (.var 0) (.k (.int 0))) (.bin .sub false (.idx (.var 0) (.k (.int 1))) (.k (.int 1)))))
      (.cons (.sub 0 (.k (.int 2)) (.bin .mod false (.bi .int false (.cons (.bin .add false (.bin .add false (.bin .mul false (.idx (.var 0) (.k (.int 2))) (.k (.int 48271))) (.var 2)) (.k (.int 11))) .nil)) (.k (.int 2147483647))))
      (.cons (.ifs (.cmp .ge (.var 2) (.bin .pow false (.k (.int 10)) (.k (.int 18))))
      (.cons (.sub 0 (.k (.int 3)) (.bin .fdiv false (.var 2) (.var 1))) .nil)
      (.nil))
      (.cons (.ret (.bin .mod false (.bi .int false (.cons (.var 2) .nil)) (.var 1))) .nil)))))))⟩
def F__law_taken : Fn := fnSem [] d__law_taken
def d__law_pick : FW.Def := ⟨2, 2, (.cons (.ret (.idx (.var 1) (.call 0 (.cons (.var 0) (.cons (.bi .len false (.cons (.var 1) .nil)) .nil))))) .nil)⟩
def F__law_pick : Fn := fnSem [("_law_taken", F__law_taken)] d__law_pick
def d__law_gcd : FW.Def := ⟨2, 2, (.cons (.par [0, 1] (.cons (.bi .abs false (.cons (.var 0) .nil)) (.cons (.bi .abs false (.cons (.var 1) .nil)) .nil)))
      (.cons (.whil (.cmp .ne (.var 1) (.k (.int 0)))
      (.cons (.par [0, 1] (.cons (.var 1) (.cons (.bin .mod false (.bi .int false (.cons (.var 0) .nil)) (.var 1)) .nil))) .nil) [])
      (.cons (.ret (.var 0)) .nil)))⟩
def F__law_gcd : Fn := fnSem [] d__law_gcd
def d__law_ratio : FW.Def := ⟨2, 3, (.cons (.set 2 (.call 0 (.cons (.var 0) (.cons (.var 1) .nil))))
      (.cons (.set 2 (.ite (.cmp .lt (.var 1) (.k (.int 0))) (.bin .sub false (.k (.int 0)) (.var 2)) (.var 2)))
      (.cons (.ret (.tup (.cons (.bin .fdiv false (.var 0) (.var 2)) (.cons (.bin .fdiv false (.var 1) (.var 2)) .nil)))) .nil)))⟩
def F__law_ratio : Fn := fnSem [("_law_gcd", F__law_gcd)] d__law_ratio
def d__law_times : FW.Def := ⟨2, 2, (.cons (.ret (.call 0 (.cons (.bin .mul false (.idx (.var 0) (.k (.int 0))) (.idx (.var 1) (.k (.int 0)))) (.cons (.bin .mul false (.idx (.var 0) (.k (.int 1))) (.idx (.var 1) (.k (.int 1)))) .nil)))) .nil)⟩
def F__law_times : Fn := fnSem [("_law_ratio", F__law_ratio)] d__law_times
def d__law_alike : FW.Def := ⟨2, 3, (.cons (.ifs (.isi [.tuple, .list] (.var 1))
      (.cons (.ifs (.or (.cons (.nt (.isi [.tuple, .list] (.var 0))) (.cons (.cmp .ne (.isi [.list] (.var 0)) (.isi [.list] (.var 1))) .nil)))
      (.cons (.ret (.k (.bl false))) .nil)
      (.nil))
      (.cons (.ifs (.cmp .ne (.bi .len false (.cons (.var 0) .nil)) (.bi .len false (.cons (.var 1) .nil)))
      (.cons (.ret (.k (.bl false))) .nil)
      (.nil))
      (.cons (.ret (.cmp .eq (.comp false [2] (.name 2) (.rng1 (.bi .len false (.cons (.var 1) .nil))) (.nt (.call 0 (.cons (.idx (.var 0) (.var 2)) (.cons (.idx (.var 1) (.var 2)) .nil)))) (.var 2)) (.list false .nil))) .nil)))
      (.nil))
      (.cons (.ifs (.or (.cons (.cmp .is (.var 1) (.k .non)) (.cons (.isi [.str] (.var 1)) .nil)))
      (.cons (.ret (.and (.cons (.cmp .eq (.var 0) (.var 1)) (.cons (.cmp .eq (.isi [.str] (.var 0)) (.isi [.str] (.var 1))) .nil)))) .nil)
      (.nil))
      (.cons (.ret (.and (.cons (.isi [.int] (.var 0)) (.cons (.cmp .eq (.isi [.bool] (.var 0)) (.isi [.bool] (.var 1))) (.cons (.cmp .eq (.var 0) (.var 1)) .nil))))) .nil)))⟩
def F__law_alike : Nat → Fn
  | 0 => fun _ _ => .bad
  | n + 1 => fnSem [("_law_alike", F__law_alike n)] d__law_alike
def d__law_less_one : FW.Def := ⟨1, 1, (.cons (.ret (.tup (.cons (.bin .sub false (.idx (.var 0) (.k (.int 1))) (.idx (.var 0) (.k (.int 0)))) (.cons (.idx (.var 0) (.k (.int 1))) .nil)))) .nil)⟩
def F__law_less_one : Fn := fnSem [] d__law_less_one
def d__law_plus : FW.Def := ⟨2, 2, (.cons (.ret (.call 0 (.cons (.bin .add false (.bin .mul false (.idx (.var 0) (.k (.int 0))) (.idx (.var 1) (.k (.int 1)))) (.bin .mul false (.idx (.var 1) (.k (.int 0))) (.idx (.var 0) (.k (.int 1))))) (.cons (.bin .mul false (.idx (.var 0) (.k (.int 1))) (.idx (.var 1) (.k (.int 1)))) .nil)))) .nil)⟩
def F__law_plus : Fn := fnSem [("_law_ratio", F__law_ratio)] d__law_plus
def d_gcd : FW.Def := ⟨2, 2, (.cons (.par [0, 1] (.cons (.bi .abs false (.cons (.var 0) .nil)) (.cons (.bi .abs false (.cons (.var 1) .nil)) .nil)))
      (.cons (.whil (.cmp .ne (.var 1) (.k (.int 0)))
      (.cons (.par [0, 1] (.cons (.var 1) (.cons (.bin .mod false (.var 0) (.var 1)) .nil))) .nil) [])
      (.cons (.ret (.var 0)) .nil)))⟩
def F_gcd : Fn := fnSem [] d_gcd
def d_is_ratio : FW.Def := ⟨1, 2, (.cons (.ifs (.or (.cons (.nt (.isi [.tuple] (.var 0))) (.cons (.cmp .ne (.bi .len false (.cons (.var 0) .nil)) (.k (.int 2))) .nil)))
      (.cons (.ret (.k (.bl false))) .nil)
      (.nil))
      (.cons (.forr (.name 1) (.seq (.var 0))
      (.cons (.ifs (.or (.cons (.nt (.isi [.int] (.var 1))) (.cons (.isi [.bool] (.var 1)) .nil)))
      (.cons (.ret (.k (.bl false))) .nil)
      (.nil)) .nil) [])
      (.cons (.ret (.and (.cons (.cmp .gt (.idx (.var 0) (.k (.int 1))) (.k (.int 0))) (.cons (.cmp .eq (.call 0 (.cons (.idx (.var 0) (.k (.int 0))) (.cons (.idx (.var 0) (.k (.int 1))) .nil))) (.k (.int 1))) .nil)))) .nil)))⟩
def F_is_ratio : Fn := fnSem [("gcd", F_gcd)] d_is_ratio
def d_is_chance : FW.Def := ⟨1, 1, (.cons (.ret (.and (.cons (.call 0 (.cons (.var 0) .nil)) (.cons (.chain .le .le (.k (.int 0)) (.idx (.var 0) (.k (.int 0))) (.idx (.var 0) (.k (.int 1)))) .nil)))) .nil)⟩
def F_is_chance : Fn := fnSem [("is_ratio", F_is_ratio)] d_is_chance
def d_reduced : FW.Def := ⟨2, 3, (.cons (.set 2 (.call 0 (.cons (.var 0) (.cons (.var 1) .nil))))
      (.cons (.ifs (.cmp .lt (.var 1) (.k (.int 0)))
      (.cons (.set 2 (.neg (.var 2))) .nil)
      (.nil))
      (.cons (.ret (.tup (.cons (.bin .fdiv false (.var 0) (.var 2)) (.cons (.bin .fdiv false (.var 1) (.var 2)) .nil)))) .nil)))⟩
def F_reduced : Fn := fnSem [("gcd", F_gcd)] d_reduced
def d_minus : FW.Def := ⟨2, 2, (.cons (.ret (.call 0 (.cons (.bin .sub false (.bin .mul false (.idx (.var 0) (.k (.int 0))) (.idx (.var 1) (.k (.int 1)))) (.bin .mul false (.idx (.var 1) (.k (.int 0))) (.idx (.var 0) (.k (.int 1))))) (.cons (.bin .mul false (.idx (.var 0) (.k (.int 1))) (.idx (.var 1) (.k (.int 1)))) .nil)))) .nil)⟩
def F_minus : Fn := fnSem [("reduced", F_reduced)] d_minus
def d_plus : FW.Def := ⟨2, 2, (.cons (.ret (.call 0 (.cons (.bin .add false (.bin .mul false (.idx (.var 0) (.k (.int 0))) (.idx (.var 1) (.k (.int 1)))) (.bin .mul false (.idx (.var 1) (.k (.int 0))) (.idx (.var 0) (.k (.int 1))))) (.cons (.bin .mul false (.idx (.var 0) (.k (.int 1))) (.idx (.var 1) (.k (.int 1)))) .nil)))) .nil)⟩
def F_plus : Fn := fnSem [("reduced", F_reduced)] d_plus
def d_total_of : FW.Def := ⟨1, 3, (.cons (.set 1 (.glob "ZERO" (.tup [(.int 0), (.int 1)])))
      (.cons (.forr (.name 2) (.seq (.var 0))
      (.cons (.set 1 (.call 0 (.cons (.var 1) (.cons (.var 2) .nil)))) .nil) [])
      (.cons (.ret (.var 1)) .nil)))⟩
def F_total_of : Fn := fnSem [("plus", F_plus)] d_total_of
def d_is_in : FW.Def := ⟨3, 3, (.cons (.ret (.and (.cons (.isi [.int] (.var 0)) (.cons (.nt (.isi [.bool] (.var 0))) (.cons (.chain .le .le (.var 1) (.var 0) (.var 2)) .nil))))) .nil)⟩
def F_is_in : Fn := fnSem [] d_is_in
def d_times : FW.Def := ⟨2, 2, (.cons (.ret (.call 0 (.cons (.bin .mul false (.idx (.var 0) (.k (.int 0))) (.idx (.var 1) (.k (.int 0)))) (.cons (.bin .mul false (.idx (.var 0) (.k (.int 1))) (.idx (.var 1) (.k (.int 1)))) .nil)))) .nil)⟩
def F_times : Fn := fnSem [("reduced", F_reduced)] d_times
end FWP

namespace FWP
open PySem FW
abbrev I (i : Int) : SV := .v (.int i)
theorem fmod_nat (a b : Nat) : (a : Int).fmod (b : Int) = ((a % b : Nat) : Int) := by
  rw [Int.fmod_eq_emod_of_nonneg _ (Int.natCast_nonneg b)]; rfl
theorem gcd_step (a b : Nat) : Nat.gcd a b = Nat.gcd b (a % b) := by rw [Nat.gcd_comm, Nat.gcd_rec, Nat.gcd_comm]
theorem loop_gcd {c : Slots → Store → Out Bool} {f : FS} (hc : ∀ (x y : Int) S, c [some (I x), some (I y)] S = .ok (!decide (y = 0)) S)
    (hf : ∀ (x y : Int) S, y ≠ 0 → f [some (I x), some (I y)] S = .ok (.next [some (I y), some (I (x.fmod y))]) S) : ∀ (k n a b : Nat) (S : Store), b < 2 ^ k → 2 * k + 1 ≤ n →
    whileL c f [] n [some (I a), some (I b)] S = .ok (.next [some (I (Nat.gcd a b)), some (I 0)]) S := by
  have stop : ∀ (n a : Nat) (S : Store), 1 ≤ n → whileL c f [] n [some (I a), some (I (0 : Nat))] S = .ok (.next [some (I a), some (I 0)]) S := fun n a S hn => by
    obtain ⟨n, rfl⟩ : ∃ m, n = m + 1 := ⟨n - 1, by omega⟩
    simp [whileL, hc]
  have step : ∀ (n a b : Nat) (S : Store), b ≠ 0 → whileL c f [] (n + 1) [some (I a), some (I b)] S = whileL c f [] n [some (I b), some (I ((a % b : Nat) : Int))] S := fun n a b S hb => by
    have hb' : (b : Int) ≠ 0 := by omega
    simp [whileL, hc, hf _ _ _ hb', hb, fmod_nat]
  intro k
  induction k with
  | zero =>
    intro n a b S hb hn
    obtain rfl : b = 0 := by simpa using hb
    rw [stop n a S (by omega), Nat.gcd_zero_right]
  | succ k ih =>
    intro n a b S hb hn
    by_cases h0 : b = 0
    · subst h0
      rw [stop n a S (by omega), Nat.gcd_zero_right]
    · obtain ⟨n, rfl⟩ : ∃ m, n = m + 1 := ⟨n - 1, by omega⟩
      rw [step n a b S h0]
      have hg := gcd_step a b
      by_cases h1 : a % b = 0
      · rw [h1, stop n b S (by omega), hg, h1, Nat.gcd_zero_right]
      · obtain ⟨n, rfl⟩ : ∃ m, n = m + 1 := ⟨n - 1, by omega⟩
        rw [step n b (a % b) S h1]
        have hlt : a % b < b := Nat.mod_lt _ (by omega)
        have hq : b % (a % b) + (a % b) ≤ b := by
          have := Nat.div_add_mod b (a % b)
          have h2 : 1 ≤ b / (a % b) := Nat.div_pos (by omega) (by omega)
          have h3 : (a % b) * 1 ≤ (a % b) * (b / (a % b)) := Nat.mul_le_mul_left _ h2
          omega
        have hr : b % (a % b) < a % b := Nat.mod_lt _ (by omega)
        rw [ih n (a % b) (b % (a % b)) S (by rw [Nat.pow_succ] at hb; omega) (by omega)]
        rw [hg, gcd_step b (a % b)]
theorem abs_nat (a : Int) : (if a < 0 then -a else a) = ((a.natAbs : Nat) : Int) := by split <;> omega
theorem F_gcd_eq (a b : Int) (S : Store) (hb : b.natAbs < 2 ^ 100000) : F_gcd [I a, I b] S = .ok (I (Int.gcd a b)) S := by
  have := loop_gcd (c := (ev [] (.cmp .ne (.var 1) (.k (.int 0)))).t) (f := evB [] (.cons (.par [0, 1] (.cons (.var 1) (.cons (.bin .mod false (.var 0) (.var 1)) .nil))) .nil)) (fun _ _ _ => rfl) (fun x y S h => by simp [h]) 100000 fuel a.natAbs b.natAbs S hb (by decide)
  have h : evS [] (.whil (.cmp .ne (.var 1) (.k (.int 0))) (.cons (.par [0, 1] (.cons (.var 1) (.cons (.bin .mod false (.var 0) (.var 1)) .nil))) .nil) []) [some (I a.natAbs), some (I b.natAbs)] S = .ok (.next [some (I (Nat.gcd a.natAbs b.natAbs)), some (I 0)]) S := this
  simp [F_gcd, d_gcd, abs_nat, h, Int.gcd]
theorem log_lt {n k : Nat} (h : n < 2 ^ k) (hk : 0 < k) : n.log2 < k := by
  by_cases h0 : n = 0
  · subst h0; simpa using hk
  · exact (Nat.log2_lt h0).mpr h
theorem mulOk_of {a b : Int} {k l : Nat} (h1 : a.natAbs < 2 ^ k) (h2 : b.natAbs < 2 ^ l) (hk : k + l ≤ 1000000) : mulOk a b = true := by
  refine decide_eq_true ?_
  have e1 : a.natAbs.log2 < k + 1 := log_lt (Nat.lt_of_lt_of_le h1 (Nat.pow_le_pow_right (by decide) (by omega))) (by omega)
  have e2 : b.natAbs.log2 < l + 1 := log_lt (Nat.lt_of_lt_of_le h2 (Nat.pow_le_pow_right (by decide) (by omega))) (by omega)
  omega
theorem divOk_of {a b : Int} (hb : b ≠ 0) (h : a.natAbs < 2 ^ 13000) : divOk a b = true := by
  have : a.natAbs.log2 < 13000 := log_lt h (by decide)
  simp [divOk, hb, this]
def rv (q : Rat) : PV := .tup [.int q.num, .int q.den]
theorem quot_pos {n d : Int} (hd : 0 < d) : n.fdiv (Int.gcd n d : Nat) = (Rat.divInt n d).num ∧ d.fdiv (Int.gcd n d : Nat) = ((Rat.divInt n d).den : Int) := by
  have hg : (0 : Int) ≤ (Int.gcd n d : Nat) := Int.natCast_nonneg _
  rw [Rat.num_divInt, Rat.den_divInt, Int.gcd_comm d n]
  rw [Int.fdiv_eq_ediv_of_nonneg _ hg, Int.fdiv_eq_ediv_of_nonneg _ hg, Int.sign_eq_one_of_pos hd, Int.one_mul, if_neg (by omega)]
  refine ⟨rfl, ?_⟩
  rw [Int.natCast_ediv, Int.natAbs_of_nonneg (by omega)]
theorem quot_neg {n d : Int} (hd : d < 0) : n.fdiv (-(Int.gcd n d : Nat)) = (Rat.divInt n d).num ∧ d.fdiv (-(Int.gcd n d : Nat)) = ((Rat.divInt n d).den : Int) := by
  have h0 : Int.gcd n d ≠ 0 := by
    intro h
    have := Int.gcd_eq_zero_iff.mp h
    omega
  obtain ⟨m, hm⟩ := Int.gcd_dvd_left n d
  obtain ⟨e, he⟩ := Int.gcd_dvd_right n d
  rw [Rat.num_divInt, Rat.den_divInt, Int.gcd_comm d n, Int.sign_eq_neg_one_of_neg hd, if_neg (by omega)]
  generalize Int.gcd n d = g at *
  have hg : (g : Int) ≠ 0 := by omega
  have hg2 : -(g : Int) ≠ 0 := by omega
  subst hm he
  refine ⟨?_, ?_⟩
  · rw [show (g : Int) * m = -(g : Int) * (-m) by rw [Int.neg_mul_neg], Int.mul_fdiv_cancel_left _ hg2, show -1 * (-(g : Int) * -m) = (g : Int) * (-m) by rw [Int.neg_mul_neg, Int.mul_neg]; omega, Int.mul_ediv_cancel_left _ hg]
  · rw [show (g : Int) * e = -(g : Int) * (-e) by rw [Int.neg_mul_neg], Int.mul_fdiv_cancel_left _ hg2, Int.natCast_ediv, Int.neg_mul_neg]
    rw [show (((g : Int) * e).natAbs : Int) = (g : Int) * (-e) by rw [Int.mul_neg]; omega, Int.mul_ediv_cancel_left _ hg]
theorem F_reduced_eq (n d : Int) (S : Store) (h0 : d ≠ 0) (hn : n.natAbs < 2 ^ 13000) (hd : d.natAbs < 2 ^ 13000) : F_reduced [I n, I d] S = .ok (.v (rv (Rat.divInt n d))) S := by
  have hb : d.natAbs < 2 ^ 100000 := Nat.lt_of_lt_of_le hd (Nat.pow_le_pow_right (by decide) (by decide))
  have hg : Int.gcd n d ≠ 0 := by
    intro h
    have := Int.gcd_eq_zero_iff.mp h
    omega
  have hg1 : ((Int.gcd n d : Nat) : Int) ≠ 0 := by omega
  have hg2 : (-(Int.gcd n d : Nat) : Int) ≠ 0 := by omega
  by_cases hneg : d < 0
  · obtain ⟨q1, q2⟩ := quot_neg (n := n) hneg
    simp [F_reduced, d_reduced, F_gcd_eq n d _ hb, hneg, divOk_of hg2 hn, divOk_of hg2 hd, q1, q2, rv, line]
  · obtain ⟨q1, q2⟩ := quot_pos (n := n) (d := d) (by omega)
    simp [F_reduced, d_reduced, F_gcd_eq n d _ hb, hneg, divOk_of hg1 hn, divOk_of hg1 hd, q1, q2, rv, line]
theorem F_lgcd_eq (a b : Int) (S : Store) (hb : b.natAbs < 2 ^ 100000) : F__law_gcd [I a, I b] S = .ok (I (Int.gcd a b)) S := by
  have := loop_gcd (c := (ev [] (.cmp .ne (.var 1) (.k (.int 0)))).t) (f := evB [] (.cons (.par [0, 1] (.cons (.var 1) (.cons (.bin .mod false (.bi .int false (.cons (.var 0) .nil)) (.var 1)) .nil))) .nil)) (fun _ _ _ => rfl) (fun x y S h => by simp [h]) 100000 fuel a.natAbs b.natAbs S hb (by decide)
  have h : evS [] (.whil (.cmp .ne (.var 1) (.k (.int 0))) (.cons (.par [0, 1] (.cons (.var 1) (.cons (.bin .mod false (.bi .int false (.cons (.var 0) .nil)) (.var 1)) .nil))) .nil) []) [some (I a.natAbs), some (I b.natAbs)] S = .ok (.next [some (I (Nat.gcd a.natAbs b.natAbs)), some (I 0)]) S := this
  simp [F__law_gcd, d__law_gcd, abs_nat, h, Int.gcd]
theorem F_ratio_eq (n d : Int) (S : Store) (h0 : d ≠ 0) (hn : n.natAbs < 2 ^ 13000) (hd : d.natAbs < 2 ^ 13000) : F__law_ratio [I n, I d] S = .ok (.v (rv (Rat.divInt n d))) S := by
  have hb : d.natAbs < 2 ^ 100000 := Nat.lt_of_lt_of_le hd (Nat.pow_le_pow_right (by decide) (by decide))
  have hg : Int.gcd n d ≠ 0 := by
    intro h
    have := Int.gcd_eq_zero_iff.mp h
    omega
  have hg1 : ((Int.gcd n d : Nat) : Int) ≠ 0 := by omega
  have hg2 : (-(Int.gcd n d : Nat) : Int) ≠ 0 := by omega
  by_cases hneg : d < 0
  · obtain ⟨q1, q2⟩ := quot_neg (n := n) hneg
    simp [F__law_ratio, d__law_ratio, F_lgcd_eq n d _ hb, hneg, divOk_of hg2 hn, divOk_of hg2 hd, q1, q2, rv, line]
  · obtain ⟨q1, q2⟩ := quot_pos (n := n) (d := d) (by omega)
    simp [F__law_ratio, d__law_ratio, F_lgcd_eq n d _ hb, hneg, divOk_of hg1 hn, divOk_of hg1 hd, q1, q2, rv, line]
def Bd (k : Nat) (q : Rat) : Prop := q.num.natAbs < 2 ^ k ∧ q.den < 2 ^ k
theorem Bd.mono {k l : Nat} {q : Rat} (h : Bd k q) (hl : k ≤ l) : Bd l q := ⟨Nat.lt_of_lt_of_le h.1 (Nat.pow_le_pow_right (by decide) hl), Nat.lt_of_lt_of_le h.2 (Nat.pow_le_pow_right (by decide) hl)⟩
theorem mul_lt {a b k l : Nat} (h1 : a < 2 ^ k) (h2 : b < 2 ^ l) : a * b < 2 ^ (k + l) := by
  rw [Nat.pow_add]
  exact Nat.mul_lt_mul'' h1 h2
theorem Bd.mk {n d : Int} {k : Nat} (h0 : d ≠ 0) (h1 : n.natAbs < 2 ^ k) (h2 : d.natAbs < 2 ^ k) : Bd k (Rat.divInt n d) := by
  have hs : ∀ (x : Int) (g : Nat), (x / (g : Int)).natAbs ≤ x.natAbs := fun x g => Int.natAbs_ediv_le_natAbs _ _
  refine ⟨?_, ?_⟩
  · rw [Rat.num_divInt]
    have : (d.sign * n).natAbs = n.natAbs := by rw [Int.natAbs_mul, Int.natAbs_sign_of_ne_zero h0, Nat.one_mul]
    have := hs (d.sign * n) (d.gcd n)
    omega
  · rw [Rat.den_divInt, if_neg h0]
    exact Nat.lt_of_le_of_lt (Nat.div_le_self _ _) h2
theorem mul_eq (q r : Rat) : q * r = Rat.divInt (q.num * r.num) ((q.den : Int) * (r.den : Int)) := by
  conv => lhs; rw [← Rat.num_divInt_den q, ← Rat.num_divInt_den r]
  exact Rat.divInt_mul_divInt _ _
theorem den_ne (q : Rat) : (q.den : Int) ≠ 0 := by have := q.den_nz; omega
theorem add_eq (q r : Rat) : q + r = Rat.divInt (q.num * r.den + r.num * q.den) ((q.den : Int) * (r.den : Int)) := by
  conv => lhs; rw [← Rat.num_divInt_den q, ← Rat.num_divInt_den r]
  exact Rat.divInt_add_divInt _ _ (den_ne q) (den_ne r)
theorem neg_eq (q : Rat) : -q = Rat.divInt (-q.num) q.den := by
  conv => lhs; rw [← Rat.num_divInt_den q]
  exact Rat.neg_divInt _ _
theorem sub_eq (q r : Rat) : q - r = Rat.divInt (q.num * r.den - r.num * q.den) ((q.den : Int) * (r.den : Int)) := by
  rw [Rat.sub_eq_add_neg, neg_eq]
  conv => lhs; rw [← Rat.num_divInt_den q]
  rw [Rat.divInt_add_divInt _ _ (den_ne q) (den_ne r), Int.neg_mul, Int.sub_eq_add_neg]
theorem div_eq (q r : Rat) : q / r = Rat.divInt (q.num * r.den) ((q.den : Int) * r.num) := by
  rw [Rat.div_def, Rat.inv_def]
  conv => lhs; rw [← Rat.num_divInt_den q]
  exact Rat.divInt_mul_divInt _ _
section
variable {k l : Nat} {q r : Rat}
theorem Bd.mul (hq : Bd k q) (hr : Bd l r) : Bd (k + l) (q * r) := by
  rw [mul_eq]
  refine Bd.mk (Int.mul_ne_zero (den_ne q) (den_ne r)) ?_ ?_
  · rw [Int.natAbs_mul]; exact mul_lt hq.1 hr.1
  · rw [Int.natAbs_mul]; exact mul_lt hq.2 hr.2
theorem cross_lt (hq : Bd k q) (hr : Bd l r) : (q.num * (r.den : Int)).natAbs < 2 ^ (k + l) ∧ (r.num * (q.den : Int)).natAbs < 2 ^ (k + l) ∧ ((q.den : Int) * (r.den : Int)).natAbs < 2 ^ (k + l) := by
  refine ⟨?_, ?_, ?_⟩
  · rw [Int.natAbs_mul]; exact mul_lt hq.1 hr.2
  · rw [Int.natAbs_mul, Nat.add_comm]; exact mul_lt hr.1 hq.2
  · rw [Int.natAbs_mul]; exact mul_lt hq.2 hr.2
theorem two_pow_add {a b c n : Nat} (h1 : a < 2 ^ n) (h2 : b < 2 ^ n) (h : c ≤ a + b) : c < 2 ^ (n + 1) := by rw [Nat.pow_succ]; omega
theorem Bd.add (hq : Bd k q) (hr : Bd l r) : Bd (k + l + 1) (q + r) := by
  obtain ⟨h1, h2, h3⟩ := cross_lt hq hr
  rw [add_eq]
  exact Bd.mk (Int.mul_ne_zero (den_ne q) (den_ne r)) (two_pow_add h1 h2 (Int.natAbs_add_le _ _)) (two_pow_add h3 h3 (by omega))
theorem Bd.sub (hq : Bd k q) (hr : Bd l r) : Bd (k + l + 1) (q - r) := by
  obtain ⟨h1, h2, h3⟩ := cross_lt hq hr
  rw [sub_eq]
  refine Bd.mk (Int.mul_ne_zero (den_ne q) (den_ne r)) (two_pow_add h1 h2 ?_) (two_pow_add h3 h3 (by omega))
  omega
theorem num_ne (h : r ≠ 0) : r.num ≠ 0 := fun z => h (Rat.num_eq_zero.mp z)
theorem Bd.div (hq : Bd k q) (hr : Bd l r) (h : r ≠ 0) : Bd (k + l) (q / r) := by
  rw [div_eq]
  refine Bd.mk (Int.mul_ne_zero (den_ne q) (num_ne h)) ?_ ?_
  · rw [Int.natAbs_mul]; exact mul_lt hq.1 hr.2
  · rw [Int.natAbs_mul]; exact mul_lt hq.2 hr.1
theorem pow_le13 {a n : Nat} (h : a < 2 ^ n) (hn : n ≤ 13000) : a < 2 ^ 13000 := Nat.lt_of_lt_of_le h (Nat.pow_le_pow_right (by decide) hn)
theorem F_times_eq {S : Store} (hq : Bd k q) (hr : Bd l r) (h : k + l ≤ 12000) : F_times [.v (rv q), .v (rv r)] S = .ok (.v (rv (q * r))) S := by
  have m1 := mulOk_of hq.1 hr.1 (by omega)
  have m2 := mulOk_of (a := (q.den : Int)) (b := (r.den : Int)) hq.2 hr.2 (by omega)
  have e := F_reduced_eq (q.num * r.num) ((q.den : Int) * (r.den : Int)) S (Int.mul_ne_zero (den_ne q) (den_ne r)) (by rw [Int.natAbs_mul]; exact pow_le13 (mul_lt hq.1 hr.1) (by omega)) (by rw [Int.natAbs_mul]; exact pow_le13 (mul_lt hq.2 hr.2) (by omega))
  rw [← mul_eq] at e
  simp only [rv] at e
  simp [F_times, d_times, rv, m1, m2, e]
theorem F_ltimes_eq {S : Store} (hq : Bd k q) (hr : Bd l r) (h : k + l ≤ 12000) : F__law_times [.v (rv q), .v (rv r)] S = .ok (.v (rv (q * r))) S := by
  have m1 := mulOk_of hq.1 hr.1 (by omega)
  have m2 := mulOk_of (a := (q.den : Int)) (b := (r.den : Int)) hq.2 hr.2 (by omega)
  have e := F_ratio_eq (q.num * r.num) ((q.den : Int) * (r.den : Int)) S (Int.mul_ne_zero (den_ne q) (den_ne r)) (by rw [Int.natAbs_mul]; exact pow_le13 (mul_lt hq.1 hr.1) (by omega)) (by rw [Int.natAbs_mul]; exact pow_le13 (mul_lt hq.2 hr.2) (by omega))
  rw [← mul_eq] at e
  simp only [rv] at e
  simp [F__law_times, d__law_times, rv, m1, m2, e]
theorem F_plus_eq {S : Store} (hq : Bd k q) (hr : Bd l r) (h : k + l ≤ 12000) : F_plus [.v (rv q), .v (rv r)] S = .ok (.v (rv (q + r))) S := by
  obtain ⟨h1, h2, h3⟩ := cross_lt hq hr
  have m1 := mulOk_of (a := q.num) (b := (r.den : Int)) hq.1 hr.2 (by omega)
  have m2 := mulOk_of (a := r.num) (b := (q.den : Int)) hr.1 hq.2 (by omega)
  have m3 := mulOk_of (a := (q.den : Int)) (b := (r.den : Int)) hq.2 hr.2 (by omega)
  have e := F_reduced_eq (q.num * r.den + r.num * q.den) ((q.den : Int) * (r.den : Int)) S (Int.mul_ne_zero (den_ne q) (den_ne r)) (pow_le13 (two_pow_add h1 h2 (Int.natAbs_add_le _ _)) (by omega)) (pow_le13 h3 (by omega))
  rw [← add_eq] at e
  simp only [rv] at e
  simp [F_plus, d_plus, rv, m1, m2, m3, e]
theorem F_lplus_eq {S : Store} (hq : Bd k q) (hr : Bd l r) (h : k + l ≤ 12000) : F__law_plus [.v (rv q), .v (rv r)] S = .ok (.v (rv (q + r))) S := by
  obtain ⟨h1, h2, h3⟩ := cross_lt hq hr
  have m1 := mulOk_of (a := q.num) (b := (r.den : Int)) hq.1 hr.2 (by omega)
  have m2 := mulOk_of (a := r.num) (b := (q.den : Int)) hr.1 hq.2 (by omega)
  have m3 := mulOk_of (a := (q.den : Int)) (b := (r.den : Int)) hq.2 hr.2 (by omega)
  have e := F_ratio_eq (q.num * r.den + r.num * q.den) ((q.den : Int) * (r.den : Int)) S (Int.mul_ne_zero (den_ne q) (den_ne r)) (pow_le13 (two_pow_add h1 h2 (Int.natAbs_add_le _ _)) (by omega)) (pow_le13 h3 (by omega))
  rw [← add_eq] at e
  simp only [rv] at e
  simp [F__law_plus, d__law_plus, rv, m1, m2, m3, e]
theorem F_minus_eq {S : Store} (hq : Bd k q) (hr : Bd l r) (h : k + l ≤ 12000) : F_minus [.v (rv q), .v (rv r)] S = .ok (.v (rv (q - r))) S := by
  obtain ⟨h1, h2, h3⟩ := cross_lt hq hr
  have m1 := mulOk_of (a := q.num) (b := (r.den : Int)) hq.1 hr.2 (by omega)
  have m2 := mulOk_of (a := r.num) (b := (q.den : Int)) hr.1 hq.2 (by omega)
  have m3 := mulOk_of (a := (q.den : Int)) (b := (r.den : Int)) hq.2 hr.2 (by omega)
  have e := F_reduced_eq (q.num * r.den - r.num * q.den) ((q.den : Int) * (r.den : Int)) S (Int.mul_ne_zero (den_ne q) (den_ne r)) (pow_le13 (two_pow_add h1 h2 (by omega)) (by omega)) (pow_le13 h3 (by omega))
  rw [← sub_eq] at e
  simp only [rv] at e
  simp [F_minus, d_minus, rv, m1, m2, m3, e]
end
end FWP

namespace FWP
open PySem FW
def okA : Nat → PV → Bool
  | 0, _ => false
  | n + 1, .tup xs => decide (xs.length ≤ 4000000) && xs.all (okA n)
  | n + 1, .lst xs => decide (xs.length ≤ 4000000) && xs.all (okA n)
  | _ + 1, .fn _ => false
  | _ + 1, .dic _ _ => false
  | _ + 1, _ => true
theorem compL_none {f : PV → Store → Out (Option PV)} {S : Store} : ∀ {xs : List PV}, (∀ x ∈ xs, f x S = .ok none S) → compL f xs S = .ok [] S
  | [], _ => rfl
  | x :: xs, h => by
    show (f x S).bind _ = _
    rw [h x List.mem_cons_self]
    show (compL f xs S).bind _ = _
    rw [compL_none fun y hy => h y (List.mem_cons_of_mem _ hy)]
    rfl
theorem mem_rngN {x : PV} {n : Nat} (h : x ∈ rngN n) : ∃ i : Nat, i < n ∧ x = .int i := by
  unfold rngN at h
  obtain ⟨i, hi, rfl⟩ := List.mem_map.mp h
  exact ⟨i, by simpa using hi, rfl⟩
def cAlike : CE := .comp false [2] (.name 2) (.rng1 (.bi .len false (.cons (.var 1) .nil))) (.nt (.call 0 (.cons (.idx (.var 0) (.var 2)) (.cons (.idx (.var 1) (.var 2)) .nil)))) (.var 2)
theorem comp_alike {f : Fn} {x : PV} {xs : List PV} {S : Store} {t : Bool} (hx : seqOf S (.v x) = some (t, xs)) (hl : xs.length ≤ 4000000) (hf : ∀ y ∈ xs, f [.v y, .v y] S = .ok (.v (.bl true)) S) :
    (ev [("_law_alike", f)] cAlike).v [some (.v x), some (.v x), none] S = .ok (.v (.lst [])) S := by
  have hr : rngOk (xs.length : Int) = true := decide_eq_true (by omega)
  have hr2 : rngOk (-(xs.length : Int)) = true := decide_eq_true (by omega)
  show sComp false [2] _ _ _ _ _ _ = _
  unfold sComp
  have hi : (evI [("_law_alike", f)] (.rng1 (.bi .len false (.cons (.var 1) .nil)))) [some (.v x), some (.v x), none] S = .ok (rngN xs.length) S := by
    show (iRng1 _) _ S = _
    simp [hx, hr, hr2]
  rw [hi]
  show (compL _ _ S).bind _ = _
  rw [compL_none fun y hy => ?_]
  · rfl
  · obtain ⟨i, hi, rfl⟩ := mem_rngN hy
    have hget : xs[i]? = some xs[i] := List.getElem?_eq_getElem hi
    have h1 : ix? xs.length (i : Int) = some i := by simp [ix?, hi]
    have e := hf xs[i] (List.getElem_mem hi)
    simp only [cTurn, bindG, wipeS, List.set_cons_succ, List.set_cons_zero]
    simp [hx, hi, hget, e]
theorem alike_refl : ∀ (n : Nat) (x : PV) (S : Store), okA n x = true → F__law_alike n [.v x, .v x] S = .ok (.v (.bl true)) S := by
  intro n
  induction n with
  | zero => intro x S h; simp [okA] at h
  | succ n ih =>
    intro x S h
    show fnSem [("_law_alike", F__law_alike n)] d__law_alike [.v x, .v x] S = _
    have seq : ∀ (t : Bool) (xs : List PV), seqOf S (.v x) = some (t, xs) → xs.length ≤ 4000000 → xs.all (okA n) = true → (ev [("_law_alike", F__law_alike n)] cAlike).v [some (.v x), some (.v x), none] S = .ok (.v (.lst [])) S := fun t xs hx hl ha =>
      comp_alike hx hl fun y hy => ih y S (List.all_eq_true.mp ha y hy)
    cases x with
    | tup xs =>
      simp only [okA, Bool.and_eq_true, decide_eq_true_eq] at h
      have e := seq false xs rfl h.1 h.2
      unfold cAlike at e
      simp [d__law_alike, e, line]
    | lst xs =>
      simp only [okA, Bool.and_eq_true, decide_eq_true_eq] at h
      have e := seq true xs rfl h.1 h.2
      unfold cAlike at e
      simp [d__law_alike, e, line]
    | fn s => simp [okA] at h
    | dic a b => simp [okA] at h
    | non => simp [d__law_alike, line]
    | bl b => simp [d__law_alike, line]
    | int i => simp [d__law_alike, line]
    | str s => simp [d__law_alike, line]
def rowV (ns : List Int) (a b c : Int) : Ob := .lst [.lst (ns.map .int), .int a, .int b, .int c]
def Row (S : Store) (p : Nat) : Prop := ∃ (ns : List Int) (a b c : Int), S[p]? = some (rowV ns a b c) ∧ 0 ≤ a ∧ 0 ≤ b ∧ b < 2147483648
def But (p : Nat) (S S' : Store) : Prop := S'.length = S.length ∧ ∀ n, n ≠ p → S'[n]? = S[n]?
theorem But.refl {p : Nat} {S : Store} : But p S S := ⟨rfl, fun _ _ => rfl⟩
theorem But.trans {p : Nat} {S S' S'' : Store} (a : But p S S') (b : But p S' S'') : But p S S'' := ⟨b.1.trans a.1, fun n h => (b.2 n h).trans (a.2 n h)⟩
theorem But.set {p : Nat} {S : Store} {o : Ob} : But p S (S.set p o) := ⟨by simp, fun n h => by rw [List.getElem?_set_ne (Ne.symm h)]⟩
theorem int_at (ns : List Int) (i : Nat) : (ns.map PV.int)[i]? = (ns[i]?).map PV.int := List.getElem?_map ..
theorem seqOf_set {S : Store} {p : Nat} {xs : List PV} (hp : p < S.length) : seqOf (S.set p (.lst xs)) (.l p) = some (true, xs) := seqOf_l (List.getElem?_set_self hp)
theorem divOk_small {x m : Int} (h0 : 0 < m) (h : m < 4294967296) : divOk x m = true := by
  have : m.natAbs.log2 < 32 := log_lt (by omega) (by decide)
  have h2 : m ≠ 0 := by omega
  simp [divOk, h2]
  left; omega
theorem mulOk_seed {b : Int} (h : 0 ≤ b) (h2 : b < 2147483648) : mulOk b 48271 = true := mulOk_of (k := 31) (l := 16) (by omega) (by decide) (by decide)
theorem taken_spec {S : Store} {p : Nat} {m : Int} (h : Row S p) (hm : 0 < m) (hm2 : m < 4294967296) : ∃ (j : Int) (S' : Store), F__law_taken [.l p, I m] S = .ok (I j) S' ∧ 0 ≤ j ∧ j < m ∧ Row S' p ∧ But p S S' := by
  obtain ⟨ns, a, b, c, hS, ha, hb, hb2⟩ := h
  have hp : p < S.length := (List.getElem?_eq_some_iff.mp hS).1
  have hm0 : m ≠ 0 := by omega
  have hS0 : S[p]? = some (.lst [.lst (ns.map .int), .int a, .int b, .int c]) := hS
  have hmod : ∀ x : Int, 0 ≤ x.fmod m ∧ x.fmod m < m := fun x => by
    rw [Int.fmod_eq_emod_of_nonneg _ (by omega)]
    exact ⟨Int.emod_nonneg _ hm0, Int.emod_lt_of_pos _ hm⟩
  have hmod2 : ∀ x : Int, 0 ≤ x.fmod 2147483647 ∧ x.fmod 2147483647 < 2147483648 := fun x => by
    rw [Int.fmod_eq_emod_of_nonneg _ (by omega)]
    omega
  have hd := fun x => divOk_small (x := x) hm hm2
  have hq := seqOf_l hS0
  have g : ∀ o, (S.set p o)[p]? = some o := fun o => List.getElem?_set_self hp
  have ht : ∀ o, (S.set p o).take S.length = S.set p o := fun o => List.take_of_length_le (by simp)
  have hqs : ∀ xs, seqOf (S.set p (.lst xs)) (.l p) = some (true, xs) := fun xs => seqOf_set hp
  have hd7 := fun x => divOk_small (x := x) (m := 7) (by decide) (by decide)
  have hmul := mulOk_seed hb hb2
  by_cases h1 : 0 < c
  · refine ⟨c.fmod m, S.set p (rowV ns a b (c.fdiv m)), ?_, (hmod c).1, (hmod c).2, ⟨ns, a, b, _, List.getElem?_set_self hp, ha, hb, hb2⟩, But.set⟩
    simp [F__law_taken, d__law_taken, hS0, hq, hqs, g, ht, h1, hm0, hd, rowV]
  · by_cases h2 : (ns.length : Int) < a + 1
    · refine ⟨(((b * 48271 + 11).fmod 2147483647).fdiv 7).fmod m, S.set p (rowV ns (a + 1) ((b * 48271 + 11).fmod 2147483647) c), ?_, (hmod _).1, (hmod _).2, ⟨ns, _, _, _, List.getElem?_set_self hp, by omega, (hmod2 _).1, (hmod2 _).2⟩, But.set⟩
      simp [F__law_taken, d__law_taken, hS0, hq, hqs, g, ht, h1, h2, hm0, hd, hd7, hmul, rowV]
    · have hlt : a.toNat < ns.length := by omega
      have hc := int_at ns a.toNat
      rw [List.getElem?_eq_getElem hlt] at hc
      have h3 : a < (ns.length : Int) := by omega
      by_cases h4 : (1000000000000000000 : Int) ≤ ns[a.toNat]
      · refine ⟨(ns[a.toNat]).fmod m, S.set p (rowV ns (a + 1) ((b * 48271 + ns[a.toNat] + 11).fmod 2147483647) ((ns[a.toNat]).fdiv m)), ?_, (hmod _).1, (hmod _).2, ⟨ns, _, _, _, List.getElem?_set_self hp, by omega, (hmod2 _).1, (hmod2 _).2⟩, But.set⟩
        simp [F__law_taken, d__law_taken, hS0, hq, hqs, g, ht, h1, h2, h3, hlt, hc, h4, ha, hm0, hd, hmul, rowV]
      · refine ⟨(ns[a.toNat]).fmod m, S.set p (rowV ns (a + 1) ((b * 48271 + ns[a.toNat] + 11).fmod 2147483647) c), ?_, (hmod _).1, (hmod _).2, ⟨ns, _, _, _, List.getElem?_set_self hp, by omega, (hmod2 _).1, (hmod2 _).2⟩, But.set⟩
        simp [F__law_taken, d__law_taken, hS0, hq, hqs, g, ht, h1, h2, h3, hlt, hc, h4, ha, hm0, hd, hmul, rowV]
theorem pick_spec {S : Store} {p : Nat} {t : Bool} {xs : List PV} {x : PV} (h : Row S p) (hx : ∀ S, seqOf S (.v x) = some (t, xs)) (h0 : 0 < xs.length) (h1 : xs.length < 4294967296) :
    ∃ (z : PV) (S' : Store), F__law_pick [.l p, .v x] S = .ok (.v z) S' ∧ z ∈ xs ∧ Row S' p ∧ But p S S' := by
  obtain ⟨j, S', e, j0, j1, hr, hb⟩ := taken_spec (m := (xs.length : Int)) h (by omega) (by omega)
  have hj : j.toNat < xs.length := by omega
  have hlt : j < (xs.length : Int) := j1
  have ht : S'.take S.length = S' := List.take_of_length_le (by rw [hb.1]; exact Nat.le_refl _)
  refine ⟨xs[j.toNat], S', ?_, List.getElem_mem hj, hr, hb⟩
  simp [F__law_pick, d__law_pick, hx, e, j0, hlt, hj, ht]
end FWP

namespace FWP
open PySem FW
def iv (t : Nat) : PV := .int (t : Int)
theorem ix_nat {n t : Nat} : ix? n (t : Int) = if t < n then some t else none := by
  by_cases h : t < n <;> simp [ix?, h]
theorem ix_nat1 {n t : Nat} : ix? n ((t : Int) + 1) = if t + 1 < n then some (t + 1) else none := ix_nat (t := t + 1)
theorem ix_0 {n : Nat} : ix? n 0 = if 0 < n then some 0 else none := ix_nat (t := 0)
theorem ix_1 {n : Nat} : ix? n 1 = if 1 < n then some 1 else none := ix_nat (t := 1)
theorem ix_2 {n : Nat} : ix? n 2 = if 2 < n then some 2 else none := ix_nat (t := 2)
theorem ix_last {n : Nat} (h : 0 < n) : ix? n (-1) = some (n - 1) := by
  have a : (0 : Int) ≤ -1 + n := by omega
  have b : (-1 + (n : Int)).toNat = n - 1 := by omega
  simp [ix?, a, b]
theorem forL_inv {f : PV → FS} (I : Nat → Slots → Store → Prop) : ∀ (xs : List PV) (i : Nat) {ρ : Slots} {S : Store}, (∀ j x ρ S, xs[j]? = some x → I (i + j) ρ S → ∃ ρ' S', f x ρ S = .ok (.next ρ') S' ∧ I (i + j + 1) ρ' S') → I i ρ S →
    ∃ ρ' S', forL f [] xs ρ S = .ok (.next ρ') S' ∧ I (i + xs.length) ρ' S'
  | [], i, ρ, S, _, h => ⟨ρ, S, rfl, h⟩
  | x :: xs, i, ρ, S, hf, h => by
    obtain ⟨ρ1, S1, e1, h1⟩ := hf 0 x ρ S rfl h
    obtain ⟨ρ2, S2, e2, h2⟩ := forL_inv I xs (i + 1) (fun j y ρ S hy hI => by
      have := hf (j + 1) y ρ S hy (by rw [show i + (j + 1) = i + 1 + j by omega]; exact hI)
      rwa [show i + (j + 1) = i + 1 + j by omega] at this) h1
    refine ⟨ρ2, S2, ?_, by rw [List.length_cons, show i + (xs.length + 1) = i + 1 + xs.length by omega]; exact h2⟩
    show (f x ρ S).bind _ = _
    rw [e1]
    exact e2
theorem for_eq {Γ : List (Str × Fn)} {tg : CG} {it : CI} {b : CB} {ρ : Slots} {S S1 : Store} {xs : List PV} {r : Out FW.Flow} (hi : evI Γ it ρ S = .ok xs S1) (e : forL (sTurn (bindG tg) (evB Γ b)) [] xs ρ S1 = r) : evS Γ (.forr tg it b []) ρ S = r := by
  rw [evS_forr]
  show (evI Γ it ρ S).bind _ = _
  rw [hi]
  exact e
theorem compL_nat {α : Type} {f : PV → Store → Out (Option PV)} {x : α → PV} {p : α → Bool} {g : α → PV} {S : Store} : ∀ {l : List α}, (∀ a ∈ l, f (x a) S = .ok (if p a = true then some (g a) else none) S) → compL f (l.map x) S = .ok ((l.filter p).map g) S
  | [], _ => rfl
  | a :: l, h => by
    show (f (x a) S).bind _ = _
    rw [h a List.mem_cons_self]
    show (compL f (l.map x) S).bind _ = _
    rw [compL_nat fun y hy => h y (List.mem_cons_of_mem _ hy)]
    cases hg : p a <;> simp [hg]
theorem comp_eq {α : Type} {Γ : List (Str × Fn)} {m : Bool} {own : List Nat} {tg : CG} {it : CI} {c e : CE} {ρ : Slots} {S : Store} {x : α → PV} (l : List α) (p : α → Bool) (g : α → PV) (hi : evI Γ it ρ S = .ok (l.map x) S)
    (h : ∀ a ∈ l, cTurn (bindG tg) (ev Γ c).t (ev Γ e).v (wipeS ρ own) (x a) S = .ok (if p a = true then some (g a) else none) S) :
    (ev Γ (.comp m own tg it c e)).v ρ S = mkL m ((l.filter p).map g) S := by
  rw [ev_comp]
  show sComp _ _ _ _ _ _ _ _ = _
  unfold sComp
  rw [hi]
  show (compL _ _ S).bind _ = _
  rw [compL_nat h]
  rfl
theorem comp_f {α : Type} {Γ : List (Str × Fn)} {c0 : CE} {own : List Nat} {tg : CG} {it : CI} {c e : CE} {ρ : Slots} {S : Store} {x : α → PV} (hc : c0 = .comp false own tg it c e) (l : List α) (p : α → Bool) (g : α → PV) (hl : l.length ≤ line) (hi : evI Γ it ρ S = .ok (l.map x) S)
    (h : ∀ a ∈ l, cTurn (bindG tg) (ev Γ c).t (ev Γ e).v (wipeS ρ own) (x a) S = .ok (if p a = true then some (g a) else none) S) :
    (ev Γ c0).v ρ S = .ok (.v (.lst ((l.filter p).map g))) S := by
  subst hc
  rw [comp_eq l p g hi h]
  have := List.length_filter_le p l
  unfold mkL
  rw [if_pos (by rw [List.length_map]; omega)]
  rfl
theorem eqP_nilR {xs : List PV} (h : noFns xs = true) : eqP (.lst xs) (.lst []) = some xs.isEmpty := by
  have : (noFn (.lst xs) && noFn (.lst []) && (dpLe eqD (.lst xs) || dpLe eqD (.lst []))) = true := by
    rw [show noFn (.lst xs) = noFns xs from rfl, h, show dpLe eqD (.lst []) = true from rfl, Bool.or_true]
    rfl
  unfold eqP
  rw [if_pos this]
  cases xs <;> rfl
def nats (a b : Nat) : List Nat := List.range' a (b - a)
theorem nats_len (a b : Nat) : (nats a b).length = b - a := by simp [nats]
theorem nats_get {a b j x : Nat} (h : (nats a b)[j]? = some x) : x = a + j ∧ x < b := by
  unfold nats at h
  have hj := (List.getElem?_eq_some_iff.mp h).1
  rw [List.length_range'] at hj
  rw [List.getElem?_range'] at h
  · have := Option.some.inj h
    omega
  · exact hj
theorem rng_nats (a b : Nat) : rng (a : Int) (b : Int) = (nats a b).map iv := by
  unfold rng nats
  rw [show ((b : Int) - a).toNat = b - a by omega, List.range'_eq_map_range, List.map_map]
  rfl
theorem rngN_nats (b : Nat) : rngN (b : Int) = (nats 0 b).map iv := by
  have := rng_nats 0 b
  rw [← this]
  unfold rngN rng
  simp
theorem rngOk_nat {n : Nat} (h : n ≤ 4000000) : rngOk (n : Int) = true ∧ rngOk (-(n : Int)) = true := ⟨decide_eq_true (by omega), decide_eq_true (by omega)⟩
theorem rng1Op_nat {n : Nat} (h : n ≤ 4000000) (S : Store) : rng1Op (.v (.int (n : Int))) S = .ok ((nats 0 n).map iv) S := by
  obtain ⟨a, b⟩ := rngOk_nat h
  simp [a, b, rngN_nats]
theorem rng2Op_nat {a b : Nat} (h : a ≤ 4000000) (h' : b ≤ 4000000) (S : Store) : rng2Op (.v (.int (a : Int))) (.v (.int (b : Int))) S = .ok ((nats a b).map iv) S := by
  obtain ⟨a1, a2⟩ := rngOk_nat h
  obtain ⟨b1, b2⟩ := rngOk_nat h'
  simp [a1, a2, b1, b2, rng_nats]
theorem rng2Op_of {x y : Int} {a b : Nat} (hx : x = a) (hy : y = b) (h : a ≤ 4000000) (h' : b ≤ 4000000) (S : Store) : rng2Op (.v (.int x)) (.v (.int y)) S = .ok ((nats a b).map iv) S := by
  subst hx hy
  exact rng2Op_nat h h' S
theorem rng1Op_of {x : Int} {a : Nat} (hx : x = a) (h : a ≤ 4000000) (S : Store) : rng1Op (.v (.int x)) S = .ok ((nats 0 a).map iv) S := by
  subst hx
  exact rng1Op_nat h S
theorem iv_get {a b j : Nat} {x : PV} (h : ((nats a b).map iv)[j]? = some x) : ∃ t, x = iv t ∧ t = a + j ∧ t < b := by
  refine ⟨a + j, ?_⟩
  suffices x = iv (a + j) ∧ a + j < b from ⟨this.1, rfl, this.2⟩
  rw [List.getElem?_map] at h
  cases hn : (nats a b)[j]? with
  | none => rw [hn] at h; cases h
  | some t =>
    rw [hn] at h
    obtain ⟨rfl, h2⟩ := nats_get hn
    exact ⟨(Option.some.inj h).symm, h2⟩
section
variable {Γ : List (Str × Fn)} {a b : CE} {ρ : Slots} {S : Store} {x y : Int} {m n : Nat}
theorem evI_r1 (ha : (ev Γ a).v ρ S = .ok (.v (.int x)) S) (hx : x = m) (hm : m ≤ 4000000) : evI Γ (.rng1 a) ρ S = .ok ((nats 0 m).map iv) S := by
  rw [evI_rng1]
  show ((ev Γ a).v ρ S).bind _ = _
  rw [ha]
  exact rng1Op_of hx hm S
theorem for_r1 {tg : CG} {c : CB} {r : Out FW.Flow} (ha : (ev Γ a).v ρ S = .ok (.v (.int x)) S) (hx : x = m) (hm : m ≤ 4000000) (e : forL (sTurn (bindG tg) (evB Γ c)) [] ((nats 0 m).map iv) ρ S = r) : evS Γ (.forr tg (.rng1 a) c []) ρ S = r := for_eq (evI_r1 ha hx hm) e
end
theorem cut_to {xs : List PV} {t : Nat} (h : t ≤ xs.length) : cut xs none (some (t : Int)) = xs.take t := by
  have e : sx xs.length xs.length (some (t : Int)) = t := by
    show (if (t : Int) < 0 then ((t : Int) + (xs.length : Int)).toNat else min (t : Int).toNat xs.length) = t
    rw [if_neg (by omega)]
    simp [h]
  unfold cut
  rw [e, show sx xs.length 0 none = 0 from rfl]
  simp
end FWP

namespace FWP
open PySem FW FWP
end FWP

namespace FWP
open PySem FW FWP
abbrev c__law_states_0 : CE := (.comp false [3] (.name 3) (.seq (.var 1)) (.k (.bl true)) (.bin .add false (.var 3) (.tup (.cons (.k (.int 0)) .nil))))
abbrev c__law_states_1 : CE := (.comp false [3] (.name 3) (.seq (.var 1)) (.k (.bl true)) (.bin .add false (.var 3) (.tup (.cons (.k (.int 1)) .nil))))
abbrev b__law_states_0 : CB := (.cons (.set 1 (.bin .add false c__law_states_0 c__law_states_1)) .nil)
def d__law_states : FW.Def := ⟨1, 4, (.cons (.set 1 (.list false (.cons (.tup .nil) .nil)))
      (.cons (.forr (.name 2) (.rng1 (.var 0))
      b__law_states_0 [])
      (.cons (.ret (.var 1)) .nil)))⟩
def g__law_states : List (Str × Fn) := []
def F__law_states : Fn := fnSem g__law_states d__law_states

abbrev c_mask_of_0 : CE := (.comp false [1] (.name 1) (.seq (.var 0)) (.k (.bl true)) (.bin .shl false (.k (.int 1)) (.var 1)))
def d_mask_of : FW.Def := ⟨1, 2, (.cons (.ret (.bi .sum false (.cons c_mask_of_0 .nil))) .nil)⟩
def g_mask_of : List (Str × Fn) := []
def F_mask_of : Fn := fnSem g_mask_of d_mask_of

abbrev c_values_of_0 : CE := (.comp false [2] (.name 2) (.seq (.idx (.var 0) (.k (.int 1)))) (.k (.bl true)) (.call 0 (.cons (.var 2) .nil)))
abbrev c_values_of_2 : CE := (.comp false [4] (.name 4) (.seq (.var 1)) (.cmp .eq (.bin .band false (.var 4) (.var 3)) (.var 4)) (.var 4))
abbrev c_values_of_1 : CE := (.comp false [3] (.name 3) (.rng1 (.bin .shl false (.k (.int 1)) (.idx (.var 0) (.k (.int 0))))) (.k (.bl true)) (.bi .int false (.cons (.cmp .ne c_values_of_2 (.list false .nil)) .nil)))
def d_values_of : FW.Def := ⟨1, 5, (.cons (.set 1 c_values_of_0)
      (.cons (.ret c_values_of_1) .nil))⟩
def g_values_of : List (Str × Fn) := [("mask_of", F_mask_of)]
def F_values_of : Fn := fnSem g_values_of d_values_of
@[simp] theorem g_values_of_0 : g_values_of[0]?.map Prod.snd = some F_mask_of := rfl

abbrev c__law_chances_0 : CE := (.comp false [3] (.name 3) (.rng1 (.var 1)) (.k (.bl true)) (.call 1 (.cons (.call 2 (.cons (.var 0) (.cons (.bin .add false (.var 2) (.k (.int 1))) .nil))) (.cons (.var 2) .nil))))
def d__law_chances : FW.Def := ⟨2, 4, (.cons (.set 2 (.call 0 (.cons (.var 0) (.cons (.list false (.cons (.k (.int 2)) (.cons (.k (.int 4)) (.cons (.k (.int 10)) .nil)))) .nil))))
      (.cons (.ret (.bi .tuple false (.cons c__law_chances_0 .nil))) .nil))⟩
def g__law_chances : List (Str × Fn) := [("_law_pick", F__law_pick), ("_law_ratio", F__law_ratio), ("_law_taken", F__law_taken)]
def F__law_chances : Fn := fnSem g__law_chances d__law_chances
@[simp] theorem g__law_chances_0 : g__law_chances[0]?.map Prod.snd = some F__law_pick := rfl
@[simp] theorem g__law_chances_1 : g__law_chances[1]?.map Prod.snd = some F__law_ratio := rfl
@[simp] theorem g__law_chances_2 : g__law_chances[2]?.map Prod.snd = some F__law_taken := rfl

abbrev b__law_weight_0 : CB := (.cons (.unpack (.cons (.name 4) (.cons (.name 5) .nil)) (.idx (.var 0) (.var 3)))
      (.cons (.set 2 (.call 0 (.cons (.var 2) (.cons (.ite (.cmp .eq (.idx (.var 1) (.var 3)) (.k (.int 1))) (.tup (.cons (.var 4) (.cons (.var 5) .nil))) (.tup (.cons (.bin .sub false (.var 5) (.var 4)) (.cons (.var 5) .nil)))) .nil)))) .nil))
def d__law_weight : FW.Def := ⟨2, 6, (.cons (.set 2 (.tup (.cons (.k (.int 1)) (.cons (.k (.int 1)) .nil))))
      (.cons (.forr (.name 3) (.rng1 (.bi .len false (.cons (.var 1) .nil)))
      b__law_weight_0 [])
      (.cons (.ret (.var 2)) .nil)))⟩
def g__law_weight : List (Str × Fn) := [("_law_times", F__law_times)]
def F__law_weight : Fn := fnSem g__law_weight d__law_weight
@[simp] theorem g__law_weight_0 : g__law_weight[0]?.map Prod.snd = some F__law_times := rfl

end FWP

namespace FWP
open PySem FW FWP
end FWP

namespace FWP
open PySem FW FWP
end FWP

namespace FWP
open PySem FW FWP
end FWP

namespace FWP
open PySem FW FWP
def d__law_some_chance : FW.Def := ⟨1, 2, (.cons (.set 1 (.bin .add false (.k (.int 2)) (.call 1 (.cons (.var 0) (.cons (.k (.int 9)) .nil)))))
      (.cons (.ret (.call 0 (.cons (.bin .add false (.k (.int 1)) (.call 1 (.cons (.var 0) (.cons (.bin .sub false (.var 1) (.k (.int 1))) .nil)))) (.cons (.var 1) .nil)))) .nil))⟩
def g__law_some_chance : List (Str × Fn) := [("_law_ratio", F__law_ratio), ("_law_taken", F__law_taken)]
def F__law_some_chance : Fn := fnSem g__law_some_chance d__law_some_chance
@[simp] theorem g__law_some_chance_0 : g__law_some_chance[0]?.map Prod.snd = some F__law_ratio := rfl
@[simp] theorem g__law_some_chance_1 : g__law_some_chance[1]?.map Prod.snd = some F__law_taken := rfl

end FWP

namespace FWP
open PySem FW
section
variable {k l : Nat} {q r : Rat} {S : Store}
theorem F_is_ratio_eq (hq : Bd k q) (hk : k ≤ 12000) : F_is_ratio [.v (rv q)] S = .ok (.v (.bl true)) S := by
  have hb : (q.den : Int).natAbs < 2 ^ 100000 := Nat.lt_of_lt_of_le hq.2 (Nat.pow_le_pow_right (by decide) (by omega))
  have hg : Int.gcd q.num q.den = 1 := by
    have := q.reduced
    rw [Int.gcd]
    exact this
  have hd : 0 < q.den := q.den_pos
  simp [F_is_ratio, d_is_ratio, rv, evS_forr, forL, F_gcd_eq _ _ _ hb, hg, hd]
theorem F_is_chance_eq (hq : Bd k q) (hk : k ≤ 12000) (h0 : 0 ≤ q) (h1 : q ≤ 1) : F_is_chance [.v (rv q)] S = .ok (.v (.bl true)) S := by
  have a := F_is_ratio_eq (S := S) hq hk
  have b0 : 0 ≤ q.num := Rat.num_nonneg.mpr h0
  have b1 : q.num ≤ (q.den : Int) := by
    have := (Rat.le_iff q 1).mp h1
    simpa using this
  simp only [rv] at a
  simp [F_is_chance, d_is_chance, rv, a, b0, b1]
end
abbrev rvs (L : List Rat) : List PV := L.map rv
theorem rv_one : rv 1 = .tup [.int 1, .int 1] := rfl
theorem rv_inj {q r : Rat} (h1 : q.num = r.num) (h2 : q.den = r.den) : q = r := Rat.ext h1 h2
theorem eqv_rv (q r : Rat) : eqv (rv q) (rv r) = decide (q = r) := by
  show (decide (q.num = r.num) && (decide ((q.den : Int) = (r.den : Int)) && true)) = _
  by_cases h : q = r
  · subst h; simp
  · rw [decide_eq_false h]
    by_cases h1 : q.num = r.num
    · have : ¬ ((q.den : Int) = (r.den : Int)) := fun z => h (rv_inj h1 (by omega))
      simp [this]
    · simp [h1]
structure LifeN (n k : Nat) (L : List Rat) : Prop where
  len : 2 ≤ L.length ∧ L.length ≤ n
  bd : ∀ q ∈ L, Bd k q
  ch : ∀ q ∈ L, 0 ≤ q ∧ q ≤ 1
  first : L[0]? = some 1
  last : L[L.length - 1]? = some 0
  pos : ∀ q ∈ L.dropLast, q ≠ 0
  fall : ∀ (t : Nat) (q r : Rat), L[t]? = some q → L[t + 1]? = some r → r ≤ q
abbrev Life (k : Nat) (L : List Rat) : Prop := LifeN 13 k L
section
variable {k : Nat} {L : List Rat} {S : Store}
end
end FWP

namespace FWP
open PySem FW
def sumR : List Rat → Rat
  | [] => 0
  | q :: r => q + sumR r
theorem sumR_snoc : ∀ (L : List Rat) (q : Rat), sumR (L ++ [q]) = sumR L + q
  | [], q => by show q + 0 = 0 + q; grind
  | x :: L, q => by show x + sumR (L ++ [q]) = x + sumR L + q; rw [sumR_snoc L q]; grind
theorem div_nn {q r : Rat} (hq : 0 < q) (hr : 0 ≤ r) : 0 ≤ r / q := by
  rw [Rat.div_def]
  exact Rat.mul_nonneg hr (Rat.le_of_lt (Rat.inv_pos.mpr hq))
theorem div_le_one {q r : Rat} (hq : 0 < q) (h : r ≤ q) : r / q ≤ 1 := by
  have h1 : 0 ≤ (q - r) / q := div_nn hq (by grind)
  have h2 : (q - r) / q = 1 - r / q := by grind
  rw [h2] at h1
  grind
theorem Bd.neg {k : Nat} {q : Rat} (h : Bd k q) : Bd k (-q) := ⟨by rw [Rat.neg_num, Int.natAbs_neg]; exact h.1, by rw [Rat.neg_den]; exact h.2⟩
theorem Bd.zero : Bd 1 0 := ⟨by decide, by decide⟩
def Cm (D : Int) (q : Rat) : Prop := ∃ n : Int, q * (D : Rat) = (n : Rat)
theorem Cm.one : Cm D 1 := ⟨D, by grind⟩
theorem Cm.zero : Cm D 0 := ⟨0, by simp⟩
theorem Cm.add {q r : Rat} (h1 : Cm D q) (h2 : Cm D r) : Cm D (q + r) := by
  obtain ⟨n, hn⟩ := h1
  obtain ⟨m, hm⟩ := h2
  exact ⟨n + m, by rw [Rat.intCast_add, ← hn, ← hm]; grind⟩
theorem Cm.neg {q : Rat} (h1 : Cm D q) : Cm D (-q) := by
  obtain ⟨n, hn⟩ := h1
  exact ⟨-n, by rw [Rat.intCast_neg, ← hn]; grind⟩
theorem Cm.sub {q r : Rat} (h1 : Cm D q) (h2 : Cm D r) : Cm D (q - r) := by
  rw [Rat.sub_eq_add_neg]; exact h1.add h2.neg
theorem Cm.mul {q r : Rat} (h1 : Cm D q) (h2 : Cm E r) : Cm (D * E) (q * r) := by
  obtain ⟨n, hn⟩ := h1
  obtain ⟨m, hm⟩ := h2
  exact ⟨n * m, by rw [Rat.intCast_mul, Rat.intCast_mul, ← hn, ← hm]; grind⟩
theorem Cm.up {q : Rat} (h1 : Cm D q) (E : Int) : Cm (D * E) q := by
  have := h1.mul (Cm.one (D := E))
  rwa [Rat.mul_one] at this
theorem Cm.int (x : Int) {q : Rat} (h1 : Cm D q) : Cm D (x * q) := by
  obtain ⟨n, hn⟩ := h1
  exact ⟨x * n, by rw [Rat.intCast_mul, ← hn]; grind⟩
theorem mul_den (q : Rat) : q * (q.den : Rat) = (q.num : Rat) := by
  have h := Rat.num_divInt_den q
  rw [Rat.divInt_eq_div] at h
  have hz : ((q.den : Int) : Rat) ≠ 0 := by exact_mod_cast q.den_nz
  have e : ((q.den : Int) : Rat) = (q.den : Rat) := rfl
  rw [e] at h hz
  grind
theorem Cm.bd {q : Rat} {M k : Nat} (h : Cm D q) (hD : 0 < D) (h1 : 0 ≤ q) (h2 : q ≤ (M : Int)) (hk : (M + 1) * D.toNat < 2 ^ k) : Bd k q := by
  obtain ⟨n, hn⟩ := h
  have hz : (q.den : Rat) ≠ 0 := by exact_mod_cast q.den_nz
  have e : q.num * D = n * q.den := by
    have e1 : q * (q.den : Rat) = (q.num : Rat) := mul_den q
    have : ((q.num * D : Int) : Rat) = ((n * (q.den : Int) : Int) : Rat) := by
      rw [Rat.intCast_mul, Rat.intCast_mul, ← hn, ← e1]
      show q * (q.den : Rat) * D = q * D * (q.den : Rat)
      grind
    exact_mod_cast this
  have hdvd : q.den ∣ D.natAbs := by
    have : q.den ∣ q.num.natAbs * D.natAbs := by
      rw [← Int.natAbs_mul, e, Int.natAbs_mul]
      exact ⟨n.natAbs, by rw [Nat.mul_comm]; rfl⟩
    exact Nat.Coprime.dvd_of_dvd_mul_left q.reduced.symm this
  have hden : q.den ≤ D.toNat := by
    have := Nat.le_of_dvd (by omega) hdvd
    omega
  have hM : D.toNat ≤ (M + 1) * D.toNat := Nat.le_mul_of_pos_left _ (by omega)
  refine ⟨?_, by omega⟩
  have n0 : 0 ≤ q.num := Rat.num_nonneg.mpr h1
  have hq : q.num ≤ (M : Int) * q.den := by
    have e1 : q * (q.den : Rat) = (q.num : Rat) := mul_den q
    have hp : (0 : Rat) ≤ (q.den : Rat) := by exact_mod_cast Nat.zero_le _
    have : (q.num : Rat) ≤ (((M : Int) * (q.den : Int) : Int) : Rat) := by
      rw [Rat.intCast_mul, ← e1]
      exact Rat.mul_le_mul_of_nonneg_right h2 hp
    exact_mod_cast this
  have h3 : q.num.toNat ≤ M * q.den := by
    have : ((q.num.toNat : Nat) : Int) ≤ ((M * q.den : Nat) : Int) := by rw [Int.toNat_of_nonneg n0]; exact_mod_cast hq
    exact_mod_cast this
  have h4 : M * q.den ≤ M * D.toNat := Nat.mul_le_mul_left _ hden
  have h5 : (M + 1) * D.toNat = M * D.toNat + D.toNat := Nat.succ_mul _ _
  omega
section
variable {k l : Nat} {q r : Rat} {S : Store}
theorem one_sub (q : Rat) : rv (1 - q) = .tup [.int ((q.den : Int) - q.num), .int q.den] := by
  have e : 1 - q = Rat.divInt ((q.den : Int) - q.num) q.den := by
    have := sub_eq 1 q
    simpa using this
  have hd : 0 < q.den := q.den_pos
  have hg : Int.gcd (q.den : Int) ((q.den : Int) - q.num) = 1 := by
    have h1 : Int.gcd (q.den : Int) ((q.den : Int) - q.num) = Int.gcd (q.den : Int) q.num := by
      rw [Int.gcd_sub_left_right_of_dvd _ (Int.dvd_refl _)]
    rw [h1, Int.gcd_comm]
    exact q.reduced
  have n1 : (1 - q).num = (q.den : Int) - q.num := by
    rw [e, Rat.num_divInt, hg, Int.sign_eq_one_of_pos (by omega)]
    simp
  have n2 : (1 - q).den = q.den := by
    rw [e, Rat.den_divInt, hg, if_neg (by omega)]
    simp
  unfold rv
  rw [n1, n2]
theorem F_less_one_eq (q : Rat) : F__law_less_one [.v (rv q)] S = .ok (.v (rv (1 - q))) S := by
  rw [one_sub]
  simp [F__law_less_one, d__law_less_one, rv, line]
end
end FWP

namespace FWP
open PySem FW
section
variable {k : Nat} {L : List Rat} {S : Store}
theorem Bd.one : Bd 1 1 := ⟨by decide, by decide⟩
theorem LifeN.nz {n : Nat} (h : LifeN n k L) {t : Nat} {q : Rat} (ht : t + 1 < L.length) (hq : L[t]? = some q) : q ≠ 0 := by
  refine h.pos q ?_
  rw [List.dropLast_eq_take]
  exact List.mem_of_getElem? (i := t) (by rw [List.getElem?_take_of_lt (by omega)]; exact hq)
end
end FWP

namespace FWP
open PySem FW
section
variable {k : Nat} {L : List Rat} {S : Store}
theorem LifeN.pos_at {n : Nat} (h : LifeN n k L) {t : Nat} {q : Rat} (ht : t + 1 < L.length) (hq : L[t]? = some q) : 0 < q := by
  have h1 := h.nz ht hq
  have h2 := (h.ch q (List.mem_of_getElem? hq)).1
  grind
def left (L : List Rat) (t : Nat) : List Rat := (L.drop t).map fun q => q / L.getD t 0
end
end FWP

namespace FWP
open PySem FW
section
variable {k : Nat} {L : List Rat} {S : Store}
theorem Life.le (h : Life k L) : ∀ (m t : Nat) (q r : Rat), L[t]? = some q → L[t + m]? = some r → r ≤ q := by
  intro m
  induction m with
  | zero => intro t q r h1 h2; rw [Nat.add_zero, h1] at h2; cases h2; exact Rat.le_refl
  | succ m ih =>
    intro t q r h1 h2
    have hl : t + (m + 1) < L.length := (List.getElem?_eq_some_iff.mp h2).1
    have g := List.getElem?_eq_getElem (show t + m < L.length by omega)
    exact Rat.le_trans (h.fall (t + m) _ r g (by rw [← h2]; congr 1)) (ih t q _ h1 g)
theorem left_at {t s : Nat} {p q : Rat} (hp : L[t]? = some p) (hq : L[t + s]? = some q) : (left L t)[s]? = some (q / p) := by
  unfold left
  rw [List.getElem?_map, List.getElem?_drop, hq, List.getD_eq_getElem?_getD, hp]
  rfl
theorem left_len (t : Nat) : (left L t).length = L.length - t := by unfold left; simp
theorem Life.rest (h : Life k L) {t : Nat} (ht : t + 1 < L.length) : Life (k + k) (left L t) := by
  obtain ⟨h2, h13⟩ := h.len
  have hp := List.getElem?_eq_getElem (show t < L.length by omega)
  have bp := h.bd _ (List.mem_of_getElem? hp)
  have pp := h.pos_at ht hp
  have nz := h.nz ht hp
  have at_ : ∀ {s : Nat} {x : Rat}, (left L t)[s]? = some x → ∃ q, L[t + s]? = some q ∧ x = q / L[t] := fun {s x} hx => by
    have hs : s < (left L t).length := (List.getElem?_eq_some_iff.mp hx).1
    rw [left_len] at hs
    have hq := List.getElem?_eq_getElem (show t + s < L.length by omega)
    refine ⟨_, hq, ?_⟩
    rw [left_at hp hq] at hx
    exact (Option.some.inj hx).symm
  refine ⟨⟨by rw [left_len]; omega, by rw [left_len]; omega⟩, fun x hx => ?_, fun x hx => ?_, ?_, ?_, fun x hx => ?_, fun s q r hq hr => ?_⟩
  · obtain ⟨s, hs⟩ := List.getElem?_of_mem hx
    obtain ⟨q, hq, rfl⟩ := at_ hs
    exact (h.bd q (List.mem_of_getElem? hq)).div bp nz
  · obtain ⟨s, hs⟩ := List.getElem?_of_mem hx
    obtain ⟨q, hq, rfl⟩ := at_ hs
    exact ⟨div_nn pp (h.ch q (List.mem_of_getElem? hq)).1, div_le_one pp (h.le s t _ q hp hq)⟩
  · rw [left_at (s := 0) hp hp]
    congr 1
    grind
  · have hl : L[t + (L.length - 1 - t)]? = some 0 := by rw [show t + (L.length - 1 - t) = L.length - 1 by omega]; exact h.last
    rw [left_len, show L.length - t - 1 = L.length - 1 - t by omega, left_at hp hl]
    congr 1
    grind
  · obtain ⟨s, hs⟩ := List.getElem?_of_mem hx
    have hl : s < (left L t).dropLast.length := (List.getElem?_eq_some_iff.mp hs).1
    rw [List.length_dropLast, left_len] at hl
    rw [List.dropLast_eq_take, List.getElem?_take_of_lt (by rw [left_len]; omega)] at hs
    obtain ⟨q, hq, rfl⟩ := at_ hs
    have hq0 := h.nz (show t + s + 1 < L.length by omega) hq
    intro z
    apply hq0
    have e : q = q / L[t] * L[t] := by grind
    rw [e, z]
    grind
  · obtain ⟨q', hq', rfl⟩ := at_ hq
    obtain ⟨r', hr', rfl⟩ := at_ hr
    have hle := h.fall (t + s) q' r' hq' (by rw [← hr']; congr 1)
    have h1 : 0 ≤ (q' - r') / L[t] := div_nn pp (by grind)
    have e : (q' - r') / L[t] = q' / L[t] - r' / L[t] := by grind
    rw [e] at h1
    grind
end
end FWP

namespace FWP
open PySem FW
section
variable {k : Nat} {L : List Rat} {S : Store}
end
end FWP

namespace FWP
open PySem FW
structure Pre (b : Int) (P : List Rat) : Prop where
  ne : P ≠ []
  first : P[0]? = some 1
  ok : ∀ q ∈ P, 0 < q ∧ q ≤ 1
  bd : ∀ q ∈ P, Bd (4 * P.length) q
  cd : ∀ q ∈ P, Cm (b ^ P.length) q
  fall : ∀ (t : Nat) (q r : Rat), P[t]? = some q → P[t + 1]? = some r → r ≤ q
theorem Pre.one {b : Int} : Pre b [1] := ⟨by simp, rfl, fun q h => by simp at h; subst h; exact ⟨by decide, by decide⟩, fun q h => by simp at h; subst h; exact Bd.one.mono (by decide), fun q h => by simp at h; subst h; exact Cm.one, fun t q r h1 h2 => by simp at h2⟩
theorem Pre.step {b : Int} {P : List Rat} (h : Pre b P) {p x : Rat} (hp : P[P.length - 1]? = some p) (hx : 0 < x) (hx1 : x ≤ 1) (hb : Bd 4 x) (hc : Cm b x) : Pre b (P ++ [p * x]) := by
  have hpm := List.mem_of_getElem? hp
  obtain ⟨p0, p1⟩ := h.ok p hpm
  have h0 : 0 < p * x := Rat.mul_pos p0 hx
  have hle : p * x ≤ p := by
    have : 0 ≤ p * (1 - x) := Rat.mul_nonneg (Rat.le_of_lt p0) (by grind)
    grind
  have hl : 0 < P.length := List.length_pos_iff.mpr h.ne
  refine ⟨by simp, by rw [List.getElem?_append_left hl]; exact h.first, fun q hq => ?_, fun q hq => ?_, fun q hq => ?_, fun t q r h1 h2 => ?_⟩
  · rcases List.mem_append.mp hq with hq | hq
    · exact h.ok q hq
    · simp at hq; subst hq; exact ⟨h0, Rat.le_trans hle p1⟩
  · rw [List.length_append, List.length_singleton]
    rcases List.mem_append.mp hq with hq | hq
    · exact (h.bd q hq).mono (by omega)
    · simp at hq; subst hq; exact ((h.bd p hpm).mul hb).mono (by omega)
  · rw [List.length_append, List.length_singleton, Int.pow_succ]
    rcases List.mem_append.mp hq with hq | hq
    · exact (h.cd q hq).up b
    · simp at hq; subst hq; exact (h.cd p hpm).mul hc
  · have ht : t + 1 < (P ++ [p * x]).length := (List.getElem?_eq_some_iff.mp h2).1
    rw [List.length_append, List.length_singleton] at ht
    by_cases hlt : t + 1 < P.length
    · rw [List.getElem?_append_left (by omega)] at h1 h2
      exact h.fall t q r h1 h2
    · have e : t = P.length - 1 := by omega
      subst e
      rw [List.getElem?_append_left (by omega), hp] at h1
      cases h1
      rw [List.getElem?_append_right (by omega), show P.length - 1 + 1 - P.length = 0 by omega] at h2
      simp at h2
      rw [← h2]
      exact hle
theorem Pre.life {b : Int} {P : List Rat} (h : Pre b P) (hl : P.length ≤ 12) : Life (4 * P.length) (P ++ [0]) := by
  have h0 : 0 < P.length := List.length_pos_iff.mpr h.ne
  refine ⟨by simp; omega, fun q hq => ?_, fun q hq => ?_, by rw [List.getElem?_append_left h0]; exact h.first, by simp, fun q hq => ?_, fun t q r h1 h2 => ?_⟩
  · rcases List.mem_append.mp hq with hq | hq
    · exact h.bd q hq
    · simp at hq; subst hq; exact Bd.zero.mono (by omega)
  · rcases List.mem_append.mp hq with hq | hq
    · obtain ⟨a, b⟩ := h.ok q hq
      exact ⟨Rat.le_of_lt a, b⟩
    · simp at hq; subst hq; exact ⟨by decide, by decide⟩
  · rw [List.dropLast_concat] at hq
    obtain ⟨a, b⟩ := h.ok q hq
    intro z; rw [z] at a; exact absurd a (by decide)
  · have ht : t + 1 < (P ++ [(0 : Rat)]).length := (List.getElem?_eq_some_iff.mp h2).1
    rw [List.length_append, List.length_singleton] at ht
    by_cases hlt : t + 1 < P.length
    · rw [List.getElem?_append_left (by omega)] at h1 h2
      exact h.fall t q r h1 h2
    · rw [List.getElem?_append_left (by omega)] at h1
      rw [List.getElem?_append_right (by omega), show t + 1 - P.length = 0 by omega] at h2
      simp at h2
      rw [← h2]
      exact Rat.le_of_lt (h.ok q (List.mem_of_getElem? h1)).1
end FWP

namespace FWP
open PySem FW
theorem LifeN.mono {n k l : Nat} {L : List Rat} (h : LifeN n k L) (hk : k ≤ l) : LifeN n l L := ⟨h.len, fun q hq => (h.bd q hq).mono hk, h.ch, h.first, h.last, h.pos, h.fall⟩
end FWP

namespace FWP
open PySem FW
section
variable {L : List Rat} {Γ : List (Str × Fn)}
end
end FWP

namespace FWP
open PySem FW FWP

def b__law_power_0 : CB := (.cons (.set 2 (.call 0 (.cons (.var 2) (.cons (.var 0) .nil)))) .nil)
def d__law_power : FW.Def := ⟨2, 4, (.cons (.set 2 (.tup (.cons (.k (.int 1)) (.cons (.k (.int 1)) .nil))))
      (.cons (.forr (.name 3) (.rng1 (.var 1))
      b__law_power_0 [])
      (.cons (.ret (.var 2)) .nil)))⟩
def g__law_power : List (Str × Fn) := [("_law_times", F__law_times)]
def F__law_power : Fn := fnSem g__law_power d__law_power
@[simp] theorem g__law_power_0 : g__law_power[0]?.map Prod.snd = some F__law_times := rfl

end FWP

namespace FWP
open PySem FW FWP
end FWP

namespace FWP
open PySem FW FWP
end FWP

namespace FWP
open PySem FW FWP
abbrev b_nested_values_1 : CB := (.cons (.set 9 (.idx (.idx (.var 1) (.var 6)) (.k (.int 0))))
      (.cons (.aug 7 .add (.bin .shl false (.idx (.idx (.var 4) (.var 6)) (.bin .band false (.bin .shr false (.var 2) (.var 8)) (.bin .sub false (.bin .shl false (.k (.int 1)) (.var 9)) (.k (.int 1))))) (.var 6)))
      (.cons (.aug 8 .add (.var 9)) .nil)))
abbrev b_nested_values_0 : CB := (.cons (.unpack (.cons (.name 7) (.cons (.name 8) .nil)) (.tup (.cons (.k (.int 0)) (.cons (.k (.int 0)) .nil))))
      (.cons (.forr (.name 6) (.rng1 (.bi .len false (.cons (.var 1) .nil)))
      b_nested_values_1 [])
      (.cons (.app 5 (.idx (.var 3) (.var 7))) .nil)))
def g_nested_values : List (Str × Fn) := [("values_of", F_values_of)]
@[simp] theorem g_nested_values_0 : g_nested_values[0]?.map Prod.snd = some F_values_of := rfl

end FWP

namespace FWP
open PySem FW FWP
end FWP

namespace FWP
open PySem FW FWP
abbrev c_need_row_0 : CE := (.comp false [1] (.name 1) (.seq (.var 0)) (.nt (.call 0 (.cons (.var 1) .nil))) (.var 1))
def d_need_row : FW.Def := ⟨1, 2, (.cons (.ifs (.or (.cons (.nt (.isi [.tuple] (.var 0))) (.cons (.nt (.chain .le .le (.k (.int 1)) (.bi .len false (.cons (.var 0) .nil)) (.glob "MOST_ROW" (.int 60)))) .nil)))
      (.cons (.raise "" .nil) .nil)
      (.nil))
      (.cons (.ifs (.cmp .ne c_need_row_0 (.list false .nil))
      (.cons (.raise "" .nil) .nil)
      (.nil)) .nil))⟩
def g_need_row : List (Str × Fn) := [("is_chance", F_is_chance)]
def F_need_row : Fn := fnSem g_need_row d_need_row
@[simp] theorem g_need_row_0 : g_need_row[0]?.map Prod.snd = some F_is_chance := rfl

def d_failed : FW.Def := ⟨1, 1, (.cons (.ret (.call 0 (.cons (.glob "ONE" (.tup [(.int 1), (.int 1)])) (.cons (.var 0) .nil)))) .nil)⟩
def g_failed : List (Str × Fn) := [("minus", F_minus)]
def F_failed : Fn := fnSem g_failed d_failed
@[simp] theorem g_failed_0 : g_failed[0]?.map Prod.snd = some F_minus := rfl

end FWP

namespace FWP
open PySem FW
abbrev nn (t : Nat) : PV := .int (t : Int)
abbrev bitV (b : Bool) : PV := .int (if b = true then 1 else 0)
structure Tag {α : Sort _} (a : α) : Type where
def Mem {α : Type} (a : α) (l : List α) : Prop := a ∈ l
theorem Mem.out {α : Type} {a : α} {l : List α} (h : Mem a l) : a ∈ l := h
noncomputable instance {α : Type} {a : α} {l : List α} : Decidable (Mem a l) := Classical.propDecidable _
def compG {α : Type} (f : α → Store → Out (Option PV)) : List α → Store → Out (List PV)
  | [], S => .ok [] S
  | a :: l, S => (f a S).bind fun y S1 => (compG f l S1).bind fun ys S2 => .ok (match y with | some y => y :: ys | none => ys) S2
theorem compG_congr {α : Type} {f g : α → Store → Out (Option PV)} {l : List α} {S : Store} (h : ∀ a, a ∈ l → ∀ S, f a S = g a S) : compG f l S = compG g l S := by
  induction l generalizing S with
  | nil => rfl
  | cons a l ih =>
    show (f a S).bind _ = (g a S).bind _
    rw [h a List.mem_cons_self]
    congr 1
    funext y S1
    rw [ih fun b hb => h b (List.mem_cons_of_mem _ hb)]
theorem compG_mem {α : Type} {f h : α → Store → Out (Option PV)} {l : List α} {S : Store} : compG (fun a S => if Mem a l then f a S else h a S) l S = compG f l S := compG_congr fun a ha S => if_pos ha
theorem compL_mapG {α : Type} {f : PV → Store → Out (Option PV)} {x : α → PV} {l : List α} {S : Store} : compL f (l.map x) S = compG (fun a S => if Mem a l then f (x a) S else .bad) l S := by
  rw [compG_mem]
  induction l generalizing S with
  | nil => rfl
  | cons a l ih =>
    show (f (x a) S).bind _ = (f (x a) S).bind _
    congr 1
    funext y S1
    exact congrArg (fun o => Out.bind o _) ih
theorem compG_all' {α : Type} {g : α → PV} : ∀ {l : List α} {S : Store}, compG (fun a S => .ok (some (g a)) S) l S = .ok (l.map g) S
  | [], _ => rfl
  | a :: l, S => by
    show (compG _ l S).bind _ = _
    rw [compG_all']
    rfl
theorem compG_none' {α : Type} : ∀ {l : List α} {S : Store}, compG (fun _ S => .ok none S) l S = .ok [] S
  | [], _ => rfl
  | a :: l, S => by
    show (compG _ l S).bind _ = _
    rw [compG_none']
    rfl
theorem compG_some' {α : Type} {P : α → Prop} [∀ a, Decidable (P a)] {g : α → PV} : ∀ {l : List α} {S : Store}, compG (fun a S => if P a then .ok (some (g a)) S else .ok none S) l S = .ok ((l.filter fun a => decide (P a)).map g) S
  | [], _ => rfl
  | a :: l, S => by
    show (if P a then _ else _ : Out (Option PV)).bind _ = _
    by_cases h : P a
    · rw [if_pos h]
      show (compG _ l S).bind _ = _
      rw [compG_some']
      simp [h]
    · rw [if_neg h]
      show (compG _ l S).bind _ = _
      rw [compG_some']
      simp [h]
theorem compG_two' {α : Type} {P : α → Prop} [∀ a, Decidable (P a)] {g h : α → PV} : ∀ {l : List α} {S : Store}, compG (fun a S => if P a then .ok (some (g a)) S else .ok (some (h a)) S) l S = .ok (l.map fun a => if P a then g a else h a) S
  | [], _ => rfl
  | a :: l, S => by
    show (if P a then _ else _ : Out (Option PV)).bind _ = _
    by_cases h : P a
    · rw [if_pos h]
      show (compG _ l S).bind _ = _
      rw [compG_two']
      simp [h]
    · rw [if_neg h]
      show (compG _ l S).bind _ = _
      rw [compG_two']
      simp [h]
section
variable {α : Type} {l : List α} {S : Store} {g h : α → PV}
theorem compG_all : compG (fun a S => if Mem a l then .ok (some (g a)) S else .bad) l S = .ok (l.map g) S := compG_mem.trans compG_all'
theorem compG_none : compG (fun a S => if Mem a l then .ok none S else .bad) l S = .ok [] S := compG_mem.trans compG_none'
theorem compG_some {P : α → Prop} [∀ a, Decidable (P a)] : compG (fun a S => if Mem a l then (if P a then .ok (some (g a)) S else .ok none S) else .bad) l S = .ok ((l.filter fun a => decide (P a)).map g) S := compG_mem.trans compG_some'
theorem compG_two {P : α → Prop} [∀ a, Decidable (P a)] : compG (fun a S => if Mem a l then (if P a then .ok (some (g a)) S else .ok (some (h a)) S) else .bad) l S = .ok (l.map fun a => if P a then g a else h a) S := compG_mem.trans compG_two'
theorem compG_3 {P Q : α → Prop} [∀ a, Decidable (P a)] [∀ a, Decidable (Q a)] : compG (fun a S => if Mem a l then (if P a then (if Q a then .ok (some (g a)) S else .ok (some (h a)) S) else .ok none S) else .bad) l S = .ok ((l.filter fun a => decide (P a)).map fun a => if Q a then g a else h a) S := by
  have : (fun (a : α) (S : Store) => if Mem a l then (if P a then (if Q a then Out.ok (some (g a)) S else .ok (some (h a)) S) else .ok none S) else .bad) = fun a S => if Mem a l then (if P a then .ok (some (if Q a then g a else h a)) S else .ok none S) else .bad := by
    funext a S
    split
    · split
      · split <;> rfl
      · rfl
    · rfl
  rw [this]
  exact compG_some (g := fun a => if Q a then g a else h a)
end
theorem ite_int {c : Prop} [Decidable c] {i j : Int} : (if c then PV.int i else PV.int j) = PV.int (if c then i else j) := by split <;> rfl
def compGG {α : Type} (f : α → Store → Out (List PV)) : List α → Store → Out (List PV)
  | [], S => .ok [] S
  | a :: l, S => (f a S).bind fun y S1 => (compGG f l S1).bind fun ys S2 => .ok (y ++ ys) S2
theorem compGG_congr {α : Type} {f g : α → Store → Out (List PV)} {l : List α} {S : Store} (h : ∀ a, a ∈ l → ∀ S, f a S = g a S) : compGG f l S = compGG g l S := by
  induction l generalizing S with
  | nil => rfl
  | cons a l ih =>
    show (f a S).bind _ = (g a S).bind _
    rw [h a List.mem_cons_self]
    congr 1
    funext y S1
    rw [ih fun b hb => h b (List.mem_cons_of_mem _ hb)]
theorem compGG_mem {α : Type} {f h : α → Store → Out (List PV)} {l : List α} {S : Store} : compGG (fun a S => if Mem a l then f a S else h a S) l S = compGG f l S := compGG_congr fun a ha S => if_pos ha
theorem compLL_map {α : Type} {f : PV → Store → Out (List PV)} {x : α → PV} {l : List α} {S : Store} : compLL f (l.map x) S = compGG (fun a S => if Mem a l then f (x a) S else .bad) l S := by
  rw [compGG_mem]
  induction l generalizing S with
  | nil => rfl
  | cons a l ih =>
    show (f (x a) S).bind _ = (f (x a) S).bind _
    congr 1
    funext y S1
    exact congrArg (fun o => Out.bind o _) ih
theorem compGG_all' {α β : Type} {x : β → PV} {g : α → List β} : ∀ {l : List α} {S : Store}, compGG (fun a S => .ok ((g a).map x) S) l S = .ok ((l.flatMap g).map x) S
  | [], _ => rfl
  | a :: l, S => by
    show (compGG _ l S).bind _ = _
    rw [compGG_all']
    simp
theorem compGG_all {α β : Type} {x : β → PV} {g : α → List β} {l : List α} {S : Store} : compGG (fun a S => if Mem a l then .ok ((g a).map x) S else .bad) l S = .ok ((l.flatMap g).map x) S := compGG_mem.trans compGG_all'
theorem ite_both {α : Sort _} {A B : Prop} [Decidable A] [Decidable B] {x y : α} : (if A then (if B then x else y) else y) = if A ∧ B then x else y := by by_cases A <;> by_cases B <;> simp [*]
theorem ite_okb {A : Prop} [Decidable A] {p q : Bool} {S : Store} : (if A then Out.ok p S else Out.ok q S) = .ok (if A then p else q) S := by split <;> rfl
theorem mkL_f {xs : List PV} {S : Store} (h : xs.length ≤ 16777216) : mkL false xs S = .ok (.v (.lst xs)) S := by unfold mkL; rw [if_pos (show xs.length ≤ line from h)]; rfl
theorem mkL_t {xs : List PV} {S : Store} (h : xs.length ≤ 16777216) : mkL true xs S = .ok (.l S.length) (S ++ [.lst xs]) := by unfold mkL; rw [if_pos (show xs.length ≤ line from h)]; rfl
theorem mkT_ok {xs : List PV} {S : Store} (h : xs.length ≤ 16777216) : mkT xs S = .ok (.v (.tup xs)) S := by unfold mkT; rw [if_pos (show xs.length ≤ line from h)]
theorem rng1_n {n : Nat} {S : Store} (h : n ≤ 4000000) : rng1Op (.v (.int (n : Int))) S = .ok ((List.range n).map nn) S := by
  rw [rng1Op_nat h]
  simp only [nats, Nat.sub_zero, List.range_eq_range']
  rfl
theorem rng1_i {i : Int} {S : Store} (h : 0 ≤ i) (h2 : i ≤ 4000000) : rng1Op (.v (.int i)) S = .ok ((List.range i.toNat).map nn) S := by
  have := rng1_n (n := i.toNat) (S := S) (by omega)
  rwa [show ((i.toNat : Nat) : Int) = i by omega] at this
def bitN (k : Nat) : Nat := 2 ^ k
theorem bitN_le {n : Nat} (h : n ≤ 8) : bitN n ≤ 256 := by
  have : ∀ m, m ≤ 8 → bitN m ≤ 256 := by decide
  exact this n h
theorem rng2_n {a b : Nat} {S : Store} (h : a ≤ 4000000) (h' : b ≤ 4000000) : rng2Op (.v (.int (a : Int))) (.v (.int (b : Int))) S = .ok ((nats a b).map nn) S := rng2Op_nat h h' S
theorem zip_map {α β : Type} {x : α → PV} {y : β → PV} : ∀ {l : List α} {l' : List β}, zipL (l.map x) (l'.map y) = (l.zip l').map fun ab => .tup [x ab.1, y ab.2]
  | [], _ => by simp [zipL]
  | _ :: _, [] => by simp [zipL]
  | a :: l, b :: l' => by simp [zipL, zip_map]
theorem enum_map {α : Type} {x : α → PV} : ∀ {l : List α} {i : Nat}, enumL i (l.map x) = (l.zipIdx i).map fun ai => .tup [nn ai.2, x ai.1]
  | [], _ => rfl
  | a :: l, i => by
    show PV.tup [nn i, x a] :: enumL (i + 1) (l.map x) = _
    rw [enum_map]
    rfl
theorem noFns_map {α : Type} {g : α → PV} : ∀ {l : List α}, noFns (l.map g) = l.all fun a => noFn (g a)
  | [] => rfl
  | a :: l => by show (noFn (g a) && noFns (l.map g)) = _; rw [noFns_map]; rfl
@[simp] theorem noFn_int {i} : noFn (.int i) = true := rfl
@[simp] theorem noFn_bl {i} : noFn (.bl i) = true := rfl
@[simp] theorem noFn_str {i} : noFn (.str i) = true := rfl
@[simp] theorem noFn_non : noFn .non = true := rfl
@[simp] theorem noFn_tup {xs} : noFn (.tup xs) = noFns xs := rfl
@[simp] theorem noFn_lst {xs} : noFn (.lst xs) = noFns xs := rfl
@[simp] theorem noFns_nil : noFns [] = true := rfl
@[simp] theorem noFns_cons {x xs} : noFns (x :: xs) = (noFn x && noFns xs) := rfl
theorem eqP_nilL {xs : List PV} : eqP (.lst xs) (.lst []) = if noFns xs = true then some xs.isEmpty else none := by
  by_cases h : noFns xs = true
  · rw [eqP_nilR h, if_pos h]
  · rw [if_neg h]
    unfold eqP
    rw [if_neg]
    simp [h]
theorem op_shl {k : Nat} (h : k ≤ 1000000) : intOp .shl 1 (k : Int) = some ((bitN k : Nat) : Int) := by
  unfold intOp bitN
  simp
  omega
theorem op_shln {a k : Nat} (h : k ≤ 1000000) (h2 : a < 18446744073709551616) : intOp .shl (a : Int) (k : Int) = some ((a * bitN k : Nat) : Int) := by
  unfold intOp bitN
  simp
  omega
def shrN (m k : Nat) : Nat := m >>> k
def andN (m k : Nat) : Nat := m &&& k
def orN (m k : Nat) : Nat := m ||| k
def xorN (m k : Nat) : Nat := m ^^^ k
theorem op_shr {m k : Nat} : intOp .shr (m : Int) (k : Int) = some ((shrN m k : Nat) : Int) := by
  unfold intOp shrN
  simp [Nat.shiftRight_eq_div_pow]
theorem op_and {a b : Nat} : intOp .band (a : Int) (b : Int) = some ((andN a b : Nat) : Int) := by
  unfold intOp andN
  simp
theorem op_bit {m k : Nat} : intOp .band ((shrN m k : Nat) : Int) 1 = some (if m.testBit k = true then 1 else 0) := by
  have : intOp .band ((shrN m k : Nat) : Int) 1 = some ((andN (shrN m k) 1 : Nat) : Int) := op_and (b := 1)
  rw [this]
  congr 1
  show ((m >>> k &&& 1 : Nat) : Int) = _
  rw [Nat.and_one_is_mod, Nat.testBit_eq_decide_div_mod_eq, Nat.shiftRight_eq_div_pow]
  by_cases h : m / 2 ^ k % 2 = 1
  · simp [h]
  · have : m / 2 ^ k % 2 = 0 := by omega
    simp [this]
theorem op_or {a b : Nat} : intOp .bor (a : Int) (b : Int) = some ((orN a b : Nat) : Int) := by
  unfold intOp orN
  simp
theorem op_xor {a b : Nat} : intOp .bxor (a : Int) (b : Int) = some ((xorN a b : Nat) : Int) := by
  unfold intOp xorN
  simp
theorem op_add {a b : Int} : intOp .add a b = some (a + b) := rfl
theorem op_sub {a b : Int} : intOp .sub a b = some (a - b) := rfl
theorem ints_mapf {α : Type} {f : α → Int} : ∀ {l : List α}, ints? (l.map fun a => PV.int (f a)) = some (l.map f)
  | [] => rfl
  | a :: l => by simp [ints?, ints_mapf]
theorem sumI_map {α : Type} {f : α → Nat} : ∀ {l : List α}, sumI (l.map fun a => ((f a : Nat) : Int)) = (((l.map f).sum : Nat) : Int)
  | [] => rfl
  | a :: l => by
    show ((f a : Nat) : Int) + sumI (l.map fun a => ((f a : Nat) : Int)) = _
    rw [sumI_map]
    rfl
theorem ix_n {n t : Nat} (h : t < n) : ix? n (t : Int) = some t := by rw [ix_nat, if_pos h]
theorem ix_n1 {n t : Nat} (h : t + 1 < n) : ix? n ((t : Int) + 1) = some (t + 1) := by rw [ix_nat1, if_pos h]
theorem ix_i0 {n : Nat} (h : 0 < n) : ix? n 0 = some 0 := by rw [ix_0, if_pos h]
theorem ix_i1 {n : Nat} (h : 1 < n) : ix? n 1 = some 1 := by rw [ix_1, if_pos h]
theorem ix_i2 {n : Nat} (h : 2 < n) : ix? n 2 = some 2 := by rw [ix_2, if_pos h]
def ith {α : Type} [Inhabited α] (l : List α) (t : Nat) : α := l.getD t default
theorem get_ith {α : Type} [Inhabited α] {l : List α} {t : Nat} (h : t < l.length) : l[t]? = some (ith l t) := by
  rw [List.getElem?_eq_getElem h]
  unfold ith
  rw [List.getD_eq_getElem?_getD, List.getElem?_eq_getElem h]
  rfl
theorem ith_zero {α : Type} [Inhabited α] {a : α} {l : List α} : ith (a :: l) 0 = a := rfl
theorem ith_succ {α : Type} [Inhabited α] {a : α} {l : List α} {n : Nat} : ith (a :: l) (n + 1) = ith l n := rfl
theorem ith_map {α β : Type} [Inhabited α] [Inhabited β] {l : List α} {f : α → β} {t : Nat} (h : t < l.length) : ith (l.map f) t = f (ith l t) := by
  unfold ith
  rw [List.getD_eq_getElem?_getD, List.getD_eq_getElem?_getD, List.getElem?_map, List.getElem?_eq_getElem h]
  rfl
theorem cast_inj {a b : Nat} : ((a : Int) = (b : Int)) = (a = b) := propext ⟨fun h => by omega, fun h => by omega⟩
theorem bit_1 {b : Bool} : ((if b = true then (1 : Int) else 0) = 1) = (b = true) := by cases b <;> simp
theorem bit_0 {b : Bool} : ((if b = true then (1 : Int) else 0) = 0) = (b = false) := by cases b <;> simp
end FWP

namespace FWP
open PySem FW
def _root_.FW.Out.bd {α β : Type} (x : Out α) (f : α → Store → Out β) (_ : Tag f := ⟨⟩) : Out β := x.bind f
theorem bd_ok {α β : Type} {a : α} {S : Store} {f : α → Store → Out β} {t : Tag f} : Out.bd (.ok a S) f t = f a S := rfl
theorem bd_exc {α β : Type} {c : Str} {as : List PV} {S : Store} {f : α → Store → Out β} {t : Tag f} : Out.bd (.exc c as S) f t = .exc c as S := rfl
theorem bd_bad {α β : Type} {f : α → Store → Out β} {t : Tag f} : Out.bd .bad f t = .bad := rfl
theorem bd_ite {α β : Type} {c : Prop} [Decidable c] {x y : Out α} {f : α → Store → Out β} {t : Tag f} : (if c then x else y).bd f t = if c then x.bd f ⟨⟩ else y.bd f ⟨⟩ := by split <;> rfl
def compLT (f : PV → Store → Out (Option PV)) (xs : List PV) (S : Store) (_ : Tag f := ⟨⟩) : Out (List PV) := compL f xs S
def compLLT (f : PV → Store → Out (List PV)) (xs : List PV) (S : Store) (_ : Tag f := ⟨⟩) : Out (List PV) := compLL f xs S
theorem compLT_map {α : Type} {f : PV → Store → Out (Option PV)} {x : α → PV} {l : List α} {S : Store} {t : Tag f} : compLT f (l.map x) S t = compG (fun a S => if Mem a l then f (x a) S else .bad) l S := compL_mapG
theorem compLLT_map {α : Type} {f : PV → Store → Out (List PV)} {x : α → PV} {l : List α} {S : Store} {t : Tag f} : compLLT f (l.map x) S t = compGG (fun a S => if Mem a l then f (x a) S else .bad) l S := compLL_map
theorem compLT_nil {f : PV → Store → Out (Option PV)} {S : Store} {t : Tag f} : compLT f [] S t = .ok [] S := rfl
theorem compLLT_nil {f : PV → Store → Out (List PV)} {S : Store} {t : Tag f} : compLLT f [] S t = .ok [] S := rfl
def optB {α β : Type} (o : Option α) (f : α → Out β) (_ : Tag f := ⟨⟩) : Out β := match o with
  | some a => f a
  | none => .bad
theorem optB_none {α β : Type} {f : α → Out β} {t : Tag f} : optB none f t = .bad := rfl
theorem optB_some {α β : Type} {a : α} {f : α → Out β} {t : Tag f} : optB (some a) f t = f a := rfl
def truK (x : SV) (S : Store) : Out Bool := optB (truth S x) fun b => .ok b S
theorem truK_eq {x S} : truK x S = optB (truth S x) fun b => .ok b S := rfl
def blK (b : Bool) (S : Store) : Out SV := .ok (.v (.bl b)) S
theorem blK_eq {b S} : blK b S = .ok (.v (.bl b)) S := rfl
section
variable {Γ : List (Str × Fn)} {ρ : Slots} {S : Store}
theorem v_var {i} : (ev Γ (.var i)).v ρ S = optB (getS ρ i) fun x => .ok x S := by
  show (match getS ρ i with | some x => _ | none => _) = _
  cases getS ρ i <;> rfl
theorem v_k {x} : (ev Γ (.k x)).v ρ S = .ok (.v x) S := rfl
theorem v_glob {n x} : (ev Γ (.glob n x)).v ρ S = .ok (.v x) S := rfl
def tupK (xs : List SV) (S : Store) : Out SV := optB (pures? xs) fun ys => mkT ys S
theorem tupK_eq {xs S} : tupK xs S = optB (pures? xs) fun ys => mkT ys S := rfl
theorem v_tup {es} : (ev Γ (.tup es)).v ρ S = (evL Γ es ρ S).bd tupK := by
  show (evL Γ es ρ S).bind _ = Out.bind _ _
  congr 1
  funext xs S1
  cases h : pures? xs <;> simp only [tupK, optB, h]
def lstK (m : Bool) (xs : List SV) (S : Store) : Out SV := optB (pures? xs) fun ys => mkL m ys S
theorem lstK_eq {m xs S} : lstK m xs S = optB (pures? xs) fun ys => mkL m ys S := rfl
theorem v_list {m es} : (ev Γ (.list m es)).v ρ S = (evL Γ es ρ S).bd (lstK m) := by
  show (evL Γ es ρ S).bind _ = Out.bind _ _
  congr 1
  funext xs S1
  cases h : pures? xs <;> simp only [lstK, optB, h]
theorem v_bin {o m a b} : (ev Γ (.bin o m a b)).v ρ S = ((ev Γ a).v ρ S).bd fun x S1 => ((ev Γ b).v ρ S1).bd fun y S2 => binOp o m x y S2 := rfl
theorem v_neg {a} : (ev Γ (.neg a)).v ρ S = ((ev Γ a).v ρ S).bd negOp := rfl
theorem t_nt {a} : (ev Γ (.nt a)).t ρ S = ((ev Γ a).t ρ S).bd fun b S1 => .ok (!b) S1 := rfl
theorem v_nt {a} : (ev Γ (.nt a)).v ρ S = (((ev Γ a).v ρ S).bd truK).bd fun b S1 => .ok (.v (.bl (!b))) S1 := by
  show (tru (ev Γ a).v ρ S).bind _ = Out.bind _ _
  congr 1
  show ((ev Γ a).v ρ S).bind _ = Out.bind _ _
  congr 1
  funext x S1
  cases h : truth S1 x <;> simp only [truK, optB, h]
theorem v_and {es} : (ev Γ (.and es)).v ρ S = (evAnd Γ es).v ρ S := rfl
theorem t_and {es} : (ev Γ (.and es)).t ρ S = (evAnd Γ es).t ρ S := rfl
theorem v_or {es} : (ev Γ (.or es)).v ρ S = (evOr Γ es).v ρ S := rfl
theorem t_or {es} : (ev Γ (.or es)).t ρ S = (evOr Γ es).t ρ S := rfl
theorem v_and1 {e} : (evAnd Γ (.cons e .nil)).v ρ S = (ev Γ e).v ρ S := rfl
theorem t_and1 {e} : (evAnd Γ (.cons e .nil)).t ρ S = (ev Γ e).t ρ S := rfl
theorem v_or1 {e} : (evOr Γ (.cons e .nil)).v ρ S = (ev Γ e).v ρ S := rfl
theorem t_or1 {e} : (evOr Γ (.cons e .nil)).t ρ S = (ev Γ e).t ρ S := rfl
theorem v_and2 {e f es} : (evAnd Γ (.cons e (.cons f es))).v ρ S = ((ev Γ e).v ρ S).bd fun x S1 => optB (truth S1 x) fun t => if t = true then (evAnd Γ (.cons f es)).v ρ S1 else .ok x S1 := by
  show ((ev Γ e).v ρ S).bind _ = Out.bind _ _
  congr 1
  funext x S1
  cases h : truth S1 x with
  | none => simp only [optB]
  | some b => cases b <;> simp [optB]
theorem t_and2 {e f es} : (evAnd Γ (.cons e (.cons f es))).t ρ S = ((ev Γ e).t ρ S).bd fun t S1 => if t = true then (evAnd Γ (.cons f es)).t ρ S1 else .ok false S1 := rfl
theorem v_or2 {e f es} : (evOr Γ (.cons e (.cons f es))).v ρ S = ((ev Γ e).v ρ S).bd fun x S1 => optB (truth S1 x) fun t => if t = true then .ok x S1 else (evOr Γ (.cons f es)).v ρ S1 := by
  show ((ev Γ e).v ρ S).bind _ = Out.bind _ _
  congr 1
  funext x S1
  cases h : truth S1 x with
  | none => simp only [optB]
  | some b => cases b <;> simp [optB]
theorem t_or2 {e f es} : (evOr Γ (.cons e (.cons f es))).t ρ S = ((ev Γ e).t ρ S).bd fun t S1 => if t = true then .ok true S1 else (evOr Γ (.cons f es)).t ρ S1 := rfl
theorem t_cmp {o a b} : (ev Γ (.cmp o a b)).t ρ S = ((ev Γ a).v ρ S).bd fun x S1 => ((ev Γ b).v ρ S1).bd fun y S2 => optB (cmpOp o x y S2) fun b => .ok b S2 := by
  show ((ev Γ a).v ρ S).bind _ = Out.bind _ _
  congr 1
  funext x S1
  show ((ev Γ b).v ρ S1).bind _ = Out.bind _ _
  congr 1
  funext y S2
  cases h : cmpOp o x y S2 <;> simp only [optB, h]
theorem v_cmp {o a b} : (ev Γ (.cmp o a b)).v ρ S = ((ev Γ (.cmp o a b)).t ρ S).bd blK := rfl
theorem t_chain {o o' a b c} : (ev Γ (.chain o o' a b c)).t ρ S = ((ev Γ a).v ρ S).bd fun x S1 => ((ev Γ b).v ρ S1).bd fun y S2 => optB (cmpOp o x y S2) fun t => if t = true then ((ev Γ c).v ρ S2).bd fun z S3 => optB (cmpOp o' y z S3) fun b => .ok b S3 else .ok false S2 := by
  show ((ev Γ a).v ρ S).bind _ = Out.bind _ _
  congr 1
  funext x S1
  show ((ev Γ b).v ρ S1).bind _ = Out.bind _ _
  congr 1
  funext y S2
  cases h : cmpOp o x y S2 with
  | none => simp only [optB, h]
  | some t =>
    cases t
    · simp [optB, h]
    · simp only [optB, h, if_pos]
      congr 1
      funext z S3
      cases h : cmpOp o' y z S3 <;> simp only [h]
theorem v_chain {o o' a b c} : (ev Γ (.chain o o' a b c)).v ρ S = ((ev Γ (.chain o o' a b c)).t ρ S).bd blK := rfl
theorem v_ite {c a b} : (ev Γ (.ite c a b)).v ρ S = ((ev Γ c).t ρ S).bd fun t S1 => if t = true then (ev Γ a).v ρ S1 else (ev Γ b).v ρ S1 := rfl
theorem t_ite {c a b} : (ev Γ (.ite c a b)).t ρ S = ((ev Γ c).t ρ S).bd fun t S1 => if t = true then (ev Γ a).t ρ S1 else (ev Γ b).t ρ S1 := rfl
def callG (Γ : List (Str × Fn)) (i : Nat) (xs : List SV) (S : Store) : Out SV := optB (Γ[i]?.map Prod.snd) fun f => f xs S
theorem callG_eq {i xs S} : callG Γ i xs S = optB (Γ[i]?.map Prod.snd) fun f => f xs S := rfl
theorem v_call {i es} : (ev Γ (.call i es)).v ρ S = (evL Γ es ρ S).bd (callG Γ i) := by
  show (evL Γ es ρ S).bind _ = Out.bind _ _
  congr 1
  funext xs S1
  cases h : Γ[i]?.map Prod.snd <;> simp only [callG, optB, h]
theorem v_fnv {n} : (ev Γ (.fnv n)).v ρ S = .ok (.v (.fn n)) S := rfl
theorem v_callv {e es} : (ev Γ (.callv e es)).v ρ S = sCallv Γ (ev Γ e).v (evL Γ es) ρ S := rfl
theorem v_index {a x} : (ev Γ (.index a x)).v ρ S = ((ev Γ a).v ρ S).bd fun y S1 => if isLs S1 y = true then ((ev Γ x).v ρ S1).bd fun z S2 => if isLs S2 y = true then indexOp y z S2 else .bad else .bad := rfl
theorem v_indexG {n xs x} : (ev Γ (.indexG n xs x)).v ρ S = ((ev Γ x).v ρ S).bd fun z S1 => indexOp (.v (.tup xs)) z S1 := rfl
theorem v_bi {b m es} : (ev Γ (.bi b m es)).v ρ S = (evL Γ es ρ S).bd fun xs S1 => biOp b m xs S1 := rfl
theorem v_isi {ts e} : (ev Γ (.isi ts e)).v ρ S = ((ev Γ e).v ρ S).bd fun x S1 => ofOpt (isTys S1 x ts) S1 := rfl
theorem v_idx {a i} : (ev Γ (.idx a i)).v ρ S = ((ev Γ a).v ρ S).bd fun x S1 => ((ev Γ i).v ρ S1).bd fun y S2 => idxOp x y S2 := rfl
def partO (c : CE) (Γ : List (Str × Fn)) (ρ : Slots) (S : Store) : Out SV := if isNonC c = true then .ok (.v .non) S else ((ev Γ c).v ρ S).bind intOnly
theorem partO_eq {c} : partO c Γ ρ S = if isNonC c = true then .ok (.v .non) S else ((ev Γ c).v ρ S).bd intOnly := rfl
theorem v_slc {m a lo hi} : (ev Γ (.slc m a lo hi)).v ρ S = ((ev Γ a).v ρ S).bd fun x S1 => (partO lo Γ ρ S1).bd fun l S2 => (partO hi Γ ρ S2).bd fun h S3 => slcOp m x l h S3 := by
  have e : ∀ c S, sPart (isNonC c) (ev Γ c).v ρ S = partO c Γ ρ S := fun c S => by
    unfold partO sPart
    cases isNonC c <;> rfl
  show ((ev Γ a).v ρ S).bind _ = Out.bind _ _
  congr 1
  funext x S1
  show (sPart (isNonC lo) (ev Γ lo).v ρ S1).bind _ = Out.bind _ _
  rw [e]
  congr 1
  funext l S2
  show (sPart (isNonC hi) (ev Γ hi).v ρ S2).bind _ = Out.bind _ _
  rw [e]
theorem v_comp {m own tg it c e} : (ev Γ (.comp m own tg it c e)).v ρ S = (evI Γ it ρ S).bd fun xs S1 => (compLT (cTurn (bindG tg) (ev Γ c).t (ev Γ e).v (wipeS ρ own)) xs S1).bd fun ys S2 => mkL m ys S2 := rfl
theorem v_comp2 {m own own2 tg it c1 tg2 it2 c e} : (ev Γ (.comp2 m own own2 tg it c1 tg2 it2 c e)).v ρ S = (evI Γ it ρ S).bd fun xs S1 => (compLLT (cTurn2 (bindG tg) (ev Γ c1).t own2 (bindG tg2) (evI Γ it2) (ev Γ c).t (ev Γ e).v (wipeS ρ own)) xs S1).bd fun ys S2 => mkL m ys S2 := rfl
theorem v_dic0 : (ev Γ .dic0).v ρ S = .ok (.l S.length) (S ++ [.dic []]) := rfl
theorem v_get {d k x} : (ev Γ (.get d k x)).v ρ S = ((ev Γ d).v ρ S).bd fun d S1 => if isDc S1 d = true then ((ev Γ k).v ρ S1).bd fun k S2 => ((ev Γ x).v ρ S2).bd fun x S3 => getOp d k x S3 else .bad := rfl
theorem t_of {v : VS} : (tru v) ρ S = (v ρ S).bd truK := by
  show (v ρ S).bind _ = Out.bind _ _
  congr 1
  funext x S1
  cases h : truth S1 x <;> simp only [truK, optB, h]
theorem t_var {i} : (ev Γ (.var i)).t ρ S = ((ev Γ (.var i)).v ρ S).bd truK := t_of
theorem t_k {x} : (ev Γ (.k x)).t ρ S = ((ev Γ (.k x)).v ρ S).bd truK := by
  have := t_of (v := sK x) (ρ := ρ) (S := S)
  exact this
theorem t_call {i es} : (ev Γ (.call i es)).t ρ S = ((ev Γ (.call i es)).v ρ S).bd truK := t_of
theorem t_callv {i es} : (ev Γ (.callv i es)).t ρ S = ((ev Γ (.callv i es)).v ρ S).bd truK := t_of
theorem t_idx {a i} : (ev Γ (.idx a i)).t ρ S = ((ev Γ (.idx a i)).v ρ S).bd truK := t_of
theorem t_isi {a i} : (ev Γ (.isi a i)).t ρ S = ((ev Γ (.isi a i)).v ρ S).bd truK := t_of
theorem t_bin {o m a b} : (ev Γ (.bin o m a b)).t ρ S = ((ev Γ (.bin o m a b)).v ρ S).bd truK := t_of
theorem t_bi {b m es} : (ev Γ (.bi b m es)).t ρ S = ((ev Γ (.bi b m es)).v ρ S).bd truK := t_of
theorem l_nil : evL Γ .nil ρ S = .ok [] S := rfl
theorem l_cons {e es} : evL Γ (.cons e es) ρ S = ((ev Γ e).v ρ S).bd fun x S1 => (evL Γ es ρ S1).bd fun xs S2 => .ok (x :: xs) S2 := rfl
theorem qi_seq {e} : evI Γ (.seq e) ρ S = ((ev Γ e).v ρ S).bd seqOp := rfl
theorem qi_rng1 {a} : evI Γ (.rng1 a) ρ S = ((ev Γ a).v ρ S).bd rng1Op := rfl
theorem qi_rng2 {a b} : evI Γ (.rng2 a b) ρ S = ((ev Γ a).v ρ S).bd fun x S1 => ((ev Γ b).v ρ S1).bd fun y S2 => rng2Op x y S2 := rfl
theorem i_rng3 {a b c} : evI Γ (.rng3 a b c) ρ S = ((ev Γ a).v ρ S).bd fun x S1 => ((ev Γ b).v ρ S1).bd fun y S2 => ((ev Γ c).v ρ S2).bd fun z S3 => rng3Op x y z S3 := rfl
theorem qi_zip {a b} : evI Γ (.zip2 a b) ρ S = ((ev Γ a).v ρ S).bd fun x S1 => ((ev Γ b).v ρ S1).bd fun y S2 => zipOp x y S2 := rfl
theorem qi_enum {a} : evI Γ (.enum a) ρ S = ((ev Γ a).v ρ S).bd enumOp := rfl
def okK (xs : SV) (S : Store) : Out (Option PV) := match xs with
  | .v y => .ok (some y) S
  | .l _ => .bad
theorem okK_v {y S} : okK (.v y) S = .ok (some y) S := rfl
theorem cTurn_eq {g c e x} : cTurn g c e ρ x S = optB (g x ρ) fun ρ1 => (c ρ1 S).bd fun t S1 => if t = true then (e ρ1 S1).bd okK else .ok none S1 := by
  show (match g x ρ with | some ρ1 => _ | none => _) = _
  cases g x ρ <;> rfl
theorem cTurn2_eq {g c own2 g2 it2 c2 e x} : cTurn2 g c own2 g2 it2 c2 e ρ x S = optB (g x ρ) fun ρ1 => (c ρ1 S).bd fun t S1 => if t = true then (it2 ρ1 S1).bd fun zs S2 => compLT (cTurn g2 c2 e (wipeS ρ1 own2)) zs S2 else .ok [] S1 := by
  show (match g x ρ with | some ρ1 => _ | none => _) = _
  cases g x ρ <;> rfl
theorem v_rev {m a} : (ev Γ (.rev m a)).v ρ S = ((ev Γ a).v ρ S).bd fun x S1 => bRev m x S1 := rfl
def compDT (f : PV → Store → Out (Option (PV × PV))) (xs : List PV) (S : Store) (_ : Tag f := ⟨⟩) : Out (List (PV × PV)) := compD f xs S
theorem v_dcomp {own tg it c k e} : (ev Γ (.dcomp own tg it c k e)).v ρ S = (evI Γ it ρ S).bd fun xs S1 => (compDT (cTurnD (bindG tg) (ev Γ c).t (ev Γ k).v (ev Γ e).v (wipeS ρ own)) xs S1).bd fun ys S2 => mkD ys S2 := rfl
theorem cTurnD_eq {g c k e x} : cTurnD g c k e ρ x S = optB (g x ρ) fun ρ1 => (c ρ1 S).bd fun t S1 => if t = true then (k ρ1 S1).bd fun y S2 => (e ρ1 S2).bd fun z S3 => pairO y z S3 else .ok none S1 := by
  show (match g x ρ with | some ρ1 => _ | none => _) = _
  cases g x ρ <;> rfl
theorem pairO_v {y z : PV} : pairO (.v y) (.v z) S = if keyOk y = true then .ok (some (y, z)) S else .bad := rfl
theorem v_dicd {es} : (ev Γ (.dicd es)).v ρ S = (evL Γ es ρ S).bd dispK := rfl
theorem dispK_eq {xs} : dispK xs S = optB (pairUp xs) fun ps => if ps.length ≤ 15 ∧ ps ≠ [] then mkD ps S else .bad := by
  unfold dispK optB
  cases pairUp xs <;> rfl
theorem pu_nil : pairUp [] = some [] := rfl
theorem pu_cons {k x : PV} {r : List SV} : pairUp (.v k :: .v x :: r) = if keyOk k = true then (pairUp r).map ((k, x) :: ·) else none := rfl
theorem keyOk_int {i : Int} : keyOk (.int i) = true := rfl
theorem keyOk_str {s : Str} : keyOk (.str s) = true := rfl
theorem mkD_ok {ps : List (PV × PV)} (h : ps.length ≤ 16777216) : mkD ps S = .ok (.l S.length) (S ++ [.dic (putAll [] ps)]) := if_pos h
def seqK (Γ : List (Str × Fn)) (r : CB) (f : FW.Flow) (S : Store) : Out FW.Flow := match f with
  | .next ρ1 => evB Γ r ρ1 S
  | .ret x => .ok (.ret x) S
  | .brk ρ1 => .ok (.brk ρ1) S
  | .cnt ρ1 => .ok (.cnt ρ1) S
theorem seqK_next {r ρ1} : seqK Γ r (.next ρ1) S = evB Γ r ρ1 S := rfl
theorem seqK_ret {r x} : seqK Γ r (.ret x) S = .ok (.ret x) S := rfl
theorem seqK_brk {r ρ1} : seqK Γ r (.brk ρ1) S = .ok (.brk ρ1) S := rfl
theorem seqK_cnt {r ρ1} : seqK Γ r (.cnt ρ1) S = .ok (.cnt ρ1) S := rfl
theorem b_nil : evB Γ .nil ρ S = .ok (.next ρ) S := rfl
theorem b_cons {s r} : evB Γ (.cons s r) ρ S = (evS Γ s ρ S).bd (seqK Γ r) := rfl
theorem qs_set {i e} : evS Γ (.set i e) ρ S = ((ev Γ e).v ρ S).bd fun x S1 => .ok (.next (ρ.set i (some x))) S1 := rfl
def svP : SV → Option PV
  | .v x => some x
  | .l _ => none
theorem svP_v {x} : svP (.v x) = some x := rfl
theorem qs_unpack {gs e} : evS Γ (.unpack gs e) ρ S = ((ev Γ e).v ρ S).bd fun x S1 => optB (svP x) fun y => optB (bindG (.tup gs) y ρ) fun ρ1 => .ok (.next ρ1) S1 := by
  show ((ev Γ e).v ρ S).bind _ = Out.bind _ _
  congr 1
  funext x S1
  cases x with
  | v x => simp only [svP, optB]; cases h : bindG (.tup gs) x ρ <;> simp only [h]
  | l n => rfl
theorem qs_par {is es} : evS Γ (.par is es) ρ S = (evL Γ es ρ S).bd fun xs S1 => optB (setAll is xs ρ) fun ρ1 => .ok (.next ρ1) S1 := by
  show (evL Γ es ρ S).bind _ = Out.bind _ _
  congr 1
  funext xs S1
  cases h : setAll is xs ρ <;> simp only [optB, h]
theorem qs_sub {i a e} : evS Γ (.sub i a e) ρ S = ((ev Γ e).v ρ S).bd fun x S1 => ((ev Γ a).v ρ S1).bd fun y S2 => optB (getS ρ i) fun o => optB (putOp o y x S2) fun S3 => .ok (.next ρ) S3 := by
  show ((ev Γ e).v ρ S).bind _ = Out.bind _ _
  congr 1
  funext x S1
  show ((ev Γ a).v ρ S1).bind _ = Out.bind _ _
  congr 1
  funext y S2
  cases h : getS ρ i with
  | none => simp only [optB, h]
  | some o => simp only [optB, h]; cases h2 : putOp o y x S2 <;> simp only [h2]
theorem s_aug {i o e} : evS Γ (.aug i o e) ρ S = optB (getS ρ i) fun x => ((ev Γ e).v ρ S).bd fun y S1 => optB (augOp o x y) fun z => .ok (.next (ρ.set i (some z))) S1 := by
  show (match getS ρ i with | some x => _ | none => _) = _
  cases getS ρ i with
  | none => rfl
  | some x =>
    show ((ev Γ e).v ρ S).bind _ = ((ev Γ e).v ρ S).bind _
    congr 1
    funext y S1
    cases h : augOp o x y <;> simp only [optB, h]
def lstAt (S : Store) (n : Nat) : Option (List PV) := match S[n]? with
  | some (.lst xs) => some xs
  | _ => none
theorem lstAt_eq {n xs} (h : S[n]? = some (.lst xs)) : lstAt S n = some xs := by unfold lstAt; rw [h]
def svL : SV → Option Nat
  | .l n => some n
  | .v _ => none
theorem svL_l {n} : svL (.l n) = some n := rfl
def appIf {α : Type} (n : Nat) (x : Out α) : Out α := if n < 16777216 then x else .bad
theorem appIf_ok {α : Type} {n : Nat} {x : Out α} (h : n < 16777216) : appIf n x = x := if_pos h
theorem qs_app {i e} : evS Γ (.app i e) ρ S = optB ((getS ρ i).bind svL) fun n => if isLst S n = true then ((ev Γ e).v ρ S).bd fun x S1 => optB (svP x) fun y => optB (lstAt S1 n) fun xs => appIf xs.length (.ok (.next ρ) (S1.set n (.lst (xs ++ [y])))) else .bad := by
  show (match getS ρ i with | some (.l n) => _ | _ => _) = _
  cases getS ρ i with
  | none => rfl
  | some x =>
    cases x with
    | v x => rfl
    | l n =>
      simp only [Option.bind_some, svL, optB]
      split
      · congr 1
        funext x S1
        cases x with
        | l m => rfl
        | v y =>
          simp only [svP, lstAt]
          cases h : S1[n]? with
          | none => simp only
          | some o => cases o <;> rfl
      · rfl
theorem qs_pop {i} : evS Γ (.pop i) ρ S = optB ((getS ρ i).bind svL) fun n => optB (lstAt S n) fun xs => if xs.isEmpty = true then .bad else .ok (.next ρ) (S.set n (.lst xs.dropLast)) := by
  show (match getS ρ i with | some (.l n) => _ | _ => _) = _
  cases getS ρ i with
  | none => rfl
  | some x =>
    cases x with
    | v x => rfl
    | l n =>
      simp only [Option.bind_some, svL, optB, lstAt]
      cases h : S[n]? with
      | none => simp only
      | some o => cases o <;> rfl
theorem qs_augsub {i a o e} : evS Γ (.augsub i a o e) ρ S = optB (getS ρ i) fun ob => ((ev Γ a).v ρ S).bd fun y S1 => optB (oldOf ob y S1) fun old => ((ev Γ e).v ρ S1).bd fun z S2 => optB (augsubOp o ob y z old S2) fun S3 => .ok (.next ρ) S3 := by
  show (match getS ρ i with | some ob => _ | none => _) = _
  cases getS ρ i with
  | none => rfl
  | some ob =>
    show ((ev Γ a).v ρ S).bind _ = ((ev Γ a).v ρ S).bind _
    congr 1
    funext y S1
    cases h : oldOf ob y S1 with
    | none => simp only [optB, h]
    | some old =>
      simp only [optB, h]
      show ((ev Γ e).v ρ S1).bind _ = ((ev Γ e).v ρ S1).bind _
      congr 1
      funext z S2
      cases h2 : augsubOp o ob y z old S2 <;> simp only [optB, h2]
theorem qs_parG {is es} : evS Γ (.parG is es) ρ S = (evL Γ es ρ S).bd fun xs S1 => optB (setAll is xs ρ) fun ρ1 => .ok (.next ρ1) S1 := qs_par (is := is)
theorem qs_expr {e} : evS Γ (.expr e) ρ S = ((ev Γ e).v ρ S).bd fun _ S1 => .ok (.next ρ) S1 := rfl
theorem s_ifs {c a b} : evS Γ (.ifs c a b) ρ S = ((ev Γ c).t ρ S).bd fun t S1 => if t = true then evB Γ a ρ S1 else evB Γ b ρ S1 := rfl
theorem qs_ret {e} : evS Γ (.ret e) ρ S = ((ev Γ e).v ρ S).bd fun x S1 => .ok (.ret x) S1 := rfl
theorem qs_retN : evS Γ .retN ρ S = .ok (.ret (.v .non)) S := rfl
theorem qs_brk : evS Γ .brk ρ S = .ok (.brk ρ) S := rfl
theorem qs_cnt : evS Γ .cnt ρ S = .ok (.cnt ρ) S := rfl
def turnF (Γ : List (Str × Fn)) (tg : CG) (b : CB) : PV → FS := sTurn (bindG tg) (evB Γ b)
theorem turnF_eq {tg b x} : turnF Γ tg b x ρ S = optB (bindG tg x ρ) fun ρ1 => evB Γ b ρ1 S := by
  show (match bindG tg x ρ with | some ρ1 => _ | none => _) = _
  cases bindG tg x ρ <;> rfl
theorem s_forr {tg it b w} : evS Γ (.forr tg it b w) ρ S = (evI Γ it ρ S).bd fun xs S1 => forL (turnF Γ tg b) w xs (wipeS ρ w) S1 := rfl
def loopF (Γ : List (Str × Fn)) (c : CE) (b : CB) (n : Nat) (ρ : Slots) (S : Store) : Out FW.Flow := whileL (ev Γ c).t (evB Γ b) [] n ρ S
theorem s_whil {c b} : evS Γ (.whil c b []) ρ S = loopF Γ c b fuel ρ S := rfl
def frzD (S : Store) (ρ : Slots) (i n : Nat) : Out FW.Flow := match S[n]? with
  | some (.dic kvs) => if allInt (kvs.map Prod.fst) = true then .ok (.next (ρ.set i (some (.v (.dic (kvs.map Prod.fst) (kvs.map Prod.snd)))))) (S.set n .gone) else .bad
  | _ => .bad
theorem frzD_eq {i n kvs} (h : S[n]? = some (.dic kvs)) (h2 : allInt (kvs.map Prod.fst) = true) : frzD S ρ i n = .ok (.next (ρ.set i (some (.v (.dic (kvs.map Prod.fst) (kvs.map Prod.snd)))))) (S.set n .gone) := by
  unfold frzD
  rw [h]
  exact if_pos h2
theorem lstAt_dic {n kvs} (h : S[n]? = some (.dic kvs)) : lstAt S n = none := by unfold lstAt; rw [h]
def frz (S : Store) (ρ : Slots) (i : Nat) (x : SV) : Out FW.Flow := match x with
  | .l n => match lstAt S n with
    | some xs => .ok (.next (ρ.set i (some (.v (.lst xs))))) (S.set n .gone)
    | none => frzD S ρ i n
  | .v _ => .ok (.next ρ) S
theorem frz_l {i n} : frz S ρ i (.l n) = match lstAt S n with
    | some xs => .ok (.next (ρ.set i (some (.v (.lst xs))))) (S.set n .gone)
    | none => frzD S ρ i n := rfl
theorem frz_v {i x} : frz S ρ i (.v x) = .ok (.next ρ) S := rfl
def frzO (S : Store) (ρ : Slots) (i : Nat) (x : Option SV) : Out FW.Flow := match x with
  | some x => frz S ρ i x
  | none => .ok (.next ρ) S
theorem frzO_some {i x} : frzO S ρ i (some x) = frz S ρ i x := rfl
theorem frzO_none {i} : frzO S ρ i none = .ok (.next ρ) S := rfl
theorem qs_freeze {i} : evS Γ (.freeze i) ρ S = frzO S ρ i (getS ρ i) := by
  show (match getS ρ i with | some (.l n) => _ | some (.v _) => _ | none => _) = _
  cases getS ρ i with
  | none => rfl
  | some x =>
    cases x with
    | v x => rfl
    | l n =>
      simp only [frzO, frz, frzD, lstAt]
      cases h : S[n]? with
      | none => simp only
      | some o => cases o <;> simp only
def endK (S : Store) (r : Out FW.Flow) : Out SV := match r with
  | .ok (.ret x) S1 => leave S.length x S1
  | .ok (.next _) S1 => leave S.length (.v .non) S1
  | .ok _ _ => .bad
  | .exc c as S1 => .exc c as (S1.take S.length)
  | .bad => .bad
theorem endK_ret {x S1} : endK S (.ok (.ret x) S1) = leave S.length x S1 := rfl
theorem endK_next {ρ1 S1} : endK S (.ok (.next ρ1) S1) = leave S.length (.v .non) S1 := rfl
theorem endK_ite {c : Prop} [Decidable c] {x y} : endK S (if c then x else y) = if c then endK S x else endK S y := by split <;> rfl
def startB (Γ : List (Str × Fn)) (b : CB) (ρ : Slots) (S : Store) (_ : Tag b := ⟨⟩) : Out FW.Flow := evB Γ b ρ S
theorem startB_eq {b t} : startB Γ b ρ S t = evB Γ b ρ S := rfl
theorem fn_eq {np ns b xs} (h : xs.length = np) : fnSem Γ ⟨np, ns, b⟩ xs S = endK S (startB Γ b (xs.map some ++ List.replicate (ns - np) none) S) := by
  unfold fnSem startB
  rw [if_pos h]
  generalize evB Γ _ _ _ = r
  rcases r with ⟨f, S1⟩ | _ | _
  · cases f <;> rfl
  · rfl
  · rfl
theorem leave_v {n x} : leave n (.v x) S = .ok (.v x) (S.take n) := rfl
def endM (S : Store) (r : Out FW.Flow) : Out SV := match r with
  | .ok (.ret x) S1 => leaveM S.length x S1
  | .ok (.next _) S1 => leaveM S.length (.v .non) S1
  | .ok _ _ => .bad
  | .exc c as S1 => .exc c as (S1.take S.length)
  | .bad => .bad
theorem endM_ret {x S1} : endM S (.ok (.ret x) S1) = leaveM S.length x S1 := rfl
theorem endM_ite {c : Prop} [Decidable c] {x y} : endM S (if c then x else y) = if c then endM S x else endM S y := by split <;> rfl
theorem fnM_eq {np ns b xs} (h : xs.length = np) : fnSemM Γ ⟨np, ns, b⟩ xs S = endM S (startB Γ b (xs.map some ++ List.replicate (ns - np) none) S) := by
  unfold fnSemM startB
  rw [if_pos h]
  generalize evB Γ _ _ _ = r
  rcases r with ⟨f, S1⟩ | _ | _
  · cases f <;> rfl
  · rfl
  · rfl
theorem leaveM_v {n x} : leaveM n (.v x) S = .ok (.v x) (S.take n) := rfl
theorem leaveM_l {n k xs} (h : ¬ k < n) (h2 : S[k]? = some (.lst xs)) : leaveM n (.l k) S = .ok (.l n) (S.take n ++ [.lst xs]) := by
  unfold leaveM
  simp only [if_neg h, h2]
end
theorem bg_name {i x} {ρ : Slots} : bindG (.name i) x ρ = some (ρ.set i (some (.v x))) := by simp only [bindG]
theorem bg_tup {gs xs} {ρ : Slots} : bindG (.tup gs) (.tup xs) ρ = bindGs gs xs ρ := by simp only [bindG]
theorem bg_lst {gs xs} {ρ : Slots} : bindG (.tup gs) (.lst xs) ρ = bindGs gs xs ρ := by simp only [bindG]
theorem bgs_nil {ρ : Slots} : bindGs .nil [] ρ = some ρ := by simp only [bindGs]
theorem bgs_cons {g gs x xs} {ρ : Slots} : bindGs (.cons g gs) (x :: xs) ρ = (bindG g x ρ).bind fun ρ1 => bindGs gs xs ρ1 := by
  simp only [bindGs]
  cases bindG g x ρ <;> rfl
theorem wp_nil {ρ : Slots} : wipeS ρ [] = ρ := by simp only [wipeS]
theorem wp_cons {ρ : Slots} {i is} : wipeS ρ (i :: is) = (wipeS ρ is).set i none := by simp only [wipeS]
theorem pr_nil : pures? [] = some [] := by simp only [pures?]
theorem pr_cons {x r} : pures? (.v x :: r) = (pures? r).map (x :: ·) := by simp only [pures?]
theorem sa_nil {ρ : Slots} : setAll [] [] ρ = some ρ := by simp only [setAll]
theorem sa_cons {i is x xs} {ρ : Slots} : setAll (i :: is) (x :: xs) ρ = setAll is xs (ρ.set i (some x)) := by simp only [setAll]
theorem gs_some {ρ : Slots} {x} : getS (some x :: ρ) 0 = some x := by simp [getS]
theorem gs_none {ρ : Slots} : getS (none :: ρ) 0 = none := by simp [getS]
theorem gs_succ {ρ : Slots} {a i} : getS (a :: ρ) (i + 1) = getS ρ i := by simp [getS]
section
variable {S : Store} {m : Bool} {xs ys : List PV} {i j : Int} {b : Bool} {n : Nat}
theorem sq_tup : seqOp (.v (.tup xs)) S = .ok xs S := by simp [seqOp]
theorem sq_lst : seqOp (.v (.lst xs)) S = .ok xs S := by simp [seqOp]
theorem zp_tup : zipOp (.v (.tup xs)) (.v (.tup ys)) S = .ok (zipL xs ys) S := by simp [zipOp]
theorem zp_lst : zipOp (.v (.lst xs)) (.v (.lst ys)) S = .ok (zipL xs ys) S := by simp [zipOp]
theorem en_lst : enumOp (.v (.lst xs)) S = .ok (enumL 0 xs) S := by simp [enumOp]
def atO (xs : List PV) (j : Int) : Option PV := (ix? xs.length j).bind fun n => xs[n]?
theorem idx_seq {x : SV} {t : Bool} (h : seqOf S x = some (t, xs)) : idxOp x (.v (.int j)) S = optB (atO xs j) fun z => .ok (.v z) S := by
  unfold idxOp atO
  simp only [h]
  cases ix? xs.length j with
  | none => rfl
  | some n => simp only [Option.bind_some]; cases xs[n]? <;> rfl
theorem idx_tup : idxOp (.v (.tup xs)) (.v (.int j)) S = optB (atO xs j) fun z => .ok (.v z) S := idx_seq rfl
theorem idx_lst : idxOp (.v (.lst xs)) (.v (.int j)) S = optB (atO xs j) fun z => .ok (.v z) S := idx_seq rfl
theorem idx_l (h : S[n]? = some (.lst xs)) : idxOp (.l n) (.v (.int j)) S = optB (atO xs j) fun z => .ok (.v z) S := idx_seq (seqOf_l h)
theorem at_map {α : Type} [Inhabited α] {l : List α} {x : α → PV} {t : Nat} (h : t < l.length) : atO (l.map x) (t : Int) = some (x (ith l t)) := by
  unfold atO
  rw [List.length_map, ix_n h, Option.bind_some, List.getElem?_map, get_ith h]
  rfl
theorem at_map1 {α : Type} [Inhabited α] {l : List α} {x : α → PV} {t : Nat} (h : t + 1 < l.length) : atO (l.map x) ((t : Int) + 1) = some (x (ith l (t + 1))) := at_map h
theorem at_0 {a : PV} : atO (a :: xs) 0 = some a := by
  unfold atO
  rw [ix_i0 (by simp)]
  rfl
theorem at_1 {a a1 : PV} : atO (a :: a1 :: xs) 1 = some a1 := by
  unfold atO
  rw [ix_i1 (by simp)]
  rfl
theorem at_2 {a a1 a2 : PV} : atO (a :: a1 :: a2 :: xs) 2 = some a2 := by
  unfold atO
  rw [ix_i2 (by simp)]
  rfl
theorem at_map0 {α : Type} [Inhabited α] {l : List α} {x : α → PV} (h : 0 < l.length) : atO (l.map x) 0 = some (x (ith l 0)) := at_map (t := 0) h
theorem at_mapl {α : Type} [Inhabited α] {l : List α} {x : α → PV} (h : 0 < l.length) : atO (l.map x) (-1) = some (x (ith l (l.length - 1))) := by
  unfold atO
  rw [List.length_map, ix_last h, Option.bind_some, List.getElem?_map, get_ith (by omega)]
  rfl
theorem cm_is {x : SV} : cmpOp .is x (.v .non) S = some (isNonS x) := by simp [cmpOp]
theorem cm_isnot {x : SV} : cmpOp .isnot x (.v .non) S = some (!isNonS x) := by simp [cmpOp]
theorem cm_isb {a b : Bool} : cmpOp .is (.v (.bl a)) (.v (.bl b)) S = some (a == b) := by simp [cmpOp]
theorem ns_non : isNonS (.v .non) = true := by simp
theorem ns_bl : isNonS (.v (.bl b)) = false := by simp
theorem ns_int : isNonS (.v (.int i)) = false := by simp
theorem ns_tup : isNonS (.v (.tup xs)) = false := by simp
theorem ns_lst : isNonS (.v (.lst xs)) = false := by simp
theorem ns_l : isNonS (.l n) = false := by simp
theorem cm_eqv {x y : PV} : cmpOp .eq (.v x) (.v y) S = eqP x y := by simp [cmpOp]
theorem cm_nev {x y : PV} : cmpOp .ne (.v x) (.v y) S = (eqP x y).map (!·) := by simp [cmpOp]
theorem cm_eqlv {y : PV} (h : S[n]? = some (.lst xs)) : cmpOp .eq (.l n) (.v y) S = eqP (.lst xs) y := by simp [cmpOp, pure_l h]
theorem cm_nelv {y : PV} (h : S[n]? = some (.lst xs)) : cmpOp .ne (.l n) (.v y) S = (eqP (.lst xs) y).map (!·) := by simp [cmpOp, pure_l h]
theorem cm_lt : cmpOp .lt (.v (.int i)) (.v (.int j)) S = some (decide (i < j)) := by simp [cmpOp]
theorem cm_le : cmpOp .le (.v (.int i)) (.v (.int j)) S = some (decide (i ≤ j)) := by simp [cmpOp]
theorem cm_gt : cmpOp .gt (.v (.int i)) (.v (.int j)) S = some (decide (j < i)) := by simp [cmpOp]
theorem cm_ge : cmpOp .ge (.v (.int i)) (.v (.int j)) S = some (decide (j ≤ i)) := by simp [cmpOp]
theorem cm_in_t {x : PV} : cmpOp .isin (.v x) (.v (.tup ys)) S = anyEq x ys := by simp [cmpOp, memOp]
theorem cm_in_l {x : PV} : cmpOp .isin (.v x) (.v (.lst ys)) S = anyEq x ys := by simp [cmpOp, memOp]
theorem cm_nin_t {x : PV} : cmpOp .notin (.v x) (.v (.tup ys)) S = (anyEq x ys).map (!·) := by simp [cmpOp, memOp]
theorem cm_nin_l {x : PV} : cmpOp .notin (.v x) (.v (.lst ys)) S = (anyEq x ys).map (!·) := by simp [cmpOp, memOp]
theorem cm_in_p {x : PV} (h : S[n]? = some (.lst ys)) : cmpOp .isin (.v x) (.l n) S = anyEq x ys := by simp [cmpOp, memOp, seqOf_l h]
theorem cm_nin_p {x : PV} (h : S[n]? = some (.lst ys)) : cmpOp .notin (.v x) (.l n) S = (anyEq x ys).map (!·) := by simp [cmpOp, memOp, seqOf_l h]
theorem bo_ii {o : BOp} : binOp o m (.v (.int i)) (.v (.int j)) S = optB (intOp o i j) fun k => .ok (.v (.int k)) S := by
  cases h : intOp o i j <;> simp only [binOp, h] <;> rfl
theorem bo_ib : binOp .add m (.v (.int i)) (.v (.bl b)) S = .ok (.v (.int (i + (if b then 1 else 0)))) S := by simp [binOp]
theorem bo_tt : binOp .add m (.v (.tup xs)) (.v (.tup ys)) S = mkT (xs ++ ys) S := by simp [binOp, -mkT]
theorem bo_ll : binOp .add m (.v (.lst xs)) (.v (.lst ys)) S = mkL m (xs ++ ys) S := by simp [binOp, -mkL]
theorem bo_pl (h : S[n]? = some (.lst xs)) : binOp .add m (.l n) (.v (.lst ys)) S = mkL m (xs ++ ys) S := by simp [binOp, -mkL, seqOf_l h]
theorem bo_tm : binOp .mul m (.v (.tup xs)) (.v (.int j)) S = if -1000 ≤ j ∧ j ≤ 1000 ∧ xs.length ≤ 1000 then mkT (rep j.toNat xs) S else .bad := by simp [binOp, -mkT]
theorem bo_lm : binOp .mul m (.v (.lst xs)) (.v (.int j)) S = if xs.length * j.toNat ≤ 16777216 ∧ -1000000 ≤ j ∧ j ≤ 1000000 then mkL m (rep j.toNat xs) S else .bad := by
  simp only [binOp, seqOf_lst]
  rfl
theorem ng_i : negOp (.v (.int i)) S = .ok (.v (.int (-i))) S := by simp [negOp]
theorem it_of {x : SV} {ts} : isTys S x ts = (tgOf S x).map fun g => ts.any (tgIs g) := by
  unfold isTys
  cases tgOf S x <;> rfl
theorem oo_some : ofOpt (some b) S = .ok (.v (.bl b)) S := rfl
theorem qbi_len {x} : biOp .len m [x] S = bLen x S := by simp [biOp, -bLen]
theorem qbi_int {x} : biOp .int m [x] S = bInt x S := by simp [biOp, -bInt]
theorem qbi_abs {x} : biOp .abs m [x] S = bAbs x S := by simp [biOp, -bAbs]
theorem qbi_sum {x} : biOp .sum m [x] S = bSum x S := by simp [biOp, -bSum]
theorem qbi_tuple {x} : biOp .tuple m [x] S = bTuple x S := by simp [biOp, -bTuple]
theorem qbi_list {x} : biOp .list m [x] S = bList m x S := by simp [biOp, -bList]
theorem qbi_sorted {x} : biOp .sorted m [x] S = bSorted m x S := by simp [biOp]
theorem bi_sset {x} : biOp .sortedSet m [x] S = bSortedSet m x S := by simp [biOp]
theorem bi_skey {x} : biOp .sortedKeys m [x] S = bSortedKeys m x S := by simp [biOp]
theorem bi_lset {x} : biOp .lenSet m [x] S = bLenSet x S := by simp [biOp]
theorem qbi_min1 {x} : biOp .min1 m [x] S = bMin1 x S := by simp [biOp]
theorem qbi_max1 {x} : biOp .max1 m [x] S = bMax1 x S := by simp [biOp]
theorem qbi_min2 {x y} : biOp .min2 m [x, y] S = bMin2 x y S := by simp [biOp, -bMin2]
theorem qbi_max2 {x y} : biOp .max2 m [x, y] S = bMax2 x y S := by simp [biOp, -bMax2]
theorem bi_lr1 {x} : biOp .listRange1 m [x] S = bRange (mkL m) (.v (.int 0)) x S := by simp [biOp, -mkL]
theorem bi_tr1 {x} : biOp .tupleRange1 m [x] S = bRange mkT (.v (.int 0)) x S := by simp [biOp, -mkT]
theorem ln_t : bLen (.v (.tup xs)) S = .ok (.v (.int xs.length)) S := by simp [bLen]
theorem ln_l : bLen (.v (.lst xs)) S = .ok (.v (.int xs.length)) S := by simp [bLen]
theorem ln_p (h : S[n]? = some (.lst xs)) : bLen (.l n) S = .ok (.v (.int xs.length)) S := by simp [bLen, seqOf_l h]
theorem in_i : bInt (.v (.int i)) S = .ok (.v (.int i)) S := by simp [bInt]
theorem in_b : bInt (.v (.bl b)) S = .ok (.v (.int (if b = true then 1 else 0))) S := by simp [bInt]
theorem ab_i : bAbs (.v (.int i)) S = .ok (.v (.int (if i < 0 then -i else i))) S := by simp [bAbs]
theorem sm_t : bSum (.v (.tup xs)) S = optB (ints? xs) fun is => .ok (.v (.int (sumI is))) S := by
  simp only [bSum, onSeq, seqOf_tup]
  cases ints? xs <;> rfl
theorem sm_l : bSum (.v (.lst xs)) S = optB (ints? xs) fun is => .ok (.v (.int (sumI is))) S := by
  simp only [bSum, onSeq, seqOf_lst]
  cases ints? xs <;> rfl
theorem tp_t : bTuple (.v (.tup xs)) S = mkT xs S := by simp [bTuple, onSeq, -mkT]
theorem tp_l : bTuple (.v (.lst xs)) S = mkT xs S := by simp [bTuple, onSeq, -mkT]
theorem tp_p (h : S[n]? = some (.lst xs)) : bTuple (.l n) S = mkT xs S := by simp [bTuple, onSeq, -mkT, seqOf_l h]
theorem ls_t : bList m (.v (.tup xs)) S = mkL m xs S := by simp [bList, onSeq, -mkL]
theorem ls_l : bList m (.v (.lst xs)) S = mkL m xs S := by simp [bList, onSeq, -mkL]
theorem ls_p (h : S[n]? = some (.lst xs)) : bList m (.l n) S = mkL m xs S := by simp [bList, onSeq, -mkL, seqOf_l h]
theorem lr_n {a : Nat} (h : a ≤ 4000000) : bRange (mkL m) (.v (.int 0)) (.v (.int (a : Int))) S = mkL m ((List.range a).map nn) S := by
  obtain ⟨h1, h2⟩ := rngOk_nat h
  have e : rng 0 (a : Int) = (List.range a).map nn := by
    have := rng_nats 0 a
    rw [show ((0 : Nat) : Int) = 0 from rfl] at this
    rw [this]
    simp only [nats, Nat.sub_zero, List.range_eq_range']
    rfl
  simp only [bRange, h1, h2, e]
  rfl
theorem sl_t {l h : PV} : slcOp m (.v (.tup xs)) (.v l) (.v h) S = optB (part? l) fun lo => optB (part? h) fun hi => mkT (cut xs lo hi) S := by
  cases h1 : part? l <;> cases h2 : part? h <;> simp only [slcOp, h1, h2, optB, seqOf_tup] <;> rfl
theorem sl_l {l h : PV} : slcOp m (.v (.lst xs)) (.v l) (.v h) S = optB (part? l) fun lo => optB (part? h) fun hi => mkL m (cut xs lo hi) S := by
  cases h1 : part? l <;> cases h2 : part? h <;> simp only [slcOp, h1, h2, optB, seqOf_lst] <;> rfl
theorem pt_n : part? .non = some none := by simp
theorem pt_i : part? (.int i) = some (some i) := by simp
theorem io_i : intOnly (.v (.int i)) S = .ok (.v (.int i)) S := by simp
theorem au_add : augOp .add (.v (.int i)) (.v (.int j)) = some (.v (.int (i + j))) := by simp
theorem au_sub : augOp .sub (.v (.int i)) (.v (.int j)) = some (.v (.int (i - j))) := by simp
theorem pu_lst {x : PV} {k : Nat} (h : S[n]? = some (.lst xs)) (h2 : ix? xs.length j = some k) : putOp (.l n) (.v (.int j)) (.v x) S = some (S.set n (.lst (xs.set k x))) := by simp only [putOp, h, h2]
theorem nnc_non : isNonC (.k .non) = true := by simp
theorem nnc_int : isNonC (.k (.int i)) = false := by simp
theorem nnc_var : isNonC (.var n) = false := by simp
theorem nnc_bin {o m a b} : isNonC (.bin o m a b) = false := by simp
theorem nnc_bi {o m a} : isNonC (.bi o m a) = false := by simp
theorem nnc_neg {a} : isNonC (.neg a) = false := by simp
theorem nnc_idx {a b} : isNonC (.idx a b) = false := by simp
theorem leave_l {k : Nat} (h : ¬ k < n) (h2 : S[k]? = some (.lst xs)) : leave n (.l k) S = .ok (.v (.lst xs)) (S.take n) := by
  unfold leave
  simp only [if_neg h, h2]
theorem take_app {o : Ob} : (S ++ [o]).take S.length = S := by simp
theorem take_self : S.take S.length = S := List.take_length
end
theorem cut_ton {xs : List PV} {t : Nat} (h : t ≤ xs.length) : cut xs none (some (t : Int)) = xs.take t := cut_to h
theorem cut_fromn {xs : List PV} {t : Nat} (h : t + 1 ≤ xs.length) : cut xs (some ((t : Int) + 1)) none = xs.drop (t + 1) := by
  have e : sx xs.length 0 (some ((t : Int) + 1)) = t + 1 := by
    show (if (t : Int) + 1 < 0 then ((t : Int) + 1 + (xs.length : Int)).toNat else min ((t : Int) + 1).toNat xs.length) = t + 1
    rw [if_neg (by omega)]
    omega
  unfold cut
  rw [e, show sx xs.length xs.length none = xs.length from rfl]
  rw [List.take_of_length_le (by rw [List.length_drop]; omega)]
section
variable {S : Store} {xs : List PV} {o o' : Ob}
theorem nw_at : (S ++ [o])[S.length]? = some o := by simp
theorem nw_lst : lstAt (S ++ [.lst xs]) S.length = some xs := lstAt_eq nw_at
theorem nw_isl : isLst (S ++ [.lst xs]) S.length = true := isLst_l nw_at
theorem nw_set : (S ++ [o]).set S.length o' = S ++ [o'] := by simp
theorem nw_seq : seqOf (S ++ [.lst xs]) (.l S.length) = some (true, xs) := seqOf_l nw_at
theorem nw_tup : bTuple (.l S.length) (S ++ [.lst xs]) = mkT xs (S ++ [.lst xs]) := tp_p nw_at
theorem nw_len : bLen (.l S.length) (S ++ [.lst xs]) = .ok (.v (.int xs.length)) (S ++ [.lst xs]) := ln_p nw_at
theorem nw_idx {j : Int} : idxOp (.l S.length) (.v (.int j)) (S ++ [.lst xs]) = optB (atO xs j) fun z => .ok (.v z) (S ++ [.lst xs]) := idx_l nw_at
theorem nw_add {m : Bool} {ys : List PV} : binOp .add m (.l S.length) (.v (.lst ys)) (S ++ [.lst xs]) = mkL m (xs ++ ys) (S ++ [.lst xs]) := bo_pl nw_at
theorem nw_eq {y : PV} : cmpOp .eq (.l S.length) (.v y) (S ++ [.lst xs]) = eqP (.lst xs) y := cm_eqlv nw_at
theorem nw_ne {y : PV} : cmpOp .ne (.l S.length) (.v y) (S ++ [.lst xs]) = (eqP (.lst xs) y).map (!·) := cm_nelv nw_at
theorem nw_leave : leave S.length (.l S.length) (S ++ [.lst xs]) = .ok (.v (.lst xs)) S := by
  rw [leave_l (Nat.lt_irrefl _) nw_at]
  simp
theorem nw_leaveM : leaveM S.length (.l S.length) (S ++ [.lst xs]) = .ok (.l S.length) (S ++ [.lst xs]) := by
  rw [leaveM_l (Nat.lt_irrefl _) nw_at]
  simp
theorem nw_rev {m : Bool} : bRev m (.l S.length) (S ++ [.lst xs]) = mkL m xs.reverse (S ++ [.lst xs]) := by
  unfold bRev
  rw [nw_seq]
theorem rev_l {m : Bool} : bRev m (.v (.lst xs)) S = mkL m xs.reverse S := rfl
theorem old_at {n : Nat} {j : Int} (h : S[n]? = some (.lst xs)) : oldOf (.l n) (.v (.int j)) S = atO xs j := by
  unfold oldOf
  rw [idx_l h]
  cases atO xs j <;> rfl
theorem nw_old {j : Int} : oldOf (.l S.length) (.v (.int j)) (S ++ [.lst xs]) = atO xs j := old_at nw_at
theorem asub_eq {o : BOp} {ob y z : SV} {old : PV} {S : Store} : augsubOp o ob y z old S = (augOp o (.v old) z).bind fun w => putOp ob y w S := by
  unfold augsubOp
  cases augOp o (.v old) z <;> rfl
theorem nw_put {t : Nat} {x : PV} (h : t < xs.length) : putOp (.l S.length) (.v (.int (t : Int))) (.v x) (S ++ [.lst xs]) = some (S ++ [.lst (xs.set t x)]) := by
  rw [pu_lst nw_at (ix_n h), nw_set]
end
section
variable {S : Store} {xs : List PV} {o o' x : Ob}
theorem w2a_at : (S ++ [o, o'])[S.length]? = some o := by simp
theorem w2b_at : (S ++ [o, o'])[S.length + 1]? = some o' := by simp
theorem w2a_lst : lstAt (S ++ [.lst xs, o']) S.length = some xs := lstAt_eq w2a_at
theorem w2b_lst : lstAt (S ++ [o, .lst xs]) (S.length + 1) = some xs := lstAt_eq w2b_at
theorem w2a_isl : isLst (S ++ [.lst xs, o']) S.length = true := isLst_l w2a_at
theorem w2b_isl : isLst (S ++ [o, .lst xs]) (S.length + 1) = true := isLst_l w2b_at
theorem w2a_set : (S ++ [o, o']).set S.length x = S ++ [x, o'] := by simp
theorem w2b_set : (S ++ [o, o']).set (S.length + 1) x = S ++ [o, x] := by
  rw [List.set_append, if_neg (by omega), Nat.add_sub_cancel_left]
  rfl
theorem w2a_tup : bTuple (.l S.length) (S ++ [.lst xs, o']) = mkT xs (S ++ [.lst xs, o']) := tp_p w2a_at
theorem w2b_tup : bTuple (.l (S.length + 1)) (S ++ [o, .lst xs]) = mkT xs (S ++ [o, .lst xs]) := tp_p w2b_at
theorem w2a_len : bLen (.l S.length) (S ++ [.lst xs, o']) = .ok (.v (.int xs.length)) (S ++ [.lst xs, o']) := ln_p w2a_at
theorem w2b_len : bLen (.l (S.length + 1)) (S ++ [o, .lst xs]) = .ok (.v (.int xs.length)) (S ++ [o, .lst xs]) := ln_p w2b_at
theorem w2a_idx {j : Int} : idxOp (.l S.length) (.v (.int j)) (S ++ [.lst xs, o']) = optB (atO xs j) fun z => .ok (.v z) (S ++ [.lst xs, o']) := idx_l w2a_at
theorem w2b_idx {j : Int} : idxOp (.l (S.length + 1)) (.v (.int j)) (S ++ [o, .lst xs]) = optB (atO xs j) fun z => .ok (.v z) (S ++ [o, .lst xs]) := idx_l w2b_at
end
def optC (y : Option PV) (ys : List PV) : List PV := match y with
  | some y => y :: ys
  | none => ys
theorem optC_some {y : PV} {ys : List PV} : optC (some y) ys = y :: ys := rfl
theorem optC_none {ys : List PV} : optC none ys = ys := rfl
def compGD {α : Type} (f : α → Store → Out (Option (PV × PV))) : List α → Store → Out (List (PV × PV))
  | [], S => .ok [] S
  | a :: l, S => (f a S).bind fun y S1 => (compGD f l S1).bind fun ys S2 => .ok (match y with | some y => y :: ys | none => ys) S2
theorem compGD_congr {α : Type} {f g : α → Store → Out (Option (PV × PV))} {l : List α} {S : Store} (h : ∀ a, a ∈ l → ∀ S, f a S = g a S) : compGD f l S = compGD g l S := by
  induction l generalizing S with
  | nil => rfl
  | cons a l ih =>
    show (f a S).bind _ = (g a S).bind _
    rw [h a List.mem_cons_self]
    congr 1
    funext y S1
    rw [ih fun b hb => h b (List.mem_cons_of_mem _ hb)]
theorem compGD_mem {α : Type} {f h : α → Store → Out (Option (PV × PV))} {l : List α} {S : Store} : compGD (fun a S => if Mem a l then f a S else h a S) l S = compGD f l S := compGD_congr fun a ha S => if_pos ha
theorem compDT_map {α : Type} {f : PV → Store → Out (Option (PV × PV))} {x : α → PV} {l : List α} {S : Store} {t : Tag f} : compDT f (l.map x) S t = compGD (fun a S => if Mem a l then f (x a) S else .bad) l S := by
  rw [compGD_mem]
  show compD f (l.map x) S = _
  induction l generalizing S with
  | nil => rfl
  | cons a l ih =>
    show (f (x a) S).bind _ = (f (x a) S).bind _
    congr 1
    funext y S1
    rw [ih] <;> rfl
theorem compGD_all' {α : Type} {g : α → PV × PV} : ∀ {l : List α} {S : Store}, compGD (fun a S => .ok (some (g a)) S) l S = .ok (l.map g) S
  | [], _ => rfl
  | a :: l, S => by
    show (compGD _ l S).bind _ = _
    rw [compGD_all']
    rfl
theorem compGD_all {α : Type} {g : α → PV × PV} {l : List α} {S : Store} : compGD (fun a S => if Mem a l then .ok (some (g a)) S else .bad) l S = .ok (l.map g) S := compGD_mem.trans compGD_all'
end FWP

namespace FWP
open PySem FW
class Enc {α : Type} [DecidableEq α] (d : outParam Nat) (x : α → PV) : Prop where
  eq : ∀ a b, eqv (x a) (x b) = decide (a = b)
  nf : ∀ a, noFn (x a) = true
  dp : ∀ a, dpLe d (x a) = true
theorem cast_inj' {a b : Nat} : ((a : Int) = (b : Int)) ↔ (a = b) := by omega
instance : Enc 0 nn := ⟨fun a b => by simp [eqv, cast_inj'], fun _ => rfl, fun _ => rfl⟩
instance : Enc 0 (fun t : Nat => PV.int (t : Int)) := inferInstanceAs (Enc 0 nn)
instance : Enc 0 bitV := ⟨fun a b => by cases a <;> cases b <;> rfl, fun _ => rfl, fun _ => rfl⟩
instance : Enc 0 (fun b : Bool => PV.int (if b = true then 1 else 0)) := inferInstanceAs (Enc 0 bitV)
instance : Enc 0 PV.int := ⟨fun a b => rfl, fun _ => rfl, fun _ => rfl⟩
instance : Enc 0 PV.bl := ⟨fun a b => by cases a <;> cases b <;> rfl, fun _ => rfl, fun _ => rfl⟩
mutual
theorem dpLe_mono : ∀ {n m : Nat} {v : PV}, dpLe n v = true → n ≤ m → dpLe m v = true
  | _, _, .non, _, _ => by simp [dpLe]
  | _, _, .bl _, _, _ => by simp [dpLe]
  | _, _, .int _, _, _ => by simp [dpLe]
  | _, _, .str _, _, _ => by simp [dpLe]
  | _, _, .fn _, _, _ => by simp [dpLe]
  | 0, _, .tup _, h, _ => by simp [dpLe] at h
  | 0, _, .lst _, h, _ => by simp [dpLe] at h
  | n + 1, m, .tup xs, h, hm => by
    obtain ⟨m, rfl⟩ : ∃ k, m = k + 1 := ⟨m - 1, by omega⟩
    exact dpLes_mono (n := n) h (by omega)
  | n + 1, m, .lst xs, h, hm => by
    obtain ⟨m, rfl⟩ : ∃ k, m = k + 1 := ⟨m - 1, by omega⟩
    exact dpLes_mono (n := n) h (by omega)
theorem dpLes_mono : ∀ {n m : Nat} {vs : List PV}, dpLes n vs = true → n ≤ m → dpLes m vs = true
  | _, _, [], _, _ => by simp [dpLes]
  | n, m, v :: vs, h, hm => by
    simp only [dpLes, Bool.and_eq_true] at h ⊢
    exact ⟨dpLe_mono h.1 hm, dpLes_mono h.2 hm⟩
end
section
variable {α : Type} [DecidableEq α] {d : Nat} {x : α → PV} [E : Enc d x]
include E
theorem eqvs_enc : ∀ {l l' : List α}, eqvs (l.map x) (l'.map x) = decide (l = l')
  | [], [] => rfl
  | [], _ :: _ => rfl
  | _ :: _, [] => rfl
  | a :: l, b :: l' => by
    show (eqv (x a) (x b) && eqvs (l.map x) (l'.map x)) = _
    rw [E.eq, eqvs_enc]
    by_cases h1 : a = b <;> by_cases h2 : l = l' <;> simp [h1, h2]
theorem noFns_enc : ∀ {l : List α}, noFns (l.map x) = true
  | [] => rfl
  | a :: l => by show (noFn (x a) && noFns (l.map x)) = true; rw [E.nf, noFns_enc]; rfl
theorem dpLes_enc : ∀ {l : List α}, dpLes d (l.map x) = true
  | [] => rfl
  | a :: l => by show (dpLe d (x a) && dpLes d (l.map x)) = true; rw [E.dp, dpLes_enc]; rfl
instance : Enc (d + 1) (fun l : List α => PV.tup (l.map x)) := ⟨fun a b => eqvs_enc, fun a => noFns_enc, fun a => dpLes_enc⟩
instance : Enc (d + 1) (fun l : List α => PV.lst (l.map x)) := ⟨fun a b => eqvs_enc, fun a => noFns_enc, fun a => dpLes_enc⟩
theorem eqP_enc {a b : α} (hd : d ≤ 24) : eqP (x a) (x b) = some (decide (a = b)) := by
  unfold eqP
  rw [E.nf, E.nf, dpLe_mono (E.dp a) (show d ≤ eqD from hd), E.eq]
  rfl
theorem eqP_tups {l l' : List α} (hd : d ≤ 23) : eqP (.tup (l.map x)) (.tup (l'.map x)) = some (decide (l = l')) := eqP_enc (x := fun l : List α => PV.tup (l.map x)) (by omega)
theorem eqP_lsts {l l' : List α} (hd : d ≤ 23) : eqP (.lst (l.map x)) (.lst (l'.map x)) = some (decide (l = l')) := eqP_enc (x := fun l : List α => PV.lst (l.map x)) (by omega)
theorem any_enc {a : α} {l : List α} : ((l.map x).any fun y => eqv y (x a)) = decide (a ∈ l) := by
  induction l with
  | nil => rfl
  | cons b l ih =>
    rw [List.map_cons, List.any_cons, ih, E.eq]
    by_cases h1 : b = a <;> by_cases h2 : a ∈ l <;> simp [h1, h2, eq_comm]
    exact fun h => h1 h.symm
theorem anyEq_enc {a : α} {l : List α} (hd : d ≤ 24) : anyEq (x a) (l.map x) = some (decide (a ∈ l)) := by
  unfold anyEq
  rw [E.nf, noFns_enc (x := x), dpLe_mono (E.dp a) (show d ≤ eqD from hd), any_enc (x := x)]
  rfl
end
theorem anyEq_int {α : Type} {i : Int} {f : α → Int} {l : List α} : anyEq (.int i) (l.map fun a => PV.int (f a)) = some (decide (∃ a, a ∈ l ∧ f a = i)) := by
  have : (l.map fun a => PV.int (f a)) = (l.map f).map PV.int := by simp
  rw [this, anyEq_enc (x := PV.int) (by decide)]
  congr 2
  simp
section
variable {α : Type} {le : α → α → Bool}
theorem sorted_unique {lt : α → α → Prop} (irr : ∀ a, ¬ lt a a) (tr : ∀ a b c, lt a b → lt b c → lt a c) : ∀ {l l' : List α}, l.Pairwise lt → l'.Pairwise lt → (∀ a, a ∈ l ↔ a ∈ l') → l = l'
  | [], [], _, _, _ => rfl
  | [], b :: l', _, _, h => absurd ((h b).mpr List.mem_cons_self) (by simp)
  | a :: l, [], _, _, h => absurd ((h a).mp List.mem_cons_self) (by simp)
  | a :: l, b :: l', h1, h2, h => by
    obtain ⟨p1, q1⟩ := List.pairwise_cons.mp h1
    obtain ⟨p2, q2⟩ := List.pairwise_cons.mp h2
    have e : a = b := by
      rcases List.mem_cons.mp ((h a).mp List.mem_cons_self) with e | m
      · exact e
      · rcases List.mem_cons.mp ((h b).mpr List.mem_cons_self) with e | m'
        · exact e.symm
        · exact absurd (tr _ _ _ (p1 b m') (p2 a m)) (irr a)
    subst e
    congr 1
    refine sorted_unique irr tr q1 q2 fun c => ⟨fun m => ?_, fun m => ?_⟩
    · rcases List.mem_cons.mp ((h c).mp (List.mem_cons_of_mem _ m)) with e | m'
      · subst e; exact absurd (p1 c m) (irr c)
      · exact m'
    · rcases List.mem_cons.mp ((h c).mpr (List.mem_cons_of_mem _ m)) with e | m'
      · subst e; exact absurd (p2 c m) (irr c)
      · exact m'
end
def ltL : List Nat → List Nat → Bool
  | [], [] => false
  | [], _ :: _ => true
  | _ :: _, [] => false
  | x :: xs, y :: ys => if x = y then ltL xs ys else decide (x < y)
abbrev setV (p : List Nat) : PV := .tup (p.map nn)
theorem ltL_irr : ∀ a, ltL a a = false
  | [] => rfl
  | x :: xs => by unfold ltL; rw [if_pos rfl]; exact ltL_irr xs
abbrev Asc (l : List Nat) : Prop := l.Pairwise (· < ·)
abbrev AscS (l : List (List Nat)) : Prop := l.Pairwise (fun a b => ltL a b = true)
theorem asc_unique {l l' : List Nat} (h : Asc l) (h' : Asc l') (hm : ∀ a, a ∈ l ↔ a ∈ l') : l = l' := sorted_unique (fun a => Nat.lt_irrefl a) (fun _ _ _ => Nat.lt_trans) h h' hm
theorem asc_nodup {l : List Nat} (h : Asc l) : l.Nodup := h.imp fun h => Nat.ne_of_lt h
theorem ascS_nodup {l : List (List Nat)} (h : AscS l) : l.Nodup := h.imp fun {a b} h e => by subst e; rw [ltL_irr] at h; cases h
end FWP

namespace FWP
open PySem FW
theorem forL_cons {f : PV → FS} {x : PV} {xs : List PV} {ρ ρ1 : Slots} {S S1 : Store} (e : f x ρ S = .ok (.next ρ1) S1) : forL f [] (x :: xs) ρ S = forL f [] xs ρ1 S1 := by
  show (f x ρ S).bind _ = _
  rw [e]
  rfl
theorem forL_nil {f : PV → FS} {ρ : Slots} {S : Store} : forL f [] [] ρ S = .ok (.next ρ) S := rfl
end FWP

namespace FWP
open PySem FW
abbrev pathsV (P : List (List Nat)) : PV := .tup (P.map setV)
abbrev sysV (n : Nat) (P : List (List Nat)) : PV := .tup [nn n, pathsV P]
abbrev stV (st : List Bool) : PV := .tup (st.map bitV)
def mask (p : List Nat) : Nat := (p.map bitN).sum
def stAt (n m : Nat) : List Bool := (List.range n).map fun k => m.testBit k
theorem mask_mul : ∀ {p : List Nat} {k : Nat}, Asc p → (∀ j ∈ p, k < j) → ∃ c, mask p = 2 ^ (k + 1) * c
  | [], k, _, _ => ⟨0, by simp [mask]⟩
  | a :: p, k, h, hk => by
    obtain ⟨h1, h2⟩ := List.pairwise_cons.mp h
    have ha := hk a List.mem_cons_self
    obtain ⟨c, hc⟩ := mask_mul (k := k) h2 fun j hj => hk j (List.mem_cons_of_mem _ hj)
    refine ⟨2 ^ (a - (k + 1)) + c, ?_⟩
    show bitN a + mask p = _
    rw [hc, Nat.mul_add, ← Nat.pow_add, show k + 1 + (a - (k + 1)) = a by omega]
    rfl
theorem mask_bit : ∀ {p : List Nat} {k : Nat}, Asc p → (mask p).testBit k = decide (k ∈ p)
  | [], k, _ => by simp [mask]
  | a :: p, k, h => by
    obtain ⟨h1, h2⟩ := List.pairwise_cons.mp h
    obtain ⟨c, hc⟩ := mask_mul (k := a) h2 h1
    have ih := mask_bit (k := k) h2
    have e : mask (a :: p) = 2 ^ (a + 1) * c + 2 ^ a := by
      show bitN a + mask p = _
      rw [hc, Nat.add_comm]
      rfl
    rw [hc] at ih
    rw [e, Nat.testBit_two_pow_mul_add _ (Nat.pow_lt_pow_right (by decide) (by omega))]
    rw [Nat.testBit_two_pow_mul] at ih
    by_cases hk : k < a + 1
    · rw [if_pos hk, Nat.testBit_two_pow]
      have : k ∉ p := fun hm => by have := h1 k hm; omega
      by_cases h3 : a = k
      · subst h3; simp
      · simp [h3, this, fun h => h3 (Eq.symm h)]
        omega
    · rw [if_neg hk]
      have h4 : k ≥ a + 1 := by omega
      simp only [h4, decide_true, Bool.true_and] at ih
      rw [ih]
      have : k ≠ a := by omega
      simp [this]
theorem mask_lt {p : List Nat} {n : Nat} (h : Asc p) (hn : ∀ k ∈ p, k < n) : mask p < 2 ^ n := by
  refine Nat.lt_pow_two_of_testBit _ fun i hi => ?_
  rw [mask_bit h]
  exact decide_eq_false fun hm => by have := hn i hm; omega
theorem mask_inj {p q : List Nat} (hp : Asc p) (hq : Asc q) (h : mask p = mask q) : p = q :=
  asc_unique hp hq fun k => by
    have := mask_bit (k := k) hp
    rw [h, mask_bit hq] at this
    exact ⟨fun hk => by rw [decide_eq_true hk] at this; exact of_decide_eq_true this, fun hk => by rw [decide_eq_true hk] at this; exact of_decide_eq_true this.symm⟩
theorem asc_len {p : List Nat} {n : Nat} (h : Asc p) (hn : ∀ k ∈ p, k < n) : p.length ≤ n := by
  have := List.Nodup.length_le_of_subset (asc_nodup h) (l₂ := List.range n) fun k hk => List.mem_range.mpr (hn k hk)
  simpa using this
structure Good (n : Nat) (P : List (List Nat)) : Prop where
  n1 : 1 ≤ n
  n8 : n ≤ 8
  asc : ∀ p ∈ P, Asc p
  lt : ∀ p ∈ P, ∀ k ∈ p, k < n
  srt : AscS P
  anti : ∀ p ∈ P, ∀ q ∈ P, (∀ k ∈ p, k ∈ q) → p = q
def wk (P : List (List Nat)) (f : Nat → Bool) : Bool := P.any fun p => p.all f
theorem wk_iff {P : List (List Nat)} {f : Nat → Bool} : wk P f = true ↔ ∃ p ∈ P, ∀ k ∈ p, f k = true := by simp [wk]
theorem wk_congr {P : List (List Nat)} {f g : Nat → Bool} (h : ∀ p ∈ P, ∀ k ∈ p, f k = g k) : wk P f = wk P g := by
  rw [Bool.eq_iff_iff, wk_iff, wk_iff]
  exact ⟨fun ⟨p, hp, hk⟩ => ⟨p, hp, fun k hkp => by rw [← h p hp k hkp]; exact hk k hkp⟩, fun ⟨p, hp, hk⟩ => ⟨p, hp, fun k hkp => by rw [h p hp k hkp]; exact hk k hkp⟩⟩
section
variable {n : Nat} {P : List (List Nat)}
theorem Good.plen (h : Good n P) {p : List Nat} (hp : p ∈ P) : p.length ≤ 8 := Nat.le_trans (asc_len (h.asc p hp) (h.lt p hp)) h.n8
theorem Good.len (h : Good n P) : P.length ≤ 256 := by
  have e : (P.map mask).Nodup := by
    unfold List.Nodup
    rw [List.pairwise_map]
    have := (List.Pairwise.and (ascS_nodup h.srt) (List.Pairwise.and_mem.mp h.srt))
    exact this.imp fun {a b} ⟨hne, ha, hb, _⟩ he => hne (mask_inj (h.asc a ha) (h.asc b hb) he)
  have := List.Nodup.length_le_of_subset e (l₂ := List.range 256) fun m hm => by
    obtain ⟨p, hp, rfl⟩ := List.mem_map.mp hm
    exact List.mem_range.mpr (Nat.lt_of_lt_of_le (mask_lt (h.asc p hp) (h.lt p hp)) (Nat.pow_le_pow_right (n := 2) (by decide) h.n8))
  simpa using this
end
theorem stAt_len (n m : Nat) : (stAt n m).length = n := by simp [stAt]
end FWP

namespace FWP
open PySem FW
theorem anyEq_sets {q : List Nat} {M : List (List Nat)} : anyEq (.tup (q.map nn)) (M.map setV) = some (decide (q ∈ M)) := by
  have := anyEq_enc (x := setV) (a := q) (l := M) (by decide)
  rw [show PV.tup (q.map nn) = setV q from rfl, this]
  congr
theorem is_in_int {i a b : Int} {S : Store} : F_is_in [.v (.int i), .v (.int a), .v (.int b)] S = .ok (.v (.bl (decide (a ≤ i ∧ i ≤ b)))) S := by
  simp [F_is_in, d_is_in]
  by_cases h : a ≤ i
  · by_cases h2 : i ≤ b <;> simp [h, h2]
  · simp [h]
section
variable {n : Nat} {P : List (List Nat)} {S : Store}
def vals (n : Nat) (P : List (List Nat)) : List Bool := (List.range (bitN n)).map fun m => wk P fun k => m.testBit k
end
theorem allInt_nn : ∀ {l : List Nat}, allInt (l.map nn) = true
  | [] => rfl
  | a :: l => allInt_nn (l := l)
section
variable {n : Nat} {P : List (List Nat)} {S : Store}
end
end FWP

namespace FWP
open PySem FW
section
variable {n : Nat} {vs : List Bool} {S : Store} {V : PV}
end
end FWP

namespace FWP
open PySem FW
section
variable {n : Nat} {vs : List Bool} {P Q : List (List Nat)}
theorem vals_len : (vals n P).length = bitN n := by simp [vals]
theorem ith_vals {m : Nat} (hm : m < bitN n) : ith (vals n P) m = wk P fun k => m.testBit k := by
  unfold vals
  rw [ith_map (by simpa using hm)]
  simp [ith, hm]
end
end FWP

namespace FWP
open PySem FW
theorem compL_gen {α β : Type} {f : PV → Store → Out (Option PV)} {x : α → PV} {y : β → PV} {J : Store → Prop} {Q : β → Prop} : ∀ {l : List α} {S : Store}, J S → (∀ a ∈ l, ∀ S, J S → ∃ (b : β) (S' : Store), f (x a) S = .ok (some (y b)) S' ∧ Q b ∧ J S') → ∃ (l' : List β) (S' : Store), compL f (l.map x) S = .ok (l'.map y) S' ∧ l'.length = l.length ∧ (∀ b ∈ l', Q b) ∧ J S'
  | [], S, hJ, _ => ⟨[], S, rfl, rfl, fun b hb => absurd hb (by simp), hJ⟩
  | a :: l, S, hJ, h => by
    obtain ⟨b, S1, e1, q1, h1⟩ := h a List.mem_cons_self S hJ
    obtain ⟨l', S2, e2, h2, h3, h4⟩ := compL_gen (l := l) (Q := Q) h1 fun c hc => h c (List.mem_cons_of_mem _ hc)
    refine ⟨b :: l', S2, ?_, by simp [h2], fun c hc => ?_, h4⟩
    · show (f (x a) S).bind _ = _
      rw [e1]
      show (compL f (l.map x) S1).bind _ = _
      rw [e2]
      rfl
    · rcases List.mem_cons.mp hc with rfl | hc
      · exact q1
      · exact h3 c hc
def Dr (p : Nat) (S S' : Store) : Prop := Row S' p ∧ But p S S'
theorem Dr.refl {p : Nat} {S : Store} (h : Row S p) : Dr p S S := ⟨h, But.refl⟩
theorem Dr.len {p : Nat} {S S' : Store} (h : Dr p S S') : S'.length = S.length := h.2.1
theorem Dr.take {p : Nat} {S S' : Store} (h : Dr p S S') : S'.take S.length = S' := List.take_of_length_le (by rw [h.len]; exact Nat.le_refl _)
theorem taken_d {S0 S : Store} {p : Nat} {m : Int} (h : Dr p S0 S) (hm : 0 < m) (hm2 : m < 4294967296) : ∃ (j : Nat) (S' : Store), F__law_taken [.l p, I m] S = .ok (.v (nn j)) S' ∧ (j : Int) < m ∧ Dr p S0 S' := by
  obtain ⟨j, S', e, h0, h1, r, b⟩ := taken_spec h.1 hm hm2
  obtain ⟨j, rfl⟩ : ∃ k : Nat, j = k := ⟨j.toNat, by omega⟩
  exact ⟨j, S', e, h1, r, h.2.trans b⟩
theorem pick_d {S0 S : Store} {p : Nat} {xs : List PV} (h : Dr p S0 S) (h0 : 0 < xs.length) (h1 : xs.length < 4294967296) : ∃ (z : PV) (S' : Store), F__law_pick [.l p, .v (.lst xs)] S = .ok (.v z) S' ∧ z ∈ xs ∧ Dr p S0 S' := by
  obtain ⟨z, S', e, hz, r, b⟩ := pick_spec (x := .lst xs) (t := true) h.1 (fun _ => rfl) h0 h1
  exact ⟨z, S', e, hz, r, h.2.trans b⟩
section
variable {n p : Nat} {S0 S : Store}
theorem comp_v {Γ : List (Str × Fn)} {m own tg it c e} {ρ : Slots} {S S1 S2 : Store} {xs ys : List PV} (hi : evI Γ it ρ S = .ok xs S1) (hc : compL (cTurn (bindG tg) (ev Γ c).t (ev Γ e).v (wipeS ρ own)) xs S1 = .ok ys S2) : (ev Γ (.comp m own tg it c e)).v ρ S = mkL m ys S2 := by
  rw [v_comp, hi]
  show (compL _ xs S1).bind _ = _
  rw [hc, Out.bind_ok]
def keep (L : List (List Nat)) (p : List Nat) : Bool := L.all fun o => decide (o = p) || o.any fun k => decide (k ∉ p)
end
end FWP

namespace FWP
open PySem FW
def lawStates (n : Nat) : List (List Bool) := (List.range (bitN n)).map (stAt n)
theorem stAt_succ {i m : Nat} (h : m < bitN i) : stAt (i + 1) m = stAt i m ++ [false] ∧ stAt (i + 1) (bitN i + m) = stAt i m ++ [true] := by
  unfold stAt
  rw [List.range_succ, List.map_append, List.map_append]
  constructor
  · rw [List.map_singleton, Nat.testBit_lt_two_pow h]
  · rw [List.map_singleton, show bitN i = 2 ^ i from rfl, Nat.testBit_two_pow_add_eq, Nat.testBit_lt_two_pow h]
    congr 1
    exact List.map_congr_left fun k hk => Nat.testBit_two_pow_add_gt (List.mem_range.mp hk) m
theorem lawStates_succ (i : Nat) : lawStates (i + 1) = (lawStates i).map (· ++ [false]) ++ (lawStates i).map (· ++ [true]) := by
  unfold lawStates
  rw [show bitN (i + 1) = bitN i + bitN i by unfold bitN; rw [Nat.pow_succ]; omega, List.range_add, List.map_append, List.map_map, List.map_map, List.map_map]
  congr 1
  · exact List.map_congr_left fun m hm => (stAt_succ (List.mem_range.mp hm)).1
  · exact List.map_congr_left fun m hm => (stAt_succ (List.mem_range.mp hm)).2
theorem lawStates_len {n : Nat} : (lawStates n).length = bitN n := by simp [lawStates]
theorem lawStates_mem {n : Nat} {st : List Bool} (h : st ∈ lawStates n) : st.length = n := by
  obtain ⟨m, _, rfl⟩ := List.mem_map.mp h
  exact stAt_len n m
section
variable {n p : Nat} {S0 S : Store}
theorem states_turn {L : List (List Bool)} (hL : L.length ≤ 1000) (hst : ∀ st ∈ L, st.length + 1 ≤ 16777216) {x : PV} {w2 w3 : Option SV} : turnF g__law_states (.name 2) b__law_states_0 x [some (.v (nn n)), some (.v (.lst (L.map stV))), w2, w3] S =
    .ok (.next [some (.v (nn n)), some (.v (.lst ((L.map (· ++ [false]) ++ L.map (· ++ [true])).map stV))), some (.v x), w3]) S := by
  have e1 : ∀ st ∈ L, ∀ (b : Bool) (S : Store), mkT (st.map bitV ++ [bitV b]) S = .ok (.v (.tup (st.map bitV ++ [bitV b]))) S := fun st h b S => mkT_ok (by simpa using hst st h)
  have e2 : ∀ st ∈ L, ∀ (S : Store), mkT (st.map bitV ++ [.int 0]) S = .ok (.v (.tup (st.map bitV ++ [.int 0]))) S := fun st h S => e1 st h false S
  have e3 : ∀ st ∈ L, ∀ (S : Store), mkT (st.map bitV ++ [.int 1]) S = .ok (.v (.tup (st.map bitV ++ [.int 1]))) S := fun st h S => e1 st h true S
  ((simp -implicitDefEqProofs -dsimp (disch := (first | with_reducible assumption | exact Mem.out (by assumption) | (((try simp only [List.length_map, List.length_range, List.length_append, List.length_cons, List.length_nil, List.length_tail, List.length_zip, List.length_reverse, List.length_take, List.length_drop, List.length_set, List.length_replicate, List.length_zipIdx, line]) <;> first | omega | (first | exact Mem.out (by assumption) | (with_reducible show (_ : Nat) < _; solve_by_elim (maxDepth := 4) [Mem.out]) | (with_reducible show (_ : Nat) ≤ _; solve_by_elim (maxDepth := 4) [Mem.out]) | (with_reducible show _ ∈ _; solve_by_elim (maxDepth := 4) [Mem.out]) | fail) | (refine Nat.le_trans (List.length_filter_le _ _) ?_; (try simp only [List.length_map, List.length_range, List.length_append, List.length_cons, List.length_nil]) <;> first | omega | (first | exact Mem.out (by assumption) | (with_reducible show (_ : Nat) < _; solve_by_elim (maxDepth := 4) [Mem.out]) | (with_reducible show (_ : Nat) ≤ _; solve_by_elim (maxDepth := 4) [Mem.out]) | (with_reducible show _ ∈ _; solve_by_elim (maxDepth := 4) [Mem.out]) | fail) | fail) | fail)) | fail)) [↓v_var, ↓v_k, ↓v_glob, ↓v_tup, ↓v_list, ↓v_bin, ↓v_neg, ↓t_nt, ↓v_nt, ↓v_and, ↓t_and, ↓v_or, ↓t_or, ↓v_and1, ↓t_and1, ↓v_or1, ↓t_or1, ↓v_and2, ↓t_and2, ↓v_or2, ↓t_or2, ↓t_cmp, ↓v_cmp, ↓t_chain, ↓v_chain, ↓v_ite, ↓t_ite, ↓v_call, ↓v_fnv, ↓v_callv, ↓v_index, ↓v_indexG, ↓v_bi, ↓v_isi, ↓v_idx, ↓v_slc, ↓v_comp, ↓v_comp2, ↓v_dic0, ↓v_get, ↓v_rev, ↓v_dcomp, ↓cTurnD_eq, pairO_v, ↓v_dicd, dispK_eq, pu_nil, pu_cons, keyOk_int, keyOk_str, mkD_ok, ↓compDT_map, compGD_all, ↓qs_pop, ↓qs_augsub, ↓qs_parG, fnM_eq, endM_ret, endM_ite, leaveM_v, nw_leaveM, nw_rev, rev_l, nw_old, asub_eq, nw_put, w2a_lst, w2b_lst, w2a_isl, w2b_isl, w2a_set, w2b_set, w2a_tup, w2b_tup, w2a_len, w2b_len, w2a_idx, w2b_idx, optC_some, optC_none, ↓t_var, ↓t_k, ↓t_call, ↓t_callv, ↓t_idx, ↓t_isi, ↓t_bin, ↓t_bi, ↓l_nil, ↓l_cons, ↓qi_seq, ↓qi_rng1, ↓qi_rng2, ↓i_rng3, ↓qi_zip, ↓qi_enum, ↓okK_v, ↓cTurn_eq, ↓cTurn2_eq, -seqOp, sq_tup, sq_lst, -zipOp, zp_tup, zp_lst, -enumOp, en_lst, -idxOp, idx_tup, idx_lst, idx_l, at_map, at_map0, at_map1, at_mapl, at_0, at_1, at_2, -cmpOp, -isNonS, cm_is, cm_isnot, cm_isb, ns_non, ns_bl, ns_int, ns_tup, ns_lst, ns_l, cm_eqv, cm_nev, cm_eqlv, cm_nelv, cm_lt, cm_le, cm_gt, cm_ge, cm_in_t, cm_in_l, cm_nin_t, cm_nin_l, cm_in_p, cm_nin_p, -binOp, bo_ii, bo_ib, bo_tt, bo_ll, bo_pl, bo_tm, bo_lm, -negOp, ng_i, -isTys, it_of, oo_some, -biOp, qbi_len, qbi_int, qbi_abs, qbi_sum, qbi_tuple, qbi_list, qbi_sorted, bi_sset, bi_skey, bi_lset, qbi_min1, qbi_max1, qbi_min2, qbi_max2, bi_lr1, bi_tr1, -bLen, ln_t, ln_l, ln_p, -bInt, in_i, in_b, -bAbs, ab_i, -bSum, sm_t, sm_l, -bTuple, tp_t, tp_l, tp_p, -bList, ls_t, ls_l, ls_p, lr_n, -slcOp, sl_t, sl_l, -part?, pt_n, pt_i, -intOnly, io_i, -augOp, au_add, au_sub, -putOp, -isNonC, nnc_non, nnc_int, nnc_var, nnc_bin, nnc_bi, nnc_neg, nnc_idx, -leave, leave_l, take_app, take_self, nw_lst, nw_isl, nw_set, nw_tup, nw_len, nw_idx, nw_leave, nw_add, nw_eq, nw_ne, cut_ton, cut_fromn, -getS, gs_some, gs_none, gs_succ, -bindG, -bindGs, -wipeS, -pures?, -setAll, bg_name, bg_tup, bg_lst, bgs_nil, bgs_cons, wp_nil, wp_cons, pr_nil, pr_cons, sa_nil, sa_cons, ↓seqK_next, ↓seqK_ret, ↓seqK_brk, ↓seqK_cnt, ↓b_nil, ↓b_cons, ↓qs_set, ↓qs_unpack, ↓qs_par, ↓qs_sub, ↓s_aug, ↓qs_app, appIf_ok, ↓qs_expr, ↓s_ifs, ↓qs_ret, ↓qs_retN, ↓qs_brk, ↓qs_cnt, ↓turnF_eq, ↓s_forr, ↓s_whil, ↓qs_freeze, ↓frzO_some, ↓frzO_none, ↓frz_l, ↓frz_v, ↓bd_ok, ↓bd_exc, ↓bd_bad, ↓compLT_nil, ↓compLLT_nil, ↓optB_none, ↓optB_some, ↓truK_eq, ↓blK_eq, ↓tupK_eq, ↓lstK_eq, ↓callG_eq, ↓partO_eq, ↓svP_v, ↓svL_l, ↓endK_ret, ↓endK_next, ↓endK_ite, ↓fn_eq, startB_eq, -fnSem, leave_v, ↓compLT_map, ↓compLLT_map, compG_all, compG_none, compG_some, compG_two, compG_3, ite_int, compGG_all, ↓bd_ite, ite_both, -ite_not, -Classical.ite_not, -List.map_set, ite_okb, -intOp, op_shl, op_shln, op_shr, op_bit, op_and, op_or, op_xor, op_add, op_sub, -mkL, mkL_f, mkL_t, -mkT, mkT_ok, zip_map, enum_map, rng1_n, rng1_i, rng2_n, -rng1Op, -rng2Op, ints_mapf, sumI_map, -ix?, ix_n, ix_n1, ix_i0, ix_i1, ix_i2, eqP_nilL, noFns_map, bit_1, bit_0, -getElem?_pos, -getElem?_neg, get_ith, ith_zero, ith_succ, ith_map, nn, bitV, eqP_tups, eqP_lsts, eqP_enc, anyEq_enc, anyEq_int, anyEq_sets, List.isEmpty_iff, List.filter_eq_nil_iff, cast_inj, setV, pathsV, sysV, stV, b__law_states_0, e2, e3]))
  simp [Function.comp_def, stV, bitV]
theorem states_loop (h8 : n ≤ 8) : ∀ (k i : Nat) (w2 w3 : Option SV), i + k = n → ∃ w2' w3' : Option SV, forL (turnF g__law_states (.name 2) b__law_states_0) [] ((List.range' i k).map nn) [some (.v (nn n)), some (.v (.lst ((lawStates i).map stV))), w2, w3] S =
    .ok (.next [some (.v (nn n)), some (.v (.lst ((lawStates n).map stV))), w2', w3']) S
  | 0, i, w2, w3, h => ⟨w2, w3, by obtain rfl : i = n := by omega
                                   rfl⟩
  | k + 1, i, w2, w3, h => by
    have hb := bitN_le (n := i) (by omega)
    have e := states_turn (n := n) (S := S) (L := lawStates i) (x := nn i) (w2 := w2) (w3 := w3) (by rw [lawStates_len]; omega) (fun st hst => by rw [lawStates_mem hst]; omega)
    obtain ⟨w2', w3', e2⟩ := states_loop h8 k (i + 1) (some (.v (nn i))) w3 (by omega)
    refine ⟨w2', w3', ?_⟩
    show (turnF g__law_states (.name 2) b__law_states_0 (nn i) _ S).bind _ = _
    rw [e, Out.bind_ok, ← lawStates_succ]
    exact e2
theorem F__law_states_eq (h8 : n ≤ 8) : F__law_states [.v (nn n)] S = .ok (.v (.lst ((lawStates n).map stV))) S := by
  obtain ⟨w2, w3, e⟩ := states_loop (S := S) h8 n 0 none none (by omega)
  have hb := bitN_le h8
  have hl := lawStates_len (n := n)
  rw [← List.range_eq_range'] at e
  have e' : forL (turnF g__law_states (.name 2) b__law_states_0) [] ((List.range n).map nn) [some (.v (nn n)), some (.v (.lst [.tup []])), none, none] S = .ok (.next [some (.v (nn n)), some (.v (.lst ((lawStates n).map stV))), w2, w3]) S := e
  ((simp -implicitDefEqProofs -dsimp (disch := (first | with_reducible assumption | exact Mem.out (by assumption) | (((try simp only [List.length_map, List.length_range, List.length_append, List.length_cons, List.length_nil, List.length_tail, List.length_zip, List.length_reverse, List.length_take, List.length_drop, List.length_set, List.length_replicate, List.length_zipIdx, line]) <;> first | omega | (first | exact Mem.out (by assumption) | (with_reducible show (_ : Nat) < _; solve_by_elim (maxDepth := 4) [Mem.out]) | (with_reducible show (_ : Nat) ≤ _; solve_by_elim (maxDepth := 4) [Mem.out]) | (with_reducible show _ ∈ _; solve_by_elim (maxDepth := 4) [Mem.out]) | fail) | (refine Nat.le_trans (List.length_filter_le _ _) ?_; (try simp only [List.length_map, List.length_range, List.length_append, List.length_cons, List.length_nil]) <;> first | omega | (first | exact Mem.out (by assumption) | (with_reducible show (_ : Nat) < _; solve_by_elim (maxDepth := 4) [Mem.out]) | (with_reducible show (_ : Nat) ≤ _; solve_by_elim (maxDepth := 4) [Mem.out]) | (with_reducible show _ ∈ _; solve_by_elim (maxDepth := 4) [Mem.out]) | fail) | fail) | fail)) | fail)) [↓v_var, ↓v_k, ↓v_glob, ↓v_tup, ↓v_list, ↓v_bin, ↓v_neg, ↓t_nt, ↓v_nt, ↓v_and, ↓t_and, ↓v_or, ↓t_or, ↓v_and1, ↓t_and1, ↓v_or1, ↓t_or1, ↓v_and2, ↓t_and2, ↓v_or2, ↓t_or2, ↓t_cmp, ↓v_cmp, ↓t_chain, ↓v_chain, ↓v_ite, ↓t_ite, ↓v_call, ↓v_fnv, ↓v_callv, ↓v_index, ↓v_indexG, ↓v_bi, ↓v_isi, ↓v_idx, ↓v_slc, ↓v_comp, ↓v_comp2, ↓v_dic0, ↓v_get, ↓v_rev, ↓v_dcomp, ↓cTurnD_eq, pairO_v, ↓v_dicd, dispK_eq, pu_nil, pu_cons, keyOk_int, keyOk_str, mkD_ok, ↓compDT_map, compGD_all, ↓qs_pop, ↓qs_augsub, ↓qs_parG, fnM_eq, endM_ret, endM_ite, leaveM_v, nw_leaveM, nw_rev, rev_l, nw_old, asub_eq, nw_put, w2a_lst, w2b_lst, w2a_isl, w2b_isl, w2a_set, w2b_set, w2a_tup, w2b_tup, w2a_len, w2b_len, w2a_idx, w2b_idx, optC_some, optC_none, ↓t_var, ↓t_k, ↓t_call, ↓t_callv, ↓t_idx, ↓t_isi, ↓t_bin, ↓t_bi, ↓l_nil, ↓l_cons, ↓qi_seq, ↓qi_rng1, ↓qi_rng2, ↓i_rng3, ↓qi_zip, ↓qi_enum, ↓okK_v, ↓cTurn_eq, ↓cTurn2_eq, -seqOp, sq_tup, sq_lst, -zipOp, zp_tup, zp_lst, -enumOp, en_lst, -idxOp, idx_tup, idx_lst, idx_l, at_map, at_map0, at_map1, at_mapl, at_0, at_1, at_2, -cmpOp, -isNonS, cm_is, cm_isnot, cm_isb, ns_non, ns_bl, ns_int, ns_tup, ns_lst, ns_l, cm_eqv, cm_nev, cm_eqlv, cm_nelv, cm_lt, cm_le, cm_gt, cm_ge, cm_in_t, cm_in_l, cm_nin_t, cm_nin_l, cm_in_p, cm_nin_p, -binOp, bo_ii, bo_ib, bo_tt, bo_ll, bo_pl, bo_tm, bo_lm, -negOp, ng_i, -isTys, it_of, oo_some, -biOp, qbi_len, qbi_int, qbi_abs, qbi_sum, qbi_tuple, qbi_list, qbi_sorted, bi_sset, bi_skey, bi_lset, qbi_min1, qbi_max1, qbi_min2, qbi_max2, bi_lr1, bi_tr1, -bLen, ln_t, ln_l, ln_p, -bInt, in_i, in_b, -bAbs, ab_i, -bSum, sm_t, sm_l, -bTuple, tp_t, tp_l, tp_p, -bList, ls_t, ls_l, ls_p, lr_n, -slcOp, sl_t, sl_l, -part?, pt_n, pt_i, -intOnly, io_i, -augOp, au_add, au_sub, -putOp, -isNonC, nnc_non, nnc_int, nnc_var, nnc_bin, nnc_bi, nnc_neg, nnc_idx, -leave, leave_l, take_app, take_self, nw_lst, nw_isl, nw_set, nw_tup, nw_len, nw_idx, nw_leave, nw_add, nw_eq, nw_ne, cut_ton, cut_fromn, -getS, gs_some, gs_none, gs_succ, -bindG, -bindGs, -wipeS, -pures?, -setAll, bg_name, bg_tup, bg_lst, bgs_nil, bgs_cons, wp_nil, wp_cons, pr_nil, pr_cons, sa_nil, sa_cons, ↓seqK_next, ↓seqK_ret, ↓seqK_brk, ↓seqK_cnt, ↓b_nil, ↓b_cons, ↓qs_set, ↓qs_unpack, ↓qs_par, ↓qs_sub, ↓s_aug, ↓qs_app, appIf_ok, ↓qs_expr, ↓s_ifs, ↓qs_ret, ↓qs_retN, ↓qs_brk, ↓qs_cnt, ↓turnF_eq, ↓s_forr, ↓s_whil, ↓qs_freeze, ↓frzO_some, ↓frzO_none, ↓frz_l, ↓frz_v, ↓bd_ok, ↓bd_exc, ↓bd_bad, ↓compLT_nil, ↓compLLT_nil, ↓optB_none, ↓optB_some, ↓truK_eq, ↓blK_eq, ↓tupK_eq, ↓lstK_eq, ↓callG_eq, ↓partO_eq, ↓svP_v, ↓svL_l, ↓endK_ret, ↓endK_next, ↓endK_ite, ↓fn_eq, startB_eq, -fnSem, leave_v, ↓compLT_map, ↓compLLT_map, compG_all, compG_none, compG_some, compG_two, compG_3, ite_int, compGG_all, ↓bd_ite, ite_both, -ite_not, -Classical.ite_not, -List.map_set, ite_okb, -intOp, op_shl, op_shln, op_shr, op_bit, op_and, op_or, op_xor, op_add, op_sub, -mkL, mkL_f, mkL_t, -mkT, mkT_ok, zip_map, enum_map, rng1_n, rng1_i, rng2_n, -rng1Op, -rng2Op, ints_mapf, sumI_map, -ix?, ix_n, ix_n1, ix_i0, ix_i1, ix_i2, eqP_nilL, noFns_map, bit_1, bit_0, -getElem?_pos, -getElem?_neg, get_ith, ith_zero, ith_succ, ith_map, nn, bitV, eqP_tups, eqP_lsts, eqP_enc, anyEq_enc, anyEq_int, anyEq_sets, List.isEmpty_iff, List.filter_eq_nil_iff, cast_inj, setV, pathsV, sysV, stV, F__law_states, d__law_states, e']))
end
end FWP

namespace FWP
open PySem FW
theorem okA_map {α : Type} {n : Nat} {x : α → PV} {l : List α} (hl : l.length ≤ 4000000) (h : ∀ a ∈ l, okA n (x a) = true) : okA (n + 1) (.tup (l.map x)) = true := by
  simp only [okA, List.length_map, hl, decide_true, Bool.true_and, List.all_map, List.all_eq_true]
  exact h
theorem okA_set {n : Nat} {q : List Nat} (h : q.length ≤ 4000000) : okA (n + 2) (setV q) = true := okA_map h fun _ _ => rfl
theorem okA_paths {n : Nat} {P : List (List Nat)} (h : P.length ≤ 4000000) (hq : ∀ q ∈ P, q.length ≤ 4000000) : okA (n + 3) (pathsV P) = true := okA_map h fun q hq' => okA_set (hq q hq')
theorem okA_pair {n : Nat} {a b : PV} (ha : okA n a = true) (hb : okA n b = true) : okA (n + 1) (.tup [a, b]) = true := by simp [okA, ha, hb]
section
variable {n : Nat} {P : List (List Nat)} {vs : List Bool} {S : Store}
theorem Good.okS (h : Good n P) {m : Nat} : okA (m + 4) (sysV n P) = true := okA_pair rfl (okA_paths (by have := h.len; omega) fun q hq => by have := h.plen hq; omega)
end
end FWP

namespace FWP
open PySem FW
section
variable {n k : Nat} {P : List (List Nat)} {S : Store} {st : List Bool}
end
end FWP

namespace FWP
open PySem FW
def putK (K : List Nat) (c : Nat) : List Nat := if c ∈ K then K else K ++ [c]
theorem keyEq_nn {a b : Nat} : keyEq (nn a) (nn b) = decide (a = b) := by
  show decide ((a : Int) = (b : Int)) = _
  simp [cast_inj']
theorem nodup_len {K : List Nat} {b : Nat} (h : K.Nodup) (hb : ∀ c ∈ K, c < b) : K.length ≤ b := by
  have := List.Nodup.length_le_of_subset h (l₂ := List.range b) fun c hc => List.mem_range.mpr (hb c hc)
  simpa using this
structure CutI (n : Nat) (Q : List (List Nat)) (M : List Nat) : Prop where
  asc : Asc M
  lt : ∀ c ∈ M, c < bitN n
  anti : ∀ a ∈ M, ∀ b ∈ M, a &&& b = b → a = b
  up : ∀ m, (∃ c ∈ M, c &&& m = c) ↔ ∀ p ∈ Q, ∃ k ∈ p, m.testBit k = true
section
variable {n : Nat} {P Q : List (List Nat)} {M : List Nat} {p : List Nat} {S : Store}
theorem Good.mask_lt (h : Good n P) {p : List Nat} (hp : p ∈ P) : mask p < bitN n := FWP.mask_lt (h.asc p hp) (h.lt p hp)
end
end FWP

namespace FWP
open PySem FW
section
variable {n : Nat} {P Q : List (List Nat)} {S : Store}
end
end FWP

namespace FWP
open PySem FW
section
variable {m s : Nat} {S : Store}
end
end FWP

namespace FWP
open PySem FW
section
variable {n k : Nat} {P Q : List (List Nat)} {M K : List Nat} {S : Store}
theorem Good.sub (h : Good n P) (hs : Q.Sublist P) : Good n Q :=
  ⟨h.n1, h.n8, fun p hp => h.asc p (hs.subset hp), fun p hp => h.lt p (hs.subset hp), h.srt.sublist hs, fun p hp q hq => h.anti p (hs.subset hp) q (hs.subset hq)⟩
end
end FWP

namespace FWP
open PySem FW
theorem bg_rv {gs} {q : Rat} {ρ : Slots} : bindG (.tup gs) (rv q) ρ = bindGs gs [.int q.num, .int q.den] ρ := rfl
theorem rv_fold {q : Rat} : PV.tup [.int q.num, .int (q.den : Int)] = rv q := rfl
theorem rv_compl {q : Rat} : PV.tup [.int ((q.den : Int) - q.num), .int (q.den : Int)] = rv (1 - q) := (one_sub q).symm
instance : Enc 1 rv := ⟨eqv_rv, fun _ => rfl, fun _ => rfl⟩
theorem sumR_cons {q : Rat} {L : List Rat} : sumR (q :: L) = q + sumR L := rfl
theorem sumR_append : ∀ (L M : List Rat), sumR (L ++ M) = sumR L + sumR M
  | [], M => by show sumR M = 0 + sumR M; grind
  | q :: L, M => by show q + sumR (L ++ M) = q + sumR L + sumR M; rw [sumR_append L M]; grind
section
variable {α : Type}
theorem sumR_add (f g : α → Rat) : ∀ l : List α, sumR (l.map fun a => f a + g a) = sumR (l.map f) + sumR (l.map g)
  | [] => by show (0 : Rat) = 0 + 0; grind
  | a :: l => by show f a + g a + _ = f a + _ + (g a + _); rw [sumR_add f g l]; grind
theorem sumR_mul (c : Rat) (f : α → Rat) : ∀ l : List α, sumR (l.map fun a => c * f a) = c * sumR (l.map f)
  | [] => by show (0 : Rat) = c * 0; grind
  | a :: l => by show c * f a + _ = c * (f a + _); rw [sumR_mul c f l]; grind
theorem sumR_le {f g : α → Rat} : ∀ {l : List α}, (∀ a ∈ l, f a ≤ g a) → sumR (l.map f) ≤ sumR (l.map g)
  | [], _ => Rat.le_refl
  | a :: l, h => by
    show f a + sumR (l.map f) ≤ g a + sumR (l.map g)
    have h1 := h a List.mem_cons_self
    have h2 := sumR_le (f := f) (g := g) (l := l) fun b hb => h b (List.mem_cons_of_mem _ hb)
    grind
theorem sumR_congr {f g : α → Rat} {l : List α} (h : ∀ a ∈ l, f a = g a) : sumR (l.map f) = sumR (l.map g) := by rw [List.map_congr_left h]
theorem sumR_filter (p : α → Bool) (f : α → Rat) : ∀ l : List α, sumR ((l.filter p).map f) = sumR (l.map fun a => if p a = true then f a else 0)
  | [] => rfl
  | a :: l => by
    have ih := sumR_filter p f l
    cases h : p a
    · rw [List.filter_cons_of_neg (by simp [h])]
      show _ = (if p a = true then f a else 0) + sumR (l.map _)
      rw [ih, h, if_neg (by decide)]
      grind
    · rw [List.filter_cons_of_pos h]
      show f a + _ = (if p a = true then f a else 0) + sumR (l.map _)
      rw [ih, h, if_pos rfl]
theorem sumR_nn {L : List Rat} (h : ∀ q ∈ L, 0 ≤ q) : 0 ≤ sumR L := by
  induction L with
  | nil => exact Rat.le_refl
  | cons q L ih =>
    have h1 := h q List.mem_cons_self
    have h2 := ih fun r hr => h r (List.mem_cons_of_mem _ hr)
    show 0 ≤ q + sumR L
    grind
theorem sumR_sub {L M : List Rat} (h : ∀ q ∈ L ++ M, 0 ≤ q) : sumR L ≤ sumR (L ++ M) := by
  have := sumR_nn (L := M) fun q hq => h q (List.mem_append_right _ hq)
  rw [sumR_append]
  grind
theorem Cm.sumR {D : Int} {L : List Rat} (h : ∀ q ∈ L, Cm D q) : Cm D (sumR L) := by
  induction L with
  | nil => exact Cm.zero
  | cons q L ih => exact (h q List.mem_cons_self).add (ih fun r hr => h r (List.mem_cons_of_mem _ hr))
end
structure Ch (D : Nat) (q : Rat) : Prop where
  cm : Cm (D : Int) q
  nn : 0 ≤ q
  le : q ≤ 1
section
variable {D E : Nat} {q r : Rat}
theorem Ch.bd {k : Nat} (h : Ch D q) (h0 : 0 < D) (hk : 2 * D < 2 ^ k) : Bd k q := h.cm.bd (M := 1) (by omega) h.nn h.le (by simpa using hk)
theorem Ch.one : Ch D 1 := ⟨Cm.one, by decide, Rat.le_refl⟩
theorem Ch.zero : Ch D 0 := ⟨Cm.zero, Rat.le_refl, by decide⟩
theorem Ch.mul (h : Ch D q) (h' : Ch E r) : Ch (D * E) (q * r) := by
  refine ⟨?_, ?_, ?_⟩
  · have := h.cm.mul h'.cm
    rwa [← Int.natCast_mul] at this
  · exact Rat.mul_nonneg h.nn h'.nn
  · have h1 := Rat.mul_le_mul_of_nonneg_right h.le h'.nn
    have h2 := h'.le
    grind
theorem Ch.compl (h : Ch D q) : Ch D (1 - q) := ⟨Cm.one.sub h.cm, by have := h.le; grind, by have := h.nn; grind⟩
theorem Ch.up (h : Ch D q) (E : Nat) : Ch (D * E) q := ⟨by have := h.cm.up (E : Int); rwa [← Int.natCast_mul] at this, h.nn, h.le⟩
theorem Ch.pick {b : Bool} (h : Ch D q) : Ch D (if b = true then q else 1 - q) := by
  cases b
  · exact h.compl
  · exact h
end
def pwF (a : Rat) (cb : Rat × Bool) : Rat := a * (if cb.2 = true then cb.1 else 1 - cb.1)
def pw (cs : List Rat) (st : List Bool) : Rat := (cs.zip st).foldl pwF 1
theorem pw_snoc {cs : List Rat} {st : List Bool} {c : Rat} {b : Bool} (h : cs.length = st.length) : pw (cs ++ [c]) (st ++ [b]) = pw cs st * (if b = true then c else 1 - c) := by
  unfold pw
  rw [List.zip_append h, List.foldl_append]
  rfl
theorem snoc_of {α : Type} {l : List α} {n : Nat} (h : l.length = n + 1) : ∃ (i : List α) (a : α), l = i ++ [a] ∧ i.length = n := by
  have hne : l ≠ [] := fun e => by subst e; simp at h
  refine ⟨l.dropLast, l.getLast hne, (List.dropLast_concat_getLast hne).symm, by simp [h]⟩
theorem pw_ch {D : Nat} : ∀ (n : Nat) {cs : List Rat} {st : List Bool}, cs.length = n → st.length = n → (∀ c ∈ cs, Ch D c) → Ch (D ^ n) (pw cs st)
  | 0, cs, st, h1, h2, _ => by
    obtain rfl := List.eq_nil_of_length_eq_zero h1
    exact Ch.one
  | n + 1, cs, st, h1, h2, h => by
    obtain ⟨cs, c, rfl, g1⟩ := snoc_of h1
    obtain ⟨st, b, rfl, g2⟩ := snoc_of h2
    rw [pw_snoc (g1.trans g2.symm), Nat.pow_succ]
    exact (pw_ch n g1 g2 fun d hd => h d (List.mem_append_left _ hd)).mul (h c (by simp)).pick
def Ex (cs : List Rat) (f : List Bool → Rat) : Rat := sumR ((lawStates cs.length).map fun st => pw cs st * f st)
theorem Ex_nil (f : List Bool → Rat) : Ex [] f = f [] := by
  show (1 : Rat) * f [] + 0 = f []
  grind
theorem Ex_snoc {cs : List Rat} {c : Rat} (f : List Bool → Rat) : Ex (cs ++ [c]) f = Ex cs fun st => (1 - c) * f (st ++ [false]) + c * f (st ++ [true]) := by
  unfold Ex
  rw [show (cs ++ [c]).length = cs.length + 1 by simp, lawStates_succ, List.map_append, List.map_map, List.map_map, sumR_append, ← sumR_add]
  refine sumR_congr fun st hst => ?_
  have hl := (lawStates_mem hst).symm
  show pw (cs ++ [c]) (st ++ [false]) * f (st ++ [false]) + pw (cs ++ [c]) (st ++ [true]) * f (st ++ [true]) = _
  rw [pw_snoc hl, pw_snoc hl, if_neg (by decide), if_pos rfl]
  grind
theorem Ex_congr {cs : List Rat} {f g : List Bool → Rat} (h : ∀ st ∈ lawStates cs.length, f st = g st) : Ex cs f = Ex cs g := sumR_congr fun st hst => by rw [h st hst]
theorem Ex_add {cs : List Rat} {f g : List Bool → Rat} : Ex cs (fun st => f st + g st) = Ex cs f + Ex cs g := by
  unfold Ex
  rw [← sumR_add]
  exact sumR_congr fun st _ => by grind
theorem Ex_mul {cs : List Rat} {c : Rat} {f : List Bool → Rat} : Ex cs (fun st => c * f st) = c * Ex cs f := by
  unfold Ex
  rw [← sumR_mul]
  exact sumR_congr fun st _ => by grind
theorem Ex_one : ∀ (n : Nat) {cs : List Rat}, cs.length = n → Ex cs (fun _ => 1) = 1
  | 0, cs, h => by
    obtain rfl := List.eq_nil_of_length_eq_zero h
    exact Ex_nil _
  | n + 1, cs, h => by
    obtain ⟨cs, c, rfl, g1⟩ := snoc_of h
    rw [Ex_snoc, Ex_congr (g := fun _ => 1) fun st _ => by grind]
    exact Ex_one n g1
abbrev CsOk (D : Nat) (cs : List Rat) : Prop := ∀ c ∈ cs, Ch D c
theorem Ex_le {D : Nat} {cs : List Rat} {f g : List Bool → Rat} (hc : CsOk D cs) (h : ∀ st ∈ lawStates cs.length, f st ≤ g st) : Ex cs f ≤ Ex cs g := sumR_le fun st hst => by
  have := (pw_ch cs.length rfl (lawStates_mem hst) hc).nn
  exact Rat.mul_le_mul_of_nonneg_left (h st hst) this
theorem ith_snoc {st : List Bool} {b : Bool} {k : Nat} : ith (st ++ [b]) k = if k < st.length then ith st k else (if k = st.length then b else false) := by
  unfold ith
  rw [List.getD_eq_getElem?_getD, List.getD_eq_getElem?_getD]
  by_cases h : k < st.length
  · rw [if_pos h, List.getElem?_append_left h]
  · rw [if_neg h, List.getElem?_append_right (by omega)]
    by_cases h2 : k = st.length
    · subst h2; simp
    · rw [if_neg h2, List.getElem?_eq_none (by simp; omega)]
      rfl
def prL (cs : List Rat) (p : List Bool → Bool) : List Rat := ((lawStates cs.length).filter p).map (pw cs)
def prob (cs : List Rat) (p : List Bool → Bool) : Rat := sumR (prL cs p)
abbrev b2r (b : Bool) : Rat := if b = true then 1 else 0
theorem prob_Ex (cs : List Rat) (p : List Bool → Bool) : prob cs p = Ex cs fun st => b2r (p st) := by
  unfold prob prL Ex
  rw [sumR_filter]
  refine sumR_congr fun st _ => ?_
  show _ = pw cs st * b2r (p st)
  cases p st
  · show (0 : Rat) = pw cs st * 0; grind
  · show pw cs st = pw cs st * 1; grind
section
variable {D n : Nat} {cs : List Rat} {p : List Bool → Bool} {S : Store}
theorem prL_ch (hc : CsOk D cs) : ∀ q ∈ prL cs p, Ch (D ^ cs.length) q := by
  intro q hq
  obtain ⟨st, hst, rfl⟩ := List.mem_map.mp hq
  exact pw_ch cs.length rfl (lawStates_mem (List.mem_filter.mp hst).1) hc
theorem prob_le (hc : CsOk D cs) : prob cs p ≤ 1 := by
  rw [prob_Ex, ← Ex_one cs.length (cs := cs) rfl]
  exact Ex_le hc fun st _ => by cases p st <;> decide
theorem prob_pre (hc : CsOk D cs) {a b : List Rat} (h : prL cs p = a ++ b) : Ch (D ^ cs.length) (sumR a) := by
  have hm : ∀ q ∈ a ++ b, Ch (D ^ cs.length) q := fun q hq => prL_ch hc q (h ▸ hq)
  refine ⟨Cm.sumR fun q hq => (hm q (List.mem_append_left _ hq)).cm, sumR_nn fun q hq => (hm q (List.mem_append_left _ hq)).nn, ?_⟩
  refine Rat.le_trans (sumR_sub fun q hq => (hm q hq).nn) ?_
  rw [← h]
  exact prob_le hc
theorem prob_ch (hc : CsOk D cs) : Ch (D ^ cs.length) (prob cs p) := prob_pre (b := []) hc (by simp; rfl)
theorem F_plus_bd {q r : Rat} (hq : Bd 5000 q) (hr : Bd 5000 r) : F_plus [.v (rv q), .v (rv r)] S = .ok (.v (rv (q + r))) S := F_plus_eq hq hr (by decide)
abbrev b_tot : CB := .cons (.set 1 (.call 0 (.cons (.var 1) (.cons (.var 2) .nil)))) .nil
theorem tot_loop {w0 : Option SV} : ∀ (b a : List Rat), (∀ q ∈ b, Bd 5000 q) → (∀ x y, b = x ++ y → Bd 5000 (sumR (a ++ x))) → ∀ w2, ∃ w2', forL (turnF [("plus", F_plus)] (.name 2) b_tot) [] (b.map rv) [w0, some (.v (rv (sumR a))), w2] S = .ok (.next [w0, some (.v (rv (sumR (a ++ b)))), w2']) S
  | [], a, _, _, w2 => ⟨w2, by rw [List.append_nil]; rfl⟩
  | q :: b, a, h1, h2, w2 => by
    have e := fun S => F_plus_bd (S := S) (q := sumR a) (r := q) (by have := h2 [] (q :: b) rfl; rwa [List.append_nil] at this) (h1 q List.mem_cons_self)
    rw [← sumR_snoc] at e
    obtain ⟨w2', ih⟩ := tot_loop (w0 := w0) b (a ++ [q]) (fun r hr => h1 r (List.mem_cons_of_mem _ hr)) (fun x y hxy => by
      have := h2 (q :: x) y (by rw [hxy]; rfl)
      rwa [List.append_assoc]) (some (.v (rv q)))
    refine ⟨w2', ?_⟩
    rw [List.append_assoc] at ih
    show (turnF [("plus", F_plus)] (.name 2) b_tot (rv q) _ S).bind _ = _
    have : turnF [("plus", F_plus)] (.name 2) b_tot (rv q) [w0, some (.v (rv (sumR a))), w2] S = .ok (.next [w0, some (.v (rv (sumR (a ++ [q])))), some (.v (rv q))]) S := by
      ((simp -implicitDefEqProofs -dsimp (disch := (first | with_reducible assumption | exact Mem.out (by assumption) | (((try simp only [List.length_map, List.length_range, List.length_append, List.length_cons, List.length_nil, List.length_tail, List.length_zip, List.length_reverse, List.length_take, List.length_drop, List.length_set, List.length_replicate, List.length_zipIdx, line]) <;> first | omega | (first | exact Mem.out (by assumption) | (with_reducible show (_ : Nat) < _; solve_by_elim (maxDepth := 4) [Mem.out]) | (with_reducible show (_ : Nat) ≤ _; solve_by_elim (maxDepth := 4) [Mem.out]) | (with_reducible show _ ∈ _; solve_by_elim (maxDepth := 4) [Mem.out]) | fail) | (refine Nat.le_trans (List.length_filter_le _ _) ?_; (try simp only [List.length_map, List.length_range, List.length_append, List.length_cons, List.length_nil]) <;> first | omega | (first | exact Mem.out (by assumption) | (with_reducible show (_ : Nat) < _; solve_by_elim (maxDepth := 4) [Mem.out]) | (with_reducible show (_ : Nat) ≤ _; solve_by_elim (maxDepth := 4) [Mem.out]) | (with_reducible show _ ∈ _; solve_by_elim (maxDepth := 4) [Mem.out]) | fail) | fail) | fail)) | fail)) [↓v_var, ↓v_k, ↓v_glob, ↓v_tup, ↓v_list, ↓v_bin, ↓v_neg, ↓t_nt, ↓v_nt, ↓v_and, ↓t_and, ↓v_or, ↓t_or, ↓v_and1, ↓t_and1, ↓v_or1, ↓t_or1, ↓v_and2, ↓t_and2, ↓v_or2, ↓t_or2, ↓t_cmp, ↓v_cmp, ↓t_chain, ↓v_chain, ↓v_ite, ↓t_ite, ↓v_call, ↓v_fnv, ↓v_callv, ↓v_index, ↓v_indexG, ↓v_bi, ↓v_isi, ↓v_idx, ↓v_slc, ↓v_comp, ↓v_comp2, ↓v_dic0, ↓v_get, ↓v_rev, ↓v_dcomp, ↓cTurnD_eq, pairO_v, ↓v_dicd, dispK_eq, pu_nil, pu_cons, keyOk_int, keyOk_str, mkD_ok, ↓compDT_map, compGD_all, ↓qs_pop, ↓qs_augsub, ↓qs_parG, fnM_eq, endM_ret, endM_ite, leaveM_v, nw_leaveM, nw_rev, rev_l, nw_old, asub_eq, nw_put, w2a_lst, w2b_lst, w2a_isl, w2b_isl, w2a_set, w2b_set, w2a_tup, w2b_tup, w2a_len, w2b_len, w2a_idx, w2b_idx, optC_some, optC_none, ↓t_var, ↓t_k, ↓t_call, ↓t_callv, ↓t_idx, ↓t_isi, ↓t_bin, ↓t_bi, ↓l_nil, ↓l_cons, ↓qi_seq, ↓qi_rng1, ↓qi_rng2, ↓i_rng3, ↓qi_zip, ↓qi_enum, ↓okK_v, ↓cTurn_eq, ↓cTurn2_eq, -seqOp, sq_tup, sq_lst, -zipOp, zp_tup, zp_lst, -enumOp, en_lst, -idxOp, idx_tup, idx_lst, idx_l, at_map, at_map0, at_map1, at_mapl, at_0, at_1, at_2, -cmpOp, -isNonS, cm_is, cm_isnot, cm_isb, ns_non, ns_bl, ns_int, ns_tup, ns_lst, ns_l, cm_eqv, cm_nev, cm_eqlv, cm_nelv, cm_lt, cm_le, cm_gt, cm_ge, cm_in_t, cm_in_l, cm_nin_t, cm_nin_l, cm_in_p, cm_nin_p, -binOp, bo_ii, bo_ib, bo_tt, bo_ll, bo_pl, bo_tm, bo_lm, -negOp, ng_i, -isTys, it_of, oo_some, -biOp, qbi_len, qbi_int, qbi_abs, qbi_sum, qbi_tuple, qbi_list, qbi_sorted, bi_sset, bi_skey, bi_lset, qbi_min1, qbi_max1, qbi_min2, qbi_max2, bi_lr1, bi_tr1, -bLen, ln_t, ln_l, ln_p, -bInt, in_i, in_b, -bAbs, ab_i, -bSum, sm_t, sm_l, -bTuple, tp_t, tp_l, tp_p, -bList, ls_t, ls_l, ls_p, lr_n, -slcOp, sl_t, sl_l, -part?, pt_n, pt_i, -intOnly, io_i, -augOp, au_add, au_sub, -putOp, -isNonC, nnc_non, nnc_int, nnc_var, nnc_bin, nnc_bi, nnc_neg, nnc_idx, -leave, leave_l, take_app, take_self, nw_lst, nw_isl, nw_set, nw_tup, nw_len, nw_idx, nw_leave, nw_add, nw_eq, nw_ne, cut_ton, cut_fromn, -getS, gs_some, gs_none, gs_succ, -bindG, -bindGs, -wipeS, -pures?, -setAll, bg_name, bg_tup, bg_lst, bgs_nil, bgs_cons, wp_nil, wp_cons, pr_nil, pr_cons, sa_nil, sa_cons, ↓seqK_next, ↓seqK_ret, ↓seqK_brk, ↓seqK_cnt, ↓b_nil, ↓b_cons, ↓qs_set, ↓qs_unpack, ↓qs_par, ↓qs_sub, ↓s_aug, ↓qs_app, appIf_ok, ↓qs_expr, ↓s_ifs, ↓qs_ret, ↓qs_retN, ↓qs_brk, ↓qs_cnt, ↓turnF_eq, ↓s_forr, ↓s_whil, ↓qs_freeze, ↓frzO_some, ↓frzO_none, ↓frz_l, ↓frz_v, ↓bd_ok, ↓bd_exc, ↓bd_bad, ↓compLT_nil, ↓compLLT_nil, ↓optB_none, ↓optB_some, ↓truK_eq, ↓blK_eq, ↓tupK_eq, ↓lstK_eq, ↓callG_eq, ↓partO_eq, ↓svP_v, ↓svL_l, ↓endK_ret, ↓endK_next, ↓endK_ite, ↓fn_eq, startB_eq, -fnSem, leave_v, ↓compLT_map, ↓compLLT_map, compG_all, compG_none, compG_some, compG_two, compG_3, ite_int, compGG_all, ↓bd_ite, ite_both, -ite_not, -Classical.ite_not, -List.map_set, ite_okb, -intOp, op_shl, op_shln, op_shr, op_bit, op_and, op_or, op_xor, op_add, op_sub, -mkL, mkL_f, mkL_t, -mkT, mkT_ok, zip_map, enum_map, rng1_n, rng1_i, rng2_n, -rng1Op, -rng2Op, ints_mapf, sumI_map, -ix?, ix_n, ix_n1, ix_i0, ix_i1, ix_i2, eqP_nilL, noFns_map, bit_1, bit_0, -getElem?_pos, -getElem?_neg, get_ith, ith_zero, ith_succ, ith_map, nn, bitV, eqP_tups, eqP_lsts, eqP_enc, anyEq_enc, anyEq_int, anyEq_sets, List.isEmpty_iff, List.filter_eq_nil_iff, cast_inj, setV, pathsV, sysV, stV, e]))
    rw [this, Out.bind_ok]
    exact ih
theorem F_total_eq {R : List Rat} {V : PV} (hV : V = .tup (R.map rv) ∨ V = .lst (R.map rv)) (h1 : ∀ q ∈ R, Bd 5000 q) (h2 : ∀ a b, R = a ++ b → Bd 5000 (sumR a)) : F_total_of [.v V] S = .ok (.v (rv (sumR R))) S := by
  obtain ⟨w2, e⟩ := tot_loop (S := S) (w0 := some (.v V)) R [] h1 h2 none
  have e' : forL (turnF [("plus", F_plus)] (.name 2) b_tot) [] (R.map rv) [some (.v V), some (.v (.tup [.int 0, .int 1])), none] S = .ok (.next [some (.v V), some (.v (rv (sumR R))), w2]) S := e
  rcases hV with rfl | rfl
  · ((simp -implicitDefEqProofs -dsimp (disch := (first | with_reducible assumption | exact Mem.out (by assumption) | (((try simp only [List.length_map, List.length_range, List.length_append, List.length_cons, List.length_nil, List.length_tail, List.length_zip, List.length_reverse, List.length_take, List.length_drop, List.length_set, List.length_replicate, List.length_zipIdx, line]) <;> first | omega | (first | exact Mem.out (by assumption) | (with_reducible show (_ : Nat) < _; solve_by_elim (maxDepth := 4) [Mem.out]) | (with_reducible show (_ : Nat) ≤ _; solve_by_elim (maxDepth := 4) [Mem.out]) | (with_reducible show _ ∈ _; solve_by_elim (maxDepth := 4) [Mem.out]) | fail) | (refine Nat.le_trans (List.length_filter_le _ _) ?_; (try simp only [List.length_map, List.length_range, List.length_append, List.length_cons, List.length_nil]) <;> first | omega | (first | exact Mem.out (by assumption) | (with_reducible show (_ : Nat) < _; solve_by_elim (maxDepth := 4) [Mem.out]) | (with_reducible show (_ : Nat) ≤ _; solve_by_elim (maxDepth := 4) [Mem.out]) | (with_reducible show _ ∈ _; solve_by_elim (maxDepth := 4) [Mem.out]) | fail) | fail) | fail)) | fail)) [↓v_var, ↓v_k, ↓v_glob, ↓v_tup, ↓v_list, ↓v_bin, ↓v_neg, ↓t_nt, ↓v_nt, ↓v_and, ↓t_and, ↓v_or, ↓t_or, ↓v_and1, ↓t_and1, ↓v_or1, ↓t_or1, ↓v_and2, ↓t_and2, ↓v_or2, ↓t_or2, ↓t_cmp, ↓v_cmp, ↓t_chain, ↓v_chain, ↓v_ite, ↓t_ite, ↓v_call, ↓v_fnv, ↓v_callv, ↓v_index, ↓v_indexG, ↓v_bi, ↓v_isi, ↓v_idx, ↓v_slc, ↓v_comp, ↓v_comp2, ↓v_dic0, ↓v_get, ↓v_rev, ↓v_dcomp, ↓cTurnD_eq, pairO_v, ↓v_dicd, dispK_eq, pu_nil, pu_cons, keyOk_int, keyOk_str, mkD_ok, ↓compDT_map, compGD_all, ↓qs_pop, ↓qs_augsub, ↓qs_parG, fnM_eq, endM_ret, endM_ite, leaveM_v, nw_leaveM, nw_rev, rev_l, nw_old, asub_eq, nw_put, w2a_lst, w2b_lst, w2a_isl, w2b_isl, w2a_set, w2b_set, w2a_tup, w2b_tup, w2a_len, w2b_len, w2a_idx, w2b_idx, optC_some, optC_none, ↓t_var, ↓t_k, ↓t_call, ↓t_callv, ↓t_idx, ↓t_isi, ↓t_bin, ↓t_bi, ↓l_nil, ↓l_cons, ↓qi_seq, ↓qi_rng1, ↓qi_rng2, ↓i_rng3, ↓qi_zip, ↓qi_enum, ↓okK_v, ↓cTurn_eq, ↓cTurn2_eq, -seqOp, sq_tup, sq_lst, -zipOp, zp_tup, zp_lst, -enumOp, en_lst, -idxOp, idx_tup, idx_lst, idx_l, at_map, at_map0, at_map1, at_mapl, at_0, at_1, at_2, -cmpOp, -isNonS, cm_is, cm_isnot, cm_isb, ns_non, ns_bl, ns_int, ns_tup, ns_lst, ns_l, cm_eqv, cm_nev, cm_eqlv, cm_nelv, cm_lt, cm_le, cm_gt, cm_ge, cm_in_t, cm_in_l, cm_nin_t, cm_nin_l, cm_in_p, cm_nin_p, -binOp, bo_ii, bo_ib, bo_tt, bo_ll, bo_pl, bo_tm, bo_lm, -negOp, ng_i, -isTys, it_of, oo_some, -biOp, qbi_len, qbi_int, qbi_abs, qbi_sum, qbi_tuple, qbi_list, qbi_sorted, bi_sset, bi_skey, bi_lset, qbi_min1, qbi_max1, qbi_min2, qbi_max2, bi_lr1, bi_tr1, -bLen, ln_t, ln_l, ln_p, -bInt, in_i, in_b, -bAbs, ab_i, -bSum, sm_t, sm_l, -bTuple, tp_t, tp_l, tp_p, -bList, ls_t, ls_l, ls_p, lr_n, -slcOp, sl_t, sl_l, -part?, pt_n, pt_i, -intOnly, io_i, -augOp, au_add, au_sub, -putOp, -isNonC, nnc_non, nnc_int, nnc_var, nnc_bin, nnc_bi, nnc_neg, nnc_idx, -leave, leave_l, take_app, take_self, nw_lst, nw_isl, nw_set, nw_tup, nw_len, nw_idx, nw_leave, nw_add, nw_eq, nw_ne, cut_ton, cut_fromn, -getS, gs_some, gs_none, gs_succ, -bindG, -bindGs, -wipeS, -pures?, -setAll, bg_name, bg_tup, bg_lst, bgs_nil, bgs_cons, wp_nil, wp_cons, pr_nil, pr_cons, sa_nil, sa_cons, ↓seqK_next, ↓seqK_ret, ↓seqK_brk, ↓seqK_cnt, ↓b_nil, ↓b_cons, ↓qs_set, ↓qs_unpack, ↓qs_par, ↓qs_sub, ↓s_aug, ↓qs_app, appIf_ok, ↓qs_expr, ↓s_ifs, ↓qs_ret, ↓qs_retN, ↓qs_brk, ↓qs_cnt, ↓turnF_eq, ↓s_forr, ↓s_whil, ↓qs_freeze, ↓frzO_some, ↓frzO_none, ↓frz_l, ↓frz_v, ↓bd_ok, ↓bd_exc, ↓bd_bad, ↓compLT_nil, ↓compLLT_nil, ↓optB_none, ↓optB_some, ↓truK_eq, ↓blK_eq, ↓tupK_eq, ↓lstK_eq, ↓callG_eq, ↓partO_eq, ↓svP_v, ↓svL_l, ↓endK_ret, ↓endK_next, ↓endK_ite, ↓fn_eq, startB_eq, -fnSem, leave_v, ↓compLT_map, ↓compLLT_map, compG_all, compG_none, compG_some, compG_two, compG_3, ite_int, compGG_all, ↓bd_ite, ite_both, -ite_not, -Classical.ite_not, -List.map_set, ite_okb, -intOp, op_shl, op_shln, op_shr, op_bit, op_and, op_or, op_xor, op_add, op_sub, -mkL, mkL_f, mkL_t, -mkT, mkT_ok, zip_map, enum_map, rng1_n, rng1_i, rng2_n, -rng1Op, -rng2Op, ints_mapf, sumI_map, -ix?, ix_n, ix_n1, ix_i0, ix_i1, ix_i2, eqP_nilL, noFns_map, bit_1, bit_0, -getElem?_pos, -getElem?_neg, get_ith, ith_zero, ith_succ, ith_map, nn, bitV, eqP_tups, eqP_lsts, eqP_enc, anyEq_enc, anyEq_int, anyEq_sets, List.isEmpty_iff, List.filter_eq_nil_iff, cast_inj, setV, pathsV, sysV, stV, F_total_of, d_total_of, e']))
  · ((simp -implicitDefEqProofs -dsimp (disch := (first | with_reducible assumption | exact Mem.out (by assumption) | (((try simp only [List.length_map, List.length_range, List.length_append, List.length_cons, List.length_nil, List.length_tail, List.length_zip, List.length_reverse, List.length_take, List.length_drop, List.length_set, List.length_replicate, List.length_zipIdx, line]) <;> first | omega | (first | exact Mem.out (by assumption) | (with_reducible show (_ : Nat) < _; solve_by_elim (maxDepth := 4) [Mem.out]) | (with_reducible show (_ : Nat) ≤ _; solve_by_elim (maxDepth := 4) [Mem.out]) | (with_reducible show _ ∈ _; solve_by_elim (maxDepth := 4) [Mem.out]) | fail) | (refine Nat.le_trans (List.length_filter_le _ _) ?_; (try simp only [List.length_map, List.length_range, List.length_append, List.length_cons, List.length_nil]) <;> first | omega | (first | exact Mem.out (by assumption) | (with_reducible show (_ : Nat) < _; solve_by_elim (maxDepth := 4) [Mem.out]) | (with_reducible show (_ : Nat) ≤ _; solve_by_elim (maxDepth := 4) [Mem.out]) | (with_reducible show _ ∈ _; solve_by_elim (maxDepth := 4) [Mem.out]) | fail) | fail) | fail)) | fail)) [↓v_var, ↓v_k, ↓v_glob, ↓v_tup, ↓v_list, ↓v_bin, ↓v_neg, ↓t_nt, ↓v_nt, ↓v_and, ↓t_and, ↓v_or, ↓t_or, ↓v_and1, ↓t_and1, ↓v_or1, ↓t_or1, ↓v_and2, ↓t_and2, ↓v_or2, ↓t_or2, ↓t_cmp, ↓v_cmp, ↓t_chain, ↓v_chain, ↓v_ite, ↓t_ite, ↓v_call, ↓v_fnv, ↓v_callv, ↓v_index, ↓v_indexG, ↓v_bi, ↓v_isi, ↓v_idx, ↓v_slc, ↓v_comp, ↓v_comp2, ↓v_dic0, ↓v_get, ↓v_rev, ↓v_dcomp, ↓cTurnD_eq, pairO_v, ↓v_dicd, dispK_eq, pu_nil, pu_cons, keyOk_int, keyOk_str, mkD_ok, ↓compDT_map, compGD_all, ↓qs_pop, ↓qs_augsub, ↓qs_parG, fnM_eq, endM_ret, endM_ite, leaveM_v, nw_leaveM, nw_rev, rev_l, nw_old, asub_eq, nw_put, w2a_lst, w2b_lst, w2a_isl, w2b_isl, w2a_set, w2b_set, w2a_tup, w2b_tup, w2a_len, w2b_len, w2a_idx, w2b_idx, optC_some, optC_none, ↓t_var, ↓t_k, ↓t_call, ↓t_callv, ↓t_idx, ↓t_isi, ↓t_bin, ↓t_bi, ↓l_nil, ↓l_cons, ↓qi_seq, ↓qi_rng1, ↓qi_rng2, ↓i_rng3, ↓qi_zip, ↓qi_enum, ↓okK_v, ↓cTurn_eq, ↓cTurn2_eq, -seqOp, sq_tup, sq_lst, -zipOp, zp_tup, zp_lst, -enumOp, en_lst, -idxOp, idx_tup, idx_lst, idx_l, at_map, at_map0, at_map1, at_mapl, at_0, at_1, at_2, -cmpOp, -isNonS, cm_is, cm_isnot, cm_isb, ns_non, ns_bl, ns_int, ns_tup, ns_lst, ns_l, cm_eqv, cm_nev, cm_eqlv, cm_nelv, cm_lt, cm_le, cm_gt, cm_ge, cm_in_t, cm_in_l, cm_nin_t, cm_nin_l, cm_in_p, cm_nin_p, -binOp, bo_ii, bo_ib, bo_tt, bo_ll, bo_pl, bo_tm, bo_lm, -negOp, ng_i, -isTys, it_of, oo_some, -biOp, qbi_len, qbi_int, qbi_abs, qbi_sum, qbi_tuple, qbi_list, qbi_sorted, bi_sset, bi_skey, bi_lset, qbi_min1, qbi_max1, qbi_min2, qbi_max2, bi_lr1, bi_tr1, -bLen, ln_t, ln_l, ln_p, -bInt, in_i, in_b, -bAbs, ab_i, -bSum, sm_t, sm_l, -bTuple, tp_t, tp_l, tp_p, -bList, ls_t, ls_l, ls_p, lr_n, -slcOp, sl_t, sl_l, -part?, pt_n, pt_i, -intOnly, io_i, -augOp, au_add, au_sub, -putOp, -isNonC, nnc_non, nnc_int, nnc_var, nnc_bin, nnc_bi, nnc_neg, nnc_idx, -leave, leave_l, take_app, take_self, nw_lst, nw_isl, nw_set, nw_tup, nw_len, nw_idx, nw_leave, nw_add, nw_eq, nw_ne, cut_ton, cut_fromn, -getS, gs_some, gs_none, gs_succ, -bindG, -bindGs, -wipeS, -pures?, -setAll, bg_name, bg_tup, bg_lst, bgs_nil, bgs_cons, wp_nil, wp_cons, pr_nil, pr_cons, sa_nil, sa_cons, ↓seqK_next, ↓seqK_ret, ↓seqK_brk, ↓seqK_cnt, ↓b_nil, ↓b_cons, ↓qs_set, ↓qs_unpack, ↓qs_par, ↓qs_sub, ↓s_aug, ↓qs_app, appIf_ok, ↓qs_expr, ↓s_ifs, ↓qs_ret, ↓qs_retN, ↓qs_brk, ↓qs_cnt, ↓turnF_eq, ↓s_forr, ↓s_whil, ↓qs_freeze, ↓frzO_some, ↓frzO_none, ↓frz_l, ↓frz_v, ↓bd_ok, ↓bd_exc, ↓bd_bad, ↓compLT_nil, ↓compLLT_nil, ↓optB_none, ↓optB_some, ↓truK_eq, ↓blK_eq, ↓tupK_eq, ↓lstK_eq, ↓callG_eq, ↓partO_eq, ↓svP_v, ↓svL_l, ↓endK_ret, ↓endK_next, ↓endK_ite, ↓fn_eq, startB_eq, -fnSem, leave_v, ↓compLT_map, ↓compLLT_map, compG_all, compG_none, compG_some, compG_two, compG_3, ite_int, compGG_all, ↓bd_ite, ite_both, -ite_not, -Classical.ite_not, -List.map_set, ite_okb, -intOp, op_shl, op_shln, op_shr, op_bit, op_and, op_or, op_xor, op_add, op_sub, -mkL, mkL_f, mkL_t, -mkT, mkT_ok, zip_map, enum_map, rng1_n, rng1_i, rng2_n, -rng1Op, -rng2Op, ints_mapf, sumI_map, -ix?, ix_n, ix_n1, ix_i0, ix_i1, ix_i2, eqP_nilL, noFns_map, bit_1, bit_0, -getElem?_pos, -getElem?_neg, get_ith, ith_zero, ith_succ, ith_map, nn, bitV, eqP_tups, eqP_lsts, eqP_enc, anyEq_enc, anyEq_int, anyEq_sets, List.isEmpty_iff, List.filter_eq_nil_iff, cast_inj, setV, pathsV, sysV, stV, F_total_of, d_total_of, e']))
end
end FWP

namespace FWP
open PySem FW
section
variable {D n p : Nat} {P : List (List Nat)} {cs : List Rat} {S S0 : Store}
theorem ratio_ch {j b : Nat} (hb : b = 2 ∨ b = 4 ∨ b = 10) (hj : j ≤ b) : Ch 20 (Rat.divInt j b) := by
  have hb0 : 0 < b := by omega
  have hz : ((b : Int) : Rat) ≠ 0 := by
    intro h
    have : (b : Int) = 0 := by exact_mod_cast h
    omega
  have e : Rat.divInt (j : Int) (b : Int) = ((j : Int) : Rat) / ((b : Int) : Rat) := Rat.divInt_eq_div ..
  have hp : (0 : Rat) < ((b : Int) : Rat) := by exact_mod_cast hb0
  have hjb : ((j : Int) : Rat) ≤ ((b : Int) : Rat) := by exact_mod_cast hj
  have hj0 : (0 : Rat) ≤ ((j : Int) : Rat) := by exact_mod_cast Nat.zero_le j
  have em : Rat.divInt (j : Int) (b : Int) * ((b : Int) : Rat) = ((j : Int) : Rat) := by rw [e]; grind
  refine ⟨?_, ?_, ?_⟩
  · obtain ⟨m, hm⟩ : ∃ m : Nat, b * m = 20 := by
      rcases hb with rfl | rfl | rfl
      · exact ⟨10, rfl⟩
      · exact ⟨5, rfl⟩
      · exact ⟨2, rfl⟩
    refine ⟨(j : Int) * m, ?_⟩
    have : (((20 : Nat) : Int) : Rat) = ((b : Int) : Rat) * ((m : Int) : Rat) := by
      rw [← Rat.intCast_mul]
      congr 1
      omega
    rw [this, ← Rat.mul_assoc, em, Rat.intCast_mul]
  · rw [e]
    exact div_nn hp hj0
  · rw [e]
    exact div_le_one hp hjb
theorem F_ratio_nat {j b : Nat} (hb : b = 2 ∨ b = 4 ∨ b = 10) (hj : j ≤ b) : F__law_ratio [.v (nn j), .v (nn b)] S = .ok (.v (rv (Rat.divInt j b))) S := by
  have h16 : (16 : Nat) < 2 ^ 13000 := by
    have : (2 : Nat) ^ 5 ≤ 2 ^ 13000 := Nat.pow_le_pow_right (by decide) (by decide)
    omega
  exact F_ratio_eq _ _ S (by omega) (by omega) (by omega)
theorem chances_spec (h : Dr p S0 S) (hS : S.length = S0.length) (h8 : n ≤ 8) : ∃ (cs : List Rat) (S' : Store), F__law_chances [.l p, .v (nn n)] S = .ok (.v (.tup (cs.map rv))) S' ∧ cs.length = n ∧ CsOk 20 cs ∧ Dr p S0 S' := by
  obtain ⟨z, S1, e1, hz, d1⟩ := pick_d (xs := [.int 2, .int 4, .int 10]) h (by decide) (by decide)
  obtain ⟨b, rfl, hb⟩ : ∃ b : Nat, z = nn b ∧ (b = 2 ∨ b = 4 ∨ b = 10) := by
    simp only [List.mem_cons, List.not_mem_nil, or_false] at hz
    rcases hz with rfl | rfl | rfl
    · exact ⟨2, rfl, by decide⟩
    · exact ⟨4, rfl, by decide⟩
    · exact ⟨10, rfl, by decide⟩
  obtain ⟨cs, S2, e2, hl, hc, d2⟩ := compL_gen (J := Dr p S0) (x := nn) (y := rv) (Q := Ch 20) (l := List.range n) (S := S1) (f := cTurn (bindG (.name 3)) (ev g__law_chances (.k (.bl true))).t (ev g__law_chances (.call 1 (.cons (.call 2 (.cons (.var 0) (.cons (.bin .add false (.var 2) (.k (.int 1))) .nil))) (.cons (.var 2) .nil)))).v (wipeS [some (.l p), some (.v (nn n)), some (.v (nn b)), none] [3])) d1 fun k hk S hS => by
    obtain ⟨j, S', e, hj, hd⟩ := taken_d (m := (b : Int) + 1) hS (by omega) (by omega)
    have e' := fun S => F_ratio_nat (S := S) hb (show j ≤ b by omega)
    refine ⟨Rat.divInt j b, S', ?_, ratio_ch hb (by omega), hd⟩
    ((simp -implicitDefEqProofs -dsimp (disch := (first | with_reducible assumption | exact Mem.out (by assumption) | (((try simp only [List.length_map, List.length_range, List.length_append, List.length_cons, List.length_nil, List.length_tail, List.length_zip, List.length_reverse, List.length_take, List.length_drop, List.length_set, List.length_replicate, List.length_zipIdx, line]) <;> first | omega | (first | exact Mem.out (by assumption) | (with_reducible show (_ : Nat) < _; solve_by_elim (maxDepth := 4) [Mem.out]) | (with_reducible show (_ : Nat) ≤ _; solve_by_elim (maxDepth := 4) [Mem.out]) | (with_reducible show _ ∈ _; solve_by_elim (maxDepth := 4) [Mem.out]) | fail) | (refine Nat.le_trans (List.length_filter_le _ _) ?_; (try simp only [List.length_map, List.length_range, List.length_append, List.length_cons, List.length_nil]) <;> first | omega | (first | exact Mem.out (by assumption) | (with_reducible show (_ : Nat) < _; solve_by_elim (maxDepth := 4) [Mem.out]) | (with_reducible show (_ : Nat) ≤ _; solve_by_elim (maxDepth := 4) [Mem.out]) | (with_reducible show _ ∈ _; solve_by_elim (maxDepth := 4) [Mem.out]) | fail) | fail) | fail)) | fail)) [↓v_var, ↓v_k, ↓v_glob, ↓v_tup, ↓v_list, ↓v_bin, ↓v_neg, ↓t_nt, ↓v_nt, ↓v_and, ↓t_and, ↓v_or, ↓t_or, ↓v_and1, ↓t_and1, ↓v_or1, ↓t_or1, ↓v_and2, ↓t_and2, ↓v_or2, ↓t_or2, ↓t_cmp, ↓v_cmp, ↓t_chain, ↓v_chain, ↓v_ite, ↓t_ite, ↓v_call, ↓v_fnv, ↓v_callv, ↓v_index, ↓v_indexG, ↓v_bi, ↓v_isi, ↓v_idx, ↓v_slc, ↓v_comp, ↓v_comp2, ↓v_dic0, ↓v_get, ↓v_rev, ↓v_dcomp, ↓cTurnD_eq, pairO_v, ↓v_dicd, dispK_eq, pu_nil, pu_cons, keyOk_int, keyOk_str, mkD_ok, ↓compDT_map, compGD_all, ↓qs_pop, ↓qs_augsub, ↓qs_parG, fnM_eq, endM_ret, endM_ite, leaveM_v, nw_leaveM, nw_rev, rev_l, nw_old, asub_eq, nw_put, w2a_lst, w2b_lst, w2a_isl, w2b_isl, w2a_set, w2b_set, w2a_tup, w2b_tup, w2a_len, w2b_len, w2a_idx, w2b_idx, optC_some, optC_none, ↓t_var, ↓t_k, ↓t_call, ↓t_callv, ↓t_idx, ↓t_isi, ↓t_bin, ↓t_bi, ↓l_nil, ↓l_cons, ↓qi_seq, ↓qi_rng1, ↓qi_rng2, ↓i_rng3, ↓qi_zip, ↓qi_enum, ↓okK_v, ↓cTurn_eq, ↓cTurn2_eq, -seqOp, sq_tup, sq_lst, -zipOp, zp_tup, zp_lst, -enumOp, en_lst, -idxOp, idx_tup, idx_lst, idx_l, at_map, at_map0, at_map1, at_mapl, at_0, at_1, at_2, -cmpOp, -isNonS, cm_is, cm_isnot, cm_isb, ns_non, ns_bl, ns_int, ns_tup, ns_lst, ns_l, cm_eqv, cm_nev, cm_eqlv, cm_nelv, cm_lt, cm_le, cm_gt, cm_ge, cm_in_t, cm_in_l, cm_nin_t, cm_nin_l, cm_in_p, cm_nin_p, -binOp, bo_ii, bo_ib, bo_tt, bo_ll, bo_pl, bo_tm, bo_lm, -negOp, ng_i, -isTys, it_of, oo_some, -biOp, qbi_len, qbi_int, qbi_abs, qbi_sum, qbi_tuple, qbi_list, qbi_sorted, bi_sset, bi_skey, bi_lset, qbi_min1, qbi_max1, qbi_min2, qbi_max2, bi_lr1, bi_tr1, -bLen, ln_t, ln_l, ln_p, -bInt, in_i, in_b, -bAbs, ab_i, -bSum, sm_t, sm_l, -bTuple, tp_t, tp_l, tp_p, -bList, ls_t, ls_l, ls_p, lr_n, -slcOp, sl_t, sl_l, -part?, pt_n, pt_i, -intOnly, io_i, -augOp, au_add, au_sub, -putOp, -isNonC, nnc_non, nnc_int, nnc_var, nnc_bin, nnc_bi, nnc_neg, nnc_idx, -leave, leave_l, take_app, take_self, nw_lst, nw_isl, nw_set, nw_tup, nw_len, nw_idx, nw_leave, nw_add, nw_eq, nw_ne, cut_ton, cut_fromn, -getS, gs_some, gs_none, gs_succ, -bindG, -bindGs, -wipeS, -pures?, -setAll, bg_name, bg_tup, bg_lst, bgs_nil, bgs_cons, wp_nil, wp_cons, pr_nil, pr_cons, sa_nil, sa_cons, ↓seqK_next, ↓seqK_ret, ↓seqK_brk, ↓seqK_cnt, ↓b_nil, ↓b_cons, ↓qs_set, ↓qs_unpack, ↓qs_par, ↓qs_sub, ↓s_aug, ↓qs_app, appIf_ok, ↓qs_expr, ↓s_ifs, ↓qs_ret, ↓qs_retN, ↓qs_brk, ↓qs_cnt, ↓turnF_eq, ↓s_forr, ↓s_whil, ↓qs_freeze, ↓frzO_some, ↓frzO_none, ↓frz_l, ↓frz_v, ↓bd_ok, ↓bd_exc, ↓bd_bad, ↓compLT_nil, ↓compLLT_nil, ↓optB_none, ↓optB_some, ↓truK_eq, ↓blK_eq, ↓tupK_eq, ↓lstK_eq, ↓callG_eq, ↓partO_eq, ↓svP_v, ↓svL_l, ↓endK_ret, ↓endK_next, ↓endK_ite, ↓fn_eq, startB_eq, -fnSem, leave_v, ↓compLT_map, ↓compLLT_map, compG_all, compG_none, compG_some, compG_two, compG_3, ite_int, compGG_all, ↓bd_ite, ite_both, -ite_not, -Classical.ite_not, -List.map_set, ite_okb, -intOp, op_shl, op_shln, op_shr, op_bit, op_and, op_or, op_xor, op_add, op_sub, -mkL, mkL_f, mkL_t, -mkT, mkT_ok, zip_map, enum_map, rng1_n, rng1_i, rng2_n, -rng1Op, -rng2Op, ints_mapf, sumI_map, -ix?, ix_n, ix_n1, ix_i0, ix_i1, ix_i2, eqP_nilL, noFns_map, bit_1, bit_0, -getElem?_pos, -getElem?_neg, get_ith, ith_zero, ith_succ, ith_map, nn, bitV, eqP_tups, eqP_lsts, eqP_enc, anyEq_enc, anyEq_int, anyEq_sets, List.isEmpty_iff, List.filter_eq_nil_iff, cast_inj, setV, pathsV, sysV, stV, e, e']))
  rw [List.length_range] at hl
  have ev1 : (ev g__law_chances c__law_chances_0).v [some (.l p), some (.v (nn n)), some (.v (nn b)), none] S1 = mkL false (cs.map rv) S2 := comp_v (by ((simp -implicitDefEqProofs -dsimp (disch := (first | with_reducible assumption | exact Mem.out (by assumption) | (((try simp only [List.length_map, List.length_range, List.length_append, List.length_cons, List.length_nil, List.length_tail, List.length_zip, List.length_reverse, List.length_take, List.length_drop, List.length_set, List.length_replicate, List.length_zipIdx, line]) <;> first | omega | (first | exact Mem.out (by assumption) | (with_reducible show (_ : Nat) < _; solve_by_elim (maxDepth := 4) [Mem.out]) | (with_reducible show (_ : Nat) ≤ _; solve_by_elim (maxDepth := 4) [Mem.out]) | (with_reducible show _ ∈ _; solve_by_elim (maxDepth := 4) [Mem.out]) | fail) | (refine Nat.le_trans (List.length_filter_le _ _) ?_; (try simp only [List.length_map, List.length_range, List.length_append, List.length_cons, List.length_nil]) <;> first | omega | (first | exact Mem.out (by assumption) | (with_reducible show (_ : Nat) < _; solve_by_elim (maxDepth := 4) [Mem.out]) | (with_reducible show (_ : Nat) ≤ _; solve_by_elim (maxDepth := 4) [Mem.out]) | (with_reducible show _ ∈ _; solve_by_elim (maxDepth := 4) [Mem.out]) | fail) | fail) | fail)) | fail)) [↓v_var, ↓v_k, ↓v_glob, ↓v_tup, ↓v_list, ↓v_bin, ↓v_neg, ↓t_nt, ↓v_nt, ↓v_and, ↓t_and, ↓v_or, ↓t_or, ↓v_and1, ↓t_and1, ↓v_or1, ↓t_or1, ↓v_and2, ↓t_and2, ↓v_or2, ↓t_or2, ↓t_cmp, ↓v_cmp, ↓t_chain, ↓v_chain, ↓v_ite, ↓t_ite, ↓v_call, ↓v_fnv, ↓v_callv, ↓v_index, ↓v_indexG, ↓v_bi, ↓v_isi, ↓v_idx, ↓v_slc, ↓v_comp, ↓v_comp2, ↓v_dic0, ↓v_get, ↓v_rev, ↓v_dcomp, ↓cTurnD_eq, pairO_v, ↓v_dicd, dispK_eq, pu_nil, pu_cons, keyOk_int, keyOk_str, mkD_ok, ↓compDT_map, compGD_all, ↓qs_pop, ↓qs_augsub, ↓qs_parG, fnM_eq, endM_ret, endM_ite, leaveM_v, nw_leaveM, nw_rev, rev_l, nw_old, asub_eq, nw_put, w2a_lst, w2b_lst, w2a_isl, w2b_isl, w2a_set, w2b_set, w2a_tup, w2b_tup, w2a_len, w2b_len, w2a_idx, w2b_idx, optC_some, optC_none, ↓t_var, ↓t_k, ↓t_call, ↓t_callv, ↓t_idx, ↓t_isi, ↓t_bin, ↓t_bi, ↓l_nil, ↓l_cons, ↓qi_seq, ↓qi_rng1, ↓qi_rng2, ↓i_rng3, ↓qi_zip, ↓qi_enum, ↓okK_v, ↓cTurn_eq, ↓cTurn2_eq, -seqOp, sq_tup, sq_lst, -zipOp, zp_tup, zp_lst, -enumOp, en_lst, -idxOp, idx_tup, idx_lst, idx_l, at_map, at_map0, at_map1, at_mapl, at_0, at_1, at_2, -cmpOp, -isNonS, cm_is, cm_isnot, cm_isb, ns_non, ns_bl, ns_int, ns_tup, ns_lst, ns_l, cm_eqv, cm_nev, cm_eqlv, cm_nelv, cm_lt, cm_le, cm_gt, cm_ge, cm_in_t, cm_in_l, cm_nin_t, cm_nin_l, cm_in_p, cm_nin_p, -binOp, bo_ii, bo_ib, bo_tt, bo_ll, bo_pl, bo_tm, bo_lm, -negOp, ng_i, -isTys, it_of, oo_some, -biOp, qbi_len, qbi_int, qbi_abs, qbi_sum, qbi_tuple, qbi_list, qbi_sorted, bi_sset, bi_skey, bi_lset, qbi_min1, qbi_max1, qbi_min2, qbi_max2, bi_lr1, bi_tr1, -bLen, ln_t, ln_l, ln_p, -bInt, in_i, in_b, -bAbs, ab_i, -bSum, sm_t, sm_l, -bTuple, tp_t, tp_l, tp_p, -bList, ls_t, ls_l, ls_p, lr_n, -slcOp, sl_t, sl_l, -part?, pt_n, pt_i, -intOnly, io_i, -augOp, au_add, au_sub, -putOp, -isNonC, nnc_non, nnc_int, nnc_var, nnc_bin, nnc_bi, nnc_neg, nnc_idx, -leave, leave_l, take_app, take_self, nw_lst, nw_isl, nw_set, nw_tup, nw_len, nw_idx, nw_leave, nw_add, nw_eq, nw_ne, cut_ton, cut_fromn, -getS, gs_some, gs_none, gs_succ, -bindG, -bindGs, -wipeS, -pures?, -setAll, bg_name, bg_tup, bg_lst, bgs_nil, bgs_cons, wp_nil, wp_cons, pr_nil, pr_cons, sa_nil, sa_cons, ↓seqK_next, ↓seqK_ret, ↓seqK_brk, ↓seqK_cnt, ↓b_nil, ↓b_cons, ↓qs_set, ↓qs_unpack, ↓qs_par, ↓qs_sub, ↓s_aug, ↓qs_app, appIf_ok, ↓qs_expr, ↓s_ifs, ↓qs_ret, ↓qs_retN, ↓qs_brk, ↓qs_cnt, ↓turnF_eq, ↓s_forr, ↓s_whil, ↓qs_freeze, ↓frzO_some, ↓frzO_none, ↓frz_l, ↓frz_v, ↓bd_ok, ↓bd_exc, ↓bd_bad, ↓compLT_nil, ↓compLLT_nil, ↓optB_none, ↓optB_some, ↓truK_eq, ↓blK_eq, ↓tupK_eq, ↓lstK_eq, ↓callG_eq, ↓partO_eq, ↓svP_v, ↓svL_l, ↓endK_ret, ↓endK_next, ↓endK_ite, ↓fn_eq, startB_eq, -fnSem, leave_v, ↓compLT_map, ↓compLLT_map, compG_all, compG_none, compG_some, compG_two, compG_3, ite_int, compGG_all, ↓bd_ite, ite_both, -ite_not, -Classical.ite_not, -List.map_set, ite_okb, -intOp, op_shl, op_shln, op_shr, op_bit, op_and, op_or, op_xor, op_add, op_sub, -mkL, mkL_f, mkL_t, -mkT, mkT_ok, zip_map, enum_map, rng1_n, rng1_i, rng2_n, -rng1Op, -rng2Op, ints_mapf, sumI_map, -ix?, ix_n, ix_n1, ix_i0, ix_i1, ix_i2, eqP_nilL, noFns_map, bit_1, bit_0, -getElem?_pos, -getElem?_neg, get_ith, ith_zero, ith_succ, ith_map, nn, bitV, eqP_tups, eqP_lsts, eqP_enc, anyEq_enc, anyEq_int, anyEq_sets, List.isEmpty_iff, List.filter_eq_nil_iff, cast_inj, setV, pathsV, sysV, stV]))) e2
  have ht : S2.take S.length = S2 := List.take_of_length_le (by rw [d2.len, hS]; exact Nat.le_refl _)
  simp only [nn] at ev1
  exact ⟨cs, S2, by ((simp -implicitDefEqProofs -dsimp (disch := (first | with_reducible assumption | exact Mem.out (by assumption) | (((try simp only [List.length_map, List.length_range, List.length_append, List.length_cons, List.length_nil, List.length_tail, List.length_zip, List.length_reverse, List.length_take, List.length_drop, List.length_set, List.length_replicate, List.length_zipIdx, line]) <;> first | omega | (first | exact Mem.out (by assumption) | (with_reducible show (_ : Nat) < _; solve_by_elim (maxDepth := 4) [Mem.out]) | (with_reducible show (_ : Nat) ≤ _; solve_by_elim (maxDepth := 4) [Mem.out]) | (with_reducible show _ ∈ _; solve_by_elim (maxDepth := 4) [Mem.out]) | fail) | (refine Nat.le_trans (List.length_filter_le _ _) ?_; (try simp only [List.length_map, List.length_range, List.length_append, List.length_cons, List.length_nil]) <;> first | omega | (first | exact Mem.out (by assumption) | (with_reducible show (_ : Nat) < _; solve_by_elim (maxDepth := 4) [Mem.out]) | (with_reducible show (_ : Nat) ≤ _; solve_by_elim (maxDepth := 4) [Mem.out]) | (with_reducible show _ ∈ _; solve_by_elim (maxDepth := 4) [Mem.out]) | fail) | fail) | fail)) | fail)) [↓v_var, ↓v_k, ↓v_glob, ↓v_tup, ↓v_list, ↓v_bin, ↓v_neg, ↓t_nt, ↓v_nt, ↓v_and, ↓t_and, ↓v_or, ↓t_or, ↓v_and1, ↓t_and1, ↓v_or1, ↓t_or1, ↓v_and2, ↓t_and2, ↓v_or2, ↓t_or2, ↓t_cmp, ↓v_cmp, ↓t_chain, ↓v_chain, ↓v_ite, ↓t_ite, ↓v_call, ↓v_fnv, ↓v_callv, ↓v_index, ↓v_indexG, ↓v_bi, ↓v_isi, ↓v_idx, ↓v_slc, ↓v_comp, ↓v_comp2, ↓v_dic0, ↓v_get, ↓v_rev, ↓v_dcomp, ↓cTurnD_eq, pairO_v, ↓v_dicd, dispK_eq, pu_nil, pu_cons, keyOk_int, keyOk_str, mkD_ok, ↓compDT_map, compGD_all, ↓qs_pop, ↓qs_augsub, ↓qs_parG, fnM_eq, endM_ret, endM_ite, leaveM_v, nw_leaveM, nw_rev, rev_l, nw_old, asub_eq, nw_put, w2a_lst, w2b_lst, w2a_isl, w2b_isl, w2a_set, w2b_set, w2a_tup, w2b_tup, w2a_len, w2b_len, w2a_idx, w2b_idx, optC_some, optC_none, ↓t_var, ↓t_k, ↓t_call, ↓t_callv, ↓t_idx, ↓t_isi, ↓t_bin, ↓t_bi, ↓l_nil, ↓l_cons, ↓qi_seq, ↓qi_rng1, ↓qi_rng2, ↓i_rng3, ↓qi_zip, ↓qi_enum, ↓okK_v, ↓cTurn_eq, ↓cTurn2_eq, -seqOp, sq_tup, sq_lst, -zipOp, zp_tup, zp_lst, -enumOp, en_lst, -idxOp, idx_tup, idx_lst, idx_l, at_map, at_map0, at_map1, at_mapl, at_0, at_1, at_2, -cmpOp, -isNonS, cm_is, cm_isnot, cm_isb, ns_non, ns_bl, ns_int, ns_tup, ns_lst, ns_l, cm_eqv, cm_nev, cm_eqlv, cm_nelv, cm_lt, cm_le, cm_gt, cm_ge, cm_in_t, cm_in_l, cm_nin_t, cm_nin_l, cm_in_p, cm_nin_p, -binOp, bo_ii, bo_ib, bo_tt, bo_ll, bo_pl, bo_tm, bo_lm, -negOp, ng_i, -isTys, it_of, oo_some, -biOp, qbi_len, qbi_int, qbi_abs, qbi_sum, qbi_tuple, qbi_list, qbi_sorted, bi_sset, bi_skey, bi_lset, qbi_min1, qbi_max1, qbi_min2, qbi_max2, bi_lr1, bi_tr1, -bLen, ln_t, ln_l, ln_p, -bInt, in_i, in_b, -bAbs, ab_i, -bSum, sm_t, sm_l, -bTuple, tp_t, tp_l, tp_p, -bList, ls_t, ls_l, ls_p, lr_n, -slcOp, sl_t, sl_l, -part?, pt_n, pt_i, -intOnly, io_i, -augOp, au_add, au_sub, -putOp, -isNonC, nnc_non, nnc_int, nnc_var, nnc_bin, nnc_bi, nnc_neg, nnc_idx, -leave, leave_l, take_app, take_self, nw_lst, nw_isl, nw_set, nw_tup, nw_len, nw_idx, nw_leave, nw_add, nw_eq, nw_ne, cut_ton, cut_fromn, -getS, gs_some, gs_none, gs_succ, -bindG, -bindGs, -wipeS, -pures?, -setAll, bg_name, bg_tup, bg_lst, bgs_nil, bgs_cons, wp_nil, wp_cons, pr_nil, pr_cons, sa_nil, sa_cons, ↓seqK_next, ↓seqK_ret, ↓seqK_brk, ↓seqK_cnt, ↓b_nil, ↓b_cons, ↓qs_set, ↓qs_unpack, ↓qs_par, ↓qs_sub, ↓s_aug, ↓qs_app, appIf_ok, ↓qs_expr, ↓s_ifs, ↓qs_ret, ↓qs_retN, ↓qs_brk, ↓qs_cnt, ↓turnF_eq, ↓s_forr, ↓s_whil, ↓qs_freeze, ↓frzO_some, ↓frzO_none, ↓frz_l, ↓frz_v, ↓bd_ok, ↓bd_exc, ↓bd_bad, ↓compLT_nil, ↓compLLT_nil, ↓optB_none, ↓optB_some, ↓truK_eq, ↓blK_eq, ↓tupK_eq, ↓lstK_eq, ↓callG_eq, ↓partO_eq, ↓svP_v, ↓svL_l, ↓endK_ret, ↓endK_next, ↓endK_ite, ↓fn_eq, startB_eq, -fnSem, leave_v, ↓compLT_map, ↓compLLT_map, compG_all, compG_none, compG_some, compG_two, compG_3, ite_int, compGG_all, ↓bd_ite, ite_both, -ite_not, -Classical.ite_not, -List.map_set, ite_okb, -intOp, op_shl, op_shln, op_shr, op_bit, op_and, op_or, op_xor, op_add, op_sub, -mkL, mkL_f, mkL_t, -mkT, mkT_ok, zip_map, enum_map, rng1_n, rng1_i, rng2_n, -rng1Op, -rng2Op, ints_mapf, sumI_map, -ix?, ix_n, ix_n1, ix_i0, ix_i1, ix_i2, eqP_nilL, noFns_map, bit_1, bit_0, -getElem?_pos, -getElem?_neg, get_ith, ith_zero, ith_succ, ith_map, nn, bitV, eqP_tups, eqP_lsts, eqP_enc, anyEq_enc, anyEq_int, anyEq_sets, List.isEmpty_iff, List.filter_eq_nil_iff, cast_inj, setV, pathsV, sysV, stV, F__law_chances, d__law_chances, e1, ↓ev1, ht])), hl, hc, d2⟩
abbrev csV (cs : List Rat) : PV := .tup (cs.map rv)
structure Sz (D n : Nat) : Prop where
  d0 : 0 < D
  sz : 2 * D ^ n < 2 ^ 2500
theorem Sz.pos (h : Sz D n) (i : Nat) : 0 < D ^ i := Nat.pow_pos h.d0
theorem Sz.le (h : Sz D n) {i : Nat} (hi : i ≤ n) : 2 * D ^ i < 2 ^ 2500 := by
  have := Nat.pow_le_pow_right h.d0 hi
  have := h.sz
  omega
theorem Sz.bd (h : Sz D n) {i : Nat} (hi : i ≤ n) {q : Rat} (hq : Ch (D ^ i) q) : Bd 2500 q := hq.bd (h.pos i) (h.le hi)
theorem Sz.bd1 (h : Sz D n) (hn : 1 ≤ n) {q : Rat} (hq : Ch D q) : Bd 2500 q := h.bd (i := 1) hn (by rwa [Nat.pow_one])
theorem sz20 (h : n ≤ 8) : Sz 20 n := ⟨by decide, by
  have h1 : 20 ^ n ≤ 20 ^ 8 := Nat.pow_le_pow_right (by decide) h
  have h2 : (2 : Nat) ^ 40 ≤ 2 ^ 2500 := Nat.pow_le_pow_right (by decide) (by decide)
  have h3 : 2 * 20 ^ 8 < 2 ^ 40 := by decide
  omega⟩
theorem wt_loop (hz : Sz D n) (h8 : n ≤ 8) {st : List Bool} (hl : cs.length = n) (hs : st.length = n) (hc : CsOk D cs) : ∀ (m i : Nat) (w3 w4 w5 : Option SV), i + m = n → ∃ w3' w4' w5', forL (turnF g__law_weight (.name 3) b__law_weight_0) [] ((List.range' i m).map nn) [some (.v (csV cs)), some (.v (stV st)), some (.v (rv (pw (cs.take i) (st.take i)))), w3, w4, w5] S =
    .ok (.next [some (.v (csV cs)), some (.v (stV st)), some (.v (rv (pw cs st))), w3', w4', w5']) S
  | 0, i, w3, w4, w5, h => ⟨w3, w4, w5, by rw [List.take_of_length_le (by omega), List.take_of_length_le (by omega)]; rfl⟩
  | m + 1, i, w3, w4, w5, h => by
    have hi : i < cs.length := by omega
    have hi2 : i < st.length := by omega
    have t1 : cs.take (i + 1) = cs.take i ++ [ith cs i] := by
      rw [List.take_succ_eq_append_getElem hi]
      congr 2
      have := get_ith hi
      rw [List.getElem?_eq_getElem hi] at this
      exact Option.some.inj this
    have t2 : st.take (i + 1) = st.take i ++ [ith st i] := by
      rw [List.take_succ_eq_append_getElem hi2]
      congr 2
      have := get_ith hi2
      rw [List.getElem?_eq_getElem hi2] at this
      exact Option.some.inj this
    have hm : ith cs i ∈ cs := by
      have := get_ith hi
      exact List.mem_of_getElem? this
    have hcc := hc _ hm
    have hp : pw (cs.take (i + 1)) (st.take (i + 1)) = pw (cs.take i) (st.take i) * (if ith st i = true then ith cs i else 1 - ith cs i) := by
      rw [t1, t2, pw_snoc (by simp; omega)]
    have bp : Bd 2500 (pw (cs.take i) (st.take i)) := hz.bd (i := i) (by omega) (pw_ch i (by simp; omega) (by simp; omega) fun c hc' => hc c (List.mem_of_mem_take hc'))
    have e1 : ∀ S, F__law_times [.v (rv (pw (cs.take i) (st.take i))), .v (rv (ith cs i))] S = .ok (.v (rv (pw (cs.take i) (st.take i) * ith cs i))) S := fun S => F_ltimes_eq bp (hz.bd1 (by omega) hcc) (by decide)
    have e2 : ∀ S, F__law_times [.v (rv (pw (cs.take i) (st.take i))), .v (rv (1 - ith cs i))] S = .ok (.v (rv (pw (cs.take i) (st.take i) * (1 - ith cs i)))) S := fun S => F_ltimes_eq bp (hz.bd1 (by omega) hcc.compl) (by decide)
    obtain ⟨w3', w4', w5', ih⟩ := wt_loop hz h8 hl hs hc m (i + 1) (some (.v (nn i))) (some (.v (.int (ith cs i).num))) (some (.v (.int (ith cs i).den))) (by omega)
    refine ⟨w3', w4', w5', ?_⟩
    rw [List.range'_succ, List.map_cons]
    show (turnF g__law_weight (.name 3) b__law_weight_0 (nn i) _ S).bind _ = _
    have : turnF g__law_weight (.name 3) b__law_weight_0 (nn i) [some (.v (csV cs)), some (.v (stV st)), some (.v (rv (pw (cs.take i) (st.take i)))), w3, w4, w5] S = .ok (.next [some (.v (csV cs)), some (.v (stV st)), some (.v (rv (pw (cs.take (i + 1)) (st.take (i + 1))))), some (.v (nn i)), some (.v (.int (ith cs i).num)), some (.v (.int (ith cs i).den))]) S := by
      rw [hp]
      cases hb : ith st i <;> ((simp -implicitDefEqProofs -dsimp (disch := (first | with_reducible assumption | exact Mem.out (by assumption) | (((try simp only [List.length_map, List.length_range, List.length_append, List.length_cons, List.length_nil, List.length_tail, List.length_zip, List.length_reverse, List.length_take, List.length_drop, List.length_set, List.length_replicate, List.length_zipIdx, line]) <;> first | omega | (first | exact Mem.out (by assumption) | (with_reducible show (_ : Nat) < _; solve_by_elim (maxDepth := 4) [Mem.out]) | (with_reducible show (_ : Nat) ≤ _; solve_by_elim (maxDepth := 4) [Mem.out]) | (with_reducible show _ ∈ _; solve_by_elim (maxDepth := 4) [Mem.out]) | fail) | (refine Nat.le_trans (List.length_filter_le _ _) ?_; (try simp only [List.length_map, List.length_range, List.length_append, List.length_cons, List.length_nil]) <;> first | omega | (first | exact Mem.out (by assumption) | (with_reducible show (_ : Nat) < _; solve_by_elim (maxDepth := 4) [Mem.out]) | (with_reducible show (_ : Nat) ≤ _; solve_by_elim (maxDepth := 4) [Mem.out]) | (with_reducible show _ ∈ _; solve_by_elim (maxDepth := 4) [Mem.out]) | fail) | fail) | fail)) | fail)) [↓v_var, ↓v_k, ↓v_glob, ↓v_tup, ↓v_list, ↓v_bin, ↓v_neg, ↓t_nt, ↓v_nt, ↓v_and, ↓t_and, ↓v_or, ↓t_or, ↓v_and1, ↓t_and1, ↓v_or1, ↓t_or1, ↓v_and2, ↓t_and2, ↓v_or2, ↓t_or2, ↓t_cmp, ↓v_cmp, ↓t_chain, ↓v_chain, ↓v_ite, ↓t_ite, ↓v_call, ↓v_fnv, ↓v_callv, ↓v_index, ↓v_indexG, ↓v_bi, ↓v_isi, ↓v_idx, ↓v_slc, ↓v_comp, ↓v_comp2, ↓v_dic0, ↓v_get, ↓v_rev, ↓v_dcomp, ↓cTurnD_eq, pairO_v, ↓v_dicd, dispK_eq, pu_nil, pu_cons, keyOk_int, keyOk_str, mkD_ok, ↓compDT_map, compGD_all, ↓qs_pop, ↓qs_augsub, ↓qs_parG, fnM_eq, endM_ret, endM_ite, leaveM_v, nw_leaveM, nw_rev, rev_l, nw_old, asub_eq, nw_put, w2a_lst, w2b_lst, w2a_isl, w2b_isl, w2a_set, w2b_set, w2a_tup, w2b_tup, w2a_len, w2b_len, w2a_idx, w2b_idx, optC_some, optC_none, ↓t_var, ↓t_k, ↓t_call, ↓t_callv, ↓t_idx, ↓t_isi, ↓t_bin, ↓t_bi, ↓l_nil, ↓l_cons, ↓qi_seq, ↓qi_rng1, ↓qi_rng2, ↓i_rng3, ↓qi_zip, ↓qi_enum, ↓okK_v, ↓cTurn_eq, ↓cTurn2_eq, -seqOp, sq_tup, sq_lst, -zipOp, zp_tup, zp_lst, -enumOp, en_lst, -idxOp, idx_tup, idx_lst, idx_l, at_map, at_map0, at_map1, at_mapl, at_0, at_1, at_2, -cmpOp, -isNonS, cm_is, cm_isnot, cm_isb, ns_non, ns_bl, ns_int, ns_tup, ns_lst, ns_l, cm_eqv, cm_nev, cm_eqlv, cm_nelv, cm_lt, cm_le, cm_gt, cm_ge, cm_in_t, cm_in_l, cm_nin_t, cm_nin_l, cm_in_p, cm_nin_p, -binOp, bo_ii, bo_ib, bo_tt, bo_ll, bo_pl, bo_tm, bo_lm, -negOp, ng_i, -isTys, it_of, oo_some, -biOp, qbi_len, qbi_int, qbi_abs, qbi_sum, qbi_tuple, qbi_list, qbi_sorted, bi_sset, bi_skey, bi_lset, qbi_min1, qbi_max1, qbi_min2, qbi_max2, bi_lr1, bi_tr1, -bLen, ln_t, ln_l, ln_p, -bInt, in_i, in_b, -bAbs, ab_i, -bSum, sm_t, sm_l, -bTuple, tp_t, tp_l, tp_p, -bList, ls_t, ls_l, ls_p, lr_n, -slcOp, sl_t, sl_l, -part?, pt_n, pt_i, -intOnly, io_i, -augOp, au_add, au_sub, -putOp, -isNonC, nnc_non, nnc_int, nnc_var, nnc_bin, nnc_bi, nnc_neg, nnc_idx, -leave, leave_l, take_app, take_self, nw_lst, nw_isl, nw_set, nw_tup, nw_len, nw_idx, nw_leave, nw_add, nw_eq, nw_ne, cut_ton, cut_fromn, -getS, gs_some, gs_none, gs_succ, -bindG, -bindGs, -wipeS, -pures?, -setAll, bg_name, bg_tup, bg_lst, bgs_nil, bgs_cons, wp_nil, wp_cons, pr_nil, pr_cons, sa_nil, sa_cons, ↓seqK_next, ↓seqK_ret, ↓seqK_brk, ↓seqK_cnt, ↓b_nil, ↓b_cons, ↓qs_set, ↓qs_unpack, ↓qs_par, ↓qs_sub, ↓s_aug, ↓qs_app, appIf_ok, ↓qs_expr, ↓s_ifs, ↓qs_ret, ↓qs_retN, ↓qs_brk, ↓qs_cnt, ↓turnF_eq, ↓s_forr, ↓s_whil, ↓qs_freeze, ↓frzO_some, ↓frzO_none, ↓frz_l, ↓frz_v, ↓bd_ok, ↓bd_exc, ↓bd_bad, ↓compLT_nil, ↓compLLT_nil, ↓optB_none, ↓optB_some, ↓truK_eq, ↓blK_eq, ↓tupK_eq, ↓lstK_eq, ↓callG_eq, ↓partO_eq, ↓svP_v, ↓svL_l, ↓endK_ret, ↓endK_next, ↓endK_ite, ↓fn_eq, startB_eq, -fnSem, leave_v, ↓compLT_map, ↓compLLT_map, compG_all, compG_none, compG_some, compG_two, compG_3, ite_int, compGG_all, ↓bd_ite, ite_both, -ite_not, -Classical.ite_not, -List.map_set, ite_okb, -intOp, op_shl, op_shln, op_shr, op_bit, op_and, op_or, op_xor, op_add, op_sub, -mkL, mkL_f, mkL_t, -mkT, mkT_ok, zip_map, enum_map, rng1_n, rng1_i, rng2_n, -rng1Op, -rng2Op, ints_mapf, sumI_map, -ix?, ix_n, ix_n1, ix_i0, ix_i1, ix_i2, eqP_nilL, noFns_map, bit_1, bit_0, -getElem?_pos, -getElem?_neg, get_ith, ith_zero, ith_succ, ith_map, nn, bitV, eqP_tups, eqP_lsts, eqP_enc, anyEq_enc, anyEq_int, anyEq_sets, List.isEmpty_iff, List.filter_eq_nil_iff, cast_inj, setV, pathsV, sysV, stV, b__law_weight_0, bg_rv, rv_fold, rv_compl, hb, e1, e2]))
    rw [this, Out.bind_ok]
    exact ih
theorem F__law_weight_eq (hz : Sz D n) (h8 : n ≤ 8) {st : List Bool} (hl : cs.length = n) (hs : st.length = n) (hc : CsOk D cs) : F__law_weight [.v (csV cs), .v (stV st)] S = .ok (.v (rv (pw cs st))) S := by
  obtain ⟨w3, w4, w5, e⟩ := wt_loop (S := S) hz h8 hl hs hc n 0 none none none (by omega)
  rw [← List.range_eq_range'] at e
  have e' : forL (turnF g__law_weight (.name 3) b__law_weight_0) [] ((List.range n).map nn) [some (.v (csV cs)), some (.v (stV st)), some (.v (.tup [.int 1, .int 1])), none, none, none] S = .ok (.next [some (.v (csV cs)), some (.v (stV st)), some (.v (rv (pw cs st))), w3, w4, w5]) S := e
  ((simp -implicitDefEqProofs -dsimp (disch := (first | with_reducible assumption | exact Mem.out (by assumption) | (((try simp only [List.length_map, List.length_range, List.length_append, List.length_cons, List.length_nil, List.length_tail, List.length_zip, List.length_reverse, List.length_take, List.length_drop, List.length_set, List.length_replicate, List.length_zipIdx, line]) <;> first | omega | (first | exact Mem.out (by assumption) | (with_reducible show (_ : Nat) < _; solve_by_elim (maxDepth := 4) [Mem.out]) | (with_reducible show (_ : Nat) ≤ _; solve_by_elim (maxDepth := 4) [Mem.out]) | (with_reducible show _ ∈ _; solve_by_elim (maxDepth := 4) [Mem.out]) | fail) | (refine Nat.le_trans (List.length_filter_le _ _) ?_; (try simp only [List.length_map, List.length_range, List.length_append, List.length_cons, List.length_nil]) <;> first | omega | (first | exact Mem.out (by assumption) | (with_reducible show (_ : Nat) < _; solve_by_elim (maxDepth := 4) [Mem.out]) | (with_reducible show (_ : Nat) ≤ _; solve_by_elim (maxDepth := 4) [Mem.out]) | (with_reducible show _ ∈ _; solve_by_elim (maxDepth := 4) [Mem.out]) | fail) | fail) | fail)) | fail)) [↓v_var, ↓v_k, ↓v_glob, ↓v_tup, ↓v_list, ↓v_bin, ↓v_neg, ↓t_nt, ↓v_nt, ↓v_and, ↓t_and, ↓v_or, ↓t_or, ↓v_and1, ↓t_and1, ↓v_or1, ↓t_or1, ↓v_and2, ↓t_and2, ↓v_or2, ↓t_or2, ↓t_cmp, ↓v_cmp, ↓t_chain, ↓v_chain, ↓v_ite, ↓t_ite, ↓v_call, ↓v_fnv, ↓v_callv, ↓v_index, ↓v_indexG, ↓v_bi, ↓v_isi, ↓v_idx, ↓v_slc, ↓v_comp, ↓v_comp2, ↓v_dic0, ↓v_get, ↓v_rev, ↓v_dcomp, ↓cTurnD_eq, pairO_v, ↓v_dicd, dispK_eq, pu_nil, pu_cons, keyOk_int, keyOk_str, mkD_ok, ↓compDT_map, compGD_all, ↓qs_pop, ↓qs_augsub, ↓qs_parG, fnM_eq, endM_ret, endM_ite, leaveM_v, nw_leaveM, nw_rev, rev_l, nw_old, asub_eq, nw_put, w2a_lst, w2b_lst, w2a_isl, w2b_isl, w2a_set, w2b_set, w2a_tup, w2b_tup, w2a_len, w2b_len, w2a_idx, w2b_idx, optC_some, optC_none, ↓t_var, ↓t_k, ↓t_call, ↓t_callv, ↓t_idx, ↓t_isi, ↓t_bin, ↓t_bi, ↓l_nil, ↓l_cons, ↓qi_seq, ↓qi_rng1, ↓qi_rng2, ↓i_rng3, ↓qi_zip, ↓qi_enum, ↓okK_v, ↓cTurn_eq, ↓cTurn2_eq, -seqOp, sq_tup, sq_lst, -zipOp, zp_tup, zp_lst, -enumOp, en_lst, -idxOp, idx_tup, idx_lst, idx_l, at_map, at_map0, at_map1, at_mapl, at_0, at_1, at_2, -cmpOp, -isNonS, cm_is, cm_isnot, cm_isb, ns_non, ns_bl, ns_int, ns_tup, ns_lst, ns_l, cm_eqv, cm_nev, cm_eqlv, cm_nelv, cm_lt, cm_le, cm_gt, cm_ge, cm_in_t, cm_in_l, cm_nin_t, cm_nin_l, cm_in_p, cm_nin_p, -binOp, bo_ii, bo_ib, bo_tt, bo_ll, bo_pl, bo_tm, bo_lm, -negOp, ng_i, -isTys, it_of, oo_some, -biOp, qbi_len, qbi_int, qbi_abs, qbi_sum, qbi_tuple, qbi_list, qbi_sorted, bi_sset, bi_skey, bi_lset, qbi_min1, qbi_max1, qbi_min2, qbi_max2, bi_lr1, bi_tr1, -bLen, ln_t, ln_l, ln_p, -bInt, in_i, in_b, -bAbs, ab_i, -bSum, sm_t, sm_l, -bTuple, tp_t, tp_l, tp_p, -bList, ls_t, ls_l, ls_p, lr_n, -slcOp, sl_t, sl_l, -part?, pt_n, pt_i, -intOnly, io_i, -augOp, au_add, au_sub, -putOp, -isNonC, nnc_non, nnc_int, nnc_var, nnc_bin, nnc_bi, nnc_neg, nnc_idx, -leave, leave_l, take_app, take_self, nw_lst, nw_isl, nw_set, nw_tup, nw_len, nw_idx, nw_leave, nw_add, nw_eq, nw_ne, cut_ton, cut_fromn, -getS, gs_some, gs_none, gs_succ, -bindG, -bindGs, -wipeS, -pures?, -setAll, bg_name, bg_tup, bg_lst, bgs_nil, bgs_cons, wp_nil, wp_cons, pr_nil, pr_cons, sa_nil, sa_cons, ↓seqK_next, ↓seqK_ret, ↓seqK_brk, ↓seqK_cnt, ↓b_nil, ↓b_cons, ↓qs_set, ↓qs_unpack, ↓qs_par, ↓qs_sub, ↓s_aug, ↓qs_app, appIf_ok, ↓qs_expr, ↓s_ifs, ↓qs_ret, ↓qs_retN, ↓qs_brk, ↓qs_cnt, ↓turnF_eq, ↓s_forr, ↓s_whil, ↓qs_freeze, ↓frzO_some, ↓frzO_none, ↓frz_l, ↓frz_v, ↓bd_ok, ↓bd_exc, ↓bd_bad, ↓compLT_nil, ↓compLLT_nil, ↓optB_none, ↓optB_some, ↓truK_eq, ↓blK_eq, ↓tupK_eq, ↓lstK_eq, ↓callG_eq, ↓partO_eq, ↓svP_v, ↓svL_l, ↓endK_ret, ↓endK_next, ↓endK_ite, ↓fn_eq, startB_eq, -fnSem, leave_v, ↓compLT_map, ↓compLLT_map, compG_all, compG_none, compG_some, compG_two, compG_3, ite_int, compGG_all, ↓bd_ite, ite_both, -ite_not, -Classical.ite_not, -List.map_set, ite_okb, -intOp, op_shl, op_shln, op_shr, op_bit, op_and, op_or, op_xor, op_add, op_sub, -mkL, mkL_f, mkL_t, -mkT, mkT_ok, zip_map, enum_map, rng1_n, rng1_i, rng2_n, -rng1Op, -rng2Op, ints_mapf, sumI_map, -ix?, ix_n, ix_n1, ix_i0, ix_i1, ix_i2, eqP_nilL, noFns_map, bit_1, bit_0, -getElem?_pos, -getElem?_neg, get_ith, ith_zero, ith_succ, ith_map, nn, bitV, eqP_tups, eqP_lsts, eqP_enc, anyEq_enc, anyEq_int, anyEq_sets, List.isEmpty_iff, List.filter_eq_nil_iff, cast_inj, setV, pathsV, sysV, stV, F__law_weight, d__law_weight, hs, e']))
theorem F_lplus_bd {q r : Rat} (hq : Bd 5000 q) (hr : Bd 5000 r) : F__law_plus [.v (rv q), .v (rv r)] S = .ok (.v (rv (q + r))) S := F_lplus_eq hq hr (by decide)
theorem alike_rv {q : Rat} : F__law_alike 8 [.v (rv q), .v (rv q)] S = .ok (.v (.bl true)) S := alike_refl 8 _ S rfl
end
end FWP

namespace FWP
open PySem FW
theorem snoc_ind {α : Type} {Q : List α → Prop} (h0 : Q []) (h1 : ∀ l a, Q l → Q (l ++ [a])) (l : List α) : Q l := by
  suffices ∀ n (l : List α), l.length = n → Q l from this _ l rfl
  intro n
  induction n with
  | zero => intro l h; obtain rfl := List.eq_nil_of_length_eq_zero h; exact h0
  | succ n ih =>
    intro l h
    obtain ⟨i, a, rfl, hi⟩ := snoc_of h
    exact h1 i a (ih i hi)
section
variable {D n : Nat} {P : List (List Nat)} {cs : List Rat}
end
end FWP

namespace FWP
open PySem FW
section
variable {n : Nat} {cs : List Rat} {b : Bool} {Q : List (List Nat)}
end
end FWP

namespace FWP
open PySem FW
section
variable {D n k : Nat} {P : List (List Nat)} {cs : List Rat} {st : List Bool}
end
end FWP

namespace FWP
open PySem FW
theorem Ch.pw {D i n : Nat} {q : Rat} (h : Ch (D ^ i) q) (hi : i ≤ n) : Ch (D ^ n) q := by
  have := h.up (D ^ (n - i))
  rwa [← Nat.pow_add, show i + (n - i) = n by omega] at this
section
variable {D n m : Nat} {P : List (List Nat)} {cs : List Rat} {S S0 : Store}
structure BSz (D n m : Nat) : Prop where
  a : Sz D n
  b : Sz (D ^ n) m
end
end FWP

namespace FWP
open PySem FW
section
variable {D n k : Nat} {P : List (List Nat)} {cs : List Rat} {st : List Bool} {S : Store}
end
theorem Ch.sum {D : Nat} : ∀ {L : List Rat}, (∀ q ∈ L, Ch D q) → Cm (D : Int) (sumR L) ∧ 0 ≤ sumR L ∧ sumR L ≤ (L.length : Rat)
  | [], _ => ⟨Cm.zero, Rat.le_refl, by show (0 : Rat) ≤ ((0 : Nat) : Rat); exact Rat.le_refl⟩
  | q :: L, h => by
    have h1 := h q List.mem_cons_self
    obtain ⟨a, b, c⟩ := Ch.sum fun r hr => h r (List.mem_cons_of_mem _ hr)
    have e : (((q :: L).length : Nat) : Rat) = (L.length : Rat) + 1 := by rw [List.length_cons]; exact_mod_cast rfl
    refine ⟨h1.cm.add a, ?_, ?_⟩
    · show 0 ≤ q + sumR L
      have := h1.nn
      grind
    · rw [e]
      show q + sumR L ≤ _
      have := h1.le
      grind
theorem Sz.lt {D n : Nat} (h : Sz D n) : D ^ n < 2 ^ 2500 := by have := h.sz; omega
end FWP

namespace FWP
open PySem FW
section
variable {n i j : Nat} {P : List (List Nat)} {S : Store} {w0 w1 w3 w6 w7 w8 : Option SV}
end
section
variable {n i j : Nat} {P : List (List Nat)} {cs : List Rat} {D : Nat}
end
section
variable {n : Nat} {P : List (List Nat)} {cs : List Rat} {S : Store} {D : Nat}
end
end FWP

namespace FWP
open PySem FW FWP
end FWP

namespace FWP
open PySem FW
section
variable {n k : Nat} {P : List (List Nat)} {S : Store} {w0 w2 w3 : Option SV}
end
end FWP

namespace FWP
open PySem FW
def cnt (st : List Bool) : Nat := (st.filter id).length
theorem cnt_snoc {st : List Bool} {b : Bool} : cnt (st ++ [b]) = cnt st + if b = true then 1 else 0 := by
  unfold cnt
  rw [List.filter_append]
  cases b <;> simp
section
variable {n : Nat} {P : List (List Nat)}
end
end FWP

namespace FWP
open PySem FW
section
variable {n : Nat} {P : List (List Nat)} {S : Store} {cs : List Rat}
end
end FWP

namespace FWP
open PySem FW
def bin : Nat → Nat → Nat
  | _, 0 => 1
  | 0, _ + 1 => 0
  | n + 1, k + 1 => bin n k + bin n (k + 1)
section
variable {n i j k : Nat} {P : List (List Nat)} {cs : List Rat} {S : Store} {st : List Bool} {w : Nat → Rat}
theorem cnt_le (st : List Bool) : cnt st ≤ st.length := List.length_filter_le id st
end
section
variable {n k p : Nat} {P : List (List Nat)} {S S0 : Store}
end
section
variable {n k p : Nat} {P : List (List Nat)} {S S0 : Store}
theorem ratio_dv {j b : Nat} (h1 : 0 < b) (hj : j ≤ b) (hd : 2520 % b = 0) : Ch 2520 (Rat.divInt j b) := by
  have hz : ((b : Int) : Rat) ≠ 0 := by
    intro h
    have : (b : Int) = 0 := by exact_mod_cast h
    omega
  have e : Rat.divInt (j : Int) (b : Int) = ((j : Int) : Rat) / ((b : Int) : Rat) := Rat.divInt_eq_div ..
  have hp : (0 : Rat) < ((b : Int) : Rat) := by exact_mod_cast h1
  have hjb : ((j : Int) : Rat) ≤ ((b : Int) : Rat) := by exact_mod_cast hj
  have hj0 : (0 : Rat) ≤ ((j : Int) : Rat) := by exact_mod_cast Nat.zero_le j
  have em : Rat.divInt (j : Int) (b : Int) * ((b : Int) : Rat) = ((j : Int) : Rat) := by rw [e]; grind
  refine ⟨?_, ?_, ?_⟩
  · obtain ⟨m, hm⟩ : ∃ m : Nat, b * m = 2520 := ⟨2520 / b, by have := Nat.div_add_mod 2520 b; omega⟩
    refine ⟨(j : Int) * m, ?_⟩
    have : (((2520 : Nat) : Int) : Rat) = ((b : Int) : Rat) * ((m : Int) : Rat) := by
      rw [← Rat.intCast_mul]
      congr 1
      omega
    rw [this, ← Rat.mul_assoc, em, Rat.intCast_mul]
  · rw [e]
    exact div_nn hp hj0
  · rw [e]
    exact div_le_one hp hjb
theorem some_chance_spec (h : Dr p S0 S) (hS : S.length = S0.length) : ∃ (q : Rat) (S' : Store), F__law_some_chance [.l p] S = .ok (.v (rv q)) S' ∧ Ch 2520 q ∧ 0 < q ∧ q < 1 ∧ Dr p S0 S' := by
  obtain ⟨b, S1, e1, hb, d1⟩ := taken_d (m := 9) h (by decide) (by decide)
  obtain ⟨j, S2, e2, hj, d2⟩ := taken_d (m := (b : Int) + 1) d1 (by omega) (by omega)
  have ht : S2.take S.length = S2 := List.take_of_length_le (by rw [d2.len, hS]; exact Nat.le_refl _)
  have h16 : (16 : Nat) < 2 ^ 13000 := by
    have : (2 : Nat) ^ 5 ≤ 2 ^ 13000 := Nat.pow_le_pow_right (by decide) (by decide)
    omega
  have e3 : ∀ S, F__law_ratio [.v (.int (1 + (j : Int))), .v (.int (2 + (b : Int)))] S = .ok (.v (rv (Rat.divInt (j + 1 : Nat) (b + 2 : Nat)))) S := fun S => by
    have := F_ratio_eq ((j + 1 : Nat) : Int) ((b + 2 : Nat) : Int) S (by omega) (by omega) (by omega)
    rw [show 1 + (j : Int) = ((j + 1 : Nat) : Int) by omega, show 2 + (b : Int) = ((b + 2 : Nat) : Int) by omega]
    exact this
  have e2' : F__law_taken [.l p, .v (.int (2 + (b : Int) - 1))] S1 = .ok (.v (nn j)) S2 := by
    rw [show 2 + (b : Int) - 1 = (b : Int) + 1 by omega]
    exact e2
  have hd : ∀ b : Nat, b < 9 → 2520 % (b + 2) = 0 := by decide
  refine ⟨Rat.divInt (j + 1 : Nat) (b + 2 : Nat), S2, ?_, ratio_dv (by omega) (by omega) (hd b (by omega)), ?_, ?_, d2⟩
  · ((simp -implicitDefEqProofs -dsimp (disch := (first | with_reducible assumption | exact Mem.out (by assumption) | (((try simp only [List.length_map, List.length_range, List.length_append, List.length_cons, List.length_nil, List.length_tail, List.length_zip, List.length_reverse, List.length_take, List.length_drop, List.length_set, List.length_replicate, List.length_zipIdx, line]) <;> first | omega | (first | exact Mem.out (by assumption) | (with_reducible show (_ : Nat) < _; solve_by_elim (maxDepth := 4) [Mem.out]) | (with_reducible show (_ : Nat) ≤ _; solve_by_elim (maxDepth := 4) [Mem.out]) | (with_reducible show _ ∈ _; solve_by_elim (maxDepth := 4) [Mem.out]) | fail) | (refine Nat.le_trans (List.length_filter_le _ _) ?_; (try simp only [List.length_map, List.length_range, List.length_append, List.length_cons, List.length_nil]) <;> first | omega | (first | exact Mem.out (by assumption) | (with_reducible show (_ : Nat) < _; solve_by_elim (maxDepth := 4) [Mem.out]) | (with_reducible show (_ : Nat) ≤ _; solve_by_elim (maxDepth := 4) [Mem.out]) | (with_reducible show _ ∈ _; solve_by_elim (maxDepth := 4) [Mem.out]) | fail) | fail) | fail)) | fail)) [↓v_var, ↓v_k, ↓v_glob, ↓v_tup, ↓v_list, ↓v_bin, ↓v_neg, ↓t_nt, ↓v_nt, ↓v_and, ↓t_and, ↓v_or, ↓t_or, ↓v_and1, ↓t_and1, ↓v_or1, ↓t_or1, ↓v_and2, ↓t_and2, ↓v_or2, ↓t_or2, ↓t_cmp, ↓v_cmp, ↓t_chain, ↓v_chain, ↓v_ite, ↓t_ite, ↓v_call, ↓v_fnv, ↓v_callv, ↓v_index, ↓v_indexG, ↓v_bi, ↓v_isi, ↓v_idx, ↓v_slc, ↓v_comp, ↓v_comp2, ↓v_dic0, ↓v_get, ↓v_rev, ↓v_dcomp, ↓cTurnD_eq, pairO_v, ↓v_dicd, dispK_eq, pu_nil, pu_cons, keyOk_int, keyOk_str, mkD_ok, ↓compDT_map, compGD_all, ↓qs_pop, ↓qs_augsub, ↓qs_parG, fnM_eq, endM_ret, endM_ite, leaveM_v, nw_leaveM, nw_rev, rev_l, nw_old, asub_eq, nw_put, w2a_lst, w2b_lst, w2a_isl, w2b_isl, w2a_set, w2b_set, w2a_tup, w2b_tup, w2a_len, w2b_len, w2a_idx, w2b_idx, optC_some, optC_none, ↓t_var, ↓t_k, ↓t_call, ↓t_callv, ↓t_idx, ↓t_isi, ↓t_bin, ↓t_bi, ↓l_nil, ↓l_cons, ↓qi_seq, ↓qi_rng1, ↓qi_rng2, ↓i_rng3, ↓qi_zip, ↓qi_enum, ↓okK_v, ↓cTurn_eq, ↓cTurn2_eq, -seqOp, sq_tup, sq_lst, -zipOp, zp_tup, zp_lst, -enumOp, en_lst, -idxOp, idx_tup, idx_lst, idx_l, at_map, at_map0, at_map1, at_mapl, at_0, at_1, at_2, -cmpOp, -isNonS, cm_is, cm_isnot, cm_isb, ns_non, ns_bl, ns_int, ns_tup, ns_lst, ns_l, cm_eqv, cm_nev, cm_eqlv, cm_nelv, cm_lt, cm_le, cm_gt, cm_ge, cm_in_t, cm_in_l, cm_nin_t, cm_nin_l, cm_in_p, cm_nin_p, -binOp, bo_ii, bo_ib, bo_tt, bo_ll, bo_pl, bo_tm, bo_lm, -negOp, ng_i, -isTys, it_of, oo_some, -biOp, qbi_len, qbi_int, qbi_abs, qbi_sum, qbi_tuple, qbi_list, qbi_sorted, bi_sset, bi_skey, bi_lset, qbi_min1, qbi_max1, qbi_min2, qbi_max2, bi_lr1, bi_tr1, -bLen, ln_t, ln_l, ln_p, -bInt, in_i, in_b, -bAbs, ab_i, -bSum, sm_t, sm_l, -bTuple, tp_t, tp_l, tp_p, -bList, ls_t, ls_l, ls_p, lr_n, -slcOp, sl_t, sl_l, -part?, pt_n, pt_i, -intOnly, io_i, -augOp, au_add, au_sub, -putOp, -isNonC, nnc_non, nnc_int, nnc_var, nnc_bin, nnc_bi, nnc_neg, nnc_idx, -leave, leave_l, take_app, take_self, nw_lst, nw_isl, nw_set, nw_tup, nw_len, nw_idx, nw_leave, nw_add, nw_eq, nw_ne, cut_ton, cut_fromn, -getS, gs_some, gs_none, gs_succ, -bindG, -bindGs, -wipeS, -pures?, -setAll, bg_name, bg_tup, bg_lst, bgs_nil, bgs_cons, wp_nil, wp_cons, pr_nil, pr_cons, sa_nil, sa_cons, ↓seqK_next, ↓seqK_ret, ↓seqK_brk, ↓seqK_cnt, ↓b_nil, ↓b_cons, ↓qs_set, ↓qs_unpack, ↓qs_par, ↓qs_sub, ↓s_aug, ↓qs_app, appIf_ok, ↓qs_expr, ↓s_ifs, ↓qs_ret, ↓qs_retN, ↓qs_brk, ↓qs_cnt, ↓turnF_eq, ↓s_forr, ↓s_whil, ↓qs_freeze, ↓frzO_some, ↓frzO_none, ↓frz_l, ↓frz_v, ↓bd_ok, ↓bd_exc, ↓bd_bad, ↓compLT_nil, ↓compLLT_nil, ↓optB_none, ↓optB_some, ↓truK_eq, ↓blK_eq, ↓tupK_eq, ↓lstK_eq, ↓callG_eq, ↓partO_eq, ↓svP_v, ↓svL_l, ↓endK_ret, ↓endK_next, ↓endK_ite, ↓fn_eq, startB_eq, -fnSem, leave_v, ↓compLT_map, ↓compLLT_map, compG_all, compG_none, compG_some, compG_two, compG_3, ite_int, compGG_all, ↓bd_ite, ite_both, -ite_not, -Classical.ite_not, -List.map_set, ite_okb, -intOp, op_shl, op_shln, op_shr, op_bit, op_and, op_or, op_xor, op_add, op_sub, -mkL, mkL_f, mkL_t, -mkT, mkT_ok, zip_map, enum_map, rng1_n, rng1_i, rng2_n, -rng1Op, -rng2Op, ints_mapf, sumI_map, -ix?, ix_n, ix_n1, ix_i0, ix_i1, ix_i2, eqP_nilL, noFns_map, bit_1, bit_0, -getElem?_pos, -getElem?_neg, get_ith, ith_zero, ith_succ, ith_map, nn, bitV, eqP_tups, eqP_lsts, eqP_enc, anyEq_enc, anyEq_int, anyEq_sets, List.isEmpty_iff, List.filter_eq_nil_iff, cast_inj, setV, pathsV, sysV, stV, F__law_some_chance, d__law_some_chance, e1, e2', e3, ht]))
  · rw [Rat.divInt_eq_div]
    have hp : (0 : Rat) < (((b + 2 : Nat) : Int) : Rat) := by exact_mod_cast (by omega : 0 < b + 2)
    have hj : (0 : Rat) < (((j + 1 : Nat) : Int) : Rat) := by exact_mod_cast (by omega : 0 < j + 1)
    exact (Rat.lt_div_iff hp).mpr (by grind)
  · rw [Rat.divInt_eq_div]
    have hp : (0 : Rat) < (((b + 2 : Nat) : Int) : Rat) := by exact_mod_cast (by omega : 0 < b + 2)
    have hj : (((j + 1 : Nat) : Int) : Rat) < (((b + 2 : Nat) : Int) : Rat) := by exact_mod_cast (by omega : j + 1 < b + 2)
    exact (Rat.div_lt_iff hp).mpr (by grind)
end
end FWP

namespace FWP
open PySem FW
section
variable {k : Nat} {st : List Bool} {b : Bool} {cs : List Rat} {D n : Nat}
end
end FWP

namespace FWP
open PySem FW FWP
abbrev b__law_choose_0 : CB := (.cons (.set 2 (.bin .fdiv false (.bin .mul false (.var 2) (.bin .sub false (.var 0) (.var 3))) (.bin .add false (.var 3) (.k (.int 1))))) .nil)
def d__law_choose : FW.Def := ⟨2, 4, (.cons (.set 2 (.k (.int 1)))
      (.cons (.forr (.name 3) (.rng1 (.var 1))
      b__law_choose_0 [])
      (.cons (.ret (.ite (.cmp .ge (.var 0) (.var 1)) (.var 2) (.k (.int 0)))) .nil)))⟩
def g__law_choose : List (Str × Fn) := []
def F__law_choose : Fn := fnSem g__law_choose d__law_choose

end FWP

namespace FWP
open PySem FW
section
variable {n k : Nat} {P : List (List Nat)} {S : Store} {f : Nat → Int}
def upd (U : List (Nat × Int)) (j : Nat) : Int := sumI (U.map fun u => if u.1 = j then u.2 else 0)
theorem rep_one (m : Nat) (x : PV) : rep m [x] = List.replicate m x := by
  induction m with
  | zero => rfl
  | succ m ih => rw [List.replicate_succ, ← ih]; rfl
def b2i (b : Bool) : Int := if b = true then 1 else 0
theorem rv_int (x : Int) : PV.tup [.int x, .int 1] = rv (x : Rat) := by
  unfold rv
  rw [Rat.num_intCast, Rat.den_intCast]
  rfl
end
end FWP

namespace FWP
open PySem FW
section
variable {D n k : Nat} {cs : List Rat} {st : List Bool} {S : Store}
theorem F_failed_eq {q : Rat} (hq : Bd 2500 q) : F_failed [.v (rv q)] S = .ok (.v (rv (1 - q))) S := by
  have e1 : ∀ S, F_minus [.v (.tup [.int 1, .int 1]), .v (rv q)] S = .ok (.v (rv (1 - q))) S := fun S => F_minus_eq (q := 1) (Bd.one.mono (l := 2500) (by decide)) hq (by decide)
  ((simp -implicitDefEqProofs -dsimp (disch := (first | with_reducible assumption | exact Mem.out (by assumption) | (((try simp only [List.length_map, List.length_range, List.length_append, List.length_cons, List.length_nil, List.length_tail, List.length_zip, List.length_reverse, List.length_take, List.length_drop, List.length_set, List.length_replicate, List.length_zipIdx, line]) <;> first | omega | (first | exact Mem.out (by assumption) | (with_reducible show (_ : Nat) < _; solve_by_elim (maxDepth := 4) [Mem.out]) | (with_reducible show (_ : Nat) ≤ _; solve_by_elim (maxDepth := 4) [Mem.out]) | (with_reducible show _ ∈ _; solve_by_elim (maxDepth := 4) [Mem.out]) | fail) | (refine Nat.le_trans (List.length_filter_le _ _) ?_; (try simp only [List.length_map, List.length_range, List.length_append, List.length_cons, List.length_nil]) <;> first | omega | (first | exact Mem.out (by assumption) | (with_reducible show (_ : Nat) < _; solve_by_elim (maxDepth := 4) [Mem.out]) | (with_reducible show (_ : Nat) ≤ _; solve_by_elim (maxDepth := 4) [Mem.out]) | (with_reducible show _ ∈ _; solve_by_elim (maxDepth := 4) [Mem.out]) | fail) | fail) | fail)) | fail)) [↓v_var, ↓v_k, ↓v_glob, ↓v_tup, ↓v_list, ↓v_bin, ↓v_neg, ↓t_nt, ↓v_nt, ↓v_and, ↓t_and, ↓v_or, ↓t_or, ↓v_and1, ↓t_and1, ↓v_or1, ↓t_or1, ↓v_and2, ↓t_and2, ↓v_or2, ↓t_or2, ↓t_cmp, ↓v_cmp, ↓t_chain, ↓v_chain, ↓v_ite, ↓t_ite, ↓v_call, ↓v_fnv, ↓v_callv, ↓v_index, ↓v_indexG, ↓v_bi, ↓v_isi, ↓v_idx, ↓v_slc, ↓v_comp, ↓v_comp2, ↓v_dic0, ↓v_get, ↓v_rev, ↓v_dcomp, ↓cTurnD_eq, pairO_v, ↓v_dicd, dispK_eq, pu_nil, pu_cons, keyOk_int, keyOk_str, mkD_ok, ↓compDT_map, compGD_all, ↓qs_pop, ↓qs_augsub, ↓qs_parG, fnM_eq, endM_ret, endM_ite, leaveM_v, nw_leaveM, nw_rev, rev_l, nw_old, asub_eq, nw_put, w2a_lst, w2b_lst, w2a_isl, w2b_isl, w2a_set, w2b_set, w2a_tup, w2b_tup, w2a_len, w2b_len, w2a_idx, w2b_idx, optC_some, optC_none, ↓t_var, ↓t_k, ↓t_call, ↓t_callv, ↓t_idx, ↓t_isi, ↓t_bin, ↓t_bi, ↓l_nil, ↓l_cons, ↓qi_seq, ↓qi_rng1, ↓qi_rng2, ↓i_rng3, ↓qi_zip, ↓qi_enum, ↓okK_v, ↓cTurn_eq, ↓cTurn2_eq, -seqOp, sq_tup, sq_lst, -zipOp, zp_tup, zp_lst, -enumOp, en_lst, -idxOp, idx_tup, idx_lst, idx_l, at_map, at_map0, at_map1, at_mapl, at_0, at_1, at_2, -cmpOp, -isNonS, cm_is, cm_isnot, cm_isb, ns_non, ns_bl, ns_int, ns_tup, ns_lst, ns_l, cm_eqv, cm_nev, cm_eqlv, cm_nelv, cm_lt, cm_le, cm_gt, cm_ge, cm_in_t, cm_in_l, cm_nin_t, cm_nin_l, cm_in_p, cm_nin_p, -binOp, bo_ii, bo_ib, bo_tt, bo_ll, bo_pl, bo_tm, bo_lm, -negOp, ng_i, -isTys, it_of, oo_some, -biOp, qbi_len, qbi_int, qbi_abs, qbi_sum, qbi_tuple, qbi_list, qbi_sorted, bi_sset, bi_skey, bi_lset, qbi_min1, qbi_max1, qbi_min2, qbi_max2, bi_lr1, bi_tr1, -bLen, ln_t, ln_l, ln_p, -bInt, in_i, in_b, -bAbs, ab_i, -bSum, sm_t, sm_l, -bTuple, tp_t, tp_l, tp_p, -bList, ls_t, ls_l, ls_p, lr_n, -slcOp, sl_t, sl_l, -part?, pt_n, pt_i, -intOnly, io_i, -augOp, au_add, au_sub, -putOp, -isNonC, nnc_non, nnc_int, nnc_var, nnc_bin, nnc_bi, nnc_neg, nnc_idx, -leave, leave_l, take_app, take_self, nw_lst, nw_isl, nw_set, nw_tup, nw_len, nw_idx, nw_leave, nw_add, nw_eq, nw_ne, cut_ton, cut_fromn, -getS, gs_some, gs_none, gs_succ, -bindG, -bindGs, -wipeS, -pures?, -setAll, bg_name, bg_tup, bg_lst, bgs_nil, bgs_cons, wp_nil, wp_cons, pr_nil, pr_cons, sa_nil, sa_cons, ↓seqK_next, ↓seqK_ret, ↓seqK_brk, ↓seqK_cnt, ↓b_nil, ↓b_cons, ↓qs_set, ↓qs_unpack, ↓qs_par, ↓qs_sub, ↓s_aug, ↓qs_app, appIf_ok, ↓qs_expr, ↓s_ifs, ↓qs_ret, ↓qs_retN, ↓qs_brk, ↓qs_cnt, ↓turnF_eq, ↓s_forr, ↓s_whil, ↓qs_freeze, ↓frzO_some, ↓frzO_none, ↓frz_l, ↓frz_v, ↓bd_ok, ↓bd_exc, ↓bd_bad, ↓compLT_nil, ↓compLLT_nil, ↓optB_none, ↓optB_some, ↓truK_eq, ↓blK_eq, ↓tupK_eq, ↓lstK_eq, ↓callG_eq, ↓partO_eq, ↓svP_v, ↓svL_l, ↓endK_ret, ↓endK_next, ↓endK_ite, ↓fn_eq, startB_eq, -fnSem, leave_v, ↓compLT_map, ↓compLLT_map, compG_all, compG_none, compG_some, compG_two, compG_3, ite_int, compGG_all, ↓bd_ite, ite_both, -ite_not, -Classical.ite_not, -List.map_set, ite_okb, -intOp, op_shl, op_shln, op_shr, op_bit, op_and, op_or, op_xor, op_add, op_sub, -mkL, mkL_f, mkL_t, -mkT, mkT_ok, zip_map, enum_map, rng1_n, rng1_i, rng2_n, -rng1Op, -rng2Op, ints_mapf, sumI_map, -ix?, ix_n, ix_n1, ix_i0, ix_i1, ix_i2, eqP_nilL, noFns_map, bit_1, bit_0, -getElem?_pos, -getElem?_neg, get_ith, ith_zero, ith_succ, ith_map, nn, bitV, eqP_tups, eqP_lsts, eqP_enc, anyEq_enc, anyEq_int, anyEq_sets, List.isEmpty_iff, List.filter_eq_nil_iff, cast_inj, setV, pathsV, sysV, stV, F_failed, d_failed, e1]))
end
end FWP

namespace FWP
open PySem FW
section
variable {D n k : Nat} {cs : List Rat} {st : List Bool} {S : Store}
theorem F_need_row_eq (hz : Sz D n) (hl : cs.length = n) (h1 : 1 ≤ n) (hn : n ≤ 60) (hc : CsOk D cs) : F_need_row [.v (csV cs)] S = .ok (.v .non) S := by
  have e : ∀ c ∈ cs, ∀ S, F_is_chance [.v (rv c)] S = .ok (.v (.bl true)) S := fun c hm S => F_is_chance_eq (hz.bd1 h1 (hc c hm)) (by decide) (hc c hm).nn (hc c hm).le
  have a1 : (1 : Int) ≤ (cs.length : Int) := by omega
  have a2 : (cs.length : Int) ≤ 60 := by omega
  ((simp -implicitDefEqProofs -dsimp (disch := (first | with_reducible assumption | exact Mem.out (by assumption) | (((try simp only [List.length_map, List.length_range, List.length_append, List.length_cons, List.length_nil, List.length_tail, List.length_zip, List.length_reverse, List.length_take, List.length_drop, List.length_set, List.length_replicate, List.length_zipIdx, line]) <;> first | omega | (first | exact Mem.out (by assumption) | (with_reducible show (_ : Nat) < _; solve_by_elim (maxDepth := 4) [Mem.out]) | (with_reducible show (_ : Nat) ≤ _; solve_by_elim (maxDepth := 4) [Mem.out]) | (with_reducible show _ ∈ _; solve_by_elim (maxDepth := 4) [Mem.out]) | fail) | (refine Nat.le_trans (List.length_filter_le _ _) ?_; (try simp only [List.length_map, List.length_range, List.length_append, List.length_cons, List.length_nil]) <;> first | omega | (first | exact Mem.out (by assumption) | (with_reducible show (_ : Nat) < _; solve_by_elim (maxDepth := 4) [Mem.out]) | (with_reducible show (_ : Nat) ≤ _; solve_by_elim (maxDepth := 4) [Mem.out]) | (with_reducible show _ ∈ _; solve_by_elim (maxDepth := 4) [Mem.out]) | fail) | fail) | fail)) | fail)) [↓v_var, ↓v_k, ↓v_glob, ↓v_tup, ↓v_list, ↓v_bin, ↓v_neg, ↓t_nt, ↓v_nt, ↓v_and, ↓t_and, ↓v_or, ↓t_or, ↓v_and1, ↓t_and1, ↓v_or1, ↓t_or1, ↓v_and2, ↓t_and2, ↓v_or2, ↓t_or2, ↓t_cmp, ↓v_cmp, ↓t_chain, ↓v_chain, ↓v_ite, ↓t_ite, ↓v_call, ↓v_fnv, ↓v_callv, ↓v_index, ↓v_indexG, ↓v_bi, ↓v_isi, ↓v_idx, ↓v_slc, ↓v_comp, ↓v_comp2, ↓v_dic0, ↓v_get, ↓v_rev, ↓v_dcomp, ↓cTurnD_eq, pairO_v, ↓v_dicd, dispK_eq, pu_nil, pu_cons, keyOk_int, keyOk_str, mkD_ok, ↓compDT_map, compGD_all, ↓qs_pop, ↓qs_augsub, ↓qs_parG, fnM_eq, endM_ret, endM_ite, leaveM_v, nw_leaveM, nw_rev, rev_l, nw_old, asub_eq, nw_put, w2a_lst, w2b_lst, w2a_isl, w2b_isl, w2a_set, w2b_set, w2a_tup, w2b_tup, w2a_len, w2b_len, w2a_idx, w2b_idx, optC_some, optC_none, ↓t_var, ↓t_k, ↓t_call, ↓t_callv, ↓t_idx, ↓t_isi, ↓t_bin, ↓t_bi, ↓l_nil, ↓l_cons, ↓qi_seq, ↓qi_rng1, ↓qi_rng2, ↓i_rng3, ↓qi_zip, ↓qi_enum, ↓okK_v, ↓cTurn_eq, ↓cTurn2_eq, -seqOp, sq_tup, sq_lst, -zipOp, zp_tup, zp_lst, -enumOp, en_lst, -idxOp, idx_tup, idx_lst, idx_l, at_map, at_map0, at_map1, at_mapl, at_0, at_1, at_2, -cmpOp, -isNonS, cm_is, cm_isnot, cm_isb, ns_non, ns_bl, ns_int, ns_tup, ns_lst, ns_l, cm_eqv, cm_nev, cm_eqlv, cm_nelv, cm_lt, cm_le, cm_gt, cm_ge, cm_in_t, cm_in_l, cm_nin_t, cm_nin_l, cm_in_p, cm_nin_p, -binOp, bo_ii, bo_ib, bo_tt, bo_ll, bo_pl, bo_tm, bo_lm, -negOp, ng_i, -isTys, it_of, oo_some, -biOp, qbi_len, qbi_int, qbi_abs, qbi_sum, qbi_tuple, qbi_list, qbi_sorted, bi_sset, bi_skey, bi_lset, qbi_min1, qbi_max1, qbi_min2, qbi_max2, bi_lr1, bi_tr1, -bLen, ln_t, ln_l, ln_p, -bInt, in_i, in_b, -bAbs, ab_i, -bSum, sm_t, sm_l, -bTuple, tp_t, tp_l, tp_p, -bList, ls_t, ls_l, ls_p, lr_n, -slcOp, sl_t, sl_l, -part?, pt_n, pt_i, -intOnly, io_i, -augOp, au_add, au_sub, -putOp, -isNonC, nnc_non, nnc_int, nnc_var, nnc_bin, nnc_bi, nnc_neg, nnc_idx, -leave, leave_l, take_app, take_self, nw_lst, nw_isl, nw_set, nw_tup, nw_len, nw_idx, nw_leave, nw_add, nw_eq, nw_ne, cut_ton, cut_fromn, -getS, gs_some, gs_none, gs_succ, -bindG, -bindGs, -wipeS, -pures?, -setAll, bg_name, bg_tup, bg_lst, bgs_nil, bgs_cons, wp_nil, wp_cons, pr_nil, pr_cons, sa_nil, sa_cons, ↓seqK_next, ↓seqK_ret, ↓seqK_brk, ↓seqK_cnt, ↓b_nil, ↓b_cons, ↓qs_set, ↓qs_unpack, ↓qs_par, ↓qs_sub, ↓s_aug, ↓qs_app, appIf_ok, ↓qs_expr, ↓s_ifs, ↓qs_ret, ↓qs_retN, ↓qs_brk, ↓qs_cnt, ↓turnF_eq, ↓s_forr, ↓s_whil, ↓qs_freeze, ↓frzO_some, ↓frzO_none, ↓frz_l, ↓frz_v, ↓bd_ok, ↓bd_exc, ↓bd_bad, ↓compLT_nil, ↓compLLT_nil, ↓optB_none, ↓optB_some, ↓truK_eq, ↓blK_eq, ↓tupK_eq, ↓lstK_eq, ↓callG_eq, ↓partO_eq, ↓svP_v, ↓svL_l, ↓endK_ret, ↓endK_next, ↓endK_ite, ↓fn_eq, startB_eq, -fnSem, leave_v, ↓compLT_map, ↓compLLT_map, compG_all, compG_none, compG_some, compG_two, compG_3, ite_int, compGG_all, ↓bd_ite, ite_both, -ite_not, -Classical.ite_not, -List.map_set, ite_okb, -intOp, op_shl, op_shln, op_shr, op_bit, op_and, op_or, op_xor, op_add, op_sub, -mkL, mkL_f, mkL_t, -mkT, mkT_ok, zip_map, enum_map, rng1_n, rng1_i, rng2_n, -rng1Op, -rng2Op, ints_mapf, sumI_map, -ix?, ix_n, ix_n1, ix_i0, ix_i1, ix_i2, eqP_nilL, noFns_map, bit_1, bit_0, -getElem?_pos, -getElem?_neg, get_ith, ith_zero, ith_succ, ith_map, nn, bitV, eqP_tups, eqP_lsts, eqP_enc, anyEq_enc, anyEq_int, anyEq_sets, List.isEmpty_iff, List.filter_eq_nil_iff, cast_inj, setV, pathsV, sysV, stV, F_need_row, d_need_row, e, a1, a2]))
end
end FWP

namespace FWP
open PySem FW
def nth (L : List Rat) (t : Nat) : Rat := L.getD t 0
theorem get_nth {L : List Rat} {t : Nat} (h : t < L.length) : L[t] = nth L t := by simp [nth, h]
theorem nth_ge {L : List Rat} {t : Nat} (h : L.length ≤ t) : nth L t = 0 := by simp [nth, List.getD_eq_getElem?_getD, List.getElem?_eq_none h]
theorem nth_mem {L : List Rat} {t : Nat} (h : t < L.length) : nth L t ∈ L := by rw [← get_nth h]; exact List.getElem_mem h
end FWP

namespace FWP
open PySem FW
section
variable {k l : Nat} {L : List Rat} {q r : Rat} {S : Store}
theorem Bd.sumR : ∀ {R : List Rat}, (∀ q ∈ R, Bd k q) → Bd (1 + (k + 1) * R.length) (sumR R)
  | [], _ => Bd.zero
  | q :: R, h => by
    have a := h q List.mem_cons_self
    have b := Bd.sumR (R := R) fun r hr => h r (List.mem_cons_of_mem _ hr)
    exact (a.add b).mono (by rw [List.length_cons, Nat.mul_succ]; omega)
end
end FWP

namespace FWP
open PySem FW
section
variable {k l : Nat} {L : List Rat} {q r : Rat} {S : Store}
def pwq (q : Rat) : Nat → Rat
  | 0 => 1
  | n + 1 => pwq q n * q
theorem Bd.pwq (h : Bd k q) : ∀ n, Bd (1 + k * n) (pwq q n)
  | 0 => Bd.one
  | n + 1 => ((Bd.pwq h n).mul h).mono (by rw [Nat.mul_succ]; omega)
theorem F_lpower_eq (h : Bd k q) {n : Nat} (hn : n ≤ 1000) (hk : k * n + k + 1 ≤ 12000) : F__law_power [.v (rv q), I n] S = .ok (.v (rv (pwq q n))) S := by
  obtain ⟨ρ', S', e, z, hI, rfl⟩ := forL_inv (f := sTurn (bindG (.name 3)) (evB g__law_power b__law_power_0)) (fun i ρ S' => ∃ z, ρ = [some (.v (rv q)), some (I n), some (.v (rv (pwq q i))), z] ∧ S' = S) ((nats 0 n).map iv) 0 (ρ := [some (.v (rv q)), some (I n), some (.v (rv (pwq q 0))), none]) (S := S) (fun j y ρ S' hy hI => by
    obtain ⟨z, rfl, rfl⟩ := hI
    obtain ⟨t, rfl, ht, hj⟩ := iv_get hy
    rw [Nat.zero_add]
    have hkj : k * j ≤ k * n := Nat.mul_le_mul_left _ (by omega)
    have o := fun S => F_ltimes_eq (S := S) (Bd.pwq h j) h (by omega)
    refine ⟨_, _, ?_, some (.v (iv t)), rfl, rfl⟩
    simp -implicitDefEqProofs [b__law_power_0, o, pwq]) ⟨none, rfl, rfl⟩
  subst hI
  rw [List.length_map, nats_len, Nat.zero_add, Nat.sub_zero] at e
  have e' := for_r1 (Γ := g__law_power) (S := S') (tg := .name 3) (a := .var 1) (c := b__law_power_0) (x := n) (m := n) rfl rfl (by omega) e
  simp only [show pwq q 0 = 1 from rfl, rv_one] at e'
  simp -implicitDefEqProofs [F__law_power, d__law_power, e', line]
end
end FWP

namespace FWP
open PySem FW
def cN (k : Nat) : Nat → Nat → Nat → Nat
  | 0, a, j => if a = 0 ∧ j = 0 then 1 else 0
  | n + 1, 0, j => ((List.range k).map fun a => cN k n a j).sum
  | n + 1, a + 1, 0 => 0
  | n + 1, a + 1, j + 1 => cN k n a j
def cT (k n j : Nat) : Nat := ((List.range k).map fun a => cN k n a j).sum
section
variable {D n k : Nat} {cs : List Rat} {st : List Bool} {S : Store}
theorem rep_snoc (n : Nat) (p : Rat) : List.replicate (n + 1) p = List.replicate n p ++ [p] := List.replicate_succ'
theorem bsum_n {l : List Nat} {S : Store} : bSum (.v (.lst (l.map nn))) S = .ok (.v (nn l.sum)) S := by
  have key : ∀ l : List Nat, ∃ x, ints? (l.map nn) = some x ∧ sumI x = (l.sum : Int) := fun l => by
    induction l with
    | nil => exact ⟨[], rfl, rfl⟩
    | cons a l ih =>
      obtain ⟨x, h1, h2⟩ := ih
      refine ⟨(a : Int) :: x, ?_, ?_⟩
      · rw [List.map_cons]
        show (ints? (l.map nn)).map _ = _
        rw [h1]
        rfl
      · show (a : Int) + sumI x = _
        rw [h2, List.sum_cons]
        omega
  obtain ⟨x, h1, h2⟩ := key l
  rw [sm_l, h1]
  show Out.ok (SV.v (.int (sumI x))) S = _
  rw [h2]
theorem Ch.pwq {q : Rat} (h : Ch D q) : ∀ n, Ch (D ^ n) (pwq q n)
  | 0 => Ch.one
  | n + 1 => (Ch.pwq h n).mul h
end
end FWP

namespace FWP
open PySem FW
section
variable {k l : Nat} {L : List Rat} {S : Store}
end
end FWP

namespace FWP
open PySem FW
section
variable {k l : Nat} {L : List Rat} {S : Store}
end
end FWP

namespace FWP
open PySem FW
section
variable {k l : Nat} {A B L : List Rat} {S : Store}
end
end FWP

namespace FWP
open PySem FW
section
variable {k : Nat} {L : List Rat} {a b c : Rat}
end
end FWP

namespace FWP
open PySem FW
def Sm (F : Nat → Rat) : Nat → Rat
  | 0 => 0
  | n + 1 => Sm F n + F n
theorem Sm_congr {F G : Nat → Rat} : ∀ {n : Nat}, (∀ i, i < n → F i = G i) → Sm F n = Sm G n
  | 0, _ => rfl
  | n + 1, h => by
    show Sm F n + F n = Sm G n + G n
    rw [Sm_congr fun i hi => h i (by omega), h n (by omega)]
theorem Sm_add (F G : Nat → Rat) : ∀ n, Sm (fun i => F i + G i) n = Sm F n + Sm G n
  | 0 => by show (0 : Rat) = 0 + 0; grind
  | n + 1 => by
    show Sm (fun i => F i + G i) n + (F n + G n) = Sm F n + F n + (Sm G n + G n)
    rw [Sm_add F G n]; grind
theorem anti (a b : Nat → Rat) (d : Nat → Nat → Rat) (hd : ∀ s r, d r s = - d s r) : ∀ N, Sm (fun s => Sm (fun r => a s * b r * d s r) N) N = Sm (fun r => Sm (fun s => (a s * b r - a r * b s) * d s r) r) N
  | 0 => rfl
  | N + 1 => by
    have ih := anti a b d hd N
    have h0 : d N N = 0 := by have := hd N N; grind
    show Sm (fun s => Sm (fun r => a s * b r * d s r) N + a s * b N * d s N) N + (Sm (fun r => a N * b r * d N r) N + a N * b N * d N N) = Sm (fun r => Sm (fun s => (a s * b r - a r * b s) * d s r) r) N + Sm (fun s => (a s * b N - a N * b s) * d s N) N
    rw [Sm_add, ih, h0, Sm_congr (F := fun s => (a s * b N - a N * b s) * d s N) (G := fun s => a s * b N * d s N + a N * b s * d N s) fun s _ => by
      show (a s * b N - a N * b s) * d s N = a s * b N * d s N + a N * b s * d N s
      rw [hd s N]; grind, Sm_add]
    grind
structure LC (A : Int → Rat) : Prop where
  nn : ∀ u, 0 ≤ A u
  fall : ∀ u, A (u + 1) ≤ A u
  lc : ∀ a b, a ≤ b → A a * A (b + 1) ≤ A (a + 1) * A b
def cv (A B : Int → Rat) (N : Nat) (j : Int) : Rat := Sm (fun s => A (j - s) * (B ((s : Int) - 1) - B s)) N
theorem parts (K psi : Nat → Rat) (h0 : K 0 = 0) : ∀ n, (∀ i, i < n → 0 ≤ (K (i + 1) - K i) * psi i) → 0 ≤ Sm (fun i => K (i + 1) * (psi i - psi (i + 1))) n + K n * psi n
  | 0, _ => by
    show 0 ≤ (0 : Rat) + K 0 * psi 0
    rw [h0]; grind
  | n + 1, h => by
    have ih := parts K psi h0 n fun i hi => h i (by omega)
    have h1 := h n (by omega)
    show 0 ≤ Sm _ n + K (n + 1) * (psi n - psi (n + 1)) + K (n + 1) * psi (n + 1)
    grind
end FWP

namespace FWP
open PySem FW
section
variable {n m k l : Nat} {A B L : List Rat}
def aI (L : List Rat) (u : Int) : Rat := if u ≤ 0 then 1 else nth L u.toNat
def fr (L : List Rat) (s : Nat) : Rat := aI L ((s : Int) - 1) - aI L s
def Cv (A B : List Rat) (j : Int) : Rat := cv (aI B) (aI A) (A.length + 1) j
def tp (A B : List Rat) (t j : Nat) : Rat := nth A t + Sm (fun s => fr A (s + 1) * nth B (t - (s + 1))) j
theorem Cm.nth {D : Int} (h : ∀ q ∈ L, Cm D q) (t : Nat) : Cm D (nth L t) := by
  by_cases ht : t < L.length
  · exact h _ (nth_mem ht)
  · rw [nth_ge (by omega)]; exact Cm.zero
theorem Cm.aI {D : Int} (h : ∀ q ∈ L, Cm D q) (u : Int) : Cm D (aI L u) := by
  unfold FWP.aI
  split
  · exact Cm.one
  · exact Cm.nth h _
theorem Cm.fr {D : Int} (h : ∀ q ∈ L, Cm D q) (s : Nat) : Cm D (fr L s) := (Cm.aI h _).sub (Cm.aI h _)
theorem Cm.Sm {D : Int} {F : Nat → Rat} : ∀ {n : Nat}, (∀ i, i < n → Cm D (F i)) → Cm D (Sm F n)
  | 0, _ => Cm.zero
  | n + 1, h => (Cm.Sm fun i hi => h i (by omega)).add (h n (by omega))
theorem Cm.tp {D E : Int} (hA : ∀ q ∈ A, Cm D q) (hB : ∀ q ∈ B, Cm E q) (t j : Nat) : Cm (D * E) (tp A B t j) :=
  ((Cm.nth hA t).up E).add (Cm.Sm fun i _ => (Cm.fr hA _).mul (Cm.nth hB _))
def sl (A B : List Rat) : List Rat := (nats 0 (A.length + B.length - 1)).map fun (t : Nat) => Cv A B (t : Int)
end
end FWP

namespace FWP
open PySem FW
section
variable {k l : Nat} {A B L : List Rat} {S : Store}
def fl (L : List Rat) : List Rat := (nats 1 L.length).map fun t => nth L (t - 1) - nth L t
end
end FWP

namespace FWP
open PySem FW
section
variable {n m k l : Nat} {A B L : List Rat} {S : Store}
structure CL (N : Nat) (L : List Rat) (D : Int) : Prop where
  pos : 0 < D
  le : D.toNat ≤ N
  all : ∀ q ∈ L, Cm D q
end
end FWP

namespace FWP
open PySem FW
section
variable {n D : Nat} {P : List (List Nat)} {S : Store} {Ls : List (List Rat)}
structure LifeD (D m : Nat) (L : List Rat) : Prop where
  life : Life 6000 L
  ch : ∀ q ∈ L, Ch D q
  len : L.length ≤ m
end
section
variable {n D m : Nat} {P : List (List Nat)} {S : Store} {Ls : List (List Rat)} {L : List Rat}
end
structure LifeE (m : Nat) (L : List Rat) : Prop where
  life : Life 6000 L
  len : L.length ≤ m + 1
  den : ∃ D : Nat, 0 < D ∧ D ≤ 10 ^ m ∧ ∀ q ∈ L, Ch D q
end FWP

namespace FWP
open PySem FW
structure Fall (f : Nat → Rat) : Prop where
  f0 : f 0 = 1
  nn : ∀ t, 0 ≤ f t
  le : ∀ t, f (t + 1) ≤ f t
section
variable {f : Nat → Rat} {M : Nat}
theorem Fall.mono (h : Fall f) {s t : Nat} (hst : s ≤ t) : f t ≤ f s := by
  induction hst with
  | refl => exact Rat.le_refl
  | step _ ih => exact Rat.le_trans (h.le _) ih
theorem Fall.zero (h : Fall f) {s t : Nat} (hst : s ≤ t) (hs : f s = 0) : f t = 0 := by
  have := h.mono hst
  have := h.nn t
  grind
end
section
variable {n D m : Nat} {P : List (List Nat)} {S : Store} {Ls : List (List Rat)}
end
end FWP

namespace FWP
open PySem FW
section
variable {D E m : Nat} {A B : List Rat} {c : Rat} {S : Store}
structure MixOk (D E : Nat) : Prop where
  d0 : 0 < D
  dK : 2 * D < 2 ^ 1000
  e0 : 0 < E
  eK : 2 * E < 2 ^ 1000
end
end FWP

namespace FWP
open PySem FW
section
variable {n m k : Nat} {P : List (List Nat)} {S : Store} {Ns : List (Nat × List (List Nat))}
abbrev nsV (Ns : List (Nat × List (List Nat))) : PV := .tup (Ns.map fun a => sysV a.1 a.2)
def offN (Ns : List (Nat × List (List Nat))) (k : Nat) : Nat := ((Ns.take k).map Prod.fst).sum
def inB (Ns : List (Nat × List (List Nat))) (m k : Nat) : Bool := wk (ith Ns k).2 fun j => m.testBit (offN Ns k + j)
def outN (Ns : List (Nat × List (List Nat))) (m : Nat) : Nat → Nat
  | 0 => 0
  | k + 1 => outN Ns m k + if inB Ns m k = true then 2 ^ k else 0
theorem offN_succ (h : k < Ns.length) : offN Ns (k + 1) = offN Ns k + (ith Ns k).1 := by
  unfold offN
  rw [List.take_succ, get_ith h]
  simp
theorem outN_lt : ∀ k, outN Ns m k < 2 ^ k
  | 0 => by show (0 : Nat) < 1; decide
  | k + 1 => by
    have := outN_lt k
    rw [Nat.pow_succ]
    unfold outN
    split <;> omega
theorem outN_bit : ∀ (k j : Nat), (outN Ns m k).testBit j = (decide (j < k) && inB Ns m j)
  | 0, j => by
    show (0 : Nat).testBit j = _
    rw [Nat.zero_testBit]
    simp
  | k + 1, j => by
    have hlt := outN_lt (Ns := Ns) (m := m) k
    unfold outN
    by_cases hb : inB Ns m k = true
    · rw [if_pos hb, Nat.add_comm]
      rcases Nat.lt_trichotomy j k with h | h | h
      · rw [Nat.testBit_two_pow_add_gt h, outN_bit k j]
        simp [h, show j < k + 1 by omega]
      · subst h
        rw [Nat.testBit_two_pow_add_eq, outN_bit j j]
        simp [hb]
      · have : 2 ^ k + outN Ns m k < 2 ^ j := by
          have : 2 ^ (k + 1) ≤ 2 ^ j := Nat.pow_le_pow_right (by decide) h
          rw [Nat.pow_succ] at this
          omega
        rw [Nat.testBit_lt_two_pow this]
        simp [show ¬ j < k + 1 by omega]
    · rw [if_neg hb, Nat.add_zero, outN_bit k j]
      by_cases h : j = k
      · subst h
        simp [Bool.not_eq_true] at hb
        simp [hb]
      · by_cases h2 : j < k
        · simp [h2, show j < k + 1 by omega]
        · simp [h2, show ¬ j < k + 1 by omega]
def nestB (P : List (List Nat)) (Ns : List (Nat × List (List Nat))) (m : Nat) : Bool := wk P fun k => inB Ns m k
theorem nest_at (hg : Good n P) (hn : Ns.length = n) : ith (vals n P) (outN Ns m n) = nestB P Ns m := by
  rw [ith_vals (outN_lt n)]
  refine wk_congr fun p hp k hk => ?_
  rw [outN_bit, decide_eq_true (hg.lt p hp k hk), Bool.true_and]
theorem in_at (hg : Good (ith Ns k).1 (ith Ns k).2) : ith (vals (ith Ns k).1 (ith Ns k).2) ((m >>> offN Ns k) &&& (2 ^ (ith Ns k).1 - 1)) = inB Ns m k := by
  have hlt : (m >>> offN Ns k) &&& (2 ^ (ith Ns k).1 - 1) < 2 ^ (ith Ns k).1 := by
    rw [Nat.and_two_pow_sub_one_eq_mod]
    exact Nat.mod_lt _ (Nat.two_pow_pos _)
  rw [ith_vals hlt]
  refine wk_congr fun p hp j hj => ?_
  have := hg.lt p hp j hj
  rw [Nat.testBit_and, Nat.testBit_two_pow_sub_one, decide_eq_true this, Bool.and_true, Nat.testBit_shiftRight]
def tabV (Ns : List (Nat × List (List Nat))) : PV := .lst (Ns.map fun a => .lst ((vals a.1 a.2).map bitV))
theorem n_turn (hN : ∀ a ∈ Ns, Good a.1 a.2) (hk : k < Ns.length) (h8 : offN Ns Ns.length ≤ 8) (hl : Ns.length ≤ 8) (ho : offN Ns k ≤ 8) {w0 w3 w5 w6 w9 w10 : Option SV} : turnF g_nested_values (.name 6) b_nested_values_1 (nn k) [w0, some (.v (nsV Ns)), some (.v (nn m)), w3, some (.v (tabV Ns)), w5, w6, some (.v (nn (outN Ns m k))), some (.v (nn (offN Ns k))), w9, w10] S =
    .ok (.next [w0, some (.v (nsV Ns)), some (.v (nn m)), w3, some (.v (tabV Ns)), w5, some (.v (nn k)), some (.v (nn (outN Ns m (k + 1)))), some (.v (nn (offN Ns (k + 1)))), some (.v (nn (ith Ns k).1)), w10]) S := by
  have hg := hN (ith Ns k) (List.mem_of_getElem? (get_ith hk))
  have hin := in_at (m := m) hg
  obtain ⟨s, hs⟩ : ∃ s, s = (ith Ns k).1 := ⟨_, rfl⟩
  obtain ⟨Q, hQ⟩ : ∃ Q, Q = (ith Ns k).2 := ⟨_, rfl⟩
  have hoff := offN_succ hk
  rw [← hs, ← hQ] at hg hin
  rw [← hs] at hoff
  have h8s := hg.n8
  have hvl := vals_len (n := s) (P := Q)
  obtain ⟨i, hi⟩ : ∃ i, i = (m >>> offN Ns k) &&& (2 ^ s - 1) := ⟨_, rfl⟩
  have hil : i < (vals s Q).length := by
    rw [hvl, hi, Nat.and_two_pow_sub_one_eq_mod]
    exact Nat.mod_lt _ (Nat.two_pow_pos _)
  rw [← hi] at hin
  have i1 : ∀ S, idxOp (.v (nsV Ns)) (.v (.int (k : Int))) S = .ok (.v (sysV s Q)) S := fun S => by
    rw [idx_tup, at_map hk, ← hs, ← hQ]
    rfl
  have i2 : ∀ S, idxOp (.v (tabV Ns)) (.v (.int (k : Int))) S = .ok (.v (.lst ((vals s Q).map bitV))) S := fun S => by
    unfold tabV
    rw [idx_lst, at_map hk, ← hs, ← hQ]
    rfl
  have i3 : ∀ S, idxOp (.v (.lst ((vals s Q).map bitV))) (.v (.int (i : Int))) S = .ok (.v (bitV (inB Ns m k))) S := fun S => by
    rw [idx_lst, at_map hil, hin]
    rfl
  have hand : intOp .band ((shrN m (offN Ns k) : Nat) : Int) (((bitN s : Nat) : Int) - 1) = some (i : Int) := by
    have : ((bitN s : Nat) : Int) - 1 = ((2 ^ s - 1 : Nat) : Int) := by
      have : 0 < 2 ^ s := Nat.two_pow_pos s
      show ((2 ^ s : Nat) : Int) - 1 = _
      omega
    rw [this, op_and, hi]
    rfl
  have hshl : intOp .shl 0 (k : Int) = some 0 := by
    have := op_shln (a := 0) (k := k) (by omega) (by decide)
    rw [Nat.zero_mul] at this
    exact this
  have hout : outN Ns m (k + 1) = outN Ns m k + if inB Ns m k = true then bitN k else 0 := rfl
  rw [hout, hoff, ← hs]
  cases hb : inB Ns m k
  · rw [hb] at i3
    ((simp -implicitDefEqProofs -dsimp (disch := (first | with_reducible assumption | exact Mem.out (by assumption) | (((try simp only [List.length_map, List.length_range, List.length_append, List.length_cons, List.length_nil, List.length_tail, List.length_zip, List.length_reverse, List.length_take, List.length_drop, List.length_set, List.length_replicate, List.length_zipIdx, line]) <;> first | omega | (first | exact Mem.out (by assumption) | (with_reducible show (_ : Nat) < _; solve_by_elim (maxDepth := 4) [Mem.out]) | (with_reducible show (_ : Nat) ≤ _; solve_by_elim (maxDepth := 4) [Mem.out]) | (with_reducible show _ ∈ _; solve_by_elim (maxDepth := 4) [Mem.out]) | fail) | (refine Nat.le_trans (List.length_filter_le _ _) ?_; (try simp only [List.length_map, List.length_range, List.length_append, List.length_cons, List.length_nil]) <;> first | omega | (first | exact Mem.out (by assumption) | (with_reducible show (_ : Nat) < _; solve_by_elim (maxDepth := 4) [Mem.out]) | (with_reducible show (_ : Nat) ≤ _; solve_by_elim (maxDepth := 4) [Mem.out]) | (with_reducible show _ ∈ _; solve_by_elim (maxDepth := 4) [Mem.out]) | fail) | fail) | fail)) | fail)) [↓v_var, ↓v_k, ↓v_glob, ↓v_tup, ↓v_list, ↓v_bin, ↓v_neg, ↓t_nt, ↓v_nt, ↓v_and, ↓t_and, ↓v_or, ↓t_or, ↓v_and1, ↓t_and1, ↓v_or1, ↓t_or1, ↓v_and2, ↓t_and2, ↓v_or2, ↓t_or2, ↓t_cmp, ↓v_cmp, ↓t_chain, ↓v_chain, ↓v_ite, ↓t_ite, ↓v_call, ↓v_fnv, ↓v_callv, ↓v_index, ↓v_indexG, ↓v_bi, ↓v_isi, ↓v_idx, ↓v_slc, ↓v_comp, ↓v_comp2, ↓v_dic0, ↓v_get, ↓v_rev, ↓v_dcomp, ↓cTurnD_eq, pairO_v, ↓v_dicd, dispK_eq, pu_nil, pu_cons, keyOk_int, keyOk_str, mkD_ok, ↓compDT_map, compGD_all, ↓qs_pop, ↓qs_augsub, ↓qs_parG, fnM_eq, endM_ret, endM_ite, leaveM_v, nw_leaveM, nw_rev, rev_l, nw_old, asub_eq, nw_put, w2a_lst, w2b_lst, w2a_isl, w2b_isl, w2a_set, w2b_set, w2a_tup, w2b_tup, w2a_len, w2b_len, w2a_idx, w2b_idx, optC_some, optC_none, ↓t_var, ↓t_k, ↓t_call, ↓t_callv, ↓t_idx, ↓t_isi, ↓t_bin, ↓t_bi, ↓l_nil, ↓l_cons, ↓qi_seq, ↓qi_rng1, ↓qi_rng2, ↓i_rng3, ↓qi_zip, ↓qi_enum, ↓okK_v, ↓cTurn_eq, ↓cTurn2_eq, -seqOp, sq_tup, sq_lst, -zipOp, zp_tup, zp_lst, -enumOp, en_lst, -idxOp, idx_tup, idx_lst, idx_l, at_map, at_map0, at_map1, at_mapl, at_0, at_1, at_2, -cmpOp, -isNonS, cm_is, cm_isnot, cm_isb, ns_non, ns_bl, ns_int, ns_tup, ns_lst, ns_l, cm_eqv, cm_nev, cm_eqlv, cm_nelv, cm_lt, cm_le, cm_gt, cm_ge, cm_in_t, cm_in_l, cm_nin_t, cm_nin_l, cm_in_p, cm_nin_p, -binOp, bo_ii, bo_ib, bo_tt, bo_ll, bo_pl, bo_tm, bo_lm, -negOp, ng_i, -isTys, it_of, oo_some, -biOp, qbi_len, qbi_int, qbi_abs, qbi_sum, qbi_tuple, qbi_list, qbi_sorted, bi_sset, bi_skey, bi_lset, qbi_min1, qbi_max1, qbi_min2, qbi_max2, bi_lr1, bi_tr1, -bLen, ln_t, ln_l, ln_p, -bInt, in_i, in_b, -bAbs, ab_i, -bSum, sm_t, sm_l, -bTuple, tp_t, tp_l, tp_p, -bList, ls_t, ls_l, ls_p, lr_n, -slcOp, sl_t, sl_l, -part?, pt_n, pt_i, -intOnly, io_i, -augOp, au_add, au_sub, -putOp, -isNonC, nnc_non, nnc_int, nnc_var, nnc_bin, nnc_bi, nnc_neg, nnc_idx, -leave, leave_l, take_app, take_self, nw_lst, nw_isl, nw_set, nw_tup, nw_len, nw_idx, nw_leave, nw_add, nw_eq, nw_ne, cut_ton, cut_fromn, -getS, gs_some, gs_none, gs_succ, -bindG, -bindGs, -wipeS, -pures?, -setAll, bg_name, bg_tup, bg_lst, bgs_nil, bgs_cons, wp_nil, wp_cons, pr_nil, pr_cons, sa_nil, sa_cons, ↓seqK_next, ↓seqK_ret, ↓seqK_brk, ↓seqK_cnt, ↓b_nil, ↓b_cons, ↓qs_set, ↓qs_unpack, ↓qs_par, ↓qs_sub, ↓s_aug, ↓qs_app, appIf_ok, ↓qs_expr, ↓s_ifs, ↓qs_ret, ↓qs_retN, ↓qs_brk, ↓qs_cnt, ↓turnF_eq, ↓s_forr, ↓s_whil, ↓qs_freeze, ↓frzO_some, ↓frzO_none, ↓frz_l, ↓frz_v, ↓bd_ok, ↓bd_exc, ↓bd_bad, ↓compLT_nil, ↓compLLT_nil, ↓optB_none, ↓optB_some, ↓truK_eq, ↓blK_eq, ↓tupK_eq, ↓lstK_eq, ↓callG_eq, ↓partO_eq, ↓svP_v, ↓svL_l, ↓endK_ret, ↓endK_next, ↓endK_ite, ↓fn_eq, startB_eq, -fnSem, leave_v, ↓compLT_map, ↓compLLT_map, compG_all, compG_none, compG_some, compG_two, compG_3, ite_int, compGG_all, ↓bd_ite, ite_both, -ite_not, -Classical.ite_not, -List.map_set, ite_okb, -intOp, op_shl, op_shln, op_shr, op_bit, op_and, op_or, op_xor, op_add, op_sub, -mkL, mkL_f, mkL_t, -mkT, mkT_ok, zip_map, enum_map, rng1_n, rng1_i, rng2_n, -rng1Op, -rng2Op, ints_mapf, sumI_map, -ix?, ix_n, ix_n1, ix_i0, ix_i1, ix_i2, eqP_nilL, noFns_map, bit_1, bit_0, -getElem?_pos, -getElem?_neg, get_ith, ith_zero, ith_succ, ith_map, nn, bitV, eqP_tups, eqP_lsts, eqP_enc, anyEq_enc, anyEq_int, anyEq_sets, List.isEmpty_iff, List.filter_eq_nil_iff, cast_inj, setV, pathsV, sysV, stV, b_nested_values_1, i1, i2, i3, hand, hshl]))
  · rw [hb] at i3
    ((simp -implicitDefEqProofs -dsimp (disch := (first | with_reducible assumption | exact Mem.out (by assumption) | (((try simp only [List.length_map, List.length_range, List.length_append, List.length_cons, List.length_nil, List.length_tail, List.length_zip, List.length_reverse, List.length_take, List.length_drop, List.length_set, List.length_replicate, List.length_zipIdx, line]) <;> first | omega | (first | exact Mem.out (by assumption) | (with_reducible show (_ : Nat) < _; solve_by_elim (maxDepth := 4) [Mem.out]) | (with_reducible show (_ : Nat) ≤ _; solve_by_elim (maxDepth := 4) [Mem.out]) | (with_reducible show _ ∈ _; solve_by_elim (maxDepth := 4) [Mem.out]) | fail) | (refine Nat.le_trans (List.length_filter_le _ _) ?_; (try simp only [List.length_map, List.length_range, List.length_append, List.length_cons, List.length_nil]) <;> first | omega | (first | exact Mem.out (by assumption) | (with_reducible show (_ : Nat) < _; solve_by_elim (maxDepth := 4) [Mem.out]) | (with_reducible show (_ : Nat) ≤ _; solve_by_elim (maxDepth := 4) [Mem.out]) | (with_reducible show _ ∈ _; solve_by_elim (maxDepth := 4) [Mem.out]) | fail) | fail) | fail)) | fail)) [↓v_var, ↓v_k, ↓v_glob, ↓v_tup, ↓v_list, ↓v_bin, ↓v_neg, ↓t_nt, ↓v_nt, ↓v_and, ↓t_and, ↓v_or, ↓t_or, ↓v_and1, ↓t_and1, ↓v_or1, ↓t_or1, ↓v_and2, ↓t_and2, ↓v_or2, ↓t_or2, ↓t_cmp, ↓v_cmp, ↓t_chain, ↓v_chain, ↓v_ite, ↓t_ite, ↓v_call, ↓v_fnv, ↓v_callv, ↓v_index, ↓v_indexG, ↓v_bi, ↓v_isi, ↓v_idx, ↓v_slc, ↓v_comp, ↓v_comp2, ↓v_dic0, ↓v_get, ↓v_rev, ↓v_dcomp, ↓cTurnD_eq, pairO_v, ↓v_dicd, dispK_eq, pu_nil, pu_cons, keyOk_int, keyOk_str, mkD_ok, ↓compDT_map, compGD_all, ↓qs_pop, ↓qs_augsub, ↓qs_parG, fnM_eq, endM_ret, endM_ite, leaveM_v, nw_leaveM, nw_rev, rev_l, nw_old, asub_eq, nw_put, w2a_lst, w2b_lst, w2a_isl, w2b_isl, w2a_set, w2b_set, w2a_tup, w2b_tup, w2a_len, w2b_len, w2a_idx, w2b_idx, optC_some, optC_none, ↓t_var, ↓t_k, ↓t_call, ↓t_callv, ↓t_idx, ↓t_isi, ↓t_bin, ↓t_bi, ↓l_nil, ↓l_cons, ↓qi_seq, ↓qi_rng1, ↓qi_rng2, ↓i_rng3, ↓qi_zip, ↓qi_enum, ↓okK_v, ↓cTurn_eq, ↓cTurn2_eq, -seqOp, sq_tup, sq_lst, -zipOp, zp_tup, zp_lst, -enumOp, en_lst, -idxOp, idx_tup, idx_lst, idx_l, at_map, at_map0, at_map1, at_mapl, at_0, at_1, at_2, -cmpOp, -isNonS, cm_is, cm_isnot, cm_isb, ns_non, ns_bl, ns_int, ns_tup, ns_lst, ns_l, cm_eqv, cm_nev, cm_eqlv, cm_nelv, cm_lt, cm_le, cm_gt, cm_ge, cm_in_t, cm_in_l, cm_nin_t, cm_nin_l, cm_in_p, cm_nin_p, -binOp, bo_ii, bo_ib, bo_tt, bo_ll, bo_pl, bo_tm, bo_lm, -negOp, ng_i, -isTys, it_of, oo_some, -biOp, qbi_len, qbi_int, qbi_abs, qbi_sum, qbi_tuple, qbi_list, qbi_sorted, bi_sset, bi_skey, bi_lset, qbi_min1, qbi_max1, qbi_min2, qbi_max2, bi_lr1, bi_tr1, -bLen, ln_t, ln_l, ln_p, -bInt, in_i, in_b, -bAbs, ab_i, -bSum, sm_t, sm_l, -bTuple, tp_t, tp_l, tp_p, -bList, ls_t, ls_l, ls_p, lr_n, -slcOp, sl_t, sl_l, -part?, pt_n, pt_i, -intOnly, io_i, -augOp, au_add, au_sub, -putOp, -isNonC, nnc_non, nnc_int, nnc_var, nnc_bin, nnc_bi, nnc_neg, nnc_idx, -leave, leave_l, take_app, take_self, nw_lst, nw_isl, nw_set, nw_tup, nw_len, nw_idx, nw_leave, nw_add, nw_eq, nw_ne, cut_ton, cut_fromn, -getS, gs_some, gs_none, gs_succ, -bindG, -bindGs, -wipeS, -pures?, -setAll, bg_name, bg_tup, bg_lst, bgs_nil, bgs_cons, wp_nil, wp_cons, pr_nil, pr_cons, sa_nil, sa_cons, ↓seqK_next, ↓seqK_ret, ↓seqK_brk, ↓seqK_cnt, ↓b_nil, ↓b_cons, ↓qs_set, ↓qs_unpack, ↓qs_par, ↓qs_sub, ↓s_aug, ↓qs_app, appIf_ok, ↓qs_expr, ↓s_ifs, ↓qs_ret, ↓qs_retN, ↓qs_brk, ↓qs_cnt, ↓turnF_eq, ↓s_forr, ↓s_whil, ↓qs_freeze, ↓frzO_some, ↓frzO_none, ↓frz_l, ↓frz_v, ↓bd_ok, ↓bd_exc, ↓bd_bad, ↓compLT_nil, ↓compLLT_nil, ↓optB_none, ↓optB_some, ↓truK_eq, ↓blK_eq, ↓tupK_eq, ↓lstK_eq, ↓callG_eq, ↓partO_eq, ↓svP_v, ↓svL_l, ↓endK_ret, ↓endK_next, ↓endK_ite, ↓fn_eq, startB_eq, -fnSem, leave_v, ↓compLT_map, ↓compLLT_map, compG_all, compG_none, compG_some, compG_two, compG_3, ite_int, compGG_all, ↓bd_ite, ite_both, -ite_not, -Classical.ite_not, -List.map_set, ite_okb, -intOp, op_shl, op_shln, op_shr, op_bit, op_and, op_or, op_xor, op_add, op_sub, -mkL, mkL_f, mkL_t, -mkT, mkT_ok, zip_map, enum_map, rng1_n, rng1_i, rng2_n, -rng1Op, -rng2Op, ints_mapf, sumI_map, -ix?, ix_n, ix_n1, ix_i0, ix_i1, ix_i2, eqP_nilL, noFns_map, bit_1, bit_0, -getElem?_pos, -getElem?_neg, get_ith, ith_zero, ith_succ, ith_map, nn, bitV, eqP_tups, eqP_lsts, eqP_enc, anyEq_enc, anyEq_int, anyEq_sets, List.isEmpty_iff, List.filter_eq_nil_iff, cast_inj, setV, pathsV, sysV, stV, b_nested_values_1, i1, i2, i3, hand]))
theorem off_mono {j : Nat} (h : j ≤ k) : offN Ns j ≤ offN Ns k := by
  unfold offN
  obtain ⟨d, rfl⟩ : ∃ d, k = j + d := ⟨k - j, by omega⟩
  rw [List.take_add, List.map_append, List.sum_append]
  omega
theorem n_loop (hN : ∀ a ∈ Ns, Good a.1 a.2) (h8 : offN Ns Ns.length ≤ 8) (hl : Ns.length ≤ 8) {w0 w3 w5 w10 : Option SV} : ∀ (d k : Nat) (w6 w9), k + d = Ns.length → ∃ w6' w9', forL (turnF g_nested_values (.name 6) b_nested_values_1) [] ((List.range' k d).map nn) [w0, some (.v (nsV Ns)), some (.v (nn m)), w3, some (.v (tabV Ns)), w5, w6, some (.v (nn (outN Ns m k))), some (.v (nn (offN Ns k))), w9, w10] S =
    .ok (.next [w0, some (.v (nsV Ns)), some (.v (nn m)), w3, some (.v (tabV Ns)), w5, w6', some (.v (nn (outN Ns m Ns.length))), some (.v (nn (offN Ns Ns.length))), w9', w10]) S
  | 0, k, w6, w9, h => by
    obtain rfl : k = Ns.length := by omega
    exact ⟨w6, w9, rfl⟩
  | d + 1, k, w6, w9, h => by
    have hk : k < Ns.length := by omega
    obtain ⟨x, y, e⟩ := n_loop hN h8 hl (w0 := w0) (w3 := w3) (w5 := w5) (w10 := w10) d (k + 1) (some (.v (nn k))) (some (.v (nn (ith Ns k).1))) (by omega)
    refine ⟨x, y, ?_⟩
    rw [List.range'_succ, List.map_cons, forL_cons (n_turn hN hk h8 hl (Nat.le_trans (off_mono (by omega)) h8))]
    exact e
theorem p_turn (hg : Good n P) (hn : Ns.length = n) (hN : ∀ a ∈ Ns, Good a.1 a.2) (h8 : offN Ns Ns.length ≤ 8) {L : List Bool} (hL : L.length ≤ 1000) {w0 w2 w6 w7 w8 w9 w10 : Option SV} : ∃ w6' w7' w8' w9', turnF g_nested_values (.name 2) b_nested_values_0 (nn m) [w0, some (.v (nsV Ns)), w2, some (.v (.lst ((vals n P).map bitV))), some (.v (tabV Ns)), some (.l S.length), w6, w7, w8, w9, w10] (S ++ [.lst (L.map bitV)]) =
    .ok (.next [w0, some (.v (nsV Ns)), some (.v (nn m)), some (.v (.lst ((vals n P).map bitV))), some (.v (tabV Ns)), some (.l S.length), w6', w7', w8', w9', w10]) (S ++ [.lst ((L ++ [nestB P Ns m]).map bitV)]) := by
  have hn8 := hg.n8
  obtain ⟨x, y, e⟩ := n_loop (S := S ++ [.lst (L.map bitV)]) (m := m) hN h8 (by omega) (w0 := w0) (w3 := some (.v (.lst ((vals n P).map bitV)))) (w5 := some (.l S.length)) (w10 := w10) Ns.length 0 w6 w9 (by omega)
  have o0 : outN Ns m 0 = 0 := rfl
  have o1 : offN Ns 0 = 0 := rfl
  rw [o0, o1, ← List.range_eq_range', show nn 0 = PV.int 0 from rfl] at e
  have hat := nest_at (m := m) hg hn
  rw [hn] at e
  have hlt := outN_lt (Ns := Ns) (m := m) n
  have hvl := vals_len (n := n) (P := P)
  have i1 : ∀ S, idxOp (.v (.lst ((vals n P).map bitV))) (.v (.int (outN Ns m n : Int))) S = .ok (.v (bitV (nestB P Ns m))) S := fun S => by
    rw [idx_lst, at_map (by rw [hvl]; exact hlt), hat]
    rfl
  have e8 : ∀ S, bLen (.v (nsV Ns)) S = .ok (.v (.int (n : Int))) S := fun S => by
    rw [ln_t, List.length_map, hn]
  obtain ⟨b, hb⟩ : ∃ b, b = nestB P Ns m := ⟨_, rfl⟩
  rw [← hb] at i1 ⊢
  refine ⟨x, some (.v (nn (outN Ns m n))), some (.v (nn (offN Ns n))), y, ?_⟩
  cases b <;> ((simp -implicitDefEqProofs -dsimp (disch := (first | with_reducible assumption | exact Mem.out (by assumption) | (((try simp only [List.length_map, List.length_range, List.length_append, List.length_cons, List.length_nil, List.length_tail, List.length_zip, List.length_reverse, List.length_take, List.length_drop, List.length_set, List.length_replicate, List.length_zipIdx, line]) <;> first | omega | (first | exact Mem.out (by assumption) | (with_reducible show (_ : Nat) < _; solve_by_elim (maxDepth := 4) [Mem.out]) | (with_reducible show (_ : Nat) ≤ _; solve_by_elim (maxDepth := 4) [Mem.out]) | (with_reducible show _ ∈ _; solve_by_elim (maxDepth := 4) [Mem.out]) | fail) | (refine Nat.le_trans (List.length_filter_le _ _) ?_; (try simp only [List.length_map, List.length_range, List.length_append, List.length_cons, List.length_nil]) <;> first | omega | (first | exact Mem.out (by assumption) | (with_reducible show (_ : Nat) < _; solve_by_elim (maxDepth := 4) [Mem.out]) | (with_reducible show (_ : Nat) ≤ _; solve_by_elim (maxDepth := 4) [Mem.out]) | (with_reducible show _ ∈ _; solve_by_elim (maxDepth := 4) [Mem.out]) | fail) | fail) | fail)) | fail)) [↓v_var, ↓v_k, ↓v_glob, ↓v_tup, ↓v_list, ↓v_bin, ↓v_neg, ↓t_nt, ↓v_nt, ↓v_and, ↓t_and, ↓v_or, ↓t_or, ↓v_and1, ↓t_and1, ↓v_or1, ↓t_or1, ↓v_and2, ↓t_and2, ↓v_or2, ↓t_or2, ↓t_cmp, ↓v_cmp, ↓t_chain, ↓v_chain, ↓v_ite, ↓t_ite, ↓v_call, ↓v_fnv, ↓v_callv, ↓v_index, ↓v_indexG, ↓v_bi, ↓v_isi, ↓v_idx, ↓v_slc, ↓v_comp, ↓v_comp2, ↓v_dic0, ↓v_get, ↓v_rev, ↓v_dcomp, ↓cTurnD_eq, pairO_v, ↓v_dicd, dispK_eq, pu_nil, pu_cons, keyOk_int, keyOk_str, mkD_ok, ↓compDT_map, compGD_all, ↓qs_pop, ↓qs_augsub, ↓qs_parG, fnM_eq, endM_ret, endM_ite, leaveM_v, nw_leaveM, nw_rev, rev_l, nw_old, asub_eq, nw_put, w2a_lst, w2b_lst, w2a_isl, w2b_isl, w2a_set, w2b_set, w2a_tup, w2b_tup, w2a_len, w2b_len, w2a_idx, w2b_idx, optC_some, optC_none, ↓t_var, ↓t_k, ↓t_call, ↓t_callv, ↓t_idx, ↓t_isi, ↓t_bin, ↓t_bi, ↓l_nil, ↓l_cons, ↓qi_seq, ↓qi_rng1, ↓qi_rng2, ↓i_rng3, ↓qi_zip, ↓qi_enum, ↓okK_v, ↓cTurn_eq, ↓cTurn2_eq, -seqOp, sq_tup, sq_lst, -zipOp, zp_tup, zp_lst, -enumOp, en_lst, -idxOp, idx_tup, idx_lst, idx_l, at_map, at_map0, at_map1, at_mapl, at_0, at_1, at_2, -cmpOp, -isNonS, cm_is, cm_isnot, cm_isb, ns_non, ns_bl, ns_int, ns_tup, ns_lst, ns_l, cm_eqv, cm_nev, cm_eqlv, cm_nelv, cm_lt, cm_le, cm_gt, cm_ge, cm_in_t, cm_in_l, cm_nin_t, cm_nin_l, cm_in_p, cm_nin_p, -binOp, bo_ii, bo_ib, bo_tt, bo_ll, bo_pl, bo_tm, bo_lm, -negOp, ng_i, -isTys, it_of, oo_some, -biOp, qbi_len, qbi_int, qbi_abs, qbi_sum, qbi_tuple, qbi_list, qbi_sorted, bi_sset, bi_skey, bi_lset, qbi_min1, qbi_max1, qbi_min2, qbi_max2, bi_lr1, bi_tr1, -bLen, ln_t, ln_l, ln_p, -bInt, in_i, in_b, -bAbs, ab_i, -bSum, sm_t, sm_l, -bTuple, tp_t, tp_l, tp_p, -bList, ls_t, ls_l, ls_p, lr_n, -slcOp, sl_t, sl_l, -part?, pt_n, pt_i, -intOnly, io_i, -augOp, au_add, au_sub, -putOp, -isNonC, nnc_non, nnc_int, nnc_var, nnc_bin, nnc_bi, nnc_neg, nnc_idx, -leave, leave_l, take_app, take_self, nw_lst, nw_isl, nw_set, nw_tup, nw_len, nw_idx, nw_leave, nw_add, nw_eq, nw_ne, cut_ton, cut_fromn, -getS, gs_some, gs_none, gs_succ, -bindG, -bindGs, -wipeS, -pures?, -setAll, bg_name, bg_tup, bg_lst, bgs_nil, bgs_cons, wp_nil, wp_cons, pr_nil, pr_cons, sa_nil, sa_cons, ↓seqK_next, ↓seqK_ret, ↓seqK_brk, ↓seqK_cnt, ↓b_nil, ↓b_cons, ↓qs_set, ↓qs_unpack, ↓qs_par, ↓qs_sub, ↓s_aug, ↓qs_app, appIf_ok, ↓qs_expr, ↓s_ifs, ↓qs_ret, ↓qs_retN, ↓qs_brk, ↓qs_cnt, ↓turnF_eq, ↓s_forr, ↓s_whil, ↓qs_freeze, ↓frzO_some, ↓frzO_none, ↓frz_l, ↓frz_v, ↓bd_ok, ↓bd_exc, ↓bd_bad, ↓compLT_nil, ↓compLLT_nil, ↓optB_none, ↓optB_some, ↓truK_eq, ↓blK_eq, ↓tupK_eq, ↓lstK_eq, ↓callG_eq, ↓partO_eq, ↓svP_v, ↓svL_l, ↓endK_ret, ↓endK_next, ↓endK_ite, ↓fn_eq, startB_eq, -fnSem, leave_v, ↓compLT_map, ↓compLLT_map, compG_all, compG_none, compG_some, compG_two, compG_3, ite_int, compGG_all, ↓bd_ite, ite_both, -ite_not, -Classical.ite_not, -List.map_set, ite_okb, -intOp, op_shl, op_shln, op_shr, op_bit, op_and, op_or, op_xor, op_add, op_sub, -mkL, mkL_f, mkL_t, -mkT, mkT_ok, zip_map, enum_map, rng1_n, rng1_i, rng2_n, -rng1Op, -rng2Op, ints_mapf, sumI_map, -ix?, ix_n, ix_n1, ix_i0, ix_i1, ix_i2, eqP_nilL, noFns_map, bit_1, bit_0, -getElem?_pos, -getElem?_neg, get_ith, ith_zero, ith_succ, ith_map, nn, bitV, eqP_tups, eqP_lsts, eqP_enc, anyEq_enc, anyEq_int, anyEq_sets, List.isEmpty_iff, List.filter_eq_nil_iff, cast_inj, setV, pathsV, sysV, stV, b_nested_values_0, e8, e, i1]))
end
end FWP

namespace FWP
open PySem FW
structure Blk where
  n : Nat
  P : List (List Nat)
  cs : List Rat
instance : Inhabited Blk := ⟨⟨0, [], []⟩⟩
end FWP

namespace FWP
open PySem FW
section
variable {k n f : Nat} {s st : List Bool} {cs : List Rat} {D : Nat}
end
end FWP

namespace FWP
open PySem FW
section
variable {k n : Nat} {cs : List Rat} {D : Nat} {S : Store}
end
end FWP

namespace FWP
open PySem FW
def rRow (k n r : Nat) (L : List Nat) : List (Nat × Int) := L.map fun j => (j + r, (cT k (n - r - 2) j : Int) * ((r : Int) + 1))
def rU (k n r : Nat) : List (Nat × Int) := if r + 1 = n then [(r, (n : Int))] else rRow k n r (List.range (n - r - 2 + 1))
section
variable {k n r : Nat} {S : Store}
end
end FWP

namespace FWP
open PySem FW
theorem bin_n0 : ∀ n, bin n 0 = 1
  | 0 => rfl
  | n + 1 => rfl
theorem bin_s (n k : Nat) : bin (n + 1) (k + 1) = bin n k + bin n (k + 1) := rfl
theorem binGt : ∀ {n k : Nat}, n < k → bin n k = 0
  | _, 0, h => by omega
  | 0, k + 1, h => rfl
  | n + 1, k + 1, h => by rw [bin_s, binGt (by omega), binGt (by omega)]
theorem bin_le : ∀ n k : Nat, bin n k ≤ 2 ^ n
  | n, 0 => by rw [bin_n0]; exact Nat.one_le_two_pow
  | 0, k + 1 => Nat.zero_le _
  | n + 1, k + 1 => by
    have h1 := bin_le n k
    have h2 := bin_le n (k + 1)
    rw [bin_s, Nat.pow_succ]
    omega
theorem bin_step : ∀ n k : Nat, (bin n k : Int) * ((n : Int) - (k : Int)) = ((k : Int) + 1) * (bin n (k + 1) : Int)
  | 0, 0 => rfl
  | 0, k + 1 => by
    rw [binGt (n := 0) (k := k + 1) (by omega), binGt (n := 0) (k := k + 1 + 1) (by omega)]
    simp
  | n + 1, 0 => by
    have h := bin_step n 0
    rw [bin_n0] at h
    rw [bin_s, bin_n0, bin_n0]
    push_cast at *
    grind
  | n + 1, k + 1 => by
    have h1 := bin_step n k
    have h2 := bin_step n (k + 1)
    rw [bin_s, bin_s]
    push_cast at *
    grind
def sN (f : Nat → Int) : Nat → Int
  | 0 => 0
  | n + 1 => sN f n + f n
section
variable {k : Nat}
end
section
variable {k n : Nat} {S : Store}
theorem lcz_turn {m k : Nat} (hm : m ≤ 120) {w1 w3 : Option SV} (hk : k ≤ 120) : turnF g__law_choose (.name 3) b__law_choose_0 (nn k) [some (.v (nn m)), w1, some (.v (nn (bin m k))), w3] S =
    .ok (.next [some (.v (nn m)), w1, some (.v (nn (bin m (k + 1)))), some (.v (nn k))]) S := by
  have hb : bin m k < 2 ^ 121 := by
    have h1 := bin_le m k
    have h2 : 2 ^ m ≤ 2 ^ 120 := Nat.pow_le_pow_right (by decide) hm
    have h3 : (2 : Nat) ^ 120 < 2 ^ 121 := by decide
    omega
  have hst := bin_step m k
  obtain ⟨B, hB⟩ : ∃ B, B = bin m k := ⟨_, rfl⟩
  obtain ⟨C, hC⟩ : ∃ C, C = bin m (k + 1) := ⟨_, rfl⟩
  rw [← hB, ← hC] at hst
  rw [← hB] at hb
  rw [← hB, ← hC]
  have m1 : intOp .mul (B : Int) ((m : Int) - (k : Int)) = some (((k : Int) + 1) * (C : Int)) := by
    have := mulOk_of (a := (B : Int)) (b := (m : Int) - (k : Int)) (k := 121) (l := 16) (by omega) (by omega) (by decide)
    simp only [intOp, this, if_true, hst]
  have hC2 : C < 2 ^ 121 := by
    have h1 := bin_le m (k + 1)
    have h2 : 2 ^ m ≤ 2 ^ 120 := Nat.pow_le_pow_right (by decide) hm
    have h3 : (2 : Nat) ^ 120 < 2 ^ 121 := by decide
    omega
  have m2 : intOp .fdiv (((k : Int) + 1) * (C : Int)) ((k : Int) + 1) = some (C : Int) := by
    have hd := divOk_of (a := ((k : Int) + 1) * (C : Int)) (b := (k : Int) + 1) (by omega) (by
      rw [Int.natAbs_mul]
      have h4 : ((k : Int) + 1).natAbs ≤ 2 ^ 7 := by
        have : (2 : Nat) ^ 7 = 128 := by decide
        omega
      calc _ ≤ 2 ^ 7 * 2 ^ 121 := Nat.mul_le_mul h4 (by omega)
        _ < 2 ^ 13000 := by rw [← Nat.pow_add]; exact Nat.pow_lt_pow_right (by decide) (by decide))
    simp only [intOp, hd, if_true]
    rw [Int.mul_fdiv_cancel_left _ (by omega)]
  ((simp -implicitDefEqProofs -dsimp (disch := (first | with_reducible assumption | exact Mem.out (by assumption) | (((try simp only [List.length_map, List.length_range, List.length_append, List.length_cons, List.length_nil, List.length_tail, List.length_zip, List.length_reverse, List.length_take, List.length_drop, List.length_set, List.length_replicate, List.length_zipIdx, line]) <;> first | omega | (first | exact Mem.out (by assumption) | (with_reducible show (_ : Nat) < _; solve_by_elim (maxDepth := 4) [Mem.out]) | (with_reducible show (_ : Nat) ≤ _; solve_by_elim (maxDepth := 4) [Mem.out]) | (with_reducible show _ ∈ _; solve_by_elim (maxDepth := 4) [Mem.out]) | fail) | (refine Nat.le_trans (List.length_filter_le _ _) ?_; (try simp only [List.length_map, List.length_range, List.length_append, List.length_cons, List.length_nil]) <;> first | omega | (first | exact Mem.out (by assumption) | (with_reducible show (_ : Nat) < _; solve_by_elim (maxDepth := 4) [Mem.out]) | (with_reducible show (_ : Nat) ≤ _; solve_by_elim (maxDepth := 4) [Mem.out]) | (with_reducible show _ ∈ _; solve_by_elim (maxDepth := 4) [Mem.out]) | fail) | fail) | fail)) | fail)) [↓v_var, ↓v_k, ↓v_glob, ↓v_tup, ↓v_list, ↓v_bin, ↓v_neg, ↓t_nt, ↓v_nt, ↓v_and, ↓t_and, ↓v_or, ↓t_or, ↓v_and1, ↓t_and1, ↓v_or1, ↓t_or1, ↓v_and2, ↓t_and2, ↓v_or2, ↓t_or2, ↓t_cmp, ↓v_cmp, ↓t_chain, ↓v_chain, ↓v_ite, ↓t_ite, ↓v_call, ↓v_fnv, ↓v_callv, ↓v_index, ↓v_indexG, ↓v_bi, ↓v_isi, ↓v_idx, ↓v_slc, ↓v_comp, ↓v_comp2, ↓v_dic0, ↓v_get, ↓v_rev, ↓v_dcomp, ↓cTurnD_eq, pairO_v, ↓v_dicd, dispK_eq, pu_nil, pu_cons, keyOk_int, keyOk_str, mkD_ok, ↓compDT_map, compGD_all, ↓qs_pop, ↓qs_augsub, ↓qs_parG, fnM_eq, endM_ret, endM_ite, leaveM_v, nw_leaveM, nw_rev, rev_l, nw_old, asub_eq, nw_put, w2a_lst, w2b_lst, w2a_isl, w2b_isl, w2a_set, w2b_set, w2a_tup, w2b_tup, w2a_len, w2b_len, w2a_idx, w2b_idx, optC_some, optC_none, ↓t_var, ↓t_k, ↓t_call, ↓t_callv, ↓t_idx, ↓t_isi, ↓t_bin, ↓t_bi, ↓l_nil, ↓l_cons, ↓qi_seq, ↓qi_rng1, ↓qi_rng2, ↓i_rng3, ↓qi_zip, ↓qi_enum, ↓okK_v, ↓cTurn_eq, ↓cTurn2_eq, -seqOp, sq_tup, sq_lst, -zipOp, zp_tup, zp_lst, -enumOp, en_lst, -idxOp, idx_tup, idx_lst, idx_l, at_map, at_map0, at_map1, at_mapl, at_0, at_1, at_2, -cmpOp, -isNonS, cm_is, cm_isnot, cm_isb, ns_non, ns_bl, ns_int, ns_tup, ns_lst, ns_l, cm_eqv, cm_nev, cm_eqlv, cm_nelv, cm_lt, cm_le, cm_gt, cm_ge, cm_in_t, cm_in_l, cm_nin_t, cm_nin_l, cm_in_p, cm_nin_p, -binOp, bo_ii, bo_ib, bo_tt, bo_ll, bo_pl, bo_tm, bo_lm, -negOp, ng_i, -isTys, it_of, oo_some, -biOp, qbi_len, qbi_int, qbi_abs, qbi_sum, qbi_tuple, qbi_list, qbi_sorted, bi_sset, bi_skey, bi_lset, qbi_min1, qbi_max1, qbi_min2, qbi_max2, bi_lr1, bi_tr1, -bLen, ln_t, ln_l, ln_p, -bInt, in_i, in_b, -bAbs, ab_i, -bSum, sm_t, sm_l, -bTuple, tp_t, tp_l, tp_p, -bList, ls_t, ls_l, ls_p, lr_n, -slcOp, sl_t, sl_l, -part?, pt_n, pt_i, -intOnly, io_i, -augOp, au_add, au_sub, -putOp, -isNonC, nnc_non, nnc_int, nnc_var, nnc_bin, nnc_bi, nnc_neg, nnc_idx, -leave, leave_l, take_app, take_self, nw_lst, nw_isl, nw_set, nw_tup, nw_len, nw_idx, nw_leave, nw_add, nw_eq, nw_ne, cut_ton, cut_fromn, -getS, gs_some, gs_none, gs_succ, -bindG, -bindGs, -wipeS, -pures?, -setAll, bg_name, bg_tup, bg_lst, bgs_nil, bgs_cons, wp_nil, wp_cons, pr_nil, pr_cons, sa_nil, sa_cons, ↓seqK_next, ↓seqK_ret, ↓seqK_brk, ↓seqK_cnt, ↓b_nil, ↓b_cons, ↓qs_set, ↓qs_unpack, ↓qs_par, ↓qs_sub, ↓s_aug, ↓qs_app, appIf_ok, ↓qs_expr, ↓s_ifs, ↓qs_ret, ↓qs_retN, ↓qs_brk, ↓qs_cnt, ↓turnF_eq, ↓s_forr, ↓s_whil, ↓qs_freeze, ↓frzO_some, ↓frzO_none, ↓frz_l, ↓frz_v, ↓bd_ok, ↓bd_exc, ↓bd_bad, ↓compLT_nil, ↓compLLT_nil, ↓optB_none, ↓optB_some, ↓truK_eq, ↓blK_eq, ↓tupK_eq, ↓lstK_eq, ↓callG_eq, ↓partO_eq, ↓svP_v, ↓svL_l, ↓endK_ret, ↓endK_next, ↓endK_ite, ↓fn_eq, startB_eq, -fnSem, leave_v, ↓compLT_map, ↓compLLT_map, compG_all, compG_none, compG_some, compG_two, compG_3, ite_int, compGG_all, ↓bd_ite, ite_both, -ite_not, -Classical.ite_not, -List.map_set, ite_okb, -intOp, op_shl, op_shln, op_shr, op_bit, op_and, op_or, op_xor, op_add, op_sub, -mkL, mkL_f, mkL_t, -mkT, mkT_ok, zip_map, enum_map, rng1_n, rng1_i, rng2_n, -rng1Op, -rng2Op, ints_mapf, sumI_map, -ix?, ix_n, ix_n1, ix_i0, ix_i1, ix_i2, eqP_nilL, noFns_map, bit_1, bit_0, -getElem?_pos, -getElem?_neg, get_ith, ith_zero, ith_succ, ith_map, nn, bitV, eqP_tups, eqP_lsts, eqP_enc, anyEq_enc, anyEq_int, anyEq_sets, List.isEmpty_iff, List.filter_eq_nil_iff, cast_inj, setV, pathsV, sysV, stV, b__law_choose_0, m1, m2]))
theorem lcz_loop {m f : Nat} (hm : m ≤ 120) (hf : f ≤ 120) {w1 : Option SV} : ∀ (d k : Nat) (w3 : Option SV), k + d = f → ∃ w3', forL (turnF g__law_choose (.name 3) b__law_choose_0) [] ((List.range' k d).map nn) [some (.v (nn m)), w1, some (.v (nn (bin m k))), w3] S =
    .ok (.next [some (.v (nn m)), w1, some (.v (nn (bin m f))), w3']) S
  | 0, k, w3, h => ⟨w3, by rw [show k = f by omega]; rfl⟩
  | d + 1, k, w3, h => by
    obtain ⟨x, e⟩ := lcz_loop hm hf (w1 := w1) d (k + 1) (some (.v (nn k))) (by omega)
    refine ⟨x, ?_⟩
    rw [List.range'_succ, List.map_cons, forL_cons (lcz_turn hm (by omega))]
    exact e
theorem F_lchoose_eq {m f : Nat} (hm : m ≤ 120) (hf : f ≤ 120) : F__law_choose [.v (nn m), .v (nn f)] S = .ok (.v (nn (bin m f))) S := by
  obtain ⟨x, e⟩ := lcz_loop (S := S) (m := m) hm hf (w1 := some (.v (nn f))) f 0 none (by omega)
  rw [← List.range_eq_range', bin_n0, show nn 1 = PV.int 1 from rfl] at e
  have hr : ∀ S, rng1Op (.v (.int (f : Int))) S = .ok ((List.range f).map nn) S := fun S => rng1_n (by omega)
  by_cases h : f ≤ m
  · have hc : ((m : Int) ≥ (f : Int)) := by omega
    ((simp -implicitDefEqProofs -dsimp (disch := (first | with_reducible assumption | exact Mem.out (by assumption) | (((try simp only [List.length_map, List.length_range, List.length_append, List.length_cons, List.length_nil, List.length_tail, List.length_zip, List.length_reverse, List.length_take, List.length_drop, List.length_set, List.length_replicate, List.length_zipIdx, line]) <;> first | omega | (first | exact Mem.out (by assumption) | (with_reducible show (_ : Nat) < _; solve_by_elim (maxDepth := 4) [Mem.out]) | (with_reducible show (_ : Nat) ≤ _; solve_by_elim (maxDepth := 4) [Mem.out]) | (with_reducible show _ ∈ _; solve_by_elim (maxDepth := 4) [Mem.out]) | fail) | (refine Nat.le_trans (List.length_filter_le _ _) ?_; (try simp only [List.length_map, List.length_range, List.length_append, List.length_cons, List.length_nil]) <;> first | omega | (first | exact Mem.out (by assumption) | (with_reducible show (_ : Nat) < _; solve_by_elim (maxDepth := 4) [Mem.out]) | (with_reducible show (_ : Nat) ≤ _; solve_by_elim (maxDepth := 4) [Mem.out]) | (with_reducible show _ ∈ _; solve_by_elim (maxDepth := 4) [Mem.out]) | fail) | fail) | fail)) | fail)) [↓v_var, ↓v_k, ↓v_glob, ↓v_tup, ↓v_list, ↓v_bin, ↓v_neg, ↓t_nt, ↓v_nt, ↓v_and, ↓t_and, ↓v_or, ↓t_or, ↓v_and1, ↓t_and1, ↓v_or1, ↓t_or1, ↓v_and2, ↓t_and2, ↓v_or2, ↓t_or2, ↓t_cmp, ↓v_cmp, ↓t_chain, ↓v_chain, ↓v_ite, ↓t_ite, ↓v_call, ↓v_fnv, ↓v_callv, ↓v_index, ↓v_indexG, ↓v_bi, ↓v_isi, ↓v_idx, ↓v_slc, ↓v_comp, ↓v_comp2, ↓v_dic0, ↓v_get, ↓v_rev, ↓v_dcomp, ↓cTurnD_eq, pairO_v, ↓v_dicd, dispK_eq, pu_nil, pu_cons, keyOk_int, keyOk_str, mkD_ok, ↓compDT_map, compGD_all, ↓qs_pop, ↓qs_augsub, ↓qs_parG, fnM_eq, endM_ret, endM_ite, leaveM_v, nw_leaveM, nw_rev, rev_l, nw_old, asub_eq, nw_put, w2a_lst, w2b_lst, w2a_isl, w2b_isl, w2a_set, w2b_set, w2a_tup, w2b_tup, w2a_len, w2b_len, w2a_idx, w2b_idx, optC_some, optC_none, ↓t_var, ↓t_k, ↓t_call, ↓t_callv, ↓t_idx, ↓t_isi, ↓t_bin, ↓t_bi, ↓l_nil, ↓l_cons, ↓qi_seq, ↓qi_rng1, ↓qi_rng2, ↓i_rng3, ↓qi_zip, ↓qi_enum, ↓okK_v, ↓cTurn_eq, ↓cTurn2_eq, -seqOp, sq_tup, sq_lst, -zipOp, zp_tup, zp_lst, -enumOp, en_lst, -idxOp, idx_tup, idx_lst, idx_l, at_map, at_map0, at_map1, at_mapl, at_0, at_1, at_2, -cmpOp, -isNonS, cm_is, cm_isnot, cm_isb, ns_non, ns_bl, ns_int, ns_tup, ns_lst, ns_l, cm_eqv, cm_nev, cm_eqlv, cm_nelv, cm_lt, cm_le, cm_gt, cm_ge, cm_in_t, cm_in_l, cm_nin_t, cm_nin_l, cm_in_p, cm_nin_p, -binOp, bo_ii, bo_ib, bo_tt, bo_ll, bo_pl, bo_tm, bo_lm, -negOp, ng_i, -isTys, it_of, oo_some, -biOp, qbi_len, qbi_int, qbi_abs, qbi_sum, qbi_tuple, qbi_list, qbi_sorted, bi_sset, bi_skey, bi_lset, qbi_min1, qbi_max1, qbi_min2, qbi_max2, bi_lr1, bi_tr1, -bLen, ln_t, ln_l, ln_p, -bInt, in_i, in_b, -bAbs, ab_i, -bSum, sm_t, sm_l, -bTuple, tp_t, tp_l, tp_p, -bList, ls_t, ls_l, ls_p, lr_n, -slcOp, sl_t, sl_l, -part?, pt_n, pt_i, -intOnly, io_i, -augOp, au_add, au_sub, -putOp, -isNonC, nnc_non, nnc_int, nnc_var, nnc_bin, nnc_bi, nnc_neg, nnc_idx, -leave, leave_l, take_app, take_self, nw_lst, nw_isl, nw_set, nw_tup, nw_len, nw_idx, nw_leave, nw_add, nw_eq, nw_ne, cut_ton, cut_fromn, -getS, gs_some, gs_none, gs_succ, -bindG, -bindGs, -wipeS, -pures?, -setAll, bg_name, bg_tup, bg_lst, bgs_nil, bgs_cons, wp_nil, wp_cons, pr_nil, pr_cons, sa_nil, sa_cons, ↓seqK_next, ↓seqK_ret, ↓seqK_brk, ↓seqK_cnt, ↓b_nil, ↓b_cons, ↓qs_set, ↓qs_unpack, ↓qs_par, ↓qs_sub, ↓s_aug, ↓qs_app, appIf_ok, ↓qs_expr, ↓s_ifs, ↓qs_ret, ↓qs_retN, ↓qs_brk, ↓qs_cnt, ↓turnF_eq, ↓s_forr, ↓s_whil, ↓qs_freeze, ↓frzO_some, ↓frzO_none, ↓frz_l, ↓frz_v, ↓bd_ok, ↓bd_exc, ↓bd_bad, ↓compLT_nil, ↓compLLT_nil, ↓optB_none, ↓optB_some, ↓truK_eq, ↓blK_eq, ↓tupK_eq, ↓lstK_eq, ↓callG_eq, ↓partO_eq, ↓svP_v, ↓svL_l, ↓endK_ret, ↓endK_next, ↓endK_ite, ↓fn_eq, startB_eq, -fnSem, leave_v, ↓compLT_map, ↓compLLT_map, compG_all, compG_none, compG_some, compG_two, compG_3, ite_int, compGG_all, ↓bd_ite, ite_both, -ite_not, -Classical.ite_not, -List.map_set, ite_okb, -intOp, op_shl, op_shln, op_shr, op_bit, op_and, op_or, op_xor, op_add, op_sub, -mkL, mkL_f, mkL_t, -mkT, mkT_ok, zip_map, enum_map, rng1_n, rng1_i, rng2_n, -rng1Op, -rng2Op, ints_mapf, sumI_map, -ix?, ix_n, ix_n1, ix_i0, ix_i1, ix_i2, eqP_nilL, noFns_map, bit_1, bit_0, -getElem?_pos, -getElem?_neg, get_ith, ith_zero, ith_succ, ith_map, nn, bitV, eqP_tups, eqP_lsts, eqP_enc, anyEq_enc, anyEq_int, anyEq_sets, List.isEmpty_iff, List.filter_eq_nil_iff, cast_inj, setV, pathsV, sysV, stV, F__law_choose, d__law_choose, hr, e, hc]))
  · have hc : ¬ ((m : Int) ≥ (f : Int)) := by omega
    have hb : bin m f = 0 := binGt (by omega)
    rw [hb] at e ⊢
    ((simp -implicitDefEqProofs -dsimp (disch := (first | with_reducible assumption | exact Mem.out (by assumption) | (((try simp only [List.length_map, List.length_range, List.length_append, List.length_cons, List.length_nil, List.length_tail, List.length_zip, List.length_reverse, List.length_take, List.length_drop, List.length_set, List.length_replicate, List.length_zipIdx, line]) <;> first | omega | (first | exact Mem.out (by assumption) | (with_reducible show (_ : Nat) < _; solve_by_elim (maxDepth := 4) [Mem.out]) | (with_reducible show (_ : Nat) ≤ _; solve_by_elim (maxDepth := 4) [Mem.out]) | (with_reducible show _ ∈ _; solve_by_elim (maxDepth := 4) [Mem.out]) | fail) | (refine Nat.le_trans (List.length_filter_le _ _) ?_; (try simp only [List.length_map, List.length_range, List.length_append, List.length_cons, List.length_nil]) <;> first | omega | (first | exact Mem.out (by assumption) | (with_reducible show (_ : Nat) < _; solve_by_elim (maxDepth := 4) [Mem.out]) | (with_reducible show (_ : Nat) ≤ _; solve_by_elim (maxDepth := 4) [Mem.out]) | (with_reducible show _ ∈ _; solve_by_elim (maxDepth := 4) [Mem.out]) | fail) | fail) | fail)) | fail)) [↓v_var, ↓v_k, ↓v_glob, ↓v_tup, ↓v_list, ↓v_bin, ↓v_neg, ↓t_nt, ↓v_nt, ↓v_and, ↓t_and, ↓v_or, ↓t_or, ↓v_and1, ↓t_and1, ↓v_or1, ↓t_or1, ↓v_and2, ↓t_and2, ↓v_or2, ↓t_or2, ↓t_cmp, ↓v_cmp, ↓t_chain, ↓v_chain, ↓v_ite, ↓t_ite, ↓v_call, ↓v_fnv, ↓v_callv, ↓v_index, ↓v_indexG, ↓v_bi, ↓v_isi, ↓v_idx, ↓v_slc, ↓v_comp, ↓v_comp2, ↓v_dic0, ↓v_get, ↓v_rev, ↓v_dcomp, ↓cTurnD_eq, pairO_v, ↓v_dicd, dispK_eq, pu_nil, pu_cons, keyOk_int, keyOk_str, mkD_ok, ↓compDT_map, compGD_all, ↓qs_pop, ↓qs_augsub, ↓qs_parG, fnM_eq, endM_ret, endM_ite, leaveM_v, nw_leaveM, nw_rev, rev_l, nw_old, asub_eq, nw_put, w2a_lst, w2b_lst, w2a_isl, w2b_isl, w2a_set, w2b_set, w2a_tup, w2b_tup, w2a_len, w2b_len, w2a_idx, w2b_idx, optC_some, optC_none, ↓t_var, ↓t_k, ↓t_call, ↓t_callv, ↓t_idx, ↓t_isi, ↓t_bin, ↓t_bi, ↓l_nil, ↓l_cons, ↓qi_seq, ↓qi_rng1, ↓qi_rng2, ↓i_rng3, ↓qi_zip, ↓qi_enum, ↓okK_v, ↓cTurn_eq, ↓cTurn2_eq, -seqOp, sq_tup, sq_lst, -zipOp, zp_tup, zp_lst, -enumOp, en_lst, -idxOp, idx_tup, idx_lst, idx_l, at_map, at_map0, at_map1, at_mapl, at_0, at_1, at_2, -cmpOp, -isNonS, cm_is, cm_isnot, cm_isb, ns_non, ns_bl, ns_int, ns_tup, ns_lst, ns_l, cm_eqv, cm_nev, cm_eqlv, cm_nelv, cm_lt, cm_le, cm_gt, cm_ge, cm_in_t, cm_in_l, cm_nin_t, cm_nin_l, cm_in_p, cm_nin_p, -binOp, bo_ii, bo_ib, bo_tt, bo_ll, bo_pl, bo_tm, bo_lm, -negOp, ng_i, -isTys, it_of, oo_some, -biOp, qbi_len, qbi_int, qbi_abs, qbi_sum, qbi_tuple, qbi_list, qbi_sorted, bi_sset, bi_skey, bi_lset, qbi_min1, qbi_max1, qbi_min2, qbi_max2, bi_lr1, bi_tr1, -bLen, ln_t, ln_l, ln_p, -bInt, in_i, in_b, -bAbs, ab_i, -bSum, sm_t, sm_l, -bTuple, tp_t, tp_l, tp_p, -bList, ls_t, ls_l, ls_p, lr_n, -slcOp, sl_t, sl_l, -part?, pt_n, pt_i, -intOnly, io_i, -augOp, au_add, au_sub, -putOp, -isNonC, nnc_non, nnc_int, nnc_var, nnc_bin, nnc_bi, nnc_neg, nnc_idx, -leave, leave_l, take_app, take_self, nw_lst, nw_isl, nw_set, nw_tup, nw_len, nw_idx, nw_leave, nw_add, nw_eq, nw_ne, cut_ton, cut_fromn, -getS, gs_some, gs_none, gs_succ, -bindG, -bindGs, -wipeS, -pures?, -setAll, bg_name, bg_tup, bg_lst, bgs_nil, bgs_cons, wp_nil, wp_cons, pr_nil, pr_cons, sa_nil, sa_cons, ↓seqK_next, ↓seqK_ret, ↓seqK_brk, ↓seqK_cnt, ↓b_nil, ↓b_cons, ↓qs_set, ↓qs_unpack, ↓qs_par, ↓qs_sub, ↓s_aug, ↓qs_app, appIf_ok, ↓qs_expr, ↓s_ifs, ↓qs_ret, ↓qs_retN, ↓qs_brk, ↓qs_cnt, ↓turnF_eq, ↓s_forr, ↓s_whil, ↓qs_freeze, ↓frzO_some, ↓frzO_none, ↓frz_l, ↓frz_v, ↓bd_ok, ↓bd_exc, ↓bd_bad, ↓compLT_nil, ↓compLLT_nil, ↓optB_none, ↓optB_some, ↓truK_eq, ↓blK_eq, ↓tupK_eq, ↓lstK_eq, ↓callG_eq, ↓partO_eq, ↓svP_v, ↓svL_l, ↓endK_ret, ↓endK_next, ↓endK_ite, ↓fn_eq, startB_eq, -fnSem, leave_v, ↓compLT_map, ↓compLLT_map, compG_all, compG_none, compG_some, compG_two, compG_3, ite_int, compGG_all, ↓bd_ite, ite_both, -ite_not, -Classical.ite_not, -List.map_set, ite_okb, -intOp, op_shl, op_shln, op_shr, op_bit, op_and, op_or, op_xor, op_add, op_sub, -mkL, mkL_f, mkL_t, -mkT, mkT_ok, zip_map, enum_map, rng1_n, rng1_i, rng2_n, -rng1Op, -rng2Op, ints_mapf, sumI_map, -ix?, ix_n, ix_n1, ix_i0, ix_i1, ix_i2, eqP_nilL, noFns_map, bit_1, bit_0, -getElem?_pos, -getElem?_neg, get_ith, ith_zero, ith_succ, ith_map, nn, bitV, eqP_tups, eqP_lsts, eqP_enc, anyEq_enc, anyEq_int, anyEq_sets, List.isEmpty_iff, List.filter_eq_nil_iff, cast_inj, setV, pathsV, sysV, stV, F__law_choose, d__law_choose, hr, e, hc]))
end
end FWP

namespace FWP
open PySem FW
section
variable {k n : Nat} {S : Store}
end
end FWP

namespace FWP
open PySem FW
section
variable {Γ : List (Str × Fn)} {ρ : Slots} {S : Store} {a b d x : CE} {m : Bool} {ks vs : List PV}
theorem qi_items : evI Γ (.items d) ρ S = ((ev Γ d).v ρ S).bd itemsOp := rfl
theorem itemsOp_d : itemsOp (.v (.dic ks vs)) S = .ok (zipL ks vs) S := rfl
end
def kvQ (K : List Nat) (v : Nat → Rat) : List (PV × PV) := K.map fun u => (nn u, rv (v u))
def updQ (v : Nat → Rat) (u : Nat) (x : Rat) : Nat → Rat := fun i => if i = u then x else v i
def insQ (u : Nat) (K : List Nat) : List Nat := if u ∈ K then K else K ++ [u]
theorem get_kvQ {v : Nat → Rat} {u : Nat} : ∀ {K : List Nat}, (u ∉ K → v u = 0) → (keyGet (nn u) (kvQ K v)).getD (.tup [.int 0, .int 1]) = rv (v u)
  | [], h => by rw [h (by simp)]; rfl
  | i :: K, h => by
    unfold keyGet kvQ
    rw [List.map_cons, List.find?_cons]
    by_cases c : i = u
    · subst c
      rw [keyEq_nn, decide_eq_true rfl]
      rfl
    · rw [keyEq_nn, decide_eq_false c]
      exact get_kvQ (K := K) fun hk => h fun hm => by
        rcases List.mem_cons.mp hm with e | e
        · exact c e.symm
        · exact hk e
theorem any_kvQ {v : Nat → Rat} {u : Nat} : ∀ {K : List Nat}, ((kvQ K v).any fun kv => keyEq kv.1 (nn u)) = decide (u ∈ K)
  | [] => rfl
  | i :: K => by
    unfold kvQ
    rw [List.map_cons, List.any_cons, keyEq_nn]
    show (decide (i = u) || (kvQ K v).any fun kv => keyEq kv.1 (nn u)) = _
    rw [any_kvQ]
    by_cases c : i = u
    · subst c; simp
    · have : ¬ u = i := fun e => c e.symm
      simp [c, this]
theorem put_kvQ {K : List Nat} {v : Nat → Rat} {u : Nat} {x : Rat} : keyPut (nn u) (rv x) (kvQ K v) = kvQ (insQ u K) (updQ v u x) := by
  unfold keyPut
  rw [any_kvQ]
  unfold insQ
  by_cases c : u ∈ K
  · rw [decide_eq_true c, if_pos rfl, if_pos c]
    unfold kvQ
    rw [List.map_map]
    refine List.map_congr_left fun i _ => ?_
    show (if keyEq (nn i) (nn u) = true then (nn i, rv x) else (nn i, rv (v i))) = (nn i, rv (updQ v u x i))
    unfold updQ
    rw [keyEq_nn]
    by_cases e : i = u
    · rw [decide_eq_true e, if_pos rfl, if_pos e]
    · rw [decide_eq_false e, if_neg (by decide), if_neg e]
  · rw [decide_eq_false c, if_neg (by decide), if_neg c]
    unfold kvQ
    rw [List.map_append, List.map_singleton]
    congr 1
    · refine List.map_congr_left fun i hi => ?_
      unfold updQ
      rw [if_neg fun e : i = u => c (e ▸ hi)]
    · unfold updQ
      rw [if_pos rfl]
abbrev dicQ (K : List Nat) (v : Nat → Rat) : PV := .dic (K.map nn) (K.map fun u => rv (v u))
theorem kvQ_fst {K : List Nat} {v : Nat → Rat} : (kvQ K v).map Prod.fst = K.map nn := by unfold kvQ; rw [List.map_map]; rfl
theorem kvQ_snd {K : List Nat} {v : Nat → Rat} : (kvQ K v).map Prod.snd = K.map fun u => rv (v u) := by unfold kvQ; rw [List.map_map]; rfl
theorem zip_kvQ {v : Nat → Rat} : ∀ {K : List Nat}, zipL (K.map nn) (K.map fun u => rv (v u)) = K.map fun u => PV.tup [nn u, rv (v u)]
  | [] => rfl
  | u :: K => by rw [List.map_cons, List.map_cons, List.map_cons, zipL, zip_kvQ]
theorem frz_kvQ {S : Store} {ρ : Slots} {i n : Nat} {K : List Nat} {v : Nat → Rat} (h : S[n]? = some (.dic (kvQ K v))) : frz S ρ i (.l n) = .ok (.next (ρ.set i (some (.v (dicQ K v))))) (S.set n .gone) := by
  rw [frz_l, lstAt_dic h]
  show frzD S ρ i n = _
  rw [frzD_eq h (by rw [kvQ_fst]; exact allInt_nn), kvQ_fst, kvQ_snd]
section
variable {Z : Store} {K : List Nat} {v : Nat → Rat}
theorem getOp_q {n u : Nat} (h : Z[n]? = some (.dic (kvQ K v))) (ho : u ∉ K → v u = 0) : getOp (.l n) (.v (.int (u : Int))) (.v (.tup [.int 0, .int 1])) Z = .ok (.v (rv (v u))) Z := by
  unfold getOp
  rw [dicR_l h]
  show (if keyOk (nn u) = true then Out.ok (SV.v ((keyGet (nn u) (kvQ K v)).getD (.tup [.int 0, .int 1]))) Z else .bad) = _
  rw [if_pos (show keyOk (nn u) = true from rfl), get_kvQ ho]
theorem isDc_q {n : Nat} (h : Z[n]? = some (.dic (kvQ K v))) : isDc Z (.l n) = true := by
  unfold isDc
  rw [dicR_l h]
theorem putOp_q {u : Nat} {x : Rat} (hl : K.length < 16777216) : putOp (.l Z.length) (.v (.int (u : Int))) (.v (rv x)) (Z ++ [.dic (kvQ K v)]) = some (Z ++ [.dic (kvQ (insQ u K) (updQ v u x))]) := by
  have : keyOk (nn u) = true ∧ (kvQ K v).length < line := ⟨rfl, by unfold kvQ; rw [List.length_map]; exact hl⟩
  show (match (Z ++ [Ob.dic (kvQ K v)])[Z.length]? with | some (.lst xs) => _ | some (.dic kvs) => if keyOk (nn u) = true ∧ kvs.length < line then some ((Z ++ [Ob.dic (kvQ K v)]).set Z.length (Ob.dic (keyPut (nn u) _ kvs))) else none | _ => none) = _
  rw [nw_at]
  show (if keyOk (nn u) = true ∧ (kvQ K v).length < line then some ((Z ++ [Ob.dic (kvQ K v)]).set Z.length (Ob.dic (keyPut (nn u) (rv x) (kvQ K v)))) else none) = _
  rw [if_pos this, put_kvQ, nw_set]
end
abbrev StepF := Nat → Bool → Option Nat
def walk (fs : List StepF) (st : List Bool) : Option Nat := (fs.zip st).foldl (fun q fb => q.bind fun u => fb.1 u fb.2) (some 0)
theorem walk_snoc {fs : List StepF} {st : List Bool} {f : StepF} {b : Bool} (h : fs.length = st.length) : walk (fs ++ [f]) (st ++ [b]) = (walk fs st).bind fun u => f u b := by
  unfold walk
  rw [List.zip_append h, List.foldl_append]
  rfl
def dq (fs : List StepF) (cs : List Rat) (u : Nat) : Rat := prob cs fun st => decide (walk fs st = some u)
def pvE (fs : List StepF) (f : StepF) (b : Bool) (A : List Nat) (x : Nat) (st : List Bool) : Bool := match walk fs st with
  | some u => decide (u ∈ A) && decide (f u b = some x)
  | none => false
def pvQ (fs : List StepF) (cs : List Rat) (f : StepF) (b : Bool) (A : List Nat) (x : Nat) : Rat := prob cs (pvE fs f b A x)
def vq (fs : List StepF) (cs : List Rat) (f : StepF) (c : Rat) (A1 A2 : List Nat) (x : Nat) : Rat := pvQ fs cs f true A1 x * c + pvQ fs cs f false A2 x * (1 - c)
section
variable {fs : List StepF} {cs : List Rat} {f : StepF} {c : Rat} {A A1 A2 K : List Nat} {u x n B D : Nat} {b : Bool}
theorem prob_none {p : List Bool → Bool} (h : ∀ st ∈ lawStates cs.length, p st = false) : prob cs p = 0 := by
  rw [prob_Ex, Ex_congr (g := fun _ => 0 * 1) fun st hst => by rw [h st hst]; show (0 : Rat) = 0 * 1; grind, Ex_mul]
  grind
theorem pvQ_off (h : ∀ u ∈ A, f u b ≠ some x) : pvQ fs cs f b A x = 0 := prob_none fun st _ => by
  unfold pvE
  cases walk fs st with
  | none => rfl
  | some u =>
    show (decide (u ∈ A) && decide (f u b = some x)) = false
    by_cases hu : u ∈ A
    · rw [decide_eq_false (h u hu), Bool.and_false]
    · rw [decide_eq_false hu, Bool.false_and]
theorem pvQ_snoc (hu : u ∉ A) : pvQ fs cs f b (A ++ [u]) x = pvQ fs cs f b A x + if f u b = some x then dq fs cs u else 0 := by
  by_cases hf : f u b = some x
  · rw [if_pos hf]
    unfold pvQ dq
    rw [prob_Ex, prob_Ex, prob_Ex, ← Ex_add]
    refine Ex_congr fun st _ => ?_
    unfold pvE
    cases walk fs st with
    | none => show (0 : Rat) = 0 + 0; grind
    | some v =>
      show b2r (decide (v ∈ A ++ [u]) && decide (f v b = some x)) = b2r (decide (v ∈ A) && decide (f v b = some x)) + b2r (decide (some v = some u))
      by_cases hv : v = u
      · subst hv
        rw [decide_eq_true (show v ∈ A ++ [v] by simp), decide_eq_true hf, decide_eq_false hu, decide_eq_true rfl]
        show (1 : Rat) = 0 + 1; grind
      · have : decide (v ∈ A ++ [u]) = decide (v ∈ A) := decide_eq_decide.mpr (by simp [hv])
        rw [this, decide_eq_false (show ¬ some v = some u by simpa using hv)]
        show _ = _ + (0 : Rat); grind
  · rw [if_neg hf]
    unfold pvQ
    rw [show pvE fs f b (A ++ [u]) x = pvE fs f b A x from ?_]
    · grind
    · funext st
      unfold pvE
      cases walk fs st with
      | none => rfl
      | some v =>
        show (decide (v ∈ A ++ [u]) && decide (f v b = some x)) = (decide (v ∈ A) && decide (f v b = some x))
        by_cases hv : v = u
        · subst hv
          rw [decide_eq_false hf, Bool.and_false, Bool.and_false]
        · have : decide (v ∈ A ++ [u]) = decide (v ∈ A) := decide_eq_decide.mpr (by simp [hv])
          rw [this]
theorem Ch.mix {E : Nat} {p q : Rat} (hp : Ch E p) (hq : Ch E q) (hc : Ch D c) : Ch (E * D) (p * c + q * (1 - c)) := by
  refine ⟨(hp.mul hc).cm.add (hq.mul hc.compl).cm, ?_, ?_⟩
  · have := (hp.mul hc).nn
    have := (hq.mul hc.compl).nn
    grind
  · have h1 := Rat.mul_le_mul_of_nonneg_right hp.le hc.nn
    have h2 := Rat.mul_le_mul_of_nonneg_right hq.le hc.compl.nn
    grind
theorem dq_ch (hc : CsOk D cs) : Ch (D ^ cs.length) (dq fs cs u) := prob_ch hc
theorem vq_ch (hc : CsOk D cs) (hcc : Ch D c) : Ch (D ^ (cs.length + 1)) (vq fs cs f c A1 A2 x) := by
  rw [Nat.pow_succ]
  exact Ch.mix (prob_ch hc) (prob_ch hc) hcc
theorem vq_off (h1 : ∀ u ∈ A1, f u true ≠ some x) (h2 : ∀ u ∈ A2, f u false ≠ some x) : vq fs cs f c A1 A2 x = 0 := by
  unfold vq
  rw [pvQ_off h1, pvQ_off h2]
  grind
theorem vq_1 (hu : u ∉ A1) (hf : f u true = some x) : vq fs cs f c (A1 ++ [u]) A2 = updQ (vq fs cs f c A1 A2) x (vq fs cs f c A1 A2 x + dq fs cs u * c) := by
  funext y
  unfold updQ vq
  rw [pvQ_snoc hu, hf]
  by_cases e : y = x
  · subst e
    rw [if_pos rfl, if_pos rfl]
    grind
  · rw [if_neg fun h => e (Option.some.inj h).symm, if_neg e]
    grind
theorem vq_2 (hu : u ∉ A2) (hf : f u false = some x) : vq fs cs f c A1 (A2 ++ [u]) = updQ (vq fs cs f c A1 A2) x (vq fs cs f c A1 A2 x + dq fs cs u * (1 - c)) := by
  funext y
  unfold updQ vq
  rw [pvQ_snoc hu, hf]
  by_cases e : y = x
  · subst e
    rw [if_pos rfl, if_pos rfl]
    grind
  · rw [if_neg fun h => e (Option.some.inj h).symm, if_neg e]
    grind
structure Cov (fs : List StepF) (n B : Nat) (K : List Nat) : Prop where
  nd : K.Nodup
  cov : ∀ st : List Bool, st.length = n → ∀ u, walk fs st = some u → u ∈ K
  lt : ∀ u ∈ K, u < B
structure KD (f : StepF) (B : Nat) (A1 A2 K : List Nat) : Prop where
  nd : K.Nodup
  c1 : ∀ u ∈ A1, ∀ x, f u true = some x → x ∈ K
  c2 : ∀ u ∈ A2, ∀ x, f u false = some x → x ∈ K
  lt : ∀ u ∈ K, u < B
theorem nodup_lt {K : List Nat} (h : K.Nodup) (hB : ∀ u ∈ K, u < B) : K.length ≤ B := nodup_len h hB
theorem KD.nil : KD f B [] [] [] := ⟨List.nodup_nil, by simp, by simp, by simp⟩
theorem KD.off (h : KD f B A1 A2 K) (hx : x ∉ K) : vq fs cs f c A1 A2 x = 0 := vq_off (fun u hu e => hx (h.c1 u hu x e)) (fun u hu e => hx (h.c2 u hu x e))
theorem insQ_nd (h : K.Nodup) : (insQ x K).Nodup := by
  unfold insQ
  by_cases c : x ∈ K
  · rw [if_pos c]; exact h
  · rw [if_neg c, List.nodup_append]
    exact ⟨h, List.pairwise_singleton _ x, fun a ha b hb e => c (by rw [List.mem_singleton.mp hb] at e; rw [← e]; exact ha)⟩
theorem mem_insQ {y : Nat} : y ∈ insQ x K ↔ y ∈ K ∨ y = x := by
  unfold insQ
  by_cases c : x ∈ K
  · rw [if_pos c]
    exact ⟨.inl, fun h => h.elim id fun e => e ▸ c⟩
  · rw [if_neg c]; simp
theorem KD.put1 (h : KD f B A1 A2 K) (hf : f u true = some x) (hx : x < B) : KD f B (A1 ++ [u]) A2 (insQ x K) := by
  refine ⟨insQ_nd h.nd, fun v hv y e => ?_, fun v hv y e => mem_insQ.mpr (.inl (h.c2 v hv y e)), fun y hy => ?_⟩
  · rcases List.mem_append.mp hv with hv | hv
    · exact mem_insQ.mpr (.inl (h.c1 v hv y e))
    · rw [List.mem_singleton.mp hv, hf] at e
      exact mem_insQ.mpr (.inr (Option.some.inj e).symm)
  · rcases mem_insQ.mp hy with hy | rfl
    · exact h.lt y hy
    · exact hx
theorem KD.put2 (h : KD f B A1 A2 K) (hf : f u false = some x) (hx : x < B) : KD f B A1 (A2 ++ [u]) (insQ x K) := by
  refine ⟨insQ_nd h.nd, fun v hv y e => mem_insQ.mpr (.inl (h.c1 v hv y e)), fun v hv y e => ?_, fun y hy => ?_⟩
  · rcases List.mem_append.mp hv with hv | hv
    · exact mem_insQ.mpr (.inl (h.c2 v hv y e))
    · rw [List.mem_singleton.mp hv, hf] at e
      exact mem_insQ.mpr (.inr (Option.some.inj e).symm)
  · rcases mem_insQ.mp hy with hy | rfl
    · exact h.lt y hy
    · exact hx
theorem Cov.zero (hB : 0 < B) : Cov [] 0 B [0] := ⟨List.pairwise_singleton _ _, fun st hst u e => by
  cases (List.length_eq_zero_iff.mp hst); cases e; simp, fun u hu => by rw [List.mem_singleton.mp hu]; exact hB⟩
theorem dq_zero : dq [] [] = fun u => if u = 0 then 1 else 0 := by
  funext u
  unfold dq
  rw [prob_Ex, Ex_nil]
  show b2r (decide (some 0 = some u)) = _
  by_cases h : u = 0
  · subst h; rfl
  · rw [if_neg h, decide_eq_false (by simpa using fun e => h e.symm)]
    rfl
theorem Cov.next (h : Cov fs n B K) (hl : fs.length = n) {B' : Nat} {K' : List Nat} (h' : KD f B' K K K') : Cov (fs ++ [f]) (n + 1) B' K' := ⟨h'.nd, fun st hst u e => by
  obtain ⟨i, b, rfl, hi⟩ := snoc_of hst
  rw [walk_snoc (by omega)] at e
  cases hw : walk fs i with
  | none => rw [hw] at e; cases e
  | some v =>
    rw [hw] at e
    have hv := h.cov i hi v hw
    cases b with
    | true => exact h'.c1 v hv u e
    | false => exact h'.c2 v hv u e, h'.lt⟩
theorem dq_snoc (h : Cov fs cs.length B K) (hl : fs.length = cs.length) : dq (fs ++ [f]) (cs ++ [c]) = vq fs cs f c K K := by
  funext x
  unfold dq vq pvQ
  rw [prob_Ex, prob_Ex, prob_Ex, Ex_snoc, Rat.mul_comm, Rat.mul_comm _ (1 - c), ← Ex_mul, ← Ex_mul, ← Ex_add]
  refine Ex_congr fun st hst => ?_
  have hs := lawStates_mem hst
  have key : ∀ b, decide (walk (fs ++ [f]) (st ++ [b]) = some x) = pvE fs f b K x st := fun b => by
    rw [walk_snoc (by omega)]
    unfold pvE
    cases hw : walk fs st with
    | none => rfl
    | some v =>
      show decide (f v b = some x) = (decide (v ∈ K) && decide (f v b = some x))
      rw [decide_eq_true (h.cov st hs v hw), Bool.true_and]
  rw [key, key]
  grind
def inE (fs : List StepF) (A : List Nat) (st : List Bool) : Bool := match walk fs st with
  | some u => decide (u ∈ A)
  | none => false
theorem sum_dq : ∀ {A : List Nat}, A.Nodup → sumR (A.map (dq fs cs)) = prob cs (inE fs A)
  | [], _ => (prob_none fun st _ => by unfold inE; cases walk fs st <;> simp).symm
  | a :: A, h => by
    obtain ⟨h1, h2⟩ := List.nodup_cons.mp h
    rw [List.map_cons, sumR_cons, sum_dq h2]
    unfold dq
    rw [prob_Ex, prob_Ex, prob_Ex, ← Ex_add]
    refine Ex_congr fun st _ => ?_
    unfold inE
    cases walk fs st with
    | none => show (0 : Rat) + 0 = 0; grind
    | some v =>
      show b2r (decide (some v = some a)) + b2r (decide (v ∈ A)) = b2r (decide (v ∈ a :: A))
      by_cases hv : v = a
      · subst hv
        rw [decide_eq_true rfl, decide_eq_false h1, decide_eq_true (show v ∈ v :: A by simp)]
        show (1 : Rat) + 0 = 1; grind
      · have : decide (v ∈ a :: A) = decide (v ∈ A) := decide_eq_decide.mpr (by simp [hv])
        rw [decide_eq_false (show ¬ some v = some a by simpa using hv), this]
        show (0 : Rat) + _ = _; grind
theorem sum_dq_ch (hc : CsOk D cs) (h : A.Nodup) : Ch (D ^ cs.length) (sumR (A.map (dq fs cs))) := by
  rw [sum_dq h]
  exact prob_ch hc
def wkE (fs : List StepF) (p : Nat → Bool) (st : List Bool) : Bool := match walk fs st with
  | some u => p u
  | none => false
theorem dq_total {S : Store} {p : Nat → Bool} (hz : Sz D n) (hl : cs.length ≤ n) (hc : CsOk D cs) (h : Cov fs cs.length B K) : F_total_of [.v (.lst ((K.filter p).map fun u => rv (dq fs cs u)))] S = .ok (.v (rv (prob cs (wkE fs p)))) S := by
  have hn : (K.filter p).Nodup := h.nd.filter p
  have e : prob cs (wkE fs p) = sumR ((K.filter p).map (dq fs cs)) := by
    rw [sum_dq hn, prob_Ex, prob_Ex]
    refine Ex_congr fun st hst => ?_
    unfold inE wkE
    cases hw : walk fs st with
    | none => rfl
    | some u =>
      show b2r (p u) = b2r (decide (u ∈ K.filter p))
      congr 1
      cases hp : p u with
      | true => exact (decide_eq_true (List.mem_filter.mpr ⟨h.cov st (lawStates_mem hst) u hw, hp⟩)).symm
      | false => exact (decide_eq_false fun hm => by rw [(List.mem_filter.mp hm).2] at hp; cases hp).symm
  rw [e]
  have := F_total_eq (S := S) (R := (K.filter p).map (dq fs cs)) (.inr rfl) (fun q hq => by
    obtain ⟨u, hu, rfl⟩ := List.mem_map.mp hq
    exact (hz.bd hl (dq_ch hc)).mono (by decide)) fun a b hab => by
    have : a = ((K.filter p).take a.length).map (dq fs cs) := by rw [List.map_take, hab, List.take_left]
    rw [this]
    exact (hz.bd hl (sum_dq_ch hc ((List.take_sublist _ _).nodup hn))).mono (by decide)
  rw [List.map_map] at this
  exact this
end
section
variable {f : PV → FS} {S : Store} {cs : List Rat} {n D : Nat} {p : List Bool → Bool}
theorem acc_go (hz : Sz D n) (h8 : n ≤ 8) (hl : cs.length = n) (hc : CsOk D cs) (Sl : Rat → Option SV → Slots)
    (ht : ∀ st ∈ lawStates n, ∀ T w, Bd 5000 T → Bd 5000 (pw cs st) → f (stV st) (Sl T w) S = .ok (.next (Sl (if p st = true then T + pw cs st else T) (some (.v (stV st))))) S) :
    ∀ (B A : List (List Bool)) (w : Option SV), lawStates n = A ++ B → ∃ w', forL f [] (B.map stV) (Sl (sumR ((A.filter p).map (pw cs))) w) S = .ok (.next (Sl (sumR (((A ++ B).filter p).map (pw cs))) w')) S
  | [], A, w, _ => ⟨w, by rw [List.append_nil]; rfl⟩
  | st :: B, A, w, hab => by
    have hs : st ∈ lawStates n := by rw [hab]; simp
    have hpre : prL cs p = (A.filter p).map (pw cs) ++ ((st :: B).filter p).map (pw cs) := by
      unfold prL
      rw [hl, hab, List.filter_append, List.map_append]
    have b1 : Bd 5000 (sumR ((A.filter p).map (pw cs))) := (hz.bd (i := cs.length) (by omega) (prob_pre hc hpre)).mono (by decide)
    have b2 : Bd 5000 (pw cs st) := (hz.bd (i := n) (by omega) (pw_ch n hl (lawStates_mem hs) hc)).mono (by decide)
    have e0 := ht st hs _ w b1 b2
    obtain ⟨w', ih⟩ := acc_go hz h8 hl hc Sl ht B (A ++ [st]) (some (.v (stV st))) (by rw [List.append_assoc]; exact hab)
    rw [List.append_assoc] at ih
    refine ⟨w', ?_⟩
    rw [List.map_cons, forL_cons e0]
    have : (if p st = true then sumR ((A.filter p).map (pw cs)) + pw cs st else sumR ((A.filter p).map (pw cs))) = sumR (((A ++ [st]).filter p).map (pw cs)) := by
      rw [List.filter_append, List.map_append, sumR_append]
      cases hp : p st with
      | true =>
        rw [List.filter_cons_of_pos hp, if_pos rfl]
        show _ + _ = _ + (_ + 0)
        grind
      | false =>
        rw [List.filter_cons_of_neg (by simp [hp]), if_neg (by decide)]
        show _ = _ + (0 : Rat)
        grind
    rw [this]
    exact ih
theorem acc_states (hz : Sz D n) (h8 : n ≤ 8) (hl : cs.length = n) (hc : CsOk D cs) (Sl : Rat → Option SV → Slots)
    (ht : ∀ st ∈ lawStates n, ∀ T w, Bd 5000 T → Bd 5000 (pw cs st) → f (stV st) (Sl T w) S = .ok (.next (Sl (if p st = true then T + pw cs st else T) (some (.v (stV st))))) S) (w : Option SV) :
    ∃ w', forL f [] ((lawStates n).map stV) (Sl 0 w) S = .ok (.next (Sl (prob cs p) w')) S := by
  obtain ⟨w', e⟩ := acc_go hz h8 hl hc Sl ht (lawStates n) [] w rfl
  refine ⟨w', ?_⟩
  unfold prob prL
  rw [hl]
  exact e
end
end FWP

namespace FWP
open PySem FW
section
variable {n : Nat} {P : List (List Nat)} {S S0 : Store} {U : List Nat} {p : Nat}
end
end FWP

namespace FWP
open PySem FW
section
variable {n k : Nat} {P : List (List Nat)} {S : Store} {p : Rat}
theorem ith_appL {α : Type} [Inhabited α] {l m : List α} {k : Nat} (h : k < l.length) : ith (l ++ m) k = ith l k := by
  unfold ith
  rw [List.getD_eq_getElem?_getD, List.getD_eq_getElem?_getD, List.getElem?_append_left h]
abbrev hE (n : Nat) (p : Rat) (f : List Bool → Bool) : Rat := Ex (List.replicate n p) fun st => b2r (f st)
section
variable {D p1d p2d : Nat} {p1 p2 q1 q2 α β : Rat}
end
end
end FWP

namespace Lk73
open PySem PySem.Spec PyProof.Rows L2 FW
def top (i : Nat) : Stmt := PySem.Challenge.pw_faultworks_k73_whole_weighted_votes.main.body.getD i (.Pass ⟨0, 0, 0, 0⟩)
def gs : List (PySem.Str × PV) := [("MOST_ROW", (.int 60)), ("ONE", (.tup [(.int 1), (.int 1)])), ("ZERO", (.tup [(.int 0), (.int 1)])), ("MOST_WEIGHT", (.int 20))]
def blts : List PySem.Str := ["range", "isinstance", "tuple", "list", "str", "int", "len", "bool", "abs", "zip", "sum"]
def glos0 : List PySem.Str := ["_law_states", "_law_alike", "_law_taken", "_law_pick", "_law_gcd", "_law_ratio", "_law_chances", "_law_some_chance", "_law_times", "_law_plus", "gcd", "is_ratio", "is_chance", "need_row", "reduced", "plus", "total_of", "is_whole", "is_in", "minus"]
def glos1 : List PySem.Str := ["failed", "times", "weight_chance", "_law_power", "_law_weight", "_law_less_one", "_law_choose", "law"]
def glos : List PySem.Str := glos0 ++ glos1
def d__law_states : FW.Def := ⟨1, 4, (.cons (.set 1 (.list false (.cons (.tup .nil) .nil)))
      (.cons (.forr (.name 2) (.rng1 (.var 0))
      (.cons (.set 1 (.bin .add false (.comp false [3] (.name 3) (.seq (.var 1)) (.k (.bl true)) (.bin .add false (.var 3) (.tup (.cons (.k (.int 0)) .nil)))) (.comp false [3] (.name 3) (.seq (.var 1)) (.k (.bl true)) (.bin .add false (.var 3) (.tup (.cons (.k (.int 1)) .nil)))))) .nil) [])
      (.cons (.ret (.var 1)) .nil)))⟩
def C__law_states : FW.Ctx := ⟨["_law_many", "_law_found", "_law_k", "_law_state"], L2.defScope (top 31), none, gs, [], blts⟩
def D__law_states : He.DefD := ⟨("_law_states", none), "_law_states", "_law_states", L2.defArgs (top 31), L2.defBody (top 31), L2.defScope (top 31), [], []⟩
theorem ok__law_states : okB C__law_states d__law_states.body (L2.defBody (top 31)) = true := by decide +kernel
theorem sc__law_states : FnScope C__law_states.N ["_law_many"] (L2.defScope (top 31)) := ⟨rfl, rfl, rfl, by decide +kernel, rfl, by decide +kernel, by decide +kernel⟩
def F__law_states : Fn := fnSem [] d__law_states
def d__law_alike : FW.Def := ⟨2, 3, (.cons (.ifs (.isi [.tuple, .list] (.var 1))
      (.cons (.ifs (.or (.cons (.nt (.isi [.tuple, .list] (.var 0))) (.cons (.cmp .ne (.isi [.list] (.var 0)) (.isi [.list] (.var 1))) .nil)))
      (.cons (.ret (.k (.bl false))) .nil)
      (.nil))
      (.cons (.ifs (.cmp .ne (.bi .len false (.cons (.var 0) .nil)) (.bi .len false (.cons (.var 1) .nil)))
      (.cons (.ret (.k (.bl false))) .nil)
      (.nil))
      (.cons (.ret (.cmp .eq (.comp false [2] (.name 2) (.rng1 (.bi .len false (.cons (.var 1) .nil))) (.nt (.call 0 (.cons (.idx (.var 0) (.var 2)) (.cons (.idx (.var 1) (.var 2)) .nil)))) (.var 2)) (.list false .nil))) .nil)))
      (.nil))
      (.cons (.ifs (.or (.cons (.cmp .is (.var 1) (.k .non)) (.cons (.isi [.str] (.var 1)) .nil)))
      (.cons (.ret (.and (.cons (.cmp .eq (.var 0) (.var 1)) (.cons (.cmp .eq (.isi [.str] (.var 0)) (.isi [.str] (.var 1))) .nil)))) .nil)
      (.nil))
      (.cons (.ret (.and (.cons (.isi [.int] (.var 0)) (.cons (.cmp .eq (.isi [.bool] (.var 0)) (.isi [.bool] (.var 1))) (.cons (.cmp .eq (.var 0) (.var 1)) .nil))))) .nil)))⟩
def C__law_alike : FW.Ctx := ⟨["_law_found", "_law_due", "_law_k"], L2.defScope (top 35), none, gs, ["_law_alike"], blts⟩
def D__law_alike : He.DefD := ⟨("_law_alike", none), "_law_alike", "_law_alike", L2.defArgs (top 35), L2.defBody (top 35), L2.defScope (top 35), [], []⟩
theorem ok__law_alike : okB C__law_alike d__law_alike.body (L2.defBody (top 35)) = true := by decide +kernel
theorem sc__law_alike : FnScope C__law_alike.N ["_law_found", "_law_due"] (L2.defScope (top 35)) := ⟨rfl, rfl, rfl, by decide +kernel, rfl, by decide +kernel, by decide +kernel⟩
def F__law_alike : Nat → Fn
  | 0 => fun _ _ => .bad
  | n + 1 => fnSem [("_law_alike", F__law_alike n)] d__law_alike
def d__law_taken : FW.Def := ⟨2, 4, (.cons (.ifs (.cmp .gt (.idx (.var 0) (.k (.int 3))) (.k (.int 0)))
      (.cons (.set 3 (.bin .mod false (.bi .int false (.cons (.idx (.var 0) (.k (.int 3))) .nil)) (.var 1)))
      (.cons (.sub 0 (.k (.int 3)) (.bin .fdiv false (.idx (.var 0) (.k (.int 3))) (.var 1)))
      (.cons (.ret (.var 3)) .nil)))
      (.nil))
      (.cons (.sub 0 (.k (.int 1)) (.bin .add false (.idx (.var 0) (.k (.int 1))) (.k (.int 1))))
      (.cons (.ifs (.cmp .gt (.idx (.var 0) (.k (.int 1))) (.bi .len false (.cons (.idx (.var 0) (.k (.int 0))) .nil)))
      (.cons (.sub 0 (.k (.int 2)) (.bin .mod false (.bi .int false (.cons (.bin .add false (.bin .mul false (.idx (.var 0) (.k (.int 2))) (.k (.int 48271))) (.k (.int 11))) .nil)) (.k (.int 2147483647))))
      (.cons (.ret (.bin .mod false (.bi .int false (.cons (.bin .fdiv false (.idx (.var 0) (.k (.int 2))) (.k (.int 7))) .nil)) (.var 1))) .nil))
      (.nil))
      (.cons (.set 2 (.idx (.idx (.var 0) (.k (.int 0))) (.bin .sub false (.idx (.var 0) (.k (.int 1))) (.k (.int 1)))))
      (.cons (.sub 0 (.k (.int 2)) (.bin .mod false (.bi .int false (.cons (.bin .add false (.bin .add false (.bin .mul false (.idx (.var 0) (.k (.int 2))) (.k (.int 48271))) (.var 2)) (.k (.int 11))) .nil)) (.k (.int 2147483647))))
      (.cons (.ifs (.cmp .ge (.var 2) (.bin .pow false (.k (.int 10)) (.k (.int 18))))
      (.cons (.sub 0 (.k (.int 3)) (.bin .fdiv false (.var 2) (.var 1))) .nil)
      (.nil))
      (.cons (.ret (.bin .mod false (.bi .int false (.cons (.var 2) .nil)) (.var 1))) .nil)))))))⟩
def C__law_taken : FW.Ctx := ⟨["_law_row", "_law_many", "_law_cell", "_law_found"], L2.defScope (top 26), none, gs, [], blts⟩
def D__law_taken : He.DefD := ⟨("_law_taken", none), "_law_taken", "_law_taken", L2.defArgs (top 26), L2.defBody (top 26), L2.defScope (top 26), [], []⟩
theorem ok__law_taken : okB C__law_taken d__law_taken.body (L2.defBody (top 26)) = true := by decide +kernel
theorem sc__law_taken : FnScope C__law_taken.N ["_law_row", "_law_many"] (L2.defScope (top 26)) := ⟨rfl, rfl, rfl, by decide +kernel, rfl, by decide +kernel, by decide +kernel⟩
def F__law_taken : Fn := fnSem [] d__law_taken
def d__law_pick : FW.Def := ⟨2, 2, (.cons (.ret (.idx (.var 1) (.call 0 (.cons (.var 0) (.cons (.bi .len false (.cons (.var 1) .nil)) .nil))))) .nil)⟩
def C__law_pick : FW.Ctx := ⟨["_law_row", "_law_things"], L2.defScope (top 27), none, gs, ["_law_taken"], blts⟩
def D__law_pick : He.DefD := ⟨("_law_pick", none), "_law_pick", "_law_pick", L2.defArgs (top 27), L2.defBody (top 27), L2.defScope (top 27), [], []⟩
theorem ok__law_pick : okB C__law_pick d__law_pick.body (L2.defBody (top 27)) = true := by decide +kernel
theorem sc__law_pick : FnScope C__law_pick.N ["_law_row", "_law_things"] (L2.defScope (top 27)) := ⟨rfl, rfl, rfl, by decide +kernel, rfl, by decide +kernel, by decide +kernel⟩
def F__law_pick : Fn := fnSem [("_law_taken", F__law_taken)] d__law_pick
def d__law_gcd : FW.Def := ⟨2, 2, (.cons (.par [0, 1] (.cons (.bi .abs false (.cons (.var 0) .nil)) (.cons (.bi .abs false (.cons (.var 1) .nil)) .nil)))
      (.cons (.whil (.cmp .ne (.var 1) (.k (.int 0)))
      (.cons (.par [0, 1] (.cons (.var 1) (.cons (.bin .mod false (.bi .int false (.cons (.var 0) .nil)) (.var 1)) .nil))) .nil) [])
      (.cons (.ret (.var 0)) .nil)))⟩
def C__law_gcd : FW.Ctx := ⟨["_law_one", "_law_other"], L2.defScope (top 28), none, gs, [], blts⟩
def D__law_gcd : He.DefD := ⟨("_law_gcd", none), "_law_gcd", "_law_gcd", L2.defArgs (top 28), L2.defBody (top 28), L2.defScope (top 28), [], []⟩
theorem ok__law_gcd : okB C__law_gcd d__law_gcd.body (L2.defBody (top 28)) = true := by decide +kernel
theorem sc__law_gcd : FnScope C__law_gcd.N ["_law_one", "_law_other"] (L2.defScope (top 28)) := ⟨rfl, rfl, rfl, by decide +kernel, rfl, by decide +kernel, by decide +kernel⟩
def F__law_gcd : Fn := fnSem [] d__law_gcd
def d__law_ratio : FW.Def := ⟨2, 3, (.cons (.set 2 (.call 0 (.cons (.var 0) (.cons (.var 1) .nil))))
      (.cons (.set 2 (.ite (.cmp .lt (.var 1) (.k (.int 0))) (.bin .sub false (.k (.int 0)) (.var 2)) (.var 2)))
      (.cons (.ret (.tup (.cons (.bin .fdiv false (.var 0) (.var 2)) (.cons (.bin .fdiv false (.var 1) (.var 2)) .nil)))) .nil)))⟩
def C__law_ratio : FW.Ctx := ⟨["_law_numerator", "_law_denominator", "_law_common"], L2.defScope (top 29), none, gs, ["_law_gcd"], blts⟩
def D__law_ratio : He.DefD := ⟨("_law_ratio", none), "_law_ratio", "_law_ratio", L2.defArgs (top 29), L2.defBody (top 29), L2.defScope (top 29), [], []⟩
theorem ok__law_ratio : okB C__law_ratio d__law_ratio.body (L2.defBody (top 29)) = true := by decide +kernel
theorem sc__law_ratio : FnScope C__law_ratio.N ["_law_numerator", "_law_denominator"] (L2.defScope (top 29)) := ⟨rfl, rfl, rfl, by decide +kernel, rfl, by decide +kernel, by decide +kernel⟩
def F__law_ratio : Fn := fnSem [("_law_gcd", F__law_gcd)] d__law_ratio
def d__law_chances : FW.Def := ⟨2, 4, (.cons (.set 2 (.call 0 (.cons (.var 0) (.cons (.list false (.cons (.k (.int 2)) (.cons (.k (.int 4)) (.cons (.k (.int 10)) .nil)))) .nil))))
      (.cons (.ret (.bi .tuple false (.cons (.comp false [3] (.name 3) (.rng1 (.var 1)) (.k (.bl true)) (.call 1 (.cons (.call 2 (.cons (.var 0) (.cons (.bin .add false (.var 2) (.k (.int 1))) .nil))) (.cons (.var 2) .nil)))) .nil))) .nil))⟩
def C__law_chances : FW.Ctx := ⟨["_law_row", "_law_many", "_law_below", "_law_k"], L2.defScope (top 30), none, gs, ["_law_pick", "_law_ratio", "_law_taken"], blts⟩
def D__law_chances : He.DefD := ⟨("_law_chances", none), "_law_chances", "_law_chances", L2.defArgs (top 30), L2.defBody (top 30), L2.defScope (top 30), [], []⟩
theorem ok__law_chances : okB C__law_chances d__law_chances.body (L2.defBody (top 30)) = true := by decide +kernel
theorem sc__law_chances : FnScope C__law_chances.N ["_law_row", "_law_many"] (L2.defScope (top 30)) := ⟨rfl, rfl, rfl, by decide +kernel, rfl, by decide +kernel, by decide +kernel⟩
def F__law_chances : Fn := fnSem [("_law_pick", F__law_pick), ("_law_ratio", F__law_ratio), ("_law_taken", F__law_taken)] d__law_chances
def d__law_some_chance : FW.Def := ⟨1, 2, (.cons (.set 1 (.bin .add false (.k (.int 2)) (.call 1 (.cons (.var 0) (.cons (.k (.int 9)) .nil)))))
      (.cons (.ret (.call 0 (.cons (.bin .add false (.k (.int 1)) (.call 1 (.cons (.var 0) (.cons (.bin .sub false (.var 1) (.k (.int 1))) .nil)))) (.cons (.var 1) .nil)))) .nil))⟩
def C__law_some_chance : FW.Ctx := ⟨["_law_row", "_law_below"], L2.defScope (top 36), none, gs, ["_law_ratio", "_law_taken"], blts⟩
def D__law_some_chance : He.DefD := ⟨("_law_some_chance", none), "_law_some_chance", "_law_some_chance", L2.defArgs (top 36), L2.defBody (top 36), L2.defScope (top 36), [], []⟩
theorem ok__law_some_chance : okB C__law_some_chance d__law_some_chance.body (L2.defBody (top 36)) = true := by decide +kernel
theorem sc__law_some_chance : FnScope C__law_some_chance.N ["_law_row"] (L2.defScope (top 36)) := ⟨rfl, rfl, rfl, by decide +kernel, rfl, by decide +kernel, by decide +kernel⟩
def F__law_some_chance : Fn := fnSem [("_law_ratio", F__law_ratio), ("_law_taken", F__law_taken)] d__law_some_chance
def d__law_times : FW.Def := ⟨2, 2, (.cons (.ret (.call 0 (.cons (.bin .mul false (.idx (.var 0) (.k (.int 0))) (.idx (.var 1) (.k (.int 0)))) (.cons (.bin .mul false (.idx (.var 0) (.k (.int 1))) (.idx (.var 1) (.k (.int 1)))) .nil)))) .nil)⟩
def C__law_times : FW.Ctx := ⟨["_law_one", "_law_other"], L2.defScope (top 33), none, gs, ["_law_ratio"], blts⟩
def D__law_times : He.DefD := ⟨("_law_times", none), "_law_times", "_law_times", L2.defArgs (top 33), L2.defBody (top 33), L2.defScope (top 33), [], []⟩
theorem ok__law_times : okB C__law_times d__law_times.body (L2.defBody (top 33)) = true := by decide +kernel
theorem sc__law_times : FnScope C__law_times.N ["_law_one", "_law_other"] (L2.defScope (top 33)) := ⟨rfl, rfl, rfl, by decide +kernel, rfl, by decide +kernel, by decide +kernel⟩
def F__law_times : Fn := fnSem [("_law_ratio", F__law_ratio)] d__law_times
def d__law_plus : FW.Def := ⟨2, 2, (.cons (.ret (.call 0 (.cons (.bin .add false (.bin .mul false (.idx (.var 0) (.k (.int 0))) (.idx (.var 1) (.k (.int 1)))) (.bin .mul false (.idx (.var 1) (.k (.int 0))) (.idx (.var 0) (.k (.int 1))))) (.cons (.bin .mul false (.idx (.var 0) (.k (.int 1))) (.idx (.var 1) (.k (.int 1)))) .nil)))) .nil)⟩
def C__law_plus : FW.Ctx := ⟨["_law_one", "_law_other"], L2.defScope (top 32), none, gs, ["_law_ratio"], blts⟩
def D__law_plus : He.DefD := ⟨("_law_plus", none), "_law_plus", "_law_plus", L2.defArgs (top 32), L2.defBody (top 32), L2.defScope (top 32), [], []⟩
theorem ok__law_plus : okB C__law_plus d__law_plus.body (L2.defBody (top 32)) = true := by decide +kernel
theorem sc__law_plus : FnScope C__law_plus.N ["_law_one", "_law_other"] (L2.defScope (top 32)) := ⟨rfl, rfl, rfl, by decide +kernel, rfl, by decide +kernel, by decide +kernel⟩
def F__law_plus : Fn := fnSem [("_law_ratio", F__law_ratio)] d__law_plus
def d_gcd : FW.Def := ⟨2, 2, (.cons (.par [0, 1] (.cons (.bi .abs false (.cons (.var 0) .nil)) (.cons (.bi .abs false (.cons (.var 1) .nil)) .nil)))
      (.cons (.whil (.cmp .ne (.var 1) (.k (.int 0)))
      (.cons (.par [0, 1] (.cons (.var 1) (.cons (.bin .mod false (.var 0) (.var 1)) .nil))) .nil) [])
      (.cons (.ret (.var 0)) .nil)))⟩
def C_gcd : FW.Ctx := ⟨["one", "other"], L2.defScope (top 7), none, gs, [], blts⟩
def D_gcd : He.DefD := ⟨("gcd", none), "gcd", "gcd", L2.defArgs (top 7), L2.defBody (top 7), L2.defScope (top 7), [], []⟩
theorem ok_gcd : okB C_gcd d_gcd.body (L2.defBody (top 7)) = true := by decide +kernel
theorem sc_gcd : FnScope C_gcd.N ["one", "other"] (L2.defScope (top 7)) := ⟨rfl, rfl, rfl, by decide +kernel, rfl, by decide +kernel, by decide +kernel⟩
def F_gcd : Fn := fnSem [] d_gcd
def d_is_ratio : FW.Def := ⟨1, 2, (.cons (.ifs (.or (.cons (.nt (.isi [.tuple] (.var 0))) (.cons (.cmp .ne (.bi .len false (.cons (.var 0) .nil)) (.k (.int 2))) .nil)))
      (.cons (.ret (.k (.bl false))) .nil)
      (.nil))
      (.cons (.forr (.name 1) (.seq (.var 0))
      (.cons (.ifs (.or (.cons (.nt (.isi [.int] (.var 1))) (.cons (.isi [.bool] (.var 1)) .nil)))
      (.cons (.ret (.k (.bl false))) .nil)
      (.nil)) .nil) [])
      (.cons (.ret (.and (.cons (.cmp .gt (.idx (.var 0) (.k (.int 1))) (.k (.int 0))) (.cons (.cmp .eq (.call 0 (.cons (.idx (.var 0) (.k (.int 0))) (.cons (.idx (.var 0) (.k (.int 1))) .nil))) (.k (.int 1))) .nil)))) .nil)))⟩
def C_is_ratio : FW.Ctx := ⟨["value", "item"], L2.defScope (top 12), none, gs, ["gcd"], blts⟩
def D_is_ratio : He.DefD := ⟨("is_ratio", none), "is_ratio", "is_ratio", L2.defArgs (top 12), L2.defBody (top 12), L2.defScope (top 12), [], []⟩
theorem ok_is_ratio : okB C_is_ratio d_is_ratio.body (L2.defBody (top 12)) = true := by decide +kernel
theorem sc_is_ratio : FnScope C_is_ratio.N ["value"] (L2.defScope (top 12)) := ⟨rfl, rfl, rfl, by decide +kernel, rfl, by decide +kernel, by decide +kernel⟩
def F_is_ratio : Fn := fnSem [("gcd", F_gcd)] d_is_ratio
def d_is_chance : FW.Def := ⟨1, 1, (.cons (.ret (.and (.cons (.call 0 (.cons (.var 0) .nil)) (.cons (.chain .le .le (.k (.int 0)) (.idx (.var 0) (.k (.int 0))) (.idx (.var 0) (.k (.int 1)))) .nil)))) .nil)⟩
def C_is_chance : FW.Ctx := ⟨["value"], L2.defScope (top 16), none, gs, ["is_ratio"], blts⟩
def D_is_chance : He.DefD := ⟨("is_chance", none), "is_chance", "is_chance", L2.defArgs (top 16), L2.defBody (top 16), L2.defScope (top 16), [], []⟩
theorem ok_is_chance : okB C_is_chance d_is_chance.body (L2.defBody (top 16)) = true := by decide +kernel
theorem sc_is_chance : FnScope C_is_chance.N ["value"] (L2.defScope (top 16)) := ⟨rfl, rfl, rfl, by decide +kernel, rfl, by decide +kernel, by decide +kernel⟩
def F_is_chance : Fn := fnSem [("is_ratio", F_is_ratio)] d_is_chance
def d_need_row : FW.Def := ⟨1, 2, (.cons (.ifs (.or (.cons (.nt (.isi [.tuple] (.var 0))) (.cons (.nt (.chain .le .le (.k (.int 1)) (.bi .len false (.cons (.var 0) .nil)) (.glob "MOST_ROW" (.int 60)))) .nil)))
      (.cons (.raise "" .nil) .nil)
      (.nil))
      (.cons (.ifs (.cmp .ne (.comp false [1] (.name 1) (.seq (.var 0)) (.nt (.call 0 (.cons (.var 1) .nil))) (.var 1)) (.list false .nil))
      (.cons (.raise "" .nil) .nil)
      (.nil)) .nil))⟩
def C_need_row : FW.Ctx := ⟨["chances", "one"], L2.defScope (top 22), none, gs, ["is_chance"], blts⟩
def D_need_row : He.DefD := ⟨("need_row", none), "need_row", "need_row", L2.defArgs (top 22), L2.defBody (top 22), L2.defScope (top 22), [], []⟩
theorem ok_need_row : okB C_need_row d_need_row.body (L2.defBody (top 22)) = true := by decide +kernel
theorem sc_need_row : FnScope C_need_row.N ["chances"] (L2.defScope (top 22)) := ⟨rfl, rfl, rfl, by decide +kernel, rfl, by decide +kernel, by decide +kernel⟩
def F_need_row : Fn := fnSem [("is_chance", F_is_chance)] d_need_row
def d_reduced : FW.Def := ⟨2, 3, (.cons (.set 2 (.call 0 (.cons (.var 0) (.cons (.var 1) .nil))))
      (.cons (.ifs (.cmp .lt (.var 1) (.k (.int 0)))
      (.cons (.set 2 (.neg (.var 2))) .nil)
      (.nil))
      (.cons (.ret (.tup (.cons (.bin .fdiv false (.var 0) (.var 2)) (.cons (.bin .fdiv false (.var 1) (.var 2)) .nil)))) .nil)))⟩
def C_reduced : FW.Ctx := ⟨["numerator", "denominator", "common"], L2.defScope (top 8), none, gs, ["gcd"], blts⟩
def D_reduced : He.DefD := ⟨("reduced", none), "reduced", "reduced", L2.defArgs (top 8), L2.defBody (top 8), L2.defScope (top 8), [], []⟩
theorem ok_reduced : okB C_reduced d_reduced.body (L2.defBody (top 8)) = true := by decide +kernel
theorem sc_reduced : FnScope C_reduced.N ["numerator", "denominator"] (L2.defScope (top 8)) := ⟨rfl, rfl, rfl, by decide +kernel, rfl, by decide +kernel, by decide +kernel⟩
def F_reduced : Fn := fnSem [("gcd", F_gcd)] d_reduced
def d_plus : FW.Def := ⟨2, 2, (.cons (.ret (.call 0 (.cons (.bin .add false (.bin .mul false (.idx (.var 0) (.k (.int 0))) (.idx (.var 1) (.k (.int 1)))) (.bin .mul false (.idx (.var 1) (.k (.int 0))) (.idx (.var 0) (.k (.int 1))))) (.cons (.bin .mul false (.idx (.var 0) (.k (.int 1))) (.idx (.var 1) (.k (.int 1)))) .nil)))) .nil)⟩
def C_plus : FW.Ctx := ⟨["one", "other"], L2.defScope (top 9), none, gs, ["reduced"], blts⟩
def D_plus : He.DefD := ⟨("plus", none), "plus", "plus", L2.defArgs (top 9), L2.defBody (top 9), L2.defScope (top 9), [], []⟩
theorem ok_plus : okB C_plus d_plus.body (L2.defBody (top 9)) = true := by decide +kernel
theorem sc_plus : FnScope C_plus.N ["one", "other"] (L2.defScope (top 9)) := ⟨rfl, rfl, rfl, by decide +kernel, rfl, by decide +kernel, by decide +kernel⟩
def F_plus : Fn := fnSem [("reduced", F_reduced)] d_plus
def d_total_of : FW.Def := ⟨1, 3, (.cons (.set 1 (.glob "ZERO" (.tup [(.int 0), (.int 1)])))
      (.cons (.forr (.name 2) (.seq (.var 0))
      (.cons (.set 1 (.call 0 (.cons (.var 1) (.cons (.var 2) .nil)))) .nil) [])
      (.cons (.ret (.var 1)) .nil)))⟩
def C_total_of : FW.Ctx := ⟨["values", "found", "value"], L2.defScope (top 17), none, gs, ["plus"], blts⟩
def D_total_of : He.DefD := ⟨("total_of", none), "total_of", "total_of", L2.defArgs (top 17), L2.defBody (top 17), L2.defScope (top 17), [], []⟩
theorem ok_total_of : okB C_total_of d_total_of.body (L2.defBody (top 17)) = true := by decide +kernel
theorem sc_total_of : FnScope C_total_of.N ["values"] (L2.defScope (top 17)) := ⟨rfl, rfl, rfl, by decide +kernel, rfl, by decide +kernel, by decide +kernel⟩
def F_total_of : Fn := fnSem [("plus", F_plus)] d_total_of
def d_is_whole : FW.Def := ⟨1, 1, (.cons (.ret (.and (.cons (.isi [.int] (.var 0)) (.cons (.nt (.isi [.bool] (.var 0))) .nil)))) .nil)⟩
def C_is_whole : FW.Ctx := ⟨["value"], L2.defScope (top 21), none, gs, [], blts⟩
def D_is_whole : He.DefD := ⟨("is_whole", none), "is_whole", "is_whole", L2.defArgs (top 21), L2.defBody (top 21), L2.defScope (top 21), [], []⟩
theorem ok_is_whole : okB C_is_whole d_is_whole.body (L2.defBody (top 21)) = true := by decide +kernel
theorem sc_is_whole : FnScope C_is_whole.N ["value"] (L2.defScope (top 21)) := ⟨rfl, rfl, rfl, by decide +kernel, rfl, by decide +kernel, by decide +kernel⟩
def F_is_whole : Fn := fnSem [] d_is_whole
def d_is_in : FW.Def := ⟨3, 3, (.cons (.ret (.and (.cons (.isi [.int] (.var 0)) (.cons (.nt (.isi [.bool] (.var 0))) (.cons (.chain .le .le (.var 1) (.var 0) (.var 2)) .nil))))) .nil)⟩
def C_is_in : FW.Ctx := ⟨["value", "least", "most"], L2.defScope (top 6), none, gs, [], blts⟩
def D_is_in : He.DefD := ⟨("is_in", none), "is_in", "is_in", L2.defArgs (top 6), L2.defBody (top 6), L2.defScope (top 6), [], []⟩
theorem ok_is_in : okB C_is_in d_is_in.body (L2.defBody (top 6)) = true := by decide +kernel
theorem sc_is_in : FnScope C_is_in.N ["value", "least", "most"] (L2.defScope (top 6)) := ⟨rfl, rfl, rfl, by decide +kernel, rfl, by decide +kernel, by decide +kernel⟩
def F_is_in : Fn := fnSem [] d_is_in
def d_minus : FW.Def := ⟨2, 2, (.cons (.ret (.call 0 (.cons (.bin .sub false (.bin .mul false (.idx (.var 0) (.k (.int 0))) (.idx (.var 1) (.k (.int 1)))) (.bin .mul false (.idx (.var 1) (.k (.int 0))) (.idx (.var 0) (.k (.int 1))))) (.cons (.bin .mul false (.idx (.var 0) (.k (.int 1))) (.idx (.var 1) (.k (.int 1)))) .nil)))) .nil)⟩
def C_minus : FW.Ctx := ⟨["one", "other"], L2.defScope (top 10), none, gs, ["reduced"], blts⟩
def D_minus : He.DefD := ⟨("minus", none), "minus", "minus", L2.defArgs (top 10), L2.defBody (top 10), L2.defScope (top 10), [], []⟩
theorem ok_minus : okB C_minus d_minus.body (L2.defBody (top 10)) = true := by decide +kernel
theorem sc_minus : FnScope C_minus.N ["one", "other"] (L2.defScope (top 10)) := ⟨rfl, rfl, rfl, by decide +kernel, rfl, by decide +kernel, by decide +kernel⟩
def F_minus : Fn := fnSem [("reduced", F_reduced)] d_minus
def d_failed : FW.Def := ⟨1, 1, (.cons (.ret (.call 0 (.cons (.glob "ONE" (.tup [(.int 1), (.int 1)])) (.cons (.var 0) .nil)))) .nil)⟩
def C_failed : FW.Ctx := ⟨["one"], L2.defScope (top 23), none, gs, ["minus"], blts⟩
def D_failed : He.DefD := ⟨("failed", none), "failed", "failed", L2.defArgs (top 23), L2.defBody (top 23), L2.defScope (top 23), [], []⟩
theorem ok_failed : okB C_failed d_failed.body (L2.defBody (top 23)) = true := by decide +kernel
theorem sc_failed : FnScope C_failed.N ["one"] (L2.defScope (top 23)) := ⟨rfl, rfl, rfl, by decide +kernel, rfl, by decide +kernel, by decide +kernel⟩
def F_failed : Fn := fnSem [("minus", F_minus)] d_failed
def d_times : FW.Def := ⟨2, 2, (.cons (.ret (.call 0 (.cons (.bin .mul false (.idx (.var 0) (.k (.int 0))) (.idx (.var 1) (.k (.int 0)))) (.cons (.bin .mul false (.idx (.var 0) (.k (.int 1))) (.idx (.var 1) (.k (.int 1)))) .nil)))) .nil)⟩
def C_times : FW.Ctx := ⟨["one", "other"], L2.defScope (top 11), none, gs, ["reduced"], blts⟩
def D_times : He.DefD := ⟨("times", none), "times", "times", L2.defArgs (top 11), L2.defBody (top 11), L2.defScope (top 11), [], []⟩
theorem ok_times : okB C_times d_times.body (L2.defBody (top 11)) = true := by decide +kernel
theorem sc_times : FnScope C_times.N ["one", "other"] (L2.defScope (top 11)) := ⟨rfl, rfl, rfl, by decide +kernel, rfl, by decide +kernel, by decide +kernel⟩
def F_times : Fn := fnSem [("reduced", F_reduced)] d_times
def d_weight_chance : FW.Def := ⟨3, 12, (.cons (.ifs (.or (.cons (.nt (.isi [.tuple] (.var 0))) (.cons (.nt (.chain .le .le (.k (.int 1)) (.bi .len false (.cons (.var 0) .nil)) (.glob "MOST_ROW" (.int 60)))) .nil)))
      (.cons (.raise "" .nil) .nil)
      (.nil))
      (.cons (.ifs (.cmp .ne (.comp false [9] (.name 9) (.seq (.var 0)) (.nt (.call 4 (.cons (.var 9) (.cons (.k (.int 0)) (.cons (.glob "MOST_WEIGHT" (.int 20)) .nil))))) (.var 9)) (.list false .nil))
      (.cons (.raise "" .nil) .nil)
      (.nil))
      (.cons (.ifs (.nt (.call 2 (.cons (.var 1) .nil)))
      (.cons (.raise "" .nil) .nil)
      (.nil))
      (.cons (.expr (.call 0 (.cons (.var 2) .nil)))
      (.cons (.ifs (.cmp .ne (.bi .len false (.cons (.var 2) .nil)) (.bi .len false (.cons (.var 0) .nil)))
      (.cons (.raise "" .nil) .nil)
      (.nil))
      (.cons (.set 3 (.dicd (.cons (.k (.int 0)) (.cons (.glob "ONE" (.tup [(.int 1), (.int 1)])) .nil))))
      (.cons (.forr (.tup (.cons (.name 4) (.cons (.name 5) .nil))) (.zip2 (.var 0) (.var 2))
      (.cons (.set 6 .dic0)
      (.cons (.freeze 3)
      (.cons (.forr (.tup (.cons (.name 7) (.cons (.name 8) .nil))) (.items (.var 3))
      (.cons (.forr (.tup (.cons (.name 10) (.cons (.name 11) .nil))) (.seq (.list false (.cons (.tup (.cons (.var 4) (.cons (.var 5) .nil))) (.cons (.tup (.cons (.k (.int 0)) (.cons (.call 5 (.cons (.var 5) .nil)) .nil))) .nil))))
      (.cons (.sub 6 (.bin .add false (.var 7) (.var 10)) (.call 3 (.cons (.get (.var 6) (.bin .add false (.var 7) (.var 10)) (.glob "ZERO" (.tup [(.int 0), (.int 1)]))) (.cons (.call 6 (.cons (.var 8) (.cons (.var 11) .nil))) .nil)))) .nil) []) .nil) [])
      (.cons (.freeze 6)
      (.cons (.set 3 (.var 6)) .nil))))) [])
      (.cons (.freeze 3)
      (.cons (.ret (.call 1 (.cons (.comp false [7, 8] (.tup (.cons (.name 7) (.cons (.name 8) .nil))) (.items (.var 3)) (.cmp .ge (.var 7) (.var 1)) (.var 8)) .nil))) .nil)))))))))⟩
def C_weight_chance : FW.Ctx := ⟨["weights", "quota", "chances", "row", "weight", "one", "longer", "told", "part", "x", "more", "factor"], L2.defScope (top 24), none, gs, ["need_row", "total_of", "is_whole", "plus", "is_in", "failed", "times"], blts⟩
def D_weight_chance : He.DefD := ⟨("weight_chance", none), "weight_chance", "weight_chance", L2.defArgs (top 24), L2.defBody (top 24), L2.defScope (top 24), [], []⟩
theorem ok_weight_chance : okB C_weight_chance d_weight_chance.body (L2.defBody (top 24)) = true := by decide +kernel
theorem sc_weight_chance : FnScope C_weight_chance.N ["weights", "quota", "chances"] (L2.defScope (top 24)) := ⟨rfl, rfl, rfl, by decide +kernel, rfl, by decide +kernel, by decide +kernel⟩
def F_weight_chance : Fn := fnSem [("need_row", F_need_row), ("total_of", F_total_of), ("is_whole", F_is_whole), ("plus", F_plus), ("is_in", F_is_in), ("failed", F_failed), ("times", F_times)] d_weight_chance
def d__law_power : FW.Def := ⟨2, 4, (.cons (.set 2 (.tup (.cons (.k (.int 1)) (.cons (.k (.int 1)) .nil))))
      (.cons (.forr (.name 3) (.rng1 (.var 1))
      (.cons (.set 2 (.call 0 (.cons (.var 2) (.cons (.var 0) .nil)))) .nil) [])
      (.cons (.ret (.var 2)) .nil)))⟩
def C__law_power : FW.Ctx := ⟨["_law_base", "_law_exponent", "_law_found", "_law_turn"], L2.defScope (top 37), none, gs, ["_law_times"], blts⟩
def D__law_power : He.DefD := ⟨("_law_power", none), "_law_power", "_law_power", L2.defArgs (top 37), L2.defBody (top 37), L2.defScope (top 37), [], []⟩
theorem ok__law_power : okB C__law_power d__law_power.body (L2.defBody (top 37)) = true := by decide +kernel
theorem sc__law_power : FnScope C__law_power.N ["_law_base", "_law_exponent"] (L2.defScope (top 37)) := ⟨rfl, rfl, rfl, by decide +kernel, rfl, by decide +kernel, by decide +kernel⟩
def F__law_power : Fn := fnSem [("_law_times", F__law_times)] d__law_power
def d__law_weight : FW.Def := ⟨2, 6, (.cons (.set 2 (.tup (.cons (.k (.int 1)) (.cons (.k (.int 1)) .nil))))
      (.cons (.forr (.name 3) (.rng1 (.bi .len false (.cons (.var 1) .nil)))
      (.cons (.unpack (.cons (.name 4) (.cons (.name 5) .nil)) (.idx (.var 0) (.var 3)))
      (.cons (.set 2 (.call 0 (.cons (.var 2) (.cons (.ite (.cmp .eq (.idx (.var 1) (.var 3)) (.k (.int 1))) (.tup (.cons (.var 4) (.cons (.var 5) .nil))) (.tup (.cons (.bin .sub false (.var 5) (.var 4)) (.cons (.var 5) .nil)))) .nil)))) .nil)) [])
      (.cons (.ret (.var 2)) .nil)))⟩
def C__law_weight : FW.Ctx := ⟨["_law_chances_here", "_law_state", "_law_found", "_law_k", "_law_a", "_law_b"], L2.defScope (top 34), none, gs, ["_law_times"], blts⟩
def D__law_weight : He.DefD := ⟨("_law_weight", none), "_law_weight", "_law_weight", L2.defArgs (top 34), L2.defBody (top 34), L2.defScope (top 34), [], []⟩
theorem ok__law_weight : okB C__law_weight d__law_weight.body (L2.defBody (top 34)) = true := by decide +kernel
theorem sc__law_weight : FnScope C__law_weight.N ["_law_chances_here", "_law_state"] (L2.defScope (top 34)) := ⟨rfl, rfl, rfl, by decide +kernel, rfl, by decide +kernel, by decide +kernel⟩
def F__law_weight : Fn := fnSem [("_law_times", F__law_times)] d__law_weight
def d__law_less_one : FW.Def := ⟨1, 1, (.cons (.ret (.tup (.cons (.bin .sub false (.idx (.var 0) (.k (.int 1))) (.idx (.var 0) (.k (.int 0)))) (.cons (.idx (.var 0) (.k (.int 1))) .nil)))) .nil)⟩
def C__law_less_one : FW.Ctx := ⟨["_law_one"], L2.defScope (top 38), none, gs, [], blts⟩
def D__law_less_one : He.DefD := ⟨("_law_less_one", none), "_law_less_one", "_law_less_one", L2.defArgs (top 38), L2.defBody (top 38), L2.defScope (top 38), [], []⟩
theorem ok__law_less_one : okB C__law_less_one d__law_less_one.body (L2.defBody (top 38)) = true := by decide +kernel
theorem sc__law_less_one : FnScope C__law_less_one.N ["_law_one"] (L2.defScope (top 38)) := ⟨rfl, rfl, rfl, by decide +kernel, rfl, by decide +kernel, by decide +kernel⟩
def F__law_less_one : Fn := fnSem [] d__law_less_one
def d__law_choose : FW.Def := ⟨2, 4, (.cons (.set 2 (.k (.int 1)))
      (.cons (.forr (.name 3) (.rng1 (.var 1))
      (.cons (.set 2 (.bin .fdiv false (.bin .mul false (.var 2) (.bin .sub false (.var 0) (.var 3))) (.bin .add false (.var 3) (.k (.int 1))))) .nil) [])
      (.cons (.ret (.ite (.cmp .ge (.var 0) (.var 1)) (.var 2) (.k (.int 0)))) .nil)))⟩
def C__law_choose : FW.Ctx := ⟨["_law_many", "_law_few", "_law_found", "_law_k"], L2.defScope (top 39), none, gs, [], blts⟩
def D__law_choose : He.DefD := ⟨("_law_choose", none), "_law_choose", "_law_choose", L2.defArgs (top 39), L2.defBody (top 39), L2.defScope (top 39), [], []⟩
theorem ok__law_choose : okB C__law_choose d__law_choose.body (L2.defBody (top 39)) = true := by decide +kernel
theorem sc__law_choose : FnScope C__law_choose.N ["_law_many", "_law_few"] (L2.defScope (top 39)) := ⟨rfl, rfl, rfl, by decide +kernel, rfl, by decide +kernel, by decide +kernel⟩
def F__law_choose : Fn := fnSem [] d__law_choose
def d_law : FW.Def := ⟨1, 12, (.cons (.set 1 (.list true (.cons (.var 0) (.cons (.k (.int 0)) (.cons (.k (.int 4073)) (.cons (.k (.int 0)) .nil))))))
      (.cons (.set 2 (.bin .add false (.k (.int 1)) (.call 2 (.cons (.var 1) (.cons (.k (.int 8)) .nil)))))
      (.cons (.unpack (.cons (.name 5) (.cons (.name 6) .nil)) (.tup (.cons (.bi .tuple false (.cons (.comp false [11] (.name 11) (.rng1 (.var 2)) (.k (.bl true)) (.call 2 (.cons (.var 1) (.cons (.k (.int 21)) .nil)))) .nil)) (.cons (.call 3 (.cons (.var 1) (.cons (.var 2) .nil))) .nil))))
      (.cons (.par [7, 8] (.cons (.bin .sub false (.call 2 (.cons (.var 1) (.cons (.bin .add false (.bi .sum false (.cons (.var 5) .nil)) (.k (.int 3))) .nil))) (.k (.int 1))) (.cons (.tup (.cons (.k (.int 0)) (.cons (.k (.int 1)) .nil))) .nil)))
      (.cons (.forr (.name 3) (.seq (.call 0 (.cons (.var 2) .nil)))
      (.cons (.ifs (.cmp .ge (.bi .sum false (.cons (.comp false [11] (.name 11) (.rng1 (.var 2)) (.cmp .eq (.idx (.var 3) (.var 11)) (.k (.int 1))) (.idx (.var 5) (.var 11))) .nil)) (.var 7))
      (.cons (.set 8 (.call 6 (.cons (.var 8) (.cons (.call 9 (.cons (.var 6) (.cons (.var 3) .nil))) .nil)))) .nil)
      (.nil)) .nil) [])
      (.cons (.ifs (.nt (.call 1 (.cons (.call 7 (.cons (.var 5) (.cons (.var 7) (.cons (.var 6) .nil)))) (.cons (.var 8) .nil))))
      (.cons (.ret (.k (.bl false))) .nil)
      (.nil))
      (.cons (.par [2, 9] (.cons (.bin .add false (.k (.int 9)) (.call 2 (.cons (.var 1) (.cons (.k (.int 12)) .nil)))) (.cons (.call 4 (.cons (.var 1) .nil)) .nil)))
      (.cons (.par [7, 8] (.cons (.call 2 (.cons (.var 1) (.cons (.bin .add false (.var 2) (.k (.int 2))) .nil))) (.cons (.tup (.cons (.k (.int 0)) (.cons (.k (.int 1)) .nil))) .nil)))
      (.cons (.forr (.name 4) (.rng2 (.var 7) (.bin .add false (.var 2) (.k (.int 1))))
      (.cons (.set 10 (.call 5 (.cons (.call 8 (.cons (.var 9) (.cons (.var 4) .nil))) (.cons (.call 8 (.cons (.call 10 (.cons (.var 9) .nil)) (.cons (.bin .sub false (.var 2) (.var 4)) .nil))) .nil))))
      (.cons (.set 8 (.call 6 (.cons (.var 8) (.cons (.call 5 (.cons (.tup (.cons (.call 11 (.cons (.var 2) (.cons (.var 4) .nil))) (.cons (.k (.int 1)) .nil))) (.cons (.var 10) .nil))) .nil)))) .nil)) [])
      (.cons (.ret (.call 1 (.cons (.call 7 (.cons (.bin .mul false (.tup (.cons (.k (.int 3)) .nil)) (.var 2)) (.cons (.bin .mul false (.k (.int 3)) (.var 7)) (.cons (.bin .mul false (.tup (.cons (.var 9) .nil)) (.var 2)) .nil)))) (.cons (.var 8) .nil)))) .nil))))))))))⟩
def C_law : FW.Ctx := ⟨["_law_script", "_law_row", "_law_many", "_law_state", "_law_j", "_law_weights", "_law_chances_here", "_law_quota", "_law_total", "_law_p", "_law_part", "_law_k"], L2.defScope (top 40), none, gs, ["_law_states", "_law_alike", "_law_taken", "_law_chances", "_law_some_chance", "_law_times", "_law_plus", "weight_chance", "_law_power", "_law_weight", "_law_less_one", "_law_choose"], blts⟩
def D_law : He.DefD := ⟨("law", none), "law", "law", L2.defArgs (top 40), L2.defBody (top 40), L2.defScope (top 40), [], []⟩
theorem ok_law : okB C_law d_law.body (L2.defBody (top 40)) = true := by decide +kernel
theorem sc_law : FnScope C_law.N ["_law_script"] (L2.defScope (top 40)) := ⟨rfl, rfl, rfl, by decide +kernel, rfl, by decide +kernel, by decide +kernel⟩
def F_law : Fn := fnSem [("_law_states", F__law_states), ("_law_alike", F__law_alike 8), ("_law_taken", F__law_taken), ("_law_chances", F__law_chances), ("_law_some_chance", F__law_some_chance), ("_law_times", F__law_times), ("_law_plus", F__law_plus), ("weight_chance", F_weight_chance), ("_law_power", F__law_power), ("_law_weight", F__law_weight), ("_law_less_one", F__law_less_one), ("_law_choose", F__law_choose)] d_law
def fn : List He.DefD := [D__law_states, D__law_alike, D__law_taken, D__law_pick, D__law_gcd, D__law_ratio, D__law_chances, D__law_some_chance, D__law_times, D__law_plus, D_gcd, D_is_ratio, D_is_chance, D_need_row, D_reduced, D_plus, D_total_of, D_is_whole, D_is_in, D_minus, D_failed, D_times, D_weight_chance, D__law_power, D__law_weight, D__law_less_one, D__law_choose, D_law]
abbrev fa : List He.Fa := faOf glos blts
section
variable {P : Program} {w : World} {K : PySem.W.Frag} {mg : PySem.Str → Option Value} {base h : Heap}
theorem fo__law_states (X : K.In h) (G : h.Ns mainGlobals mg) (c : SaysF fa fn gs K) : FO P w K mg base 1 "_law_states" F__law_states := by
  obtain ⟨fd, F⟩ := c.d.def_ 0 (d := D__law_states) rfl
  exact fo_mk (k := 0) F (F.bindsN fun _ _ _ _ _ _ us hl => match us, hl with | [_], _ => rfl) (glo_at X G c.d (n := "_law_states") (by decide +kernel)) sc__law_states rfl rfl rfl ok__law_states trivial (glob_all X G c) (blt_all X G c.d)
theorem fo__law_alike' (X : K.In h) (G : h.Ns mainGlobals mg) (c : SaysF fa fn gs K) : ∀ n : Nat, FO P w K mg base (1 + n) "_law_alike" (F__law_alike n)
  | 0 => by
    obtain ⟨fd, F⟩ := c.d.def_ 1 (d := D__law_alike) rfl
    exact fo_bad (ps := ["_law_found", "_law_due"]) F (F.bindsN fun _ _ _ _ _ _ us hl => match us, hl with | [_, _], _ => rfl) (glo_at X G c.d (n := "_law_alike") (by decide +kernel))
  | n + 1 => by
    obtain ⟨fd, F⟩ := c.d.def_ 1 (d := D__law_alike) rfl
    have ih : FO P w K mg base (1 + n) "_law_alike" (F__law_alike n) := fo__law_alike' X G c n
    exact fo_mk (k := 1 + n) F (F.bindsN fun _ _ _ _ _ _ us hl => match us, hl with | [_, _], _ => rfl) (glo_at X G c.d (n := "_law_alike") (by decide +kernel)) sc__law_alike rfl rfl rfl ok__law_alike ⟨⟨rfl, ih⟩, trivial⟩ (glob_all X G c) (blt_all X G c.d)
theorem fo__law_alike (X : K.In h) (G : h.Ns mainGlobals mg) (c : SaysF fa fn gs K) : FO P w K mg base 9 "_law_alike" (F__law_alike 8) := fo__law_alike' X G c 8
theorem fo__law_taken (X : K.In h) (G : h.Ns mainGlobals mg) (c : SaysF fa fn gs K) : FO P w K mg base 1 "_law_taken" F__law_taken := by
  obtain ⟨fd, F⟩ := c.d.def_ 2 (d := D__law_taken) rfl
  exact fo_mk (k := 0) F (F.bindsN fun _ _ _ _ _ _ us hl => match us, hl with | [_, _], _ => rfl) (glo_at X G c.d (n := "_law_taken") (by decide +kernel)) sc__law_taken rfl rfl rfl ok__law_taken trivial (glob_all X G c) (blt_all X G c.d)
theorem fo__law_pick (X : K.In h) (G : h.Ns mainGlobals mg) (c : SaysF fa fn gs K) : FO P w K mg base 2 "_law_pick" F__law_pick := by
  obtain ⟨fd, F⟩ := c.d.def_ 3 (d := D__law_pick) rfl
  exact fo_mk (k := 1) F (F.bindsN fun _ _ _ _ _ _ us hl => match us, hl with | [_, _], _ => rfl) (glo_at X G c.d (n := "_law_pick") (by decide +kernel)) sc__law_pick rfl rfl rfl ok__law_pick ⟨⟨rfl, (fo__law_taken X G c).mono (by decide)⟩, trivial⟩ (glob_all X G c) (blt_all X G c.d)
theorem fo__law_gcd (X : K.In h) (G : h.Ns mainGlobals mg) (c : SaysF fa fn gs K) : FO P w K mg base 1 "_law_gcd" F__law_gcd := by
  obtain ⟨fd, F⟩ := c.d.def_ 4 (d := D__law_gcd) rfl
  exact fo_mk (k := 0) F (F.bindsN fun _ _ _ _ _ _ us hl => match us, hl with | [_, _], _ => rfl) (glo_at X G c.d (n := "_law_gcd") (by decide +kernel)) sc__law_gcd rfl rfl rfl ok__law_gcd trivial (glob_all X G c) (blt_all X G c.d)
theorem fo__law_ratio (X : K.In h) (G : h.Ns mainGlobals mg) (c : SaysF fa fn gs K) : FO P w K mg base 2 "_law_ratio" F__law_ratio := by
  obtain ⟨fd, F⟩ := c.d.def_ 5 (d := D__law_ratio) rfl
  exact fo_mk (k := 1) F (F.bindsN fun _ _ _ _ _ _ us hl => match us, hl with | [_, _], _ => rfl) (glo_at X G c.d (n := "_law_ratio") (by decide +kernel)) sc__law_ratio rfl rfl rfl ok__law_ratio ⟨⟨rfl, (fo__law_gcd X G c).mono (by decide)⟩, trivial⟩ (glob_all X G c) (blt_all X G c.d)
theorem fo__law_chances (X : K.In h) (G : h.Ns mainGlobals mg) (c : SaysF fa fn gs K) : FO P w K mg base 3 "_law_chances" F__law_chances := by
  obtain ⟨fd, F⟩ := c.d.def_ 6 (d := D__law_chances) rfl
  exact fo_mk (k := 2) F (F.bindsN fun _ _ _ _ _ _ us hl => match us, hl with | [_, _], _ => rfl) (glo_at X G c.d (n := "_law_chances") (by decide +kernel)) sc__law_chances rfl rfl rfl ok__law_chances ⟨⟨rfl, (fo__law_pick X G c).mono (by decide)⟩, ⟨rfl, (fo__law_ratio X G c).mono (by decide)⟩, ⟨rfl, (fo__law_taken X G c).mono (by decide)⟩, trivial⟩ (glob_all X G c) (blt_all X G c.d)
theorem fo__law_some_chance (X : K.In h) (G : h.Ns mainGlobals mg) (c : SaysF fa fn gs K) : FO P w K mg base 3 "_law_some_chance" F__law_some_chance := by
  obtain ⟨fd, F⟩ := c.d.def_ 7 (d := D__law_some_chance) rfl
  exact fo_mk (k := 2) F (F.bindsN fun _ _ _ _ _ _ us hl => match us, hl with | [_], _ => rfl) (glo_at X G c.d (n := "_law_some_chance") (by decide +kernel)) sc__law_some_chance rfl rfl rfl ok__law_some_chance ⟨⟨rfl, (fo__law_ratio X G c).mono (by decide)⟩, ⟨rfl, (fo__law_taken X G c).mono (by decide)⟩, trivial⟩ (glob_all X G c) (blt_all X G c.d)
theorem fo__law_times (X : K.In h) (G : h.Ns mainGlobals mg) (c : SaysF fa fn gs K) : FO P w K mg base 3 "_law_times" F__law_times := by
  obtain ⟨fd, F⟩ := c.d.def_ 8 (d := D__law_times) rfl
  exact fo_mk (k := 2) F (F.bindsN fun _ _ _ _ _ _ us hl => match us, hl with | [_, _], _ => rfl) (glo_at X G c.d (n := "_law_times") (by decide +kernel)) sc__law_times rfl rfl rfl ok__law_times ⟨⟨rfl, (fo__law_ratio X G c).mono (by decide)⟩, trivial⟩ (glob_all X G c) (blt_all X G c.d)
theorem fo__law_plus (X : K.In h) (G : h.Ns mainGlobals mg) (c : SaysF fa fn gs K) : FO P w K mg base 3 "_law_plus" F__law_plus := by
  obtain ⟨fd, F⟩ := c.d.def_ 9 (d := D__law_plus) rfl
  exact fo_mk (k := 2) F (F.bindsN fun _ _ _ _ _ _ us hl => match us, hl with | [_, _], _ => rfl) (glo_at X G c.d (n := "_law_plus") (by decide +kernel)) sc__law_plus rfl rfl rfl ok__law_plus ⟨⟨rfl, (fo__law_ratio X G c).mono (by decide)⟩, trivial⟩ (glob_all X G c) (blt_all X G c.d)
theorem fo_gcd (X : K.In h) (G : h.Ns mainGlobals mg) (c : SaysF fa fn gs K) : FO P w K mg base 1 "gcd" F_gcd := by
  obtain ⟨fd, F⟩ := c.d.def_ 10 (d := D_gcd) rfl
  exact fo_mk (k := 0) F (F.bindsN fun _ _ _ _ _ _ us hl => match us, hl with | [_, _], _ => rfl) (glo_at X G c.d (n := "gcd") (by decide +kernel)) sc_gcd rfl rfl rfl ok_gcd trivial (glob_all X G c) (blt_all X G c.d)
theorem fo_is_ratio (X : K.In h) (G : h.Ns mainGlobals mg) (c : SaysF fa fn gs K) : FO P w K mg base 2 "is_ratio" F_is_ratio := by
  obtain ⟨fd, F⟩ := c.d.def_ 11 (d := D_is_ratio) rfl
  exact fo_mk (k := 1) F (F.bindsN fun _ _ _ _ _ _ us hl => match us, hl with | [_], _ => rfl) (glo_at X G c.d (n := "is_ratio") (by decide +kernel)) sc_is_ratio rfl rfl rfl ok_is_ratio ⟨⟨rfl, (fo_gcd X G c).mono (by decide)⟩, trivial⟩ (glob_all X G c) (blt_all X G c.d)
theorem fo_is_chance (X : K.In h) (G : h.Ns mainGlobals mg) (c : SaysF fa fn gs K) : FO P w K mg base 3 "is_chance" F_is_chance := by
  obtain ⟨fd, F⟩ := c.d.def_ 12 (d := D_is_chance) rfl
  exact fo_mk (k := 2) F (F.bindsN fun _ _ _ _ _ _ us hl => match us, hl with | [_], _ => rfl) (glo_at X G c.d (n := "is_chance") (by decide +kernel)) sc_is_chance rfl rfl rfl ok_is_chance ⟨⟨rfl, (fo_is_ratio X G c).mono (by decide)⟩, trivial⟩ (glob_all X G c) (blt_all X G c.d)
theorem fo_need_row (X : K.In h) (G : h.Ns mainGlobals mg) (c : SaysF fa fn gs K) : FO P w K mg base 4 "need_row" F_need_row := by
  obtain ⟨fd, F⟩ := c.d.def_ 13 (d := D_need_row) rfl
  exact fo_mk (k := 3) F (F.bindsN fun _ _ _ _ _ _ us hl => match us, hl with | [_], _ => rfl) (glo_at X G c.d (n := "need_row") (by decide +kernel)) sc_need_row rfl rfl rfl ok_need_row ⟨⟨rfl, (fo_is_chance X G c).mono (by decide)⟩, trivial⟩ (glob_all X G c) (blt_all X G c.d)
theorem fo_reduced (X : K.In h) (G : h.Ns mainGlobals mg) (c : SaysF fa fn gs K) : FO P w K mg base 2 "reduced" F_reduced := by
  obtain ⟨fd, F⟩ := c.d.def_ 14 (d := D_reduced) rfl
  exact fo_mk (k := 1) F (F.bindsN fun _ _ _ _ _ _ us hl => match us, hl with | [_, _], _ => rfl) (glo_at X G c.d (n := "reduced") (by decide +kernel)) sc_reduced rfl rfl rfl ok_reduced ⟨⟨rfl, (fo_gcd X G c).mono (by decide)⟩, trivial⟩ (glob_all X G c) (blt_all X G c.d)
theorem fo_plus (X : K.In h) (G : h.Ns mainGlobals mg) (c : SaysF fa fn gs K) : FO P w K mg base 3 "plus" F_plus := by
  obtain ⟨fd, F⟩ := c.d.def_ 15 (d := D_plus) rfl
  exact fo_mk (k := 2) F (F.bindsN fun _ _ _ _ _ _ us hl => match us, hl with | [_, _], _ => rfl) (glo_at X G c.d (n := "plus") (by decide +kernel)) sc_plus rfl rfl rfl ok_plus ⟨⟨rfl, (fo_reduced X G c).mono (by decide)⟩, trivial⟩ (glob_all X G c) (blt_all X G c.d)
theorem fo_total_of (X : K.In h) (G : h.Ns mainGlobals mg) (c : SaysF fa fn gs K) : FO P w K mg base 4 "total_of" F_total_of := by
  obtain ⟨fd, F⟩ := c.d.def_ 16 (d := D_total_of) rfl
  exact fo_mk (k := 3) F (F.bindsN fun _ _ _ _ _ _ us hl => match us, hl with | [_], _ => rfl) (glo_at X G c.d (n := "total_of") (by decide +kernel)) sc_total_of rfl rfl rfl ok_total_of ⟨⟨rfl, (fo_plus X G c).mono (by decide)⟩, trivial⟩ (glob_all X G c) (blt_all X G c.d)
theorem fo_is_whole (X : K.In h) (G : h.Ns mainGlobals mg) (c : SaysF fa fn gs K) : FO P w K mg base 1 "is_whole" F_is_whole := by
  obtain ⟨fd, F⟩ := c.d.def_ 17 (d := D_is_whole) rfl
  exact fo_mk (k := 0) F (F.bindsN fun _ _ _ _ _ _ us hl => match us, hl with | [_], _ => rfl) (glo_at X G c.d (n := "is_whole") (by decide +kernel)) sc_is_whole rfl rfl rfl ok_is_whole trivial (glob_all X G c) (blt_all X G c.d)
theorem fo_is_in (X : K.In h) (G : h.Ns mainGlobals mg) (c : SaysF fa fn gs K) : FO P w K mg base 1 "is_in" F_is_in := by
  obtain ⟨fd, F⟩ := c.d.def_ 18 (d := D_is_in) rfl
  exact fo_mk (k := 0) F (F.bindsN fun _ _ _ _ _ _ us hl => match us, hl with | [_, _, _], _ => rfl) (glo_at X G c.d (n := "is_in") (by decide +kernel)) sc_is_in rfl rfl rfl ok_is_in trivial (glob_all X G c) (blt_all X G c.d)
theorem fo_minus (X : K.In h) (G : h.Ns mainGlobals mg) (c : SaysF fa fn gs K) : FO P w K mg base 3 "minus" F_minus := by
  obtain ⟨fd, F⟩ := c.d.def_ 19 (d := D_minus) rfl
  exact fo_mk (k := 2) F (F.bindsN fun _ _ _ _ _ _ us hl => match us, hl with | [_, _], _ => rfl) (glo_at X G c.d (n := "minus") (by decide +kernel)) sc_minus rfl rfl rfl ok_minus ⟨⟨rfl, (fo_reduced X G c).mono (by decide)⟩, trivial⟩ (glob_all X G c) (blt_all X G c.d)
theorem fo_failed (X : K.In h) (G : h.Ns mainGlobals mg) (c : SaysF fa fn gs K) : FO P w K mg base 4 "failed" F_failed := by
  obtain ⟨fd, F⟩ := c.d.def_ 20 (d := D_failed) rfl
  exact fo_mk (k := 3) F (F.bindsN fun _ _ _ _ _ _ us hl => match us, hl with | [_], _ => rfl) (glo_at X G c.d (n := "failed") (by decide +kernel)) sc_failed rfl rfl rfl ok_failed ⟨⟨rfl, (fo_minus X G c).mono (by decide)⟩, trivial⟩ (glob_all X G c) (blt_all X G c.d)
theorem fo_times (X : K.In h) (G : h.Ns mainGlobals mg) (c : SaysF fa fn gs K) : FO P w K mg base 3 "times" F_times := by
  obtain ⟨fd, F⟩ := c.d.def_ 21 (d := D_times) rfl
  exact fo_mk (k := 2) F (F.bindsN fun _ _ _ _ _ _ us hl => match us, hl with | [_, _], _ => rfl) (glo_at X G c.d (n := "times") (by decide +kernel)) sc_times rfl rfl rfl ok_times ⟨⟨rfl, (fo_reduced X G c).mono (by decide)⟩, trivial⟩ (glob_all X G c) (blt_all X G c.d)
theorem fo_weight_chance (X : K.In h) (G : h.Ns mainGlobals mg) (c : SaysF fa fn gs K) : FO P w K mg base 5 "weight_chance" F_weight_chance := by
  obtain ⟨fd, F⟩ := c.d.def_ 22 (d := D_weight_chance) rfl
  exact fo_mk (k := 4) F (F.bindsN fun _ _ _ _ _ _ us hl => match us, hl with | [_, _, _], _ => rfl) (glo_at X G c.d (n := "weight_chance") (by decide +kernel)) sc_weight_chance rfl rfl rfl ok_weight_chance ⟨⟨rfl, (fo_need_row X G c).mono (by decide)⟩, ⟨rfl, (fo_total_of X G c).mono (by decide)⟩, ⟨rfl, (fo_is_whole X G c).mono (by decide)⟩, ⟨rfl, (fo_plus X G c).mono (by decide)⟩, ⟨rfl, (fo_is_in X G c).mono (by decide)⟩, ⟨rfl, (fo_failed X G c).mono (by decide)⟩, ⟨rfl, (fo_times X G c).mono (by decide)⟩, trivial⟩ (glob_all X G c) (blt_all X G c.d)
theorem fo__law_power (X : K.In h) (G : h.Ns mainGlobals mg) (c : SaysF fa fn gs K) : FO P w K mg base 4 "_law_power" F__law_power := by
  obtain ⟨fd, F⟩ := c.d.def_ 23 (d := D__law_power) rfl
  exact fo_mk (k := 3) F (F.bindsN fun _ _ _ _ _ _ us hl => match us, hl with | [_, _], _ => rfl) (glo_at X G c.d (n := "_law_power") (by decide +kernel)) sc__law_power rfl rfl rfl ok__law_power ⟨⟨rfl, (fo__law_times X G c).mono (by decide)⟩, trivial⟩ (glob_all X G c) (blt_all X G c.d)
theorem fo__law_weight (X : K.In h) (G : h.Ns mainGlobals mg) (c : SaysF fa fn gs K) : FO P w K mg base 4 "_law_weight" F__law_weight := by
  obtain ⟨fd, F⟩ := c.d.def_ 24 (d := D__law_weight) rfl
  exact fo_mk (k := 3) F (F.bindsN fun _ _ _ _ _ _ us hl => match us, hl with | [_, _], _ => rfl) (glo_at X G c.d (n := "_law_weight") (by decide +kernel)) sc__law_weight rfl rfl rfl ok__law_weight ⟨⟨rfl, (fo__law_times X G c).mono (by decide)⟩, trivial⟩ (glob_all X G c) (blt_all X G c.d)
theorem fo__law_less_one (X : K.In h) (G : h.Ns mainGlobals mg) (c : SaysF fa fn gs K) : FO P w K mg base 1 "_law_less_one" F__law_less_one := by
  obtain ⟨fd, F⟩ := c.d.def_ 25 (d := D__law_less_one) rfl
  exact fo_mk (k := 0) F (F.bindsN fun _ _ _ _ _ _ us hl => match us, hl with | [_], _ => rfl) (glo_at X G c.d (n := "_law_less_one") (by decide +kernel)) sc__law_less_one rfl rfl rfl ok__law_less_one trivial (glob_all X G c) (blt_all X G c.d)
theorem fo__law_choose (X : K.In h) (G : h.Ns mainGlobals mg) (c : SaysF fa fn gs K) : FO P w K mg base 1 "_law_choose" F__law_choose := by
  obtain ⟨fd, F⟩ := c.d.def_ 26 (d := D__law_choose) rfl
  exact fo_mk (k := 0) F (F.bindsN fun _ _ _ _ _ _ us hl => match us, hl with | [_, _], _ => rfl) (glo_at X G c.d (n := "_law_choose") (by decide +kernel)) sc__law_choose rfl rfl rfl ok__law_choose trivial (glob_all X G c) (blt_all X G c.d)
theorem fn_law {fd : FuncData} (X : K.In h) (G : h.Ns mainGlobals mg) (c : SaysF fa fn gs K) (F : FunD K D_law.name D_law.qual D_law.params D_law.body D_law.scope [] [] (He.fAd K D_law.at_) fd) : FnOk P w K mg base CX0 10 (He.fAd K D_law.at_) fd ["_law_script"] (fun vs H Q _ => rdV K mg F_law vs H Q) :=
  fn_mk (k := 9) F sc_law rfl rfl rfl ok_law ⟨⟨rfl, (fo__law_states X G c).mono (by decide)⟩, ⟨rfl, (fo__law_alike X G c).mono (by decide)⟩, ⟨rfl, (fo__law_taken X G c).mono (by decide)⟩, ⟨rfl, (fo__law_chances X G c).mono (by decide)⟩, ⟨rfl, (fo__law_some_chance X G c).mono (by decide)⟩, ⟨rfl, (fo__law_times X G c).mono (by decide)⟩, ⟨rfl, (fo__law_plus X G c).mono (by decide)⟩, ⟨rfl, (fo_weight_chance X G c).mono (by decide)⟩, ⟨rfl, (fo__law_power X G c).mono (by decide)⟩, ⟨rfl, (fo__law_weight X G c).mono (by decide)⟩, ⟨rfl, (fo__law_less_one X G c).mono (by decide)⟩, ⟨rfl, (fo__law_choose X G c).mono (by decide)⟩, trivial⟩ (glob_all X G c) (blt_all X G c.d)
end
def loose0 : List PySem.Str := ["FaultError", "BadNumber", "BadChances", "BadWeights", "is_in", "gcd", "reduced", "plus", "minus", "times", "is_ratio", "ZERO", "ONE", "is_chance", "total_of", "MOST_ROW", "MOST_WEIGHT", "is_whole", "need_row", "failed"]
def loose1 : List PySem.Str := ["weight_chance", "_law_taken", "_law_pick", "_law_gcd", "_law_ratio", "_law_chances", "_law_states", "_law_plus", "_law_times", "_law_weight", "_law_alike", "_law_some_chance", "_law_power", "_law_less_one", "_law_choose"]
def loose : List PySem.Str := loose0 ++ loose1
abbrev hk : PySem.W.Hook := hookF 4 fa fn gs
def ob (s : PySem.W.SharedT) : AlF := obsF fa fn gs 4 (HandSHeadRun.getT s)
theorem ob_eq (s : PySem.W.SharedT) : ob s = hk.obs s.abs := obsF_eq (HandSHeadRun.getT_eq s)
theorem run (w : World) : HandSHeadRun.RunEq (PySem.W.OpenLaw.row PySem.Challenge.rw_faultworks_k73_whole_weighted_votes) (PySem.W.view (PySem.W.OpenLaw.row PySem.Challenge.rw_faultworks_k73_whole_weighted_votes).prog [40]) hk ob 4000 loose w := by
  intro os
  kernel_rfl
def lLaw : Nat := 10
end Lk73

namespace P73
open PySem FW FWP
def d_is_whole : FW.Def := ⟨1, 1, (.cons (.ret (.and (.cons (.isi [.int] (.var 0)) (.cons (.nt (.isi [.bool] (.var 0))) .nil)))) .nil)⟩
def g_is_whole : List (Str × Fn) := []
def F_is_whole : Fn := fnSem g_is_whole d_is_whole

abbrev c_weight_chance_0 : CE := (.comp false [9] (.name 9) (.seq (.var 0)) (.nt (.call 4 (.cons (.var 9) (.cons (.k (.int 0)) (.cons (.glob "MOST_WEIGHT" (.int 20)) .nil))))) (.var 9))
abbrev b_weight_chance_2 : CB := (.cons (.sub 6 (.bin .add false (.var 7) (.var 10)) (.call 3 (.cons (.get (.var 6) (.bin .add false (.var 7) (.var 10)) (.glob "ZERO" (.tup [(.int 0), (.int 1)]))) (.cons (.call 6 (.cons (.var 8) (.cons (.var 11) .nil))) .nil)))) .nil)
abbrev b_weight_chance_1 : CB := (.cons (.forr (.tup (.cons (.name 10) (.cons (.name 11) .nil))) (.seq (.list false (.cons (.tup (.cons (.var 4) (.cons (.var 5) .nil))) (.cons (.tup (.cons (.k (.int 0)) (.cons (.call 5 (.cons (.var 5) .nil)) .nil))) .nil))))
      b_weight_chance_2 []) .nil)
abbrev b_weight_chance_0 : CB := (.cons (.set 6 .dic0)
      (.cons (.freeze 3)
      (.cons (.forr (.tup (.cons (.name 7) (.cons (.name 8) .nil))) (.items (.var 3))
      b_weight_chance_1 [])
      (.cons (.freeze 6)
      (.cons (.set 3 (.var 6)) .nil)))))
abbrev c_weight_chance_1 : CE := (.comp false [7, 8] (.tup (.cons (.name 7) (.cons (.name 8) .nil))) (.items (.var 3)) (.cmp .ge (.var 7) (.var 1)) (.var 8))
def d_weight_chance : FW.Def := ⟨3, 12, (.cons (.ifs (.or (.cons (.nt (.isi [.tuple] (.var 0))) (.cons (.nt (.chain .le .le (.k (.int 1)) (.bi .len false (.cons (.var 0) .nil)) (.glob "MOST_ROW" (.int 60)))) .nil)))
      (.cons (.raise "" .nil) .nil)
      (.nil))
      (.cons (.ifs (.cmp .ne c_weight_chance_0 (.list false .nil))
      (.cons (.raise "" .nil) .nil)
      (.nil))
      (.cons (.ifs (.nt (.call 2 (.cons (.var 1) .nil)))
      (.cons (.raise "" .nil) .nil)
      (.nil))
      (.cons (.expr (.call 0 (.cons (.var 2) .nil)))
      (.cons (.ifs (.cmp .ne (.bi .len false (.cons (.var 2) .nil)) (.bi .len false (.cons (.var 0) .nil)))
      (.cons (.raise "" .nil) .nil)
      (.nil))
      (.cons (.set 3 (.dicd (.cons (.k (.int 0)) (.cons (.glob "ONE" (.tup [(.int 1), (.int 1)])) .nil))))
      (.cons (.forr (.tup (.cons (.name 4) (.cons (.name 5) .nil))) (.zip2 (.var 0) (.var 2))
      b_weight_chance_0 [])
      (.cons (.freeze 3)
      (.cons (.ret (.call 1 (.cons c_weight_chance_1 .nil))) .nil)))))))))⟩
def g_weight_chance : List (Str × Fn) := [("need_row", F_need_row), ("total_of", F_total_of), ("is_whole", F_is_whole), ("plus", F_plus), ("is_in", F_is_in), ("failed", F_failed), ("times", F_times)]
def F_weight_chance : Fn := fnSem g_weight_chance d_weight_chance
@[simp] theorem g_weight_chance_0 : g_weight_chance[0]?.map Prod.snd = some F_need_row := rfl
@[simp] theorem g_weight_chance_1 : g_weight_chance[1]?.map Prod.snd = some F_total_of := rfl
@[simp] theorem g_weight_chance_2 : g_weight_chance[2]?.map Prod.snd = some F_is_whole := rfl
@[simp] theorem g_weight_chance_3 : g_weight_chance[3]?.map Prod.snd = some F_plus := rfl
@[simp] theorem g_weight_chance_4 : g_weight_chance[4]?.map Prod.snd = some F_is_in := rfl
@[simp] theorem g_weight_chance_5 : g_weight_chance[5]?.map Prod.snd = some F_failed := rfl
@[simp] theorem g_weight_chance_6 : g_weight_chance[6]?.map Prod.snd = some F_times := rfl

abbrev c_law_0 : CE := (.comp false [11] (.name 11) (.rng1 (.var 2)) (.k (.bl true)) (.call 2 (.cons (.var 1) (.cons (.k (.int 21)) .nil))))
abbrev c_law_1 : CE := (.comp false [11] (.name 11) (.rng1 (.var 2)) (.cmp .eq (.idx (.var 3) (.var 11)) (.k (.int 1))) (.idx (.var 5) (.var 11)))
abbrev b_law_0 : CB := (.cons (.ifs (.cmp .ge (.bi .sum false (.cons c_law_1 .nil)) (.var 7))
      (.cons (.set 8 (.call 6 (.cons (.var 8) (.cons (.call 9 (.cons (.var 6) (.cons (.var 3) .nil))) .nil)))) .nil)
      (.nil)) .nil)
abbrev b_law_1 : CB := (.cons (.set 10 (.call 5 (.cons (.call 8 (.cons (.var 9) (.cons (.var 4) .nil))) (.cons (.call 8 (.cons (.call 10 (.cons (.var 9) .nil)) (.cons (.bin .sub false (.var 2) (.var 4)) .nil))) .nil))))
      (.cons (.set 8 (.call 6 (.cons (.var 8) (.cons (.call 5 (.cons (.tup (.cons (.call 11 (.cons (.var 2) (.cons (.var 4) .nil))) (.cons (.k (.int 1)) .nil))) (.cons (.var 10) .nil))) .nil)))) .nil))
abbrev t_law_9 : CB := .cons (.ret (.call 1 (.cons (.call 7 (.cons (.bin .mul false (.tup (.cons (.k (.int 3)) .nil)) (.var 2)) (.cons (.bin .mul false (.k (.int 3)) (.var 7)) (.cons (.bin .mul false (.tup (.cons (.var 9) .nil)) (.var 2)) .nil)))) (.cons (.var 8) .nil)))) .nil
abbrev t_law_8 : CB := .cons (.forr (.name 4) (.rng2 (.var 7) (.bin .add false (.var 2) (.k (.int 1))))
      b_law_1 []) t_law_9
abbrev t_law_7 : CB := .cons (.par [7, 8] (.cons (.call 2 (.cons (.var 1) (.cons (.bin .add false (.var 2) (.k (.int 2))) .nil))) (.cons (.tup (.cons (.k (.int 0)) (.cons (.k (.int 1)) .nil))) .nil))) t_law_8
abbrev t_law_6 : CB := .cons (.par [2, 9] (.cons (.bin .add false (.k (.int 9)) (.call 2 (.cons (.var 1) (.cons (.k (.int 12)) .nil)))) (.cons (.call 4 (.cons (.var 1) .nil)) .nil))) t_law_7
abbrev t_law_5 : CB := .cons (.ifs (.nt (.call 1 (.cons (.call 7 (.cons (.var 5) (.cons (.var 7) (.cons (.var 6) .nil)))) (.cons (.var 8) .nil))))
      (.cons (.ret (.k (.bl false))) .nil)
      (.nil)) t_law_6
abbrev t_law_4 : CB := .cons (.forr (.name 3) (.seq (.call 0 (.cons (.var 2) .nil)))
      b_law_0 []) t_law_5
abbrev t_law_3 : CB := .cons (.par [7, 8] (.cons (.bin .sub false (.call 2 (.cons (.var 1) (.cons (.bin .add false (.bi .sum false (.cons (.var 5) .nil)) (.k (.int 3))) .nil))) (.k (.int 1))) (.cons (.tup (.cons (.k (.int 0)) (.cons (.k (.int 1)) .nil))) .nil))) t_law_4
abbrev t_law_2 : CB := .cons (.unpack (.cons (.name 5) (.cons (.name 6) .nil)) (.tup (.cons (.bi .tuple false (.cons c_law_0 .nil)) (.cons (.call 3 (.cons (.var 1) (.cons (.var 2) .nil))) .nil)))) t_law_3
abbrev t_law_1 : CB := .cons (.set 2 (.bin .add false (.k (.int 1)) (.call 2 (.cons (.var 1) (.cons (.k (.int 8)) .nil))))) t_law_2
abbrev t_law_0 : CB := .cons (.set 1 (.list true (.cons (.var 0) (.cons (.k (.int 0)) (.cons (.k (.int 4073)) (.cons (.k (.int 0)) .nil)))))) t_law_1
def d_law : FW.Def := ⟨1, 12, t_law_0⟩
def g_law : List (Str × Fn) := [("_law_states", F__law_states), ("_law_alike", F__law_alike 8), ("_law_taken", F__law_taken), ("_law_chances", F__law_chances), ("_law_some_chance", F__law_some_chance), ("_law_times", F__law_times), ("_law_plus", F__law_plus), ("weight_chance", F_weight_chance), ("_law_power", F__law_power), ("_law_weight", F__law_weight), ("_law_less_one", F__law_less_one), ("_law_choose", F__law_choose)]
def F_law : Fn := fnSem g_law d_law
@[simp] theorem g_law_0 : g_law[0]?.map Prod.snd = some F__law_states := rfl
@[simp] theorem g_law_1 : g_law[1]?.map Prod.snd = some (F__law_alike 8) := rfl
@[simp] theorem g_law_2 : g_law[2]?.map Prod.snd = some F__law_taken := rfl
@[simp] theorem g_law_3 : g_law[3]?.map Prod.snd = some F__law_chances := rfl
@[simp] theorem g_law_4 : g_law[4]?.map Prod.snd = some F__law_some_chance := rfl
@[simp] theorem g_law_5 : g_law[5]?.map Prod.snd = some F__law_times := rfl
@[simp] theorem g_law_6 : g_law[6]?.map Prod.snd = some F__law_plus := rfl
@[simp] theorem g_law_7 : g_law[7]?.map Prod.snd = some F_weight_chance := rfl
@[simp] theorem g_law_8 : g_law[8]?.map Prod.snd = some F__law_power := rfl
@[simp] theorem g_law_9 : g_law[9]?.map Prod.snd = some F__law_weight := rfl
@[simp] theorem g_law_10 : g_law[10]?.map Prod.snd = some F__law_less_one := rfl
@[simp] theorem g_law_11 : g_law[11]?.map Prod.snd = some F__law_choose := rfl

end P73

namespace P73
open PySem FW FWP
def stT (w : Nat) : StepF := fun u b => some (u + if b = true then w else 0)
abbrev fsT (ws : List Nat) : List StepF := ws.map stT
section
variable {n D : Nat} {cs : List Rat} {c : Rat} {S Z : Store} {K : List Nat} {v : Nat → Rat}
theorem w_turn {q w : Rat} {u mo : Nat} (hK : K.length ≤ 2000) (hq : Bd 2500 q) (hw : Bd 2500 w) (hv : ∀ x, Bd 2500 (v x)) (ho : ∀ x, x ∉ K → v x = 0) {w0 w1 w2 w3 w4 w5 w9 w10 w11 : Option SV} :
    turnF g_weight_chance (.tup (.cons (.name 10) (.cons (.name 11) .nil))) b_weight_chance_2 (.tup [nn mo, rv q]) [w0, w1, w2, w3, w4, w5, some (.l Z.length), some (.v (nn u)), some (.v (rv w)), w9, w10, w11] (Z ++ [.dic (kvQ K v)]) =
    .ok (.next [w0, w1, w2, w3, w4, w5, some (.l Z.length), some (.v (nn u)), some (.v (rv w)), w9, some (.v (nn mo)), some (.v (rv q))])
      (Z ++ [.dic (kvQ (insQ (u + mo) K) (updQ v (u + mo) (v (u + mo) + w * q)))]) := by
  obtain ⟨X, hX⟩ : ∃ X, X = u + mo := ⟨_, rfl⟩
  have hXi : (u : Int) + (mo : Int) = (X : Int) := by omega
  rw [← hX]
  have g1 := isDc_q (Z := Z ++ [.dic (kvQ K v)]) (n := Z.length) nw_at
  have g2 := getOp_q (Z := Z ++ [.dic (kvQ K v)]) (n := Z.length) (u := X) nw_at (ho X)
  have e1 := fun S => F_times_eq (S := S) hw hq (by decide)
  have e2 := fun S => F_plus_eq (S := S) (hv X) (hw.mul hq) (by decide)
  have g3 := putOp_q (Z := Z) (K := K) (v := v) (u := X) (x := v X + w * q) (by omega)
  obtain ⟨ZK, hZK⟩ : ∃ ZK, ZK = Z ++ [.dic (kvQ K v)] := ⟨_, rfl⟩
  rw [← hZK] at g1 g2 g3 ⊢
  ((simp -implicitDefEqProofs -dsimp (disch := (first | with_reducible assumption | exact Mem.out (by assumption) | (((try simp only [List.length_map, List.length_range, List.length_append, List.length_cons, List.length_nil, List.length_tail, List.length_zip, List.length_reverse, List.length_take, List.length_drop, List.length_set, List.length_replicate, List.length_zipIdx, line]) <;> first | omega | (first | exact Mem.out (by assumption) | (with_reducible show (_ : Nat) < _; solve_by_elim (maxDepth := 4) [Mem.out]) | (with_reducible show (_ : Nat) ≤ _; solve_by_elim (maxDepth := 4) [Mem.out]) | (with_reducible show _ ∈ _; solve_by_elim (maxDepth := 4) [Mem.out]) | fail) | (refine Nat.le_trans (List.length_filter_le _ _) ?_; (try simp only [List.length_map, List.length_range, List.length_append, List.length_cons, List.length_nil]) <;> first | omega | (first | exact Mem.out (by assumption) | (with_reducible show (_ : Nat) < _; solve_by_elim (maxDepth := 4) [Mem.out]) | (with_reducible show (_ : Nat) ≤ _; solve_by_elim (maxDepth := 4) [Mem.out]) | (with_reducible show _ ∈ _; solve_by_elim (maxDepth := 4) [Mem.out]) | fail) | fail) | fail)) | fail)) [↓v_var, ↓v_k, ↓v_glob, ↓v_tup, ↓v_list, ↓v_bin, ↓v_neg, ↓t_nt, ↓v_nt, ↓v_and, ↓t_and, ↓v_or, ↓t_or, ↓v_and1, ↓t_and1, ↓v_or1, ↓t_or1, ↓v_and2, ↓t_and2, ↓v_or2, ↓t_or2, ↓t_cmp, ↓v_cmp, ↓t_chain, ↓v_chain, ↓v_ite, ↓t_ite, ↓v_call, ↓v_fnv, ↓v_callv, ↓v_index, ↓v_indexG, ↓v_bi, ↓v_isi, ↓v_idx, ↓v_slc, ↓v_comp, ↓v_comp2, ↓v_dic0, ↓v_get, ↓v_rev, ↓v_dcomp, ↓cTurnD_eq, pairO_v, ↓v_dicd, dispK_eq, pu_nil, pu_cons, keyOk_int, keyOk_str, mkD_ok, ↓compDT_map, compGD_all, ↓qs_pop, ↓qs_augsub, ↓qs_parG, fnM_eq, endM_ret, endM_ite, leaveM_v, nw_leaveM, nw_rev, rev_l, nw_old, asub_eq, nw_put, w2a_lst, w2b_lst, w2a_isl, w2b_isl, w2a_set, w2b_set, w2a_tup, w2b_tup, w2a_len, w2b_len, w2a_idx, w2b_idx, optC_some, optC_none, ↓t_var, ↓t_k, ↓t_call, ↓t_callv, ↓t_idx, ↓t_isi, ↓t_bin, ↓t_bi, ↓l_nil, ↓l_cons, ↓qi_seq, ↓qi_rng1, ↓qi_rng2, ↓i_rng3, ↓qi_zip, ↓qi_enum, ↓okK_v, ↓cTurn_eq, ↓cTurn2_eq, -seqOp, sq_tup, sq_lst, -zipOp, zp_tup, zp_lst, -enumOp, en_lst, -idxOp, idx_tup, idx_lst, idx_l, at_map, at_map0, at_map1, at_mapl, at_0, at_1, at_2, -cmpOp, -isNonS, cm_is, cm_isnot, cm_isb, ns_non, ns_bl, ns_int, ns_tup, ns_lst, ns_l, cm_eqv, cm_nev, cm_eqlv, cm_nelv, cm_lt, cm_le, cm_gt, cm_ge, cm_in_t, cm_in_l, cm_nin_t, cm_nin_l, cm_in_p, cm_nin_p, -binOp, bo_ii, bo_ib, bo_tt, bo_ll, bo_pl, bo_tm, bo_lm, -negOp, ng_i, -isTys, it_of, oo_some, -biOp, qbi_len, qbi_int, qbi_abs, qbi_sum, qbi_tuple, qbi_list, qbi_sorted, bi_sset, bi_skey, bi_lset, qbi_min1, qbi_max1, qbi_min2, qbi_max2, bi_lr1, bi_tr1, -bLen, ln_t, ln_l, ln_p, -bInt, in_i, in_b, -bAbs, ab_i, -bSum, sm_t, sm_l, -bTuple, tp_t, tp_l, tp_p, -bList, ls_t, ls_l, ls_p, lr_n, -slcOp, sl_t, sl_l, -part?, pt_n, pt_i, -intOnly, io_i, -augOp, au_add, au_sub, -putOp, -isNonC, nnc_non, nnc_int, nnc_var, nnc_bin, nnc_bi, nnc_neg, nnc_idx, -leave, leave_l, take_app, take_self, nw_lst, nw_isl, nw_set, nw_tup, nw_len, nw_idx, nw_leave, nw_add, nw_eq, nw_ne, cut_ton, cut_fromn, -getS, gs_some, gs_none, gs_succ, -bindG, -bindGs, -wipeS, -pures?, -setAll, bg_name, bg_tup, bg_lst, bgs_nil, bgs_cons, wp_nil, wp_cons, pr_nil, pr_cons, sa_nil, sa_cons, ↓seqK_next, ↓seqK_ret, ↓seqK_brk, ↓seqK_cnt, ↓b_nil, ↓b_cons, ↓qs_set, ↓qs_unpack, ↓qs_par, ↓qs_sub, ↓s_aug, ↓qs_app, appIf_ok, ↓qs_expr, ↓s_ifs, ↓qs_ret, ↓qs_retN, ↓qs_brk, ↓qs_cnt, ↓turnF_eq, ↓s_forr, ↓s_whil, ↓qs_freeze, ↓frzO_some, ↓frzO_none, ↓frz_l, ↓frz_v, ↓bd_ok, ↓bd_exc, ↓bd_bad, ↓compLT_nil, ↓compLLT_nil, ↓optB_none, ↓optB_some, ↓truK_eq, ↓blK_eq, ↓tupK_eq, ↓lstK_eq, ↓callG_eq, ↓partO_eq, ↓svP_v, ↓svL_l, ↓endK_ret, ↓endK_next, ↓endK_ite, ↓fn_eq, startB_eq, -fnSem, leave_v, ↓compLT_map, ↓compLLT_map, compG_all, compG_none, compG_some, compG_two, compG_3, ite_int, compGG_all, ↓bd_ite, ite_both, -ite_not, -Classical.ite_not, -List.map_set, ite_okb, -intOp, op_shl, op_shln, op_shr, op_bit, op_and, op_or, op_xor, op_add, op_sub, -mkL, mkL_f, mkL_t, -mkT, mkT_ok, zip_map, enum_map, rng1_n, rng1_i, rng2_n, -rng1Op, -rng2Op, ints_mapf, sumI_map, -ix?, ix_n, ix_n1, ix_i0, ix_i1, ix_i2, eqP_nilL, noFns_map, bit_1, bit_0, -getElem?_pos, -getElem?_neg, get_ith, ith_zero, ith_succ, ith_map, nn, bitV, eqP_tups, eqP_lsts, eqP_enc, anyEq_enc, anyEq_int, anyEq_sets, List.isEmpty_iff, List.filter_eq_nil_iff, cast_inj, setV, pathsV, sysV, stV, b_weight_chance_2, hXi, g1, g2, e1, e2, g3, v_get, bg_rv]))
theorem u_turn (hz : Sz D n) (hn : cs.length + 1 ≤ n) (hc : CsOk D cs) (hcc : Ch D c) {w B : Nat} (hB : B + w ≤ 2000) {A : List Nat} {u : Nat} (hu : u < B) (hA : u ∉ A) (hK : KD (stT w) (B + w) A A K) {fs : List StepF} {w0 w1 w2 w3 w7 w8 w9 w10 w11 : Option SV} : ∃ K' w10' w11', KD (stT w) (B + w) (A ++ [u]) (A ++ [u]) K' ∧
    turnF g_weight_chance (.tup (.cons (.name 7) (.cons (.name 8) .nil))) b_weight_chance_1 (.tup [nn u, rv (dq fs cs u)]) [w0, w1, w2, w3, some (.v (nn w)), some (.v (rv c)), some (.l Z.length), w7, w8, w9, w10, w11] (Z ++ [.dic (kvQ K (vq fs cs (stT w) c A A))]) =
    .ok (.next [w0, w1, w2, w3, some (.v (nn w)), some (.v (rv c)), some (.l Z.length), some (.v (nn u)), some (.v (rv (dq fs cs u))), w9, w10', w11']) (Z ++ [.dic (kvQ K' (vq fs cs (stT w) c (A ++ [u]) (A ++ [u])))]) := by
  have hD : 1 ≤ n := by omega
  have b1 : Bd 2500 c := hz.bd1 hD hcc
  have b2 : Bd 2500 (1 - c) := hz.bd1 hD hcc.compl
  have b3 : Bd 2500 (dq fs cs u) := hz.bd (by omega) (dq_ch hc)
  have b4 : ∀ A1 A2 x, Bd 2500 (vq fs cs (stT w) c A1 A2 x) := fun A1 A2 x => hz.bd (by omega) (vq_ch hc hcc)
  have e0 := fun S => F_failed_eq (S := S) b1
  have h1 : stT w u true = some (u + w) := rfl
  have h2 : stT w u false = some (u + 0) := rfl
  have hK1 := hK.put1 h1 (by omega)
  have hK2 := hK1.put2 h2 (by omega)
  have hKl := nodup_lt hK.nd hK.lt
  have hKl1 := nodup_lt hK1.nd hK1.lt
  have e1 := w_turn (Z := Z) (K := K) (v := vq fs cs (stT w) c A A) (u := u) (mo := w) (by omega) b1 b3 (b4 A A) (fun x hx => hK.off hx) (w0 := w0) (w1 := w1) (w2 := w2) (w3 := w3) (w4 := some (.v (nn w))) (w5 := some (.v (rv c))) (w9 := w9) (w10 := w10) (w11 := w11)
  rw [← vq_1 hA h1] at e1
  have e2 := w_turn (Z := Z) (K := insQ (u + w) K) (v := vq fs cs (stT w) c (A ++ [u]) A) (u := u) (mo := 0) (by omega) b2 b3 (b4 (A ++ [u]) A) (fun x hx => hK1.off hx) (w0 := w0) (w1 := w1) (w2 := w2) (w3 := w3) (w4 := some (.v (nn w))) (w5 := some (.v (rv c))) (w9 := w9) (w10 := some (.v (nn w))) (w11 := some (.v (rv c)))
  rw [← vq_2 hA h2] at e2
  refine ⟨_, some (.v (nn 0)), some (.v (rv (1 - c))), hK2, ?_⟩
  have e12 := forL_cons (xs := [.tup [nn 0, rv (1 - c)]]) e1
  rw [forL_cons e2, forL_nil] at e12
  obtain ⟨X, hX⟩ : ∃ X, X = Z ++ [Ob.dic (kvQ K (vq fs cs (stT w) c A A))] := ⟨_, rfl⟩
  obtain ⟨Y, hY⟩ : ∃ X, X = Z ++ [Ob.dic (kvQ (insQ (u + 0) (insQ (u + w) K)) (vq fs cs (stT w) c (A ++ [u]) (A ++ [u])))] := ⟨_, rfl⟩
  rw [← hX, ← hY] at e12
  rw [← hX, ← hY]
  obtain ⟨dd, hd⟩ : ∃ x, x = dq fs cs u := ⟨_, rfl⟩
  rw [← hd] at e12 ⊢
  have h0 : nn 0 = PV.int 0 := rfl
  rw [h0] at e12 ⊢
  clear e1 e2 hX hY hd
  ((simp -implicitDefEqProofs -dsimp (disch := (first | with_reducible assumption | exact Mem.out (by assumption) | (((try simp only [List.length_map, List.length_range, List.length_append, List.length_cons, List.length_nil, List.length_tail, List.length_zip, List.length_reverse, List.length_take, List.length_drop, List.length_set, List.length_replicate, List.length_zipIdx, line]) <;> first | omega | (first | exact Mem.out (by assumption) | (with_reducible show (_ : Nat) < _; solve_by_elim (maxDepth := 4) [Mem.out]) | (with_reducible show (_ : Nat) ≤ _; solve_by_elim (maxDepth := 4) [Mem.out]) | (with_reducible show _ ∈ _; solve_by_elim (maxDepth := 4) [Mem.out]) | fail) | (refine Nat.le_trans (List.length_filter_le _ _) ?_; (try simp only [List.length_map, List.length_range, List.length_append, List.length_cons, List.length_nil]) <;> first | omega | (first | exact Mem.out (by assumption) | (with_reducible show (_ : Nat) < _; solve_by_elim (maxDepth := 4) [Mem.out]) | (with_reducible show (_ : Nat) ≤ _; solve_by_elim (maxDepth := 4) [Mem.out]) | (with_reducible show _ ∈ _; solve_by_elim (maxDepth := 4) [Mem.out]) | fail) | fail) | fail)) | fail)) [↓v_var, ↓v_k, ↓v_glob, ↓v_tup, ↓v_list, ↓v_bin, ↓v_neg, ↓t_nt, ↓v_nt, ↓v_and, ↓t_and, ↓v_or, ↓t_or, ↓v_and1, ↓t_and1, ↓v_or1, ↓t_or1, ↓v_and2, ↓t_and2, ↓v_or2, ↓t_or2, ↓t_cmp, ↓v_cmp, ↓t_chain, ↓v_chain, ↓v_ite, ↓t_ite, ↓v_call, ↓v_fnv, ↓v_callv, ↓v_index, ↓v_indexG, ↓v_bi, ↓v_isi, ↓v_idx, ↓v_slc, ↓v_comp, ↓v_comp2, ↓v_dic0, ↓v_get, ↓v_rev, ↓v_dcomp, ↓cTurnD_eq, pairO_v, ↓v_dicd, dispK_eq, pu_nil, pu_cons, keyOk_int, keyOk_str, mkD_ok, ↓compDT_map, compGD_all, ↓qs_pop, ↓qs_augsub, ↓qs_parG, fnM_eq, endM_ret, endM_ite, leaveM_v, nw_leaveM, nw_rev, rev_l, nw_old, asub_eq, nw_put, w2a_lst, w2b_lst, w2a_isl, w2b_isl, w2a_set, w2b_set, w2a_tup, w2b_tup, w2a_len, w2b_len, w2a_idx, w2b_idx, optC_some, optC_none, ↓t_var, ↓t_k, ↓t_call, ↓t_callv, ↓t_idx, ↓t_isi, ↓t_bin, ↓t_bi, ↓l_nil, ↓l_cons, ↓qi_seq, ↓qi_rng1, ↓qi_rng2, ↓i_rng3, ↓qi_zip, ↓qi_enum, ↓okK_v, ↓cTurn_eq, ↓cTurn2_eq, -seqOp, sq_tup, sq_lst, -zipOp, zp_tup, zp_lst, -enumOp, en_lst, -idxOp, idx_tup, idx_lst, idx_l, at_map, at_map0, at_map1, at_mapl, at_0, at_1, at_2, -cmpOp, -isNonS, cm_is, cm_isnot, cm_isb, ns_non, ns_bl, ns_int, ns_tup, ns_lst, ns_l, cm_eqv, cm_nev, cm_eqlv, cm_nelv, cm_lt, cm_le, cm_gt, cm_ge, cm_in_t, cm_in_l, cm_nin_t, cm_nin_l, cm_in_p, cm_nin_p, -binOp, bo_ii, bo_ib, bo_tt, bo_ll, bo_pl, bo_tm, bo_lm, -negOp, ng_i, -isTys, it_of, oo_some, -biOp, qbi_len, qbi_int, qbi_abs, qbi_sum, qbi_tuple, qbi_list, qbi_sorted, bi_sset, bi_skey, bi_lset, qbi_min1, qbi_max1, qbi_min2, qbi_max2, bi_lr1, bi_tr1, -bLen, ln_t, ln_l, ln_p, -bInt, in_i, in_b, -bAbs, ab_i, -bSum, sm_t, sm_l, -bTuple, tp_t, tp_l, tp_p, -bList, ls_t, ls_l, ls_p, lr_n, -slcOp, sl_t, sl_l, -part?, pt_n, pt_i, -intOnly, io_i, -augOp, au_add, au_sub, -putOp, -isNonC, nnc_non, nnc_int, nnc_var, nnc_bin, nnc_bi, nnc_neg, nnc_idx, -leave, leave_l, take_app, take_self, nw_lst, nw_isl, nw_set, nw_tup, nw_len, nw_idx, nw_leave, nw_add, nw_eq, nw_ne, cut_ton, cut_fromn, -getS, gs_some, gs_none, gs_succ, -bindG, -bindGs, -wipeS, -pures?, -setAll, bg_name, bg_tup, bg_lst, bgs_nil, bgs_cons, wp_nil, wp_cons, pr_nil, pr_cons, sa_nil, sa_cons, ↓seqK_next, ↓seqK_ret, ↓seqK_brk, ↓seqK_cnt, ↓b_nil, ↓b_cons, ↓qs_set, ↓qs_unpack, ↓qs_par, ↓qs_sub, ↓s_aug, ↓qs_app, appIf_ok, ↓qs_expr, ↓s_ifs, ↓qs_ret, ↓qs_retN, ↓qs_brk, ↓qs_cnt, ↓turnF_eq, ↓s_forr, ↓s_whil, ↓qs_freeze, ↓frzO_some, ↓frzO_none, ↓frz_l, ↓frz_v, ↓bd_ok, ↓bd_exc, ↓bd_bad, ↓compLT_nil, ↓compLLT_nil, ↓optB_none, ↓optB_some, ↓truK_eq, ↓blK_eq, ↓tupK_eq, ↓lstK_eq, ↓callG_eq, ↓partO_eq, ↓svP_v, ↓svL_l, ↓endK_ret, ↓endK_next, ↓endK_ite, ↓fn_eq, startB_eq, -fnSem, leave_v, ↓compLT_map, ↓compLLT_map, compG_all, compG_none, compG_some, compG_two, compG_3, ite_int, compGG_all, ↓bd_ite, ite_both, -ite_not, -Classical.ite_not, -List.map_set, ite_okb, -intOp, op_shl, op_shln, op_shr, op_bit, op_and, op_or, op_xor, op_add, op_sub, -mkL, mkL_f, mkL_t, -mkT, mkT_ok, zip_map, enum_map, rng1_n, rng1_i, rng2_n, -rng1Op, -rng2Op, ints_mapf, sumI_map, -ix?, ix_n, ix_n1, ix_i0, ix_i1, ix_i2, eqP_nilL, noFns_map, bit_1, bit_0, -getElem?_pos, -getElem?_neg, get_ith, ith_zero, ith_succ, ith_map, nn, bitV, eqP_tups, eqP_lsts, eqP_enc, anyEq_enc, anyEq_int, anyEq_sets, List.isEmpty_iff, List.filter_eq_nil_iff, cast_inj, setV, pathsV, sysV, stV, b_weight_chance_1, e0, bg_rv, e12]))
theorem u_loop (hz : Sz D n) (hn : cs.length + 1 ≤ n) (hc : CsOk D cs) (hcc : Ch D c) {w B : Nat} (hB : B + w ≤ 2000) {fs : List StepF} {w0 w1 w2 w3 w9 : Option SV} : ∀ (R A : List Nat) (K : List Nat), (A ++ R).Nodup → (∀ u ∈ R, u < B) → KD (stT w) (B + w) A A K → ∀ w7 w8 w10 w11, ∃ K' w7' w8' w10' w11', KD (stT w) (B + w) (A ++ R) (A ++ R) K' ∧
    forL (turnF g_weight_chance (.tup (.cons (.name 7) (.cons (.name 8) .nil))) b_weight_chance_1) [] (R.map fun u => .tup [nn u, rv (dq fs cs u)]) [w0, w1, w2, w3, some (.v (nn w)), some (.v (rv c)), some (.l Z.length), w7, w8, w9, w10, w11] (Z ++ [.dic (kvQ K (vq fs cs (stT w) c A A))]) =
    .ok (.next [w0, w1, w2, w3, some (.v (nn w)), some (.v (rv c)), some (.l Z.length), w7', w8', w9, w10', w11']) (Z ++ [.dic (kvQ K' (vq fs cs (stT w) c (A ++ R) (A ++ R)))])
  | [], A, K, _, _, hK, w7, w8, w10, w11 => ⟨K, w7, w8, w10, w11, by rw [List.append_nil]; exact hK, by rw [List.append_nil]; rfl⟩
  | u :: R, A, K, hnd, hlt, hK, w7, w8, w10, w11 => by
    have hA : u ∉ A := fun h => (List.nodup_append.mp hnd).2.2 u h u (by simp) rfl
    obtain ⟨K1, a10, a11, hK1, e1⟩ := u_turn (Z := Z) (K := K) hz hn hc hcc hB (hlt u (by simp)) hA hK (fs := fs) (w0 := w0) (w1 := w1) (w2 := w2) (w3 := w3) (w7 := w7) (w8 := w8) (w9 := w9) (w10 := w10) (w11 := w11)
    obtain ⟨K', w7', w8', w10', w11', hK', e⟩ := u_loop hz hn hc hcc hB (fs := fs) (w0 := w0) (w1 := w1) (w2 := w2) (w3 := w3) (w9 := w9) R (A ++ [u]) K1 (by rw [List.append_assoc]; exact hnd) (fun v hv => hlt v (by simp [hv])) hK1 (some (.v (nn u))) (some (.v (rv (dq fs cs u)))) a10 a11
    refine ⟨K', w7', w8', w10', w11', by rw [List.append_assoc] at hK'; exact hK', ?_⟩
    rw [List.map_cons, forL_cons e1, e, List.append_assoc]
    rfl
theorem c_turn {Z Z' : Store} (hz : Sz D n) (hn : cs.length + 1 ≤ n) (hc : CsOk D cs) (hcc : Ch D c) {w B : Nat} (hB : B + w ≤ 2000) (hl : Z'.length = Z.length) {ws : List Nat} (hws : ws.length = cs.length) (hK : Cov (fsT ws) cs.length B K) {r : SV} {w0 w1 w2 w4 w5 w6 w7 w8 w9 w10 w11 : Option SV}
    (hf : frz (Z ++ [.dic []]) [w0, w1, w2, some r, some (.v (nn w)), some (.v (rv c)), some (.l Z.length), w7, w8, w9, w10, w11] 3 r = .ok (.next [w0, w1, w2, some (.v (dicQ K (dq (fsT ws) cs))), some (.v (nn w)), some (.v (rv c)), some (.l Z.length), w7, w8, w9, w10, w11]) (Z' ++ [.dic []])) :
    ∃ K' w6' w7' w8' w10' w11', Cov (fsT (ws ++ [w])) (cs.length + 1) (B + w) K' ∧
    turnF g_weight_chance (.tup (.cons (.name 4) (.cons (.name 5) .nil))) b_weight_chance_0 (.tup [nn w, rv c]) [w0, w1, w2, some r, w4, w5, w6, w7, w8, w9, w10, w11] Z =
    .ok (.next [w0, w1, w2, some (.v (dicQ K' (dq (fsT (ws ++ [w])) (cs ++ [c])))), some (.v (nn w)), some (.v (rv c)), w6', w7', w8', w9, w10', w11']) (Z' ++ [.gone]) := by
  have hfs : (fsT ws).length = cs.length := by rw [List.length_map]; exact hws
  obtain ⟨K', w7', w8', w10', w11', hK', e⟩ := u_loop (Z := Z') hz hn hc hcc hB (fs := fsT ws) (w0 := w0) (w1 := w1) (w2 := w2) (w3 := some (.v (dicQ K (dq (fsT ws) cs)))) (w9 := w9) K [] [] hK.nd hK.lt KD.nil w7 w8 w10 w11
  rw [List.nil_append, ← zip_kvQ] at e
  rw [List.nil_append] at hK'
  have hsn := dq_snoc (c := c) (f := stT w) hK hfs
  have hff : fsT ws ++ [stT w] = fsT (ws ++ [w]) := by rw [fsT, fsT, List.map_append]; rfl
  rw [hff] at hsn
  rw [← hsn] at e
  have hcov := hK.next hfs hK'
  rw [hff] at hcov
  refine ⟨K', some (.v (dicQ K' (dq (fsT (ws ++ [w])) (cs ++ [c])))), w7', w8', w10', w11', hcov, ?_⟩
  have f1 : lstAt (Z' ++ [Ob.dic (kvQ K' (dq (fsT (ws ++ [w])) (cs ++ [c])))]) Z'.length = none := lstAt_dic nw_at
  have f2 : ∀ ρ, frzD (Z' ++ [Ob.dic (kvQ K' (dq (fsT (ws ++ [w])) (cs ++ [c])))]) ρ 6 Z'.length = .ok (.next (ρ.set 6 (some (.v (dicQ K' (dq (fsT (ws ++ [w])) (cs ++ [c]))))))) (Z' ++ [.gone]) := fun ρ => by
    rw [frzD_eq nw_at (by rw [kvQ_fst]; exact allInt_nn), kvQ_fst, kvQ_snd, nw_set]
  have hv0 : kvQ [] (vq (fsT ws) cs (stT w) c [] []) = [] := rfl
  rw [hv0] at e
  obtain ⟨Y, hY⟩ : ∃ Y, Y = Z' ++ [Ob.dic (kvQ K' (dq (fsT (ws ++ [w])) (cs ++ [c])))] := ⟨_, rfl⟩
  rw [← hY] at e f1
  simp only [← hY] at f2
  clear hY
  rw [← hl] at hf
  have hlz : Z.length = Z'.length := hl.symm
  obtain ⟨X, hX⟩ : ∃ X, X = Z' ++ [Ob.dic []] := ⟨_, rfl⟩
  rw [← hX] at e hf
  clear hX
  obtain ⟨ks, hks⟩ : ∃ x, x = K.map nn := ⟨_, rfl⟩
  obtain ⟨vs, hvs⟩ : ∃ x, x = K.map fun u => rv (dq (fsT ws) cs u) := ⟨_, rfl⟩
  obtain ⟨ks', hks'⟩ : ∃ x, x = K'.map nn := ⟨_, rfl⟩
  obtain ⟨vs', hvs'⟩ : ∃ x, x = K'.map fun u => rv (dq (fsT (ws ++ [w])) (cs ++ [c]) u) := ⟨_, rfl⟩
  simp only [dicQ, ← hks, ← hvs, ← hks', ← hvs'] at e hf f2 ⊢
  clear hks hvs hks' hvs'
  ((simp -implicitDefEqProofs -dsimp (disch := (first | with_reducible assumption | exact Mem.out (by assumption) | (((try simp only [List.length_map, List.length_range, List.length_append, List.length_cons, List.length_nil, List.length_tail, List.length_zip, List.length_reverse, List.length_take, List.length_drop, List.length_set, List.length_replicate, List.length_zipIdx, line]) <;> first | omega | (first | exact Mem.out (by assumption) | (with_reducible show (_ : Nat) < _; solve_by_elim (maxDepth := 4) [Mem.out]) | (with_reducible show (_ : Nat) ≤ _; solve_by_elim (maxDepth := 4) [Mem.out]) | (with_reducible show _ ∈ _; solve_by_elim (maxDepth := 4) [Mem.out]) | fail) | (refine Nat.le_trans (List.length_filter_le _ _) ?_; (try simp only [List.length_map, List.length_range, List.length_append, List.length_cons, List.length_nil]) <;> first | omega | (first | exact Mem.out (by assumption) | (with_reducible show (_ : Nat) < _; solve_by_elim (maxDepth := 4) [Mem.out]) | (with_reducible show (_ : Nat) ≤ _; solve_by_elim (maxDepth := 4) [Mem.out]) | (with_reducible show _ ∈ _; solve_by_elim (maxDepth := 4) [Mem.out]) | fail) | fail) | fail)) | fail)) [↓v_var, ↓v_k, ↓v_glob, ↓v_tup, ↓v_list, ↓v_bin, ↓v_neg, ↓t_nt, ↓v_nt, ↓v_and, ↓t_and, ↓v_or, ↓t_or, ↓v_and1, ↓t_and1, ↓v_or1, ↓t_or1, ↓v_and2, ↓t_and2, ↓v_or2, ↓t_or2, ↓t_cmp, ↓v_cmp, ↓t_chain, ↓v_chain, ↓v_ite, ↓t_ite, ↓v_call, ↓v_fnv, ↓v_callv, ↓v_index, ↓v_indexG, ↓v_bi, ↓v_isi, ↓v_idx, ↓v_slc, ↓v_comp, ↓v_comp2, ↓v_dic0, ↓v_get, ↓v_rev, ↓v_dcomp, ↓cTurnD_eq, pairO_v, ↓v_dicd, dispK_eq, pu_nil, pu_cons, keyOk_int, keyOk_str, mkD_ok, ↓compDT_map, compGD_all, ↓qs_pop, ↓qs_augsub, ↓qs_parG, fnM_eq, endM_ret, endM_ite, leaveM_v, nw_leaveM, nw_rev, rev_l, nw_old, asub_eq, nw_put, w2a_lst, w2b_lst, w2a_isl, w2b_isl, w2a_set, w2b_set, w2a_tup, w2b_tup, w2a_len, w2b_len, w2a_idx, w2b_idx, optC_some, optC_none, ↓t_var, ↓t_k, ↓t_call, ↓t_callv, ↓t_idx, ↓t_isi, ↓t_bin, ↓t_bi, ↓l_nil, ↓l_cons, ↓qi_seq, ↓qi_rng1, ↓qi_rng2, ↓i_rng3, ↓qi_zip, ↓qi_enum, ↓okK_v, ↓cTurn_eq, ↓cTurn2_eq, -seqOp, sq_tup, sq_lst, -zipOp, zp_tup, zp_lst, -enumOp, en_lst, -idxOp, idx_tup, idx_lst, idx_l, at_map, at_map0, at_map1, at_mapl, at_0, at_1, at_2, -cmpOp, -isNonS, cm_is, cm_isnot, cm_isb, ns_non, ns_bl, ns_int, ns_tup, ns_lst, ns_l, cm_eqv, cm_nev, cm_eqlv, cm_nelv, cm_lt, cm_le, cm_gt, cm_ge, cm_in_t, cm_in_l, cm_nin_t, cm_nin_l, cm_in_p, cm_nin_p, -binOp, bo_ii, bo_ib, bo_tt, bo_ll, bo_pl, bo_tm, bo_lm, -negOp, ng_i, -isTys, it_of, oo_some, -biOp, qbi_len, qbi_int, qbi_abs, qbi_sum, qbi_tuple, qbi_list, qbi_sorted, bi_sset, bi_skey, bi_lset, qbi_min1, qbi_max1, qbi_min2, qbi_max2, bi_lr1, bi_tr1, -bLen, ln_t, ln_l, ln_p, -bInt, in_i, in_b, -bAbs, ab_i, -bSum, sm_t, sm_l, -bTuple, tp_t, tp_l, tp_p, -bList, ls_t, ls_l, ls_p, lr_n, -slcOp, sl_t, sl_l, -part?, pt_n, pt_i, -intOnly, io_i, -augOp, au_add, au_sub, -putOp, -isNonC, nnc_non, nnc_int, nnc_var, nnc_bin, nnc_bi, nnc_neg, nnc_idx, -leave, leave_l, take_app, take_self, nw_lst, nw_isl, nw_set, nw_tup, nw_len, nw_idx, nw_leave, nw_add, nw_eq, nw_ne, cut_ton, cut_fromn, -getS, gs_some, gs_none, gs_succ, -bindG, -bindGs, -wipeS, -pures?, -setAll, bg_name, bg_tup, bg_lst, bgs_nil, bgs_cons, wp_nil, wp_cons, pr_nil, pr_cons, sa_nil, sa_cons, ↓seqK_next, ↓seqK_ret, ↓seqK_brk, ↓seqK_cnt, ↓b_nil, ↓b_cons, ↓qs_set, ↓qs_unpack, ↓qs_par, ↓qs_sub, ↓s_aug, ↓qs_app, appIf_ok, ↓qs_expr, ↓s_ifs, ↓qs_ret, ↓qs_retN, ↓qs_brk, ↓qs_cnt, ↓turnF_eq, ↓s_forr, ↓s_whil, ↓qs_freeze, ↓frzO_some, ↓frzO_none, ↓frz_l, ↓frz_v, ↓bd_ok, ↓bd_exc, ↓bd_bad, ↓compLT_nil, ↓compLLT_nil, ↓optB_none, ↓optB_some, ↓truK_eq, ↓blK_eq, ↓tupK_eq, ↓lstK_eq, ↓callG_eq, ↓partO_eq, ↓svP_v, ↓svL_l, ↓endK_ret, ↓endK_next, ↓endK_ite, ↓fn_eq, startB_eq, -fnSem, leave_v, ↓compLT_map, ↓compLLT_map, compG_all, compG_none, compG_some, compG_two, compG_3, ite_int, compGG_all, ↓bd_ite, ite_both, -ite_not, -Classical.ite_not, -List.map_set, ite_okb, -intOp, op_shl, op_shln, op_shr, op_bit, op_and, op_or, op_xor, op_add, op_sub, -mkL, mkL_f, mkL_t, -mkT, mkT_ok, zip_map, enum_map, rng1_n, rng1_i, rng2_n, -rng1Op, -rng2Op, ints_mapf, sumI_map, -ix?, ix_n, ix_n1, ix_i0, ix_i1, ix_i2, eqP_nilL, noFns_map, bit_1, bit_0, -getElem?_pos, -getElem?_neg, get_ith, ith_zero, ith_succ, ith_map, nn, bitV, eqP_tups, eqP_lsts, eqP_enc, anyEq_enc, anyEq_int, anyEq_sets, List.isEmpty_iff, List.filter_eq_nil_iff, cast_inj, setV, pathsV, sysV, stV, b_weight_chance_0, v_dic0, hlz, hf, qi_items, itemsOp_d, e, f1, f2, bg_rv]))
theorem c_loop (hz : Sz D n) {w0 w1 w2 w9 : Option SV} : ∀ (wd : List (Nat × Rat)) (ws : List Nat) (cs : List Rat) (K : List Nat) (B : Nat) (G : Store), ws.length = cs.length → cs.length + wd.length ≤ n → CsOk D cs → (∀ x ∈ wd, Ch D x.2 ∧ x.1 ≤ 20) → B ≤ 20 * cs.length + 1 → n ≤ 60 → Cov (fsT ws) cs.length B K → ∀ w4 w5 w6 w7 w8 w10 w11, ∃ K' B' G' w4' w5' w6' w7' w8' w10' w11', Cov (fsT (ws ++ wd.map Prod.fst)) (cs ++ wd.map Prod.snd).length B' K' ∧ B' ≤ 2000 ∧
    forL (turnF g_weight_chance (.tup (.cons (.name 4) (.cons (.name 5) .nil))) b_weight_chance_0) [] (wd.map fun x => .tup [nn x.1, rv x.2]) [w0, w1, w2, some (.v (dicQ K (dq (fsT ws) cs))), w4, w5, w6, w7, w8, w9, w10, w11] (S ++ G) =
    .ok (.next [w0, w1, w2, some (.v (dicQ K' (dq (fsT (ws ++ wd.map Prod.fst)) (cs ++ wd.map Prod.snd)))), w4', w5', w6', w7', w8', w9, w10', w11']) (S ++ G')
  | [], ws, cs, K, B, G, _, hn, _, _, hB, h60, hK, w4, w5, w6, w7, w8, w10, w11 => ⟨K, B, G, w4, w5, w6, w7, w8, w10, w11, by simp only [List.map_nil, List.append_nil]; exact hK, by omega, by simp only [List.map_nil, List.append_nil]; rfl⟩
  | (w, c) :: wd, ws, cs, K, B, G, hws, hn, hc, hd, hB, h60, hK, w4, w5, w6, w7, w8, w10, w11 => by
    rw [List.length_cons] at hn
    obtain ⟨hcc, hw⟩ := hd (w, c) (by simp)
    have hcc : Ch D c := hcc
    have hw : w ≤ 20 := hw
    obtain ⟨K1, a6, a7, a8, a10, a11, hK1, e1⟩ := c_turn (Z := S ++ G) (Z' := S ++ G) (n := n) hz (by omega) hc hcc (w := w) (B := B) (by omega) rfl hws hK (r := .v (dicQ K (dq (fsT ws) cs))) (w0 := w0) (w1 := w1) (w2 := w2) (w4 := w4) (w5 := w5) (w6 := w6) (w7 := w7) (w8 := w8) (w9 := w9) (w10 := w10) (w11 := w11) rfl
    have hl1 : (cs ++ [c]).length = cs.length + 1 := by simp
    rw [← hl1] at hK1
    have hc1 : CsOk D (cs ++ [c]) := fun x hx => by
      rcases List.mem_append.mp hx with hx | hx
      · exact hc x hx
      · rw [List.mem_singleton.mp hx]; exact hcc
    obtain ⟨K', B', G', w4', w5', w6', w7', w8', w10', w11', hK', hB', e⟩ := c_loop hz (w0 := w0) (w1 := w1) (w2 := w2) (w9 := w9) wd (ws ++ [w]) (cs ++ [c]) K1 (B + w) (G ++ [.gone]) (by simp [hws]) (by rw [hl1]; omega) hc1 (fun x hx => hd x (by simp [hx])) (by rw [hl1]; omega) h60 hK1 (some (.v (nn w))) (some (.v (rv c))) a6 a7 a8 a10 a11
    have ha : (cs ++ [c]) ++ wd.map Prod.snd = cs ++ ((w, c) :: wd).map Prod.snd := by simp
    have ha2 : (ws ++ [w]) ++ wd.map Prod.fst = ws ++ ((w, c) :: wd).map Prod.fst := by simp
    rw [ha, ha2] at hK' e
    refine ⟨K', B', G', w4', w5', w6', w7', w8', w10', w11', hK', hB', ?_⟩
    rw [List.map_cons, forL_cons e1, List.append_assoc]
    exact e
def wsV (ws : List Nat) : PV := .tup (ws.map nn)
def geQ (q : Int) (u : Nat) : Bool := decide (q ≤ (u : Int))
theorem zip_ws : ∀ {ws : List Nat} {cs : List Rat}, zipL (ws.map nn) (cs.map rv) = (ws.zip cs).map fun x => PV.tup [nn x.1, rv x.2]
  | [], _ => rfl
  | _ :: _, [] => rfl
  | w :: ws, c :: cs => by rw [List.map_cons, List.map_cons, zipL, zip_ws, List.zip_cons_cons, List.map_cons]
theorem comp_ws {ws : List Nat} (h20 : ∀ w ∈ ws, w ≤ 20) (hl : ws.length ≤ 60) {w1 w2 w3 w4 w5 w6 w7 w8 w9 w10 w11 : Option SV} : (ev g_weight_chance c_weight_chance_0).v [some (.v (wsV ws)), w1, w2, w3, w4, w5, w6, w7, w8, w9, w10, w11] S = .ok (.v (.lst [])) S := by
  have := comp_f (x := nn) (c0 := c_weight_chance_0) (Γ := g_weight_chance) (S := S) (ρ := [some (.v (wsV ws)), w1, w2, w3, w4, w5, w6, w7, w8, w9, w10, w11]) rfl ws (fun _ => false) nn (by show _ ≤ 16777216; omega) (by unfold wsV; ((simp -implicitDefEqProofs -dsimp (disch := (first | with_reducible assumption | exact Mem.out (by assumption) | (((try simp only [List.length_map, List.length_range, List.length_append, List.length_cons, List.length_nil, List.length_tail, List.length_zip, List.length_reverse, List.length_take, List.length_drop, List.length_set, List.length_replicate, List.length_zipIdx, line]) <;> first | omega | (first | exact Mem.out (by assumption) | (with_reducible show (_ : Nat) < _; solve_by_elim (maxDepth := 4) [Mem.out]) | (with_reducible show (_ : Nat) ≤ _; solve_by_elim (maxDepth := 4) [Mem.out]) | (with_reducible show _ ∈ _; solve_by_elim (maxDepth := 4) [Mem.out]) | fail) | (refine Nat.le_trans (List.length_filter_le _ _) ?_; (try simp only [List.length_map, List.length_range, List.length_append, List.length_cons, List.length_nil]) <;> first | omega | (first | exact Mem.out (by assumption) | (with_reducible show (_ : Nat) < _; solve_by_elim (maxDepth := 4) [Mem.out]) | (with_reducible show (_ : Nat) ≤ _; solve_by_elim (maxDepth := 4) [Mem.out]) | (with_reducible show _ ∈ _; solve_by_elim (maxDepth := 4) [Mem.out]) | fail) | fail) | fail)) | fail)) [↓v_var, ↓v_k, ↓v_glob, ↓v_tup, ↓v_list, ↓v_bin, ↓v_neg, ↓t_nt, ↓v_nt, ↓v_and, ↓t_and, ↓v_or, ↓t_or, ↓v_and1, ↓t_and1, ↓v_or1, ↓t_or1, ↓v_and2, ↓t_and2, ↓v_or2, ↓t_or2, ↓t_cmp, ↓v_cmp, ↓t_chain, ↓v_chain, ↓v_ite, ↓t_ite, ↓v_call, ↓v_fnv, ↓v_callv, ↓v_index, ↓v_indexG, ↓v_bi, ↓v_isi, ↓v_idx, ↓v_slc, ↓v_comp, ↓v_comp2, ↓v_dic0, ↓v_get, ↓v_rev, ↓v_dcomp, ↓cTurnD_eq, pairO_v, ↓v_dicd, dispK_eq, pu_nil, pu_cons, keyOk_int, keyOk_str, mkD_ok, ↓compDT_map, compGD_all, ↓qs_pop, ↓qs_augsub, ↓qs_parG, fnM_eq, endM_ret, endM_ite, leaveM_v, nw_leaveM, nw_rev, rev_l, nw_old, asub_eq, nw_put, w2a_lst, w2b_lst, w2a_isl, w2b_isl, w2a_set, w2b_set, w2a_tup, w2b_tup, w2a_len, w2b_len, w2a_idx, w2b_idx, optC_some, optC_none, ↓t_var, ↓t_k, ↓t_call, ↓t_callv, ↓t_idx, ↓t_isi, ↓t_bin, ↓t_bi, ↓l_nil, ↓l_cons, ↓qi_seq, ↓qi_rng1, ↓qi_rng2, ↓i_rng3, ↓qi_zip, ↓qi_enum, ↓okK_v, ↓cTurn_eq, ↓cTurn2_eq, -seqOp, sq_tup, sq_lst, -zipOp, zp_tup, zp_lst, -enumOp, en_lst, -idxOp, idx_tup, idx_lst, idx_l, at_map, at_map0, at_map1, at_mapl, at_0, at_1, at_2, -cmpOp, -isNonS, cm_is, cm_isnot, cm_isb, ns_non, ns_bl, ns_int, ns_tup, ns_lst, ns_l, cm_eqv, cm_nev, cm_eqlv, cm_nelv, cm_lt, cm_le, cm_gt, cm_ge, cm_in_t, cm_in_l, cm_nin_t, cm_nin_l, cm_in_p, cm_nin_p, -binOp, bo_ii, bo_ib, bo_tt, bo_ll, bo_pl, bo_tm, bo_lm, -negOp, ng_i, -isTys, it_of, oo_some, -biOp, qbi_len, qbi_int, qbi_abs, qbi_sum, qbi_tuple, qbi_list, qbi_sorted, bi_sset, bi_skey, bi_lset, qbi_min1, qbi_max1, qbi_min2, qbi_max2, bi_lr1, bi_tr1, -bLen, ln_t, ln_l, ln_p, -bInt, in_i, in_b, -bAbs, ab_i, -bSum, sm_t, sm_l, -bTuple, tp_t, tp_l, tp_p, -bList, ls_t, ls_l, ls_p, lr_n, -slcOp, sl_t, sl_l, -part?, pt_n, pt_i, -intOnly, io_i, -augOp, au_add, au_sub, -putOp, -isNonC, nnc_non, nnc_int, nnc_var, nnc_bin, nnc_bi, nnc_neg, nnc_idx, -leave, leave_l, take_app, take_self, nw_lst, nw_isl, nw_set, nw_tup, nw_len, nw_idx, nw_leave, nw_add, nw_eq, nw_ne, cut_ton, cut_fromn, -getS, gs_some, gs_none, gs_succ, -bindG, -bindGs, -wipeS, -pures?, -setAll, bg_name, bg_tup, bg_lst, bgs_nil, bgs_cons, wp_nil, wp_cons, pr_nil, pr_cons, sa_nil, sa_cons, ↓seqK_next, ↓seqK_ret, ↓seqK_brk, ↓seqK_cnt, ↓b_nil, ↓b_cons, ↓qs_set, ↓qs_unpack, ↓qs_par, ↓qs_sub, ↓s_aug, ↓qs_app, appIf_ok, ↓qs_expr, ↓s_ifs, ↓qs_ret, ↓qs_retN, ↓qs_brk, ↓qs_cnt, ↓turnF_eq, ↓s_forr, ↓s_whil, ↓qs_freeze, ↓frzO_some, ↓frzO_none, ↓frz_l, ↓frz_v, ↓bd_ok, ↓bd_exc, ↓bd_bad, ↓compLT_nil, ↓compLLT_nil, ↓optB_none, ↓optB_some, ↓truK_eq, ↓blK_eq, ↓tupK_eq, ↓lstK_eq, ↓callG_eq, ↓partO_eq, ↓svP_v, ↓svL_l, ↓endK_ret, ↓endK_next, ↓endK_ite, ↓fn_eq, startB_eq, -fnSem, leave_v, ↓compLT_map, ↓compLLT_map, compG_all, compG_none, compG_some, compG_two, compG_3, ite_int, compGG_all, ↓bd_ite, ite_both, -ite_not, -Classical.ite_not, -List.map_set, ite_okb, -intOp, op_shl, op_shln, op_shr, op_bit, op_and, op_or, op_xor, op_add, op_sub, -mkL, mkL_f, mkL_t, -mkT, mkT_ok, zip_map, enum_map, rng1_n, rng1_i, rng2_n, -rng1Op, -rng2Op, ints_mapf, sumI_map, -ix?, ix_n, ix_n1, ix_i0, ix_i1, ix_i2, eqP_nilL, noFns_map, bit_1, bit_0, -getElem?_pos, -getElem?_neg, get_ith, ith_zero, ith_succ, ith_map, nn, bitV, eqP_tups, eqP_lsts, eqP_enc, anyEq_enc, anyEq_int, anyEq_sets, List.isEmpty_iff, List.filter_eq_nil_iff, cast_inj, setV, pathsV, sysV, stV]))) fun w hw => by
    have i1 : ∀ S, F_is_in [.v (.int (w : Int)), .v (.int 0), .v (.int 20)] S = .ok (.v (.bl true)) S := fun S => by
      have := h20 w hw
      rw [is_in_int, decide_eq_true (by omega)]
    unfold wsV
    ((simp -implicitDefEqProofs -dsimp (disch := (first | with_reducible assumption | exact Mem.out (by assumption) | (((try simp only [List.length_map, List.length_range, List.length_append, List.length_cons, List.length_nil, List.length_tail, List.length_zip, List.length_reverse, List.length_take, List.length_drop, List.length_set, List.length_replicate, List.length_zipIdx, line]) <;> first | omega | (first | exact Mem.out (by assumption) | (with_reducible show (_ : Nat) < _; solve_by_elim (maxDepth := 4) [Mem.out]) | (with_reducible show (_ : Nat) ≤ _; solve_by_elim (maxDepth := 4) [Mem.out]) | (with_reducible show _ ∈ _; solve_by_elim (maxDepth := 4) [Mem.out]) | fail) | (refine Nat.le_trans (List.length_filter_le _ _) ?_; (try simp only [List.length_map, List.length_range, List.length_append, List.length_cons, List.length_nil]) <;> first | omega | (first | exact Mem.out (by assumption) | (with_reducible show (_ : Nat) < _; solve_by_elim (maxDepth := 4) [Mem.out]) | (with_reducible show (_ : Nat) ≤ _; solve_by_elim (maxDepth := 4) [Mem.out]) | (with_reducible show _ ∈ _; solve_by_elim (maxDepth := 4) [Mem.out]) | fail) | fail) | fail)) | fail)) [↓v_var, ↓v_k, ↓v_glob, ↓v_tup, ↓v_list, ↓v_bin, ↓v_neg, ↓t_nt, ↓v_nt, ↓v_and, ↓t_and, ↓v_or, ↓t_or, ↓v_and1, ↓t_and1, ↓v_or1, ↓t_or1, ↓v_and2, ↓t_and2, ↓v_or2, ↓t_or2, ↓t_cmp, ↓v_cmp, ↓t_chain, ↓v_chain, ↓v_ite, ↓t_ite, ↓v_call, ↓v_fnv, ↓v_callv, ↓v_index, ↓v_indexG, ↓v_bi, ↓v_isi, ↓v_idx, ↓v_slc, ↓v_comp, ↓v_comp2, ↓v_dic0, ↓v_get, ↓v_rev, ↓v_dcomp, ↓cTurnD_eq, pairO_v, ↓v_dicd, dispK_eq, pu_nil, pu_cons, keyOk_int, keyOk_str, mkD_ok, ↓compDT_map, compGD_all, ↓qs_pop, ↓qs_augsub, ↓qs_parG, fnM_eq, endM_ret, endM_ite, leaveM_v, nw_leaveM, nw_rev, rev_l, nw_old, asub_eq, nw_put, w2a_lst, w2b_lst, w2a_isl, w2b_isl, w2a_set, w2b_set, w2a_tup, w2b_tup, w2a_len, w2b_len, w2a_idx, w2b_idx, optC_some, optC_none, ↓t_var, ↓t_k, ↓t_call, ↓t_callv, ↓t_idx, ↓t_isi, ↓t_bin, ↓t_bi, ↓l_nil, ↓l_cons, ↓qi_seq, ↓qi_rng1, ↓qi_rng2, ↓i_rng3, ↓qi_zip, ↓qi_enum, ↓okK_v, ↓cTurn_eq, ↓cTurn2_eq, -seqOp, sq_tup, sq_lst, -zipOp, zp_tup, zp_lst, -enumOp, en_lst, -idxOp, idx_tup, idx_lst, idx_l, at_map, at_map0, at_map1, at_mapl, at_0, at_1, at_2, -cmpOp, -isNonS, cm_is, cm_isnot, cm_isb, ns_non, ns_bl, ns_int, ns_tup, ns_lst, ns_l, cm_eqv, cm_nev, cm_eqlv, cm_nelv, cm_lt, cm_le, cm_gt, cm_ge, cm_in_t, cm_in_l, cm_nin_t, cm_nin_l, cm_in_p, cm_nin_p, -binOp, bo_ii, bo_ib, bo_tt, bo_ll, bo_pl, bo_tm, bo_lm, -negOp, ng_i, -isTys, it_of, oo_some, -biOp, qbi_len, qbi_int, qbi_abs, qbi_sum, qbi_tuple, qbi_list, qbi_sorted, bi_sset, bi_skey, bi_lset, qbi_min1, qbi_max1, qbi_min2, qbi_max2, bi_lr1, bi_tr1, -bLen, ln_t, ln_l, ln_p, -bInt, in_i, in_b, -bAbs, ab_i, -bSum, sm_t, sm_l, -bTuple, tp_t, tp_l, tp_p, -bList, ls_t, ls_l, ls_p, lr_n, -slcOp, sl_t, sl_l, -part?, pt_n, pt_i, -intOnly, io_i, -augOp, au_add, au_sub, -putOp, -isNonC, nnc_non, nnc_int, nnc_var, nnc_bin, nnc_bi, nnc_neg, nnc_idx, -leave, leave_l, take_app, take_self, nw_lst, nw_isl, nw_set, nw_tup, nw_len, nw_idx, nw_leave, nw_add, nw_eq, nw_ne, cut_ton, cut_fromn, -getS, gs_some, gs_none, gs_succ, -bindG, -bindGs, -wipeS, -pures?, -setAll, bg_name, bg_tup, bg_lst, bgs_nil, bgs_cons, wp_nil, wp_cons, pr_nil, pr_cons, sa_nil, sa_cons, ↓seqK_next, ↓seqK_ret, ↓seqK_brk, ↓seqK_cnt, ↓b_nil, ↓b_cons, ↓qs_set, ↓qs_unpack, ↓qs_par, ↓qs_sub, ↓s_aug, ↓qs_app, appIf_ok, ↓qs_expr, ↓s_ifs, ↓qs_ret, ↓qs_retN, ↓qs_brk, ↓qs_cnt, ↓turnF_eq, ↓s_forr, ↓s_whil, ↓qs_freeze, ↓frzO_some, ↓frzO_none, ↓frz_l, ↓frz_v, ↓bd_ok, ↓bd_exc, ↓bd_bad, ↓compLT_nil, ↓compLLT_nil, ↓optB_none, ↓optB_some, ↓truK_eq, ↓blK_eq, ↓tupK_eq, ↓lstK_eq, ↓callG_eq, ↓partO_eq, ↓svP_v, ↓svL_l, ↓endK_ret, ↓endK_next, ↓endK_ite, ↓fn_eq, startB_eq, -fnSem, leave_v, ↓compLT_map, ↓compLLT_map, compG_all, compG_none, compG_some, compG_two, compG_3, ite_int, compGG_all, ↓bd_ite, ite_both, -ite_not, -Classical.ite_not, -List.map_set, ite_okb, -intOp, op_shl, op_shln, op_shr, op_bit, op_and, op_or, op_xor, op_add, op_sub, -mkL, mkL_f, mkL_t, -mkT, mkT_ok, zip_map, enum_map, rng1_n, rng1_i, rng2_n, -rng1Op, -rng2Op, ints_mapf, sumI_map, -ix?, ix_n, ix_n1, ix_i0, ix_i1, ix_i2, eqP_nilL, noFns_map, bit_1, bit_0, -getElem?_pos, -getElem?_neg, get_ith, ith_zero, ith_succ, ith_map, nn, bitV, eqP_tups, eqP_lsts, eqP_enc, anyEq_enc, anyEq_int, anyEq_sets, List.isEmpty_iff, List.filter_eq_nil_iff, cast_inj, setV, pathsV, sysV, stV, i1]))
  rw [this]
  rw [List.filter_eq_nil_iff.mpr fun _ _ => by decide]
  rfl
theorem comp_end {q : Int} {v : Nat → Rat} {K : List Nat} (hK : K.length ≤ 2000) {w0 w2 w4 w5 w6 w7 w8 w9 w10 w11 : Option SV} : (ev g_weight_chance c_weight_chance_1).v [w0, some (.v (.int q)), w2, some (.v (dicQ K v)), w4, w5, w6, w7, w8, w9, w10, w11] S = .ok (.v (.lst ((K.filter (geQ q)).map fun u => rv (v u)))) S := by
  have hiter : evI g_weight_chance (.items (.var 3)) [w0, some (.v (.int q)), w2, some (.v (dicQ K v)), w4, w5, w6, w7, w8, w9, w10, w11] S = .ok (K.map fun u => PV.tup [nn u, rv (v u)]) S := by
    rw [qi_items, ← zip_kvQ]
    rfl
  refine comp_f rfl K (geQ q) (fun u => rv (v u)) (by show _ ≤ 16777216; omega) hiter fun u hu => ?_
  unfold geQ
  by_cases h : q ≤ (u : Int)
  · rw [decide_eq_true h, if_pos rfl]
    ((simp -implicitDefEqProofs -dsimp (disch := (first | with_reducible assumption | exact Mem.out (by assumption) | (((try simp only [List.length_map, List.length_range, List.length_append, List.length_cons, List.length_nil, List.length_tail, List.length_zip, List.length_reverse, List.length_take, List.length_drop, List.length_set, List.length_replicate, List.length_zipIdx, line]) <;> first | omega | (first | exact Mem.out (by assumption) | (with_reducible show (_ : Nat) < _; solve_by_elim (maxDepth := 4) [Mem.out]) | (with_reducible show (_ : Nat) ≤ _; solve_by_elim (maxDepth := 4) [Mem.out]) | (with_reducible show _ ∈ _; solve_by_elim (maxDepth := 4) [Mem.out]) | fail) | (refine Nat.le_trans (List.length_filter_le _ _) ?_; (try simp only [List.length_map, List.length_range, List.length_append, List.length_cons, List.length_nil]) <;> first | omega | (first | exact Mem.out (by assumption) | (with_reducible show (_ : Nat) < _; solve_by_elim (maxDepth := 4) [Mem.out]) | (with_reducible show (_ : Nat) ≤ _; solve_by_elim (maxDepth := 4) [Mem.out]) | (with_reducible show _ ∈ _; solve_by_elim (maxDepth := 4) [Mem.out]) | fail) | fail) | fail)) | fail)) [↓v_var, ↓v_k, ↓v_glob, ↓v_tup, ↓v_list, ↓v_bin, ↓v_neg, ↓t_nt, ↓v_nt, ↓v_and, ↓t_and, ↓v_or, ↓t_or, ↓v_and1, ↓t_and1, ↓v_or1, ↓t_or1, ↓v_and2, ↓t_and2, ↓v_or2, ↓t_or2, ↓t_cmp, ↓v_cmp, ↓t_chain, ↓v_chain, ↓v_ite, ↓t_ite, ↓v_call, ↓v_fnv, ↓v_callv, ↓v_index, ↓v_indexG, ↓v_bi, ↓v_isi, ↓v_idx, ↓v_slc, ↓v_comp, ↓v_comp2, ↓v_dic0, ↓v_get, ↓v_rev, ↓v_dcomp, ↓cTurnD_eq, pairO_v, ↓v_dicd, dispK_eq, pu_nil, pu_cons, keyOk_int, keyOk_str, mkD_ok, ↓compDT_map, compGD_all, ↓qs_pop, ↓qs_augsub, ↓qs_parG, fnM_eq, endM_ret, endM_ite, leaveM_v, nw_leaveM, nw_rev, rev_l, nw_old, asub_eq, nw_put, w2a_lst, w2b_lst, w2a_isl, w2b_isl, w2a_set, w2b_set, w2a_tup, w2b_tup, w2a_len, w2b_len, w2a_idx, w2b_idx, optC_some, optC_none, ↓t_var, ↓t_k, ↓t_call, ↓t_callv, ↓t_idx, ↓t_isi, ↓t_bin, ↓t_bi, ↓l_nil, ↓l_cons, ↓qi_seq, ↓qi_rng1, ↓qi_rng2, ↓i_rng3, ↓qi_zip, ↓qi_enum, ↓okK_v, ↓cTurn_eq, ↓cTurn2_eq, -seqOp, sq_tup, sq_lst, -zipOp, zp_tup, zp_lst, -enumOp, en_lst, -idxOp, idx_tup, idx_lst, idx_l, at_map, at_map0, at_map1, at_mapl, at_0, at_1, at_2, -cmpOp, -isNonS, cm_is, cm_isnot, cm_isb, ns_non, ns_bl, ns_int, ns_tup, ns_lst, ns_l, cm_eqv, cm_nev, cm_eqlv, cm_nelv, cm_lt, cm_le, cm_gt, cm_ge, cm_in_t, cm_in_l, cm_nin_t, cm_nin_l, cm_in_p, cm_nin_p, -binOp, bo_ii, bo_ib, bo_tt, bo_ll, bo_pl, bo_tm, bo_lm, -negOp, ng_i, -isTys, it_of, oo_some, -biOp, qbi_len, qbi_int, qbi_abs, qbi_sum, qbi_tuple, qbi_list, qbi_sorted, bi_sset, bi_skey, bi_lset, qbi_min1, qbi_max1, qbi_min2, qbi_max2, bi_lr1, bi_tr1, -bLen, ln_t, ln_l, ln_p, -bInt, in_i, in_b, -bAbs, ab_i, -bSum, sm_t, sm_l, -bTuple, tp_t, tp_l, tp_p, -bList, ls_t, ls_l, ls_p, lr_n, -slcOp, sl_t, sl_l, -part?, pt_n, pt_i, -intOnly, io_i, -augOp, au_add, au_sub, -putOp, -isNonC, nnc_non, nnc_int, nnc_var, nnc_bin, nnc_bi, nnc_neg, nnc_idx, -leave, leave_l, take_app, take_self, nw_lst, nw_isl, nw_set, nw_tup, nw_len, nw_idx, nw_leave, nw_add, nw_eq, nw_ne, cut_ton, cut_fromn, -getS, gs_some, gs_none, gs_succ, -bindG, -bindGs, -wipeS, -pures?, -setAll, bg_name, bg_tup, bg_lst, bgs_nil, bgs_cons, wp_nil, wp_cons, pr_nil, pr_cons, sa_nil, sa_cons, ↓seqK_next, ↓seqK_ret, ↓seqK_brk, ↓seqK_cnt, ↓b_nil, ↓b_cons, ↓qs_set, ↓qs_unpack, ↓qs_par, ↓qs_sub, ↓s_aug, ↓qs_app, appIf_ok, ↓qs_expr, ↓s_ifs, ↓qs_ret, ↓qs_retN, ↓qs_brk, ↓qs_cnt, ↓turnF_eq, ↓s_forr, ↓s_whil, ↓qs_freeze, ↓frzO_some, ↓frzO_none, ↓frz_l, ↓frz_v, ↓bd_ok, ↓bd_exc, ↓bd_bad, ↓compLT_nil, ↓compLLT_nil, ↓optB_none, ↓optB_some, ↓truK_eq, ↓blK_eq, ↓tupK_eq, ↓lstK_eq, ↓callG_eq, ↓partO_eq, ↓svP_v, ↓svL_l, ↓endK_ret, ↓endK_next, ↓endK_ite, ↓fn_eq, startB_eq, -fnSem, leave_v, ↓compLT_map, ↓compLLT_map, compG_all, compG_none, compG_some, compG_two, compG_3, ite_int, compGG_all, ↓bd_ite, ite_both, -ite_not, -Classical.ite_not, -List.map_set, ite_okb, -intOp, op_shl, op_shln, op_shr, op_bit, op_and, op_or, op_xor, op_add, op_sub, -mkL, mkL_f, mkL_t, -mkT, mkT_ok, zip_map, enum_map, rng1_n, rng1_i, rng2_n, -rng1Op, -rng2Op, ints_mapf, sumI_map, -ix?, ix_n, ix_n1, ix_i0, ix_i1, ix_i2, eqP_nilL, noFns_map, bit_1, bit_0, -getElem?_pos, -getElem?_neg, get_ith, ith_zero, ith_succ, ith_map, nn, bitV, eqP_tups, eqP_lsts, eqP_enc, anyEq_enc, anyEq_int, anyEq_sets, List.isEmpty_iff, List.filter_eq_nil_iff, cast_inj, setV, pathsV, sysV, stV, h, bg_rv]))
  · rw [decide_eq_false h, if_neg (by decide)]
    ((simp -implicitDefEqProofs -dsimp (disch := (first | with_reducible assumption | exact Mem.out (by assumption) | (((try simp only [List.length_map, List.length_range, List.length_append, List.length_cons, List.length_nil, List.length_tail, List.length_zip, List.length_reverse, List.length_take, List.length_drop, List.length_set, List.length_replicate, List.length_zipIdx, line]) <;> first | omega | (first | exact Mem.out (by assumption) | (with_reducible show (_ : Nat) < _; solve_by_elim (maxDepth := 4) [Mem.out]) | (with_reducible show (_ : Nat) ≤ _; solve_by_elim (maxDepth := 4) [Mem.out]) | (with_reducible show _ ∈ _; solve_by_elim (maxDepth := 4) [Mem.out]) | fail) | (refine Nat.le_trans (List.length_filter_le _ _) ?_; (try simp only [List.length_map, List.length_range, List.length_append, List.length_cons, List.length_nil]) <;> first | omega | (first | exact Mem.out (by assumption) | (with_reducible show (_ : Nat) < _; solve_by_elim (maxDepth := 4) [Mem.out]) | (with_reducible show (_ : Nat) ≤ _; solve_by_elim (maxDepth := 4) [Mem.out]) | (with_reducible show _ ∈ _; solve_by_elim (maxDepth := 4) [Mem.out]) | fail) | fail) | fail)) | fail)) [↓v_var, ↓v_k, ↓v_glob, ↓v_tup, ↓v_list, ↓v_bin, ↓v_neg, ↓t_nt, ↓v_nt, ↓v_and, ↓t_and, ↓v_or, ↓t_or, ↓v_and1, ↓t_and1, ↓v_or1, ↓t_or1, ↓v_and2, ↓t_and2, ↓v_or2, ↓t_or2, ↓t_cmp, ↓v_cmp, ↓t_chain, ↓v_chain, ↓v_ite, ↓t_ite, ↓v_call, ↓v_fnv, ↓v_callv, ↓v_index, ↓v_indexG, ↓v_bi, ↓v_isi, ↓v_idx, ↓v_slc, ↓v_comp, ↓v_comp2, ↓v_dic0, ↓v_get, ↓v_rev, ↓v_dcomp, ↓cTurnD_eq, pairO_v, ↓v_dicd, dispK_eq, pu_nil, pu_cons, keyOk_int, keyOk_str, mkD_ok, ↓compDT_map, compGD_all, ↓qs_pop, ↓qs_augsub, ↓qs_parG, fnM_eq, endM_ret, endM_ite, leaveM_v, nw_leaveM, nw_rev, rev_l, nw_old, asub_eq, nw_put, w2a_lst, w2b_lst, w2a_isl, w2b_isl, w2a_set, w2b_set, w2a_tup, w2b_tup, w2a_len, w2b_len, w2a_idx, w2b_idx, optC_some, optC_none, ↓t_var, ↓t_k, ↓t_call, ↓t_callv, ↓t_idx, ↓t_isi, ↓t_bin, ↓t_bi, ↓l_nil, ↓l_cons, ↓qi_seq, ↓qi_rng1, ↓qi_rng2, ↓i_rng3, ↓qi_zip, ↓qi_enum, ↓okK_v, ↓cTurn_eq, ↓cTurn2_eq, -seqOp, sq_tup, sq_lst, -zipOp, zp_tup, zp_lst, -enumOp, en_lst, -idxOp, idx_tup, idx_lst, idx_l, at_map, at_map0, at_map1, at_mapl, at_0, at_1, at_2, -cmpOp, -isNonS, cm_is, cm_isnot, cm_isb, ns_non, ns_bl, ns_int, ns_tup, ns_lst, ns_l, cm_eqv, cm_nev, cm_eqlv, cm_nelv, cm_lt, cm_le, cm_gt, cm_ge, cm_in_t, cm_in_l, cm_nin_t, cm_nin_l, cm_in_p, cm_nin_p, -binOp, bo_ii, bo_ib, bo_tt, bo_ll, bo_pl, bo_tm, bo_lm, -negOp, ng_i, -isTys, it_of, oo_some, -biOp, qbi_len, qbi_int, qbi_abs, qbi_sum, qbi_tuple, qbi_list, qbi_sorted, bi_sset, bi_skey, bi_lset, qbi_min1, qbi_max1, qbi_min2, qbi_max2, bi_lr1, bi_tr1, -bLen, ln_t, ln_l, ln_p, -bInt, in_i, in_b, -bAbs, ab_i, -bSum, sm_t, sm_l, -bTuple, tp_t, tp_l, tp_p, -bList, ls_t, ls_l, ls_p, lr_n, -slcOp, sl_t, sl_l, -part?, pt_n, pt_i, -intOnly, io_i, -augOp, au_add, au_sub, -putOp, -isNonC, nnc_non, nnc_int, nnc_var, nnc_bin, nnc_bi, nnc_neg, nnc_idx, -leave, leave_l, take_app, take_self, nw_lst, nw_isl, nw_set, nw_tup, nw_len, nw_idx, nw_leave, nw_add, nw_eq, nw_ne, cut_ton, cut_fromn, -getS, gs_some, gs_none, gs_succ, -bindG, -bindGs, -wipeS, -pures?, -setAll, bg_name, bg_tup, bg_lst, bgs_nil, bgs_cons, wp_nil, wp_cons, pr_nil, pr_cons, sa_nil, sa_cons, ↓seqK_next, ↓seqK_ret, ↓seqK_brk, ↓seqK_cnt, ↓b_nil, ↓b_cons, ↓qs_set, ↓qs_unpack, ↓qs_par, ↓qs_sub, ↓s_aug, ↓qs_app, appIf_ok, ↓qs_expr, ↓s_ifs, ↓qs_ret, ↓qs_retN, ↓qs_brk, ↓qs_cnt, ↓turnF_eq, ↓s_forr, ↓s_whil, ↓qs_freeze, ↓frzO_some, ↓frzO_none, ↓frz_l, ↓frz_v, ↓bd_ok, ↓bd_exc, ↓bd_bad, ↓compLT_nil, ↓compLLT_nil, ↓optB_none, ↓optB_some, ↓truK_eq, ↓blK_eq, ↓tupK_eq, ↓lstK_eq, ↓callG_eq, ↓partO_eq, ↓svP_v, ↓svL_l, ↓endK_ret, ↓endK_next, ↓endK_ite, ↓fn_eq, startB_eq, -fnSem, leave_v, ↓compLT_map, ↓compLLT_map, compG_all, compG_none, compG_some, compG_two, compG_3, ite_int, compGG_all, ↓bd_ite, ite_both, -ite_not, -Classical.ite_not, -List.map_set, ite_okb, -intOp, op_shl, op_shln, op_shr, op_bit, op_and, op_or, op_xor, op_add, op_sub, -mkL, mkL_f, mkL_t, -mkT, mkT_ok, zip_map, enum_map, rng1_n, rng1_i, rng2_n, -rng1Op, -rng2Op, ints_mapf, sumI_map, -ix?, ix_n, ix_n1, ix_i0, ix_i1, ix_i2, eqP_nilL, noFns_map, bit_1, bit_0, -getElem?_pos, -getElem?_neg, get_ith, ith_zero, ith_succ, ith_map, nn, bitV, eqP_tups, eqP_lsts, eqP_enc, anyEq_enc, anyEq_int, anyEq_sets, List.isEmpty_iff, List.filter_eq_nil_iff, cast_inj, setV, pathsV, sysV, stV, h, bg_rv]))
theorem F_weight_chance_eq {q : Int} {ws : List Nat} (hz : Sz D n) (hl : cs.length = n) (hw : ws.length = n) (hc : CsOk D cs) (h20 : ∀ w ∈ ws, w ≤ 20) (h1 : 1 ≤ n) (hn : n ≤ 60) : F_weight_chance [.v (wsV ws), .v (.int q), .v (csV cs)] S = .ok (.v (rv (prob cs (wkE (fsT ws) (geQ q))))) S := by
  cases cs with
  | nil => rw [List.length_nil] at hl; omega
  | cons c ds =>
  cases ws with
  | nil => rw [List.length_nil] at hw; omega
  | cons w wr =>
    have e0 := fun S => F_need_row_eq (S := S) hz hl (by omega) hn hc
    have ec := fun S => comp_ws (S := S) h20 (by omega) (w1 := some (.v (.int q))) (w2 := some (.v (csV (c :: ds)))) (w3 := none) (w4 := none) (w5 := none) (w6 := none) (w7 := none) (w8 := none) (w9 := none) (w10 := none) (w11 := none)
    have hcc := hc c (by simp)
    rw [List.length_cons] at hl hw
    have hk0 : kvQ [0] (dq [] []) = [(.int 0, .tup [.int 1, .int 1])] := by rw [dq_zero]; rfl
    have hcov0 : Cov (fsT []) ([] : List Rat).length 1 [0] := Cov.zero (by decide)
    obtain ⟨K1, a6, a7, a8, a10, a11, hK1, e1⟩ := c_turn (Z := S ++ [.dic (kvQ [0] (dq [] []))]) (Z' := S ++ [.gone]) (n := n) (cs := []) hz (by simp; omega) (fun x hx => by cases hx) hcc (w := w) (B := 1) (by have := h20 w (by simp); omega) (by simp) (ws := []) rfl hcov0 (r := .l S.length) (w0 := some (.v (wsV (w :: wr)))) (w1 := some (.v (.int q))) (w2 := some (.v (csV (c :: ds)))) (w4 := none) (w5 := none) (w6 := none) (w7 := none) (w8 := none) (w9 := none) (w10 := none) (w11 := none) (by
      have hat : (S ++ [Ob.dic (kvQ [0] (dq [] []))] ++ [Ob.dic []])[S.length]? = some (.dic (kvQ [0] (dq [] []))) := by simp
      rw [show dq (fsT []) [] = dq [] [] from rfl, frz_kvQ hat]
      simp)
    have hl1 : ([] : List Rat).length + 1 = ([] ++ [c] : List Rat).length := rfl
    rw [hl1] at hK1
    have hsnd : (wr.zip ds).map Prod.snd = ds := by rw [List.map_snd_zip (by omega)]
    have hfst : (wr.zip ds).map Prod.fst = wr := by rw [List.map_fst_zip (by omega)]
    obtain ⟨K', B', G', w4', w5', w6', w7', w8', w10', w11', hK', hB', e⟩ := c_loop (S := S) hz (w0 := some (.v (wsV (w :: wr)))) (w1 := some (.v (.int q))) (w2 := some (.v (csV (c :: ds)))) (w9 := none) (wr.zip ds) ([] ++ [w]) ([] ++ [c]) K1 (1 + w) ([.gone] ++ [.gone]) rfl (by simp; omega) (fun x hx => by rw [List.mem_singleton.mp hx]; exact hcc) (fun x hx => ⟨hc _ (List.mem_cons_of_mem _ (List.of_mem_zip hx).2), h20 _ (List.mem_cons_of_mem _ (List.of_mem_zip hx).1)⟩) (by have := h20 w (by simp); simp; omega) hn hK1 (some (.v (nn w))) (some (.v (rv c))) a6 a7 a8 a10 a11
    rw [hsnd, hfst] at hK' e
    have ha : ([] ++ [c]) ++ ds = c :: ds := by simp
    have ha2 : ([] ++ [w]) ++ wr = w :: wr := by simp
    rw [ha, ha2] at hK' e
    rw [← List.append_assoc] at e
    have ef := forL_cons (xs := (wr.zip ds).map fun x => .tup [nn x.1, rv x.2]) e1
    have e' := ef.trans e
    have hzip : zipL ((w :: wr).map nn) ((c :: ds).map rv) = PV.tup [nn w, rv c] :: (wr.zip ds).map fun x => .tup [nn x.1, rv x.2] := by
      rw [zip_ws, List.zip_cons_cons, List.map_cons]
    rw [← hzip] at e'
    have hll : (c :: ds).length = n := by rw [List.length_cons]; exact hl
    have hwl : (w :: wr).length = n := by rw [List.length_cons]; exact hw
    have htot := fun Z => dq_total (S := Z) (p := geQ q) (fs := fsT (w :: wr)) (cs := c :: ds) (K := K') (B := B') hz (Nat.le_of_eq hll) hc hK'
    have hKl := nodup_lt hK'.nd hK'.lt
    have e2 := fun Z w7 w8 => comp_end (S := Z) (q := q) (v := dq (fsT (w :: wr)) (c :: ds)) (K := K') (by omega) (w0 := some (.v (wsV (w :: wr)))) (w2 := some (.v (csV (c :: ds)))) (w4 := w4') (w5 := w5') (w6 := w6') (w7 := w7) (w8 := w8) (w9 := none) (w10 := w10') (w11 := w11')
    obtain ⟨R, hR⟩ : ∃ R, R = (K'.filter (geQ q)).map fun u => rv (dq (fsT (w :: wr)) (c :: ds) u) := ⟨_, rfl⟩
    simp only [← hR] at htot e2
    obtain ⟨ks', hks'⟩ : ∃ x, x = K'.map nn := ⟨_, rfl⟩
    obtain ⟨vs', hvs'⟩ : ∃ x, x = K'.map fun u => rv (dq (fsT (w :: wr)) (c :: ds) u) := ⟨_, rfl⟩
    simp only [dicQ, ← hks', ← hvs'] at e' e2
    obtain ⟨T, hT⟩ : ∃ T, T = prob (c :: ds) (wkE (fsT (w :: wr)) (geQ q)) := ⟨_, rfl⟩
    rw [← hT] at htot ⊢
    rw [hk0] at e'
    have hA : ((w :: wr).map nn).length = n := by rw [List.length_map, hwl]
    have hB : ((c :: ds).map rv).length = n := by rw [List.length_map, hll]
    obtain ⟨V, hV⟩ : ∃ V, V = (c :: ds).map rv := ⟨_, rfl⟩
    obtain ⟨U, hU⟩ : ∃ V, V = (w :: wr).map nn := ⟨_, rfl⟩
    rw [← hV] at hB
    rw [← hU] at hA
    simp only [csV, wsV, ← hV, ← hU] at e0 ec e2 e' ⊢
    have hn1 : (1 : Int) ≤ (n : Int) ∧ (n : Int) ≤ 60 := by omega
    have hn1a := hn1.1
    have hn1b := hn1.2
    clear hks' hvs' hT hk0 e ef e1 hV hU hcc hc hK1 hK' hcov0 hR hzip h20
    ((simp -implicitDefEqProofs -dsimp (disch := (first | with_reducible assumption | exact Mem.out (by assumption) | (((try simp only [List.length_map, List.length_range, List.length_append, List.length_cons, List.length_nil, List.length_tail, List.length_zip, List.length_reverse, List.length_take, List.length_drop, List.length_set, List.length_replicate, List.length_zipIdx, line]) <;> first | omega | (first | exact Mem.out (by assumption) | (with_reducible show (_ : Nat) < _; solve_by_elim (maxDepth := 4) [Mem.out]) | (with_reducible show (_ : Nat) ≤ _; solve_by_elim (maxDepth := 4) [Mem.out]) | (with_reducible show _ ∈ _; solve_by_elim (maxDepth := 4) [Mem.out]) | fail) | (refine Nat.le_trans (List.length_filter_le _ _) ?_; (try simp only [List.length_map, List.length_range, List.length_append, List.length_cons, List.length_nil]) <;> first | omega | (first | exact Mem.out (by assumption) | (with_reducible show (_ : Nat) < _; solve_by_elim (maxDepth := 4) [Mem.out]) | (with_reducible show (_ : Nat) ≤ _; solve_by_elim (maxDepth := 4) [Mem.out]) | (with_reducible show _ ∈ _; solve_by_elim (maxDepth := 4) [Mem.out]) | fail) | fail) | fail)) | fail)) [↓v_var, ↓v_k, ↓v_glob, ↓v_tup, ↓v_list, ↓v_bin, ↓v_neg, ↓t_nt, ↓v_nt, ↓v_and, ↓t_and, ↓v_or, ↓t_or, ↓v_and1, ↓t_and1, ↓v_or1, ↓t_or1, ↓v_and2, ↓t_and2, ↓v_or2, ↓t_or2, ↓t_cmp, ↓v_cmp, ↓t_chain, ↓v_chain, ↓v_ite, ↓t_ite, ↓v_call, ↓v_fnv, ↓v_callv, ↓v_index, ↓v_indexG, ↓v_bi, ↓v_isi, ↓v_idx, ↓v_slc, ↓v_comp, ↓v_comp2, ↓v_dic0, ↓v_get, ↓v_rev, ↓v_dcomp, ↓cTurnD_eq, pairO_v, ↓v_dicd, dispK_eq, pu_nil, pu_cons, keyOk_int, keyOk_str, mkD_ok, ↓compDT_map, compGD_all, ↓qs_pop, ↓qs_augsub, ↓qs_parG, fnM_eq, endM_ret, endM_ite, leaveM_v, nw_leaveM, nw_rev, rev_l, nw_old, asub_eq, nw_put, w2a_lst, w2b_lst, w2a_isl, w2b_isl, w2a_set, w2b_set, w2a_tup, w2b_tup, w2a_len, w2b_len, w2a_idx, w2b_idx, optC_some, optC_none, ↓t_var, ↓t_k, ↓t_call, ↓t_callv, ↓t_idx, ↓t_isi, ↓t_bin, ↓t_bi, ↓l_nil, ↓l_cons, ↓qi_seq, ↓qi_rng1, ↓qi_rng2, ↓i_rng3, ↓qi_zip, ↓qi_enum, ↓okK_v, ↓cTurn_eq, ↓cTurn2_eq, -seqOp, sq_tup, sq_lst, -zipOp, zp_tup, zp_lst, -enumOp, en_lst, -idxOp, idx_tup, idx_lst, idx_l, at_map, at_map0, at_map1, at_mapl, at_0, at_1, at_2, -cmpOp, -isNonS, cm_is, cm_isnot, cm_isb, ns_non, ns_bl, ns_int, ns_tup, ns_lst, ns_l, cm_eqv, cm_nev, cm_eqlv, cm_nelv, cm_lt, cm_le, cm_gt, cm_ge, cm_in_t, cm_in_l, cm_nin_t, cm_nin_l, cm_in_p, cm_nin_p, -binOp, bo_ii, bo_ib, bo_tt, bo_ll, bo_pl, bo_tm, bo_lm, -negOp, ng_i, -isTys, it_of, oo_some, -biOp, qbi_len, qbi_int, qbi_abs, qbi_sum, qbi_tuple, qbi_list, qbi_sorted, bi_sset, bi_skey, bi_lset, qbi_min1, qbi_max1, qbi_min2, qbi_max2, bi_lr1, bi_tr1, -bLen, ln_t, ln_l, ln_p, -bInt, in_i, in_b, -bAbs, ab_i, -bSum, sm_t, sm_l, -bTuple, tp_t, tp_l, tp_p, -bList, ls_t, ls_l, ls_p, lr_n, -slcOp, sl_t, sl_l, -part?, pt_n, pt_i, -intOnly, io_i, -augOp, au_add, au_sub, -putOp, -isNonC, nnc_non, nnc_int, nnc_var, nnc_bin, nnc_bi, nnc_neg, nnc_idx, -leave, leave_l, take_app, take_self, nw_lst, nw_isl, nw_set, nw_tup, nw_len, nw_idx, nw_leave, nw_add, nw_eq, nw_ne, cut_ton, cut_fromn, -getS, gs_some, gs_none, gs_succ, -bindG, -bindGs, -wipeS, -pures?, -setAll, bg_name, bg_tup, bg_lst, bgs_nil, bgs_cons, wp_nil, wp_cons, pr_nil, pr_cons, sa_nil, sa_cons, ↓seqK_next, ↓seqK_ret, ↓seqK_brk, ↓seqK_cnt, ↓b_nil, ↓b_cons, ↓qs_set, ↓qs_unpack, ↓qs_par, ↓qs_sub, ↓s_aug, ↓qs_app, appIf_ok, ↓qs_expr, ↓s_ifs, ↓qs_ret, ↓qs_retN, ↓qs_brk, ↓qs_cnt, ↓turnF_eq, ↓s_forr, ↓s_whil, ↓qs_freeze, ↓frzO_some, ↓frzO_none, ↓frz_l, ↓frz_v, ↓bd_ok, ↓bd_exc, ↓bd_bad, ↓compLT_nil, ↓compLLT_nil, ↓optB_none, ↓optB_some, ↓truK_eq, ↓blK_eq, ↓tupK_eq, ↓lstK_eq, ↓callG_eq, ↓partO_eq, ↓svP_v, ↓svL_l, ↓endK_ret, ↓endK_next, ↓endK_ite, ↓fn_eq, startB_eq, -fnSem, leave_v, ↓compLT_map, ↓compLLT_map, compG_all, compG_none, compG_some, compG_two, compG_3, ite_int, compGG_all, ↓bd_ite, ite_both, -ite_not, -Classical.ite_not, -List.map_set, ite_okb, -intOp, op_shl, op_shln, op_shr, op_bit, op_and, op_or, op_xor, op_add, op_sub, -mkL, mkL_f, mkL_t, -mkT, mkT_ok, zip_map, enum_map, rng1_n, rng1_i, rng2_n, -rng1Op, -rng2Op, ints_mapf, sumI_map, -ix?, ix_n, ix_n1, ix_i0, ix_i1, ix_i2, eqP_nilL, noFns_map, bit_1, bit_0, -getElem?_pos, -getElem?_neg, get_ith, ith_zero, ith_succ, ith_map, nn, bitV, eqP_tups, eqP_lsts, eqP_enc, anyEq_enc, anyEq_int, anyEq_sets, List.isEmpty_iff, List.filter_eq_nil_iff, cast_inj, setV, pathsV, sysV, stV, F_weight_chance, d_weight_chance, F_is_whole, d_is_whole, ↓ec, hA, hB, hn1a, hn1b, e0, e', ↓e2, htot, putAll, keyPut]))
end
def tot (ws : List Nat) (st : List Bool) : Nat := (((List.range st.length).filter (ith st)).map (ith ws)).sum
theorem tot_snoc {ws : List Nat} {st : List Bool} {w : Nat} {b : Bool} (h : ws.length = st.length) : tot (ws ++ [w]) (st ++ [b]) = tot ws st + if b = true then w else 0 := by
  unfold tot
  have hll : (st ++ [b]).length = st.length + 1 := by simp
  rw [hll, List.range_succ, List.filter_append, List.map_append, List.sum_append]
  have e1 : ((List.range st.length).filter (ith (st ++ [b]))).map (ith (ws ++ [w])) = ((List.range st.length).filter (ith st)).map (ith ws) := by
    rw [List.filter_congr fun k hk => ith_appL (List.mem_range.mp hk)]
    refine List.map_congr_left fun k hk => ith_appL ?_
    have := List.mem_range.mp (List.mem_filter.mp hk).1
    omega
  have hb : ith (st ++ [b]) st.length = b := by rw [ith_snoc, if_neg (by omega), if_pos rfl]
  have hw : ith (ws ++ [w]) st.length = w := by
    unfold ith
    rw [List.getD_eq_getElem?_getD, ← h, List.getElem?_append_right (Nat.le_refl _)]
    simp
  rw [e1]
  cases b with
  | true => rw [List.filter_cons_of_pos hb, List.filter_nil, List.map_singleton, hw]; simp
  | false => rw [List.filter_cons_of_neg (by rw [hb]; decide), List.filter_nil]; simp
theorem walk_tot : ∀ (st : List Bool) (ws : List Nat), ws.length = st.length → walk (fsT ws) st = some (tot ws st) := fun st => by
  refine snoc_ind (Q := fun st => ∀ ws : List Nat, ws.length = st.length → walk (fsT ws) st = some (tot ws st)) ?_ ?_ st
  · intro ws h
    rw [List.length_eq_zero_iff.mp h]
    rfl
  · intro st b ih ws h
    rw [List.length_append, List.length_singleton] at h
    obtain ⟨ws', w, rfl, hw⟩ := snoc_of h
    have hff : fsT (ws' ++ [w]) = fsT ws' ++ [stT w] := by rw [fsT, fsT, List.map_append]; rfl
    rw [hff, walk_snoc (by rw [List.length_map]; exact hw), ih ws' hw, tot_snoc hw]
    rfl
theorem tot_rep (x : Nat) : ∀ st : List Bool, tot (List.replicate st.length x) st = x * cnt st := fun st => by
  refine snoc_ind (Q := fun st => tot (List.replicate st.length x) st = x * cnt st) rfl ?_ st
  intro st b ih
  have hll : (st ++ [b]).length = st.length + 1 := by simp
  rw [hll, List.replicate_succ', tot_snoc (by simp), ih, cnt_snoc, Nat.mul_add]
  cases b <;> simp
theorem prob_cnt (p : Rat) : ∀ (n j : Nat), prob (List.replicate n p) (fun st => decide (cnt st = j)) = (bin n j : Rat) * (pwq p j * pwq (1 - p) (n - j))
  | 0, j => by
    rw [prob_Ex]
    show Ex [] _ = _
    rw [Ex_nil]
    cases j with
    | zero => show (1 : Rat) = ((1 : Nat) : Rat) * (1 * 1); grind
    | succ j => show (0 : Rat) = ((0 : Nat) : Rat) * _; grind
  | n + 1, j => by
    have e := fun j => prob_cnt p n j
    simp only [prob_Ex] at e ⊢
    rw [rep_snoc, Ex_snoc, Ex_add, Ex_mul, Ex_mul]
    have h0 : Ex (List.replicate n p) (fun st => b2r (decide (cnt (st ++ [false]) = j))) = (bin n j : Rat) * (pwq p j * pwq (1 - p) (n - j)) := by
      rw [← e j]
      exact Ex_congr fun st _ => by rw [cnt_snoc]; rfl
    rw [h0]
    cases j with
    | zero =>
      have h1 : Ex (List.replicate n p) (fun st => b2r (decide (cnt (st ++ [true]) = 0))) = 0 := by
        rw [Ex_congr (g := fun _ => 0 * 1) fun st _ => by
          rw [cnt_snoc, decide_eq_false (by simp)]
          show (0 : Rat) = 0 * 1
          grind, Ex_mul]
        grind
      rw [h1, bin_n0, bin_n0]
      show (1 - p) * (_ * (1 * pwq (1 - p) n)) + _ = _ * (1 * (pwq (1 - p) n * (1 - p)))
      grind
    | succ j =>
      have h1 : Ex (List.replicate n p) (fun st => b2r (decide (cnt (st ++ [true]) = j + 1))) = (bin n j : Rat) * (pwq p j * pwq (1 - p) (n - j)) := by
        rw [← e j]
        exact Ex_congr fun st _ => by
          rw [cnt_snoc, if_pos rfl]
          congr 1
          exact decide_eq_decide.mpr (by omega)
      rw [h1, bin_s, show n + 1 - (j + 1) = n - j by omega]
      push_cast
      show (1 - p) * ((bin n (j + 1) : Rat) * (pwq p j * p * pwq (1 - p) (n - (j + 1)))) + p * ((bin n j : Rat) * (pwq p j * pwq (1 - p) (n - j))) = ((bin n j : Rat) + (bin n (j + 1) : Rat)) * (pwq p j * p * pwq (1 - p) (n - j))
      by_cases h : j + 1 ≤ n
      · obtain ⟨d, hd⟩ : ∃ d, n - j = d + 1 := ⟨n - (j + 1), by omega⟩
        rw [hd, show n - (j + 1) = d by omega]
        show _ = (_ + _) * (pwq p j * p * (pwq (1 - p) d * (1 - p)))
        have : pwq (1 - p) (d + 1) = pwq (1 - p) d * (1 - p) := rfl
        rw [this]
        grind
      · rw [binGt (show n < j + 1 by omega)]
        have : ((0 : Nat) : Rat) = 0 := rfl
        rw [this]
        grind
def tQ (n q : Nat) (p : Rat) (j : Nat) : Rat := prob (List.replicate n p) fun st => decide (q ≤ cnt st ∧ cnt st < j)
theorem tQ_start (n q : Nat) (p : Rat) : tQ n q p q = 0 := prob_none fun st _ => decide_eq_false (by omega)
theorem tQ_step {n q j : Nat} {p : Rat} (h : q ≤ j) : tQ n q p (j + 1) = tQ n q p j + (bin n j : Rat) * (pwq p j * pwq (1 - p) (n - j)) := by
  rw [← prob_cnt]
  unfold tQ
  rw [prob_Ex, prob_Ex, prob_Ex, ← Ex_add]
  refine Ex_congr fun st _ => ?_
  by_cases h1 : cnt st = j
  · rw [decide_eq_true h1, decide_eq_true (by omega), decide_eq_false (by omega)]
    show (1 : Rat) = 0 + 1; grind
  · rw [decide_eq_false h1, show decide (q ≤ cnt st ∧ cnt st < j + 1) = decide (q ≤ cnt st ∧ cnt st < j) from decide_eq_decide.mpr (by omega)]
    show _ = _ + (0 : Rat); grind
theorem tQ_ch {n q D : Nat} {p : Rat} (h : Ch D p) (j : Nat) : Ch (D ^ n) (tQ n q p j) := by
  have := prob_ch (cs := List.replicate n p) (D := D) (p := fun st => decide (q ≤ cnt st ∧ cnt st < j)) fun c hc => by rw [List.eq_of_mem_replicate hc]; exact h
  rwa [List.length_replicate] at this
theorem sz27 {n : Nat} (hn : n ≤ 27) : Sz 2520 n := ⟨by decide, by
  have h1 : 2520 ^ n ≤ 2520 ^ 27 := Nat.pow_le_pow_right (by decide) hn
  have h2 : (2 : Nat) ^ 400 ≤ 2 ^ 2500 := Nat.pow_le_pow_right (by decide) (by decide)
  have h3 : 2 * 2520 ^ 27 < 2 ^ 400 := by decide +kernel
  omega⟩
section
variable {n q : Nat} {p : Rat} {S : Store}
theorem p_turn (hp : Ch 2520 p) (hn : n ≤ 20) {j : Nat} (hq : q ≤ j) (hj : j ≤ n) {w0 w1 w3 w4 w5 w6 w7 w10 w11 : Option SV} : ∃ w10', turnF g_law (.name 4) b_law_1 (nn j) [w0, w1, some (.v (nn n)), w3, w4, w5, w6, w7, some (.v (rv (tQ n q p j))), some (.v (rv p)), w10, w11] S =
    .ok (.next [w0, w1, some (.v (nn n)), w3, some (.v (nn j)), w5, w6, w7, some (.v (rv (tQ n q p (j + 1)))), some (.v (rv p)), w10', w11]) S := by
  have hz := sz27 (n := n) (by omega)
  have b1 : Bd 13 p := hp.bd (by decide) (by decide)
  have b2 : Bd 13 (1 - p) := hp.compl.bd (by decide) (by decide)
  have e1 : ∀ q S, F__law_less_one [.v (rv q)] S = .ok (.v (rv (1 - q))) S := fun q S => F_less_one_eq q
  have e2 : ∀ S, F__law_power [.v (rv p), .v (.int (j : Int))] S = .ok (.v (rv (pwq p j))) S := fun S => F_lpower_eq b1 (n := j) (by omega) (by omega)
  have e3 : ∀ S, F__law_power [.v (rv (1 - p)), .v (.int ((n : Int) - (j : Int)))] S = .ok (.v (rv (pwq (1 - p) (n - j)))) S := fun S => by
    rw [show (n : Int) - (j : Int) = ((n - j : Nat) : Int) by omega]
    exact F_lpower_eq b2 (n := n - j) (by omega) (by omega)
  have c1 : Bd 2500 (pwq p j) := hz.bd hj (Ch.pwq hp j)
  have c2 : Bd 2500 (pwq (1 - p) (n - j)) := hz.bd (by omega) (Ch.pwq hp.compl (n - j))
  have e4 := fun S => F_ltimes_eq (S := S) c1 c2 (by decide)
  have c3 : Bd 2500 (pwq p j * pwq (1 - p) (n - j)) := hz.bd (Nat.le_refl n) (by
    have := (Ch.pwq hp j).mul (Ch.pwq hp.compl (n - j))
    rw [← Nat.pow_add, show j + (n - j) = n by omega] at this
    exact this)
  have hrv : PV.tup [.int ((bin n j : Nat) : Int), .int 1] = rv ((bin n j : Nat) : Rat) := by
    have := rv_int (x := ((bin n j : Nat) : Int))
    rw [this]
    congr 1
  have c4 : Bd 30 ((bin n j : Nat) : Rat) := by
    have hl := bin_le n j
    have h2 : (2 : Nat) ^ n ≤ 2 ^ 20 := Nat.pow_le_pow_right (by decide) hn
    have h3 : (2 : Nat) ^ 20 < 2 ^ 30 := by decide
    exact ⟨by show (((bin n j : Nat) : Rat)).num.natAbs < _; rw [Rat.num_natCast]; omega, by rw [Rat.den_natCast]; decide⟩
  have e5 := fun S => F_ltimes_eq (S := S) c4 c3 (by decide)
  have e6 : ∀ S, F__law_choose [.v (.int (n : Int)), .v (.int (j : Int))] S = .ok (.v (nn (bin n j))) S := fun S => F_lchoose_eq (m := n) (f := j) (by omega) (by omega)
  have c5 : Bd 2500 (tQ n q p j) := hz.bd (Nat.le_refl n) (tQ_ch hp j)
  have e7 : ∀ S, F__law_plus [.v (rv (tQ n q p j)), .v (rv ((bin n j : Rat) * (pwq p j * pwq (1 - p) (n - j))))] S = .ok (.v (rv (tQ n q p (j + 1)))) S := fun S => by
    rw [tQ_step hq]
    exact F_lplus_eq c5 (c4.mul c3) (by decide)
  refine ⟨some (.v (rv (pwq p j * pwq (1 - p) (n - j)))), ?_⟩
  obtain ⟨T0, h0⟩ : ∃ T, T = tQ n q p j := ⟨_, rfl⟩
  obtain ⟨T1, h1⟩ : ∃ T, T = tQ n q p (j + 1) := ⟨_, rfl⟩
  obtain ⟨Tm, hm⟩ : ∃ T, T = pwq p j * pwq (1 - p) (n - j) := ⟨_, rfl⟩
  obtain ⟨C, hC⟩ : ∃ C, C = bin n j := ⟨_, rfl⟩
  simp only [← h0, ← h1, ← hm, ← hC] at e4 e5 e6 e7 hrv ⊢
  ((simp -implicitDefEqProofs -dsimp (disch := (first | with_reducible assumption | exact Mem.out (by assumption) | (((try simp only [List.length_map, List.length_range, List.length_append, List.length_cons, List.length_nil, List.length_tail, List.length_zip, List.length_reverse, List.length_take, List.length_drop, List.length_set, List.length_replicate, List.length_zipIdx, line]) <;> first | omega | (first | exact Mem.out (by assumption) | (with_reducible show (_ : Nat) < _; solve_by_elim (maxDepth := 4) [Mem.out]) | (with_reducible show (_ : Nat) ≤ _; solve_by_elim (maxDepth := 4) [Mem.out]) | (with_reducible show _ ∈ _; solve_by_elim (maxDepth := 4) [Mem.out]) | fail) | (refine Nat.le_trans (List.length_filter_le _ _) ?_; (try simp only [List.length_map, List.length_range, List.length_append, List.length_cons, List.length_nil]) <;> first | omega | (first | exact Mem.out (by assumption) | (with_reducible show (_ : Nat) < _; solve_by_elim (maxDepth := 4) [Mem.out]) | (with_reducible show (_ : Nat) ≤ _; solve_by_elim (maxDepth := 4) [Mem.out]) | (with_reducible show _ ∈ _; solve_by_elim (maxDepth := 4) [Mem.out]) | fail) | fail) | fail)) | fail)) [↓v_var, ↓v_k, ↓v_glob, ↓v_tup, ↓v_list, ↓v_bin, ↓v_neg, ↓t_nt, ↓v_nt, ↓v_and, ↓t_and, ↓v_or, ↓t_or, ↓v_and1, ↓t_and1, ↓v_or1, ↓t_or1, ↓v_and2, ↓t_and2, ↓v_or2, ↓t_or2, ↓t_cmp, ↓v_cmp, ↓t_chain, ↓v_chain, ↓v_ite, ↓t_ite, ↓v_call, ↓v_fnv, ↓v_callv, ↓v_index, ↓v_indexG, ↓v_bi, ↓v_isi, ↓v_idx, ↓v_slc, ↓v_comp, ↓v_comp2, ↓v_dic0, ↓v_get, ↓v_rev, ↓v_dcomp, ↓cTurnD_eq, pairO_v, ↓v_dicd, dispK_eq, pu_nil, pu_cons, keyOk_int, keyOk_str, mkD_ok, ↓compDT_map, compGD_all, ↓qs_pop, ↓qs_augsub, ↓qs_parG, fnM_eq, endM_ret, endM_ite, leaveM_v, nw_leaveM, nw_rev, rev_l, nw_old, asub_eq, nw_put, w2a_lst, w2b_lst, w2a_isl, w2b_isl, w2a_set, w2b_set, w2a_tup, w2b_tup, w2a_len, w2b_len, w2a_idx, w2b_idx, optC_some, optC_none, ↓t_var, ↓t_k, ↓t_call, ↓t_callv, ↓t_idx, ↓t_isi, ↓t_bin, ↓t_bi, ↓l_nil, ↓l_cons, ↓qi_seq, ↓qi_rng1, ↓qi_rng2, ↓i_rng3, ↓qi_zip, ↓qi_enum, ↓okK_v, ↓cTurn_eq, ↓cTurn2_eq, -seqOp, sq_tup, sq_lst, -zipOp, zp_tup, zp_lst, -enumOp, en_lst, -idxOp, idx_tup, idx_lst, idx_l, at_map, at_map0, at_map1, at_mapl, at_0, at_1, at_2, -cmpOp, -isNonS, cm_is, cm_isnot, cm_isb, ns_non, ns_bl, ns_int, ns_tup, ns_lst, ns_l, cm_eqv, cm_nev, cm_eqlv, cm_nelv, cm_lt, cm_le, cm_gt, cm_ge, cm_in_t, cm_in_l, cm_nin_t, cm_nin_l, cm_in_p, cm_nin_p, -binOp, bo_ii, bo_ib, bo_tt, bo_ll, bo_pl, bo_tm, bo_lm, -negOp, ng_i, -isTys, it_of, oo_some, -biOp, qbi_len, qbi_int, qbi_abs, qbi_sum, qbi_tuple, qbi_list, qbi_sorted, bi_sset, bi_skey, bi_lset, qbi_min1, qbi_max1, qbi_min2, qbi_max2, bi_lr1, bi_tr1, -bLen, ln_t, ln_l, ln_p, -bInt, in_i, in_b, -bAbs, ab_i, -bSum, sm_t, sm_l, -bTuple, tp_t, tp_l, tp_p, -bList, ls_t, ls_l, ls_p, lr_n, -slcOp, sl_t, sl_l, -part?, pt_n, pt_i, -intOnly, io_i, -augOp, au_add, au_sub, -putOp, -isNonC, nnc_non, nnc_int, nnc_var, nnc_bin, nnc_bi, nnc_neg, nnc_idx, -leave, leave_l, take_app, take_self, nw_lst, nw_isl, nw_set, nw_tup, nw_len, nw_idx, nw_leave, nw_add, nw_eq, nw_ne, cut_ton, cut_fromn, -getS, gs_some, gs_none, gs_succ, -bindG, -bindGs, -wipeS, -pures?, -setAll, bg_name, bg_tup, bg_lst, bgs_nil, bgs_cons, wp_nil, wp_cons, pr_nil, pr_cons, sa_nil, sa_cons, ↓seqK_next, ↓seqK_ret, ↓seqK_brk, ↓seqK_cnt, ↓b_nil, ↓b_cons, ↓qs_set, ↓qs_unpack, ↓qs_par, ↓qs_sub, ↓s_aug, ↓qs_app, appIf_ok, ↓qs_expr, ↓s_ifs, ↓qs_ret, ↓qs_retN, ↓qs_brk, ↓qs_cnt, ↓turnF_eq, ↓s_forr, ↓s_whil, ↓qs_freeze, ↓frzO_some, ↓frzO_none, ↓frz_l, ↓frz_v, ↓bd_ok, ↓bd_exc, ↓bd_bad, ↓compLT_nil, ↓compLLT_nil, ↓optB_none, ↓optB_some, ↓truK_eq, ↓blK_eq, ↓tupK_eq, ↓lstK_eq, ↓callG_eq, ↓partO_eq, ↓svP_v, ↓svL_l, ↓endK_ret, ↓endK_next, ↓endK_ite, ↓fn_eq, startB_eq, -fnSem, leave_v, ↓compLT_map, ↓compLLT_map, compG_all, compG_none, compG_some, compG_two, compG_3, ite_int, compGG_all, ↓bd_ite, ite_both, -ite_not, -Classical.ite_not, -List.map_set, ite_okb, -intOp, op_shl, op_shln, op_shr, op_bit, op_and, op_or, op_xor, op_add, op_sub, -mkL, mkL_f, mkL_t, -mkT, mkT_ok, zip_map, enum_map, rng1_n, rng1_i, rng2_n, -rng1Op, -rng2Op, ints_mapf, sumI_map, -ix?, ix_n, ix_n1, ix_i0, ix_i1, ix_i2, eqP_nilL, noFns_map, bit_1, bit_0, -getElem?_pos, -getElem?_neg, get_ith, ith_zero, ith_succ, ith_map, nn, bitV, eqP_tups, eqP_lsts, eqP_enc, anyEq_enc, anyEq_int, anyEq_sets, List.isEmpty_iff, List.filter_eq_nil_iff, cast_inj, setV, pathsV, sysV, stV, b_law_1, e1, e2, e3, e4, hrv, e5, e6, e7]))
theorem p_loop (hp : Ch 2520 p) (hn : n ≤ 20) {w0 w1 w3 w5 w6 w7 w11 : Option SV} : ∀ (m j : Nat) (w4 w10 : Option SV), q ≤ j → j + m = n + 1 → ∃ w4' w10', forL (turnF g_law (.name 4) b_law_1) [] ((List.range' j m).map nn) [w0, w1, some (.v (nn n)), w3, w4, w5, w6, w7, some (.v (rv (tQ n q p j))), some (.v (rv p)), w10, w11] S =
    .ok (.next [w0, w1, some (.v (nn n)), w3, w4', w5, w6, w7, some (.v (rv (tQ n q p (n + 1)))), some (.v (rv p)), w10', w11]) S
  | 0, j, w4, w10, hq, h => ⟨w4, w10, by rw [show n + 1 = j by omega]; rfl⟩
  | m + 1, j, w4, w10, hq, h => by
    obtain ⟨y, e0⟩ := p_turn (S := S) hp hn hq (show j ≤ n by omega) (w0 := w0) (w1 := w1) (w3 := w3) (w4 := w4) (w5 := w5) (w6 := w6) (w7 := w7) (w10 := w10) (w11 := w11)
    obtain ⟨a, b, e⟩ := p_loop hp hn (w0 := w0) (w1 := w1) (w3 := w3) (w5 := w5) (w6 := w6) (w7 := w7) (w11 := w11) m (j + 1) (some (.v (nn j))) y (by omega) (by omega)
    refine ⟨a, b, ?_⟩
    rw [List.range'_succ, List.map_cons, forL_cons e0]
    exact e
end
theorem main (ns : List Int) (h : ns.length ≤ 63) : ∃ S', F_law [.v (.lst (ns.map PV.int))] [] = .ok (.v (.bl true)) S' := by
  have hrow : Row [rowV ns 0 4073 0] 0 := ⟨ns, 0, 4073, 0, rfl, by decide, by decide, by decide⟩
  obtain ⟨a, S1, e1, ha, d1⟩ := taken_d (m := 8) (Dr.refl hrow) (by decide) (by decide)
  obtain ⟨n, hn⟩ : ∃ n, n = a + 1 := ⟨_, rfl⟩
  have hnI : (1 : Int) + (a : Int) = (n : Int) := by omega
  have h8 : n ≤ 8 := by omega
  have hn1 : 1 ≤ n := by omega
  obtain ⟨ws, S2, e2, hwl, hw20, d2⟩ := compL_gen (J := Dr 0 [rowV ns 0 4073 0]) (x := nn) (y := nn) (Q := fun w => w ≤ 20) (l := List.range n) (S := S1) (f := cTurn (bindG (.name 11)) (ev g_law (.k (.bl true))).t (ev g_law (.call 2 (.cons (.var 1) (.cons (.k (.int 21)) .nil)))).v (wipeS [some (.v (.lst (ns.map PV.int))), some (.l 0), some (.v (nn n)), none, none, none, none, none, none, none, none, none] [11])) d1 fun k hk S hS => by
    obtain ⟨j, S', e, hj, hd⟩ := taken_d (m := 21) hS (by decide) (by decide)
    exact ⟨j, S', by ((simp -implicitDefEqProofs -dsimp (disch := (first | with_reducible assumption | exact Mem.out (by assumption) | (((try simp only [List.length_map, List.length_range, List.length_append, List.length_cons, List.length_nil, List.length_tail, List.length_zip, List.length_reverse, List.length_take, List.length_drop, List.length_set, List.length_replicate, List.length_zipIdx, line]) <;> first | omega | (first | exact Mem.out (by assumption) | (with_reducible show (_ : Nat) < _; solve_by_elim (maxDepth := 4) [Mem.out]) | (with_reducible show (_ : Nat) ≤ _; solve_by_elim (maxDepth := 4) [Mem.out]) | (with_reducible show _ ∈ _; solve_by_elim (maxDepth := 4) [Mem.out]) | fail) | (refine Nat.le_trans (List.length_filter_le _ _) ?_; (try simp only [List.length_map, List.length_range, List.length_append, List.length_cons, List.length_nil]) <;> first | omega | (first | exact Mem.out (by assumption) | (with_reducible show (_ : Nat) < _; solve_by_elim (maxDepth := 4) [Mem.out]) | (with_reducible show (_ : Nat) ≤ _; solve_by_elim (maxDepth := 4) [Mem.out]) | (with_reducible show _ ∈ _; solve_by_elim (maxDepth := 4) [Mem.out]) | fail) | fail) | fail)) | fail)) [↓v_var, ↓v_k, ↓v_glob, ↓v_tup, ↓v_list, ↓v_bin, ↓v_neg, ↓t_nt, ↓v_nt, ↓v_and, ↓t_and, ↓v_or, ↓t_or, ↓v_and1, ↓t_and1, ↓v_or1, ↓t_or1, ↓v_and2, ↓t_and2, ↓v_or2, ↓t_or2, ↓t_cmp, ↓v_cmp, ↓t_chain, ↓v_chain, ↓v_ite, ↓t_ite, ↓v_call, ↓v_fnv, ↓v_callv, ↓v_index, ↓v_indexG, ↓v_bi, ↓v_isi, ↓v_idx, ↓v_slc, ↓v_comp, ↓v_comp2, ↓v_dic0, ↓v_get, ↓v_rev, ↓v_dcomp, ↓cTurnD_eq, pairO_v, ↓v_dicd, dispK_eq, pu_nil, pu_cons, keyOk_int, keyOk_str, mkD_ok, ↓compDT_map, compGD_all, ↓qs_pop, ↓qs_augsub, ↓qs_parG, fnM_eq, endM_ret, endM_ite, leaveM_v, nw_leaveM, nw_rev, rev_l, nw_old, asub_eq, nw_put, w2a_lst, w2b_lst, w2a_isl, w2b_isl, w2a_set, w2b_set, w2a_tup, w2b_tup, w2a_len, w2b_len, w2a_idx, w2b_idx, optC_some, optC_none, ↓t_var, ↓t_k, ↓t_call, ↓t_callv, ↓t_idx, ↓t_isi, ↓t_bin, ↓t_bi, ↓l_nil, ↓l_cons, ↓qi_seq, ↓qi_rng1, ↓qi_rng2, ↓i_rng3, ↓qi_zip, ↓qi_enum, ↓okK_v, ↓cTurn_eq, ↓cTurn2_eq, -seqOp, sq_tup, sq_lst, -zipOp, zp_tup, zp_lst, -enumOp, en_lst, -idxOp, idx_tup, idx_lst, idx_l, at_map, at_map0, at_map1, at_mapl, at_0, at_1, at_2, -cmpOp, -isNonS, cm_is, cm_isnot, cm_isb, ns_non, ns_bl, ns_int, ns_tup, ns_lst, ns_l, cm_eqv, cm_nev, cm_eqlv, cm_nelv, cm_lt, cm_le, cm_gt, cm_ge, cm_in_t, cm_in_l, cm_nin_t, cm_nin_l, cm_in_p, cm_nin_p, -binOp, bo_ii, bo_ib, bo_tt, bo_ll, bo_pl, bo_tm, bo_lm, -negOp, ng_i, -isTys, it_of, oo_some, -biOp, qbi_len, qbi_int, qbi_abs, qbi_sum, qbi_tuple, qbi_list, qbi_sorted, bi_sset, bi_skey, bi_lset, qbi_min1, qbi_max1, qbi_min2, qbi_max2, bi_lr1, bi_tr1, -bLen, ln_t, ln_l, ln_p, -bInt, in_i, in_b, -bAbs, ab_i, -bSum, sm_t, sm_l, -bTuple, tp_t, tp_l, tp_p, -bList, ls_t, ls_l, ls_p, lr_n, -slcOp, sl_t, sl_l, -part?, pt_n, pt_i, -intOnly, io_i, -augOp, au_add, au_sub, -putOp, -isNonC, nnc_non, nnc_int, nnc_var, nnc_bin, nnc_bi, nnc_neg, nnc_idx, -leave, leave_l, take_app, take_self, nw_lst, nw_isl, nw_set, nw_tup, nw_len, nw_idx, nw_leave, nw_add, nw_eq, nw_ne, cut_ton, cut_fromn, -getS, gs_some, gs_none, gs_succ, -bindG, -bindGs, -wipeS, -pures?, -setAll, bg_name, bg_tup, bg_lst, bgs_nil, bgs_cons, wp_nil, wp_cons, pr_nil, pr_cons, sa_nil, sa_cons, ↓seqK_next, ↓seqK_ret, ↓seqK_brk, ↓seqK_cnt, ↓b_nil, ↓b_cons, ↓qs_set, ↓qs_unpack, ↓qs_par, ↓qs_sub, ↓s_aug, ↓qs_app, appIf_ok, ↓qs_expr, ↓s_ifs, ↓qs_ret, ↓qs_retN, ↓qs_brk, ↓qs_cnt, ↓turnF_eq, ↓s_forr, ↓s_whil, ↓qs_freeze, ↓frzO_some, ↓frzO_none, ↓frz_l, ↓frz_v, ↓bd_ok, ↓bd_exc, ↓bd_bad, ↓compLT_nil, ↓compLLT_nil, ↓optB_none, ↓optB_some, ↓truK_eq, ↓blK_eq, ↓tupK_eq, ↓lstK_eq, ↓callG_eq, ↓partO_eq, ↓svP_v, ↓svL_l, ↓endK_ret, ↓endK_next, ↓endK_ite, ↓fn_eq, startB_eq, -fnSem, leave_v, ↓compLT_map, ↓compLLT_map, compG_all, compG_none, compG_some, compG_two, compG_3, ite_int, compGG_all, ↓bd_ite, ite_both, -ite_not, -Classical.ite_not, -List.map_set, ite_okb, -intOp, op_shl, op_shln, op_shr, op_bit, op_and, op_or, op_xor, op_add, op_sub, -mkL, mkL_f, mkL_t, -mkT, mkT_ok, zip_map, enum_map, rng1_n, rng1_i, rng2_n, -rng1Op, -rng2Op, ints_mapf, sumI_map, -ix?, ix_n, ix_n1, ix_i0, ix_i1, ix_i2, eqP_nilL, noFns_map, bit_1, bit_0, -getElem?_pos, -getElem?_neg, get_ith, ith_zero, ith_succ, ith_map, nn, bitV, eqP_tups, eqP_lsts, eqP_enc, anyEq_enc, anyEq_int, anyEq_sets, List.isEmpty_iff, List.filter_eq_nil_iff, cast_inj, setV, pathsV, sysV, stV, e])), by omega, hd⟩
  rw [List.length_range] at hwl
  have ev1 : (ev g_law c_law_0).v [some (.v (.lst (ns.map PV.int))), some (.l 0), some (.v (nn n)), none, none, none, none, none, none, none, none, none] S1 = mkL false (ws.map nn) S2 := comp_v (by ((simp -implicitDefEqProofs -dsimp (disch := (first | with_reducible assumption | exact Mem.out (by assumption) | (((try simp only [List.length_map, List.length_range, List.length_append, List.length_cons, List.length_nil, List.length_tail, List.length_zip, List.length_reverse, List.length_take, List.length_drop, List.length_set, List.length_replicate, List.length_zipIdx, line]) <;> first | omega | (first | exact Mem.out (by assumption) | (with_reducible show (_ : Nat) < _; solve_by_elim (maxDepth := 4) [Mem.out]) | (with_reducible show (_ : Nat) ≤ _; solve_by_elim (maxDepth := 4) [Mem.out]) | (with_reducible show _ ∈ _; solve_by_elim (maxDepth := 4) [Mem.out]) | fail) | (refine Nat.le_trans (List.length_filter_le _ _) ?_; (try simp only [List.length_map, List.length_range, List.length_append, List.length_cons, List.length_nil]) <;> first | omega | (first | exact Mem.out (by assumption) | (with_reducible show (_ : Nat) < _; solve_by_elim (maxDepth := 4) [Mem.out]) | (with_reducible show (_ : Nat) ≤ _; solve_by_elim (maxDepth := 4) [Mem.out]) | (with_reducible show _ ∈ _; solve_by_elim (maxDepth := 4) [Mem.out]) | fail) | fail) | fail)) | fail)) [↓v_var, ↓v_k, ↓v_glob, ↓v_tup, ↓v_list, ↓v_bin, ↓v_neg, ↓t_nt, ↓v_nt, ↓v_and, ↓t_and, ↓v_or, ↓t_or, ↓v_and1, ↓t_and1, ↓v_or1, ↓t_or1, ↓v_and2, ↓t_and2, ↓v_or2, ↓t_or2, ↓t_cmp, ↓v_cmp, ↓t_chain, ↓v_chain, ↓v_ite, ↓t_ite, ↓v_call, ↓v_fnv, ↓v_callv, ↓v_index, ↓v_indexG, ↓v_bi, ↓v_isi, ↓v_idx, ↓v_slc, ↓v_comp, ↓v_comp2, ↓v_dic0, ↓v_get, ↓v_rev, ↓v_dcomp, ↓cTurnD_eq, pairO_v, ↓v_dicd, dispK_eq, pu_nil, pu_cons, keyOk_int, keyOk_str, mkD_ok, ↓compDT_map, compGD_all, ↓qs_pop, ↓qs_augsub, ↓qs_parG, fnM_eq, endM_ret, endM_ite, leaveM_v, nw_leaveM, nw_rev, rev_l, nw_old, asub_eq, nw_put, w2a_lst, w2b_lst, w2a_isl, w2b_isl, w2a_set, w2b_set, w2a_tup, w2b_tup, w2a_len, w2b_len, w2a_idx, w2b_idx, optC_some, optC_none, ↓t_var, ↓t_k, ↓t_call, ↓t_callv, ↓t_idx, ↓t_isi, ↓t_bin, ↓t_bi, ↓l_nil, ↓l_cons, ↓qi_seq, ↓qi_rng1, ↓qi_rng2, ↓i_rng3, ↓qi_zip, ↓qi_enum, ↓okK_v, ↓cTurn_eq, ↓cTurn2_eq, -seqOp, sq_tup, sq_lst, -zipOp, zp_tup, zp_lst, -enumOp, en_lst, -idxOp, idx_tup, idx_lst, idx_l, at_map, at_map0, at_map1, at_mapl, at_0, at_1, at_2, -cmpOp, -isNonS, cm_is, cm_isnot, cm_isb, ns_non, ns_bl, ns_int, ns_tup, ns_lst, ns_l, cm_eqv, cm_nev, cm_eqlv, cm_nelv, cm_lt, cm_le, cm_gt, cm_ge, cm_in_t, cm_in_l, cm_nin_t, cm_nin_l, cm_in_p, cm_nin_p, -binOp, bo_ii, bo_ib, bo_tt, bo_ll, bo_pl, bo_tm, bo_lm, -negOp, ng_i, -isTys, it_of, oo_some, -biOp, qbi_len, qbi_int, qbi_abs, qbi_sum, qbi_tuple, qbi_list, qbi_sorted, bi_sset, bi_skey, bi_lset, qbi_min1, qbi_max1, qbi_min2, qbi_max2, bi_lr1, bi_tr1, -bLen, ln_t, ln_l, ln_p, -bInt, in_i, in_b, -bAbs, ab_i, -bSum, sm_t, sm_l, -bTuple, tp_t, tp_l, tp_p, -bList, ls_t, ls_l, ls_p, lr_n, -slcOp, sl_t, sl_l, -part?, pt_n, pt_i, -intOnly, io_i, -augOp, au_add, au_sub, -putOp, -isNonC, nnc_non, nnc_int, nnc_var, nnc_bin, nnc_bi, nnc_neg, nnc_idx, -leave, leave_l, take_app, take_self, nw_lst, nw_isl, nw_set, nw_tup, nw_len, nw_idx, nw_leave, nw_add, nw_eq, nw_ne, cut_ton, cut_fromn, -getS, gs_some, gs_none, gs_succ, -bindG, -bindGs, -wipeS, -pures?, -setAll, bg_name, bg_tup, bg_lst, bgs_nil, bgs_cons, wp_nil, wp_cons, pr_nil, pr_cons, sa_nil, sa_cons, ↓seqK_next, ↓seqK_ret, ↓seqK_brk, ↓seqK_cnt, ↓b_nil, ↓b_cons, ↓qs_set, ↓qs_unpack, ↓qs_par, ↓qs_sub, ↓s_aug, ↓qs_app, appIf_ok, ↓qs_expr, ↓s_ifs, ↓qs_ret, ↓qs_retN, ↓qs_brk, ↓qs_cnt, ↓turnF_eq, ↓s_forr, ↓s_whil, ↓qs_freeze, ↓frzO_some, ↓frzO_none, ↓frz_l, ↓frz_v, ↓bd_ok, ↓bd_exc, ↓bd_bad, ↓compLT_nil, ↓compLLT_nil, ↓optB_none, ↓optB_some, ↓truK_eq, ↓blK_eq, ↓tupK_eq, ↓lstK_eq, ↓callG_eq, ↓partO_eq, ↓svP_v, ↓svL_l, ↓endK_ret, ↓endK_next, ↓endK_ite, ↓fn_eq, startB_eq, -fnSem, leave_v, ↓compLT_map, ↓compLLT_map, compG_all, compG_none, compG_some, compG_two, compG_3, ite_int, compGG_all, ↓bd_ite, ite_both, -ite_not, -Classical.ite_not, -List.map_set, ite_okb, -intOp, op_shl, op_shln, op_shr, op_bit, op_and, op_or, op_xor, op_add, op_sub, -mkL, mkL_f, mkL_t, -mkT, mkT_ok, zip_map, enum_map, rng1_n, rng1_i, rng2_n, -rng1Op, -rng2Op, ints_mapf, sumI_map, -ix?, ix_n, ix_n1, ix_i0, ix_i1, ix_i2, eqP_nilL, noFns_map, bit_1, bit_0, -getElem?_pos, -getElem?_neg, get_ith, ith_zero, ith_succ, ith_map, nn, bitV, eqP_tups, eqP_lsts, eqP_enc, anyEq_enc, anyEq_int, anyEq_sets, List.isEmpty_iff, List.filter_eq_nil_iff, cast_inj, setV, pathsV, sysV, stV]))) e2
  rw [mkL_f (by rw [List.length_map]; omega)] at ev1
  obtain ⟨cs, S3, e3, hl, hc, d3⟩ := chances_spec (n := n) d2 d2.len h8
  have hz := sz20 h8
  have hsum : ws.sum ≤ 160 := by
    have : ∀ l : List Nat, (∀ w ∈ l, w ≤ 20) → l.sum ≤ 20 * l.length := fun l => by
      induction l with
      | nil => intro _; simp
      | cons x l ih =>
        intro hx
        have := ih fun w hw => hx w (by simp [hw])
        have := hx x (by simp)
        rw [List.sum_cons, List.length_cons]
        omega
    have := this ws hw20
    omega
  have es : ∀ S, bSum (.v (.tup (ws.map nn))) S = .ok (.v (nn ws.sum)) S := fun S => by
    rw [sm_t]
    have := ints_mapf (f := fun a : Nat => (a : Int)) (l := ws)
    rw [this]
    show Out.ok (SV.v (.int (sumI (ws.map fun a => ((id a : Nat) : Int))))) S = _
    rw [sumI_map, List.map_id]
  obtain ⟨b, S4, e4, hb, d4⟩ := taken_d (m := (ws.sum : Int) + 3) d3 (by omega) (by omega)
  obtain ⟨q, hq⟩ : ∃ q : Int, q = (b : Int) - 1 := ⟨_, rfl⟩
  have e5 := fun S => F__law_states_eq (n := n) (S := S) h8
  have e6 := fun S => F_weight_chance_eq (S := S) (q := q) hz hl hwl hc hw20 hn1 (by omega)
  have hEq : prob cs (wkE (fsT ws) (geQ q)) = prob cs fun st => geQ q (tot ws st) := by
    rw [prob_Ex, prob_Ex]
    refine Ex_congr fun st hst => ?_
    unfold wkE
    rw [walk_tot st ws (by rw [hwl, lawStates_mem hst, hl])]
  rw [hEq] at e6
  have a1 := fun S => alike_rv (q := prob cs fun st => geQ q (tot ws st)) (S := S)
  obtain ⟨w3, e7⟩ := acc_states (S := S4) (p := fun st => geQ q (tot ws st)) (f := turnF g_law (.name 3) b_law_0) hz h8 hl hc (fun T w => [some (.v (.lst (ns.map PV.int))), some (.l 0), some (.v (nn n)), w, none, some (.v (wsV ws)), some (.v (csV cs)), some (.v (.int q)), some (.v (rv T)), none, none, none]) (fun st hst T w b1 b2 => by
    have hs := lawStates_mem hst
    have f1 := fun S => F__law_weight_eq (S := S) hz h8 hl hs hc
    have f2 := fun S => F_lplus_bd (S := S) b1 b2
    have f3 : ∀ w8, (ev g_law c_law_1).v [some (.v (.lst (ns.map PV.int))), some (.l 0), some (.v (nn n)), some (.v (stV st)), none, some (.v (wsV ws)), some (.v (csV cs)), some (.v (.int q)), w8, none, none, none] S4 = .ok (.v (.lst ((((List.range n).filter (ith st)).map (ith ws)).map nn))) S4 := fun w8 => by
      have := comp_f (x := nn) (c0 := c_law_1) (Γ := g_law) (S := S4) (ρ := [some (.v (.lst (ns.map PV.int))), some (.l 0), some (.v (nn n)), some (.v (stV st)), none, some (.v (wsV ws)), some (.v (csV cs)), some (.v (.int q)), w8, none, none, none]) rfl (List.range n) (ith st) (fun k => nn (ith ws k)) (by rw [List.length_range]; show n ≤ 16777216; omega) (by ((simp -implicitDefEqProofs -dsimp (disch := (first | with_reducible assumption | exact Mem.out (by assumption) | (((try simp only [List.length_map, List.length_range, List.length_append, List.length_cons, List.length_nil, List.length_tail, List.length_zip, List.length_reverse, List.length_take, List.length_drop, List.length_set, List.length_replicate, List.length_zipIdx, line]) <;> first | omega | (first | exact Mem.out (by assumption) | (with_reducible show (_ : Nat) < _; solve_by_elim (maxDepth := 4) [Mem.out]) | (with_reducible show (_ : Nat) ≤ _; solve_by_elim (maxDepth := 4) [Mem.out]) | (with_reducible show _ ∈ _; solve_by_elim (maxDepth := 4) [Mem.out]) | fail) | (refine Nat.le_trans (List.length_filter_le _ _) ?_; (try simp only [List.length_map, List.length_range, List.length_append, List.length_cons, List.length_nil]) <;> first | omega | (first | exact Mem.out (by assumption) | (with_reducible show (_ : Nat) < _; solve_by_elim (maxDepth := 4) [Mem.out]) | (with_reducible show (_ : Nat) ≤ _; solve_by_elim (maxDepth := 4) [Mem.out]) | (with_reducible show _ ∈ _; solve_by_elim (maxDepth := 4) [Mem.out]) | fail) | fail) | fail)) | fail)) [↓v_var, ↓v_k, ↓v_glob, ↓v_tup, ↓v_list, ↓v_bin, ↓v_neg, ↓t_nt, ↓v_nt, ↓v_and, ↓t_and, ↓v_or, ↓t_or, ↓v_and1, ↓t_and1, ↓v_or1, ↓t_or1, ↓v_and2, ↓t_and2, ↓v_or2, ↓t_or2, ↓t_cmp, ↓v_cmp, ↓t_chain, ↓v_chain, ↓v_ite, ↓t_ite, ↓v_call, ↓v_fnv, ↓v_callv, ↓v_index, ↓v_indexG, ↓v_bi, ↓v_isi, ↓v_idx, ↓v_slc, ↓v_comp, ↓v_comp2, ↓v_dic0, ↓v_get, ↓v_rev, ↓v_dcomp, ↓cTurnD_eq, pairO_v, ↓v_dicd, dispK_eq, pu_nil, pu_cons, keyOk_int, keyOk_str, mkD_ok, ↓compDT_map, compGD_all, ↓qs_pop, ↓qs_augsub, ↓qs_parG, fnM_eq, endM_ret, endM_ite, leaveM_v, nw_leaveM, nw_rev, rev_l, nw_old, asub_eq, nw_put, w2a_lst, w2b_lst, w2a_isl, w2b_isl, w2a_set, w2b_set, w2a_tup, w2b_tup, w2a_len, w2b_len, w2a_idx, w2b_idx, optC_some, optC_none, ↓t_var, ↓t_k, ↓t_call, ↓t_callv, ↓t_idx, ↓t_isi, ↓t_bin, ↓t_bi, ↓l_nil, ↓l_cons, ↓qi_seq, ↓qi_rng1, ↓qi_rng2, ↓i_rng3, ↓qi_zip, ↓qi_enum, ↓okK_v, ↓cTurn_eq, ↓cTurn2_eq, -seqOp, sq_tup, sq_lst, -zipOp, zp_tup, zp_lst, -enumOp, en_lst, -idxOp, idx_tup, idx_lst, idx_l, at_map, at_map0, at_map1, at_mapl, at_0, at_1, at_2, -cmpOp, -isNonS, cm_is, cm_isnot, cm_isb, ns_non, ns_bl, ns_int, ns_tup, ns_lst, ns_l, cm_eqv, cm_nev, cm_eqlv, cm_nelv, cm_lt, cm_le, cm_gt, cm_ge, cm_in_t, cm_in_l, cm_nin_t, cm_nin_l, cm_in_p, cm_nin_p, -binOp, bo_ii, bo_ib, bo_tt, bo_ll, bo_pl, bo_tm, bo_lm, -negOp, ng_i, -isTys, it_of, oo_some, -biOp, qbi_len, qbi_int, qbi_abs, qbi_sum, qbi_tuple, qbi_list, qbi_sorted, bi_sset, bi_skey, bi_lset, qbi_min1, qbi_max1, qbi_min2, qbi_max2, bi_lr1, bi_tr1, -bLen, ln_t, ln_l, ln_p, -bInt, in_i, in_b, -bAbs, ab_i, -bSum, sm_t, sm_l, -bTuple, tp_t, tp_l, tp_p, -bList, ls_t, ls_l, ls_p, lr_n, -slcOp, sl_t, sl_l, -part?, pt_n, pt_i, -intOnly, io_i, -augOp, au_add, au_sub, -putOp, -isNonC, nnc_non, nnc_int, nnc_var, nnc_bin, nnc_bi, nnc_neg, nnc_idx, -leave, leave_l, take_app, take_self, nw_lst, nw_isl, nw_set, nw_tup, nw_len, nw_idx, nw_leave, nw_add, nw_eq, nw_ne, cut_ton, cut_fromn, -getS, gs_some, gs_none, gs_succ, -bindG, -bindGs, -wipeS, -pures?, -setAll, bg_name, bg_tup, bg_lst, bgs_nil, bgs_cons, wp_nil, wp_cons, pr_nil, pr_cons, sa_nil, sa_cons, ↓seqK_next, ↓seqK_ret, ↓seqK_brk, ↓seqK_cnt, ↓b_nil, ↓b_cons, ↓qs_set, ↓qs_unpack, ↓qs_par, ↓qs_sub, ↓s_aug, ↓qs_app, appIf_ok, ↓qs_expr, ↓s_ifs, ↓qs_ret, ↓qs_retN, ↓qs_brk, ↓qs_cnt, ↓turnF_eq, ↓s_forr, ↓s_whil, ↓qs_freeze, ↓frzO_some, ↓frzO_none, ↓frz_l, ↓frz_v, ↓bd_ok, ↓bd_exc, ↓bd_bad, ↓compLT_nil, ↓compLLT_nil, ↓optB_none, ↓optB_some, ↓truK_eq, ↓blK_eq, ↓tupK_eq, ↓lstK_eq, ↓callG_eq, ↓partO_eq, ↓svP_v, ↓svL_l, ↓endK_ret, ↓endK_next, ↓endK_ite, ↓fn_eq, startB_eq, -fnSem, leave_v, ↓compLT_map, ↓compLLT_map, compG_all, compG_none, compG_some, compG_two, compG_3, ite_int, compGG_all, ↓bd_ite, ite_both, -ite_not, -Classical.ite_not, -List.map_set, ite_okb, -intOp, op_shl, op_shln, op_shr, op_bit, op_and, op_or, op_xor, op_add, op_sub, -mkL, mkL_f, mkL_t, -mkT, mkT_ok, zip_map, enum_map, rng1_n, rng1_i, rng2_n, -rng1Op, -rng2Op, ints_mapf, sumI_map, -ix?, ix_n, ix_n1, ix_i0, ix_i1, ix_i2, eqP_nilL, noFns_map, bit_1, bit_0, -getElem?_pos, -getElem?_neg, get_ith, ith_zero, ith_succ, ith_map, nn, bitV, eqP_tups, eqP_lsts, eqP_enc, anyEq_enc, anyEq_int, anyEq_sets, List.isEmpty_iff, List.filter_eq_nil_iff, cast_inj, setV, pathsV, sysV, stV]))) fun k hk => by
        have hk := List.mem_range.mp hk
        have g1 : atO (st.map bitV) (k : Int) = some (bitV (ith st k)) := at_map (by omega)
        have g2 : atO (ws.map nn) (k : Int) = some (nn (ith ws k)) := at_map (by omega)
        unfold wsV
        cases hb : ith st k <;> ((simp -implicitDefEqProofs -dsimp (disch := (first | with_reducible assumption | exact Mem.out (by assumption) | (((try simp only [List.length_map, List.length_range, List.length_append, List.length_cons, List.length_nil, List.length_tail, List.length_zip, List.length_reverse, List.length_take, List.length_drop, List.length_set, List.length_replicate, List.length_zipIdx, line]) <;> first | omega | (first | exact Mem.out (by assumption) | (with_reducible show (_ : Nat) < _; solve_by_elim (maxDepth := 4) [Mem.out]) | (with_reducible show (_ : Nat) ≤ _; solve_by_elim (maxDepth := 4) [Mem.out]) | (with_reducible show _ ∈ _; solve_by_elim (maxDepth := 4) [Mem.out]) | fail) | (refine Nat.le_trans (List.length_filter_le _ _) ?_; (try simp only [List.length_map, List.length_range, List.length_append, List.length_cons, List.length_nil]) <;> first | omega | (first | exact Mem.out (by assumption) | (with_reducible show (_ : Nat) < _; solve_by_elim (maxDepth := 4) [Mem.out]) | (with_reducible show (_ : Nat) ≤ _; solve_by_elim (maxDepth := 4) [Mem.out]) | (with_reducible show _ ∈ _; solve_by_elim (maxDepth := 4) [Mem.out]) | fail) | fail) | fail)) | fail)) [↓v_var, ↓v_k, ↓v_glob, ↓v_tup, ↓v_list, ↓v_bin, ↓v_neg, ↓t_nt, ↓v_nt, ↓v_and, ↓t_and, ↓v_or, ↓t_or, ↓v_and1, ↓t_and1, ↓v_or1, ↓t_or1, ↓v_and2, ↓t_and2, ↓v_or2, ↓t_or2, ↓t_cmp, ↓v_cmp, ↓t_chain, ↓v_chain, ↓v_ite, ↓t_ite, ↓v_call, ↓v_fnv, ↓v_callv, ↓v_index, ↓v_indexG, ↓v_bi, ↓v_isi, ↓v_idx, ↓v_slc, ↓v_comp, ↓v_comp2, ↓v_dic0, ↓v_get, ↓v_rev, ↓v_dcomp, ↓cTurnD_eq, pairO_v, ↓v_dicd, dispK_eq, pu_nil, pu_cons, keyOk_int, keyOk_str, mkD_ok, ↓compDT_map, compGD_all, ↓qs_pop, ↓qs_augsub, ↓qs_parG, fnM_eq, endM_ret, endM_ite, leaveM_v, nw_leaveM, nw_rev, rev_l, nw_old, asub_eq, nw_put, w2a_lst, w2b_lst, w2a_isl, w2b_isl, w2a_set, w2b_set, w2a_tup, w2b_tup, w2a_len, w2b_len, w2a_idx, w2b_idx, optC_some, optC_none, ↓t_var, ↓t_k, ↓t_call, ↓t_callv, ↓t_idx, ↓t_isi, ↓t_bin, ↓t_bi, ↓l_nil, ↓l_cons, ↓qi_seq, ↓qi_rng1, ↓qi_rng2, ↓i_rng3, ↓qi_zip, ↓qi_enum, ↓okK_v, ↓cTurn_eq, ↓cTurn2_eq, -seqOp, sq_tup, sq_lst, -zipOp, zp_tup, zp_lst, -enumOp, en_lst, -idxOp, idx_tup, idx_lst, idx_l, at_map, at_map0, at_map1, at_mapl, at_0, at_1, at_2, -cmpOp, -isNonS, cm_is, cm_isnot, cm_isb, ns_non, ns_bl, ns_int, ns_tup, ns_lst, ns_l, cm_eqv, cm_nev, cm_eqlv, cm_nelv, cm_lt, cm_le, cm_gt, cm_ge, cm_in_t, cm_in_l, cm_nin_t, cm_nin_l, cm_in_p, cm_nin_p, -binOp, bo_ii, bo_ib, bo_tt, bo_ll, bo_pl, bo_tm, bo_lm, -negOp, ng_i, -isTys, it_of, oo_some, -biOp, qbi_len, qbi_int, qbi_abs, qbi_sum, qbi_tuple, qbi_list, qbi_sorted, bi_sset, bi_skey, bi_lset, qbi_min1, qbi_max1, qbi_min2, qbi_max2, bi_lr1, bi_tr1, -bLen, ln_t, ln_l, ln_p, -bInt, in_i, in_b, -bAbs, ab_i, -bSum, sm_t, sm_l, -bTuple, tp_t, tp_l, tp_p, -bList, ls_t, ls_l, ls_p, lr_n, -slcOp, sl_t, sl_l, -part?, pt_n, pt_i, -intOnly, io_i, -augOp, au_add, au_sub, -putOp, -isNonC, nnc_non, nnc_int, nnc_var, nnc_bin, nnc_bi, nnc_neg, nnc_idx, -leave, leave_l, take_app, take_self, nw_lst, nw_isl, nw_set, nw_tup, nw_len, nw_idx, nw_leave, nw_add, nw_eq, nw_ne, cut_ton, cut_fromn, -getS, gs_some, gs_none, gs_succ, -bindG, -bindGs, -wipeS, -pures?, -setAll, bg_name, bg_tup, bg_lst, bgs_nil, bgs_cons, wp_nil, wp_cons, pr_nil, pr_cons, sa_nil, sa_cons, ↓seqK_next, ↓seqK_ret, ↓seqK_brk, ↓seqK_cnt, ↓b_nil, ↓b_cons, ↓qs_set, ↓qs_unpack, ↓qs_par, ↓qs_sub, ↓s_aug, ↓qs_app, appIf_ok, ↓qs_expr, ↓s_ifs, ↓qs_ret, ↓qs_retN, ↓qs_brk, ↓qs_cnt, ↓turnF_eq, ↓s_forr, ↓s_whil, ↓qs_freeze, ↓frzO_some, ↓frzO_none, ↓frz_l, ↓frz_v, ↓bd_ok, ↓bd_exc, ↓bd_bad, ↓compLT_nil, ↓compLLT_nil, ↓optB_none, ↓optB_some, ↓truK_eq, ↓blK_eq, ↓tupK_eq, ↓lstK_eq, ↓callG_eq, ↓partO_eq, ↓svP_v, ↓svL_l, ↓endK_ret, ↓endK_next, ↓endK_ite, ↓fn_eq, startB_eq, -fnSem, leave_v, ↓compLT_map, ↓compLLT_map, compG_all, compG_none, compG_some, compG_two, compG_3, ite_int, compGG_all, ↓bd_ite, ite_both, -ite_not, -Classical.ite_not, -List.map_set, ite_okb, -intOp, op_shl, op_shln, op_shr, op_bit, op_and, op_or, op_xor, op_add, op_sub, -mkL, mkL_f, mkL_t, -mkT, mkT_ok, zip_map, enum_map, rng1_n, rng1_i, rng2_n, -rng1Op, -rng2Op, ints_mapf, sumI_map, -ix?, ix_n, ix_n1, ix_i0, ix_i1, ix_i2, eqP_nilL, noFns_map, bit_1, bit_0, -getElem?_pos, -getElem?_neg, get_ith, ith_zero, ith_succ, ith_map, nn, bitV, eqP_tups, eqP_lsts, eqP_enc, anyEq_enc, anyEq_int, anyEq_sets, List.isEmpty_iff, List.filter_eq_nil_iff, cast_inj, setV, pathsV, sysV, stV, g1, g2, hb]))
      rw [this, List.map_map]
      rfl
    have f4 : ∀ S, bSum (.v (.lst ((((List.range n).filter (ith st)).map (ith ws)).map nn))) S = .ok (.v (nn (tot ws st))) S := fun S => by
      rw [bsum_n]
      unfold tot
      rw [hs]
    obtain ⟨L, hL⟩ : ∃ L, L = (((List.range n).filter (ith st)).map (ith ws)).map nn := ⟨_, rfl⟩
    simp only [← hL] at f3 f4
    clear hL b1 b2
    obtain ⟨X, hX⟩ : ∃ X, X = tot ws st := ⟨_, rfl⟩
    simp only [← hX] at f4 ⊢
    unfold geQ
    by_cases hok : q ≤ (X : Int)
    · rw [decide_eq_true hok, if_pos rfl]
      ((simp -implicitDefEqProofs -dsimp (disch := (first | with_reducible assumption | exact Mem.out (by assumption) | (((try simp only [List.length_map, List.length_range, List.length_append, List.length_cons, List.length_nil, List.length_tail, List.length_zip, List.length_reverse, List.length_take, List.length_drop, List.length_set, List.length_replicate, List.length_zipIdx, line]) <;> first | omega | (first | exact Mem.out (by assumption) | (with_reducible show (_ : Nat) < _; solve_by_elim (maxDepth := 4) [Mem.out]) | (with_reducible show (_ : Nat) ≤ _; solve_by_elim (maxDepth := 4) [Mem.out]) | (with_reducible show _ ∈ _; solve_by_elim (maxDepth := 4) [Mem.out]) | fail) | (refine Nat.le_trans (List.length_filter_le _ _) ?_; (try simp only [List.length_map, List.length_range, List.length_append, List.length_cons, List.length_nil]) <;> first | omega | (first | exact Mem.out (by assumption) | (with_reducible show (_ : Nat) < _; solve_by_elim (maxDepth := 4) [Mem.out]) | (with_reducible show (_ : Nat) ≤ _; solve_by_elim (maxDepth := 4) [Mem.out]) | (with_reducible show _ ∈ _; solve_by_elim (maxDepth := 4) [Mem.out]) | fail) | fail) | fail)) | fail)) [↓v_var, ↓v_k, ↓v_glob, ↓v_tup, ↓v_list, ↓v_bin, ↓v_neg, ↓t_nt, ↓v_nt, ↓v_and, ↓t_and, ↓v_or, ↓t_or, ↓v_and1, ↓t_and1, ↓v_or1, ↓t_or1, ↓v_and2, ↓t_and2, ↓v_or2, ↓t_or2, ↓t_cmp, ↓v_cmp, ↓t_chain, ↓v_chain, ↓v_ite, ↓t_ite, ↓v_call, ↓v_fnv, ↓v_callv, ↓v_index, ↓v_indexG, ↓v_bi, ↓v_isi, ↓v_idx, ↓v_slc, ↓v_comp, ↓v_comp2, ↓v_dic0, ↓v_get, ↓v_rev, ↓v_dcomp, ↓cTurnD_eq, pairO_v, ↓v_dicd, dispK_eq, pu_nil, pu_cons, keyOk_int, keyOk_str, mkD_ok, ↓compDT_map, compGD_all, ↓qs_pop, ↓qs_augsub, ↓qs_parG, fnM_eq, endM_ret, endM_ite, leaveM_v, nw_leaveM, nw_rev, rev_l, nw_old, asub_eq, nw_put, w2a_lst, w2b_lst, w2a_isl, w2b_isl, w2a_set, w2b_set, w2a_tup, w2b_tup, w2a_len, w2b_len, w2a_idx, w2b_idx, optC_some, optC_none, ↓t_var, ↓t_k, ↓t_call, ↓t_callv, ↓t_idx, ↓t_isi, ↓t_bin, ↓t_bi, ↓l_nil, ↓l_cons, ↓qi_seq, ↓qi_rng1, ↓qi_rng2, ↓i_rng3, ↓qi_zip, ↓qi_enum, ↓okK_v, ↓cTurn_eq, ↓cTurn2_eq, -seqOp, sq_tup, sq_lst, -zipOp, zp_tup, zp_lst, -enumOp, en_lst, -idxOp, idx_tup, idx_lst, idx_l, at_map, at_map0, at_map1, at_mapl, at_0, at_1, at_2, -cmpOp, -isNonS, cm_is, cm_isnot, cm_isb, ns_non, ns_bl, ns_int, ns_tup, ns_lst, ns_l, cm_eqv, cm_nev, cm_eqlv, cm_nelv, cm_lt, cm_le, cm_gt, cm_ge, cm_in_t, cm_in_l, cm_nin_t, cm_nin_l, cm_in_p, cm_nin_p, -binOp, bo_ii, bo_ib, bo_tt, bo_ll, bo_pl, bo_tm, bo_lm, -negOp, ng_i, -isTys, it_of, oo_some, -biOp, qbi_len, qbi_int, qbi_abs, qbi_sum, qbi_tuple, qbi_list, qbi_sorted, bi_sset, bi_skey, bi_lset, qbi_min1, qbi_max1, qbi_min2, qbi_max2, bi_lr1, bi_tr1, -bLen, ln_t, ln_l, ln_p, -bInt, in_i, in_b, -bAbs, ab_i, -bSum, sm_t, sm_l, -bTuple, tp_t, tp_l, tp_p, -bList, ls_t, ls_l, ls_p, lr_n, -slcOp, sl_t, sl_l, -part?, pt_n, pt_i, -intOnly, io_i, -augOp, au_add, au_sub, -putOp, -isNonC, nnc_non, nnc_int, nnc_var, nnc_bin, nnc_bi, nnc_neg, nnc_idx, -leave, leave_l, take_app, take_self, nw_lst, nw_isl, nw_set, nw_tup, nw_len, nw_idx, nw_leave, nw_add, nw_eq, nw_ne, cut_ton, cut_fromn, -getS, gs_some, gs_none, gs_succ, -bindG, -bindGs, -wipeS, -pures?, -setAll, bg_name, bg_tup, bg_lst, bgs_nil, bgs_cons, wp_nil, wp_cons, pr_nil, pr_cons, sa_nil, sa_cons, ↓seqK_next, ↓seqK_ret, ↓seqK_brk, ↓seqK_cnt, ↓b_nil, ↓b_cons, ↓qs_set, ↓qs_unpack, ↓qs_par, ↓qs_sub, ↓s_aug, ↓qs_app, appIf_ok, ↓qs_expr, ↓s_ifs, ↓qs_ret, ↓qs_retN, ↓qs_brk, ↓qs_cnt, ↓turnF_eq, ↓s_forr, ↓s_whil, ↓qs_freeze, ↓frzO_some, ↓frzO_none, ↓frz_l, ↓frz_v, ↓bd_ok, ↓bd_exc, ↓bd_bad, ↓compLT_nil, ↓compLLT_nil, ↓optB_none, ↓optB_some, ↓truK_eq, ↓blK_eq, ↓tupK_eq, ↓lstK_eq, ↓callG_eq, ↓partO_eq, ↓svP_v, ↓svL_l, ↓endK_ret, ↓endK_next, ↓endK_ite, ↓fn_eq, startB_eq, -fnSem, leave_v, ↓compLT_map, ↓compLLT_map, compG_all, compG_none, compG_some, compG_two, compG_3, ite_int, compGG_all, ↓bd_ite, ite_both, -ite_not, -Classical.ite_not, -List.map_set, ite_okb, -intOp, op_shl, op_shln, op_shr, op_bit, op_and, op_or, op_xor, op_add, op_sub, -mkL, mkL_f, mkL_t, -mkT, mkT_ok, zip_map, enum_map, rng1_n, rng1_i, rng2_n, -rng1Op, -rng2Op, ints_mapf, sumI_map, -ix?, ix_n, ix_n1, ix_i0, ix_i1, ix_i2, eqP_nilL, noFns_map, bit_1, bit_0, -getElem?_pos, -getElem?_neg, get_ith, ith_zero, ith_succ, ith_map, nn, bitV, eqP_tups, eqP_lsts, eqP_enc, anyEq_enc, anyEq_int, anyEq_sets, List.isEmpty_iff, List.filter_eq_nil_iff, cast_inj, setV, pathsV, sysV, stV, b_law_0, ↓f3, f4, f1, f2, hok]))
    · rw [decide_eq_false hok, if_neg (by decide)]
      ((simp -implicitDefEqProofs -dsimp (disch := (first | with_reducible assumption | exact Mem.out (by assumption) | (((try simp only [List.length_map, List.length_range, List.length_append, List.length_cons, List.length_nil, List.length_tail, List.length_zip, List.length_reverse, List.length_take, List.length_drop, List.length_set, List.length_replicate, List.length_zipIdx, line]) <;> first | omega | (first | exact Mem.out (by assumption) | (with_reducible show (_ : Nat) < _; solve_by_elim (maxDepth := 4) [Mem.out]) | (with_reducible show (_ : Nat) ≤ _; solve_by_elim (maxDepth := 4) [Mem.out]) | (with_reducible show _ ∈ _; solve_by_elim (maxDepth := 4) [Mem.out]) | fail) | (refine Nat.le_trans (List.length_filter_le _ _) ?_; (try simp only [List.length_map, List.length_range, List.length_append, List.length_cons, List.length_nil]) <;> first | omega | (first | exact Mem.out (by assumption) | (with_reducible show (_ : Nat) < _; solve_by_elim (maxDepth := 4) [Mem.out]) | (with_reducible show (_ : Nat) ≤ _; solve_by_elim (maxDepth := 4) [Mem.out]) | (with_reducible show _ ∈ _; solve_by_elim (maxDepth := 4) [Mem.out]) | fail) | fail) | fail)) | fail)) [↓v_var, ↓v_k, ↓v_glob, ↓v_tup, ↓v_list, ↓v_bin, ↓v_neg, ↓t_nt, ↓v_nt, ↓v_and, ↓t_and, ↓v_or, ↓t_or, ↓v_and1, ↓t_and1, ↓v_or1, ↓t_or1, ↓v_and2, ↓t_and2, ↓v_or2, ↓t_or2, ↓t_cmp, ↓v_cmp, ↓t_chain, ↓v_chain, ↓v_ite, ↓t_ite, ↓v_call, ↓v_fnv, ↓v_callv, ↓v_index, ↓v_indexG, ↓v_bi, ↓v_isi, ↓v_idx, ↓v_slc, ↓v_comp, ↓v_comp2, ↓v_dic0, ↓v_get, ↓v_rev, ↓v_dcomp, ↓cTurnD_eq, pairO_v, ↓v_dicd, dispK_eq, pu_nil, pu_cons, keyOk_int, keyOk_str, mkD_ok, ↓compDT_map, compGD_all, ↓qs_pop, ↓qs_augsub, ↓qs_parG, fnM_eq, endM_ret, endM_ite, leaveM_v, nw_leaveM, nw_rev, rev_l, nw_old, asub_eq, nw_put, w2a_lst, w2b_lst, w2a_isl, w2b_isl, w2a_set, w2b_set, w2a_tup, w2b_tup, w2a_len, w2b_len, w2a_idx, w2b_idx, optC_some, optC_none, ↓t_var, ↓t_k, ↓t_call, ↓t_callv, ↓t_idx, ↓t_isi, ↓t_bin, ↓t_bi, ↓l_nil, ↓l_cons, ↓qi_seq, ↓qi_rng1, ↓qi_rng2, ↓i_rng3, ↓qi_zip, ↓qi_enum, ↓okK_v, ↓cTurn_eq, ↓cTurn2_eq, -seqOp, sq_tup, sq_lst, -zipOp, zp_tup, zp_lst, -enumOp, en_lst, -idxOp, idx_tup, idx_lst, idx_l, at_map, at_map0, at_map1, at_mapl, at_0, at_1, at_2, -cmpOp, -isNonS, cm_is, cm_isnot, cm_isb, ns_non, ns_bl, ns_int, ns_tup, ns_lst, ns_l, cm_eqv, cm_nev, cm_eqlv, cm_nelv, cm_lt, cm_le, cm_gt, cm_ge, cm_in_t, cm_in_l, cm_nin_t, cm_nin_l, cm_in_p, cm_nin_p, -binOp, bo_ii, bo_ib, bo_tt, bo_ll, bo_pl, bo_tm, bo_lm, -negOp, ng_i, -isTys, it_of, oo_some, -biOp, qbi_len, qbi_int, qbi_abs, qbi_sum, qbi_tuple, qbi_list, qbi_sorted, bi_sset, bi_skey, bi_lset, qbi_min1, qbi_max1, qbi_min2, qbi_max2, bi_lr1, bi_tr1, -bLen, ln_t, ln_l, ln_p, -bInt, in_i, in_b, -bAbs, ab_i, -bSum, sm_t, sm_l, -bTuple, tp_t, tp_l, tp_p, -bList, ls_t, ls_l, ls_p, lr_n, -slcOp, sl_t, sl_l, -part?, pt_n, pt_i, -intOnly, io_i, -augOp, au_add, au_sub, -putOp, -isNonC, nnc_non, nnc_int, nnc_var, nnc_bin, nnc_bi, nnc_neg, nnc_idx, -leave, leave_l, take_app, take_self, nw_lst, nw_isl, nw_set, nw_tup, nw_len, nw_idx, nw_leave, nw_add, nw_eq, nw_ne, cut_ton, cut_fromn, -getS, gs_some, gs_none, gs_succ, -bindG, -bindGs, -wipeS, -pures?, -setAll, bg_name, bg_tup, bg_lst, bgs_nil, bgs_cons, wp_nil, wp_cons, pr_nil, pr_cons, sa_nil, sa_cons, ↓seqK_next, ↓seqK_ret, ↓seqK_brk, ↓seqK_cnt, ↓b_nil, ↓b_cons, ↓qs_set, ↓qs_unpack, ↓qs_par, ↓qs_sub, ↓s_aug, ↓qs_app, appIf_ok, ↓qs_expr, ↓s_ifs, ↓qs_ret, ↓qs_retN, ↓qs_brk, ↓qs_cnt, ↓turnF_eq, ↓s_forr, ↓s_whil, ↓qs_freeze, ↓frzO_some, ↓frzO_none, ↓frz_l, ↓frz_v, ↓bd_ok, ↓bd_exc, ↓bd_bad, ↓compLT_nil, ↓compLLT_nil, ↓optB_none, ↓optB_some, ↓truK_eq, ↓blK_eq, ↓tupK_eq, ↓lstK_eq, ↓callG_eq, ↓partO_eq, ↓svP_v, ↓svL_l, ↓endK_ret, ↓endK_next, ↓endK_ite, ↓fn_eq, startB_eq, -fnSem, leave_v, ↓compLT_map, ↓compLLT_map, compG_all, compG_none, compG_some, compG_two, compG_3, ite_int, compGG_all, ↓bd_ite, ite_both, -ite_not, -Classical.ite_not, -List.map_set, ite_okb, -intOp, op_shl, op_shln, op_shr, op_bit, op_and, op_or, op_xor, op_add, op_sub, -mkL, mkL_f, mkL_t, -mkT, mkT_ok, zip_map, enum_map, rng1_n, rng1_i, rng2_n, -rng1Op, -rng2Op, ints_mapf, sumI_map, -ix?, ix_n, ix_n1, ix_i0, ix_i1, ix_i2, eqP_nilL, noFns_map, bit_1, bit_0, -getElem?_pos, -getElem?_neg, get_ith, ith_zero, ith_succ, ith_map, nn, bitV, eqP_tups, eqP_lsts, eqP_enc, anyEq_enc, anyEq_int, anyEq_sets, List.isEmpty_iff, List.filter_eq_nil_iff, cast_inj, setV, pathsV, sysV, stV, b_law_0, ↓f3, f4, hok]))) none
  have hz0 : rv 0 = .tup [.int 0, .int 1] := rfl
  rw [hz0] at e7
  -- equal parts
  obtain ⟨c, S5, e8, hc5, d5⟩ := taken_d (m := 12) d4 (by decide) (by decide)
  obtain ⟨n2, hn2⟩ : ∃ n2, n2 = c + 9 := ⟨_, rfl⟩
  have hn2I : (9 : Int) + (c : Int) = (n2 : Int) := by omega
  obtain ⟨p, S6, e9, hp, -, -, d6⟩ := some_chance_spec d5 d5.len
  obtain ⟨q2, S7, e10, hq2, d7⟩ := taken_d (m := (n2 : Int) + 2) d6 (by omega) (by omega)
  obtain ⟨x4, x10, e11⟩ := p_loop (S := S7) (n := n2) (q := q2) hp (by omega) (w0 := some (.v (.lst (ns.map PV.int)))) (w1 := some (.l 0)) (w3 := w3) (w5 := some (.v (wsV ws))) (w6 := some (.v (csV cs))) (w7 := some (.v (nn q2))) (w11 := none) (n2 + 1 - q2) q2 none none (Nat.le_refl _) (by omega)
  rw [tQ_start, hz0] at e11
  have hr : ∀ S, rng2Op (.v (.int (q2 : Int))) (.v (.int ((n2 : Int) + 1))) S = .ok ((List.range' q2 (n2 + 1 - q2)).map nn) S := fun S => rng2Op_of (a := q2) (b := n2 + 1) rfl (by omega) (by omega) (by omega) S
  have hcr : CsOk 2520 (List.replicate n2 p) := fun c hc => by rw [List.eq_of_mem_replicate hc]; exact hp
  obtain ⟨Q, hQ⟩ : ∃ Q : Int, Q = 3 * (q2 : Int) := ⟨_, rfl⟩
  have e12 : ∀ S, F_weight_chance [.v (.tup (List.replicate n2 (.int 3))), .v (.int Q), .v (.tup (List.replicate n2 (rv p)))] S = .ok (.v (rv (tQ n2 q2 p (n2 + 1)))) S := fun S => by
    have := F_weight_chance_eq (S := S) (q := Q) (ws := List.replicate n2 3) (sz27 (show n2 ≤ 27 by omega)) (cs := List.replicate n2 p) List.length_replicate List.length_replicate hcr (fun w hw => by rw [List.eq_of_mem_replicate hw]; decide) (by omega) (by omega)
    unfold csV wsV at this
    rw [List.map_replicate, List.map_replicate] at this
    have hh : prob (List.replicate n2 p) (wkE (fsT (List.replicate n2 3)) (geQ Q)) = tQ n2 q2 p (n2 + 1) := by
      unfold tQ
      rw [prob_Ex, prob_Ex]
      refine Ex_congr fun st hst => ?_
      have hs := lawStates_mem hst
      rw [List.length_replicate] at hs
      unfold wkE
      rw [walk_tot st _ (by rw [List.length_replicate, hs]), ← hs, tot_rep]
      show b2r (decide (Q ≤ ((3 * cnt st : Nat) : Int))) = _
      have := cnt_le st
      congr 1
      exact decide_eq_decide.mpr (by omega)
    rw [hh] at this
    exact this
  have a3 := fun S => alike_rv (q := tQ n2 q2 p (n2 + 1)) (S := S)
  have hmul : intOp .mul 3 (q2 : Int) = some Q := by
    have := mulOk_of (a := 3) (b := (q2 : Int)) (k := 2) (l := 32) (by decide) (by omega) (by decide)
    unfold intOp
    rw [if_pos this, hQ]
  obtain ⟨T, hT⟩ : ∃ T, T = prob cs fun st => geQ q (tot ws st) := ⟨_, rfl⟩
  simp only [← hT] at e6 e7 a1
  obtain ⟨R, hR⟩ : ∃ R, R = tQ n2 q2 p (n2 + 1) := ⟨_, rfl⟩
  simp only [← hR] at e11 e12 a3
  have hn2le : (n2 : Int) ≤ 1000 := by omega
  have hn2t : ((n2 : Int)).toNat = n2 := by omega
  obtain ⟨WS, hWS⟩ : ∃ W, W = ws.map nn := ⟨_, rfl⟩
  have hWl : WS.length ≤ 16777216 := by rw [hWS, List.length_map]; omega
  simp only [wsV, ← hWS] at ev1 e6 e7 es e11
  refine ⟨[], ?_⟩
  replace e1 : F__law_taken [.l 0, .v (.int 8)] [.lst [.lst (ns.map .int), .int 0, .int 4073, .int 0]] = .ok (.v (nn a)) S1 := e1
  replace e4 : F__law_taken [.l 0, .v (.int ((ws.sum : Int) + 3))] S3 = .ok (.v (nn b)) S4 := e4
  replace e8 : F__law_taken [.l 0, .v (.int 12)] S4 = .ok (.v (nn c)) S5 := e8
  replace e10 : F__law_taken [.l 0, .v (.int ((n2 : Int) + 2))] S6 = .ok (.v (nn q2)) S7 := e10
  have hqb : (b : Int) - 1 = q := hq.symm
  ((simp -implicitDefEqProofs -dsimp (disch := (first | with_reducible assumption | exact Mem.out (by assumption) | (((try simp only [List.length_map, List.length_range, List.length_append, List.length_cons, List.length_nil, List.length_tail, List.length_zip, List.length_reverse, List.length_take, List.length_drop, List.length_set, List.length_replicate, List.length_zipIdx, line]) <;> first | omega | (first | exact Mem.out (by assumption) | (with_reducible show (_ : Nat) < _; solve_by_elim (maxDepth := 4) [Mem.out]) | (with_reducible show (_ : Nat) ≤ _; solve_by_elim (maxDepth := 4) [Mem.out]) | (with_reducible show _ ∈ _; solve_by_elim (maxDepth := 4) [Mem.out]) | fail) | (refine Nat.le_trans (List.length_filter_le _ _) ?_; (try simp only [List.length_map, List.length_range, List.length_append, List.length_cons, List.length_nil]) <;> first | omega | (first | exact Mem.out (by assumption) | (with_reducible show (_ : Nat) < _; solve_by_elim (maxDepth := 4) [Mem.out]) | (with_reducible show (_ : Nat) ≤ _; solve_by_elim (maxDepth := 4) [Mem.out]) | (with_reducible show _ ∈ _; solve_by_elim (maxDepth := 4) [Mem.out]) | fail) | fail) | fail)) | fail)) [↓v_var, ↓v_k, ↓v_glob, ↓v_tup, ↓v_list, ↓v_bin, ↓v_neg, ↓t_nt, ↓v_nt, ↓v_and, ↓t_and, ↓v_or, ↓t_or, ↓v_and1, ↓t_and1, ↓v_or1, ↓t_or1, ↓v_and2, ↓t_and2, ↓v_or2, ↓t_or2, ↓t_cmp, ↓v_cmp, ↓t_chain, ↓v_chain, ↓v_ite, ↓t_ite, ↓v_call, ↓v_fnv, ↓v_callv, ↓v_index, ↓v_indexG, ↓v_bi, ↓v_isi, ↓v_idx, ↓v_slc, ↓v_comp, ↓v_comp2, ↓v_dic0, ↓v_get, ↓v_rev, ↓v_dcomp, ↓cTurnD_eq, pairO_v, ↓v_dicd, dispK_eq, pu_nil, pu_cons, keyOk_int, keyOk_str, mkD_ok, ↓compDT_map, compGD_all, ↓qs_pop, ↓qs_augsub, ↓qs_parG, fnM_eq, endM_ret, endM_ite, leaveM_v, nw_leaveM, nw_rev, rev_l, nw_old, asub_eq, nw_put, w2a_lst, w2b_lst, w2a_isl, w2b_isl, w2a_set, w2b_set, w2a_tup, w2b_tup, w2a_len, w2b_len, w2a_idx, w2b_idx, optC_some, optC_none, ↓t_var, ↓t_k, ↓t_call, ↓t_callv, ↓t_idx, ↓t_isi, ↓t_bin, ↓t_bi, ↓l_nil, ↓l_cons, ↓qi_seq, ↓qi_rng1, ↓qi_rng2, ↓i_rng3, ↓qi_zip, ↓qi_enum, ↓okK_v, ↓cTurn_eq, ↓cTurn2_eq, -seqOp, sq_tup, sq_lst, -zipOp, zp_tup, zp_lst, -enumOp, en_lst, -idxOp, idx_tup, idx_lst, idx_l, at_map, at_map0, at_map1, at_mapl, at_0, at_1, at_2, -cmpOp, -isNonS, cm_is, cm_isnot, cm_isb, ns_non, ns_bl, ns_int, ns_tup, ns_lst, ns_l, cm_eqv, cm_nev, cm_eqlv, cm_nelv, cm_lt, cm_le, cm_gt, cm_ge, cm_in_t, cm_in_l, cm_nin_t, cm_nin_l, cm_in_p, cm_nin_p, -binOp, bo_ii, bo_ib, bo_tt, bo_ll, bo_pl, bo_tm, bo_lm, -negOp, ng_i, -isTys, it_of, oo_some, -biOp, qbi_len, qbi_int, qbi_abs, qbi_sum, qbi_tuple, qbi_list, qbi_sorted, bi_sset, bi_skey, bi_lset, qbi_min1, qbi_max1, qbi_min2, qbi_max2, bi_lr1, bi_tr1, -bLen, ln_t, ln_l, ln_p, -bInt, in_i, in_b, -bAbs, ab_i, -bSum, sm_t, sm_l, -bTuple, tp_t, tp_l, tp_p, -bList, ls_t, ls_l, ls_p, lr_n, -slcOp, sl_t, sl_l, -part?, pt_n, pt_i, -intOnly, io_i, -augOp, au_add, au_sub, -putOp, -isNonC, nnc_non, nnc_int, nnc_var, nnc_bin, nnc_bi, nnc_neg, nnc_idx, -leave, leave_l, take_app, take_self, nw_lst, nw_isl, nw_set, nw_tup, nw_len, nw_idx, nw_leave, nw_add, nw_eq, nw_ne, cut_ton, cut_fromn, -getS, gs_some, gs_none, gs_succ, -bindG, -bindGs, -wipeS, -pures?, -setAll, bg_name, bg_tup, bg_lst, bgs_nil, bgs_cons, wp_nil, wp_cons, pr_nil, pr_cons, sa_nil, sa_cons, ↓seqK_next, ↓seqK_ret, ↓seqK_brk, ↓seqK_cnt, ↓b_nil, ↓b_cons, ↓qs_set, ↓qs_unpack, ↓qs_par, ↓qs_sub, ↓s_aug, ↓qs_app, appIf_ok, ↓qs_expr, ↓s_ifs, ↓qs_ret, ↓qs_retN, ↓qs_brk, ↓qs_cnt, ↓turnF_eq, ↓s_forr, ↓s_whil, ↓qs_freeze, ↓frzO_some, ↓frzO_none, ↓frz_l, ↓frz_v, ↓bd_ok, ↓bd_exc, ↓bd_bad, ↓compLT_nil, ↓compLLT_nil, ↓optB_none, ↓optB_some, ↓truK_eq, ↓blK_eq, ↓tupK_eq, ↓lstK_eq, ↓callG_eq, ↓partO_eq, ↓svP_v, ↓svL_l, ↓endK_ret, ↓endK_next, ↓endK_ite, ↓fn_eq, startB_eq, -fnSem, leave_v, ↓compLT_map, ↓compLLT_map, compG_all, compG_none, compG_some, compG_two, compG_3, ite_int, compGG_all, ↓bd_ite, ite_both, -ite_not, -Classical.ite_not, -List.map_set, ite_okb, -intOp, op_shl, op_shln, op_shr, op_bit, op_and, op_or, op_xor, op_add, op_sub, -mkL, mkL_f, mkL_t, -mkT, mkT_ok, zip_map, enum_map, rng1_n, rng1_i, rng2_n, -rng1Op, -rng2Op, ints_mapf, sumI_map, -ix?, ix_n, ix_n1, ix_i0, ix_i1, ix_i2, eqP_nilL, noFns_map, bit_1, bit_0, -getElem?_pos, -getElem?_neg, get_ith, ith_zero, ith_succ, ith_map, nn, bitV, eqP_tups, eqP_lsts, eqP_enc, anyEq_enc, anyEq_int, anyEq_sets, List.isEmpty_iff, List.filter_eq_nil_iff, cast_inj, setV, pathsV, sysV, stV, F_law, d_law, e1, hnI, ↓ev1, mkT_ok hWl, e3, es, e4, hqb, e5, e7, e6, a1, e8, hn2I, e9, e10, hr, e11, hn2le, hn2t, rep_one, hmul, e12, a3]))
theorem F_law_is : Lk73.F_law = F_law := rfl
theorem main' (ns : List Int) (h : ns.length ≤ 63) : ∃ S', Lk73.F_law [.v (.lst (ns.map PV.int))] [] = .ok (.v (.bl true)) S' := by
  rw [F_law_is]
  exact main ns h
end P73

open PySem PySem.W PySem.Calls PyProof.Rows
theorem PySem.Challenge.cw_faultworks_k73_whole_weighted_votes_holds : PySem.Challenge.rw_faultworks_k73_whole_weighted_votes.Holds := by
  w_on; o_law
  refine HandSHeadRun.head_any (q := view (OpenLaw.row PySem.Challenge.rw_faultworks_k73_whole_weighted_votes).prog [40]) (H := Lk73.hk) (ob := Lk73.ob) (M := 4000) (loose := Lk73.loose) (d := HandSHeadRun.topDef (OpenLaw.row PySem.Challenge.rw_faultworks_k73_whole_weighted_votes).prog 40) (kwd := []) Lk73.ob_eq
    (by kernel_rfl) (fun s => by kernel_rfl) Lk73.run (by kernel_rfl) (by kernel_rfl) (by kernel_rfl) (by rfl) (by first | assumption | decide +kernel) (by decide +kernel) ⟨rfl, rfl, rfl, rfl, rfl, by decide +kernel⟩ ?hw ?hc
  case hw => w_witness2
  case hc =>
    exact FW.law_end (l := PySem.Challenge.rw_faultworks_k73_whole_weighted_votes) (n := 63) (k := Lk73.lLaw) (x := "_law_script") (f := Lk73.F_law) (dl := Lk73.D_law) (il := 27) rfl (by decide) (by kernel_rfl) ⟨rfl, by decide, by decide⟩ rfl rfl rfl rfl (by decide +kernel)
      (fun _ _ _ _ _ _ us hl => match us, hl with | [_], _ => rfl)
      (fun w mg h K base fd X G c F => Lk73.fn_law X G c F) P73.main'
