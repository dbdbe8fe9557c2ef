import PyProof.Rows.All
import Wide.All
import OpenK.AllK
import Wide.FinOn
import HandS.ForMost
import HandS.IsInst
import HandS.WideBits
import HandS.SortInts
import HandS.TupAny
import HandS.Flow
import HandS.ForExc
import HandS.Style
import HandS.CallSlots
import PySem.Challenge.RW_cellforall_k10_least_lots
import KE.OsArith
import KE.IntBitsLaws
set_option Elab.async false
set_option linter.all false
set_option maxRecDepth 100000
set_option maxHeartbeats 4000000
/-! Pv, part A: pure values, the small language, its interpreter. -/
namespace Pv
open PySem PySem.Spec PyProof.Rows L2
inductive Val where
  | non | bl (b : Bool) | int (i : Int) | str (x : Str)
  | tup (xs : List Val) | lst (xs : List Val) | frl (xs : List Int)
  | pool (cs : List Int) (p n : Int)
structure Exc where
  cls : Nat
  fs : List Val
abbrev Slots := List (Option Val)
inductive Res (α : Type) where
  | ok (a : α) (ρ : Slots) | err (e : Exc) (ρ : Slots) | stuck
def Res.bind {α β : Type} (r : Res α) (f : α → Slots → Res β) : Res β :=
  match r with
  | .ok a ρ => f a ρ
  | .err e ρ => .err e ρ
  | .stuck => .stuck
inductive FRes where
  | ok (v : Val) (out : Option Val) | err (e : Exc) (out : Option Val) | stuck
inductive Ty where
  | int | bool | tuple | list | str
  deriving DecidableEq
inductive Op where
  | bin (o : Operator) | cmp (o : CmpOp) | neg | inv | ix | slice (lo hi : Bool) | back
  | tup | lst | len | abs | int1 | max2 | min2 | sum1 | sorted1 | tuple1 | list1 | any1 | all1 | bits | isi (t : Ty)
  deriving DecidableEq
inductive Mut where
  | append | extend | pop
  deriving DecidableEq
/-- expressions, argument lists (nil, cons), iterables -/
inductive ME where
  | var (i : Nat) | lit (v : Val)
  | app (o : Op) (as : ME) | call (f : Nat) (as : ME) | callio (f i : Nat) (as : ME) | mut (m : Mut) (i : Nat) (as : ME)
  | not_ (a : ME) | and_ (a b : ME) | or_ (a b : ME) | ife (c a b : ME)
  | chain (o1 o2 : CmpOp) (a b c : ME)
  | comp (vs : List Nat) (tg : List Nat) (tt : Bool) (it : ME) (c : ME) (e : ME)
  | comp2 (vs : List Nat) (tg : List Nat) (tt : Bool) (it : ME) (vs1 tg1 : List Nat) (tt1 : Bool) (it1 : ME) (c : ME) (e : ME)
  | nil | cons (a as : ME)
  | seq (a : ME) | rng (as : ME) | enum (a : ME) | zip (a b : ME)
inductive MS where
  | nil | cons (s r : MS)
  | asg (i : Nat) (e : ME) | asgT (is : List Nat) (e : ME) | aug (i : Nat) (o : Operator) (e : ME)
  | setix (i : Nat) (ix e : ME) | exp (e : ME) | ret (e : ME) | retN
  | ife (c : ME) (a b : MS) | for_ (tg : List Nat) (tt : Bool) (it : ME) (b : MS) | while_ (c : ME) (b : MS)
  | pass | brk | cont
/-! ### what operations give -/
mutual
def toD : Val → Option PyData
  | .non => some .none
  | .bl b => some (.bool b)
  | .int i => some (.int i)
  | .str x => some (.str x)
  | .tup xs => match toDs xs with | some ds => some (.tuple ds) | none => none
  | .lst xs => match toDs xs with | some ds => some (.list ds) | none => none
  | _ => none
def toDs : List Val → Option (List PyData)
  | [] => some []
  | x :: xs => match toD x, toDs xs with
    | some d, some ds => some (d :: ds)
    | _, _ => none
end
mutual
def flatV : Val → Bool
  | .non => true
  | .bl _ => true
  | .int _ => true
  | .str _ => true
  | .tup xs => flatL xs
  | _ => false
def flatL : List Val → Bool
  | [] => true
  | x :: xs => flatV x && flatL xs
end
def eqvV (a b : Val) : Option Bool :=
  match a, b with
  | .int i, .int j => some (i == j)
  | .bl i, .bl j => some (i == j)
  | .str i, .str j => some (i == j)
  | _, _ => match toD a, toD b with
    | some d, some e => if SeqAt.shaped d && SeqAt.shaped e then some (PyData.eqv d e) else none
    | _, _ => none
/-- none, bools, ints, texts: what «in» looks for -/
def atomV : Val → Option V
  | .non => some .non
  | .bl b => some (.bl b)
  | .int i => some (.int i)
  | .str x => some (.str x)
  | _ => none
def atomsV : List Val → Option (List V)
  | [] => some []
  | x :: xs => match atomV x, atomsV xs with
    | some d, some ds => some (d :: ds)
    | _, _ => none
def intsV : List Val → Option (List Int)
  | [] => some []
  | .int i :: xs => match intsV xs with | some r => some (i :: r) | none => none
  | _ :: _ => none
def bsV : List Val → Option (List Bool)
  | [] => some []
  | .bl i :: xs => match bsV xs with | some r => some (i :: r) | none => none
  | _ :: _ => none
def binV : Operator → Val → Val → Option Val
  | .Add, .int a, .int b => some (.int (a + b))
  | .Add, .str a, .str b => if a.length + b.length ≤ sizeLine then some (.str (a ++ b)) else none
  | .Add, .lst a, .lst b => if a.length + b.length ≤ sizeLine then some (.lst (a ++ b)) else none
  | .Add, .tup a, .tup b => if a.length + b.length ≤ sizeLine then some (.tup (a ++ b)) else none
  | .Sub, .int a, .int b => some (.int (a - b))
  | .Mult, .int a, .int b => if a.natAbs < 2 ^ 64 ∨ b.natAbs < 2 ^ 64 then some (.int (a * b)) else none
  | .Mult, .lst a, .int k => if k.natAbs < 2 ^ 63 ∧ a.length * k.toNat ≤ sizeLine then some (.lst (List.replicate k.toNat a).flatten) else none
  | .FloorDiv, .int a, .int b => if 0 < b ∧ b.natAbs < 1073741824 then some (.int (a / b)) else none
  | .Mod, .int a, .int b => if 0 < b then some (.int (a % b)) else none
  | .Pow, .int a, .int b => if 0 ≤ b ∧ b.natAbs ≤ 1000000 ∧ a.natAbs < 2 ^ 64 then some (.int (a ^ b.toNat)) else none
  | .LShift, .int a, .int b => if 0 ≤ b ∧ Builtin.Int.intBits a + b.natAbs ≤ 2 ^ 27 then some (.int (a * 2 ^ b.toNat)) else none
  | .RShift, .int a, .int b => if 0 ≤ b then some (.int (a / 2 ^ b.toNat)) else none
  | .BitAnd, .int a, .int b => some (.int (Builtin.bitAnd a b))
  | .BitOr, .int a, .int b => some (.int (Builtin.bitOr a b))
  | .BitXor, .int a, .int b => some (.int (Builtin.bitXor a b))
  | _, _, _ => none
def isNon : Val → Bool
  | .non => true
  | _ => false
def seqV : Val → Option (List Val)
  | .tup xs => some xs
  | .lst xs => some xs
  | _ => none
def cmpV : CmpOp → Val → Val → Option Val
  | .Lt, .int a, .int b => some (.bl (decide (a < b)))
  | .LtE, .int a, .int b => some (.bl (decide (a ≤ b)))
  | .Gt, .int a, .int b => some (.bl (decide (b < a)))
  | .GtE, .int a, .int b => some (.bl (decide (b ≤ a)))
  | .Eq, a, b => match eqvV a b with | some r => some (.bl r) | none => none
  | .NotEq, a, b => match eqvV a b with | some r => some (.bl (!r)) | none => none
  | .Is, a, .non => some (.bl (isNon a))
  | .IsNot, a, .non => some (.bl (!isNon a))
  | .In, a, b => match seqV b with
    | some xs => match atomV a, atomsV xs with
      | some x, some ys => some (.bl (inV x ys))
      | _, _ => none
    | none => none
  | .NotIn, a, b => match seqV b with
    | some xs => match atomV a, atomsV xs with
      | some x, some ys => some (.bl (!inV x ys))
      | _, _ => none
    | none => none
  | _, _, _ => none
def ixV : Val → Val → Option Val
  | .lst xs, .int i => atI xs i
  | .tup xs, .int i => atI xs i
  | _, _ => none
def cutL {α : Type} (xs : List α) (lo hi : Option Int) : List α := (xs.drop (HT.sIx xs.length 0 lo)).take (HT.sIx xs.length xs.length hi - HT.sIx xs.length 0 lo)
def cutX : Val → Option Int → Option Int → Option Val
  | .lst xs, l, h => some (.lst (cutL xs l h))
  | .tup xs, l, h => some (.tup (cutL xs l h))
  | .frl xs, l, h => some (.lst ((cutL xs l h).map .int))
  | _, _, _ => none
def sliceV : Bool → Bool → List Val → Option Val
  | false, false, [x] => cutX x none none
  | true, false, [x, .int i] => cutX x (some i) none
  | false, true, [x, .int j] => cutX x none (some j)
  | true, true, [x, .int i, .int j] => cutX x (some i) (some j)
  | _, _, _ => none
def lenV : Val → Option Nat
  | .lst xs => some xs.length
  | .tup xs => some xs.length
  | .frl xs => some xs.length
  | .str x => if x.length ≤ sizeLine then some x.length else none
  | _ => none
def isort (xs : List Int) : List Int := xs.mergeSort (fun a b => decide (a ≤ b))
def negO : List Val → Option Val
  | [.int a] => some (.int (-a))
  | _ => none
def invO : List Val → Option Val
  | [.int a] => some (.int (Builtin.bitNot a))
  | _ => none
def lenO : List Val → Option Val
  | [a] => match lenV a with | some n => some (.int n) | none => none
  | _ => none
def absO : List Val → Option Val
  | [.int i] => some (.int (if i < 0 then -i else i))
  | _ => none
def intO : List Val → Option Val
  | [.int i] => some (.int i)
  | [.bl k] => some (.int (if k then 1 else 0))
  | _ => none
def maxO : List Val → Option Val
  | [.int i, .int j] => some (.int (if j > i then j else i))
  | _ => none
def minO : List Val → Option Val
  | [.int i, .int j] => some (.int (if j < i then j else i))
  | _ => none
def sumO : List Val → Option Val
  | [.lst xs] => match intsV xs with | some ns => some (.int ns.sum) | none => none
  | _ => none
def sortO : List Val → Option Val
  | [.lst xs] => match intsV xs with | some ns => some (.lst ((isort ns).map .int)) | none => none
  | [.tup xs] => match intsV xs with | some ns => some (.lst ((isort ns).map .int)) | none => none
  | _ => none
def tupO : List Val → Option Val
  | [.lst xs] => some (.tup xs)
  | [.tup xs] => some (.tup xs)
  | _ => none
def lstO : List Val → Option Val
  | [.lst xs] => some (.lst xs)
  | [.tup xs] => some (.lst xs)
  | _ => none
def anyO : List Val → Option Val
  | [.lst xs] => match bsV xs with | some bs => some (.bl (bs.any id)) | none => none
  | _ => none
def allO : List Val → Option Val
  | [.lst xs] => match bsV xs with | some bs => some (.bl (bs.all id)) | none => none
  | _ => none
def bitsO : List Val → Option Val
  | [.int i] => some (.int (Builtin.Int.intBits i : Nat))
  | _ => none
/-- the class of a value that isinstance is asked of -/
def clsV : Val → Option Ty
  | .bl _ => some .bool
  | .int _ => some .int
  | .str _ => some .str
  | .tup _ => some .tuple
  | .lst _ => some .list
  | _ => none
def isTy : Ty → Ty → Bool
  | .bool, .int => true
  | a, b => decide (a = b)
def isiO (t : Ty) : List Val → Option Val
  | [a] => match clsV a with | some c => some (.bl (isTy c t)) | none => none
  | _ => none
def backO : List Val → Option Val
  | [.lst xs] => some (.lst xs.reverse)
  | _ => none
def bin2 (f : Val → Val → Option Val) : List Val → Option Val
  | [a, b] => f a b
  | _ => none
def dispT (as : List Val) : Option Val := if as.length ≤ sizeLine then some (.tup as) else none
def dispL (as : List Val) : Option Val := if as.length ≤ sizeLine then some (.lst as) else none
def opV : Op → List Val → Option Val
  | .bin o => bin2 (binV o)
  | .cmp o => bin2 (cmpV o)
  | .ix => bin2 ixV
  | .neg => negO
  | .inv => invO
  | .slice l h => sliceV l h
  | .back => backO
  | .tup => dispT
  | .lst => dispL
  | .len => lenO
  | .abs => absO
  | .int1 => intO
  | .max2 => maxO
  | .min2 => minO
  | .sum1 => sumO
  | .sorted1 => sortO
  | .tuple1 => tupO
  | .list1 => lstO
  | .any1 => anyO
  | .all1 => allO
  | .bits => bitsO
  | .isi t => isiO t
def truV : Val → Option Bool
  | .non => some false
  | .bl b => some b
  | .int i => some (i != 0)
  | .str x => if x.length ≤ sizeLine then some (x.length != 0) else none
  | .lst xs => some (!xs.isEmpty)
  | .tup xs => some (!xs.isEmpty)
  | _ => none
/-- methods that change the list in a slot: what they give, the list behind them -/
def appendV : Val → List Val → Option (Val × Val)
  | .lst xs, [v] => if xs.length < sizeLine then some (.non, .lst (xs ++ [v])) else none
  | _, _ => none
def extendV : Val → List Val → Option (Val × Val)
  | .lst xs, [.lst ys] => if xs.length + ys.length ≤ sizeLine then some (.non, .lst (xs ++ ys)) else none
  | _, _ => none
def popV : Val → List Val → Option (Val × Val)
  | .lst xs, [] => match xs[xs.length - 1]? with | some y => some (y, .lst xs.dropLast) | none => none
  | .lst xs, [.int i] => if i.natAbs < 2 ^ 63 then match seqIndex? i xs.length with
      | some k => match xs[k]? with | some y => some (y, .lst (xs.eraseIdx k)) | none => none
      | none => none
    else none
  | _, _ => none
def mutV : Mut → Val → List Val → Option (Val × Val)
  | .append => appendV
  | .extend => extendV
  | .pop => popV
/-! ### slots -/
def wipeS (ρ : Slots) : List Nat → Slots
  | [] => ρ
  | v :: vs => (wipeS ρ vs).set v none
def backS (old new : Slots) : List Nat → Slots
  | [] => new
  | v :: vs => (backS old new vs).set v (old.getD v none)
def bindS : List Nat → List Val → Slots → Option Slots
  | [], [], ρ => some ρ
  | i :: is, v :: vs, ρ => bindS is vs (ρ.set i (some v))
  | _, _, _ => none
/-- a target: one name, or a tuple of names -/
def tgS (tg : List Nat) (tt : Bool) (v : Val) (ρ : Slots) : Option Slots :=
  match tt, tg, v with
  | false, [i], v => some (ρ.set i (some v))
  | true, is, .tup vs => bindS is vs ρ
  | _, _, _ => none
def getS (ρ : Slots) (i : Nat) : Option Val := (ρ[i]?).join
def compGo (vs : List Nat) (tg : List Nat) (tt : Bool) (c : Slots → Res Bool) (e : Slots → Res Val) : List Val → List Val → Slots → Res (List Val)
  | acc, [], ρ => .ok acc ρ
  | acc, x :: xs, ρ => match tgS tg tt x (wipeS ρ vs) with
    | none => .stuck
    | some ρ1 => match c ρ1 with
      | .ok false ρ2 => compGo vs tg tt c e acc xs ρ2
      | .ok true ρ2 => match e ρ2 with
        | .ok y ρ3 => if acc.length < sizeLine then compGo vs tg tt c e (acc ++ [y]) xs ρ3 else .stuck
        | _ => .stuck
      | _ => .stuck
def ranged (lo hi : Int) : List Val := (List.range (hi - lo).toNat).map fun (k : Nat) => .int (lo + (k : Int))
def enumV (n : Nat) : List Val → List Val
  | [] => []
  | x :: xs => .tup [.int n, x] :: enumV (n + 1) xs
def zipV : List Val → List Val → List Val
  | x :: xs, y :: ys => .tup [x, y] :: zipV xs ys
  | _, _ => []
def rngOk (i : Int) : Bool := decide (i.natAbs < 2 ^ 62)
/-- the turns of range(i, j, c) -/
def rng3 (i j c : Int) : List Val := (List.range (Builtin.Range.rangeSize i j c).toNat).map fun (k : Nat) => .int (i + (k : Int) * c)
def rng3Ok (i j c : Int) : Bool := decide (c ≠ 0) && decide (c.natAbs < 1073741824) && Builtin.Range.small i j c && decide (0 ≤ Builtin.Range.rangeSize i j c)
def rngV : List Val → Option (List Val)
  | [.int j] => if rngOk j then some (ranged 0 j) else none
  | [.int i, .int j] => if rngOk i && rngOk j then some (ranged i j) else none
  | [.int i, .int j, .int c] => if rng3Ok i j c then some (rng3 i j c) else none
  | _ => none
def itemsV : Val → Option (List Val)
  | .tup xs => some xs
  | .lst xs => some xs
  | .frl xs => some (xs.map .int)
  | _ => none
section
variable (Φ : Nat → List Val → FRes)
def isVar : ME → Option Nat
  | .var i => some i
  | _ => none
mutual
def evalE : ME → Slots → Res Val
  | .var i, ρ => match getS ρ i with | some v => .ok v ρ | none => .stuck
  | .lit v, ρ => .ok v ρ
  | .app o as, ρ => (evalL as ρ).bind fun vs ρ1 => match opV o vs with | some v => .ok v ρ1 | none => .stuck
  | .call f as, ρ => (evalL as ρ).bind fun vs ρ1 => match Φ f vs with | .ok v _ => .ok v ρ1 | .err e _ => .err e ρ1 | .stuck => .stuck
  | .callio f i as, ρ => (evalL as ρ).bind fun vs ρ1 => match Φ f vs with
    | .ok v (some u1) => .ok v (ρ1.set i (some u1))
    | .err e (some u1) => .err e (ρ1.set i (some u1))
    | _ => .stuck
  | .mut m i as, ρ => match getS ρ i with
    | some (.lst _) => (evalL as ρ).bind fun vs ρ1 => match getS ρ1 i with
      | none => .stuck
      | some u => match mutV m u vs with
        | some (v, u1) => .ok v (ρ1.set i (some u1))
        | none => .stuck
    | _ => .stuck
  | .not_ a, ρ => (evalE a ρ).bind fun v ρ1 => match truV v with | some b => .ok (.bl (!b)) ρ1 | none => .stuck
  | .and_ a b, ρ => (evalE a ρ).bind fun v ρ1 => match v with
    | .bl true => evalE b ρ1
    | .bl false => .ok (.bl false) ρ1
    | _ => .stuck
  | .or_ a b, ρ => (evalE a ρ).bind fun v ρ1 => match v with
    | .bl false => evalE b ρ1
    | .bl true => .ok (.bl true) ρ1
    | _ => .stuck
  | .ife c a b, ρ => (evalT c ρ).bind fun k ρ1 => if k then evalE a ρ1 else evalE b ρ1
  | .chain o1 o2 a b c, ρ => (evalE a ρ).bind fun x ρ1 => (evalE b ρ1).bind fun y ρ2 => match x, y with
    | .int x, .int y => match cmpV o1 (.int x) (.int y) with
      | some (.bl true) => (evalE c ρ2).bind fun z ρ3 => match z with
        | .int z => match cmpV o2 (.int y) (.int z) with
          | some v => .ok v ρ3
          | none => .stuck
        | _ => .stuck
      | some (.bl false) => .ok (.bl false) ρ2
      | _ => .stuck
    | _, _ => .stuck
  | .comp vs tg tt it c e, ρ => (evalI it ρ).bind fun items ρ1 =>
      (compGo vs tg tt (evalT c) (evalE e) [] items ρ1).bind fun acc ρ2 => .ok (.lst acc) (backS ρ1 ρ2 vs)
  | _, _ => .stuck
def evalL : ME → Slots → Res (List Val)
  | .nil, ρ => .ok [] ρ
  | .cons a as, ρ => match isVar a with
    | some i => match getS ρ i with
      | none => .stuck
      | some _ => (evalL as ρ).bind fun vs ρ1 => match getS ρ1 i with | some v => .ok (v :: vs) ρ1 | none => .stuck
    | none => (evalE a ρ).bind fun v ρ1 => (evalL as ρ1).bind fun vs ρ2 => .ok (v :: vs) ρ2
  | _, _ => .stuck
def evalT : ME → Slots → Res Bool
  | .not_ a, ρ => (evalT a ρ).bind fun b ρ1 => .ok (!b) ρ1
  | .and_ a b, ρ => (evalT a ρ).bind fun k ρ1 => if k then evalT b ρ1 else .ok false ρ1
  | .or_ a b, ρ => (evalT a ρ).bind fun k ρ1 => if k then .ok true ρ1 else evalT b ρ1
  | .var i, ρ => match getS ρ i with
    | some v => match truV v with | some b => .ok b ρ | none => .stuck
    | none => .stuck
  | .app o as, ρ => (evalL as ρ).bind fun vs ρ1 => match opV o vs with
    | some v => match truV v with | some b => .ok b ρ1 | none => .stuck
    | none => .stuck
  | .call f as, ρ => (evalL as ρ).bind fun vs ρ1 => match Φ f vs with
    | .ok v _ => match truV v with | some b => .ok b ρ1 | none => .stuck
    | .err e _ => .err e ρ1
    | .stuck => .stuck
  | .callio f i as, ρ => (evalL as ρ).bind fun vs ρ1 => match Φ f vs with
    | .ok v (some u1) => match truV v with | some b => .ok b (ρ1.set i (some u1)) | none => .stuck
    | .err e (some u1) => .err e (ρ1.set i (some u1))
    | _ => .stuck
  | .chain o1 o2 a b c, ρ => (evalE a ρ).bind fun x ρ1 => (evalE b ρ1).bind fun y ρ2 => match x, y with
    | .int x, .int y => match cmpV o1 (.int x) (.int y) with
      | some (.bl true) => (evalE c ρ2).bind fun z ρ3 => match z with
        | .int z => match cmpV o2 (.int y) (.int z) with
          | some (.bl v) => .ok v ρ3
          | _ => .stuck
        | _ => .stuck
      | some (.bl false) => .ok false ρ2
      | _ => .stuck
    | _, _ => .stuck
  | .lit (.bl b), ρ => .ok b ρ
  | _, _ => .stuck
def evalI : ME → Slots → Res (List Val)
  | .seq a, ρ => (evalE a ρ).bind fun v ρ1 => match itemsV v with | some xs => .ok xs ρ1 | none => .stuck
  | .rng as, ρ => (evalL as ρ).bind fun vs ρ1 => match rngV vs with | some xs => .ok xs ρ1 | none => .stuck
  | .enum a, ρ => (evalE a ρ).bind fun v ρ1 => match v with | .lst xs => .ok (enumV 0 xs) ρ1 | .tup xs => .ok (enumV 0 xs) ρ1 | _ => .stuck
  | _, _ => .stuck
end
inductive Out where
  | nx (ρ : Slots) | ret (v : Val) (ρ : Slots) | brk (ρ : Slots) | ct (ρ : Slots) | err (e : Exc) (ρ : Slots) | stuck
def Res.out {α : Type} (r : Res α) (f : α → Slots → Out) : Out :=
  match r with
  | .ok a ρ => f a ρ
  | .err e ρ => .err e ρ
  | .stuck => .stuck
def Out.seq (o : Out) (f : Slots → Out) : Out :=
  match o with
  | .nx ρ => f ρ
  | o => o
def forGo (tg : List Nat) (tt : Bool) (b : Slots → Out) : List Val → Slots → Out
  | [], ρ => .nx ρ
  | x :: xs, ρ => match tgS tg tt x ρ with
    | none => .stuck
    | some ρ1 => match b ρ1 with
      | .nx ρ2 => forGo tg tt b xs ρ2
      | .ct ρ2 => forGo tg tt b xs ρ2
      | .brk ρ2 => .nx ρ2
      | o => o
def whileGo (c : Slots → Res Bool) (b : Slots → Out) : Nat → Slots → Out
  | 0, _ => .stuck
  | n + 1, ρ => (c ρ).out fun k ρ1 => if k then match b ρ1 with
      | .nx ρ2 => whileGo c b n ρ2
      | .ct ρ2 => whileGo c b n ρ2
      | .brk ρ2 => .nx ρ2
      | o => o
    else .nx ρ1
open Classical in
noncomputable def whileS (c : Slots → Res Bool) (b : Slots → Out) (ρ : Slots) : Out :=
  if h : ∃ n, whileGo c b n ρ ≠ .stuck then whileGo c b (choose h) ρ else .stuck
noncomputable def exec : MS → Slots → Out
  | .nil, ρ => .nx ρ
  | .cons s r, ρ => (exec s ρ).seq fun ρ1 => exec r ρ1
  | .asg i e, ρ => (evalE Φ e ρ).out fun v ρ1 => .nx (ρ1.set i (some v))
  | .asgT is e, ρ => (evalE Φ e ρ).out fun v ρ1 => match v with
    | .tup vs => match bindS is vs ρ1 with | some ρ2 => .nx ρ2 | none => .stuck
    | _ => .stuck
  | .aug i o e, ρ => match getS ρ i with
    | some (.int a) => (evalE Φ e ρ).out fun v ρ1 => match binV o (.int a) v with | some z => .nx (ρ1.set i (some z)) | none => .stuck
    | _ => .stuck
  | .setix i ix e, ρ => (evalL Φ (.cons e (.cons (.var i) (.cons ix .nil))) ρ).out fun vs ρ1 => match vs with
    | [v, .lst xs, .int k] => match ixN xs.length k with
      | some j => .nx (ρ1.set i (some (.lst (xs.set j v))))
      | none => .stuck
    | _ => .stuck
  | .exp e, ρ => (evalE Φ e ρ).out fun _ ρ1 => .nx ρ1
  | .ret e, ρ => (evalE Φ e ρ).out fun v ρ1 => .ret v ρ1
  | .retN, ρ => .ret .non ρ
  | .ife c a b, ρ => (evalT Φ c ρ).out fun k ρ1 => if k then exec a ρ1 else exec b ρ1
  | .for_ tg tt it b, ρ => (evalI Φ it ρ).out fun xs ρ1 => forGo tg tt (exec b) xs ρ1
  | .while_ c b, ρ => whileS (evalT Φ c) (exec b) ρ
  | .pass, ρ => .nx ρ
  | .brk, ρ => .brk ρ
  | .cont, ρ => .ct ρ
end
structure FDef where
  np : Nat
  nl : Nat
  io : Bool
  own : Bool
  flat : Bool
  body : MS
/-- what the changed argument (slot 0) is at the end -/
def outR (io : Bool) (ρ : Slots) (k : Option Val → FRes) : FRes := if io then (match getS ρ 0 with
  | some u => k (some u)
  | none => .stuck) else k none
def resF (d : FDef) : Out → FRes
  | .nx ρ => outR d.io ρ fun o => .ok .non o
  | .ret v ρ => if !d.flat || flatV v then outR d.io ρ fun o => .ok v o else .stuck
  | .err e ρ => if d.io then .stuck else .err e none
  | _ => .stuck
noncomputable def runF (d : FDef) (Φ : Nat → List Val → FRes) (vs : List Val) : FRes :=
  if vs.length = d.np then resF d (exec Φ d.body (vs.map some ++ List.replicate (d.nl - d.np) none)) else .stuck
/-- the defs that are proved by hand give their function; all others run -/
structure Prg where
  defs : Nat → Option FDef
  byHand : Nat → List Val → FRes
noncomputable def callN (P : Prg) : Nat → Nat → List Val → FRes
  | 0, _, _ => .stuck
  | n + 1, f, vs => match P.defs f with
    | some d => runF d (callN P n) vs
    | none => P.byHand f vs
end Pv
/-! Pv, part B: how values lie in the heap; which slots own their lists. -/
namespace Pv
open PySem PySem.Spec PyProof.Rows L2
mutual
/-- v stands still in S at x -/
inductive RepF (K : PySem.W.Frag) (S : Hp) : Val → V → Prop
  | non : RepF K S .non .non
  | bl (b : Bool) : RepF K S (.bl b) (.bl b)
  | int (i : Int) : RepF K S (.int i) (.int i)
  | str (x : Str) : RepF K S (.str x) (.str x)
  | tup {a : Addr} {vs : List V} {xs : List Val} : SqT K S a vs → RepL K S xs vs → RepF K S (.tup xs) (.ref a)
  | lst {a : Addr} {vs : List V} {xs : List Val} : S a = some (.lst vs) → RepL K S xs vs → RepF K S (.lst xs) (.ref a)
  | frl {a : Addr} {xs : List Int} : SqL K S a (xs.map V.int) → RepF K S (.frl xs) (.ref a)
  | pool {p q : Addr} {cs : List Int} {a n : Int} : S p = some (.lst [.ref q, .int a, .int n]) → S q = some (.lst (cs.map V.int)) → p ≠ q → RepF K S (.pool cs a n) (.ref p)
inductive RepL (K : PySem.W.Frag) (S : Hp) : List Val → List V → Prop
  | nil : RepL K S [] []
  | cons {v : Val} {x : V} {vs : List Val} {xs : List V} : RepF K S v x → RepL K S vs xs → RepL K S (v :: vs) (x :: xs)
end
theorem Same.sqt {K : PySem.W.Frag} {H H' : Hp} {a : Addr} {xs : List V} (e : Same H H') (h : SqT K H a xs) : SqT K H' a xs := by
  rcases h with (h | ⟨o, h⟩) | h
  · exact .inl (.inl (e _ _ h))
  · exact .inl (.inr ⟨o, e _ _ h⟩)
  · exact .inr h
mutual
theorem RepF.mono {K : PySem.W.Frag} {S S' : Hp} (e : Same S S') : ∀ {v : Val} {x : V}, RepF K S v x → RepF K S' v x
  | _, _, .non => .non
  | _, _, .bl b => .bl b
  | _, _, .int i => .int i
  | _, _, .str i => .str i
  | _, _, .tup h r => .tup (Same.sqt e h) (RepL.mono e r)
  | _, _, .lst h r => .lst (e _ _ h) (RepL.mono e r)
  | _, _, .frl h => .frl (e.seq h)
  | _, _, .pool h h' n => .pool (e _ _ h) (e _ _ h') n
theorem RepL.mono {K : PySem.W.Frag} {S S' : Hp} (e : Same S S') : ∀ {v : List Val} {x : List V}, RepL K S v x → RepL K S' v x
  | _, _, .nil => .nil
  | _, _, .cons h r => .cons (RepF.mono e h) (RepL.mono e r)
end
section
variable {K : PySem.W.Frag} {S S' H H' : Hp}
theorem RepL.length : ∀ {vs : List Val} {xs : List V}, RepL K S vs xs → vs.length = xs.length
  | _, _, .nil => rfl
  | _, _, .cons _ r => congrArg (· + 1) (RepL.length r)
theorem RepL.get : ∀ {vs : List Val} {xs : List V} {i : Nat} {v : Val}, RepL K S vs xs → vs[i]? = some v → ∃ x, xs[i]? = some x ∧ RepF K S v x
  | _, _, _, _, .nil, h => by simp at h
  | _, _, 0, _, .cons (x := x) r _, h => ⟨x, rfl, by simp at h; exact h ▸ r⟩
  | _, _, i + 1, _, .cons _ r, h => RepL.get (i := i) r (by simpa using h)
theorem RepL.get' : ∀ {vs : List Val} {xs : List V} {i : Nat} {x : V}, RepL K S vs xs → xs[i]? = some x → ∃ v, vs[i]? = some v ∧ RepF K S v x
  | _, _, _, _, .nil, h => by simp at h
  | _, _, 0, _, .cons (v := v) r _, h => ⟨v, rfl, by simp at h; exact h ▸ r⟩
  | _, _, i + 1, _, .cons _ r, h => RepL.get' (i := i) r (by simpa using h)
theorem RepL.append : ∀ {vs ws : List Val} {xs ys : List V}, RepL K S vs xs → RepL K S ws ys → RepL K S (vs ++ ws) (xs ++ ys)
  | _, _, _, _, .nil, h => h
  | _, _, _, _, .cons h r, t => .cons h (RepL.append r t)
theorem RepL.take : ∀ (n : Nat) {vs : List Val} {xs : List V}, RepL K S vs xs → RepL K S (vs.take n) (xs.take n)
  | 0, _, _, _ => by simpa using RepL.nil
  | n + 1, _, _, .nil => .nil
  | n + 1, _, _, .cons h r => .cons h (RepL.take n r)
theorem RepL.drop : ∀ (n : Nat) {vs : List Val} {xs : List V}, RepL K S vs xs → RepL K S (vs.drop n) (xs.drop n)
  | 0, _, _, h => h
  | n + 1, _, _, .nil => .nil
  | n + 1, _, _, .cons h r => RepL.drop n r
theorem RepL.set {v : Val} {x : V} (h : RepF K S v x) : ∀ (n : Nat) {vs : List Val} {xs : List V}, RepL K S vs xs → RepL K S (vs.set n v) (xs.set n x)
  | _, _, _, .nil => .nil
  | 0, _, _, .cons _ r => .cons h r
  | n + 1, _, _, .cons q r => .cons q (RepL.set h n r)
theorem RepL.eraseIdx : ∀ (n : Nat) {vs : List Val} {xs : List V}, RepL K S vs xs → RepL K S (vs.eraseIdx n) (xs.eraseIdx n)
  | _, _, _, .nil => .nil
  | 0, _, _, .cons _ r => r
  | n + 1, _, _, .cons q r => .cons q (RepL.eraseIdx n r)
theorem RepL.dropLast : ∀ {vs : List Val} {xs : List V}, RepL K S vs xs → RepL K S vs.dropLast xs.dropLast
  | _, _, .nil => .nil
  | _, _, .cons _ .nil => .nil
  | _, _, .cons h (.cons h' r) => .cons h (RepL.dropLast (.cons h' r))
theorem RepL.reverse : ∀ {vs : List Val} {xs : List V}, RepL K S vs xs → RepL K S vs.reverse xs.reverse
  | _, _, .nil => .nil
  | _, _, .cons h r => by
    rw [List.reverse_cons, List.reverse_cons]
    exact RepL.append (RepL.reverse r) (.cons h .nil)
theorem RepL.ints : ∀ (ns : List Int), RepL K S (ns.map Val.int) (ns.map V.int)
  | [] => .nil
  | n :: r => .cons (.int n) (RepL.ints r)
theorem RepL.rep {vs : List Val} {xs : List V} (h : RepL K S vs xs) : ∀ k : Nat, RepL K S (List.replicate k vs).flatten (List.replicate k xs).flatten
  | 0 => .nil
  | k + 1 => by
    rw [List.replicate_succ, List.replicate_succ, List.flatten_cons, List.flatten_cons]
    exact RepL.append h (RepL.rep h k)
/-- a value that its place owns (o) -/
def RepO (K : PySem.W.Frag) (o : Bool) (S H : Hp) (v : Val) (x : V) : Prop :=
  match o, v with
  | true, .lst xs => ∃ p vs, x = .ref p ∧ H p = some (.lst vs) ∧ RepL K S xs vs
  | true, .pool cs a n => ∃ p q, x = .ref p ∧ H p = some (.lst [.ref q, .int a, .int n]) ∧ H q = some (.lst (cs.map V.int)) ∧ p ≠ q
  | _, v => RepF K S v x
def Owns (o : Bool) (H : Hp) (v : Val) (x : V) (a : Addr) : Prop :=
  match o, v with
  | true, .lst _ => x = .ref a
  | true, .pool _ _ _ => x = .ref a ∨ ∃ p t, x = .ref p ∧ H p = some (.lst (.ref a :: t))
  | _, _ => False
theorem RepO.of {o : Bool} {v : Val} {x : V} (h : RepF K S v x) (n : o = false ∨ (∀ xs, v ≠ .lst xs) ∧ ∀ cs a n, v ≠ .pool cs a n) : RepO K o S H v x := by
  unfold RepO
  split
  · rcases n with n | n
    · cases n
    · exact absurd rfl (n.1 _)
  · rcases n with n | n
    · cases n
    · exact absurd rfl (n.2 _ _ _)
  · exact h
theorem Owns.no {o : Bool} {v : Val} {x : V} {a : Addr} (n : o = false ∨ (∀ xs, v ≠ .lst xs) ∧ ∀ cs a n, v ≠ .pool cs a n) : ¬ Owns o H v x a := by
  unfold Owns
  split
  · rcases n with n | n
    · cases n
    · exact absurd rfl (n.1 _)
  · rcases n with n | n
    · cases n
    · exact absurd rfl (n.2 _ _ _)
  · exact id
theorem RepO.false {v : Val} {x : V} : RepO K false S H v x ↔ RepF K S v x := by
  unfold RepO; split <;> first | contradiction | exact Iff.rfl
theorem Owns.false {v : Val} {x : V} {a : Addr} : ¬ Owns false H v x a := Owns.no (.inl rfl)
theorem RepO.mono {o : Bool} {v : Val} {x : V} (h : RepO K o S H v x) (e : Same S S') (k : ∀ a, Owns o H v x a → H' a = H a) : RepO K o S' H' v x := by
  unfold RepO at h ⊢
  unfold Owns at k
  split at h
  · obtain ⟨p, vs, rfl, hp, r⟩ := h
    exact ⟨p, vs, rfl, (k p rfl).trans hp, r.mono e⟩
  · obtain ⟨p, q, rfl, hp, hq, n⟩ := h
    exact ⟨p, q, rfl, (k p (.inl rfl)).trans hp, (k q (.inr ⟨p, _, rfl, hp⟩)).trans hq, n⟩
  · exact h.mono e
theorem Owns.back {o : Bool} {v : Val} {x : V} {a : Addr} (h : RepO K o S H v x) (k : ∀ a, Owns o H v x a → H' a = H a) (w : Owns o H' v x a) : Owns o H v x a := by
  cases o with
  | false => exact (Owns.false w).elim
  | true =>
    cases v with
    | lst xs => exact w
    | pool cs a n =>
      obtain ⟨p, q, rfl, hp, hq, n⟩ := h
      rcases w with w | ⟨p', t, e, hp'⟩
      · exact .inl w
      · cases e
        exact .inr ⟨p, t, rfl, (k p (.inl rfl)) ▸ hp'⟩
    | _ => exact False.elim w
theorem Owns.at {o : Bool} {v : Val} {x : V} {a : Addr} (h : RepO K o S H v x) (w : Owns o H v x a) : ∃ vs, H a = some (.lst vs) := by
  cases o with
  | false => exact (Owns.false w).elim
  | true =>
    cases v with
    | lst xs =>
      obtain ⟨p, vs, rfl, hp, r⟩ := h
      cases w
      exact ⟨_, hp⟩
    | pool cs a n =>
      obtain ⟨p, q, rfl, hp, hq, n⟩ := h
      rcases w with w | ⟨p', t, e, hp'⟩
      · cases w
        exact ⟨_, hp⟩
      · cases e
        rw [hp] at hp'
        cases hp'
        exact ⟨_, hq⟩
    | _ => exact False.elim w
/-- what is owned stands still in S with its cells added -/
theorem RepO.freeze {o : Bool} {v : Val} {x : V} (h : RepO K o S H v x) (e : Same S S') (k : ∀ a, Owns o H v x a → S' a = H a) : RepF K S' v x := by
  unfold RepO at h
  unfold Owns at k
  split at h
  · obtain ⟨p, vs, rfl, hp, r⟩ := h
    exact .lst ((k p rfl).trans hp) (r.mono e)
  · obtain ⟨p, q, rfl, hp, hq, n⟩ := h
    exact .pool ((k p (.inl rfl)).trans hp) ((k q (.inr ⟨p, _, rfl, hp⟩)).trans hq) n
  · exact h.mono e
end
abbrev Own := List Bool
def ownAt (ω : Own) (i : Nat) : Bool := ω.getD i false
/-- a def's frame: S0 what stood still at its begin, B what it must leave as it is, io: the argument that it may change -/
structure Frm where
  S0 : Hp
  B : Hp
  io : Option V
structure Gd (K : PySem.W.Frag) (F : Frm) (S H : Hp) (ω : Own) (ρ : Slots) (σ : L2.St) : Prop where
  sub : Same S H
  s0 : Same F.S0 S
  fr : Same F.B H
  nw : ∀ a o, S a = some o → F.S0 a = some o ∨ F.B a = none
  len : ρ.length = σ.length
  rep : ∀ i v, ρ[i]? = some (some v) → ∃ x, σ[i]? = some (some x) ∧ RepO K (ownAt ω i) S H v x
  own : ∀ i v x, ρ[i]? = some (some v) → σ[i]? = some (some x) → ∀ a, Owns (ownAt ω i) H v x a → S a = none ∧ F.B a = none
  dis : ∀ i j v w x y a, ρ[i]? = some (some v) → σ[i]? = some (some x) → ρ[j]? = some (some w) → σ[j]? = some (some y) → Owns (ownAt ω i) H v x a → Owns (ownAt ω j) H w y a → i = j
  io : ∀ x, F.io = some x → σ[0]? = some (some x)
/-- an address that some slot owns -/
def Slo (ω : Own) (H : Hp) (ρ : Slots) (σ : L2.St) (a : Addr) : Prop := ∃ i v x, ρ[i]? = some (some v) ∧ σ[i]? = some (some x) ∧ Owns (ownAt ω i) H v x a
section
variable {K : PySem.W.Frag} {F : Frm} {S S' H H' : Hp} {ω ω' : Own} {ρ : Slots} {σ : L2.St}
theorem Gd.slo (g : Gd K F S H ω ρ σ) {a : Addr} (h : Slo ω H ρ σ a) : S a = none ∧ F.B a = none ∧ ∃ vs, H a = some (.lst vs) := by
  obtain ⟨i, v, x, h1, h2, w⟩ := h
  obtain ⟨y, h3, r⟩ := g.rep i v h1
  rw [h2] at h3
  cases h3
  exact ⟨(g.own i v x h1 h2 a w).1, (g.own i v x h1 h2 a w).2, w.at r⟩
/-- the heap grows, or changes where nothing looks -/
theorem Gd.grow (g : Gd K F S H ω ρ σ) (e : Same S S') (e' : Same S' H') (b : Same F.B H') (nw : ∀ a o, S' a = some o → S a = some o ∨ F.B a = none)
    (k : ∀ a, Slo ω H ρ σ a → H' a = H a) (nS : ∀ a, Slo ω H ρ σ a → S' a = none) : Gd K F S' H' ω ρ σ := by
  have kk : ∀ i v x, ρ[i]? = some (some v) → σ[i]? = some (some x) → ∀ a, Owns (ownAt ω i) H v x a → H' a = H a := fun i v x h1 h2 a w => k a ⟨i, v, x, h1, h2, w⟩
  have bk : ∀ i v x, ρ[i]? = some (some v) → σ[i]? = some (some x) → ∀ a, Owns (ownAt ω i) H' v x a → Owns (ownAt ω i) H v x a := fun i v x h1 h2 a w => by
    obtain ⟨y, h3, r⟩ := g.rep i v h1
    rw [h2] at h3
    cases h3
    exact w.back r (kk i v x h1 h2)
  refine ⟨e', g.s0.trans e, b, fun a o q => ?_, g.len, fun i v h1 => ?_, fun i v x h1 h2 a w => ?_, fun i j v w x y a h1 h2 h3 h4 w1 w2 => ?_, g.io⟩
  · rcases nw a o q with q | q
    · exact g.nw a o q
    · exact .inr q
  · obtain ⟨x, h2, r⟩ := g.rep i v h1
    exact ⟨x, h2, r.mono e (kk i v x h1 h2)⟩
  · have w' := bk i v x h1 h2 a w
    exact ⟨nS a ⟨i, v, x, h1, h2, w'⟩, (g.own i v x h1 h2 a w').2⟩
  · exact g.dis i j v w x y a h1 h2 h3 h4 (bk i v x h1 h2 a w1) (bk j w y h3 h4 a w2)
/-- a new object, not yet anybody's -/
theorem Gd.alloc (g : Gd K F S H ω ρ σ) {p : Addr} {o : HO} (hp : H p = none) : Gd K F S (upd H p o) ω ρ σ := by
  have ne : ∀ a u, H a = some u → a ≠ p := fun a u q z => by rw [z, hp] at q; cases q
  refine g.grow (Same.refl _) (fun a u q => ?_) (fun a u q => ?_) (fun a u q => .inl q) (fun a h => ?_) (fun a h => (g.slo h).1)
  · rw [upd_ne (ne a u (g.sub a u q))]; exact g.sub a u q
  · rw [upd_ne (ne a u (g.fr a u q))]; exact g.fr a u q
  · obtain ⟨_, _, vs, q⟩ := g.slo h
    rw [upd_ne (ne a _ q)]
theorem Gd.free (g : Gd K F S H ω ρ σ) {p : Addr} (hp : H p = none) : S p = none ∧ F.B p = none := by
  refine ⟨?_, ?_⟩
  · cases q : S p with
    | none => rfl
    | some u => have := g.sub p u q; rw [hp] at this; cases this
  · cases q : F.B p with
    | none => rfl
    | some u => have := g.fr p u q; rw [hp] at this; cases this
/-- an object that nobody owns comes to stand still -/
theorem Gd.still (g : Gd K F S H ω ρ σ) {p : Addr} {o : HO} (hp : H p = some o) (hS : S p = none) (hB : F.B p = none) (no : ¬ Slo ω H ρ σ p) : Same S (upd S p o) ∧ Gd K F (upd S p o) H ω ρ σ := by
  have e : Same S (upd S p o) := fun a u q => by
    rw [upd_ne (fun z => by rw [z, hS] at q; cases q)]; exact q
  refine ⟨e, g.grow e (fun a u q => ?_) g.fr (fun a u q => ?_) (fun a _ => rfl) (fun a h => ?_)⟩
  · by_cases z : a = p
    · subst z; rw [upd_same] at q; cases q; exact hp
    · rw [upd_ne z] at q; exact g.sub a u q
  · by_cases z : a = p
    · subst z; exact .inr hB
    · rw [upd_ne z] at q; exact .inl q
  · have na : a ≠ p := fun z => no (by rw [← z]; exact h)
    rw [upd_ne na]; exact (g.slo h).1
theorem Gd.new (g : Gd K F S H ω ρ σ) {p : Addr} {o : HO} (hp : H p = none) : Same S (upd S p o) ∧ Gd K F (upd S p o) (upd H p o) ω ρ σ := by
  have g1 := g.alloc (o := o) hp
  exact g1.still upd_same (g.free hp).1 (g.free hp).2 fun ⟨i, v, x, h1, h2, w⟩ => by
    have q := g.slo (a := p) ⟨i, v, x, h1, h2, by
      obtain ⟨y, h3, r⟩ := g.rep i v h1
      rw [h2] at h3
      cases h3
      refine w.back r fun a w => ?_
      obtain ⟨vs, q⟩ := w.at r
      exact upd_ne fun z => by rw [z, hp] at q; cases q⟩
    obtain ⟨_, _, vs, q⟩ := q
    rw [hp] at q
    cases q
open Classical in
/-- fewer slots own -/
theorem Gd.le (g : Gd K F S H ω ρ σ) (h : ∀ i, ownAt ω' i = true → ownAt ω i = true) : ∃ S', Same S S' ∧ Gd K F S' H ω' ρ σ ∧ ∀ a, ¬ Slo ω H ρ σ a → S' a = S a := by
  let P : Addr → Prop := fun a => ∃ i v x, ρ[i]? = some (some v) ∧ σ[i]? = some (some x) ∧ Owns (ownAt ω i) H v x a ∧ ownAt ω' i = false
  let S' : Hp := fun a => if P a then H a else S a
  have pS : ∀ a, P a → S a = none ∧ F.B a = none := fun a ⟨i, v, x, h1, h2, w, _⟩ => g.own i v x h1 h2 a w
  have e : Same S S' := fun a o q => by
    show (if P a then H a else S a) = some o
    rw [if_neg fun z => by rw [(pS a z).1] at q; cases q]
    exact q
  have np : ∀ i v x a, ρ[i]? = some (some v) → σ[i]? = some (some x) → Owns (ownAt ω' i) H v x a → Owns (ownAt ω i) H v x a ∧ ¬ P a := fun i v x a h1 h2 w => by
    have hi : ownAt ω' i = true := by
      cases q : ownAt ω' i with
      | true => rfl
      | false => rw [q] at w; exact (Owns.false w).elim
    have hj := h i hi
    have w' : Owns (ownAt ω i) H v x a := by rw [hj]; rw [hi] at w; exact w
    refine ⟨w', fun ⟨j, v', x', h3, h4, w2, hf⟩ => ?_⟩
    have q := g.dis i j v v' x x' a h1 h2 h3 h4 w' w2
    subst q
    rw [hi] at hf
    cases hf
  refine ⟨S', e, ⟨fun a o q => ?_, g.s0.trans e, g.fr, fun a o q => ?_, g.len, fun i v h1 => ?_, fun i v x h1 h2 a w => ?_, fun i j v w x y a h1 h2 h3 h4 w1 w2 => ?_, g.io⟩, fun a na => ?_⟩
  · have q : (if P a then H a else S a) = some o := q
    split at q
    · exact q
    · exact g.sub a o q
  · have q : (if P a then H a else S a) = some o := q
    split at q
    · rename_i z; exact .inr (pS a z).2
    · exact g.nw a o q
  · obtain ⟨x, h2, r⟩ := g.rep i v h1
    refine ⟨x, h2, ?_⟩
    cases q : ownAt ω' i with
    | true =>
      rw [h i q] at r
      exact r.mono e fun a _ => rfl
    | false =>
      rw [RepO.false]
      refine r.freeze e fun a w => ?_
      exact if_pos ⟨i, v, x, h1, h2, w, q⟩
  · obtain ⟨w', n⟩ := np i v x a h1 h2 w
    refine ⟨?_, (g.own i v x h1 h2 a w').2⟩
    show (if P a then H a else S a) = none
    rw [if_neg n]
    exact (g.own i v x h1 h2 a w').1
  · exact g.dis i j v w x y a h1 h2 h3 h4 (np i v x a h1 h2 w1).1 (np j w y a h3 h4 w2).1
  · exact if_neg fun ⟨i, v, x, h1, h2, w, _⟩ => na ⟨i, v, x, h1, h2, w⟩
theorem ownAt_set (ω : Own) (i j : Nat) (b : Bool) : ownAt (ω.set i b) j = if i = j ∧ j < ω.length then b else ownAt ω j := by
  unfold ownAt
  rw [List.getD_eq_getElem?_getD, List.getD_eq_getElem?_getD, List.getElem?_set]
  by_cases h : i = j
  · subst h
    by_cases h2 : i < ω.length
    · simp [h2]
    · simp [h2, List.getElem?_eq_none (by omega : ω.length ≤ i)]
  · simp [h]
theorem ownAt_setF (ω : Own) (i j : Nat) : ownAt (ω.set i false) j = true → ownAt ω j = true := fun h => by
  rw [ownAt_set] at h
  split at h
  · cases h
  · exact h
theorem ownAt_setF' (ω : Own) (i : Nat) : ownAt (ω.set i false) i = false := by
  rw [ownAt_set]
  split
  · rfl
  · rename_i h
    unfold ownAt
    rw [List.getD_eq_getElem?_getD, List.getElem?_eq_none (by simpa using h)]
    rfl
/-- a slot's value stands still from here on -/
theorem Gd.freeze (g : Gd K F S H ω ρ σ) (i : Nat) : ∃ S', Same S S' ∧ Gd K F S' H (ω.set i false) ρ σ := by
  obtain ⟨S', h1, h2, _⟩ := g.le (ω' := ω.set i false) fun j h => ownAt_setF ω i j h
  exact ⟨S', h1, h2⟩
theorem Gd.frz (g : Gd K F S H ω ρ σ) {i : Nat} {v : Val} (ho : ownAt ω i = false) (h : ρ[i]? = some (some v)) : ∃ x, σ[i]? = some (some x) ∧ RepF K S v x := by
  obtain ⟨x, h2, r⟩ := g.rep i v h
  rw [ho, RepO.false] at r
  exact ⟨x, h2, r⟩
/-- a slot gets a value -/
theorem Gd.set (g : Gd K F S H ω ρ σ) {i : Nat} {o : Bool} {v : Val} {x : V} (r : RepO K o S H v x) (ho : ∀ a, Owns o H v x a → S a = none ∧ F.B a = none ∧ ¬ Slo ω H ρ σ a) (hio : F.io = none ∨ i ≠ 0)
    (ho2 : ownAt ω' i = o) (ho3 : ∀ j, j ≠ i → ownAt ω' j = ownAt ω j) : Gd K F S H ω' (ρ.set i (some v)) (σ.set i (some x)) := by
  have look : ∀ j w y, (ρ.set i (some v))[j]? = some (some w) → (σ.set i (some x))[j]? = some (some y) → (j = i ∧ w = v ∧ y = x) ∨ (j ≠ i ∧ ρ[j]? = some (some w) ∧ σ[j]? = some (some y)) := fun j w y h1 h2 => by
    by_cases z : i = j
    · subst z
      left
      have hl : i < ρ.length := by
        have := (List.getElem?_eq_some_iff.mp h1).1
        simpa using this
      rw [List.getElem?_set_self hl] at h1
      rw [List.getElem?_set_self (g.len ▸ hl)] at h2
      cases h1
      cases h2
      exact ⟨rfl, rfl, rfl⟩
    · right
      rw [List.getElem?_set_ne z] at h1 h2
      exact ⟨fun e => z e.symm, h1, h2⟩
  refine ⟨g.sub, g.s0, g.fr, g.nw, by simp [g.len], fun j w h1 => ?_, fun j w y h1 h2 a ow => ?_, fun j k w w' y y' a h1 h2 h3 h4 w1 w2 => ?_, fun y hy => ?_⟩
  · by_cases z : i = j
    · subst z
      have hl : i < ρ.length := by
        have := (List.getElem?_eq_some_iff.mp h1).1
        simpa using this
      rw [List.getElem?_set_self hl] at h1
      cases h1
      refine ⟨x, List.getElem?_set_self (g.len ▸ hl), ?_⟩
      rw [ho2]
      exact r
    · rw [List.getElem?_set_ne z] at h1
      obtain ⟨y, h2, q⟩ := g.rep j w h1
      refine ⟨y, by rw [List.getElem?_set_ne z]; exact h2, ?_⟩
      rw [ho3 j fun e => z e.symm]
      exact q
  · rcases look j w y h1 h2 with ⟨rfl, rfl, rfl⟩ | ⟨n, h1, h2⟩
    · rw [ho2] at ow
      exact ⟨(ho a ow).1, (ho a ow).2.1⟩
    · rw [ho3 j n] at ow
      exact g.own j w y h1 h2 a ow
  · rcases look j w y h1 h2 with ⟨rfl, rfl, rfl⟩ | ⟨n, e1, e2⟩
    · rcases look k w' y' h3 h4 with ⟨rfl, rfl, rfl⟩ | ⟨n', e3, e4⟩
      · rfl
      · rw [ho2] at w1
        rw [ho3 k n'] at w2
        exact ((ho a w1).2.2 ⟨k, w', y', e3, e4, w2⟩).elim
    · rcases look k w' y' h3 h4 with ⟨rfl, rfl, rfl⟩ | ⟨n', e3, e4⟩
      · rw [ho2] at w2
        rw [ho3 j n] at w1
        exact ((ho a w2).2.2 ⟨j, w, y, e1, e2, w1⟩).elim
      · rw [ho3 j n] at w1
        rw [ho3 k n'] at w2
        exact g.dis j k w w' y y' a e1 e2 e3 e4 w1 w2
  · rcases hio with q | q
    · rw [q] at hy; cases hy
    · rw [List.getElem?_set_ne q]
      exact g.io y hy
/-- the slot's own list is changed in place -/
theorem Gd.write (g : Gd K F S H ω ρ σ) {i : Nat} {p : Addr} {xs xs' : List Val} {vs' : List V} (ho : ownAt ω i = true) (h1 : ρ[i]? = some (some (.lst xs))) (h2 : σ[i]? = some (some (.ref p)))
    (r : RepL K S xs' vs') : Gd K F S (upd H p (.lst vs')) ω (ρ.set i (some (.lst xs'))) σ := by
  have ow : Owns (ownAt ω i) H (.lst xs) (.ref p) p := by rw [ho]; exact rfl
  have sl : Slo ω H ρ σ p := ⟨i, _, _, h1, h2, ow⟩
  obtain ⟨nS, nB, _⟩ := g.slo sl
  have hl : i < ρ.length := (List.getElem?_eq_some_iff.mp h1).1
  have other : ∀ j w y, j ≠ i → ρ[j]? = some (some w) → σ[j]? = some (some y) → ∀ a, Owns (ownAt ω j) H w y a → a ≠ p := fun j w y n h3 h4 a q z => by
    subst z
    exact n (g.dis j i w _ y _ a h3 h4 h1 h2 q ow)
  have kp : ∀ j w y, j ≠ i → ρ[j]? = some (some w) → σ[j]? = some (some y) → ∀ a, Owns (ownAt ω j) H w y a → upd H p (.lst vs') a = H a := fun j w y n h3 h4 a q => upd_ne (other j w y n h3 h4 a q)
  have bk : ∀ j w y, j ≠ i → ρ[j]? = some (some w) → σ[j]? = some (some y) → ∀ a, Owns (ownAt ω j) (upd H p (.lst vs')) w y a → Owns (ownAt ω j) H w y a := fun j w y n h3 h4 a q => by
    obtain ⟨z, h5, r5⟩ := g.rep j w h3
    rw [h4] at h5
    cases h5
    exact q.back r5 (kp j w y n h3 h4)
  have look : ∀ j w y, (ρ.set i (some (.lst xs')))[j]? = some (some w) → σ[j]? = some (some y) → (j = i ∧ w = .lst xs' ∧ y = .ref p) ∨ (j ≠ i ∧ ρ[j]? = some (some w)) := fun j w y h3 h4 => by
    by_cases z : i = j
    · subst z
      rw [List.getElem?_set_self hl] at h3
      rw [h2] at h4
      cases h3
      cases h4
      exact .inl ⟨rfl, rfl, rfl⟩
    · rw [List.getElem?_set_ne z] at h3
      exact .inr ⟨fun e => z e.symm, h3⟩
  refine ⟨fun a u q => ?_, g.s0, fun a u q => ?_, g.nw, by simp [g.len], fun j w h3 => ?_, fun j w y h3 h4 a q => ?_, fun j k w w' y y' a h3 h4 h5 h6 w1 w2 => ?_, g.io⟩
  · rw [upd_ne (fun z => by rw [z, nS] at q; cases q)]; exact g.sub a u q
  · rw [upd_ne (fun z => by rw [z, nB] at q; cases q)]; exact g.fr a u q
  · by_cases z : i = j
    · subst z
      rw [List.getElem?_set_self hl] at h3
      cases h3
      refine ⟨_, h2, ?_⟩
      rw [ho]
      exact ⟨p, vs', rfl, upd_same, r⟩
    · rw [List.getElem?_set_ne z] at h3
      obtain ⟨y, h4, q⟩ := g.rep j w h3
      exact ⟨y, h4, q.mono (Same.refl _) (kp j w y (fun e => z e.symm) h3 h4)⟩
  · rcases look j w y h3 h4 with ⟨rfl, rfl, rfl⟩ | ⟨n, h3⟩
    · have e : Owns (ownAt ω j) (upd H p (.lst vs')) (.lst xs') (.ref p) a := q
      rw [ho] at e
      have e : V.ref p = .ref a := e
      cases e
      exact ⟨nS, nB⟩
    · exact g.own j w y h3 h4 a (bk j w y n h3 h4 a q)
  · rcases look j w y h3 h4 with ⟨rfl, rfl, rfl⟩ | ⟨n, e3⟩
    · rcases look k w' y' h5 h6 with ⟨rfl, rfl, rfl⟩ | ⟨n', e5⟩
      · rfl
      · rw [ho] at w1
        have e : V.ref p = .ref a := w1
        cases e
        exact absurd rfl (other k w' y' n' e5 h6 _ (bk k w' y' n' e5 h6 _ w2))
    · rcases look k w' y' h5 h6 with ⟨rfl, rfl, rfl⟩ | ⟨n', e5⟩
      · rw [ho] at w2
        have e : V.ref p = .ref a := w2
        cases e
        exact absurd rfl (other j w y n e3 h4 _ (bk j w y n e3 h4 _ w1))
      · exact g.dis j k w w' y y' a e3 h4 e5 h6 (bk j w y n e3 h4 a w1) (bk k w' y' n' e5 h6 a w2)
/-- what a reader finds: a list, a tuple -/
theorem RepO.read {o : Bool} {v : Val} {x : V} (h : RepO K o S H v x) (e : Same S H) : RepF K H v x := h.freeze e fun _ _ => rfl
end
end Pv
/-! Pv, part C: the look at ownership; readings. -/
namespace Pv
open PySem PySem.Spec PyProof.Rows L2
structure Sig where
  io : Bool
  own : Bool
  flat : Bool
section
variable (sg : Nat → Sig)
def freshOp : Op → Bool
  | .ix => false
  | _ => true
/-- a list that it gives is new, and nobody else's -/
def freshE : ME → Bool
  | .lit _ => true
  | .app o _ => freshOp o
  | .call f _ => (sg f).own || (sg f).flat
  | .callio f _ _ => (sg f).own || (sg f).flat
  | .mut m _ _ => match m with | .pop => false | _ => true
  | .not_ _ => true
  | .and_ _ b => freshE b
  | .or_ _ b => freshE b
  | .ife _ a b => freshE a && freshE b
  | .chain _ _ _ _ _ => true
  | .comp _ _ _ _ _ _ => true
  | _ => false
def meet (a b : Own) : Own := List.zipWith (· && ·) a b
def setF (ω : Own) : List Nat → Own
  | [] => ω
  | i :: is => (setF ω is).set i false
def loopO (F : Own → Option Own) : Nat → Own → Option Own
  | 0, _ => none
  | k + 1, ω => match F ω with
    | none => none
    | some ω1 => if meet ω ω1 = ω then some ω else loopO F k (meet ω ω1)
def borrowOp : Op → Bool
  | .tup => false
  | .lst => false
  | _ => true
/-- the names of an argument list, no more owned -/
def frzA : ME → Own → Own
  | .cons a as, ω => match isVar a with
    | some i => (frzA as ω).set i false
    | none => frzA as ω
  | _, ω => ω
/-- an argument list that begins with the name in slot i; its rest, no more owned -/
def headIs (i : Nat) : ME → Bool
  | .cons (.var j) _ => i == j
  | _ => false
def frzT : ME → Own → Own
  | .cons _ as, ω => frzA as ω
  | _, ω => ω
mutual
def ownE : ME → Own → Option Own
  | .var i, ω => some (ω.set i false)
  | .lit _, ω => some ω
  | .app o as, ω => (ownL as ω).map fun ω1 => if borrowOp o then ω1 else frzA as ω1
  | .call f as, ω => if (sg f).io then none else (ownL as ω).map fun ω1 => if (sg f).flat then ω1 else frzA as ω1
  | .callio f i as, ω => if (sg f).io && headIs i as then (ownL as ω).bind fun ω1 => if ownAt (frzT as ω1) i then some (frzT as ω1) else none else none
  | .mut _ i as, ω => (ownL as ω).bind fun ω1 => if ownAt (frzA as ω1) i then some (frzA as ω1) else none
  | .not_ a, ω => ownE a ω
  | .and_ a b, ω => (ownE a ω).bind fun ω1 => (ownE b ω1).map (meet ω1)
  | .or_ a b, ω => (ownE a ω).bind fun ω1 => (ownE b ω1).map (meet ω1)
  | .ife c a b, ω => (ownT c ω).bind fun ω1 => (ownE a ω1).bind fun ω2 => (ownE b ω1).map (meet ω2)
  | .chain _ _ a b c, ω => (ownE a ω).bind fun ω1 => (ownE b ω1).bind fun ω2 => (ownE c ω2).map (meet ω2)
  | .comp vs tg _ it c e, ω => (ownI it ω).bind fun ω1 => loopO (fun ω2 => (ownT c (setF ω2 tg)).bind fun ω3 => (ownE e ω3).map fun ω4 => meet ω3 ω4) 6 (setF ω1 vs)
  | _, _ => none
def ownL : ME → Own → Option Own
  | .nil, ω => some ω
  | .cons a as, ω => match isVar a with
    | some _ => ownL as ω
    | none => (ownE a ω).bind fun ω1 => ownL as ω1
  | _, _ => none
def ownT : ME → Own → Option Own
  | .not_ a, ω => ownT a ω
  | .and_ a b, ω => (ownT a ω).bind fun ω1 => (ownT b ω1).map (meet ω1)
  | .or_ a b, ω => (ownT a ω).bind fun ω1 => (ownT b ω1).map (meet ω1)
  | .var _, ω => some ω
  | .app o as, ω => (ownL as ω).map fun ω1 => if borrowOp o then ω1 else frzA as ω1
  | .call f as, ω => if (sg f).io then none else (ownL as ω).map fun ω1 => if (sg f).flat then ω1 else frzA as ω1
  | .callio f i as, ω => if (sg f).io && headIs i as then (ownL as ω).bind fun ω1 => if ownAt (frzT as ω1) i then some (frzT as ω1) else none else none
  | .chain _ _ a b c, ω => (ownE a ω).bind fun ω1 => (ownE b ω1).bind fun ω2 => (ownE c ω2).map (meet ω2)
  | .lit _, ω => some ω
  | _, _ => none
def ownI : ME → Own → Option Own
  | .seq a, ω => ownE a ω
  | .rng as, ω => ownL as ω
  | .enum a, ω => ownE a ω
  | _, _ => none
end
structure OwnO where
  nx : Own
  bk : Own
  ct : Own
  deriving DecidableEq
def OwnO.meet (a b : OwnO) : OwnO := ⟨Pv.meet a.nx b.nx, Pv.meet a.bk b.bk, Pv.meet a.ct b.ct⟩
/-- n slots; io: the first argument may be changed; own: what is handed back is new -/
def ownS (n : Nat) (io own : Bool) : MS → Own → Option OwnO
  | .nil, ω => some ⟨ω, List.replicate n true, List.replicate n true⟩
  | .cons s r, ω => (ownS n io own s ω).bind fun o => (ownS n io own r o.nx).map fun o2 => ⟨o2.nx, meet o.bk o2.bk, meet o.ct o2.ct⟩
  | .asg i e, ω => if io && i == 0 then none else (ownE sg e ω).bind fun ω1 => if i < ω1.length then some ⟨ω1.set i (freshE sg e), List.replicate n true, List.replicate n true⟩ else none
  | .asgT is e, ω => if io && is.contains 0 then none else (ownE sg e ω).map fun ω1 => ⟨setF ω1 is, List.replicate n true, List.replicate n true⟩
  | .aug i _ e, ω => if io && i == 0 then none else (ownE sg e ω).map fun ω1 => ⟨ω1.set i false, List.replicate n true, List.replicate n true⟩
  | .setix i ix e, ω => (ownL sg (.cons e (.cons (.var i) (.cons ix .nil))) ω).bind fun ω1 => if ownAt (frzA (.cons e (.cons ix .nil)) ω1) i then some ⟨frzA (.cons e (.cons ix .nil)) ω1, List.replicate n true, List.replicate n true⟩ else none
  | .exp e, ω => (ownE sg e ω).map fun ω1 => ⟨ω1, List.replicate n true, List.replicate n true⟩
  | .ret e, ω => match isVar e with
    | some i => if (!own || ownAt ω i) && (!io || (ownAt ω 0 && i != 0)) then some ⟨List.replicate n true, List.replicate n true, List.replicate n true⟩ else none
    | none => (ownE sg e ω).bind fun ω1 => if (!own || freshE sg e) && (!io || ownAt ω1 0) then some ⟨List.replicate n true, List.replicate n true, List.replicate n true⟩ else none
  | .retN, ω => if !io || ownAt ω 0 then some ⟨List.replicate n true, List.replicate n true, List.replicate n true⟩ else none
  | .ife c a b, ω => (ownT sg c ω).bind fun ω1 => (ownS n io own a ω1).bind fun o => (ownS n io own b ω1).map fun o2 => o.meet o2
  | .for_ tg _ it b, ω => if io && tg.contains 0 then none else (ownI sg it ω).bind fun ω1 =>
      (loopO (fun ω2 => (ownS n io own b (setF ω2 tg)).map fun o => meet o.nx o.ct) 6 ω1).bind fun ωh =>
        (ownS n io own b (setF ωh tg)).map fun o => ⟨meet ωh o.bk, List.replicate n true, List.replicate n true⟩
  | .while_ c b, ω => (loopO (fun ω2 => (ownT sg c ω2).bind fun ω3 => (ownS n io own b ω3).map fun o => meet o.nx o.ct) 6 ω).bind fun ωh =>
      (ownT sg c ωh).bind fun ω3 => (ownS n io own b ω3).map fun o => ⟨meet ω3 o.bk, List.replicate n true, List.replicate n true⟩
  | .pass, ω => some ⟨ω, List.replicate n true, List.replicate n true⟩
  | .brk, ω => some ⟨List.replicate n true, ω, List.replicate n true⟩
  | .cont, ω => some ⟨List.replicate n true, List.replicate n true, ω⟩
def startO (d : FDef) : Own := (List.replicate d.np false ++ List.replicate (d.nl - d.np) true).set 0 (d.io || d.np == 0)
def ownF (d : FDef) : Bool := match ownS sg d.nl d.io d.own d.body (startO d) with
  | some o => !d.io || ownAt o.nx 0
  | none => false
end
/-! ### readings -/
structure Gam where
  K : PySem.W.Frag
  sg : Nat → Sig
  Φ : Nat → List Val → FRes
  xr : Exc → Value → Option Addr → Hp → Prop
  xrm : ∀ {e c d S S'}, Same S S' → xr e c d S → xr e c d S'
/-- a value that is nobody's yet -/
def Mine (F : Frm) (S H : Hp) (ω : Own) (ρ : Slots) (σ : L2.St) (o : Bool) (v : Val) (x : V) : Prop := ∀ a, Owns o H v x a → S a = none ∧ F.B a = none ∧ ¬ Slo ω H ρ σ a
def tE (G : Gam) (W : WX) (ω ω' : Own) (o : Bool) (f : Slots → Res Val) : TE := fun σ H Q => ∃ F S ρ, Gd G.K F S H ω ρ σ ∧
  match f ρ with
  | .ok v ρ' => ∀ x S' H', Same S S' → Gd G.K F S' H' ω' ρ' σ → RepO G.K o S' H' v x → Mine F S' H' ω' ρ' σ o v x → Q x H'
  | .err e ρ' => ∀ cls d S' H', Same S S' → Gd G.K F S' H' [] ρ' σ → G.xr e cls d S' → W cls d σ H'
  | .stuck => False
def tT (G : Gam) (W : WX) (ω ω' : Own) (f : Slots → Res Bool) : TT := fun σ H Q => ∃ F S ρ, Gd G.K F S H ω ρ σ ∧
  match f ρ with
  | .ok b ρ' => ∀ S' H', Same S S' → Gd G.K F S' H' ω' ρ' σ → Q b H'
  | .err e ρ' => ∀ cls d S' H', Same S S' → Gd G.K F S' H' [] ρ' σ → G.xr e cls d S' → W cls d σ H'
  | .stuck => False
/-- evaluated arguments: names are read at the end -/
def ArgR (K : PySem.W.Frag) (S : Hp) (ρ : Slots) (σ : L2.St) : ME → List Val → List V → Prop
  | .nil, [], [] => True
  | .cons a as, v :: vs, x :: xs => (match isVar a with
      | some i => ρ[i]? = some (some v) ∧ σ[i]? = some (some x)
      | none => RepF K S v x) ∧ ArgR K S ρ σ as vs xs
  | _, _, _ => False
def tL (G : Gam) (W : WX) (ω ω' : Own) (as : ME) : TA := fun σ H Q => ∃ F S ρ, Gd G.K F S H ω ρ σ ∧
  match evalL G.Φ as ρ with
  | .ok vs ρ' => ∀ xs S' H', Same S S' → Gd G.K F S' H' ω' ρ' σ → ArgR G.K S' ρ' σ as vs xs → Q xs H'
  | .err e ρ' => ∀ cls d S' H', Same S S' → Gd G.K F S' H' [] ρ' σ → G.xr e cls d S' → W cls d σ H'
  | .stuck => False
/-- one argument, as HandS reads it -/
def tArg (G : Gam) (W : WX) (ω ω' : Own) (a : ME) : TE := match isVar a with
  | some i => tVar i
  | none => tE G W ω ω' (freshE G.sg a) (evalE G.Φ a)
theorem getS_eq {ρ : Slots} {i : Nat} {v : Val} (h : getS ρ i = some v) : ρ[i]? = some (some v) := by
  unfold getS at h
  cases q : ρ[i]? with
  | none => rw [q] at h; cases h
  | some u => rw [q] at h; cases u with
    | none => cases h
    | some w => cases h; rfl
theorem getS_of {ρ : Slots} {i : Nat} {v : Val} (h : ρ[i]? = some (some v)) : getS ρ i = some v := by
  unfold getS; rw [h]; rfl
section
variable {K : PySem.W.Frag} {F : Frm} {S S' H H' : Hp} {ω ω' : Own} {ρ : Slots} {σ : L2.St}
/-- a value that is nobody's comes to stand still -/
theorem Gd.stillV (g : Gd K F S H ω ρ σ) {o : Bool} {v : Val} {x : V} (r : RepO K o S H v x) (m : Mine F S H ω ρ σ o v x) : ∃ S', Same S S' ∧ Gd K F S' H ω ρ σ ∧ RepF K S' v x := by
  cases o with
  | false => exact ⟨S, Same.refl _, g, RepO.false.mp r⟩
  | true =>
    cases v with
    | lst xs =>
      obtain ⟨p, vs, rfl, hp, r⟩ := r
      obtain ⟨h1, h2, h3⟩ := m p rfl
      obtain ⟨e, g'⟩ := g.still hp h1 h2 h3
      exact ⟨_, e, g', .lst upd_same (r.mono e)⟩
    | pool cs a n =>
      obtain ⟨p, q, rfl, hp, hq, n⟩ := r
      obtain ⟨h1, h2, h3⟩ := m p (.inl rfl)
      obtain ⟨k1, k2, k3⟩ := m q (.inr ⟨p, _, rfl, hp⟩)
      obtain ⟨e, g'⟩ := g.still hp h1 h2 h3
      obtain ⟨e', g''⟩ := g'.still hq (by rw [upd_ne (Ne.symm n)]; exact k1) k2 k3
      exact ⟨_, e.trans e', g'', .pool (by rw [upd_ne n]; exact upd_same) upd_same n⟩
    | _ => exact ⟨S, Same.refl _, g, r⟩
theorem ArgR.mono (e : Same S S') : ∀ {as : ME} {vs : List Val} {xs : List V}, ArgR K S ρ σ as vs xs → ArgR K S' ρ σ as vs xs
  | .nil, [], [], _ => trivial
  | .cons a as, v :: vs, x :: xs, h => by
    obtain ⟨h1, h2⟩ := h
    refine ⟨?_, ArgR.mono e h2⟩
    split at h1
    · exact h1
    · exact h1.mono e
  | .nil, _ :: _, _, h => False.elim h
  | .nil, [], _ :: _, h => False.elim h
  | .cons _ _, [], _, h => False.elim h
  | .cons _ _, _ :: _, [], h => False.elim h
  | .var _, _, _, h => False.elim h
  | .lit _, _, _, h => False.elim h
  | .app _ _, _, _, h => False.elim h
  | .call _ _, _, _, h => False.elim h
  | .callio _ _ _, _, _, h => False.elim h
  | .mut _ _ _, _, _, h => False.elim h
  | .not_ _, _, _, h => False.elim h
  | .and_ _ _, _, _, h => False.elim h
  | .or_ _ _, _, _, h => False.elim h
  | .ife _ _ _, _, _, h => False.elim h
  | .chain _ _ _ _ _, _, _, h => False.elim h
  | .comp _ _ _ _ _ _, _, _, h => False.elim h
  | .comp2 _ _ _ _ _ _ _ _ _ _, _, _, h => False.elim h
  | .seq _, _, _, h => False.elim h
  | .rng _, _, _, h => False.elim h
  | .enum _, _, _, h => False.elim h
  | .zip _ _, _, _, h => False.elim h
/-- readable: it stands still, or a slot owns it -/
def RepR (K : PySem.W.Frag) (S H : Hp) (v : Val) (x : V) : Prop := RepF K S v x ∨ RepO K true S H v x
inductive RepRs (K : PySem.W.Frag) (S H : Hp) : List Val → List V → Prop
  | nil : RepRs K S H [] []
  | cons {v : Val} {x : V} {vs : List Val} {xs : List V} : RepR K S H v x → RepRs K S H vs xs → RepRs K S H (v :: vs) (x :: xs)
theorem RepR.of {o : Bool} {v : Val} {x : V} (h : RepO K o S H v x) : RepR K S H v x := by
  cases o with
  | false => exact .inl (RepO.false.mp h)
  | true => exact .inr h
theorem ArgR.read (g : Gd K F S H ω ρ σ) : ∀ {as : ME} {vs : List Val} {xs : List V}, ArgR K S ρ σ as vs xs → RepRs K S H vs xs
  | as, [], xs, h => by
    cases as <;> first | exact False.elim h | skip
    cases xs with
    | nil => exact .nil
    | cons => exact False.elim h
  | as, v :: vs, xs, h => by
    cases as <;> first | exact False.elim h | skip
    rename_i a as
    cases xs with
    | nil => exact False.elim h
    | cons x xs =>
      obtain ⟨h1, h2⟩ := h
      refine .cons ?_ (ArgR.read g h2)
      split at h1
      · obtain ⟨y, e, r⟩ := g.rep _ _ h1.1
        rw [h1.2] at e
        cases e
        exact .of r
      · exact .inl h1
/-- all arguments come to stand still -/
theorem ArgR.freeze {as : ME} {vs : List Val} {xs : List V} (g : Gd K F S H ω ρ σ) (h : ArgR K S ρ σ as vs xs) : ∃ S', Same S S' ∧ Gd K F S' H (frzA as ω) ρ σ ∧ RepL K S' vs xs := by
  induction as generalizing vs xs with
  | nil =>
    cases vs <;> cases xs <;> first | exact False.elim h | skip
    exact ⟨S, Same.refl _, g, .nil⟩
  | cons a as _ ih =>
    cases vs <;> cases xs <;> first | exact False.elim h | skip
    rename_i v vs x xs
    obtain ⟨h1, h2⟩ := h
    obtain ⟨S1, e1, g1, r1⟩ := ih h2
    show ∃ S', Same S S' ∧ Gd K F S' H (match isVar a with | some i => (frzA as ω).set i false | none => frzA as ω) ρ σ ∧ RepL K S' (v :: vs) (x :: xs)
    cases q : isVar a with
    | none =>
      simp only [q] at h1 ⊢
      exact ⟨S1, e1, g1, .cons (h1.mono e1) r1⟩
    | some i =>
      simp only [q] at h1 ⊢
      obtain ⟨S2, e2, g2⟩ := g1.freeze i
      obtain ⟨y, hy, r⟩ := g2.frz (ownAt_setF' _ _) h1.1
      rw [h1.2] at hy
      cases hy
      exact ⟨S2, e1.trans e2, g2, .cons r (r1.mono e2)⟩
  | _ => cases vs <;> cases xs <;> exact False.elim h
end
end Pv
/-! Pv, part D: the operations: what they give is what HandS reads. -/
namespace Pv
open PySem PySem.Spec PyProof.Rows L2
/-! ### sorted of a tuple -/
section
variable {prog : Program} {w : World} {A : Around} {E : Value → Shared → Prop} {s : Shared}
theorem collectT {l : Addr} {us : List Value} {Q : List Value → Shared → Prop} (ht : IsTup s.heap l us.toArray) (hz : us.length ≤ sizeLine)
    (h : Q us { s with heap := (s.heap.push (seqObj "list" #[] 0)).update s.heap.objs.size (Obj.mapSeq (· ++ us.toArray)) }) : wpAny (model prog w) A (collect (.ref l)) Q E s := by
  obtain ⟨o, g1, g2, m, g3⟩ := id ht
  unfold collect
  refine wpAny_bind (wpAny_runValue (codeAny_builtin PyProof.Rows.entry_proto_collect' ?_))
  show wpAny (model prog w) _ (do
    again (.builtin "list.__iadd__" ⟨[← newList [], .ref l], []⟩)) _ _ s
  refine wpAny_bind (wpAny_newList
    (wpAny_pure ⟨Code.quiet_builtin _ (by decide +kernel), codeAny_builtin PyProof.Rows.entry_list_iadd' ?_⟩))
  show wpAny (model prog w) _ (Builtin.List.listExtendWith (.ref s.heap.objs.size) (.ref l)
    (.ref s.heap.objs.size)) _ _ { s with heap := s.heap.push (seqObj "list" #[] 0) }
  unfold Builtin.List.listExtendWith
  have k1 : (s.heap.push (seqObj "list" #[] 0)).get? l = some o := Heap.get?_push_of_some _ g1
  refine wpAny_bind (wpAny_typeOf (T := "tuple") ⟨o, k1, g2⟩ ?_)
  have kk : (Value.type "tuple" == Value.type "tuple") = true := by rfl
  rw [if_pos (by rw [kk]; simp)]
  refine wpAny_bind (listItems_at k1 g3 ?_)
  refine wpAny_bind (listItems_at (xs := #[]) (n := 0) (Heap.get?_push_size _ rfl) rfl ?_)
  rw [if_neg (by simp)]
  have sz : (#[] ++ us.toArray).size ≤ sizeLine + 1 := by
    simp only [Array.size_append, List.size_toArray, List.length_nil]
    omega
  refine wpAny_bind (listUpdate_at (xs := #[]) (n := 0)
    (Heap.get?_push_size _ rfl) rfl ?_ (Nat.zero_le _) sz)
  refine wpAny_pure ?_
  show wpAny (model prog w) A (do
      let ob ← load s.heap.objs.size
      match ob.data with
      | .seq xs _ => pure xs.toList
      | _ => unsupported "internal:collect") Q E _
  refine wpAny_bind (wpAny_load (get?_update_seq (Heap.get?_push_size _ rfl) _) ?_)
  show wpAny _ _ (pure ((#[] : Array Value) ++ us.toArray).toList) Q E _
  have e : ((#[] : Array Value) ++ us.toArray).toList = us := by simp
  rw [e]
  exact wpAny_pure h
theorem sortedT {l : Addr} {us : List Value} {ns : List Int} {Q : Value → Shared → Prop} (ht : IsTup s.heap l us.toArray) (hz : us.length ≤ sizeLine) (hi : IntsAre us ns)
    (h : ∀ out : List Value, SrtO.Srtd SrtO.ltIv out → SrtO.Stb SrtO.ltIv out us → Q (.ref (s.heap.objs.size + 1)) { s with heap := sortedAll s.heap us out.toArray }) :
    wpAny (model prog w) A (call (.builtin "sorted") [.ref l]) Q E s := by
  refine Calls.call_function_entry kind_sorted plain_sorted entry_sorted (args_sorted1 _) ?_
  unfold Builtin.«sorted»
  refine wpAny_bind (m := checkCount "sorted" 1 1 _) (wpAny_pure ?_)
  refine wpAny_bind (collectT ht hz ?_)
  refine wpAny_bind (wpAny_newList ?_ hz)
  have n1 : ((s.heap.push (seqObj "list" #[] 0)).update s.heap.objs.size (Obj.mapSeq (· ++ us.toArray))).objs.size = s.heap.objs.size + 1 := by
    rw [Heap.size_update, size_push']
  have n2 : (((s.heap.push (seqObj "list" #[] 0)).update s.heap.objs.size (Obj.mapSeq (· ++ us.toArray))).push (seqObj "list" us.toArray 0)).get? (s.heap.objs.size + 1)
      = some (seqObj "list" us.toArray 0) := by
    rw [← n1]
    exact Heap.get?_push_size _ rfl
  show wpAny _ _ _ _ _ { s with heap := ((s.heap.push (seqObj "list" #[] 0)).update s.heap.objs.size (Obj.mapSeq (· ++ us.toArray))).push (seqObj "list" us.toArray 0) }
  rw [n1]
  refine wpAny_bind (wpAny_holding (wpAny_call_entry slot_list_sort ⟨_, n2, rfl⟩ entry_list_sort
    (SrtO.list_sort_ord SrtO.swo_int n2 hz (fun h2 => SrtO.ints_sortable hi h2) fun out hs hb => ⟨_, rfl, ?_⟩) (args_list_sort _)))
  exact wpAny_pure ⟨_, rfl, h out hs hb⟩
end
def rSortedT (K : PySem.W.Frag) : List V → Hp → VK → Prop := fun vs H Q => ∃ (a : Addr) (ns : List Int), vs = [V.ref a] ∧ SqT K H a (ns.map V.int) ∧
  ∀ (ns' : List Int) (p : Addr), ns'.Perm ns → ns'.Pairwise (· ≤ ·) → H p = none → Q (.ref p) (upd H p (.lst (ns'.map V.int)))
theorem cr_sortedT {X : Cx} : CallR X (.builtin "sorted") (rSortedT X.K) := by
  intro pins s σ H vs us Q I r h
  obtain ⟨a, ns, rfl, hs, q⟩ := h
  obtain ⟨its, rv, hl, hz⟩ := I.tuple hs
  rw [Vals.ref1 r]
  have hi := rv.ints
  refine sortedT hl (by rw [← rv.length]; exact hz) hi fun out h1 h2 => ?_
  obtain ⟨k1, k2, k3⟩ := SrtO.ints_out hi h1 h2
  obtain ⟨ep, he'⟩ := PyProof.Rows.sortedAll_at s.heap its out.toArray
  have lz : ((out.map SrtO.iv).map V.int).length ≤ sizeLine := by
    rw [List.length_map, k2.length_eq]
    rwa [List.length_map] at hz
  refine ⟨.ref _, upd H (s.heap.objs.size + 1) (.lst ((out.map SrtO.iv).map V.int)), ?_, rfl, q _ _ k2 k3 (I.hok.fresh (Nat.le_succ _))⟩
  exact I.laid (t' := s.toks) (fun _ _ => PyProof.Rows.sortedAll_old) (Nat.le_succ _) ⟨lz, out, ep, vals_of_ints k1, he'⟩
/-! ### what HandS reads of each operator -/
def rBin (K : PySem.W.Frag) : Operator → R2
  | .Add => fun x y H Q => rI0 (fun i j => .int (i + j)) x y H Q ∨ (∃ i j, x = .str i ∧ y = .str j ∧ i.length + j.length ≤ sizeLine ∧ Q (.str (i ++ j)) H) ∨ rCat x y H Q ∨ rCatA K x y H Q
  | .Sub => rI0 fun i j => .int (i - j)
  | .Mult => fun x y H Q => rI CMul (fun i j => .int (i * j)) x y H Q ∨ rRep x y H Q
  | .FloorDiv => rI CDiv fun i j => .int (i / j)
  | .Mod => rI (fun _ j => 0 < j) fun i j => .int (i % j)
  | .Pow => rI CPow fun i j => .int (i ^ j.toNat)
  | .LShift => rI CShl fun i j => .int (i * 2 ^ j.toNat)
  | .RShift => rI (fun _ j => 0 ≤ j) fun i j => .int (i / 2 ^ j.toNat)
  | .BitAnd => rI0 fun i j => .int (Builtin.bitAnd i j)
  | .BitOr => rI0 fun i j => .int (Builtin.bitOr i j)
  | .BitXor => rI0 fun i j => .int (Builtin.bitXor i j)
  | _ => fun _ _ _ _ => False
theorem OpR.never {X : Cx} {f : Value → Value → Sem Value} : OpR X f (fun _ _ _ _ => False) := fun _ _ _ _ _ _ _ _ _ _ _ _ h => h.elim
theorem op_bin {X : Cx} : ∀ o : Operator, OpR X (binaryOp o) (rBin X.K o)
  | .Add => op_add.or (op_add_str.or (op_cat.or op_catA))
  | .Sub => op_sub
  | .Mult => op_mul.or op_rep
  | .FloorDiv => op_fdiv
  | .Mod => op_mod
  | .Pow => op_pow
  | .LShift => op_shlW
  | .RShift => op_shr
  | .BitAnd => op_and
  | .BitOr => op_or
  | .BitXor => op_xor
  | .MatMult => OpR.never
  | .Div => OpR.never
def rCmp (K : PySem.W.Frag) : CmpOp → R2
  | .Lt => rI0 fun i j => .bl (decide (i < j))
  | .LtE => rI0 fun i j => .bl (decide (i ≤ j))
  | .Gt => rI0 fun i j => .bl (decide (j < i))
  | .GtE => rI0 fun i j => .bl (decide (j ≤ i))
  | .Eq => fun x y H Q => rEq x y H Q ∨ rEqD K x y H Q
  | .NotEq => fun x y H Q => rNe x y H Q ∨ rNeD K x y H Q
  | .Is => fun x y H Q => y = .non ∧ Q (.bl (decide (x = .non))) H
  | .IsNot => fun x y H Q => y = .non ∧ Q (.bl (!decide (x = .non))) H
  | .In => rIn K false
  | .NotIn => rIn K true
theorem op_cmp {X : Cx} (hu : X.A.units + 64 < cLine) : ∀ o : CmpOp, OpR X (compareOp o) (rCmp X.K o)
  | .Lt => op_lt
  | .LtE => op_le
  | .Gt => op_gt
  | .GtE => op_ge
  | .Eq => op_eq.or (op_eqD hu)
  | .NotEq => op_ne.or (op_neD hu)
  | .Is => op_isN
  | .IsNot => op_notN
  | .In => op_in_seq
  | .NotIn => op_notIn_seq
/-! ### the same of pure values -/
section
variable {K : PySem.W.Frag} {F : Frm} {S S' H H' : Hp} {ω ω' : Own} {ρ : Slots} {σ : L2.St}
theorem RepR.int {i : Int} {x : V} (h : RepR K S H (.int i) x) : x = .int i := by
  rcases h with h | h <;> (cases h; rfl)
theorem RepR.bl {i : Bool} {x : V} (h : RepR K S H (.bl i) x) : x = .bl i := by
  rcases h with h | h <;> (cases h; rfl)
theorem RepR.str {i : Str} {x : V} (h : RepR K S H (.str i) x) : x = .str i := by
  rcases h with h | h <;> (cases h; rfl)
theorem RepR.non {x : V} (h : RepR K S H .non x) : x = .non := by
  rcases h with h | h <;> (cases h; rfl)
theorem RepR.lst {xs : List Val} {x : V} (e : Same S H) (h : RepR K S H (.lst xs) x) : ∃ p vs, x = .ref p ∧ H p = some (.lst vs) ∧ RepL K S xs vs := by
  rcases h with h | h
  · cases h with
    | lst h r => exact ⟨_, _, rfl, e _ _ h, r⟩
  · exact h
theorem RepR.tup {xs : List Val} {x : V} (h : RepR K S H (.tup xs) x) : ∃ p vs, x = .ref p ∧ SqT K S p vs ∧ RepL K S xs vs := by
  rcases h with h | h <;> (cases h with | tup h r => exact ⟨_, _, rfl, h, r⟩)
theorem RepR.frl {xs : List Int} {x : V} (h : RepR K S H (.frl xs) x) : ∃ p, x = .ref p ∧ SqL K S p (xs.map V.int) := by
  rcases h with h | h <;> (cases h with | frl h => exact ⟨_, rfl, h⟩)
theorem RepR.readF {v : Val} {x : V} (e : Same S H) (h : RepR K S H v x) : RepF K H v x := by
  rcases h with h | h
  · exact h.mono e
  · exact RepO.read h e
/-- what behind an operation may be asked -/
def Then (K : PySem.W.Frag) (F : Frm) (S H : Hp) (ω : Own) (ρ : Slots) (σ : L2.St) (o : Bool) (v : Val) (Q : VK) : Prop :=
  ∀ x S' H', Same S S' → Gd K F S' H' ω ρ σ → RepO K o S' H' v x → Mine F S' H' ω ρ σ o v x → Q x H'
theorem Gd.notSlo (g : Gd K F S H ω ρ σ) {p : Addr} {u : HO} (hp : H p = none) : ¬ Slo ω (upd H p u) ρ σ p := fun ⟨i, v, x, h1, h2, w⟩ => by
  obtain ⟨y, h3, r⟩ := g.rep i v h1
  rw [h2] at h3
  cases h3
  have w' := w.back (H := H) r fun a w => by
    obtain ⟨vs, q⟩ := w.at r
    exact upd_ne fun z => by rw [z, hp] at q; cases q
  obtain ⟨vs, q⟩ := w'.at r
  rw [hp] at q
  cases q
variable {o : Bool} {v : Val} {Q : VK}
/-- a value that is no list and takes no room -/
theorem Then.flat (t : Then K F S H ω ρ σ o v Q) (g : Gd K F S H ω ρ σ) {x : V} (r : RepF K S v x) (n : o = false ∨ (∀ xs, v ≠ .lst xs) ∧ ∀ cs a n, v ≠ .pool cs a n) : Q x H :=
  t x S H (Same.refl _) g (RepO.of r n) fun a w => (Owns.no n w).elim
theorem Then.int {i : Int} (t : Then K F S H ω ρ σ o (.int i) Q) (g : Gd K F S H ω ρ σ) : Q (.int i) H := t.flat g (.int i) (.inr ⟨fun _ => nofun, fun _ _ _ => nofun⟩)
theorem Then.bl {i : Bool} (t : Then K F S H ω ρ σ o (.bl i) Q) (g : Gd K F S H ω ρ σ) : Q (.bl i) H := t.flat g (.bl i) (.inr ⟨fun _ => nofun, fun _ _ _ => nofun⟩)
theorem Then.str {i : Str} (t : Then K F S H ω ρ σ o (.str i) Q) (g : Gd K F S H ω ρ σ) : Q (.str i) H := t.flat g (.str i) (.inr ⟨fun _ => nofun, fun _ _ _ => nofun⟩)
theorem Then.non (t : Then K F S H ω ρ σ o .non Q) (g : Gd K F S H ω ρ σ) : Q .non H := t.flat g .non (.inr ⟨fun _ => nofun, fun _ _ _ => nofun⟩)
/-- a new list -/
theorem Then.lst {xs : List Val} {vs : List V} (t : Then K F S H ω ρ σ true (.lst xs) Q) (g : Gd K F S H ω ρ σ) (r : RepL K S xs vs) (p : Addr) (hp : H p = none) : Q (.ref p) (upd H p (.lst vs)) :=
  t _ S _ (Same.refl _) (g.alloc hp) ⟨p, vs, rfl, upd_same, r⟩ fun a w => by
    have w : V.ref p = .ref a := w
    cases w
    exact ⟨(g.free hp).1, (g.free hp).2, g.notSlo hp⟩
/-- a new tuple -/
theorem Then.tup {xs : List Val} {vs : List V} (t : Then K F S H ω ρ σ o (.tup xs) Q) (g : Gd K F S H ω ρ σ) (r : RepL K S xs vs) (p : Addr) (hp : H p = none) : Q (.ref p) (upd H p (.tup vs)) := by
  obtain ⟨e, g'⟩ := g.new (o := .tup vs) hp
  refine t _ _ _ e g' (RepO.of (.tup (.inl (.inl upd_same)) (r.mono e)) (.inr ⟨fun _ => nofun, fun _ _ _ => nofun⟩)) fun a w => ?_
  exact (Owns.no (v := .tup xs) (.inr ⟨fun _ => nofun, fun _ _ _ => nofun⟩) w).elim
theorem bin_ok {op : Operator} {a b : Val} {x y : V} (h : binV op a b = some v) (ra : RepR K S H a x) (rb : RepR K S H b y) (g : Gd K F S H ω ρ σ) (t : Then K F S H ω ρ σ true v Q) : rBin K op x y H Q := by
  unfold binV at h
  split at h
  · cases h; exact .inl ⟨_, _, ra.int, rb.int, t.int g⟩
  · split at h
    · cases h; exact .inr (.inl ⟨_, _, ra.str, rb.str, by assumption, t.str g⟩)
    · cases h
  · rename_i xs ys
    split at h
    · rename_i hz
      cases h
      obtain ⟨p, vs, rfl, hp, r1⟩ := ra.lst g.sub
      obtain ⟨q, ws, rfl, hq, r2⟩ := rb.lst g.sub
      exact .inr (.inr (.inl ⟨p, q, vs, ws, rfl, rfl, hp, hq, by rw [← r1.length, ← r2.length]; exact hz, t.lst g (r1.append r2)⟩))
    · cases h
  · rename_i xs ys
    split at h
    · rename_i hz
      cases h
      obtain ⟨p, vs, rfl, hp, r1⟩ := ra.tup
      obtain ⟨q, ws, rfl, hq, r2⟩ := rb.tup
      refine .inr (.inr (.inr ⟨p, q, vs, ws, rfl, rfl, Same.sqt g.sub hp, Same.sqt g.sub hq, by rw [← r1.length, ← r2.length]; exact hz, fun e => ?_, fun _ e => ?_, fun _ _ => t.tup g (r1.append r2)⟩))
      · subst e
        cases r1
        exact t.flat g (.tup hq r2) (.inr ⟨fun _ => nofun, fun _ _ _ => nofun⟩)
      · subst e
        cases r2
        rw [List.append_nil] at t
        exact t.flat g (.tup hp r1) (.inr ⟨fun _ => nofun, fun _ _ _ => nofun⟩)
    · cases h
  · cases h; exact ⟨_, _, ra.int, rb.int, t.int g⟩
  · split at h
    · rename_i hz
      cases h; exact .inl ⟨_, _, ra.int, rb.int, by unfold CMul; omega, t.int g⟩
    · cases h
  · rename_i xs k
    split at h
    · rename_i hz
      cases h
      obtain ⟨p, vs, rfl, hp, r1⟩ := ra.lst g.sub
      exact .inr ⟨p, k, vs, rfl, rb.int, hp, by omega, by omega, by rw [← r1.length]; exact hz.2, t.lst g (r1.rep _)⟩
    · cases h
  · split at h
    · rename_i hz
      cases h; exact ⟨_, _, ra.int, rb.int, by unfold CDiv; omega, t.int g⟩
    · cases h
  · split at h
    · rename_i hz
      cases h; exact ⟨_, _, ra.int, rb.int, by exact hz, t.int g⟩
    · cases h
  · split at h
    · rename_i hz
      cases h; exact ⟨_, _, ra.int, rb.int, by unfold CPow; omega, t.int g⟩
    · cases h
  · split at h
    · rename_i hz
      cases h; exact ⟨_, _, ra.int, rb.int, by unfold CShl; omega, t.int g⟩
    · cases h
  · split at h
    · rename_i hz
      cases h; exact ⟨_, _, ra.int, rb.int, by exact hz, t.int g⟩
    · cases h
  · cases h; exact ⟨_, _, ra.int, rb.int, t.int g⟩
  · cases h; exact ⟨_, _, ra.int, rb.int, t.int g⟩
  · cases h; exact ⟨_, _, ra.int, rb.int, t.int g⟩
  · cases h
mutual
theorem dp_of : ∀ {a : Val} {x : V} {d : PyData}, RepF K H a x → toD a = some d → Dp K H x d
  | _, _, _, .non, h => by cases h; exact .non
  | _, _, _, .bl b, h => by cases h; exact .bl b
  | _, _, _, .int b, h => by cases h; exact .int b
  | _, _, _, .str b, h => by cases h; exact .str b
  | .tup xs, _, _, .tup q r, h => by
    unfold toD at h
    split at h
    · rename_i ds e
      cases h
      exact .tup q (dps_of r e)
    · cases h
  | .lst xs, _, _, .lst q r, h => by
    unfold toD at h
    split at h
    · rename_i ds e
      cases h
      exact .lst (.inl (.inl q)) (dps_of r e)
    · cases h
  | _, _, _, .frl _, h => by cases h
  | _, _, _, .pool _ _ _, h => by cases h
theorem dps_of : ∀ {a : List Val} {x : List V} {d : List PyData}, RepL K H a x → toDs a = some d → DpAll K H x d
  | _, _, _, .nil, h => by cases h; exact .nil
  | x :: xs, _, _, .cons q r, h => by
    unfold toDs at h
    split at h
    · rename_i d ds e1 e2
      cases h
      exact .cons (dp_of q e1) (dps_of r e2)
    · cases h
end
theorem eqv_ok {a b : Val} {x y : V} {r : Bool} (h : eqvV a b = some r) (ra : RepF K H a x) (rb : RepF K H b y) :
    (scal x y = true ∧ decide (x = y) = r) ∨ ∃ d e, Dp K H x d ∧ Dp K H y e ∧ SeqAt.shaped d = true ∧ SeqAt.shaped e = true ∧ PyData.eqv d e = r := by
  unfold eqvV at h
  split at h
  · cases h; cases ra; cases rb; exact .inl ⟨by rfl, dec_int⟩
  · cases h; cases ra; cases rb; exact .inl ⟨by rfl, dec_bl⟩
  · cases h; cases ra; cases rb; exact .inl ⟨by rfl, dec_str⟩
  · split at h
    · rename_i d e h1 h2
      split at h
      · rename_i hs
        cases h
        rw [Bool.and_eq_true] at hs
        exact .inr ⟨d, e, dp_of ra h1, dp_of rb h2, hs.1, hs.2, rfl⟩
      · cases h
    · cases h
theorem atom_ok {a : Val} {x y : V} (h : atomV a = some y) (r : RepF K H a x) : x = y ∧ L2.flatV x = true := by
  cases r <;> first | (cases h; exact ⟨rfl, rfl⟩) | cases h
theorem atoms_ok : ∀ {a : List Val} {x y : List V}, atomsV a = some y → RepL K H a x → x = y ∧ x.all L2.flatV = true
  | _, _, _, h, .nil => by cases h; exact ⟨rfl, rfl⟩
  | v :: vs, _, _, h, .cons q r => by
    unfold atomsV at h
    split at h
    · rename_i d ds e1 e2
      cases h
      obtain ⟨k1, k2⟩ := atom_ok e1 q
      obtain ⟨k3, k4⟩ := atoms_ok e2 r
      subst k1; subst k3
      exact ⟨rfl, by simp [k2, k4]⟩
    · cases h
theorem seq_in {b : Val} {xs : List Val} {y : V} (h : seqV b = some xs) (r : RepF K H b y) : ∃ p vs, y = .ref p ∧ (SqL K H p vs ∨ SqT K H p vs) ∧ RepL K H xs vs := by
  cases r with
  | tup q r => cases h; exact ⟨_, _, rfl, .inr q, r⟩
  | lst q r => cases h; exact ⟨_, _, rfl, .inl (.inl (.inl q)), r⟩
  | _ => cases h
theorem cmp_ok {op : CmpOp} {a b : Val} {x y : V} (h : cmpV op a b = some v) (ra : RepR K S H a x) (rb : RepR K S H b y) (g : Gd K F S H ω ρ σ) (t : Then K F S H ω ρ σ true v Q) : rCmp K op x y H Q := by
  unfold cmpV at h
  split at h
  · cases h; exact ⟨_, _, ra.int, rb.int, t.bl g⟩
  · cases h; exact ⟨_, _, ra.int, rb.int, t.bl g⟩
  · cases h; exact ⟨_, _, ra.int, rb.int, t.bl g⟩
  · cases h; exact ⟨_, _, ra.int, rb.int, t.bl g⟩
  · split at h
    · rename_i r e
      cases h
      rcases eqv_ok e (ra.readF g.sub) (rb.readF g.sub) with ⟨h1, h2⟩ | ⟨d, e', h1, h2, h3, h4, h5⟩
      · refine .inl ⟨h1, ?_⟩
        rw [h2]
        exact t.bl g
      · refine .inr ⟨d, e', h1, h2, h3, h4, ?_⟩
        rw [h5]
        exact t.bl g
    · cases h
  · split at h
    · rename_i r e
      cases h
      rcases eqv_ok e (ra.readF g.sub) (rb.readF g.sub) with ⟨h1, h2⟩ | ⟨d, e', h1, h2, h3, h4, h5⟩
      · refine .inl ⟨h1, ?_⟩
        rw [h2]
        exact t.bl g
      · refine .inr ⟨d, e', h1, h2, h3, h4, ?_⟩
        rw [h5]
        exact t.bl g
    · cases h
  · cases h
    refine ⟨rb.non, ?_⟩
    have q : isNon a = decide (x = .non) := by
      have ra := ra.readF g.sub
      cases ra <;> simp [isNon]
    rw [q] at t
    exact t.bl g
  · cases h
    refine ⟨rb.non, ?_⟩
    have q : isNon a = decide (x = .non) := by
      have ra := ra.readF g.sub
      cases ra <;> simp [isNon]
    rw [q] at t
    exact t.bl g
  · split at h
    · rename_i xs e
      split at h
      · rename_i p ps e1 e2
        cases h
        obtain ⟨q, vs, rfl, hq, r⟩ := seq_in e (rb.readF g.sub)
        obtain ⟨k1, k2⟩ := atom_ok e1 (ra.readF g.sub)
        obtain ⟨k3, k4⟩ := atoms_ok e2 r
        subst k1; subst k3
        exact ⟨q, vs, rfl, hq, k2, k4, t.bl g⟩
      · cases h
    · cases h
  · split at h
    · rename_i xs e
      split at h
      · rename_i p ps e1 e2
        cases h
        obtain ⟨q, vs, rfl, hq, r⟩ := seq_in e (rb.readF g.sub)
        obtain ⟨k1, k2⟩ := atom_ok e1 (ra.readF g.sub)
        obtain ⟨k3, k4⟩ := atoms_ok e2 r
        subst k1; subst k3
        exact ⟨q, vs, rfl, hq, k2, k4, t.bl g⟩
      · cases h
    · cases h
  · cases h
theorem at_rep {xs : List Val} {vs : List V} {i : Int} {v : Val} (r : RepL K S xs vs) (h : atI xs i = some v) : ∃ x, atI vs i = some x ∧ RepF K S v x := by
  unfold atI at h ⊢
  rw [← r.length]
  cases q : ixN xs.length i with
  | none => rw [q] at h; cases h
  | some j =>
    rw [q] at h
    exact r.get h
theorem ix_ok {a b : Val} {x y : V} (h : ixV a b = some v) (ra : RepR K S H a x) (rb : RepR K S H b y) (g : Gd K F S H ω ρ σ) (t : Then K F S H ω ρ σ false v Q) : rIx K x y H Q := by
  unfold ixV at h
  split at h
  · obtain ⟨p, vs, rfl, hp, r⟩ := ra.lst g.sub
    obtain ⟨z, hz, q⟩ := at_rep r h
    exact .inl ⟨p, vs, _, z, rfl, rb.int, .inl (.inl hp), hz, t.flat g q (.inl rfl)⟩
  · obtain ⟨p, vs, rfl, hp, r⟩ := ra.tup
    obtain ⟨z, hz, q⟩ := at_rep r h
    exact .inr (.inl ⟨p, vs, _, z, rfl, rb.int, Same.sqt g.sub hp, hz, t.flat g q (.inl rfl)⟩)
  · cases h
def rCut (K : PySem.W.Frag) : V → Option Int → Option Int → Hp → VK → Prop := fun x lo hi H Q => rSlL K x lo hi H Q ∨ rSlA K x lo hi H Q
theorem sl_cut {X : Cx} : SlR X (rCut X.K) := sl_list.or sl_tupA
theorem RepL.cut {xs : List Val} {vs : List V} (r : RepL K S xs vs) (lo hi : Option Int) : RepL K S (cutL xs lo hi) (cutV vs lo hi) := by
  unfold cutL cutV
  rw [← r.length]
  exact RepL.take _ (RepL.drop _ r)
theorem cut_ok {a : Val} {lo hi : Option Int} {x : V} (h : cutX a lo hi = some v) (ra : RepR K S H a x) (g : Gd K F S H ω ρ σ) (t : Then K F S H ω ρ σ true v Q) : rCut K x lo hi H Q := by
  unfold cutX at h
  split at h
  · cases h
    obtain ⟨p, vs, rfl, hp, r⟩ := ra.lst g.sub
    exact .inl ⟨p, vs, rfl, .inl (.inl hp), t.lst g (r.cut _ _)⟩
  · cases h
    obtain ⟨p, vs, rfl, hp, r⟩ := ra.tup
    rename_i ys
    refine .inr ⟨p, vs, rfl, Same.sqt g.sub hp, fun hw => ?_, fun _ => t.tup g (r.cut _ _)⟩
    have e : cutL ys lo hi = ys := by
      unfold cutL
      rw [r.length, hw.1, hw.2, List.drop_zero, Nat.sub_zero, ← r.length, List.take_length]
    rw [e] at t
    exact t.flat g (.tup hp r) (.inr ⟨fun _ => nofun, fun _ _ _ => nofun⟩)
  · cases h
    obtain ⟨p, rfl, hp⟩ := ra.frl
    refine .inl ⟨p, _, rfl, g.sub.seq hp, ?_⟩
    have e : ∀ ns : List Int, cutV (ns.map V.int) lo hi = (cutL ns lo hi).map V.int := fun ns => by
      unfold cutL cutV
      rw [List.length_map, List.map_take, List.map_drop]
    rw [e]
    exact t.lst g (RepL.ints _)
  · cases h
theorem RepRs.inv1 {a : Val} {xs : List V} (h : RepRs K S H [a] xs) : ∃ x, xs = [x] ∧ RepR K S H a x := by
  cases h with
  | cons h r => cases r; exact ⟨_, rfl, h⟩
theorem RepRs.inv2 {a b : Val} {xs : List V} (h : RepRs K S H [a, b] xs) : ∃ x y, xs = [x, y] ∧ RepR K S H a x ∧ RepR K S H b y := by
  cases h with
  | cons h r => obtain ⟨y, rfl, q⟩ := r.inv1; exact ⟨_, _, rfl, h, q⟩
theorem RepRs.inv3 {a b c : Val} {xs : List V} (h : RepRs K S H [a, b, c] xs) : ∃ x y z, xs = [x, y, z] ∧ RepR K S H a x ∧ RepR K S H b y ∧ RepR K S H c z := by
  cases h with
  | cons h r => obtain ⟨y, z, rfl, q⟩ := r.inv2; exact ⟨_, _, _, rfl, h, q⟩
/-- one value, one answer: what HandS reads of built-in calls -/
def rLen (K : PySem.W.Frag) : List V → Hp → VK → Prop := fun xs H Q => (∃ p ys, xs = [.ref p] ∧ (SqL K H p ys ∨ SqT K H p ys) ∧ Q (.int ys.length) H) ∨ ∃ z, xs = [.str z] ∧ z.length ≤ sizeLine ∧ Q (.int z.length) H
theorem cr_len {X : Cx} : CallR X (.builtin "len") (rLen X.K) := call_len_seq.or call_len_str
theorem len_ok {a : Val} {n : Nat} {x : V} (h : lenV a = some n) (ra : RepR K S H a x) (g : Gd K F S H ω ρ σ) (t : Then K F S H ω ρ σ true (.int n) Q) : rLen K [x] H Q := by
  unfold lenV at h
  split at h
  · cases h
    obtain ⟨p, vs, rfl, hp, r⟩ := ra.lst g.sub
    rw [r.length] at t
    exact .inl ⟨p, vs, rfl, .inl (.inl (.inl hp)), t.int g⟩
  · cases h
    obtain ⟨p, vs, rfl, hp, r⟩ := ra.tup
    rw [r.length] at t
    exact .inl ⟨p, vs, rfl, .inr (Same.sqt g.sub hp), t.int g⟩
  · cases h
    obtain ⟨p, rfl, hp⟩ := ra.frl
    refine .inl ⟨p, _, rfl, .inl (g.sub.seq hp), ?_⟩
    rw [List.length_map]
    exact t.int g
  · split at h
    · cases h
      exact .inr ⟨_, by rw [ra.str], by assumption, t.int g⟩
    · cases h
  · cases h
theorem ints_ok : ∀ {a : List Val} {x : List V} {ns : List Int}, intsV a = some ns → RepL K S a x → x = ns.map V.int
  | [], _, _, h, r => by cases h; cases r; rfl
  | .int i :: xs, _, _, h, r => by
    unfold intsV at h
    split at h
    · rename_i q e
      cases h
      cases r with
      | cons r1 r2 => cases r1; rw [ints_ok e r2]; rfl
    · cases h
  | .non :: _, _, _, h, _ => by cases h
  | .bl _ :: _, _, _, h, _ => by cases h
  | .str _ :: _, _, _, h, _ => by cases h
  | .tup _ :: _, _, _, h, _ => by cases h
  | .lst _ :: _, _, _, h, _ => by cases h
  | .frl _ :: _, _, _, h, _ => by cases h
  | .pool _ _ _ :: _, _, _, h, _ => by cases h
theorem bls_ok : ∀ {a : List Val} {x : List V} {ns : List Bool}, bsV a = some ns → RepL K S a x → x = ns.map V.bl
  | [], _, _, h, r => by cases h; cases r; rfl
  | .bl i :: xs, _, _, h, r => by
    unfold bsV at h
    split at h
    · rename_i q e
      cases h
      cases r with
      | cons r1 r2 => cases r1; rw [bls_ok e r2]; rfl
    · cases h
  | .non :: _, _, _, h, _ => by cases h
  | .int _ :: _, _, _, h, _ => by cases h
  | .str _ :: _, _, _, h, _ => by cases h
  | .tup _ :: _, _, _, h, _ => by cases h
  | .lst _ :: _, _, _, h, _ => by cases h
  | .frl _ :: _, _, _, h, _ => by cases h
  | .pool _ _ _ :: _, _, _, h, _ => by cases h
theorem isort_eq {ns ns' : List Int} (h1 : ns'.Perm ns) (h2 : ns'.Pairwise (· ≤ ·)) : ns' = isort ns := by
  refine List.Perm.eq_of_pairwise (le := fun a b : Int => a ≤ b) (fun a b _ _ => Int.le_antisymm) h2 ?_ (h1.trans (List.mergeSort_perm _ _).symm)
  have := List.pairwise_mergeSort (le := fun a b : Int => decide (a ≤ b)) (fun a b c h1 h2 => by simp only [decide_eq_true_eq] at *; omega) (fun a b => by simp only [Bool.or_eq_true, decide_eq_true_eq]; omega) ns
  exact this.imp fun h => by simpa using h
def rSort1 (K : PySem.W.Frag) : List V → Hp → VK → Prop := fun xs H Q => rSortedI K xs H Q ∨ rSortedT K xs H Q
theorem cr_sort1 {X : Cx} : CallR X (.builtin "sorted") (rSort1 X.K) := cr_sortedI.or cr_sortedT
def rTup1 (K : PySem.W.Frag) : List V → Hp → VK → Prop := fun xs H Q => ∃ p ys, xs = [.ref p] ∧ ((SqL K H p ys ∧ ∀ l, H l = none → Q (.ref l) (upd H l (.tup ys))) ∨ (SqT K H p ys ∧ Q (.ref p) H))
def rLst1 (K : PySem.W.Frag) : List V → Hp → VK → Prop := fun xs H Q => ∃ p ys, xs = [.ref p] ∧ (SqL K H p ys ∨ SqT K H p ys) ∧ ∀ l, H l = none → Q (.ref l) (upd H l (.lst ys))
/-- built-in functions by their name -/
def bltOf : Op → Option (Str × String)
  | .len => some ("len", "len")
  | .abs => some ("abs", "abs")
  | .max2 => some ("max", "max")
  | .min2 => some ("min", "min")
  | .sum1 => some ("sum", "sum")
  | .sorted1 => some ("sorted", "sorted")
  | .any1 => some ("any", "any")
  | .all1 => some ("all", "all")
  | _ => none
def rBlt (K : PySem.W.Frag) : Op → List V → Hp → VK → Prop
  | .len => rLen K
  | .abs => fun xs H Q => ∃ i, xs = [.int i] ∧ Q (.int (if i < 0 then -i else i)) H
  | .max2 => fun xs H Q => ∃ i j, xs = [.int i, .int j] ∧ Q (.int (if j > i then j else i)) H
  | .min2 => fun xs H Q => ∃ i j, xs = [.int i, .int j] ∧ Q (.int (if j < i then j else i)) H
  | .sum1 => rSum K
  | .sorted1 => rSort1 K
  | .any1 => rAny K
  | .all1 => rAll K
  | _ => fun _ _ _ => False
theorem cr_blt {X : Cx} (hc : X.calm = true) {o : Op} {x : Str} {id : String} (h : bltOf o = some (x, id)) : CallR X (.builtin id) (rBlt X.K o) ∧ bootBuiltins x = some (.builtin id) ∧ x ≠ "__name__" ∧ (x == ("__debug__" : Str)) = false := by
  cases o <;> cases h
  · exact ⟨cr_len, PySem.boot_len, by decide, by decide⟩
  · exact ⟨call_abs, by decide +kernel, by decide, by decide⟩
  · exact ⟨call_max2 hc, by decide +kernel, by decide, by decide⟩
  · exact ⟨call_min2 hc, by decide +kernel, by decide, by decide⟩
  · exact ⟨cr_sum hc, by decide +kernel, by decide, by decide⟩
  · exact ⟨cr_sort1, by decide +kernel, by decide, by decide⟩
  · exact ⟨cr_any hc, by decide +kernel, by decide, by decide⟩
  · exact ⟨cr_all hc, by decide +kernel, by decide, by decide⟩
theorem blt_ok {op : Op} {x : Str} {id : String} (hb : bltOf op = some (x, id)) {vs : List Val} {xs : List V} (h : opV op vs = some v) (r : RepRs K S H vs xs) (g : Gd K F S H ω ρ σ) (t : Then K F S H ω ρ σ true v Q) : rBlt K op xs H Q := by
  cases op <;> cases hb
  · have h : lenO vs = some v := h
    unfold lenO at h
    split at h
    · split at h
      · cases h
        obtain ⟨y, rfl, ra⟩ := r.inv1
        exact len_ok (by assumption) ra g t
      · cases h
    · cases h
  · have h : absO vs = some v := h
    unfold absO at h
    split at h
    · cases h
      obtain ⟨y, rfl, ra⟩ := r.inv1
      exact ⟨_, by rw [ra.int], t.int g⟩
    · cases h
  · have h : maxO vs = some v := h
    unfold maxO at h
    split at h
    · cases h
      obtain ⟨y, z, rfl, ra, rb⟩ := r.inv2
      exact ⟨_, _, by rw [ra.int, rb.int], t.int g⟩
    · cases h
  · have h : minO vs = some v := h
    unfold minO at h
    split at h
    · cases h
      obtain ⟨y, z, rfl, ra, rb⟩ := r.inv2
      exact ⟨_, _, by rw [ra.int, rb.int], t.int g⟩
    · cases h
  · have h : sumO vs = some v := h
    unfold sumO at h
    split at h
    · split at h
      · cases h
        obtain ⟨y, rfl, ra⟩ := r.inv1
        obtain ⟨p, ws, rfl, hp, q⟩ := ra.lst g.sub
        rw [ints_ok (by assumption) q] at hp
        exact ⟨p, _, rfl, .inl (.inl hp), t.int g⟩
      · cases h
    · cases h
  · have h : sortO vs = some v := h
    unfold sortO at h
    split at h
    · split at h
      · cases h
        obtain ⟨y, rfl, ra⟩ := r.inv1
        obtain ⟨p, ws, rfl, hp, q⟩ := ra.lst g.sub
        rw [ints_ok (by assumption) q] at hp
        refine .inl ⟨p, _, rfl, .inl (.inl hp), fun ns' l h1 h2 hl => ?_⟩
        rw [isort_eq h1 h2]
        exact t.lst g (RepL.ints _) l hl
      · cases h
    · split at h
      · cases h
        obtain ⟨y, rfl, ra⟩ := r.inv1
        obtain ⟨p, ws, rfl, hp, q⟩ := ra.tup
        rw [ints_ok (by assumption) q] at hp
        refine .inr ⟨p, _, rfl, Same.sqt g.sub hp, fun ns' l h1 h2 hl => ?_⟩
        rw [isort_eq h1 h2]
        exact t.lst g (RepL.ints _) l hl
      · cases h
    · cases h
  · have h : anyO vs = some v := h
    unfold anyO at h
    split at h
    · split at h
      · cases h
        obtain ⟨y, rfl, ra⟩ := r.inv1
        obtain ⟨p, ws, rfl, hp, q⟩ := ra.lst g.sub
        rw [bls_ok (by assumption) q] at hp
        exact ⟨p, _, rfl, .inl (.inl hp), t.bl g⟩
      · cases h
    · cases h
  · have h : allO vs = some v := h
    unfold allO at h
    split at h
    · split at h
      · cases h
        obtain ⟨y, rfl, ra⟩ := r.inv1
        obtain ⟨p, ws, rfl, hp, q⟩ := ra.lst g.sub
        rw [bls_ok (by assumption) q] at hp
        exact ⟨p, _, rfl, .inl (.inl hp), t.bl g⟩
      · cases h
    · cases h
/-- built-in classes called -/
def btyOf : Op → Option (Str × String)
  | .int1 => some ("int", "int")
  | .tuple1 => some ("tuple", "tuple")
  | .list1 => some ("list", "list")
  | _ => none
def rBty (K : PySem.W.Frag) : Op → List V → Hp → VK → Prop
  | .int1 => fun xs H Q => (∃ i, xs = [.int i] ∧ Q (.int i) H) ∨ ∃ k, xs = [.bl k] ∧ Q (.int (if k then 1 else 0)) H
  | .tuple1 => rTup1 K
  | .list1 => rLst1 K
  | _ => fun _ _ _ => False
theorem cr_bty {X : Cx} {o : Op} {x : Str} {id : String} (h : btyOf o = some (x, id)) : CallR X (.type id) (rBty X.K o) ∧ bootBuiltins x = some (.type id) ∧ x ≠ "__name__" ∧ (x == ("__debug__" : Str)) = false := by
  cases o <;> cases h
  · exact ⟨call_int1, by decide +kernel, by decide, by decide⟩
  · exact ⟨call_tuple_of, by decide +kernel, by decide, by decide⟩
  · exact ⟨call_list_of, by decide +kernel, by decide, by decide⟩
theorem bty_ok {op : Op} {x : Str} {id : String} (hb : btyOf op = some (x, id)) {vs : List Val} {xs : List V} (h : opV op vs = some v) (r : RepRs K S H vs xs) (g : Gd K F S H ω ρ σ) (t : Then K F S H ω ρ σ true v Q) : rBty K op xs H Q := by
  cases op <;> cases hb
  · have h : intO vs = some v := h
    unfold intO at h
    split at h
    · cases h
      obtain ⟨y, rfl, ra⟩ := r.inv1
      exact .inl ⟨_, by rw [ra.int], t.int g⟩
    · cases h
      obtain ⟨y, rfl, ra⟩ := r.inv1
      exact .inr ⟨_, by rw [ra.bl], t.int g⟩
    · cases h
  · have h : tupO vs = some v := h
    unfold tupO at h
    split at h
    · cases h
      obtain ⟨y, rfl, ra⟩ := r.inv1
      obtain ⟨p, ws, rfl, hp, q⟩ := ra.lst g.sub
      exact ⟨p, ws, rfl, .inl ⟨.inl (.inl hp), t.tup g q⟩⟩
    · cases h
      obtain ⟨y, rfl, ra⟩ := r.inv1
      obtain ⟨p, ws, rfl, hp, q⟩ := ra.tup
      exact ⟨p, ws, rfl, .inr ⟨Same.sqt g.sub hp, t.flat g (.tup hp q) (.inr ⟨fun _ => nofun, fun _ _ _ => nofun⟩)⟩⟩
    · cases h
  · have h : lstO vs = some v := h
    unfold lstO at h
    split at h
    · cases h
      obtain ⟨y, rfl, ra⟩ := r.inv1
      obtain ⟨p, ws, rfl, hp, q⟩ := ra.lst g.sub
      exact ⟨p, ws, rfl, .inl (.inl (.inl hp)), t.lst g q⟩
    · cases h
      obtain ⟨y, rfl, ra⟩ := r.inv1
      obtain ⟨p, ws, rfl, hp, q⟩ := ra.tup
      exact ⟨p, ws, rfl, .inr (Same.sqt g.sub hp), t.lst g q⟩
    · cases h
/-! isinstance -/
def tyStr : Ty → String
  | .int => "int"
  | .bool => "bool"
  | .tuple => "tuple"
  | .list => "list"
  | .str => "str"
theorem kit_all (a b : Ty) : kitB (tyStr a) (tyStr b) = some (isTy a b) := by
  cases a <;> cases b <;> decide +kernel
theorem cls_ok {a : Val} {c : Ty} {x : V} (h : clsV a = some c) (ra : RepF K H a x) : TyX K H x (.type (tyStr c)) := by
  cases ra with
  | bl b => cases h; exact .base (.bl b)
  | int b => cases h; exact .base (.int b)
  | str b => cases h; exact .base (.str b)
  | tup q r =>
    cases h
    rcases q with (q | ⟨o, q⟩) | ⟨o, its, n, q1, q2, _⟩
    · exact .base (.tup q)
    · exact .fTuple q
    · exact .kTuple q1 q2
  | lst q r => cases h; exact .base (.lst q)
  | _ => cases h
theorem isi_ok {ty : Ty} {vs : List Val} {xs : List V} (h : isiO ty vs = some v) (r : RepRs K S H vs xs) (g : Gd K F S H ω ρ σ) (t : Then K F S H ω ρ σ true v Q) : ∃ x, xs = [x] ∧ rIsi K [x, .ty (tyStr ty)] H Q := by
  unfold isiO at h
  split at h
  · split at h
    · rename_i c e
      cases h
      obtain ⟨y, rfl, ra⟩ := r.inv1
      exact ⟨y, rfl, y, _, _, _, _, rfl, .ty _, cls_ok e (ra.readF g.sub), kit_ty (kit_all _ _), t.bl g⟩
    · cases h
  · cases h
theorem tru_val {a : Val} {b : Bool} {x : V} (h : truV a = some b) (r : RepF K H a x) : TruV K x H b := by
  cases r with
  | non => cases h; rfl
  | bl b => cases h; rfl
  | int i => cases h; rfl
  | str z =>
    have h : (if z.length ≤ sizeLine then some (z.length != 0) else none) = some b := h
    split at h
    · cases h
      refine ⟨by assumption, ?_⟩
      rw [Bool.eq_iff_iff]
      simp
    · cases h
  | tup q r =>
    cases h
    refine .inr (.inl ⟨_, q, ?_⟩)
    cases r <;> rfl
  | lst q r =>
    cases h
    refine .inl ⟨_, .inl (.inl q), ?_⟩
    cases r <;> rfl
  | _ => cases h
end
end Pv
/-! Pv, part E: the text of an expression fits a term of the language; operations are read so. -/
namespace Pv
open PySem PySem.Spec PyProof.Rows L2
theorem PE.imp {X : Cx} {e : Expr} {t t' : TE} (h : PE X e t) (i : ∀ σ H Q, t' σ H Q → t σ H Q) : PE X e t' := ⟨fun pins s σ H Q I q => h.run pins s σ H Q I (i σ H Q q)⟩
theorem PT.imp {X : Cx} {e : Expr} {t t' : TT} (h : PT X e t) (i : ∀ σ H Q, t' σ H Q → t σ H Q) : PT X e t' := ⟨fun pins s σ H Q I q => h.run pins s σ H Q I (i σ H Q q)⟩
theorem PA.imp {X : Cx} {e : List Expr} {t t' : TA} (h : PA X e t) (i : ∀ σ H Q, t' σ H Q → t σ H Q) : PA X e t' := ⟨fun pos pins s σ H Q I q => h.run pos pins s σ H Q I (i σ H Q q)⟩
theorem PS.imp {X : Cx} {e : Stmt} {t t' : TS} (h : PS X e t) (i : ∀ σ H Q, t' Q σ H → t Q σ H) : PS X e t' := ⟨fun pins s σ H Q I q => h.run pins s σ H Q I (i σ H Q q)⟩
theorem PSs.imp {X : Cx} {e : List Stmt} {t t' : TS} (h : PSs X e t) (i : ∀ σ H Q, t' Q σ H → t Q σ H) : PSs X e t' := ⟨fun pins s σ H Q I q => h.run pins s σ H Q I (i σ H Q q)⟩
/-- behind one argument -/
def stepO (sg : Nat → Sig) (a : ME) (ω : Own) : Own := match isVar a with
  | some _ => ω
  | none => (ownE sg a ω).getD []
def nestT (G : Gam) (W : WX) : Own → ME → TA
  | ω, .cons a as => tCons (tArg G W ω (stepO G.sg a ω) a) (nestT G W (stepO G.sg a ω) as)
  | _, _ => tNil
theorem tArg_var {G : Gam} {W : WX} {ω ω' : Own} {a : ME} {i : Nat} (h : isVar a = some i) : tArg G W ω ω' a = tVar i := by
  unfold tArg; rw [h]
theorem tArg_none {G : Gam} {W : WX} {ω ω' : Own} {a : ME} (h : isVar a = none) : tArg G W ω ω' a = tE G W ω ω' (freshE G.sg a) (evalE G.Φ a) := by
  unfold tArg; rw [h]
/-- what the arguments' evaluation gives is what HandS reads -/
theorem nest_ok {G : Gam} {W : WX} : ∀ (as : ME) (ω ω' : Own), ownL G.sg as ω = some ω' → ∀ (σ : L2.St) (H : Hp) (Q : List V → Hp → Prop), tL G W ω ω' as σ H Q → nestT G W ω as σ H Q := by
  intro as
  induction as with
  | nil =>
    intro ω ω' ho σ H Q h
    obtain ⟨F, S, ρ, g, h⟩ := h
    have ho : some ω = some ω' := ho
    cases ho
    exact h [] S H (Same.refl _) g trivial
  | cons a as _ ih =>
    intro ω ω' ho σ H Q h
    obtain ⟨F, S, ρ, g, h⟩ := h
    show tArg G W ω (stepO G.sg a ω) a σ H fun x H1 => nestT G W (stepO G.sg a ω) as σ H1 fun xs H2 => Q (x :: xs) H2
    cases q : isVar a with
    | some i =>
      have es : stepO G.sg a ω = ω := by unfold stepO; rw [q]
      rw [ownL, q] at ho
      have ho : ownL G.sg as ω = some ω' := ho
      rw [tArg_var q, es]
      rw [evalL, q] at h
      dsimp only at h
      split at h
      · rename_i vs ρ' e
        cases q1 : getS ρ i with
        | none => rw [q1] at e; cases e
        | some u =>
          rw [q1] at e
          dsimp only at e
          obtain ⟨x, hx, _⟩ := g.rep i u (getS_eq q1)
          refine ⟨x, hx, ih ω ω' ho σ H _ ⟨F, S, ρ, g, ?_⟩⟩
          cases q2 : evalL G.Φ as ρ with
          | stuck => rw [q2] at e; cases e
          | err ex ρ2 => rw [q2] at e; cases e
          | ok ws ρ2 =>
            rw [q2] at e
            have e : (match getS ρ2 i with | some v => Res.ok (v :: ws) ρ2 | none => .stuck) = Res.ok vs ρ' := e
            cases q3 : getS ρ2 i with
            | none => rw [q3] at e; cases e
            | some v =>
              rw [q3] at e
              cases e
              intro xs S' H' e1 g1 ar
              refine h (x :: xs) S' H' e1 g1 ⟨?_, ar⟩
              rw [q]
              exact ⟨getS_eq q3, hx⟩
      · rename_i ex ρ' e
        cases q1 : getS ρ i with
        | none => rw [q1] at e; cases e
        | some u =>
          rw [q1] at e
          dsimp only at e
          obtain ⟨x, hx, _⟩ := g.rep i u (getS_eq q1)
          refine ⟨x, hx, ih ω ω' ho σ H _ ⟨F, S, ρ, g, ?_⟩⟩
          cases q2 : evalL G.Φ as ρ with
          | stuck => rw [q2] at e; cases e
          | err ex2 ρ2 => rw [q2] at e; cases e; exact h
          | ok ws ρ2 =>
            rw [q2] at e
            have e : (match getS ρ2 i with | some v => Res.ok (v :: ws) ρ2 | none => .stuck) = Res.err ex ρ' := e
            split at e <;> cases e
      · exact h.elim
    | none =>
      rw [ownL, q] at ho
      have ho : (ownE G.sg a ω).bind (fun ω1 => ownL G.sg as ω1) = some ω' := ho
      cases q0 : ownE G.sg a ω with
      | none => rw [q0] at ho; cases ho
      | some ω1 =>
        rw [q0] at ho
        have ho : ownL G.sg as ω1 = some ω' := ho
        have es : stepO G.sg a ω = ω1 := by unfold stepO; rw [q, q0]; rfl
        rw [tArg_none q, es]
        rw [evalL, q] at h
        dsimp only at h
        refine ⟨F, S, ρ, g, ?_⟩
        cases q1 : evalE G.Φ a ρ with
        | stuck => rw [q1] at h; exact h
        | err ex ρ1 => rw [q1] at h; exact h
        | ok v ρ1 =>
          rw [q1] at h
          intro x S1 H1 e1 g1 r1 m1
          obtain ⟨S2, e2, g2, r2⟩ := g1.stillV r1 m1
          refine ih ω1 ω' ho σ H1 _ ⟨F, S2, ρ1, g2, ?_⟩
          have h : match (evalL G.Φ as ρ1).bind (fun vs ρ2 => Res.ok (v :: vs) ρ2) with
            | .ok vs ρ' => ∀ xs S' H', Same S S' → Gd G.K F S' H' ω' ρ' σ → ArgR G.K S' ρ' σ (.cons a as) vs xs → Q xs H'
            | .err e ρ' => ∀ cls d S' H', Same S S' → Gd G.K F S' H' [] ρ' σ → G.xr e cls d S' → W cls d σ H'
            | .stuck => False := h
          cases q2 : evalL G.Φ as ρ1 with
          | stuck => rw [q2] at h; exact h
          | err ex ρ2 => rw [q2] at h; exact fun cls d S' H' e3 => h cls d S' H' ((e1.trans e2).trans e3)
          | ok ws ρ2 =>
            rw [q2] at h
            intro xs S' H' e3 g3 ar
            refine h (x :: xs) S' H' ((e1.trans e2).trans e3) g3 ⟨?_, ar⟩
            rw [q]
            exact r2.mono e3
  | _ =>
    intro ω ω' ho σ H Q h
    obtain ⟨F, S, ρ, g, h⟩ := h
    exact h.elim
/-! ### the text -/
def noStar : Expr → Bool
  | .Starred _ _ => false
  | _ => true
theorem star_of {e : Expr} (h : noStar e = true) (es : List Expr) (env : Env) : starEach (e :: es) env = (false, eval e env) :: starEach es env := by
  cases e <;> first | rfl | cases h
def notSet : Expr → Bool
  | .Set _ _ _ => false
  | _ => true
theorem marks_of {op : CmpOp} {e : Expr} (h : notSet e = true) : behindInMarks op e = false := by
  cases e <;> first | rfl | cases h
def notSlice : Expr → Bool
  | .Slice _ _ _ _ => false
  | _ => true
theorem plain_of {e : Expr} (h : notSlice e = true) : PlainIx e := by
  intro o i
  cases e <;> first | rfl | cases h
def allStar : List Expr → Bool
  | [] => true
  | e :: es => noStar e && allStar es
theorem any_of : ∀ {es : List Expr} {env : Env} {pos : Pos}, allStar es = true → (backTo pos (starEach es env)).any (·.1) = false
  | [], _, _, _ => rfl
  | e :: es, env, pos, h => by
    have h : (noStar e && allStar es) = true := h
    rw [Bool.and_eq_true] at h
    rw [star_of h.1]
    have ih := any_of (es := es) (env := env) (pos := pos) h.2
    unfold backTo at ih ⊢
    simp only [List.map_cons, List.any_cons, Bool.false_or] at ih ⊢
    exact ih
def baseB : Expr → Bool
  | .Call _ _ _ _ => false
  | _ => true
theorem base_of {e : Expr} (h : baseB e = true) (f : Str) (env : Env) : attributeBase e f env (eval e env) = eval e env := by
  cases e <;> first | rfl | cases h
/-- the operands of an operation's text -/
def argsOf : Op → Expr → Option (List Expr)
  | .bin o, .BinOp x o' y _ => if o = o' then some [x, y] else none
  | .cmp o, .Compare x [o'] [y] _ => if o = o' ∧ notSet y = true then some [x, y] else none
  | .neg, .UnaryOp .USub x _ => some [x]
  | .inv, .UnaryOp .Invert x _ => some [x]
  | .ix, .Subscript x y _ => if notSlice y then some [x, y] else none
  | .slice false false, .Subscript x (.Slice none none none _) _ => some [x]
  | .slice true false, .Subscript x (.Slice (some a) none none _) _ => some [x, a]
  | .slice false true, .Subscript x (.Slice none (some b) none _) _ => some [x, b]
  | .back, .Subscript x (.Slice none none (some (.UnaryOp .USub (.Constant (.int 1) _ _) _)) _) _ => some [x]
  | .tup, .Tuple es _ _ => if allStar es then some es else none
  | .lst, .List es _ => if allStar es then some es else none
  | .bits, .Call (.Attribute x f apos) [] [] pos => if f = ("bit_length" : Str) ∧ (apos.endLine == pos.line) = true ∧ baseB x = true then some [x] else none
  | _, _ => none
def globB (sc : List (Str × NameKind)) (x : Str) : Bool := decide (sc.lookup x = some .globalImplicit)
/-- the operands of a call of a built-in -/
def argsB (bl : List Str) (sc : List (Str × NameKind)) : Op → Expr → Option (List Expr)
  | .isi t, .Call (.Name f _) [x, .Name tn _] [] _ => if f = ("isinstance" : Str) ∧ tn = Str.ofString (tyStr t) ∧ globB sc f = true ∧ globB sc tn = true ∧ bl.contains f = true ∧ bl.contains tn = true ∧ noStar x = true then some [x] else none
  | o, .Call (.Name f _) (e :: es) [] _ => if globB sc f = true ∧ bl.contains f = true ∧ allStar (e :: es) = true ∧ ((bltOf o).map (·.1) = some f ∨ (btyOf o).map (·.1) = some f) then some (e :: es) else none
  | _, _ => none
def rSl (K : PySem.W.Frag) : Bool → Bool → List V → Hp → VK → Prop
  | false, false, [x], H, Q => rCut K x none none H Q
  | true, false, [x, y], H, Q => ∃ i, y = .int i ∧ rCut K x (some i) none H Q
  | false, true, [x, y], H, Q => ∃ i, y = .int i ∧ rCut K x none (some i) H Q
  | true, true, [x, y, z], H, Q => ∃ i j, y = .int i ∧ z = .int j ∧ rCut K x (some i) (some j) H Q
  | _, _, _, _, _ => False
/-- what HandS reads of an operation on its operands -/
def opR (K : PySem.W.Frag) : Op → List V → Hp → VK → Prop
  | .bin o, [x, y], H, Q => rBin K o x y H Q
  | .cmp o, [x, y], H, Q => rCmp K o x y H Q
  | .neg, [x], H, Q => rU (fun i => .int (-i)) x H Q
  | .inv, [x], H, Q => rU (fun i => .int (Builtin.bitNot i)) x H Q
  | .ix, [x, y], H, Q => rIx K x y H Q
  | .slice l h, xs, H, Q => rSl K l h xs H Q
  | .back, [x], H, Q => ∃ a xs, x = .ref a ∧ SqL K H a xs ∧ ∀ p, H p = none → Q (.ref p) (upd H p (.lst xs.reverse))
  | .tup, xs, H, Q => xs.length ≤ sizeLine ∧ ∀ p, H p = none → Q (.ref p) (upd H p (.tup xs))
  | .lst, xs, H, Q => xs.length ≤ sizeLine ∧ ∀ p, H p = none → Q (.ref p) (upd H p (.lst xs))
  | .bits, [x], H, Q => ∃ i, x = .int i ∧ Q (.int (Builtin.Int.intBits i : Nat)) H
  | .isi t, [x], H, Q => rIsi K [x, .ty (tyStr t)] H Q
  | .int1, xs, H, Q => rBty K .int1 xs H Q
  | .tuple1, xs, H, Q => rBty K .tuple1 xs H Q
  | .list1, xs, H, Q => rBty K .list1 xs H Q
  | o, xs, H, Q => rBlt K o xs H Q
section
variable {K : PySem.W.Frag} {F : Frm} {S H : Hp} {ω : Own} {ρ : Slots} {σ : L2.St} {v : Val} {Q : VK}
theorem two_ok {f : Val → Val → Option Val} {vs : List Val} (h : bin2 f vs = some v) : ∃ a b, vs = [a, b] ∧ f a b = some v := by
  unfold bin2 at h
  split at h
  · exact ⟨_, _, rfl, h⟩
  · cases h
/-- operations that read their operands where they are -/
theorem opR_ok {o : Op} (hb : borrowOp o = true) {vs : List Val} {xs : List V} (h : opV o vs = some v) (r : RepRs K S H vs xs) (g : Gd K F S H ω ρ σ) (t : Then K F S H ω ρ σ (freshOp o) v Q) : opR K o xs H Q := by
  cases o with
  | bin o =>
    obtain ⟨a, b, rfl, h⟩ := two_ok h
    obtain ⟨x, y, rfl, ra, rb⟩ := r.inv2
    exact bin_ok h ra rb g t
  | cmp o =>
    obtain ⟨a, b, rfl, h⟩ := two_ok h
    obtain ⟨x, y, rfl, ra, rb⟩ := r.inv2
    exact cmp_ok h ra rb g t
  | neg =>
    have h : negO vs = some v := h
    unfold negO at h
    split at h
    · cases h
      obtain ⟨x, rfl, ra⟩ := r.inv1
      exact ⟨_, ra.int, t.int g⟩
    · cases h
  | inv =>
    have h : invO vs = some v := h
    unfold invO at h
    split at h
    · cases h
      obtain ⟨x, rfl, ra⟩ := r.inv1
      exact ⟨_, ra.int, t.int g⟩
    · cases h
  | ix =>
    obtain ⟨a, b, rfl, h⟩ := two_ok h
    obtain ⟨x, y, rfl, ra, rb⟩ := r.inv2
    exact ix_ok h ra rb g t
  | slice l u =>
    have h : sliceV l u vs = some v := h
    show rSl K l u xs H Q
    unfold sliceV at h
    split at h
    · obtain ⟨x, rfl, ra⟩ := r.inv1
      exact cut_ok h ra g t
    · obtain ⟨x, y, rfl, ra, rb⟩ := r.inv2
      exact ⟨_, rb.int, cut_ok h ra g t⟩
    · obtain ⟨x, y, rfl, ra, rb⟩ := r.inv2
      exact ⟨_, rb.int, cut_ok h ra g t⟩
    · obtain ⟨x, y, z, rfl, ra, rb, rc⟩ := r.inv3
      exact ⟨_, _, rb.int, rc.int, cut_ok h ra g t⟩
    · cases h
  | back =>
    have h : backO vs = some v := h
    unfold backO at h
    split at h
    · cases h
      obtain ⟨x, rfl, ra⟩ := r.inv1
      obtain ⟨p, ws, rfl, hp, q⟩ := ra.lst g.sub
      exact ⟨p, ws, rfl, .inl (.inl hp), t.lst g q.reverse⟩
    · cases h
  | bits =>
    have h : bitsO vs = some v := h
    unfold bitsO at h
    split at h
    · cases h
      obtain ⟨x, rfl, ra⟩ := r.inv1
      exact ⟨_, ra.int, t.int g⟩
    · cases h
  | isi ty =>
    obtain ⟨x, rfl, q⟩ := isi_ok h r g t
    exact q
  | tup => cases hb
  | lst => cases hb
  | int1 => exact bty_ok (op := .int1) rfl h r g t
  | tuple1 => exact bty_ok (op := .tuple1) rfl h r g t
  | list1 => exact bty_ok (op := .list1) rfl h r g t
  | len => exact blt_ok (op := .len) rfl h r g t
  | abs => exact blt_ok (op := .abs) rfl h r g t
  | max2 => exact blt_ok (op := .max2) rfl h r g t
  | min2 => exact blt_ok (op := .min2) rfl h r g t
  | sum1 => exact blt_ok (op := .sum1) rfl h r g t
  | sorted1 => exact blt_ok (op := .sorted1) rfl h r g t
  | any1 => exact blt_ok (op := .any1) rfl h r g t
  | all1 => exact blt_ok (op := .all1) rfl h r g t
/-- displays: their operands stand still -/
theorem disp_ok {o : Op} (hb : borrowOp o = false) {vs : List Val} {xs : List V} (h : opV o vs = some v) (r : RepL K S vs xs) (g : Gd K F S H ω ρ σ) (t : Then K F S H ω ρ σ (freshOp o) v Q) : opR K o xs H Q := by
  cases o <;> first | cases hb | skip
  · have h : dispT vs = some v := h
    unfold dispT at h
    split at h
    · cases h
      exact ⟨by rw [← r.length]; assumption, t.tup g r⟩
    · cases h
  · have h : dispL vs = some v := h
    unfold dispL at h
    split at h
    · cases h
      exact ⟨by rw [← r.length]; assumption, t.lst g r⟩
    · cases h
end
/-! ### the context of a body -/
structure CxC (G : Gam) (P : Program) (w : World) (mg : Str → Option Value) (base : Heap) (n : Nat) (N : List Str) (sc : List (Str × NameKind)) (fnS : Str → Bool) (W : WX) (X : Cx) : Prop where
  hP : X.prog = P
  hw : X.w = w
  hK : X.K = G.K
  hmg : X.mg = mg
  hbase : X.base = base
  hN : X.N = N
  hsc : X.env.scope.names = sc
  kind : X.env.scope.kind = .function
  calm : X.calm = true
  room : Room n X.A
  nd : N.Nodup
  fnl : ∀ x, fnS x = true → X.fn x = true
  tk : Takes X W
/-- each argument's text has its reading -/
def LP (X : Cx) (G : Gam) (W : WX) : Own → ME → List Expr → Prop
  | _, .nil, [] => True
  | ω, .cons a as, e :: es => PE X e (tArg G W ω (stepO G.sg a ω) a) ∧ LP X G W (stepO G.sg a ω) as es
  | _, _, _ => False
theorem LP.inv1 {X : Cx} {G : Gam} {W : WX} {ω : Own} {as : ME} {x : Expr} (h : LP X G W ω as [x]) : ∃ t, PE X x t ∧ nestT G W ω as = tCons t tNil := by
  cases as <;> first | exact False.elim h | skip
  rename_i a as
  obtain ⟨h1, h2⟩ := h
  cases as <;> first | exact False.elim h2 | skip
  exact ⟨_, h1, rfl⟩
theorem LP.inv2 {X : Cx} {G : Gam} {W : WX} {ω : Own} {as : ME} {x y : Expr} (h : LP X G W ω as [x, y]) : ∃ t u, PE X x t ∧ PE X y u ∧ nestT G W ω as = tCons t (tCons u tNil) := by
  cases as <;> first | exact False.elim h | skip
  rename_i a as
  obtain ⟨h1, h2⟩ := h
  obtain ⟨t, q1, q2⟩ := LP.inv1 h2
  exact ⟨_, t, h1, q1, by rw [← q2]; rfl⟩
theorem LP.inv3 {X : Cx} {G : Gam} {W : WX} {ω : Own} {as : ME} {x y z : Expr} (h : LP X G W ω as [x, y, z]) : ∃ t u s, PE X x t ∧ PE X y u ∧ PE X z s ∧ nestT G W ω as = tCons t (tCons u (tCons s tNil)) := by
  cases as <;> first | exact False.elim h | skip
  rename_i a as
  obtain ⟨h1, h2⟩ := h
  obtain ⟨t, s, q1, q2, q3⟩ := LP.inv2 h2
  exact ⟨_, t, s, h1, q1, q2, by rw [← q3]; rfl⟩
theorem LP.pa {X : Cx} {G : Gam} {W : WX} : ∀ {as : ME} {es : List Expr} {ω : Own}, allStar es = true → LP X G W ω as es → PA X es (nestT G W ω as)
  | as, [], ω, _, h => by
    cases as <;> first | exact False.elim h | skip
    exact pa_nil
  | as, e :: es, ω, hs, h => by
    cases as <;> first | exact False.elim h | skip
    rename_i a as
    have hs : (noStar e && allStar es) = true := hs
    rw [Bool.and_eq_true] at hs
    exact pa_cons h.1 (LP.pa hs.2 h.2) (star_of hs.1 _ _)
section
variable {G : Gam} {P : Program} {w : World} {mg : Str → Option Value} {base : Heap} {n : Nat} {N : List Str} {sc : List (Str × NameKind)} {fnS : Str → Bool} {W : WX} {X : Cx}
theorem CxC.gl (c : CxC G P w mg base n N sc fnS W X) {x : Str} (h : globB sc x = true) : Gl X x := by
  have h : sc.lookup x = some .globalImplicit := of_decide_eq_true h
  rw [← c.hsc] at h
  exact h
/-- an operation's text has the reading of its operands and then its own -/
theorem op_pe (c : CxC G P w mg base n N sc fnS W X) {o : Op} {e : Expr} {es : List Expr} (h : argsOf o e = some es) {as : ME} {ω : Own} (l : LP X G W ω as es) :
    PE X e (fun σ H Q => nestT G W ω as σ H fun xs H2 => opR G.K o xs H2 Q) := by
  have hK := c.hK
  unfold argsOf at h
  split at h
  · split at h
    · rename_i eo
      cases h
      subst eo
      obtain ⟨t, u, h1, h2, h3⟩ := l.inv2
      rw [h3]
      refine PE.imp (pe_op (op_bin _) h1 h2) fun σ H Q q => ?_
      rw [hK]
      exact q
    · cases h
  · split at h
    · rename_i eo
      cases h
      obtain ⟨eo, hm⟩ := eo
      subst eo
      obtain ⟨t, u, h1, h2, h3⟩ := l.inv2
      rw [h3]
      refine PE.imp (pe_cmpR (op_cmp c.room.units _) h1 h2 (marks_of hm)) fun σ H Q q => ?_
      rw [hK]
      exact q
    · cases h
  · cases h
    obtain ⟨t, h1, h3⟩ := l.inv1
    rw [h3]
    exact pe_un un_neg h1
  · cases h
    obtain ⟨t, h1, h3⟩ := l.inv1
    rw [h3]
    exact pe_un un_inv h1
  · split at h
    · rename_i hp
      cases h
      obtain ⟨t, u, h1, h2, h3⟩ := l.inv2
      rw [h3]
      refine PE.imp (pe_ix ix_seq h1 h2 (plain_of hp)) fun σ H Q q => ?_
      rw [hK]
      exact q
    · cases h
  · cases h
    obtain ⟨t, h1, h3⟩ := l.inv1
    rw [h3]
    refine PE.imp (pe_slice sl_cut h1 po_none po_none) fun σ H Q q => ?_
    rw [hK]
    exact q
  · cases h
    obtain ⟨t, u, h1, h2, h3⟩ := l.inv2
    rw [h3]
    refine PE.imp (pe_slice sl_cut h1 (po_some h2) po_none) fun σ H Q q => ?_
    rw [hK]
    exact q
  · cases h
    obtain ⟨t, u, h1, h2, h3⟩ := l.inv2
    rw [h3]
    refine PE.imp (pe_slice sl_cut h1 po_none (po_some h2)) fun σ H Q q => ?_
    rw [hK]
    exact q
  · cases h
    obtain ⟨t, h1, h3⟩ := l.inv1
    rw [h3]
    refine PE.imp (pe_revL h1) fun σ H Q q => ?_
    rw [hK]
    exact q
  · split at h
    · cases h
      exact pe_tup (l.pa (by assumption))
    · cases h
  · split at h
    · cases h
      exact pe_lst (l.pa (by assumption))
    · cases h
  · split at h
    · rename_i hh
      cases h
      obtain ⟨rfl, hl, hx⟩ := hh
      obtain ⟨t, h1, h3⟩ := l.inv1
      rw [h3]
      exact pe_bits h1 (base_of hx _ _) hl
    · cases h
  · cases h
/-- a call of a built-in -/
theorem blt_pe (c : CxC G P w mg base n N sc fnS W X) {bl : List Str} (hbl : ∀ x ∈ bl, mg x = none) {o : Op} {e : Expr} {es : List Expr} (h : argsB bl sc o e = some es) {as : ME} {ω : Own} (l : LP X G W ω as es) :
    PE X e (fun σ H Q => nestT G W ω as σ H fun xs H2 => opR G.K o xs H2 Q) := by
  have hK := c.hK
  have free : ∀ x, bl.contains x = true → X.mg x = none := fun x hx => by
    rw [c.hmg]
    exact hbl x (by simpa using hx)
  unfold argsB at h
  split at h
  · rename_i ty f p x tn p2 pos
    split at h
    · rename_i hh
      cases h
      obtain ⟨rfl, rfl, g1, g2, b1, b2, hx⟩ := hh
      obtain ⟨t, h1, h3⟩ := l.inv1
      rw [h3]
      have ht : PE X (.Name (Str.ofString (tyStr ty)) p2) (tC (.ty (tyStr ty))) := by
        refine pe_bltn (u := .type (tyStr ty)) (c.gl g2) (free _ b2) ?_ rfl ?_ ?_
        · cases ty <;> decide +kernel
        · cases ty <;> decide +kernel
        · cases ty <;> decide +kernel
      refine PE.imp (pe_callB call_isi (c.gl g1) (free _ b1) (by decide +kernel) (pa_cons h1 (pa_cons ht pa_nil) (star_of hx _ _)) (by decide) (by decide) (star_of hx _ _)) fun σ H Q q => ?_
      rw [hK]
      exact q
    · cases h
  · rename_i _ _ f p e es pos hneg
    split at h
    · rename_i hh
      cases h
      obtain ⟨g1, b1, hs, hn⟩ := hh
      have hs' : (noStar e && allStar es) = true := hs
      rw [Bool.and_eq_true] at hs'
      rcases hn with hn | hn
      · cases q : bltOf o with
        | none => rw [q] at hn; cases hn
        | some pr =>
          obtain ⟨f', id⟩ := pr
          rw [q] at hn
          cases hn
          obtain ⟨k1, k2, k3, k4⟩ := cr_blt c.calm q
          refine PE.imp (pe_callB k1 (c.gl g1) (free _ b1) k2 (l.pa hs) k3 k4 (star_of hs'.1 _ _) (any_of hs'.2)) fun σ H Q q' => ?_
          rw [hK]
          cases o <;> cases q <;> exact q'
      · cases q : btyOf o with
        | none => rw [q] at hn; cases hn
        | some pr =>
          obtain ⟨f', id⟩ := pr
          rw [q] at hn
          cases hn
          obtain ⟨k1, k2, k3, k4⟩ := cr_bty (X := X) q
          refine PE.imp (pe_callTy k1 (c.gl g1) (free _ b1) k2 (l.pa hs) k3 k4 (star_of hs'.1 _ _) (any_of hs'.2)) fun σ H Q q' => ?_
          rw [hK]
          cases o <;> cases q <;> exact q'
    · cases h
  · cases h
end
end Pv
/-! Pv, part F: what loops walk. -/
namespace Pv
open PySem PySem.Spec PyProof.Rows L2
/-- the iterator gives just these items, that stand still in S -/
structure WalkS (K : PySem.W.Frag) (J : It) (S : Hp) (xs : List Val) : Prop where
  go : ∀ i H, Same S H → i < xs.length → J.go i H
  stop : ∀ H, Same S H → J.stop xs.length H
  yld : ∀ i H x H', Same S H → J.yld i H x H' → ∀ v, xs[i]? = some v → (H' = H ∧ RepF K S v x) ∨ ∃ T us vs, H T = none ∧ x = .ref T ∧ H' = upd H T (.tup vs) ∧ v = .tup us ∧ RepL K S us vs
section
variable {K : PySem.W.Frag} {S H : Hp}
theorem walk_itl {a : Addr} {xs : List Val} {vs : List V} (h : SqL K S a vs) (inj : ∀ H, Same S H → ∀ ws, SqL K H a ws → ws = vs) (r : RepL K S xs vs) : WalkS K (Itl K a) S xs where
  go := fun i H e hi => ⟨vs, vs[i]'(r.length ▸ hi), e.seq h, List.getElem?_eq_getElem _⟩
  stop := fun H e => ⟨vs, e.seq h, Nat.le_of_eq r.length.symm⟩
  yld := fun i H x H' e y v hv => by
    obtain ⟨y1, y2⟩ := y
    obtain ⟨x', hx, q⟩ := r.get hv
    have := y2 vs (e.seq h)
    rw [hx] at this
    cases this
    exact .inl ⟨y1, q⟩
theorem walk_itt {a : Addr} {xs : List Val} {vs : List V} (h : SqT K S a vs) (r : RepL K S xs vs) : WalkS K (Itt K a) S xs where
  go := fun i H e hi => ⟨vs, vs[i]'(r.length ▸ hi), Same.sqt e h, List.getElem?_eq_getElem _⟩
  stop := fun H e => ⟨vs, Same.sqt e h, Nat.le_of_eq r.length.symm⟩
  yld := fun i H x H' e y v hv => by
    obtain ⟨y1, y2⟩ := y
    obtain ⟨x', hx, q⟩ := r.get hv
    have := y2 vs (Same.sqt e h)
    rw [hx] at this
    cases this
    exact .inl ⟨y1, q⟩
theorem walk_itl' {a : Addr} {xs : List Val} {vs : List V} (h : SqL K S a vs) (r : RepL K S xs vs) : WalkS K (Itl K a) S xs where
  go := fun i H e hi => ⟨vs, vs[i]'(r.length ▸ hi), e.seq h, List.getElem?_eq_getElem _⟩
  stop := fun H e => ⟨vs, e.seq h, Nat.le_of_eq r.length.symm⟩
  yld := fun i H x H' e y v hv => by
    obtain ⟨y1, y2⟩ := y
    obtain ⟨x', hx, q⟩ := r.get hv
    have := y2 vs (e.seq h)
    rw [hx] at this
    cases this
    exact .inl ⟨y1, q⟩
theorem walk_itr {lo hi : Int} : WalkS K (Itr lo (hi - lo).toNat) S (ranged lo hi) where
  go := fun i H e h => by
    unfold ranged at h
    rw [List.length_map, List.length_range] at h
    exact h
  stop := fun H e => by
    show (hi - lo).toNat ≤ (ranged lo hi).length
    unfold ranged
    rw [List.length_map, List.length_range]
    exact Nat.le_refl _
  yld := fun i H x H' e y v hv => by
    obtain ⟨y1, y2⟩ := y
    unfold ranged at hv
    rw [List.getElem?_map] at hv
    cases q : (List.range (hi - lo).toNat)[i]? with
    | none => rw [q] at hv; cases hv
    | some j =>
      rw [q] at hv
      cases hv
      rw [List.getElem?_range (by
        have := (List.getElem?_eq_some_iff.mp q).1
        rwa [List.length_range] at this)] at q
      cases q
      subst y2
      exact .inl ⟨y1, .int _⟩
theorem walk_itc {i j c : Int} {n : Nat} (hn : n = (Builtin.Range.rangeSize i j c).toNat) : WalkS K (Itc i c n) S (rng3 i j c) where
  go := fun k H e h => by
    unfold rng3 at h
    rw [List.length_map, List.length_range, ← hn] at h
    exact h
  stop := fun H e => by
    show n ≤ (rng3 i j c).length
    unfold rng3
    rw [List.length_map, List.length_range, ← hn]
    exact Nat.le_refl _
  yld := fun k H x H' e y v hv => by
    obtain ⟨y1, y2⟩ := y
    unfold rng3 at hv
    rw [List.getElem?_map, ← hn] at hv
    cases q : (List.range n)[k]? with
    | none => rw [q] at hv; cases hv
    | some j =>
      rw [q] at hv
      cases hv
      rw [List.getElem?_range (by
        have := (List.getElem?_eq_some_iff.mp q).1
        rwa [List.length_range] at this)] at q
      cases q
      subst y2
      exact .inl ⟨y1, .int _⟩
end
section
variable {X : Cx} {tg : Expr}
/-- a list or a tuple -/
def iSeq (K : PySem.W.Frag) (tl : TE) : TI := fun σ H R => tl σ H fun x H1 => ∃ a, x = .ref a ∧ (((∃ xs, SqL K H1 a xs) ∧ R (Itl K a) H1) ∨ ((∃ xs, SqT K H1 a xs) ∧ R (Itt K a) H1))
theorem pi_seq {l : Expr} {tl : TE} (hl : PE X l tl) : PI X tg l (iSeq X.K tl) := by
  refine ⟨fun pins s σ H R I h => thn (hl.run pins s σ H _ I h) fun v s1 ⟨x, H1, I1, r1, q1⟩ => ?_⟩
  obtain ⟨a, rfl, q⟩ := q1
  cases r1
  have fp : ∀ b ∈ [s1.heap.objs.size], FpOk X pins H1 b := fun b hb => by
    obtain rfl : b = s1.heap.objs.size := by simpa using hb
    exact I1.fpOk (Nat.le_refl _) (I1.hok.fresh (Nat.le_refl _))
  rcases q with ⟨⟨xs, hq⟩, q⟩ | ⟨⟨xs, hq⟩, q⟩
  · obtain ⟨us, ru, pl, _⟩ := I1.list hq
    refine wpAny_pyIter_list pl.isList ⟨s1.heap.objs.size, [s1.heap.objs.size], _, _, H1, rfl, ?_, turn_list a _, ?_, fp, q⟩
    · exact I1.kept (t' := s1.toks) fun b o e => Heap.get?_push_of_some _ e
    · exact ⟨_, Heap.get?_push_size _ rfl, rfl, rfl⟩
  · obtain ⟨us, ru, pl, _⟩ := I1.tuple hq
    refine wpAny_pyIter_tuple (show s1.heap.IsTuple a us.toArray from pl) ⟨s1.heap.objs.size, [s1.heap.objs.size], _, _, H1, rfl, ?_, turn_tuple a _, ?_, fp, q⟩
    · exact I1.kept (t' := s1.toks) fun b o e => Heap.get?_push_of_some _ e
    · exact ⟨_, Heap.get?_push_size _ rfl, rfl, rfl⟩
theorem PI.imp {e : Expr} {t t' : TI} (h : PI X tg e t) (i : ∀ σ H R, t' σ H R → t σ H R) : PI X tg e t' := ⟨fun pins s σ H R I q => h.run pins s σ H R I (i σ H R q)⟩
end
def tI (G : Gam) (W : WX) (ω ω' : Own) (it : ME) : TI := fun σ H R => ∃ F S ρ, Gd G.K F S H ω ρ σ ∧
  match evalI G.Φ it ρ with
  | .ok xs ρ' => ∀ J S' H', Same S S' → Gd G.K F S' H' ω' ρ' σ → WalkS G.K J S' xs → R J H'
  | .err e ρ' => ∀ cls d S' H', Same S S' → Gd G.K F S' H' [] ρ' σ → G.xr e cls d S' → W cls d σ H'
  | .stuck => False
section
variable {K : PySem.W.Frag} {F : Frm} {S S' H H' : Hp} {ω ω' : Own} {ρ : Slots} {σ : L2.St}
/-- behind a turn of the iterator -/
theorem Gd.turn (g : Gd K F S H ω ρ σ) {J : It} {S0 : Hp} {xs : List Val} (e0 : Same S0 S) (wk : WalkS K J S0 xs) {i : Nat} {v : Val} {x : V} (hi : xs[i]? = some v) (y : J.yld i H x H') :
    ∃ S', Same S S' ∧ Gd K F S' H' ω ρ σ ∧ RepF K S' v x := by
  rcases wk.yld i H x H' (e0.trans g.sub) y v hi with ⟨rfl, r⟩ | ⟨T, us, vs, hT, rfl, rfl, rfl, r⟩
  · exact ⟨S, Same.refl _, g, r.mono e0⟩
  · obtain ⟨e, g'⟩ := g.new (o := .tup vs) hT
    exact ⟨_, e, g', .tup (.inl (.inl upd_same)) (r.mono (e0.trans e))⟩
end
end Pv
/-! Pv, part G: what a def promises; calls. -/
namespace Pv
open PySem PySem.Spec PyProof.Rows L2
def IoA (io : Bool) (H : Hp) (args : List Val) (vs : List V) (a : Addr) : Prop := match io, args, vs with
  | true, u :: _, y :: _ => Owns true H u y a
  | _, _, _ => False
def IoIn (K : PySem.W.Frag) (io : Bool) (S H : Hp) (args : List Val) (vs : List V) : Prop := match io, args, vs with
  | true, u :: us, y :: ys => RepO K true S H u y ∧ (∀ a, Owns true H u y a → S a = none) ∧ RepL K S us ys
  | true, _, _ => False
  | false, us, ys => RepL K S us ys
def IoOut (K : PySem.W.Frag) (io : Bool) (S' H' H : Hp) (args : List Val) (vs : List V) (out : Option Val) (res : Addr → Prop) : Prop := match io, vs, out with
  | true, y :: _, some u' => RepO K true S' H' u' y ∧ ∀ a, Owns true H' u' y a → S' a = none ∧ (H a = none ∨ IoA true H args vs a) ∧ ¬ res a
  | true, _, _ => False
  | false, _, _ => True
/-- the promise of a def that hands back what Fn gives -/
def spOf (G : Gam) (s : Sig) (Fn : List Val → FRes) : Sp := fun vs H Q E => ∃ args S, Same S H ∧ IoIn G.K s.io S H args vs ∧
  match Fn args with
  | .ok v out => ∀ x S' H', Same S S' → Same S' H' → (∀ a o, H a = some o → ¬ IoA s.io H args vs a → H' a = some o) → (∀ a o, S' a = some o → S a = some o ∨ H a = none ∨ IoA s.io H args vs a) →
      RepO G.K s.own S' H' v x → (∀ a, Owns s.own H' v x a → S' a = none ∧ (H a = none ∨ IoA s.io H args vs a)) → (s.flat = true → flatV v = true) → IoOut G.K s.io S' H' H args vs out (fun a => Owns s.own H' v x a) → Q x H'
  | .err e out => ∀ cls d S' H', Same S S' → Same S' H' → (∀ a o, H a = some o → ¬ IoA s.io H args vs a → H' a = some o) → (∀ a o, S' a = some o → S a = some o ∨ H a = none ∨ IoA s.io H args vs a) →
      G.xr e cls d S' → IoOut G.K s.io S' H' H args vs out (fun _ => False) → E cls d H'
  | .stuck => False
theorem spOf.len {G : Gam} {s : Sig} {Fn : List Val → FRes} {k : Nat} (h : ∀ args, args.length ≠ k → Fn args = .stuck) : ∀ vs H Q E, spOf G s Fn vs H Q E → vs.length = k := fun vs H Q E ⟨args, S, e, i, q⟩ => by
  have hl : args.length = vs.length := by
    unfold IoIn at i
    split at i
    · exact congrArg (· + 1) i.2.2.length
    · exact i.elim
    · exact i.length
  by_cases z : args.length = k
  · rw [← hl]; exact z
  · rw [h args z] at q; exact q.elim
theorem flat_cons {v : Val} {vs : List Val} (h : flatL (v :: vs) = true) : flatV v = true ∧ flatL vs = true := by
  rw [flatL, Bool.and_eq_true] at h
  exact h
theorem flat_tup {vs : List Val} (h : flatV (.tup vs) = true) : flatL vs = true := by
  rw [flatV] at h
  exact h
theorem flat_no {v : Val} (h : flatV v = true) : (∀ xs, v ≠ .lst xs) ∧ ∀ cs a n, v ≠ .pool cs a n := by
  refine ⟨fun xs e => ?_, fun cs a n e => ?_⟩ <;> (subst e; simp [flatV] at h)
theorem flat_frl {xs : List Int} (h : flatV (.frl xs) = true) : False := by simp [flatV] at h
mutual
theorem flat_keep {K : PySem.W.Frag} {S S' : Hp} (e : ∀ a vs, SqT K S a vs → SqT K S' a vs) : ∀ {v : Val} {x : V}, RepF K S v x → flatV v = true → RepF K S' v x
  | _, _, .non, _ => .non
  | _, _, .bl b, _ => .bl b
  | _, _, .int b, _ => .int b
  | _, _, .str b, _ => .str b
  | _, _, .tup q r, h => .tup (e _ _ q) (flat_keeps e r (flat_tup h))
  | _, _, .lst _ _, h => absurd rfl ((flat_no h).1 _)
  | _, _, .frl _, h => (flat_frl h).elim
  | _, _, .pool _ _ _, h => absurd rfl ((flat_no h).2 _ _ _)
theorem flat_keeps {K : PySem.W.Frag} {S S' : Hp} (e : ∀ a vs, SqT K S a vs → SqT K S' a vs) : ∀ {v : List Val} {x : List V}, RepL K S v x → flatL v = true → RepL K S' v x
  | _, _, .nil, _ => .nil
  | _, _, .cons q r, h => .cons (flat_keep e q (flat_cons h).1) (flat_keeps e r (flat_cons h).2)
end
theorem RepO.plain {K : PySem.W.Frag} {o : Bool} {S H : Hp} {v : Val} {x : V} (h : RepO K o S H v x) (n : (∀ xs, v ≠ .lst xs) ∧ ∀ cs a n, v ≠ .pool cs a n) : RepF K S v x := by
  cases o with
  | false => exact RepO.false.mp h
  | true =>
    cases v with
    | lst xs => exact absurd rfl (n.1 _)
    | pool cs a m => exact absurd rfl (n.2 _ _ _)
    | _ => exact h
section
variable {G : Gam} {F : Frm} {S S' H H' : Hp} {ω ω' ω1 : Own} {ρ : Slots} {σ : L2.St} {W : WX}
theorem Gd.slo_lst {K : PySem.W.Frag} (g : Gd K F S H ω ρ σ) {a : Addr} (h : Slo ω H ρ σ a) : ∃ vs, H a = some (.lst vs) := (g.slo h).2.2
/-- the slots own no less in a heap that kept what they own -/
theorem Gd.slo_back {K : PySem.W.Frag} (g : Gd K F S H ω ρ σ) (k : ∀ a, Slo ω H ρ σ a → H' a = H a) {a : Addr} (h : Slo ω H' ρ σ a) : Slo ω H ρ σ a := by
  obtain ⟨i, v, x, h1, h2, w⟩ := h
  obtain ⟨y, h3, r⟩ := g.rep i v h1
  rw [h2] at h3
  cases h3
  exact ⟨i, v, x, h1, h2, w.back r fun a w => k a ⟨i, v, x, h1, h2, w⟩⟩
/-- behind the call of a def that changes no argument -/
theorem call_ok {f : Nat} {as : ME} {vs : List Val} {xs : List V} {Q : VK} (hio : (G.sg f).io = false) (g : Gd G.K F S H ω1 ρ σ) (ar : ArgR G.K S ρ σ as vs xs)
    (h : match G.Φ f vs with
      | .ok v _ => ∀ x S' H', Same S S' → Gd G.K F S' H' (if (G.sg f).flat then ω1 else frzA as ω1) ρ σ → RepO G.K ((G.sg f).own || (G.sg f).flat) S' H' v x →
          Mine F S' H' (if (G.sg f).flat then ω1 else frzA as ω1) ρ σ ((G.sg f).own || (G.sg f).flat) v x → Q x H'
      | .err e _ => ∀ cls d S' H', Same S S' → Gd G.K F S' H' [] ρ σ → G.xr e cls d S' → W cls d σ H'
      | .stuck => False) : spOf G (G.sg f) (G.Φ f) xs H Q (WE W σ) := by
  obtain ⟨S2, e2, g2, r2⟩ := ar.freeze g
  refine ⟨vs, S2, g2.sub, by rw [hio]; exact r2, ?_⟩
  rw [hio]
  have nA : ∀ a, ¬ IoA false H vs xs a := fun a z => z
  have fB : ∀ {H3 : Hp}, (∀ a o, H a = some o → ¬ IoA false H vs xs a → H3 a = some o) → Same F.B H3 := fun fr a o q => fr a o (g2.fr a o q) (nA a)
  have freeB : ∀ a, H a = none → F.B a = none := fun a q => by
    cases z : F.B a with
    | none => rfl
    | some o => have := g2.fr a o z; rw [q] at this; cases this
  cases q : G.Φ f vs with
  | stuck => rw [q] at h; exact h
  | err e out =>
    rw [q] at h
    intro cls d S3 H3 e3 s3 fr nw xr _
    have kp : ∀ a, Slo (frzA as ω1) H ρ σ a → H3 a = H a := fun a z => by
      obtain ⟨ws, hw⟩ := g2.slo_lst z
      rw [hw]
      exact fr a _ hw (nA a)
    have g3 : Gd G.K F S3 H3 (frzA as ω1) ρ σ := g2.grow e3 s3 (fB fr) (fun a o z => (nw a o z).imp id fun z => z.elim (freeB a) fun z => z.elim) kp fun a z => by
      cases y : S3 a with
      | none => rfl
      | some o =>
        rcases nw a o y with n | n | n
        · rw [(g2.slo z).1] at n; cases n
        · obtain ⟨ws, hw⟩ := g2.slo_lst z
          rw [hw] at n; cases n
        · exact n.elim
    obtain ⟨S4, e4, g4, _⟩ := g3.le (ω' := []) fun i z => by simp [ownAt] at z
    exact h cls d S4 H3 ((e2.trans e3).trans e4) g4 (G.xrm e4 xr)
  | ok v out =>
    rw [q] at h
    intro x S3 H3 e3 s3 fr nw r ow fl _
    cases hf : (G.sg f).flat with
    | false =>
      rw [hf] at h
      simp only [Bool.or_false, Bool.false_eq_true, if_false] at h
      have kp : ∀ a, Slo (frzA as ω1) H ρ σ a → H3 a = H a := fun a z => by
        obtain ⟨ws, hw⟩ := g2.slo_lst z
        rw [hw]
        exact fr a _ hw (nA a)
      refine h x S3 H3 (e2.trans e3) (g2.grow e3 s3 (fB fr) (fun a o z => (nw a o z).imp id fun z => z.elim (freeB a) fun z => z.elim) kp fun a z => ?_) r fun a w => ?_
      · cases y : S3 a with
        | none => rfl
        | some o =>
          rcases nw a o y with n | n | n
          · rw [(g2.slo z).1] at n; cases n
          · obtain ⟨ws, hw⟩ := g2.slo_lst z
            rw [hw] at n; cases n
          · exact n.elim
      · obtain ⟨o1, o2⟩ := ow a w
        have o2 : H a = none := o2.elim id fun z => z.elim
        refine ⟨o1, freeB a o2, fun z => ?_⟩
        obtain ⟨ws, hw⟩ := g2.slo_lst (g2.slo_back kp z)
        rw [o2] at hw; cases hw
    | true =>
      rw [hf] at h
      simp only [Bool.or_true, if_true] at h
      have fv := fl hf
      have kp : ∀ a, Slo ω1 H ρ σ a → H3 a = H a := fun a z => by
        obtain ⟨ws, hw⟩ := g.slo_lst z
        rw [hw]
        exact fr a _ hw (nA a)
      have rF : RepF G.K S3 v x := r.plain (flat_no fv)
      let S4 : Hp := fun a => open Classical in if Slo ω1 H ρ σ a then none else S3 a
      have i4 : ∀ a, Slo ω1 H ρ σ a → S4 a = none := fun a z => by
        show (open Classical in if Slo ω1 H ρ σ a then none else S3 a) = none
        rw [if_pos z]
      have n4 : ∀ a, ¬ Slo ω1 H ρ σ a → S4 a = S3 a := fun a z => by
        show (open Classical in if Slo ω1 H ρ σ a then none else S3 a) = S3 a
        rw [if_neg z]
      have u4 : ∀ a o, S4 a = some o → S3 a = some o ∧ ¬ Slo ω1 H ρ σ a := fun a o z => by
        by_cases y : Slo ω1 H ρ σ a
        · rw [i4 a y] at z; cases z
        · rw [n4 a y] at z; exact ⟨z, y⟩
      refine h x S4 H3 (fun a o z => ?_) (g.grow (fun a o z => ?_) (fun a o z => s3 a o (u4 a o z).1) (fB fr) (fun a o z => ?_) kp i4) ?_ fun a w => (Owns.no (.inr (flat_no fv)) w).elim
      · have y : ¬ Slo ω1 H ρ σ a := fun y => by rw [(g.slo y).1] at z; cases z
        rw [n4 a y]
        exact e3 a o (e2 a o z)
      · have y : ¬ Slo ω1 H ρ σ a := fun y => by rw [(g.slo y).1] at z; cases z
        rw [n4 a y]
        exact e3 a o (e2 a o z)
      · obtain ⟨z1, z2⟩ := u4 a o z
        rcases nw a o z1 with n | n | n
        · have hB := (g2.nw a o n)
          by_cases y : S a = none
          · right
            rcases hB with hB | hB
            · have := g.s0 a o hB
              rw [y] at this; cases this
            · exact hB
          · left
            cases y2 : S a with
            | none => exact absurd y2 y
            | some o2 =>
              have := e2 a o2 y2
              rw [n] at this
              exact this.symm
        · exact .inr (freeB a n)
        · exact n.elim
      · refine RepO.of (flat_keep (fun a ws t => ?_) rF fv) (.inr (flat_no fv))
        rcases t with (t | ⟨o, t⟩) | t
        · by_cases y : Slo ω1 H ρ σ a
          · obtain ⟨us, hu⟩ := g.slo_lst y
            have k1 := kp a y
            have k2 := s3 a _ t
            rw [hu] at k1
            rw [k1] at k2
            cases k2
          · exact .inl (.inl (by rw [n4 a y]; exact t))
        · by_cases y : Slo ω1 H ρ σ a
          · obtain ⟨us, hu⟩ := g.slo_lst y
            have k1 := kp a y
            have k2 := s3 a _ t
            rw [hu] at k1
            rw [k1] at k2
            cases k2
          · exact .inl (.inr ⟨o, by rw [n4 a y]; exact t⟩)
        · exact .inr t
theorem headIs_eq {i : Nat} {as : ME} (h : headIs i as = true) : ∃ r, as = .cons (.var i) r := by
  unfold headIs at h
  split at h
  · rw [beq_iff_eq] at h
    subst h
    exact ⟨_, rfl⟩
  · cases h
/-- behind the call of a def that changes its first argument, the list of slot i -/
theorem callio_ok {f i : Nat} {as : ME} {vs : List Val} {xs : List V} {Q : VK} (hio : (G.sg f).io = true) (hh : headIs i as = true) (hi : ownAt (frzT as ω1) i = true)
    (g : Gd G.K F S H ω1 ρ σ) (ar : ArgR G.K S ρ σ as vs xs)
    (h : match G.Φ f vs with
      | .ok v (some u) => ∀ x S' H', Same S S' → Gd G.K F S' H' (frzT as ω1) (ρ.set i (some u)) σ → RepO G.K ((G.sg f).own || (G.sg f).flat) S' H' v x →
          Mine F S' H' (frzT as ω1) (ρ.set i (some u)) σ ((G.sg f).own || (G.sg f).flat) v x → Q x H'
      | .err e (some u) => ∀ cls d S' H', Same S S' → Gd G.K F S' H' [] (ρ.set i (some u)) σ → G.xr e cls d S' → W cls d σ H'
      | _ => False) : spOf G (G.sg f) (G.Φ f) xs H Q (WE W σ) := by
  obtain ⟨r, rfl⟩ := headIs_eq hh
  cases vs with
  | nil => exact False.elim ar
  | cons u us =>
  cases xs with
  | nil => exact False.elim ar
  | cons y ys =>
  obtain ⟨⟨a1, a2⟩, ar⟩ := ar
  obtain ⟨S2, e2, g2, r2⟩ := ar.freeze g
  have hi : ownAt (frzA r ω1) i = true := hi
  have ry : RepO G.K true S2 H u y := by
    obtain ⟨z, hz, q⟩ := g2.rep i u a1
    rw [a2] at hz
    cases hz
    rw [hi] at q
    exact q
  have oy : ∀ a, Owns true H u y a → S2 a = none ∧ F.B a = none := fun a w => g2.own i u y a1 a2 a (by rw [hi]; exact w)
  have ay : ∀ a, IoA true H (u :: us) (y :: ys) a → Owns true H u y a := fun a w => w
  have sy : ∀ a, Owns true H u y a → Slo (frzA r ω1) H ρ σ a := fun a w => ⟨i, u, y, a1, a2, by rw [hi]; exact w⟩
  refine ⟨u :: us, S2, g2.sub, by rw [hio]; exact ⟨ry, fun a w => (oy a w).1, r2⟩, ?_⟩
  rw [hio]
  have hl : i < ρ.length := (List.getElem?_eq_some_iff.mp a1).1
  have freeB : ∀ a, H a = none → F.B a = none := fun a q => by
    cases z : F.B a with
    | none => rfl
    | some o => have := g2.fr a o z; rw [q] at this; cases this
  -- the state behind
  have after : ∀ {u1 : Val} {S3 H3 : Hp} {res : Addr → Prop}, Same S2 S3 → Same S3 H3 → (∀ a o, H a = some o → ¬ IoA true H (u :: us) (y :: ys) a → H3 a = some o) →
      (∀ a o, S3 a = some o → S2 a = some o ∨ H a = none ∨ IoA true H (u :: us) (y :: ys) a) → IoOut G.K true S3 H3 H (u :: us) (y :: ys) (some u1) res →
      Gd G.K F S3 H3 (frzA r ω1) (ρ.set i (some u1)) σ ∧ ∀ a, Slo (frzA r ω1) H3 (ρ.set i (some u1)) σ a → (H a = none ∨ IoA true H (u :: us) (y :: ys) a) → res a → False := by
    intro u1 S3 H3 res e3 s3 fr nw io
    obtain ⟨io1, io2⟩ := io
    have kp : ∀ j w x, j ≠ i → ρ[j]? = some (some w) → σ[j]? = some (some x) → ∀ a, Owns (ownAt (frzA r ω1) j) H w x a → H3 a = H a := fun j w x n h1 h2 a ow => by
      obtain ⟨ws, hw⟩ := g2.slo_lst ⟨j, w, x, h1, h2, ow⟩
      rw [hw]
      exact fr a _ hw fun z => n (g2.dis j i w u x y a h1 h2 a1 a2 ow (by rw [hi]; exact ay a z))
    have bk : ∀ j w x, j ≠ i → ρ[j]? = some (some w) → σ[j]? = some (some x) → ∀ a, Owns (ownAt (frzA r ω1) j) H3 w x a → Owns (ownAt (frzA r ω1) j) H w x a := fun j w x n h1 h2 a ow => by
      obtain ⟨z, h3, q⟩ := g2.rep j w h1
      rw [h2] at h3
      cases h3
      exact ow.back q (kp j w x n h1 h2)
    have look : ∀ j w x, (ρ.set i (some u1))[j]? = some (some w) → σ[j]? = some (some x) → (j = i ∧ w = u1 ∧ x = y) ∨ (j ≠ i ∧ ρ[j]? = some (some w)) := fun j w x h1 h2 => by
      by_cases z : i = j
      · subst z
        rw [List.getElem?_set_self hl] at h1
        rw [a2] at h2
        cases h1
        cases h2
        exact .inl ⟨rfl, rfl, rfl⟩
      · rw [List.getElem?_set_ne z] at h1
        exact .inr ⟨fun e => z e.symm, h1⟩
    have nS : ∀ j w x, j ≠ i → ρ[j]? = some (some w) → σ[j]? = some (some x) → ∀ a, Owns (ownAt (frzA r ω1) j) H w x a → S3 a = none := fun j w x n h1 h2 a ow => by
      cases z : S3 a with
      | none => rfl
      | some o =>
        have sl : Slo (frzA r ω1) H ρ σ a := ⟨j, w, x, h1, h2, ow⟩
        rcases nw a o z with q | q | q
        · rw [(g2.slo sl).1] at q; cases q
        · obtain ⟨ws, hw⟩ := g2.slo_lst sl
          rw [hw] at q; cases q
        · exact absurd (g2.dis j i w u x y a h1 h2 a1 a2 ow (by rw [hi]; exact ay a q)) n
    have gg : Gd G.K F S3 H3 (frzA r ω1) (ρ.set i (some u1)) σ := by
      refine ⟨s3, g2.s0.trans e3, fun a o q => ?_, fun a o q => ?_, by simp [g2.len], fun j w h1 => ?_, fun j w x h1 h2 a ow => ?_, fun j k w w' x x' a h1 h2 h3 h4 o1 o2 => ?_, g2.io⟩
      · exact fr a o (g2.fr a o q) fun z => by rw [(oy a (ay a z)).2] at q; cases q
      · rcases nw a o q with z | z | z
        · exact g2.nw a o z
        · exact .inr (freeB a z)
        · exact .inr (oy a (ay a z)).2
      · by_cases z : i = j
        · subst z
          rw [List.getElem?_set_self hl] at h1
          cases h1
          exact ⟨y, a2, by rw [hi]; exact io1⟩
        · rw [List.getElem?_set_ne z] at h1
          obtain ⟨x, h2, q⟩ := g2.rep j w h1
          exact ⟨x, h2, q.mono e3 (kp j w x (fun e => z e.symm) h1 h2)⟩
      · rcases look j w x h1 h2 with ⟨rfl, rfl, rfl⟩ | ⟨n, h1'⟩
        · rw [hi] at ow
          obtain ⟨q1, q2, _⟩ := io2 a ow
          refine ⟨q1, ?_⟩
          rcases q2 with q2 | q2
          · exact freeB a q2
          · exact (oy a (ay a q2)).2
        · have ow' := bk j w x n h1' h2 a ow
          exact ⟨nS j w x n h1' h2 a ow', (g2.own j w x h1' h2 a ow').2⟩
      · rcases look j w x h1 h2 with ⟨rfl, rfl, rfl⟩ | ⟨n, h1'⟩
        · rcases look k w' x' h3 h4 with ⟨rfl, rfl, rfl⟩ | ⟨n', h3'⟩
          · rfl
          · rw [hi] at o1
            have o2' := bk k w' x' n' h3' h4 a o2
            rcases (io2 a o1).2.1 with q | q
            · obtain ⟨ws, hw⟩ := g2.slo_lst ⟨k, w', x', h3', h4, o2'⟩
              rw [hw] at q; cases q
            · exact (g2.dis k _ w' u x' _ a h3' h4 a1 a2 o2' (by rw [hi]; exact ay a q)).symm
        · rcases look k w' x' h3 h4 with ⟨rfl, rfl, rfl⟩ | ⟨n', h3'⟩
          · rw [hi] at o2
            have o1' := bk j w x n h1' h2 a o1
            rcases (io2 a o2).2.1 with q | q
            · obtain ⟨ws, hw⟩ := g2.slo_lst ⟨j, w, x, h1', h2, o1'⟩
              rw [hw] at q; cases q
            · exact g2.dis j _ w u x _ a h1' h2 a1 a2 o1' (by rw [hi]; exact ay a q)
          · exact g2.dis j k w w' x x' a h1' h2 h3' h4 (bk j w x n h1' h2 a o1) (bk k w' x' n' h3' h4 a o2)
    refine ⟨gg, fun a ⟨j, w, x, h1, h2, ow⟩ fr ra => ?_⟩
    rcases look j w x h1 h2 with ⟨rfl, rfl, rfl⟩ | ⟨n, h1'⟩
    · rw [hi] at ow
      exact (io2 a ow).2.2 ra
    · have ow' := bk j w x n h1' h2 a ow
      rcases fr with q | q
      · obtain ⟨ws, hw⟩ := g2.slo_lst ⟨j, w, x, h1', h2, ow'⟩
        rw [hw] at q; cases q
      · exact n (g2.dis j i w u x y a h1' h2 a1 a2 ow' (by rw [hi]; exact ay a q))
  cases q : G.Φ f (u :: us) with
  | stuck => rw [q] at h; exact h
  | err e out =>
    rw [q] at h
    intro cls d S3 H3 e3 s3 fr nw xr io
    cases out with
    | none => exact False.elim h
    | some u1 =>
      obtain ⟨g3, _⟩ := after e3 s3 fr nw io
      obtain ⟨S4, e4, g4, _⟩ := g3.le (ω' := []) fun i z => by simp [ownAt] at z
      exact h cls d S4 H3 ((e2.trans e3).trans e4) g4 (G.xrm e4 xr)
  | ok v out =>
    rw [q] at h
    intro x S3 H3 e3 s3 fr nw rx ow fl io
    cases out with
    | none => exact False.elim h
    | some u1 =>
      obtain ⟨g3, k3⟩ := after e3 s3 fr nw io
      refine h x S3 H3 (e2.trans e3) g3 ?_ ?_
      · cases hf : (G.sg f).flat with
        | false => rw [Bool.or_false]; exact rx
        | true => exact RepO.of (rx.plain (flat_no (fl hf))) (.inr (flat_no (fl hf)))
      · intro a w
        have w' : Owns (G.sg f).own H3 v x a := by
          cases hf : (G.sg f).flat with
          | false => rw [hf, Bool.or_false] at w; exact w
          | true => exact (Owns.no (.inr (flat_no (fl hf))) w).elim
        obtain ⟨q1, q2⟩ := ow a w'
        refine ⟨q1, ?_, fun z => k3 a z q2 w'⟩
        rcases q2 with q2 | q2
        · exact freeB a q2
        · exact (oy a (ay a q2)).2
end
end Pv
/-! Pv, part H: targets, blocks, loops' heads. -/
namespace Pv
open PySem PySem.Spec PyProof.Rows L2
def gTg (K : PySem.W.Frag) (tg : List Nat) (tt : Bool) : TG := match tt, tg with
  | false, [i] => gName i
  | true, is => gTup K is.length (is.foldr (fun i t => gCons (gName i) t) gNil)
  | _, _ => fun _ _ _ _ => False
theorem meet_at (a b : Own) (i : Nat) : ownAt (meet a b) i = true → ownAt a i = true ∧ ownAt b i = true := fun h => by
  unfold ownAt meet at *
  rw [List.getD_eq_getElem?_getD] at *
  rw [List.getElem?_zipWith] at h
  rw [List.getD_eq_getElem?_getD]
  cases q1 : a[i]? <;> cases q2 : b[i]? <;> rw [q1, q2] at h <;> simp at h ⊢
  exact h
theorem setF_at (ω : Own) : ∀ (is : List Nat) (i : Nat), ownAt (setF ω is) i = true → ownAt ω i = true ∧ i ∉ is
  | [], i, h => ⟨h, by simp⟩
  | j :: js, i, h => by
    have h : ownAt ((setF ω js).set j false) i = true := h
    obtain ⟨h1, h2⟩ := setF_at ω js i (ownAt_setF _ _ _ h)
    refine ⟨h1, ?_⟩
    simp only [List.mem_cons, not_or]
    refine ⟨fun e => ?_, h2⟩
    subst e
    rw [ownAt_setF'] at h
    cases h
theorem setF_eq (ω : Own) : ∀ (is : List Nat) (j : Nat), ownAt (setF ω is) j = if j ∈ is then false else ownAt ω j
  | [], j => by simp [setF]
  | i :: is, j => by
    show ownAt ((setF ω is).set i false) j = _
    by_cases e : j = i
    · subst e
      rw [ownAt_setF', if_pos List.mem_cons_self]
    · rw [ownAt_set, if_neg fun z => e z.1.symm, setF_eq ω is j]
      by_cases m : j ∈ is
      · rw [if_pos m, if_pos (List.mem_cons_of_mem _ m)]
      · rw [if_neg m, if_neg (by simp [e, m])]
theorem wipe_get (σ : L2.St) : ∀ (vs : List Nat) (j : Nat), (wipe σ vs)[j]? = if j ∈ vs then (σ[j]?).map (fun _ => none) else σ[j]?
  | [], j => by simp [wipe]
  | v :: vs, j => by
    show ((wipe σ vs).set v none)[j]? = _
    have ih := wipe_get σ vs j
    by_cases e : v = j
    · subst e
      rw [if_pos List.mem_cons_self, List.getElem?_set]
      have hl : (wipe σ vs).length = σ.length := wipe_length σ vs
      by_cases h : v < σ.length
      · simp [hl, h]
      · simp [hl, h]
    · rw [List.getElem?_set_ne e, ih]
      have e' : ¬ j = v := fun z => e z.symm
      by_cases m : j ∈ vs
      · rw [if_pos m, if_pos (List.mem_cons_of_mem _ m)]
      · rw [if_neg m, if_neg (by simp [e', m])]
theorem wipeS_get (ρ : Slots) : ∀ (vs : List Nat) (j : Nat), (wipeS ρ vs)[j]? = if j ∈ vs then (ρ[j]?).map (fun _ => none) else ρ[j]?
  | [], j => by simp [wipeS]
  | v :: vs, j => by
    show ((wipeS ρ vs).set v none)[j]? = _
    have ih := wipeS_get ρ vs j
    have hl : (wipeS ρ vs).length = ρ.length := by
      clear ih
      induction vs with
      | nil => rfl
      | cons w ws ih => show ((wipeS ρ ws).set w none).length = _; rw [List.length_set, ih]
    by_cases e : v = j
    · subst e
      rw [if_pos List.mem_cons_self, List.getElem?_set]
      by_cases h : v < ρ.length
      · simp [hl, h]
      · simp [hl, h]
    · rw [List.getElem?_set_ne e, ih]
      have e' : ¬ j = v := fun z => e z.symm
      by_cases m : j ∈ vs
      · rw [if_pos m, if_pos (List.mem_cons_of_mem _ m)]
      · rw [if_neg m, if_neg (by simp [e', m])]
theorem backS_get (ρ1 ρ2 : Slots) : ∀ (vs : List Nat) (j : Nat), (backS ρ1 ρ2 vs)[j]? = if j ∈ vs then (ρ2[j]?).map (fun _ => ρ1.getD j none) else ρ2[j]?
  | [], j => by simp [backS]
  | v :: vs, j => by
    show ((backS ρ1 ρ2 vs).set v (ρ1.getD v none))[j]? = _
    have ih := backS_get ρ1 ρ2 vs j
    have hl : (backS ρ1 ρ2 vs).length = ρ2.length := by
      clear ih
      induction vs with
      | nil => rfl
      | cons w ws ih => show ((backS ρ1 ρ2 ws).set w _).length = _; rw [List.length_set, ih]
    by_cases e : v = j
    · subst e
      rw [if_pos List.mem_cons_self, List.getElem?_set]
      by_cases h : v < ρ2.length
      · simp [hl, h]
      · simp [hl, h]
    · rw [List.getElem?_set_ne e, ih]
      have e' : ¬ j = v := fun z => e z.symm
      by_cases m : j ∈ vs
      · rw [if_pos m, if_pos (List.mem_cons_of_mem _ m)]
      · rw [if_neg m, if_neg (by simp [e', m])]
theorem wipe_set {σ : L2.St} {vs : List Nat} {i : Nat} {x : Option V} (h : i ∈ vs) : wipe (σ.set i x) vs = wipe σ vs := by
  refine List.ext_getElem? fun j => ?_
  rw [wipe_get, wipe_get]
  by_cases m : j ∈ vs
  · rw [if_pos m, if_pos m, List.getElem?_set]
    by_cases e : i = j
    · subst e
      by_cases hl : i < σ.length
      · simp [hl]
      · simp [hl]
    · simp [e]
  · rw [if_neg m, if_neg m, List.getElem?_set_ne fun e => m (by rw [← e]; exact h)]
theorem wipe_wipe (σ : L2.St) (vs : List Nat) : wipe (wipe σ vs) vs = wipe σ vs := by
  refine List.ext_getElem? fun j => ?_
  rw [wipe_get, wipe_get]
  by_cases m : j ∈ vs
  · rw [if_pos m, if_pos m]
    cases σ[j]? <;> rfl
  · rw [if_neg m, if_neg m]
theorem loopO_ok {Fn : Own → Option Own} : ∀ {k : Nat} {ω ωh : Own}, loopO Fn k ω = some ωh → (∀ i, ownAt ωh i = true → ownAt ω i = true) ∧ ∃ ω1, Fn ωh = some ω1 ∧ ∀ i, ownAt ωh i = true → ownAt ω1 i = true
  | 0, _, _, h => by cases h
  | k + 1, ω, ωh, h => by
    rw [loopO] at h
    split at h
    · cases h
    · rename_i ω1 e
      split at h
      · rename_i em
        cases h
        exact ⟨fun _ z => z, ω1, e, fun i z => (meet_at ω ω1 i (by rw [em]; exact z)).2⟩
      · obtain ⟨h1, h2⟩ := loopO_ok h
        exact ⟨fun i z => (meet_at ω ω1 i (h1 i z)).1, h2⟩
section
variable {K : PySem.W.Frag} {F : Frm} {S S' H H' : Hp} {ω ω' : Own} {ρ ρ1 ρ2 : Slots} {σ σ1 : L2.St} {vs : List Nat}
theorem Gd.ext (g : Gd K F S H ω ρ σ) (e : ∀ i, ownAt ω' i = ownAt ω i) : Gd K F S H ω' ρ σ where
  sub := g.sub
  s0 := g.s0
  fr := g.fr
  nw := g.nw
  len := g.len
  rep := fun i v h => by rw [e i]; exact g.rep i v h
  own := fun i v x h1 h2 a w => g.own i v x h1 h2 a (by rw [← e i]; exact w)
  dis := fun i j v w x y a h1 h2 h3 h4 o1 o2 => g.dis i j v w x y a h1 h2 h3 h4 (by rw [← e i]; exact o1) (by rw [← e j]; exact o2)
  io := g.io
/-- names of a target get values -/
theorem binds_ok {vs0 : List Nat} : ∀ {is : List Nat} {vs : List Val} {xs : List V} {ω : Own} {ρ : Slots} {σ : L2.St} {Q : L2.St → Hp → Prop}, bindS is vs ρ = some ρ1 → RepL K S vs xs → Gd K F S H ω ρ σ → (F.io = none ∨ 0 ∉ is) →
    (∀ j, ownAt ω' j = if j ∈ is then false else ownAt ω j) → (∀ σ1, Gd K F S H ω' ρ1 σ1 → ((∀ i ∈ is, i ∈ vs0) → wipe σ1 vs0 = wipe σ vs0) → Q σ1 H) → (is.foldr (fun i t => gCons (gName i) t) gNil) xs σ H Q
  | [], [], xs, ω, ρ, σ, Q, h, r, g, _, ho, q => by
    cases h
    cases r
    exact ⟨rfl, q σ (g.ext fun j => by rw [ho j, if_neg (by simp)]) fun _ => rfl⟩
  | i :: is, v :: vs, xs, ω, ρ, σ, Q, h, r, g, hio, ho, q => by
    cases r with
    | cons r rs =>
      rename_i x xs
      refine ⟨x, xs, rfl, ?_⟩
      have g1 : Gd K F S H (ω.set i false) (ρ.set i (some v)) (σ.set i (some x)) := by
        refine g.set (o := false) (RepO.false.mpr r) (fun a w => (Owns.false w).elim) ?_ (ownAt_setF' _ _) fun j n => ?_
        · rcases hio with z | z
          · exact .inl z
          · exact .inr fun e => z (by rw [e]; exact List.mem_cons_self)
        · rw [ownAt_set, if_neg fun z => n z.1.symm]
      refine binds_ok (vs0 := vs0) h rs g1 (hio.imp id fun z y => z (List.mem_cons_of_mem _ y)) (fun j => ?_) fun σ1 g2 e => q σ1 g2 fun hm => ?_
      · rw [ho j]
        by_cases m : j ∈ is
        · rw [if_pos m, if_pos (List.mem_cons_of_mem _ m)]
        · rw [if_neg m]
          by_cases e : j = i
          · subst e
            rw [if_pos List.mem_cons_self, ownAt_setF']
          · rw [if_neg (by simp [e, m]), ownAt_set, if_neg fun z => e z.1.symm]
      · rw [e fun j hj => hm j (List.mem_cons_of_mem _ hj), wipe_set (hm i List.mem_cons_self)]
  | [], _ :: _, _, _, _, _, _, h, _, _, _, _, _ => by cases h
  | _ :: _, [], _, _, _, _, _, h, _, _, _, _, _ => by cases h
theorem bindS_len : ∀ {is : List Nat} {vs : List Val} {ρ : Slots}, bindS is vs ρ = some ρ1 → is.length = vs.length
  | [], [], _, _ => rfl
  | _ :: is, _ :: vs, _, h => congrArg (· + 1) (bindS_len (is := is) (vs := vs) h)
  | [], _ :: _, _, h => by cases h
  | _ :: _, [], _, h => by cases h
theorem tg_ok {vs0 tg : List Nat} {tt : Bool} {v : Val} {x : V} {Q : L2.St → Hp → Prop} (h : tgS tg tt v ρ = some ρ1) (r : RepF K S v x) (g : Gd K F S H ω ρ σ) (hio : F.io = none ∨ 0 ∉ tg)
    (q : ∀ σ1, Gd K F S H (setF ω tg) ρ1 σ1 → ((∀ i ∈ tg, i ∈ vs0) → wipe σ1 vs0 = wipe σ vs0) → Q σ1 H) : gTg K tg tt x σ H Q := by
  cases tt with
  | false =>
    match tg, h, hio, q with
    | [i], h, hio, q =>
      have h : some (ρ.set i (some v)) = some ρ1 := h
      cases h
      show Q (σ.set i (some x)) H
      refine q _ ?_ fun hm => wipe_set (hm i List.mem_cons_self)
      refine g.set (o := false) (RepO.false.mpr r) (fun a w => (Owns.false w).elim) ?_ ?_ fun j n => ?_
      · rcases hio with z | z
        · exact .inl z
        · exact .inr fun e => z (by rw [e]; exact List.mem_cons_self)
      · rw [setF_eq, if_pos List.mem_cons_self]
      · rw [setF_eq, if_neg (by simp [n])]
    | [], h, _, _ => simp [tgS] at h
    | _ :: _ :: _, h, _, _ => simp [tgS] at h
  | true =>
    cases r with
    | tup hq r =>
      have h : bindS tg _ ρ = some ρ1 := h
      refine ⟨_, _, rfl, Same.sqt g.sub hq, ?_, binds_ok h r g hio (fun j => setF_eq _ _ _) q⟩
      rw [← r.length, bindS_len h]
    | _ => simp [tgS] at h
/-! the heap of a block's new list -/
theorem Gd.enter (g : Gd K F S H ω ρ σ) {D : Addr} {o : HO} (hD : H D = none) : Gd K ⟨F.S0, upd F.B D o, F.io⟩ S (upd H D o) ω ρ σ := by
  have g1 := g.alloc (o := o) hD
  have ns := g.notSlo (u := o) hD
  refine ⟨g1.sub, g1.s0, fun a u q => ?_, fun a u q => ?_, g1.len, g1.rep, fun i v x h1 h2 a w => ?_, g1.dis, g1.io⟩
  · by_cases e : a = D
    · subst e
      have q : upd F.B a o a = some u := q
      rw [upd_same] at q ⊢
      exact q
    · have q : upd F.B D o a = some u := q
      rw [upd_ne e] at q
      exact g1.fr a u q
  · have ne : a ≠ D := fun e => by rw [e, (g.free hD).1] at q; cases q
    rcases g1.nw a u q with z | z
    · exact .inl z
    · exact .inr (by show upd F.B D o a = none; rw [upd_ne ne]; exact z)
  · have ne : a ≠ D := fun e => ns ⟨i, v, x, h1, h2, e ▸ w⟩
    obtain ⟨k1, k2⟩ := g1.own i v x h1 h2 a w
    exact ⟨k1, by show upd F.B D o a = none; rw [upd_ne ne]; exact k2⟩
theorem Gd.swapD {D : Addr} {o o' : HO} (g : Gd K ⟨F.S0, upd F.B D o, F.io⟩ S H ω ρ σ) (hS : S D = none) : Gd K ⟨F.S0, upd F.B D o', F.io⟩ S (upd H D o') ω ρ σ := by
  have hB : (⟨F.S0, upd F.B D o, F.io⟩ : Frm).B D = some o := upd_same
  have nD : ∀ a, Slo ω H ρ σ a → a ≠ D := fun a z e => by
    have := (g.slo z).2.1
    rw [e, hB] at this
    cases this
  have kp : ∀ i v x, ρ[i]? = some (some v) → σ[i]? = some (some x) → ∀ a, Owns (ownAt ω i) H v x a → upd H D o' a = H a := fun i v x h1 h2 a w => upd_ne (nD a ⟨i, v, x, h1, h2, w⟩)
  have bk : ∀ i v x, ρ[i]? = some (some v) → σ[i]? = some (some x) → ∀ a, Owns (ownAt ω i) (upd H D o') v x a → Owns (ownAt ω i) H v x a := fun i v x h1 h2 a w => by
    obtain ⟨y, h3, r⟩ := g.rep i v h1
    rw [h2] at h3
    cases h3
    exact w.back r (kp i v x h1 h2)
  refine ⟨fun a u q => ?_, g.s0, fun a u q => ?_, fun a u q => ?_, g.len, fun i v h1 => ?_, fun i v x h1 h2 a w => ?_, fun i j v w x y a h1 h2 h3 h4 o1 o2 => g.dis i j v w x y a h1 h2 h3 h4 (bk i v x h1 h2 a o1) (bk j w y h3 h4 a o2), g.io⟩
  · rw [upd_ne (fun e => by rw [e, hS] at q; cases q)]
    exact g.sub a u q
  · have q : upd F.B D o' a = some u := q
    by_cases e : a = D
    · subst e
      rw [upd_same] at q ⊢
      exact q
    · rw [upd_ne e] at q ⊢
      exact g.fr a u (by show upd F.B D o a = some u; rw [upd_ne e]; exact q)
  · rcases g.nw a u q with z | z
    · exact .inl z
    · refine .inr ?_
      have z : upd F.B D o a = none := z
      have ne : a ≠ D := fun e => by rw [e, upd_same] at z; cases z
      show upd F.B D o' a = none
      rw [upd_ne ne] at z ⊢
      exact z
  · obtain ⟨x, h2, r⟩ := g.rep i v h1
    exact ⟨x, h2, r.mono (Same.refl _) (kp i v x h1 h2)⟩
  · have w' := bk i v x h1 h2 a w
    obtain ⟨k1, k2⟩ := g.own i v x h1 h2 a w'
    have ne := nD a ⟨i, v, x, h1, h2, w'⟩
    refine ⟨k1, ?_⟩
    have k2 : upd F.B D o a = none := k2
    show upd F.B D o' a = none
    rw [upd_ne ne] at k2 ⊢
    exact k2
theorem Gd.leave {D : Addr} {o : HO} (g : Gd K ⟨F.S0, upd F.B D o, F.io⟩ S H ω ρ σ) (hB : F.B D = none) : Gd K F S H ω ρ σ ∧ H D = some o ∧ ¬ Slo ω H ρ σ D := by
  have un : ∀ a, upd F.B D o a = none → F.B a = none := fun a z => by
    by_cases e : a = D
    · rw [e]; exact hB
    · rwa [upd_ne e] at z
  refine ⟨⟨g.sub, g.s0, fun a u q => ?_, fun a u q => (g.nw a u q).imp id (un a), g.len, g.rep, fun i v x h1 h2 a w => ?_, g.dis, g.io⟩, g.fr D o upd_same, fun z => ?_⟩
  · refine g.fr a u ?_
    show upd F.B D o a = some u
    rw [upd_ne (fun e => by rw [e, hB] at q; cases q)]
    exact q
  · obtain ⟨k1, k2⟩ := g.own i v x h1 h2 a w
    exact ⟨k1, un a k2⟩
  · have := (g.slo z).2.1
    have this : upd F.B D o D = none := this
    rw [upd_same] at this
    cases this
/-- the block's own names are forgotten -/
theorem Gd.wipe (g : Gd K F S H ω ρ σ) {vs : List Nat} (h0 : 0 ∉ vs) : Gd K F S H ω (wipeS ρ vs) (L2.wipe σ vs) := by
  have lk : ∀ i v, (wipeS ρ vs)[i]? = some (some v) → ρ[i]? = some (some v) ∧ i ∉ vs := fun i v h => by
    rw [wipeS_get] at h
    by_cases m : i ∈ vs
    · rw [if_pos m] at h
      cases q : ρ[i]? <;> rw [q] at h <;> cases h
    · rw [if_neg m] at h
      exact ⟨h, m⟩
  have lkσ : ∀ i x, i ∉ vs → (L2.wipe σ vs)[i]? = some (some x) → σ[i]? = some (some x) := fun i x m h => by
    rw [wipe_get, if_neg m] at h
    exact h
  refine ⟨g.sub, g.s0, g.fr, g.nw, ?_, fun i v h => ?_, fun i v x h1 h2 a w => ?_, fun i j v w x y a h1 h2 h3 h4 o1 o2 => ?_, fun x h => ?_⟩
  · have e1 : (wipeS ρ vs).length = ρ.length := by
      clear lk lkσ h0
      induction vs with
      | nil => rfl
      | cons w ws ih => show ((wipeS ρ ws).set w none).length = _; rw [List.length_set, ih]
    rw [e1, wipe_length, g.len]
  · obtain ⟨h1, m⟩ := lk i v h
    obtain ⟨x, h2, r⟩ := g.rep i v h1
    exact ⟨x, by rw [wipe_get, if_neg m]; exact h2, r⟩
  · obtain ⟨h1, m⟩ := lk i v h1
    exact g.own i v x h1 (lkσ i x m h2) a w
  · obtain ⟨h1, m⟩ := lk i v h1
    obtain ⟨h3, m'⟩ := lk j w h3
    exact g.dis i j v w x y a h1 (lkσ i x m h2) h3 (lkσ j y m' h4) o1 o2
  · rw [wipe_get, if_neg h0]
    exact g.io x h
theorem Gd.back {ρ0 : Slots} (g : Gd K F S H ω (wipeS ρ vs) (L2.wipe σ vs)) (h0 : 0 ∉ vs) (hl : ρ.length = σ.length) (ho : ∀ i ∈ vs, ownAt ω i = false) (hr : ∀ i ∈ vs, ∀ v, ρ0[i]? = some (some v) → ∃ x, σ[i]? = some (some x) ∧ RepF K S v x) :
    Gd K F S H ω (backS ρ0 ρ vs) σ := by
  have lk : ∀ i v, (backS ρ0 ρ vs)[i]? = some (some v) → (i ∉ vs ∧ (wipeS ρ vs)[i]? = some (some v)) ∨ (i ∈ vs ∧ ρ0[i]? = some (some v)) := fun i v h => by
    rw [backS_get] at h
    by_cases m : i ∈ vs
    · rw [if_pos m] at h
      refine .inr ⟨m, ?_⟩
      cases q : ρ[i]? with
      | none => rw [q] at h; cases h
      | some u =>
        rw [q] at h
        have h : some (ρ0.getD i none) = some (some v) := h
        rw [List.getD_eq_getElem?_getD] at h
        cases q2 : ρ0[i]? with
        | none => rw [q2] at h; cases h
        | some u => rw [q2] at h; exact h
    · rw [if_neg m] at h
      exact .inl ⟨m, by rw [wipeS_get, if_neg m]; exact h⟩
  have lkσ : ∀ i, i ∉ vs → (L2.wipe σ vs)[i]? = σ[i]? := fun i m => by rw [wipe_get, if_neg m]
  refine ⟨g.sub, g.s0, g.fr, g.nw, ?_, fun i v h => ?_, fun i v x h1 h2 a w => ?_, fun i j v w x y a h1 h2 h3 h4 o1 o2 => ?_, fun x h => ?_⟩
  · have e1 : (backS ρ0 ρ vs).length = ρ.length := by
      clear lk lkσ h0 ho hr g
      induction vs with
      | nil => rfl
      | cons w ws ih => show ((backS ρ0 ρ ws).set w _).length = _; rw [List.length_set, ih]
    rw [e1, hl]
  · rcases lk i v h with ⟨m, h1⟩ | ⟨m, h1⟩
    · obtain ⟨x, h2, r⟩ := g.rep i v h1
      exact ⟨x, by rw [← lkσ i m]; exact h2, r⟩
    · obtain ⟨x, h2, r⟩ := hr i m v h1
      exact ⟨x, h2, by rw [ho i m, RepO.false]; exact r⟩
  · rcases lk i v h1 with ⟨m, h1⟩ | ⟨m, h1⟩
    · exact g.own i v x h1 (by rw [lkσ i m]; exact h2) a w
    · rw [ho i m] at w
      exact (Owns.false w).elim
  · rcases lk i v h1 with ⟨m, h1⟩ | ⟨m, h1⟩
    · rcases lk j w h3 with ⟨m', h3⟩ | ⟨m', h3⟩
      · exact g.dis i j v w x y a h1 (by rw [lkσ i m]; exact h2) h3 (by rw [lkσ j m']; exact h4) o1 o2
      · rw [ho j m'] at o2
        exact (Owns.false o2).elim
    · rw [ho i m] at o1
      exact (Owns.false o1).elim
  · rw [← lkσ 0 h0]
    exact g.io x h
/-- a value of a slot or a new one: less may be asked of it -/
theorem Gd.lower (g : Gd K F S H ω ρ σ) {o o' : Bool} {v : Val} {x : V} (r : RepO K o S H v x) (m : Mine F S H ω ρ σ o v x) (ho : o' = true → o = true) (hω : ∀ i, ownAt ω' i = true → ownAt ω i = true) :
    ∃ S', Same S S' ∧ Gd K F S' H ω' ρ σ ∧ RepO K o' S' H v x ∧ Mine F S' H ω' ρ σ o' v x := by
  obtain ⟨S1, e1, g1, k1⟩ := g.le hω
  have sl : ∀ a, Slo ω' H ρ σ a → Slo ω H ρ σ a := fun a ⟨i, v, x, h1, h2, w⟩ => ⟨i, v, x, h1, h2, by
    cases q : ownAt ω' i with
    | true => rw [hω i q]; rw [q] at w; exact w
    | false => rw [q] at w; exact (Owns.false w).elim⟩
  have m1 : Mine F S1 H ω' ρ σ o v x := fun a w => by
    obtain ⟨h1, h2, h3⟩ := m a w
    exact ⟨by rw [k1 a h3]; exact h1, h2, fun z => h3 (sl a z)⟩
  have r1 := r.mono e1 fun a _ => rfl
  cases o' with
  | true =>
    rw [ho rfl] at r1 m1
    exact ⟨S1, e1, g1, r1, m1⟩
  | false =>
    obtain ⟨S2, e2, g2, r2⟩ := g1.stillV r1 m1
    exact ⟨S2, e1.trans e2, g2, RepO.false.mpr r2, fun a w => (Owns.false w).elim⟩
end
end Pv
/-! Pv, part I: a text fits a term; every expression is read as it is evaluated. -/
namespace Pv
open PySem PySem.Spec PyProof.Rows L2
/-- names of the defs, built-ins that the module leaves alone, defs that may be called, names by slot -/
structure Stx where
  nm : Nat → Str
  bl : List Str
  fs : List Nat
  N : List Str
section
variable (T : Stx)
def visB (sc : List (Str × NameKind)) (i : Nat) (x : Str) : Bool := decide (T.N[i]? = some x) && (match sc.lookup x with | some .local => true | some .cell => true | some .free => true | _ => false) && !(x == ("__debug__" : Str)) && !(x == ("__classdict__" : Str))
def stoB (sc : List (Str × NameKind)) (fnS : Str → Bool) (i : Nat) (x : Str) : Bool := decide (T.N[i]? = some x) && (match sc.lookup x with | some .local => true | some .cell => fnS x | _ => false)
def litB : Val → Const → Bool
  | .int i, .int j => decide (i = j)
  | .bl i, .bool j => decide (i = j)
  | .str i, .str j => decide (i = j)
  | .non, .none => true
  | _, _ => false
def relN (ns sc : List (Str × NameKind)) : List (Str × NameKind) := ns.map fun (n, k) => if (k == .free && sc.lookup n == some .cell) then (n, .cell) else (n, k)
def chkGs (sc : List (Str × NameKind)) (fnS : Str → Bool) : List Nat → List Expr → Bool
  | [], [] => true
  | i :: is, .Name x _ :: es => stoB T sc fnS i x && chkGs sc fnS is es
  | _, _ => false
def chkG (sc : List (Str × NameKind)) (fnS : Str → Bool) (tg : List Nat) (tt : Bool) (e : Expr) : Bool := match tt, tg, e with
  | false, [i], .Name x _ => stoB T sc fnS i x
  | true, is, .Tuple es _ _ => chkGs T sc fnS is es
  | _, _, _ => false
def ownN (vs : List Nat) : List (Str × Nat) := vs.filterMap fun i => (T.N[i]?).map fun x => (x, i)
def mutN : Mut → Str
  | .append => "append"
  | .extend => "extend"
  | .pop => "pop"
def plainT : Expr → Bool
  | .UnaryOp _ _ _ => false
  | .BoolOp _ _ _ => false
  | .IfExp _ _ _ _ => false
  | .Compare _ _ _ _ => false
  | _ => true
def isCmp1 : Op → Expr → Bool
  | .cmp _, .Compare _ [_] [_] _ => true
  | _, _ => false
def chkApp (sc : List (Str × NameKind)) (L : List Expr → Bool) (o : Op) (e : Expr) : Bool := match argsOf o e with
  | some es => L es
  | none => match argsB T.bl sc o e with
    | some es => L es
    | none => false
def chkCall (sc : List (Str × NameKind)) (L : List Expr → Bool) (f : Nat) : Expr → Bool
  | .Call (.Name x _) (a :: es) [] _ => T.fs.contains f && decide (x = T.nm f) && globB sc x && allStar (a :: es) && !(x == ("__debug__" : Str)) && L (a :: es)
  | _ => false
def chkVar (sc : List (Str × NameKind)) (i : Nat) : Expr → Bool
  | .Name x _ => visB T sc i x
  | _ => false
def chkLit (v : Val) : Expr → Bool
  | .Constant c _ _ => litB v c
  | _ => false
def chkMut (sc : List (Str × NameKind)) (L : List Expr → Bool) (m : Mut) (i : Nat) : Expr → Bool
  | .Call (.Attribute (.Name y p) mn apos) es [] pos => decide (mn = mutN m) && visB T sc i y && allStar es && (apos.endLine == pos.line) && decide (es.length ≤ 1) && L es
  | _ => false
def isTrueL : ME → Bool
  | .lit (.bl true) => true
  | _ => false
def onNot (k : Expr → Bool) : Expr → Bool
  | .UnaryOp .Not x _ => k x
  | _ => false
def onBool (o : BoolOp) (ka kb : Expr → Bool) : Expr → Bool
  | .BoolOp o' (x :: y :: rest) pos => decide (o' = o) && ka x && (match rest with | [] => kb y | z :: rs => kb (.BoolOp o' (y :: z :: rs) pos))
  | _ => false
def onIf (kc ka kb : Expr → Bool) : Expr → Bool
  | .IfExp t x y _ => kc t && ka x && kb y
  | _ => false
def onChain (o1 o2 : CmpOp) (ka kb kc : Expr → Bool) : Expr → Bool
  | .Compare x [p, q] [y, z] _ => decide (p = o1) && decide (q = o2) && notSet y && notSet z && ka x && kb y && kc z
  | _ => false
def scopeOf (sc : List (Str × NameKind)) : Scope := { kind := .function, names := sc, isGenerator := false, isCoroutine := false, more := [] }
def onComp (sc : List (Str × NameKind)) (vs tg : List Nat) (tt : Bool) (lc : Bool) (ki : Expr → Bool) (kc ke : List (Str × NameKind) → Expr → Bool) : Expr → Bool
  | .ListComp elt [⟨t, iter, ifs, 0⟩] scope _ => ki iter && notSet iter && blkC T.N (scopeOf sc) scope (ownN T vs) && decide ((ownN T vs).map (·.2) = vs) && !vs.contains 0 && (tg.all fun i => vs.contains i) &&
      chkG T (relN scope.names sc) (fun x => scope.names.lookup x == some .cell) tg tt t && (match ifs with | [] => lc | [x] => kc (relN scope.names sc) x | _ => false) && ke (relN scope.names sc) elt
  | _ => false
def onNil : List Expr → Bool
  | [] => true
  | _ => false
def onCons (ka : Expr → Bool) (ks : List Expr → Bool) : List Expr → Bool
  | e :: es => ka e && ks es
  | [] => false
def onRng (sc : List (Str × NameKind)) (L : List Expr → Bool) : Expr → Bool
  | .Call (.Name x _) es [] _ => decide (x = ("range" : Str)) && T.bl.contains x && globB sc x && allStar es && L es && (match es with | [_] => true | [_, _] => true | [_, _, _] => true | _ => false)
  | _ => false
mutual
def chkE : List (Str × NameKind) → ME → Expr → Bool
  | sc, .var i, e => chkVar T sc i e
  | _, .lit v, e => chkLit v e
  | sc, .app o as, e => chkApp T sc (chkL sc as) o e
  | sc, .call f as, e => chkCall T sc (chkL sc as) f e
  | sc, .callio f i as, e => chkCall T sc (chkL sc as) f e
  | sc, .mut m i as, e => chkMut T sc (chkL sc as) m i e
  | sc, .not_ a, e => onNot (chkE sc a) e
  | sc, .and_ a b, e => onBool .And (chkE sc a) (chkE sc b) e
  | sc, .or_ a b, e => onBool .Or (chkE sc a) (chkE sc b) e
  | sc, .ife c a b, e => onIf (chkT sc c) (chkE sc a) (chkE sc b) e
  | sc, .chain o1 o2 a b c, e => onChain o1 o2 (chkE sc a) (chkE sc b) (chkE sc c) e
  | sc, .comp vs tg tt it c e', e => onComp T sc vs tg tt (isTrueL c) (chkI sc it) (fun sc' => chkT sc' c) (fun sc' => chkE sc' e') e
  | _, _, _ => false
def chkL : List (Str × NameKind) → ME → List Expr → Bool
  | _, .nil, es => onNil es
  | sc, .cons a as, es => onCons (chkE sc a) (chkL sc as) es
  | _, _, _ => false
def chkT : List (Str × NameKind) → ME → Expr → Bool
  | sc, .not_ a, e => onNot (chkT sc a) e
  | sc, .and_ a b, e => onBool .And (chkT sc a) (chkT sc b) e
  | sc, .or_ a b, e => onBool .Or (chkT sc a) (chkT sc b) e
  | sc, .var i, e => chkVar T sc i e
  | _, .lit v, e => chkLit v e
  | sc, .app o as, e => chkApp T sc (chkL sc as) o e && (plainT e || isCmp1 o e)
  | sc, .call f as, e => chkCall T sc (chkL sc as) f e
  | sc, .callio f i as, e => chkCall T sc (chkL sc as) f e
  | sc, .chain o1 o2 a b c, e => onChain o1 o2 (chkE sc a) (chkE sc b) (chkE sc c) e
  | _, _, _ => false
def chkI : List (Str × NameKind) → ME → Expr → Bool
  | sc, .seq a, e => notSet e && chkE sc a e
  | sc, .rng as, e => onRng T sc (chkL sc as) e
  | _, _, _ => false
end
end
section
variable {G : Gam} {P : Program} {w : World} {mg : Str → Option Value} {base : Heap} {n : Nat} {T : Stx}
/-- a def that may be called -/
def FnFact (G : Gam) (P : Program) (w : World) (mg : Str → Option Value) (base : Heap) (n : Nat) (nm : Nat → Str) (f : Nat) : Prop :=
  ∃ a fd ps, mg (nm f) = some (.ref a) ∧ PySem.W.keepIn G.K (.ref a) = true ∧ Binds G.K fd ps [] ∧ FnOk P w G.K mg base (L2.CX P w) n a fd ps (spOf G (G.sg f) (G.Φ f))
variable {sc : List (Str × NameKind)} {fnS : Str → Bool} {W : WX} {X : Cx}
theorem vis_pe (c : CxC G P w mg base n T.N sc fnS W X) {i : Nat} {e : Expr} (h : chkVar T sc i e = true) : PE X e (tVar i) := by
  unfold chkVar at h
  split at h
  · rename_i x pos
    unfold visB at h
    simp only [Bool.and_eq_true, decide_eq_true_eq, Bool.not_eq_true'] at h
    obtain ⟨⟨⟨h1, h2⟩, h3⟩, h4⟩ := h
    refine pe_var (by rw [c.hN]; exact h1) ?_ h3 h4
    unfold Vis
    rw [c.hsc]
    split at h2 <;> first | (cases h2; done) | skip
    · exact .inl (by assumption)
    · exact .inr (.inl (by assumption))
    · exact .inr (.inr (by assumption))
  · cases h
theorem var_te {i : Nat} {ω : Own} (σ : L2.St) (H : Hp) (Q : VK) (h : tE G W ω (ω.set i false) false (evalE G.Φ (.var i)) σ H Q) : tVar i σ H Q := by
  obtain ⟨F, S, ρ, g, h⟩ := h
  rw [evalE] at h
  cases q : getS ρ i with
  | none => rw [q] at h; exact h.elim
  | some v =>
    rw [q] at h
    obtain ⟨S1, e1, g1⟩ := g.freeze i
    obtain ⟨x, hx, r⟩ := g1.frz (ownAt_setF' _ _) (getS_eq q)
    exact ⟨x, hx, h x S1 H e1 g1 (RepO.false.mpr r) fun a w => (Owns.false w).elim⟩
theorem lit_pe {v : Val} {e : Expr} (h : chkLit v e = true) : ∃ x, PE X e (tC x) ∧ (∀ K S, RepF K S v x) ∧ ((∀ xs, v ≠ .lst xs) ∧ ∀ cs a n, v ≠ .pool cs a n) := by
  unfold chkLit at h
  split at h
  · unfold litB at h
    split at h
    · have h := of_decide_eq_true h
      subst h
      exact ⟨_, pe_int, fun _ _ => .int _, fun _ => nofun, fun _ _ _ => nofun⟩
    · have h := of_decide_eq_true h
      subst h
      exact ⟨_, pe_bl, fun _ _ => .bl _, fun _ => nofun, fun _ _ _ => nofun⟩
    · have h := of_decide_eq_true h
      subst h
      exact ⟨_, pe_str, fun _ _ => .str _, fun _ => nofun, fun _ _ _ => nofun⟩
    · exact ⟨_, pe_non, fun _ _ => .non, fun _ => nofun, fun _ _ _ => nofun⟩
    · cases h
  · cases h
theorem lit_te {v : Val} {x : V} {o : Bool} {ω : Own} (hr : ∀ K S, RepF K S v x) (n : (∀ xs, v ≠ .lst xs) ∧ ∀ cs a n, v ≠ .pool cs a n) (σ : L2.St) (H : Hp) (Q : VK) (h : tE G W ω ω o (evalE G.Φ (.lit v)) σ H Q) : tC x σ H Q := by
  obtain ⟨F, S, ρ, g, h⟩ := h
  rw [evalE] at h
  exact h x S H (Same.refl _) g (RepO.of (hr _ _) (.inr n)) fun a w => (Owns.no (.inr n) w).elim
theorem app_te {o : Op} {as : ME} {ω ω1 : Own} (ho : ownL G.sg as ω = some ω1) (σ : L2.St) (H : Hp) (Q : VK) (h : tE G W ω (if borrowOp o then ω1 else frzA as ω1) (freshOp o) (evalE G.Φ (.app o as)) σ H Q) :
    nestT G W ω as σ H fun xs H2 => opR G.K o xs H2 Q := by
  obtain ⟨F, S, ρ, g, h⟩ := h
  refine nest_ok as ω ω1 ho σ H _ ⟨F, S, ρ, g, ?_⟩
  rw [evalE] at h
  cases q : evalL G.Φ as ρ with
  | stuck => rw [q] at h; exact h
  | err e ρ1 => rw [q] at h; exact h
  | ok vs ρ1 =>
    rw [q] at h
    intro xs S1 H1 e1 g1 ar
    have h : match (match opV o vs with | some v => Res.ok v ρ1 | none => .stuck) with
      | .ok v ρ' => ∀ x S' H', Same S S' → Gd G.K F S' H' (if borrowOp o then ω1 else frzA as ω1) ρ' σ → RepO G.K (freshOp o) S' H' v x → Mine F S' H' (if borrowOp o then ω1 else frzA as ω1) ρ' σ (freshOp o) v x → Q x H'
      | .err e ρ' => ∀ cls d S' H', Same S S' → Gd G.K F S' H' [] ρ' σ → G.xr e cls d S' → W cls d σ H'
      | .stuck => False := h
    cases q2 : opV o vs with
    | none => rw [q2] at h; exact h.elim
    | some v =>
      rw [q2] at h
      cases hb : borrowOp o with
      | true =>
        rw [hb] at h
        exact opR_ok hb q2 (ar.read g1) g1 fun x S' H' e2 g2 r m => h x S' H' (e1.trans e2) g2 r m
      | false =>
        rw [hb] at h
        obtain ⟨S2, e2, g2, r2⟩ := ar.freeze g1
        exact disp_ok hb q2 r2 g2 fun x S' H' e3 g3 r m => h x S' H' ((e1.trans e2).trans e3) g3 r m
theorem app_pe (c : CxC G P w mg base n T.N sc fnS W X) (hbl : ∀ x ∈ T.bl, mg x = none) {o : Op} {e : Expr} {as : ME} {ω : Own} {L : List Expr → Bool} (h : chkApp T sc L o e = true) (l : ∀ es, L es = true → LP X G W ω as es) :
    PE X e (fun σ H Q => nestT G W ω as σ H fun xs H2 => opR G.K o xs H2 Q) := by
  unfold chkApp at h
  split at h
  · rename_i es e1
    exact op_pe c e1 (l _ h)
  · split at h
    · rename_i es e1
      exact blt_pe c hbl e1 (l _ h)
    · cases h
theorem call_pe (c : CxC G P w mg base n T.N sc fnS W X) (HF : ∀ f ∈ T.fs, FnFact G P w mg base n T.nm f) {f : Nat} {e : Expr} {as : ME} {ω : Own} {L : List Expr → Bool} (h : chkCall T sc L f e = true) (l : ∀ es, L es = true → LP X G W ω as es) :
    PE X e (fun σ H Q => nestT G W ω as σ H fun xs H2 => spOf G (G.sg f) (G.Φ f) xs H2 Q (WE W σ)) := by
  unfold chkCall at h
  split at h
  · rename_i x p a es pos
    simp only [Bool.and_eq_true, decide_eq_true_eq, Bool.not_eq_true'] at h
    obtain ⟨⟨⟨⟨⟨h1, h2⟩, h3⟩, h4⟩, h5⟩, h6⟩ := h
    subst h2
    obtain ⟨fa, fd, ps, k1, k2, k3, k4⟩ := HF f (by simpa using h1)
    have h4' : (noStar a && allStar es) = true := h4
    rw [Bool.and_eq_true] at h4'
    have hF : FnOk X.prog X.w X.K X.mg X.base (L2.CX X.prog X.w) n fa fd ps (spOf G (G.sg f) (G.Φ f)) := by
      rw [c.hP, c.hw, c.hK, c.hmg, c.hbase]; exact k4
    refine PE.imp (pe_callSD (dvs := []) (ds := []) hF c.room (c.gl h3) (by rw [c.hmg]; exact k1) (by rw [c.hK]; exact k2) (by rw [c.hK]; exact k3) .nil (fun σ => passAt c.tk σ) ((l _ h6).pa h4) h5 (star_of h4'.1 _ _) (any_of h4'.2)) fun σ H Q q => ?_
    show nestT G W ω as σ H fun vs H1 => spOf G (G.sg f) (G.Φ f) (vs ++ []) H1 Q (WE W σ)
    have e : (fun (vs : List V) (H1 : Hp) => spOf G (G.sg f) (G.Φ f) (vs ++ []) H1 Q (WE W σ)) = fun vs H1 => spOf G (G.sg f) (G.Φ f) vs H1 Q (WE W σ) := by
      funext vs H1
      rw [List.append_nil]
    rw [e]
    exact q
  · cases h
theorem call_te {f : Nat} {as : ME} {ω ω1 : Own} (hio : (G.sg f).io = false) (ho : ownL G.sg as ω = some ω1) (σ : L2.St) (H : Hp) (Q : VK)
    (h : tE G W ω (if (G.sg f).flat then ω1 else frzA as ω1) ((G.sg f).own || (G.sg f).flat) (evalE G.Φ (.call f as)) σ H Q) :
    nestT G W ω as σ H fun xs H2 => spOf G (G.sg f) (G.Φ f) xs H2 Q (WE W σ) := by
  obtain ⟨F, S, ρ, g, h⟩ := h
  refine nest_ok as ω ω1 ho σ H _ ⟨F, S, ρ, g, ?_⟩
  rw [evalE] at h
  cases q : evalL G.Φ as ρ with
  | stuck => rw [q] at h; exact h
  | err e ρ1 => rw [q] at h; exact h
  | ok vs ρ1 =>
    rw [q] at h
    intro xs S1 H1 e1 g1 ar
    refine call_ok hio g1 ar ?_
    have h : match (match G.Φ f vs with | .ok v _ => Res.ok v ρ1 | .err e _ => .err e ρ1 | .stuck => .stuck) with
      | .ok v ρ' => ∀ x S' H', Same S S' → Gd G.K F S' H' (if (G.sg f).flat then ω1 else frzA as ω1) ρ' σ → RepO G.K ((G.sg f).own || (G.sg f).flat) S' H' v x → Mine F S' H' (if (G.sg f).flat then ω1 else frzA as ω1) ρ' σ ((G.sg f).own || (G.sg f).flat) v x → Q x H'
      | .err e ρ' => ∀ cls d S' H', Same S S' → Gd G.K F S' H' [] ρ' σ → G.xr e cls d S' → W cls d σ H'
      | .stuck => False := h
    cases q2 : G.Φ f vs with
    | stuck => rw [q2] at h; exact h.elim
    | err e out => rw [q2] at h; exact fun cls d S' H' e2 => h cls d S' H' (e1.trans e2)
    | ok v out => rw [q2] at h; exact fun x S' H' e2 => h x S' H' (e1.trans e2)
theorem callio_te {f i : Nat} {as : ME} {ω ω1 : Own} (hio : (G.sg f).io = true) (hh : headIs i as = true) (ho : ownL G.sg as ω = some ω1) (hi : ownAt (frzT as ω1) i = true) (σ : L2.St) (H : Hp) (Q : VK)
    (h : tE G W ω (frzT as ω1) ((G.sg f).own || (G.sg f).flat) (evalE G.Φ (.callio f i as)) σ H Q) :
    nestT G W ω as σ H fun xs H2 => spOf G (G.sg f) (G.Φ f) xs H2 Q (WE W σ) := by
  obtain ⟨F, S, ρ, g, h⟩ := h
  refine nest_ok as ω ω1 ho σ H _ ⟨F, S, ρ, g, ?_⟩
  rw [evalE] at h
  cases q : evalL G.Φ as ρ with
  | stuck => rw [q] at h; exact h
  | err e ρ1 => rw [q] at h; exact h
  | ok vs ρ1 =>
    rw [q] at h
    intro xs S1 H1 e1 g1 ar
    refine callio_ok hio hh hi g1 ar ?_
    have h : match (match G.Φ f vs with | .ok v (some u1) => Res.ok v (ρ1.set i (some u1)) | .err e (some u1) => .err e (ρ1.set i (some u1)) | _ => .stuck) with
      | .ok v ρ' => ∀ x S' H', Same S S' → Gd G.K F S' H' (frzT as ω1) ρ' σ → RepO G.K ((G.sg f).own || (G.sg f).flat) S' H' v x → Mine F S' H' (frzT as ω1) ρ' σ ((G.sg f).own || (G.sg f).flat) v x → Q x H'
      | .err e ρ' => ∀ cls d S' H', Same S S' → Gd G.K F S' H' [] ρ' σ → G.xr e cls d S' → W cls d σ H'
      | .stuck => False := h
    cases q2 : G.Φ f vs with
    | stuck => rw [q2] at h; exact h.elim
    | err e out =>
      rw [q2] at h
      cases out with
      | none => exact h.elim
      | some u => exact fun cls d S' H' e2 => h cls d S' H' (e1.trans e2)
    | ok v out =>
      rw [q2] at h
      cases out with
      | none => exact h.elim
      | some u => exact fun x S' H' e2 => h x S' H' (e1.trans e2)
/-! lists changed in place -/
def rMut : Mut → V → List V → Hp → VK → Prop
  | .append => rAppend
  | .extend => rExtend
  | .pop => fun x xs H Q => rPop x xs H Q ∨ rPopAt x xs H Q
def mutId : Mut → String
  | .append => "list.append"
  | .extend => "list.extend"
  | .pop => "list.pop"
theorem mt_of (m : Mut) : MtR X (mutId m) (rMut m) := by
  cases m
  · exact mt_append
  · exact mt_extend
  · exact MtR.or mt_pop mt_popAt
theorem slot_of (m : Mut) : Slot "list" (mutN m) (mutId m) ∧ typeOf (.builtin (mutId m)) = pure (.type "method_descriptor") := by
  cases m
  · exact ⟨PySem.F.slot_list_append, PySem.F.type_list_append⟩
  · exact ⟨PySem.F.slot_list_extend, PySem.F.type_list_extend⟩
  · exact ⟨PySem.F.slot_list_pop, PySem.F.type_list_pop⟩
theorem mut_pe (c : CxC G P w mg base n T.N sc fnS W X) {m : Mut} {i : Nat} {e : Expr} {as : ME} {ω : Own} {L : List Expr → Bool} (h : chkMut T sc L m i e = true) (l : ∀ es, L es = true → LP X G W ω as es) :
    PE X e (fun σ H Q => tVar i σ H fun x H1 => tyV G.K "list" x H1 ∧ nestT G W ω as σ H1 fun xs H2 => rMut m x xs H2 Q) := by
  unfold chkMut at h
  split at h
  · rename_i y p mn apos es pos
    simp only [Bool.and_eq_true, decide_eq_true_eq] at h
    obtain ⟨⟨⟨⟨⟨h1, h2⟩, h3⟩, h4⟩, h5⟩, h6⟩ := h
    subst h1
    have hv : PE X (.Name y p) (tVar i) := vis_pe c (e := .Name y p) h2
    obtain ⟨s1, s2⟩ := slot_of m
    have hl := l _ h6
    cases es with
    | nil =>
      refine PE.imp (pe_bm0 PySem.F.plainAttrs_list s1 s2 (mt_of m) hv (base_of rfl _ _) h4) fun σ H Q q => ?_
      cases as <;> first | exact False.elim hl | skip
      rw [c.hK]
      exact q
    | cons a es =>
      cases es with
      | cons b es => simp at h5
      | nil =>
        have h3' : noStar a = true := by
          have h3 : (noStar a && true) = true := h3
          simpa using h3
        refine PE.imp (pe_bm PySem.F.plainAttrs_list s1 s2 (mt_of m) hv (hl.pa h3) (base_of rfl _ _) ?_ h4 (star_of h3' _ _) (any_of rfl)) fun σ H Q q => ?_
        · rw [star_of h3']
          rfl
        · rw [c.hK]
          exact q
  · cases h
end
end Pv
/-! Pv, part J: the soundness of expressions. -/
namespace Pv
open PySem PySem.Spec PyProof.Rows L2
section
variable {G : Gam} {P : Program} {w : World} {mg : Str → Option Value} {base : Heap} {n : Nat} {T : Stx}
abbrev W0 : WX := fun _ _ _ _ => False
theorem mut_ok {m : Mut} {K : PySem.W.Frag} {F : Frm} {S H : Hp} {ω : Own} {ρ : Slots} {σ : L2.St} {i : Nat} {u v u1 : Val} {vs : List Val} {xs : List V} {x : V} {Q : VK} (g : Gd K F S H ω ρ σ) (ho : ownAt ω i = true) (h1 : ρ[i]? = some (some u)) (h2 : σ[i]? = some (some x))
    (r : RepL K S vs xs) (e : mutV m u vs = some (v, u1)) (q : ∀ z H', Gd K F S H' ω (ρ.set i (some u1)) σ → RepF K S v z → Q z H') : rMut m x xs H Q := by
  obtain ⟨y, hy, ry⟩ := g.rep i u h1
  rw [h2] at hy
  cases hy
  rw [ho] at ry
  cases m with
  | append =>
    have e : appendV u vs = some (v, u1) := e
    unfold appendV at e
    split at e
    · split at e
      · rename_i hz
        cases e
        obtain ⟨p, ws, rfl, hp, rl⟩ := ry
        cases r with
        | cons r rr =>
          cases rr
          exact ⟨p, ws, _, rfl, rfl, hp, by rw [← rl.length]; exact hz, q _ _ (g.write ho h1 h2 (rl.append (.cons r .nil))) .non⟩
      · cases e
    · cases e
  | extend =>
    have e : extendV u vs = some (v, u1) := e
    unfold extendV at e
    split at e
    · split at e
      · rename_i hz
        cases e
        obtain ⟨p, ws, rfl, hp, rl⟩ := ry
        cases r with
        | cons r rr =>
          cases rr
          cases r with
          | lst hb rb =>
            exact ⟨p, _, ws, _, rfl, rfl, hp, g.sub _ _ hb, by rw [← rl.length, ← rb.length]; exact hz, q _ _ (g.write ho h1 h2 (rl.append rb)) .non⟩
      · cases e
    · cases e
  | pop =>
    have e : popV u vs = some (v, u1) := e
    unfold popV at e
    split at e
    · split at e
      · rename_i y hy
        cases e
        obtain ⟨p, ws, rfl, hp, rl⟩ := ry
        cases r
        obtain ⟨z, hz, rz⟩ := rl.get hy
        rw [rl.length] at hz
        exact .inl ⟨p, ws, z, rfl, rfl, hp, hz, q _ _ (g.write ho h1 h2 rl.dropLast) rz⟩
      · cases e
    · split at e
      · rename_i hk
        split at e
        · rename_i k hs
          split at e
          · rename_i y hy
            cases e
            obtain ⟨p, ws, rfl, hp, rl⟩ := ry
            cases r with
            | cons r rr =>
              cases rr
              cases r
              obtain ⟨z, hz, rz⟩ := rl.get hy
              exact .inr ⟨p, ws, _, k, z, rfl, rfl, hp, (by omega), (by omega), by rw [← rl.length]; exact hs, hz, q _ _ (g.write ho h1 h2 (rl.eraseIdx k)) rz⟩
          · cases e
        · cases e
      · cases e
    · cases e
theorem mut_non {m : Mut} {u v u1 : Val} {vs : List Val} (e : mutV m u vs = some (v, u1)) (n : m ≠ .pop) : v = .non := by
  cases m with
  | append =>
    have e : appendV u vs = some (v, u1) := e
    unfold appendV at e
    split at e
    · split at e <;> cases e; rfl
    · cases e
  | extend =>
    have e : extendV u vs = some (v, u1) := e
    unfold extendV at e
    split at e
    · split at e <;> cases e; rfl
    · cases e
  | pop => exact absurd rfl n
theorem mut_te {m : Mut} {i : Nat} {as : ME} {W : WX} {ω ω1 : Own} (ho : ownL G.sg as ω = some ω1) (hi : ownAt (frzA as ω1) i = true) (σ : L2.St) (H : Hp) (Q : VK)
    (h : tE G W ω (frzA as ω1) (freshE G.sg (.mut m i as)) (evalE G.Φ (.mut m i as)) σ H Q) : tVar i σ H fun x H1 => tyV G.K "list" x H1 ∧ nestT G W ω as σ H1 fun xs H2 => rMut m x xs H2 Q := by
  obtain ⟨F, S, ρ, g, h⟩ := h
  rw [evalE] at h
  cases q0 : getS ρ i with
  | none => rw [q0] at h; exact h.elim
  | some u0 =>
    rw [q0] at h
    cases u0 <;> first | exact False.elim h | skip
    rename_i l0
    obtain ⟨x, hx, rx⟩ := g.rep i _ (getS_eq q0)
    obtain ⟨p, ws, rfl, hp, _⟩ := RepR.lst g.sub (.of rx)
    refine ⟨_, hx, .inl ⟨rfl, ws, .inl (.inl hp)⟩, nest_ok as ω ω1 ho σ H _ ⟨F, S, ρ, g, ?_⟩⟩
    have h : match (evalL G.Φ as ρ).bind (fun vs ρ1 => match getS ρ1 i with
        | none => Res.stuck
        | some u => match mutV m u vs with
          | some (v, u1) => .ok v (ρ1.set i (some u1))
          | none => .stuck) with
      | .ok v ρ' => ∀ x S' H', Same S S' → Gd G.K F S' H' (frzA as ω1) ρ' σ → RepO G.K (freshE G.sg (.mut m i as)) S' H' v x → Mine F S' H' (frzA as ω1) ρ' σ (freshE G.sg (.mut m i as)) v x → Q x H'
      | .err e ρ' => ∀ cls d S' H', Same S S' → Gd G.K F S' H' [] ρ' σ → G.xr e cls d S' → W cls d σ H'
      | .stuck => False := h
    cases q1 : evalL G.Φ as ρ with
    | stuck => rw [q1] at h; exact h
    | err e ρ1 => rw [q1] at h; exact h
    | ok vs ρ1 =>
      rw [q1] at h
      intro xs S1 H1 e1 g1 ar
      obtain ⟨S2, e2, g2, r2⟩ := ar.freeze g1
      have h : match (match getS ρ1 i with
          | none => Res.stuck
          | some u => match mutV m u vs with
            | some (v, u1) => .ok v (ρ1.set i (some u1))
            | none => .stuck) with
        | .ok v ρ' => ∀ x S' H', Same S S' → Gd G.K F S' H' (frzA as ω1) ρ' σ → RepO G.K (freshE G.sg (.mut m i as)) S' H' v x → Mine F S' H' (frzA as ω1) ρ' σ (freshE G.sg (.mut m i as)) v x → Q x H'
        | .err e ρ' => ∀ cls d S' H', Same S S' → Gd G.K F S' H' [] ρ' σ → G.xr e cls d S' → W cls d σ H'
        | .stuck => False := h
      cases q2 : getS ρ1 i with
      | none => rw [q2] at h; exact h.elim
      | some u =>
        rw [q2] at h
        dsimp only at h
        cases q3 : mutV m u vs with
        | none => rw [q3] at h; exact h.elim
        | some pr =>
          obtain ⟨v, u1⟩ := pr
          rw [q3] at h
          refine mut_ok g2 hi (getS_eq q2) hx r2 q3 fun z H' g3 rz => ?_
          have nl : freshE G.sg (.mut m i as) = false ∨ (∀ xs, v ≠ .lst xs) ∧ ∀ cs a n, v ≠ .pool cs a n := by
            cases m with
            | pop => exact .inl rfl
            | append => exact .inr (by rw [mut_non q3 nofun]; exact ⟨fun _ => nofun, fun _ _ _ => nofun⟩)
            | extend => exact .inr (by rw [mut_non q3 nofun]; exact ⟨fun _ => nofun, fun _ _ _ => nofun⟩)
          exact h z S2 H' (e1.trans e2) g3 (RepO.of rz nl) fun a w => (Owns.no nl w).elim
/-- tests by truth -/
theorem tru_te {W : WX} {ω ω' : Own} {o : Bool} {f : Slots → Res Val} {f' : Slots → Res Bool} (hf : ∀ ρ, f' ρ = (f ρ).bind fun v ρ1 => match truV v with | some b => .ok b ρ1 | none => .stuck) (σ : L2.St) (H : Hp) (Q : Bool → Hp → Prop)
    (h : tT G W ω ω' f' σ H Q) : tE G W ω ω' o f σ H fun x H1 => ∃ k, TruV G.K x H1 k ∧ Q k H1 := by
  obtain ⟨F, S, ρ, g, h⟩ := h
  refine ⟨F, S, ρ, g, ?_⟩
  rw [hf] at h
  cases q : f ρ with
  | stuck => rw [q] at h; exact h
  | err e ρ1 => rw [q] at h; exact h
  | ok v ρ1 =>
    rw [q] at h
    intro x S' H' e1 g1 r m
    have h : match (match truV v with | some b => Res.ok b ρ1 | none => .stuck) with
      | .ok b ρ' => ∀ S' H', Same S S' → Gd G.K F S' H' ω' ρ' σ → Q b H'
      | .err e ρ' => ∀ cls d S' H', Same S S' → Gd G.K F S' H' [] ρ' σ → G.xr e cls d S' → W cls d σ H'
      | .stuck => False := h
    cases q2 : truV v with
    | none => rw [q2] at h; exact h.elim
    | some b =>
      rw [q2] at h
      exact ⟨b, tru_val q2 (RepO.read r g1.sub), h S' H' e1 g1⟩
theorem cmp_bl {op : CmpOp} {a b v : Val} (h : cmpV op a b = some v) : ∃ k, v = .bl k := by
  unfold cmpV at h
  split at h <;> first | (cases h; exact ⟨_, rfl⟩) | skip
  all_goals first | (split at h <;> first | (cases h; exact ⟨_, rfl⟩) | (split at h <;> first | (cases h; exact ⟨_, rfl⟩) | cases h) | cases h) | cases h
theorem bl_te {W : WX} {ω ω' : Own} {o : Bool} {f : Slots → Res Val} {f' : Slots → Res Bool} (hf : ∀ ρ, f' ρ = (f ρ).bind fun v ρ1 => match truV v with | some b => .ok b ρ1 | none => .stuck) (hv : ∀ ρ v ρ1, f ρ = .ok v ρ1 → ∃ b, v = .bl b)
    (σ : L2.St) (H : Hp) (Q : Bool → Hp → Prop) (h : tT G W ω ω' f' σ H Q) : tE G W ω ω' o f σ H fun x H1 => ∃ k, x = .bl k ∧ Q k H1 := by
  obtain ⟨F, S, ρ, g, h⟩ := h
  refine ⟨F, S, ρ, g, ?_⟩
  rw [hf] at h
  cases q : f ρ with
  | stuck => rw [q] at h; exact h
  | err e ρ1 => rw [q] at h; exact h
  | ok v ρ1 =>
    rw [q] at h
    obtain ⟨b, rfl⟩ := hv ρ v ρ1 q
    intro x S' H' e1 g1 r m
    have rx := r.plain ⟨fun _ => nofun, fun _ _ _ => nofun⟩
    cases rx
    exact ⟨b, rfl, h S' H' e1 g1⟩
theorem plain_is {e : Expr} (h : plainT e = true) (env : Env) : ∀ whole, isTrue e env whole = (do let v ← whole; standAt e.pos; holding [v] (truthy v)) := by
  intro whole
  cases e <;> first | rfl | cases h
theorem pt_plain {W : WX} {sc : List (Str × NameKind)} {fnS : Str → Bool} {X : Cx} (c : CxC G P w mg base n T.N sc fnS W X) {ω ω' : Own} {o : Bool} {e : Expr} {f : Slots → Res Val} {f' : Slots → Res Bool} (hp : plainT e = true) (h : PE X e (tE G W ω ω' o f))
    (hf : ∀ ρ, f' ρ = (f ρ).bind fun v ρ1 => match truV v with | some b => .ok b ρ1 | none => .stuck) : PT X e (tT G W ω ω' f') := by
  refine PT.imp (pt_truth h (plain_is hp _)) fun σ H Q q => ?_
  rw [c.hK]
  exact tru_te hf σ H Q q
/-! what is shown of each term -/
structure Snd (G : Gam) (P : Program) (w : World) (mg : Str → Option Value) (base : Heap) (n : Nat) (T : Stx) (m : ME) : Prop where
  e : ∀ {sc fnS W X} (e : Expr) (ω ω' : Own), chkE T sc m e = true → ownE G.sg m ω = some ω' → CxC G P w mg base n T.N sc fnS W X → PE X e (tE G W ω ω' (freshE G.sg m) (evalE G.Φ m))
  l : ∀ {sc fnS W X} (es : List Expr) (ω ω' : Own), chkL T sc m es = true → ownL G.sg m ω = some ω' → CxC G P w mg base n T.N sc fnS W X → LP X G W ω m es
  t : ∀ {sc fnS W X} (e : Expr) (ω ω' : Own), chkT T sc m e = true → ownT G.sg m ω = some ω' → CxC G P w mg base n T.N sc fnS W X → PT X e (tT G W ω ω' (evalT G.Φ m))
  i : ∀ {sc fnS W X} (tg e : Expr) (ω ω' : Own), chkI T sc m e = true → ownI G.sg m ω = some ω' → CxC G P w mg base n T.N sc fnS W X → PI X tg e (tI G W ω ω' m)
theorem chk_none {sc : List (Str × NameKind)} {m : ME} (h : ∀ e, chkE T sc m e = false) (h2 : ∀ es, chkL T sc m es = false) (h3 : ∀ e, chkT T sc m e = false) (h4 : ∀ e, chkI T sc m e = false) : True := trivial
theorem snd_var (i : Nat) : Snd G P w mg base n T (.var i) where
  e := fun e ω ω' h ho c => by
    rw [chkE] at h
    rw [ownE] at ho
    cases ho
    exact PE.imp (vis_pe c h) var_te
  l := fun es ω ω' h ho c => by rw [chkL] at h <;> first | cases h | nofun
  t := fun e ω ω' h ho c => by
    rw [chkT] at h
    rw [ownT] at ho
    cases ho
    have hp : plainT e = true := by
      unfold chkVar at h
      split at h
      · rfl
      · cases h
    refine PT.imp (pt_truth (vis_pe c h) (plain_is hp _)) fun σ H Q q => ?_
    rw [c.hK]
    obtain ⟨F, S, ρ, g, q⟩ := q
    rw [evalT] at q
    cases q1 : getS ρ i with
    | none => rw [q1] at q; exact q.elim
    | some v =>
      rw [q1] at q
      dsimp only at q
      obtain ⟨x, hx, r⟩ := g.rep i v (getS_eq q1)
      cases q2 : truV v with
      | none => rw [q2] at q; exact q.elim
      | some b =>
        rw [q2] at q
        exact ⟨x, hx, b, tru_val q2 (RepO.read r g.sub), q S H (Same.refl _) g⟩
  i := fun tg e ω ω' h ho c => by rw [chkI] at h <;> first | cases h | nofun
theorem snd_lit (v : Val) : Snd G P w mg base n T (.lit v) where
  e := fun {sc fnS W X} e ω ω' h ho c => by
    rw [chkE] at h
    rw [ownE] at ho
    cases ho
    obtain ⟨x, h1, h2, h3⟩ := lit_pe (X := X) h
    exact PE.imp h1 (lit_te h2 h3)
  l := fun es ω ω' h ho c => by rw [chkL] at h <;> first | cases h | nofun
  t := fun {sc fnS W X} e ω ω' h ho c => by
    rw [chkT] at h
    rw [ownT] at ho
    cases ho
    obtain ⟨x, h1, h2, h3⟩ := lit_pe (X := X) h
    have hp : plainT e = true := by
      unfold chkLit at h
      split at h
      · rfl
      · cases h
    have k : PE X e (tE G W ω ω true (evalE G.Φ (.lit v))) := PE.imp h1 (lit_te h2 h3)
    refine PT.imp (pt_plain c hp k (f' := fun ρ => (evalE G.Φ (.lit v) ρ).bind fun v ρ1 => match truV v with | some b => .ok b ρ1 | none => .stuck) fun ρ => rfl) fun σ H Q q => ?_
    obtain ⟨F, S, ρ, g, q⟩ := q
    refine ⟨F, S, ρ, g, ?_⟩
    cases v with
    | bl b => exact q
    | _ => exact False.elim q
  i := fun tg e ω ω' h ho c => by rw [chkI] at h <;> first | cases h | nofun
variable (HF : ∀ f ∈ T.fs, FnFact G P w mg base n T.nm f) (hbl : ∀ x ∈ T.bl, mg x = none)
theorem own_app {o : Op} {as : ME} {ω ω' : Own} (h : (ownL G.sg as ω).map (fun ω1 => if borrowOp o then ω1 else frzA as ω1) = some ω') : ∃ ω1, ownL G.sg as ω = some ω1 ∧ ω' = if borrowOp o then ω1 else frzA as ω1 := by
  cases q : ownL G.sg as ω with
  | none => rw [q] at h; cases h
  | some ω1 => rw [q] at h; cases h; exact ⟨ω1, rfl, rfl⟩
include hbl in
theorem snd_app (o : Op) (as : ME) (ih : Snd G P w mg base n T as) : Snd G P w mg base n T (.app o as) where
  e := fun e ω ω' h ho c => by
    rw [chkE] at h
    rw [ownE] at ho
    obtain ⟨ω1, h1, rfl⟩ := own_app ho
    exact PE.imp (app_pe c hbl h fun es q => ih.l es ω ω1 q h1 c) (app_te h1)
  l := fun es ω ω' h ho c => by rw [chkL] at h <;> first | cases h | nofun
  t := fun {sc fnS W X} e ω ω' h ho c => by
    rw [chkT] at h
    rw [ownT] at ho
    obtain ⟨ω1, h1, rfl⟩ := own_app ho
    rw [Bool.and_eq_true] at h
    obtain ⟨h, hp⟩ := h
    have k : PE X e (tE G W ω (if borrowOp o then ω1 else frzA as ω1) (freshOp o) (evalE G.Φ (.app o as))) := PE.imp (app_pe c hbl h fun es q => ih.l es ω ω1 q h1 c) (app_te h1)
    have ev : ∀ ρ, evalT G.Φ (.app o as) ρ = (evalE G.Φ (.app o as) ρ).bind fun v ρ1 => match truV v with | some b => .ok b ρ1 | none => .stuck := fun ρ => by
      rw [evalT, evalE]
      cases q : evalL G.Φ as ρ with
      | stuck => rfl
      | err e ρ1 => rfl
      | ok vs ρ1 =>
        show (match opV o vs with | some v => (match truV v with | some b => Res.ok b ρ1 | none => .stuck) | none => .stuck) = (match opV o vs with | some v => Res.ok v ρ1 | none => .stuck).bind _
        cases opV o vs <;> rfl
    rw [Bool.or_eq_true] at hp
    rcases hp with hp | hp
    · exact pt_plain c hp k ev
    · unfold isCmp1 at hp
      split at hp
      · rename_i op x o' y pos
        unfold chkApp at h
        split at h
        · rename_i es e1
          unfold argsOf at e1
          simp only at e1
          split at e1
          · rename_i eo
            cases e1
            obtain ⟨rfl, hm⟩ := eo
            obtain ⟨t, u, q1, q2, q3⟩ := (ih.l _ ω ω1 h h1 c).inv2
            refine PT.imp (pt_cmpR (op_cmp c.room.units _) q1 q2 (marks_of hm)) fun σ H Q q => ?_
            have q := bl_te (o := true) ev (fun ρ v ρ1 z => by
              rw [evalE] at z
              cases z1 : evalL G.Φ as ρ with
              | stuck => rw [z1] at z; cases z
              | err e ρ1 => rw [z1] at z; cases z
              | ok vs ρ2 =>
                rw [z1] at z
                have z : (match opV (.cmp op) vs with | some v => Res.ok v ρ2 | none => .stuck) = .ok v ρ1 := z
                cases z2 : opV (.cmp op) vs with
                | none => rw [z2] at z; cases z
                | some v' =>
                  rw [z2] at z
                  cases z
                  obtain ⟨a, b, rfl, z3⟩ := two_ok z2
                  exact cmp_bl z3) σ H Q q
            have q := app_te h1 σ H _ q
            rw [q3] at q
            rw [c.hK]
            exact q
          · cases e1
        · rename_i e1
          unfold argsB at h
          simp at h
      · cases hp
  i := fun tg e ω ω' h ho c => by rw [chkI] at h <;> first | cases h | nofun
include HF in
theorem snd_call (f : Nat) (as : ME) (ih : Snd G P w mg base n T as) : Snd G P w mg base n T (.call f as) := by
  have main : ∀ {sc fnS W X} (e : Expr) (ω ω' : Own), chkCall T sc (chkL T sc as) f e = true → (if (G.sg f).io then none else (ownL G.sg as ω).map fun ω1 => if (G.sg f).flat then ω1 else frzA as ω1) = some ω' →
      CxC G P w mg base n T.N sc fnS W X → PE X e (tE G W ω ω' ((G.sg f).own || (G.sg f).flat) (evalE G.Φ (.call f as))) := fun {sc fnS W X} e ω ω' h ho c => by
    cases hio : (G.sg f).io with
    | true => rw [hio] at ho; cases ho
    | false =>
      rw [hio] at ho
      simp only [Bool.false_eq_true, if_false] at ho
      cases q : ownL G.sg as ω with
      | none => rw [q] at ho; cases ho
      | some ω1 =>
        rw [q] at ho
        cases ho
        exact PE.imp (call_pe c HF h fun es q' => ih.l es ω ω1 q' q c) (call_te hio q)
  refine ⟨fun e ω ω' h ho c => ?_, fun es ω ω' h ho c => ?_, fun e ω ω' h ho c => ?_, fun tg e ω ω' h ho c => ?_⟩
  · rw [chkE] at h
    rw [ownE] at ho
    exact main e ω ω' h ho c
  · rw [chkL] at h <;> first | cases h | nofun
  · rw [chkT] at h
    rw [ownT] at ho
    have hp : plainT e = true := by
      unfold chkCall at h
      split at h
      · rfl
      · cases h
    refine pt_plain c hp (main e ω ω' h ho c) fun ρ => ?_
    rw [evalT, evalE]
    cases q : evalL G.Φ as ρ with
    | stuck => rfl
    | err e ρ1 => rfl
    | ok vs ρ1 =>
      show (match G.Φ f vs with | .ok v _ => (match truV v with | some b => Res.ok b ρ1 | none => .stuck) | .err e _ => .err e ρ1 | .stuck => .stuck) = (match G.Φ f vs with | .ok v _ => Res.ok v ρ1 | .err e _ => .err e ρ1 | .stuck => .stuck).bind _
      cases G.Φ f vs <;> rfl
  · rw [chkI] at h <;> first | cases h | nofun
include HF in
theorem snd_callio (f i : Nat) (as : ME) (ih : Snd G P w mg base n T as) : Snd G P w mg base n T (.callio f i as) := by
  have main : ∀ {sc fnS W X} (e : Expr) (ω ω' : Own), chkCall T sc (chkL T sc as) f e = true → (if (G.sg f).io && headIs i as then (ownL G.sg as ω).bind fun ω1 => if ownAt (frzT as ω1) i then some (frzT as ω1) else none else none) = some ω' →
      CxC G P w mg base n T.N sc fnS W X → PE X e (tE G W ω ω' ((G.sg f).own || (G.sg f).flat) (evalE G.Φ (.callio f i as))) := fun {sc fnS W X} e ω ω' h ho c => by
    cases hio : (G.sg f).io && headIs i as with
    | false => rw [hio] at ho; cases ho
    | true =>
      rw [hio] at ho
      rw [Bool.and_eq_true] at hio
      simp only [if_true] at ho
      cases q : ownL G.sg as ω with
      | none => rw [q] at ho; cases ho
      | some ω1 =>
        rw [q] at ho
        have ho : (if ownAt (frzT as ω1) i then some (frzT as ω1) else none) = some ω' := ho
        split at ho
        · rename_i hi
          cases ho
          exact PE.imp (call_pe c HF h fun es q' => ih.l es ω ω1 q' q c) (callio_te hio.1 hio.2 q hi)
        · cases ho
  refine ⟨fun e ω ω' h ho c => ?_, fun es ω ω' h ho c => ?_, fun e ω ω' h ho c => ?_, fun tg e ω ω' h ho c => ?_⟩
  · rw [chkE] at h
    rw [ownE] at ho
    exact main e ω ω' h ho c
  · rw [chkL] at h <;> first | cases h | nofun
  · rw [chkT] at h
    rw [ownT] at ho
    have hp : plainT e = true := by
      unfold chkCall at h
      split at h
      · rfl
      · cases h
    refine pt_plain c hp (main e ω ω' h ho c) fun ρ => ?_
    rw [evalT, evalE]
    cases q : evalL G.Φ as ρ with
    | stuck => rfl
    | err e ρ1 => rfl
    | ok vs ρ1 =>
      show (match G.Φ f vs with | .ok v (some u1) => (match truV v with | some b => Res.ok b (ρ1.set i (some u1)) | none => .stuck) | .err e (some u1) => .err e (ρ1.set i (some u1)) | _ => .stuck) =
        (match G.Φ f vs with | .ok v (some u1) => Res.ok v (ρ1.set i (some u1)) | .err e (some u1) => .err e (ρ1.set i (some u1)) | _ => .stuck).bind _
      cases G.Φ f vs with
      | stuck => rfl
      | err e o => cases o <;> rfl
      | ok v o => cases o <;> rfl
  · rw [chkI] at h <;> first | cases h | nofun
theorem snd_mut (m : Mut) (i : Nat) (as : ME) (ih : Snd G P w mg base n T as) : Snd G P w mg base n T (.mut m i as) := by
  refine ⟨fun e ω ω' h ho c => ?_, fun es ω ω' h ho c => ?_, fun e ω ω' h ho c => ?_, fun tg e ω ω' h ho c => ?_⟩
  · rw [chkE] at h
    rw [ownE] at ho
    cases q : ownL G.sg as ω with
    | none => rw [q] at ho; cases ho
    | some ω1 =>
      rw [q] at ho
      have ho : (if ownAt (frzA as ω1) i then some (frzA as ω1) else none) = some ω' := ho
      split at ho
      · rename_i hi
        cases ho
        exact PE.imp (mut_pe c h fun es q' => ih.l es ω ω1 q' q c) (mut_te q hi)
      · cases ho
  · rw [chkL] at h <;> first | cases h | nofun
  · rw [chkT] at h <;> first | cases h | nofun
  · rw [chkI] at h <;> first | cases h | nofun
end
end Pv
/-! Pv, part K: and, or, not, chains, conditional expressions, arguments, iterables. -/
namespace Pv
open PySem PySem.Spec PyProof.Rows L2
section
variable {G : Gam} {P : Program} {w : World} {mg : Str → Option Value} {base : Heap} {n : Nat} {T : Stx}
theorem tE_weak {W : WX} {ω ω' ω'' : Own} {o o' : Bool} {f : Slots → Res Val} (hω : ∀ i, ownAt ω'' i = true → ownAt ω' i = true) (ho : o' = true → o = true) (σ : L2.St) (H : Hp) (Q : VK) (h : tE G W ω ω'' o' f σ H Q) : tE G W ω ω' o f σ H Q := by
  obtain ⟨F, S, ρ, g, h⟩ := h
  refine ⟨F, S, ρ, g, ?_⟩
  cases q : f ρ with
  | stuck => rw [q] at h; exact h
  | err e ρ1 => rw [q] at h; exact h
  | ok v ρ1 =>
    rw [q] at h
    intro x S' H' e1 g1 r m
    obtain ⟨S2, e2, g2, r2, m2⟩ := g1.lower r m ho hω
    exact h x S2 H' (e1.trans e2) g2 r2 m2
theorem tT_weak {W : WX} {ω ω' ω'' : Own} {f : Slots → Res Bool} (hω : ∀ i, ownAt ω'' i = true → ownAt ω' i = true) (σ : L2.St) (H : Hp) (Q : Bool → Hp → Prop) (h : tT G W ω ω'' f σ H Q) : tT G W ω ω' f σ H Q := by
  obtain ⟨F, S, ρ, g, h⟩ := h
  refine ⟨F, S, ρ, g, ?_⟩
  cases q : f ρ with
  | stuck => rw [q] at h; exact h
  | err e ρ1 => rw [q] at h; exact h
  | ok v ρ1 =>
    rw [q] at h
    intro S' H' e1 g1
    obtain ⟨S2, e2, g2, _⟩ := g1.le hω
    exact h S2 H' (e1.trans e2) g2
/-- in a row: what behind the first part is asked of the second -/
theorem tE_bind {W : WX} {ω ω1 ω2 : Own} {o o2 : Bool} {f : Slots → Res Val} {k : Val → Slots → Res Val} {σ : L2.St} {H : Hp} {Q : VK} {R : V → Hp → Prop}
    (h : tE G W ω ω2 o2 (fun ρ => (f ρ).bind k) σ H Q)
    (hk : ∀ v ρ1 x F S1 H1, Gd G.K F S1 H1 ω1 ρ1 σ → RepO G.K o S1 H1 v x → Mine F S1 H1 ω1 ρ1 σ o v x →
      (match k v ρ1 with
        | .ok v ρ' => ∀ x S' H', Same S1 S' → Gd G.K F S' H' ω2 ρ' σ → RepO G.K o2 S' H' v x → Mine F S' H' ω2 ρ' σ o2 v x → Q x H'
        | .err e ρ' => ∀ cls d S' H', Same S1 S' → Gd G.K F S' H' [] ρ' σ → G.xr e cls d S' → W cls d σ H'
        | .stuck => False) → R x H1) : tE G W ω ω1 o f σ H R := by
  obtain ⟨F, S, ρ, g, h⟩ := h
  refine ⟨F, S, ρ, g, ?_⟩
  have h : match (f ρ).bind k with
        | .ok v ρ' => ∀ x S' H', Same S S' → Gd G.K F S' H' ω2 ρ' σ → RepO G.K o2 S' H' v x → Mine F S' H' ω2 ρ' σ o2 v x → Q x H'
        | .err e ρ' => ∀ cls d S' H', Same S S' → Gd G.K F S' H' [] ρ' σ → G.xr e cls d S' → W cls d σ H'
        | .stuck => False := h
  cases q : f ρ with
  | stuck => rw [q] at h; exact h
  | err e ρ1 => rw [q] at h; exact h
  | ok v ρ1 =>
    rw [q] at h
    intro x S1 H1 e1 g1 r m
    have h : (match k v ρ1 with
        | .ok v ρ' => ∀ x S' H', Same S S' → Gd G.K F S' H' ω2 ρ' σ → RepO G.K o2 S' H' v x → Mine F S' H' ω2 ρ' σ o2 v x → Q x H'
        | .err e ρ' => ∀ cls d S' H', Same S S' → Gd G.K F S' H' [] ρ' σ → G.xr e cls d S' → W cls d σ H'
        | .stuck => False) := h
    refine hk v ρ1 x F S1 H1 g1 r m ?_
    cases q2 : k v ρ1 with
    | stuck => rw [q2] at h; exact h
    | err e ρ2 => rw [q2] at h; exact fun cls d S' H' e2 => h cls d S' H' (e1.trans e2)
    | ok v2 ρ2 => rw [q2] at h; exact fun x S' H' e2 => h x S' H' (e1.trans e2)
theorem tT_bind {α : Type} {W : WX} {ω ω1 : Own} {f : Slots → Res Bool} {k : Bool → Slots → Res α} {σ : L2.St} {H : Hp} {R : Bool → Hp → Prop} {F : Frm} {S : Hp} {ρ : Slots} (g : Gd G.K F S H ω ρ σ)
    (Pk : Hp → Res α → Prop) (hs : Pk S .stuck → False) (he : ∀ e ρ', Pk S (.err e ρ') → ∀ cls d S' H', Same S S' → Gd G.K F S' H' [] ρ' σ → G.xr e cls d S' → W cls d σ H') (h : Pk S ((f ρ).bind k))
    (hk : ∀ b ρ1 S1 H1, Same S S1 → Gd G.K F S1 H1 ω1 ρ1 σ → Pk S (k b ρ1) → R b H1) : tT G W ω ω1 f σ H R := by
  refine ⟨F, S, ρ, g, ?_⟩
  cases q : f ρ with
  | stuck => rw [q] at h; exact hs h
  | err e ρ1 => rw [q] at h; exact he e ρ1 h
  | ok v ρ1 =>
    rw [q] at h
    exact fun S1 H1 e1 g1 => hk v ρ1 S1 H1 e1 g1 h
theorem meet_l {a b : Own} {i : Nat} (h : ownAt (meet a b) i = true) : ownAt a i = true := (meet_at a b i h).1
theorem meet_r {a b : Own} {i : Nat} (h : ownAt (meet a b) i = true) : ownAt b i = true := (meet_at a b i h).2
theorem RepO.isBl {K : PySem.W.Frag} {o : Bool} {S H : Hp} {b : Bool} {x : V} (r : RepO K o S H (.bl b) x) : x = .bl b := by
  have := r.plain ⟨fun _ => nofun, fun _ _ _ => nofun⟩
  cases this
  rfl
theorem RepO.isInt {K : PySem.W.Frag} {o : Bool} {S H : Hp} {b : Int} {x : V} (r : RepO K o S H (.int b) x) : x = .int b := by
  have := r.plain ⟨fun _ => nofun, fun _ _ _ => nofun⟩
  cases this
  rfl
theorem bl_fin {W : WX} {F : Frm} {S H : Hp} {ω ω' : Own} {ρ : Slots} {σ : L2.St} {b o : Bool} {Q : VK} (g : Gd G.K F S H ω ρ σ) (hω : ∀ i, ownAt ω' i = true → ownAt ω i = true)
    (h : ∀ x S' H', Same S S' → Gd G.K F S' H' ω' ρ σ → RepO G.K o S' H' (.bl b) x → Mine F S' H' ω' ρ σ o (.bl b) x → Q x H') : Q (.bl b) H := by
  obtain ⟨S2, e2, g2, _⟩ := g.le hω
  exact h _ S2 H e2 g2 (RepO.of (.bl b) (.inr ⟨fun _ => nofun, fun _ _ _ => nofun⟩)) fun a w => (Owns.no (v := .bl b) (.inr ⟨fun _ => nofun, fun _ _ _ => nofun⟩) w).elim
theorem own_two {a b : Own → Option Own} {ω ω' : Own} (h : (a ω).bind (fun ω1 => (b ω1).map (meet ω1)) = some ω') : ∃ ω1 ω2, a ω = some ω1 ∧ b ω1 = some ω2 ∧ ω' = meet ω1 ω2 := by
  cases q : a ω with
  | none => rw [q] at h; cases h
  | some ω1 =>
    rw [q] at h
    have h : (b ω1).map (meet ω1) = some ω' := h
    cases q2 : b ω1 with
    | none => rw [q2] at h; cases h
    | some ω2 => rw [q2] at h; cases h; exact ⟨ω1, ω2, rfl, q2, rfl⟩
theorem snd_not (a : ME) (ih : Snd G P w mg base n T a) : Snd G P w mg base n T (.not_ a) := by
  refine ⟨fun {sc fnS W X} e ω ω' h ho c => ?_, fun es ω ω' h ho c => ?_, fun {sc fnS W X} e ω ω' h ho c => ?_, fun tg e ω ω' h ho c => ?_⟩
  · rw [chkE] at h
    rw [ownE] at ho
    unfold onNot at h
    split at h
    · rename_i x pos
      refine PE.imp (pe_notT (ih.e x ω ω' h ho c)) fun σ H Q q => ?_
      rw [c.hK]
      have q : tE G W ω ω' true (fun ρ => (evalE G.Φ a ρ).bind fun v ρ1 => match truV v with | some b => .ok (.bl (!b)) ρ1 | none => .stuck) σ H Q := by
        obtain ⟨F, S, ρ, g, q⟩ := q
        rw [evalE] at q
        exact ⟨F, S, ρ, g, q⟩
      refine tE_bind q fun v ρ1 x F S1 H1 g1 r m k => ?_
      cases q2 : truV v with
      | none => rw [q2] at k; exact k.elim
      | some b =>
        rw [q2] at k
        exact ⟨b, tru_val q2 (RepO.read r g1.sub), bl_fin (W := W) g1 (fun _ z => z) k⟩
    · cases h
  · rw [chkL] at h <;> first | cases h | nofun
  · rw [chkT] at h
    rw [ownT] at ho
    unfold onNot at h
    split at h
    · rename_i x pos
      refine PT.imp (pt_not (ih.t x ω ω' h ho c)) fun σ H Q q => ?_
      obtain ⟨F, S, ρ, g, q⟩ := q
      rw [evalT] at q
      refine ⟨F, S, ρ, g, ?_⟩
      cases q1 : evalT G.Φ a ρ with
      | stuck => rw [q1] at q; exact q
      | err e ρ1 => rw [q1] at q; exact q
      | ok b ρ1 => rw [q1] at q; exact q
    · cases h
  · rw [chkI] at h <;> first | cases h | nofun
theorem snd_and (a b : ME) (iha : Snd G P w mg base n T a) (ihb : Snd G P w mg base n T b) : Snd G P w mg base n T (.and_ a b) := by
  refine ⟨fun {sc fnS W X} e ω ω' h ho c => ?_, fun es ω ω' h ho c => ?_, fun {sc fnS W X} e ω ω' h ho c => ?_, fun tg e ω ω' h ho c => ?_⟩
  · rw [chkE] at h
    rw [ownE] at ho
    obtain ⟨ω1, ω2, o1, o2, rfl⟩ := own_two ho
    unfold onBool at h
    split at h
    · rename_i o' x y rest pos
      simp only [Bool.and_eq_true, decide_eq_true_eq] at h
      obtain ⟨⟨rfl, h1⟩, h2⟩ := h
      have h := And.intro h1 h2
      have hb : PE X (.BoolOp .And (y :: rest) pos) (tE G W ω1 ω2 (freshE G.sg b) (evalE G.Φ b)) := by
        cases rest with
        | nil => exact pe_one (ihb.e y ω1 ω2 h.2 o2 c)
        | cons z rs => exact ihb.e _ ω1 ω2 h.2 o2 c
      refine PE.imp (pe_and (iha.e x ω ω1 h.1 o1 c) hb) fun σ H Q q => ?_
      have q : tE G W ω (meet ω1 ω2) (freshE G.sg b) (fun ρ => (evalE G.Φ a ρ).bind fun v ρ1 => match v with | .bl true => evalE G.Φ b ρ1 | .bl false => .ok (.bl false) ρ1 | _ => .stuck) σ H Q := by
        obtain ⟨F, S, ρ, g, q⟩ := q
        rw [evalE] at q
        exact ⟨F, S, ρ, g, q⟩
      refine tE_bind q fun v ρ1 x F S1 H1 g1 r m k => ?_
      cases v with
      | bl v =>
        refine ⟨v, r.isBl, ?_⟩
        cases v with
        | true =>
          rw [if_pos rfl]
          exact tE_weak (ω'' := meet ω1 ω2) (fun i => meet_r) id σ H1 Q ⟨F, S1, ρ1, g1, k⟩
        | false =>
          rw [if_neg Bool.false_ne_true]
          exact bl_fin (W := W) g1 (fun i => meet_l) k
      | _ => exact False.elim k
    · cases h
  · rw [chkL] at h <;> first | cases h | nofun
  · rw [chkT] at h
    rw [ownT] at ho
    obtain ⟨ω1, ω2, o1, o2, rfl⟩ := own_two ho
    unfold onBool at h
    split at h
    · rename_i o' x y rest pos
      simp only [Bool.and_eq_true, decide_eq_true_eq] at h
      obtain ⟨⟨rfl, h1⟩, h2⟩ := h
      have h := And.intro h1 h2
      have hb : PW X (.BoolOp .And (y :: rest) pos) (tT G W ω1 ω2 (evalT G.Φ b)) := by
        cases rest with
        | nil => exact pw_and1 (ihb.t y ω1 ω2 h.2 o2 c)
        | cons z rs => exact ⟨fun wh => (ihb.t (.BoolOp .And (y :: z :: rs) pos) ω1 ω2 h.2 o2 c).run⟩
      refine PT.imp (pw_and (iha.t x ω ω1 h.1 o1 c) hb).pt fun σ H Q q => ?_
      obtain ⟨F, S, ρ, g, q⟩ := q
      rw [evalT] at q
      refine tT_bind g (fun S0 r => match r with
        | .ok b ρ' => ∀ S' H', Same S0 S' → Gd G.K F S' H' (meet ω1 ω2) ρ' σ → Q b H'
        | .err e ρ' => ∀ cls d S' H', Same S0 S' → Gd G.K F S' H' [] ρ' σ → G.xr e cls d S' → W cls d σ H'
        | .stuck => False) id (fun e ρ' z => z) q fun k ρ1 S1 H1 e1 g1 q => ?_
      cases k with
      | true =>
        rw [if_pos rfl] at q ⊢
        refine tT_weak (ω'' := meet ω1 ω2) (fun i => meet_r) σ H1 Q ⟨F, S1, ρ1, g1, ?_⟩
        cases q2 : evalT G.Φ b ρ1 with
        | stuck => rw [q2] at q; exact q
        | err e ρ2 => rw [q2] at q; exact fun cls d S' H' e2 => q cls d S' H' (e1.trans e2)
        | ok v2 ρ2 => rw [q2] at q; exact fun S' H' e2 => q S' H' (e1.trans e2)
      | false =>
        rw [if_neg Bool.false_ne_true] at q ⊢
        obtain ⟨S2, e2, g2, _⟩ := g1.le (ω' := meet ω1 ω2) fun i => meet_l
        exact q S2 H1 (e1.trans e2) g2
    · cases h
  · rw [chkI] at h <;> first | cases h | nofun
theorem snd_or (a b : ME) (iha : Snd G P w mg base n T a) (ihb : Snd G P w mg base n T b) : Snd G P w mg base n T (.or_ a b) := by
  refine ⟨fun {sc fnS W X} e ω ω' h ho c => ?_, fun es ω ω' h ho c => ?_, fun {sc fnS W X} e ω ω' h ho c => ?_, fun tg e ω ω' h ho c => ?_⟩
  · rw [chkE] at h
    rw [ownE] at ho
    obtain ⟨ω1, ω2, o1, o2, rfl⟩ := own_two ho
    unfold onBool at h
    split at h
    · rename_i o' x y rest pos
      simp only [Bool.and_eq_true, decide_eq_true_eq] at h
      obtain ⟨⟨rfl, h1⟩, h2⟩ := h
      have h := And.intro h1 h2
      have hb : PE X (.BoolOp .Or (y :: rest) pos) (tE G W ω1 ω2 (freshE G.sg b) (evalE G.Φ b)) := by
        cases rest with
        | nil => exact pe_one (ihb.e y ω1 ω2 h.2 o2 c)
        | cons z rs => exact ihb.e _ ω1 ω2 h.2 o2 c
      refine PE.imp (pe_or (iha.e x ω ω1 h.1 o1 c) hb) fun σ H Q q => ?_
      have q : tE G W ω (meet ω1 ω2) (freshE G.sg b) (fun ρ => (evalE G.Φ a ρ).bind fun v ρ1 => match v with | .bl false => evalE G.Φ b ρ1 | .bl true => .ok (.bl true) ρ1 | _ => .stuck) σ H Q := by
        obtain ⟨F, S, ρ, g, q⟩ := q
        rw [evalE] at q
        exact ⟨F, S, ρ, g, q⟩
      refine tE_bind q fun v ρ1 x F S1 H1 g1 r m k => ?_
      cases v with
      | bl v =>
        refine ⟨v, r.isBl, ?_⟩
        cases v with
        | true =>
          rw [if_pos rfl]
          exact bl_fin (W := W) g1 (fun i => meet_l) k
        | false =>
          rw [if_neg Bool.false_ne_true]
          exact tE_weak (ω'' := meet ω1 ω2) (fun i => meet_r) id σ H1 Q ⟨F, S1, ρ1, g1, k⟩
      | _ => exact False.elim k
    · cases h
  · rw [chkL] at h <;> first | cases h | nofun
  · rw [chkT] at h
    rw [ownT] at ho
    obtain ⟨ω1, ω2, o1, o2, rfl⟩ := own_two ho
    unfold onBool at h
    split at h
    · rename_i o' x y rest pos
      simp only [Bool.and_eq_true, decide_eq_true_eq] at h
      obtain ⟨⟨rfl, h1⟩, h2⟩ := h
      have h := And.intro h1 h2
      have hb : PW X (.BoolOp .Or (y :: rest) pos) (tT G W ω1 ω2 (evalT G.Φ b)) := by
        cases rest with
        | nil => exact pw_or1 (ihb.t y ω1 ω2 h.2 o2 c)
        | cons z rs => exact ⟨fun wh => (ihb.t (.BoolOp .Or (y :: z :: rs) pos) ω1 ω2 h.2 o2 c).run⟩
      refine PT.imp (pw_or (iha.t x ω ω1 h.1 o1 c) hb).pt fun σ H Q q => ?_
      obtain ⟨F, S, ρ, g, q⟩ := q
      rw [evalT] at q
      refine tT_bind g (fun S0 r => match r with
        | .ok b ρ' => ∀ S' H', Same S0 S' → Gd G.K F S' H' (meet ω1 ω2) ρ' σ → Q b H'
        | .err e ρ' => ∀ cls d S' H', Same S0 S' → Gd G.K F S' H' [] ρ' σ → G.xr e cls d S' → W cls d σ H'
        | .stuck => False) id (fun e ρ' z => z) q fun k ρ1 S1 H1 e1 g1 q => ?_
      cases k with
      | false =>
        rw [if_neg Bool.false_ne_true] at q ⊢
        refine tT_weak (ω'' := meet ω1 ω2) (fun i => meet_r) σ H1 Q ⟨F, S1, ρ1, g1, ?_⟩
        cases q2 : evalT G.Φ b ρ1 with
        | stuck => rw [q2] at q; exact q
        | err e ρ2 => rw [q2] at q; exact fun cls d S' H' e2 => q cls d S' H' (e1.trans e2)
        | ok v2 ρ2 => rw [q2] at q; exact fun S' H' e2 => q S' H' (e1.trans e2)
      | true =>
        rw [if_pos rfl] at q ⊢
        obtain ⟨S2, e2, g2, _⟩ := g1.le (ω' := meet ω1 ω2) fun i => meet_l
        exact q S2 H1 (e1.trans e2) g2
    · cases h
  · rw [chkI] at h <;> first | cases h | nofun
theorem snd_ife (k a b : ME) (ihk : Snd G P w mg base n T k) (iha : Snd G P w mg base n T a) (ihb : Snd G P w mg base n T b) : Snd G P w mg base n T (.ife k a b) := by
  refine ⟨fun {sc fnS W X} e ω ω' h ho c => ?_, fun es ω ω' h ho c => ?_, fun {sc fnS W X} e ω ω' h ho c => ?_, fun tg e ω ω' h ho c => ?_⟩
  · rw [chkE] at h
    rw [ownE] at ho
    cases q0 : ownT G.sg k ω with
    | none => rw [q0] at ho; cases ho
    | some ω1 =>
      rw [q0] at ho
      have ho : (ownE G.sg a ω1).bind (fun ω2 => (ownE G.sg b ω1).map (meet ω2)) = some ω' := ho
      cases q1 : ownE G.sg a ω1 with
      | none => rw [q1] at ho; cases ho
      | some ω2 =>
        rw [q1] at ho
        have ho : (ownE G.sg b ω1).map (meet ω2) = some ω' := ho
        cases q2 : ownE G.sg b ω1 with
        | none => rw [q2] at ho; cases ho
        | some ω3 =>
          rw [q2] at ho
          cases ho
          unfold onIf at h
          split at h
          · rename_i t x y pos
            simp only [Bool.and_eq_true] at h
            refine PE.imp (pe_ifExp (ihk.t t ω ω1 h.1.1 q0 c) (iha.e x ω1 ω2 h.1.2 q1 c) (ihb.e y ω1 ω3 h.2 q2 c)) fun σ H Q q => ?_
            obtain ⟨F, S, ρ, g, q⟩ := q
            rw [evalE] at q
            refine tT_bind g (fun S0 r => match r with
              | .ok v ρ' => ∀ x S' H', Same S0 S' → Gd G.K F S' H' (meet ω2 ω3) ρ' σ → RepO G.K (freshE G.sg (.ife k a b)) S' H' v x → Mine F S' H' (meet ω2 ω3) ρ' σ (freshE G.sg (.ife k a b)) v x → Q x H'
              | .err e ρ' => ∀ cls d S' H', Same S0 S' → Gd G.K F S' H' [] ρ' σ → G.xr e cls d S' → W cls d σ H'
              | .stuck => False) id (fun e ρ' z => z) q fun kk ρ1 S1 H1 e1 g1 q => ?_
            cases kk with
            | true =>
              rw [if_pos rfl] at q ⊢
              refine tE_weak (ω'' := meet ω2 ω3) (fun i => meet_l) (o' := freshE G.sg (.ife k a b)) (fun z => (Bool.and_eq_true_iff.mp z).1) σ H1 Q ⟨F, S1, ρ1, g1, ?_⟩
              cases q3 : evalE G.Φ a ρ1 with
              | stuck => rw [q3] at q; exact q
              | err e ρ2 => rw [q3] at q; exact fun cls d S' H' e2 => q cls d S' H' (e1.trans e2)
              | ok v2 ρ2 => rw [q3] at q; exact fun x S' H' e2 => q x S' H' (e1.trans e2)
            | false =>
              rw [if_neg Bool.false_ne_true] at q ⊢
              refine tE_weak (ω'' := meet ω2 ω3) (fun i => meet_r) (o' := freshE G.sg (.ife k a b)) (fun z => (Bool.and_eq_true_iff.mp z).2) σ H1 Q ⟨F, S1, ρ1, g1, ?_⟩
              cases q3 : evalE G.Φ b ρ1 with
              | stuck => rw [q3] at q; exact q
              | err e ρ2 => rw [q3] at q; exact fun cls d S' H' e2 => q cls d S' H' (e1.trans e2)
              | ok v2 ρ2 => rw [q3] at q; exact fun x S' H' e2 => q x S' H' (e1.trans e2)
          · cases h
  · rw [chkL] at h <;> first | cases h | nofun
  · rw [chkT] at h <;> first | cases h | nofun
  · rw [chkI] at h <;> first | cases h | nofun
theorem snd_nil : Snd G P w mg base n T .nil := by
  refine ⟨fun {sc fnS W X} e ω ω' h ho c => ?_, fun es ω ω' h ho c => ?_, fun {sc fnS W X} e ω ω' h ho c => ?_, fun tg e ω ω' h ho c => ?_⟩
  · rw [chkE] at h <;> first | cases h | nofun
  · rw [chkL] at h
    unfold onNil at h
    split at h
    · trivial
    · cases h
  · rw [chkT] at h <;> first | cases h | nofun
  · rw [chkI] at h <;> first | cases h | nofun
theorem snd_cons (a as : ME) (iha : Snd G P w mg base n T a) (ihs : Snd G P w mg base n T as) : Snd G P w mg base n T (.cons a as) := by
  refine ⟨fun {sc fnS W X} e ω ω' h ho c => ?_, fun {sc fnS W X} es ω ω' h ho c => ?_, fun {sc fnS W X} e ω ω' h ho c => ?_, fun tg e ω ω' h ho c => ?_⟩
  · rw [chkE] at h <;> first | cases h | nofun
  · rw [chkL] at h
    unfold onCons at h
    split at h
    · rename_i e es
      rw [Bool.and_eq_true] at h
      rw [ownL] at ho
      cases q : isVar a with
      | some i =>
        rw [q] at ho
        have ho : ownL G.sg as ω = some ω' := ho
        have es' : stepO G.sg a ω = ω := by unfold stepO; rw [q]
        show PE X e (tArg G W ω (stepO G.sg a ω) a) ∧ LP X G W (stepO G.sg a ω) as es
        rw [es', tArg_var q]
        refine ⟨?_, ihs.l es ω ω' h.2 ho c⟩
        have ea : a = .var i := by
          unfold isVar at q
          split at q
          · cases q; rfl
          · cases q
        subst ea
        have h1 := h.1
        rw [chkE] at h1
        exact vis_pe c h1
      | none =>
        rw [q] at ho
        have ho : (ownE G.sg a ω).bind (fun ω1 => ownL G.sg as ω1) = some ω' := ho
        cases q1 : ownE G.sg a ω with
        | none => rw [q1] at ho; cases ho
        | some ω1 =>
          rw [q1] at ho
          have es' : stepO G.sg a ω = ω1 := by unfold stepO; rw [q, q1]; rfl
          show PE X e (tArg G W ω (stepO G.sg a ω) a) ∧ LP X G W (stepO G.sg a ω) as es
          rw [es', tArg_none q]
          exact ⟨iha.e e ω ω1 h.1 q1 c, ihs.l es ω1 ω' h.2 ho c⟩
    · cases h
  · rw [chkT] at h <;> first | cases h | nofun
  · rw [chkI] at h <;> first | cases h | nofun
end
end Pv
/-! Pv, part L: chains, iterables, comprehensions; the soundness of every expression. -/
namespace Pv
open PySem PySem.Spec PyProof.Rows L2
section
variable {G : Gam} {P : Program} {w : World} {mg : Str → Option Value} {base : Heap} {n : Nat} {T : Stx}
variable (HF : ∀ f ∈ T.fs, FnFact G P w mg base n T.nm f) (hbl : ∀ x ∈ T.bl, mg x = none)
/-! ### chains of ints -/
def rCi (o : CmpOp) : R2 := fun x y H Q => ∃ i j r, x = .int i ∧ y = .int j ∧ cmpV o (.int i) (.int j) = some (.bl r) ∧ Q (.bl r) H
theorem op_ci {X : Cx} (hu : X.A.units + 64 < cLine) (o : CmpOp) : OpR X (compareOp o) (rCi o) := by
  intro pins s σ H x y v u Q I rx ry h
  obtain ⟨i, j, r, rfl, rfl, e, q⟩ := h
  refine op_cmp hu o pins s σ H _ _ v u Q I rx ry ?_
  cases o <;> (unfold cmpV at e; first | (cases e; exact ⟨_, _, rfl, rfl, q⟩) | (simp only [eqvV] at e; cases e; refine .inl ⟨rfl, ?_⟩; rw [dec_int]; exact q) | (simp [seqV] at e))
theorem lm_of {o1 o2 : CmpOp} {y z : Expr} (hz : notSet z = true) : lastMarks [o1, o2] [y, z] = false := marks_of hz
theorem own_ch {a b c : ME} {ω ω' : Own} (h : (ownE G.sg a ω).bind (fun ω1 => (ownE G.sg b ω1).bind fun ω2 => (ownE G.sg c ω2).map (meet ω2)) = some ω') :
    ∃ ω1 ω2 ω3, ownE G.sg a ω = some ω1 ∧ ownE G.sg b ω1 = some ω2 ∧ ownE G.sg c ω2 = some ω3 ∧ ω' = meet ω2 ω3 := by
  cases q1 : ownE G.sg a ω with
  | none => rw [q1] at h; cases h
  | some ω1 =>
    rw [q1] at h
    have h : (ownE G.sg b ω1).bind (fun ω2 => (ownE G.sg c ω2).map (meet ω2)) = some ω' := h
    cases q2 : ownE G.sg b ω1 with
    | none => rw [q2] at h; cases h
    | some ω2 =>
      rw [q2] at h
      have h : (ownE G.sg c ω2).map (meet ω2) = some ω' := h
      cases q3 : ownE G.sg c ω2 with
      | none => rw [q3] at h; cases h
      | some ω3 => rw [q3] at h; cases h; exact ⟨ω1, ω2, ω3, rfl, q2, q3, rfl⟩
/-- a chain, evaluated: what is wished of its bool -/
theorem chain_te {W : WX} {o1 o2 : CmpOp} {a b c : ME} {ω ω1 ω2 ω3 : Own} {σ : L2.St} {H : Hp} {R : Bool → Hp → Prop} {R' : VK} (hQ : ∀ k H1, R k H1 → R' (.bl k) H1) (h : tT G W ω (meet ω2 ω3) (evalT G.Φ (.chain o1 o2 a b c)) σ H R) :
    tChain (rCi o1) (rCi o2) (tE G W ω ω1 (freshE G.sg a) (evalE G.Φ a)) (tE G W ω1 ω2 (freshE G.sg b) (evalE G.Φ b)) (tE G W ω2 ω3 (freshE G.sg c) (evalE G.Φ c)) σ H R' := by
  obtain ⟨F, S, ρ, g, h⟩ := h
  rw [evalT] at h
  refine ⟨F, S, ρ, g, ?_⟩
  cases q1 : evalE G.Φ a ρ with
  | stuck => rw [q1] at h; exact h
  | err e ρ1 => rw [q1] at h; exact h
  | ok va ρ1 =>
    rw [q1] at h
    intro x S1 H1 e1 g1 r1 m1
    obtain ⟨S1', e1', g1', r1'⟩ := g1.stillV r1 m1
    refine ⟨F, S1', ρ1, g1', ?_⟩
    simp only [Res.bind] at h
    cases q2 : evalE G.Φ b ρ1 with
    | stuck => rw [q2] at h; exact h
    | err e ρ2 => rw [q2] at h; exact fun cls d S' H' e2 => h cls d S' H' ((e1.trans e1').trans e2)
    | ok vb ρ2 =>
      rw [q2] at h
      intro y S2 H2 e2 g2 r2 m2
      obtain ⟨S2', e2', g2', r2'⟩ := g2.stillV r2 m2
      have e02 := (((e1.trans e1').trans e2).trans e2')
      cases va <;> first | exact False.elim h | skip
      cases vb <;> first | exact False.elim h | skip
      rename_i i j
      cases r1'
      cases r2'
      dsimp only at h
      cases q3 : cmpV o1 (.int i) (.int j) with
      | none => rw [q3] at h; exact h.elim
      | some r =>
        rw [q3] at h
        cases r <;> first | exact False.elim h | skip
        rename_i k
        refine ⟨i, j, k, rfl, rfl, q3, k, rfl, ?_⟩
        cases k with
        | false =>
          rw [if_neg Bool.false_ne_true]
          obtain ⟨S3, e3, g3, _⟩ := g2'.le (ω' := meet ω2 ω3) fun i => meet_l
          exact hQ _ _ (h S3 H2 (e02.trans e3) g3)
        | true =>
          rw [if_pos rfl]
          dsimp only at h
          refine ⟨F, S2', ρ2, g2', ?_⟩
          cases q4 : evalE G.Φ c ρ2 with
          | stuck => rw [q4] at h; exact h
          | err e ρ3 => rw [q4] at h; exact fun cls d S' H' e3 => h cls d S' H' (e02.trans e3)
          | ok vc ρ3 =>
            rw [q4] at h
            intro z S3 H3 e3 g3 r3 m3
            cases vc <;> first | exact False.elim h | skip
            rename_i l
            dsimp only at h
            cases q5 : cmpV o2 (.int j) (.int l) with
            | none => rw [q5] at h; exact h.elim
            | some r =>
              rw [q5] at h
              cases r <;> first | exact False.elim h | skip
              rename_i k
              obtain ⟨S4, e4, g4, _⟩ := g3.le (ω' := meet ω2 ω3) fun i => meet_r
              exact ⟨j, l, k, rfl, r3.isInt, q5, hQ _ _ (h S4 H3 ((e02.trans e3).trans e4) g4)⟩
theorem chain_ev (o1 o2 : CmpOp) (a b c : ME) (ρ : Slots) : evalE G.Φ (.chain o1 o2 a b c) ρ = (evalT G.Φ (.chain o1 o2 a b c) ρ).bind fun k ρ1 => .ok (.bl k) ρ1 := by
  rw [evalE, evalT]
  cases evalE G.Φ a ρ with
  | stuck => rfl
  | err e ρ1 => rfl
  | ok va ρ1 =>
    simp only [Res.bind]
    cases evalE G.Φ b ρ1 with
    | stuck => rfl
    | err e ρ1 => rfl
    | ok vb ρ2 =>
      cases va <;> first | rfl | skip
      cases vb <;> first | rfl | skip
      dsimp only
      split
      · cases evalE G.Φ c ρ2 with
        | stuck => rfl
        | err e ρ1 => rfl
        | ok vc ρ3 =>
          cases vc <;> first | rfl | skip
          dsimp only
          split
          · rename_i v e
            obtain ⟨k, rfl⟩ := cmp_bl e
            rw [e]
          · rename_i e
            rw [e]
      · rfl
      · rfl
theorem snd_chain (o1 o2 : CmpOp) (a b cc : ME) (iha : Snd G P w mg base n T a) (ihb : Snd G P w mg base n T b) (ihc : Snd G P w mg base n T cc) : Snd G P w mg base n T (.chain o1 o2 a b cc) := by
  refine ⟨fun {sc fnS W X} e ω ω' h ho c => ?_, fun es ω ω' h ho c => ?_, fun {sc fnS W X} e ω ω' h ho c => ?_, fun tg e ω ω' h ho c => ?_⟩
  · rw [chkE] at h
    rw [ownE] at ho
    obtain ⟨ω1, ω2, ω3, k1, k2, k3, rfl⟩ := own_ch ho
    unfold onChain at h
    split at h
    · rename_i x p qq y z pos
      simp only [Bool.and_eq_true, decide_eq_true_eq] at h
      obtain ⟨⟨⟨⟨⟨⟨rfl, rfl⟩, hy⟩, hz⟩, h1⟩, h2⟩, h3⟩ := h
      refine PE.imp (pe_chain (op_ci c.room.units _) (op_ci c.room.units _) (iha.e x ω ω1 h1 k1 c) (ihb.e y ω1 ω2 h2 k2 c) (ihc.e z ω2 ω3 h3 k3 c) (lm_of hz)) fun σ H Q q => ?_
      have q' : tT G W ω (meet ω2 ω3) (evalT G.Φ (.chain p qq a b cc)) σ H fun k H1 => Q (.bl k) H1 := by
        obtain ⟨F, S, ρ, g, q⟩ := q
        rw [chain_ev] at q
        refine ⟨F, S, ρ, g, ?_⟩
        cases q1 : evalT G.Φ (.chain p qq a b cc) ρ with
        | stuck => rw [q1] at q; exact q
        | err e ρ1 => rw [q1] at q; exact q
        | ok k ρ1 =>
          rw [q1] at q
          exact fun S' H' e1 g1 => bl_fin (W := W) g1 (fun _ z => z) fun x S2 H2 e2 => q x S2 H2 (e1.trans e2)
      exact chain_te (fun _ _ z => z) q'
    · cases h
  · rw [chkL] at h <;> first | cases h | nofun
  · rw [chkT] at h
    rw [ownT] at ho
    obtain ⟨ω1, ω2, ω3, k1, k2, k3, rfl⟩ := own_ch ho
    unfold onChain at h
    split at h
    · rename_i x p qq y z pos
      simp only [Bool.and_eq_true, decide_eq_true_eq] at h
      obtain ⟨⟨⟨⟨⟨⟨rfl, rfl⟩, hy⟩, hz⟩, h1⟩, h2⟩, h3⟩ := h
      exact PT.imp (pt_chain (op_ci c.room.units _) (op_ci c.room.units _) (iha.e x ω ω1 h1 k1 c) (ihb.e y ω1 ω2 h2 k2 c) (ihc.e z ω2 ω3 h3 k3 c) (lm_of hz)) fun σ H Q q => chain_te (fun k H1 z => ⟨k, rfl, z⟩) q
    · cases h
  · rw [chkI] at h <;> first | cases h | nofun
/-! ### iterables -/
theorem snd_seq (a : ME) (ih : Snd G P w mg base n T a) : Snd G P w mg base n T (.seq a) := by
  refine ⟨fun {sc fnS W X} e ω ω' h ho c => ?_, fun es ω ω' h ho c => ?_, fun {sc fnS W X} e ω ω' h ho c => ?_, fun {sc fnS W X} tg e ω ω' h ho c => ?_⟩
  · rw [chkE] at h <;> first | cases h | nofun
  · rw [chkL] at h <;> first | cases h | nofun
  · rw [chkT] at h <;> first | cases h | nofun
  · rw [chkI, Bool.and_eq_true] at h
    rw [ownI] at ho
    refine PI.imp (pi_seq (ih.e e ω ω' h.2 ho c)) fun σ H R q => ?_
    rw [c.hK]
    obtain ⟨F, S, ρ, g, q⟩ := q
    rw [evalI] at q
    refine ⟨F, S, ρ, g, ?_⟩
    cases q1 : evalE G.Φ a ρ with
    | stuck => rw [q1] at q; exact q
    | err e ρ1 => rw [q1] at q; exact q
    | ok v ρ1 =>
      rw [q1] at q
      simp only [Res.bind] at q
      intro x S1 H1 e1 g1 r1 m1
      obtain ⟨S2, e2, g2, r2⟩ := g1.stillV r1 m1
      cases r2 with
      | tup hq rr => exact ⟨_, rfl, .inr ⟨⟨_, Same.sqt g2.sub hq⟩, q _ S2 H1 (e1.trans e2) g2 (walk_itt hq rr)⟩⟩
      | lst hq rr => exact ⟨_, rfl, .inl ⟨⟨_, .inl (.inl (g2.sub _ _ hq))⟩, q _ S2 H1 (e1.trans e2) g2 (walk_itl' (.inl (.inl hq)) rr)⟩⟩
      | frl hq => exact ⟨_, rfl, .inl ⟨⟨_, g2.sub.seq hq⟩, q _ S2 H1 (e1.trans e2) g2 (walk_itl' hq (RepL.ints _))⟩⟩
      | _ => exact False.elim q
theorem lp_len {X : Cx} {W : WX} {K : PySem.W.Frag} {S : Hp} {ρ : Slots} {σ : L2.St} : ∀ {as : ME} {es : List Expr} {ω : Own} {vs : List Val} {xs : List V}, LP X G W ω as es → ArgR K S ρ σ as vs xs → vs.length = es.length
  | as, [], ω, vs, xs, l, r => by
    cases as <;> first | exact False.elim l | skip
    cases vs <;> first | rfl | exact False.elim r
  | as, e :: es, ω, vs, xs, l, r => by
    cases as <;> first | exact False.elim l | skip
    cases vs <;> cases xs <;> first | exact False.elim r | skip
    exact congrArg (· + 1) (lp_len l.2 r.2)
theorem rgC_of {i j c : Int} (h : rng3Ok i j c = true) : RgC i j c (Builtin.Range.rangeSize i j c).toNat := by
  unfold rng3Ok at h
  simp only [Bool.and_eq_true, decide_eq_true_eq] at h
  obtain ⟨⟨⟨h1, h2⟩, h3⟩, h4⟩ := h
  exact ⟨h1, h2, h3, by omega⟩
theorem rngOk_of {i : Int} (h : rngOk i = true) : -(2 ^ 62) ≤ i ∧ i < 2 ^ 62 := by
  unfold rngOk at h
  have h : i.natAbs < 2 ^ 62 := by simpa using h
  omega
include hbl in
theorem snd_rng (as : ME) (ih : Snd G P w mg base n T as) : Snd G P w mg base n T (.rng as) := by
  refine ⟨fun {sc fnS W X} e ω ω' h ho c => ?_, fun es ω ω' h ho c => ?_, fun {sc fnS W X} e ω ω' h ho c => ?_, fun {sc fnS W X} tg e ω ω' h ho c => ?_⟩
  · rw [chkE] at h <;> first | cases h | nofun
  · rw [chkL] at h <;> first | cases h | nofun
  · rw [chkT] at h <;> first | cases h | nofun
  · rw [chkI] at h
    rw [ownI] at ho
    unfold onRng at h
    split at h
    · rename_i x p es pos
      simp only [Bool.and_eq_true, decide_eq_true_eq] at h
      obtain ⟨⟨⟨⟨⟨rfl, h2⟩, h3⟩, h4⟩, h5⟩, h6⟩ := h
      have l := ih.l es ω ω' h5 ho c
      have pa := l.pa h4
      have free : X.mg "range" = none := by rw [c.hmg]; exact hbl _ (by simpa using h2)
      have core : ∀ (σ : L2.St) (H : Hp) (R : It → Hp → Prop) (Q : List V → Hp → Prop), tI G W ω ω' (.rng as) σ H R →
          (∀ vs xs items S1 H1, vs.length = es.length → Same S1 H1 → RepRs G.K S1 H1 vs xs → rngV vs = some items → (∀ J, WalkS G.K J S1 items → R J H1) → Q xs H1) → nestT G W ω as σ H Q := fun σ H R Q q hQ => by
        obtain ⟨F, S, ρ, g, q⟩ := q
        rw [evalI] at q
        refine nest_ok as ω ω' ho σ H _ ⟨F, S, ρ, g, ?_⟩
        cases q1 : evalL G.Φ as ρ with
        | stuck => rw [q1] at q; exact q
        | err e ρ1 => rw [q1] at q; exact q
        | ok vs ρ1 =>
          rw [q1] at q
          simp only [Res.bind] at q
          intro xs S1 H1 e1 g1 ar
          cases q2 : rngV vs with
          | none => rw [q2] at q; exact q.elim
          | some items =>
            rw [q2] at q
            exact hQ vs xs items S1 H1 (lp_len l ar) g1.sub (ar.read g1) q2 fun J wk => q J S1 H1 e1 g1 wk
      cases es with
      | nil => cases h6
      | cons e1 es =>
        have hs1 : noStar e1 = true ∧ allStar es = true := by
          have h4 : (noStar e1 && allStar es) = true := h4
          rwa [Bool.and_eq_true] at h4
        cases es with
        | nil =>
          refine PI.imp (pi_range1 (c.gl h3) free pa (star_of hs1.1 _ _)) fun σ H R q => core σ H R _ q fun vs xs items S1 H1 hl e1 rr hv k => ?_
          match vs, hl, rr, hv with
          | [v], _, rr, hv =>
            obtain ⟨x, rfl, rx⟩ := rr.inv1
            unfold rngV at hv
            split at hv <;> first | (rename_i z; cases z; done) | skip
            · rename_i j z
              cases z
              split at hv
              · rename_i hj
                cases hv
                obtain ⟨b1, b2⟩ := rngOk_of hj
                refine ⟨j, by rw [rx.int], b1, b2, k _ ?_⟩
                have := walk_itr (K := G.K) (S := S1) (lo := 0) (hi := j)
                rwa [Int.sub_zero] at this
              · cases hv
            all_goals first | (rename_i z; cases z; done) | cases hv
        | cons e2 es =>
          have hs2 : noStar e2 = true ∧ allStar es = true := by
            have h4 : (noStar e2 && allStar es) = true := hs1.2
            rwa [Bool.and_eq_true] at h4
          cases es with
          | nil =>
            refine PI.imp (pi_range2 (c.gl h3) free pa (by rw [star_of hs1.1, star_of hs2.1]; rfl) (star_of hs2.1 _ _)) fun σ H R q => core σ H R _ q fun vs xs items S1 H1 hl e1 rr hv k => ?_
            match vs, hl, rr, hv with
            | [v, u], _, rr, hv =>
              obtain ⟨x, y, rfl, rx, ry⟩ := rr.inv2
              unfold rngV at hv
              split at hv <;> first | (rename_i z; cases z; done) | skip
              · rename_i i j z
                cases z
                split at hv
                · rename_i hj
                  cases hv
                  rw [Bool.and_eq_true] at hj
                  obtain ⟨b1, b2⟩ := rngOk_of hj.1
                  obtain ⟨b3, b4⟩ := rngOk_of hj.2
                  exact ⟨i, j, by rw [rx.int, ry.int], ⟨b1, b2, b3, b4⟩, k _ walk_itr⟩
                · cases hv
              all_goals first | (rename_i z; cases z; done) | cases hv
          | cons e3 es =>
            have hs3 : noStar e3 = true ∧ allStar es = true := by
              have h4 : (noStar e3 && allStar es) = true := hs2.2
              rwa [Bool.and_eq_true] at h4
            cases es with
            | nil =>
              refine PI.imp (pi_range3 (c.gl h3) free pa (star_of hs1.1 _ _) (any_of hs1.2)) fun σ H R q => core σ H R _ q fun vs xs items S1 H1 hl e1 rr hv k => ?_
              match vs, hl, rr, hv with
              | [v, u, t], _, rr, hv =>
                obtain ⟨x, y, z, rfl, rx, ry, rz⟩ := rr.inv3
                unfold rngV at hv
                split at hv <;> first | (rename_i z; cases z; done) | skip
                · rename_i i j c z
                  cases z
                  split at hv
                  · rename_i hj
                    cases hv
                    exact ⟨i, j, c, _, by rw [rx.int, ry.int, rz.int], rgC_of hj, k _ (walk_itc rfl)⟩
                  · cases hv
                all_goals first | (rename_i z; cases z; done) | cases hv
            | cons e4 es => cases h6
    · cases h
/-! ### comprehensions -/
theorem relS_names {X : Cx} {sc : List (Str × NameKind)} (hk : X.env.scope.kind = .function) (hs : X.env.scope.names = sc) (scope : Scope) : (relS scope X.env.scope).names = relN scope.names sc := by
  unfold relS relN
  rw [hk, hs]
  have e : (ScopeKind.function == ScopeKind.function) = true := rfl
  simp only [e, Bool.and_true]
/-- the context of a block -/
theorem CxC.blk {sc : List (Str × NameKind)} {fnS : Str → Bool} {W : WX} {X : Cx} (c : CxC G P w mg base n T.N sc fnS W X) {scope : Scope} (hk : scope.kind = .function) (s : Shared) (H : Hp) (C : Addr) (cl : List (Str × Addr)) (fp : List Addr) :
    CxC G P w mg base n T.N (relN scope.names sc) (fun x => scope.names.lookup x == some .cell) W0 (X.blk s H scope (compEnvC scope cl C X.env) fp) where
  hP := c.hP
  hw := c.hw
  hK := c.hK
  hmg := c.hmg
  hbase := c.hbase
  hN := c.hN
  hsc := relS_names c.kind c.hsc scope
  kind := hk
  calm := c.calm
  room := c.room
  nd := c.nd
  fnl := fun x h => h
  tk := takes0
theorem tgB_ok {sc : List (Str × NameKind)} {fnS : Str → Bool} {W : WX} {X : Cx} (c : CxC G P w mg base n T.N sc fnS W X) {i : Nat} {x : Str} {pos : Pos} (h : stoB T sc fnS i x = true) : PG X (.Name x pos) (gName i) := by
  unfold stoB at h
  rw [Bool.and_eq_true, decide_eq_true_eq] at h
  obtain ⟨h1, h2⟩ := h
  have hN : X.N[i]? = some x := by rw [c.hN]; exact h1
  split at h2
  · rename_i e
    exact pg_name (by rw [c.hN]; exact c.nd) hN (.inl (by rw [c.hsc]; exact e)) (.inr (by rw [c.hsc]; exact e))
  · rename_i e
    exact pg_name (by rw [c.hN]; exact c.nd) hN (.inr (by rw [c.hsc]; exact e)) (.inl (c.fnl x h2))
  · cases h2
theorem tgs_pgs {sc : List (Str × NameKind)} {fnS : Str → Bool} {W : WX} {X : Cx} (c : CxC G P w mg base n T.N sc fnS W X) : ∀ {is : List Nat} {es : List Expr}, chkGs T sc fnS is es = true → PGs X es (is.foldr (fun i t => gCons (gName i) t) gNil) ∧ (assignEach es X.env).length = is.length ∧ (assignEach es X.env).findIdx? (·.1) = none
  | [], es, h => by
    unfold chkGs at h
    split at h
    · exact ⟨pgs_nil, rfl, rfl⟩
    · rename_i z; cases z
    · cases h
  | i :: is, es, h => by
    unfold chkGs at h
    split at h
    · rename_i z; cases z
    · rename_i z
      cases z
      rw [Bool.and_eq_true] at h
      obtain ⟨k1, k2, k3⟩ := tgs_pgs c h.2
      refine ⟨pgs_cons (tgB_ok c h.1) k1, congrArg (· + 1) k2, ?_⟩
      show List.findIdx? (·.1) ((false, _) :: _) = none
      rw [List.findIdx?_cons, k3]
      rfl
    · cases h
theorem tg_pg {sc : List (Str × NameKind)} {fnS : Str → Bool} {W : WX} {X : Cx} (c : CxC G P w mg base n T.N sc fnS W X) {tg : List Nat} {tt : Bool} {e : Expr} (h : chkG T sc fnS tg tt e = true) : PG X e (gTg G.K tg tt) := by
  unfold chkG at h
  split at h
  · exact tgB_ok c h
  · obtain ⟨k1, k2, k3⟩ := tgs_pgs c h
    show PG X _ (gTup G.K _ _)
    rw [← c.hK]
    exact pg_tup c.calm k1 k2 k3
  · cases h
/-- the elements of a block: what compGo gives -/
theorem comp_te {W : WX} {vs tg : List Nat} {tt : Bool} {it kc ke : ME} {ω ω1 ωh ω3 ω4 : Own} (h0 : 0 ∉ vs) (htg : ∀ i ∈ tg, i ∈ vs) (hh : ∀ i, ownAt ωh i = true → ownAt (setF ω1 vs) i = true)
    (h3 : ∀ i, ownAt ωh i = true → ownAt ω3 i = true) (h4 : ∀ i, ownAt ωh i = true → ownAt ω4 i = true) (σ : L2.St) (H : Hp) (Q : VK) (q : tE G W ω ωh true (evalE G.Φ (.comp vs tg tt it kc ke)) σ H Q) :
    tLc (tI G W ω ω1 it) (gTg G.K tg tt) (tT G W0 (setF ωh tg) ω3 (evalT G.Φ kc)) (tE G W0 ω3 ω4 (freshE G.sg ke) (evalE G.Φ ke)) vs σ H Q := by
  obtain ⟨F, S, ρ, g, q⟩ := q
  rw [evalE] at q
  refine ⟨F, S, ρ, g, ?_⟩
  cases q1 : evalI G.Φ it ρ with
  | stuck => rw [q1] at q; exact q
  | err e ρ1 => rw [q1] at q; exact q
  | ok items ρ1 =>
    rw [q1] at q
    simp only [Res.bind] at q
    intro J S1 H1 e1 g1 wk D hD
    -- the block's own names stand still
    obtain ⟨S2, e2, g2, _⟩ := g1.le (ω' := ωh) fun i z => (setF_at _ _ _ (hh i z)).1
    have hv : ∀ i ∈ vs, ownAt ωh i = false := fun i hi => by
      cases z : ownAt ωh i with
      | false => rfl
      | true => exact absurd hi (setF_at _ _ _ (hh i z)).2
    have hr : ∀ S', Same S2 S' → ∀ i ∈ vs, ∀ v, ρ1[i]? = some (some v) → ∃ x, σ[i]? = some (some x) ∧ RepF G.K S' v x := fun S' e i hi v hv' => by
      obtain ⟨x, hx, r⟩ := g2.frz (hv i hi) hv'
      exact ⟨x, hx, r.mono e⟩
    obtain ⟨fS, fB⟩ := g2.free hD
    have gl : ρ1.length = σ.length := g2.len
    -- the invariant
    let Inv : Nat → Hp → Prop := fun i H' => i ≤ items.length ∧ ∃ (S' : Hp) (ρ' : Slots) (acc : List Val) (av : List V), Same S2 S' ∧ S' D = none ∧ ρ'.length = σ.length ∧
      Gd G.K ⟨F.S0, upd F.B D (.lst av), F.io⟩ S' H' ωh (wipeS ρ' vs) (wipe σ vs) ∧ RepL G.K S' acc av ∧
      compGo vs tg tt (evalT G.Φ kc) (evalE G.Φ ke) [] items ρ1 = compGo vs tg tt (evalT G.Φ kc) (evalE G.Φ ke) acc (items.drop i) ρ'
    refine ⟨fun i m H' => m = items.length - i ∧ Inv i H', ⟨items.length, by simp, Nat.zero_le _, S2, ρ1, [], [], Same.refl _, fS, gl, (g2.wipe h0).enter hD, .nil, by simp⟩, ?_⟩
    rintro i m H' ⟨rfl, hi, S', ρ', acc, av, e3, sD, hl, g3, ra, ec⟩
    by_cases hlt : i < items.length
    · refine .inr ⟨wk.go i H' ((e2.trans e3).trans g3.sub) hlt, Inv (i + 1), fun H'' z => ⟨items.length - (i + 1), by omega, rfl, z⟩, fun x H'' y => ?_⟩
      have hv' : items[i]? = some items[i] := List.getElem?_eq_getElem hlt
      obtain ⟨S4, e4, g4, r4⟩ := g3.turn (e2.trans e3) wk hv' y
      have ed : items.drop i = items[i] :: items.drop (i + 1) := (List.getElem_cons_drop hlt).symm
      rw [ed, compGo] at ec
      rw [ec] at q
      cases q2 : tgS tg tt items[i] (wipeS ρ' vs) with
      | none => rw [q2] at q; exact q.elim
      | some ρ2 =>
        rw [q2] at q ec
        dsimp only at q ec
        refine tg_ok (vs0 := vs) q2 r4 g4 ?_ fun σ1 g5 ew => ⟨(ew htg).trans (wipe_wipe σ vs), ?_⟩
        · exact .inr fun z => h0 (htg 0 z)
        have ew' : wipe σ1 vs = wipe σ vs := (ew htg).trans (wipe_wipe σ vs)
        have l1 : σ1.length = σ.length := by rw [← wipe_length σ1 vs, ew', wipe_length]
        have sDof : ∀ {S' H' : Hp} {ω' : Own} {ρ' : Slots}, Gd G.K ⟨F.S0, upd F.B D (.lst av), F.io⟩ S' H' ω' ρ' σ1 → S' D = none := fun {S' H' ω' ρ'} gg => by
          cases z : S' D with
          | none => rfl
          | some o =>
            rcases gg.nw D o z with y | y
            · have := g2.s0 D o y
              rw [fS] at this; cases this
            · have y : upd F.B D (.lst av) D = none := y
              rw [upd_same] at y; cases y
        refine ⟨_, S4, ρ2, g5, ?_⟩
        cases q3 : evalT G.Φ kc ρ2 with
        | stuck => rw [q3] at q; exact q.elim
        | err e ρ3 => rw [q3] at q; exact q.elim
        | ok b ρ3 =>
          rw [q3] at q ec
          intro S5 H5 e5 g6
          cases b with
          | false =>
            rw [if_neg Bool.false_ne_true]
            dsimp only at q ec
            obtain ⟨S6, e6, g7, _⟩ := g6.le (ω' := ωh) h3
            have g8 := g7.wipe h0
            rw [ew'] at g8
            exact ⟨hlt, S6, ρ3, acc, av, ((e3.trans e4).trans e5).trans e6, sDof g7, g7.len.trans l1, g8, ra.mono ((e4.trans e5).trans e6), ec⟩
          | true =>
            rw [if_pos rfl]
            dsimp only at q ec
            refine ⟨_, S5, ρ3, g6, ?_⟩
            cases q4 : evalE G.Φ ke ρ3 with
            | stuck => rw [q4] at q; exact q.elim
            | err e ρ4 => rw [q4] at q; exact q.elim
            | ok yv ρ4 =>
              rw [q4] at q ec
              dsimp only at q ec
              intro x6 S6 H6 e6 g7 r7 m7
              by_cases hz : acc.length < sizeLine
              · rw [if_pos hz] at q ec
                obtain ⟨S7, e7, g8, r8⟩ := g7.stillV r7 m7
                obtain ⟨S8, e8, g9, _⟩ := g8.le (ω' := ωh) h4
                have hDv : H6 D = some (.lst av) := g9.fr D _ upd_same
                refine ⟨av, hDv, by rw [← ra.length]; exact hz, hlt, S8, ρ4, acc ++ [yv], av ++ [x6], ((((e3.trans e4).trans e5).trans e6).trans e7).trans e8, sDof g9, g9.len.trans l1, ?_, ?_, ec⟩
                · have g10 := g9.wipe h0
                  rw [ew'] at g10
                  exact g10.swapD (sDof g9)
                · exact (ra.mono ((((e4.trans e5).trans e6).trans e7).trans e8)).append (.cons (r8.mono e8) .nil)
              · rw [if_neg hz] at q
                exact q.elim
    · have e : i = items.length := by omega
      subst e
      refine .inl ⟨wk.stop H' ((e2.trans e3).trans g3.sub), ?_⟩
      rw [ec, List.drop_length, compGo] at q
      dsimp only at q
      obtain ⟨g4, hDv, nD⟩ := g3.leave fB
      have g5 := g4.back (ρ0 := ρ1) h0 hl hv (hr S' e3)
      refine q (.ref D) S' H' ((e1.trans e2).trans e3) g5 ⟨D, av, rfl, hDv, ra⟩ fun a w => ?_
      have w : V.ref D = .ref a := w
      cases w
      refine ⟨sD, fB, fun ⟨j, v, x, h1, h2, ow⟩ => nD ⟨j, v, x, ?_, ?_, ow⟩⟩
      · have m : j ∉ vs := fun m => by rw [hv j m] at ow; exact Owns.false ow
        rw [backS_get, if_neg m] at h1
        rw [wipeS_get, if_neg m]
        exact h1
      · have m : j ∉ vs := fun m => by rw [hv j m] at ow; exact Owns.false ow
        rw [wipe_get, if_neg m]
        exact h2
theorem blkC_of {X : Cx} {sc : List (Str × NameKind)} (hs : X.env.scope.names = sc) {N : List Str} {scope : Scope} {own : List (Str × Nat)} (h : blkC N (scopeOf sc) scope own = true) : BlkOk N X.env.scope scope own := by
  have e : blkC N X.env.scope scope own = blkC N (scopeOf sc) scope own := by
    subst hs
    rfl
  exact blkOk_by (e.trans h)
theorem comp_parts {vs tg : List Nat} {tt : Bool} {it kc ke : ME} (ihi : Snd G P w mg base n T it) (ihc : Snd G P w mg base n T kc) (ihe : Snd G P w mg base n T ke) {sc : List (Str × NameKind)} {fnS : Str → Bool} {W : WX} {X : Cx} {e : Expr} {ω ω' : Own}
    (h : chkE T sc (.comp vs tg tt it kc ke) e = true) (ho : ownE G.sg (.comp vs tg tt it kc ke) ω = some ω') (c : CxC G P w mg base n T.N sc fnS W X) :
    ∃ elt t iter ifs scope pos, ∃ (wi : TI) (g : TG) (t2 : TT) (te : TE), e = .ListComp elt [⟨t, iter, ifs, 0⟩] scope pos ∧ PI X t iter wi ∧ BlkOk X.N X.env.scope scope (ownN T vs) ∧
      (∀ (s : Shared) (H : Hp) (C : Addr) (cl : List (Str × Addr)) (fp : List Addr), PG (X.blk s H scope (compEnvC scope cl C X.env) fp) t g) ∧
      (∀ (s : Shared) (H : Hp) (C : Addr) (cl : List (Str × Addr)) (fp : List Addr), PTs (X.blk s H scope (compEnvC scope cl C X.env) fp) ifs t2) ∧
      (∀ (s : Shared) (H : Hp) (C : Addr) (cl : List (Str × Addr)) (fp : List Addr), PE (X.blk s H scope (compEnvC scope cl C X.env) fp) elt te) ∧ (∀ x, foldedSetIterable iter X.env x = pure x) ∧
      ∀ σ H Q, tE G W ω ω' true (evalE G.Φ (.comp vs tg tt it kc ke)) σ H Q → tLc wi g t2 te ((ownN T vs).map (·.2)) σ H Q := by
  rw [chkE] at h
  rw [ownE] at ho
  cases o1 : ownI G.sg it ω with
  | none => rw [o1] at ho; cases ho
  | some ω1 =>
    rw [o1] at ho
    have ho : loopO (fun ω2 => (ownT G.sg kc (setF ω2 tg)).bind fun ω3 => (ownE G.sg ke ω3).map fun ω4 => meet ω3 ω4) 6 (setF ω1 vs) = some ω' := ho
    obtain ⟨hh, ωx, hx, hk⟩ := loopO_ok ho
    cases o2 : ownT G.sg kc (setF ω' tg) with
    | none => rw [o2] at hx; cases hx
    | some ω3 =>
      rw [o2] at hx
      have hx : (ownE G.sg ke ω3).map (fun ω4 => meet ω3 ω4) = some ωx := hx
      cases o3 : ownE G.sg ke ω3 with
      | none => rw [o3] at hx; cases hx
      | some ω4 =>
        rw [o3] at hx
        cases hx
        unfold onComp at h
        split at h
        · rename_i elt t iter ifs scope pos
          simp only [Bool.and_eq_true, decide_eq_true_eq, Bool.not_eq_true', List.all_eq_true] at h
          obtain ⟨⟨⟨⟨⟨⟨⟨⟨h1, h2⟩, h3⟩, h4⟩, h5⟩, h6⟩, h7⟩, h8⟩, h9⟩ := h
          have hkd : scope.kind = .function := by
            unfold blkC at h3
            simp only [Bool.and_eq_true] at h3
            have := h3.1.1.1
            split at this
            · assumption
            · cases this
          have h0 : 0 ∉ vs := fun z => by
            have : vs.contains 0 = true := by simpa using z
            rw [h5] at this; cases this
          have htg : ∀ i ∈ tg, i ∈ vs := fun i hi => by simpa using h6 i hi
          have hb : BlkOk X.N X.env.scope scope (ownN T vs) := by
            rw [c.hN]
            exact blkC_of c.hsc h3
          have hfold : ∀ x, foldedSetIterable iter X.env x = pure x := by
            intro x
            cases iter <;> first | rfl | cases h2
          refine ⟨elt, t, iter, ifs, scope, pos, tI G W ω ω1 it, gTg G.K tg tt, tT G W0 (setF ω' tg) ω3 (evalT G.Φ kc), tE G W0 ω3 ω4 (freshE G.sg ke) (evalE G.Φ ke), rfl, ihi.i t iter ω ω1 h1 o1 c, hb, fun s H C cl fp => tg_pg (c.blk hkd s H C cl fp) h7, fun s H C cl fp => ?_, fun s H C cl fp => ihe.e elt ω3 ω4 h9 o3 (c.blk hkd s H C cl fp), hfold, fun σ H Q q => ?_⟩
          · split at h8
            · refine ⟨fun pins s' σ H' Q I q => pts_nil.run pins s' σ H' Q I ?_⟩
              have hl : ∃ b, kc = .lit (.bl b) ∧ b = true := by
                unfold isTrueL at h8
                split at h8
                · exact ⟨true, rfl, rfl⟩
                · cases h8
              obtain ⟨b, rfl, rfl⟩ := hl
              rw [ownT] at o2
              cases o2
              obtain ⟨F, S, ρ, g, q⟩ := q
              exact q S H' (Same.refl _) g
            · exact pts_one (ihc.t _ _ ω3 h8 o2 (c.blk hkd s H C cl fp))
            · cases h8
          · rw [h4]
            exact comp_te h0 htg hh (fun i z => meet_l (hk i z)) (fun i z => meet_r (hk i z)) σ H Q q
        · cases h
theorem snd_comp (vs tg : List Nat) (tt : Bool) (it kc ke : ME) (ihi : Snd G P w mg base n T it) (ihc : Snd G P w mg base n T kc) (ihe : Snd G P w mg base n T ke) : Snd G P w mg base n T (.comp vs tg tt it kc ke) := by
  refine ⟨fun {sc fnS W X} e ω ω' h ho c => ?_, fun es ω ω' h ho c => ?_, fun {sc fnS W X} e ω ω' h ho c => ?_, fun tg e ω ω' h ho c => ?_⟩
  · obtain ⟨elt, t, iter, ifs, scope, pos, wi, g, t2, te, rfl, p1, p2, p3, p4, p5, p6, p7⟩ := comp_parts ihi ihc ihe h ho c
    exact PE.imp (pe_lc c.calm (by rw [c.hN]; exact c.nd) p1 p2 p3 p4 p5 p6) p7
  · rw [chkL] at h <;> first | cases h | nofun
  · rw [chkT] at h <;> first | cases h | nofun
  · rw [chkI] at h <;> first | cases h | nofun
theorem snd_no (m : ME) (h1 : ∀ sc e, chkE T sc m e = false) (h2 : ∀ sc e, chkL T sc m e = false) (h3 : ∀ sc e, chkT T sc m e = false) (h4 : ∀ sc e, chkI T sc m e = false) : Snd G P w mg base n T m :=
  ⟨fun e ω ω' h => absurd h (by rw [h1]; nofun), fun e ω ω' h => absurd h (by rw [h2]; nofun), fun e ω ω' h => absurd h (by rw [h3]; nofun), fun tg e ω ω' h => absurd h (by rw [h4]; nofun)⟩
include HF hbl in
/-- EVERY EXPRESSION -/
theorem snd_all : ∀ m : ME, Snd G P w mg base n T m
  | .var i => snd_var i
  | .lit v => snd_lit v
  | .app o as => snd_app hbl o as (snd_all as)
  | .call f as => snd_call HF f as (snd_all as)
  | .callio f i as => snd_callio HF f i as (snd_all as)
  | .mut m i as => snd_mut m i as (snd_all as)
  | .not_ a => snd_not a (snd_all a)
  | .and_ a b => snd_and a b (snd_all a) (snd_all b)
  | .or_ a b => snd_or a b (snd_all a) (snd_all b)
  | .ife c a b => snd_ife c a b (snd_all c) (snd_all a) (snd_all b)
  | .chain o1 o2 a b c => snd_chain o1 o2 a b c (snd_all a) (snd_all b) (snd_all c)
  | .comp vs tg tt it c e => snd_comp vs tg tt it c e (snd_all it) (snd_all c) (snd_all e)
  | .comp2 _ _ _ _ _ _ _ _ _ _ => snd_no _ (fun _ _ => by rw [chkE] <;> nofun) (fun _ _ => by rw [chkL] <;> nofun) (fun _ _ => by rw [chkT] <;> nofun) (fun _ _ => by rw [chkI] <;> nofun)
  | .nil => snd_nil
  | .cons a as => snd_cons a as (snd_all a) (snd_all as)
  | .seq a => snd_seq a (snd_all a)
  | .rng as => snd_rng hbl as (snd_all as)
  | .enum _ => snd_no _ (fun _ _ => by rw [chkE] <;> nofun) (fun _ _ => by rw [chkL] <;> nofun) (fun _ _ => by rw [chkT] <;> nofun) (fun _ _ => by rw [chkI] <;> nofun)
  | .zip _ _ => snd_no _ (fun _ _ => by rw [chkE] <;> nofun) (fun _ _ => by rw [chkL] <;> nofun) (fun _ _ => by rw [chkT] <;> nofun) (fun _ _ => by rw [chkI] <;> nofun)
end
end Pv
/-! Pv, part M: statements. -/
namespace Pv
open PySem PySem.Spec PyProof.Rows L2
def notComp : Expr → Bool
  | .ListComp _ _ _ _ => false
  | .SetComp _ _ _ _ => false
  | .DictComp _ _ _ _ _ => false
  | _ => true
def notTup : Expr → Bool
  | .Tuple _ _ _ => false
  | _ => true
section
variable (T : Stx)
def swapB (sc : List (Str × NameKind)) (y : Str) (py : Pos) (e : Expr) : Bool := match e with
  | .ListComp _ _ scope pos => decide (sc.lookup y = some .local) && (py.line == pos.line) && !(scope.names.any fun (n, k) => n == y && (k == .local || k == .cell))
  | _ => false
def onAsg (sc : List (Str × NameKind)) (i : Nat) (k : Expr → Bool) (cmp : Expr → Bool) : Stmt → Bool
  | .Assign [.Name x p] v _ => stoB T sc (fun _ => true) i x && ((notComp v && k v) || (swapB sc x p v && cmp v))
  | _ => false
def onAsgT (sc : List (Str × NameKind)) (is : List Nat) (k : Expr → Bool) : Stmt → Bool
  | .Assign [.Tuple ts a p] v _ => chkG T sc (fun _ => true) is true (.Tuple ts a p) && notTup v && notComp v && k v
  | _ => false
def onAug (sc : List (Str × NameKind)) (i : Nat) (o : Operator) (k : Expr → Bool) : Stmt → Bool
  | .AugAssign (.Name x p) o' v _ => stoB T sc (fun _ => true) i x && decide (o = o') && (match o with | .Add => true | .Sub => true | _ => false) && k v
  | _ => false
def onSetix (sc : List (Str × NameKind)) (i : Nat) (k kx : Expr → Bool) : Stmt → Bool
  | .Assign [.Subscript (.Name x p) ix _] v _ => visB T sc i x && notSlice ix && notComp v && k v && kx ix
  | _ => false
def onExp (k : Expr → Bool) : Stmt → Bool
  | .Expr v _ => notComp v && k v
  | _ => false
def onRet (k : Expr → Bool) : Stmt → Bool
  | .Return (some v) _ => k v
  | _ => false
def onRetN : Stmt → Bool
  | .Return none _ => true
  | _ => false
def onIfS (k : Expr → Bool) (a b : List Stmt → Bool) : Stmt → Bool
  | .If c x y _ => k c && a x && b y
  | _ => false
def onFor (sc : List (Str × NameKind)) (tg : List Nat) (tt : Bool) (k : Expr → Bool) (b : List Stmt → Bool) : Stmt → Bool
  | .For t it body [] _ => chkG T sc (fun _ => true) tg tt t && notSet it && k it && b body
  | _ => false
def onWhile (k : Expr → Bool) (b : List Stmt → Bool) : Stmt → Bool
  | .While c body [] _ => k c && b body
  | _ => false
def onPass : Stmt → Bool
  | .Pass _ => true
  | _ => false
def onBrk : Stmt → Bool
  | .Break _ => true
  | _ => false
def onCont : Stmt → Bool
  | .Continue _ => true
  | _ => false
def onNilS : List Stmt → Bool
  | [] => true
  | _ => false
def onConsS (k : Stmt → Bool) (ks : List Stmt → Bool) : List Stmt → Bool
  | s :: ss => k s && ks ss
  | [] => false
/-- for a comprehension that is stored at once -/
def cmpOf : ME → Bool
  | .comp _ _ _ _ _ _ => true
  | _ => false
mutual
def chkS : List (Str × NameKind) → MS → Stmt → Bool
  | sc, .asg i e, s => onAsg T sc i (chkE T sc e) (fun v => cmpOf e && chkE T sc e v) s
  | sc, .asgT is e, s => onAsgT T sc is (chkE T sc e) s
  | sc, .aug i o e, s => onAug T sc i o (chkE T sc e) s
  | sc, .setix i ix e, s => onSetix T sc i (chkE T sc e) (chkE T sc ix) s
  | sc, .exp e, s => onExp (chkE T sc e) s
  | sc, .ret e, s => onRet (chkE T sc e) s
  | _, .retN, s => onRetN s
  | sc, .ife c a b, s => onIfS (chkT T sc c) (chkB sc a) (chkB sc b) s
  | sc, .for_ tg tt it b, s => onFor T sc tg tt (chkI T sc it) (chkB sc b) s
  | sc, .while_ c b, s => onWhile (chkT T sc c) (chkB sc b) s
  | _, .pass, s => onPass s
  | _, .brk, s => onBrk s
  | _, .cont, s => onCont s
  | _, _, _ => false
def chkB : List (Str × NameKind) → MS → List Stmt → Bool
  | _, .nil, ss => onNilS ss
  | sc, .cons s r, ss => onConsS (chkS sc s) (chkB sc r) ss
  | _, _, _ => false
end
end
/-- what is wished behind a statement -/
def PostS (G : Gam) (W : WX) (io own : Bool) (F : Frm) (S : Hp) (O : OwnO) (D : Ends) : Out → Prop
  | .nx ρ => ∀ σ' S' H', Same S S' → Gd G.K F S' H' O.nx ρ σ' → D.nx σ' H'
  | .brk ρ => ∀ σ' S' H', Same S S' → Gd G.K F S' H' O.bk ρ σ' → D.bk σ' H'
  | .ct ρ => ∀ σ' S' H', Same S S' → Gd G.K F S' H' O.ct ρ σ' → D.ct σ' H'
  | .ret v ρ => ∀ x σ' S' H' ωr ρr, Same S S' → Gd G.K F S' H' ωr ρr σ' → RepO G.K own S' H' v x → Mine F S' H' ωr ρr σ' own v x → (io = true → ownAt ωr 0 = true ∧ ρr[0]? = ρ[0]?) → D.rt x H'
  | .err e ρ => ∀ cls d σ' S' H', Same S S' → Gd G.K F S' H' [] ρ σ' → G.xr e cls d S' → W cls d σ' H'
  | .stuck => False
def tS (G : Gam) (W : WX) (io own : Bool) (ω : Own) (O : OwnO) (g : Slots → Out) : TS := fun D σ H => ∃ F S ρ, (io = false → F.io = none) ∧ Gd G.K F S H ω ρ σ ∧ PostS G W io own F S O D (g ρ)
section
variable {G : Gam} {P : Program} {w : World} {mg : Str → Option Value} {base : Heap} {n : Nat} {T : Stx} {sc : List (Str × NameKind)} {io own : Bool} {W : WX} {X : Cx} {F : Frm} {S S' H H' : Hp} {O O' : OwnO} {D : Ends} {ω ω' : Own} {σ : L2.St}
theorem PostS.mono {r : Out} (h : PostS G W io own F S O D r) (e : Same S S') : PostS G W io own F S' O D r := by
  cases r with
  | nx ρ => exact fun σ' S2 H' e2 => h σ' S2 H' (e.trans e2)
  | brk ρ => exact fun σ' S2 H' e2 => h σ' S2 H' (e.trans e2)
  | ct ρ => exact fun σ' S2 H' e2 => h σ' S2 H' (e.trans e2)
  | ret v ρ => exact fun x σ' S2 H' ωr ρr e2 => h x σ' S2 H' ωr ρr (e.trans e2)
  | err x ρ => exact fun cls d σ' S2 H' e2 => h cls d σ' S2 H' (e.trans e2)
  | stuck => exact h
def OLe (a b : OwnO) : Prop := (∀ i, ownAt a.nx i = true → ownAt b.nx i = true) ∧ (∀ i, ownAt a.bk i = true → ownAt b.bk i = true) ∧ (∀ i, ownAt a.ct i = true → ownAt b.ct i = true)
theorem PostS.le {r : Out} (h : PostS G W io own F S O D r) (e : OLe O O') : PostS G W io own F S O' D r := by
  cases r with
  | nx ρ => exact fun σ' S2 H' e2 g => let ⟨S3, e3, g3, _⟩ := g.le e.1; h σ' S3 H' (e2.trans e3) g3
  | brk ρ => exact fun σ' S2 H' e2 g => let ⟨S3, e3, g3, _⟩ := g.le e.2.1; h σ' S3 H' (e2.trans e3) g3
  | ct ρ => exact fun σ' S2 H' e2 g => let ⟨S3, e3, g3, _⟩ := g.le e.2.2; h σ' S3 H' (e2.trans e3) g3
  | ret v ρ => exact h
  | err x ρ => exact h
  | stuck => exact h
/-- an expression, then what its value is used for -/
theorem tE_out {f : Slots → Res Val} {k : Val → Slots → Out} {ω1 : Own} {o : Bool} {R : VK} {H : Hp} (h : tS G W io own ω O (fun ρ => (f ρ).out k) D σ H)
    (hk : ∀ v ρ1 x F S1 H1, (io = false → F.io = none) → Gd G.K F S1 H1 ω1 ρ1 σ → RepO G.K o S1 H1 v x → Mine F S1 H1 ω1 ρ1 σ o v x → PostS G W io own F S1 O D (k v ρ1) → R x H1) : tE G W ω ω1 o f σ H R := by
  obtain ⟨F, S, ρ, hio, g, h⟩ := h
  refine ⟨F, S, ρ, g, ?_⟩
  have h : PostS G W io own F S O D ((f ρ).out k) := h
  cases q : f ρ with
  | stuck => rw [q] at h; exact h
  | err e ρ1 => rw [q] at h; exact fun cls d S' H' => h cls d σ S' H'
  | ok v ρ1 =>
    rw [q] at h
    exact fun x S1 H1 e1 g1 r m => hk v ρ1 x F S1 H1 hio g1 r m (PostS.mono (r := k v ρ1) h e1)
theorem tT_out {f : Slots → Res Bool} {k : Bool → Slots → Out} {ω1 : Own} {R : Bool → Hp → Prop} {H : Hp} (h : tS G W io own ω O (fun ρ => (f ρ).out k) D σ H)
    (hk : ∀ v ρ1 F S1 H1, (io = false → F.io = none) → Gd G.K F S1 H1 ω1 ρ1 σ → PostS G W io own F S1 O D (k v ρ1) → R v H1) : tT G W ω ω1 f σ H R := by
  obtain ⟨F, S, ρ, hio, g, h⟩ := h
  refine ⟨F, S, ρ, g, ?_⟩
  have h : PostS G W io own F S O D ((f ρ).out k) := h
  cases q : f ρ with
  | stuck => rw [q] at h; exact h
  | err e ρ1 => rw [q] at h; exact fun cls d S' H' => h cls d σ S' H'
  | ok v ρ1 =>
    rw [q] at h
    exact fun S1 H1 e1 g1 => hk v ρ1 F S1 H1 hio g1 (PostS.mono (r := k v ρ1) h e1)
structure SndS (G : Gam) (P : Program) (w : World) (mg : Str → Option Value) (base : Heap) (n : Nat) (T : Stx) (nl : Nat) (m : MS) : Prop where
  s : ∀ {sc W X} (io own : Bool) (s : Stmt) (ω : Own) (O : OwnO), chkS T sc m s = true → ownS G.sg nl io own m ω = some O → CxC G P w mg base n T.N sc (fun _ => true) W X → PassesOwn (model X.prog X.w) X.A X.env X.xe → PS X s (tS G W io own ω O (exec G.Φ m))
  b : ∀ {sc W X} (io own : Bool) (ss : List Stmt) (ω : Own) (O : OwnO), chkB T sc m ss = true → ownS G.sg nl io own m ω = some O → CxC G P w mg base n T.N sc (fun _ => true) W X → PassesOwn (model X.prog X.w) X.A X.env X.xe → PSs X ss (tS G W io own ω O (exec G.Φ m))
variable {nl : Nat}
theorem snds_nil : SndS G P w mg base n T nl .nil := by
  refine ⟨fun io own s ω O h ho c po => ?_, fun {sc W X} io own ss ω O h ho c po => ?_⟩
  · rw [chkS] at h <;> first | cases h | nofun
  · rw [chkB] at h
    rw [ownS] at ho
    cases ho
    unfold onNilS at h
    split at h
    · refine PSs.imp pss_nil fun σ H D q => ?_
      obtain ⟨F, S, ρ, _, g, q⟩ := q
      rw [exec] at q
      exact q σ S H (Same.refl _) g
    · cases h
theorem snds_cons (s r : MS) (ihs : SndS G P w mg base n T nl s) (ihr : SndS G P w mg base n T nl r) : SndS G P w mg base n T nl (.cons s r) := by
  refine ⟨fun io own s ω O h ho c po => ?_, fun {sc W X} io own ss ω O h ho c po => ?_⟩
  · rw [chkS] at h <;> first | cases h | nofun
  · rw [chkB] at h
    rw [ownS] at ho
    cases q1 : ownS G.sg nl io own s ω with
    | none => rw [q1] at ho; cases ho
    | some o1 =>
      rw [q1] at ho
      have ho : (ownS G.sg nl io own r o1.nx).map (fun o2 => (⟨o2.nx, meet o1.bk o2.bk, meet o1.ct o2.ct⟩ : OwnO)) = some O := ho
      cases q2 : ownS G.sg nl io own r o1.nx with
      | none => rw [q2] at ho; cases ho
      | some o2 =>
        rw [q2] at ho
        cases ho
        unfold onConsS at h
        split at h
        · rename_i st sts
          rw [Bool.and_eq_true] at h
          refine PSs.imp (pss_cons (ihs.s io own st ω o1 h.1 q1 c po) (ihr.b io own sts o1.nx o2 h.2 q2 c po)) fun σ H D q => ?_
          obtain ⟨F, S, ρ, hio, g, q⟩ := q
          rw [exec] at q
          refine ⟨F, S, ρ, hio, g, ?_⟩
          cases q3 : exec G.Φ s ρ with
          | nx ρ1 =>
            rw [q3] at q
            intro σ' S' H' e1 g1
            refine ⟨F, S', ρ1, hio, g1, ?_⟩
            exact PostS.le (PostS.mono q e1) ⟨fun i z => z, fun i => meet_r, fun i => meet_r⟩
          | brk ρ1 =>
            rw [q3] at q
            intro σ' S' H' e1 g1
            obtain ⟨S3, e3, g3, _⟩ := g1.le (ω' := meet o1.bk o2.bk) fun i => meet_l
            exact q σ' S3 H' (e1.trans e3) g3
          | ct ρ1 =>
            rw [q3] at q
            intro σ' S' H' e1 g1
            obtain ⟨S3, e3, g3, _⟩ := g1.le (ω' := meet o1.ct o2.ct) fun i => meet_l
            exact q σ' S3 H' (e1.trans e3) g3
          | ret v ρ1 => rw [q3] at q; exact q
          | err e ρ1 => rw [q3] at q; exact q
          | stuck => rw [q3] at q; exact q
        · cases h
variable (HF : ∀ f ∈ T.fs, FnFact G P w mg base n T.nm f) (hbl : ∀ x ∈ T.bl, mg x = none)
theorem snds_no (m : MS) (h1 : ∀ {sc s}, chkB T sc m s = false) (hs : ∀ {sc W X} (io own : Bool) (s : Stmt) (ω : Own) (O : OwnO), chkS T sc m s = true → ownS G.sg nl io own m ω = some O → CxC G P w mg base n T.N sc (fun _ => true) W X →
    PassesOwn (model X.prog X.w) X.A X.env X.xe → PS X s (tS G W io own ω O (exec G.Φ m))) : SndS G P w mg base n T nl m :=
  ⟨hs, fun io own ss ω O h => absurd h (by rw [h1]; nofun)⟩
theorem sw_no {e : Expr} (h : notComp e = true) (t : Option Expr) (l : Nat) (env : Env) : swapsWith e t l env = pure false := by
  cases e <;> first | rfl | cases h
theorem sto_of (c : CxC G P w mg base n T.N sc (fun _ => true) W X) {i : Nat} {x : Str} (h : stoB T sc (fun _ => true) i x = true) : X.N[i]? = some x ∧ L2.Loc X.env.scope x ∧ (X.fn x = true ∨ X.env.scope.names.lookup x = some .local) := by
  unfold stoB at h
  rw [Bool.and_eq_true, decide_eq_true_eq] at h
  obtain ⟨h1, h2⟩ := h
  refine ⟨by rw [c.hN]; exact h1, ?_, .inl (c.fnl x rfl)⟩
  unfold L2.Loc
  rw [c.hsc]
  split at h2
  · exact .inl (by assumption)
  · exact .inr (by assumption)
  · cases h2
theorem asg_fin {i : Nat} {v : Val} {x : V} {ω1 : Own} {ρ1 : Slots} {o : Bool} (hi : io = false ∨ i ≠ 0) (hio : io = false → F.io = none) (g : Gd G.K F S H ω1 ρ1 σ) (r : RepO G.K o S H v x) (m : Mine F S H ω1 ρ1 σ o v x)
    (hl : i < ω1.length) (k : PostS G W io own F S ⟨ω1.set i o, List.replicate nl true, List.replicate nl true⟩ D (.nx (ρ1.set i (some v)))) : D.nx (σ.set i (some x)) H := by
  refine k _ S H (Same.refl _) (g.set r m (hi.imp hio id) ?_ fun j n => ?_)
  · rw [ownAt_set]
    rw [if_pos ⟨rfl, hl⟩]
  · rw [ownAt_set, if_neg fun z => n z.1.symm]
theorem io_ne {i : Nat} (h : ¬ (io && i == 0) = true) : io = false ∨ i ≠ 0 := by
  cases io with
  | false => exact .inl rfl
  | true => exact .inr fun e => h (by rw [e]; rfl)
include HF hbl in
theorem snds_asg (i : Nat) (e : ME) : SndS G P w mg base n T nl (.asg i e) := by
  refine snds_no _ (fun {sc s} => by rw [chkB] <;> nofun) fun {sc W X} io own s ω O h ho c po => ?_
  rw [chkS] at h
  rw [ownS] at ho
  split at ho
  · cases ho
  · rename_i hi
    have hi := io_ne hi
    cases q1 : ownE G.sg e ω with
    | none => rw [q1] at ho; cases ho
    | some ω1 =>
      rw [q1] at ho
      have ho : (if i < ω1.length then some (⟨ω1.set i (freshE G.sg e), List.replicate nl true, List.replicate nl true⟩ : OwnO) else none) = some O := ho
      split at ho
      · rename_i hl
        cases ho
        unfold onAsg at h
        split at h
        · rename_i x p v pos
          rw [Bool.and_eq_true, Bool.or_eq_true] at h
          obtain ⟨h1, h2⟩ := h
          obtain ⟨k1, k2, k3⟩ := sto_of c h1
          have fin : ∀ (σ : L2.St) (H : Hp) (D : Ends), tS G W io own ω ⟨ω1.set i (freshE G.sg e), List.replicate nl true, List.replicate nl true⟩ (exec G.Φ (.asg i e)) D σ H →
              tE G W ω ω1 (freshE G.sg e) (evalE G.Φ e) σ H fun x H1 => D.nx (σ.set i (some x)) H1 := fun σ H D q => by
            have q : tS G W io own ω ⟨ω1.set i (freshE G.sg e), List.replicate nl true, List.replicate nl true⟩ (fun ρ => (evalE G.Φ e ρ).out fun v ρ1 => .nx (ρ1.set i (some v))) D σ H := by
              obtain ⟨F, S, ρ, hio, g, q⟩ := q
              rw [exec] at q
              exact ⟨F, S, ρ, hio, g, q⟩
            exact tE_out q fun v ρ1 x F S1 H1 hio g1 r m k => asg_fin hi hio g1 r m hl k
          rcases h2 with h2 | h2
          · rw [Bool.and_eq_true] at h2
            exact PS.imp (ps_set (by rw [c.hN]; exact c.nd) k1 k2 ((snd_all HF hbl e).e v ω ω1 h2.2 q1 c) (sw_no h2.1 _ _ _) k3) fin
          · simp only [Bool.and_eq_true] at h2
            obtain ⟨h4, h5, h6⟩ := h2
            unfold cmpOf at h5
            split at h5
            · rename_i vs tg tt it kc ke
              obtain ⟨elt, t, iter, ifs, scope, pos2, wi, g, t2, te, rfl, p1, p2, p3, p4, p5, p6, p7⟩ := comp_parts (snd_all HF hbl it) (snd_all HF hbl kc) (snd_all HF hbl ke) h6 q1 c
              unfold swapB at h4
              simp only [Bool.and_eq_true, decide_eq_true_eq, Bool.not_eq_true'] at h4
              have hy : X.env.scope.names.lookup x = some .local := by rw [c.hsc]; exact h4.1.1
              refine PS.imp (ps_setLc (i := i) c.calm (by rw [c.hN]; exact c.nd) k1 hy (sw_true c.kind hy h4.1.2 h4.2) p1 p2 p3 p4 p5 p6) fun σ H D q => ?_
              exact p7 σ H _ (fin σ H D q)
            · cases h5
        · cases h
      · cases ho
include HF hbl in
theorem snds_asgT (is : List Nat) (e : ME) : SndS G P w mg base n T nl (.asgT is e) := by
  refine snds_no _ (fun {sc s} => by rw [chkB] <;> nofun) fun {sc W X} io own s ω O h ho c po => ?_
  rw [chkS] at h
  rw [ownS] at ho
  split at ho
  · cases ho
  · rename_i hi
    cases q1 : ownE G.sg e ω with
    | none => rw [q1] at ho; cases ho
    | some ω1 =>
      rw [q1] at ho
      cases ho
      unfold onAsgT at h
      split at h
      · rename_i ts a p v pos
        simp only [Bool.and_eq_true] at h
        obtain ⟨⟨⟨h1, h2⟩, h3⟩, h4⟩ := h
        have sw : swapsWithSole [Expr.Tuple ts a p] v pos.line X.env = pure false := by
          cases v <;> first | rfl | cases h3
        have ss : swappedStores [Expr.Tuple ts a p] v X.env = pure none := by
          cases v <;> first | rfl | cases h2
        refine PS.imp (ps_asg ((snd_all HF hbl e).e v ω ω1 h4 q1 c) (tg_pg c h1) sw ss) fun σ H D q => ?_
        have q : tS G W io own ω ⟨setF ω1 is, List.replicate nl true, List.replicate nl true⟩ (fun ρ => (evalE G.Φ e ρ).out fun v ρ1 => match v with
            | .tup vs => match bindS is vs ρ1 with | some ρ2 => .nx ρ2 | none => .stuck
            | _ => .stuck) D σ H := by
          obtain ⟨F, S, ρ, hio, g, q⟩ := q
          rw [exec] at q
          exact ⟨F, S, ρ, hio, g, q⟩
        refine tE_out q fun v ρ1 x F S1 H1 hio g1 r m k => ?_
        cases v <;> first | exact False.elim k | skip
        rename_i vs
        dsimp only at k
        cases q2 : bindS is vs ρ1 with
        | none => rw [q2] at k; exact False.elim k
        | some ρ2 =>
          rw [q2] at k
          have rF := r.plain ⟨fun _ => nofun, fun _ _ _ => nofun⟩
          refine tg_ok (vs0 := []) (show tgS is true (.tup vs) ρ1 = some ρ2 from q2) rF g1 ?_ fun σ1 g2 _ => k σ1 S1 H1 (Same.refl _) g2
          cases io with
          | false => exact .inl (hio rfl)
          | true => exact .inr fun z => hi (by simpa using z)
      · cases h
include HF hbl in
theorem snds_aug (i : Nat) (o : Operator) (e : ME) : SndS G P w mg base n T nl (.aug i o e) := by
  refine snds_no _ (fun {sc s} => by rw [chkB] <;> nofun) fun {sc W X} io own s ω O h ho c po => ?_
  rw [chkS] at h
  rw [ownS] at ho
  split at ho
  · cases ho
  · rename_i hi
    have hi := io_ne hi
    cases q1 : ownE G.sg e ω with
    | none => rw [q1] at ho; cases ho
    | some ω1 =>
      rw [q1] at ho
      cases ho
      unfold onAug at h
      split at h
      · rename_i x p o' v pos
        simp only [Bool.and_eq_true, decide_eq_true_eq] at h
        obtain ⟨⟨⟨h1, rfl⟩, h3⟩, h4⟩ := h
        obtain ⟨k1, k2, k3⟩ := sto_of c h1
        have hop : ∃ f : Int → Int → Int, PIp X o (ipI f) ∧ ∀ a b, binV o (.int a) (.int b) = some (.int (f a b)) ∧ ∀ v z, binV o (.int a) v = some z → ∃ b, v = .int b := by
          cases o <;> first | cases h3 | skip
          · refine ⟨fun i j => i + j, ip_add, fun a b => ⟨rfl, fun v z hz => ?_⟩⟩
            cases v <;> first | exact ⟨_, rfl⟩ | cases hz
          · refine ⟨fun i j => i - j, ip_sub, fun a b => ⟨rfl, fun v z hz => ?_⟩⟩
            cases v <;> first | exact ⟨_, rfl⟩ | cases hz
        obtain ⟨f, hp, hf⟩ := hop
        refine PS.imp (ps_aug (by rw [c.hN]; exact c.nd) k1 k2 ((snd_all HF hbl e).e v ω ω1 h4 q1 c) hp k3) fun σ H D q => ?_
        obtain ⟨F, S, ρ, hio, g, q⟩ := q
        rw [exec] at q
        cases q2 : getS ρ i with
        | none => rw [q2] at q; exact False.elim q
        | some u =>
          rw [q2] at q
          cases u <;> first | exact False.elim q | skip
          rename_i a
          obtain ⟨xi, hx, rx⟩ := g.rep i _ (getS_eq q2)
          cases rx.isInt
          refine ⟨_, hx, ?_⟩
          have q : tS G W io own ω ⟨ω1.set i false, List.replicate nl true, List.replicate nl true⟩ (fun ρ => (evalE G.Φ e ρ).out fun v ρ1 => match binV o (.int a) v with | some z => .nx (ρ1.set i (some z)) | none => .stuck) D σ H := ⟨F, S, ρ, hio, g, q⟩
          refine tE_out q fun v ρ1 x F S1 H1 hio g1 r m k => ?_
          cases q3 : binV o (.int a) v with
          | none => rw [q3] at k; exact False.elim k
          | some z =>
            rw [q3] at k
            obtain ⟨b, rfl⟩ := (hf a 0).2 v z q3
            rw [(hf a b).1] at q3
            cases q3
            refine ⟨a, b, rfl, r.isInt, ?_⟩
            refine k _ S1 H1 (Same.refl _) (g1.set (o := false) (RepO.false.mpr (.int _)) (fun a w => (Owns.false w).elim) (hi.imp hio id) (ownAt_setF' _ _) fun j n => ?_)
            rw [ownAt_set, if_neg fun z => n z.1.symm]
      · cases h
theorem frz2 {a b : ME} {i : Nat} {K : PySem.W.Frag} {ρ : Slots} {vs : List Val} {xs : List V} (r : ArgR K S ρ σ (.cons a (.cons (.var i) (.cons b .nil))) vs xs) : ∃ v u k x y z, vs = [v, u, k] ∧ xs = [x, y, z] ∧ ρ[i]? = some (some u) ∧ σ[i]? = some (some y) ∧ ArgR K S ρ σ (.cons a (.cons b .nil)) [v, k] [x, z] := by
  match vs, xs, r with
  | [v, u, k], [x, y, z], r =>
    obtain ⟨r1, r2, r3, r4⟩ := r
    exact ⟨v, u, k, x, y, z, rfl, rfl, r2.1, r2.2, r1, r3, trivial⟩
  | [], _, r => exact False.elim r
  | [_], xs, r =>
    cases xs with
    | nil => exact False.elim r
    | cons x xs => cases xs <;> exact False.elim r.2
  | [_, _], xs, r =>
    cases xs with
    | nil => exact False.elim r
    | cons x xs =>
      cases xs with
      | nil => exact False.elim r.2
      | cons y ys => cases ys <;> exact False.elim r.2.2
  | [_, _, _], [], r => exact False.elim r
  | [_, _, _], [_], r => exact False.elim r.2
  | [_, _, _], [_, _], r => exact False.elim r.2.2
  | [_, _, _], _ :: _ :: _ :: _ :: _, r => exact False.elim r.2.2.2
  | _ :: _ :: _ :: _ :: _, xs, r =>
    cases xs with
    | nil => exact False.elim r
    | cons x xs =>
      cases xs with
      | nil => exact False.elim r.2
      | cons y ys =>
        cases ys with
        | nil => exact False.elim r.2.2
        | cons z zs => cases zs <;> exact False.elim r.2.2.2
include HF hbl in
theorem snds_setix (i : Nat) (ix e : ME) : SndS G P w mg base n T nl (.setix i ix e) := by
  refine snds_no _ (fun {sc s} => by rw [chkB] <;> nofun) fun {sc W X} io own s ω O h ho c po => ?_
  rw [chkS] at h
  rw [ownS] at ho
  cases q1 : ownL G.sg (.cons e (.cons (.var i) (.cons ix .nil))) ω with
  | none => rw [q1] at ho; cases ho
  | some ω1 =>
    rw [q1] at ho
    have ho : (if ownAt (frzA (.cons e (.cons ix .nil)) ω1) i then some (⟨frzA (.cons e (.cons ix .nil)) ω1, List.replicate nl true, List.replicate nl true⟩ : OwnO) else none) = some O := ho
    split at ho
    · rename_i hi
      cases ho
      unfold onSetix at h
      split at h
      · rename_i x p ixe p2 v pos
        simp only [Bool.and_eq_true] at h
        obtain ⟨⟨⟨⟨h1, h2⟩, h3⟩, h4⟩, h5⟩ := h
        have l : LP X G W ω (.cons e (.cons (.var i) (.cons ix .nil))) [v, .Name x p, ixe] := by
          refine (snd_all HF hbl _).l [v, .Name x p, ixe] ω ω1 ?_ q1 c
          rw [chkL, onCons, chkL, onCons, chkL, onCons, chkL, onNil, chkE]
          simp only [Bool.and_true, Bool.and_eq_true]
          exact ⟨h4, h1, h5⟩
        obtain ⟨l1, l2, l3, _⟩ := l
        rw [tArg_var rfl] at l2
        have sw : swapsWithSole [Expr.Subscript (.Name x p) ixe p2] v pos.line X.env = pure false := by
          cases v <;> first | rfl | cases h3
        have ss : swappedStores [Expr.Subscript (.Name x p) ixe p2] v X.env = pure none := by
          cases v <;> rfl
        refine PS.imp (ps_asg l1 (pg_sub l2 l3 set_list (fun v => by cases ixe <;> first | rfl | cases h2)) sw ss) fun σ H D q => ?_
        obtain ⟨F, S, ρ, hio, g, q⟩ := q
        rw [exec] at q
        have nn := nest_ok (G := G) (W := W) (.cons e (.cons (.var i) (.cons ix .nil))) ω ω1 q1 σ H (fun xs H1 => match xs with | [x, y, z] => rSetL y z x H1 (fun H3 => D.nx σ H3) | _ => False) ⟨F, S, ρ, g, ?_⟩
        · exact nn
        · cases q2 : evalL G.Φ (.cons e (.cons (.var i) (.cons ix .nil))) ρ with
          | stuck => rw [q2] at q; exact q
          | err e ρ1 => rw [q2] at q; exact fun cls d S' H' => q cls d σ S' H'
          | ok vs ρ1 =>
            rw [q2] at q
            intro xs S1 H1 e1 g1 ar
            obtain ⟨v, u, k, x, y, z, rfl, rfl, r1, r2, r3⟩ := frz2 ar
            obtain ⟨S2, e2, g2, r4⟩ := r3.freeze g1
            cases u <;> first | exact False.elim q | skip
            cases k <;> first | exact False.elim q | skip
            rename_i us k
            have q : PostS G W io own F S _ D (match ixN us.length k with | some j => .nx (ρ1.set i (some (.lst (us.set j v)))) | none => .stuck) := q
            cases q3 : ixN us.length k with
            | none => rw [q3] at q; exact False.elim q
            | some j =>
              rw [q3] at q
              obtain ⟨y', hy, ry⟩ := g2.rep i _ r1
              rw [r2] at hy
              cases hy
              rw [hi] at ry
              obtain ⟨pp, ws, rfl, hp, rl⟩ := ry
              cases r4 with
              | cons rv rr =>
                cases rr with
                | cons rk rr =>
                  cases rr
                  cases rk
                  exact ⟨pp, ws, k, j, rfl, rfl, hp, by rw [← rl.length]; exact q3, q σ S2 _ (e1.trans e2) (g2.write hi r1 r2 (rl.set rv j))⟩
      · cases h
    · cases ho
end
end Pv
/-! Pv, part N: the other statements. -/
namespace Pv
open PySem PySem.Spec PyProof.Rows L2
section
variable {G : Gam} {P : Program} {w : World} {mg : Str → Option Value} {base : Heap} {n : Nat} {T : Stx} {sc : List (Str × NameKind)} {io own : Bool} {W : WX} {X : Cx} {F : Frm} {S S' H H' : Hp} {O O' : OwnO} {D : Ends} {ω ω' : Own} {σ : L2.St} {nl : Nat}
variable (HF : ∀ f ∈ T.fs, FnFact G P w mg base n T.nm f) (hbl : ∀ x ∈ T.bl, mg x = none)
include HF hbl in
theorem snds_exp (e : ME) : SndS G P w mg base n T nl (.exp e) := by
  refine snds_no _ (fun {sc s} => by rw [chkB] <;> nofun) fun {sc W X} io own s ω O h ho c po => ?_
  rw [chkS] at h
  rw [ownS] at ho
  cases q1 : ownE G.sg e ω with
  | none => rw [q1] at ho; cases ho
  | some ω1 =>
    rw [q1] at ho
    cases ho
    unfold onExp at h
    split at h
    · rename_i v pos
      rw [Bool.and_eq_true] at h
      refine PS.imp (ps_expr ((snd_all HF hbl e).e v ω ω1 h.2 q1 c) (sw_no h.1 _ _ _)) fun σ H D q => ?_
      have q : tS G W io own ω ⟨ω1, List.replicate nl true, List.replicate nl true⟩ (fun ρ => (evalE G.Φ e ρ).out fun _ ρ1 => .nx ρ1) D σ H := by
        obtain ⟨F, S, ρ, hio, g, q⟩ := q
        rw [exec] at q
        exact ⟨F, S, ρ, hio, g, q⟩
      exact tE_out q fun v ρ1 x F S1 H1 hio g1 r m k => k σ S1 H1 (Same.refl _) g1
    · cases h
/-- the returned name's slot is given up -/
theorem Gd.give {K : PySem.W.Frag} {ρ : Slots} (g : Gd K F S H ω ρ σ) {i : Nat} {v : Val} {x : V} (ho : ownAt ω i = true) (h1 : ρ[i]? = some (some v)) (h2 : σ[i]? = some (some x)) :
    Gd K F S H ω (ρ.set i none) σ ∧ RepO K true S H v x ∧ Mine F S H ω (ρ.set i none) σ true v x := by
  have ne : ∀ {j : Nat} {u : Val}, (ρ.set i none)[j]? = some (some u) → j ≠ i ∧ ρ[j]? = some (some u) := fun {j u} q => by
    rw [List.getElem?_set] at q
    split at q
    · split at q <;> cases q
    · rename_i n
      exact ⟨fun e => n e.symm, q⟩
  refine ⟨⟨g.sub, g.s0, g.fr, g.nw, by rw [List.length_set]; exact g.len, fun j u q => g.rep j u (ne q).2, fun j u y q => g.own j u y (ne q).2, fun j k u w y z a q1 q2 q3 q4 => g.dis j k u w y z a (ne q1).2 q2 (ne q3).2 q4, g.io⟩, ?_, ?_⟩
  · obtain ⟨y, k1, r⟩ := g.rep i v h1
    rw [h2] at k1
    cases k1
    rw [ho] at r
    exact r
  · intro a o
    have o' : Owns (ownAt ω i) H v x a := by rw [ho]; exact o
    obtain ⟨k1, k2⟩ := g.own i v x h1 h2 a o'
    refine ⟨k1, k2, fun ⟨j, u, y, q1, q2, o2⟩ => ?_⟩
    exact (ne q1).1 (g.dis j i u v y x a (ne q1).2 q2 h1 h2 o2 o')
include HF hbl in
theorem snds_ret (e : ME) : SndS G P w mg base n T nl (.ret e) := by
  refine snds_no _ (fun {sc s} => by rw [chkB] <;> nofun) fun {sc W X} io own s ω O h ho c po => ?_
  rw [chkS] at h
  unfold onRet at h
  split at h
  · rename_i v pos
    rw [ownS] at ho
    cases qv : isVar e with
    | some i =>
      have ee : e = .var i := by
        unfold isVar at qv
        split at qv
        · cases qv; rfl
        · cases qv
      subst ee
      rw [qv] at ho
      dsimp only at ho
      split at ho
      · rename_i hc
        cases ho
        simp only [Bool.and_eq_true, Bool.or_eq_true, Bool.not_eq_true', bne_iff_ne, ne_eq] at hc
        rw [chkE] at h
        refine PS.imp (ps_ret (vis_pe c h)) fun σ H D q => ?_
        obtain ⟨F, S, ρ, hio, g, q⟩ := q
        rw [exec, evalE] at q
        cases q1 : getS ρ i with
        | none => rw [q1] at q; exact False.elim q
        | some u =>
          rw [q1] at q
          have h1 := getS_eq q1
          obtain ⟨x, h2, r⟩ := g.rep i u h1
          refine ⟨x, h2, ?_⟩
          have q : ∀ x σ' S' H' ωr ρr, Same S S' → Gd G.K F S' H' ωr ρr σ' → RepO G.K own S' H' u x → Mine F S' H' ωr ρr σ' own u x → (io = true → ownAt ωr 0 = true ∧ ρr[0]? = ρ[0]?) → D.rt x H' := q
          cases own with
          | true =>
            have o1 : ownAt ω i = true := hc.1.resolve_left nofun
            obtain ⟨g1, r1, m1⟩ := g.give o1 h1 h2
            refine q x σ S H ω _ (Same.refl _) g1 r1 m1 fun z => ?_
            obtain ⟨z1, z2⟩ := hc.2.resolve_left (by rw [z]; nofun)
            exact ⟨z1, List.getElem?_set_ne z2⟩
          | false =>
            obtain ⟨S', e', g'⟩ := g.freeze i
            obtain ⟨y, k1, r'⟩ := g'.rep i u h1
            rw [h2] at k1
            cases k1
            rw [ownAt_setF'] at r'
            refine q x σ S' H _ ρ e' g' r' (fun a o => (Owns.false o).elim) fun z => ?_
            obtain ⟨z1, z2⟩ := hc.2.resolve_left (by rw [z]; nofun)
            refine ⟨?_, rfl⟩
            rw [ownAt_set, if_neg fun y => z2 y.1]
            exact z1
      · cases ho
    | none =>
      rw [qv] at ho
      dsimp only at ho
      cases q1 : ownE G.sg e ω with
      | none => rw [q1] at ho; cases ho
      | some ω1 =>
        rw [q1] at ho
        have ho : (if ((!own || freshE G.sg e) && (!io || ownAt ω1 0)) = true then some (⟨List.replicate nl true, List.replicate nl true, List.replicate nl true⟩ : OwnO) else none) = some O := ho
        split at ho
        · rename_i hc
          cases ho
          simp only [Bool.and_eq_true, Bool.or_eq_true, Bool.not_eq_true'] at hc
          refine PS.imp (ps_ret ((snd_all HF hbl e).e v ω ω1 h q1 c)) fun σ H D q => ?_
          have q : tS G W io own ω ⟨List.replicate nl true, List.replicate nl true, List.replicate nl true⟩ (fun ρ => (evalE G.Φ e ρ).out fun v ρ1 => .ret v ρ1) D σ H := by
            obtain ⟨F, S, ρ, hio, g, q⟩ := q
            rw [exec] at q
            exact ⟨F, S, ρ, hio, g, q⟩
          refine tE_out q fun v ρ1 x F S1 H1 hio g1 r m k => ?_
          obtain ⟨S2, e2, g2, r2, m2⟩ := g1.lower (ω' := ω1) (o' := own) r m (fun z => hc.1.resolve_left (by rw [z]; nofun)) fun i z => z
          exact k x σ S2 H1 ω1 ρ1 e2 g2 r2 m2 fun z => ⟨hc.2.resolve_left (by rw [z]; nofun), rfl⟩
        · cases ho
  · cases h
theorem snds_retN : SndS G P w mg base n T nl .retN := by
  refine snds_no _ (fun {sc s} => by rw [chkB] <;> nofun) fun {sc W X} io own s ω O h ho c po => ?_
  rw [chkS] at h
  rw [ownS] at ho
  unfold onRetN at h
  split at h
  · split at ho
    · rename_i hc
      cases ho
      simp only [Bool.or_eq_true, Bool.not_eq_true'] at hc
      refine PS.imp ps_retN fun σ H D q => ?_
      obtain ⟨F, S, ρ, hio, g, q⟩ := q
      rw [exec] at q
      have q : ∀ x σ' S' H' ωr ρr, Same S S' → Gd G.K F S' H' ωr ρr σ' → RepO G.K own S' H' .non x → Mine F S' H' ωr ρr σ' own .non x → (io = true → ownAt ωr 0 = true ∧ ρr[0]? = ρ[0]?) → D.rt x H' := q
      exact q .non σ S H ω ρ (Same.refl _) g (RepO.of .non (.inr ⟨fun _ => nofun, fun _ _ _ => nofun⟩)) (fun a o => by cases own <;> exact False.elim o) fun z => ⟨hc.resolve_left (by rw [z]; nofun), rfl⟩
    · cases ho
  · cases h
include HF hbl in
theorem snds_ife (k : ME) (a b : MS) (iha : SndS G P w mg base n T nl a) (ihb : SndS G P w mg base n T nl b) : SndS G P w mg base n T nl (.ife k a b) := by
  refine snds_no _ (fun {sc s} => by rw [chkB] <;> nofun) fun {sc W X} io own s ω O h ho c po => ?_
  rw [chkS] at h
  unfold onIfS at h
  split at h
  · rename_i ce xs ys pos
    simp only [Bool.and_eq_true] at h
    obtain ⟨⟨h1, h2⟩, h3⟩ := h
    rw [ownS] at ho
    cases q1 : ownT G.sg k ω with
    | none => rw [q1] at ho; cases ho
    | some ω1 =>
      rw [q1] at ho
      have ho : (ownS G.sg nl io own a ω1).bind (fun o => (ownS G.sg nl io own b ω1).map fun o2 => o.meet o2) = some O := ho
      cases q2 : ownS G.sg nl io own a ω1 with
      | none => rw [q2] at ho; cases ho
      | some o =>
        rw [q2] at ho
        have ho : (ownS G.sg nl io own b ω1).map (fun o2 => o.meet o2) = some O := ho
        cases q3 : ownS G.sg nl io own b ω1 with
        | none => rw [q3] at ho; cases ho
        | some o2 =>
          rw [q3] at ho
          cases ho
          refine PS.imp (ps_if ((snd_all HF hbl k).t ce ω ω1 h1 q1 c) (iha.b io own xs ω1 o h2 q2 c po) (ihb.b io own ys ω1 o2 h3 q3 c po)) fun σ H D q => ?_
          have q : tS G W io own ω (o.meet o2) (fun ρ => (evalT G.Φ k ρ).out fun z ρ1 => if z then exec G.Φ a ρ1 else exec G.Φ b ρ1) D σ H := by
            obtain ⟨F, S, ρ, hio, g, q⟩ := q
            rw [exec] at q
            exact ⟨F, S, ρ, hio, g, q⟩
          refine tT_out q fun z ρ1 F S1 H1 hio g1 kk => ?_
          cases z with
          | true =>
            rw [if_pos rfl] at kk ⊢
            exact ⟨F, S1, ρ1, hio, g1, kk.le ⟨fun i => meet_l, fun i => meet_l, fun i => meet_l⟩⟩
          | false =>
            rw [if_neg nofun] at kk ⊢
            exact ⟨F, S1, ρ1, hio, g1, kk.le ⟨fun i => meet_r, fun i => meet_r, fun i => meet_r⟩⟩
  · cases h
theorem snds_pass : SndS G P w mg base n T nl .pass := by
  refine snds_no _ (fun {sc s} => by rw [chkB] <;> nofun) fun {sc W X} io own s ω O h ho c po => ?_
  rw [chkS] at h
  rw [ownS] at ho
  cases ho
  unfold onPass at h
  split at h
  · refine PS.imp ps_pass fun σ H D q => ?_
    obtain ⟨F, S, ρ, hio, g, q⟩ := q
    rw [exec] at q
    exact q σ S H (Same.refl _) g
  · cases h
theorem snds_brk : SndS G P w mg base n T nl .brk := by
  refine snds_no _ (fun {sc s} => by rw [chkB] <;> nofun) fun {sc W X} io own s ω O h ho c po => ?_
  rw [chkS] at h
  rw [ownS] at ho
  cases ho
  unfold onBrk at h
  split at h
  · refine PS.imp ps_break fun σ H D q => ?_
    obtain ⟨F, S, ρ, hio, g, q⟩ := q
    rw [exec] at q
    exact q σ S H (Same.refl _) g
  · cases h
theorem snds_cont : SndS G P w mg base n T nl .cont := by
  refine snds_no _ (fun {sc s} => by rw [chkB] <;> nofun) fun {sc W X} io own s ω O h ho c po => ?_
  rw [chkS] at h
  rw [ownS] at ho
  cases ho
  unfold onCont at h
  split at h
  · refine PS.imp ps_continue fun σ H D q => ?_
    obtain ⟨F, S, ρ, hio, g, q⟩ := q
    rw [exec] at q
    exact q σ S H (Same.refl _) g
  · cases h
include HF hbl in
theorem snds_for (tg : List Nat) (tt : Bool) (it : ME) (b : MS) (ihb : SndS G P w mg base n T nl b) : SndS G P w mg base n T nl (.for_ tg tt it b) := by
  refine snds_no _ (fun {sc s} => by rw [chkB] <;> nofun) fun {sc W X} io own s ω O h ho c po => ?_
  rw [chkS] at h
  unfold onFor at h
  split at h
  · rename_i t iter body pos
    simp only [Bool.and_eq_true] at h
    obtain ⟨⟨⟨h1, h2⟩, h3⟩, h4⟩ := h
    rw [ownS] at ho
    split at ho
    · cases ho
    · rename_i hi
      cases q1 : ownI G.sg it ω with
      | none => rw [q1] at ho; cases ho
      | some ω1 =>
        rw [q1] at ho
        have ho : (loopO (fun ω2 => (ownS G.sg nl io own b (setF ω2 tg)).map fun o => meet o.nx o.ct) 6 ω1).bind (fun ωh => (ownS G.sg nl io own b (setF ωh tg)).map fun o => (⟨meet ωh o.bk, List.replicate nl true, List.replicate nl true⟩ : OwnO)) = some O := ho
        cases q2 : loopO (fun ω2 => (ownS G.sg nl io own b (setF ω2 tg)).map fun o => meet o.nx o.ct) 6 ω1 with
        | none => rw [q2] at ho; cases ho
        | some ωh =>
          rw [q2] at ho
          have ho : (ownS G.sg nl io own b (setF ωh tg)).map (fun o => (⟨meet ωh o.bk, List.replicate nl true, List.replicate nl true⟩ : OwnO)) = some O := ho
          obtain ⟨hh, ωx, hx, hk⟩ := loopO_ok q2
          cases q3 : ownS G.sg nl io own b (setF ωh tg) with
          | none => rw [q3] at ho; cases ho
          | some o =>
            rw [q3] at ho hx
            cases ho
            cases hx
            have hfold : ∀ x, foldedSetIterable iter X.env x = pure x := by
              intro x
              cases iter <;> first | rfl | cases h2
            refine PS.imp (ps_for po c.calm ((snd_all HF hbl it).i t iter ω ω1 h3 q1 c) (tg_pg c h1) (ihb.b io own body (setF ωh tg) o h4 q3 c po) hfold) fun σ H D q => ?_
            obtain ⟨F, S, ρ, hio, g, q⟩ := q
            rw [exec] at q
            refine ⟨F, S, ρ, g, ?_⟩
            cases q4 : evalI G.Φ it ρ with
            | stuck => rw [q4] at q; exact q
            | err e ρ1 => rw [q4] at q; exact fun cls d S' H' => q cls d σ S' H'
            | ok items ρ1 =>
              rw [q4] at q
              intro J S1 H1 e1 g1 wk
              have q : PostS G W io own F S ⟨meet ωh o.bk, List.replicate nl true, List.replicate nl true⟩ D (forGo tg tt (exec G.Φ b) items ρ1) := q
              obtain ⟨S2, e2, g2, _⟩ := g1.le (ω' := ωh) hh
              let Inv : Nat → L2.St → Hp → Prop := fun k σ' H' => k ≤ items.length ∧ ∃ (S' : Hp) (ρ' : Slots), Same S1 S' ∧ Gd G.K F S' H' ωh ρ' σ' ∧
                PostS G W io own F S' ⟨meet ωh o.bk, List.replicate nl true, List.replicate nl true⟩ D (forGo tg tt (exec G.Φ b) (items.drop k) ρ')
              refine ⟨fun k m σ' H' => m = items.length - k ∧ Inv k σ' H', ⟨items.length, by simp, Nat.zero_le _, S2, ρ1, e2, g2, q.mono (e1.trans e2)⟩, ?_⟩
              rintro k m σ' H' ⟨rfl, hk2, S', ρ', e3, g3, q⟩
              by_cases hlt : k < items.length
              · refine .inr ⟨wk.go k H' (e3.trans g3.sub) hlt, Inv (k + 1), fun σ2 H2 z => ⟨items.length - (k + 1), by omega, rfl, z⟩, fun x H2 y => ?_⟩
                have hv' : items[k]? = some items[k] := List.getElem?_eq_getElem hlt
                obtain ⟨S4, e4, g4, r4⟩ := g3.turn e3 wk hv' y
                have ed : items.drop k = items[k] :: items.drop (k + 1) := (List.getElem_cons_drop hlt).symm
                rw [ed, forGo] at q
                cases q5 : tgS tg tt items[k] ρ' with
                | none => rw [q5] at q; exact False.elim q
                | some ρ2 =>
                  rw [q5] at q
                  dsimp only at q
                  refine tg_ok (vs0 := []) q5 r4 g4 ?_ fun σ1 g5 _ => ⟨F, S4, ρ2, hio, g5, ?_⟩
                  · cases io with
                    | false => exact .inl (hio rfl)
                    | true => exact .inr fun z => hi (by simpa using z)
                  cases q6 : exec G.Φ b ρ2 with
                  | nx ρ3 =>
                    rw [q6] at q
                    intro σ3 S5 H5 e5 g6
                    obtain ⟨S6, e6, g7, _⟩ := g6.le (ω' := ωh) fun i z => meet_l (hk i z)
                    exact ⟨hlt, S6, ρ3, ((e3.trans e4).trans e5).trans e6, g7, PostS.mono q ((e4.trans e5).trans e6)⟩
                  | ct ρ3 =>
                    rw [q6] at q
                    intro σ3 S5 H5 e5 g6
                    obtain ⟨S6, e6, g7, _⟩ := g6.le (ω' := ωh) fun i z => meet_r (hk i z)
                    exact ⟨hlt, S6, ρ3, ((e3.trans e4).trans e5).trans e6, g7, PostS.mono q ((e4.trans e5).trans e6)⟩
                  | brk ρ3 =>
                    rw [q6] at q
                    intro σ3 S5 H5 e5 g6
                    obtain ⟨S6, e6, g7, _⟩ := g6.le (ω' := meet ωh o.bk) fun i => meet_r
                    exact q σ3 S6 H5 ((e4.trans e5).trans e6) g7
                  | ret v ρ3 =>
                    rw [q6] at q
                    exact PostS.mono (W := W) (r := .ret v ρ3) (O := ⟨meet ωh o.bk, List.replicate nl true, List.replicate nl true⟩) q e4
                  | err x ρ3 =>
                    rw [q6] at q
                    exact PostS.mono (W := W) (r := .err x ρ3) (O := ⟨meet ωh o.bk, List.replicate nl true, List.replicate nl true⟩) q e4
                  | stuck => rw [q6] at q; exact q
              · have he : k = items.length := Nat.le_antisymm hk2 (Nat.le_of_not_lt hlt)
                subst he
                rw [List.drop_length, forGo] at q
                obtain ⟨S6, e6, g7, _⟩ := g3.le (ω' := meet ωh o.bk) fun i => meet_l
                exact .inl ⟨wk.stop H' (e3.trans g3.sub), q σ' S6 H' e6 g7⟩
  · cases h
include HF hbl in
theorem snds_while (k : ME) (b : MS) (ihb : SndS G P w mg base n T nl b) : SndS G P w mg base n T nl (.while_ k b) := by
  refine snds_no _ (fun {sc s} => by rw [chkB] <;> nofun) fun {sc W X} io own s ω O h ho c po => ?_
  rw [chkS] at h
  unfold onWhile at h
  split at h
  · rename_i ce body pos
    simp only [Bool.and_eq_true] at h
    obtain ⟨h1, h2⟩ := h
    rw [ownS] at ho
    cases q2 : loopO (fun ω2 => (ownT G.sg k ω2).bind fun ω3 => (ownS G.sg nl io own b ω3).map fun o => meet o.nx o.ct) 6 ω with
    | none => rw [q2] at ho; cases ho
    | some ωh =>
      rw [q2] at ho
      have ho : (ownT G.sg k ωh).bind (fun ω3 => (ownS G.sg nl io own b ω3).map fun o => (⟨meet ω3 o.bk, List.replicate nl true, List.replicate nl true⟩ : OwnO)) = some O := ho
      obtain ⟨hh, ωx, hx, hk⟩ := loopO_ok q2
      cases q1 : ownT G.sg k ωh with
      | none => rw [q1] at ho; cases ho
      | some ω3 =>
        rw [q1] at ho hx
        have ho : (ownS G.sg nl io own b ω3).map (fun o => (⟨meet ω3 o.bk, List.replicate nl true, List.replicate nl true⟩ : OwnO)) = some O := ho
        have hx : (ownS G.sg nl io own b ω3).map (fun o => meet o.nx o.ct) = some ωx := hx
        cases q3 : ownS G.sg nl io own b ω3 with
        | none => rw [q3] at ho; cases ho
        | some o =>
          rw [q3] at ho hx
          cases ho
          cases hx
          refine PS.imp (ps_while po ((snd_all HF hbl k).t ce ωh ω3 h1 q1 c) (ihb.b io own body ω3 o h2 q3 c po)) fun σ H D q => ?_
          obtain ⟨F, S, ρ, hio, g, q⟩ := q
          rw [exec, whileS] at q
          split at q
          · rename_i hex
            obtain ⟨S2, e2, g2, _⟩ := g.le (ω' := ωh) hh
            refine ⟨fun m σ' H' => tS G W io own ωh ⟨meet ω3 o.bk, List.replicate nl true, List.replicate nl true⟩ (whileGo (evalT G.Φ k) (exec G.Φ b) m) D σ' H', ⟨_, F, S2, ρ, hio, g2, q.mono e2⟩, ?_⟩
            intro m σ' H' q
            cases m with
            | zero =>
              obtain ⟨F, S', ρ', _, _, q⟩ := q
              exact False.elim q
            | succ m =>
              have q : tS G W io own ωh ⟨meet ω3 o.bk, List.replicate nl true, List.replicate nl true⟩ (fun ρ => (evalT G.Φ k ρ).out fun kb ρ1 => if kb then match exec G.Φ b ρ1 with
                  | .nx ρ2 => whileGo (evalT G.Φ k) (exec G.Φ b) m ρ2
                  | .ct ρ2 => whileGo (evalT G.Φ k) (exec G.Φ b) m ρ2
                  | .brk ρ2 => .nx ρ2
                  | o => o
                else .nx ρ1) D σ' H' := q
              refine tT_out q fun z ρ1 F1 S1 H1 hio1 g1 q => ?_
              cases z with
              | false =>
                rw [if_neg nofun] at q ⊢
                obtain ⟨S6, e6, g7, _⟩ := g1.le (ω' := meet ω3 o.bk) fun i => meet_l
                exact q σ' S6 H1 e6 g7
              | true =>
                rw [if_pos rfl] at q ⊢
                refine ⟨fun σ2 H2 => tS G W io own ωh ⟨meet ω3 o.bk, List.replicate nl true, List.replicate nl true⟩ (whileGo (evalT G.Φ k) (exec G.Φ b) m) D σ2 H2, fun σ2 H2 z => ⟨m, Nat.lt_succ_self m, z⟩, F1, S1, ρ1, hio1, g1, ?_⟩
                cases q6 : exec G.Φ b ρ1 with
                | nx ρ3 =>
                  rw [q6] at q
                  intro σ3 S5 H5 e5 g6
                  obtain ⟨S6, e6, g7, _⟩ := g6.le (ω' := ωh) fun i z => meet_l (hk i z)
                  exact ⟨F1, S6, ρ3, hio1, g7, PostS.mono q (e5.trans e6)⟩
                | ct ρ3 =>
                  rw [q6] at q
                  intro σ3 S5 H5 e5 g6
                  obtain ⟨S6, e6, g7, _⟩ := g6.le (ω' := ωh) fun i z => meet_r (hk i z)
                  exact ⟨F1, S6, ρ3, hio1, g7, PostS.mono q (e5.trans e6)⟩
                | brk ρ3 =>
                  rw [q6] at q
                  intro σ3 S5 H5 e5 g6
                  obtain ⟨S6, e6, g7, _⟩ := g6.le (ω' := meet ω3 o.bk) fun i => meet_r
                  exact q σ3 S6 H5 (e5.trans e6) g7
                | ret v ρ3 => rw [q6] at q; exact q
                | err x ρ3 => rw [q6] at q; exact q
                | stuck => rw [q6] at q; exact q
          · exact False.elim q
  · cases h
include HF hbl in
/-- EVERY STATEMENT -/
theorem snds_all : ∀ m : MS, SndS G P w mg base n T nl m
  | .nil => snds_nil
  | .cons s r => snds_cons s r (snds_all s) (snds_all r)
  | .asg i e => snds_asg HF hbl i e
  | .asgT is e => snds_asgT HF hbl is e
  | .aug i o e => snds_aug HF hbl i o e
  | .setix i ix e => snds_setix HF hbl i ix e
  | .exp e => snds_exp HF hbl e
  | .ret e => snds_ret HF hbl e
  | .retN => snds_retN
  | .ife c a b => snds_ife HF hbl c a b (snds_all a) (snds_all b)
  | .for_ tg tt it b => snds_for HF hbl tg tt it b (snds_all b)
  | .while_ c b => snds_while HF hbl c b (snds_all b)
  | .pass => snds_pass
  | .brk => snds_brk
  | .cont => snds_cont
end
end Pv
/-! Pv, part O: a def by its body. -/
namespace Pv
open PySem PySem.Spec PyProof.Rows L2
theorem startO_at (d : FDef) {i : Nat} (h : i < d.np) : ownAt (startO d) i = (decide (i = 0) && d.io) := by
  unfold startO
  have hne : (d.np == 0) = false := by
    cases q : d.np == 0 with
    | false => rfl
    | true =>
      have : d.np = 0 := by simpa using q
      omega
  rw [ownAt_set]
  split
  · rename_i h2
    obtain ⟨rfl, h3⟩ := h2
    rw [hne]
    simp
  · rename_i h2
    unfold ownAt
    rw [List.getD_eq_getElem?_getD, List.getElem?_append_left (by simpa using h)]
    have : (List.replicate d.np false)[i]? = some false := by simp [h]
    rw [this]
    have : i ≠ 0 := fun z => h2 ⟨z.symm, by subst z; simp; omega⟩
    simp [this]
theorem slots_at {vs : List Val} {k i : Nat} {v : Val} (h : (vs.map some ++ List.replicate k none)[i]? = some (some v)) : i < vs.length ∧ vs[i]? = some v := by
  by_cases q : i < vs.length
  · rw [List.getElem?_append_left (by simpa using q), List.getElem?_map] at h
    refine ⟨q, ?_⟩
    cases z : vs[i]? with
    | none => rw [z] at h; cases h
    | some u => rw [z] at h; cases h; rfl
  · rw [List.getElem?_append_right (by simp; omega)] at h
    rw [List.getElem?_replicate] at h
    split at h <;> cases h
theorem start_at {vs : List V} {k i : Nat} {v : V} (h : vs[i]? = some v) : (vs.map some ++ List.replicate k none)[i]? = some (some v) := by
  have q : i < vs.length := by
    by_cases q : i < vs.length
    · exact q
    · rw [List.getElem?_eq_none (by omega)] at h; cases h
  rw [List.getElem?_append_left (by simpa using q), List.getElem?_map, h]
  rfl
theorem RepL.at {K : PySem.W.Frag} {S : Hp} : ∀ {vs : List Val} {xs : List V} (_ : RepL K S vs xs) {i : Nat} {v : Val}, vs[i]? = some v → ∃ x, xs[i]? = some x ∧ RepF K S v x
  | _, _, .nil, i, v, h => by simp at h
  | _, _, .cons r rs, 0, v, h => by
    cases h
    exact ⟨_, rfl, r⟩
  | _, _, .cons r rs, i + 1, v, h => rs.at h
theorem IoIn.len {K : PySem.W.Frag} {io : Bool} {S H : Hp} {args : List Val} {vs : List V} (i : IoIn K io S H args vs) : args.length = vs.length := by
  unfold IoIn at i
  split at i
  · exact congrArg (· + 1) i.2.2.length
  · exact i.elim
  · exact i.length
/-- where the def begins -/
theorem gd_start {K : PySem.W.Frag} {d : FDef} {S H : Hp} {args : List Val} {vs : List V} {k : Nat} (e : Same S H) (i : IoIn K d.io S H args vs) (hl : args.length = d.np) :
    Gd K ⟨S, (fun a => open Classical in if IoA d.io H args vs a then none else H a), if d.io then vs.head? else none⟩ S H (startO d) (args.map some ++ List.replicate k none) (vs.map some ++ List.replicate k none) := by
  have il := i.len
  have hown : ∀ {j v x a}, (args.map some ++ List.replicate k none)[j]? = some (some v) → (vs.map some ++ List.replicate k none)[j]? = some (some x) → Owns (ownAt (startO d) j) H v x a → j = 0 ∧ IoA d.io H args vs a ∧ S a = none := fun {j v x a} q1 q2 o => by
    obtain ⟨j1, j2⟩ := slots_at q1
    rw [startO_at d (by omega)] at o
    by_cases z : (decide (j = 0) && d.io) = true
    · rw [z] at o
      simp only [Bool.and_eq_true, decide_eq_true_eq] at z
      obtain ⟨rfl, z⟩ := z
      rw [z] at i ⊢
      match args, vs, i, j2, q2 with
      | u :: us, y :: ys, i, j2, q2 =>
        cases j2
        cases q2
        exact ⟨rfl, o, i.2.1 a o⟩
    · have z : (decide (j = 0) && d.io) = false := by simpa using z
      rw [z] at o
      exact (Owns.false o).elim
  refine ⟨e, Same.refl _, fun a o q => ?_, fun a o q => .inl q, by simp [il], fun j v q => ?_, fun j v x q1 q2 a o => ?_, fun j l v w x y a q1 q2 q3 q4 o1 o2 => ?_, fun x q => ?_⟩
  · have q : (open Classical in if IoA d.io H args vs a then none else H a) = some o := q
    split at q
    · cases q
    · exact q
  · obtain ⟨j1, j2⟩ := slots_at q
    rw [startO_at d (by omega)]
    by_cases z : (decide (j = 0) && d.io) = true
    · rw [z]
      simp only [Bool.and_eq_true, decide_eq_true_eq] at z
      obtain ⟨rfl, z⟩ := z
      rw [z] at i
      match args, vs, i, j2 with
      | u :: us, y :: ys, i, j2 =>
        cases j2
        exact ⟨y, rfl, i.1⟩
    · have z : (decide (j = 0) && d.io) = false := by simpa using z
      rw [z]
      cases hi : d.io with
      | false =>
        rw [hi] at i
        have i : RepL K S args vs := i
        obtain ⟨x, h1, h2⟩ := i.at j2
        exact ⟨x, start_at h1, RepO.false.mpr h2⟩
      | true =>
        rw [hi] at i z
        have hj : j ≠ 0 := fun y => by rw [y] at z; cases z
        match args, vs, i, j2 with
        | u :: us, y :: ys, i, j2 =>
          obtain ⟨j, rfl⟩ := Nat.exists_eq_succ_of_ne_zero hj
          obtain ⟨x, h1, h2⟩ := i.2.2.at (i := j) j2
          exact ⟨x, start_at (vs := y :: ys) h1, RepO.false.mpr h2⟩
  · obtain ⟨rfl, h2, h3⟩ := hown q1 q2 o
    exact ⟨h3, if_pos h2⟩
  · rw [(hown q1 q2 o1).1, (hown q3 q4 o2).1]
  · have q : (if d.io then vs.head? else none) = some x := q
    split at q
    · cases vs with
      | nil => cases q
      | cons y ys => cases q; rfl
    · cases q
section
variable {G : Gam} {P : Program} {w : World} {mg : Str → Option Value} {base : Heap} {n : Nat} {T : Stx} {W : WX} {X : Cx}
theorem runF_len {d : FDef} {Φ : Nat → List Val → FRes} {args : List Val} (h : args.length ≠ d.np) : runF d Φ args = .stuck := by
  unfold runF
  rw [if_neg h]
theorem nB {io : Bool} {H : Hp} {args : List Val} {vs : List V} {a : Addr} (h : (open Classical in if IoA io H args vs a then none else H a) = none) : H a = none ∨ IoA io H args vs a := by
  split at h
  · rename_i z; exact .inr z
  · exact .inl h
theorem nonNo : (∀ xs, Val.non ≠ .lst xs) ∧ ∀ cs a n, Val.non ≠ .pool cs a n := ⟨fun _ => nofun, fun _ _ _ => nofun⟩
/-- A DEF BY ITS BODY -/
theorem body_ok {x qual : Str} {st : Stmt} {f : Addr} {fd : FuncData} {ps : List Str} {d : FDef} (FU : L2.Fun G.K x qual st f fd) (SC : FnScope T.N ps (defScope st)) (hN : T.N.length = d.nl) (hps : ps.length = d.np)
    (hch : chkB T (defScope st).names d.body (defBody st) = true) (how : ownF G.sg d = true) (HF : ∀ f ∈ T.fs, FnFact G P w mg base n T.nm f) (hbl : ∀ x ∈ T.bl, mg x = none) :
    FnOk P w G.K mg base (L2.CX P w) (n + 1) f fd ps (spOf G ⟨d.io, d.own, d.flat⟩ (runF d G.Φ)) := by
  refine FU.okX SC (fun vs H Q E q => (spOf.len (k := d.np) (fun args z => runF_len z) vs H Q E q).trans hps.symm) fun cdv A outer s H vs Q E hr hsp => ?_
  unfold ownF at how
  cases q1 : ownS G.sg d.nl d.io d.own d.body (startO d) with
  | none => rw [q1] at how; cases how
  | some O =>
    rw [q1] at how
    have how : (!d.io || ownAt O.nx 0) = true := how
    have c : CxC G P w mg base n T.N (defScope st).names (fun _ => true) (fun cls dd _ H => E cls dd H) (cxOf (L2.CX P w) P w G.K mg base T.N qual (defScope st) f cdv A outer s H E) :=
      ⟨rfl, rfl, rfl, rfl, rfl, rfl, rfl, SC.kind, rfl, hr, SC.nd, fun _ _ => rfl, takes_of rfl rfl rfl rfl⟩
    refine ⟨_, (snds_all HF hbl d.body).b d.io d.own (defBody st) (startO d) O hch q1 c (passes_of rfl), ?_⟩
    obtain ⟨args, S, e, i, hq⟩ := hsp
    have hl : args.length = d.np := by
      by_cases z : args.length = d.np
      · exact z
      · rw [runF_len z] at hq; exact hq.elim
    have il := i.len
    have hst : L2.start T.N vs = vs.map some ++ List.replicate (d.nl - d.np) none := by
      unfold L2.start
      rw [hN, ← il, hl]
    rw [hst]
    refine ⟨_, S, args.map some ++ List.replicate (d.nl - d.np) none, fun z => ?_, gd_start e i hl, ?_⟩
    · show (if d.io then vs.head? else none) = none
      rw [z]; rfl
    unfold runF at hq
    rw [if_pos hl] at hq
    -- what holds of the changed argument at the end
    have fin : ∀ {S' H' : Hp} {ωr : Own} {ρr : Slots} {σ' : L2.St} {u : Val} {res : Addr → Prop}, d.io = true → Gd G.K ⟨S, (fun a => open Classical in if IoA d.io H args vs a then none else H a), if d.io then vs.head? else none⟩ S' H' ωr ρr σ' → ownAt ωr 0 = true →
        getS ρr 0 = some u → (∀ a, res a → ¬ Slo ωr H' ρr σ' a) → IoOut G.K true S' H' H args vs (some u) res := fun {S' H' ωr ρr σ' u res} z g ho hu hres => by
      obtain ⟨y, h1, h2⟩ := g.rep 0 u (getS_eq hu)
      cases vs with
      | nil =>
        rw [z] at i
        cases args <;> exact i.elim
      | cons y0 ys =>
        have h3 := g.io y0 (by show (if d.io then (y0 :: ys).head? else none) = some y0; rw [z]; rfl)
        rw [h1] at h3
        cases h3
        rw [ho] at h2
        refine ⟨h2, fun a w => ?_⟩
        obtain ⟨o1, o2⟩ := g.own 0 u y (getS_eq hu) h1 a (by rw [ho]; exact w)
        refine ⟨o1, ?_, fun y => hres a y ⟨0, u, _, getS_eq hu, h1, by rw [ho]; exact w⟩⟩
        have := nB o2
        rw [z] at this
        exact this
    cases q2 : exec G.Φ d.body (args.map some ++ List.replicate (d.nl - d.np) none) with
    | stuck => rw [q2] at hq; exact hq.elim
    | brk ρ => rw [q2] at hq; exact hq.elim
    | ct ρ => rw [q2] at hq; exact hq.elim
    | nx ρ =>
      rw [q2] at hq
      intro σ' S' H' e' g
      unfold resF outR at hq
      dsimp only at hq
      have fr : ∀ a o, H a = some o → ¬ IoA d.io H args vs a → H' a = some o := fun a o z y => g.fr a o (by show (open Classical in if IoA d.io H args vs a then none else H a) = some o; rw [if_neg y]; exact z)
      have nw : ∀ a o, S' a = some o → S a = some o ∨ H a = none ∨ IoA d.io H args vs a := fun a o z => (g.nw a o z).imp id nB
      cases hio : d.io with
      | false =>
        rw [hio] at hq fr nw
        exact hq .non S' H' e' g.sub fr nw (RepO.of .non (.inr nonNo)) (fun a o => (Owns.no (.inr nonNo) o).elim) (fun _ => rfl) trivial
      | true =>
        rw [hio] at hq fr nw how
        simp only [if_true] at hq
        cases q3 : getS ρ 0 with
        | none => rw [q3] at hq; exact hq.elim
        | some u =>
          rw [q3] at hq
          exact hq .non S' H' e' g.sub fr nw (RepO.of .non (.inr nonNo)) (fun a o => (Owns.no (.inr nonNo) o).elim) (fun _ => rfl)
            (fin hio g (by simpa using how) q3 fun a o => (Owns.no (.inr nonNo) o).elim)
    | ret v ρ =>
      rw [q2] at hq
      intro x σ' S' H' ωr ρr e' g r m hk
      unfold resF outR at hq
      dsimp only at hq
      have fr : ∀ a o, H a = some o → ¬ IoA d.io H args vs a → H' a = some o := fun a o z y => g.fr a o (by show (open Classical in if IoA d.io H args vs a then none else H a) = some o; rw [if_neg y]; exact z)
      have nw : ∀ a o, S' a = some o → S a = some o ∨ H a = none ∨ IoA d.io H args vs a := fun a o z => (g.nw a o z).imp id nB
      have ow : ∀ a, Owns d.own H' v x a → S' a = none ∧ (H a = none ∨ IoA d.io H args vs a) := fun a o => ⟨(m a o).1, nB (m a o).2.1⟩
      by_cases hfl : (!d.flat || flatV v) = true
      · rw [if_pos hfl] at hq
        have hfl' : d.flat = true → flatV v = true := fun z => by rw [z] at hfl; simpa using hfl
        cases hio : d.io with
        | false =>
          rw [hio] at hq fr nw ow
          exact hq x S' H' e' g.sub fr nw r ow hfl' trivial
        | true =>
          rw [hio] at hq fr nw ow
          simp only [if_true] at hq
          cases q3 : getS ρ 0 with
          | none => rw [q3] at hq; exact hq.elim
          | some u =>
            rw [q3] at hq
            obtain ⟨k1, k2⟩ := hk hio
            exact hq x S' H' e' g.sub fr nw r ow hfl' (fin hio g k1 (getS_of (k2.trans (getS_eq q3))) fun a o => (m a o).2.2)
      · rw [if_neg hfl] at hq
        exact hq.elim
    | err er ρ =>
      rw [q2] at hq
      intro cls dd σ' S' H' e' g xr
      unfold resF at hq
      dsimp only at hq
      have fr : ∀ a o, H a = some o → ¬ IoA d.io H args vs a → H' a = some o := fun a o z y => g.fr a o (by show (open Classical in if IoA d.io H args vs a then none else H a) = some o; rw [if_neg y]; exact z)
      have nw : ∀ a o, S' a = some o → S a = some o ∨ H a = none ∨ IoA d.io H args vs a := fun a o z => (g.nw a o z).imp id nB
      cases hio : d.io with
      | true => rw [hio] at hq; exact hq.elim
      | false =>
        rw [hio] at hq fr nw
        exact hq cls dd S' H' e' g.sub fr nw xr trivial
end
end Pv
/-! Pv, part P: all defs of a text, the law. -/
namespace Pv
open PySem PySem.Spec PyProof.Rows L2
theorem allN {α : Type} {p : α → Prop} : ∀ x ∈ ([] : List α), p x := fun x h => by cases h
theorem allC {α : Type} {p : α → Prop} {a : α} {l : List α} (h : p a) (r : ∀ x ∈ l, p x) : ∀ x ∈ a :: l, p x := fun x hx => by
  rcases List.mem_cons.mp hx with rfl | hx
  · exact h
  · exact r x hx
/-- the readings at call level n; nothing is let out -/
noncomputable def GA (K : PySem.W.Frag) (sg : Nat → Sig) (Pr : Prg) (n : Nat) : Gam := ⟨K, sg, callN Pr n, fun _ _ _ _ => False, fun _ h => h⟩
structure DefOk (K : PySem.W.Frag) (mg : Str → Option Value) (nm : Nat → Str) (bl : List Str) (fs : List Nat) (sg : Nat → Sig) (d : FDef) (f : Nat) (a : Addr) (fd : FuncData) (ps : List Str) : Prop where
  mgf : mg (nm f) = some (.ref a)
  kp : PySem.W.keepIn K (.ref a) = true
  bi : Binds K fd ps []
  ex : ∃ x qual st N, L2.Fun K x qual st a fd ∧ FnScope N ps (defScope st) ∧ N.length = d.nl ∧ ps.length = d.np ∧ chkB ⟨nm, bl, fs, N⟩ (defScope st).names d.body (defBody st) = true ∧ ownF sg d = true
section
variable {K : PySem.W.Frag} {P : Program} {w : World} {mg : Str → Option Value} {base : Heap} {nm : Nat → Str} {bl : List Str} {fs : List Nat} {sg : Nat → Sig} {Pr : Prg}
theorem DefOk.run {d : FDef} {f : Nat} {a : Addr} {fd : FuncData} {ps : List Str} {n : Nat} (D : DefOk K mg nm bl fs sg d f a fd ps) (HF : ∀ g ∈ fs, FnFact (GA K sg Pr n) P w mg base n nm g) (hbl : ∀ x ∈ bl, mg x = none) :
    FnOk P w K mg base (L2.CX P w) (n + 1) a fd ps (spOf (GA K sg Pr n) ⟨d.io, d.own, d.flat⟩ (runF d (callN Pr n))) := by
  obtain ⟨x, qual, st, N, h1, h2, h3, h4, h5, h6⟩ := D.ex
  exact body_ok (G := GA K sg Pr n) (T := ⟨nm, bl, fs, N⟩) h1 h2 h3 h4 h5 h6 HF hbl
/-- what each def of the text asks -/
def Facts (K : PySem.W.Frag) (P : Program) (w : World) (mg : Str → Option Value) (base : Heap) (nm : Nat → Str) (bl : List Str) (fs : List Nat) (sg : Nat → Sig) (Pr : Prg) (f : Nat) : Prop :=
  (∃ d a fd ps, Pr.defs f = some d ∧ sg f = ⟨d.io, d.own, d.flat⟩ ∧ DefOk K mg nm bl fs sg d f a fd ps) ∨
  (Pr.defs f = none ∧ ∃ a fd ps, mg (nm f) = some (.ref a) ∧ PySem.W.keepIn K (.ref a) = true ∧ Binds K fd ps [] ∧ ∀ n, FnOk P w K mg base (L2.CX P w) (n + 1) a fd ps (spOf (GA K sg Pr 0) (sg f) (Pr.byHand f)))
theorem level (hbl : ∀ x ∈ bl, mg x = none) (H : ∀ f ∈ fs, Facts K P w mg base nm bl fs sg Pr f) : ∀ n, ∀ f ∈ fs, FnFact (GA K sg Pr n) P w mg base n nm f
  | 0, f, hf => by
    have no : ∀ vs H Q E, spOf (GA K sg Pr 0) (sg f) (callN Pr 0 f) vs H Q E → False := fun vs H Q E ⟨args, S, _, _, q⟩ => by
      rw [callN] at q
      exact q
    rcases H f hf with ⟨d, a, fd, ps, h1, h2, D⟩ | ⟨h1, a, fd, ps, h2, h3, h4, h5⟩
    · exact ⟨a, fd, ps, D.mgf, D.kp, D.bi, fun vs H Q E q => (no vs H Q E q).elim, fun A outer s H args us vs Q E _ _ _ _ q => (no vs H Q E q).elim⟩
    · exact ⟨a, fd, ps, h2, h3, h4, fun vs H Q E q => (no vs H Q E q).elim, fun A outer s H args us vs Q E _ _ _ _ q => (no vs H Q E q).elim⟩
  | n + 1, f, hf => by
    have ih := level hbl H n
    rcases H f hf with ⟨d, a, fd, ps, h1, h2, D⟩ | ⟨h1, a, fd, ps, h2, h3, h4, h5⟩
    · refine ⟨a, fd, ps, D.mgf, D.kp, D.bi, ?_⟩
      have r := D.run (Pr := Pr) ih hbl
      have e : (GA K sg Pr (n + 1)).Φ f = runF d (callN Pr n) := by
        show callN Pr (n + 1) f = _
        funext vs
        rw [callN, h1]
      rw [e, show (GA K sg Pr (n + 1)).sg f = ⟨d.io, d.own, d.flat⟩ from h2]
      exact r
    · refine ⟨a, fd, ps, h2, h3, h4, ?_⟩
      have e : (GA K sg Pr (n + 1)).Φ f = Pr.byHand f := by
        show callN Pr (n + 1) f = _
        funext vs
        rw [callN, h1]
      rw [e]
      exact h5 n
/-- the law's answer -/
theorem law_sp {d : FDef} {n : Nat} {H : Hp} {a : Addr} {ns : List Int} (hio : d.io = false) (e : runF d (callN Pr n) [.frl ns] = .ok (.bl true) none) (hS : SqL K H a (ns.map V.int)) :
    spOf (GA K sg Pr n) ⟨d.io, d.own, d.flat⟩ (runF d (callN Pr n)) [.ref a] H (fun v _ => v = .bl true) fun _ _ _ => False := by
  refine ⟨[.frl ns], H, fun _ _ z => z, ?_, ?_⟩
  · rw [hio]
    exact .cons (.frl hS) .nil
  · rw [e]
    intro x S' H' _ _ _ _ r _ _ _
    exact r.isBl
/-- what the end of a law asks of the text -/
def TextOk (K : PySem.W.Frag) (P : Program) (w : World) (mg : Str → Option Value) (fa : Addr) (nm : Nat → Str) (bl : List Str) (fs : List Nat) (sg : Nat → Sig) (Pr : Prg) (f : Nat) (d : FDef) : Prop :=
  ∃ fd : FuncData, (∀ (s : Shared) (u : Value), BindsTo s fd ⟨[u], []⟩ [(("script" : Str), u)]) ∧ DefOk K mg nm bl fs sg d f fa fd ["script"] ∧ (∀ x ∈ bl, mg x = none) ∧ ∀ base : Heap, K.In base → base.Ns mainGlobals mg → ∀ f ∈ fs, Facts K P w mg base nm bl fs sg Pr f
end
theorem law_walk {l : PySem.W.OpenLaw} {q : Program} {loose : List Str} {XP : (Str → Option Value) → Heap → Prop} {YP : World → Heap → Prop} {d : DefRec} {K : Params → PySem.W.Frag} {nm : Nat → Str} {bl : List Str} {fs : List Nat} {sg : Nat → Sig} {Pr : Prg} {f k : Nat} {fdf : FDef}
    (hn : l.most = some 63) (hdf : d.params.defaults = []) (hr : Room (k + 1) callerA) (hY : ∀ (w : World) (h : Heap), YP w h → (K w.params).In h) (hio : fdf.io = false)
    (hval : ∀ ns : List Int, ns.length ≤ 63 → runF fdf (callN Pr k) [.frl ns] = .ok (.bl true) none)
    (F : ∀ (w : World) (mg : Str → Option Value) (fa : Addr) (h : Heap), (K w.params).In h → h.Ns mainGlobals mg → mg d.name = some (.ref fa) → TextOk (K w.params) l.prog w mg fa nm bl fs sg Pr f fdf) :
    PySem.W.WalkO q loose XP YP l.row.toRowW d [] (fun f vs => PySem.call f vs) := by
  refine L2.walk_of (n := 63) (k := k + 1) (x := "script") (CX := fun w => L2.CX l.prog w) (sp := fun w => spOf (GA (K w.params) sg Pr k) ⟨fdf.io, fdf.own, fdf.flat⟩ (runF fdf (callN Pr k))) hn (by decide) hdf hr hY (fun w mg fa h KX G hmg => ?_) (fun w H a ns hl _ hS => law_sp hio (hval ns hl) hS) fun w H s e s' z => ?_
  · obtain ⟨fd, hb, D, hbl, hF⟩ := F w mg fa h KX G hmg
    exact ⟨fd, hb, fun base KB GB => D.run (level hbl (hF base KB GB) k) hbl⟩
  · obtain ⟨_, _, _, _, _, _, _, _, _, _, _, _, z⟩ := z
    exact z
end Pv
namespace K10
open PySem PySem.Spec L2 Pv
def top (i : Nat) : Stmt := PySem.Challenge.pw_cellforall_k10_least_lots.main.body.getD i (.Pass ⟨0, 0, 0, 0⟩)
def nms : List Str := ["has_lot", "least_lots", "lot_of", "ends_of", "full_lot", "inside", "_law_pool", "_law_draw", "_law_bits", "_law_lots", "_law_turned", "_law_ends", "_law_within", "_law_ordered", "_law_least", "_law_has", "_law_number", "_law_truth", "_law_numbers", "_law_lot_asked", "_law_ends_asked", "_law_inside_asked", "_law_has_asked", "_law_least_asked", "law"]
def nm (i : Nat) : Str := nms.getD i Str.empty
def bl : List Str := ["bool", "int", "isinstance", "len", "range", "sorted", "tuple"]
def fs : List Nat := List.range 25
def N0 : List Str := ["book", "lot", "one"]
/-- has_lot(book:0, lot:1, one:2) -/
def d0 : FDef := ⟨2, 3, false, true, true, (.cons (.for_ [2] false (.seq (.var 0))
    (.cons (.ife (.app (.cmp .Eq) (.cons (.app (.bin .BitAnd) (.cons (.var 2) (.cons (.var 1) .nil))) (.cons (.var 2) .nil)))
      (.cons (.ret (.lit (.bl true)))
      .nil)
      .nil)
    .nil))
  (.cons (.ret (.lit (.bl false)))
  .nil))⟩
def N1 : List Str := ["lots", "kept", "lot"]
/-- least_lots(lots:0, kept:1, lot:2) -/
def d1 : FDef := ⟨1, 3, false, true, false, (.cons (.asg 1 (.app .lst .nil))
  (.cons (.for_ [2] false (.seq (.app .sorted1 (.cons (.var 0) .nil)))
    (.cons (.ife (.not_ (.call 0 (.cons (.var 1) (.cons (.var 2) .nil))))
      (.cons (.exp (.mut .append 1 (.cons (.var 2) .nil)))
      .nil)
      .nil)
    .nil))
  (.cons (.ret (.app .tuple1 (.cons (.var 1) .nil)))
  .nil)))⟩
def N2 : List Str := ["ends", "lot", "end"]
/-- lot_of(ends:0, lot:1, end:2) -/
def d2 : FDef := ⟨1, 3, false, true, true, (.cons (.asg 1 (.lit (.int 0)))
  (.cons (.for_ [2] false (.seq (.var 0))
    (.cons (.asg 1 (.app (.bin .BitOr) (.cons (.var 1) (.cons (.app (.bin .LShift) (.cons (.lit (.int 1)) (.cons (.var 2) .nil))) .nil))))
    .nil))
  (.cons (.ret (.var 1))
  .nil)))⟩
def N3 : List Str := ["lot", "end"]
/-- ends_of(lot:0, end:1) -/
def d3 : FDef := ⟨1, 2, false, true, false, (.cons (.ret (.app .tuple1 (.cons (.comp [1] [1] false (.rng (.cons (.app .bits (.cons (.var 0) .nil)) .nil)) (.app (.bin .BitAnd) (.cons (.app (.bin .RShift) (.cons (.var 0) (.cons (.var 1) .nil))) (.cons (.lit (.int 1)) .nil))) (.var 1)) .nil)))
  .nil)⟩
def N4 : List Str := ["count"]
/-- full_lot(count:0) -/
def d4 : FDef := ⟨1, 1, false, true, true, (.cons (.ret (.app (.bin .Sub) (.cons (.app (.bin .LShift) (.cons (.lit (.int 1)) (.cons (.var 0) .nil))) (.cons (.lit (.int 1)) .nil))))
  .nil)⟩
def N5 : List Str := ["one", "other"]
/-- inside(one:0, other:1) -/
def d5 : FDef := ⟨2, 2, false, true, true, (.cons (.ret (.app (.cmp .Eq) (.cons (.app (.bin .BitAnd) (.cons (.var 0) (.cons (.var 1) .nil))) (.cons (.var 0) .nil))))
  .nil)⟩
def N6 : List Str := ["script", "cells", "cell"]
def N7 : List Str := ["pool", "base", "cells", "at", "digit"]
def N8 : List Str := ["pool", "count", "lot", "power", "end"]
/-- _law_bits(pool:0, count:1, lot:2, power:3, end:4) -/
def d8 : FDef := ⟨2, 5, true, true, true, (.cons (.asg 2 (.lit (.int 0)))
  (.cons (.asg 3 (.lit (.int 1)))
  (.cons (.for_ [4] false (.rng (.cons (.var 1) .nil))
    (.cons (.asg 2 (.app (.bin .Add) (.cons (.var 2) (.cons (.app (.bin .Mult) (.cons (.var 3) (.cons (.callio 7 0 (.cons (.var 0) (.cons (.lit (.int 2)) .nil))) .nil))) .nil))))
    (.cons (.asg 3 (.app (.bin .Mult) (.cons (.var 3) (.cons (.lit (.int 2)) .nil))))
    .nil)))
  (.cons (.ret (.var 2))
  .nil))))⟩
def N9 : List Str := ["pool", "count", "many", "lots", "k", "kind", "old", "power", "has"]
/-- _law_lots(pool:0, count:1, many:2, lots:3, k:4, kind:5, old:6, power:7, has:8) -/
def d9 : FDef := ⟨3, 9, true, true, false, (.cons (.asg 3 (.app .lst .nil))
  (.cons (.for_ [4] false (.rng (.cons (.var 2) .nil))
    (.cons (.asg 5 (.lit (.int 0)))
    (.cons (.ife (.app (.cmp .Gt) (.cons (.var 4) (.cons (.lit (.int 0)) .nil)))
      (.cons (.asg 5 (.callio 7 0 (.cons (.var 0) (.cons (.lit (.int 4)) .nil))))
      .nil)
      .nil)
    (.cons (.ife (.app (.cmp .Eq) (.cons (.var 5) (.cons (.lit (.int 0)) .nil)))
      (.cons (.exp (.mut .append 3 (.cons (.app (.bin .Mod) (.cons (.app .int1 (.cons (.app (.bin .Add) (.cons (.app (.bin .Add) (.cons (.callio 8 0 (.cons (.var 0) (.cons (.var 1) .nil))) (.cons (.app (.bin .Mult) (.cons (.lit (.int 5)) (.cons (.var 4) .nil))) .nil))) (.cons (.lit (.int 3)) .nil))) .nil)) (.cons (.app (.bin .LShift) (.cons (.lit (.int 1)) (.cons (.var 1) .nil))) .nil))) .nil)))
      .nil)
      (.cons (.asg 6 (.app .ix (.cons (.var 3) (.cons (.callio 7 0 (.cons (.var 0) (.cons (.var 4) .nil))) .nil))))
      (.cons (.asg 7 (.app (.bin .LShift) (.cons (.lit (.int 1)) (.cons (.callio 7 0 (.cons (.var 0) (.cons (.var 1) .nil))) .nil))))
      (.cons (.asg 8 (.app (.bin .Mod) (.cons (.app .int1 (.cons (.app (.bin .FloorDiv) (.cons (.var 6) (.cons (.var 7) .nil))) .nil)) (.cons (.lit (.int 2)) .nil))))
      (.cons (.ife (.app (.cmp .Eq) (.cons (.var 5) (.cons (.lit (.int 2)) .nil)))
        (.cons (.asg 6 (.app (.bin .Add) (.cons (.var 6) (.cons (.app (.bin .Mult) (.cons (.var 7) (.cons (.app (.bin .Sub) (.cons (.lit (.int 1)) (.cons (.var 8) .nil))) .nil))) .nil))))
        .nil)
        (.cons (.ife (.app (.cmp .Eq) (.cons (.var 5) (.cons (.lit (.int 3)) .nil)))
          (.cons (.asg 6 (.app (.bin .Sub) (.cons (.var 6) (.cons (.app (.bin .Mult) (.cons (.var 7) (.cons (.var 8) .nil))) .nil))))
          .nil)
          .nil)
        .nil))
      (.cons (.exp (.mut .append 3 (.cons (.var 6) .nil)))
      .nil))))))
    .nil))))
  (.cons (.ret (.var 3))
  .nil)))⟩
def N10 : List Str := ["lots", "k"]
/-- _law_turned(lots:0, k:1) -/
def d10 : FDef := ⟨1, 2, false, true, false, (.cons (.ret (.comp [1] [1] false (.rng (.cons (.app .len (.cons (.var 0) .nil)) .nil)) (.lit (.bl true)) (.app .ix (.cons (.var 0) (.cons (.app (.bin .Sub) (.cons (.app (.bin .Sub) (.cons (.app .len (.cons (.var 0) .nil)) (.cons (.lit (.int 1)) .nil))) (.cons (.var 1) .nil))) .nil)))))
  .nil)⟩
def N11 : List Str := ["lot", "ends", "end"]
/-- _law_ends(lot:0, ends:1, end:2) -/
def d11 : FDef := ⟨1, 3, false, true, false, (.cons (.asg 1 (.app .lst .nil))
  (.cons (.for_ [2] false (.rng (.cons (.lit (.int 20)) .nil))
    (.cons (.ife (.app (.cmp .Eq) (.cons (.app (.bin .Mod) (.cons (.app .int1 (.cons (.var 0) .nil)) (.cons (.lit (.int 2)) .nil))) (.cons (.lit (.int 1)) .nil)))
      (.cons (.exp (.mut .append 1 (.cons (.var 2) .nil)))
      .nil)
      .nil)
    (.cons (.asg 0 (.app (.bin .FloorDiv) (.cons (.var 0) (.cons (.lit (.int 2)) .nil))))
    .nil)))
  (.cons (.ret (.var 1))
  .nil)))⟩
def N12 : List Str := ["one", "other", "end"]
/-- _law_within(one:0, other:1, end:2) -/
def d12 : FDef := ⟨2, 3, false, true, true, (.cons (.for_ [2] false (.rng (.cons (.lit (.int 20)) .nil))
    (.cons (.ife (.and_ (.app (.cmp .Eq) (.cons (.app (.bin .Mod) (.cons (.app .int1 (.cons (.var 0) .nil)) (.cons (.lit (.int 2)) .nil))) (.cons (.lit (.int 1)) .nil))) (.app (.cmp .Eq) (.cons (.app (.bin .Mod) (.cons (.app .int1 (.cons (.var 1) .nil)) (.cons (.lit (.int 2)) .nil))) (.cons (.lit (.int 0)) .nil))))
      (.cons (.ret (.lit (.bl false)))
      .nil)
      .nil)
    (.cons (.asg 0 (.app (.bin .FloorDiv) (.cons (.var 0) (.cons (.lit (.int 2)) .nil))))
    (.cons (.asg 1 (.app (.bin .FloorDiv) (.cons (.var 1) (.cons (.lit (.int 2)) .nil))))
    .nil))))
  (.cons (.ret (.lit (.bl true)))
  .nil))⟩
def N13 : List Str := ["lots", "row", "lot", "at", "k"]
/-- _law_ordered(lots:0, row:1, lot:2, at:3, k:4) -/
def d13 : FDef := ⟨1, 5, false, true, false, (.cons (.asg 1 (.app .lst .nil))
  (.cons (.for_ [2] false (.seq (.var 0))
    (.cons (.asg 3 (.lit (.int 0)))
    (.cons (.for_ [4] false (.rng (.cons (.app .len (.cons (.var 1) .nil)) .nil))
      (.cons (.ife (.app (.cmp .LtE) (.cons (.app .ix (.cons (.var 1) (.cons (.var 4) .nil))) (.cons (.var 2) .nil)))
        (.cons (.asg 3 (.app (.bin .Add) (.cons (.var 4) (.cons (.lit (.int 1)) .nil))))
        .nil)
        .nil)
      .nil))
    (.cons (.asg 1 (.app (.bin .Add) (.cons (.app (.bin .Add) (.cons (.app (.slice false true) (.cons (.var 1) (.cons (.var 3) .nil))) (.cons (.app .lst (.cons (.var 2) .nil)) .nil))) (.cons (.app (.slice true false) (.cons (.var 1) (.cons (.var 3) .nil))) .nil))))
    .nil))))
  (.cons (.ret (.var 1))
  .nil)))⟩
def N14 : List Str := ["lots", "least", "lot", "good", "other"]
/-- _law_least(lots:0, least:1, lot:2, good:3, other:4) -/
def d14 : FDef := ⟨1, 5, false, true, false, (.cons (.asg 1 (.app .lst .nil))
  (.cons (.for_ [2] false (.seq (.call 13 (.cons (.var 0) .nil)))
    (.cons (.asg 3 (.or_ (.app (.cmp .Eq) (.cons (.app .len (.cons (.var 1) .nil)) (.cons (.lit (.int 0)) .nil))) (.app (.cmp .NotEq) (.cons (.app .ix (.cons (.var 1) (.cons (.app .neg (.cons (.lit (.int 1)) .nil)) .nil))) (.cons (.var 2) .nil)))))
    (.cons (.for_ [4] false (.seq (.var 0))
      (.cons (.ife (.and_ (.app (.cmp .NotEq) (.cons (.var 4) (.cons (.var 2) .nil))) (.call 12 (.cons (.var 4) (.cons (.var 2) .nil))))
        (.cons (.asg 3 (.lit (.bl false)))
        .nil)
        .nil)
      .nil))
    (.cons (.ife (.var 3)
      (.cons (.exp (.mut .append 1 (.cons (.var 2) .nil)))
      .nil)
      .nil)
    .nil))))
  (.cons (.ret (.var 1))
  .nil)))⟩
def N15 : List Str := ["lots", "lot", "one"]
/-- _law_has(lots:0, lot:1, one:2) -/
def d15 : FDef := ⟨2, 3, false, true, true, (.cons (.for_ [2] false (.seq (.var 0))
    (.cons (.ife (.call 12 (.cons (.var 2) (.cons (.var 1) .nil)))
      (.cons (.ret (.lit (.bl true)))
      .nil)
      .nil)
    .nil))
  (.cons (.ret (.lit (.bl false)))
  .nil))⟩
def N16 : List Str := ["told", "due"]
/-- _law_number(told:0, due:1) -/
def d16 : FDef := ⟨2, 2, false, true, true, (.cons (.ret (.and_ (.app (.isi .int) (.cons (.var 0) .nil)) (.and_ (.not_ (.app (.isi .bool) (.cons (.var 0) .nil))) (.app (.cmp .Eq) (.cons (.var 0) (.cons (.var 1) .nil))))))
  .nil)⟩
def N17 : List Str := ["told", "due"]
/-- _law_truth(told:0, due:1) -/
def d17 : FDef := ⟨2, 2, false, true, true, (.cons (.ret (.and_ (.app (.isi .bool) (.cons (.var 0) .nil)) (.app (.cmp .Eq) (.cons (.var 0) (.cons (.var 1) .nil)))))
  .nil)⟩
def N18 : List Str := ["told", "due", "k"]
/-- _law_numbers(told:0, due:1, k:2) -/
def d18 : FDef := ⟨2, 3, false, true, true, (.cons (.ife (.or_ (.not_ (.app (.isi .tuple) (.cons (.var 0) .nil))) (.app (.cmp .NotEq) (.cons (.app .len (.cons (.var 0) .nil)) (.cons (.app .len (.cons (.var 1) .nil)) .nil))))
    (.cons (.ret (.lit (.bl false)))
    .nil)
    .nil)
  (.cons (.for_ [2] false (.rng (.cons (.app .len (.cons (.var 1) .nil)) .nil))
    (.cons (.ife (.not_ (.call 16 (.cons (.app .ix (.cons (.var 0) (.cons (.var 2) .nil))) (.cons (.app .ix (.cons (.var 1) (.cons (.var 2) .nil))) .nil))))
      (.cons (.ret (.lit (.bl false)))
      .nil)
      .nil)
    .nil))
  (.cons (.ret (.lit (.bl true)))
  .nil)))⟩
def N19 : List Str := ["lot", "ends"]
/-- _law_lot_asked(lot:0, ends:1) -/
def d19 : FDef := ⟨1, 2, false, true, true, (.cons (.asg 1 (.call 11 (.cons (.var 0) .nil)))
  (.cons (.ret (.and_ (.call 18 (.cons (.call 3 (.cons (.var 0) .nil)) (.cons (.var 1) .nil))) (.call 16 (.cons (.call 2 (.cons (.app .tuple1 (.cons (.var 1) .nil)) .nil)) (.cons (.var 0) .nil)))))
  .nil))⟩
def N20 : List Str := ["ends", "lot", "width", "due", "power", "end", "full"]
/-- _law_ends_asked(ends:0, lot:1, width:2, due:3, power:4, end:5, full:6) -/
def d20 : FDef := ⟨3, 7, false, true, true, (.cons (.asg 3 (.lit (.int 0)))
  (.cons (.asg 4 (.lit (.int 1)))
  (.cons (.for_ [5] false (.rng (.cons (.lit (.int 20)) .nil))
    (.cons (.ife (.app (.cmp .In) (.cons (.var 5) (.cons (.var 0) .nil)))
      (.cons (.asg 3 (.app (.bin .Add) (.cons (.var 3) (.cons (.var 4) .nil))))
      .nil)
      .nil)
    (.cons (.asg 4 (.app (.bin .Mult) (.cons (.var 4) (.cons (.lit (.int 2)) .nil))))
    .nil)))
  (.cons (.asg 6 (.lit (.int 0)))
  (.cons (.for_ [5] false (.rng (.cons (.var 2) .nil))
    (.cons (.asg 6 (.app (.bin .Add) (.cons (.app (.bin .Mult) (.cons (.var 6) (.cons (.lit (.int 2)) .nil))) (.cons (.lit (.int 1)) .nil))))
    .nil))
  (.cons (.ife (.not_ (.call 16 (.cons (.call 2 (.cons (.app .tuple1 (.cons (.var 0) .nil)) .nil)) (.cons (.var 3) .nil))))
    (.cons (.ret (.lit (.bl false)))
    .nil)
    .nil)
  (.cons (.ife (.or_ (.not_ (.call 16 (.cons (.call 4 (.cons (.var 2) .nil)) (.cons (.var 6) .nil)))) (.not_ (.call 16 (.cons (.call 4 (.cons (.lit (.int 0)) .nil)) (.cons (.lit (.int 0)) .nil)))))
    (.cons (.ret (.lit (.bl false)))
    .nil)
    .nil)
  (.cons (.ife (.not_ (.call 16 (.cons (.call 4 (.cons (.lit (.int 20)) .nil)) (.cons (.lit (.int 1048575)) .nil))))
    (.cons (.ret (.lit (.bl false)))
    .nil)
    .nil)
  (.cons (.ret (.and_ (.call 19 (.cons (.var 3) .nil)) (.and_ (.call 19 (.cons (.var 1) .nil)) (.call 19 (.cons (.var 6) .nil)))))
  .nil)))))))))⟩
def N21 : List Str := ["one", "other", "end", "power", "less", "more", "firsts", "seconds", "k", "due"]
/-- _law_inside_asked(one:0, other:1, end:2, power:3, less:4, more:5, firsts:6, seconds:7, k:8, due:9) -/
def d21 : FDef := ⟨3, 10, false, true, true, (.cons (.asg 3 (.app (.bin .LShift) (.cons (.lit (.int 1)) (.cons (.var 2) .nil))))
  (.cons (.asg 4 (.app (.bin .Sub) (.cons (.var 0) (.cons (.app (.bin .Mult) (.cons (.var 3) (.cons (.app (.bin .Mod) (.cons (.app .int1 (.cons (.app (.bin .FloorDiv) (.cons (.var 0) (.cons (.var 3) .nil))) .nil)) (.cons (.lit (.int 2)) .nil))) .nil))) .nil))))
  (.cons (.asg 5 (.app (.bin .Add) (.cons (.var 4) (.cons (.var 3) .nil))))
  (.cons (.ife (.or_ (.not_ (.call 17 (.cons (.call 5 (.cons (.var 4) (.cons (.var 5) .nil))) (.cons (.lit (.bl true)) .nil)))) (.not_ (.call 17 (.cons (.call 5 (.cons (.var 5) (.cons (.var 4) .nil))) (.cons (.lit (.bl false)) .nil)))))
    (.cons (.ret (.lit (.bl false)))
    .nil)
    .nil)
  (.cons (.asg 6 (.app .lst (.cons (.var 0) (.cons (.var 1) (.cons (.app (.bin .BitAnd) (.cons (.var 0) (.cons (.var 1) .nil))) (.cons (.var 0) (.cons (.var 0) (.cons (.lit (.int 0)) .nil))))))))
  (.cons (.asg 6 (.app (.bin .Add) (.cons (.var 6) (.cons (.app .lst (.cons (.var 0) (.cons (.var 0) (.cons (.lit (.int 1048575)) (.cons (.var 4) (.cons (.var 1) .nil)))))) .nil))))
  (.cons (.asg 7 (.app .lst (.cons (.var 1) (.cons (.var 0) (.cons (.var 0) (.cons (.app (.bin .BitOr) (.cons (.var 0) (.cons (.var 1) .nil))) (.cons (.var 0) (.cons (.var 0) .nil))))))))
  (.cons (.asg 7 (.app (.bin .Add) (.cons (.var 7) (.cons (.app .lst (.cons (.lit (.int 0)) (.cons (.lit (.int 1048575)) (.cons (.var 0) (.cons (.var 1) (.cons (.var 5) .nil)))))) .nil))))
  (.cons (.for_ [8] false (.rng (.cons (.lit (.int 11)) .nil))
    (.cons (.asg 9 (.call 12 (.cons (.app .ix (.cons (.var 6) (.cons (.var 8) .nil))) (.cons (.app .ix (.cons (.var 7) (.cons (.var 8) .nil))) .nil))))
    (.cons (.ife (.not_ (.call 17 (.cons (.call 5 (.cons (.app .ix (.cons (.var 6) (.cons (.var 8) .nil))) (.cons (.app .ix (.cons (.var 7) (.cons (.var 8) .nil))) .nil))) (.cons (.var 9) .nil))))
      (.cons (.ret (.lit (.bl false)))
      .nil)
      .nil)
    .nil)))
  (.cons (.ret (.lit (.bl true)))
  .nil))))))))))⟩
def N22 : List Str := ["lots", "one", "low", "more", "high", "miss", "lot", "book", "asked", "end"]
/-- _law_has_asked(lots:0, one:1, low:2, more:3, high:4, miss:5, lot:6, book:7, asked:8, end:9) -/
def d22 : FDef := ⟨2, 10, false, true, true, (.cons (.asg 2 (.comp [6] [6] false (.seq (.var 0)) (.lit (.bl true)) (.app (.bin .Mod) (.cons (.app .int1 (.cons (.var 6) .nil)) (.cons (.lit (.int 524288)) .nil)))))
  (.cons (.asg 3 (.app (.bin .Mod) (.cons (.app .int1 (.cons (.var 1) .nil)) (.cons (.lit (.int 524288)) .nil))))
  (.cons (.asg 4 (.app (.bin .Add) (.cons (.lit (.int 524288)) (.cons (.app (.bin .Mod) (.cons (.app .int1 (.cons (.var 1) .nil)) (.cons (.lit (.int 475713)) .nil))) .nil))))
  (.cons (.asg 5 (.lit (.int 524287)))
  (.cons (.for_ [6] false (.seq (.var 2))
    (.cons (.for_ [9] false (.seq (.app (.slice false true) (.cons (.call 11 (.cons (.var 6) .nil)) (.cons (.lit (.int 1)) .nil))))
      (.cons (.asg 5 (.app (.bin .Sub) (.cons (.var 5) (.cons (.app (.bin .BitAnd) (.cons (.var 5) (.cons (.app (.bin .LShift) (.cons (.lit (.int 1)) (.cons (.var 9) .nil))) .nil))) .nil))))
      .nil))
    .nil))
  (.cons (.asg 7 (.app (.bin .Add) (.cons (.app .lst (.cons (.var 4) .nil)) (.cons (.var 2) .nil))))
  (.cons (.asg 8 (.app (.bin .Add) (.cons (.app (.bin .Add) (.cons (.var 2) (.cons (.comp [6] [6] false (.seq (.var 2)) (.lit (.bl true)) (.app (.bin .BitOr) (.cons (.var 6) (.cons (.var 3) .nil)))) .nil))) (.cons (.app .lst (.cons (.var 5) (.cons (.lit (.int 0)) (.cons (.var 3) .nil)))) .nil))))
  (.cons (.for_ [6] false (.seq (.app (.bin .Add) (.cons (.var 8) (.cons (.app .lst (.cons (.var 4) (.cons (.app (.bin .Sub) (.cons (.var 4) (.cons (.lit (.int 524288)) .nil))) (.cons (.lit (.int 1000000)) .nil)))) .nil))))
    (.cons (.ife (.not_ (.call 17 (.cons (.call 0 (.cons (.app .tuple1 (.cons (.var 2) .nil)) (.cons (.var 6) .nil))) (.cons (.call 15 (.cons (.var 2) (.cons (.var 6) .nil))) .nil))))
      (.cons (.ret (.lit (.bl false)))
      .nil)
      .nil)
    (.cons (.ife (.not_ (.call 17 (.cons (.call 0 (.cons (.app .tuple1 (.cons (.var 7) .nil)) (.cons (.var 6) .nil))) (.cons (.call 15 (.cons (.var 7) (.cons (.var 6) .nil))) .nil))))
      (.cons (.ret (.lit (.bl false)))
      .nil)
      .nil)
    .nil)))
  (.cons (.ret (.and_ (.call 17 (.cons (.call 0 (.cons (.app .tup .nil) (.cons (.lit (.int 524287)) .nil))) (.cons (.lit (.bl false)) .nil))) (.call 17 (.cons (.call 0 (.cons (.app .tup (.cons (.var 5) (.cons (.lit (.int 0)) .nil))) (.cons (.lit (.int 0)) .nil))) (.cons (.lit (.bl true)) .nil)))))
  .nil)))))))))⟩
def N23 : List Str := ["lots"]
/-- _law_least_asked(lots:0) -/
def d23 : FDef := ⟨1, 1, false, true, true, (.cons (.ret (.call 18 (.cons (.call 1 (.cons (.app .tuple1 (.cons (.var 0) .nil)) .nil)) (.cons (.call 14 (.cons (.var 0) .nil)) .nil))))
  .nil)⟩
def N24 : List Str := ["script", "pool", "count", "lots", "many", "ends", "one", "other", "end", "width", "twice", "k"]
/-- law(script:0, pool:1, count:2, lots:3, many:4, ends:5, one:6, other:7, end:8, width:9, twice:10, k:11) -/
def d24 : FDef := ⟨1, 12, false, true, true, (.cons (.asg 1 (.call 6 (.cons (.var 0) .nil)))
  (.cons (.asg 2 (.app .ix (.cons (.app .lst (.cons (.lit (.int 4)) (.cons (.lit (.int 3)) (.cons (.lit (.int 5)) (.cons (.lit (.int 2)) (.cons (.lit (.int 6)) (.cons (.lit (.int 20)) (.cons (.lit (.int 1)) (.cons (.lit (.int 8)) .nil))))))))) (.cons (.callio 7 1 (.cons (.var 1) (.cons (.lit (.int 8)) .nil))) .nil))))
  (.cons (.asg 3 (.callio 9 1 (.cons (.var 1) (.cons (.var 2) (.cons (.app .ix (.cons (.app .lst (.cons (.lit (.int 5)) (.cons (.lit (.int 3)) (.cons (.lit (.int 1)) (.cons (.lit (.int 2)) (.cons (.lit (.int 4)) (.cons (.lit (.int 8)) (.cons (.lit (.int 0)) (.cons (.lit (.int 24)) .nil))))))))) (.cons (.callio 7 1 (.cons (.var 1) (.cons (.lit (.int 8)) .nil))) .nil))) .nil)))))
  (.cons (.asg 4 (.app .ix (.cons (.app .lst (.cons (.lit (.int 4)) (.cons (.lit (.int 2)) (.cons (.lit (.int 1)) (.cons (.lit (.int 3)) (.cons (.lit (.int 0)) (.cons (.lit (.int 7)) (.cons (.lit (.int 20)) (.cons (.lit (.int 40)) .nil))))))))) (.cons (.callio 7 1 (.cons (.var 1) (.cons (.lit (.int 8)) .nil))) .nil))))
  (.cons (.asg 5 (.comp [11] [11] false (.rng (.cons (.var 4) .nil)) (.lit (.bl true)) (.app (.bin .Mod) (.cons (.app .int1 (.cons (.app (.bin .Add) (.cons (.callio 7 1 (.cons (.var 1) (.cons (.lit (.int 20)) .nil))) (.cons (.app (.bin .Mult) (.cons (.lit (.int 7)) (.cons (.var 11) .nil))) .nil))) .nil)) (.cons (.lit (.int 20)) .nil)))))
  (.cons (.asg 6 (.app (.bin .Mod) (.cons (.app .int1 (.cons (.app (.bin .Add) (.cons (.callio 8 1 (.cons (.var 1) (.cons (.lit (.int 20)) .nil))) (.cons (.lit (.int 44)) .nil))) .nil)) (.cons (.lit (.int 1048576)) .nil))))
  (.cons (.asg 7 (.app (.bin .Mod) (.cons (.app .int1 (.cons (.app (.bin .Add) (.cons (.callio 8 1 (.cons (.var 1) (.cons (.lit (.int 20)) .nil))) (.cons (.lit (.int 36)) .nil))) .nil)) (.cons (.lit (.int 1048576)) .nil))))
  (.cons (.asg 8 (.callio 7 1 (.cons (.var 1) (.cons (.lit (.int 20)) .nil))))
  (.cons (.asg 9 (.callio 7 1 (.cons (.var 1) (.cons (.lit (.int 21)) .nil))))
  (.cons (.ife (.not_ (.call 20 (.cons (.var 5) (.cons (.var 6) (.cons (.var 9) .nil)))))
    (.cons (.ret (.lit (.bl false)))
    .nil)
    .nil)
  (.cons (.ife (.not_ (.call 21 (.cons (.var 6) (.cons (.var 7) (.cons (.var 8) .nil)))))
    (.cons (.ret (.lit (.bl false)))
    .nil)
    .nil)
  (.cons (.ife (.or_ (.not_ (.call 23 (.cons (.var 3) .nil))) (.not_ (.call 22 (.cons (.var 3) (.cons (.var 6) .nil)))))
    (.cons (.ret (.lit (.bl false)))
    .nil)
    .nil)
  (.cons (.asg 10 (.app (.bin .Add) (.cons (.call 10 (.cons (.var 3) .nil)) (.cons (.var 3) .nil))))
  (.cons (.ife (.or_ (.not_ (.call 23 (.cons (.var 10) .nil))) (.not_ (.call 23 (.cons (.call 14 (.cons (.var 3) .nil)) .nil))))
    (.cons (.ret (.lit (.bl false)))
    .nil)
    .nil)
  (.cons (.ife (.or_ (.not_ (.call 23 (.cons (.app (.bin .Add) (.cons (.var 3) (.cons (.app .lst (.cons (.var 6) .nil)) .nil))) .nil))) (.not_ (.call 23 (.cons (.app .lst .nil) .nil))))
    (.cons (.ret (.lit (.bl false)))
    .nil)
    .nil)
  (.cons (.ret (.call 23 (.cons (.var 3) .nil)))
  .nil))))))))))))))))⟩
def tbl : List (Option FDef) := [some d0, some d1, some d2, some d3, some d4, some d5, none, none, some d8, some d9, some d10, some d11, some d12, some d13, some d14, some d15, some d16, some d17, some d18, some d19, some d20, some d21, some d22, some d23, some d24]
def sgs : List Sig := [⟨false, true, true⟩, ⟨false, true, false⟩, ⟨false, true, true⟩, ⟨false, true, false⟩, ⟨false, true, true⟩, ⟨false, true, true⟩, ⟨false, true, false⟩, ⟨true, false, true⟩, ⟨true, true, true⟩, ⟨true, true, false⟩, ⟨false, true, false⟩, ⟨false, true, false⟩, ⟨false, true, true⟩, ⟨false, true, false⟩, ⟨false, true, false⟩, ⟨false, true, true⟩, ⟨false, true, true⟩, ⟨false, true, true⟩, ⟨false, true, true⟩, ⟨false, true, true⟩, ⟨false, true, true⟩, ⟨false, true, true⟩, ⟨false, true, true⟩, ⟨false, true, true⟩, ⟨false, true, true⟩]
def sg (i : Nat) : Sig := sgs.getD i ⟨false, false, false⟩
end K10
namespace K10
open PySem PySem.Spec L2 Pv
theorem sc0 : FnScope N0 ["book", "lot"] (defScope (top 1)) := ⟨rfl, rfl, rfl, by decide +kernel, rfl, by decide +kernel, by decide +kernel⟩
theorem ck0 : chkB ⟨nm, bl, fs, N0⟩ (defScope (top 1)).names d0.body (defBody (top 1)) = true := by decide +kernel
theorem ow0 : ownF sg d0 = true := by decide +kernel
theorem sc1 : FnScope N1 ["lots"] (defScope (top 2)) := ⟨rfl, rfl, rfl, by decide +kernel, rfl, by decide +kernel, by decide +kernel⟩
theorem ck1 : chkB ⟨nm, bl, fs, N1⟩ (defScope (top 2)).names d1.body (defBody (top 2)) = true := by decide +kernel
theorem ow1 : ownF sg d1 = true := by decide +kernel
theorem sc2 : FnScope N2 ["ends"] (defScope (top 4)) := ⟨rfl, rfl, rfl, by decide +kernel, rfl, by decide +kernel, by decide +kernel⟩
theorem ck2 : chkB ⟨nm, bl, fs, N2⟩ (defScope (top 4)).names d2.body (defBody (top 4)) = true := by decide +kernel
theorem ow2 : ownF sg d2 = true := by decide +kernel
theorem sc3 : FnScope N3 ["lot"] (defScope (top 5)) := ⟨rfl, rfl, rfl, by decide +kernel, rfl, by decide +kernel, by decide +kernel⟩
theorem ck3 : chkB ⟨nm, bl, fs, N3⟩ (defScope (top 5)).names d3.body (defBody (top 5)) = true := by decide +kernel
theorem ow3 : ownF sg d3 = true := by decide +kernel
theorem sc4 : FnScope N4 ["count"] (defScope (top 6)) := ⟨rfl, rfl, rfl, by decide +kernel, rfl, by decide +kernel, by decide +kernel⟩
theorem ck4 : chkB ⟨nm, bl, fs, N4⟩ (defScope (top 6)).names d4.body (defBody (top 6)) = true := by decide +kernel
theorem ow4 : ownF sg d4 = true := by decide +kernel
theorem sc5 : FnScope N5 ["one", "other"] (defScope (top 7)) := ⟨rfl, rfl, rfl, by decide +kernel, rfl, by decide +kernel, by decide +kernel⟩
theorem ck5 : chkB ⟨nm, bl, fs, N5⟩ (defScope (top 7)).names d5.body (defBody (top 7)) = true := by decide +kernel
theorem ow5 : ownF sg d5 = true := by decide +kernel
theorem sc6 : FnScope N6 ["script"] (defScope (top 9)) := ⟨rfl, rfl, rfl, by decide +kernel, rfl, by decide +kernel, by decide +kernel⟩
theorem sc7 : FnScope N7 ["pool", "base"] (defScope (top 10)) := ⟨rfl, rfl, rfl, by decide +kernel, rfl, by decide +kernel, by decide +kernel⟩
theorem sc8 : FnScope N8 ["pool", "count"] (defScope (top 11)) := ⟨rfl, rfl, rfl, by decide +kernel, rfl, by decide +kernel, by decide +kernel⟩
theorem ck8 : chkB ⟨nm, bl, fs, N8⟩ (defScope (top 11)).names d8.body (defBody (top 11)) = true := by decide +kernel
theorem ow8 : ownF sg d8 = true := by decide +kernel
theorem sc9 : FnScope N9 ["pool", "count", "many"] (defScope (top 12)) := ⟨rfl, rfl, rfl, by decide +kernel, rfl, by decide +kernel, by decide +kernel⟩
theorem ck9 : chkB ⟨nm, bl, fs, N9⟩ (defScope (top 12)).names d9.body (defBody (top 12)) = true := by decide +kernel
theorem ow9 : ownF sg d9 = true := by decide +kernel
theorem sc10 : FnScope N10 ["lots"] (defScope (top 13)) := ⟨rfl, rfl, rfl, by decide +kernel, rfl, by decide +kernel, by decide +kernel⟩
theorem ck10 : chkB ⟨nm, bl, fs, N10⟩ (defScope (top 13)).names d10.body (defBody (top 13)) = true := by decide +kernel
theorem ow10 : ownF sg d10 = true := by decide +kernel
theorem sc11 : FnScope N11 ["lot"] (defScope (top 14)) := ⟨rfl, rfl, rfl, by decide +kernel, rfl, by decide +kernel, by decide +kernel⟩
theorem ck11 : chkB ⟨nm, bl, fs, N11⟩ (defScope (top 14)).names d11.body (defBody (top 14)) = true := by decide +kernel
theorem ow11 : ownF sg d11 = true := by decide +kernel
theorem sc12 : FnScope N12 ["one", "other"] (defScope (top 15)) := ⟨rfl, rfl, rfl, by decide +kernel, rfl, by decide +kernel, by decide +kernel⟩
theorem ck12 : chkB ⟨nm, bl, fs, N12⟩ (defScope (top 15)).names d12.body (defBody (top 15)) = true := by decide +kernel
theorem ow12 : ownF sg d12 = true := by decide +kernel
theorem sc13 : FnScope N13 ["lots"] (defScope (top 16)) := ⟨rfl, rfl, rfl, by decide +kernel, rfl, by decide +kernel, by decide +kernel⟩
theorem ck13 : chkB ⟨nm, bl, fs, N13⟩ (defScope (top 16)).names d13.body (defBody (top 16)) = true := by decide +kernel
theorem ow13 : ownF sg d13 = true := by decide +kernel
theorem sc14 : FnScope N14 ["lots"] (defScope (top 17)) := ⟨rfl, rfl, rfl, by decide +kernel, rfl, by decide +kernel, by decide +kernel⟩
theorem ck14 : chkB ⟨nm, bl, fs, N14⟩ (defScope (top 17)).names d14.body (defBody (top 17)) = true := by decide +kernel
theorem ow14 : ownF sg d14 = true := by decide +kernel
theorem sc15 : FnScope N15 ["lots", "lot"] (defScope (top 18)) := ⟨rfl, rfl, rfl, by decide +kernel, rfl, by decide +kernel, by decide +kernel⟩
theorem ck15 : chkB ⟨nm, bl, fs, N15⟩ (defScope (top 18)).names d15.body (defBody (top 18)) = true := by decide +kernel
theorem ow15 : ownF sg d15 = true := by decide +kernel
theorem sc16 : FnScope N16 ["told", "due"] (defScope (top 19)) := ⟨rfl, rfl, rfl, by decide +kernel, rfl, by decide +kernel, by decide +kernel⟩
theorem ck16 : chkB ⟨nm, bl, fs, N16⟩ (defScope (top 19)).names d16.body (defBody (top 19)) = true := by decide +kernel
theorem ow16 : ownF sg d16 = true := by decide +kernel
theorem sc17 : FnScope N17 ["told", "due"] (defScope (top 20)) := ⟨rfl, rfl, rfl, by decide +kernel, rfl, by decide +kernel, by decide +kernel⟩
theorem ck17 : chkB ⟨nm, bl, fs, N17⟩ (defScope (top 20)).names d17.body (defBody (top 20)) = true := by decide +kernel
theorem ow17 : ownF sg d17 = true := by decide +kernel
theorem sc18 : FnScope N18 ["told", "due"] (defScope (top 21)) := ⟨rfl, rfl, rfl, by decide +kernel, rfl, by decide +kernel, by decide +kernel⟩
theorem ck18 : chkB ⟨nm, bl, fs, N18⟩ (defScope (top 21)).names d18.body (defBody (top 21)) = true := by decide +kernel
theorem ow18 : ownF sg d18 = true := by decide +kernel
theorem sc19 : FnScope N19 ["lot"] (defScope (top 22)) := ⟨rfl, rfl, rfl, by decide +kernel, rfl, by decide +kernel, by decide +kernel⟩
theorem ck19 : chkB ⟨nm, bl, fs, N19⟩ (defScope (top 22)).names d19.body (defBody (top 22)) = true := by decide +kernel
theorem ow19 : ownF sg d19 = true := by decide +kernel
theorem sc20 : FnScope N20 ["ends", "lot", "width"] (defScope (top 23)) := ⟨rfl, rfl, rfl, by decide +kernel, rfl, by decide +kernel, by decide +kernel⟩
theorem ck20 : chkB ⟨nm, bl, fs, N20⟩ (defScope (top 23)).names d20.body (defBody (top 23)) = true := by decide +kernel
theorem ow20 : ownF sg d20 = true := by decide +kernel
theorem sc21 : FnScope N21 ["one", "other", "end"] (defScope (top 24)) := ⟨rfl, rfl, rfl, by decide +kernel, rfl, by decide +kernel, by decide +kernel⟩
theorem ck21 : chkB ⟨nm, bl, fs, N21⟩ (defScope (top 24)).names d21.body (defBody (top 24)) = true := by decide +kernel
theorem ow21 : ownF sg d21 = true := by decide +kernel
theorem sc22 : FnScope N22 ["lots", "one"] (defScope (top 25)) := ⟨rfl, rfl, rfl, by decide +kernel, rfl, by decide +kernel, by decide +kernel⟩
theorem ck22 : chkB ⟨nm, bl, fs, N22⟩ (defScope (top 25)).names d22.body (defBody (top 25)) = true := by decide +kernel
theorem ow22 : ownF sg d22 = true := by decide +kernel
theorem sc23 : FnScope N23 ["lots"] (defScope (top 26)) := ⟨rfl, rfl, rfl, by decide +kernel, rfl, by decide +kernel, by decide +kernel⟩
theorem ck23 : chkB ⟨nm, bl, fs, N23⟩ (defScope (top 26)).names d23.body (defBody (top 26)) = true := by decide +kernel
theorem ow23 : ownF sg d23 = true := by decide +kernel
theorem sc24 : FnScope N24 ["script"] (defScope (top 27)) := ⟨rfl, rfl, rfl, by decide +kernel, rfl, by decide +kernel, by decide +kernel⟩
theorem ck24 : chkB ⟨nm, bl, fs, N24⟩ (defScope (top 27)).names d24.body (defBody (top 27)) = true := by decide +kernel
theorem ow24 : ownF sg d24 = true := by decide +kernel
end K10
/-! Pv, part Q: the nested pool: made, drawn from. -/
namespace Pv
open PySem PySem.Spec PyProof.Rows L2
theorem ixN_nn {n : Nat} {i : Int} (h0 : 0 ≤ i) (h : i.toNat < n) : ixN n i = some i.toNat := by
  unfold ixN
  rw [if_pos h0, if_pos (by omega)]
theorem atI_nn {α : Type} {xs : List α} {i : Int} (h0 : 0 ≤ i) : atI xs i = xs[i.toNat]? := by
  by_cases h : i.toNat < xs.length
  · unfold atI
    rw [ixN_nn h0 h]
    rfl
  · unfold atI ixN
    rw [if_pos h0, if_neg (by omega), List.getElem?_eq_none (by omega)]
    rfl
theorem ixL {K : PySem.W.Frag} {H : Hp} {p : Addr} {xs : List V} {i : Int} {v : V} {Q : VK} (hp : H p = some (.lst xs)) (hi : atI xs i = some v) (q : Q v H) : rIx K (.ref p) (.int i) H Q :=
  .inl ⟨p, xs, i, v, rfl, rfl, .inl (.inl hp), hi, q⟩
theorem setL {H : Hp} {p : Addr} {xs : List V} {i : Int} {j : Nat} {v : V} {Q : Hp → Prop} (hp : H p = some (.lst xs)) (hi : ixN xs.length i = some j) (q : Q (upd H p (.lst (xs.set j v)))) : rSetL (.ref p) (.int i) v H Q :=
  ⟨p, xs, i, j, rfl, rfl, hp, hi, q⟩
/-- one digit of the number in cell a; a full or empty cell is left behind -/
def drawP (cs : List Int) (a n b : Int) : Option (Int × List Int × Int × Int) :=
  if 0 ≤ a ∧ 0 < b ∧ b < 1073741824 then
    match cs[a.toNat]? with
    | some c => some (c % b, cs.set a.toNat (c / b), if a < 62 ∧ (c / b = 0 ∨ n + 1 = 60) then (a + 1, 0) else (a, n + 1))
    | none => none
  else none
def drawF : List Val → FRes
  | [.pool cs a n, .int b] => match drawP cs a n b with
    | some (d, cs', a', n') => .ok (.int d) (some (.pool cs' a' n'))
    | none => .stuck
  | _ => .stuck
def scDraw : List (Str × NameKind) := [("pool", .local), ("base", .local), ("cells", .local), ("at", .local), ("digit", .local), ("int", .globalImplicit)]
def nDraw : List Str := ["pool", "base", "cells", "at", "digit"]
theorem drawF_len {args : List Val} (h : args.length ≠ 2) : drawF args = .stuck := by
  unfold drawF
  split
  · exact absurd rfl h
  · rfl
theorem drawF_ok {args : List Val} {v : Val} {o : Option Val} (h : drawF args = .ok v o) : ∃ cs a k b d cs' a' k', args = [.pool cs a k, .int b] ∧ drawP cs a k b = some (d, cs', a', k') ∧ v = .int d ∧ o = some (.pool cs' a' k') := by
  unfold drawF at h
  split at h
  · split at h
    · rename_i hd
      cases h
      exact ⟨_, _, _, _, _, _, _, _, rfl, hd, rfl, rfl⟩
    · cases h
  · cases h
theorem drawF_no {args : List Val} {e : Exc} {o : Option Val} (h : drawF args = .err e o) : False := by
  unfold drawF at h
  split at h
  · split at h <;> cases h
  · cases h
section
variable {G : Gam} {P : Program} {w : World} {mg : Str → Option Value} {base : Heap} {n : Nat}
theorem pool_end {G : Gam} {S H H' : Hp} {p q : Addr} {cs cs' : List Int} {a k b a' k' d : Int} {Q : VK} (e : Same S H) (hp : H p = some (.lst [.ref q, .int a, .int k])) (hq : H q = some (.lst (cs.map V.int))) (ne : p ≠ q) (nS : ∀ x, Owns true H (.pool cs a k) (.ref p) x → S x = none)
    (hk : ∀ x S' H', Same S S' → Same S' H' → (∀ y o, H y = some o → ¬ IoA true H [.pool cs a k, .int b] [.ref p, .int b] y → H' y = some o) → (∀ y o, S' y = some o → S y = some o ∨ H y = none ∨ IoA true H [.pool cs a k, .int b] [.ref p, .int b] y) →
      RepO G.K false S' H' (.int d) x → (∀ y, Owns false H' (.int d) x y → S' y = none ∧ (H y = none ∨ IoA true H [.pool cs a k, .int b] [.ref p, .int b] y)) → (true = true → flatV (.int d) = true) →
      IoOut G.K true S' H' H [.pool cs a k, .int b] [.ref p, .int b] (some (.pool cs' a' k')) (fun y => Owns false H' (.int d) x y) → Q x H')
    (hp' : H' p = some (.lst [.ref q, .int a', .int k'])) (hq' : H' q = some (.lst (cs'.map V.int))) (ot : ∀ x, x ≠ p → x ≠ q → H' x = H x) : Q (.int d) H' := by
  have op : Owns true H (.pool cs a k) (.ref p) p := .inl rfl
  have oq : Owns true H (.pool cs a k) (.ref p) q := .inr ⟨p, _, rfl, hp⟩
  refine hk (.int d) S H' (fun _ _ z => z) (fun x o z => ?_) (fun y o z no => ?_) (fun y o z => .inl z) (RepO.false.mpr (.int _)) (fun y o => (Owns.false o).elim) (fun _ => rfl) ⟨⟨p, q, rfl, hp', hq', ne⟩, fun y o => ?_⟩
  · rw [ot x (fun h => by subst h; rw [nS _ op] at z; cases z) fun h => by subst h; rw [nS _ oq] at z; cases z]
    exact e x o z
  · rw [ot y (fun h => by subst h; exact no op) fun h => by subst h; exact no oq]
    exact z
  · have o2 : Owns true H (.pool cs a k) (.ref p) y := by
      rcases o with o | ⟨p', t, h1, h2⟩
      · exact .inl o
      · cases h1
        rw [hp'] at h2
        cases h2
        exact oq
    exact ⟨nS y o2, .inr o2, fun z => (Owns.false z).elim⟩
set_option maxHeartbeats 4000000 in
theorem draw_ok {p1 p2 p3 p4 p5 p6 p7 p8 p9 p10 p11 p12 p13 p14 p15 p16 p17 p18 p19 p20 p21 p22 p23 p24 p25 p26 p27 p28 p29 p30 p31 p32 p33 p34 p35 p36 p37 p38 p39 p40 p41 p42 p43 p44 p45 p46 p47 p48 p49 p50 p51 p52 p53 p54 p55 p56 p57 p58 p59 p60 p61 p62 p63 p64 p65 p66 p67 p68 p69 : Pos} {j1 j2 j3 j4 j5 j6 j7 j8 j9 j10 j11 j12 j13 : Nat} {j : Nat} {x qual : Str} {st : Stmt} {f : Addr} {fd : FuncData} (FU : L2.Fun G.K x qual st f fd) (SC : FnScope nDraw ["pool", "base"] (defScope st)) (hsc : (defScope st).names = scDraw)
    (hb : defBody st = [.Assign [.Name "cells" p1] (.Subscript (.Name "pool" p2) (.Constant (.int 0) j1 p3) p4) p5, .Assign [.Name "at" p6] (.Subscript (.Name "pool" p7) (.Constant (.int 1) j2 p8) p9) p10, .Assign [.Name "digit" p11] (.BinOp (.Call (.Name "int" p12) [.Subscript (.Name "cells" p13) (.Name "at" p14) p15] [] p16) .Mod (.Name "base" p17) p18) p19, .Assign [.Subscript (.Name "cells" p20) (.Name "at" p21) p22] (.BinOp (.Call (.Name "int" p23) [.Subscript (.Name "cells" p24) (.Name "at" p25) p26] [] p27) .FloorDiv (.Name "base" p28) p29) p30, .Assign [.Subscript (.Name "pool" p31) (.Constant (.int 2) j3 p32) p33] (.BinOp (.Subscript (.Name "pool" p34) (.Constant (.int 2) j4 p35) p36) .Add (.Constant (.int 1) j5 p37) p38) p39, .If (.BoolOp .And [.Compare (.Name "at" p40) [.Lt] [.Constant (.int 62) j6 p41] p42, .BoolOp .Or [.Compare (.Subscript (.Name "cells" p43) (.Name "at" p44) p45) [.Eq] [.Constant (.int 0) j7 p46] p47, .Compare (.Subscript (.Name "pool" p48) (.Constant (.int 2) j8 p49) p50) [.Eq] [.Constant (.int 60) j9 p51] p52] p53] p54) [.Assign [.Subscript (.Name "pool" p55) (.Constant (.int 1) j10 p56) p57] (.BinOp (.Name "at" p58) .Add (.Constant (.int 1) j11 p59) p60) p61, .Assign [.Subscript (.Name "pool" p62) (.Constant (.int 2) j12 p63) p64] (.Constant (.int 0) j13 p65) p66] [] p67, .Return (some (.Name "digit" p68)) p69]) (mi : mg "int" = none) :
    FnOk P w G.K mg base (L2.CX P w) (n + 1) f fd ["pool", "base"] (spOf G ⟨true, false, true⟩ drawF) := by
  refine FU.okX SC (fun vs H Q E q => spOf.len (k := 2) (fun args z => drawF_len z) vs H Q E q) fun cdv A outer s H vs Q E hr hsp => ?_
  rw [hb]
  have lp : (cxOf (L2.CX P w) P w G.K mg base nDraw qual (defScope st) f cdv A outer s H E).env.scope.names = scDraw := hsc
  have lk : ∀ {y : Str}, scDraw.lookup y = some .local → (defScope st).names.lookup y = some .local := fun h => by rw [hsc]; exact h
  have gl : Gl (cxOf (L2.CX P w) P w G.K mg base nDraw qual (defScope st) f cdv A outer s H E) "int" := by
    show (defScope st).names.lookup (Str.ofString "int") = some NameKind.globalImplicit
    rw [hsc]
    decide +kernel
  have v0 : ∀ {pos}, PE (cxOf (L2.CX P w) P w G.K mg base nDraw qual (defScope st) f cdv A outer s H E) (.Name "pool" pos) (tVar 0) := pv 0 rfl (.inl (lk (by decide +kernel)))
  have v1 : ∀ {pos}, PE (cxOf (L2.CX P w) P w G.K mg base nDraw qual (defScope st) f cdv A outer s H E) (.Name "base" pos) (tVar 1) := pv 1 rfl (.inl (lk (by decide +kernel)))
  have v2 : ∀ {pos}, PE (cxOf (L2.CX P w) P w G.K mg base nDraw qual (defScope st) f cdv A outer s H E) (.Name "cells" pos) (tVar 2) := pv 2 rfl (.inl (lk (by decide +kernel)))
  have v3 : ∀ {pos}, PE (cxOf (L2.CX P w) P w G.K mg base nDraw qual (defScope st) f cdv A outer s H E) (.Name "at" pos) (tVar 3) := pv 3 rfl (.inl (lk (by decide +kernel)))
  have v4 : ∀ {pos}, PE (cxOf (L2.CX P w) P w G.K mg base nDraw qual (defScope st) f cdv A outer s H E) (.Name "digit" pos) (tVar 4) := pv 4 rfl (.inl (lk (by decide +kernel)))
  have ci : ∀ {e p1 p2 t}, PE (cxOf (L2.CX P w) P w G.K mg base nDraw qual (defScope st) f cdv A outer s H E) e t → starEach [e] (envOfC qual (defScope st) s.heap.objs.size f cdv) = (false, eval e (envOfC qual (defScope st) s.heap.objs.size f cdv)) :: starEach [] (envOfC qual (defScope st) s.heap.objs.size f cdv) → PE (cxOf (L2.CX P w) P w G.K mg base nDraw qual (defScope st) f cdv A outer s H E) (.Call (.Name "int" p1) [e] [] p2) _ :=
    fun h hs => pe_callTy call_int1 gl mi (by decide +kernel) (pa_cons h pa_nil hs) (by decide) (by decide) hs rfl
  have s3 : ∀ {y : Str} {i : Nat}, nDraw[i]? = some y → scDraw.lookup y = some .local → L2.Loc (defScope st) y := fun _ h => .inl (lk h)
  refine ⟨_, pss_cons (ps_set (i := 2) SC.nd rfl (.inl (lk (by decide +kernel))) (pe_ix ix_seq v0 pe_int (plain_of rfl)) rfl (.inl rfl))
    (pss_cons (ps_set (i := 3) SC.nd rfl (.inl (lk (by decide +kernel))) (pe_ix ix_seq v0 pe_int (plain_of rfl)) rfl (.inl rfl))
    (pss_cons (ps_set (i := 4) SC.nd rfl (.inl (lk (by decide +kernel))) (pe_op op_mod (ci (pe_ix ix_seq v2 v3 (plain_of rfl)) rfl) v1) rfl (.inl rfl))
    (pss_cons (ps_asg (pe_op op_fdiv (ci (pe_ix ix_seq v2 v3 (plain_of rfl)) rfl) v1) (pg_sub v2 v3 set_list))
    (pss_cons (ps_asg (pe_op op_add (pe_ix ix_seq v0 pe_int (plain_of rfl)) pe_int) (pg_sub v0 pe_int set_list))
    (pss_cons (ps_if (pw_and (pt_cmpR op_lt v3 pe_int (nomark _)) (pw_and1 (pw_or (pt_cmpR op_eq (pe_ix ix_seq v2 v3 (plain_of rfl)) pe_int (nomark _)) (pw_or1 (pt_cmpR op_eq (pe_ix ix_seq v0 pe_int (plain_of rfl)) pe_int (nomark _)))).pt)).pt
      (pss_cons (ps_asg (pe_op op_add v3 pe_int) (pg_sub v0 pe_int set_list)) (pss_one (ps_asg pe_int (pg_sub v0 pe_int set_list)))) pss_nil)
    (pss_one (ps_ret v4))))))), ?_⟩
  obtain ⟨args, S, e, i, hq⟩ := hsp
  cases qd : drawF args with
  | stuck => rw [qd] at hq; exact hq.elim
  | err x o => exact (drawF_no qd).elim
  | ok v o =>
    rw [qd] at hq
    obtain ⟨cs, a, k, b, d, cs', a', k', rfl, hd, rfl, rfl⟩ := drawF_ok qd
    unfold drawP at hd
    split at hd
    · rename_i hc
      obtain ⟨h0, hb0, hb1⟩ := hc
      split at hd
      · rename_i c hcell
        match vs, i with
        | [y, z], i =>
          obtain ⟨⟨p, q, rfl, hp, hq1, ne⟩, nS, ri⟩ := i
          cases ri with
          | cons rb rn =>
            cases rn
            cases rb
            have hlen : a.toNat < cs.length := by
              by_cases z : a.toNat < cs.length
              · exact z
              · rw [List.getElem?_eq_none (by omega)] at hcell; cases hcell
            have hat : atI (cs.map V.int) a = some (V.int c) := by
              rw [atI_nn h0, List.getElem?_map, hcell]
              rfl
            have hix : ixN (cs.map V.int).length a = some a.toNat := ixN_nn h0 (by simpa using hlen)
            have hset : (cs.map V.int).set a.toNat (V.int (c / b)) = (cs.set a.toNat (c / b)).map V.int := by rw [List.map_set]
            have hat2 : atI ((cs.set a.toNat (c / b)).map V.int) a = some (V.int (c / b)) := by
              rw [atI_nn h0, List.getElem?_map, List.getElem?_set_self hlen]
              rfl
            refine ⟨_, rfl, ixL hp rfl ?_⟩
            refine ⟨_, rfl, ixL hp rfl ?_⟩
            refine ⟨_, rfl, _, rfl, ixL hq1 hat ?_⟩
            refine .inl ⟨_, rfl, _, rfl, _, _, rfl, rfl, hb0, ?_⟩
            refine ⟨_, rfl, _, rfl, ixL hq1 hat ?_⟩
            refine .inl ⟨_, rfl, _, rfl, _, _, rfl, rfl, ⟨hb0, hb1⟩, ?_⟩
            refine ⟨_, rfl, _, rfl, setL hq1 hix ?_⟩
            rw [hset]
            have hp2 : (upd H q (.lst ((cs.set a.toNat (c / b)).map V.int))) p = some (.lst [.ref q, .int a, .int k]) := by rw [upd_ne ne]; exact hp
            refine ⟨_, rfl, ixL hp2 rfl ⟨_, _, rfl, rfl, ?_⟩⟩
            refine ⟨_, rfl, setL hp2 rfl ?_⟩
            have hp3 : (upd (upd H q (.lst ((cs.set a.toNat (c / b)).map V.int))) p (.lst [.ref q, .int a, .int (k + 1)])) p = some (.lst [.ref q, .int a, .int (k + 1)]) := upd_same
            have hq3 : (upd (upd H q (.lst ((cs.set a.toNat (c / b)).map V.int))) p (.lst [.ref q, .int a, .int (k + 1)])) q = some (.lst ((cs.set a.toNat (c / b)).map V.int)) := by rw [upd_ne ne.symm]; exact upd_same
            have ot3 : ∀ y, y ≠ p → y ≠ q → (upd (upd H q (.lst ((cs.set a.toNat (c / b)).map V.int))) p (.lst [.ref q, .int a, .int (k + 1)])) y = H y := fun y h1 h2 => by rw [upd_ne h1, upd_ne h2]
            have hd' : (d, cs', a', k') = (c % b, cs.set a.toNat (c / b), if a < 62 ∧ (c / b = 0 ∨ k + 1 = 60) then (a + 1, (0 : Int)) else (a, k + 1)) := (Option.some.inj hd).symm
            -- the full or empty cell
            have fin4 : (a < 62 ∧ (c / b = 0 ∨ k + 1 = 60)) → Q (.int (c % b)) (upd (upd (upd (upd H q (.lst ((cs.set a.toNat (c / b)).map V.int))) p (.lst [.ref q, .int a, .int (k + 1)])) p (.lst [.ref q, .int (a + 1), .int (k + 1)])) p (.lst [.ref q, .int (a + 1), .int 0])) := fun hh => by
              rw [if_pos hh] at hd'
              cases hd'
              exact pool_end (b := b) (S := S) e hp hq1 ne nS hq upd_same (by rw [upd_ne ne.symm, upd_ne ne.symm]; exact hq3) fun y h1 h2 => by rw [upd_ne h1, upd_ne h1]; exact ot3 y h1 h2
            have fin3 : ¬ (a < 62 ∧ (c / b = 0 ∨ k + 1 = 60)) → Q (.int (c % b)) (upd (upd H q (.lst ((cs.set a.toNat (c / b)).map V.int))) p (.lst [.ref q, .int a, .int (k + 1)])) := fun hh => by
              rw [if_neg hh] at hd'
              cases hd'
              exact pool_end (b := b) (S := S) e hp hq1 ne nS hq hp3 hq3 ot3
            refine ⟨_, rfl, _, _, rfl, rfl, _, rfl, ?_⟩
            have dI : ∀ {x y : Int}, x = y → decide (V.int x = V.int y) = true := fun h => decide_eq_true (congrArg V.int h)
            have dN : ∀ {x y : Int}, ¬ x = y → decide (V.int x = V.int y) = false := fun h => decide_eq_false fun z => h (V.int.inj z)
            by_cases h62 : a < 62
            · rw [decide_eq_true h62]
              refine iteT ?_
              refine ⟨_, rfl, _, rfl, ixL hq3 hat2 ⟨rfl, _, rfl, ?_⟩⟩
              by_cases h1 : c / b = 0
              · rw [dI h1]
                refine iteT (iteT ?_)
                refine ⟨_, rfl, _, _, rfl, rfl, _, rfl, setL hp3 rfl ?_⟩
                exact ⟨_, rfl, setL upd_same rfl ⟨_, rfl, fin4 ⟨h62, .inl h1⟩⟩⟩
              · rw [dN h1]
                refine iteF ?_
                refine ⟨_, rfl, ixL hp3 rfl ⟨rfl, _, rfl, ?_⟩⟩
                by_cases h2 : k + 1 = 60
                · rw [dI h2]
                  refine iteT ?_
                  refine ⟨_, rfl, _, _, rfl, rfl, _, rfl, setL hp3 rfl ?_⟩
                  exact ⟨_, rfl, setL upd_same rfl ⟨_, rfl, fin4 ⟨h62, .inr h2⟩⟩⟩
                · rw [dN h2]
                  refine iteF ?_
                  exact ⟨_, rfl, fin3 fun z => z.2.elim h1 h2⟩
            · rw [decide_eq_false h62]
              refine iteF (iteF ?_)
              exact ⟨_, rfl, fin3 fun z => h62 z.1⟩
      · cases hd
    · cases hd
end
end Pv
/-! Pv, part S: running the small language by rewriting. -/
namespace Pv
open PySem PySem.Spec PyProof.Rows L2
@[simp] theorem getS_z {v : Val} {ρ : Slots} : getS (some v :: ρ) 0 = some v := rfl
@[simp] theorem getS_n {ρ : Slots} : getS (none :: ρ) 0 = none := rfl
@[simp] theorem getS_s {a : Option Val} {ρ : Slots} {i : Nat} : getS (a :: ρ) (i + 1) = getS ρ i := rfl
@[simp] theorem bind_ok {α β : Type} {a : α} {ρ : Slots} {f : α → Slots → Res β} : (Res.ok a ρ).bind f = f a ρ := rfl
@[simp] theorem out_ok {α : Type} {a : α} {ρ : Slots} {f : α → Slots → Out} : (Res.ok a ρ).out f = f a ρ := rfl
@[simp] theorem seq_nx {ρ : Slots} {f : Slots → Out} : (Out.nx ρ).seq f = f ρ := rfl
@[simp] theorem seq_ret {v : Val} {ρ : Slots} {f : Slots → Out} : (Out.ret v ρ).seq f = .ret v ρ := rfl
@[simp] theorem seq_brk {ρ : Slots} {f : Slots → Out} : (Out.brk ρ).seq f = .brk ρ := rfl
@[simp] theorem seq_ct {ρ : Slots} {f : Slots → Out} : (Out.ct ρ).seq f = .ct ρ := rfl
section
variable {Φ : Nat → List Val → FRes} {ρ : Slots}
@[simp] theorem x_nil : exec Φ .nil ρ = .nx ρ := by rw [exec]
@[simp] theorem x_cons {s r : MS} : exec Φ (.cons s r) ρ = (exec Φ s ρ).seq fun ρ1 => exec Φ r ρ1 := by rw [exec]
@[simp] theorem x_asg {i : Nat} {e : ME} : exec Φ (.asg i e) ρ = (evalE Φ e ρ).out fun v ρ1 => .nx (ρ1.set i (some v)) := by rw [exec]
theorem x_asgT {is : List Nat} {e : ME} {vs : List Val} {ρ1 ρ2 : Slots} (h : evalE Φ e ρ = .ok (.tup vs) ρ1) (h2 : bindS is vs ρ1 = some ρ2) : exec Φ (.asgT is e) ρ = .nx ρ2 := by rw [exec, h, out_ok]; simp only [h2]
@[simp] theorem x_exp {e : ME} : exec Φ (.exp e) ρ = (evalE Φ e ρ).out fun _ ρ1 => .nx ρ1 := by rw [exec]
@[simp] theorem x_ret {e : ME} : exec Φ (.ret e) ρ = (evalE Φ e ρ).out fun v ρ1 => .ret v ρ1 := by rw [exec]
@[simp] theorem x_retN : exec Φ .retN ρ = .ret .non ρ := by rw [exec]
@[simp] theorem x_ife {c : ME} {a b : MS} : exec Φ (.ife c a b) ρ = (evalT Φ c ρ).out fun k ρ1 => if k then exec Φ a ρ1 else exec Φ b ρ1 := by rw [exec]
@[simp] theorem x_for {tg : List Nat} {tt : Bool} {it : ME} {b : MS} : exec Φ (.for_ tg tt it b) ρ = (evalI Φ it ρ).out fun xs ρ1 => forGo tg tt (exec Φ b) xs ρ1 := by rw [exec]
@[simp] theorem x_while {c : ME} {b : MS} : exec Φ (.while_ c b) ρ = whileS (evalT Φ c) (exec Φ b) ρ := by rw [exec]
@[simp] theorem x_pass : exec Φ .pass ρ = .nx ρ := by rw [exec]
@[simp] theorem x_brk : exec Φ .brk ρ = .brk ρ := by rw [exec]
@[simp] theorem x_cont : exec Φ .cont ρ = .ct ρ := by rw [exec]
theorem x_aug {i : Nat} {o : Operator} {e : ME} {a : Int} {v z : Val} {ρ1 : Slots} (h : getS ρ i = some (.int a)) (h1 : evalE Φ e ρ = .ok v ρ1) (h2 : binV o (.int a) v = some z) : exec Φ (.aug i o e) ρ = .nx (ρ1.set i (some z)) := by
  rw [exec, h]
  dsimp only
  rw [h1, out_ok, h2]
theorem x_setix {i : Nat} {ix e : ME} {v : Val} {xs : List Val} {k : Int} {j : Nat} {ρ1 : Slots} (h : evalL Φ (.cons e (.cons (.var i) (.cons ix .nil))) ρ = .ok [v, .lst xs, .int k] ρ1) (hj : ixN xs.length k = some j) : exec Φ (.setix i ix e) ρ = .nx (ρ1.set i (some (.lst (xs.set j v)))) := by
  rw [exec, h, out_ok]
  simp only [hj]
@[simp] theorem e_var {i : Nat} : evalE Φ (.var i) ρ = match getS ρ i with | some v => .ok v ρ | none => .stuck := by rw [evalE] <;> rfl
@[simp] theorem e_lit {v : Val} : evalE Φ (.lit v) ρ = .ok v ρ := by rw [evalE]
@[simp] theorem e_app {o : Op} {as : ME} : evalE Φ (.app o as) ρ = (evalL Φ as ρ).bind fun vs ρ1 => match opV o vs with | some v => .ok v ρ1 | none => .stuck := by rw [evalE] <;> rfl
@[simp] theorem e_call {f : Nat} {as : ME} : evalE Φ (.call f as) ρ = (evalL Φ as ρ).bind fun vs ρ1 => match Φ f vs with | .ok v _ => .ok v ρ1 | .err e _ => .err e ρ1 | .stuck => .stuck := by rw [evalE] <;> rfl
@[simp] theorem e_callio {f i : Nat} {as : ME} : evalE Φ (.callio f i as) ρ = (evalL Φ as ρ).bind fun vs ρ1 => match Φ f vs with
    | .ok v (some u1) => .ok v (ρ1.set i (some u1))
    | .err e (some u1) => .err e (ρ1.set i (some u1))
    | _ => .stuck := by rw [evalE] <;> rfl
theorem e_mut {m : Mut} {i : Nat} {as : ME} {xs : List Val} {vs : List Val} {ρ1 : Slots} {u v u1 : Val} (h : getS ρ i = some (.lst xs)) (h1 : evalL Φ as ρ = .ok vs ρ1) (h2 : getS ρ1 i = some u) (h3 : mutV m u vs = some (v, u1)) : evalE Φ (.mut m i as) ρ = .ok v (ρ1.set i (some u1)) := by
  rw [evalE, h]
  dsimp only
  rw [h1, bind_ok, h2]
  dsimp only
  rw [h3]
@[simp] theorem e_not {a : ME} : evalE Φ (.not_ a) ρ = (evalE Φ a ρ).bind fun v ρ1 => match truV v with | some b => .ok (.bl (!b)) ρ1 | none => .stuck := by rw [evalE] <;> rfl
theorem e_and {a b : ME} {k : Bool} {ρ1 : Slots} (h : evalE Φ a ρ = .ok (.bl k) ρ1) : evalE Φ (.and_ a b) ρ = if k then evalE Φ b ρ1 else .ok (.bl false) ρ1 := by
  rw [evalE, h, bind_ok]
  cases k <;> rfl
theorem e_or {a b : ME} {k : Bool} {ρ1 : Slots} (h : evalE Φ a ρ = .ok (.bl k) ρ1) : evalE Φ (.or_ a b) ρ = if k then .ok (.bl true) ρ1 else evalE Φ b ρ1 := by
  rw [evalE, h, bind_ok]
  cases k <;> rfl
@[simp] theorem e_ife {c a b : ME} : evalE Φ (.ife c a b) ρ = (evalT Φ c ρ).bind fun k ρ1 => if k then evalE Φ a ρ1 else evalE Φ b ρ1 := by rw [evalE]
@[simp] theorem l_nil : evalL Φ .nil ρ = .ok [] ρ := by rw [evalL]
@[simp] theorem l_var {i : Nat} {as : ME} : evalL Φ (.cons (.var i) as) ρ = match getS ρ i with
    | none => .stuck
    | some _ => (evalL Φ as ρ).bind fun vs ρ1 => match getS ρ1 i with | some v => .ok (v :: vs) ρ1 | none => .stuck := by rw [evalL]; rfl
theorem l_cons {a as : ME} (h : isVar a = none) : evalL Φ (.cons a as) ρ = (evalE Φ a ρ).bind fun v ρ1 => (evalL Φ as ρ1).bind fun vs ρ2 => .ok (v :: vs) ρ2 := by rw [evalL, h]
@[simp] theorem l_lit {v : Val} {as : ME} : evalL Φ (.cons (.lit v) as) ρ = (evalE Φ (.lit v) ρ).bind fun v ρ1 => (evalL Φ as ρ1).bind fun vs ρ2 => .ok (v :: vs) ρ2 := l_cons rfl
@[simp] theorem l_app {o : Op} {bs as : ME} : evalL Φ (.cons (.app o bs) as) ρ = (evalE Φ (.app o bs) ρ).bind fun v ρ1 => (evalL Φ as ρ1).bind fun vs ρ2 => .ok (v :: vs) ρ2 := l_cons rfl
@[simp] theorem l_call {f : Nat} {bs as : ME} : evalL Φ (.cons (.call f bs) as) ρ = (evalE Φ (.call f bs) ρ).bind fun v ρ1 => (evalL Φ as ρ1).bind fun vs ρ2 => .ok (v :: vs) ρ2 := l_cons rfl
@[simp] theorem l_callio {f i : Nat} {bs as : ME} : evalL Φ (.cons (.callio f i bs) as) ρ = (evalE Φ (.callio f i bs) ρ).bind fun v ρ1 => (evalL Φ as ρ1).bind fun vs ρ2 => .ok (v :: vs) ρ2 := l_cons rfl
@[simp] theorem l_mut {m : Mut} {i : Nat} {bs as : ME} : evalL Φ (.cons (.mut m i bs) as) ρ = (evalE Φ (.mut m i bs) ρ).bind fun v ρ1 => (evalL Φ as ρ1).bind fun vs ρ2 => .ok (v :: vs) ρ2 := l_cons rfl
@[simp] theorem l_not {a as : ME} : evalL Φ (.cons (.not_ a) as) ρ = (evalE Φ (.not_ a) ρ).bind fun v ρ1 => (evalL Φ as ρ1).bind fun vs ρ2 => .ok (v :: vs) ρ2 := l_cons rfl
@[simp] theorem l_ife {a b c as : ME} : evalL Φ (.cons (.ife a b c) as) ρ = (evalE Φ (.ife a b c) ρ).bind fun v ρ1 => (evalL Φ as ρ1).bind fun vs ρ2 => .ok (v :: vs) ρ2 := l_cons rfl
@[simp] theorem l_comp {vs tg : List Nat} {tt : Bool} {a b c as : ME} : evalL Φ (.cons (.comp vs tg tt a b c) as) ρ = (evalE Φ (.comp vs tg tt a b c) ρ).bind fun v ρ1 => (evalL Φ as ρ1).bind fun vs ρ2 => .ok (v :: vs) ρ2 := l_cons rfl
@[simp] theorem l_chain {o1 o2 : CmpOp} {a b c as : ME} : evalL Φ (.cons (.chain o1 o2 a b c) as) ρ = (evalE Φ (.chain o1 o2 a b c) ρ).bind fun v ρ1 => (evalL Φ as ρ1).bind fun vs ρ2 => .ok (v :: vs) ρ2 := l_cons rfl
@[simp] theorem t_not {a : ME} : evalT Φ (.not_ a) ρ = (evalT Φ a ρ).bind fun b ρ1 => .ok (!b) ρ1 := by rw [evalT]
@[simp] theorem t_and {a b : ME} : evalT Φ (.and_ a b) ρ = (evalT Φ a ρ).bind fun k ρ1 => if k then evalT Φ b ρ1 else .ok false ρ1 := by rw [evalT]
@[simp] theorem t_or {a b : ME} : evalT Φ (.or_ a b) ρ = (evalT Φ a ρ).bind fun k ρ1 => if k then .ok true ρ1 else evalT Φ b ρ1 := by rw [evalT]
@[simp] theorem t_var {i : Nat} : evalT Φ (.var i) ρ = match getS ρ i with
    | some v => match truV v with | some b => .ok b ρ | none => .stuck
    | none => .stuck := by rw [evalT] <;> rfl
@[simp] theorem t_app {o : Op} {as : ME} : evalT Φ (.app o as) ρ = (evalL Φ as ρ).bind fun vs ρ1 => match opV o vs with
    | some v => match truV v with | some b => .ok b ρ1 | none => .stuck
    | none => .stuck := by rw [evalT] <;> rfl
@[simp] theorem t_call {f : Nat} {as : ME} : evalT Φ (.call f as) ρ = (evalL Φ as ρ).bind fun vs ρ1 => match Φ f vs with
    | .ok v _ => match truV v with | some b => .ok b ρ1 | none => .stuck
    | .err e _ => .err e ρ1
    | .stuck => .stuck := by rw [evalT] <;> rfl
@[simp] theorem t_callio {f i : Nat} {as : ME} : evalT Φ (.callio f i as) ρ = (evalL Φ as ρ).bind fun vs ρ1 => match Φ f vs with
    | .ok v (some u1) => match truV v with | some b => .ok b (ρ1.set i (some u1)) | none => .stuck
    | .err e (some u1) => .err e (ρ1.set i (some u1))
    | _ => .stuck := by rw [evalT] <;> rfl
@[simp] theorem t_lit {b : Bool} : evalT Φ (.lit (.bl b)) ρ = .ok b ρ := by rw [evalT]
@[simp] theorem i_seq {a : ME} : evalI Φ (.seq a) ρ = (evalE Φ a ρ).bind fun v ρ1 => match itemsV v with | some xs => .ok xs ρ1 | none => .stuck := by rw [evalI] <;> rfl
@[simp] theorem i_rng {as : ME} : evalI Φ (.rng as) ρ = (evalL Φ as ρ).bind fun vs ρ1 => match rngV vs with | some xs => .ok xs ρ1 | none => .stuck := by rw [evalI] <;> rfl
end
@[simp] theorem sz {n : Nat} (h : n ≤ 1000) : (n ≤ sizeLine) = True := by
  have : 1000 ≤ sizeLine := by decide
  simp; omega
@[simp] theorem szl {n : Nat} (h : n ≤ 999) : (n < sizeLine) = True := by
  have : 1000 ≤ sizeLine := by decide
  simp; omega
section
variable {a b : Int} {x y : Bool} {v : Val} {xs ys : List Val}
@[simp] theorem o_bin {o : Operator} {u v : Val} : opV (.bin o) [u, v] = binV o u v := rfl
@[simp] theorem o_cmp {o : CmpOp} {u v : Val} : opV (.cmp o) [u, v] = cmpV o u v := rfl
@[simp] theorem o_ix {u v : Val} : opV .ix [u, v] = ixV u v := rfl
@[simp] theorem o_neg : opV .neg [.int a] = some (.int (-a)) := rfl
@[simp] theorem o_inv : opV .inv [.int a] = some (.int (Builtin.bitNot a)) := rfl
@[simp] theorem o_len_l (xs : List Val) : opV .len [.lst xs] = some (.int xs.length) := rfl
@[simp] theorem o_len_t (xs : List Val) : opV .len [.tup xs] = some (.int xs.length) := rfl
@[simp] theorem o_len_f (xs : List Int) : opV .len [.frl xs] = some (.int xs.length) := rfl
@[simp] theorem o_abs : opV .abs [.int a] = some (.int (if a < 0 then -a else a)) := rfl
@[simp] theorem o_int : opV .int1 [.int a] = some (.int a) := rfl
@[simp] theorem o_intb : opV .int1 [.bl x] = some (.int (if x then 1 else 0)) := rfl
@[simp] theorem o_max : opV .max2 [.int a, .int b] = some (.int (if b > a then b else a)) := rfl
@[simp] theorem o_min : opV .min2 [.int a, .int b] = some (.int (if b < a then b else a)) := rfl
@[simp] theorem o_sum : opV .sum1 [.lst xs] = match intsV xs with | some ns => some (.int ns.sum) | none => none := rfl
@[simp] theorem o_sortl : opV .sorted1 [.lst xs] = match intsV xs with | some ns => some (.lst ((isort ns).map .int)) | none => none := rfl
@[simp] theorem o_sortt : opV .sorted1 [.tup xs] = match intsV xs with | some ns => some (.lst ((isort ns).map .int)) | none => none := rfl
@[simp] theorem o_tupl : opV .tuple1 [.lst xs] = some (.tup xs) := rfl
@[simp] theorem o_tupt : opV .tuple1 [.tup xs] = some (.tup xs) := rfl
@[simp] theorem o_lstl : opV .list1 [.lst xs] = some (.lst xs) := rfl
@[simp] theorem o_lstt : opV .list1 [.tup xs] = some (.lst xs) := rfl
@[simp] theorem o_bits : opV .bits [.int a] = some (.int (Builtin.Int.intBits a : Nat)) := rfl
@[simp] theorem o_back : opV .back [.lst xs] = some (.lst xs.reverse) := rfl
@[simp] theorem o_dispt : opV .tup xs = if xs.length ≤ sizeLine then some (.tup xs) else none := rfl
@[simp] theorem o_displ : opV .lst xs = if xs.length ≤ sizeLine then some (.lst xs) else none := rfl
@[simp] theorem o_isi {t : Ty} : opV (.isi t) [v] = match clsV v with | some c => some (.bl (isTy c t)) | none => none := rfl
@[simp] theorem o_slice {l h : Bool} : opV (.slice l h) xs = sliceV l h xs := rfl
@[simp] theorem b_add : binV .Add (.int a) (.int b) = some (.int (a + b)) := rfl
@[simp] theorem b_addl : binV .Add (.lst xs) (.lst ys) = if xs.length + ys.length ≤ sizeLine then some (.lst (xs ++ ys)) else none := rfl
@[simp] theorem b_addt : binV .Add (.tup xs) (.tup ys) = if xs.length + ys.length ≤ sizeLine then some (.tup (xs ++ ys)) else none := rfl
@[simp] theorem b_sub : binV .Sub (.int a) (.int b) = some (.int (a - b)) := rfl
@[simp] theorem b_and : binV .BitAnd (.int a) (.int b) = some (.int (Builtin.bitAnd a b)) := rfl
@[simp] theorem b_or : binV .BitOr (.int a) (.int b) = some (.int (Builtin.bitOr a b)) := rfl
@[simp] theorem b_xor : binV .BitXor (.int a) (.int b) = some (.int (Builtin.bitXor a b)) := rfl
theorem b_mul (h : a.natAbs < 2 ^ 64 ∨ b.natAbs < 2 ^ 64) : binV .Mult (.int a) (.int b) = some (.int (a * b)) := by
  show (if _ then _ else _) = _
  rw [if_pos h]
theorem b_rep {k : Int} (h : k.natAbs < 2 ^ 63 ∧ xs.length * k.toNat ≤ sizeLine) : binV .Mult (.lst xs) (.int k) = some (.lst (List.replicate k.toNat xs).flatten) := by
  show (if _ then _ else _) = _
  rw [if_pos h]
theorem b_div (h : 0 < b ∧ b.natAbs < 1073741824) : binV .FloorDiv (.int a) (.int b) = some (.int (a / b)) := by
  show (if _ then _ else _) = _
  rw [if_pos h]
theorem b_mod (h : 0 < b) : binV .Mod (.int a) (.int b) = some (.int (a % b)) := by
  show (if _ then _ else _) = _
  rw [if_pos h]
theorem b_pow (h : 0 ≤ b ∧ b.natAbs ≤ 1000000 ∧ a.natAbs < 2 ^ 64) : binV .Pow (.int a) (.int b) = some (.int (a ^ b.toNat)) := by
  show (if _ then _ else _) = _
  rw [if_pos h]
theorem b_shl (h : 0 ≤ b ∧ Builtin.Int.intBits a + b.natAbs ≤ 2 ^ 27) : binV .LShift (.int a) (.int b) = some (.int (a * 2 ^ b.toNat)) := by
  show (if _ then _ else _) = _
  rw [if_pos h]
theorem b_shr (h : 0 ≤ b) : binV .RShift (.int a) (.int b) = some (.int (a / 2 ^ b.toNat)) := by
  show (if _ then _ else _) = _
  rw [if_pos h]
@[simp] theorem c_lt : cmpV .Lt (.int a) (.int b) = some (.bl (decide (a < b))) := rfl
@[simp] theorem c_le : cmpV .LtE (.int a) (.int b) = some (.bl (decide (a ≤ b))) := rfl
@[simp] theorem c_gt : cmpV .Gt (.int a) (.int b) = some (.bl (decide (b < a))) := rfl
@[simp] theorem c_ge : cmpV .GtE (.int a) (.int b) = some (.bl (decide (b ≤ a))) := rfl
@[simp] theorem c_eq : cmpV .Eq (.int a) (.int b) = some (.bl (a == b)) := rfl
@[simp] theorem c_ne : cmpV .NotEq (.int a) (.int b) = some (.bl (!(a == b))) := rfl
@[simp] theorem c_eqb : cmpV .Eq (.bl x) (.bl y) = some (.bl (x == y)) := rfl
@[simp] theorem c_neb : cmpV .NotEq (.bl x) (.bl y) = some (.bl (!(x == y))) := rfl
@[simp] theorem ix_l : ixV (.lst xs) (.int a) = atI xs a := rfl
@[simp] theorem ix_t : ixV (.tup xs) (.int a) = atI xs a := rfl
@[simp] theorem tr_b : truV (.bl x) = some x := rfl
@[simp] theorem tr_i : truV (.int a) = some (a != 0) := rfl
@[simp] theorem tr_l : truV (.lst xs) = some (!xs.isEmpty) := rfl
@[simp] theorem tr_t : truV (.tup xs) = some (!xs.isEmpty) := rfl
@[simp] theorem it_l : itemsV (.lst xs) = some xs := rfl
@[simp] theorem it_t : itemsV (.tup xs) = some xs := rfl
@[simp] theorem it_f {ns : List Int} : itemsV (.frl ns) = some (ns.map .int) := rfl
theorem rn1 (h : b.natAbs < 2 ^ 62) : rngV [.int b] = some (ranged 0 b) := by
  show (if _ then _ else _) = _
  rw [if_pos (by unfold rngOk; simpa using h)]
theorem rn2 (h : a.natAbs < 2 ^ 62) (h2 : b.natAbs < 2 ^ 62) : rngV [.int a, .int b] = some (ranged a b) := by
  show (if _ then _ else _) = _
  rw [if_pos (by unfold rngOk; simp; exact ⟨h, h2⟩)]
@[simp] theorem m_app : mutV .append (.lst xs) [v] = if xs.length < sizeLine then some (.non, .lst (xs ++ [v])) else none := rfl
@[simp] theorem m_ext : mutV .extend (.lst xs) [.lst ys] = if xs.length + ys.length ≤ sizeLine then some (.non, .lst (xs ++ ys)) else none := rfl
@[simp] theorem tg1 {ρ : Slots} {i : Nat} : tgS [i] false v ρ = some (ρ.set i (some v)) := by
  cases v <;> rfl
@[simp] theorem fl_b : flatV (.bl x) = true := rfl
@[simp] theorem fl_i : flatV (.int a) = true := rfl
@[simp] theorem fl_n : flatV .non = true := rfl
@[simp] theorem cl_b : clsV (.bl x) = some .bool := rfl
@[simp] theorem cl_i : clsV (.int a) = some .int := rfl
@[simp] theorem cl_t : clsV (.tup xs) = some .tuple := rfl
@[simp] theorem cl_l : clsV (.lst xs) = some .list := rfl
@[simp] theorem ty1 : isTy .bool .int = true := rfl
@[simp] theorem ty2 : isTy .bool .bool = true := rfl
@[simp] theorem ty3 : isTy .int .bool = false := rfl
@[simp] theorem ty4 : isTy .int .int = true := rfl
@[simp] theorem ty5 : isTy .tuple .tuple = true := rfl
@[simp] theorem ty6 : isTy .list .tuple = false := rfl
@[simp] theorem ty7 : isTy .int .tuple = false := rfl
@[simp] theorem ty8 : isTy .tuple .int = false := rfl
@[simp] theorem ty9 : isTy .list .list = true := rfl
theorem intsV_map : ∀ ns : List Int, intsV (ns.map .int) = some ns
  | [] => rfl
  | n :: ns => by
    show (match intsV (ns.map .int) with | some r => some (n :: r) | none => none) = _
    rw [intsV_map ns]
end
/-! ### comprehensions -/
theorem comp_run {vs tg : List Nat} {tt : Bool} {c : Slots → Res Bool} {e : Slots → Res Val} {W : Slots} {keep : Val → Bool} {f : Val → Val} :
    ∀ (items acc : List Val) (ρ : Slots), (∀ x ∈ items, ∃ ρ1, tgS tg tt x W = some ρ1 ∧ wipeS ρ1 vs = W ∧ c ρ1 = .ok (keep x) ρ1 ∧ (keep x = true → e ρ1 = .ok (f x) ρ1)) → wipeS ρ vs = W → acc.length + items.length ≤ sizeLine →
      ∃ ρ2, wipeS ρ2 vs = W ∧ compGo vs tg tt c e acc items ρ = .ok (acc ++ (items.filter keep).map f) ρ2
  | [], acc, ρ, _, hw, _ => ⟨ρ, hw, by rw [compGo]; simp⟩
  | x :: xs, acc, ρ, h, hw, hl => by
    obtain ⟨ρ1, h1, h2, h3, h4⟩ := h x (by simp)
    have hl : acc.length + (xs.length + 1) ≤ sizeLine := hl
    rw [compGo, hw, h1]
    dsimp only
    rw [h3]
    cases q : keep x with
    | false =>
      dsimp only
      obtain ⟨ρ2, k1, k2⟩ := comp_run xs acc ρ1 (fun y hy => h y (by simp [hy])) h2 (by omega)
      exact ⟨ρ2, k1, by rw [k2, List.filter_cons_of_neg (by simp [q])]⟩
    | true =>
      dsimp only
      rw [h4 q]
      dsimp only
      rw [if_pos (by omega)]
      obtain ⟨ρ2, k1, k2⟩ := comp_run xs (acc ++ [f x]) ρ1 (fun y hy => h y (by simp [hy])) h2 (by simp; omega)
      exact ⟨ρ2, k1, by rw [k2, List.filter_cons_of_pos (by simp [q])]; simp⟩
/-- a comprehension over items, its value pure: f of those that keep says; the slots are as before -/
theorem comp_ok {Φ : Nat → List Val → FRes} {vs tg : List Nat} {tt : Bool} {it kc ke : ME} {ρ ρ1 : Slots} {items : List Val} (keep : Val → Bool) (f : Val → Val) (hi : evalI Φ it ρ = .ok items ρ1)
    (h : ∀ x ∈ items, ∃ ρ2, tgS tg tt x (wipeS ρ1 vs) = some ρ2 ∧ wipeS ρ2 vs = wipeS ρ1 vs ∧ evalT Φ kc ρ2 = .ok (keep x) ρ2 ∧ (keep x = true → evalE Φ ke ρ2 = .ok (f x) ρ2)) (hl : items.length ≤ sizeLine)
    (hb : ∀ ρ2, wipeS ρ2 vs = wipeS ρ1 vs → backS ρ1 ρ2 vs = ρ1) : evalE Φ (.comp vs tg tt it kc ke) ρ = .ok (.lst ((items.filter keep).map f)) ρ1 := by
  obtain ⟨ρ2, h1, h2⟩ := comp_run (c := evalT Φ kc) (e := evalE Φ ke) items [] ρ1 h rfl (by simpa using hl)
  rw [evalE, hi, bind_ok, h2, bind_ok, hb ρ2 h1]
  rfl
theorem back1 {ρ1 : Slots} {i : Nat} : ∀ ρ2, wipeS ρ2 [i] = wipeS ρ1 [i] → backS ρ1 ρ2 [i] = ρ1 := by
  intro ρ2 h
  have h : ρ2.set i none = ρ1.set i none := h
  show ρ2.set i (ρ1.getD i none) = ρ1
  apply List.ext_getElem?
  intro j
  have hj := congrArg (fun l => l[j]?) h
  have hl := congrArg List.length h
  simp only [List.length_set] at hl
  simp only [List.getElem?_set] at hj ⊢
  by_cases e : i = j
  · subst e
    rw [if_pos rfl]
    by_cases z : i < ρ2.length
    · rw [if_pos z]
      have z' : i < ρ1.length := by omega
      simp [List.getD_eq_getElem?_getD, z']
    · rw [if_neg z]
      exact (List.getElem?_eq_none (by omega)).symm
  · rw [if_neg e, if_neg e] at hj
    rw [if_neg e]
    exact hj
/-! ### loops -/
/-- every turn goes on -/
theorem for_nx {σ : Type} {tg : List Nat} {tt : Bool} {b : Slots → Out} (S : σ → Slots) (st : σ → Val → σ) : ∀ (items : List Val) (s : σ), (∀ x ∈ items, ∀ s, ∃ ρ1, tgS tg tt x (S s) = some ρ1 ∧ (b ρ1 = .nx (S (st s x)) ∨ b ρ1 = .ct (S (st s x)))) → forGo tg tt b items (S s) = .nx (S (items.foldl st s))
  | [], s, _ => rfl
  | x :: xs, s, h => by
    obtain ⟨ρ1, h1, h2⟩ := h x (by simp) s
    have ih := for_nx S st xs (st s x) fun y hy => h y (by simp [hy])
    rw [forGo, h1]
    dsimp only
    rcases h2 with h2 | h2 <;> rw [h2] <;> exact ih
/-- a turn may end the loop, or the def -/
inductive Turn (σ : Type) where
  | go (s : σ) | stop (o : Out)
def foldT {σ : Type} (st : σ → Val → Turn σ) : List Val → σ → Turn σ
  | [], s => .go s
  | x :: xs, s => match st s x with
    | .go s' => foldT st xs s'
    | .stop o => .stop o
def isEnd : Out → Out → Prop
  | .brk ρ, o => o = .nx ρ
  | .ret v ρ, o => o = .ret v ρ
  | .err e ρ, o => o = .err e ρ
  | _, _ => False
theorem for_turn {σ : Type} {tg : List Nat} {tt : Bool} {b : Slots → Out} (S : σ → Slots) (st : σ → Val → Turn σ) : ∀ (items : List Val) (s : σ), (∀ x ∈ items, ∀ s, ∃ ρ1, tgS tg tt x (S s) = some ρ1 ∧ match st s x with
      | .go s' => b ρ1 = .nx (S s') ∨ b ρ1 = .ct (S s')
      | .stop o => isEnd (b ρ1) o) → forGo tg tt b items (S s) = match foldT st items s with
    | .go s' => .nx (S s')
    | .stop o => o
  | [], s, _ => rfl
  | x :: xs, s, h => by
    obtain ⟨ρ1, h1, h2⟩ := h x (by simp) s
    rw [forGo, h1, foldT]
    dsimp only
    cases q : st s x with
    | go s' =>
      rw [q] at h2
      have ih := for_turn S st xs s' fun y hy => h y (by simp [hy])
      rcases h2 with h2 | h2 <;> rw [h2] <;> exact ih
    | stop o =>
      rw [q] at h2
      dsimp only at h2 ⊢
      cases z : b ρ1 <;> rw [z] at h2 <;> first | exact False.elim h2 | exact h2.symm
/-- a while: m bounds the turns -/
theorem while_run {c : Slots → Res Bool} {b : Slots → Out} {ρ : Slots} {o : Out} {n : Nat} (h : whileGo c b n ρ = o) (hn : o ≠ .stuck) : whileS c b ρ = o := by
  have mono : ∀ (n m : Nat) (ρ : Slots), n ≤ m → whileGo c b n ρ ≠ .stuck → whileGo c b m ρ = whileGo c b n ρ := by
    intro n
    induction n with
    | zero => intro m ρ _ h; exact absurd rfl h
    | succ n ih =>
      intro m ρ hm h
      obtain ⟨m, rfl⟩ : ∃ k, m = k + 1 := ⟨m - 1, by omega⟩
      rw [whileGo, whileGo]
      rw [whileGo] at h
      cases q : c ρ with
      | stuck => rfl
      | err e ρ1 => rfl
      | ok k ρ1 =>
        rw [q] at h
        simp only [out_ok] at h ⊢
        cases k with
        | false => rfl
        | true =>
          simp only [if_true] at h ⊢
          cases z : b ρ1 <;> rw [z] at h <;> first | rfl | exact ih m _ (by omega) h
  have hex : ∃ n, whileGo c b n ρ ≠ .stuck := ⟨n, by rw [h]; exact hn⟩
  unfold whileS
  rw [dif_pos hex]
  have hc := Classical.choose_spec hex
  rcases Nat.le_total n (Classical.choose hex) with z | z
  · rw [mono n _ ρ z (by rw [h]; exact hn), h]
  · rw [← mono _ n ρ z hc, h]
end Pv
/-! Pv, part R: the nested pool is made. -/
namespace Pv
open PySem PySem.Spec PyProof.Rows L2
/-- the cells: the script's numbers without their signs, 63 of them -/
def cells63 (ns : List Int) : List Int := ns.map (fun i => if i < 0 then -i else i) ++ List.replicate (63 - ns.length) 0
def poolF : List Val → FRes
  | [.frl ns] => if ns.length ≤ 63 then .ok (.pool (cells63 ns) 0 0) none else .stuck
  | _ => .stuck
theorem poolF_ok {args : List Val} {v : Val} {o : Option Val} (h : poolF args = .ok v o) : ∃ ns, args = [.frl ns] ∧ ns.length ≤ 63 ∧ v = .pool (cells63 ns) 0 0 ∧ o = none := by
  unfold poolF at h
  split at h
  · split at h
    · cases h
      exact ⟨_, rfl, by assumption, rfl, rfl⟩
    · cases h
  · cases h
theorem poolF_no {args : List Val} {e : Exc} {o : Option Val} (h : poolF args = .err e o) : False := by
  unfold poolF at h
  split at h
  · split at h <;> cases h
  · cases h
theorem poolF_len {args : List Val} (h : args.length ≠ 1) : poolF args = .stuck := by
  unfold poolF
  split
  · exact absurd rfl h
  · rfl
/-- cells = [abs(int(cell)) for cell in script[:63]] -/
def mPool1 : MS := .asg 1 (.comp [2] [2] false (.seq (.app (.slice false true) (.cons (.var 0) (.cons (.lit (.int 63)) .nil)))) (.lit (.bl true)) (.app .abs (.cons (.app .int1 (.cons (.var 2) .nil)) .nil)))
/-- cells + [0] * (63 - len(cells)) -/
def mPool2 : ME := .app (.bin .Add) (.cons (.var 1) (.cons (.app (.bin .Mult) (.cons (.app .lst (.cons (.lit (.int 0)) .nil)) (.cons (.app (.bin .Sub) (.cons (.lit (.int 63)) (.cons (.app .len (.cons (.var 1) .nil)) .nil))) .nil))) .nil))
def nPool : List Str := ["script", "cells", "cell"]
def absI (i : Int) : Int := if i < 0 then -i else i
theorem cut63 {ns : List Int} (h : ns.length ≤ 63) : cutL ns none (some 63) = ns := by
  have e1 : HT.sIx ns.length 0 none = 0 := rfl
  have e2 : HT.sIx ns.length ns.length (some 63) = ns.length := by
    show (if (63 : Int) < 0 then ((63 : Int) + (ns.length : Int)).toNat else min (63 : Int).toNat ns.length) = _
    rw [if_neg (by decide)]
    exact Nat.min_eq_right h
  unfold cutL
  rw [e1, e2]
  simp
theorem pool1_ev {Φ : Nat → List Val → FRes} {ns : List Int} (h : ns.length ≤ 63) : exec Φ mPool1 [some (.frl ns), none, none] = .nx [some (.frl ns), some (.lst ((ns.map absI).map .int)), none] := by
  have hi : evalI Φ (.seq (.app (.slice false true) (.cons (.var 0) (.cons (.lit (.int 63)) .nil)))) [some (.frl ns), none, none] = .ok (ns.map .int) [some (.frl ns), none, none] := by
    simp [sliceV, cutX, cut63 h]
  have hc := comp_ok (Φ := Φ) (vs := [2]) (tg := [2]) (tt := false) (kc := .lit (.bl true)) (ke := .app .abs (.cons (.app .int1 (.cons (.var 2) .nil)) .nil)) (fun _ => true) (fun v => match v with | .int i => .int (absI i) | v => v) hi (fun x hx => by
    obtain ⟨n, _, rfl⟩ := List.mem_map.mp hx
    refine ⟨[some (.frl ns), none, some (.int n)], rfl, rfl, by simp, fun _ => ?_⟩
    simp [absI]) (by rw [List.length_map]; exact Nat.le_trans h (by decide)) back1
  unfold mPool1
  rw [x_asg, hc]
  have e : (List.filter (fun _ : Val => true) (List.map Val.int ns)) = List.map Val.int ns := List.filter_eq_self.mpr fun _ _ => rfl
  rw [e]
  simp only [out_ok, List.map_map, List.set_cons_succ, List.set_cons_zero]
  rfl
theorem pool2_ev {Φ : Nat → List Val → FRes} {ns : List Int} (h : ns.length ≤ 63) : evalE Φ mPool2 [some (.frl ns), some (.lst ((ns.map absI).map .int)), none] = .ok (.lst ((cells63 ns).map .int)) [some (.frl ns), some (.lst ((ns.map absI).map .int)), none] := by
  have e1 : ((63 : Int) - (ns.length : Int)).toNat = 63 - ns.length := by omega
  have r := b_rep (xs := [.int 0]) (k := 63 - (ns.length : Int)) ⟨by omega, by
    have : 1000 ≤ sizeLine := by decide
    simp; omega⟩
  have hl : ns.length + (63 - ns.length) ≤ 1000 := by omega
  have e3 : ∀ k : Nat, (List.replicate k [Val.int 0]).flatten = List.replicate k (Val.int 0) := fun k => by
    induction k with
    | zero => rfl
    | succ k ih => rw [List.replicate_succ, List.flatten_cons, ih, List.replicate_succ]; rfl
  have e2 : (cells63 ns).map Val.int = (ns.map absI).map Val.int ++ (List.replicate ((63 : Int) - (ns.length : Int)).toNat [Val.int 0]).flatten := by
    rw [e1, e3]
    unfold cells63
    rw [List.map_append, List.map_replicate]
    rfl
  rw [e2]
  unfold mPool2
  simp [r]
  rw [if_pos (by
    have : 1000 ≤ sizeLine := by decide
    omega)]
theorem RepL.ints_eq {K : PySem.W.Frag} {S : Hp} : ∀ {ns : List Int} {vs : List V}, RepL K S (ns.map Val.int) vs → vs = ns.map V.int
  | [], _, .nil => rfl
  | n :: ns, _, .cons (.int _) r => by rw [RepL.ints_eq r]; rfl
section
variable {G : Gam} {P : Program} {w : World} {mg : Str → Option Value} {base : Heap} {n : Nat}
theorem pool_ok {x qual : Str} {st : Stmt} {f : Addr} {fd : FuncData} {nm : Nat → Str} {bl : List Str} {s1 : Stmt} {e : Expr} {j1 j2 : Nat} {p1 p2 p3 p4 : Pos} (FU : L2.Fun G.K x qual st f fd) (SC : FnScope nPool ["script"] (defScope st))
    (hb : defBody st = [s1, .Return (some (.List [e, .Constant (.int 0) j1 p1, .Constant (.int 0) j2 p2] p3)) p4]) (h1 : chkS ⟨nm, bl, [], nPool⟩ (defScope st).names mPool1 s1 = true) (h2 : chkE ⟨nm, bl, [], nPool⟩ (defScope st).names mPool2 e = true) (h3 : noStar e = true) (hbl : ∀ x ∈ bl, mg x = none) :
    FnOk P w G.K mg base (L2.CX P w) (n + 1) f fd ["script"] (spOf G ⟨false, true, false⟩ poolF) := by
  refine FU.okX SC (fun vs H Q E q => spOf.len (k := 1) (fun args z => poolF_len z) vs H Q E q) fun cdv A outer s H vs Q E hr hsp => ?_
  rw [hb]
  have c : CxC G P w mg base n nPool (defScope st).names (fun _ => true) (fun cls dd _ H => E cls dd H) (cxOf (L2.CX P w) P w G.K mg base nPool qual (defScope st) f cdv A outer s H E) :=
    ⟨rfl, rfl, rfl, rfl, rfl, rfl, rfl, SC.kind, rfl, hr, SC.nd, fun _ _ => rfl, takes_of rfl rfl rfl rfl⟩
  have HF : ∀ f ∈ ([] : List Nat), FnFact G P w mg base n nm f := fun f hf => by cases hf
  have o1 : ownS G.sg 3 false true mPool1 [false, true, true] = some ⟨[false, true, false], [true, true, true], [true, true, true]⟩ := rfl
  have o2 : ownE G.sg mPool2 [false, true, false] = some [false, true, false] := rfl
  have a1 := (snds_all (T := ⟨nm, bl, [], nPool⟩) (nl := 3) HF hbl mPool1).s false true s1 _ _ h1 o1 c (passes_of rfl)
  have a2 := (snd_all (T := ⟨nm, bl, [], nPool⟩) HF hbl mPool2).e e _ _ h2 o2 c
  refine ⟨_, pss_cons a1 (pss_one (ps_ret (pe_lst (pa_cons a2 (pa_cons pe_int (pa_cons pe_int pa_nil)) (star_of h3 _ _))))), ?_⟩
  obtain ⟨args, S, es, i, hq⟩ := hsp
  cases qd : poolF args with
  | stuck => rw [qd] at hq; exact hq.elim
  | err x o => exact (poolF_no qd).elim
  | ok v o =>
    rw [qd] at hq
    obtain ⟨ns, rfl, hlen, rfl, rfl⟩ := poolF_ok qd
    have il := i.len
    match vs, il with
    | [y], _ =>
      refine ⟨_, S, [some (.frl ns), none, none], fun _ => rfl, gd_start (d := ⟨1, 3, false, true, false, .nil⟩) (k := 2) es i rfl, ?_⟩
      rw [pool1_ev hlen]
      intro σ' S1 H1 e1 g1
      refine ⟨_, S1, _, g1, ?_⟩
      rw [pool2_ev hlen]
      intro xq S2 H2 e2 g2 r m
      refine ⟨by show 3 ≤ sizeLine; decide, fun p hp => ?_⟩
      obtain ⟨q, us, rfl, hq2, rl⟩ := r
      obtain ⟨m1, m2, m3⟩ := m q rfl
      cases RepL.ints_eq rl
      have ne : p ≠ q := fun h => by rw [h, hq2] at hp; cases hp
      have fB : ∀ a, (open Classical in if IoA false H [Val.frl ns] [y] a then none else H a) = H a := fun a => if_neg fun z => z
      have kp : ∀ a o, H a = some o → H2 a = some o := fun a o z => g2.fr a o (by show (open Classical in if IoA false H [Val.frl ns] [y] a then none else H a) = some o; rw [fB]; exact z)
      have hB : ∀ a, (open Classical in if IoA false H [Val.frl ns] [y] a then none else H a) = none → H a = none := fun a z => by rw [fB] at z; exact z
      refine hq (.ref p) S2 _ (fun a o z => e2 a o (e1 a o z)) (fun a o z => ?_) (fun a o z _ => ?_) (fun a o z => ?_) ⟨p, q, rfl, upd_same, by rw [upd_ne ne.symm]; exact hq2, ne⟩ (fun a o => ?_) (fun z => by cases z) trivial
      · have z' := g2.sub a o z
        rw [upd_ne fun h => by rw [h, hp] at z'; cases z']
        exact z'
      · have z' := kp a o z
        rw [upd_ne fun h => by rw [h, hp] at z'; cases z']
        exact z'
      · rcases g2.nw a o z with y1 | y1
        · exact .inl y1
        · exact .inr (.inl (hB a y1))
      · rcases o with o | ⟨p', t, k1, k2⟩
        · cases o
          refine ⟨?_, .inl ?_⟩
          · cases z : S2 p with
            | none => rfl
            | some o => have := g2.sub p o z; rw [hp] at this; cases this
          · cases z : H p with
            | none => rfl
            | some o => have := kp p o z; rw [hp] at this; cases this
        · cases k1
          rw [upd_same] at k2
          cases k2
          exact ⟨m1, .inl (hB q m2)⟩
end
end Pv
namespace K10
open PySem PySem.Spec L2 Pv
def hand : Nat → List Val → FRes
  | 6 => poolF
  | 7 => drawF
  | _ => fun _ => .stuck
noncomputable def prg : Prg := ⟨fun f => (tbl[f]?).join, hand⟩
theorem all_mk {P : Program} {w : World} {K : PySem.W.Frag} {h : Heap} {mg : Str → Option Value} {fa a0 a1 a2 a3 a4 a5 a6 a7 a8 a9 a10 a11 a12 a13 a14 a15 a16 a17 a18 a19 a20 a21 a22 a23 a24 : Addr} (X : K.In h) (G : h.Ns mainGlobals mg) (hfa : mg "law" = some (.ref fa))
    {od0 an0 : Option Addr} {sl0 : Array (Option Value)} {oc0 kV0 dc0 pm0 cd0 ct0 : Value}
    (n0 : PySem.W.nsIn K mainGlobals "has_lot" = some (some (.ref a0)))
    (l0 : K.lookup a0 = some ⟨oc0, od0, .func (PySem.W.fnOf "has_lot" "has_lot" (defArgs (top 1)) (defBody (top 1)) (defScope (top 1)) .none kV0 dc0 pm0 an0 cd0 ct0), sl0⟩)
    (c0 : PySem.W.codeIn K cd0 "has_lot" = true) (k0 : PySem.W.keepIn K (.ref a0) = true)
    {od1 an1 : Option Addr} {sl1 : Array (Option Value)} {oc1 kV1 dc1 pm1 cd1 ct1 : Value}
    (n1 : PySem.W.nsIn K mainGlobals "least_lots" = some (some (.ref a1)))
    (l1 : K.lookup a1 = some ⟨oc1, od1, .func (PySem.W.fnOf "least_lots" "least_lots" (defArgs (top 2)) (defBody (top 2)) (defScope (top 2)) .none kV1 dc1 pm1 an1 cd1 ct1), sl1⟩)
    (c1 : PySem.W.codeIn K cd1 "least_lots" = true) (k1 : PySem.W.keepIn K (.ref a1) = true)
    {od2 an2 : Option Addr} {sl2 : Array (Option Value)} {oc2 kV2 dc2 pm2 cd2 ct2 : Value}
    (n2 : PySem.W.nsIn K mainGlobals "lot_of" = some (some (.ref a2)))
    (l2 : K.lookup a2 = some ⟨oc2, od2, .func (PySem.W.fnOf "lot_of" "lot_of" (defArgs (top 4)) (defBody (top 4)) (defScope (top 4)) .none kV2 dc2 pm2 an2 cd2 ct2), sl2⟩)
    (c2 : PySem.W.codeIn K cd2 "lot_of" = true) (k2 : PySem.W.keepIn K (.ref a2) = true)
    {od3 an3 : Option Addr} {sl3 : Array (Option Value)} {oc3 kV3 dc3 pm3 cd3 ct3 : Value}
    (n3 : PySem.W.nsIn K mainGlobals "ends_of" = some (some (.ref a3)))
    (l3 : K.lookup a3 = some ⟨oc3, od3, .func (PySem.W.fnOf "ends_of" "ends_of" (defArgs (top 5)) (defBody (top 5)) (defScope (top 5)) .none kV3 dc3 pm3 an3 cd3 ct3), sl3⟩)
    (c3 : PySem.W.codeIn K cd3 "ends_of" = true) (k3 : PySem.W.keepIn K (.ref a3) = true)
    {od4 an4 : Option Addr} {sl4 : Array (Option Value)} {oc4 kV4 dc4 pm4 cd4 ct4 : Value}
    (n4 : PySem.W.nsIn K mainGlobals "full_lot" = some (some (.ref a4)))
    (l4 : K.lookup a4 = some ⟨oc4, od4, .func (PySem.W.fnOf "full_lot" "full_lot" (defArgs (top 6)) (defBody (top 6)) (defScope (top 6)) .none kV4 dc4 pm4 an4 cd4 ct4), sl4⟩)
    (c4 : PySem.W.codeIn K cd4 "full_lot" = true) (k4 : PySem.W.keepIn K (.ref a4) = true)
    {od5 an5 : Option Addr} {sl5 : Array (Option Value)} {oc5 kV5 dc5 pm5 cd5 ct5 : Value}
    (n5 : PySem.W.nsIn K mainGlobals "inside" = some (some (.ref a5)))
    (l5 : K.lookup a5 = some ⟨oc5, od5, .func (PySem.W.fnOf "inside" "inside" (defArgs (top 7)) (defBody (top 7)) (defScope (top 7)) .none kV5 dc5 pm5 an5 cd5 ct5), sl5⟩)
    (c5 : PySem.W.codeIn K cd5 "inside" = true) (k5 : PySem.W.keepIn K (.ref a5) = true)
    {od6 an6 : Option Addr} {sl6 : Array (Option Value)} {oc6 kV6 dc6 pm6 cd6 ct6 : Value}
    (n6 : PySem.W.nsIn K mainGlobals "_law_pool" = some (some (.ref a6)))
    (l6 : K.lookup a6 = some ⟨oc6, od6, .func (PySem.W.fnOf "_law_pool" "_law_pool" (defArgs (top 9)) (defBody (top 9)) (defScope (top 9)) .none kV6 dc6 pm6 an6 cd6 ct6), sl6⟩)
    (c6 : PySem.W.codeIn K cd6 "_law_pool" = true) (k6 : PySem.W.keepIn K (.ref a6) = true)
    {od7 an7 : Option Addr} {sl7 : Array (Option Value)} {oc7 kV7 dc7 pm7 cd7 ct7 : Value}
    (n7 : PySem.W.nsIn K mainGlobals "_law_draw" = some (some (.ref a7)))
    (l7 : K.lookup a7 = some ⟨oc7, od7, .func (PySem.W.fnOf "_law_draw" "_law_draw" (defArgs (top 10)) (defBody (top 10)) (defScope (top 10)) .none kV7 dc7 pm7 an7 cd7 ct7), sl7⟩)
    (c7 : PySem.W.codeIn K cd7 "_law_draw" = true) (k7 : PySem.W.keepIn K (.ref a7) = true)
    {od8 an8 : Option Addr} {sl8 : Array (Option Value)} {oc8 kV8 dc8 pm8 cd8 ct8 : Value}
    (n8 : PySem.W.nsIn K mainGlobals "_law_bits" = some (some (.ref a8)))
    (l8 : K.lookup a8 = some ⟨oc8, od8, .func (PySem.W.fnOf "_law_bits" "_law_bits" (defArgs (top 11)) (defBody (top 11)) (defScope (top 11)) .none kV8 dc8 pm8 an8 cd8 ct8), sl8⟩)
    (c8 : PySem.W.codeIn K cd8 "_law_bits" = true) (k8 : PySem.W.keepIn K (.ref a8) = true)
    {od9 an9 : Option Addr} {sl9 : Array (Option Value)} {oc9 kV9 dc9 pm9 cd9 ct9 : Value}
    (n9 : PySem.W.nsIn K mainGlobals "_law_lots" = some (some (.ref a9)))
    (l9 : K.lookup a9 = some ⟨oc9, od9, .func (PySem.W.fnOf "_law_lots" "_law_lots" (defArgs (top 12)) (defBody (top 12)) (defScope (top 12)) .none kV9 dc9 pm9 an9 cd9 ct9), sl9⟩)
    (c9 : PySem.W.codeIn K cd9 "_law_lots" = true) (k9 : PySem.W.keepIn K (.ref a9) = true)
    {od10 an10 : Option Addr} {sl10 : Array (Option Value)} {oc10 kV10 dc10 pm10 cd10 ct10 : Value}
    (n10 : PySem.W.nsIn K mainGlobals "_law_turned" = some (some (.ref a10)))
    (l10 : K.lookup a10 = some ⟨oc10, od10, .func (PySem.W.fnOf "_law_turned" "_law_turned" (defArgs (top 13)) (defBody (top 13)) (defScope (top 13)) .none kV10 dc10 pm10 an10 cd10 ct10), sl10⟩)
    (c10 : PySem.W.codeIn K cd10 "_law_turned" = true) (k10 : PySem.W.keepIn K (.ref a10) = true)
    {od11 an11 : Option Addr} {sl11 : Array (Option Value)} {oc11 kV11 dc11 pm11 cd11 ct11 : Value}
    (n11 : PySem.W.nsIn K mainGlobals "_law_ends" = some (some (.ref a11)))
    (l11 : K.lookup a11 = some ⟨oc11, od11, .func (PySem.W.fnOf "_law_ends" "_law_ends" (defArgs (top 14)) (defBody (top 14)) (defScope (top 14)) .none kV11 dc11 pm11 an11 cd11 ct11), sl11⟩)
    (c11 : PySem.W.codeIn K cd11 "_law_ends" = true) (k11 : PySem.W.keepIn K (.ref a11) = true)
    {od12 an12 : Option Addr} {sl12 : Array (Option Value)} {oc12 kV12 dc12 pm12 cd12 ct12 : Value}
    (n12 : PySem.W.nsIn K mainGlobals "_law_within" = some (some (.ref a12)))
    (l12 : K.lookup a12 = some ⟨oc12, od12, .func (PySem.W.fnOf "_law_within" "_law_within" (defArgs (top 15)) (defBody (top 15)) (defScope (top 15)) .none kV12 dc12 pm12 an12 cd12 ct12), sl12⟩)
    (c12 : PySem.W.codeIn K cd12 "_law_within" = true) (k12 : PySem.W.keepIn K (.ref a12) = true)
    {od13 an13 : Option Addr} {sl13 : Array (Option Value)} {oc13 kV13 dc13 pm13 cd13 ct13 : Value}
    (n13 : PySem.W.nsIn K mainGlobals "_law_ordered" = some (some (.ref a13)))
    (l13 : K.lookup a13 = some ⟨oc13, od13, .func (PySem.W.fnOf "_law_ordered" "_law_ordered" (defArgs (top 16)) (defBody (top 16)) (defScope (top 16)) .none kV13 dc13 pm13 an13 cd13 ct13), sl13⟩)
    (c13 : PySem.W.codeIn K cd13 "_law_ordered" = true) (k13 : PySem.W.keepIn K (.ref a13) = true)
    {od14 an14 : Option Addr} {sl14 : Array (Option Value)} {oc14 kV14 dc14 pm14 cd14 ct14 : Value}
    (n14 : PySem.W.nsIn K mainGlobals "_law_least" = some (some (.ref a14)))
    (l14 : K.lookup a14 = some ⟨oc14, od14, .func (PySem.W.fnOf "_law_least" "_law_least" (defArgs (top 17)) (defBody (top 17)) (defScope (top 17)) .none kV14 dc14 pm14 an14 cd14 ct14), sl14⟩)
    (c14 : PySem.W.codeIn K cd14 "_law_least" = true) (k14 : PySem.W.keepIn K (.ref a14) = true)
    {od15 an15 : Option Addr} {sl15 : Array (Option Value)} {oc15 kV15 dc15 pm15 cd15 ct15 : Value}
    (n15 : PySem.W.nsIn K mainGlobals "_law_has" = some (some (.ref a15)))
    (l15 : K.lookup a15 = some ⟨oc15, od15, .func (PySem.W.fnOf "_law_has" "_law_has" (defArgs (top 18)) (defBody (top 18)) (defScope (top 18)) .none kV15 dc15 pm15 an15 cd15 ct15), sl15⟩)
    (c15 : PySem.W.codeIn K cd15 "_law_has" = true) (k15 : PySem.W.keepIn K (.ref a15) = true)
    {od16 an16 : Option Addr} {sl16 : Array (Option Value)} {oc16 kV16 dc16 pm16 cd16 ct16 : Value}
    (n16 : PySem.W.nsIn K mainGlobals "_law_number" = some (some (.ref a16)))
    (l16 : K.lookup a16 = some ⟨oc16, od16, .func (PySem.W.fnOf "_law_number" "_law_number" (defArgs (top 19)) (defBody (top 19)) (defScope (top 19)) .none kV16 dc16 pm16 an16 cd16 ct16), sl16⟩)
    (c16 : PySem.W.codeIn K cd16 "_law_number" = true) (k16 : PySem.W.keepIn K (.ref a16) = true)
    {od17 an17 : Option Addr} {sl17 : Array (Option Value)} {oc17 kV17 dc17 pm17 cd17 ct17 : Value}
    (n17 : PySem.W.nsIn K mainGlobals "_law_truth" = some (some (.ref a17)))
    (l17 : K.lookup a17 = some ⟨oc17, od17, .func (PySem.W.fnOf "_law_truth" "_law_truth" (defArgs (top 20)) (defBody (top 20)) (defScope (top 20)) .none kV17 dc17 pm17 an17 cd17 ct17), sl17⟩)
    (c17 : PySem.W.codeIn K cd17 "_law_truth" = true) (k17 : PySem.W.keepIn K (.ref a17) = true)
    {od18 an18 : Option Addr} {sl18 : Array (Option Value)} {oc18 kV18 dc18 pm18 cd18 ct18 : Value}
    (n18 : PySem.W.nsIn K mainGlobals "_law_numbers" = some (some (.ref a18)))
    (l18 : K.lookup a18 = some ⟨oc18, od18, .func (PySem.W.fnOf "_law_numbers" "_law_numbers" (defArgs (top 21)) (defBody (top 21)) (defScope (top 21)) .none kV18 dc18 pm18 an18 cd18 ct18), sl18⟩)
    (c18 : PySem.W.codeIn K cd18 "_law_numbers" = true) (k18 : PySem.W.keepIn K (.ref a18) = true)
    {od19 an19 : Option Addr} {sl19 : Array (Option Value)} {oc19 kV19 dc19 pm19 cd19 ct19 : Value}
    (n19 : PySem.W.nsIn K mainGlobals "_law_lot_asked" = some (some (.ref a19)))
    (l19 : K.lookup a19 = some ⟨oc19, od19, .func (PySem.W.fnOf "_law_lot_asked" "_law_lot_asked" (defArgs (top 22)) (defBody (top 22)) (defScope (top 22)) .none kV19 dc19 pm19 an19 cd19 ct19), sl19⟩)
    (c19 : PySem.W.codeIn K cd19 "_law_lot_asked" = true) (k19 : PySem.W.keepIn K (.ref a19) = true)
    {od20 an20 : Option Addr} {sl20 : Array (Option Value)} {oc20 kV20 dc20 pm20 cd20 ct20 : Value}
    (n20 : PySem.W.nsIn K mainGlobals "_law_ends_asked" = some (some (.ref a20)))
    (l20 : K.lookup a20 = some ⟨oc20, od20, .func (PySem.W.fnOf "_law_ends_asked" "_law_ends_asked" (defArgs (top 23)) (defBody (top 23)) (defScope (top 23)) .none kV20 dc20 pm20 an20 cd20 ct20), sl20⟩)
    (c20 : PySem.W.codeIn K cd20 "_law_ends_asked" = true) (k20 : PySem.W.keepIn K (.ref a20) = true)
    {od21 an21 : Option Addr} {sl21 : Array (Option Value)} {oc21 kV21 dc21 pm21 cd21 ct21 : Value}
    (n21 : PySem.W.nsIn K mainGlobals "_law_inside_asked" = some (some (.ref a21)))
    (l21 : K.lookup a21 = some ⟨oc21, od21, .func (PySem.W.fnOf "_law_inside_asked" "_law_inside_asked" (defArgs (top 24)) (defBody (top 24)) (defScope (top 24)) .none kV21 dc21 pm21 an21 cd21 ct21), sl21⟩)
    (c21 : PySem.W.codeIn K cd21 "_law_inside_asked" = true) (k21 : PySem.W.keepIn K (.ref a21) = true)
    {od22 an22 : Option Addr} {sl22 : Array (Option Value)} {oc22 kV22 dc22 pm22 cd22 ct22 : Value}
    (n22 : PySem.W.nsIn K mainGlobals "_law_has_asked" = some (some (.ref a22)))
    (l22 : K.lookup a22 = some ⟨oc22, od22, .func (PySem.W.fnOf "_law_has_asked" "_law_has_asked" (defArgs (top 25)) (defBody (top 25)) (defScope (top 25)) .none kV22 dc22 pm22 an22 cd22 ct22), sl22⟩)
    (c22 : PySem.W.codeIn K cd22 "_law_has_asked" = true) (k22 : PySem.W.keepIn K (.ref a22) = true)
    {od23 an23 : Option Addr} {sl23 : Array (Option Value)} {oc23 kV23 dc23 pm23 cd23 ct23 : Value}
    (n23 : PySem.W.nsIn K mainGlobals "_law_least_asked" = some (some (.ref a23)))
    (l23 : K.lookup a23 = some ⟨oc23, od23, .func (PySem.W.fnOf "_law_least_asked" "_law_least_asked" (defArgs (top 26)) (defBody (top 26)) (defScope (top 26)) .none kV23 dc23 pm23 an23 cd23 ct23), sl23⟩)
    (c23 : PySem.W.codeIn K cd23 "_law_least_asked" = true) (k23 : PySem.W.keepIn K (.ref a23) = true)
    {od24 an24 : Option Addr} {sl24 : Array (Option Value)} {oc24 kV24 dc24 pm24 cd24 ct24 : Value}
    (n24 : PySem.W.nsIn K mainGlobals "law" = some (some (.ref a24)))
    (l24 : K.lookup a24 = some ⟨oc24, od24, .func (PySem.W.fnOf "law" "law" (defArgs (top 27)) (defBody (top 27)) (defScope (top 27)) .none kV24 dc24 pm24 an24 cd24 ct24), sl24⟩)
    (c24 : PySem.W.codeIn K cd24 "law" = true) (k24 : PySem.W.keepIn K (.ref a24) = true)
    (z0 : PySem.W.nsIn K mainGlobals "abs" = some none)
    (z1 : PySem.W.nsIn K mainGlobals "bool" = some none)
    (z2 : PySem.W.nsIn K mainGlobals "int" = some none)
    (z3 : PySem.W.nsIn K mainGlobals "isinstance" = some none)
    (z4 : PySem.W.nsIn K mainGlobals "len" = some none)
    (z5 : PySem.W.nsIn K mainGlobals "range" = some none)
    (z6 : PySem.W.nsIn K mainGlobals "sorted" = some none)
    (z7 : PySem.W.nsIn K mainGlobals "tuple" = some none)
    : TextOk K P w mg fa nm bl fs sg prg 24 d24 := by
  have e := hfa.symm.trans (PySem.W.mg_of X G n24)
  cases e
  have F0 := L2.fun_mk (st := top 1) l0 c0 k0
  have b0 := F0.binds (ps := ["book", "lot"]) fun _ _ _ _ _ _ us hl => match us, hl with | [_, _], _ => rfl
  have D0 : DefOk K mg nm bl fs sg d0 0 a0 _ ["book", "lot"] := ⟨PySem.W.mg_of X G n0, k0, b0, _, _, _, N0, F0, sc0, rfl, rfl, ck0, ow0⟩
  have F1 := L2.fun_mk (st := top 2) l1 c1 k1
  have b1 := F1.binds (ps := ["lots"]) fun _ _ _ _ _ _ us hl => match us, hl with | [_], _ => rfl
  have D1 : DefOk K mg nm bl fs sg d1 1 a1 _ ["lots"] := ⟨PySem.W.mg_of X G n1, k1, b1, _, _, _, N1, F1, sc1, rfl, rfl, ck1, ow1⟩
  have F2 := L2.fun_mk (st := top 4) l2 c2 k2
  have b2 := F2.binds (ps := ["ends"]) fun _ _ _ _ _ _ us hl => match us, hl with | [_], _ => rfl
  have D2 : DefOk K mg nm bl fs sg d2 2 a2 _ ["ends"] := ⟨PySem.W.mg_of X G n2, k2, b2, _, _, _, N2, F2, sc2, rfl, rfl, ck2, ow2⟩
  have F3 := L2.fun_mk (st := top 5) l3 c3 k3
  have b3 := F3.binds (ps := ["lot"]) fun _ _ _ _ _ _ us hl => match us, hl with | [_], _ => rfl
  have D3 : DefOk K mg nm bl fs sg d3 3 a3 _ ["lot"] := ⟨PySem.W.mg_of X G n3, k3, b3, _, _, _, N3, F3, sc3, rfl, rfl, ck3, ow3⟩
  have F4 := L2.fun_mk (st := top 6) l4 c4 k4
  have b4 := F4.binds (ps := ["count"]) fun _ _ _ _ _ _ us hl => match us, hl with | [_], _ => rfl
  have D4 : DefOk K mg nm bl fs sg d4 4 a4 _ ["count"] := ⟨PySem.W.mg_of X G n4, k4, b4, _, _, _, N4, F4, sc4, rfl, rfl, ck4, ow4⟩
  have F5 := L2.fun_mk (st := top 7) l5 c5 k5
  have b5 := F5.binds (ps := ["one", "other"]) fun _ _ _ _ _ _ us hl => match us, hl with | [_, _], _ => rfl
  have D5 : DefOk K mg nm bl fs sg d5 5 a5 _ ["one", "other"] := ⟨PySem.W.mg_of X G n5, k5, b5, _, _, _, N5, F5, sc5, rfl, rfl, ck5, ow5⟩
  have F6 := L2.fun_mk (st := top 9) l6 c6 k6
  have b6 := F6.binds (ps := ["script"]) fun _ _ _ _ _ _ us hl => match us, hl with | [_], _ => rfl
  have F7 := L2.fun_mk (st := top 10) l7 c7 k7
  have b7 := F7.binds (ps := ["pool", "base"]) fun _ _ _ _ _ _ us hl => match us, hl with | [_, _], _ => rfl
  have F8 := L2.fun_mk (st := top 11) l8 c8 k8
  have b8 := F8.binds (ps := ["pool", "count"]) fun _ _ _ _ _ _ us hl => match us, hl with | [_, _], _ => rfl
  have D8 : DefOk K mg nm bl fs sg d8 8 a8 _ ["pool", "count"] := ⟨PySem.W.mg_of X G n8, k8, b8, _, _, _, N8, F8, sc8, rfl, rfl, ck8, ow8⟩
  have F9 := L2.fun_mk (st := top 12) l9 c9 k9
  have b9 := F9.binds (ps := ["pool", "count", "many"]) fun _ _ _ _ _ _ us hl => match us, hl with | [_, _, _], _ => rfl
  have D9 : DefOk K mg nm bl fs sg d9 9 a9 _ ["pool", "count", "many"] := ⟨PySem.W.mg_of X G n9, k9, b9, _, _, _, N9, F9, sc9, rfl, rfl, ck9, ow9⟩
  have F10 := L2.fun_mk (st := top 13) l10 c10 k10
  have b10 := F10.binds (ps := ["lots"]) fun _ _ _ _ _ _ us hl => match us, hl with | [_], _ => rfl
  have D10 : DefOk K mg nm bl fs sg d10 10 a10 _ ["lots"] := ⟨PySem.W.mg_of X G n10, k10, b10, _, _, _, N10, F10, sc10, rfl, rfl, ck10, ow10⟩
  have F11 := L2.fun_mk (st := top 14) l11 c11 k11
  have b11 := F11.binds (ps := ["lot"]) fun _ _ _ _ _ _ us hl => match us, hl with | [_], _ => rfl
  have D11 : DefOk K mg nm bl fs sg d11 11 a11 _ ["lot"] := ⟨PySem.W.mg_of X G n11, k11, b11, _, _, _, N11, F11, sc11, rfl, rfl, ck11, ow11⟩
  have F12 := L2.fun_mk (st := top 15) l12 c12 k12
  have b12 := F12.binds (ps := ["one", "other"]) fun _ _ _ _ _ _ us hl => match us, hl with | [_, _], _ => rfl
  have D12 : DefOk K mg nm bl fs sg d12 12 a12 _ ["one", "other"] := ⟨PySem.W.mg_of X G n12, k12, b12, _, _, _, N12, F12, sc12, rfl, rfl, ck12, ow12⟩
  have F13 := L2.fun_mk (st := top 16) l13 c13 k13
  have b13 := F13.binds (ps := ["lots"]) fun _ _ _ _ _ _ us hl => match us, hl with | [_], _ => rfl
  have D13 : DefOk K mg nm bl fs sg d13 13 a13 _ ["lots"] := ⟨PySem.W.mg_of X G n13, k13, b13, _, _, _, N13, F13, sc13, rfl, rfl, ck13, ow13⟩
  have F14 := L2.fun_mk (st := top 17) l14 c14 k14
  have b14 := F14.binds (ps := ["lots"]) fun _ _ _ _ _ _ us hl => match us, hl with | [_], _ => rfl
  have D14 : DefOk K mg nm bl fs sg d14 14 a14 _ ["lots"] := ⟨PySem.W.mg_of X G n14, k14, b14, _, _, _, N14, F14, sc14, rfl, rfl, ck14, ow14⟩
  have F15 := L2.fun_mk (st := top 18) l15 c15 k15
  have b15 := F15.binds (ps := ["lots", "lot"]) fun _ _ _ _ _ _ us hl => match us, hl with | [_, _], _ => rfl
  have D15 : DefOk K mg nm bl fs sg d15 15 a15 _ ["lots", "lot"] := ⟨PySem.W.mg_of X G n15, k15, b15, _, _, _, N15, F15, sc15, rfl, rfl, ck15, ow15⟩
  have F16 := L2.fun_mk (st := top 19) l16 c16 k16
  have b16 := F16.binds (ps := ["told", "due"]) fun _ _ _ _ _ _ us hl => match us, hl with | [_, _], _ => rfl
  have D16 : DefOk K mg nm bl fs sg d16 16 a16 _ ["told", "due"] := ⟨PySem.W.mg_of X G n16, k16, b16, _, _, _, N16, F16, sc16, rfl, rfl, ck16, ow16⟩
  have F17 := L2.fun_mk (st := top 20) l17 c17 k17
  have b17 := F17.binds (ps := ["told", "due"]) fun _ _ _ _ _ _ us hl => match us, hl with | [_, _], _ => rfl
  have D17 : DefOk K mg nm bl fs sg d17 17 a17 _ ["told", "due"] := ⟨PySem.W.mg_of X G n17, k17, b17, _, _, _, N17, F17, sc17, rfl, rfl, ck17, ow17⟩
  have F18 := L2.fun_mk (st := top 21) l18 c18 k18
  have b18 := F18.binds (ps := ["told", "due"]) fun _ _ _ _ _ _ us hl => match us, hl with | [_, _], _ => rfl
  have D18 : DefOk K mg nm bl fs sg d18 18 a18 _ ["told", "due"] := ⟨PySem.W.mg_of X G n18, k18, b18, _, _, _, N18, F18, sc18, rfl, rfl, ck18, ow18⟩
  have F19 := L2.fun_mk (st := top 22) l19 c19 k19
  have b19 := F19.binds (ps := ["lot"]) fun _ _ _ _ _ _ us hl => match us, hl with | [_], _ => rfl
  have D19 : DefOk K mg nm bl fs sg d19 19 a19 _ ["lot"] := ⟨PySem.W.mg_of X G n19, k19, b19, _, _, _, N19, F19, sc19, rfl, rfl, ck19, ow19⟩
  have F20 := L2.fun_mk (st := top 23) l20 c20 k20
  have b20 := F20.binds (ps := ["ends", "lot", "width"]) fun _ _ _ _ _ _ us hl => match us, hl with | [_, _, _], _ => rfl
  have D20 : DefOk K mg nm bl fs sg d20 20 a20 _ ["ends", "lot", "width"] := ⟨PySem.W.mg_of X G n20, k20, b20, _, _, _, N20, F20, sc20, rfl, rfl, ck20, ow20⟩
  have F21 := L2.fun_mk (st := top 24) l21 c21 k21
  have b21 := F21.binds (ps := ["one", "other", "end"]) fun _ _ _ _ _ _ us hl => match us, hl with | [_, _, _], _ => rfl
  have D21 : DefOk K mg nm bl fs sg d21 21 a21 _ ["one", "other", "end"] := ⟨PySem.W.mg_of X G n21, k21, b21, _, _, _, N21, F21, sc21, rfl, rfl, ck21, ow21⟩
  have F22 := L2.fun_mk (st := top 25) l22 c22 k22
  have b22 := F22.binds (ps := ["lots", "one"]) fun _ _ _ _ _ _ us hl => match us, hl with | [_, _], _ => rfl
  have D22 : DefOk K mg nm bl fs sg d22 22 a22 _ ["lots", "one"] := ⟨PySem.W.mg_of X G n22, k22, b22, _, _, _, N22, F22, sc22, rfl, rfl, ck22, ow22⟩
  have F23 := L2.fun_mk (st := top 26) l23 c23 k23
  have b23 := F23.binds (ps := ["lots"]) fun _ _ _ _ _ _ us hl => match us, hl with | [_], _ => rfl
  have D23 : DefOk K mg nm bl fs sg d23 23 a23 _ ["lots"] := ⟨PySem.W.mg_of X G n23, k23, b23, _, _, _, N23, F23, sc23, rfl, rfl, ck23, ow23⟩
  have F24 := L2.fun_mk (st := top 27) l24 c24 k24
  have b24 := F24.binds (ps := ["script"]) fun _ _ _ _ _ _ us hl => match us, hl with | [_], _ => rfl
  have D24 : DefOk K mg nm bl fs sg d24 24 fa _ ["script"] := ⟨PySem.W.mg_of X G n24, k24, b24, _, _, _, N24, F24, sc24, rfl, rfl, ck24, ow24⟩
  have hbl : ∀ x ∈ bl, mg x = none := allC (PySem.W.mg_none_of X G z1) (allC (PySem.W.mg_none_of X G z2) (allC (PySem.W.mg_none_of X G z3) (allC (PySem.W.mg_none_of X G z4) (allC (PySem.W.mg_none_of X G z5) (allC (PySem.W.mg_none_of X G z6) (allC (PySem.W.mg_none_of X G z7) (allN)))))))
  refine ⟨_, fun s v => .of_eq rfl, D24, hbl, fun base _ _ => ?_⟩
  show ∀ f ∈ [0, 1, 2, 3, 4, 5, 6, 7, 8, 9, 10, 11, 12, 13, 14, 15, 16, 17, 18, 19, 20, 21, 22, 23, 24], _
  refine allC ?f0 (allC ?f1 (allC ?f2 (allC ?f3 (allC ?f4 (allC ?f5 (allC ?f6 (allC ?f7 (allC ?f8 (allC ?f9 (allC ?f10 (allC ?f11 (allC ?f12 (allC ?f13 (allC ?f14 (allC ?f15 (allC ?f16 (allC ?f17 (allC ?f18 (allC ?f19 (allC ?f20 (allC ?f21 (allC ?f22 (allC ?f23 (allC ?f24 (allN)))))))))))))))))))))))))
  · exact .inl ⟨d0, _, _, _, rfl, rfl, D0⟩
  · exact .inl ⟨d1, _, _, _, rfl, rfl, D1⟩
  · exact .inl ⟨d2, _, _, _, rfl, rfl, D2⟩
  · exact .inl ⟨d3, _, _, _, rfl, rfl, D3⟩
  · exact .inl ⟨d4, _, _, _, rfl, rfl, D4⟩
  · exact .inl ⟨d5, _, _, _, rfl, rfl, D5⟩
  · refine .inr ⟨rfl, _, _, _, PySem.W.mg_of X G n6, k6, b6, fun n => ?_⟩
    exact pool_ok (G := GA K sg prg 0) (nm := nm) (bl := ["abs", "int", "len"]) F6 sc6 rfl (by decide +kernel) (by decide +kernel) rfl (allC (PySem.W.mg_none_of X G z0) (allC (PySem.W.mg_none_of X G z2) (allC (PySem.W.mg_none_of X G z4) allN)))
  · refine .inr ⟨rfl, _, _, _, PySem.W.mg_of X G n7, k7, b7, fun n => ?_⟩
    exact draw_ok (G := GA K sg prg 0) (j := 0) F7 sc7 rfl rfl (PySem.W.mg_none_of X G z2)
  · exact .inl ⟨d8, _, _, _, rfl, rfl, D8⟩
  · exact .inl ⟨d9, _, _, _, rfl, rfl, D9⟩
  · exact .inl ⟨d10, _, _, _, rfl, rfl, D10⟩
  · exact .inl ⟨d11, _, _, _, rfl, rfl, D11⟩
  · exact .inl ⟨d12, _, _, _, rfl, rfl, D12⟩
  · exact .inl ⟨d13, _, _, _, rfl, rfl, D13⟩
  · exact .inl ⟨d14, _, _, _, rfl, rfl, D14⟩
  · exact .inl ⟨d15, _, _, _, rfl, rfl, D15⟩
  · exact .inl ⟨d16, _, _, _, rfl, rfl, D16⟩
  · exact .inl ⟨d17, _, _, _, rfl, rfl, D17⟩
  · exact .inl ⟨d18, _, _, _, rfl, rfl, D18⟩
  · exact .inl ⟨d19, _, _, _, rfl, rfl, D19⟩
  · exact .inl ⟨d20, _, _, _, rfl, rfl, D20⟩
  · exact .inl ⟨d21, _, _, _, rfl, rfl, D21⟩
  · exact .inl ⟨d22, _, _, _, rfl, rfl, D22⟩
  · exact .inl ⟨d23, _, _, _, rfl, rfl, D23⟩
  · exact .inl ⟨d24, _, _, _, rfl, rfl, D24⟩
end K10
/-! Pv, part T: loops by an invariant; drawing; lists of naturals. -/
namespace Pv
open PySem PySem.Spec PyProof.Rows L2
/-- a loop that looks for one: r is handed back at the first x that P says of -/
theorem for_any {tg : List Nat} {tt : Bool} {b : Slots → Out} {I : Slots → Prop} {P : Val → Bool} {r : Val} : ∀ (items : List Val), (∀ x ∈ items, ∀ ρ, I ρ → ∃ ρ1, tgS tg tt x ρ = some ρ1 ∧ ((P x = true ∧ ∃ ρ2, b ρ1 = .ret r ρ2) ∨ (P x = false ∧ ∃ ρ2, (b ρ1 = .nx ρ2 ∨ b ρ1 = .ct ρ2) ∧ I ρ2))) →
    ∀ ρ, I ρ → (items.any P = true ∧ ∃ ρ2, forGo tg tt b items ρ = .ret r ρ2) ∨ (items.any P = false ∧ ∃ ρ2, forGo tg tt b items ρ = .nx ρ2 ∧ I ρ2)
  | [], _, ρ, i => .inr ⟨rfl, ρ, rfl, i⟩
  | x :: xs, h, ρ, i => by
    obtain ⟨ρ1, h1, h2⟩ := h x (by simp) ρ i
    rw [forGo, h1]
    dsimp only
    rcases h2 with ⟨p, ρ2, h2⟩ | ⟨p, ρ2, h2, i2⟩
    · exact .inl ⟨by simp [p], ρ2, by rw [h2]⟩
    · have ih := for_any xs (fun y hy => h y (by simp [hy])) ρ2 i2
      have e : (x :: xs).any P = xs.any P := by simp [p]
      rw [e]
      rcases h2 with h2 | h2 <;> rw [h2] <;> exact ih
theorem for_inv {tg : List Nat} {tt : Bool} {b : Slots → Out} : ∀ (items : List Val) (I : Nat → Slots → Prop), (∀ k x, items[k]? = some x → ∀ ρ, I k ρ → ∃ ρ1 ρ2, tgS tg tt x ρ = some ρ1 ∧ (b ρ1 = .nx ρ2 ∨ b ρ1 = .ct ρ2) ∧ I (k + 1) ρ2) →
    ∀ ρ, I 0 ρ → ∃ ρ', forGo tg tt b items ρ = .nx ρ' ∧ I items.length ρ'
  | [], I, _, ρ, i => ⟨ρ, rfl, i⟩
  | x :: xs, I, h, ρ, i => by
    obtain ⟨ρ1, ρ2, h1, h2, i2⟩ := h 0 x rfl ρ i
    obtain ⟨ρ3, h3, i3⟩ := for_inv xs (fun k => I (k + 1)) (fun k y hy => h (k + 1) y hy) ρ2 i2
    rw [forGo, h1]
    dsimp only
    rcases h2 with h2 | h2 <;> rw [h2] <;> exact ⟨ρ3, h3, i3⟩
/-! ### naturals -/
def nl (xs : List Nat) : List Val := xs.map fun n : Nat => Val.int (n : Int)
theorem nl_len (xs : List Nat) : (nl xs).length = xs.length := List.length_map _
theorem nl_mem {xs : List Nat} {v : Val} (h : v ∈ nl xs) : ∃ n ∈ xs, v = .int (n : Int) := by
  obtain ⟨n, h1, rfl⟩ := List.mem_map.mp h
  exact ⟨n, h1, rfl⟩
theorem nl_at {xs : List Nat} {k : Nat} {v : Val} (h : (nl xs)[k]? = some v) : ∃ n, xs[k]? = some n ∧ v = .int (n : Int) := by
  unfold nl at h
  rw [List.getElem?_map] at h
  cases q : xs[k]? with
  | none => rw [q] at h; cases h
  | some n => rw [q] at h; cases h; exact ⟨n, rfl, rfl⟩
theorem nl_append (xs ys : List Nat) : nl (xs ++ ys) = nl xs ++ nl ys := List.map_append
theorem nl_ints (xs : List Nat) : intsV (nl xs) = some (xs.map fun n : Nat => (n : Int)) := by
  have e : nl xs = (xs.map fun n : Nat => (n : Int)).map Val.int := by unfold nl; rw [List.map_map]; rfl
  rw [e, intsV_map]
theorem atI_nl {xs : List Nat} {k n : Nat} (h : xs[k]? = some n) : atI (nl xs) (k : Int) = some (.int (n : Int)) := by
  rw [atI_nn (by omega)]
  unfold nl
  rw [List.getElem?_map]
  simp [h]
theorem isort_id {xs : List Nat} (h : xs.Pairwise (· ≤ ·)) : isort (xs.map fun n : Nat => (n : Int)) = xs.map fun n : Nat => (n : Int) := by
  unfold isort
  refine List.mergeSort_of_pairwise ?_
  rw [List.pairwise_map]
  exact h.imp fun h => by simpa using h
theorem ranged_nat (m : Nat) : ranged 0 (m : Int) = nl (List.range m) := by
  unfold ranged nl
  have : ((m : Int) - 0).toNat = m := by omega
  rw [this]
  simp
theorem rngN {m : Nat} (h : m < 2 ^ 62) : rngV [.int (m : Int)] = some (nl (List.range m)) := by
  rw [rn1 (by omega), ranged_nat]
theorem shlN {a b : Nat} (h : a < 2 ^ 60) (hb : b ≤ 1000) : binV .LShift (.int (a : Int)) (.int (b : Int)) = some (.int ((a * 2 ^ b : Nat) : Int)) := by
  have e : Builtin.Int.intBits (a : Int) ≤ 60 := PySem.intBits_le_iff.mpr (by simpa using h)
  rw [b_shl ⟨by omega, by omega⟩]
  simp
theorem modN {a b : Nat} (h : 0 < b) : binV .Mod (.int (a : Int)) (.int (b : Int)) = some (.int ((a % b : Nat) : Int)) := by
  rw [b_mod (by omega)]
  simp
theorem divN {a b : Nat} (h : 0 < b) (h2 : b < 1073741824) : binV .FloorDiv (.int (a : Int)) (.int (b : Int)) = some (.int ((a / b : Nat) : Int)) := by
  rw [b_div ⟨by omega, by omega⟩]
  simp
theorem andN {a b : Nat} : binV .BitAnd (.int (a : Int)) (.int (b : Int)) = some (.int ((a &&& b : Nat) : Int)) := by
  rw [b_and, PySem.W.os_band]
theorem eqN {a b : Nat} : cmpV .Eq (.int (a : Int)) (.int (b : Int)) = some (.bl (a == b)) := by
  rw [c_eq]
  congr 2
  by_cases h : a = b
  · subst h; simp
  · rw [beq_eq_false_iff_ne.mpr h, beq_eq_false_iff_ne.mpr (by omega)]
/-! ### drawing -/
def goodP (v : Val) : Prop := ∃ cs a n, v = .pool cs a n ∧ cs.length = 63 ∧ 0 ≤ a ∧ a ≤ 62
theorem drawF_good {p : Val} {b : Nat} (h : goodP p) (hb : 0 < b) (hb2 : b < 1073741824) : ∃ (d : Nat) (p' : Val), drawF [p, .int (b : Int)] = .ok (.int (d : Int)) (some p') ∧ d < b ∧ goodP p' := by
  obtain ⟨cs, a, n, rfl, h1, h2, h3⟩ := h
  have hlt : a.toNat < cs.length := by omega
  have hc : cs[a.toNat]? = some cs[a.toNat] := List.getElem?_eq_getElem hlt
  have hm : 0 ≤ cs[a.toNat] % (b : Int) := Int.emod_nonneg _ (by omega)
  have hm2 : cs[a.toNat] % (b : Int) < (b : Int) := Int.emod_lt_of_pos _ (by omega)
  refine ⟨(cs[a.toNat] % (b : Int)).toNat, .pool (cs.set a.toNat (cs[a.toNat] / (b : Int))) (if a < 62 ∧ (cs[a.toNat] / (b : Int) = 0 ∨ n + 1 = 60) then (a + 1, (0 : Int)) else (a, n + 1)).1 (if a < 62 ∧ (cs[a.toNat] / (b : Int) = 0 ∨ n + 1 = 60) then (a + 1, (0 : Int)) else (a, n + 1)).2, ?_, ?_, ?_⟩
  · unfold drawF drawP
    dsimp only
    rw [if_pos ⟨h2, by omega, by omega⟩, hc]
    dsimp only
    rw [Int.toNat_of_nonneg hm]
  · omega
  · by_cases q : a < 62 ∧ (cs[a.toNat] / (b : Int) = 0 ∨ n + 1 = 60)
    · rw [if_pos q]
      exact ⟨_, _, _, rfl, by simp [h1], by dsimp only; omega, by dsimp only; omega⟩
    · rw [if_neg q]
      exact ⟨_, _, _, rfl, by simp [h1], h2, h3⟩
theorem poolF_good {ns : List Int} (h : ns.length ≤ 63) : ∃ p, poolF [.frl ns] = .ok p none ∧ goodP p := by
  refine ⟨_, by unfold poolF; dsimp only; rw [if_pos h], _, _, _, rfl, ?_, by omega, by omega⟩
  unfold cells63
  simp
  omega
end Pv
/-! books: has_lot, least_lots, meets_all, blocker: what they give. -/
namespace Bk
open PySem PySem.Spec L2 Pv
def bk0 : FDef := ⟨2, 3, false, true, true, (.cons (.for_ [2] false (.seq (.var 0))
    (.cons (.ife (.app (.cmp .Eq) (.cons (.app (.bin .BitAnd) (.cons (.var 2) (.cons (.var 1) .nil))) (.cons (.var 2) .nil)))
      (.cons (.ret (.lit (.bl true)))
      .nil)
      .nil)
    .nil))
  (.cons (.ret (.lit (.bl false)))
  .nil))⟩
def bk1 : FDef := ⟨1, 3, false, true, false, (.cons (.asg 1 (.app .lst .nil))
  (.cons (.for_ [2] false (.seq (.app .sorted1 (.cons (.var 0) .nil)))
    (.cons (.ife (.not_ (.call 0 (.cons (.var 1) (.cons (.var 2) .nil))))
      (.cons (.exp (.mut .append 1 (.cons (.var 2) .nil)))
      .nil)
      .nil)
    .nil))
  (.cons (.ret (.app .tuple1 (.cons (.var 1) .nil)))
  .nil)))⟩
def bk2 : FDef := ⟨2, 3, false, true, true, (.cons (.for_ [2] false (.seq (.var 1))
    (.cons (.ife (.app (.cmp .Eq) (.cons (.app (.bin .BitAnd) (.cons (.var 2) (.cons (.var 0) .nil))) (.cons (.lit (.int 0)) .nil)))
      (.cons (.ret (.lit (.bl false)))
      .nil)
      .nil)
    .nil))
  (.cons (.ret (.lit (.bl true)))
  .nil))⟩
def bk3 : FDef := ⟨2, 4, false, true, false, (.cons (.asg 2 (.comp [3] [3] false (.rng (.cons (.app (.bin .LShift) (.cons (.lit (.int 1)) (.cons (.var 0) .nil))) .nil)) (.call 2 (.cons (.var 3) (.cons (.var 1) .nil))) (.var 3)))
  (.cons (.ret (.call 1 (.cons (.app .tuple1 (.cons (.var 2) .nil)) .nil)))
  .nil))⟩
def hasLot (book : List Nat) (lot : Nat) : Bool := book.any fun one => one &&& lot == one
def meetsAll (lot : Nat) (book : List Nat) : Bool := !book.any fun one => one &&& lot == 0
def leastGo : List Nat → List Nat → List Nat
  | kept, [] => kept
  | kept, x :: xs => if hasLot kept x then leastGo kept xs else leastGo (kept ++ [x]) xs
def blockL (count : Nat) (book : List Nat) : List Nat := leastGo [] ((List.range (2 ^ count)).filter fun lot => meetsAll lot book)
variable {Φ : Nat → List Val → FRes}
/-- what P says of a natural -/
def onN (P : Nat → Bool) : Val → Bool
  | .int i => P i.toNat
  | _ => false
theorem onN_any (P : Nat → Bool) (xs : List Nat) : (nl xs).any (onN P) = xs.any P := by
  unfold nl
  rw [List.any_map]
  rfl
theorem hasLot_run {v : Val} {book : List Nat} {lot : Nat} (hv : v = .lst (nl book) ∨ v = .tup (nl book)) : runF bk0 Φ [v, .int (lot : Int)] = .ok (.bl (hasLot book lot)) none := by
  have hi : itemsV v = some (nl book) := by rcases hv with rfl | rfl <;> rfl
  have key := for_any (tg := [2]) (tt := false) (b := exec Φ (.cons (.ife (.app (.cmp .Eq) (.cons (.app (.bin .BitAnd) (.cons (.var 2) (.cons (.var 1) .nil))) (.cons (.var 2) .nil))) (.cons (.ret (.lit (.bl true))) .nil) .nil) .nil))
    (I := fun ρ => ∃ s, ρ = [some v, some (.int (lot : Int)), s]) (P := onN fun one => one &&& lot == one) (r := .bl true) (nl book) (fun x hx ρ ⟨s, hs⟩ => by
      subst hs
      obtain ⟨m, _, rfl⟩ := nl_mem hx
      refine ⟨_, tg1, ?_⟩
      simp only [List.set_cons_succ, List.set_cons_zero]
      by_cases h : (m &&& lot == m) = true
      · exact .inl ⟨h, _, by simp [andN, eqN, h, -c_eq, -b_and]; rfl⟩
      · have h : (m &&& lot == m) = false := by simpa using h
        exact .inr ⟨h, _, .inl (by simp [andN, eqN, h, -c_eq, -b_and]; rfl), _, rfl⟩) [some v, some (.int (lot : Int)), none] ⟨none, rfl⟩
  have e : hasLot book lot = (nl book).any (onN fun one => one &&& lot == one) := (onN_any _ _).symm
  rw [e]
  unfold runF bk0
  simp only [List.length_cons, List.length_nil, if_true, List.map_cons, List.map_nil, x_cons, x_for, i_seq]
  rcases key with ⟨h1, ρ2, h2⟩ | ⟨h1, ρ2, h2, s, rfl⟩
  · simp [hi, h2, h1, resF, outR]
  · simp [hi, h2, h1, resF, outR]
theorem meets_run {book : List Nat} {lot : Nat} : runF bk2 Φ [.int (lot : Int), .tup (nl book)] = .ok (.bl (meetsAll lot book)) none := by
  have key := for_any (tg := [2]) (tt := false) (b := exec Φ (.cons (.ife (.app (.cmp .Eq) (.cons (.app (.bin .BitAnd) (.cons (.var 2) (.cons (.var 0) .nil))) (.cons (.lit (.int 0)) .nil))) (.cons (.ret (.lit (.bl false))) .nil) .nil) .nil))
    (I := fun ρ => ∃ s, ρ = [some (.int (lot : Int)), some (.tup (nl book)), s]) (P := onN fun one => one &&& lot == 0) (r := .bl false) (nl book) (fun x hx ρ ⟨s, hs⟩ => by
      subst hs
      obtain ⟨m, _, rfl⟩ := nl_mem hx
      refine ⟨_, tg1, ?_⟩
      simp only [List.set_cons_succ, List.set_cons_zero]
      have e0 : ((0 : Nat) : Int) = 0 := rfl
      have q := eqN (a := m &&& lot) (b := 0)
      rw [e0] at q
      by_cases h : (m &&& lot == 0) = true
      · exact .inl ⟨h, _, by simp [andN, q, h, -c_eq, -b_and]; rfl⟩
      · have h : (m &&& lot == 0) = false := by simpa using h
        exact .inr ⟨h, _, .inl (by simp [andN, q, h, -c_eq, -b_and]; rfl), _, rfl⟩) [some (.int (lot : Int)), some (.tup (nl book)), none] ⟨none, rfl⟩
  have e : meetsAll lot book = !(nl book).any (onN fun one => one &&& lot == 0) := by rw [onN_any]; rfl
  rw [e]
  unfold runF bk2
  simp only [List.length_cons, List.length_nil, if_true, List.map_cons, List.map_nil, x_cons, x_for, i_seq]
  rcases key with ⟨h1, ρ2, h2⟩ | ⟨h1, ρ2, h2, s, rfl⟩
  · simp [h2, h1, resF, outR]
  · simp [h2, h1, resF, outR]
theorem least_run {lots : List Nat} (h0 : ∀ kept lot, Φ 0 [.lst (nl kept), .int ((lot : Nat) : Int)] = .ok (.bl (hasLot kept lot)) none) (hs : lots.Pairwise (· ≤ ·)) (hl : lots.length ≤ 1000) : runF bk1 Φ [.tup (nl lots)] = .ok (.tup (nl (leastGo [] lots))) none := by
  have step : ∀ (xs kept : List Nat) (s : Option Val), kept.length + xs.length ≤ 1000 → ∃ s', forGo [2] false (exec Φ (.cons (.ife (.not_ (.call 0 (.cons (.var 1) (.cons (.var 2) .nil)))) (.cons (.exp (.mut .append 1 (.cons (.var 2) .nil))) .nil) .nil) .nil)) (nl xs) [some (.tup (nl lots)), some (.lst (nl kept)), s] =
      .nx [some (.tup (nl lots)), some (.lst (nl (leastGo kept xs))), s'] := by
    intro xs
    induction xs with
    | nil => exact fun kept s _ => ⟨s, rfl⟩
    | cons x xs ih =>
      intro kept s hk
      have hk' : kept.length + (xs.length + 1) ≤ 1000 := hk
      have e : nl (x :: xs) = .int (x : Int) :: nl xs := rfl
      rw [e, forGo, tg1, leastGo]
      simp only [List.set_cons_succ, List.set_cons_zero]
      cases q : hasLot kept x with
      | true =>
        obtain ⟨s', h⟩ := ih kept (some (.int (x : Int))) (by omega)
        refine ⟨s', ?_⟩
        simp [h0, q]
        exact h
      | false =>
        obtain ⟨s', h⟩ := ih (kept ++ [x]) (some (.int (x : Int))) (by simp; omega)
        refine ⟨s', ?_⟩
        have m := e_mut (Φ := Φ) (m := .append) (i := 1) (as := .cons (.var 2) .nil) (ρ := [some (.tup (nl lots)), some (.lst (nl kept)), some (.int (x : Int))]) (xs := nl kept) (vs := [.int (x : Int)]) (ρ1 := [some (.tup (nl lots)), some (.lst (nl kept)), some (.int (x : Int))]) (u := .lst (nl kept)) (v := .non) (u1 := .lst (nl (kept ++ [x]))) rfl (by simp) rfl
          (by rw [m_app, if_pos (by rw [nl_len]; exact Nat.lt_of_lt_of_le (by omega) (by decide : 1000 ≤ sizeLine)), nl_append]; rfl)
        simp [h0, q, m]
        exact h
  obtain ⟨s', h⟩ := step lots [] none (by simpa using hl)
  unfold runF bk1
  have hn : nl [] = [] := rfl
  rw [hn] at h
  simp [nl_ints, isort_id hs, resF, outR]
  rw [show List.map (Val.int ∘ fun n : Nat => (n : Int)) lots = nl lots from rfl, h]
  simp
theorem blocker_run {count : Nat} {book : List Nat} (h1 : ∀ lots : List Nat, lots.Pairwise (· ≤ ·) → lots.length ≤ 1000 → Φ 1 [.tup (nl lots)] = .ok (.tup (nl (leastGo [] lots))) none) (h2 : ∀ lot : Nat, Φ 2 [.int (lot : Int), .tup (nl book)] = .ok (.bl (meetsAll lot book)) none) (hc : count ≤ 9) :
    runF bk3 Φ [.int (count : Int), .tup (nl book)] = .ok (.tup (nl (blockL count book))) none := by
  have hp : 2 ^ count ≤ 2 ^ 9 := Nat.pow_le_pow_right (by omega) hc
  have hi : evalI Φ (.rng (.cons (.app (.bin .LShift) (.cons (.lit (.int 1)) (.cons (.var 0) .nil))) .nil)) [some (.int (count : Int)), some (.tup (nl book)), none, none] = .ok (nl (List.range (2 ^ count))) [some (.int (count : Int)), some (.tup (nl book)), none, none] := by
    have e := shlN (a := 1) (b := count) (by decide) (by omega)
    have e1 : ((1 : Nat) : Int) = 1 := rfl
    rw [e1] at e
    have r := rngN (m := 2 ^ count) (by omega)
    simp [e]
    simp at r
    rw [r]
  have hcmp := comp_ok (Φ := Φ) (vs := [3]) (tg := [3]) (tt := false) (kc := .call 2 (.cons (.var 3) (.cons (.var 1) .nil))) (ke := .var 3) (onN fun lot => meetsAll lot book) id hi (fun x hx => by
    obtain ⟨m, _, rfl⟩ := nl_mem hx
    exact ⟨_, tg1, rfl, by simp [h2, wipeS]; rfl, fun _ => by simp [wipeS]⟩) (by rw [nl_len, List.length_range]; exact Nat.le_trans hp (by decide)) back1
  have ef : ((nl (List.range (2 ^ count))).filter (onN fun lot => meetsAll lot book)).map id = nl ((List.range (2 ^ count)).filter fun lot => meetsAll lot book) := by
    rw [List.map_id]
    unfold nl
    rw [List.filter_map]
    rfl
  rw [ef] at hcmp
  have hs : ((List.range (2 ^ count)).filter fun lot => meetsAll lot book).Pairwise (· ≤ ·) := List.Pairwise.filter _ (List.pairwise_lt_range.imp Nat.le_of_lt)
  have hl : ((List.range (2 ^ count)).filter fun lot => meetsAll lot book).length ≤ 1000 := Nat.le_trans (List.length_filter_le _ _) (by rw [List.length_range]; omega)
  unfold runF bk3
  rw [show blockL count book = leastGo [] ((List.range (2 ^ count)).filter fun lot => meetsAll lot book) from rfl]
  simp [hcmp, h1 _ hs hl, resF, outR]
end Bk
/-! lots as naturals: plain laws. -/
namespace Bk
def Sub (a b : Nat) : Prop := ∀ i, a.testBit i = true → b.testBit i = true
theorem sub_iff {a b : Nat} : a &&& b = a ↔ Sub a b := by
  constructor
  · intro h i hi
    have : (a &&& b).testBit i = true := by rw [h]; exact hi
    rw [Nat.testBit_and] at this
    simp at this
    exact this.2
  · intro h
    apply Nat.eq_of_testBit_eq
    intro i
    rw [Nat.testBit_and]
    cases q : a.testBit i with
    | false => rfl
    | true => rw [h i q]; rfl
theorem Sub.refl (a : Nat) : Sub a a := fun _ h => h
theorem Sub.trans {a b c : Nat} (h : Sub a b) (k : Sub b c) : Sub a c := fun i q => k i (h i q)
theorem Sub.le {a b : Nat} (h : Sub a b) : a ≤ b := by
  rw [← sub_iff] at h
  rw [← h]
  exact Nat.and_le_right
theorem Sub.anti {a b : Nat} (h : Sub a b) (k : Sub b a) : a = b := Nat.le_antisymm h.le k.le
theorem hasLot_iff {book : List Nat} {s : Nat} : hasLot book s = true ↔ ∃ one ∈ book, Sub one s := by
  unfold hasLot
  rw [List.any_eq_true]
  simp only [beq_iff_eq, sub_iff]
theorem meets_iff {book : List Nat} {s : Nat} : meetsAll s book = true ↔ ∀ one ∈ book, ∃ i, one.testBit i = true ∧ s.testBit i = true := by
  unfold meetsAll
  rw [Bool.not_eq_true', List.any_eq_false]
  refine forall_congr' fun one => forall_congr' fun _ => ?_
  simp only [beq_iff_eq]
  constructor
  · intro h
    refine Classical.byContradiction fun n => h ?_
    apply Nat.eq_of_testBit_eq
    intro i
    rw [Nat.testBit_and, Nat.zero_testBit]
    cases q : one.testBit i with
    | false => rfl
    | true =>
      cases q2 : s.testBit i with
      | false => rfl
      | true => exact absurd ⟨i, q, q2⟩ n
  · rintro ⟨i, h1, h2⟩ h
    have : (one &&& s).testBit i = true := by rw [Nat.testBit_and, h1, h2]; rfl
    rw [h, Nat.zero_testBit] at this
    cases this
/-- x is one of the least of xs -/
def isLeast (xs : List Nat) (x : Nat) : Bool := xs.all fun t => !(t &&& x == t) || t == x
theorem isLeast_iff {xs : List Nat} {x : Nat} : isLeast xs x = true ↔ ∀ t ∈ xs, Sub t x → t = x := by
  unfold isLeast
  rw [List.all_eq_true]
  refine forall_congr' fun t => forall_congr' fun _ => ?_
  simp only [Bool.or_eq_true, Bool.not_eq_true', beq_eq_false_iff_ne, beq_iff_eq, ne_eq, sub_iff]
  constructor
  · rintro (h | h) k
    · exact absurd k h
    · exact h
  · intro h
    by_cases q : Sub t x
    · exact .inr (h q)
    · exact .inl q
theorem leastGo_eq : ∀ (xs kept : List Nat), xs.Pairwise (· < ·) → leastGo kept xs = kept ++ xs.filter fun x => !hasLot kept x && isLeast xs x
  | [], kept, _ => by simp [leastGo]
  | x :: xs, kept, h => by
    rw [List.pairwise_cons] at h
    obtain ⟨h1, h2⟩ := h
    rw [leastGo]
    cases q : hasLot kept x with
    | true =>
      rw [if_pos rfl, leastGo_eq xs kept h2, List.filter_cons_of_neg (by simp [q])]
      congr 1
      apply List.filter_congr
      intro y hy
      cases r : hasLot kept y with
      | true => rfl
      | false =>
        simp only [Bool.not_false, Bool.true_and]
        rw [Bool.eq_iff_iff, isLeast_iff, isLeast_iff]
        refine ⟨fun k t ht s => ?_, fun k t ht => k t (by simp [ht])⟩
        rcases List.mem_cons.mp ht with rfl | ht
        · obtain ⟨o, o1, o2⟩ := hasLot_iff.mp q
          have : hasLot kept y = true := hasLot_iff.mpr ⟨o, o1, o2.trans s⟩
          rw [r] at this; cases this
        · exact k t ht s
    | false =>
      rw [if_neg nofun, leastGo_eq xs (kept ++ [x]) h2]
      have hx : isLeast (x :: xs) x = true := isLeast_iff.mpr fun t ht s => by
        rcases List.mem_cons.mp ht with rfl | ht
        · rfl
        · exact absurd s.le (Nat.not_le_of_lt (h1 t ht))
      rw [List.filter_cons_of_pos (by simp [q, hx])]
      rw [List.append_assoc]
      congr 1
      show x :: _ = x :: _
      congr 1
      apply List.filter_congr
      intro y hy
      rw [Bool.eq_iff_iff]
      simp only [Bool.and_eq_true, Bool.not_eq_true', isLeast_iff]
      have e : hasLot (kept ++ [x]) y = false ↔ hasLot kept y = false ∧ ¬ Sub x y := by
        rw [← Bool.not_eq_true, ← Bool.not_eq_true, hasLot_iff, hasLot_iff]
        constructor
        · intro k
          exact ⟨fun ⟨o, o1, o2⟩ => k ⟨o, by simp [o1], o2⟩, fun s => k ⟨x, by simp, s⟩⟩
        · rintro ⟨k1, k2⟩ ⟨o, o1, o2⟩
          rcases List.mem_append.mp o1 with o1 | o1
          · exact k1 ⟨o, o1, o2⟩
          · cases List.mem_singleton.mp o1
            exact k2 o2
      rw [e]
      constructor
      · rintro ⟨⟨a, b⟩, c⟩
        refine ⟨a, fun t ht s => ?_⟩
        rcases List.mem_cons.mp ht with rfl | ht
        · exact absurd s b
        · exact c t ht s
      · rintro ⟨a, b⟩
        exact ⟨⟨a, fun s => Nat.ne_of_lt (h1 y hy) (b x (by simp) s)⟩, fun t ht => b t (by simp [ht])⟩
/-- the least of those below 2^c that Q says of -/
def minEl (c : Nat) (Q : Nat → Bool) : List Nat := (List.range (2 ^ c)).filter fun s => Q s && (List.range (2 ^ c)).all fun t => !Q t || !(t &&& s == t) || t == s
theorem mem_minEl {c : Nat} {Q : Nat → Bool} {s : Nat} : s ∈ minEl c Q ↔ s < 2 ^ c ∧ Q s = true ∧ ∀ t, t < 2 ^ c → Q t = true → Sub t s → t = s := by
  unfold minEl
  rw [List.mem_filter, List.mem_range, Bool.and_eq_true, List.all_eq_true]
  refine and_congr_right fun _ => and_congr_right fun _ => forall_congr' fun t => ?_
  rw [List.mem_range]
  refine forall_congr' fun _ => ?_
  simp only [Bool.or_eq_true, Bool.not_eq_true', beq_eq_false_iff_ne, beq_iff_eq, ne_eq, sub_iff]
  constructor
  · rintro ((h | h) | h) k1 k2
    · rw [k1] at h; cases h
    · exact absurd k2 h
    · exact h
  · intro h
    by_cases q : Q t = true
    · by_cases z : Sub t s
      · exact .inr (h q z)
      · exact .inl (.inr z)
    · exact .inl (.inl (by simpa using q))
theorem least_range {c : Nat} (Q : Nat → Bool) : leastGo [] ((List.range (2 ^ c)).filter Q) = minEl c Q := by
  rw [leastGo_eq _ _ (List.Pairwise.filter _ List.pairwise_lt_range), List.nil_append, List.filter_filter]
  unfold minEl
  apply List.filter_congr
  intro s _
  have e : hasLot [] s = false := rfl
  rw [e]
  simp only [Bool.not_false, Bool.true_and]
  rw [Bool.and_comm]
  congr 1
  rw [Bool.eq_iff_iff, isLeast_iff, List.all_eq_true]
  constructor
  · intro h t ht
    by_cases q : Q t = true
    · by_cases z : Sub t s
      · simp [h t (List.mem_filter.mpr ⟨ht, q⟩) z]
      · simp [mt sub_iff.mp z]
    · simp [q]
  · intro h t ht z
    obtain ⟨h1, h2⟩ := List.mem_filter.mp ht
    have := h t h1
    simp [h2, sub_iff.mpr z] at this
    exact this
theorem minEl_congr {c : Nat} {Q R : Nat → Bool} (h : ∀ s, s < 2 ^ c → Q s = R s) : minEl c Q = minEl c R := by
  unfold minEl
  apply List.filter_congr
  intro s hs
  rw [h s (List.mem_range.mp hs)]
  congr 1
  rw [Bool.eq_iff_iff, List.all_eq_true, List.all_eq_true]
  refine forall_congr' fun t => ?_
  constructor <;> intro k ht <;> have := k ht <;> simpa [h t (List.mem_range.mp ht)] using this
/-- below each one that Q says of lies a least one -/
theorem minEl_below {c : Nat} {Q : Nat → Bool} : ∀ (n s : Nat), s ≤ n → s < 2 ^ c → Q s = true → ∃ m ∈ minEl c Q, Sub m s := by
  intro n
  induction n with
  | zero =>
    intro s h0 h1 h2
    refine ⟨s, mem_minEl.mpr ⟨h1, h2, fun t _ _ z => ?_⟩, Sub.refl s⟩
    have := z.le
    omega
  | succ n ih =>
    intro s h0 h1 h2
    by_cases q : ∃ t, t < 2 ^ c ∧ Q t = true ∧ Sub t s ∧ t ≠ s
    · obtain ⟨t, t1, t2, t3, t4⟩ := q
      have := t3.le
      obtain ⟨m, m1, m2⟩ := ih t (by omega) t1 t2
      exact ⟨m, m1, m2.trans t3⟩
    · refine ⟨s, mem_minEl.mpr ⟨h1, h2, fun t t1 t2 t3 => ?_⟩, Sub.refl s⟩
      exact Classical.byContradiction fun z => q ⟨t, t1, t2, t3, z⟩
/-- Q goes upward -/
def Up (c : Nat) (Q : Nat → Bool) : Prop := ∀ s t, s < 2 ^ c → t < 2 ^ c → Sub s t → Q s = true → Q t = true
theorem has_minEl {c : Nat} {Q : Nat → Bool} (u : Up c Q) {s : Nat} (h : s < 2 ^ c) : hasLot (minEl c Q) s = Q s := by
  rw [Bool.eq_iff_iff, hasLot_iff]
  constructor
  · rintro ⟨m, m1, m2⟩
    obtain ⟨k1, k2, _⟩ := mem_minEl.mp m1
    exact u m s k1 h m2 k2
  · intro q
    exact minEl_below s s (Nat.le_refl s) h q
theorem comp_bit {c s i : Nat} (h : s < 2 ^ c) : (2 ^ c - 1 - s).testBit i = (decide (i < c) && !s.testBit i) := by
  have e : 2 ^ c - 1 - s = 2 ^ c - (s + 1) := by omega
  rw [e, Nat.testBit_two_pow_sub_succ h]
theorem bit_lt {c s i : Nat} (h : s < 2 ^ c) (b : s.testBit i = true) : i < c := by
  refine Classical.byContradiction fun n => ?_
  have : s < 2 ^ i := Nat.lt_of_lt_of_le h (Nat.pow_le_pow_right (by omega) (by omega))
  rw [Nat.testBit_lt_two_pow this] at b
  cases b
/-- s meets all lots: no lot lies outside s -/
theorem meets_comp {c s : Nat} {book : List Nat} (hb : ∀ one ∈ book, one < 2 ^ c) (h : s < 2 ^ c) : meetsAll s book = !hasLot book (2 ^ c - 1 - s) := by
  rw [Bool.eq_iff_iff, meets_iff, Bool.not_eq_true', ← Bool.not_eq_true, hasLot_iff]
  constructor
  · rintro k ⟨one, o1, o2⟩
    obtain ⟨i, i1, i2⟩ := k one o1
    have := o2 i i1
    rw [comp_bit h, i2] at this
    simp at this
  · intro k one o1
    refine Classical.byContradiction fun n => k ⟨one, o1, fun i hi => ?_⟩
    rw [comp_bit h]
    have hc := bit_lt (hb one o1) hi
    cases q : s.testBit i with
    | false => simp [hc]
    | true => exact absurd ⟨i, hi, q⟩ n
theorem up_has {c : Nat} {book : List Nat} : Up c (hasLot book) := fun s t _ _ z h => by
  obtain ⟨o, o1, o2⟩ := hasLot_iff.mp h
  exact hasLot_iff.mpr ⟨o, o1, o2.trans z⟩
theorem up_meets {c : Nat} {book : List Nat} : Up c (fun s => meetsAll s book) := fun s t _ _ z h => by
  have h := meets_iff.mp h
  refine meets_iff.mpr fun o o1 => ?_
  obtain ⟨i, i1, i2⟩ := h o o1
  exact ⟨i, i1, z i i2⟩
theorem blockL_eq {c : Nat} {book : List Nat} (hb : ∀ one ∈ book, one < 2 ^ c) : blockL c book = minEl c fun s => !hasLot book (2 ^ c - 1 - s) := by
  unfold blockL
  rw [least_range]
  exact minEl_congr fun s hs => meets_comp hb hs
theorem minEl_lt {c : Nat} {Q : Nat → Bool} : ∀ one ∈ minEl c Q, one < 2 ^ c := fun one h => (mem_minEl.mp h).1
/-- what meets all that meets all -/
theorem block_block {c : Nat} {book : List Nat} (hb : ∀ one ∈ book, one < 2 ^ c) : blockL c (blockL c book) = minEl c (hasLot book) := by
  have e : blockL c book = minEl c fun s => meetsAll s book := by unfold blockL; rw [least_range]
  rw [e, blockL_eq minEl_lt]
  refine minEl_congr fun s hs => ?_
  have hs' : 2 ^ c - 1 - s < 2 ^ c := by omega
  rw [has_minEl up_meets hs', meets_comp hb hs', Bool.not_not]
  congr 1
  omega
/-! ### one bit less -/
theorem sub_bit {s e : Nat} (h1 : s < 512) (h2 : e < 9) (h : s.testBit e = true) : s - 2 ^ e = s ^^^ 2 ^ e := by
  have k : ∀ s < 512, ∀ e < 9, s.testBit e = true → s - 2 ^ e = s ^^^ 2 ^ e := by decide +kernel
  exact k s h1 e h2 h
theorem add_bit {s e : Nat} (h1 : s < 512) (h2 : e < 9) (h : s.testBit e = false) : s + 2 ^ e = s ||| 2 ^ e := by
  have k : ∀ s < 512, ∀ e < 9, s.testBit e = false → s + 2 ^ e = s ||| 2 ^ e := by decide +kernel
  exact k s h1 e h2 h
/-- as a table's least are found: no one bit less will do -/
def tabLeast (c : Nat) (Q : Nat → Bool) : List Nat := (List.range (2 ^ c)).filter fun s => Q s && (List.range c).all fun e => !(s.testBit e && Q (s - 2 ^ e))
theorem tabLeast_eq {c : Nat} {Q : Nat → Bool} (hc : c ≤ 9) (u : Up c Q) : tabLeast c Q = minEl c Q := by
  have hp : 2 ^ c ≤ 2 ^ 9 := Nat.pow_le_pow_right (by omega) hc
  unfold tabLeast minEl
  apply List.filter_congr
  intro s hs
  have hs := List.mem_range.mp hs
  cases q : Q s with
  | false => rfl
  | true =>
    simp only [Bool.true_and]
    rw [Bool.eq_iff_iff, List.all_eq_true, List.all_eq_true]
    constructor
    · intro h t ht
      have ht := List.mem_range.mp ht
      cases qt : Q t with
      | false => rfl
      | true =>
        by_cases z : Sub t s
        · by_cases e : t = s
          · simp [e]
          · exfalso
            have : ∃ i, s.testBit i = true ∧ t.testBit i = false := Classical.byContradiction fun n => e (z.anti fun i hi => by
              cases k : t.testBit i with
              | true => rfl
              | false => exact absurd ⟨i, hi, k⟩ n)
            obtain ⟨i, i1, i2⟩ := this
            have ic := bit_lt hs i1
            have := h i (List.mem_range.mpr ic)
            rw [i1] at this
            have sb := sub_bit (by omega) (by omega) i1
            have up : Q (s - 2 ^ i) = true := u t _ ht (Nat.lt_of_le_of_lt (Nat.sub_le _ _) hs) (fun j hj => by
              rw [sb, Nat.testBit_xor, z j hj, Nat.testBit_two_pow]
              have : i ≠ j := fun k => by rw [k, hj] at i2; cases i2
              simp [this]) qt
            rw [up] at this
            cases this
        · simp [mt sub_iff.mp z]
    · intro h e he
      have he := List.mem_range.mp he
      cases b : s.testBit e with
      | false => rfl
      | true =>
        have sb := sub_bit (by omega) (by omega) b
        cases k : Q (s - 2 ^ e) with
        | false => rfl
        | true =>
          exfalso
          have := h (s - 2 ^ e) (List.mem_range.mpr (Nat.lt_of_le_of_lt (Nat.sub_le _ _) hs))
          have z : Sub (s - 2 ^ e) s := fun j hj => by
            rw [sb, Nat.testBit_xor, Nat.testBit_two_pow] at hj
            by_cases q : e = j
            · subst q; exact b
            · simpa [q] using hj
          have ne : s - 2 ^ e ≠ s := by
            have : 2 ^ e ≤ s := Nat.ge_two_pow_of_testBit b
            have : 0 < 2 ^ e := Nat.two_pow_pos e
            omega
          simp [k, sub_iff.mpr z, ne] at this
end Bk
/-! the law texts' own tools that many laws share: digits, tables, comparing. -/
namespace Tb
open PySem PySem.Spec L2 Pv Bk
def tbBits : FDef := ⟨2, 4, true, true, true, (.cons (.asg 2 (.lit (.int 0)))
  (.cons (.for_ [3] false (.rng (.cons (.var 1) .nil))
    (.cons (.asg 2 (.app (.bin .Add) (.cons (.var 2) (.cons (.app (.bin .LShift) (.cons (.callio 5 0 (.cons (.var 0) (.cons (.lit (.int 2)) .nil))) (.cons (.var 3) .nil))) .nil))))
    .nil))
  (.cons (.ret (.var 2))
  .nil)))⟩
def tbFam : FDef := ⟨2, 6, false, true, false, (.cons (.asg 2 (.app (.bin .Mult) (.cons (.app .lst (.cons (.lit (.bl false)) .nil)) (.cons (.app (.bin .LShift) (.cons (.lit (.int 1)) (.cons (.var 0) .nil))) .nil))))
  (.cons (.for_ [3] false (.seq (.var 1))
    (.cons (.setix 2 (.var 3) (.lit (.bl true)))
    .nil))
  (.cons (.for_ [4] false (.rng (.cons (.var 0) .nil))
    (.cons (.asg 5 (.app (.bin .LShift) (.cons (.lit (.int 1)) (.cons (.var 4) .nil))))
    (.cons (.for_ [3] false (.rng (.cons (.app .len (.cons (.var 2) .nil)) .nil))
      (.cons (.ife (.and_ (.app .ix (.cons (.var 2) (.cons (.var 3) .nil))) (.app (.cmp .Eq) (.cons (.app (.bin .Mod) (.cons (.app .int1 (.cons (.app (.bin .FloorDiv) (.cons (.var 3) (.cons (.var 5) .nil))) .nil)) (.cons (.lit (.int 2)) .nil))) (.cons (.lit (.int 0)) .nil))))
        (.cons (.setix 2 (.app (.bin .Add) (.cons (.var 3) (.cons (.var 5) .nil))) (.lit (.bl true)))
        .nil)
        .nil)
      .nil))
    .nil)))
  (.cons (.ret (.var 2))
  .nil))))⟩
def tbLeast : FDef := ⟨2, 7, false, true, false, (.cons (.asg 2 (.app .lst .nil))
  (.cons (.for_ [3] false (.rng (.cons (.app .len (.cons (.var 1) .nil)) .nil))
    (.cons (.asg 4 (.app .ix (.cons (.var 1) (.cons (.var 3) .nil))))
    (.cons (.for_ [5] false (.rng (.cons (.var 0) .nil))
      (.cons (.asg 6 (.app (.bin .LShift) (.cons (.lit (.int 1)) (.cons (.var 5) .nil))))
      (.cons (.ife (.and_ (.app (.cmp .Eq) (.cons (.app (.bin .Mod) (.cons (.app .int1 (.cons (.app (.bin .FloorDiv) (.cons (.var 3) (.cons (.var 6) .nil))) .nil)) (.cons (.lit (.int 2)) .nil))) (.cons (.lit (.int 1)) .nil))) (.app .ix (.cons (.var 1) (.cons (.app (.bin .Sub) (.cons (.var 3) (.cons (.var 6) .nil))) .nil))))
        (.cons (.asg 4 (.lit (.bl false)))
        .nil)
        .nil)
      .nil)))
    (.cons (.ife (.var 4)
      (.cons (.exp (.mut .append 2 (.cons (.var 3) .nil)))
      .nil)
      .nil)
    .nil))))
  (.cons (.ret (.var 2))
  .nil)))⟩
def tbNum : FDef := ⟨2, 2, false, true, true, (.cons (.ret (.and_ (.app (.isi .int) (.cons (.var 0) .nil)) (.and_ (.not_ (.app (.isi .bool) (.cons (.var 0) .nil))) (.app (.cmp .Eq) (.cons (.var 0) (.cons (.var 1) .nil))))))
  .nil)⟩
def tbTruth : FDef := ⟨2, 2, false, true, true, (.cons (.ret (.and_ (.app (.isi .bool) (.cons (.var 0) .nil)) (.app (.cmp .Eq) (.cons (.var 0) (.cons (.var 1) .nil)))))
  .nil)⟩
def tbNums (num : Nat) : FDef := ⟨2, 3, false, true, true, (.cons (.ife (.or_ (.not_ (.app (.isi .tuple) (.cons (.var 0) .nil))) (.app (.cmp .NotEq) (.cons (.app .len (.cons (.var 0) .nil)) (.cons (.app .len (.cons (.var 1) .nil)) .nil))))
    (.cons (.ret (.lit (.bl false)))
    .nil)
    .nil)
  (.cons (.for_ [2] false (.rng (.cons (.app .len (.cons (.var 1) .nil)) .nil))
    (.cons (.ife (.not_ (.call num (.cons (.app .ix (.cons (.var 0) (.cons (.var 2) .nil))) (.cons (.app .ix (.cons (.var 1) (.cons (.var 2) .nil))) .nil))))
      (.cons (.ret (.lit (.bl false)))
      .nil)
      .nil)
    .nil))
  (.cons (.ret (.lit (.bl true)))
  .nil)))⟩
def nth : MS → Nat → MS
  | .cons s _, 0 => s
  | .cons _ r, n + 1 => nth r n
  | m, _ => m
def bodyF : MS → MS
  | .for_ _ _ _ b => b
  | .while_ _ b => b
  | m => m
variable {Φ : Nat → List Val → FRes}
/-- a loop that looks for one, turn by turn -/
theorem for_anyI {tg : List Nat} {tt : Bool} {b : Slots → Out} {P : Val → Bool} {r : Val} : ∀ (items : List Val) (I : Nat → Slots → Prop), (∀ k x, items[k]? = some x → ∀ ρ, I k ρ → ∃ ρ1, tgS tg tt x ρ = some ρ1 ∧ ((P x = true ∧ ∃ ρ2, b ρ1 = .ret r ρ2) ∨ (P x = false ∧ ∃ ρ2, (b ρ1 = .nx ρ2 ∨ b ρ1 = .ct ρ2) ∧ I (k + 1) ρ2))) →
    ∀ ρ, I 0 ρ → (items.any P = true ∧ ∃ ρ2, forGo tg tt b items ρ = .ret r ρ2) ∨ (items.any P = false ∧ ∃ ρ2, forGo tg tt b items ρ = .nx ρ2 ∧ I items.length ρ2)
  | [], _, _, ρ, i => .inr ⟨rfl, ρ, rfl, i⟩
  | x :: xs, I, h, ρ, i => by
    obtain ⟨ρ1, h1, h2⟩ := h 0 x rfl ρ i
    rw [forGo, h1]
    dsimp only
    rcases h2 with ⟨p, ρ2, h2⟩ | ⟨p, ρ2, h2, i2⟩
    · exact .inl ⟨by simp [p], ρ2, by rw [h2]⟩
    · have ih := for_anyI xs (fun k => I (k + 1)) (fun k y hy => h (k + 1) y hy) ρ2 i2
      have e : (x :: xs).any P = xs.any P := by simp [p]
      rw [e]
      rcases h2 with h2 | h2 <;> rw [h2] <;> exact ih
theorem nl_at' {m k : Nat} {v : Val} (h : (nl (List.range m))[k]? = some v) : k < m ∧ v = .int (k : Int) := by
  obtain ⟨n, h1, h2⟩ := nl_at h
  have hk : k < m := by
    by_cases z : k < m
    · exact z
    · rw [List.getElem?_eq_none (by simpa using z)] at h1; cases h1
  rw [List.getElem?_range hk] at h1
  cases h1
  exact ⟨hk, h2⟩
theorem draw2 {p : Val} (h : goodP p) (b : Nat) (hb : 0 < b) (hb2 : b < 1073741824) (z : Int) (hz : z = (b : Int)) : ∃ (d : Nat) (p' : Val), drawF [p, .int z] = .ok (.int (d : Int)) (some p') ∧ d < b ∧ goodP p' := by
  subst hz
  exact drawF_good h hb hb2
theorem bits_run (h5 : Φ 5 = drawF) {p : Val} (hp : goodP p) {c : Nat} (hc : c ≤ 9) : ∃ (v : Nat) (p' : Val), runF tbBits Φ [p, .int (c : Int)] = .ok (.int (v : Int)) (some p') ∧ goodP p' := by
  obtain ⟨ρ', h, v, p', s, g, rfl⟩ := for_inv (tg := [3]) (tt := false) (b := exec Φ (bodyF (nth tbBits.body 1))) (nl (List.range c)) (fun _ ρ => ∃ (v : Nat) (p' : Val) (s : Option Val), goodP p' ∧ ρ = [some p', some (.int (c : Int)), some (.int (v : Int)), s])
    (fun k x hx ρ ⟨v, p', s, g, hρ⟩ => by
      subst hρ
      obtain ⟨hk, rfl⟩ := nl_at' hx
      obtain ⟨d, p2, hd, hlt, g2⟩ := draw2 g 2 (by omega) (by omega) 2 rfl
      have sh := shlN (a := d) (b := k) (by omega) (by omega)
      refine ⟨_, [some p2, some (.int (c : Int)), some (.int ((v + d * 2 ^ k : Nat) : Int)), some (.int (k : Int))], tg1, .inl ?_, v + d * 2 ^ k, p2, _, g2, rfl⟩
      simp [tbBits, nth, bodyF, h5, hd, sh]) [some p, some (.int (c : Int)), some (.int ((0 : Nat) : Int)), none] ⟨0, p, none, hp, rfl⟩
  refine ⟨v, p', ?_, g⟩
  simp only [tbBits, nth, bodyF] at h
  have r := rngN (m := c) (by omega)
  unfold runF tbBits
  simp [r]
  simp at h
  rw [h]
  simp [resF, outR]
theorem modI (z : Int) (c : Nat) : ∃ x : Nat, x < 2 ^ c ∧ binV .Mod (.int z) (.int ((2 ^ c : Nat) : Int)) = some (.int (x : Int)) := by
  have h0 : (0 : Int) < ((2 ^ c : Nat) : Int) := by have := Nat.two_pow_pos c; omega
  have h1 := Int.emod_nonneg z (Int.ne_of_gt h0)
  have h2 := Int.emod_lt_of_pos z h0
  refine ⟨(z % ((2 ^ c : Nat) : Int)).toNat, by omega, ?_⟩
  rw [b_mod h0, Int.toNat_of_nonneg h1]
theorem oneShl {c : Nat} (hc : c ≤ 1000) : binV .LShift (.int 1) (.int (c : Int)) = some (.int ((2 ^ c : Nat) : Int)) := by
  have e := shlN (a := 1) (b := c) (by decide) hc
  rw [Nat.one_mul] at e
  exact e
/-! ### tables -/
def tabV (c : Nat) (Q : Nat → Bool) : List Val := (List.range (2 ^ c)).map fun s => Val.bl (Q s)
theorem tab_len (c : Nat) (Q : Nat → Bool) : (tabV c Q).length = 2 ^ c := by unfold tabV; simp
theorem tab_at {c s : Nat} (Q : Nat → Bool) (h : s < 2 ^ c) : (tabV c Q)[s]? = some (.bl (Q s)) := by
  unfold tabV
  rw [List.getElem?_map, List.getElem?_range h]
  rfl
theorem tab_atI {c s : Nat} (Q : Nat → Bool) (h : s < 2 ^ c) : atI (tabV c Q) (s : Int) = some (.bl (Q s)) := by
  rw [atI_nn (by omega)]
  exact tab_at Q h
theorem tab_congr {c : Nat} {Q R : Nat → Bool} (h : ∀ s, s < 2 ^ c → Q s = R s) : tabV c Q = tabV c R := by
  unfold tabV
  apply List.map_congr_left
  intro s hs
  rw [h s (List.mem_range.mp hs)]
theorem tab_set {c s : Nat} (Q : Nat → Bool) (h : s < 2 ^ c) : (tabV c Q).set s (.bl true) = tabV c fun t => t == s || Q t := by
  apply List.ext_getElem?
  intro i
  rw [List.getElem?_set, tab_len]
  by_cases e : s = i
  · subst e
    rw [if_pos rfl, if_pos h, tab_at _ h]
    simp
  · rw [if_neg e]
    by_cases z : i < 2 ^ c
    · rw [tab_at _ z, tab_at _ z]
      have : (i == s) = false := beq_eq_false_iff_ne.mpr (Ne.symm e)
      simp [this]
    · rw [List.getElem?_eq_none (by rw [tab_len]; omega), List.getElem?_eq_none (by rw [tab_len]; omega)]
/-- what a table says behind e rounds: a lot below s that has s's bits from e on -/
noncomputable def fam (lots : List Nat) (e s : Nat) : Bool := open Classical in decide (∃ lot ∈ lots, Sub lot s ∧ ∀ i, e ≤ i → lot.testBit i = s.testBit i)
theorem fam_iff {lots : List Nat} {e s : Nat} : fam lots e s = true ↔ ∃ lot ∈ lots, Sub lot s ∧ ∀ i, e ≤ i → lot.testBit i = s.testBit i := by
  unfold fam
  simp only [decide_eq_true_eq]
theorem fam_0 {lots : List Nat} {s : Nat} : fam lots 0 s = lots.any (· == s) := by
  rw [Bool.eq_iff_iff, fam_iff, List.any_eq_true]
  constructor
  · rintro ⟨lot, h1, h2, h3⟩
    exact ⟨lot, h1, beq_iff_eq.mpr (Nat.eq_of_testBit_eq fun i => h3 i (Nat.zero_le i))⟩
  · rintro ⟨lot, h1, h2⟩
    have h2 := beq_iff_eq.mp h2
    subst h2
    exact ⟨_, h1, Sub.refl _, fun _ _ => rfl⟩
theorem fam_c {c : Nat} {lots : List Nat} {s : Nat} (hl : ∀ x ∈ lots, x < 2 ^ c) (hs : s < 2 ^ c) : fam lots c s = hasLot lots s := by
  rw [Bool.eq_iff_iff, fam_iff, hasLot_iff]
  constructor
  · rintro ⟨lot, h1, h2, _⟩
    exact ⟨lot, h1, h2⟩
  · rintro ⟨lot, h1, h2⟩
    refine ⟨lot, h1, h2, fun i hi => ?_⟩
    have k : 2 ^ c ≤ 2 ^ i := Nat.pow_le_pow_right (by omega) hi
    rw [Nat.testBit_lt_two_pow (Nat.lt_of_lt_of_le (hl lot h1) k), Nat.testBit_lt_two_pow (Nat.lt_of_lt_of_le hs k)]
theorem fam_s {lots : List Nat} {e s : Nat} (he : e < 9) (hs : s < 512) : fam lots (e + 1) s = (fam lots e s || (s.testBit e && fam lots e (s - 2 ^ e))) := by
  rw [Bool.eq_iff_iff, Bool.or_eq_true, Bool.and_eq_true, fam_iff, fam_iff, fam_iff]
  constructor
  · rintro ⟨lot, h1, h2, h3⟩
    cases q : s.testBit e with
    | false =>
      refine .inl ⟨lot, h1, h2, fun i hi => ?_⟩
      by_cases z : e = i
      · subst z
        rw [q]
        cases k : lot.testBit e with
        | false => rfl
        | true => rw [h2 e k] at q; cases q
      · exact h3 i (by omega)
    | true =>
      cases k : lot.testBit e with
      | true =>
        refine .inl ⟨lot, h1, h2, fun i hi => ?_⟩
        by_cases z : e = i
        · subst z; rw [q, k]
        · exact h3 i (by omega)
      | false =>
        have sb := sub_bit hs he q
        refine .inr ⟨rfl, lot, h1, fun i hi => ?_, fun i hi => ?_⟩
        · rw [sb, Nat.testBit_xor, Nat.testBit_two_pow, h2 i hi]
          have : e ≠ i := fun z => by rw [z, hi] at k; cases k
          simp [this]
        · rw [sb, Nat.testBit_xor, Nat.testBit_two_pow]
          by_cases z : e = i
          · subst z; simp [q, k]
          · simp [z, h3 i (by omega)]
  · rintro (⟨lot, h1, h2, h3⟩ | ⟨q, lot, h1, h2, h3⟩)
    · exact ⟨lot, h1, h2, fun i hi => h3 i (by omega)⟩
    · have sb := sub_bit hs he q
      have h4 : ∀ i, (s - 2 ^ e).testBit i = (s.testBit i && decide (e ≠ i)) := fun i => by
        rw [sb, Nat.testBit_xor, Nat.testBit_two_pow]
        by_cases z : e = i
        · subst z; simp [q]
        · simp [z]
      refine ⟨lot, h1, fun i hi => ?_, fun i hi => ?_⟩
      · have := h2 i hi
        rw [h4] at this
        simp at this
        exact this.1
      · rw [h3 i (by omega), h4]
        have : e ≠ i := by omega
        simp [this]
theorem eqLit {m b : Nat} (z : Int) (hz : z = (b : Int)) : cmpV .Eq (.int (m : Int)) (.int z) = some (.bl (m == b)) := by
  subst hz
  exact eqN
theorem modLit {m b : Nat} (h : 0 < b) (z : Int) (hz : z = (b : Int)) : binV .Mod (.int (m : Int)) (.int z) = some (.int ((m % b : Nat) : Int)) := by
  subst hz
  exact modN h
theorem bit_eq {s e : Nat} : s.testBit e = (s / 2 ^ e % 2 == 1) := by
  rw [Nat.testBit_eq_decide_div_mod_eq]
  rfl
theorem bit_no {s e : Nat} : (s / 2 ^ e % 2 == 0) = !s.testBit e := by
  rw [bit_eq]
  have : s / 2 ^ e % 2 < 2 := Nat.mod_lt _ (by omega)
  by_cases h : s / 2 ^ e % 2 = 0
  · rw [h]; rfl
  · have : s / 2 ^ e % 2 = 1 := by omega
    rw [this]; rfl
theorem pow9 {c : Nat} (hc : c ≤ 9) : 2 ^ c ≤ 512 := Nat.pow_le_pow_right (n := 2) (by omega) hc
/-- inner loop of _law_family -/
theorem fam_inner {c e : Nat} (hc : c ≤ 9) (he : e < c) {Q : Nat → Bool} {A : Val} {s3 : Option Val} : ∃ s3', forGo [3] false (exec Φ (bodyF (nth (bodyF (nth tbFam.body 2)) 1))) (nl (List.range (2 ^ c))) [some (.int (c : Int)), some A, some (.lst (tabV c Q)), s3, some (.int (e : Int)), some (.int ((2 ^ e : Nat) : Int))] =
    .nx [some (.int (c : Int)), some A, some (.lst (tabV c fun s => Q s || (s.testBit e && Q (s - 2 ^ e)))), s3', some (.int (e : Int)), some (.int ((2 ^ e : Nat) : Int))] := by
  have p9 := pow9 hc
  have pe : 2 ^ e ≤ 2 ^ c := Nat.pow_le_pow_right (by omega) (by omega)
  have pe0 := Nat.two_pow_pos e
  obtain ⟨ρ', h, s3', rfl⟩ := for_inv (tg := [3]) (tt := false) (b := exec Φ (bodyF (nth (bodyF (nth tbFam.body 2)) 1))) (nl (List.range (2 ^ c))) (fun j ρ => ∃ s3, ρ = [some (.int (c : Int)), some A, some (.lst (tabV c fun s => Q s || (s.testBit e && decide (s - 2 ^ e < j) && Q (s - 2 ^ e)))), s3, some (.int (e : Int)), some (.int ((2 ^ e : Nat) : Int))])
    (fun j x hx ρ ⟨s3, hρ⟩ => by
      subst hρ
      obtain ⟨hj, rfl⟩ := nl_at' hx
      have dv := divN (a := j) (b := 2 ^ e) pe0 (by omega)
      have md := modLit (m := j / 2 ^ e) (b := 2) (by omega) 2 rfl
      have eq := eqLit (m := j / 2 ^ e % 2) (b := 0) 0 rfl
      have ti := tab_atI (c := c) (fun s => Q s || (s.testBit e && decide (s - 2 ^ e < j) && Q (s - 2 ^ e))) hj
      have e1 : evalE Φ (.app .ix (.cons (.var 2) (.cons (.var 3) .nil))) [some (.int (c : Int)), some A, some (.lst (tabV c fun s => Q s || (s.testBit e && decide (s - 2 ^ e < j) && Q (s - 2 ^ e)))), some (.int (j : Int)), some (.int (e : Int)), some (.int ((2 ^ e : Nat) : Int))] =
          .ok (.bl (Q j || (j.testBit e && decide (j - 2 ^ e < j) && Q (j - 2 ^ e)))) [some (.int (c : Int)), some A, some (.lst (tabV c fun s => Q s || (s.testBit e && decide (s - 2 ^ e < j) && Q (s - 2 ^ e)))), some (.int (j : Int)), some (.int (e : Int)), some (.int ((2 ^ e : Nat) : Int))] := by
        rw [e_app, l_var]
        simp only [getS_s, getS_z, l_var, l_nil, bind_ok, o_ix, ix_l, ti]
      have e2 : evalT Φ (.and_ (.app .ix (.cons (.var 2) (.cons (.var 3) .nil))) (.app (.cmp .Eq) (.cons (.app (.bin .Mod) (.cons (.app .int1 (.cons (.app (.bin .FloorDiv) (.cons (.var 3) (.cons (.var 5) .nil))) .nil)) (.cons (.lit (.int 2)) .nil))) (.cons (.lit (.int 0)) .nil)))) [some (.int (c : Int)), some A, some (.lst (tabV c fun s => Q s || (s.testBit e && decide (s - 2 ^ e < j) && Q (s - 2 ^ e)))), some (.int (j : Int)), some (.int (e : Int)), some (.int ((2 ^ e : Nat) : Int))] =
          .ok ((Q j || (j.testBit e && decide (j - 2 ^ e < j) && Q (j - 2 ^ e))) && !j.testBit e) [some (.int (c : Int)), some A, some (.lst (tabV c fun s => Q s || (s.testBit e && decide (s - 2 ^ e < j) && Q (s - 2 ^ e)))), some (.int (j : Int)), some (.int (e : Int)), some (.int ((2 ^ e : Nat) : Int))] := by
        rw [t_and, t_app, l_var]
        simp only [getS_s, getS_z, l_var, l_nil, bind_ok, o_ix, ix_l, ti, tr_b, t_app, l_app, e_app, l_lit, e_lit, o_bin, dv, o_int, md, o_cmp, eq, bit_no]
        cases (Q j || (j.testBit e && decide (j - 2 ^ e < j) && Q (j - 2 ^ e))) <;> rfl
      have key : exec Φ (bodyF (nth (bodyF (nth tbFam.body 2)) 1)) [some (.int (c : Int)), some A, some (.lst (tabV c fun s => Q s || (s.testBit e && decide (s - 2 ^ e < j) && Q (s - 2 ^ e)))), some (.int (j : Int)), some (.int (e : Int)), some (.int ((2 ^ e : Nat) : Int))] =
          .nx [some (.int (c : Int)), some A, some (.lst (tabV c fun s => Q s || (s.testBit e && decide (s - 2 ^ e < j + 1) && Q (s - 2 ^ e)))), some (.int (j : Int)), some (.int (e : Int)), some (.int ((2 ^ e : Nat) : Int))] := by
        simp only [tbFam, nth, bodyF]
        rw [x_cons, x_ife, e2, out_ok]
        cases q : (Q j || (j.testBit e && decide (j - 2 ^ e < j) && Q (j - 2 ^ e))) && !j.testBit e with
        | false =>
          rw [if_neg nofun, x_nil, seq_nx, x_nil]
          rw [tab_congr (R := fun s => Q s || (s.testBit e && decide (s - 2 ^ e < j + 1) && Q (s - 2 ^ e)))]
          intro s hs
          by_cases z : s - 2 ^ e = j ∧ s.testBit e = true
          · obtain ⟨z1, z2⟩ := z
            have sb := sub_bit (by omega) (by omega) z2
            have jb : j.testBit e = false := by rw [← z1, sb, Nat.testBit_xor, Nat.testBit_two_pow, z2]; simp
            rw [jb] at q
            simp at q
            rw [z1, z2, q]
            simp
          · cases b : s.testBit e with
            | false => simp
            | true =>
              have : s - 2 ^ e ≠ j := fun h => z ⟨h, b⟩
              have : decide (s - 2 ^ e < j + 1) = decide (s - 2 ^ e < j) := by
                rw [Bool.eq_iff_iff]; simp; omega
              rw [this]
        | true =>
          rw [if_pos rfl, x_cons]
          have q1 : j.testBit e = false := by simp at q; exact q.2
          rw [q1] at q
          have q2 : Q j = true := by simpa using q
          have ab := add_bit (by omega) (by omega) q1
          have jlt : j + 2 ^ e < 2 ^ c := by
            rw [ab]
            exact Nat.or_lt_two_pow hj (Nat.pow_lt_pow_right (by omega) he)
          have add : binV .Add (.int (j : Int)) (.int ((2 ^ e : Nat) : Int)) = some (.int ((j + 2 ^ e : Nat) : Int)) := by rw [b_add, Int.natCast_add]
          have el : evalL Φ (.cons (.lit (.bl true)) (.cons (.var 2) (.cons (.app (.bin .Add) (.cons (.var 3) (.cons (.var 5) .nil))) .nil))) [some (.int (c : Int)), some A, some (.lst (tabV c fun s => Q s || (s.testBit e && decide (s - 2 ^ e < j) && Q (s - 2 ^ e)))), some (.int (j : Int)), some (.int (e : Int)), some (.int ((2 ^ e : Nat) : Int))] =
              .ok [.bl true, .lst (tabV c fun s => Q s || (s.testBit e && decide (s - 2 ^ e < j) && Q (s - 2 ^ e))), .int ((j + 2 ^ e : Nat) : Int)] [some (.int (c : Int)), some A, some (.lst (tabV c fun s => Q s || (s.testBit e && decide (s - 2 ^ e < j) && Q (s - 2 ^ e)))), some (.int (j : Int)), some (.int (e : Int)), some (.int ((2 ^ e : Nat) : Int))] := by
            simp only [l_lit, e_lit, l_var, getS_s, getS_z, l_nil, bind_ok, l_app, e_app, o_bin, add]
          rw [x_setix el (ixN_nn (by omega) (by rw [tab_len, Int.toNat_natCast]; exact jlt)), seq_nx, x_nil, seq_nx, x_nil]
          simp only [Int.toNat_natCast, List.set_cons_succ, List.set_cons_zero]
          rw [tab_set _ jlt]
          have ec : tabV c (fun t => t == j + 2 ^ e || (Q t || (t.testBit e && decide (t - 2 ^ e < j) && Q (t - 2 ^ e)))) = tabV c (fun s => Q s || (s.testBit e && decide (s - 2 ^ e < j + 1) && Q (s - 2 ^ e))) := tab_congr ?_
          · rw [ec]
          intro s hs
          by_cases z : s = j + 2 ^ e
          · subst z
            have tb : (j + 2 ^ e).testBit e = true := by rw [ab, Nat.testBit_or, Nat.testBit_two_pow]; simp
            have : j + 2 ^ e - 2 ^ e = j := by omega
            simp [tb, this, q2]
          · have zb : (s == j + 2 ^ e) = false := beq_eq_false_iff_ne.mpr z
            rw [zb]
            cases b : s.testBit e with
            | false => simp
            | true =>
              have : 2 ^ e ≤ s := Nat.ge_two_pow_of_testBit b
              have : decide (s - 2 ^ e < j + 1) = decide (s - 2 ^ e < j) := by
                rw [Bool.eq_iff_iff]; simp; omega
              rw [this]
              rfl
      exact ⟨_, _, tg1, .inl key, _, rfl⟩) [some (.int (c : Int)), some A, some (.lst (tabV c Q)), s3, some (.int (e : Int)), some (.int ((2 ^ e : Nat) : Int))] ⟨s3, by rw [tab_congr (Q := fun s => Q s || (s.testBit e && decide (s - 2 ^ e < 0) && Q (s - 2 ^ e))) (R := Q)]; intro s _; simp⟩
  refine ⟨s3', ?_⟩
  rw [h, nl_len, List.length_range, tab_congr]
  intro s hs
  have : s - 2 ^ e < 2 ^ c := by omega
  simp [this]
theorem runF_eq {d : FDef} {vs : List Val} (h : vs.length = d.np) : runF d Φ vs = resF d (exec Φ d.body (vs.map some ++ List.replicate (d.nl - d.np) none)) := if_pos h
theorem rep_tab (c : Nat) : (List.replicate (2 ^ c) [Val.bl false]).flatten = tabV c fun _ => false := by
  have e3 : ∀ k : Nat, (List.replicate k [Val.bl false]).flatten = List.replicate k (Val.bl false) := fun k => by
    induction k with
    | zero => rfl
    | succ k ih => rw [List.replicate_succ, List.flatten_cons, ih, List.replicate_succ]; rfl
  rw [e3]
  unfold tabV
  rw [List.map_const', List.length_range]
theorem family_run {c : Nat} (hc : c ≤ 9) {lots : List Nat} (hl : ∀ x ∈ lots, x < 2 ^ c) : runF tbFam Φ [.int (c : Int), .lst (nl lots)] = .ok (.lst (tabV c (hasLot lots))) none := by
  have p9 := pow9 hc
  have p0 := Nat.two_pow_pos c
  have sh := oneShl (c := c) (by omega)
  have rp : binV .Mult (.lst [.bl false]) (.int ((2 ^ c : Nat) : Int)) = some (.lst (tabV c fun _ => false)) := by
    rw [b_rep ⟨by rw [Int.natAbs_natCast]; omega, by
      have : 1000 ≤ sizeLine := by decide
      rw [Int.toNat_natCast]; simp; omega⟩, Int.toNat_natCast, rep_tab]
  obtain ⟨ρ1, h1, s3, rfl⟩ := for_inv (tg := [3]) (tt := false) (b := exec Φ (bodyF (nth tbFam.body 1))) (nl lots) (fun k ρ => ∃ s3, ρ = [some (.int (c : Int)), some (.lst (nl lots)), some (.lst (tabV c fun s => (lots.take k).any (· == s))), s3, none, none])
    (fun k x hx ρ ⟨s3, hρ⟩ => by
      subst hρ
      obtain ⟨m, hm, rfl⟩ := nl_at hx
      have hm2 : m < 2 ^ c := hl m (List.mem_of_getElem? hm)
      refine ⟨_, _, tg1, .inl ?_, some (.int (m : Int)), rfl⟩
      have el : evalL Φ (.cons (.lit (.bl true)) (.cons (.var 2) (.cons (.var 3) .nil))) [some (.int (c : Int)), some (.lst (nl lots)), some (.lst (tabV c fun s => (lots.take k).any (· == s))), some (.int (m : Int)), none, none] =
          .ok [.bl true, .lst (tabV c fun s => (lots.take k).any (· == s)), .int (m : Int)] [some (.int (c : Int)), some (.lst (nl lots)), some (.lst (tabV c fun s => (lots.take k).any (· == s))), some (.int (m : Int)), none, none] := by
        simp only [l_lit, e_lit, l_var, getS_s, getS_z, l_nil, bind_ok]
      simp only [tbFam, nth, bodyF, List.set_cons_succ, List.set_cons_zero]
      rw [x_cons, x_setix el (ixN_nn (by omega) (by rw [tab_len, Int.toNat_natCast]; exact hm2)), seq_nx, x_nil]
      simp only [Int.toNat_natCast, List.set_cons_succ, List.set_cons_zero]
      rw [tab_set _ hm2]
      have ec : tabV c (fun t => t == m || (lots.take k).any (· == t)) = tabV c (fun s => (lots.take (k + 1)).any (· == s)) := tab_congr fun s _ => by
        rw [List.take_add_one, hm]
        simp only [List.any_append, Option.toList_some, List.any_cons, List.any_nil, Bool.or_false]
        rw [Bool.or_comm]
        congr 1
        rw [Bool.eq_iff_iff]; simp; exact eq_comm
      rw [ec]) [some (.int (c : Int)), some (.lst (nl lots)), some (.lst (tabV c fun _ => false)), none, none, none] ⟨none, by
        rw [tab_congr (Q := fun s => (lots.take 0).any (· == s)) (R := fun _ => false)]
        intro s _
        simp⟩
  have e1 : tabV c (fun s => (lots.take (nl lots).length).any (· == s)) = tabV c (fam lots 0) := tab_congr fun s _ => by
    rw [nl_len, List.take_length, fam_0]
  rw [e1] at h1
  obtain ⟨ρ2, h2, t3, t4, t5, rfl⟩ := for_inv (tg := [4]) (tt := false) (b := exec Φ (bodyF (nth tbFam.body 2))) (nl (List.range c)) (fun k ρ => ∃ s3 s4 s5, ρ = [some (.int (c : Int)), some (.lst (nl lots)), some (.lst (tabV c (fam lots k))), s3, s4, s5])
    (fun k x hx ρ ⟨s3, s4, s5, hρ⟩ => by
      subst hρ
      obtain ⟨hk, rfl⟩ := nl_at' hx
      have shk := oneShl (c := k) (by omega)
      obtain ⟨s3', hin⟩ := fam_inner (Φ := Φ) (A := .lst (nl lots)) (s3 := s3) hc hk (Q := fam lots k)
      have ec : tabV c (fun s => fam lots k s || (s.testBit k && fam lots k (s - 2 ^ k))) = tabV c (fam lots (k + 1)) := tab_congr fun s hs => (fam_s (by omega) (by omega)).symm
      rw [ec] at hin
      have rg := rngN (m := 2 ^ c) (by omega)
      refine ⟨_, _, tg1, .inl ?_, s3', some (.int (k : Int)), some (.int ((2 ^ k : Nat) : Int)), rfl⟩
      simp only [tbFam, nth, bodyF] at hin ⊢
      simp only [List.set_cons_succ, List.set_cons_zero, x_cons, x_asg, e_app, l_lit, e_lit, l_var, getS_s, getS_z, l_nil, bind_ok, o_bin, shk, out_ok, seq_nx, x_for, i_rng, l_app, o_len_l, tab_len, rg, x_nil]
      rw [hin, seq_nx]) [some (.int (c : Int)), some (.lst (nl lots)), some (.lst (tabV c (fam lots 0))), s3, none, none] ⟨s3, none, none, rfl⟩
  have e2 : tabV c (fam lots (nl (List.range c)).length) = tabV c (hasLot lots) := tab_congr fun s hs => by
    rw [nl_len, List.length_range, fam_c hl hs]
  rw [e2] at h2
  have rg := rngN (m := c) (by omega)
  rw [runF_eq (d := tbFam) (show [Val.int (c : Int), Val.lst (nl lots)].length = tbFam.np from rfl)]
  simp only [tbFam, nth, bodyF] at h1 h2 ⊢
  simp only [List.map_cons, List.map_nil, List.cons_append, List.nil_append, List.replicate, Nat.reduceSub, List.set_cons_succ, List.set_cons_zero, x_cons, x_asg, e_app, l_lit, e_lit, l_var, getS_s, getS_z, l_nil, bind_ok, o_bin, o_displ, List.length_cons, List.length_nil, sh, rp, out_ok, seq_nx, x_for, i_rng, i_seq, e_var, it_l, l_app, rg, x_nil, x_ret, Nat.zero_add]
  rw [if_pos (by decide)]
  simp only [List.map_cons, List.map_nil, List.cons_append, List.nil_append, List.replicate, Nat.reduceSub, List.set_cons_succ, List.set_cons_zero, x_cons, x_asg, e_app, l_lit, e_lit, l_var, getS_s, getS_z, l_nil, bind_ok, o_bin, sh, rp, out_ok, seq_nx, x_for, i_rng, i_seq, e_var, it_l, l_app, rg, x_nil, x_ret, h1, h2, seq_ret]
  rfl
theorem least_inner {c s : Nat} (hc : c ≤ 9) (hs : s < 2 ^ c) {Q : Nat → Bool} {L : Val} {s5 s6 : Option Val} : ∃ s5' s6', forGo [5] false (exec Φ (bodyF (nth (bodyF (nth tbLeast.body 1)) 1))) (nl (List.range c)) [some (.int (c : Int)), some (.lst (tabV c Q)), some L, some (.int (s : Int)), some (.bl (Q s)), s5, s6] =
    .nx [some (.int (c : Int)), some (.lst (tabV c Q)), some L, some (.int (s : Int)), some (.bl (Q s && (List.range c).all fun e => !(s.testBit e && Q (s - 2 ^ e)))), s5', s6'] := by
  have p9 := pow9 hc
  obtain ⟨ρ', h, s5', s6', rfl⟩ := for_inv (tg := [5]) (tt := false) (b := exec Φ (bodyF (nth (bodyF (nth tbLeast.body 1)) 1))) (nl (List.range c)) (fun k ρ => ∃ s5 s6, ρ = [some (.int (c : Int)), some (.lst (tabV c Q)), some L, some (.int (s : Int)), some (.bl (Q s && (List.range k).all fun e => !(s.testBit e && Q (s - 2 ^ e)))), s5, s6])
    (fun k x hx ρ ⟨s5, s6, hρ⟩ => by
      subst hρ
      obtain ⟨hk, rfl⟩ := nl_at' hx
      have shk := oneShl (c := k) (by omega)
      have pk : 2 ^ k ≤ 2 ^ c := Nat.pow_le_pow_right (by omega) (by omega)
      have dv := divN (a := s) (b := 2 ^ k) (Nat.two_pow_pos k) (by omega)
      have md := modLit (m := s / 2 ^ k) (b := 2) (by omega) 2 rfl
      have eq := eqLit (m := s / 2 ^ k % 2) (b := 1) 1 rfl
      rw [← bit_eq] at eq
      refine ⟨_, [some (.int (c : Int)), some (.lst (tabV c Q)), some L, some (.int (s : Int)), some (.bl (Q s && (List.range (k + 1)).all fun e => !(s.testBit e && Q (s - 2 ^ e)))), some (.int (k : Int)), some (.int ((2 ^ k : Nat) : Int))], tg1, .inl ?_, _, _, rfl⟩
      have er : (Q s && (List.range (k + 1)).all fun e => !(s.testBit e && Q (s - 2 ^ e))) = ((Q s && (List.range k).all fun e => !(s.testBit e && Q (s - 2 ^ e))) && !(s.testBit k && Q (s - 2 ^ k))) := by
        rw [List.range_succ, List.all_append]
        simp [Bool.and_assoc]
      rw [er]
      simp only [tbLeast, nth, bodyF]
      simp only [List.set_cons_succ, List.set_cons_zero, x_cons, x_asg, e_app, l_lit, e_lit, l_var, getS_s, getS_z, l_nil, bind_ok, o_bin, shk, out_ok, seq_nx, x_ife, t_and, t_app, l_app, dv, o_int, md, o_cmp, eq, tr_b, x_nil]
      cases b : s.testBit k with
      | false =>
        simp only [Bool.false_eq_true, if_false, bind_ok, out_ok, x_nil, seq_nx, Bool.false_and, Bool.not_false, Bool.and_true]
      | true =>
        have ge : 2 ^ k ≤ s := Nat.ge_two_pow_of_testBit b
        have sb : binV .Sub (.int (s : Int)) (.int ((2 ^ k : Nat) : Int)) = some (.int ((s - 2 ^ k : Nat) : Int)) := by rw [b_sub, Int.natCast_sub ge]
        have ti := tab_atI (c := c) (s := s - 2 ^ k) Q (Nat.lt_of_le_of_lt (Nat.sub_le _ _) hs)
        simp only [if_true, bind_ok, out_ok, l_var, getS_s, getS_z, l_app, e_app, l_nil, o_bin, sb, o_ix, ix_l, ti, tr_b]
        cases q : Q (s - 2 ^ k) with
        | false => simp only [Bool.false_eq_true, if_false, x_nil, seq_nx, Bool.and_false, Bool.not_false, Bool.and_true]
        | true => simp only [if_true, x_cons, x_asg, e_lit, out_ok, x_nil, seq_nx, List.set_cons_succ, List.set_cons_zero, Bool.and_true, Bool.not_true, Bool.and_false])
    [some (.int (c : Int)), some (.lst (tabV c Q)), some L, some (.int (s : Int)), some (.bl (Q s)), s5, s6] ⟨s5, s6, by simp⟩
  refine ⟨s5', s6', ?_⟩
  rw [h, nl_len, List.length_range]
theorem least_runT {c : Nat} (hc : c ≤ 9) (Q : Nat → Bool) : runF tbLeast Φ [.int (c : Int), .lst (tabV c Q)] = .ok (.lst (nl (tabLeast c Q))) none := by
  have p9 := pow9 hc
  have hz : 1000 ≤ sizeLine := by decide
  obtain ⟨ρ1, h1, s3, s4, s5, s6, rfl⟩ := for_inv (tg := [3]) (tt := false) (b := exec Φ (bodyF (nth tbLeast.body 1))) (nl (List.range (2 ^ c))) (fun j ρ => ∃ s3 s4 s5 s6, ρ = [some (.int (c : Int)), some (.lst (tabV c Q)), some (.lst (nl ((List.range j).filter fun s => Q s && (List.range c).all fun e => !(s.testBit e && Q (s - 2 ^ e))))), s3, s4, s5, s6])
    (fun j x hx ρ ⟨s3, s4, s5, s6, hρ⟩ => by
      subst hρ
      obtain ⟨hj, rfl⟩ := nl_at' hx
      have ti := tab_atI (c := c) Q hj
      obtain ⟨t5, t6, hin⟩ := least_inner (Φ := Φ) (s5 := s5) (s6 := s6) (L := .lst (nl ((List.range j).filter fun s => Q s && (List.range c).all fun e => !(s.testBit e && Q (s - 2 ^ e))))) hc hj (Q := Q)
      have rg := rngN (m := c) (by omega)
      have hlen : (nl ((List.range j).filter fun s => Q s && (List.range c).all fun e => !(s.testBit e && Q (s - 2 ^ e)))).length < sizeLine := by
        rw [nl_len]
        have := List.length_filter_le (fun s => Q s && (List.range c).all fun e => !(s.testBit e && Q (s - 2 ^ e))) (List.range j)
        rw [List.length_range] at this
        omega
      refine ⟨_, [some (.int (c : Int)), some (.lst (tabV c Q)), some (.lst (nl ((List.range (j + 1)).filter fun s => Q s && (List.range c).all fun e => !(s.testBit e && Q (s - 2 ^ e))))), some (.int (j : Int)), some (.bl (Q j && (List.range c).all fun e => !(j.testBit e && Q (j - 2 ^ e)))), t5, t6], tg1, .inl ?_, _, _, _, _, rfl⟩
      simp only [tbLeast, nth, bodyF] at hin ⊢
      simp only [List.set_cons_succ, List.set_cons_zero, x_cons, x_asg, e_app, l_lit, e_lit, l_var, getS_s, getS_z, l_nil, bind_ok, o_ix, ix_l, ti, out_ok, seq_nx, x_for, i_rng, rg]
      rw [hin]
      rw [List.range_succ, List.filter_append]
      simp only [seq_nx, x_ife, t_var, getS_s, getS_z, tr_b, out_ok]
      cases q : (Q j && (List.range c).all fun e => !(j.testBit e && Q (j - 2 ^ e))) with
      | false =>
        have f : List.filter (fun s => Q s && (List.range c).all fun e => !(s.testBit e && Q (s - 2 ^ e))) [j] = [] := List.filter_cons_of_neg (p := fun s => Q s && (List.range c).all fun e => !(s.testBit e && Q (s - 2 ^ e))) (a := j) (l := []) (by rw [q]; nofun)
        rw [f, List.append_nil]
        simp only [Bool.false_eq_true, if_false, x_nil, seq_nx]
      | true =>
        have f : List.filter (fun s => Q s && (List.range c).all fun e => !(s.testBit e && Q (s - 2 ^ e))) [j] = [j] := List.filter_cons_of_pos (p := fun s => Q s && (List.range c).all fun e => !(s.testBit e && Q (s - 2 ^ e))) (a := j) (l := []) q
        rw [f]
        have m := e_mut (Φ := Φ) (m := .append) (i := 2) (as := .cons (.var 3) .nil) (ρ := [some (.int (c : Int)), some (.lst (tabV c Q)), some (.lst (nl ((List.range j).filter fun s => Q s && (List.range c).all fun e => !(s.testBit e && Q (s - 2 ^ e))))), some (.int (j : Int)), some (.bl true), t5, t6]) (vs := [.int (j : Int)])
          (ρ1 := [some (.int (c : Int)), some (.lst (tabV c Q)), some (.lst (nl ((List.range j).filter fun s => Q s && (List.range c).all fun e => !(s.testBit e && Q (s - 2 ^ e))))), some (.int (j : Int)), some (.bl true), t5, t6]) (xs := nl ((List.range j).filter fun s => Q s && (List.range c).all fun e => !(s.testBit e && Q (s - 2 ^ e)))) rfl (by simp) rfl
          (show mutV .append (.lst (nl ((List.range j).filter fun s => Q s && (List.range c).all fun e => !(s.testBit e && Q (s - 2 ^ e))))) [.int (j : Int)] = some (.non, .lst (nl ((List.range j).filter fun s => Q s && (List.range c).all fun e => !(s.testBit e && Q (s - 2 ^ e))) ++ [.int (j : Int)])) by rw [m_app, if_pos hlen])
        simp only [if_true, x_cons, x_exp, m, out_ok, seq_nx, x_nil, List.set_cons_succ, List.set_cons_zero, nl_append]
        rfl) [some (.int (c : Int)), some (.lst (tabV c Q)), some (.lst (nl [])), none, none, none, none] ⟨none, none, none, none, rfl⟩
  have e1 : ((List.range (nl (List.range (2 ^ c))).length).filter fun s => Q s && (List.range c).all fun e => !(s.testBit e && Q (s - 2 ^ e))) = tabLeast c Q := by
    rw [nl_len, List.length_range]
    rfl
  rw [e1] at h1
  have rg := rngN (m := 2 ^ c) (by omega)
  have hn : nl [] = [] := rfl
  rw [hn] at h1
  rw [runF_eq (d := tbLeast) (show [Val.int (c : Int), Val.lst (tabV c Q)].length = tbLeast.np from rfl)]
  simp only [tbLeast, nth, bodyF] at h1 ⊢
  simp only [List.map_cons, List.map_nil, List.cons_append, List.nil_append, List.replicate, Nat.reduceSub, List.set_cons_succ, List.set_cons_zero, x_cons, x_asg, e_app, l_nil, bind_ok, o_displ, List.length_nil, Nat.zero_le, if_true, out_ok, seq_nx, x_for, i_rng, l_app, l_var, getS_s, getS_z, o_len_l, tab_len, rg, h1, x_ret, e_var, seq_ret]
  rfl
theorem number_run {a : Nat} : runF tbNum Φ [.int (a : Int), .int (a : Int)] = .ok (.bl true) none := by
  rw [runF_eq (d := tbNum) (show [Val.int (a : Int), Val.int (a : Int)].length = tbNum.np from rfl)]
  have e1 : evalE Φ (.app (.isi .int) (.cons (.var 0) .nil)) [some (.int (a : Int)), some (.int (a : Int))] = .ok (.bl true) [some (.int (a : Int)), some (.int (a : Int))] := by simp
  have e2 : evalE Φ (.not_ (.app (.isi .bool) (.cons (.var 0) .nil))) [some (.int (a : Int)), some (.int (a : Int))] = .ok (.bl true) [some (.int (a : Int)), some (.int (a : Int))] := by simp
  have e3 : evalE Φ (.app (.cmp .Eq) (.cons (.var 0) (.cons (.var 1) .nil))) [some (.int (a : Int)), some (.int (a : Int))] = .ok (.bl true) [some (.int (a : Int)), some (.int (a : Int))] := by simp
  show resF tbNum (exec Φ tbNum.body [some (.int (a : Int)), some (.int (a : Int))]) = _
  simp only [tbNum, x_cons, x_ret, e_and e1, if_true, e_and e2, e3, out_ok, seq_ret]
  rfl
theorem truth_run {a : Bool} : runF tbTruth Φ [.bl a, .bl a] = .ok (.bl true) none := by
  rw [runF_eq (d := tbTruth) (show [Val.bl a, Val.bl a].length = tbTruth.np from rfl)]
  have e1 : evalE Φ (.app (.isi .bool) (.cons (.var 0) .nil)) [some (.bl a), some (.bl a)] = .ok (.bl true) [some (.bl a), some (.bl a)] := by simp
  have e3 : evalE Φ (.app (.cmp .Eq) (.cons (.var 0) (.cons (.var 1) .nil))) [some (.bl a), some (.bl a)] = .ok (.bl true) [some (.bl a), some (.bl a)] := by simp
  show resF tbTruth (exec Φ tbTruth.body [some (.bl a), some (.bl a)]) = _
  simp only [tbTruth, x_cons, x_ret, e_and e1, if_true, e3, out_ok, seq_ret]
  rfl
theorem numbers_run {num : Nat} {xs : List Nat} (hl : xs.length ≤ 1000) (h11 : ∀ a : Nat, Φ num [.int (a : Int), .int (a : Int)] = .ok (.bl true) none) : runF (tbNums num) Φ [.tup (nl xs), .lst (nl xs)] = .ok (.bl true) none := by
  obtain ⟨ρ1, h1, s, rfl⟩ := for_inv (tg := [2]) (tt := false) (b := exec Φ (bodyF (nth (tbNums num).body 1))) (nl (List.range xs.length)) (fun _ ρ => ∃ s, ρ = [some (.tup (nl xs)), some (.lst (nl xs)), s])
    (fun k x hx ρ ⟨s, hρ⟩ => by
      subst hρ
      obtain ⟨hk, rfl⟩ := nl_at' hx
      have ta := atI_nl (List.getElem?_eq_getElem hk)
      refine ⟨_, _, tg1, .inl ?_, some (.int (k : Int)), rfl⟩
      simp only [tbNums, nth, bodyF]
      simp only [List.set_cons_succ, List.set_cons_zero, x_cons, x_ife, t_not, t_call, l_app, e_app, l_var, getS_s, getS_z, l_nil, bind_ok, o_ix, ix_t, ix_l, ta, h11, tr_b, Bool.not_true, out_ok, Bool.false_eq_true, if_false, x_nil, seq_nx]) [some (.tup (nl xs)), some (.lst (nl xs)), none] ⟨none, rfl⟩
  have rg := rngN (m := xs.length) (by omega)
  rw [runF_eq (d := (tbNums num)) (show [Val.tup (nl xs), Val.lst (nl xs)].length = (tbNums num).np from rfl)]
  show resF (tbNums num) (exec Φ (tbNums num).body [some (.tup (nl xs)), some (.lst (nl xs)), none]) = _
  simp only [tbNums, nth, bodyF] at h1 ⊢
  simp only [x_cons, x_ife, t_or, t_not, t_app, l_app, e_app, l_var, getS_s, getS_z, l_nil, bind_ok, o_isi, cl_t, ty5, tr_b, Bool.not_true, Bool.false_eq_true, if_false, o_len_t, o_len_l, o_cmp, c_ne, beq_self_eq_true, out_ok, x_nil, seq_nx, x_for, i_rng, nl_len, rg, h1, x_ret, e_lit, seq_ret]
  rfl
theorem block_len {c : Nat} (hc : c ≤ 9) (lots : List Nat) : (blockL c lots).length ≤ 512 := by
  unfold blockL
  rw [least_range]
  refine Nat.le_trans (List.length_filter_le _ _) ?_
  rw [List.length_range]
  exact pow9 hc
theorem minEl_len {c : Nat} (hc : c ≤ 9) (Q : Nat → Bool) : (minEl c Q).length ≤ 512 := by
  refine Nat.le_trans (List.length_filter_le _ _) ?_
  rw [List.length_range]
  exact pow9 hc
theorem block_lt {c : Nat} {lots : List Nat} : ∀ x ∈ blockL c lots, x < 2 ^ c := by
  unfold blockL
  rw [least_range]
  exact minEl_lt
/-- no lot at all: the empty one meets all -/
theorem block_nil {c : Nat} : blockL c [] = [0] := by
  unfold blockL
  rw [least_range]
  have p0 := Nat.two_pow_pos c
  have e : minEl c (fun lot => meetsAll lot []) = (List.range (2 ^ c)).filter fun s => s == 0 := by
    unfold minEl
    apply List.filter_congr
    intro s hs
    have hs := List.mem_range.mp hs
    have : meetsAll s [] = true := rfl
    dsimp only
    rw [this, Bool.true_and, Bool.eq_iff_iff, List.all_eq_true]
    constructor
    · intro h
      have := h 0 (List.mem_range.mpr p0)
      have m : meetsAll 0 [] = true := rfl
      simp [m] at this
      simp [← this]
    · intro h t ht
      have : s = 0 := by simpa using h
      subst this
      by_cases z : t = 0
      · simp [z]
      · have : ¬ 0 = t := Ne.symm z
        simp [this]
  rw [e]
  obtain ⟨k, hk⟩ := Nat.exists_eq_succ_of_ne_zero (Nat.ne_of_gt p0)
  rw [hk, List.range_succ_eq_map, List.filter_cons_of_pos (by rfl)]
  congr 1
  rw [List.filter_eq_nil_iff]
  intro a ha
  obtain ⟨b, _, rfl⟩ := List.mem_map.mp ha
  simp
/-- the empty lot among them: nothing meets all -/
theorem block_zero {c : Nat} {lots : List Nat} (h : 0 ∈ lots) : blockL c lots = [] := by
  unfold blockL
  have e : (List.range (2 ^ c)).filter (fun lot => meetsAll lot lots) = [] := by
    rw [List.filter_eq_nil_iff]
    intro s _ q
    obtain ⟨i, i1, _⟩ := meets_iff.mp q 0 h
    rw [Nat.zero_testBit] at i1
    cases i1
  rw [e]
  rfl
end Tb
/-! k10: least lots: the plain laws. -/
namespace Bk
open PySem PySem.Spec L2 Pv
def sortN (xs : List Nat) : List Nat := xs.mergeSort fun a b => decide (a ≤ b)
theorem isort_nat (xs : List Nat) : isort (xs.map fun n : Nat => (n : Int)) = (sortN xs).map fun n : Nat => (n : Int) := by
  unfold isort sortN
  rw [← List.map_mergeSort]
  intro a _ b _
  rw [Bool.eq_iff_iff]
  simp
theorem sortN_sorted (xs : List Nat) : (sortN xs).Pairwise (· ≤ ·) := by
  have := List.pairwise_mergeSort (le := fun a b : Nat => decide (a ≤ b)) (fun a b c h1 h2 => by simp at *; omega) (fun a b => by simp; omega) xs
  exact this.imp fun h => by simpa using h
theorem sortN_perm (xs : List Nat) : (sortN xs).Perm xs := List.mergeSort_perm xs _
theorem sortN_mem {xs : List Nat} {x : Nat} : x ∈ sortN xs ↔ x ∈ xs := (sortN_perm xs).mem_iff
theorem sortN_len (xs : List Nat) : (sortN xs).length = xs.length := (sortN_perm xs).length_eq
theorem sort_unique {xs ys : List Nat} (h : xs.Perm ys) (hx : xs.Pairwise (· ≤ ·)) (hy : ys.Pairwise (· ≤ ·)) : xs = ys :=
  List.Perm.eq_of_pairwise (fun a b _ _ h1 h2 => Nat.le_antisymm h1 h2) hx hy h
/-- the law's own least: over a sorted list, the last one kept told apart -/
def lawGo (lots : List Nat) : List Nat → List Nat → List Nat
  | kept, [] => kept
  | kept, x :: xs => if (kept.getLast? != some x) && lots.all (fun t => t == x || !(t &&& x == t)) then lawGo lots (kept ++ [x]) xs else lawGo lots kept xs
theorem lawGo_eq {lots : List Nat} : ∀ (xs pre kept : List Nat), (∀ y, y ∈ lots ↔ y ∈ pre ∨ y ∈ xs) → xs.Pairwise (· ≤ ·) → (∀ y ∈ pre, ∀ x ∈ xs, y ≤ x) → (∀ k ∈ kept, k ∈ pre) → kept.Pairwise (· < ·) → (∀ y ∈ pre, ∃ k ∈ kept, Sub k y) → lawGo lots kept xs = leastGo kept xs
  | [], _, _, _, _, _, _, _, _ => rfl
  | x :: xs, pre, kept, h1, h2, h3, h4, h5, h6 => by
    rw [List.pairwise_cons] at h2
    rw [lawGo, leastGo]
    have key : ((kept.getLast? != some x) && lots.all (fun t => t == x || !(t &&& x == t))) = !hasLot kept x := by
      rw [Bool.eq_iff_iff, Bool.and_eq_true, Bool.not_eq_true', ← Bool.not_eq_true, hasLot_iff, List.all_eq_true]
      constructor
      · rintro ⟨a, b⟩ ⟨k, k1, k2⟩
        have bk := b k ((h1 k).mpr (.inl (h4 k k1)))
        simp [sub_iff.mpr k2] at bk
        subst bk
        -- the last one kept
        have : kept.getLast? = some k := by
          have ne : kept ≠ [] := List.ne_nil_of_mem k1
          rw [List.getLast?_eq_some_getLast ne]
          congr 1
          refine Classical.byContradiction fun z => ?_
          have lm := List.getLast_mem ne
          have l1 := h3 _ (h4 _ lm) k (by simp)
          -- k stands ahead of the last, so it is smaller
          obtain ⟨i, hi, e⟩ := List.getElem_of_mem k1
          have : i < kept.length - 1 := by
            refine Classical.byContradiction fun q => z ?_
            have : i = kept.length - 1 := by omega
            subst this
            rw [List.getLast_eq_getElem]
            exact e
          have lt := List.pairwise_iff_getElem.mp h5 i (kept.length - 1) hi (by omega) this
          rw [e, ← List.getLast_eq_getElem ne] at lt
          omega
        rw [this] at a
        simp at a
      · intro n
        refine ⟨?_, fun t ht => ?_⟩
        · rw [bne_iff_ne]
          intro z
          exact n ⟨x, List.mem_of_getLast? z, Sub.refl x⟩
        · by_cases e : t = x
          · simp [e]
          · by_cases z : Sub t x
            · exfalso
              rcases (h1 t).mp ht with hp | hp
              · obtain ⟨k, k1, k2⟩ := h6 t hp
                exact n ⟨k, k1, k2.trans z⟩
              · have : x ≤ t := by
                  rcases List.mem_cons.mp hp with rfl | hp
                  · exact Nat.le_refl _
                  · exact h2.1 t hp
                exact e (Nat.le_antisymm z.le this)
            · simp [mt sub_iff.mp z]
    rw [key]
    have hm : ∀ y, y ∈ lots ↔ y ∈ pre ++ [x] ∨ y ∈ xs := fun y => by
      rw [h1 y]
      simp [or_assoc]
    have hle : ∀ y ∈ pre ++ [x], ∀ z ∈ xs, y ≤ z := fun y hy z hz => by
      rcases List.mem_append.mp hy with hy | hy
      · exact h3 y hy z (by simp [hz])
      · cases List.mem_singleton.mp hy
        exact h2.1 z hz
    cases q : hasLot kept x with
    | true =>
      rw [if_neg (by simp), if_pos rfl]
      refine lawGo_eq xs (pre ++ [x]) kept hm h2.2 hle (fun k hk => by simp [h4 k hk]) h5 fun y hy => ?_
      rcases List.mem_append.mp hy with hy | hy
      · exact h6 y hy
      · cases List.mem_singleton.mp hy
        exact hasLot_iff.mp q
    | false =>
      rw [if_pos (by simp), if_neg nofun]
      refine lawGo_eq xs (pre ++ [x]) (kept ++ [x]) hm h2.2 hle (fun k hk => ?_) ?_ fun y hy => ?_
      · rcases List.mem_append.mp hk with hk | hk
        · simp [h4 k hk]
        · simp [List.mem_singleton.mp hk]
      · rw [List.pairwise_append]
        refine ⟨h5, List.pairwise_singleton _ _, fun a ha b hb => ?_⟩
        cases List.mem_singleton.mp hb
        have l := h3 a (h4 a ha) x (by simp)
        refine Nat.lt_of_le_of_ne l fun e => ?_
        subst e
        have : hasLot kept a = true := hasLot_iff.mpr ⟨a, ha, Sub.refl a⟩
        rw [q] at this
        cases this
      · rcases List.mem_append.mp hy with hy | hy
        · obtain ⟨k, k1, k2⟩ := h6 y hy
          exact ⟨k, by simp [k1], k2⟩
        · cases List.mem_singleton.mp hy
          exact ⟨x, by simp, Sub.refl x⟩
theorem law_least (lots : List Nat) : lawGo lots [] (sortN lots) = leastGo [] (sortN lots) :=
  lawGo_eq (sortN lots) [] [] (fun y => by simp [sortN_mem]) (sortN_sorted lots) (fun y hy => by simp at hy) (fun k hk => by simp at hk) List.Pairwise.nil (fun y hy => by simp at hy)
end Bk
namespace K10
open PySem PySem.Spec L2 Pv Bk Tb
variable {Φ : Nat → List Val → FRes}
theorem div2 (a k : Nat) : a / 2 ^ k / 2 = a / 2 ^ (k + 1) := by rw [Nat.div_div_eq_div_mul, Nat.pow_succ]
theorem intLit {m : Nat} (z : Int) (hz : z = (m : Int)) : Val.int z = .int (m : Int) := by rw [hz]
theorem div2V {a k : Nat} : binV .FloorDiv (.int ((a / 2 ^ k : Nat) : Int)) (.int 2) = some (.int ((a / 2 ^ (k + 1) : Nat) : Int)) := by
  rw [← div2]
  exact divN (b := 2) (by omega) (by omega)
theorem bitV1 {a k : Nat} : cmpV .Eq (.int ((a / 2 ^ k % 2 : Nat) : Int)) (.int 1) = some (.bl (a.testBit k)) := by
  rw [bit_eq]
  exact eqLit (b := 1) 1 rfl
theorem bitV0 {a k : Nat} : cmpV .Eq (.int ((a / 2 ^ k % 2 : Nat) : Int)) (.int 0) = some (.bl (!a.testBit k)) := by
  rw [← bit_no]
  exact eqLit (b := 0) 0 rfl
theorem rng20 : rngV [.int 20] = some (nl (List.range 20)) := rngN (m := 20) (by decide)
/-- _law_within -/
theorem within_run {a b : Nat} (ha : a < 2 ^ 20) : runF d12 Φ [.int (a : Int), .int (b : Int)] = .ok (.bl (a &&& b == a)) none := by
  have key := for_anyI (tg := [2]) (tt := false) (b := exec Φ (bodyF (nth d12.body 0))) (P := onN fun k => a.testBit k && !b.testBit k) (r := .bl false) (nl (List.range 20)) (fun k ρ => ∃ s, ρ = [some (.int ((a / 2 ^ k : Nat) : Int)), some (.int ((b / 2 ^ k : Nat) : Int)), s]) (fun k x hx ρ ⟨s, hs⟩ => by
      subst hs
      obtain ⟨hk, rfl⟩ := nl_at' hx
      refine ⟨_, tg1, ?_⟩
      have m1 := modLit (m := a / 2 ^ k) (b := 2) (by omega) 2 rfl
      have m2 := modLit (m := b / 2 ^ k) (b := 2) (by omega) 2 rfl
      have e : onN (fun k => a.testBit k && !b.testBit k) (.int (k : Int)) = (a.testBit k && !b.testBit k) := rfl
      rw [e]
      simp only [d12, nth, bodyF, List.set_cons_succ, List.set_cons_zero]
      cases p : a.testBit k with
      | false =>
        refine .inr ⟨rfl, _, .inl ?_, some (.int (k : Int)), rfl⟩
        simp only [x_cons, x_ife, t_and, t_app, l_app, e_app, l_var, l_lit, e_lit, l_nil, getS_s, getS_z, bind_ok, o_int, o_bin, m1, o_cmp, bitV1, p, tr_b, Bool.false_eq_true, if_false, out_ok, x_nil, seq_nx, x_asg, div2V, List.set_cons_succ, List.set_cons_zero]
      | true =>
        cases q : b.testBit k with
        | false =>
          refine .inl ⟨rfl, [some (.int ((a / 2 ^ k : Nat) : Int)), some (.int ((b / 2 ^ k : Nat) : Int)), some (.int (k : Int))], ?_⟩
          simp only [x_cons, x_ife, t_and, t_app, l_app, e_app, l_var, l_lit, e_lit, l_nil, getS_s, getS_z, bind_ok, o_int, o_bin, m1, m2, o_cmp, bitV1, bitV0, p, q, tr_b, Bool.not_false, if_true, out_ok, x_ret, seq_ret]
        | true =>
          refine .inr ⟨rfl, _, .inl ?_, some (.int (k : Int)), rfl⟩
          simp only [x_cons, x_ife, t_and, t_app, l_app, e_app, l_var, l_lit, e_lit, l_nil, getS_s, getS_z, bind_ok, o_int, o_bin, m1, m2, o_cmp, bitV1, bitV0, p, q, tr_b, Bool.not_true, if_true, Bool.false_eq_true, if_false, out_ok, x_nil, seq_nx, x_asg, div2V, List.set_cons_succ, List.set_cons_zero])
    [some (.int (a : Int)), some (.int (b : Int)), none] ⟨none, by simp⟩
  rw [onN_any] at key
  have e : (a &&& b == a) = !((List.range 20).any fun k => a.testBit k && !b.testBit k) := by
    rw [Bool.eq_iff_iff, beq_iff_eq, sub_iff, Bool.not_eq_true', List.any_eq_false]
    constructor
    · intro h k _
      cases p : a.testBit k with
      | false => simp
      | true => simp [h k p]
    · intro h i hi
      have := h i (List.mem_range.mpr (bit_lt ha hi))
      rw [hi] at this
      simpa using this
  rw [runF_eq (d := d12) (show [Val.int (a : Int), .int (b : Int)].length = d12.np from rfl)]
  show resF d12 (exec Φ d12.body [some (.int (a : Int)), some (.int (b : Int)), none]) = _
  rw [e]
  simp only [d12, nth, bodyF] at key ⊢
  simp only [x_cons, x_for, i_rng, l_lit, e_lit, l_nil, bind_ok, rng20, out_ok]
  rcases key with ⟨h1, ρ2, h2⟩ | ⟨h1, ρ2, h2, s, rfl⟩
  · simp [h2, h1, resF, outR]
  · simp [h2, h1, resF, outR]
/-- a number's bits, as places -/
def ends (a : Nat) : List Nat := (List.range 20).filter fun e => a.testBit e
theorem ends_run {a : Nat} : runF d11 Φ [.int (a : Int)] = .ok (.lst (nl (ends a))) none := by
  obtain ⟨ρ1, h1, s, rfl⟩ := for_inv (tg := [2]) (tt := false) (b := exec Φ (bodyF (nth d11.body 1))) (nl (List.range 20)) (fun k ρ => ∃ s, ρ = [some (.int ((a / 2 ^ k : Nat) : Int)), some (.lst (nl ((List.range k).filter fun e => a.testBit e))), s]) (fun k x hx ρ ⟨s, hs⟩ => by
      subst hs
      obtain ⟨hk, rfl⟩ := nl_at' hx
      have m1 := modLit (m := a / 2 ^ k) (b := 2) (by omega) 2 rfl
      refine ⟨_, _, tg1, .inl ?_, some (.int (k : Int)), rfl⟩
      rw [List.range_succ, List.filter_append]
      simp only [d11, nth, bodyF, List.set_cons_succ, List.set_cons_zero]
      simp only [x_cons, x_ife, t_app, l_app, e_app, l_var, l_lit, e_lit, l_nil, getS_s, getS_z, bind_ok, o_int, o_bin, m1, o_cmp, bitV1, tr_b, out_ok, x_nil]
      cases p : a.testBit k with
      | false =>
        have f : List.filter (fun e => a.testBit e) [k] = [] := List.filter_cons_of_neg (p := fun e => a.testBit e) (a := k) (l := []) (by rw [p]; nofun)
        rw [f, List.append_nil]
        simp only [Bool.false_eq_true, if_false, x_nil, seq_nx, x_asg, e_app, l_var, l_lit, e_lit, l_nil, getS_s, getS_z, bind_ok, o_bin, div2V, out_ok, List.set_cons_succ, List.set_cons_zero]
      | true =>
        have f : List.filter (fun e => a.testBit e) [k] = [k] := List.filter_cons_of_pos (p := fun e => a.testBit e) (a := k) (l := []) p
        have hl : (nl ((List.range k).filter fun e => a.testBit e)).length < sizeLine := by
          rw [nl_len]
          have := List.length_filter_le (fun e => a.testBit e) (List.range k)
          rw [List.length_range] at this
          have : 1000 ≤ sizeLine := by decide
          omega
        have m := e_mut (Φ := Φ) (m := .append) (i := 1) (as := .cons (.var 2) .nil) (ρ := [some (.int ((a / 2 ^ k : Nat) : Int)), some (.lst (nl ((List.range k).filter fun e => a.testBit e))), some (.int (k : Int))]) (vs := [.int (k : Int)]) (ρ1 := [some (.int ((a / 2 ^ k : Nat) : Int)), some (.lst (nl ((List.range k).filter fun e => a.testBit e))), some (.int (k : Int))])
          (xs := nl ((List.range k).filter fun e => a.testBit e)) rfl (by simp) rfl (show mutV .append (.lst (nl ((List.range k).filter fun e => a.testBit e))) [.int (k : Int)] = some (.non, .lst (nl ((List.range k).filter fun e => a.testBit e) ++ [.int (k : Int)])) by rw [m_app, if_pos hl])
        rw [f]
        simp only [if_true, x_cons, x_exp, m, out_ok, x_nil, seq_nx, x_asg, e_app, l_var, l_lit, e_lit, l_nil, getS_s, getS_z, bind_ok, o_bin, div2V, List.set_cons_succ, List.set_cons_zero, nl_append]
        rfl) [some (.int (a : Int)), some (.lst (nl [])), none] ⟨none, by simp⟩
  rw [nl_len, List.length_range] at h1
  have hn : nl [] = [] := rfl
  rw [hn] at h1
  rw [runF_eq (d := d11) (show [Val.int (a : Int)].length = d11.np from rfl)]
  show resF d11 (exec Φ d11.body [some (.int (a : Int)), none, none]) = _
  simp only [d11, nth, bodyF] at h1 ⊢
  simp only [x_cons, x_asg, e_app, l_nil, bind_ok, o_displ, List.length_nil, Nat.zero_le, if_true, out_ok, List.set_cons_succ, List.set_cons_zero, seq_nx, x_for, i_rng, l_lit, e_lit, rng20, h1, x_ret, e_var, getS_s, getS_z, seq_ret]
  rfl
end K10
namespace K10
open PySem PySem.Spec L2 Pv Bk Tb
variable {Φ : Nat → List Val → FRes}
theorem orN {a b : Nat} : binV .BitOr (.int (a : Int)) (.int (b : Int)) = some (.int ((a ||| b : Nat) : Int)) := by
  rw [b_or, L2.bitOr_nn (Int.natCast_nonneg _) (Int.natCast_nonneg _), Int.toNat_natCast, Int.toNat_natCast]
def orEnds (es : List Nat) : Nat := es.foldl (fun l e => l ||| 2 ^ e) 0
theorem orEnds_bit (es : List Nat) (i : Nat) : (orEnds es).testBit i = es.any (· == i) := by
  have k : ∀ (es : List Nat) (l : Nat), (es.foldl (fun l e => l ||| 2 ^ e) l).testBit i = (l.testBit i || es.any (· == i)) := by
    intro es
    induction es with
    | nil => intro l; simp
    | cons e es ih =>
      intro l
      rw [List.foldl_cons, ih, Nat.testBit_or, Nat.testBit_two_pow, List.any_cons, Bool.or_assoc]
      congr 2
  unfold orEnds
  rw [k]
  simp
theorem lotof_run {es : List Nat} (he : ∀ e ∈ es, e < 64) : runF d2 Φ [.tup (nl es)] = .ok (.int (orEnds es : Nat)) none := by
  obtain ⟨ρ1, h1, s, rfl⟩ := for_inv (tg := [2]) (tt := false) (b := exec Φ (bodyF (nth d2.body 1))) (nl es) (fun k ρ => ∃ s, ρ = [some (.tup (nl es)), some (.int (orEnds (es.take k) : Nat)), s]) (fun k x hx ρ ⟨s, hs⟩ => by
      subst hs
      obtain ⟨e, h, rfl⟩ := nl_at hx
      have hm := he e (List.mem_of_getElem? h)
      have sh := oneShl (c := e) (by omega)
      refine ⟨_, _, tg1, .inl ?_, some (.int (e : Int)), rfl⟩
      have ee : orEnds (es.take (k + 1)) = orEnds (es.take k) ||| 2 ^ e := by
        unfold orEnds
        rw [List.take_add_one, h]
        simp [List.foldl_append]
      rw [ee]
      simp only [d2, nth, bodyF, List.set_cons_succ, List.set_cons_zero, x_cons, x_asg, e_app, l_app, l_var, l_lit, e_lit, l_nil, getS_s, getS_z, bind_ok, o_bin, sh, orN, out_ok, seq_nx, x_nil]) [some (.tup (nl es)), some (.int ((orEnds [] : Nat) : Int)), none] ⟨none, rfl⟩
  rw [nl_len, List.take_length] at h1
  have z : ((orEnds [] : Nat) : Int) = 0 := rfl
  rw [z] at h1
  rw [runF_eq (d := d2) (show [Val.tup (nl es)].length = d2.np from rfl)]
  show resF d2 (exec Φ d2.body [some (.tup (nl es)), none, none]) = _
  simp only [d2, nth, bodyF] at h1 ⊢
  simp only [x_cons, x_asg, e_lit, out_ok, List.set_cons_succ, List.set_cons_zero, seq_nx, x_for, i_seq, e_var, getS_s, getS_z, bind_ok, it_t, h1, x_ret, seq_ret]
  rfl
theorem filter_range {p : Nat → Bool} {m : Nat} : ∀ n, m ≤ n → (∀ i, m ≤ i → p i = false) → (List.range n).filter p = (List.range m).filter p := by
  intro n
  induction n with
  | zero => intro h _; have : m = 0 := by omega
            rw [this]
  | succ n ih =>
    intro h k
    by_cases e : m = n + 1
    · rw [e]
    · rw [List.range_succ, List.filter_append, ih (by omega) k]
      have : List.filter p [n] = [] := List.filter_cons_of_neg (p := p) (a := n) (l := []) (by rw [k n (by omega)]; nofun)
      rw [this, List.append_nil]
theorem bits_le {a n : Nat} (h : a < 2 ^ n) : Builtin.Int.intBits (a : Int) ≤ n := PySem.intBits_le_iff.mpr (by rw [Int.natAbs_natCast]; exact h)
theorem lt_bits (a : Nat) : a < 2 ^ Builtin.Int.intBits (a : Int) := by
  have := PySem.intBits_le_iff.mp (Nat.le_refl (Builtin.Int.intBits (a : Int)))
  rw [Int.natAbs_natCast] at this
  exact this
theorem shr1 {a k : Nat} : binV .RShift (.int (a : Int)) (.int (k : Int)) = some (.int ((a / 2 ^ k : Nat) : Int)) := by
  rw [b_shr (by omega), Int.toNat_natCast]
  simp
theorem and1 {m : Nat} : binV .BitAnd (.int (m : Int)) (.int 1) = some (.int ((m % 2 : Nat) : Int)) := by
  have := andN (a := m) (b := 1)
  rw [Nat.and_one_is_mod] at this
  exact this
theorem ne0 {a k : Nat} : (((a / 2 ^ k % 2 : Nat) : Int) != 0) = a.testBit k := by
  rw [bit_eq]
  have : a / 2 ^ k % 2 < 2 := Nat.mod_lt _ (by omega)
  by_cases h : a / 2 ^ k % 2 = 0
  · rw [h]; rfl
  · have : a / 2 ^ k % 2 = 1 := by omega
    rw [this]; rfl
theorem endsof_run {a : Nat} (ha : a < 2 ^ 20) : runF d3 Φ [.int (a : Int)] = .ok (.tup (nl (ends a))) none := by
  have hb := bits_le ha
  have rg := rngN (m := Builtin.Int.intBits (a : Int)) (by omega)
  have hi : evalI Φ (.rng (.cons (.app .bits (.cons (.var 0) .nil)) .nil)) [some (.int (a : Int)), none] = .ok (nl (List.range (Builtin.Int.intBits (a : Int)))) [some (.int (a : Int)), none] := by
    simp only [i_rng, l_app, e_app, l_var, getS_s, getS_z, l_nil, bind_ok, o_bits, rg]
  have hcmp := comp_ok (Φ := Φ) (vs := [1]) (tg := [1]) (tt := false) (kc := .app (.bin .BitAnd) (.cons (.app (.bin .RShift) (.cons (.var 0) (.cons (.var 1) .nil))) (.cons (.lit (.int 1)) .nil))) (ke := .var 1) (onN fun k => a.testBit k) id hi (fun x hx => by
    obtain ⟨m, hm, rfl⟩ := nl_mem hx
    refine ⟨_, tg1, rfl, ?_, fun _ => by simp [wipeS]⟩
    simp only [wipeS, List.set_cons_succ, List.set_cons_zero, t_app, l_app, e_app, l_var, l_lit, e_lit, l_nil, getS_s, getS_z, bind_ok, o_bin, shr1, and1, tr_i, ne0]
    rfl) (by rw [nl_len, List.length_range]; exact Nat.le_trans hb (by decide)) back1
  have ef : ((nl (List.range (Builtin.Int.intBits (a : Int)))).filter (onN fun k => a.testBit k)).map id = nl (ends a) := by
    rw [List.map_id]
    have e2 : ends a = (List.range (Builtin.Int.intBits (a : Int))).filter fun k => a.testBit k := by
      unfold ends
      refine filter_range 20 hb fun i hi => ?_
      exact Nat.testBit_lt_two_pow (Nat.lt_of_lt_of_le (lt_bits a) (Nat.pow_le_pow_right (by omega) hi))
    rw [e2]
    unfold nl
    rw [List.filter_map]
    rfl
  rw [ef] at hcmp
  rw [runF_eq (d := d3) (show [Val.int (a : Int)].length = d3.np from rfl)]
  show resF d3 (exec Φ d3.body [some (.int (a : Int)), none]) = _
  simp only [d3, x_cons, x_ret, e_app, l_comp, hcmp, bind_ok, l_nil, o_tupl, out_ok, seq_ret]
  rfl
theorem full_run {c : Nat} (hc : c ≤ 40) : runF d4 Φ [.int (c : Int)] = .ok (.int ((2 ^ c - 1 : Nat) : Int)) none := by
  have sh := oneShl (c := c) (by omega)
  have pz := Nat.two_pow_pos c
  have su : binV .Sub (.int ((2 ^ c : Nat) : Int)) (.int 1) = some (.int ((2 ^ c - 1 : Nat) : Int)) := by rw [b_sub, Int.natCast_sub (by omega)]; rfl
  rw [runF_eq (d := d4) (show [Val.int (c : Int)].length = d4.np from rfl)]
  show resF d4 (exec Φ d4.body [some (.int (c : Int))]) = _
  simp only [d4, x_cons, x_ret, e_app, l_app, l_lit, e_lit, l_var, getS_s, getS_z, l_nil, bind_ok, o_bin, sh, su, out_ok, seq_ret]
  rfl
theorem inside_run {a b : Nat} : runF d5 Φ [.int (a : Int), .int (b : Int)] = .ok (.bl (a &&& b == a)) none := by
  rw [runF_eq (d := d5) (show [Val.int (a : Int), .int (b : Int)].length = d5.np from rfl)]
  show resF d5 (exec Φ d5.body [some (.int (a : Int)), some (.int (b : Int))]) = _
  simp only [d5, x_cons, x_ret, e_app, l_app, l_lit, e_lit, l_var, getS_s, getS_z, l_nil, bind_ok, o_bin, andN, o_cmp, eqN, out_ok, seq_ret]
  rfl
theorem orEnds_ends {a : Nat} (ha : a < 2 ^ 20) : orEnds (ends a) = a := by
  apply Nat.eq_of_testBit_eq
  intro i
  rw [orEnds_bit]
  unfold ends
  rw [Bool.eq_iff_iff, List.any_eq_true]
  constructor
  · rintro ⟨e, h1, h2⟩
    have := beq_iff_eq.mp h2
    subst this
    exact (List.mem_filter.mp h1).2
  · intro h
    exact ⟨i, List.mem_filter.mpr ⟨List.mem_range.mpr (bit_lt ha h), h⟩, by simp⟩
theorem ends_lt {a : Nat} : ∀ e ∈ ends a, e < 20 := fun e h => List.mem_range.mp (List.mem_filter.mp h).1
theorem ends_len (a : Nat) : (ends a).length ≤ 20 := by
  have := List.length_filter_le (fun e => a.testBit e) (List.range 20)
  rw [List.length_range] at this
  exact this
theorem lotasked_run {a : Nat} (ha : a < 2 ^ 20) (h2 : Φ 2 [.tup (nl (ends a))] = .ok (.int (orEnds (ends a) : Nat)) none) (h3 : Φ 3 [.int (a : Int)] = .ok (.tup (nl (ends a))) none) (h11 : Φ 11 [.int (a : Int)] = .ok (.lst (nl (ends a))) none) (h16 : Φ 16 [.int (a : Int), .int (a : Int)] = .ok (.bl true) none)
    (h18 : Φ 18 [.tup (nl (ends a)), .lst (nl (ends a))] = .ok (.bl true) none) : runF d19 Φ [.int (a : Int)] = .ok (.bl true) none := by
  rw [orEnds_ends ha] at h2
  rw [runF_eq (d := d19) (show [Val.int (a : Int)].length = d19.np from rfl)]
  show resF d19 (exec Φ d19.body [some (.int (a : Int)), none]) = _
  simp only [d19, x_cons, x_asg, e_call, l_var, getS_s, getS_z, l_nil, bind_ok, h11, out_ok, List.set_cons_succ, List.set_cons_zero, seq_nx]
  rw [x_ret, e_and (k := true) (ρ1 := [some (.int (a : Int)), some (.lst (nl (ends a)))]) (by simp [h3, h18])]
  simp [h2, h16, resF, outR]
end K10
/-! Ev: rules that run the small language; naturals in it. -/
namespace Pv
open PySem PySem.Spec PyProof.Rows L2
section
variable {Φ : Nat → List Val → FRes} {ρ : Slots}
/-- a Bool that decides between two ways -/
def pickR {α : Type} (k : Bool) (a b : Res α) : Res α := if k then a else b
@[simp] theorem pickR_t {α : Type} {a b : Res α} : pickR true a b = a := rfl
@[simp] theorem pickR_f {α : Type} {a b : Res α} : pickR false a b = b := rfl
def andV (v : Val) (r : Res Val) (ρ : Slots) : Res Val := match v with
  | .bl true => r
  | .bl false => .ok (.bl false) ρ
  | _ => .stuck
def orV (v : Val) (r : Res Val) (ρ : Slots) : Res Val := match v with
  | .bl false => r
  | .bl true => .ok (.bl true) ρ
  | _ => .stuck
theorem andV_b {k : Bool} {r : Res Val} : andV (.bl k) r ρ = if k then r else .ok (.bl false) ρ := by cases k <;> rfl
theorem orV_b {k : Bool} {r : Res Val} : orV (.bl k) r ρ = if k then .ok (.bl true) ρ else r := by cases k <;> rfl
theorem e_andV {a b : ME} : evalE Φ (.and_ a b) ρ = (evalE Φ a ρ).bind fun v ρ1 => andV v (evalE Φ b ρ1) ρ1 := by
  rw [evalE]
  congr 1
theorem e_orV {a b : ME} : evalE Φ (.or_ a b) ρ = (evalE Φ a ρ).bind fun v ρ1 => orV v (evalE Φ b ρ1) ρ1 := by
  rw [evalE]
  congr 1
@[simp] theorem l_and {a b as : ME} : evalL Φ (.cons (.and_ a b) as) ρ = (evalE Φ (.and_ a b) ρ).bind fun v ρ1 => (evalL Φ as ρ1).bind fun vs ρ2 => .ok (v :: vs) ρ2 := l_cons rfl
@[simp] theorem l_or {a b as : ME} : evalL Φ (.cons (.or_ a b) as) ρ = (evalE Φ (.or_ a b) ρ).bind fun v ρ1 => (evalL Φ as ρ1).bind fun vs ρ2 => .ok (v :: vs) ρ2 := l_cons rfl
theorem e_mutV {m : Mut} {i : Nat} {as : ME} : evalE Φ (.mut m i as) ρ = match getS ρ i with
    | some (.lst _) => (evalL Φ as ρ).bind fun vs ρ1 => match getS ρ1 i with
      | none => .stuck
      | some u => match mutV m u vs with
        | some (v, u1) => .ok v (ρ1.set i (some u1))
        | none => .stuck
    | _ => .stuck := by rw [evalE] <;> rfl
theorem x_setixV {i : Nat} {ix e : ME} : exec Φ (.setix i ix e) ρ = (evalL Φ (.cons e (.cons (.var i) (.cons ix .nil))) ρ).out fun vs ρ1 => match vs with
    | [v, .lst xs, .int k] => match ixN xs.length k with
      | some j => .nx (ρ1.set i (some (.lst (xs.set j v))))
      | none => .stuck
    | _ => .stuck := by rw [exec] <;> rfl
theorem x_augV {i : Nat} {o : Operator} {e : ME} : exec Φ (.aug i o e) ρ = match getS ρ i with
    | some (.int a) => (evalE Φ e ρ).out fun v ρ1 => match binV o (.int a) v with | some z => .nx (ρ1.set i (some z)) | none => .stuck
    | _ => .stuck := by rw [exec] <;> rfl
theorem x_asgTV {is : List Nat} {e : ME} : exec Φ (.asgT is e) ρ = (evalE Φ e ρ).out fun v ρ1 => match v with
    | .tup vs => match bindS is vs ρ1 with | some ρ2 => .nx ρ2 | none => .stuck
    | _ => .stuck := by rw [exec] <;> rfl
/-- a chain of two comparisons of ints -/
def chn (o1 o2 : CmpOp) (x y : Val) (rc : Res Val) (ρ2 : Slots) : Res Bool := match x, y with
  | .int x, .int y => match cmpV o1 (.int x) (.int y) with
    | some (.bl true) => rc.bind fun z ρ3 => match z with
      | .int z => match cmpV o2 (.int y) (.int z) with
        | some (.bl v) => .ok v ρ3
        | _ => .stuck
      | _ => .stuck
    | some (.bl false) => .ok false ρ2
    | _ => .stuck
  | _, _ => .stuck
theorem t_chainV {o1 o2 : CmpOp} {a b c : ME} : evalT Φ (.chain o1 o2 a b c) ρ = (evalE Φ a ρ).bind fun x ρ1 => (evalE Φ b ρ1).bind fun y ρ2 => chn o1 o2 x y (evalE Φ c ρ2) ρ2 := by rw [evalT]; rfl
theorem e_chainV {o1 o2 : CmpOp} {a b c : ME} : evalE Φ (.chain o1 o2 a b c) ρ = (evalT Φ (.chain o1 o2 a b c) ρ).bind fun k ρ1 => .ok (.bl k) ρ1 := by
  rw [evalE, evalT]
  cases evalE Φ a ρ with
  | stuck => rfl
  | err e ρ1 => rfl
  | ok va ρ1 =>
    simp only [Res.bind]
    cases evalE Φ b ρ1 with
    | stuck => rfl
    | err e ρ1 => rfl
    | ok vb ρ2 =>
      cases va <;> first | rfl | skip
      cases vb <;> first | rfl | skip
      rename_i x y
      dsimp only
      cases q : cmpV o1 (.int x) (.int y) with
      | none => rfl
      | some r =>
        cases r <;> first | rfl | skip
        rename_i k
        cases k <;> first | rfl | skip
        dsimp only
        cases evalE Φ c ρ2 with
        | stuck => rfl
        | err e ρ1 => rfl
        | ok vc ρ3 =>
          cases vc <;> first | rfl | skip
          rename_i z
          dsimp only
          cases q2 : cmpV o2 (.int y) (.int z) with
          | none => rfl
          | some r2 =>
            have : ∃ k, r2 = .bl k := by
              cases o2 <;> first | (cases q2; exact ⟨_, rfl⟩) | (simp only [cmpV] at q2; split at q2 <;> cases q2; exact ⟨_, rfl⟩) | (simp [cmpV, seqV] at q2) | skip
            obtain ⟨k, rfl⟩ := this
            rfl
theorem chn_i {o1 o2 : CmpOp} {x y z : Int} {k1 k2 : Bool} {ρ2 ρ3 : Slots} (h1 : cmpV o1 (.int x) (.int y) = some (.bl k1)) (h2 : cmpV o2 (.int y) (.int z) = some (.bl k2)) : chn o1 o2 (.int x) (.int y) (.ok (.int z) ρ3) ρ2 = if k1 then .ok k2 ρ3 else .ok false ρ2 := by
  unfold chn
  dsimp only
  rw [h1]
  cases k1
  · rfl
  · dsimp only [Res.bind]
    rw [h2]
    rfl
end
/-! ### naturals -/
theorem litN (n : Nat) : Val.int (no_index (@OfNat.ofNat Int n _)) = Val.int ((@OfNat.ofNat Nat n _ : Nat) : Int) := rfl
section
variable {a b : Nat}
theorem addN : binV .Add (.int (a : Int)) (.int (b : Int)) = some (.int ((a + b : Nat) : Int)) := by rw [b_add, Int.natCast_add]
theorem subN (h : b ≤ a) : binV .Sub (.int (a : Int)) (.int (b : Int)) = some (.int ((a - b : Nat) : Int)) := by rw [b_sub, Int.natCast_sub h]
theorem mulN (h : a < 2 ^ 64) : binV .Mult (.int (a : Int)) (.int (b : Int)) = some (.int ((a * b : Nat) : Int)) := by rw [b_mul (.inl (by simpa using h)), Int.natCast_mul]
theorem mulN' (h : b < 2 ^ 64) : binV .Mult (.int (a : Int)) (.int (b : Int)) = some (.int ((a * b : Nat) : Int)) := by rw [b_mul (.inr (by simpa using h)), Int.natCast_mul]
theorem orN : binV .BitOr (.int (a : Int)) (.int (b : Int)) = some (.int ((a ||| b : Nat) : Int)) := by
  rw [b_or, L2.bitOr_nn (Int.natCast_nonneg _) (Int.natCast_nonneg _), Int.toNat_natCast, Int.toNat_natCast]
theorem shrN : binV .RShift (.int (a : Int)) (.int (b : Int)) = some (.int ((a / 2 ^ b : Nat) : Int)) := by
  rw [b_shr (by omega), Int.toNat_natCast]
  simp
theorem ltN : cmpV .Lt (.int (a : Int)) (.int (b : Int)) = some (.bl (decide (a < b))) := by rw [c_lt]; simp
theorem leN : cmpV .LtE (.int (a : Int)) (.int (b : Int)) = some (.bl (decide (a ≤ b))) := by rw [c_le]; simp
theorem gtN : cmpV .Gt (.int (a : Int)) (.int (b : Int)) = some (.bl (decide (b < a))) := by rw [c_gt]; simp
theorem geN : cmpV .GtE (.int (a : Int)) (.int (b : Int)) = some (.bl (decide (b ≤ a))) := by rw [c_ge]; simp
theorem neN : cmpV .NotEq (.int (a : Int)) (.int (b : Int)) = some (.bl (!(a == b))) := by
  rw [c_ne]
  congr 3
  by_cases h : a = b
  · subst h; simp
  · rw [beq_eq_false_iff_ne.mpr h, beq_eq_false_iff_ne.mpr (by omega)]
theorem trN : truV (.int (a : Int)) = some (!(a == 0)) := by
  rw [tr_i]
  congr 1
  by_cases h : a = 0
  · subst h; rfl
  · rw [beq_eq_false_iff_ne.mpr h]
    have : ((a : Int) == 0) = false := beq_eq_false_iff_ne.mpr (by omega)
    simp [bne, this]
theorem ixN_l {xs : List Val} {k : Nat} : ixV (.lst xs) (.int (k : Int)) = xs[k]? := by
  rw [ix_l, atI_nn (by omega), Int.toNat_natCast]
theorem ixN_t {xs : List Val} {k : Nat} : ixV (.tup xs) (.int (k : Int)) = xs[k]? := by
  rw [ix_t, atI_nn (by omega), Int.toNat_natCast]
theorem ixN_n {n k : Nat} (h : k < n) : ixN n (k : Int) = some k := by
  unfold ixN
  simp
  omega
end
theorem cut_to {α : Type} {xs : List α} {a : Nat} : cutL xs none (some (a : Int)) = xs.take a := by
  unfold cutL
  rw [HT.sIx_nat, HT.sIx_none, List.drop_zero, Nat.sub_zero]
  by_cases h : a ≤ xs.length
  · rw [Nat.min_eq_left h]
  · rw [Nat.min_eq_right (by omega), List.take_of_length_le (Nat.le_refl _), List.take_of_length_le (by omega)]
theorem cut_from {α : Type} {xs : List α} {a : Nat} : cutL xs (some (a : Int)) none = xs.drop a := by
  unfold cutL
  rw [HT.sIx_nat, HT.sIx_none]
  by_cases h : a ≤ xs.length
  · rw [Nat.min_eq_left h, List.take_of_length_le (by simp)]
  · rw [Nat.min_eq_right (by omega), Nat.sub_self, List.take_zero, List.drop_eq_nil_of_le (by omega)]
theorem sl_to {xs : List Val} {a : Nat} : sliceV false true [.lst xs, .int (a : Int)] = some (.lst (xs.take a)) := by
  show some (Val.lst (cutL xs none (some (a : Int)))) = _
  rw [cut_to]
theorem sl_from {xs : List Val} {a : Nat} : sliceV true false [.lst xs, .int (a : Int)] = some (.lst (xs.drop a)) := by
  show some (Val.lst (cutL xs (some (a : Int)) none)) = _
  rw [cut_from]
theorem sl_toT {xs : List Val} {a : Nat} : sliceV false true [.tup xs, .int (a : Int)] = some (.tup (xs.take a)) := by
  show some (Val.tup (cutL xs none (some (a : Int)))) = _
  rw [cut_to]
theorem sl_fromT {xs : List Val} {a : Nat} : sliceV true false [.tup xs, .int (a : Int)] = some (.tup (xs.drop a)) := by
  show some (Val.tup (cutL xs (some (a : Int)) none)) = _
  rw [cut_from]
theorem nl_take (xs : List Nat) (k : Nat) : (nl xs).take k = nl (xs.take k) := List.map_take.symm
theorem nl_drop (xs : List Nat) (k : Nat) : (nl xs).drop k = nl (xs.drop k) := List.map_drop.symm
theorem nl_get {xs : List Nat} {k n : Nat} (h : xs[k]? = some n) : (nl xs)[k]? = some (.int (n : Int)) := by
  unfold nl
  rw [List.getElem?_map, h]
  rfl
theorem some_if {c : Prop} [Decidable c] {α : Type} {a : α} (h : c) : (if c then some a else none) = some a := if_pos h
theorem sz1000 {n : Nat} (h : n ≤ 1000) : n ≤ sizeLine := Nat.le_trans h (by decide)
theorem addL {xs ys : List Val} (h : xs.length + ys.length ≤ sizeLine) : binV .Add (.lst xs) (.lst ys) = some (.lst (xs ++ ys)) := if_pos h
theorem addT {xs ys : List Val} (h : xs.length + ys.length ≤ sizeLine) : binV .Add (.tup xs) (.tup ys) = some (.tup (xs ++ ys)) := if_pos h
theorem addNl {xs ys : List Nat} (h : xs.length + ys.length ≤ 1000) : binV .Add (.lst (nl xs)) (.lst (nl ys)) = some (.lst (nl (xs ++ ys))) := by
  rw [addL (by rw [nl_len, nl_len]; exact sz1000 h), nl_append]
theorem addNt {xs ys : List Nat} (h : xs.length + ys.length ≤ 1000) : binV .Add (.tup (nl xs)) (.tup (nl ys)) = some (.tup (nl (xs ++ ys))) := by
  rw [addT (by rw [nl_len, nl_len]; exact sz1000 h), nl_append]
theorem appL {xs : List Val} {v : Val} (h : xs.length ≤ 1000) : mutV .append (.lst xs) [v] = some (.non, .lst (xs ++ [v])) := if_pos (Nat.lt_of_le_of_lt h (by decide))
theorem appNl {xs : List Nat} {n : Nat} (h : xs.length ≤ 1000) : mutV .append (.lst (nl xs)) [.int (n : Int)] = some (.non, .lst (nl (xs ++ [n]))) := by
  rw [appL (by rw [nl_len]; exact h), nl_append]
  rfl
theorem nl1 (n : Nat) : [Val.int (n : Int)] = nl [n] := rfl
theorem nl0 : nl [] = [] := rfl
theorem dlk {xs : List Val} (h : xs.length ≤ 1000) : opV .lst xs = some (.lst xs) := if_pos (sz1000 h)
theorem dtk {xs : List Val} (h : xs.length ≤ 1000) : opV .tup xs = some (.tup xs) := if_pos (sz1000 h)
theorem dl0 : opV .lst [] = some (.lst []) := dlk (show 0 ≤ 1000 by decide)
theorem dt0 : opV .tup [] = some (.tup []) := dtk (show 0 ≤ 1000 by decide)
theorem dl1 {v0 : Val} : opV .lst [v0] = some (.lst [v0]) := dlk (show 1 ≤ 1000 by decide)
theorem dt1 {v0 : Val} : opV .tup [v0] = some (.tup [v0]) := dtk (show 1 ≤ 1000 by decide)
theorem dl2 {v0 v1 : Val} : opV .lst [v0, v1] = some (.lst [v0, v1]) := dlk (show 2 ≤ 1000 by decide)
theorem dt2 {v0 v1 : Val} : opV .tup [v0, v1] = some (.tup [v0, v1]) := dtk (show 2 ≤ 1000 by decide)
theorem dl3 {v0 v1 v2 : Val} : opV .lst [v0, v1, v2] = some (.lst [v0, v1, v2]) := dlk (show 3 ≤ 1000 by decide)
theorem dt3 {v0 v1 v2 : Val} : opV .tup [v0, v1, v2] = some (.tup [v0, v1, v2]) := dtk (show 3 ≤ 1000 by decide)
theorem dl4 {v0 v1 v2 v3 : Val} : opV .lst [v0, v1, v2, v3] = some (.lst [v0, v1, v2, v3]) := dlk (show 4 ≤ 1000 by decide)
theorem dt4 {v0 v1 v2 v3 : Val} : opV .tup [v0, v1, v2, v3] = some (.tup [v0, v1, v2, v3]) := dtk (show 4 ≤ 1000 by decide)
theorem dl5 {v0 v1 v2 v3 v4 : Val} : opV .lst [v0, v1, v2, v3, v4] = some (.lst [v0, v1, v2, v3, v4]) := dlk (show 5 ≤ 1000 by decide)
theorem dt5 {v0 v1 v2 v3 v4 : Val} : opV .tup [v0, v1, v2, v3, v4] = some (.tup [v0, v1, v2, v3, v4]) := dtk (show 5 ≤ 1000 by decide)
theorem dl6 {v0 v1 v2 v3 v4 v5 : Val} : opV .lst [v0, v1, v2, v3, v4, v5] = some (.lst [v0, v1, v2, v3, v4, v5]) := dlk (show 6 ≤ 1000 by decide)
theorem dt6 {v0 v1 v2 v3 v4 v5 : Val} : opV .tup [v0, v1, v2, v3, v4, v5] = some (.tup [v0, v1, v2, v3, v4, v5]) := dtk (show 6 ≤ 1000 by decide)
theorem dl7 {v0 v1 v2 v3 v4 v5 v6 : Val} : opV .lst [v0, v1, v2, v3, v4, v5, v6] = some (.lst [v0, v1, v2, v3, v4, v5, v6]) := dlk (show 7 ≤ 1000 by decide)
theorem dt7 {v0 v1 v2 v3 v4 v5 v6 : Val} : opV .tup [v0, v1, v2, v3, v4, v5, v6] = some (.tup [v0, v1, v2, v3, v4, v5, v6]) := dtk (show 7 ≤ 1000 by decide)
theorem dl8 {v0 v1 v2 v3 v4 v5 v6 v7 : Val} : opV .lst [v0, v1, v2, v3, v4, v5, v6, v7] = some (.lst [v0, v1, v2, v3, v4, v5, v6, v7]) := dlk (show 8 ≤ 1000 by decide)
theorem dt8 {v0 v1 v2 v3 v4 v5 v6 v7 : Val} : opV .tup [v0, v1, v2, v3, v4, v5, v6, v7] = some (.tup [v0, v1, v2, v3, v4, v5, v6, v7]) := dtk (show 8 ≤ 1000 by decide)
theorem dl9 {v0 v1 v2 v3 v4 v5 v6 v7 v8 : Val} : opV .lst [v0, v1, v2, v3, v4, v5, v6, v7, v8] = some (.lst [v0, v1, v2, v3, v4, v5, v6, v7, v8]) := dlk (show 9 ≤ 1000 by decide)
theorem dt9 {v0 v1 v2 v3 v4 v5 v6 v7 v8 : Val} : opV .tup [v0, v1, v2, v3, v4, v5, v6, v7, v8] = some (.tup [v0, v1, v2, v3, v4, v5, v6, v7, v8]) := dtk (show 9 ≤ 1000 by decide)
theorem dl10 {v0 v1 v2 v3 v4 v5 v6 v7 v8 v9 : Val} : opV .lst [v0, v1, v2, v3, v4, v5, v6, v7, v8, v9] = some (.lst [v0, v1, v2, v3, v4, v5, v6, v7, v8, v9]) := dlk (show 10 ≤ 1000 by decide)
theorem dt10 {v0 v1 v2 v3 v4 v5 v6 v7 v8 v9 : Val} : opV .tup [v0, v1, v2, v3, v4, v5, v6, v7, v8, v9] = some (.tup [v0, v1, v2, v3, v4, v5, v6, v7, v8, v9]) := dtk (show 10 ≤ 1000 by decide)
theorem dl11 {v0 v1 v2 v3 v4 v5 v6 v7 v8 v9 v10 : Val} : opV .lst [v0, v1, v2, v3, v4, v5, v6, v7, v8, v9, v10] = some (.lst [v0, v1, v2, v3, v4, v5, v6, v7, v8, v9, v10]) := dlk (show 11 ≤ 1000 by decide)
theorem dt11 {v0 v1 v2 v3 v4 v5 v6 v7 v8 v9 v10 : Val} : opV .tup [v0, v1, v2, v3, v4, v5, v6, v7, v8, v9, v10] = some (.tup [v0, v1, v2, v3, v4, v5, v6, v7, v8, v9, v10]) := dtk (show 11 ≤ 1000 by decide)
theorem dl12 {v0 v1 v2 v3 v4 v5 v6 v7 v8 v9 v10 v11 : Val} : opV .lst [v0, v1, v2, v3, v4, v5, v6, v7, v8, v9, v10, v11] = some (.lst [v0, v1, v2, v3, v4, v5, v6, v7, v8, v9, v10, v11]) := dlk (show 12 ≤ 1000 by decide)
theorem dt12 {v0 v1 v2 v3 v4 v5 v6 v7 v8 v9 v10 v11 : Val} : opV .tup [v0, v1, v2, v3, v4, v5, v6, v7, v8, v9, v10, v11] = some (.tup [v0, v1, v2, v3, v4, v5, v6, v7, v8, v9, v10, v11]) := dtk (show 12 ≤ 1000 by decide)
/-- a comprehension by an invariant: the turn, what is made so far, the slots -/
theorem comp_inv {vs tg : List Nat} {tt : Bool} {c : Slots → Res Bool} {e : Slots → Res Val} : ∀ (items : List Val) (I : Nat → List Val → Slots → Prop),
    (∀ k x acc ρ, items[k]? = some x → I k acc ρ → ∃ ρ1, tgS tg tt x (wipeS ρ vs) = some ρ1 ∧ ((∃ ρ2, c ρ1 = .ok false ρ2 ∧ I (k + 1) acc ρ2) ∨ ∃ ρ2 y ρ3, c ρ1 = .ok true ρ2 ∧ e ρ2 = .ok y ρ3 ∧ acc.length < sizeLine ∧ I (k + 1) (acc ++ [y]) ρ3)) →
    ∀ acc ρ, I 0 acc ρ → ∃ acc' ρ', compGo vs tg tt c e acc items ρ = .ok acc' ρ' ∧ I items.length acc' ρ'
  | [], I, _, acc, ρ, i => ⟨acc, ρ, rfl, i⟩
  | x :: xs, I, h, acc, ρ, i => by
    obtain ⟨ρ1, h1, h2⟩ := h 0 x acc ρ rfl i
    rw [compGo, h1]
    dsimp only
    rcases h2 with ⟨ρ2, q1, q2⟩ | ⟨ρ2, y, ρ3, q1, q2, q3, q4⟩
    · rw [q1]
      exact comp_inv xs (fun k => I (k + 1)) (fun k y acc ρ hy => h (k + 1) y acc ρ hy) acc ρ2 q2
    · rw [q1]
      dsimp only
      rw [q2]
      dsimp only
      rw [if_pos q3]
      exact comp_inv xs (fun k => I (k + 1)) (fun k y acc ρ hy => h (k + 1) y acc ρ hy) (acc ++ [y]) ρ3 q4
theorem e_compV {Φ : Nat → List Val → FRes} {vs tg : List Nat} {tt : Bool} {it c e : ME} {ρ : Slots} : evalE Φ (.comp vs tg tt it c e) ρ = (evalI Φ it ρ).bind fun items ρ1 => (compGo vs tg tt (evalT Φ c) (evalE Φ e) [] items ρ1).bind fun acc ρ2 => .ok (.lst acc) (backS ρ1 ρ2 vs) := by rw [evalE]
/-- [f x for x in nl xs]: naturals into naturals -/
theorem comp_nl {Φ : Nat → List Val → FRes} {i : Nat} {it ke : ME} {ρ : Slots} {xs : List Nat} (f : Nat → Nat) (hi : evalI Φ it ρ = .ok (nl xs) ρ) (h : ∀ x ∈ xs, evalE Φ ke (ρ.set i (some (.int (x : Int)))) = .ok (.int (f x : Nat)) (ρ.set i (some (.int (x : Int))))) (hl : xs.length ≤ 1000) :
    evalE Φ (.comp [i] [i] false it (.lit (.bl true)) ke) ρ = .ok (.lst (nl (xs.map f))) ρ := by
  have q := comp_ok (Φ := Φ) (vs := [i]) (tg := [i]) (tt := false) (it := it) (kc := .lit (.bl true)) (ke := ke) (ρ := ρ) (ρ1 := ρ) (items := nl xs) (fun _ => true) (fun v => match v with | .int z => .int (f z.toNat : Nat) | v => v) hi (fun x hx => by
    obtain ⟨m, hm, rfl⟩ := nl_mem hx
    have e : wipeS ρ [i] = ρ.set i none := rfl
    refine ⟨_, tg1, ?_, t_lit, fun _ => ?_⟩
    · rw [e, List.set_set]
      show (ρ.set i _).set i none = _
      rw [List.set_set]
    · rw [e, List.set_set, h m hm]
      rfl) (by rw [nl_len]; exact sz1000 hl) back1
  rw [q, List.filter_eq_self.mpr fun _ _ => rfl]
  congr 2
  unfold nl
  rw [List.map_map, List.map_map]
  rfl
/-- a loop whose turns go on: the state is told by f -/
theorem for_st {tg : List Nat} {tt : Bool} {b : Slots → Out} {α : Type} (S : Nat → α → Slots) (items : List Val) (P : Nat → α → Prop)
    (h : ∀ k x a, items[k]? = some x → P k a → ∃ ρ1 a', tgS tg tt x (S k a) = some ρ1 ∧ (b ρ1 = .nx (S (k + 1) a') ∨ b ρ1 = .ct (S (k + 1) a')) ∧ P (k + 1) a') (a : α) (h0 : P 0 a) : ∃ a', forGo tg tt b items (S 0 a) = .nx (S items.length a') ∧ P items.length a' := by
  obtain ⟨ρ', h1, a', h2, h3⟩ := for_inv (tg := tg) (tt := tt) (b := b) items (fun k ρ => ∃ a, P k a ∧ ρ = S k a) (fun k x hx ρ ⟨a, ha, hρ⟩ => by
    subst hρ
    obtain ⟨ρ1, a', q1, q2, q3⟩ := h k x a hx ha
    exact ⟨ρ1, S (k + 1) a', q1, q2, a', q3, rfl⟩) (S 0 a) ⟨a, h0, rfl⟩
  exact ⟨a', by rw [h1, h3], h2⟩
end Pv
namespace K10
open PySem PySem.Spec L2 Pv Bk Tb
local macro_rules | `(tactic| push_cast [$ts,*]) => `(tactic| simp only [x_cons, x_asg, x_exp, x_ret, x_retN, x_ife, x_for, x_pass, x_brk, x_cont, x_nil, x_augV, x_setixV, x_asgTV, e_var, e_lit, e_app, e_call, e_callio, e_not, e_ife, e_andV, e_orV, andV_b, orV_b, e_mutV, e_chainV, t_chainV, l_nil, l_var, l_lit, l_app, l_call, l_callio, l_mut, l_not, l_ife, l_comp, l_chain, l_and, l_or, t_not, t_and, t_or, t_var, t_app, t_call, t_callio, t_lit, i_seq, i_rng, getS_z, getS_s, getS_n, bind_ok, out_ok, seq_nx, seq_ret, seq_brk, seq_ct, o_bin, o_cmp, o_ix, o_int, o_intb, o_len_l, o_len_t, o_len_f, o_tupl, o_tupt, o_lstl, o_lstt, dl0, dt0, dl1, dt1, dl2, dt2, dl3, dt3, dl4, dt4, dl5, dt5, dl6, dt6, dl7, dt7, dl8, dt8, dl9, dt9, dl10, dt10, dl11, dt11, dl12, dt12, o_isi, o_back, o_neg, o_slice, tr_b, tr_l, tr_t, trN, it_l, it_t, it_f, List.set_cons_succ, List.set_cons_zero, Bool.not_true, Bool.not_false, Bool.false_eq_true, if_true, if_false, litN, addN, andN, orN, eqN, neN, ltN, leN, gtN, geN, shrN, List.length_nil, Nat.zero_le, nl_len, List.length_range, cl_b, cl_i, cl_t, cl_l, ty1, ty2, ty3, ty4, ty5, ty6, ty7, ty8, ty9, nth, bodyF, $ts,*])
variable {Φ : Nat → List Val → FRes}
theorem sl {n : Nat} (h : n ≤ 1000) : (n < sizeLine) = True := by
  have : 1001 ≤ sizeLine := by decide
  simp; omega
/-- _law_bits -/
theorem bits_run (h7 : Φ 7 = drawF) {c : Nat} (hc : c ≤ 20) {p : Val} (hp : goodP p) : ∃ (v : Nat) (p' : Val), runF d8 Φ [p, .int (c : Int)] = .ok (.int (v : Int)) (some p') ∧ goodP p' ∧ v < 2 ^ c := by
  obtain ⟨⟨v, p', s⟩, h, g, hv⟩ := for_st (tg := [4]) (tt := false) (b := exec Φ (bodyF (nth d8.body 2))) (fun k (a : Nat × Val × Option Val) => [some a.2.1, some (.int (c : Int)), some (.int (a.1 : Int)), some (.int ((2 ^ k : Nat) : Int)), a.2.2]) (nl (List.range c)) (fun k a => goodP a.2.1 ∧ a.1 < 2 ^ k) (fun k x ⟨v, p', s⟩ hx ⟨g, hv⟩ => by
      obtain ⟨hk, rfl⟩ := nl_at' hx
      obtain ⟨d, p2, hd, hlt, g2⟩ := draw2 g 2 (by omega) (by omega) 2 rfl
      have pl : 2 ^ k ≤ 2 ^ 20 := Nat.pow_le_pow_right (by omega) (by omega)
      have m1 := mulN (a := 2 ^ k) (b := d) (by omega)
      have m2 := mulN (a := 2 ^ k) (b := 2) (by omega)
      refine ⟨_, (v + 2 ^ k * d, p2, some (.int (k : Int))), tg1, .inl ?_, g2, ?_⟩
      · have hd' : drawF [p', .int ((2 : Nat) : Int)] = _ := hd
        push_cast [d8, h7, hd', m1, m2, Nat.pow_succ]
      · rw [Nat.pow_succ]
        have : 2 ^ k * d ≤ 2 ^ k * 1 := Nat.mul_le_mul_left _ (by omega)
        dsimp only at hv ⊢
        omega) (0, p, none) ⟨hp, by dsimp only; exact Nat.two_pow_pos _⟩
  refine ⟨v, p', ?_, g, by simpa [nl_len] using hv⟩
  have r := rngN (m := c) (by omega)
  rw [runF_eq (d := d8) (show [p, Val.int (c : Int)].length = d8.np from rfl)]
  show resF d8 (exec Φ d8.body [some p, some (.int (c : Int)), none, none, none]) = _
  simp only [d8, nth, bodyF, Nat.pow_zero, litN] at h ⊢
  push_cast [r, h]
  rfl
/-- _law_ordered: its inner loop -/
theorem ord_inner {row : List Nat} {x : Nat} (hs : row.Pairwise (· ≤ ·)) {A : Val} {s4 : Option Val} : ∃ (at_ : Nat) (s4' : Option Val), forGo [4] false (exec Φ (bodyF (nth (bodyF (nth d13.body 1)) 1))) (nl (List.range row.length)) [some A, some (.lst (nl row)), some (.int (x : Int)), some (.int ((0 : Nat) : Int)), s4] =
      .nx [some A, some (.lst (nl row)), some (.int (x : Int)), some (.int (at_ : Int)), s4'] ∧ at_ ≤ row.length ∧ (∀ i, i < at_ → ∀ y, row[i]? = some y → y ≤ x) ∧ ∀ i, at_ ≤ i → ∀ y, row[i]? = some y → x < y := by
  obtain ⟨⟨a, s⟩, h, h1, h2, h3⟩ := for_st (tg := [4]) (tt := false) (b := exec Φ (bodyF (nth (bodyF (nth d13.body 1)) 1))) (fun k (a : Nat × Option Val) => [some A, some (.lst (nl row)), some (.int (x : Int)), some (.int (a.1 : Int)), a.2]) (nl (List.range row.length))
    (fun k a => a.1 ≤ k ∧ (∀ i, i < a.1 → ∀ y, row[i]? = some y → y ≤ x) ∧ ∀ i, a.1 ≤ i → i < k → ∀ y, row[i]? = some y → x < y) (fun k v ⟨a, s⟩ hx ⟨h1, h2, h3⟩ => by
      obtain ⟨hk, rfl⟩ := nl_at' hx
      dsimp only at h1 h2 h3
      have hg := List.getElem?_eq_getElem hk
      by_cases hle : row[k] ≤ x
      · refine ⟨_, (k + 1, some (.int (k : Int))), tg1, .inl ?_, ?_, fun i hi y hy => ?_, fun i hi hi2 => ?_⟩
        · push_cast [d13, ixN_l, nl_get hg, hle, decide_true]
        · dsimp only; omega
        · have hi : i < k + 1 := hi
          have hyy := List.getElem?_eq_some_iff.mp hy
          obtain ⟨q1, q2⟩ := hyy
          by_cases e : i = k
          · subst e; rw [← q2]; exact hle
          · have := List.pairwise_iff_getElem.mp hs i k q1 hk (by omega)
            rw [q2] at this
            omega
        · have hi : k + 1 ≤ i := hi
          omega
      · refine ⟨_, (a, some (.int (k : Int))), tg1, .inl ?_, ?_, h2, fun i hi hi2 y hy => ?_⟩
        · push_cast [d13, ixN_l, nl_get hg, hle, decide_false]
        · dsimp only; omega
        · by_cases e : i = k
          · subst e
            rw [hg] at hy
            cases hy
            omega
          · exact h3 i hi (by omega) y hy) (0, s4) ⟨Nat.le_refl _, fun i hi => absurd hi (Nat.not_lt_zero _), fun i _ hi => absurd hi (Nat.not_lt_zero _)⟩
  rw [nl_len, List.length_range] at h1 h3
  exact ⟨a, s, h, h1, h2, fun i hi y hy => h3 i hi (by have := (List.getElem?_eq_some_iff.mp hy).1; exact this) y hy⟩
theorem ord_run {lots : List Nat} (hl : lots.length ≤ 200) : runF d13 Φ [.lst (nl lots)] = .ok (.lst (nl (sortN lots))) none := by
  obtain ⟨⟨row, s2, s3, s4⟩, h, h1, h2⟩ := for_st (tg := [2]) (tt := false) (b := exec Φ (bodyF (nth d13.body 1))) (fun k (a : List Nat × Option Val × Option Val × Option Val) => [some (.lst (nl lots)), some (.lst (nl a.1)), a.2.1, a.2.2.1, a.2.2.2]) (nl lots)
    (fun k a => a.1.Pairwise (· ≤ ·) ∧ a.1.Perm (lots.take k)) (fun k v ⟨row, s2, s3, s4⟩ hx ⟨h1, h2⟩ => by
      obtain ⟨x, hxx, rfl⟩ := nl_at hx
      dsimp only at h1 h2
      have hk := (List.getElem?_eq_some_iff.mp hxx).1
      have hrl : row.length = k := by rw [h2.length_eq, List.length_take]; omega
      obtain ⟨a, s4', q, q1, q2, q3⟩ := ord_inner (Φ := Φ) (x := x) (A := .lst (nl lots)) (s4 := s4) h1
      have rg := rngN (m := row.length) (by omega)
      simp only [d13, nth, bodyF, litN] at q
      refine ⟨_, (row.take a ++ [x] ++ row.drop a, some (.int (x : Int)), some (.int (a : Int)), s4'), tg1, .inl ?_, ?_, ?_⟩
      · simp only [d13, nth, bodyF, litN]
        have a1 := addNl (xs := row.take a) (ys := [x]) (by simp; omega)
        have a2 := addNl (xs := row.take a ++ [x]) (ys := row.drop a) (by simp; omega)
        rw [← nl1] at a1
        push_cast [rg, q, o_slice, sl_to, sl_from, nl_take, nl_drop, a1, a2]
      · show (row.take a ++ [x] ++ row.drop a).Pairwise (· ≤ ·)
        rw [List.append_assoc, List.pairwise_append]
        refine ⟨h1.sublist (List.take_sublist _ _), ?_, fun y hy z hz => ?_⟩
        · rw [List.singleton_append, List.pairwise_cons]
          refine ⟨fun z hz => ?_, h1.sublist (List.drop_sublist _ _)⟩
          obtain ⟨i, hi, e⟩ := List.getElem_of_mem hz
          rw [List.getElem_drop] at e
          have := q3 (a + i) (by omega) z (by rw [← e]; exact List.getElem?_eq_getElem _)
          omega
        · obtain ⟨i, hi, e⟩ := List.getElem_of_mem hy
          rw [List.getElem_take] at e
          rw [List.length_take] at hi
          have hyx := q2 i (by omega) y (by rw [← e]; exact List.getElem?_eq_getElem _)
          rcases List.mem_cons.mp (by simpa using hz) with rfl | hz
          · exact hyx
          · obtain ⟨j, hj, e2⟩ := List.getElem_of_mem hz
            rw [List.getElem_drop] at e2
            have := q3 (a + j) (by omega) z (by rw [← e2]; exact List.getElem?_eq_getElem _)
            omega
      · show (row.take a ++ [x] ++ row.drop a).Perm (lots.take (k + 1))
        rw [List.take_add_one, hxx]
        have p1 : (row.take a ++ [x] ++ row.drop a).Perm (row.take a ++ row.drop a ++ [x]) := by
          rw [List.append_assoc, List.append_assoc]
          exact List.Perm.append_left _ List.perm_append_comm
        rw [List.take_append_drop] at p1
        exact p1.trans (h2.append_right _)) ([], none, none, none) ⟨.nil, .refl _⟩
  rw [nl_len, List.take_length] at h2
  have e := sort_unique (h2.trans (sortN_perm lots).symm) h1 (sortN_sorted lots)
  dsimp only at e
  subst e
  rw [runF_eq (d := d13) (show [Val.lst (nl lots)].length = d13.np from rfl)]
  show resF d13 (exec Φ d13.body [some (.lst (nl lots)), none, none, none, none]) = _
  have hn : nl [] = [] := rfl
  simp only [d13, nth, bodyF, litN, hn] at h ⊢
  push_cast [h]
  rfl
theorem last_at {xs : List Nat} {x : Nat} (h : xs.getLast? = some x) : ixV (.lst (nl xs)) (.int (-((1 : Nat) : Int))) = some (.int (x : Int)) := by
  have ne : xs ≠ [] := by
    intro z
    rw [z] at h
    cases h
  have hp : 0 < xs.length := List.length_pos_iff.mpr ne
  rw [ix_l]
  unfold atI ixN
  rw [nl_len, if_neg (by omega), if_pos (by omega)]
  have e : (-((1 : Nat) : Int) + (xs.length : Int)).toNat = xs.length - 1 := by omega
  rw [e]
  show (nl xs)[xs.length - 1]? = _
  rw [List.getLast?_eq_getElem?] at h
  exact nl_get h
/-- _law_least -/
theorem lleast_run (h12 : ∀ a b : Nat, a < 2 ^ 20 → Φ 12 [.int (a : Int), .int (b : Int)] = .ok (.bl (a &&& b == a)) none) {lots : List Nat} (hb : ∀ x ∈ lots, x < 2 ^ 20) (hl : lots.length ≤ 200) (h13 : Φ 13 [.lst (nl lots)] = .ok (.lst (nl (sortN lots))) none) :
    runF d14 Φ [.lst (nl lots)] = .ok (.lst (nl (leastGo [] (sortN lots)))) none := by
  have inner : ∀ (x : Nat) (g : Bool) (A : Val) (s4 : Option Val), ∃ s4', forGo [4] false (exec Φ (bodyF (nth (bodyF (nth d14.body 1)) 1))) (nl lots) [some (.lst (nl lots)), some A, some (.int (x : Int)), some (.bl g), s4] =
      .nx [some (.lst (nl lots)), some A, some (.int (x : Int)), some (.bl (g && lots.all fun t => t == x || !(t &&& x == t))), s4'] := fun x g A s4 => by
    obtain ⟨⟨g', s⟩, h, e⟩ := for_st (tg := [4]) (tt := false) (b := exec Φ (bodyF (nth (bodyF (nth d14.body 1)) 1))) (fun k (a : Bool × Option Val) => [some (.lst (nl lots)), some A, some (.int (x : Int)), some (.bl a.1), a.2]) (nl lots)
      (fun k a => a.1 = (g && (lots.take k).all fun t => t == x || !(t &&& x == t))) (fun k v ⟨a, s⟩ hx e => by
        obtain ⟨t, ht, rfl⟩ := nl_at hx
        have hm := hb t (List.mem_of_getElem? ht)
        dsimp only at e
        have et : lots.take (k + 1) = lots.take k ++ [t] := by rw [List.take_add_one, ht]; rfl
        refine ⟨_, (a && (t == x || !(t &&& x == t)), some (.int (t : Int))), tg1, .inl ?_, ?_⟩
        · by_cases p : t = x
          · subst p
            push_cast [d14, beq_self_eq_true, Bool.true_or, Bool.and_true]
          · have p' : (t == x) = false := beq_eq_false_iff_ne.mpr p
            cases q : (t &&& x == t) with
            | true => push_cast [d14, p', h12 t x hm, q, Bool.false_or, Bool.and_false]
            | false => push_cast [d14, p', h12 t x hm, q, Bool.false_or, Bool.and_true]
        · rw [et, e]
          dsimp only
          rw [List.all_append, List.all_cons, List.all_nil, Bool.and_true, Bool.and_assoc]) (g, s4) (by simp)
    rw [nl_len, List.take_length] at e
    dsimp only at e
    subst e
    exact ⟨s, h⟩
  have sub : ∀ x ∈ sortN lots, x ∈ lots := fun x => sortN_mem.mp
  have step : ∀ (xs kept : List Nat) (s2 s3 s4 : Option Val), kept.length + xs.length ≤ 1000 → ∃ s2' s3' s4', forGo [2] false (exec Φ (bodyF (nth d14.body 1))) (nl xs) [some (.lst (nl lots)), some (.lst (nl kept)), s2, s3, s4] =
      .nx [some (.lst (nl lots)), some (.lst (nl (lawGo lots kept xs))), s2', s3', s4'] := by
    intro xs
    induction xs with
    | nil => exact fun kept s2 s3 s4 _ => ⟨s2, s3, s4, rfl⟩
    | cons x xs ih =>
      intro kept s2 s3 s4 hk
      have hk' : kept.length + (xs.length + 1) ≤ 1000 := hk
      have e : nl (x :: xs) = .int (x : Int) :: nl xs := rfl
      -- good, ahead of the inner loop
      have eg : exec Φ (nth (bodyF (nth d14.body 1)) 0) [some (.lst (nl lots)), some (.lst (nl kept)), some (.int (x : Int)), s3, s4] = .nx [some (.lst (nl lots)), some (.lst (nl kept)), some (.int (x : Int)), some (.bl (kept.getLast? != some x)), s4] := by
        cases q : kept.getLast? with
        | none =>
          have : kept = [] := List.getLast?_eq_none_iff.mp q
          subst this
          push_cast [d14, beq_self_eq_true]
          rfl
        | some y =>
          have ne : (kept.length == 0) = false := by
            rw [beq_eq_false_iff_ne]
            intro z
            rw [List.length_eq_zero_iff.mp z] at q
            cases q
          push_cast [d14, ne, last_at q]
          congr 5
      obtain ⟨s4', q⟩ := inner x (kept.getLast? != some x) (.lst (nl kept)) s4
      rw [e, forGo, tg1, lawGo]
      simp only [List.set_cons_succ, List.set_cons_zero]
      simp only [d14, nth, bodyF, litN] at eg q ih ⊢
      cases g : ((kept.getLast? != some x) && lots.all fun t => t == x || !(t &&& x == t)) with
      | true =>
        rw [g] at q
        obtain ⟨s2', s3', s4'', h⟩ := ih (kept ++ [x]) (some (.int (x : Int))) (some (.bl true)) s4' (by simp; omega)
        refine ⟨s2', s3', s4'', ?_⟩
        rw [if_pos rfl, ← h]
        rw [x_cons, eg]
        push_cast [q, appNl (xs := kept) (n := x) (by omega)]
      | false =>
        rw [g] at q
        obtain ⟨s2', s3', s4'', h⟩ := ih kept (some (.int (x : Int))) (some (.bl false)) s4' (by omega)
        refine ⟨s2', s3', s4'', ?_⟩
        rw [if_neg nofun, ← h]
        rw [x_cons, eg]
        push_cast [q]
  obtain ⟨s2, s3, s4, h⟩ := step (sortN lots) [] none none none (by rw [sortN_len]; simp; omega)
  rw [law_least] at h
  rw [runF_eq (d := d14) (show [Val.lst (nl lots)].length = d14.np from rfl)]
  show resF d14 (exec Φ d14.body [some (.lst (nl lots)), none, none, none, none]) = _
  simp only [d14, nth, bodyF, litN, nl0] at h ⊢
  push_cast [h13, h]
  rfl
theorem lhas_run (h12 : ∀ a b : Nat, a < 2 ^ 20 → Φ 12 [.int (a : Int), .int (b : Int)] = .ok (.bl (a &&& b == a)) none) {lots : List Nat} (hb : ∀ x ∈ lots, x < 2 ^ 20) {lot : Nat} : runF d15 Φ [.lst (nl lots), .int (lot : Int)] = .ok (.bl (hasLot lots lot)) none := by
  have key := for_any (tg := [2]) (tt := false) (b := exec Φ (bodyF (nth d15.body 0))) (I := fun ρ => ∃ s, ρ = [some (.lst (nl lots)), some (.int (lot : Int)), s]) (P := onN fun o => o &&& lot == o) (r := .bl true) (nl lots) (fun x hx ρ ⟨s, hs⟩ => by
      subst hs
      obtain ⟨m, hm, rfl⟩ := nl_mem hx
      refine ⟨_, tg1, ?_⟩
      have e : onN (fun o => o &&& lot == o) (.int (m : Int)) = (m &&& lot == m) := rfl
      rw [e]
      cases h : (m &&& lot == m) with
      | true => exact .inl ⟨rfl, _, by push_cast [d15, h12 m lot (hb m hm), h]; rfl⟩
      | false => exact .inr ⟨rfl, _, .inl (by push_cast [d15, h12 m lot (hb m hm), h]; rfl), _, rfl⟩) [some (.lst (nl lots)), some (.int (lot : Int)), none] ⟨none, rfl⟩
  rw [onN_any] at key
  have e : hasLot lots lot = lots.any fun o => o &&& lot == o := rfl
  rw [e]
  rw [runF_eq (d := d15) (show [Val.lst (nl lots), .int (lot : Int)].length = d15.np from rfl)]
  show resF d15 (exec Φ d15.body [some (.lst (nl lots)), some (.int (lot : Int)), none]) = _
  simp only [d15, nth, bodyF] at key ⊢
  rcases key with ⟨h1, ρ2, h2⟩ | ⟨h1, ρ2, h2, s, rfl⟩
  · push_cast [h2, h1]; rfl
  · push_cast [h2, h1]; rfl
/-- least_lots of any tuple -/
theorem pleast_run {lots : List Nat} (h0 : ∀ kept lot, Φ 0 [.lst (nl kept), .int ((lot : Nat) : Int)] = .ok (.bl (hasLot kept lot)) none) (hl : lots.length ≤ 1000) : runF d1 Φ [.tup (nl lots)] = .ok (.tup (nl (leastGo [] (sortN lots)))) none := by
  have step : ∀ (xs kept : List Nat) (s : Option Val), kept.length + xs.length ≤ 1000 → ∃ s', forGo [2] false (exec Φ (bodyF (nth d1.body 1))) (nl xs) [some (.tup (nl lots)), some (.lst (nl kept)), s] = .nx [some (.tup (nl lots)), some (.lst (nl (leastGo kept xs))), s'] := by
    intro xs
    induction xs with
    | nil => exact fun kept s _ => ⟨s, rfl⟩
    | cons x xs ih =>
      intro kept s hk
      have hk' : kept.length + (xs.length + 1) ≤ 1000 := hk
      have e : nl (x :: xs) = .int (x : Int) :: nl xs := rfl
      rw [e, forGo, tg1, leastGo]
      simp only [List.set_cons_succ, List.set_cons_zero]
      cases q : hasLot kept x with
      | true =>
        obtain ⟨s', h⟩ := ih kept (some (.int (x : Int))) (by omega)
        refine ⟨s', ?_⟩
        simp only [d1, nth, bodyF] at h ⊢
        push_cast [h0, q]
        exact h
      | false =>
        obtain ⟨s', h⟩ := ih (kept ++ [x]) (some (.int (x : Int))) (by simp; omega)
        refine ⟨s', ?_⟩
        simp only [d1, nth, bodyF] at h ⊢
        push_cast [h0, q, appNl (xs := kept) (n := x) (by omega)]
        exact h
  obtain ⟨s', h⟩ := step (sortN lots) [] none (by rw [sortN_len]; simpa using hl)
  have es : opV .sorted1 [.tup (nl lots)] = some (.lst (nl (sortN lots))) := by
    rw [o_sortt, nl_ints]
    dsimp only
    rw [isort_nat]
    congr 2
    unfold nl
    rw [List.map_map]
    rfl
  rw [runF_eq (d := d1) (show [Val.tup (nl lots)].length = d1.np from rfl)]
  show resF d1 (exec Φ d1.body [some (.tup (nl lots)), none, none]) = _
  simp only [d1, nth, bodyF, nl0] at h ⊢
  push_cast [es, h]
  rfl
theorem lasked_run {lots : List Nat} (h1 : Φ 1 [.tup (nl lots)] = .ok (.tup (nl (leastGo [] (sortN lots)))) none) (h14 : Φ 14 [.lst (nl lots)] = .ok (.lst (nl (leastGo [] (sortN lots)))) none) (h18 : Φ 18 [.tup (nl (leastGo [] (sortN lots))), .lst (nl (leastGo [] (sortN lots)))] = .ok (.bl true) none) :
    runF d23 Φ [.lst (nl lots)] = .ok (.bl true) none := by
  rw [runF_eq (d := d23) (show [Val.lst (nl lots)].length = d23.np from rfl)]
  show resF d23 (exec Φ d23.body [some (.lst (nl lots))]) = _
  push_cast [d23, h1, h14, h18]
  rfl
theorem turned_run {lots : List Nat} (hl : lots.length ≤ 1000) : runF d10 Φ [.lst (nl lots)] = .ok (.lst (nl ((List.range lots.length).map fun k => lots.getD (lots.length - 1 - k) 0))) none := by
  have rg := rngN (m := lots.length) (by omega)
  have q := comp_nl (Φ := Φ) (i := 1) (it := .rng (.cons (.app .len (.cons (.var 0) .nil)) .nil)) (ke := .app .ix (.cons (.var 0) (.cons (.app (.bin .Sub) (.cons (.app (.bin .Sub) (.cons (.app .len (.cons (.var 0) .nil)) (.cons (.lit (.int 1)) .nil))) (.cons (.var 1) .nil))) .nil))) (ρ := [some (.lst (nl lots)), none]) (xs := List.range lots.length) (fun k => lots.getD (lots.length - 1 - k) 0)
    (by push_cast [rg]) (fun x hx => by
      have hx := List.mem_range.mp hx
      have g : lots[lots.length - 1 - x]? = some (lots.getD (lots.length - 1 - x) 0) := by
        rw [List.getD_eq_getElem?_getD, List.getElem?_eq_getElem (by omega)]
        rfl
      have s1 := subN (a := lots.length) (b := 1) (by omega)
      have s2 := subN (a := lots.length - 1) (b := x) (by omega)
      push_cast [s1, s2, ixN_l, nl_get g]) (by simpa using hl)
  rw [runF_eq (d := d10) (show [Val.lst (nl lots)].length = d10.np from rfl)]
  show resF d10 (exec Φ d10.body [some (.lst (nl lots)), none]) = _
  simp only [d10, litN] at q ⊢
  push_cast [q]
  rfl
end K10
namespace K10
open PySem PySem.Spec L2 Pv Bk Tb
local macro_rules | `(tactic| push_cast [$ts,*]) => `(tactic| simp only [x_cons, x_asg, x_exp, x_ret, x_retN, x_ife, x_for, x_pass, x_brk, x_cont, x_nil, x_augV, x_setixV, x_asgTV, e_var, e_lit, e_app, e_call, e_callio, e_not, e_ife, e_andV, e_orV, andV_b, orV_b, e_mutV, e_chainV, t_chainV, l_nil, l_var, l_lit, l_app, l_call, l_callio, l_mut, l_not, l_ife, l_comp, l_chain, l_and, l_or, t_not, t_and, t_or, t_var, t_app, t_call, t_callio, t_lit, i_seq, i_rng, getS_z, getS_s, getS_n, bind_ok, out_ok, seq_nx, seq_ret, seq_brk, seq_ct, o_bin, o_cmp, o_ix, o_int, o_intb, o_len_l, o_len_t, o_len_f, o_tupl, o_tupt, o_lstl, o_lstt, dl0, dt0, dl1, dt1, dl2, dt2, dl3, dt3, dl4, dt4, dl5, dt5, dl6, dt6, dl7, dt7, dl8, dt8, dl9, dt9, dl10, dt10, dl11, dt11, dl12, dt12, o_isi, o_back, o_neg, o_slice, tr_b, tr_l, tr_t, trN, it_l, it_t, it_f, List.set_cons_succ, List.set_cons_zero, Bool.not_true, Bool.not_false, Bool.false_eq_true, if_true, if_false, litN, addN, andN, orN, eqN, neN, ltN, leN, gtN, geN, shrN, List.length_nil, Nat.zero_le, nl_len, List.length_range, cl_b, cl_i, cl_t, cl_l, ty1, ty2, ty3, ty4, ty5, ty6, ty7, ty8, ty9, nth, bodyF, $ts,*])
variable {Φ : Nat → List Val → FRes}
theorem in_nl {es : List Nat} {k : Nat} : cmpV .In (.int (k : Int)) (.lst (nl es)) = some (.bl (es.contains k)) := by
  have at_ : ∀ es : List Nat, atomsV (nl es) = some (es.map fun n : Nat => V.int (n : Int)) := by
    intro es
    induction es with
    | nil => rfl
    | cons e es ih =>
      show (match atomV (.int (e : Int)), atomsV (nl es) with | some d, some ds => some (d :: ds) | _, _ => none) = _
      rw [ih]
      rfl
  show (match some (nl es) with | some xs => (match atomV (.int (k : Int)), atomsV xs with | some x, some ys => some (Val.bl (inV x ys)) | _, _ => none) | none => none) = _
  dsimp only
  rw [at_]
  dsimp only [atomV]
  congr 2
  clear at_
  induction es with
  | nil => rfl
  | cons e es ih =>
    rw [List.map_cons, List.contains_cons]
    show (L2.eqV (V.int (e : Int)) (V.int (k : Int)) || inV (.int (k : Int)) (es.map fun n : Nat => V.int (n : Int))) = _
    rw [ih]
    congr 1
    by_cases h : k = e
    · subst h; simp [L2.eqV]
    · have h2 : ¬ (e : Int) = (k : Int) := by omega
      have h3 : ((e : Int) == (k : Int)) = false := beq_eq_false_iff_ne.mpr h2
      have h4 : (k == e) = false := beq_eq_false_iff_ne.mpr h
      rw [h4]
      exact h3
theorem orEnds_take {es : List Nat} (he : ∀ e ∈ es, e < 20) : orEnds es < 2 ^ 20 := by
  refine Nat.lt_pow_two_of_testBit _ fun i hi => ?_
  rw [orEnds_bit, List.any_eq_false]
  intro e h z
  have := beq_iff_eq.mp z
  have := he e h
  omega
/-- _law_ends_asked -/
theorem endsasked_run {es : List Nat} {a w : Nat} (he : ∀ e ∈ es, e < 20) (ha : a < 2 ^ 20) (hw : w ≤ 20) (h2 : Φ 2 [.tup (nl es)] = .ok (.int (orEnds es : Nat)) none) (h4 : ∀ c : Nat, c ≤ 20 → Φ 4 [.int (c : Int)] = .ok (.int ((2 ^ c - 1 : Nat) : Int)) none)
    (h16 : ∀ a : Nat, Φ 16 [.int (a : Int), .int (a : Int)] = .ok (.bl true) none) (h19 : ∀ a : Nat, a < 2 ^ 20 → Φ 19 [.int (a : Int)] = .ok (.bl true) none) : runF d20 Φ [.lst (nl es), .int (a : Int), .int (w : Int)] = .ok (.bl true) none := by
  obtain ⟨⟨due, s⟩, h, e⟩ := for_st (tg := [5]) (tt := false) (b := exec Φ (bodyF (nth d20.body 2))) (fun k (a_ : Nat × Option Val) => [some (.lst (nl es)), some (.int (a : Int)), some (.int (w : Int)), some (.int (a_.1 : Int)), some (.int ((2 ^ k : Nat) : Int)), a_.2, none]) (nl (List.range 20))
    (fun k a => a.1 < 2 ^ k ∧ ∀ i, a.1.testBit i = (decide (i < k) && es.contains i)) (fun k v ⟨due, s⟩ hx ⟨hlt, hb⟩ => by
      obtain ⟨hk, rfl⟩ := nl_at' hx
      dsimp only at hlt hb
      have pl : 2 ^ k ≤ 2 ^ 20 := Nat.pow_le_pow_right (by omega) (by omega)
      have m2 := mulN (a := 2 ^ k) (b := 2) (by omega)
      cases q : es.contains k with
      | true =>
        refine ⟨_, (due + 2 ^ k, some (.int (k : Int))), tg1, .inl (by push_cast [d20, in_nl, q, m2, Nat.pow_succ]), ?_, fun i => ?_⟩
        · dsimp only; rw [Nat.pow_succ]; omega
        · dsimp only
          have eo := Nat.two_pow_add_eq_or_of_lt hlt 1
          rw [Nat.mul_one] at eo
          rw [Nat.add_comm, eo, Nat.testBit_or, Nat.testBit_two_pow, hb]
          by_cases z : i = k
          · subst z; simp only [decide_true, Bool.true_or, q, Nat.lt_succ_self, Bool.and_self]
          · have : (i < k + 1) = (i < k) := by simp; omega
            have z' : ¬ k = i := fun y => z y.symm
            simp [this, z']
      | false =>
        refine ⟨_, (due, some (.int (k : Int))), tg1, .inl (by push_cast [d20, in_nl, q, m2, Nat.pow_succ]), ?_, fun i => ?_⟩
        · dsimp only; rw [Nat.pow_succ]; omega
        · dsimp only
          rw [hb]
          by_cases z : i = k
          · subst z; rw [q, Bool.and_false, Bool.and_false]
          · have : (i < k + 1) = (i < k) := by simp; omega
            simp [this]) (0, none) ⟨by decide, fun i => by simp⟩
  obtain ⟨⟨full, s6⟩, g, eg⟩ := for_st (tg := [5]) (tt := false) (b := exec Φ (bodyF (nth d20.body 4))) (fun k (a_ : Nat × Option Val) => [some (.lst (nl es)), some (.int (a : Int)), some (.int (w : Int)), some (.int (due : Int)), some (.int ((2 ^ 20 : Nat) : Int)), a_.2, some (.int (a_.1 : Int))]) (nl (List.range w))
    (fun k a => a.1 = 2 ^ k - 1) (fun k v ⟨full, s6⟩ hx e => by
      obtain ⟨hk, rfl⟩ := nl_at' hx
      dsimp only at e
      subst e
      have pl : 2 ^ k ≤ 2 ^ 20 := Nat.pow_le_pow_right (by omega) (by omega)
      have pz := Nat.two_pow_pos k
      have m2 := mulN (a := 2 ^ k - 1) (b := 2) (by omega)
      refine ⟨_, ((2 ^ k - 1) * 2 + 1, some (.int (k : Int))), tg1, .inl (by push_cast [d20, m2]), ?_⟩
      dsimp only
      rw [Nat.pow_succ]
      omega) (0, s) rfl
  obtain ⟨hlt, hb⟩ := e
  rw [nl_len, List.length_range] at hlt hb eg
  dsimp only at hlt hb eg
  have ed : due = orEnds es := by
    apply Nat.eq_of_testBit_eq
    intro i
    rw [hb, orEnds_bit, ← List.any_beq']
    by_cases z : i < 20
    · simp [z]
    · have : es.any (fun x => x == i) = false := by
        rw [List.any_eq_false]
        intro e h y
        have := beq_iff_eq.mp y
        have := he e h
        omega
      simp only [z, decide_false, Bool.false_and]
      simpa using this
  subst ed
  subst eg
  have l2 : 2 ^ w - 1 < 2 ^ 20 := by
    have := Nat.pow_le_pow_right (n := 2) (by omega) hw
    have := Nat.two_pow_pos w
    omega
  have rg := rngN (m := w) (by omega)
  have r20 := rngN (m := 20) (by omega)
  have h40 := h4 0 (by omega)
  have h420 := h4 20 (by omega)
  have h4w := h4 w hw
  have h16z := h16 0
  have h16m := h16 1048575
  have p1 : 2 ^ 0 - 1 = 0 := rfl
  have p2 : 2 ^ 20 - 1 = 1048575 := rfl
  rw [p1] at h40
  rw [p2] at h420
  rw [runF_eq (d := d20) (show [Val.lst (nl es), .int (a : Int), .int (w : Int)].length = d20.np from rfl)]
  show resF d20 (exec Φ d20.body [some (.lst (nl es)), some (.int (a : Int)), some (.int (w : Int)), none, none, none, none]) = _
  simp only [d20, nth, bodyF, litN, Nat.pow_zero] at h g ⊢
  push_cast [r20, h, rg, g, h2, h16, h40, h420, h4w, h16z, h16m, h19 _ hlt, h19 a ha, h19 _ l2]
  rfl
/-- _law_inside_asked -/
theorem insasked_run {a b e : Nat} (ha : a < 2 ^ 20) (hb : b < 2 ^ 20) (he : e < 20) (h5 : ∀ a b : Nat, Φ 5 [.int (a : Int), .int (b : Int)] = .ok (.bl (a &&& b == a)) none) (h12 : ∀ a b : Nat, a < 2 ^ 20 → Φ 12 [.int (a : Int), .int (b : Int)] = .ok (.bl (a &&& b == a)) none)
    (h17 : ∀ a : Bool, Φ 17 [.bl a, .bl a] = .ok (.bl true) none) : runF d21 Φ [.int (a : Int), .int (b : Int), .int (e : Int)] = .ok (.bl true) none := by
  have pl : 2 ^ e ≤ 2 ^ 19 := Nat.pow_le_pow_right (by omega) (by omega)
  have pz := Nat.two_pow_pos e
  have sh := shlN (a := 1) (b := e) (by omega) (by omega)
  rw [Nat.one_mul] at sh
  have dv := divN (a := a) (b := 2 ^ e) pz (by omega)
  have md := modN (a := a / 2 ^ e) (b := 2) (by omega)
  have tb : a / 2 ^ e % 2 = if a.testBit e then 1 else 0 := by
    rw [Nat.testBit_eq_decide_div_mod_eq]
    have : a / 2 ^ e % 2 < 2 := Nat.mod_lt _ (by omega)
    by_cases h : a / 2 ^ e % 2 = 1
    · simp [h]
    · simp [h]; omega
  -- less: without the end
  obtain ⟨less, hl⟩ : ∃ l, l = a - 2 ^ e * (a / 2 ^ e % 2) := ⟨_, rfl⟩
  have hle : 2 ^ e * (a / 2 ^ e % 2) ≤ a := by
    rw [tb]
    split
    · rename_i h; rw [Nat.mul_one]; exact Nat.ge_two_pow_of_testBit h
    · simp
  have ml := mulN (a := 2 ^ e) (b := a / 2 ^ e % 2) (by omega)
  have sb := subN hle
  rw [← hl] at sb
  have lb : less.testBit e = false := by
    rw [hl, tb]
    cases q : a.testBit e with
    | false => simpa using q
    | true =>
      simp only [if_true, Nat.mul_one]
      have ge := Nat.ge_two_pow_of_testBit q
      have := Nat.testBit_two_pow_add_eq (a - 2 ^ e) e
      rw [Nat.add_sub_cancel' ge, q] at this
      simpa using this
  have moreEq : less + 2 ^ e = less ||| 2 ^ e := by
    apply Nat.eq_of_testBit_eq
    intro i
    rw [Nat.testBit_or, Nat.testBit_two_pow, Nat.add_comm]
    rcases Nat.lt_trichotomy i e with h | h | h
    · rw [Nat.testBit_two_pow_add_gt h]
      have : ¬ e = i := by omega
      simp [this]
    · subst h; rw [Nat.testBit_two_pow_add_eq, lb]; simp
    · have hd : ¬ e = i := by omega
      simp only [hd, decide_false, Bool.or_false]
      obtain ⟨j, rfl⟩ : ∃ j, i = j + (e + 1) := ⟨i - (e + 1), by omega⟩
      rw [Nat.testBit_add, Nat.testBit_add]
      congr 1
      have q1 : less / 2 ^ e % 2 = 0 := by
        rw [Nat.testBit_eq_decide_div_mod_eq] at lb
        have : less / 2 ^ e % 2 < 2 := Nat.mod_lt _ (by omega)
        have : ¬ less / 2 ^ e % 2 = 1 := of_decide_eq_false lb
        omega
      rw [Nat.pow_succ, ← Nat.div_div_eq_div_mul, ← Nat.div_div_eq_div_mul, Nat.add_comm, Nat.add_div_right _ pz]
      omega
  have c1 : (less &&& (less + 2 ^ e) == less) = true := by
    rw [beq_iff_eq, moreEq, sub_iff]
    intro i hi
    rw [Nat.testBit_or, hi, Bool.true_or]
  have c2 : ((less + 2 ^ e) &&& less == less + 2 ^ e) = false := by
    rw [beq_eq_false_iff_ne, moreEq]
    intro z
    have := sub_iff.mp z e (by rw [Nat.testBit_or, Nat.testBit_two_pow]; simp)
    rw [lb] at this
    cases this
  have lt1 : less < 2 ^ 20 := by omega
  have lt2 : a &&& b < 2 ^ 20 := Nat.and_lt_two_pow _ hb
  have q1 := h5 less (less + 2 ^ e)
  have q2 := h5 (less + 2 ^ e) less
  rw [c1] at q1
  rw [c2] at q2
  obtain ⟨F, hF⟩ : ∃ F : List Nat, F = [a, b, a &&& b, a, a, 0, a, a, 1048575, less, b] := ⟨_, rfl⟩
  obtain ⟨G, hG⟩ : ∃ G : List Nat, G = [b, a, a, a ||| b, a, a, 0, 1048575, a, b, less + 2 ^ e] := ⟨_, rfl⟩
  have hFl : ∀ x ∈ F, x < 2 ^ 20 := by
    intro x hx
    subst hF
    simp only [List.mem_cons, List.not_mem_nil, or_false] at hx
    rcases hx with rfl | rfl | rfl | rfl | rfl | rfl | rfl | rfl | rfl | rfl | rfl <;> omega
  have lF : F.length = 11 := by subst hF; rfl
  have lG : G.length = 11 := by subst hG; rfl
  obtain ⟨⟨s8, s9⟩, h, _⟩ := for_st (tg := [8]) (tt := false) (b := exec Φ (bodyF (nth d21.body 8))) (fun k (s : Option Val × Option Val) => [some (.int (a : Int)), some (.int (b : Int)), some (.int (e : Int)), some (.int ((2 ^ e : Nat) : Int)), some (.int (less : Int)), some (.int ((less + 2 ^ e : Nat) : Int)), some (.lst (nl F)), some (.lst (nl G)), s.1, s.2]) (nl (List.range 11))
    (fun _ _ => True) (fun k v ⟨s8, s9⟩ hx _ => by
      obtain ⟨hk, rfl⟩ := nl_at' hx
      have g1 := nl_get (List.getElem?_eq_getElem (l := F) (i := k) (by omega))
      have g2 := nl_get (List.getElem?_eq_getElem (l := G) (i := k) (by omega))
      have hlt := hFl F[k] (List.getElem_mem _)
      exact ⟨_, (some (.int (k : Int)), some (.bl (F[k] &&& G[k] == F[k]))), tg1, .inl (by push_cast [d21, ixN_l, g1, g2, h5, h12 _ _ hlt, h17]), trivial⟩) (none, none) trivial
  have r11 := rngN (m := 11) (by omega)
  have aF := addNl (xs := [a, b, a &&& b, a, a, 0]) (ys := [a, a, 1048575, less, b]) (by simp)
  have aG := addNl (xs := [b, a, a, a ||| b, a, a]) (ys := [0, 1048575, a, b, less + 2 ^ e]) (by simp)
  have eF : [a, b, a &&& b, a, a, 0] ++ [a, a, 1048575, less, b] = F := hF.symm
  have eG : [b, a, a, a ||| b, a, a] ++ [0, 1048575, a, b, less + 2 ^ e] = G := hG.symm
  rw [eF] at aF
  rw [eG] at aG
  have u : ∀ xs : List Nat, nl xs = xs.map fun n : Nat => Val.int (n : Int) := fun _ => rfl
  simp only [u [a, b, a &&& b, a, a, 0], u [a, a, 1048575, less, b], u [b, a, a, a ||| b, a, a], u [0, 1048575, a, b, less + 2 ^ e], List.map_cons, List.map_nil] at aF aG
  rw [runF_eq (d := d21) (show [Val.int (a : Int), .int (b : Int), .int (e : Int)].length = d21.np from rfl)]
  show resF d21 (exec Φ d21.body [some (.int (a : Int)), some (.int (b : Int)), some (.int (e : Int)), none, none, none, none, none, none, none]) = _
  simp only [d21, nth, bodyF, litN] at h ⊢
  push_cast [sh, dv, md, ml, sb, q1, q2, h17, aF, aG, r11, h]
  rfl
end K10
namespace K10
open PySem PySem.Spec L2 Pv Bk Tb
local macro_rules | `(tactic| push_cast [$ts,*]) => `(tactic| simp only [x_cons, x_asg, x_exp, x_ret, x_retN, x_ife, x_for, x_pass, x_brk, x_cont, x_nil, x_augV, x_setixV, x_asgTV, e_var, e_lit, e_app, e_call, e_callio, e_not, e_ife, e_andV, e_orV, andV_b, orV_b, e_mutV, e_chainV, t_chainV, l_nil, l_var, l_lit, l_app, l_call, l_callio, l_mut, l_not, l_ife, l_comp, l_chain, l_and, l_or, t_not, t_and, t_or, t_var, t_app, t_call, t_callio, t_lit, i_seq, i_rng, getS_z, getS_s, getS_n, bind_ok, out_ok, seq_nx, seq_ret, seq_brk, seq_ct, o_bin, o_cmp, o_ix, o_int, o_intb, o_len_l, o_len_t, o_len_f, o_tupl, o_tupt, o_lstl, o_lstt, dl0, dt0, dl1, dt1, dl2, dt2, dl3, dt3, dl4, dt4, dl5, dt5, dl6, dt6, dl7, dt7, dl8, dt8, dl9, dt9, dl10, dt10, dl11, dt11, dl12, dt12, o_isi, o_back, o_neg, o_slice, tr_b, tr_l, tr_t, trN, it_l, it_t, it_f, List.set_cons_succ, List.set_cons_zero, Bool.not_true, Bool.not_false, Bool.false_eq_true, if_true, if_false, litN, addN, andN, orN, eqN, neN, ltN, leN, gtN, geN, shrN, List.length_nil, Nat.zero_le, nl_len, List.length_range, cl_b, cl_i, cl_t, cl_l, ty1, ty2, ty3, ty4, ty5, ty6, ty7, ty8, ty9, nth, bodyF, $ts,*])
variable {Φ : Nat → List Val → FRes}
theorem add_or {a e : Nat} (lb : a.testBit e = false) : a + 2 ^ e = a ||| 2 ^ e := by
  have pz := Nat.two_pow_pos e
  apply Nat.eq_of_testBit_eq
  intro i
  rw [Nat.testBit_or, Nat.testBit_two_pow, Nat.add_comm]
  rcases Nat.lt_trichotomy i e with h | h | h
  · rw [Nat.testBit_two_pow_add_gt h]
    have : ¬ e = i := by omega
    simp [this]
  · subst h; rw [Nat.testBit_two_pow_add_eq, lb]; simp
  · have hd : ¬ e = i := by omega
    simp only [hd, decide_false, Bool.or_false]
    obtain ⟨j, rfl⟩ : ∃ j, i = j + (e + 1) := ⟨i - (e + 1), by omega⟩
    rw [Nat.testBit_add, Nat.testBit_add]
    congr 1
    have q1 : a / 2 ^ e % 2 = 0 := by
      rw [Nat.testBit_eq_decide_div_mod_eq] at lb
      have : a / 2 ^ e % 2 < 2 := Nat.mod_lt _ (by omega)
      have : ¬ a / 2 ^ e % 2 = 1 := of_decide_eq_false lb
      omega
    rw [Nat.pow_succ, ← Nat.div_div_eq_div_mul, ← Nat.div_div_eq_div_mul, Nat.add_comm, Nat.add_div_right _ pz]
    omega
theorem hasasked_run {lots : List Nat} {one : Nat} (hl : lots.length ≤ 100) (h0 : ∀ (book : List Nat) (lot : Nat), Φ 0 [.tup (nl book), .int (lot : Int)] = .ok (.bl (hasLot book lot)) none) (h11 : ∀ a : Nat, a < 2 ^ 20 → Φ 11 [.int (a : Int)] = .ok (.lst (nl (ends a))) none)
    (h15 : ∀ (lots : List Nat) (lot : Nat), (∀ x ∈ lots, x < 2 ^ 20) → Φ 15 [.lst (nl lots), .int (lot : Int)] = .ok (.bl (hasLot lots lot)) none) (h17 : ∀ a : Bool, Φ 17 [.bl a, .bl a] = .ok (.bl true) none) : runF d22 Φ [.lst (nl lots), .int (one : Int)] = .ok (.bl true) none := by
  obtain ⟨low, hlow⟩ : ∃ l, l = lots.map fun x => x % 524288 := ⟨_, rfl⟩
  have lb : ∀ x ∈ low, x < 524288 := by
    intro x hx
    rw [hlow] at hx
    obtain ⟨y, _, rfl⟩ := List.mem_map.mp hx
    exact Nat.mod_lt _ (by omega)
  have ll : low.length ≤ 100 := by rw [hlow, List.length_map]; exact hl
  have m1 : ∀ a : Nat, binV .Mod (.int (a : Int)) (.int ((524288 : Nat) : Int)) = some (.int ((a % 524288 : Nat) : Int)) := fun a => modN (by omega)
  have m2 : binV .Mod (.int (one : Int)) (.int ((475713 : Nat) : Int)) = some (.int ((one % 475713 : Nat) : Int)) := modN (by omega)
  have c1 := comp_nl (Φ := Φ) (i := 6) (it := .seq (.var 0)) (ke := .app (.bin .Mod) (.cons (.app .int1 (.cons (.var 6) .nil)) (.cons (.lit (.int 524288)) .nil))) (ρ := [some (.lst (nl lots)), some (.int (one : Int)), none, none, none, none, none, none, none, none]) (xs := lots) (fun x => x % 524288) (by push_cast []) (fun x _ => by push_cast [m1]) (by omega)
  rw [← hlow] at c1
  -- the least end of each is left out
  obtain ⟨⟨miss, s6, s9⟩, h, hm⟩ := for_st (tg := [6]) (tt := false) (b := exec Φ (bodyF (nth d22.body 4))) (fun k (s : Nat × Option Val × Option Val) => [some (.lst (nl lots)), some (.int (one : Int)), some (.lst (nl low)), some (.int ((one % 524288 : Nat) : Int)), some (.int ((524288 + one % 475713 : Nat) : Int)), some (.int (s.1 : Int)), s.2.1, none, none, s.2.2]) (nl low)
    (fun _ s => s.1 < 2 ^ 20) (fun k v ⟨miss, s6, s9⟩ hx hm => by
      obtain ⟨x, hxx, rfl⟩ := nl_at hx
      have hxl := lb x (List.mem_of_getElem? hxx)
      obtain ⟨⟨ms, t9⟩, q, hq⟩ := for_st (tg := [9]) (tt := false) (b := exec Φ (bodyF (nth (bodyF (nth d22.body 4)) 0))) (fun k (s : Nat × Option Val) => [some (.lst (nl lots)), some (.int (one : Int)), some (.lst (nl low)), some (.int ((one % 524288 : Nat) : Int)), some (.int ((524288 + one % 475713 : Nat) : Int)), some (.int (s.1 : Int)), some (.int (x : Int)), none, none, s.2]) (nl ((ends x).take 1))
        (fun _ s => s.1 < 2 ^ 20) (fun k v ⟨ms, t9⟩ hx hm => by
          obtain ⟨e, he, rfl⟩ := nl_at hx
          have he := ends_lt e (List.mem_of_mem_take (List.mem_of_getElem? he))
          have sh := shlN (a := 1) (b := e) (by omega) (by omega)
          rw [Nat.one_mul] at sh
          have le : ms &&& 2 ^ e ≤ ms := Nat.and_le_left
          have sb := subN le
          refine ⟨_, (ms - (ms &&& 2 ^ e), some (.int (e : Int))), tg1, .inl (by push_cast [d22, sh, sb]), ?_⟩
          dsimp only at hm ⊢
          omega) (miss, s9) hm
      refine ⟨_, (ms, some (.int (x : Int)), t9), tg1, .inl ?_, hq⟩
      simp only [d22, nth, bodyF, litN] at q ⊢
      push_cast [h11 x (by omega), sl_to, nl_take, q]) (524287, none, none) (by decide)
  dsimp only at hm
  have c2 : ∀ s9 : Option Val, ∀ s6 : Option Val, ∀ b : Val, evalE Φ (.comp [6] [6] false (.seq (.var 2)) (.lit (.bl true)) (.app (.bin .BitOr) (.cons (.var 6) (.cons (.var 3) .nil)))) [some (.lst (nl lots)), some (.int (one : Int)), some (.lst (nl low)), some (.int ((one % 524288 : Nat) : Int)), some (.int ((524288 + one % 475713 : Nat) : Int)), some (.int (miss : Int)), s6, some b, none, s9] =
      .ok (.lst (nl (low.map fun x => x ||| one % 524288))) [some (.lst (nl lots)), some (.int (one : Int)), some (.lst (nl low)), some (.int ((one % 524288 : Nat) : Int)), some (.int ((524288 + one % 475713 : Nat) : Int)), some (.int (miss : Int)), s6, some b, none, s9] := fun s9 s6 b =>
    comp_nl (fun x => x ||| one % 524288) (by push_cast []) (fun x _ => by push_cast []) (by omega)
  obtain ⟨asked, hask⟩ : ∃ l, l = low ++ (low.map fun x => x ||| one % 524288) ++ [miss, 0, one % 524288] := ⟨_, rfl⟩
  have la : asked.length ≤ 203 := by rw [hask]; simp; omega
  have bk : ∀ x ∈ [524288 + one % 475713] ++ low, x < 2 ^ 20 := by
    intro x hx
    rcases List.mem_append.mp hx with hx | hx
    · cases List.mem_singleton.mp hx
      have := Nat.mod_lt one (show 0 < 475713 by omega)
      omega
    · have := lb x hx
      omega
  have lb2 : ∀ x ∈ low, x < 2 ^ 20 := fun x hx => by have := lb x hx; omega
  have a1 := addNl (xs := [524288 + one % 475713]) (ys := low) (by simp; omega)
  have a2 := addNl (xs := low) (ys := low.map fun x => x ||| one % 524288) (by simp; omega)
  have a3 := addNl (xs := low ++ low.map fun x => x ||| one % 524288) (ys := [miss, 0, one % 524288]) (by simp; omega)
  rw [← hask] at a3
  have a4 := addNl (xs := asked) (ys := [524288 + one % 475713, 524288 + one % 475713 - 524288, 1000000]) (by simp; omega)
  have sb := subN (a := 524288 + one % 475713) (b := 524288) (by omega)
  obtain ⟨⟨s, _⟩, h2, _⟩ := for_st (tg := [6]) (tt := false) (b := exec Φ (bodyF (nth d22.body 7))) (fun k (s : Option Val × Unit) => [some (.lst (nl lots)), some (.int (one : Int)), some (.lst (nl low)), some (.int ((one % 524288 : Nat) : Int)), some (.int ((524288 + one % 475713 : Nat) : Int)), some (.int (miss : Int)), s.1, some (.lst (nl ([524288 + one % 475713] ++ low))), some (.lst (nl asked)), s9])
    (nl (asked ++ [524288 + one % 475713, 524288 + one % 475713 - 524288, 1000000])) (fun _ _ => True) (fun k v s hx _ => by
      obtain ⟨x, hx, rfl⟩ := nl_at hx
      exact ⟨_, (some (.int (x : Int)), ()), tg1, .inl (by push_cast [d22, h0, h15 _ x lb2, h15 _ x bk, h17]), trivial⟩) (s6, ()) trivial
  have z1 := h0 [] 524287
  have z2 := h0 [miss, 0] 0
  have e1 : hasLot [] 524287 = false := rfl
  have e2 : hasLot [miss, 0] 0 = true := by
    rw [hasLot_iff]
    exact ⟨0, by simp, fun i hi => by simp at hi⟩
  rw [e1] at z1
  rw [e2] at z2
  have u : ∀ xs : List Nat, nl xs = xs.map fun n : Nat => Val.int (n : Int) := fun _ => rfl
  simp only [u [524288 + one % 475713], u [miss, 0, one % 524288], u [524288 + one % 475713, 524288 + one % 475713 - 524288, 1000000], u [], u [miss, 0], List.map_cons, List.map_nil] at a1 a3 a4 z1 z2
  rw [runF_eq (d := d22) (show [Val.lst (nl lots), .int (one : Int)].length = d22.np from rfl)]
  show resF d22 (exec Φ d22.body [some (.lst (nl lots)), some (.int (one : Int)), none, none, none, none, none, none, none, none]) = _
  simp only [d22, nth, bodyF, litN] at h h2 c1 ⊢
  push_cast [c1, m1, m2, h, a1, c2, a2, a3, a4, sb, h2, z1, z2, h17]
  rfl
end K10
namespace K10
open PySem PySem.Spec L2 Pv Bk Tb
local macro_rules | `(tactic| push_cast [$ts,*]) => `(tactic| simp only [x_cons, x_asg, x_exp, x_ret, x_retN, x_ife, x_for, x_pass, x_brk, x_cont, x_nil, x_augV, x_setixV, x_asgTV, e_var, e_lit, e_app, e_call, e_callio, e_not, e_ife, e_andV, e_orV, andV_b, orV_b, e_mutV, e_chainV, t_chainV, l_nil, l_var, l_lit, l_app, l_call, l_callio, l_mut, l_not, l_ife, l_comp, l_chain, l_and, l_or, t_not, t_and, t_or, t_var, t_app, t_call, t_callio, t_lit, i_seq, i_rng, getS_z, getS_s, getS_n, bind_ok, out_ok, seq_nx, seq_ret, seq_brk, seq_ct, o_bin, o_cmp, o_ix, o_int, o_intb, o_len_l, o_len_t, o_len_f, o_tupl, o_tupt, o_lstl, o_lstt, dl0, dt0, dl1, dt1, dl2, dt2, dl3, dt3, dl4, dt4, dl5, dt5, dl6, dt6, dl7, dt7, dl8, dt8, dl9, dt9, dl10, dt10, dl11, dt11, dl12, dt12, o_isi, o_back, o_neg, o_slice, tr_b, tr_l, tr_t, trN, it_l, it_t, it_f, List.set_cons_succ, List.set_cons_zero, Bool.not_true, Bool.not_false, Bool.false_eq_true, if_true, if_false, litN, addN, andN, orN, eqN, neN, ltN, leN, gtN, geN, shrN, List.length_nil, Nat.zero_le, nl_len, List.length_range, cl_b, cl_i, cl_t, cl_l, ty1, ty2, ty3, ty4, ty5, ty6, ty7, ty8, ty9, nth, bodyF, $ts,*])
variable {Φ : Nat → List Val → FRes}
/-- _law_lots: one turn -/
theorem lots_turn (h7 : Φ 7 = drawF) {c : Nat} (hc1 : 1 ≤ c) (hc : c ≤ 20) (h8 : ∀ p, goodP p → ∃ (v : Nat) (p' : Val), Φ 8 [p, .int (c : Int)] = .ok (.int (v : Int)) (some p') ∧ goodP p' ∧ v < 2 ^ c) {many k : Nat} {xs : List Nat} {p : Val} {s5 s6 s7 s8 : Option Val} (hp : goodP p) (hl : xs.length = k) (hk : k < 100) (hx : ∀ x ∈ xs, x < 2 ^ c) :
    ∃ (x : Nat) (p' : Val) (t5 t6 t7 t8 : Option Val), exec Φ (bodyF (nth d9.body 1)) [some p, some (.int (c : Int)), some (.int (many : Int)), some (.lst (nl xs)), some (.int (k : Int)), s5, s6, s7, s8] =
      .nx [some p', some (.int (c : Int)), some (.int (many : Int)), some (.lst (nl (xs ++ [x]))), some (.int (k : Int)), t5, t6, t7, t8] ∧ x < 2 ^ c ∧ goodP p' := by
  have pc : 2 ^ c ≤ 2 ^ 20 := Nat.pow_le_pow_right (by omega) hc
  have pz := Nat.two_pow_pos c
  have sh := shlN (a := 1) (b := c) (by omega) (by omega)
  rw [Nat.one_mul] at sh
  have m5 := mulN (a := 5) (b := k) (by omega)
  have md0 : ∀ v : Nat, binV .Mod (.int ((v + 5 * k + 3 : Nat) : Int)) (.int ((2 ^ c : Nat) : Int)) = some (.int (((v + 5 * k + 3) % 2 ^ c : Nat) : Int)) := fun v => modN pz
  by_cases hk0 : k = 0
  · subst hk0
    obtain ⟨v, p', hv, g', hlt⟩ := h8 p hp
    refine ⟨(v + 5 * 0 + 3) % 2 ^ c, p', some (.int ((0 : Nat) : Int)), s6, s7, s8, ?_, Nat.mod_lt _ pz, g'⟩
    push_cast [d9, Nat.lt_irrefl, decide_false, beq_self_eq_true, hv, m5, sh, md0 v, appNl (xs := xs) (n := (v + 5 * 0 + 3) % 2 ^ c) (by omega)]
  · have kp : 0 < k := by omega
    obtain ⟨kd, p1, hd1, hlt1, g1⟩ := draw2 hp 4 (by omega) (by omega) 4 rfl
    have hd1' : drawF [p, .int ((4 : Nat) : Int)] = _ := hd1
    by_cases kz : kd = 0
    · subst kz
      obtain ⟨v, p', hv, g', hlt⟩ := h8 p1 g1
      refine ⟨(v + 5 * k + 3) % 2 ^ c, p', some (.int ((0 : Nat) : Int)), s6, s7, s8, ?_, Nat.mod_lt _ pz, g'⟩
      push_cast [d9, kp, decide_true, h7, hd1', beq_self_eq_true, hv, m5, sh, md0 v, appNl (xs := xs) (n := (v + 5 * k + 3) % 2 ^ c) (by omega)]
    · have kz' : (kd == 0) = false := beq_eq_false_iff_ne.mpr kz
      obtain ⟨j, p2, hd2, hlt2, g2⟩ := drawF_good (b := k) g1 kp (by omega)
      obtain ⟨e, p3, hd3, hlt3, g3⟩ := drawF_good (b := c) g2 (by omega) (by omega)
      have hg := List.getElem?_eq_getElem (l := xs) (i := j) (by omega)
      have hox : xs[j] < 2 ^ c := hx _ (List.getElem_mem _)
      have pe : 2 ^ e ≤ 2 ^ c := Nat.pow_le_pow_right (by omega) (by omega)
      have pez := Nat.two_pow_pos e
      have she := shlN (a := 1) (b := e) (by omega) (by omega)
      rw [Nat.one_mul] at she
      have dv := divN (a := xs[j]) (b := 2 ^ e) pez (by omega)
      have md := modN (a := xs[j] / 2 ^ e) (b := 2) (by omega)
      have h2 : xs[j] / 2 ^ e % 2 < 2 := Nat.mod_lt _ (by omega)
      have s1 := subN (a := 1) (b := xs[j] / 2 ^ e % 2) (by omega)
      have mu1 := mulN (a := 2 ^ e) (b := 1 - xs[j] / 2 ^ e % 2) (by omega)
      have mu2 := mulN (a := 2 ^ e) (b := xs[j] / 2 ^ e % 2) (by omega)
      have le2 : 2 ^ e * (xs[j] / 2 ^ e % 2) ≤ xs[j] := Nat.le_trans (Nat.mul_le_mul_left _ (Nat.mod_le _ _)) (Nat.mul_div_le _ _)
      have s2 := subN le2
      have tb : xs[j].testBit e = decide (xs[j] / 2 ^ e % 2 = 1) := Nat.testBit_eq_decide_div_mod_eq
      by_cases k2 : kd = 2
      · subst k2
        refine ⟨xs[j] + 2 ^ e * (1 - xs[j] / 2 ^ e % 2), p3, some (.int ((2 : Nat) : Int)), some (.int ((xs[j] + 2 ^ e * (1 - xs[j] / 2 ^ e % 2) : Nat) : Int)), some (.int ((2 ^ e : Nat) : Int)), some (.int ((xs[j] / 2 ^ e % 2 : Nat) : Int)), ?_, ?_, g3⟩
        · push_cast [d9, kp, decide_true, h7, hd1', kz', hd2, ixN_l, nl_get hg, hd3, she, dv, md, beq_self_eq_true, s1, mu1, appNl (xs := xs) (n := xs[j] + 2 ^ e * (1 - xs[j] / 2 ^ e % 2)) (by omega)]
        · by_cases q : xs[j] / 2 ^ e % 2 = 1
          · rw [q]; simpa using hox
          · have q0 : xs[j] / 2 ^ e % 2 = 0 := by omega
            rw [q0, Nat.sub_zero, Nat.mul_one, add_or (by rw [tb]; simp [q0])]
            exact Nat.or_lt_two_pow hox (Nat.pow_lt_pow_right (by omega) hlt3)
      · have k2' : (kd == 2) = false := beq_eq_false_iff_ne.mpr k2
        by_cases k3 : kd = 3
        · subst k3
          refine ⟨xs[j] - 2 ^ e * (xs[j] / 2 ^ e % 2), p3, some (.int ((3 : Nat) : Int)), some (.int ((xs[j] - 2 ^ e * (xs[j] / 2 ^ e % 2) : Nat) : Int)), some (.int ((2 ^ e : Nat) : Int)), some (.int ((xs[j] / 2 ^ e % 2 : Nat) : Int)), ?_, by omega, g3⟩
          push_cast [d9, kp, decide_true, h7, hd1', kz', k2', hd2, ixN_l, nl_get hg, hd3, she, dv, md, beq_self_eq_true, mu2, s2, appNl (xs := xs) (n := xs[j] - 2 ^ e * (xs[j] / 2 ^ e % 2)) (by omega)]
        · have k3' : (kd == 3) = false := beq_eq_false_iff_ne.mpr k3
          refine ⟨xs[j], p3, some (.int ((kd : Nat) : Int)), some (.int ((xs[j] : Nat) : Int)), some (.int ((2 ^ e : Nat) : Int)), some (.int ((xs[j] / 2 ^ e % 2 : Nat) : Int)), ?_, hox, g3⟩
          push_cast [d9, kp, decide_true, h7, hd1', kz', k2', k3', hd2, ixN_l, nl_get hg, hd3, she, dv, md, appNl (xs := xs) (n := xs[j]) (by omega)]
theorem lots_run (h7 : Φ 7 = drawF) {c : Nat} (hc1 : 1 ≤ c) (hc : c ≤ 20) (h8 : ∀ p, goodP p → ∃ (v : Nat) (p' : Val), Φ 8 [p, .int (c : Int)] = .ok (.int (v : Int)) (some p') ∧ goodP p' ∧ v < 2 ^ c) {many : Nat} (hm : many ≤ 90) {p : Val} (hp : goodP p) :
    ∃ (xs : List Nat) (p' : Val), runF d9 Φ [p, .int (c : Int), .int (many : Int)] = .ok (.lst (nl xs)) (some p') ∧ goodP p' ∧ xs.length = many ∧ ∀ x ∈ xs, x < 2 ^ c := by
  obtain ⟨⟨xs, p', s4, s5, s6, s7, s8⟩, h, g, hl, hx⟩ := for_st (tg := [4]) (tt := false) (b := exec Φ (bodyF (nth d9.body 1))) (fun k (s : List Nat × Val × Option Val × Option Val × Option Val × Option Val × Option Val) => [some s.2.1, some (.int (c : Int)), some (.int (many : Int)), some (.lst (nl s.1)), s.2.2.1, s.2.2.2.1, s.2.2.2.2.1, s.2.2.2.2.2.1, s.2.2.2.2.2.2]) (nl (List.range many))
    (fun k s => goodP s.2.1 ∧ s.1.length = k ∧ ∀ x ∈ s.1, x < 2 ^ c) (fun k v ⟨xs, p', s4, s5, s6, s7, s8⟩ hx ⟨g, hl, hxs⟩ => by
      obtain ⟨hk, rfl⟩ := nl_at' hx
      obtain ⟨x, p2, t5, t6, t7, t8, e, h1, h2⟩ := lots_turn (s5 := s5) (s6 := s6) (s7 := s7) (s8 := s8) (many := many) h7 hc1 hc h8 g hl (by omega) hxs
      refine ⟨_, (xs ++ [x], p2, some (.int (k : Int)), t5, t6, t7, t8), tg1, .inl e, h2, by dsimp only at hl ⊢; simp [hl], fun y hy => ?_⟩
      rcases List.mem_append.mp hy with hy | hy
      · exact hxs y hy
      · cases List.mem_singleton.mp hy
        exact h1) ([], p, none, none, none, none, none) ⟨hp, rfl, fun x hx => by simp at hx⟩
  refine ⟨xs, p', ?_, g, by rw [nl_len, List.length_range] at hl; exact hl, hx⟩
  have r := rngN (m := many) (by omega)
  rw [runF_eq (d := d9) (show [p, Val.int (c : Int), Val.int (many : Int)].length = d9.np from rfl)]
  show resF d9 (exec Φ d9.body [some p, some (.int (c : Int)), some (.int (many : Int)), none, none, none, none, none, none]) = _
  simp only [d9, nth, bodyF, litN, nl0] at h ⊢
  push_cast [r, h]
  rfl
end K10
namespace K10
open PySem PySem.Spec L2 Pv Bk Tb
local macro_rules | `(tactic| push_cast [$ts,*]) => `(tactic| simp only [x_cons, x_asg, x_exp, x_ret, x_retN, x_ife, x_for, x_pass, x_brk, x_cont, x_nil, x_augV, x_setixV, x_asgTV, e_var, e_lit, e_app, e_call, e_callio, e_not, e_ife, e_andV, e_orV, andV_b, orV_b, e_mutV, e_chainV, t_chainV, l_nil, l_var, l_lit, l_app, l_call, l_callio, l_mut, l_not, l_ife, l_comp, l_chain, l_and, l_or, t_not, t_and, t_or, t_var, t_app, t_call, t_callio, t_lit, i_seq, i_rng, getS_z, getS_s, getS_n, bind_ok, out_ok, seq_nx, seq_ret, seq_brk, seq_ct, o_bin, o_cmp, o_ix, o_int, o_intb, o_len_l, o_len_t, o_len_f, o_tupl, o_tupt, o_lstl, o_lstt, dl0, dt0, dl1, dt1, dl2, dt2, dl3, dt3, dl4, dt4, dl5, dt5, dl6, dt6, dl7, dt7, dl8, dt8, dl9, dt9, dl10, dt10, dl11, dt11, dl12, dt12, o_isi, o_back, o_neg, o_slice, tr_b, tr_l, tr_t, trN, it_l, it_t, it_f, List.set_cons_succ, List.set_cons_zero, Bool.not_true, Bool.not_false, Bool.false_eq_true, if_true, if_false, litN, addN, andN, orN, eqN, neN, ltN, leN, gtN, geN, shrN, List.length_nil, Nat.zero_le, nl_len, List.length_range, cl_b, cl_i, cl_t, cl_l, ty1, ty2, ty3, ty4, ty5, ty6, ty7, ty8, ty9, nth, bodyF, $ts,*])
variable {Φ : Nat → List Val → FRes}
theorem pickN (P : Nat → Prop) (xs : List Nat) (h : ∀ x ∈ xs, P x) {d : Nat} (hd : d < xs.length) : ∃ c : Nat, P c ∧ (xs.map fun n : Nat => Val.int (n : Int))[d]? = some (.int (c : Int)) :=
  ⟨xs[d], h _ (List.getElem_mem _), nl_get (List.getElem?_eq_getElem hd)⟩
structure Calls (Φ : Nat → List Val → FRes) : Prop where
  h6 : Φ 6 = poolF
  h7 : Φ 7 = drawF
  h8 : ∀ p, goodP p → ∃ (v : Nat) (p' : Val), Φ 8 [p, .int ((20 : Nat) : Int)] = .ok (.int (v : Int)) (some p') ∧ goodP p'
  h9 : ∀ (c many : Nat) (p : Val), 1 ≤ c → c ≤ 20 → many ≤ 90 → goodP p → ∃ (xs : List Nat) (p' : Val), Φ 9 [p, .int (c : Int), .int (many : Int)] = .ok (.lst (nl xs)) (some p') ∧ goodP p' ∧ xs.length = many ∧ ∀ x ∈ xs, x < 2 ^ c
  h10 : ∀ lots : List Nat, lots.length ≤ 1000 → Φ 10 [.lst (nl lots)] = .ok (.lst (nl ((List.range lots.length).map fun k => lots.getD (lots.length - 1 - k) 0))) none
  h14 : ∀ lots : List Nat, lots.length ≤ 200 → (∀ x ∈ lots, x < 2 ^ 20) → Φ 14 [.lst (nl lots)] = .ok (.lst (nl (leastGo [] (sortN lots)))) none
  h20 : ∀ (es : List Nat) (a w : Nat), (∀ e ∈ es, e < 20) → a < 2 ^ 20 → w ≤ 20 → Φ 20 [.lst (nl es), .int (a : Int), .int (w : Int)] = .ok (.bl true) none
  h21 : ∀ a b e : Nat, a < 2 ^ 20 → b < 2 ^ 20 → e < 20 → Φ 21 [.int (a : Int), .int (b : Int), .int (e : Int)] = .ok (.bl true) none
  h22 : ∀ (lots : List Nat) (one : Nat), lots.length ≤ 100 → Φ 22 [.lst (nl lots), .int (one : Int)] = .ok (.bl true) none
  h23 : ∀ lots : List Nat, lots.length ≤ 200 → (∀ x ∈ lots, x < 2 ^ 20) → Φ 23 [.lst (nl lots)] = .ok (.bl true) none
theorem least_sub : ∀ (xs kept : List Nat), (∀ x ∈ leastGo kept xs, x ∈ kept ∨ x ∈ xs) ∧ (leastGo kept xs).length ≤ kept.length + xs.length
  | [], kept => ⟨fun x h => .inl h, Nat.le_refl _⟩
  | x :: xs, kept => by
    rw [leastGo]
    cases hasLot kept x with
    | true =>
      obtain ⟨h1, h2⟩ := least_sub xs kept
      simp only [if_true]
      exact ⟨fun y hy => (h1 y hy).imp id (List.mem_cons_of_mem _), by simp; omega⟩
    | false =>
      obtain ⟨h1, h2⟩ := least_sub xs (kept ++ [x])
      simp only [Bool.false_eq_true, if_false]
      refine ⟨fun y hy => ?_, by simp at h2 ⊢; omega⟩
      rcases h1 y hy with h | h
      · rcases List.mem_append.mp h with h | h
        · exact .inl h
        · exact .inr (by simp at h; simp [h])
      · exact .inr (by simp [h])
theorem law_run (K : Calls Φ) {ns : List Int} (hn : ns.length ≤ 63) : runF d24 Φ [.frl ns] = .ok (.bl true) none := by
  obtain ⟨p0, hp0, g0⟩ := poolF_good hn
  obtain ⟨d1, p1, hd1, hl1, g1⟩ := drawF_good (b := 8) g0 (by omega) (by omega)
  obtain ⟨c, ⟨hc1, hc⟩, ec⟩ := pickN (fun c => 1 ≤ c ∧ c ≤ 20) [4, 3, 5, 2, 6, 20, 1, 8] (by decide) hl1
  obtain ⟨d2, p2, hd2, hl2, g2⟩ := drawF_good (b := 8) g1 (by omega) (by omega)
  obtain ⟨m1, hm1, em1⟩ := pickN (fun c => c ≤ 24) [5, 3, 1, 2, 4, 8, 0, 24] (by decide) hl2
  obtain ⟨lots, p3, hlots, g3, hlen, hlt⟩ := K.h9 c m1 p2 hc1 hc (by omega) g2
  obtain ⟨d3, p4, hd3, hl3, g4⟩ := drawF_good (b := 8) g3 (by omega) (by omega)
  obtain ⟨m2, hm2, em2⟩ := pickN (fun c => c ≤ 40) [4, 2, 1, 3, 0, 7, 20, 40] (by decide) hl3
  have hlt20 : ∀ x ∈ lots, x < 2 ^ 20 := fun x hx => Nat.lt_of_lt_of_le (hlt x hx) (Nat.pow_le_pow_right (by omega) hc)
  -- the drawn ends
  have rg := rngN (m := m2) (by omega)
  obtain ⟨acc, ρ', hcomp, es, p5, s11, ha, hes, g5, hρ⟩ := comp_inv (vs := [11]) (tg := [11]) (tt := false) (c := evalT Φ (.lit (.bl true))) (e := evalE Φ (.app (.bin .Mod) (.cons (.app .int1 (.cons (.app (.bin .Add) (.cons (.callio 7 1 (.cons (.var 1) (.cons (.lit (.int 20)) .nil))) (.cons (.app (.bin .Mult) (.cons (.lit (.int 7)) (.cons (.var 11) .nil))) .nil))) .nil)) (.cons (.lit (.int 20)) .nil))))
    (nl (List.range m2)) (fun k acc ρ => ∃ (es : List Nat) (p : Val) (s : Option Val), acc = nl es ∧ (es.length = k ∧ ∀ e ∈ es, e < 20) ∧ goodP p ∧ ρ = [some (.frl ns), some p, some (.int (c : Int)), some (.lst (nl lots)), some (.int (m2 : Int)), none, none, none, none, none, none, s])
    (fun k x acc ρ hx ⟨es, p, s, ha, ⟨hl, he⟩, g, hρ⟩ => by
      subst ha
      subst hρ
      obtain ⟨hk, rfl⟩ := nl_at' hx
      obtain ⟨d, p', hd, hlt, g'⟩ := drawF_good (b := 20) g (by omega) (by omega)
      have m7 := mulN (a := 7) (b := k) (by omega)
      have md := modN (a := d + 7 * k) (b := 20) (by omega)
      refine ⟨_, tg1, .inr ⟨_, .int (((d + 7 * k) % 20 : Nat) : Int), [some (.frl ns), some p', some (.int (c : Int)), some (.lst (nl lots)), some (.int (m2 : Int)), none, none, none, none, none, none, some (.int (k : Int))], t_lit, ?_, ?_, es ++ [(d + 7 * k) % 20], p', some (.int (k : Int)), ?_, ⟨by simp [hl], fun e h => ?_⟩, g', rfl⟩⟩
      · push_cast [wipeS, K.h7, hd, m7, md]
      · rw [nl_len]
        have : 1000 ≤ sizeLine := by decide
        omega
      · rw [nl_append]; rfl
      · rcases List.mem_append.mp h with h | h
        · exact he e h
        · cases List.mem_singleton.mp h
          exact Nat.mod_lt _ (by omega)) [] [some (.frl ns), some p4, some (.int (c : Int)), some (.lst (nl lots)), some (.int (m2 : Int)), none, none, none, none, none, none, none] ⟨[], p4, none, rfl, ⟨rfl, fun e h => by simp at h⟩, g4, rfl⟩
  subst ha
  subst hρ
  have hE : evalE Φ (.comp [11] [11] false (.rng (.cons (.var 4) .nil)) (.lit (.bl true)) (.app (.bin .Mod) (.cons (.app .int1 (.cons (.app (.bin .Add) (.cons (.callio 7 1 (.cons (.var 1) (.cons (.lit (.int 20)) .nil))) (.cons (.app (.bin .Mult) (.cons (.lit (.int 7)) (.cons (.var 11) .nil))) .nil))) .nil)) (.cons (.lit (.int 20)) .nil)))) [some (.frl ns), some p4, some (.int (c : Int)), some (.lst (nl lots)), some (.int (m2 : Int)), none, none, none, none, none, none, none] =
      .ok (.lst (nl es)) [some (.frl ns), some p5, some (.int (c : Int)), some (.lst (nl lots)), some (.int (m2 : Int)), none, none, none, none, none, none, none] := by
    rw [e_compV]
    simp only [i_rng, l_var, getS_s, getS_z, l_nil, bind_ok, rg, hcomp]
    rfl
  obtain ⟨v6, p6, hv6, g6⟩ := K.h8 p5 g5
  obtain ⟨v7, p7, hv7, g7⟩ := K.h8 p6 g6
  obtain ⟨end_, p8, hd8, hl8, g8⟩ := drawF_good (b := 20) g7 (by omega) (by omega)
  obtain ⟨width, p9, hd9, hl9, g9⟩ := drawF_good (b := 21) g8 (by omega) (by omega)
  have mo := modN (a := v6 + 44) (b := 1048576) (by omega)
  have mo2 := modN (a := v7 + 36) (b := 1048576) (by omega)
  have o1 : (v6 + 44) % 1048576 < 2 ^ 20 := Nat.mod_lt _ (by omega)
  have o2 : (v7 + 36) % 1048576 < 2 ^ 20 := Nat.mod_lt _ (by omega)
  have f20 := K.h20 es _ width hes.2 o1 (by omega)
  have f21 := K.h21 _ _ end_ o1 o2 hl8
  have f22 := K.h22 lots ((v6 + 44) % 1048576) (by omega)
  have f23 := K.h23 lots (by omega) hlt20
  have f10 := K.h10 lots (by omega)
  obtain ⟨tw, htw⟩ : ∃ l, l = (List.range lots.length).map fun k => lots.getD (lots.length - 1 - k) 0 := ⟨_, rfl⟩
  rw [← htw] at f10
  have twl : tw.length = lots.length := by rw [htw]; simp
  have twlt : ∀ x ∈ tw, x < 2 ^ 20 := by
    intro x hx
    rw [htw] at hx
    obtain ⟨k, hk, rfl⟩ := List.mem_map.mp hx
    have hk := List.mem_range.mp hk
    rw [List.getD_eq_getElem?_getD, List.getElem?_eq_getElem (by omega)]
    exact hlt20 _ (List.getElem_mem _)
  have a1 := addNl (xs := tw) (ys := lots) (by omega)
  have a2 := addNl (xs := lots) (ys := [(v6 + 44) % 1048576]) (by simp; omega)
  rw [← nl1] at a2
  have g23 := K.h23 (tw ++ lots) (by simp; omega) (fun x hx => (List.mem_append.mp hx).elim (twlt x) (hlt20 x))
  have f14 := K.h14 lots (by omega) hlt20
  have ls := least_sub (sortN lots) []
  rw [sortN_len] at ls
  have k23 := K.h23 (leastGo [] (sortN lots)) (by have := ls.2; simp at this; omega) (fun x hx => (ls.1 x hx).elim (fun h => by simp at h) fun h => hlt20 x (sortN_mem.mp h))
  have l23 := K.h23 (lots ++ [(v6 + 44) % 1048576]) (by simp; omega) (fun x hx => (List.mem_append.mp hx).elim (hlt20 x) fun h => by cases List.mem_singleton.mp h; exact o1)
  have n23 := K.h23 [] (by simp) (fun x hx => by simp at hx)
  rw [nl0] at n23
  simp only [List.map_cons, List.map_nil] at ec em1 em2
  rw [runF_eq (d := d24) (show [Val.frl ns].length = d24.np from rfl)]
  show resF d24 (exec Φ d24.body [some (.frl ns), none, none, none, none, none, none, none, none, none, none, none]) = _
  simp only [d24, litN] at hE ⊢
  push_cast [K.h6, hp0, K.h7, hd1, ixN_l, ec, hd2, em1, hlots, hd3, em2, hE, hv6, hv7, mo, mo2, hd8, hd9, f20, f21, f22, f23, f10, a1, g23, f14, k23, a2, l23, n23]
  rfl
theorem call_d {n i : Nat} {d : FDef} {args : List Val} (h : prg.defs i = some d) : callN prg (n + 1) i args = runF d (callN prg n) args := by rw [callN, h]
theorem call_h {n i : Nat} (h : prg.defs i = none) : callN prg (n + 1) i = hand i := by
  funext args
  rw [callN, h]
  rfl
theorem c0 (n : Nat) (v : Val) (book : List Nat) (lot : Nat) (hv : v = .lst (nl book) ∨ v = .tup (nl book)) : callN prg (n + 1) 0 [v, .int (lot : Int)] = .ok (.bl (hasLot book lot)) none := (call_d (d := d0) rfl).trans (hasLot_run hv)
theorem c1 (n : Nat) (lots : List Nat) (hl : lots.length ≤ 1000) : callN prg (n + 2) 1 [.tup (nl lots)] = .ok (.tup (nl (leastGo [] (sortN lots)))) none := (call_d (d := d1) rfl).trans (pleast_run (fun kept lot => c0 n _ kept lot (.inl rfl)) hl)
theorem c2 (n : Nat) (es : List Nat) (he : ∀ e ∈ es, e < 64) : callN prg (n + 1) 2 [.tup (nl es)] = .ok (.int (orEnds es : Nat)) none := (call_d (d := d2) rfl).trans (lotof_run he)
theorem c3 (n a : Nat) (ha : a < 2 ^ 20) : callN prg (n + 1) 3 [.int (a : Int)] = .ok (.tup (nl (ends a))) none := (call_d (d := d3) rfl).trans (endsof_run ha)
theorem c4 (n c : Nat) (hc : c ≤ 40) : callN prg (n + 1) 4 [.int (c : Int)] = .ok (.int ((2 ^ c - 1 : Nat) : Int)) none := (call_d (d := d4) rfl).trans (full_run hc)
theorem c5 (n a b : Nat) : callN prg (n + 1) 5 [.int (a : Int), .int (b : Int)] = .ok (.bl (a &&& b == a)) none := (call_d (d := d5) rfl).trans inside_run
theorem c6 (n : Nat) : callN prg (n + 1) 6 = poolF := call_h rfl
theorem c7 (n : Nat) : callN prg (n + 1) 7 = drawF := call_h rfl
theorem c8 (n c : Nat) (p : Val) (hc : c ≤ 20) (g : goodP p) : ∃ (v : Nat) (p' : Val), callN prg (n + 2) 8 [p, .int (c : Int)] = .ok (.int (v : Int)) (some p') ∧ goodP p' ∧ v < 2 ^ c := by
  obtain ⟨v, p', h, r⟩ := bits_run (Φ := callN prg (n + 1)) (c7 n) hc g
  exact ⟨v, p', (call_d (d := d8) rfl).trans h, r⟩
theorem c9 (n c many : Nat) (p : Val) (hc1 : 1 ≤ c) (hc : c ≤ 20) (hm : many ≤ 90) (g : goodP p) : ∃ (xs : List Nat) (p' : Val), callN prg (n + 3) 9 [p, .int (c : Int), .int (many : Int)] = .ok (.lst (nl xs)) (some p') ∧ goodP p' ∧ xs.length = many ∧ ∀ x ∈ xs, x < 2 ^ c := by
  obtain ⟨xs, p', h, r⟩ := lots_run (Φ := callN prg (n + 2)) (c7 (n + 1)) hc1 hc (fun p g => c8 n c p hc g) hm g
  exact ⟨xs, p', (call_d (d := d9) rfl).trans h, r⟩
theorem c10 (n : Nat) (lots : List Nat) (hl : lots.length ≤ 1000) : callN prg (n + 1) 10 [.lst (nl lots)] = .ok (.lst (nl ((List.range lots.length).map fun k => lots.getD (lots.length - 1 - k) 0))) none := (call_d (d := d10) rfl).trans (turned_run hl)
theorem c11 (n a : Nat) : callN prg (n + 1) 11 [.int (a : Int)] = .ok (.lst (nl (ends a))) none := (call_d (d := d11) rfl).trans ends_run
theorem c12 (n a b : Nat) (ha : a < 2 ^ 20) : callN prg (n + 1) 12 [.int (a : Int), .int (b : Int)] = .ok (.bl (a &&& b == a)) none := (call_d (d := d12) rfl).trans (within_run ha)
theorem c13 (n : Nat) (lots : List Nat) (hl : lots.length ≤ 200) : callN prg (n + 1) 13 [.lst (nl lots)] = .ok (.lst (nl (sortN lots))) none := (call_d (d := d13) rfl).trans (ord_run hl)
theorem c14 (n : Nat) (lots : List Nat) (hl : lots.length ≤ 200) (hb : ∀ x ∈ lots, x < 2 ^ 20) : callN prg (n + 2) 14 [.lst (nl lots)] = .ok (.lst (nl (leastGo [] (sortN lots)))) none := (call_d (d := d14) rfl).trans (lleast_run (fun a b ha => c12 n a b ha) hb hl (c13 n lots hl))
theorem c15 (n : Nat) (lots : List Nat) (lot : Nat) (hb : ∀ x ∈ lots, x < 2 ^ 20) : callN prg (n + 2) 15 [.lst (nl lots), .int (lot : Int)] = .ok (.bl (hasLot lots lot)) none := (call_d (d := d15) rfl).trans (lhas_run (fun a b ha => c12 n a b ha) hb)
theorem c16 (n a : Nat) : callN prg (n + 1) 16 [.int (a : Int), .int (a : Int)] = .ok (.bl true) none := (call_d (d := d16) rfl).trans number_run
theorem c17 (n : Nat) (a : Bool) : callN prg (n + 1) 17 [.bl a, .bl a] = .ok (.bl true) none := (call_d (d := d17) rfl).trans truth_run
theorem c18 (n : Nat) (xs : List Nat) (hl : xs.length ≤ 1000) : callN prg (n + 2) 18 [.tup (nl xs), .lst (nl xs)] = .ok (.bl true) none := (call_d (d := d18) rfl).trans (numbers_run (num := 16) hl fun a => c16 n a)
theorem c19 (n a : Nat) (ha : a < 2 ^ 20) : callN prg (n + 3) 19 [.int (a : Int)] = .ok (.bl true) none :=
  (call_d (d := d19) rfl).trans (lotasked_run ha (c2 (n + 1) _ fun e h => by have := ends_lt e h; omega) (c3 (n + 1) a ha) (c11 (n + 1) a) (c16 (n + 1) a) (c18 n _ (by have := ends_len a; omega)))
theorem c23 (n : Nat) (lots : List Nat) (hl : lots.length ≤ 200) (hb : ∀ x ∈ lots, x < 2 ^ 20) : callN prg (n + 3) 23 [.lst (nl lots)] = .ok (.bl true) none :=
  (call_d (d := d23) rfl).trans (lasked_run (c1 n lots (by omega)) (c14 n lots hl hb) (c18 n _ (by have := (least_sub (sortN lots) []).2; rw [sortN_len] at this; simp at this; omega)))
def lvl : Nat := 5
theorem hval (ns : List Int) (h : ns.length ≤ 63) : runF d24 (callN prg lvl) [.frl ns] = .ok (.bl true) none :=
  law_run ⟨c6 4, c7 4, fun p g => let ⟨v, p', h, g', _⟩ := c8 3 20 p (by omega) g; ⟨v, p', h, g'⟩, fun c many p h1 h2 h3 g => c9 2 c many p h1 h2 h3 g, fun lots hl => c10 4 lots hl, fun lots hl hb => c14 3 lots hl hb,
    fun es a w he ha hw => (call_d (n := 4) (d := d20) rfl).trans (endsasked_run he ha hw (c2 3 es fun e h => by have := he e h; omega) (fun c hc => c4 3 c (by omega)) (fun a => c16 3 a) (fun a ha => c19 1 a ha)),
    fun a b e ha hb he => (call_d (n := 4) (d := d21) rfl).trans (insasked_run ha hb he (fun a b => c5 3 a b) (fun a b ha => c12 3 a b ha) (fun a => c17 3 a)),
    fun lots one hl => (call_d (n := 4) (d := d22) rfl).trans (hasasked_run hl (fun book lot => c0 3 _ book lot (.inr rfl)) (fun a _ => c11 3 a) (fun lots lot hb => c15 2 lots lot hb) (fun a => c17 3 a)),
    fun lots hl hb => c23 2 lots hl hb⟩ h
end K10
open PySem PySem.W PyProof.Rows in
set_option maxRecDepth 100000 in
set_option maxHeartbeats 0 in
theorem PySem.Challenge.cw_cellforall_k10_least_lots_holds : PySem.Challenge.rw_cellforall_k10_least_lots.Holds := by
  w_on; o_law; k_head; (case hw => w_witness2)
  k_fill
  refine Pv.law_walk (l := PySem.Challenge.rw_cellforall_k10_least_lots) (k := K10.lvl) (nm := K10.nm) (bl := K10.bl) (fs := K10.fs) (sg := K10.sg) (Pr := K10.prg) (f := 24) (fdf := K10.d24) rfl rfl ⟨rfl, by decide, by decide⟩ (fun w h Y => PySem.W.kIn_of Y) rfl K10.hval ?F
  case F =>
    intro w mg fa h KX G hmg
    refine' K10.all_mk KX G hmg ?n0 ?l0 ?c0 ?k0 ?n1 ?l1 ?c1 ?k1 ?n2 ?l2 ?c2 ?k2 ?n3 ?l3 ?c3 ?k3 ?n4 ?l4 ?c4 ?k4 ?n5 ?l5 ?c5 ?k5 ?n6 ?l6 ?c6 ?k6 ?n7 ?l7 ?c7 ?k7 ?n8 ?l8 ?c8 ?k8 ?n9 ?l9 ?c9 ?k9 ?n10 ?l10 ?c10 ?k10 ?n11 ?l11 ?c11 ?k11 ?n12 ?l12 ?c12 ?k12 ?n13 ?l13 ?c13 ?k13 ?n14 ?l14 ?c14 ?k14 ?n15 ?l15 ?c15 ?k15 ?n16 ?l16 ?c16 ?k16 ?n17 ?l17 ?c17 ?k17 ?n18 ?l18 ?c18 ?k18 ?n19 ?l19 ?c19 ?k19 ?n20 ?l20 ?c20 ?k20 ?n21 ?l21 ?c21 ?k21 ?n22 ?l22 ?c22 ?k22 ?n23 ?l23 ?c23 ?k23 ?n24 ?l24 ?c24 ?k24 ?z0 ?z1 ?z2 ?z3 ?z4 ?z5 ?z6 ?z7
    (case n0 => k_is)
    (case l0 => k_is)
    (case c0 => k_is)
    (case k0 => k_is)
    (case n1 => k_is)
    (case l1 => k_is)
    (case c1 => k_is)
    (case k1 => k_is)
    (case n2 => k_is)
    (case l2 => k_is)
    (case c2 => k_is)
    (case k2 => k_is)
    (case n3 => k_is)
    (case l3 => k_is)
    (case c3 => k_is)
    (case k3 => k_is)
    (case n4 => k_is)
    (case l4 => k_is)
    (case c4 => k_is)
    (case k4 => k_is)
    (case n5 => k_is)
    (case l5 => k_is)
    (case c5 => k_is)
    (case k5 => k_is)
    (case n6 => k_is)
    (case l6 => k_is)
    (case c6 => k_is)
    (case k6 => k_is)
    (case n7 => k_is)
    (case l7 => k_is)
    (case c7 => k_is)
    (case k7 => k_is)
    (case n8 => k_is)
    (case l8 => k_is)
    (case c8 => k_is)
    (case k8 => k_is)
    (case n9 => k_is)
    (case l9 => k_is)
    (case c9 => k_is)
    (case k9 => k_is)
    (case n10 => k_is)
    (case l10 => k_is)
    (case c10 => k_is)
    (case k10 => k_is)
    (case n11 => k_is)
    (case l11 => k_is)
    (case c11 => k_is)
    (case k11 => k_is)
    (case n12 => k_is)
    (case l12 => k_is)
    (case c12 => k_is)
    (case k12 => k_is)
    (case n13 => k_is)
    (case l13 => k_is)
    (case c13 => k_is)
    (case k13 => k_is)
    (case n14 => k_is)
    (case l14 => k_is)
    (case c14 => k_is)
    (case k14 => k_is)
    (case n15 => k_is)
    (case l15 => k_is)
    (case c15 => k_is)
    (case k15 => k_is)
    (case n16 => k_is)
    (case l16 => k_is)
    (case c16 => k_is)
    (case k16 => k_is)
    (case n17 => k_is)
    (case l17 => k_is)
    (case c17 => k_is)
    (case k17 => k_is)
    (case n18 => k_is)
    (case l18 => k_is)
    (case c18 => k_is)
    (case k18 => k_is)
    (case n19 => k_is)
    (case l19 => k_is)
    (case c19 => k_is)
    (case k19 => k_is)
    (case n20 => k_is)
    (case l20 => k_is)
    (case c20 => k_is)
    (case k20 => k_is)
    (case n21 => k_is)
    (case l21 => k_is)
    (case c21 => k_is)
    (case k21 => k_is)
    (case n22 => k_is)
    (case l22 => k_is)
    (case c22 => k_is)
    (case k22 => k_is)
    (case n23 => k_is)
    (case l23 => k_is)
    (case c23 => k_is)
    (case k23 => k_is)
    (case n24 => k_is)
    (case l24 => k_is)
    (case c24 => k_is)
    (case k24 => k_is)
    (case z0 => k_is)
    (case z1 => k_is)
    (case z2 => k_is)
    (case z3 => k_is)
    (case z4 => k_is)
    (case z5 => k_is)
    (case z6 => k_is)
    (case z7 => k_is)
