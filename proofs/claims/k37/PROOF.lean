import PyProof.Rows.All
import Wide.All
import OpenK.AllK
import Wide.FinOn
import KE.KStateDown
import Lean
import HandS.ForMost
import HandS.Exc
import HandS.Defaults
import HandS.Wide
import HandS.WideBits
import HandS.Gcd
import HandS.IsInst
import HandS.Walk
import HandS.Zip
import HandS.Conv
import HandS.TupAny
import HandS.TupMul
import HandS.SortInts
import HandS.Style
import HandS.ExcOwn
import HandS.WordsExc
import HandS.Head0
import HandS.Head1
import HandS.Head2
import HandS.HeadEnd
import HandS.HeadHook1
import HandS.HeadHook2
import HandS.HeadHook3
import HandS.HeadHook4
import HandS.Deep
import HandS.Strs
import HandS.SetFor
import HandS.Rev
import KE.GoesMore
import KE.GoesEnum
import HandS.EndBits
import HandS.Head3
import PySem.Challenge.RW_wheelmark_k37_whole_most_apart
set_option Elab.async false
set_option linter.all false
set_option maxRecDepth 100000
set_option maxHeartbeats 0
/-! The walk layer, part 1: data, frames, the small language, its evaluator. -/
namespace Wk
open PySem

abbrev D := PyData
/-- who owns a list: the frame itself, the caller (lent); the same while a loop walks it -/
inductive Kd where
  | mine | lent | lockM | lockL
  deriving DecidableEq
inductive Sl where
  | no
  | val (d : D)
  | own (xs : List D) (k : Kd)
abbrev Fm := List Sl
/-- a value in passing: data that never changes, a new list, the list that slot i owns -/
inductive RV where
  | val (d : D)
  | tmp (xs : List D)
  | sl (i : Nat)
inductive R (α : Type) where
  | ok (a : α) (ρ : Fm)
  | exc (c : Nat) (ρ : Fm)
  | no
@[simp] def R.bind {α β : Type} : R α → (α → Fm → R β) → R β
  | .ok a ρ, f => f a ρ
  | .exc c ρ, _ => .exc c ρ
  | .no, _ => .no

inductive Fl where
  | nx | ret (v : RV) | brk | cnt

inductive BOp where
  | add | sub | mul | fdiv | mod | pow | shl | shr | band | bor
  deriving DecidableEq
inductive COp where
  | eq | ne | lt | le | gt | ge | isN | isnN | in_ | notin
  deriving DecidableEq
inductive Ty where
  | int | bool | str | tuple | list
  deriving DecidableEq
/-- built-in functions of one argument -/
inductive B1 where
  | len | int | abs | max | min | sum | all | any | sorted | tuple | list | str
  deriving DecidableEq
/-- .. of two -/
inductive B2 where
  | max | min | gcd
  deriving DecidableEq
mutual
inductive Tg where
  | name (i : Nat)
  | tup (ts : Tgs)
inductive Tgs where
  | nil
  | cons (t : Tg) (ts : Tgs)
end
mutual
inductive IE where
  | lit (d : D)
  | var (i : Nat)
  | gint (x : Str) (i : Int)
  | gtup (x : Str) (is : List Int)
  | bin (o : BOp) (a b : IE)
  | neg (a : IE)
  | not (a : IE)
  | and (as : IEs)
  | or (as : IEs)
  | ite (c a b : IE)
  | cmp (o : COp) (a b : IE)
  | cmp2 (o p : COp) (a b c : IE)
  | idx (a i : IE)
  | slc (a lo hi : IE)
  | slo (a lo : IE)
  | rvs (a : IE)
  | sset (a : IE)
  | shi (a hi : IE)
  | tup (as : IEs)
  | lst (as : IEs)
  | isi (a : IE) (t : Ty)
  | b1 (f : B1) (a : IE)
  | b2 (f : B2) (a b : IE)
  | lrng (a : II)
  | trng (a : II)
  | call (f : Nat) (as : IEs)
  | comp (e : IE) (t : Tg) (it : II)
  | compIf (e : IE) (t : Tg) (it : II) (c : IE)
  | app (i : Nat) (a : IE)
  | pop0 (i : Nat)
  | popAt (i : Nat) (a : IE)
  | never
inductive IEs where
  | nil
  | cons (a : IE) (as : IEs)
inductive II where
  | rng1 (a : IE)
  | rng2 (a b : IE)
  | rng3 (a b c : IE)
  | seq (a : IE)
  | zip (a b : IE)
  | enum (a : IE)
  | rev (a : IE)
end
inductive IS where
  | skip
  | seq (s t : IS)
  | expr (e : IE)
  | asg (i : Nat) (e : IE)
  | asgT (t : Tg) (e : IE)
  | par2 (i j : Nat) (a b : IE)
  | par3 (i j l : Nat) (a b c : IE)
  | setix (i : Nat) (x e : IE)
  | ite (c : IE) (s t : IS)
  | for_ (t : Tg) (it : II) (s : IS)
  | whl (c : IE) (s : IS)
  | ret (e : IE)
  | retN
  | brk
  | cnt
  | raise (c : Nat)
  | never

/-! ### operations on data -/
def flatD : D → Bool
  | .none => true
  | .bool _ => true
  | .int _ => true
  | .str _ => true
  | _ => false
def fits (n : Nat) : Bool := decide (n ≤ 16777216)
def mulOk (i j : Int) : Bool := decide ((Builtin.Int.intBits i : Int) + (Builtin.Int.intBits j : Int) ≤ 134217728)
def divOk (j : Int) : Bool := decide (j ≠ 0) && decide (j.natAbs.log2 < 9000)
def powOk (i j : Int) : Bool := decide (0 ≤ j) && (decide (j ≤ 1000000) && decide (i.natAbs < 2 ^ 64))
def guardO {α : Type} (b : Bool) (a : α) : Option α := if b = true then some a else none
def binD : BOp → D → D → Option RV
  | .add, .int i, .int j => some (.val (.int (i + j)))
  | .add, .str x, .str y => guardO (fits (x.length + y.length)) (.val (.str (x ++ y)))
  | .add, .tuple xs, .tuple ys => guardO (fits (xs.length + ys.length)) (.val (.tuple (xs ++ ys)))
  | .add, .list xs, .list ys => guardO (fits (xs.length + ys.length)) (.tmp (xs ++ ys))
  | .sub, .int i, .int j => some (.val (.int (i - j)))
  | .mul, .int i, .int j => guardO (mulOk i j) (.val (.int (i * j)))
  | .mul, .tuple xs, .int k => guardO (!xs.isEmpty && (decide (2 ≤ k) && (decide (k ≤ 1000) && decide (xs.length ≤ 1000)))) (.val (.tuple (List.replicate k.toNat xs).flatten))
  | .mul, .list xs, .int k => guardO (decide (-(2 ^ 63) ≤ k) && (decide (k < 2 ^ 63) && fits (xs.length * k.toNat))) (.tmp (List.replicate k.toNat xs).flatten)
  | .fdiv, .int i, .int j => guardO (divOk j) (.val (.int (i.fdiv j)))
  | .mod, .int i, .int j => guardO (decide (j ≠ 0)) (.val (.int (i.fmod j)))
  | .pow, .int i, .int j => guardO (powOk i j) (.val (.int (i ^ j.toNat)))
  | .shl, .int i, .int j => guardO (powOk i j) (.val (.int (i * 2 ^ j.toNat)))
  | .shr, .int i, .int j => guardO (decide (0 ≤ j)) (.val (.int (i / 2 ^ j.toNat)))
  | .band, .int i, .int j => some (.val (.int (Builtin.bitAnd i j)))
  | .bor, .int i, .int j => some (.val (.int (Builtin.bitOr i j)))
  | _, _, _ => none
def inAny (d : D) (ds : List D) : Bool := ds.any fun z => PyData.eqv z d
def cmpD : COp → D → D → Option Bool
  | .eq, a, b => guardO (SeqAt.shaped a && SeqAt.shaped b) (PyData.eqv a b)
  | .ne, a, b => guardO (SeqAt.shaped a && SeqAt.shaped b) (!PyData.eqv a b)
  | .lt, .int i, .int j => some (decide (i < j))
  | .le, .int i, .int j => some (decide (i ≤ j))
  | .gt, .int i, .int j => some (decide (j < i))
  | .ge, .int i, .int j => some (decide (j ≤ i))
  | .isN, .bool i, .bool j => some (decide (i = j))
  | .isnN, .bool i, .bool j => some (!decide (i = j))
  | .isN, a, .none => some (match a with | .none => true | _ => false)
  | .isnN, a, .none => some (match a with | .none => false | _ => true)
  | .in_, a, .list ds => guardO (flatD a && ds.all flatD || SeqAt.shaped a && SeqAt.shaped (.list ds)) (inAny a ds)
  | .in_, a, .tuple ds => guardO (flatD a && ds.all flatD) (inAny a ds)
  | .notin, a, .list ds => guardO (flatD a && ds.all flatD || SeqAt.shaped a && SeqAt.shaped (.list ds)) (!inAny a ds)
  | .notin, a, .tuple ds => guardO (flatD a && ds.all flatD) (!inAny a ds)
  | _, _, _ => none
def truthD : D → Option Bool
  | .none => some false
  | .bool b => some b
  | .int i => some (i != 0)
  | .list xs => some (!xs.isEmpty)
  | .tuple xs => some (!xs.isEmpty)
  | _ => none
def isiD : D → Ty → Option Bool
  | .dict _, _ => none
  | .bool _, .int => some true
  | .bool _, .bool => some true
  | .int _, .int => some true
  | .str _, .str => some true
  | .tuple _, .tuple => some true
  | .list _, .list => some true
  | _, _ => some false
/-- each number once, in order -/
def insU (a : Int) : List Int → List Int
  | [] => [a]
  | b :: r => if a < b then a :: b :: r else if a = b then b :: r else b :: insU a r
def ssetI : List Int → List Int
  | [] => []
  | a :: r => insU a (ssetI r)
def intsD : List D → Option (List Int)
  | [] => some []
  | .int i :: r => (intsD r).map (i :: ·)
  | _ => none
def boolsD : List D → Option (List Bool)
  | [] => some []
  | .bool i :: r => (boolsD r).map (i :: ·)
  | _ => none
def maxL : List Int → Option Int
  | [] => none
  | [a] => some a
  | a :: r => (maxL r).map fun m => if m ≤ a then a else m
def minL : List Int → Option Int
  | [] => none
  | [a] => some a
  | a :: r => (minL r).map fun m => if a ≤ m then a else m
def insI (a : Int) : List Int → List Int
  | [] => [a]
  | b :: r => if a ≤ b then a :: b :: r else b :: insI a r
def sortI : List Int → List Int
  | [] => []
  | a :: r => insI a (sortI r)
def b1D : B1 → D → Option RV
  | .len, .list xs => some (.val (.int xs.length))
  | .len, .tuple xs => some (.val (.int xs.length))
  | .len, .str x => guardO (fits x.length) (.val (.int x.length))
  | .int, .int i => some (.val (.int i))
  | .int, .bool b => some (.val (.int (if b then 1 else 0)))
  | .abs, .int i => some (.val (.int (if i < 0 then -i else i)))
  | .max, .list xs => ((intsD xs).bind maxL).map fun m => .val (.int m)
  | .min, .list xs => ((intsD xs).bind minL).map fun m => .val (.int m)
  | .sum, .list xs => (intsD xs).map fun ns => .val (.int ns.sum)
  | .all, .list xs => (boolsD xs).map fun bs => .val (.bool (bs.all id))
  | .any, .list xs => (boolsD xs).map fun bs => .val (.bool (bs.any id))
  | .sorted, .list xs => (intsD xs).map fun ns => .tmp ((sortI ns).map .int)
  | .tuple, .list xs => some (.val (.tuple xs))
  | .tuple, .tuple xs => some (.val (.tuple xs))
  | .list, .list xs => some (.tmp xs)
  | .list, .tuple xs => some (.tmp xs)
  | .str, .int i => guardO (decide (i.natAbs.log2 < 1920)) (.val (.str (toString i)))
  | _, _ => none
def ssetD : D → Option RV
  | .list xs => (intsD xs).bind fun ns => guardO (decide (ns.length < 64)) (.tmp ((ssetI ns).map .int))
  | _ => none
def b2D : B2 → D → D → Option D
  | .max, .int i, .int j => some (.int (if j > i then j else i))
  | .min, .int i, .int j => some (.int (if j < i then j else i))
  | .gcd, .int i, .int j => some (.int ((Nat.gcd i.natAbs j.natAbs : Nat) : Int))
  | _, _, _ => none
def idxD : D → D → Option D
  | .list xs, .int i => L2.atI xs i
  | .tuple xs, .int i => L2.atI xs i
  | _, _ => none
def cutL (xs : List D) (lo hi : Option Int) : List D := (xs.drop (HT.sIx xs.length 0 lo)).take (HT.sIx xs.length xs.length hi - HT.sIx xs.length 0 lo)
def revD : D → Option RV
  | .list xs => some (.tmp xs.reverse)
  | .tuple xs => some (.val (.tuple xs.reverse))
  | _ => none
def slcD (lo hi : Option Int) : D → Option RV
  | .list xs => some (.tmp (cutL xs lo hi))
  | .tuple xs => some (.val (.tuple (cutL xs lo hi)))
  | _ => none

/-! ### frames -/
def lift {α : Type} (o : Option α) (ρ : Fm) : R α := match o with
  | some a => .ok a ρ
  | none => .no
/-- what a value in passing says, without moving it -/
def peek : RV → Fm → Option D
  | .val d, _ => some d
  | .tmp xs, _ => some (.list xs)
  | .sl i, ρ => match ρ[i]? with
    | some (.val d) => some d
    | some (.own xs _) => some (.list xs)
    | _ => none
/-- a value in passing made data: its list is never changed from now on -/
def freeze : RV → Fm → Option (D × Fm)
  | .val d, ρ => some (d, ρ)
  | .tmp xs, ρ => some (.list xs, ρ)
  | .sl i, ρ => match ρ[i]? with
    | some (.val d) => some (d, ρ)
    | some (.own xs .mine) => some (.list xs, ρ.set i (.val (.list xs)))
    | _ => none
def free? : Option Sl → Bool
  | some (.own _ k) => decide (k = .mine)
  | some _ => true
  | none => false
def Kd.lock : Kd → Kd
  | .mine => .lockM
  | .lent => .lockL
  | k => k
def Kd.open_ : Kd → Kd
  | .lockM => .mine
  | .lockL => .lent
  | k => k
def setV (i : Nat) (d : D) (ρ : Fm) : Option Fm := if free? ρ[i]? = true then some (ρ.set i (.val d)) else none
def setVs : List Nat → List D → Fm → Option Fm
  | [], [], ρ => some ρ
  | i :: is, d :: ds, ρ => (setV i d ρ).bind fun ρ1 => setVs is ds ρ1
  | _, _, _ => none
mutual
def asgT : Tg → D → Fm → Option Fm
  | .name i, d, ρ => setV i d ρ
  | .tup ts, .tuple ds, ρ => asgTs ts ds ρ
  | .tup _, _, _ => none
def asgTs : Tgs → List D → Fm → Option Fm
  | .nil, [], ρ => some ρ
  | .cons t ts, d :: ds, ρ => (asgT t d ρ).bind fun ρ1 => asgTs ts ds ρ1
  | _, _, _ => none
end
mutual
def Tg.slots : Tg → List Nat
  | .name i => [i]
  | .tup ts => ts.slots
def Tgs.slots : Tgs → List Nat
  | .nil => []
  | .cons t ts => t.slots ++ ts.slots
end
/-- a value in passing stored at a name -/
def setR (i : Nat) (rv : RV) (ρ : Fm) : Option Fm := match rv with
  | .val d => setV i d ρ
  | .tmp xs => if free? ρ[i]? = true then some (ρ.set i (.own xs .mine)) else none
  | .sl j => (freeze (.sl j) ρ).bind fun p => setV i p.1 p.2
def wipeF (ρ : Fm) : List Nat → Fm
  | [] => ρ
  | v :: vs => (wipeF ρ vs).set v .no
/-- the slots vs as ρ0 had them -/
def backF (ρ0 ρ : Fm) : List Nat → Fm
  | [] => ρ
  | v :: vs => match ρ0[v]? with
    | some s => (backF ρ0 ρ vs).set v s
    | none => backF ρ0 ρ vs
/-- the list that a loop walks, locked: its items, the frame, what to unlock -/
def lockR : RV → Fm → Option (List D × Fm × List Nat)
  | .val (.list xs), ρ => some (xs, ρ, [])
  | .val (.tuple xs), ρ => some (xs, ρ, [])
  | .tmp xs, ρ => some (xs, ρ, [])
  | .sl i, ρ => match ρ[i]? with
    | some (.val (.list xs)) => some (xs, ρ, [])
    | some (.val (.tuple xs)) => some (xs, ρ, [])
    | some (.own xs k) => if k = .mine ∨ k = .lent then some (xs, ρ.set i (.own xs k.lock), [i]) else some (xs, ρ, [])
    | _ => none
  | _, _ => none
/-- a list (true) or a tuple -/
def kindR : RV → Fm → Option Bool
  | .val (.list _), _ => some true
  | .val (.tuple _), _ => some false
  | .tmp _, _ => some true
  | .sl i, ρ => match ρ[i]? with
    | some (.val (.list _)) => some true
    | some (.val (.tuple _)) => some false
    | some (.own _ _) => some true
    | _ => none
  | _, _ => none
def unlock (ρ : Fm) : List Nat → Fm
  | [] => ρ
  | i :: r => match (unlock ρ r)[i]? with
    | some (.own xs k) => (unlock ρ r).set i (.own xs k.open_)
    | _ => unlock ρ r
/-- arguments: data, or a list that is lent -/
inductive Arg where
  | val (d : D)
  | own (xs : List D) (k : Kd)
inductive RC where
  | ok (v : RV) (fin : List (List D))
  | exc (c : Nat) (fin : List (List D))
  | no
def argOf (ρ : Fm) : Sum D Nat → Option Arg
  | .inl d => some (.val d)
  | .inr i => match ρ[i]? with
    | some (.val d) => some (.val d)
    | some (.own xs k) => some (.own xs (if k = .mine ∨ k = .lent then .lent else .lockL))
    | _ => none
def argsOf (ρ : Fm) : List (Sum D Nat) → Option (List Arg)
  | [] => some []
  | a :: r => (argOf ρ a).bind fun x => (argsOf ρ r).map (x :: ·)
/-- the slots of the lists that are handed on -/
def lentOf (ρ : Fm) : List (Sum D Nat) → List Nat
  | [] => []
  | .inl _ :: r => lentOf ρ r
  | .inr i :: r => match ρ[i]? with
    | some (.own _ _) => i :: lentOf ρ r
    | _ => lentOf ρ r
/-- the lists as the callee left them -/
def giveB (ρ : Fm) : List (Sum D Nat) → List (List D) → Fm
  | [], _ => ρ
  | .inl _ :: r, fin => giveB ρ r fin
  | .inr i :: r, fin => (match ρ[i]? with
    | some (.own _ k) => (match fin with
      | ys :: fin' => (giveB ρ r fin').set i (.own ys k)
      | [] => giveB ρ r [])
    | _ => giveB ρ r fin)
def afterCall (ρ : Fm) (as : List (Sum D Nat)) : RC → R RV
  | .ok v fin => .ok v (giveB ρ as fin)
  | .exc c fin => .exc c (giveB ρ as fin)
  | .no => .no
def doCall (C : Nat → List Arg → RC) (f : Nat) (as : List (Sum D Nat)) (ρ : Fm) : R RV :=
  match argsOf ρ as with
  | some args => if (lentOf ρ as).Nodup then afterCall ρ as (C f args) else .no
  | none => .no
/-- a comprehension's turns: f gives an item or none -/
def compL (f : D → Fm → R (Option D)) : List D → Fm → R (List D)
  | [], ρ => .ok [] ρ
  | d :: ds, ρ => (f d ρ).bind fun o ρ1 => (compL f ds ρ1).bind fun r ρ2 => .ok (match o with | some x => x :: r | none => r) ρ2
def forL (f : D → Fm → R Fl) : List D → Fm → R Fl
  | [], ρ => .ok .nx ρ
  | d :: ds, ρ => (f d ρ).bind fun fl ρ1 => match fl with
    | .nx => forL f ds ρ1
    | .cnt => forL f ds ρ1
    | .brk => .ok .nx ρ1
    | .ret v => .ok (.ret v) ρ1
def whlN (c : Fm → R Bool) (f : Fm → R Fl) : Nat → Fm → R Fl
  | 0, _ => .no
  | n + 1, ρ => (c ρ).bind fun b ρ1 => if b = true then (f ρ1).bind fun fl ρ2 => match fl with
      | .nx => whlN c f n ρ2
      | .cnt => whlN c f n ρ2
      | .brk => .ok .nx ρ2
      | .ret v => .ok (.ret v) ρ2
    else .ok .nx ρ1
def unlockR {α : Type} (lk : List Nat) : R α → R α
  | .ok a ρ => .ok a (unlock ρ lk)
  | .exc c ρ => .exc c (unlock ρ lk)
  | .no => .no
def backR {α : Type} (ρ0 : Fm) (own : List Nat) : R α → R α
  | .ok a ρ => .ok a (backF ρ0 ρ own)
  | .exc c ρ => .exc c ρ
  | .no => .no
def compAll (own : List Nat) (f : D → Fm → R (Option D)) (ds : List D) (lk : List Nat) (ρ : Fm) : R RV :=
  if fits ds.length = true then
    (match compL (fun d ρ1 => backR ρ1 own (f d (wipeF ρ1 own))) ds ρ with
    | .ok r ρ1 => .ok (.tmp r) (unlock ρ1 lk)
    | _ => .no)
  else .no
def rangeL (lo : Int) (c : Int) (n : Nat) : List D := (List.range n).map fun i => .int (lo + ((i : Nat) : Int) * c)
def rngB (i : Int) : Bool := decide (-(2 ^ 62) ≤ i) && decide (i < 2 ^ 62)
/-- how many turns of range(i, j, c) -/
def rngN (i j c : Int) : Nat := (Builtin.Range.rangeSize i j c).toNat
def asInt : D → Option Int
  | .int i => some i
  | _ => none
def asBool : D → Option Bool
  | .bool b => some b
  | _ => none
def zipD : List D → List D → List D
  | a :: as, b :: bs => .tuple [a, b] :: zipD as bs
  | _, _ => []
def enumD (n : Nat) : List D → List D
  | [] => []
  | a :: as => .tuple [.int n, a] :: enumD (n + 1) as
/-- peeked as .. -/
def pk {α : Type} (rv : RV) (ρ : Fm) (f : D → Option α) : R α := lift ((peek rv ρ).bind f) ρ
def fzR (rv : RV) (ρ : Fm) : R D := match freeze rv ρ with
  | some p => .ok p.1 p.2
  | none => .no
def Kd.rw (k : Kd) : Bool := decide (k = .mine) || decide (k = .lent)
def appAt (i : Nat) (x : D) (ρ : Fm) : R RV := match ρ[i]? with
  | some (.own xs k) => if (k.rw && fits (xs.length + 1)) = true then .ok (.val .none) (ρ.set i (.own (xs ++ [x]) k)) else .no
  | _ => .no
def pop0At (i : Nat) (ρ : Fm) : R RV := match ρ[i]? with
  | some (.own xs k) => if k.rw = true then (lift xs[xs.length - 1]? ρ).bind fun x _ => .ok (.val x) (ρ.set i (.own xs.dropLast k)) else .no
  | _ => .no
def popAt (i : Nat) (j : Int) (ρ : Fm) : R RV := match ρ[i]? with
  | some (.own xs k) => if (k.rw && (decide (-(2 ^ 63) ≤ j) && decide (j < 2 ^ 63))) = true then (lift (L2.ixN xs.length j) ρ).bind fun n _ => (lift xs[n]? ρ).bind fun x _ => .ok (.val x) (ρ.set i (.own (xs.eraseIdx n) k)) else .no
  | _ => .no
def setAt (i : Nat) (j : Int) (d : D) (ρ : Fm) : R Fl := match ρ[i]? with
  | some (.own xs k) => if k.rw = true then (lift (L2.ixN xs.length j) ρ).bind fun n _ => .ok .nx (ρ.set i (.own (xs.set n d) k)) else .no
  | _ => .no
abbrev Its := List D × List Nat
section
variable (C : Nat → List Arg → RC)
mutual
def evE : IE → Fm → R RV
  | .lit d, ρ => .ok (.val d) ρ
  | .var i, ρ => (match ρ[i]? with
    | some (.val d) => .ok (.val d) ρ
    | some (.own _ _) => .ok (.sl i) ρ
    | _ => .no)
  | .gint _ i, ρ => .ok (.val (.int i)) ρ
  | .gtup _ is, ρ => .ok (.val (.tuple (is.map .int))) ρ
  | .bin o a b, ρ => (evE a ρ).bind fun r1 ρ1 => (evE b ρ1).bind fun r2 ρ2 => lift ((peek r1 ρ2).bind fun d1 => (peek r2 ρ2).bind fun d2 => binD o d1 d2) ρ2
  | .neg a, ρ => (evE a ρ).bind fun r1 ρ1 => pk r1 ρ1 fun d => (asInt d).map fun i => .val (.int (-i))
  | .not a, ρ => (evE a ρ).bind fun r1 ρ1 => pk r1 ρ1 fun d => (asBool d).map fun b => .val (.bool (!b))
  | .and as, ρ => evAnd as ρ
  | .or as, ρ => evOr as ρ
  | .ite c a b, ρ => (evT c ρ).bind fun t ρ1 => if t = true then evE a ρ1 else evE b ρ1
  | .cmp o a b, ρ => (evE a ρ).bind fun r1 ρ1 => (evE b ρ1).bind fun r2 ρ2 => lift ((peek r1 ρ2).bind fun d1 => (peek r2 ρ2).bind fun d2 => (cmpD o d1 d2).map fun t => .val (.bool t)) ρ2
  | .cmp2 o p a b c, ρ => (evE a ρ).bind fun r1 ρ1 => (evE b ρ1).bind fun r2 ρ2 => (lift ((peek r1 ρ2).bind fun d1 => (peek r2 ρ2).bind fun d2 => cmpD o d1 d2) ρ2).bind fun t ρ3 =>
      if t = true then (evE c ρ3).bind fun r3 ρ4 => lift ((peek r2 ρ4).bind fun d2 => (peek r3 ρ4).bind fun d3 => (cmpD p d2 d3).map fun t => .val (.bool t)) ρ4 else .ok (.val (.bool false)) ρ3
  | .idx a i, ρ => (evE a ρ).bind fun r1 ρ1 => (evE i ρ1).bind fun r2 ρ2 => lift ((peek r1 ρ2).bind fun d1 => (peek r2 ρ2).bind fun d2 => (idxD d1 d2).map .val) ρ2
  | .slc a lo hi, ρ => (evE a ρ).bind fun r1 ρ1 => (evE lo ρ1).bind fun r2 ρ2 => (pk r2 ρ2 asInt).bind fun i _ => (evE hi ρ2).bind fun r3 ρ3 => (pk r3 ρ3 asInt).bind fun j _ => lift ((peek r1 ρ3).bind (slcD (some i) (some j))) ρ3
  | .sset a, ρ => (evE a ρ).bind fun r1 ρ1 => lift ((peek r1 ρ1).bind ssetD) ρ1
  | .rvs a, ρ => (evE a ρ).bind fun r1 ρ1 => lift ((peek r1 ρ1).bind revD) ρ1
  | .slo a lo, ρ => (evE a ρ).bind fun r1 ρ1 => (evE lo ρ1).bind fun r2 ρ2 => (pk r2 ρ2 asInt).bind fun i _ => lift ((peek r1 ρ2).bind (slcD (some i) none)) ρ2
  | .shi a hi, ρ => (evE a ρ).bind fun r1 ρ1 => (evE hi ρ1).bind fun r2 ρ2 => (pk r2 ρ2 asInt).bind fun i _ => lift ((peek r1 ρ2).bind (slcD none (some i))) ρ2
  | .tup as, ρ => (evD as ρ).bind fun ds ρ1 => lift (guardO (fits ds.length) (.val (.tuple ds))) ρ1
  | .lst as, ρ => (evD as ρ).bind fun ds ρ1 => lift (guardO (fits ds.length) (.tmp ds)) ρ1
  | .isi a t, ρ => (evE a ρ).bind fun r1 ρ1 => pk r1 ρ1 fun d => (isiD d t).map fun b => .val (.bool b)
  | .b1 f a, ρ => (evE a ρ).bind fun r1 ρ1 => pk r1 ρ1 (b1D f)
  | .b2 f a b, ρ => (evE a ρ).bind fun r1 ρ1 => (evE b ρ1).bind fun r2 ρ2 => lift ((peek r1 ρ2).bind fun d1 => (peek r2 ρ2).bind fun d2 => (b2D f d1 d2).map .val) ρ2
  | .lrng it, ρ => (evI it ρ).bind fun p ρ1 => lift (guardO (fits p.1.length) (.tmp p.1)) ρ1
  | .trng it, ρ => (evI it ρ).bind fun p ρ1 => lift (guardO (fits p.1.length) (.val (.tuple p.1))) ρ1
  | .call f as, ρ => (evA as ρ).bind fun xs ρ1 => doCall C f xs ρ1
  | .comp e t it, ρ => (evI it ρ).bind fun p ρ1 => compAll t.slots (fun d ρ2 => (lift (asgT t d ρ2) ρ2).bind fun ρ3 _ => (evE e ρ3).bind fun r ρ4 => (fzR r ρ4).bind fun x ρ5 => .ok (some x) ρ5) p.1 p.2 ρ1
  | .compIf e t it c, ρ => (evI it ρ).bind fun p ρ1 => compAll t.slots (fun d ρ2 => (lift (asgT t d ρ2) ρ2).bind fun ρ3 _ => (evT c ρ3).bind fun b ρ4 => if b = true then (evE e ρ4).bind fun r ρ5 => (fzR r ρ5).bind fun x ρ6 => .ok (some x) ρ6 else .ok none ρ4) p.1 p.2 ρ1
  | .app i a, ρ => (match ρ[i]? with
    | some (.own _ _) => (evE a ρ).bind fun r ρ1 => (fzR r ρ1).bind fun x ρ2 => appAt i x ρ2
    | _ => .no)
  | .pop0 i, ρ => pop0At i ρ
  | .popAt i a, ρ => (match ρ[i]? with
    | some (.own _ _) => (evE a ρ).bind fun r ρ1 => (pk r ρ1 asInt).bind fun j _ => popAt i j ρ1
    | _ => .no)
  | .never, _ => .no
def evT : IE → Fm → R Bool
  | .not a, ρ => (evT a ρ).bind fun b ρ1 => .ok (!b) ρ1
  | .and as, ρ => evTAnd as ρ
  | .or as, ρ => evTOr as ρ
  | .ite _ _ _, _ => .no
  | .lit d, ρ => lift (truthD d) ρ
  | .var i, ρ => (match ρ[i]? with
    | some (.val d) => lift (truthD d) ρ
    | some (.own xs _) => .ok (!xs.isEmpty) ρ
    | _ => .no)
  | .gint _ i, ρ => .ok (i != 0) ρ
  | .bin o a b, ρ => (evE a ρ).bind fun r1 ρ1 => (evE b ρ1).bind fun r2 ρ2 => lift ((peek r1 ρ2).bind fun d1 => (peek r2 ρ2).bind fun d2 => (binD o d1 d2).bind fun r => (peek r ρ2).bind truthD) ρ2
  | .cmp o a b, ρ => (evE a ρ).bind fun r1 ρ1 => (evE b ρ1).bind fun r2 ρ2 => lift ((peek r1 ρ2).bind fun d1 => (peek r2 ρ2).bind fun d2 => cmpD o d1 d2) ρ2
  | .cmp2 o p a b c, ρ => (evE a ρ).bind fun r1 ρ1 => (evE b ρ1).bind fun r2 ρ2 => (lift ((peek r1 ρ2).bind fun d1 => (peek r2 ρ2).bind fun d2 => cmpD o d1 d2) ρ2).bind fun t ρ3 =>
      if t = true then (evE c ρ3).bind fun r3 ρ4 => lift ((peek r2 ρ4).bind fun d2 => (peek r3 ρ4).bind fun d3 => cmpD p d2 d3) ρ4 else .ok false ρ3
  | .isi a t, ρ => (evE a ρ).bind fun r1 ρ1 => pk r1 ρ1 fun d => isiD d t
  | .b1 f a, ρ => (evE a ρ).bind fun r1 ρ1 => (pk r1 ρ1 (b1D f)).bind fun r ρ2 => pk r ρ2 truthD
  | .call f as, ρ => (evA as ρ).bind fun xs ρ1 => (doCall C f xs ρ1).bind fun r ρ2 => pk r ρ2 truthD
  | .idx a i, ρ => (evE a ρ).bind fun r1 ρ1 => (evE i ρ1).bind fun r2 ρ2 => lift ((peek r1 ρ2).bind fun d1 => (peek r2 ρ2).bind fun d2 => (idxD d1 d2).bind truthD) ρ2
  | _, _ => .no
def evAnd : IEs → Fm → R RV
  | .nil, _ => .no
  | .cons a .nil, ρ => evE a ρ
  | .cons a as, ρ => (evE a ρ).bind fun r ρ1 => (pk r ρ1 asBool).bind fun t _ => if t = true then evAnd as ρ1 else .ok (.val (.bool false)) ρ1
def evOr : IEs → Fm → R RV
  | .nil, _ => .no
  | .cons a .nil, ρ => evE a ρ
  | .cons a as, ρ => (evE a ρ).bind fun r ρ1 => (pk r ρ1 asBool).bind fun t _ => if t = true then .ok (.val (.bool true)) ρ1 else evOr as ρ1
def evTAnd : IEs → Fm → R Bool
  | .nil, _ => .no
  | .cons a .nil, ρ => evT a ρ
  | .cons a as, ρ => (evT a ρ).bind fun t ρ1 => if t = true then evTAnd as ρ1 else .ok false ρ1
def evTOr : IEs → Fm → R Bool
  | .nil, _ => .no
  | .cons a .nil, ρ => evT a ρ
  | .cons a as, ρ => (evT a ρ).bind fun t ρ1 => if t = true then .ok true ρ1 else evTOr as ρ1
/-- items of a display -/
def evD : IEs → Fm → R (List D)
  | .nil, ρ => .ok [] ρ
  | .cons a as, ρ => (evE a ρ).bind fun r ρ1 => (fzR r ρ1).bind fun x ρ2 => (evD as ρ2).bind fun xs ρ3 => .ok (x :: xs) ρ3
/-- arguments -/
def evA : IEs → Fm → R (List (Sum D Nat))
  | .nil, ρ => .ok [] ρ
  | .cons a as, ρ => (evE a ρ).bind fun r ρ1 => (match r with
    | .sl i => (evA as ρ1).bind fun xs ρ3 => .ok (.inr i :: xs) ρ3
    | r => (fzR r ρ1).bind fun x ρ2 => (evA as ρ2).bind fun xs ρ3 => .ok (.inl x :: xs) ρ3)
def evI : II → Fm → R Its
  | .rng1 a, ρ => (evE a ρ).bind fun r ρ1 => (pk r ρ1 asInt).bind fun j _ => lift (guardO (rngB j) (rangeL 0 1 j.toNat, [])) ρ1
  | .rng2 a b, ρ => (evE a ρ).bind fun r ρ1 => (pk r ρ1 asInt).bind fun i _ => (evE b ρ1).bind fun r2 ρ2 => (pk r2 ρ2 asInt).bind fun j _ => lift (guardO (rngB i && rngB j) (rangeL i 1 (j - i).toNat, [])) ρ2
  | .rng3 a b c, ρ => (evE a ρ).bind fun r ρ1 => (pk r ρ1 asInt).bind fun i _ => (evE b ρ1).bind fun r2 ρ2 => (pk r2 ρ2 asInt).bind fun j _ => (evE c ρ2).bind fun r3 ρ3 => (pk r3 ρ3 asInt).bind fun k _ =>
      lift (guardO (Builtin.Range.small i j k && (decide (k ≠ 0) && decide (k.natAbs < 1073741824))) (rangeL i k (rngN i j k), [])) ρ3
  | .seq a, ρ => (evE a ρ).bind fun r ρ1 => (match lockR r ρ1 with
    | some p => .ok (p.1, p.2.2) p.2.1
    | none => .no)
  | .zip a b, ρ => (evE a ρ).bind fun r ρ1 => (evE b ρ1).bind fun r2 ρ2 => (match lockR r ρ2 with
    | some p => (match lockR r2 p.2.1 with
      | some q => if kindR r ρ2 = kindR r2 ρ2 then .ok (zipD p.1 q.1, p.2.2 ++ q.2.2) q.2.1 else .no
      | none => .no)
    | none => .no)
  | .enum a, ρ => (evE a ρ).bind fun r ρ1 => (match lockR r ρ1 with
    | some p => .ok (enumD 0 p.1, p.2.2) p.2.1
    | none => .no)
  | .rev a, ρ => (evE a ρ).bind fun r ρ1 => (match lockR r ρ1 with
    | some p => .ok (p.1.reverse, p.2.2) p.2.1
    | none => .no)
end
/-- the most turns of a while -/
def turnsMax : Nat := 2 ^ 64
def evS : IS → Fm → R Fl
  | .skip, ρ => .ok .nx ρ
  | .seq s t, ρ => (evS s ρ).bind fun fl ρ1 => match fl with
    | .nx => evS t ρ1
    | fl => .ok fl ρ1
  | .expr e, ρ => (evE C e ρ).bind fun _ ρ1 => .ok .nx ρ1
  | .asg i e, ρ => (evE C e ρ).bind fun r ρ1 => (lift (setR i r ρ1) ρ1).bind fun ρ2 _ => .ok .nx ρ2
  | .asgT t e, ρ => (evE C e ρ).bind fun r ρ1 => (fzR r ρ1).bind fun d ρ2 => (lift (asgT t d ρ2) ρ2).bind fun ρ3 _ => .ok .nx ρ3
  | .par2 i j a b, ρ => (evD C (.cons a (.cons b .nil)) ρ).bind fun ds ρ1 => (lift (setVs [i, j] ds ρ1) ρ1).bind fun ρ2 _ => .ok .nx ρ2
  | .par3 i j l a b c, ρ => (evD C (.cons a (.cons b (.cons c .nil))) ρ).bind fun ds ρ1 => (lift (setVs [i, j, l] ds ρ1) ρ1).bind fun ρ2 _ => .ok .nx ρ2
  | .setix i x e, ρ => (evE C e ρ).bind fun r ρ1 => (fzR r ρ1).bind fun d ρ2 => (match ρ2[i]? with
    | some (.own _ _) => (evE C x ρ2).bind fun r2 ρ3 => (pk r2 ρ3 asInt).bind fun j _ => setAt i j d ρ3
    | _ => .no)
  | .ite c s t, ρ => (evT C c ρ).bind fun b ρ1 => if b = true then evS s ρ1 else evS t ρ1
  | .for_ t it s, ρ => (evI C it ρ).bind fun p ρ1 => unlockR p.2 (forL (fun d ρ2 => (lift (asgT t d ρ2) ρ2).bind fun ρ3 _ => evS s ρ3) p.1 ρ1)
  | .whl c s, ρ => whlN (fun ρ1 => evT C c ρ1) (fun ρ1 => evS s ρ1) turnsMax ρ
  | .ret e, ρ => (evE C e ρ).bind fun r ρ1 => .ok (.ret r) ρ1
  | .retN, ρ => .ok (.ret (.val .none)) ρ
  | .brk, ρ => .ok .brk ρ
  | .cnt, ρ => .ok .cnt ρ
  | .raise c, ρ => .exc c ρ
  | .never, _ => .no
end
/-! ### defs -/
structure Fn where
  /-- slots, parameters first -/
  slots : Nat
  pars : Nat
  body : IS
def slOf : Arg → Sl
  | .val d => .val d
  | .own xs k => .own xs k
def frameOf (fn : Fn) (args : List Arg) : Fm := args.map slOf ++ List.replicate (fn.slots - args.length) .no
def finOf (ρ : Fm) : Nat → List Arg → List (List D)
  | _, [] => []
  | i, .val _ :: r => finOf ρ (i + 1) r
  | i, .own xs _ :: r => (match ρ[i]? with
    | some (.own ys _) => ys
    | _ => xs) :: finOf ρ (i + 1) r
def retOf (rv : RV) (ρ : Fm) : Option RV := match rv with
  | .val d => some (.val d)
  | .tmp xs => some (.tmp xs)
  | .sl i => match ρ[i]? with
    | some (.own xs .mine) => some (.tmp xs)
    | some (.val d) => some (.val d)
    | _ => none
def endOf (args : List Arg) : R Fl → RC
  | .ok .nx ρ => .ok (.val .none) (finOf ρ 0 args)
  | .ok (.ret v) ρ => (match retOf v ρ with
    | some r => .ok r (finOf ρ 0 args)
    | none => .no)
  | .exc c ρ => .exc c (finOf ρ 0 args)
  | _ => .no
def evC (fs : List Fn) : Nat → Nat → List Arg → RC
  | 0, _, _ => .no
  | n + 1, f, args => match fs[f]? with
    | some fn => if args.length = fn.pars then endOf args (evS (evC fs n) fn.body (frameOf fn args)) else .no
    | none => .no
end Wk

/-! The walk layer, part 2: what a frame means in a heap; steps. -/
namespace Wk
open PySem PySem.Spec L2

/-! ### data in a heap -/
abbrev SubH (F F' : Hp) : Prop := ∀ a o, F a = some o → F' a = some o
/-- a list that never changes: in F, or one of the written part -/
def Lx (K : PySem.W.Frag) (F : Hp) (a : Addr) (xs : List V) : Prop := Rd F a (.lst xs) ∨ ∃ (its : List Value) (n : Nat), K.lookup a = some { cls := .type "list", data := .seq its.toArray n } ∧ its.length ≤ sizeLine ∧ Vals xs its
mutual
/-- v is the data d, by what stands in F: a list or a tuple that never changes, its items alike -/
inductive Dq (K : PySem.W.Frag) (F : Hp) : V → D → Prop where
  | non : Dq K F .non .none
  | bl (b : Bool) : Dq K F (.bl b) (.bool b)
  | int (i : Int) : Dq K F (.int i) (.int i)
  | str (x : Str) : Dq K F (.str x) (.str x)
  | lst {a : Addr} {xs : List V} {ds : List D} : Lx K F a xs → DqAll K F xs ds → Dq K F (.ref a) (.list ds)
  | tup {a : Addr} {xs : List V} {ds : List D} : SqT K F a xs → DqAll K F xs ds → Dq K F (.ref a) (.tuple ds)
inductive DqAll (K : PySem.W.Frag) (F : Hp) : List V → List D → Prop where
  | nil : DqAll K F [] []
  | cons {v : V} {vs : List V} {d : D} {ds : List D} : Dq K F v d → DqAll K F vs ds → DqAll K F (v :: vs) (d :: ds)
end
theorem rd_mono {F F' : Hp} {a : Addr} {u : HO} (s : SubH F F') (h : Rd F a u) : Rd F' a u := by
  rcases h with h | ⟨o, h⟩
  · exact .inl (s _ _ h)
  · exact .inr ⟨o, s _ _ h⟩
theorem lx_mono {K : PySem.W.Frag} {F F' : Hp} {a : Addr} {xs : List V} (s : SubH F F') (h : Lx K F a xs) : Lx K F' a xs := h.imp (rd_mono s) id
theorem lx_sq {K : PySem.W.Frag} {F : Hp} {a : Addr} {xs : List V} (h : Lx K F a xs) : SqL K F a xs := by
  rcases h with h | ⟨its, n, h1, h2, h3⟩
  · exact .inl h
  · exact .inr ⟨_, its.toArray, n, h1, rfl, rfl, rfl, by rw [List.size_toArray]; exact h2, h3⟩
theorem Lx.of {K : PySem.W.Frag} {F : Hp} {a : Addr} {xs : List V} (h : F a = some (.lst xs)) : Lx K F a xs := .inl (.inl h)
theorem sqT_mono {K : PySem.W.Frag} {F F' : Hp} {a : Addr} {xs : List V} (s : SubH F F') (h : SqT K F a xs) : SqT K F' a xs := by
  rcases h with (h | ⟨o, h⟩) | h
  · exact .inl (.inl (s _ _ h))
  · exact .inl (.inr ⟨o, s _ _ h⟩)
  · exact .inr h
mutual
theorem dq_mono {K : PySem.W.Frag} {F F' : Hp} (s : SubH F F') : ∀ (d : D) (v : V), Dq K F v d → Dq K F' v d
  | .none, _, h => by cases h; exact .non
  | .bool b, _, h => by cases h; exact .bl b
  | .int i, _, h => by cases h; exact .int i
  | .str x, _, h => by cases h; exact .str x
  | .list ds, _, h => by
    cases h with
    | lst hs ha => exact .lst (lx_mono s hs) (dqAll_mono s ds _ ha)
  | .tuple ds, _, h => by
    cases h with
    | tup hs ha => exact .tup (sqT_mono s hs) (dqAll_mono s ds _ ha)
  | .dict _, _, h => by cases h
theorem dqAll_mono {K : PySem.W.Frag} {F F' : Hp} (s : SubH F F') : ∀ (ds : List D) (vs : List V), DqAll K F vs ds → DqAll K F' vs ds
  | [], _, h => by cases h; exact .nil
  | d :: ds, _, h => by
    cases h with
    | cons h1 h2 => exact .cons (dq_mono s d _ h1) (dqAll_mono s ds _ h2)
end
theorem subH_trans {F F1 F2 : Hp} (a : SubH F F1) (b : SubH F1 F2) : SubH F F2 := fun c o h => b c o (a c o h)
theorem subH_upd {F : Hp} {a : Addr} {o : HO} (h : F a = none) : SubH F (upd F a o) := fun b u e => by
  rw [upd_ne (ne_of_none e h)]
  exact e
mutual
theorem dq_dp {K : PySem.W.Frag} {F : Hp} : ∀ (d : D) (v : V), Dq K F v d → Dp K F v d
  | .none, _, h => by cases h; exact .non
  | .bool b, _, h => by cases h; exact .bl b
  | .int i, _, h => by cases h; exact .int i
  | .str x, _, h => by cases h; exact .str x
  | .list ds, _, h => by
    cases h with
    | lst hs ha => exact .lst (lx_sq hs) (dqAll_dp ds _ ha)
  | .tuple ds, _, h => by
    cases h with
    | tup hs ha => exact .tup hs (dqAll_dp ds _ ha)
  | .dict _, _, h => by cases h
theorem dqAll_dp {K : PySem.W.Frag} {F : Hp} : ∀ (ds : List D) (vs : List V), DqAll K F vs ds → DpAll K F vs ds
  | [], _, h => by cases h; exact .nil
  | d :: ds, _, h => by
    cases h with
    | cons h1 h2 => exact .cons (dq_dp d _ h1) (dqAll_dp ds _ h2)
end
section
variable {K : PySem.W.Frag} {F H : Hp}
theorem dqAll_len : ∀ {vs : List V} {ds : List D}, DqAll K F vs ds → vs.length = ds.length
  | _, _, .nil => rfl
  | _, _, .cons _ t => by simp [dqAll_len t]
theorem dqAll_get : ∀ {vs : List V} {ds : List D} {i : Nat} {d : D}, DqAll K F vs ds → ds[i]? = some d → ∃ v, vs[i]? = some v ∧ Dq K F v d
  | _, _, _, _, .nil, e => by simp at e
  | _, _, 0, _, .cons h _, e => by simp at e; subst e; exact ⟨_, rfl, h⟩
  | _, _, i + 1, d, .cons _ t, e => by
    obtain ⟨v, h1, h2⟩ := dqAll_get (i := i) (d := d) t (by simpa using e)
    exact ⟨v, by simpa using h1, h2⟩
theorem dqAll_get' : ∀ {vs : List V} {ds : List D} {i : Nat} {v : V}, DqAll K F vs ds → vs[i]? = some v → ∃ d, ds[i]? = some d ∧ Dq K F v d
  | _, _, _, _, .nil, e => by simp at e
  | _, _, 0, _, .cons h _, e => by simp at e; subst e; exact ⟨_, rfl, h⟩
  | _, _, i + 1, v, .cons _ t, e => by
    obtain ⟨d, h1, h2⟩ := dqAll_get' (i := i) (v := v) t (by simpa using e)
    exact ⟨d, by simpa using h1, h2⟩
theorem dqAll_app : ∀ {vs us : List V} {ds es : List D}, DqAll K F vs ds → DqAll K F us es → DqAll K F (vs ++ us) (ds ++ es)
  | _, _, _, _, .nil, s => s
  | _, _, _, _, .cons r t, s => .cons r (dqAll_app t s)
theorem dqAll_take : ∀ {vs : List V} {ds : List D} (n : Nat), DqAll K F vs ds → DqAll K F (vs.take n) (ds.take n)
  | _, _, 0, _ => .nil
  | _, _, _ + 1, .nil => .nil
  | _, _, n + 1, .cons r t => .cons r (dqAll_take n t)
theorem dqAll_drop : ∀ {vs : List V} {ds : List D} (n : Nat), DqAll K F vs ds → DqAll K F (vs.drop n) (ds.drop n)
  | _, _, 0, r => r
  | _, _, _ + 1, .nil => .nil
  | _, _, n + 1, .cons _ t => dqAll_drop n t
theorem dqAll_set {v : V} {d : D} (r : Dq K F v d) : ∀ {vs : List V} {ds : List D} (i : Nat), DqAll K F vs ds → DqAll K F (vs.set i v) (ds.set i d)
  | _, _, _, .nil => .nil
  | _, _, 0, .cons _ t => .cons r t
  | _, _, i + 1, .cons q t => .cons q (dqAll_set r i t)
theorem dqAll_erase : ∀ {vs : List V} {ds : List D} (i : Nat), DqAll K F vs ds → DqAll K F (vs.eraseIdx i) (ds.eraseIdx i)
  | _, _, _, .nil => .nil
  | _, _, 0, .cons _ t => t
  | _, _, i + 1, .cons q t => .cons q (dqAll_erase i t)
theorem dqAll_rev : ∀ {vs : List V} {ds : List D}, DqAll K F vs ds → DqAll K F vs.reverse ds.reverse
  | _, _, .nil => .nil
  | _, _, .cons r t => by
    rw [List.reverse_cons, List.reverse_cons]
    exact dqAll_app (dqAll_rev t) (.cons r .nil)
theorem dqAll_rep : ∀ (n : Nat) {vs : List V} {ds : List D}, DqAll K F vs ds → DqAll K F (List.replicate n vs).flatten (List.replicate n ds).flatten
  | 0, _, _, _ => by simp; exact .nil
  | n + 1, _, _, h => by
    rw [List.replicate_succ, List.replicate_succ, List.flatten_cons, List.flatten_cons]
    exact dqAll_app h (dqAll_rep n h)
theorem dqAll_ints : ∀ {vs : List V} {ds : List D} {ns : List Int}, DqAll K F vs ds → intsD ds = some ns → vs = ns.map V.int
  | _, _, ns, .nil, e => by
    simp [intsD] at e
    subst e
    rfl
  | _, _, ns, .cons (d := d) (ds := ds) h t, e => by
    cases h with
    | int i =>
      simp only [intsD] at e
      obtain ⟨ms, e1, e2⟩ := Option.map_eq_some_iff.mp e
      subst e2
      rw [dqAll_ints t e1]
      rfl
    | _ => simp [intsD] at e
theorem dqAll_bools : ∀ {vs : List V} {ds : List D} {ns : List Bool}, DqAll K F vs ds → boolsD ds = some ns → vs = ns.map V.bl
  | _, _, ns, .nil, e => by
    simp [boolsD] at e
    subst e
    rfl
  | _, _, ns, .cons (d := d) (ds := ds) h t, e => by
    cases h with
    | bl i =>
      simp only [boolsD] at e
      obtain ⟨ms, e1, e2⟩ := Option.map_eq_some_iff.mp e
      subst e2
      rw [dqAll_bools t e1]
      rfl
    | _ => simp [boolsD] at e
theorem dqAll_ofInts : ∀ (ns : List Int), DqAll K F (ns.map V.int) (ns.map PyData.int)
  | [] => .nil
  | n :: ns => .cons (.int n) (dqAll_ofInts ns)
end

/-! ### frames in a heap -/
def OwnAt (σ : St) (ρ : Fm) (a : Addr) : Prop := ∃ (i : Nat) (xs : List D) (k : Kd), ρ[i]? = some (.own xs k) ∧ σ[i]? = some (some (V.ref a))
structure EnvOk (K : PySem.W.Frag) (H0 F : Hp) (σ : St) (H : Hp) (ρ : Fm) : Prop where
  sub : SubH F H
  len : ρ.length = σ.length
  val : ∀ (i : Nat) (d : D), ρ[i]? = some (.val d) → ∃ v, σ[i]? = some (some v) ∧ Dq K F v d
  own : ∀ (i : Nat) (xs : List D) (k : Kd), ρ[i]? = some (.own xs k) → ∃ a vs, σ[i]? = some (some (.ref a)) ∧ H a = some (.lst vs) ∧ DqAll K F vs xs ∧ F a = none ∧ (k = .mine ∨ k = .lockM → H0 a = none)
  sep : ∀ (i j : Nat) (a : Addr) (xs ys : List D) (k l : Kd), ρ[i]? = some (.own xs k) → ρ[j]? = some (.own ys l) → σ[i]? = some (some (V.ref a)) → σ[j]? = some (some (V.ref a)) → i = j
  dom : ∀ a, H a = none → H0 a = none
/-- Hs: the heap ahead; a new list is none of its -/
def RvOk (K : PySem.W.Frag) (H0 Hs F : Hp) (σ : St) (H : Hp) (ρ : Fm) (v : V) : RV → Prop
  | .val d => Dq K F v d
  | .tmp xs => ∃ a vs, v = .ref a ∧ H a = some (.lst vs) ∧ DqAll K F vs xs ∧ F a = none ∧ ¬ OwnAt σ ρ a ∧ H0 a = none ∧ Hs a = none
  | .sl i => σ[i]? = some (some v)
/-- from one state to a later one -/
structure Step (K : PySem.W.Frag) (H0 : Hp) (σ : St) (F H : Hp) (ρ : Fm) (σ' : St) (F' H' : Hp) (ρ' : Fm) : Prop where
  fz : SubH F F'
  hp : ∀ a o, H a = some o → ¬ OwnAt σ ρ a → H' a = some o
  dm : ∀ a, H' a = none → H a = none
  nf : ∀ a, F a = none → H a ≠ none → ¬ OwnAt σ ρ a → F' a = none
  ow : ∀ a, OwnAt σ' ρ' a → OwnAt σ ρ a ∨ H a = none
  lk : ∀ (i : Nat) (xs : List D) (k : Kd), ρ[i]? = some (.own xs k) → k ≠ .mine → σ'[i]? = σ[i]? ∧ ∃ xs', ρ'[i]? = some (.own xs' k) ∧ (k ≠ .lent → xs' = xs)
  env : EnvOk K H0 F' σ' H' ρ'
section
variable {K : PySem.W.Frag} {H0 F F1 F2 H H1 H2 : Hp} {σ σ1 σ2 : St} {ρ ρ1 ρ2 : Fm}
theorem Step.refl (e : EnvOk K H0 F σ H ρ) : Step K H0 σ F H ρ σ F H ρ where
  fz := fun _ _ h => h
  hp := fun _ _ h _ => h
  dm := fun _ h => h
  nf := fun _ h _ _ => h
  ow := fun _ h => .inl h
  lk := fun _ xs _ h _ => ⟨rfl, xs, h, fun _ => rfl⟩
  env := e
theorem Step.trans (a : Step K H0 σ F H ρ σ1 F1 H1 ρ1) (b : Step K H0 σ1 F1 H1 ρ1 σ2 F2 H2 ρ2) : Step K H0 σ F H ρ σ2 F2 H2 ρ2 where
  fz := subH_trans a.fz b.fz
  hp := fun c o h n => b.hp c o (a.hp c o h n) fun q => (a.ow c q).elim n fun z => by rw [h] at z; cases z
  dm := fun c h => a.dm c (b.dm c h)
  nf := fun c h m n => b.nf c (a.nf c h m n) (fun z => m (a.dm c z)) fun q => (a.ow c q).elim n m
  ow := fun c h => (b.ow c h).elim (a.ow c) fun z => .inr (a.dm c z)
  lk := fun i xs k h n => by
    obtain ⟨e1, xs1, h1, k1⟩ := a.lk i xs k h n
    obtain ⟨e2, xs2, h2, k2⟩ := b.lk i xs1 k h1 n
    exact ⟨e2.trans e1, xs2, h2, fun z => (k2 z).trans (k1 z)⟩
  env := b.env
theorem RvOk.step {Hs : Hp} {v : V} {r : RV} (h : RvOk K H0 Hs F σ H ρ v r) (s : Step K H0 σ F H ρ σ F1 H1 ρ1) : RvOk K H0 Hs F1 σ H1 ρ1 v r := by
  cases r with
  | val d => exact dq_mono s.fz d v h
  | tmp xs =>
    obtain ⟨a, vs, rfl, h1, h2, h3, h4, h5, h6⟩ := h
    exact ⟨a, vs, rfl, s.hp a _ h1 h4, dqAll_mono s.fz _ _ h2, s.nf a h3 (by rw [h1]; simp) h4, fun q => (s.ow a q).elim h4 (fun z => by rw [h1] at z; cases z), h5, h6⟩
  | sl i => exact h
theorem RvOk.old {Hs Hs' : Hp} {v : V} {r : RV} (h : RvOk K H0 Hs F σ H ρ v r) (s : ∀ a, Hs a = none → Hs' a = none) : RvOk K H0 Hs' F σ H ρ v r := by
  cases r with
  | val d => exact h
  | tmp xs =>
    obtain ⟨a, vs, rfl, h1, h2, h3, h4, h5, h6⟩ := h
    exact ⟨a, vs, rfl, h1, h2, h3, h4, h5, s a h6⟩
  | sl i => exact h
theorem EnvOk.dp (e : EnvOk K H0 F σ H ρ) {v : V} {d : D} (h : Dq K F v d) : Dq K H v d := dq_mono e.sub d v h
/-- .. as it may be read now: its own list may still change, its items not -/
inductive Pk (K : PySem.W.Frag) (F H : Hp) : V → D → Prop where
  | non : Pk K F H .non .none
  | bl (b : Bool) : Pk K F H (.bl b) (.bool b)
  | int (i : Int) : Pk K F H (.int i) (.int i)
  | str (x : Str) : Pk K F H (.str x) (.str x)
  | lst {a : Addr} {xs : List V} {ds : List D} : Lx K H a xs → DqAll K F xs ds → Pk K F H (.ref a) (.list ds)
  | tup {a : Addr} {xs : List V} {ds : List D} : SqT K F a xs → DqAll K F xs ds → Pk K F H (.ref a) (.tuple ds)
theorem Pk.dq (s : SubH F H) {v : V} {d : D} (h : Pk K F H v d) : Dq K H v d := by
  cases h with
  | non => exact .non
  | bl b => exact .bl b
  | int b => exact .int b
  | str b => exact .str b
  | lst h1 h2 => exact .lst h1 (dqAll_mono s _ _ h2)
  | tup h1 h2 => exact .tup (sqT_mono s h1) (dqAll_mono s _ _ h2)
theorem pk_of (s : SubH F H) {v : V} {d : D} (h : Dq K F v d) : Pk K F H v d := by
  cases h with
  | non => exact .non
  | bl b => exact .bl b
  | int b => exact .int b
  | str b => exact .str b
  | lst h1 h2 => exact .lst (lx_mono s h1) h2
  | tup h1 h2 => exact .tup h1 h2
theorem peek_ok {Hs : Hp} (e : EnvOk K H0 F σ H ρ) {v : V} {r : RV} {d : D} (h : RvOk K H0 Hs F σ H ρ v r) (p : peek r ρ = some d) : Pk K F H v d := by
  cases r with
  | val d' =>
    simp only [peek, Option.some.injEq] at p
    subst p
    exact pk_of e.sub h
  | tmp xs =>
    obtain ⟨a, vs, rfl, h1, h2, _⟩ := h
    simp only [peek, Option.some.injEq] at p
    subst p
    exact .lst (.of h1) h2
  | sl i =>
    have h : σ[i]? = some (some v) := h
    unfold peek at p
    dsimp only at p
    split at p
    · rename_i d' hd
      cases p
      obtain ⟨v', h1, h2⟩ := e.val i _ hd
      rw [h] at h1
      cases h1
      exact pk_of e.sub h2
    · rename_i xs k hd
      cases p
      obtain ⟨a, vs, h1, h2, h3, _⟩ := e.own i _ _ hd
      rw [h] at h1
      cases h1
      exact .lst (.of h2) h3
    · cases p
/-- a slot is made data -/
theorem ownAt_set_val {i : Nat} {d : D} {a : Addr} (h : OwnAt σ (ρ.set i (.val d)) a) : OwnAt σ ρ a := by
  obtain ⟨j, xs, k, h1, h2⟩ := h
  rw [List.getElem?_set] at h1
  split at h1
  · split at h1
    · cases h1
    · cases h1
  · exact ⟨j, xs, k, h1, h2⟩
theorem set_get {α : Type} {l : List α} {i j : Nat} {x y : α} (h : (l.set i x)[j]? = some y) : (i = j ∧ y = x ∧ i < l.length) ∨ (i ≠ j ∧ l[j]? = some y) := by
  rw [List.getElem?_set] at h
  split at h
  · split at h
    · cases h
      exact .inl ⟨by assumption, rfl, by assumption⟩
    · cases h
  · exact .inr ⟨by assumption, h⟩
theorem freeze_ok (s : Step K H0 σ F H ρ σ1 F1 H1 ρ1) {v : V} {r : RV} {d : D} (h : RvOk K H0 H F1 σ1 H1 ρ1 v r) (p : freeze r ρ1 = some (d, ρ2)) : ∃ F', Step K H0 σ F H ρ σ1 F' H1 ρ2 ∧ Dq K F' v d := by
  have e := s.env
  cases r with
  | val d' =>
    simp only [freeze, Option.some.injEq, Prod.mk.injEq] at p
    obtain ⟨rfl, rfl⟩ := p
    exact ⟨F1, s, h⟩
  | tmp xs =>
    obtain ⟨a, vs, rfl, h1, h2, h3, h4, h5, h6⟩ := h
    simp only [freeze, Option.some.injEq, Prod.mk.injEq] at p
    obtain ⟨rfl, rfl⟩ := p
    have sF : SubH F1 (upd F1 a (.lst vs)) := subH_upd h3
    have ne : ∀ b, OwnAt σ1 ρ1 b → b ≠ a := fun b q z => h4 (z ▸ q)
    refine ⟨upd F1 a (.lst vs), ⟨subH_trans s.fz sF, s.hp, s.dm, fun b q m n => ?_, s.ow, s.lk, ⟨fun b o q => ?_, e.len, fun i d q => ?_, fun i ys k q => ?_, e.sep, e.dom⟩⟩, .lst (.of upd_same) (dqAll_mono sF _ _ h2)⟩
    · have hb : b ≠ a := fun z => m (z ▸ h6)
      rw [upd_ne hb]
      exact s.nf b q m n
    · by_cases hb : b = a
      · subst hb
        rw [upd_same] at q
        cases q
        exact h1
      · rw [upd_ne hb] at q
        exact e.sub b o q
    · obtain ⟨w, w1, w2⟩ := e.val i d q
      exact ⟨w, w1, dq_mono sF _ _ w2⟩
    · obtain ⟨b, us, w1, w2, w3, w4, w5⟩ := e.own i ys k q
      exact ⟨b, us, w1, w2, dqAll_mono sF _ _ w3, by rw [upd_ne (ne b ⟨i, ys, k, q, w1⟩)]; exact w4, w5⟩
  | sl i =>
    have h : σ1[i]? = some (some v) := h
    unfold freeze at p
    dsimp only at p
    split at p
    · rename_i d' hd
      cases p
      obtain ⟨v', h1, h2⟩ := e.val i _ hd
      rw [h] at h1
      cases h1
      exact ⟨F1, s, h2⟩
    · rename_i xs hd
      cases p
      obtain ⟨a, vs, h1, h2, h3, h4, h5⟩ := e.own i _ _ hd
      rw [h] at h1
      cases h1
      have oa : OwnAt σ1 ρ1 a := ⟨i, _, _, hd, h⟩
      have sF : SubH F1 (upd F1 a (.lst vs)) := subH_upd h4
      refine ⟨upd F1 a (.lst vs), ⟨subH_trans s.fz sF, s.hp, s.dm, fun b q m n => ?_, fun b q => s.ow b (ownAt_set_val q), fun j ys k q nk => ?_, ⟨fun b o q => ?_, by rw [List.length_set]; exact e.len, fun j d q => ?_, fun j ys k q => ?_, fun j l b ys zs k k' q1 q2 => ?_, e.dom⟩⟩, .lst (.of upd_same) (dqAll_mono sF _ _ h3)⟩
      · have hb : b ≠ a := fun z => (s.ow a oa).elim (fun w => n (z ▸ w)) (fun w => m (z ▸ w))
        rw [upd_ne hb]
        exact s.nf b q m n
      · obtain ⟨l1, ys', l2, l3⟩ := s.lk j ys k q nk
        refine ⟨l1, ys', ?_, l3⟩
        have hij : i ≠ j := fun z => by
          subst z
          rw [hd] at l2
          cases l2
          exact nk rfl
        rw [List.getElem?_set_ne hij]
        exact l2
      · by_cases hb : b = a
        · subst hb
          rw [upd_same] at q
          cases q
          exact h2
        · rw [upd_ne hb] at q
          exact e.sub b o q
      · rcases set_get q with ⟨rfl, w, _⟩ | ⟨_, w⟩
        · cases w
          exact ⟨_, h, .lst (.of upd_same) (dqAll_mono sF _ _ h3)⟩
        · obtain ⟨w0, w1, w2⟩ := e.val j d w
          exact ⟨w0, w1, dq_mono sF _ _ w2⟩
      · rcases set_get q with ⟨rfl, w, _⟩ | ⟨nij, w⟩
        · cases w
        · obtain ⟨b, us, w1, w2, w3, w4, w5⟩ := e.own j ys k w
          have hb : b ≠ a := fun z => nij (e.sep i j a _ _ _ _ hd w h (z ▸ w1))
          exact ⟨b, us, w1, w2, dqAll_mono sF _ _ w3, by rw [upd_ne hb]; exact w4, w5⟩
      · rcases set_get q1 with ⟨_, w, _⟩ | ⟨_, w⟩
        · cases w
        · rcases set_get q2 with ⟨_, w', _⟩ | ⟨_, w'⟩
          · cases w'
          · exact e.sep j l b ys zs k k' w w'
    · cases p
/-- a new object of any kind -/
theorem Step.new {p : Addr} {o : HO} (s : Step K H0 σ F H ρ σ1 F1 H1 ρ1) (hp : H1 p = none) : Step K H0 σ F H ρ σ1 F1 (upd H1 p o) ρ1 where
  fz := s.fz
  hp := fun a u h n => by
    have q := s.hp a u h n
    rw [upd_ne (ne_of_none q hp)]
    exact q
  dm := fun a h => by
    by_cases ha : a = p
    · subst ha
      rw [upd_same] at h
      cases h
    · rw [upd_ne ha] at h
      exact s.dm a h
  nf := s.nf
  ow := s.ow
  lk := s.lk
  env := by
    have e := s.env
    refine ⟨fun a u h => ?_, e.len, e.val, fun i xs k h => ?_, e.sep, fun a h => ?_⟩
    · rw [upd_ne (ne_of_none (e.sub a u h) hp)]
      exact e.sub a u h
    · obtain ⟨a, vs, w1, w2, w⟩ := e.own i xs k h
      exact ⟨a, vs, w1, by rw [upd_ne (ne_of_none w2 hp)]; exact w2, w⟩
    · by_cases ha : a = p
      · subst ha
        rw [upd_same] at h
        cases h
      · rw [upd_ne ha] at h
        exact e.dom a h
/-- .. that is data from the start -/
theorem Step.newF {p : Addr} {o : HO} (s : Step K H0 σ F H ρ σ1 F1 H1 ρ1) (hp : H1 p = none) : Step K H0 σ F H ρ σ1 (upd F1 p o) (upd H1 p o) ρ1 := by
  have s2 := s.new (o := o) hp
  have e := s2.env
  have fp : F1 p = none := by
    cases q : F1 p with
    | none => rfl
    | some u =>
      have := s.env.sub p u q
      rw [hp] at this
      cases this
  have sF : SubH F1 (upd F1 p o) := subH_upd fp
  have nown : ∀ b, OwnAt σ1 ρ1 b → b ≠ p := fun b q z => by
    obtain ⟨i, xs, k, h1, h2⟩ := q
    obtain ⟨a, vs, w1, w2, _⟩ := s.env.own i xs k h1
    rw [h2] at w1
    cases w1
    rw [z, hp] at w2
    cases w2
  refine ⟨subH_trans s.fz sF, s2.hp, s2.dm, fun b q m n => ?_, s2.ow, s2.lk, ⟨fun b u q => ?_, e.len, fun i d q => ?_, fun i ys k q => ?_, e.sep, e.dom⟩⟩
  · have hb : b ≠ p := fun z => m (s.dm b (z ▸ hp))
    rw [upd_ne hb]
    exact s.nf b q m n
  · by_cases hb : b = p
    · subst hb
      rw [upd_same] at q ⊢
      exact q
    · rw [upd_ne hb] at q
      exact e.sub b u q
  · obtain ⟨w, w1, w2⟩ := e.val i d q
    exact ⟨w, w1, dq_mono sF _ _ w2⟩
  · obtain ⟨b, us, w1, w2, w3, w4, w5⟩ := e.own i ys k q
    exact ⟨b, us, w1, w2, dqAll_mono sF _ _ w3, by rw [upd_ne (nown b ⟨i, ys, k, q, w1⟩)]; exact w4, w5⟩
/-- a new list at p, in passing -/
theorem tmp_new {p : Addr} {vs : List V} {ds : List D} (s : Step K H0 σ F H ρ σ1 F1 H1 ρ1) (hp : H1 p = none) (h : DqAll K F1 vs ds) : RvOk K H0 H F1 σ1 (upd H1 p (.lst vs)) ρ1 (.ref p) (.tmp ds) := by
  refine ⟨p, vs, rfl, upd_same, h, ?_, fun q => ?_, s.env.dom p hp, s.dm p hp⟩
  · cases q : F1 p with
    | none => rfl
    | some u =>
      have := s.env.sub p u q
      rw [hp] at this
      cases this
  · obtain ⟨i, xs, k, h1, h2⟩ := q
    obtain ⟨a, us, w1, w2, _⟩ := s.env.own i xs k h1
    rw [h2] at w1
    cases w1
    rw [hp] at w2
    cases w2
end
end Wk

/-! The walk layer, part 3: the operations on data are the model's. -/
namespace Wk
open PySem PySem.Spec L2
section
variable {K : PySem.W.Frag}
/-- what is wanted of a result: data (as it stands, or new at p), or a new list -/
def Res (K : PySem.W.Frag) (F H : Hp) (Q : VK) : RV → Prop
  | .val d => (∀ v, Dq K F v d → Q v H) ∧ ∀ p o v, H p = none → Dq K (upd F p o) v d → Q v (upd H p o)
  | .tmp ds => ∀ p vs, H p = none → DqAll K F vs ds → Q (.ref p) (upd H p (.lst vs))
  | .sl _ => True
theorem Res.v {F H : Hp} {Q : VK} {d : D} {v : V} (r : Res K F H Q (.val d)) (h : Dq K F v d) : Q v H := r.1 v h
theorem Res.n {F H : Hp} {Q : VK} {d : D} {v : V} {p : Addr} {o : HO} (r : Res K F H Q (.val d)) (hp : H p = none) (h : Dq K (upd F p o) v d) : Q v (upd H p o) := r.2 p o v hp h
theorem subN {F H : Hp} {p : Addr} (s : SubH F H) (hp : H p = none) : F p = none := by
  cases q : F p with
  | none => rfl
  | some u =>
    have := s p u q
    rw [hp] at this
    cases this
theorem dq_newTup {F H : Hp} {p : Addr} {vs : List V} {ds : List D} (s : SubH F H) (hp : H p = none) (h : DqAll K F vs ds) : Dq K (upd F p (.tup vs)) (.ref p) (.tuple ds) :=
  .tup (SqT.of upd_same) (dqAll_mono (subH_upd (subN s hp)) _ _ h)
def rBin (K : PySem.W.Frag) (o : BOp) : R2 := fun x y H Q => ∃ F d1 d2 r, SubH F H ∧ Pk K F H x d1 ∧ Pk K F H y d2 ∧ binD o d1 d2 = some r ∧ Res K F H Q r
def BOp.op : BOp → Operator
  | .add => .Add | .sub => .Sub | .mul => .Mult | .fdiv => .FloorDiv | .mod => .Mod | .pow => .Pow | .shl => .LShift | .shr => .RShift | .band => .BitAnd | .bor => .BitOr
theorem guardO_some {α : Type} {b : Bool} {a r : α} (h : guardO b a = some r) : b = true ∧ a = r := by
  unfold guardO at h
  split at h
  · exact ⟨by assumption, Option.some.inj h⟩
  · cases h
theorem ba2 {a b : Bool} (h : (a && b) = true) : a = true ∧ b = true := Bool.and_eq_true_iff.mp h
theorem fits_le {n : Nat} (h : fits n = true) : n ≤ sizeLine := by
  have := of_decide_eq_true h
  rw [sizeLine_eq]
  omega
variable {X : Cx}
theorem rd_isL {pins : List (Addr × Obj)} {σ : St} {H : Hp} {s : Shared} {a : Addr} {xs : List V} (I : Inv X pins σ H s) (h : Lx X.K H a xs) : xs.length ≤ sizeLine ∧ ∃ (its : List Value) (n : Nat), Vals xs its ∧ s.heap.get? a = some { cls := .type "list", data := .seq its.toArray n } := by
  rcases h with h | ⟨its, n, h1, h2, h3⟩
  · exact h.ok I.hok
  · exact ⟨by rw [h3.length]; exact h2, its, n, h3, I.kIn _ _ h1⟩
theorem add_ll {pins : List (Addr × Obj)} {s : Shared} {σ : St} {F H : Hp} {x y : Addr} {Q : VK} {xs ys : List V} {d1 d2 : List D} (I : Inv X pins σ H s) (s0 : SubH F H) (h1 : Lx X.K H x xs) (h2 : Lx X.K H y ys) (a1 : DqAll X.K F xs d1) (a2 : DqAll X.K F ys d2)
    (hz : d1.length + d2.length ≤ sizeLine) (q : Res X.K F H Q (.tmp (d1 ++ d2))) : wpAny (model X.prog X.w) X.A (binaryOp .Add (.ref x) (.ref y)) (EP X pins σ Q) X.xe s := by
  obtain ⟨z, its, n, r, e⟩ := rd_isL I h1
  obtain ⟨z2, its2, n2, r2, e2⟩ := rd_isL I h2
  have l1 := dqAll_len a1
  have l2 := dqAll_len a2
  have l3 := r.length
  have l4 := r2.length
  refine PySem.P.add_list e e2 ?_ (by rw [List.size_toArray, List.size_toArray]; omega)
  have ea : its.toArray ++ its2.toArray = (its ++ its2).toArray := by simp
  rw [ea]
  exact ⟨.ref _, _, I.lnew (t' := s.toks) (r.append r2) (by rw [List.length_append]; omega), rfl, q _ _ I.fresh (dqAll_app a1 a2)⟩
theorem op_bin_add : OpR X (binaryOp .Add) (rBin X.K .add) := by
  intro pins s σ H x y v u Q I rx ry h
  obtain ⟨F, d1, d2, r, s0, p1, p2, e, q⟩ := h
  cases p1 <;> cases p2 <;> try (simp [binD] at e; done)
  · cases e
    exact op_add pins s σ H _ _ v u Q I rx ry ⟨_, _, rfl, rfl, q.v (.int _)⟩
  · obtain ⟨g, e⟩ := guardO_some e
    subst e
    exact op_add_str pins s σ H _ _ v u Q I rx ry ⟨_, _, rfl, rfl, fits_le g, q.v (.str _)⟩
  · rename_i a xs ds h1 h2 b ys es h3 h4
    obtain ⟨g, e⟩ := guardO_some e
    subst e
    cases rx
    cases ry
    exact add_ll I s0 h1 h3 h2 h4 (fits_le g) q
  · rename_i a xs ds h1 h2 b ys es h3 h4
    obtain ⟨g, e⟩ := guardO_some e
    subst e
    have l1 := dqAll_len h2
    have l2 := dqAll_len h4
    have g := fits_le g
    refine op_catA pins s σ H _ _ v u Q I rx ry ⟨a, b, xs, ys, rfl, rfl, sqT_mono s0 h1, sqT_mono s0 h3, by omega, fun z => ?_, fun _ z => ?_, fun _ _ p hp => q.n hp (dq_newTup s0 hp (dqAll_app h2 h4))⟩
    · subst z
      have : ds = [] := List.eq_nil_of_length_eq_zero (by rw [← l1]; rfl)
      subst this
      exact q.v (.tup h3 h4)
    · subst z
      have : es = [] := List.eq_nil_of_length_eq_zero (by rw [← l2]; rfl)
      subst this
      rw [List.append_nil] at q
      exact q.v (.tup h1 h2)
theorem op_bin_sub : OpR X (binaryOp .Sub) (rBin X.K .sub) := by
  intro pins s σ H x y v u Q I rx ry h
  obtain ⟨F, d1, d2, r, s0, p1, p2, e, q⟩ := h
  cases p1 <;> cases p2 <;> try (simp [binD] at e; done)
  cases e
  exact op_sub pins s σ H _ _ v u Q I rx ry ⟨_, _, rfl, rfl, q.v (.int _)⟩
theorem mul_lk {pins : List (Addr × Obj)} {s : Shared} {σ : St} {F H : Hp} {x : Addr} {k : Int} {t : Tok} {Q : VK} {xs : List V} {d1 : List D} (I : Inv X pins σ H s) (h1 : Lx X.K H x xs) (a1 : DqAll X.K F xs d1)
    (g1 : -(2 ^ 63) ≤ k) (g2 : k < 2 ^ 63) (hz : d1.length * k.toNat ≤ sizeLine) (q : Res X.K F H Q (.tmp (List.replicate k.toNat d1).flatten)) : wpAny (model X.prog X.w) X.A (binaryOp .Mult (.ref x) (.int k t)) (EP X pins σ Q) X.xe s := by
  obtain ⟨z, js, n, r, e⟩ := rd_isL I h1
  have l1 := dqAll_len a1
  have l3 := r.length
  have sz : js.toArray.size * k.toNat ≤ sizeLine := by rw [List.size_toArray]; rw [← l3, l1]; exact hz
  have c1 : ¬ js.toArray.size * k.toNat > (2 ^ 63 - 1) / 8 := fun w => by
    have w2 : (sizeLine : Nat) ≤ (2 ^ 63 - 1) / 8 := by decide
    omega
  have c2 : ¬ (!Builtin.List.listFitsIndex k) = true := fun w => by
    rw [fitsIndex_both g1 g2] at w
    cases w
  have c3 : ¬ Builtin.List.listTooLong (js.toArray.size * k.toNat) = true := fun w => by
    rw [notLongL sz] at w
    cases w
  have fr : ∀ m : Nat, List.foldl (fun a b => a ++ b) #[] (List.replicate m js.toArray) = (List.replicate m js).flatten.toArray := fun m => by
    simpa using foldl_rep js m []
  have hn : List.foldl (fun a b => a ++ b) #[] (List.replicate (if js.toArray.isEmpty = true then 0 else k.toNat) js.toArray) = (List.replicate k.toNat js).flatten.toArray := by
    rw [fr]
    cases js with
    | nil => simp
    | cons a r' => simp
  refine PySem.wpAny_binaryOp_repeat_ref (T := "list") (U := "int") (by decide) ⟨_, e, rfl⟩ (fun s' => PySem.typeIs_int s' k t)
    PySem.noFill_list_mul PySem.F.fills_int_mul PySem.F.slot_int_rmul PySem.repeat_list PySem.F.slot_int_index.lookup ?_
  refine PySem.call_meets PySem.F.slot_int_rmul (PySem.typeIs_int s k t) PySem.F.entry_int_rmul (PySem.F.args_int_rmul_2 _ _) (PySem.int___rmul___int_list k t x js.toArray n) ⟨e, rfl, ⟨_, e, rfl⟩, ?_⟩
  refine PySem.call_meets PySem.F.slot_list_mul ⟨_, e, rfl⟩ PySem.F.entry_list_mul (PySem.F.args_list_mul_2 _ _) (AutoListH.list___mul___list_int_3 x js.toArray n k t c2 c1 c3) ⟨e, ?_⟩
  rw [hn]
  exact ⟨.ref _, _, I.lnew (t' := s.toks) (r.rep k.toNat) (by rw [PyProof.Rows.lm_len_rep_flat, Nat.mul_comm, l1]; exact hz), rfl, q _ _ I.fresh (dqAll_rep _ a1)⟩
theorem op_bin_mul : OpR X (binaryOp .Mult) (rBin X.K .mul) := by
  intro pins s σ H x y v u Q I rx ry h
  obtain ⟨F, d1, d2, r, s0, p1, p2, e, q⟩ := h
  cases p1 <;> cases p2 <;> try (simp [binD] at e; done)
  · obtain ⟨g, e⟩ := guardO_some e
    subst e
    exact op_mulX pins s σ H _ _ v u Q I rx ry ⟨_, _, rfl, rfl, (of_decide_eq_true (p := _ ≤ _) g), q.v (.int _)⟩
  · rename_i a xs ds h1 h2 k
    obtain ⟨g, e⟩ := guardO_some e
    subst e
    obtain ⟨g1, g⟩ := ba2 g
    obtain ⟨g2, g⟩ := ba2 g
    have g1 := of_decide_eq_true g1
    have g2 := of_decide_eq_true g2
    cases rx
    obtain ⟨t, rfl⟩ := ry
    exact mul_lk I h1 h2 g1 g2 (fits_le g) q
  · rename_i a xs ds h1 h2 k
    obtain ⟨g, e⟩ := guardO_some e
    subst e
    obtain ⟨g1, g⟩ := ba2 g
    obtain ⟨g2, g⟩ := ba2 g
    obtain ⟨g3, g4⟩ := ba2 g
    have g2 := of_decide_eq_true g2
    have g3 := of_decide_eq_true g3
    have g4 := of_decide_eq_true g4
    have l1 := dqAll_len h2
    have hne : xs ≠ [] := fun z => by
      subst z
      have : ds = [] := List.eq_nil_of_length_eq_zero (by rw [← l1]; rfl)
      subst this
      simp at g1
    exact op_repT pins s σ H _ _ v u Q I rx ry ⟨a, k, xs, rfl, rfl, sqT_mono s0 h1, hne, g2, g3, by omega, fun p hp => q.n hp (dq_newTup s0 hp (dqAll_rep _ h2))⟩
theorem op_bin_fdiv : OpR X (binaryOp .FloorDiv) (rBin X.K .fdiv) := by
  intro pins s σ H x y v u Q I rx ry h
  obtain ⟨F, d1, d2, r, s0, p1, p2, e, q⟩ := h
  cases p1 <;> cases p2 <;> try (simp [binD] at e; done)
  rename_i i j
  obtain ⟨g, e⟩ := guardO_some e
  subst e
  obtain ⟨g1, g2⟩ := ba2 g
  have : OpR X (binaryOp .FloorDiv) (rI (fun _ j => j ≠ 0 ∧ j.natAbs.log2 < 9000) fun i j => .int (i.fdiv j)) := opI fun _ _ _ _ _ _ _ hc q => PyProof.Rows.floordiv_int hc.1 q (.inl (PyProof.noPylong_of_log2 hc.2))
  exact this pins s σ H _ _ v u Q I rx ry ⟨_, _, rfl, rfl, ⟨of_decide_eq_true g1, of_decide_eq_true g2⟩, q.v (.int _)⟩
theorem op_bin_mod : OpR X (binaryOp .Mod) (rBin X.K .mod) := by
  intro pins s σ H x y v u Q I rx ry h
  obtain ⟨F, d1, d2, r, s0, p1, p2, e, q⟩ := h
  cases p1 <;> cases p2 <;> try (simp [binD] at e; done)
  obtain ⟨g, e⟩ := guardO_some e
  subst e
  exact op_modN pins s σ H _ _ v u Q I rx ry ⟨_, _, rfl, rfl, of_decide_eq_true g, q.v (.int _)⟩
theorem pow_ok {i j : Int} (g : powOk i j = true) : CPow i j := by
  obtain ⟨g1, g⟩ := ba2 g
  obtain ⟨g2, g3⟩ := ba2 g
  exact ⟨of_decide_eq_true g1, of_decide_eq_true g2, of_decide_eq_true g3⟩
theorem op_bin_pow : OpR X (binaryOp .Pow) (rBin X.K .pow) := by
  intro pins s σ H x y v u Q I rx ry h
  obtain ⟨F, d1, d2, r, s0, p1, p2, e, q⟩ := h
  cases p1 <;> cases p2 <;> try (simp [binD] at e; done)
  obtain ⟨g, e⟩ := guardO_some e
  subst e
  exact op_pow pins s σ H _ _ v u Q I rx ry ⟨_, _, rfl, rfl, pow_ok g, q.v (.int _)⟩
theorem op_bin_shl : OpR X (binaryOp .LShift) (rBin X.K .shl) := by
  intro pins s σ H x y v u Q I rx ry h
  obtain ⟨F, d1, d2, r, s0, p1, p2, e, q⟩ := h
  cases p1 <;> cases p2 <;> try (simp [binD] at e; done)
  obtain ⟨g, e⟩ := guardO_some e
  subst e
  exact op_shl pins s σ H _ _ v u Q I rx ry ⟨_, _, rfl, rfl, pow_ok g, q.v (.int _)⟩
theorem op_bin_shr : OpR X (binaryOp .RShift) (rBin X.K .shr) := by
  intro pins s σ H x y v u Q I rx ry h
  obtain ⟨F, d1, d2, r, s0, p1, p2, e, q⟩ := h
  cases p1 <;> cases p2 <;> try (simp [binD] at e; done)
  obtain ⟨g, e⟩ := guardO_some e
  subst e
  exact op_shr pins s σ H _ _ v u Q I rx ry ⟨_, _, rfl, rfl, of_decide_eq_true g, q.v (.int _)⟩
theorem op_bin_band : OpR X (binaryOp .BitAnd) (rBin X.K .band) := by
  intro pins s σ H x y v u Q I rx ry h
  obtain ⟨F, d1, d2, r, s0, p1, p2, e, q⟩ := h
  cases p1 <;> cases p2 <;> try (simp [binD] at e; done)
  cases e
  exact op_and pins s σ H _ _ v u Q I rx ry ⟨_, _, rfl, rfl, q.v (.int _)⟩
theorem op_bin_bor : OpR X (binaryOp .BitOr) (rBin X.K .bor) := by
  intro pins s σ H x y v u Q I rx ry h
  obtain ⟨F, d1, d2, r, s0, p1, p2, e, q⟩ := h
  cases p1 <;> cases p2 <;> try (simp [binD] at e; done)
  cases e
  exact op_or pins s σ H _ _ v u Q I rx ry ⟨_, _, rfl, rfl, q.v (.int _)⟩
theorem op_bin (o : BOp) : OpR X (binaryOp o.op) (rBin X.K o) := by
  cases o
  · exact op_bin_add
  · exact op_bin_sub
  · exact op_bin_mul
  · exact op_bin_fdiv
  · exact op_bin_mod
  · exact op_bin_pow
  · exact op_bin_shl
  · exact op_bin_shr
  · exact op_bin_band
  · exact op_bin_bor
end
end Wk

/-! The walk layer, part 4: comparisons, items, slices, truth, built-in functions. -/
namespace Wk
open PySem PySem.Spec L2
section
variable {X : Cx}
def COp.op : COp → CmpOp
  | .eq => .Eq | .ne => .NotEq | .lt => .Lt | .le => .LtE | .gt => .Gt | .ge => .GtE | .isN => .Is | .isnN => .IsNot | .in_ => .In | .notin => .NotIn
def rCmp (K : PySem.W.Frag) (o : COp) : R2 := fun x y H Q => ∃ F d1 d2 b, SubH F H ∧ Pk K F H x d1 ∧ Pk K F H y d2 ∧ cmpD o d1 d2 = some b ∧ Q (.bl b) H
theorem pk_dp {K : PySem.W.Frag} {F H : Hp} {x : V} {d : D} (s : SubH F H) (p : Pk K F H x d) : Dp K H x d := dq_dp _ _ (p.dq s)
theorem op_cmp_eq (hu : X.A.units + 64 < cLine) : OpR X (compareOp .Eq) (rCmp X.K .eq) := by
  intro pins s σ H x y v u Q I rx ry h
  obtain ⟨F, d1, d2, b, s0, p1, p2, e, q⟩ := h
  obtain ⟨g, e⟩ := guardO_some e
  subst e
  obtain ⟨g1, g2⟩ := ba2 g
  exact op_eqD hu pins s σ H x y v u Q I rx ry ⟨d1, d2, pk_dp s0 p1, pk_dp s0 p2, g1, g2, q⟩
theorem op_cmp_ne (hu : X.A.units + 64 < cLine) : OpR X (compareOp .NotEq) (rCmp X.K .ne) := by
  intro pins s σ H x y v u Q I rx ry h
  obtain ⟨F, d1, d2, b, s0, p1, p2, e, q⟩ := h
  obtain ⟨g, e⟩ := guardO_some e
  subst e
  obtain ⟨g1, g2⟩ := ba2 g
  exact op_neD hu pins s σ H x y v u Q I rx ry ⟨d1, d2, pk_dp s0 p1, pk_dp s0 p2, g1, g2, q⟩
theorem op_cmp_lt : OpR X (compareOp .Lt) (rCmp X.K .lt) := by
  intro pins s σ H x y v u Q I rx ry h
  obtain ⟨F, d1, d2, b, s0, p1, p2, e, q⟩ := h
  cases p1 <;> cases p2 <;> try (simp [cmpD] at e; done)
  cases e
  exact op_lt pins s σ H _ _ v u Q I rx ry ⟨_, _, rfl, rfl, q⟩
theorem op_cmp_le : OpR X (compareOp .LtE) (rCmp X.K .le) := by
  intro pins s σ H x y v u Q I rx ry h
  obtain ⟨F, d1, d2, b, s0, p1, p2, e, q⟩ := h
  cases p1 <;> cases p2 <;> try (simp [cmpD] at e; done)
  cases e
  exact op_le pins s σ H _ _ v u Q I rx ry ⟨_, _, rfl, rfl, q⟩
theorem op_cmp_gt : OpR X (compareOp .Gt) (rCmp X.K .gt) := by
  intro pins s σ H x y v u Q I rx ry h
  obtain ⟨F, d1, d2, b, s0, p1, p2, e, q⟩ := h
  cases p1 <;> cases p2 <;> try (simp [cmpD] at e; done)
  cases e
  exact op_gt pins s σ H _ _ v u Q I rx ry ⟨_, _, rfl, rfl, q⟩
theorem op_cmp_ge : OpR X (compareOp .GtE) (rCmp X.K .ge) := by
  intro pins s σ H x y v u Q I rx ry h
  obtain ⟨F, d1, d2, b, s0, p1, p2, e, q⟩ := h
  cases p1 <;> cases p2 <;> try (simp [cmpD] at e; done)
  cases e
  exact op_ge pins s σ H _ _ v u Q I rx ry ⟨_, _, rfl, rfl, q⟩
theorem op_cmp_isN : OpR X (compareOp .Is) (rCmp X.K .isN) := by
  intro pins s σ H x y v u Q I rx ry h
  obtain ⟨F, d1, d2, b, s0, p1, p2, e, q⟩ := h
  cases p2 <;> cases p1 <;> try (simp [cmpD] at e; done)
  all_goals
    simp only [cmpD, Option.some.injEq] at e
    subst e
    first
      | exact op_isN pins s σ H _ _ v u Q I rx ry ⟨rfl, by simpa using q⟩
      | exact op_isBl pins s σ H _ _ v u Q I rx ry ⟨_, _, rfl, rfl, q⟩
theorem op_cmp_isnN : OpR X (compareOp .IsNot) (rCmp X.K .isnN) := by
  intro pins s σ H x y v u Q I rx ry h
  obtain ⟨F, d1, d2, b, s0, p1, p2, e, q⟩ := h
  cases p2 <;> cases p1 <;> try (simp [cmpD] at e; done)
  all_goals
    simp only [cmpD, Option.some.injEq] at e
    subst e
    first
      | exact op_notN pins s σ H _ _ v u Q I rx ry ⟨rfl, by simpa using q⟩
      | exact op_notBl pins s σ H _ _ v u Q I rx ry ⟨_, _, rfl, rfl, q⟩
theorem eqV_eqv {K : PySem.W.Frag} {F F' : Hp} {x y : V} {d e : D} (h1 : Dq K F x d) (h2 : Dq K F' y e) (f1 : flatD d = true) (f2 : flatD e = true) : eqV x y = PyData.eqv d e := by
  cases h1 <;> cases h2 <;> first | rfl | (simp [flatD] at f1; done) | (simp [flatD] at f2; done) | simp [eqV, PyData.eqv]
theorem inV_in {K : PySem.W.Frag} {F F' : Hp} {x : V} {d : D} (h : Dq K F x d) (f : flatD d = true) : ∀ {vs : List V} {ds : List D}, DqAll K F' vs ds → ds.all flatD = true → inV x vs = inAny d ds ∧ vs.all flatV = true
  | _, _, .nil, _ => ⟨rfl, rfl⟩
  | _, _, .cons (v := v) (d := e) (vs := vs) (ds := ds) h1 t, g => by
    rw [List.all_cons] at g
    obtain ⟨g1, g2⟩ := ba2 g
    obtain ⟨i1, i2⟩ := inV_in h f t g2
    have e1 : eqV v x = PyData.eqv e d := eqV_eqv h1 h g1 f
    have i1' : vs.any (fun y => eqV y x) = ds.any (fun z => PyData.eqv z d) := i1
    refine ⟨?_, ?_⟩
    · show ((v :: vs).any fun y => eqV y x) = ((e :: ds).any fun z => PyData.eqv z d)
      rw [List.any_cons, List.any_cons, e1, i1']
    · rw [List.all_cons, i2, Bool.and_true]
      cases h1 <;> first | rfl | (simp [flatD] at g1; done)
theorem flatV_of {K : PySem.W.Frag} {F H : Hp} {x : V} {d : D} (h : Pk K F H x d) (f : flatD d = true) : flatV x = true := by
  cases h <;> first | rfl | (simp [flatD] at f; done)
theorem in_flat {F H : Hp} {x y : V} {d : D} {ds : List D} {Q : VK} {neg : Bool} (s0 : SubH F H) (p1 : Pk X.K F H x d) (p2 : Pk X.K F H y (.list ds) ∨ Pk X.K F H y (.tuple ds)) (g1 : flatD d = true) (g2 : ds.all flatD = true)
    (q : Q (.bl (if neg then !inAny d ds else inAny d ds)) H) : rIn X.K neg x y H Q := by
  rcases p2 with p2 | p2
  · cases p2 with
    | lst h1 h2 =>
      obtain ⟨i1, i2⟩ := inV_in (p1.dq s0) g1 h2 g2
      exact ⟨_, _, rfl, .inl (lx_sq h1), flatV_of p1 g1, i2, by rw [i1]; exact q⟩
  · cases p2 with
    | tup h1 h2 =>
      obtain ⟨i1, i2⟩ := inV_in (p1.dq s0) g1 h2 g2
      exact ⟨_, _, rfl, .inr (sqT_mono s0 h1), flatV_of p1 g1, i2, by rw [i1]; exact q⟩
theorem op_cmp_in (hu : X.A.units + 65 < cLine) : OpR X (compareOp .In) (rCmp X.K .in_) := by
  intro pins s σ H x y v u Q I rx ry h
  obtain ⟨F, d1, d2, b, s0, p1, p2, e, q⟩ := h
  cases d2 <;> try (simp [cmpD] at e; done)
  · rename_i ds
    obtain ⟨g, e⟩ := guardO_some e
    subst e
    cases gf : (flatD d1 && ds.all flatD) with
    | true =>
      obtain ⟨g1, g2⟩ := ba2 gf
      exact op_in_seq pins s σ H _ _ v u Q I rx ry (in_flat (neg := false) s0 p1 (.inl p2) g1 g2 q)
    | false =>
      rw [gf, Bool.false_or] at g
      obtain ⟨g1, g2⟩ := ba2 g
      exact op_inD hu pins s σ H _ _ v u Q I rx ry ⟨d1, ds, pk_dp s0 p1, pk_dp s0 p2, g1, g2, q⟩
  · rename_i ds
    obtain ⟨g, e⟩ := guardO_some e
    subst e
    obtain ⟨g1, g2⟩ := ba2 g
    exact op_in_seq pins s σ H _ _ v u Q I rx ry (in_flat (neg := false) s0 p1 (.inr p2) g1 g2 q)
theorem op_cmp_notin (hu : X.A.units + 65 < cLine) : OpR X (compareOp .NotIn) (rCmp X.K .notin) := by
  intro pins s σ H x y v u Q I rx ry h
  obtain ⟨F, d1, d2, b, s0, p1, p2, e, q⟩ := h
  cases d2 <;> try (simp [cmpD] at e; done)
  · rename_i ds
    obtain ⟨g, e⟩ := guardO_some e
    subst e
    cases gf : (flatD d1 && ds.all flatD) with
    | true =>
      obtain ⟨g1, g2⟩ := ba2 gf
      exact op_notIn_seq pins s σ H _ _ v u Q I rx ry (in_flat (neg := true) s0 p1 (.inl p2) g1 g2 q)
    | false =>
      rw [gf, Bool.false_or] at g
      obtain ⟨g1, g2⟩ := ba2 g
      exact op_notInD hu pins s σ H _ _ v u Q I rx ry ⟨d1, ds, pk_dp s0 p1, pk_dp s0 p2, g1, g2, q⟩
  · rename_i ds
    obtain ⟨g, e⟩ := guardO_some e
    subst e
    obtain ⟨g1, g2⟩ := ba2 g
    exact op_notIn_seq pins s σ H _ _ v u Q I rx ry (in_flat (neg := true) s0 p1 (.inr p2) g1 g2 q)
theorem op_cmp (hu : X.A.units + 65 < cLine) (o : COp) : OpR X (compareOp o.op) (rCmp X.K o) := by
  cases o
  · exact op_cmp_eq (by omega)
  · exact op_cmp_ne (by omega)
  · exact op_cmp_lt
  · exact op_cmp_le
  · exact op_cmp_gt
  · exact op_cmp_ge
  · exact op_cmp_isN
  · exact op_cmp_isnN
  · exact op_cmp_in hu
  · exact op_cmp_notin hu

/-! ### items and slices -/
theorem atI_dq {K : PySem.W.Frag} {F : Hp} {vs : List V} {ds : List D} {i : Int} {d : D} (h : DqAll K F vs ds) (e : atI ds i = some d) : ∃ v, atI vs i = some v ∧ Dq K F v d := by
  unfold atI at e ⊢
  rw [dqAll_len h]
  obtain ⟨j, e1, e2⟩ := Option.bind_eq_some_iff.mp e
  obtain ⟨v, v1, v2⟩ := dqAll_get h e2
  exact ⟨v, by rw [e1]; exact v1, v2⟩
def rIdx (K : PySem.W.Frag) : R2 := fun x y H Q => ∃ F d1 d2 d, SubH F H ∧ Pk K F H x d1 ∧ Pk K F H y d2 ∧ idxD d1 d2 = some d ∧ ∀ v, Dq K F v d → Q v H
theorem ix_idx : IxR X (rIdx X.K) := by
  intro value slice pins s σ H x y v u Q I rx ry h hs
  obtain ⟨F, d1, d2, d, s0, p1, p2, e, q⟩ := h
  cases p1 <;> cases p2 <;> try (simp [idxD] at e; done)
  · rename_i a xs ds h1 h2 i
    obtain ⟨w, w1, w2⟩ := atI_dq h2 e
    exact ix_list value slice pins s σ H _ _ v u Q I rx ry ⟨a, xs, i, w, rfl, rfl, lx_sq h1, w1, q w w2⟩ hs
  · rename_i a xs ds h1 h2 i
    obtain ⟨w, w1, w2⟩ := atI_dq h2 e
    exact ix_tup value slice pins s σ H _ _ v u Q I rx ry ⟨a, xs, i, w, rfl, rfl, sqT_mono s0 h1, w1, q w w2⟩ hs
def rSlc (K : PySem.W.Frag) : V → Option Int → Option Int → Hp → VK → Prop := fun x lo hi H Q => ∃ F d r, SubH F H ∧ Pk K F H x d ∧ slcD lo hi d = some r ∧ Res K F H Q r
theorem dqAll_cut {K : PySem.W.Frag} {F : Hp} {vs : List V} {ds : List D} {lo hi : Option Int} (h : DqAll K F vs ds) : DqAll K F (cutV vs lo hi) (cutL ds lo hi) := by
  unfold cutV cutL
  rw [dqAll_len h]
  exact dqAll_take _ (dqAll_drop _ h)
theorem sl_slc : SlR X (rSlc X.K) := by
  intro pins s σ H x v vl vu lo hi sl Q I rx hs pl pu h
  obtain ⟨F, d, r, s0, p1, e, q⟩ := h
  cases p1 <;> try (simp [slcD] at e; done)
  · rename_i a xs ds h1 h2
    cases e
    exact sl_list pins s σ H _ v vl vu lo hi sl Q I rx hs pl pu ⟨a, xs, rfl, lx_sq h1, fun p hp => q _ _ hp (dqAll_cut h2)⟩
  · rename_i a xs ds h1 h2
    cases e
    refine sl_tupA pins s σ H _ v vl vu lo hi sl Q I rx hs pl pu ⟨a, xs, rfl, sqT_mono s0 h1, fun w => ?_, fun _ p hp => q.n hp (dq_newTup s0 hp (dqAll_cut h2))⟩
    refine q.v ?_
    have l := dqAll_len h2
    have c : cutL ds lo hi = ds := by
      unfold cutL
      rw [← l, w.1, w.2, List.drop_zero, Nat.sub_zero, l, List.take_length]
    rw [c]
    exact .tup h1 h2

/-! ### truth -/
theorem truth_ok {F H : Hp} {x : V} {d : D} {b : Bool} (s0 : SubH F H) (p : Pk X.K F H x d) (e : truthD d = some b) : TruV X.K x H b := by
  cases p <;> try (simp [truthD] at e; done)
  · cases e; rfl
  · cases e; rfl
  · cases e; rfl
  · rename_i a xs ds h1 h2
    cases e
    refine .inl ⟨xs, lx_sq h1, ?_⟩
    cases h2 <;> rfl
  · rename_i a xs ds h1 h2
    cases e
    refine .inr (.inl ⟨xs, sqT_mono s0 h1, ?_⟩)
    cases h2 <;> rfl
end
end Wk

/-! The walk layer: x[::-1] of a list or a tuple. -/
namespace Wk
open PySem PySem.Spec L2
section
open PyProof.Rows HT
variable {prog : Program} {w : World} {A : Around} {E : Value → Shared → Prop} {s : Shared}
theorem applied_m1 {sl : Addr} {vl vu vs : Value} {n : Nat} {Q : Int × Int × Nat → Shared → Prop} (hs : s.heap.IsSliceOf sl vl vu vs) (pl : IsPart vl none) (pu : IsPart vu none) (ps : IsPart vs (some (-1)))
    (h : Q ((n : Int) - 1, -1, n) s) : wpAny (model prog w) A (Builtin.Slice.sliceApplied (.ref sl) (pure (n : Int))) Q E s := by
  obtain ⟨os, hos, hcs, hds⟩ := id hs
  unfold Builtin.Slice.sliceApplied Builtin.Slice.sliceFields
  refine wpAny_bind (wpAny_bind (wpAny_field hos hds (x := vl) rfl (wpAny_bind (wpAny_field hos hds (x := vu) rfl (wpAny_bind (wpAny_field hos hds (x := vs) rfl (wpAny_pure ?_)))))))
  refine wpAny_bind (slicePart_ ps ?_)
  show wpAny _ _ (if ((-1 : Int) == 0) = true then _ else _) _ _ s
  rw [if_neg (by decide)]
  refine wpAny_bind (slicePart_ pl (wpAny_bind (slicePart_ pu (wpAny_bind (wpAny_pure ?_)))))
  show wpAny _ _ (match Builtin.Slice.sliceAdjust none none (-1) (n : Int) with | (lo, hi) => pure (lo, (-1 : Int), Builtin.Slice.slicePlaces lo hi (-1))) _ _ s
  have e : Builtin.Slice.sliceAdjust none none (-1) (n : Int) = ((n : Int) - 1, -1) := rfl
  rw [e]
  have e2 : Builtin.Slice.slicePlaces ((n : Int) - 1) (-1) (-1) = n := by
    unfold Builtin.Slice.slicePlaces
    rw [if_neg (by decide)]
    split
    · have : ((n : Int) - 1 - -1 - 1) / (- -1) = (n : Int) - 1 := by
        rw [Int.neg_neg, Int.ediv_one]
        omega
      rw [this]
      omega
    · omega
  show wpAny _ _ (pure ((n : Int) - 1, (-1 : Int), Builtin.Slice.slicePlaces ((n : Int) - 1) (-1) (-1))) _ _ s
  rw [e2]
  exact wpAny_pure h
theorem fmap_congr {α β : Type} {f g : α → Option β} : ∀ l : List α, (∀ a ∈ l, f a = g a) → l.filterMap f = l.filterMap g
  | [], _ => rfl
  | a :: l, h => by
    rw [List.filterMap_cons, List.filterMap_cons, h a (List.mem_cons_self ..), fmap_congr l fun b hb => h b (List.mem_cons_of_mem _ hb)]
theorem pick_m1 (xs : Array Value) : ((List.range xs.size).filterMap fun (m : Nat) => xs[((xs.size : Int) - 1 + (m : Int) * (-1)).toNat]?).toArray = xs.toList.reverse.toArray := by
  congr 1
  refine List.ext_getElem? fun i => ?_
  have e : (List.range xs.size).filterMap (fun (m : Nat) => xs[((xs.size : Int) - 1 + (m : Int) * (-1)).toNat]?) = (List.range xs.size).filterMap (fun m => xs.toList.reverse[m]?) := by
    refine fmap_congr _ fun m hm => ?_
    have hm := List.mem_range.mp hm
    have e1 : ((xs.size : Int) - 1 + (m : Int) * (-1)).toNat = xs.size - 1 - m := by omega
    rw [e1, List.getElem?_reverse (by rw [Array.length_toList]; exact hm), Array.length_toList, Array.getElem?_toList]
  rw [e]
  have e2 : (List.range xs.size).filterMap (fun m => xs.toList.reverse[m]?) = xs.toList.reverse := by
    have l : xs.size = xs.toList.reverse.length := by rw [List.length_reverse, Array.length_toList]
    rw [l]
    generalize xs.toList.reverse = l
    induction l with
    | nil => rfl
    | cons a r ih =>
      rw [List.length_cons, List.range_succ_eq_map, List.filterMap_cons]
      simp only [List.getElem?_cons_zero, List.filterMap_map]
      congr 1
  rw [e2]
theorem getItem_tuple_m1 {t sl : Addr} {items : Array Value} {vl vu vs : Value} {Q : Value → Shared → Prop} (ht : IsTup s.heap t items) (hs : s.heap.IsSliceOf sl vl vu vs) (pl : IsPart vl none) (pu : IsPart vu none) (ps : IsPart vs (some (-1)))
    (h : Q (.ref s.heap.objs.size) { s with heap := s.heap.push { cls := .type "tuple", data := .seq items.toList.reverse.toArray } })
    (hsz : items.size ≤ sizeLine) : wpAny (model prog w) A (getItem (.ref t) (.ref sl)) Q E s := by
  have htake : sizeOk (.seq items.toList.reverse.toArray) := by
    show items.toList.reverse.toArray.size ≤ sizeLine
    rw [List.size_toArray, List.length_reverse, Array.length_toList]
    exact hsz
  obtain ⟨os, hos, hcs, hds⟩ := id hs
  have hTs : s.TypeIs (.ref sl) "slice" := ⟨os, hos, hcs⟩
  unfold getItem
  try with_reducible refine wpAny_holding ?_
  first | refine wpAny_bind (wpAny_pure ?_) | skip
  refine wpAny_bind (wpAny_sequenceKey ht.typeIs (by decide) ?_)
  refine wpAny_bind (wpAny_callSpecial?_slot (name := Str.ofString "__getitem__") ht.typeIs PyProof.Rows.slot_tuple_getitem
    (wpAny_call_entry PyProof.Rows.slot_tuple_getitem ht.typeIs entry_tuple_getitem ?_ (args_tuple_getitem _ _)))
  show wpAny _ _ (Builtin.Tuple.tupleItemsOf (.ref t) >>= _) _ _ s
  refine wpAny_bind (tupleItemsOf_ ht ?_)
  refine wpAny_bind (wpAny_typeOf hTs ?_)
  rw [if_pos (by decide)]
  refine wpAny_bind (applied_m1 hs pl pu ps ?_)
  have hno : ¬ ((((items.size : Int) - 1) == 0 && (-1 : Int) == 1 && items.size == items.size) = true) := by
    intro q
    rw [Bool.and_eq_true, Bool.and_eq_true] at q
    exact absurd q.1.2 (by decide)
  show wpAny _ _ (if (((items.size : Int) - 1) == 0 && (-1 : Int) == 1 && items.size == items.size) = true then _ else _) _ _ s
  rw [if_neg hno, pick_m1]
  first
    | exact wpAny_bind (m := Builtin.Tuple.tupleExact _) (wpAny_newObj_type (wpAny_pure ⟨_, rfl, wpAny_pure h⟩) htake)
    | exact wpAny_bind (m := Builtin.Tuple.tupleExact _) (wpAny_newObj_type (wpAny_bind (wpAny_pure (wpAny_pure ⟨_, rfl, wpAny_pure h⟩))) htake)
    | exact wpAny_bind (wpAny_bind (m := Builtin.Tuple.tupleExact _) (wpAny_newObj_type (wpAny_pure (wpAny_pure ⟨_, rfl, wpAny_pure h⟩)) htake))
    | exact wpAny_bind (wpAny_bind (m := Builtin.Tuple.tupleExact _) (wpAny_newObj_type (wpAny_pure ⟨_, rfl, wpAny_pure h⟩) htake))
end
section
open PyProof.Rows
variable {X : Cx}
def tRevA (K : PySem.W.Frag) (te : TE) : TE := fun σ H Q => te σ H fun x H1 => ∃ a xs, x = .ref a ∧ ((SqL K H1 a xs ∧ ∀ p, H1 p = none → Q (.ref p) (upd H1 p (.lst xs.reverse))) ∨ (SqT K H1 a xs ∧ ∀ p, H1 p = none → Q (.ref p) (upd H1 p (.tup xs.reverse))))
theorem pe_revA {e : Expr} {te : TE} {k : Nat} {p1 p2 p3 pos : Pos} (he : PE X e te) : PE X (.Subscript e (.Slice none none (some (.UnaryOp .USub (.Constant (.int 1) k p1) p2)) p3) pos) (tRevA X.K te) := by
  refine ⟨fun pins s σ H Q I h => ?_⟩
  refine Subscript_ (thn (he.run pins s σ H _ I h) fun v s1 ⟨x, H1, I1, r1, q1⟩ => ?_)
  obtain ⟨a, xs, ex, hx⟩ := q1
  subst ex
  cases r1
  have hst : PO X (some (.UnaryOp .USub (.Constant (.int 1) k p1) p2)) (tPart (tUn (rU fun i => .int (-i)) (tC (.int 1)))) := po_some (pe_un un_neg pe_int)
  refine wpAny_Slice (thn (po_none.run pins s1 σ H1 (fun o H2 => o = none ∧ H2 = H1) I1 ⟨rfl, rfl⟩) fun vl s2 ⟨l, H2, I2, pl, el, e2⟩ => ?_)
  subst el e2
  refine thn (po_none.run pins s2 σ H2 (fun o H3 => o = none ∧ H3 = H2) I2 ⟨rfl, rfl⟩) fun vu s3 ⟨u, H3, I3, pu, eu, e3⟩ => ?_
  subst eu e3
  refine thn (hst.run pins s3 σ H3 (fun o H4 => o = some (-1) ∧ H4 = H3) I3 ⟨1, rfl, -1, rfl, rfl, rfl⟩) fun vs s4 ⟨o, H4, I4, ps, eo, e4⟩ => ?_
  subst eo e4
  have I5 : Inv X pins σ H4 { s4 with heap := s4.heap.push { cls := .type "slice", data := .fields #[vl, vu, vs] } } := I4.kept (t' := s4.toks) fun b ob q => Heap.get?_push_of_some _ q
  rcases hx with ⟨hx, q⟩ | ⟨hx, q⟩
  · obtain ⟨its, r, ht, hz⟩ := I5.list hx
    have hlen := r.length
    show wpAny (model X.prog X.w) X.A (subscriptTail e (.Slice none none (some (.UnaryOp .USub (.Constant (.int 1) k p1) p2)) p3) (.ref a) (.ref s4.heap.objs.size)) (EP X pins σ Q) X.xe { s4 with heap := s4.heap.push { cls := .type "slice", data := .fields #[vl, vu, vs] } }
    refine tail_any (ops := [.ref a, .ref s4.heap.objs.size]) ht.isList.typeIs (PySem.slot_list_getitem.lookup) ?_ (by with_unfolding_all rfl)
    refine wpAny_getItem_list_slice ht.isList (Heap.IsSliceOf.new _ vl vu vs) pl pu ps (by decide) ?_ (by rw [List.size_toArray]; omega)
    rw [PySem.W.krv_pick]
    refine ⟨.ref _, _, I5.laid (t' := s4.toks) (o := .lst xs.reverse) (fun b ob q => Heap.get?_push_of_some _ q) (Nat.le_refl _) ?_, rfl, q _ (I5.hok.fresh (Nat.le_refl _))⟩
    exact ⟨by rw [List.length_reverse]; exact hz, _, 0, r.reverse, Heap.get?_push_size _ rfl⟩
  · obtain ⟨its, r, ht, hz⟩ := I5.tuple hx
    have hlen : its.toArray.size = xs.length := by rw [List.size_toArray]; exact r.length.symm
    show wpAny (model X.prog X.w) X.A (subscriptTail e (.Slice none none (some (.UnaryOp .USub (.Constant (.int 1) k p1) p2)) p3) (.ref a) (.ref s4.heap.objs.size)) (EP X pins σ Q) X.xe { s4 with heap := s4.heap.push { cls := .type "slice", data := .fields #[vl, vu, vs] } }
    refine tail_any (ops := [.ref a, .ref s4.heap.objs.size]) ht.typeIs (PyProof.Rows.slot_tuple_getitem.lookup) ?_ (by with_unfolding_all rfl)
    refine getItem_tuple_m1 ht (Heap.IsSliceOf.new _ vl vu vs) pl pu ps ?_ (by rw [hlen]; exact hz)
    refine ⟨.ref _, _, I5.laid (t' := s4.toks) (o := .tup xs.reverse) (fun b ob q => Heap.get?_push_of_some _ q) (Nat.le_refl _) ?_, rfl, q _ (I5.hok.fresh (Nat.le_refl _))⟩
    exact ⟨by rw [List.length_reverse]; exact hz, _, r.reverse, IsTup.new _ _⟩
end
end Wk

/-! The walk layer, part 6b: sorted(set(list of ints)). -/
namespace Wk
open PySem PySem.Spec L2 PyProof.Rows
/-- a set just made -/
abbrev oSet (w : World) : Obj := ⟨.type "set", none, .set #[] 0 (.fresh 0 0 (!w.params.followText "set-order")), #[]⟩
section
variable {P : Program} {w : World} {A : Around} {E : Value → Shared → Prop} {s : Shared}
theorem call_setL {l : Addr} {items : Array Value} (ns : List Int) {Q : Value → Shared → Prop} (hh : A.handled = none) (hl : s.heap.IsList l items) (hit : IntsAre items.toList ns) (hb : ns.length + 1 < scanBound)
    (h : ∀ (h' : Heap) (tk c : Nat), SetR w h' s.heap.objs.size (fun j => decide (j ∈ ns)) c → c ≤ ns.length → (∀ b u, s.heap.get? b = some u → h'.get? b = some u) → Q (.ref s.heap.objs.size) ⟨h', s.gens, s.drawn, tk, s.os⟩) :
    wpAny (model P w) A (call (.type "set") [.ref l]) Q E s := by
  have hsz : items.size = ns.length := by
    have := IntsAre.length hit
    rwa [Array.length_toList] at this
  have cs := F.called_set
  obtain ⟨c, tl, hmro⟩ := cs.mro
  have hmade := cs.made
  have hsub := cs.sub
  have hnt := cs.notType
  have hcc := cs.canCreate
  have hct := F.typeCall_set_1 (.ref l)
  have hli := cs.init.lookup
  have hbi := cs.init.bind (.ref s.heap.objs.size)
  refine wpAny_call (codeAny_of_tree (show wpAny _ _ (callAny (.type "set") _) _ _ _ from ?_))
  refine wpAny_pure ⟨Code.quiet_builtin _ (by decide +kernel), codeAny_builtin F.entry_type_call ?_⟩
  rw [Around.under_plain (weight_type_call_type "set" [.ref l] []) rfl]
  repeat (any_goals (first | assumption | wp_step))
  refine codeAny_mono (code_set_led1 (.ref l) (E := E) (Q₁ := fun ob s₁ => ob = .ref s.heap.objs.size ∧ s₁ = ⟨s.heap.push (oSet w), s.gens, s.drawn, s.toks, s.os⟩) ⟨rfl, rfl⟩) fun r s₁ hr => ?_
  cases r with
  | error e => exact hr
  | ok fl =>
    cases fl with
    | ret ob =>
      obtain ⟨rfl, rfl⟩ := hr
      have hS : (s.heap.push (oSet w)).get? s.heap.objs.size = some (oSet w) := Heap.get?_push_size _ rfl
      have hT : Shared.TypeIs ⟨s.heap.push (oSet w), s.gens, s.drawn, s.toks, s.os⟩ (.ref s.heap.objs.size) "set" := ⟨_, hS, rfl⟩
      repeat (any_goals (first | assumption | wp_step))
      refine codeAny_mono (codeAny_call_builtin (R := wants (fun r s₂ => r = .none ∧ ∃ h' tk c, s₂ = ⟨h', s.gens, s.drawn, tk, s.os⟩ ∧ SetR w h' s.heap.objs.size (fun j => decide (j ∈ ns)) c ∧ c ≤ ns.length ∧
          (∀ b u, s.heap.get? b = some u → h'.get? b = some u)) E) cs.init.plain F.entry_set_init (check_set_init_1 hT ?_)) fun r₂ s₂ hr₂ => ?_
      · have hlS : l < s.heap.objs.size := by
          obtain ⟨_, q, _⟩ := hl
          exact Heap.lt_size q
        have hl1 : (s.heap.push (oSet w)).IsList l items := hl.push _
        obtain ⟨⟨kc, kd, kk, ks⟩, kl, hcl, nl, hdl⟩ := hl
        have hcl : kc = .type "list" := hcl
        have hdl : kk = .seq items nl := hdl
        subst hcl hdl
        have kl' : (s.heap.push (oSet w)).get? l = some ⟨.type "list", kd, .seq items nl, ks⟩ := Heap.get?_push_of_some _ kl
        have q1 := F.sub_list_set
        have q2 := F.sub_list_frozenset
        have q3 : (Value.type "list" == Value.type "dict") = false := by decide
        unfold Builtin.«set.__init__» noKeywords Builtin.Frozenset.updateFrom
        generalize hPI : pyIter = PI
        wp_walk
        subst hPI
        refine wpAny_pyIter_list hl1 (wpAny_bind (wpAny_runValue ?_))
        have h3 : A.in1.in1.in1.handled = none := by simp [hh]
        have z1 : (s.heap.push (oSet w)).objs.size = s.heap.objs.size + 1 := Heap.size_push ..
        have n1 : l ≠ (s.heap.push (oSet w)).objs.size := by
          rw [z1]
          exact Nat.ne_of_lt (Nat.lt_succ_of_lt hlS)
        have n2 : s.heap.objs.size ∉ [(s.heap.push (oSet w)).objs.size, l] := by
          rw [z1]
          simp only [List.mem_cons, List.not_mem_nil, or_false, not_or]
          exact ⟨Nat.ne_of_lt (Nat.lt_succ_self _), Nat.ne_of_gt hlS⟩
        have hval : ∀ (i : Nat) (v : Value), items[i]? = some v → ∃ k t, ns[i]? = some k ∧ v = .int k t := fun i v hv => by
          have hi : i < ns.length := hsz ▸ (Array.getElem?_eq_some_iff.mp hv).1
          obtain ⟨t, e⟩ := IntsAre.int_at hit i v (by rw [Array.getElem?_toList]; exact hv)
          have e2 : ns[i]? = some ns[i] := List.getElem?_eq_getElem hi
          exact ⟨ns[i], t, e2, by rw [e, List.getD_eq_getElem?_getD, e2] <;> rfl⟩
        have hget : ((s.heap.push (oSet w)).push ⟨.type "list_iterator", none, .fields #[.ref l, .int 0 0], #[]⟩).get? s.heap.objs.size = some (oSet w) := Heap.get?_push_of_some _ hS
        refine set_update_ints ((Walks.list h3 _ l n1 items).toS) s.heap.objs.size n2 ns hsz hb hval (items.size - 0) 0 _ (by omega) (Nat.zero_le _) ⟨⟨_, Heap.get?_push_size _ rfl, rfl, rfl⟩, hl1.push _⟩ ⟨0, Nat.le_refl 0, setR_new_at hget⟩ fun s' c' hm hc' hS' => ?_
        obtain ⟨h', g2, d', tk', os'⟩ := s'
        have eg : g2 = s.gens := hm.gens
        have ed : d' = s.drawn := hm.drawn
        have eo : os' = s.os := hm.os
        subst eg ed eo
        refine wpAny_pure (show wpAny _ _ (ret Value.none) _ _ _ from ?_)
        refine wpAny_pure ⟨rfl, h', tk', c', rfl, hS', hsz ▸ hc', fun b u e => ?_⟩
        have b0 : b < s.heap.objs.size := Heap.lt_size e
        refine hm.heap b u ?_ (Heap.get?_push_of_some _ (Heap.get?_push_of_some _ e))
        simp only [List.mem_cons, List.not_mem_nil, or_false, not_or]
        exact ⟨Nat.ne_of_lt b0, by rw [z1]; exact Nat.ne_of_lt (Nat.lt_succ_of_lt b0)⟩
      · cases r₂ with
        | error e => exact hr₂
        | ok fl₂ =>
          cases fl₂ with
          | ret r =>
            obtain ⟨rfl, h', tk, c', rfl, hS', hc', hk'⟩ := hr₂
            repeat (any_goals (first | assumption | wp_step))
            exact h _ _ _ hS' hc' hk'
          | _ => exact hr₂.elim
    | _ => exact hr.elim
end
theorem insU_mem (a k : Int) : ∀ l : List Int, k ∈ insU a l ↔ k = a ∨ k ∈ l
  | [] => by simp [insU]
  | b :: r => by
    unfold insU
    split
    · simp
    · split
      · rename_i h
        subst h
        simp
      · have := insU_mem a k r
        simp only [List.mem_cons, this]
        constructor
        · rintro (h | h | h)
          · exact .inr (.inl h)
          · exact .inl h
          · exact .inr (.inr h)
        · rintro (h | h | h)
          · exact .inr (.inl h)
          · exact .inl h
          · exact .inr (.inr h)
theorem insU_lt (a : Int) : ∀ {l : List Int}, l.Pairwise (· < ·) → (insU a l).Pairwise (· < ·)
  | [], _ => by simp [insU]
  | b :: r, h => by
    obtain ⟨h1, h2⟩ := List.pairwise_cons.mp h
    unfold insU
    split
    · rename_i q
      refine List.pairwise_cons.mpr ⟨fun y hy => ?_, h⟩
      rcases List.mem_cons.mp hy with z | z
      · rw [z]
        exact q
      · exact Int.lt_trans q (h1 y z)
    · split
      · exact h
      · rename_i q1 q2
        refine List.pairwise_cons.mpr ⟨fun y hy => ?_, insU_lt a h2⟩
        rcases (insU_mem a y r).mp hy with z | z
        · rw [z]
          omega
        · exact h1 y z
theorem ssetI_mem (k : Int) : ∀ l : List Int, k ∈ ssetI l ↔ k ∈ l
  | [] => by simp [ssetI]
  | a :: r => by
    show k ∈ insU a (ssetI r) ↔ _
    rw [insU_mem, ssetI_mem k r, List.mem_cons]
theorem ssetI_lt : ∀ l : List Int, (ssetI l).Pairwise (· < ·)
  | [] => .nil
  | a :: r => insU_lt a (ssetI_lt r)
theorem lt_uniq : ∀ {l m : List Int}, l.Pairwise (· < ·) → m.Pairwise (· < ·) → (∀ k, k ∈ l ↔ k ∈ m) → l = m
  | [], [], _, _, _ => rfl
  | [], b :: m, _, _, h => by
    have := (h b).mpr (List.mem_cons_self ..)
    cases this
  | a :: l, [], _, _, h => by
    have := (h a).mp (List.mem_cons_self ..)
    cases this
  | a :: l, b :: m, p, q, h => by
    obtain ⟨p1, p2⟩ := List.pairwise_cons.mp p
    obtain ⟨q1, q2⟩ := List.pairwise_cons.mp q
    have e : a = b := by
      rcases List.mem_cons.mp ((h a).mp (List.mem_cons_self ..)) with z | z
      · exact z
      · rcases List.mem_cons.mp ((h b).mpr (List.mem_cons_self ..)) with y | y
        · exact y.symm
        · have := q1 a z
          have := p1 b y
          omega
    subst e
    congr 1
    refine lt_uniq p2 q2 fun k => ⟨fun z => ?_, fun z => ?_⟩
    · rcases List.mem_cons.mp ((h k).mp (List.mem_cons_of_mem _ z)) with y | y
      · have := p1 k z
        omega
      · exact y
    · rcases List.mem_cons.mp ((h k).mpr (List.mem_cons_of_mem _ z)) with y | y
      · have := q1 k z
        omega
      · exact y
section
variable {X : Cx}
def rSetL (K : PySem.W.Frag) (w : World) : List V → Hp → VK → Prop := fun vs H Q => ∃ (a : Addr) (ns : List Int), vs = [V.ref a] ∧ SqL K H a (ns.map V.int) ∧ ns.length < 64 ∧ ∀ p c, H p = none → c ≤ ns.length → Q (.ref p) (upd H p (SetO w p (fun j => decide (j ∈ ns)) c))
theorem cr_setL (hc : X.calm = true) : CallR X (.type "set") (rSetL X.K X.w) := by
  intro pins s σ H vs us Q I r h
  obtain ⟨a, ns, rfl, hq, hl, q⟩ := h
  rw [Vals.ref1 r]
  obtain ⟨its, rv, pl, hz⟩ := I.list hq
  refine call_setL ns (I.ok.hd hc) pl.isList (by simpa using Vals.ints rv) (by unfold scanBound; omega) fun h' tk c R hc' k => ?_
  exact ⟨.ref s.heap.objs.size, _, I.laid (t' := tk) k (Nat.le_refl _) (setO_new R), rfl, q _ c (I.hok.fresh (Nat.le_refl _)) hc'⟩
theorem pe_sset {e : Expr} {te : TE} {p1 p2 p3 p4 : Pos} (hc : X.calm = true) (g1 : Gl X "sorted") (m1 : X.mg "sorted" = none) (g2 : Gl X "set") (m2 : X.mg "set" = none) (he : PE X e te) (hs : ∀ es, starEach (e :: es) X.env = (false, eval e X.env) :: starEach es X.env)
    (hs2 : ∀ es, starEach (.Call (.Name "set" p2) [e] [] p3 :: es) X.env = (false, eval (.Call (.Name "set" p2) [e] [] p3) X.env) :: starEach es X.env) :
    PE X (.Call (.Name "sorted" p1) [.Call (.Name "set" p2) [e] [] p3] [] p4) (tCB (rSortedSet X.w) (tCons (tCB (rSetL X.K X.w) (tCons te tNil)) tNil)) := by
  have h1 := pe_callTy (p := p2) (pos := p3) (x := "set") (cr_setL hc) g2 m2 (by decide +kernel) (pa_cons he pa_nil (hs [])) (by decide) (by decide) (hs [])
  have h2 := pe_callB (p := p1) (pos := p4) (x := "sorted") (cr_sortedSet hc) g1 m1 (by decide +kernel) (pa_cons h1 pa_nil (hs2 [])) (by decide) (by decide) (hs2 [])
  exact h2
end
end Wk

/-! The walk layer, part 5: built-in functions. -/
namespace Wk
open PySem PySem.Spec L2
section
variable {X : Cx}
def rB1 (K : PySem.W.Frag) (f : B1) : List V → Hp → VK → Prop := fun xs H Q => ∃ F x d r, xs = [x] ∧ SubH F H ∧ Pk K F H x d ∧ b1D f d = some r ∧ Res K F H Q r
theorem rd_sq {K : PySem.W.Frag} {H : Hp} {a : Addr} {xs : List V} (h : Lx K H a xs) : SqL K H a xs := lx_sq h
theorem maxL_spec : ∀ {ns : List Int} {k : Int}, maxL ns = some k → k ∈ ns ∧ ∀ y ∈ ns, y ≤ k
  | [], k, e => by simp [maxL] at e
  | [a], k, e => by
    simp only [maxL, Option.some.injEq] at e
    subst e
    simp
  | a :: b :: r, k, e => by
    simp only [maxL] at e
    obtain ⟨q, q1, q2⟩ := Option.map_eq_some_iff.mp e
    obtain ⟨i1, i2⟩ := maxL_spec (ns := b :: r) q1
    by_cases hq : q ≤ a
    · rw [if_pos hq] at q2
      subst q2
      exact ⟨List.mem_cons_self, fun y hy => (List.mem_cons.mp hy).elim (fun z => by omega) fun z => by have := i2 y z; omega⟩
    · rw [if_neg hq] at q2
      subst q2
      exact ⟨List.mem_cons_of_mem _ i1, fun y hy => (List.mem_cons.mp hy).elim (fun z => by omega) fun z => i2 y z⟩
theorem minL_spec : ∀ {ns : List Int} {k : Int}, minL ns = some k → k ∈ ns ∧ ∀ y ∈ ns, k ≤ y
  | [], k, e => by simp [minL] at e
  | [a], k, e => by
    simp only [minL, Option.some.injEq] at e
    subst e
    simp
  | a :: b :: r, k, e => by
    simp only [minL] at e
    obtain ⟨q, q1, q2⟩ := Option.map_eq_some_iff.mp e
    obtain ⟨i1, i2⟩ := minL_spec (ns := b :: r) q1
    by_cases hq : a ≤ q
    · rw [if_pos hq] at q2
      subst q2
      exact ⟨List.mem_cons_self, fun y hy => (List.mem_cons.mp hy).elim (fun z => by omega) fun z => by have := i2 y z; omega⟩
    · rw [if_neg hq] at q2
      subst q2
      exact ⟨List.mem_cons_of_mem _ i1, fun y hy => (List.mem_cons.mp hy).elim (fun z => by omega) fun z => i2 y z⟩
theorem maxL_ok {ns : List Int} {m m' : Int} (e : maxL ns = some m) (h1 : m' ∈ ns) (h2 : ∀ y ∈ ns, y ≤ m') : m' = m := by
  obtain ⟨k1, k2⟩ := maxL_spec e
  have := k2 m' h1
  have := h2 m k1
  omega
theorem minL_ok {ns : List Int} {m m' : Int} (e : minL ns = some m) (h1 : m' ∈ ns) (h2 : ∀ y ∈ ns, m' ≤ y) : m' = m := by
  obtain ⟨k1, k2⟩ := minL_spec e
  have := k2 m' h1
  have := h2 m k1
  omega
theorem insI_perm (a : Int) : ∀ l : List Int, (insI a l).Perm (a :: l)
  | [] => .refl _
  | b :: r => by
    unfold insI
    split
    · exact .refl _
    · exact ((insI_perm a r).cons b).trans (List.Perm.swap a b r)
theorem sortI_perm : ∀ l : List Int, (sortI l).Perm l
  | [] => .refl _
  | a :: r => (insI_perm a _).trans ((sortI_perm r).cons a)
theorem insI_sorted (a : Int) : ∀ {l : List Int}, l.Pairwise (· ≤ ·) → (insI a l).Pairwise (· ≤ ·)
  | [], _ => by simp [insI]
  | b :: r, h => by
    obtain ⟨h1, h2⟩ := List.pairwise_cons.mp h
    unfold insI
    split
    · refine List.pairwise_cons.mpr ⟨fun y hy => ?_, h⟩
      rcases List.mem_cons.mp hy with z | z
      · omega
      · have := h1 y z
        omega
    · refine List.pairwise_cons.mpr ⟨fun y hy => ?_, insI_sorted a h2⟩
      rcases List.mem_cons.mp ((insI_perm a r).mem_iff.mp hy) with z | z
      · omega
      · exact h1 y z
theorem sortI_sorted : ∀ l : List Int, (sortI l).Pairwise (· ≤ ·)
  | [] => by simp [sortI]
  | a :: r => insI_sorted a (sortI_sorted r)
theorem sorted_uniq : ∀ {l m : List Int}, l.Perm m → l.Pairwise (· ≤ ·) → m.Pairwise (· ≤ ·) → l = m
  | [], m, p, _, _ => (List.nil_perm.mp p).symm
  | a :: l, [], p, _, _ => by
    have := p.length_eq
    simp at this
  | a :: l, b :: m, p, h1, h2 => by
    obtain ⟨a1, a2⟩ := List.pairwise_cons.mp h1
    obtain ⟨b1, b2⟩ := List.pairwise_cons.mp h2
    have hab : a = b := by
      have q1 : a ∈ b :: m := p.mem_iff.mp List.mem_cons_self
      have q2 : b ∈ a :: l := p.mem_iff.mpr List.mem_cons_self
      rcases List.mem_cons.mp q1 with z | z
      · exact z
      · rcases List.mem_cons.mp q2 with y | y
        · exact y.symm
        · have c1 := b1 a z
          have c2 := a1 b y
          omega
    subst hab
    rw [sorted_uniq (List.Perm.cons_inv p) a2 b2]
theorem intsD_ofInts : ∀ (ns : List Int), intsD (ns.map PyData.int) = some ns
  | [] => rfl
  | n :: ns => by simp [intsD, intsD_ofInts ns]
theorem b1_len : CallR X (.builtin "len") (rB1 X.K .len) := by
  intro pins s σ H xs us Q I r h
  obtain ⟨F, x, d, o, rfl, s0, p, e, q⟩ := h
  cases p <;> try (simp [b1D] at e; done)
  · obtain ⟨g, e⟩ := guardO_some e
    subst e
    exact call_len_str pins s σ H _ us Q I r ⟨_, rfl, fits_le g, q.v (.int _)⟩
  · rename_i a ws ds h1 h2
    cases e
    exact call_len_seq pins s σ H _ us Q I r ⟨a, ws, rfl, .inl (lx_sq h1), by rw [dqAll_len h2]; exact q.v (.int _)⟩
  · rename_i a ws ds h1 h2
    cases e
    exact call_len_seq pins s σ H _ us Q I r ⟨a, ws, rfl, .inr (sqT_mono s0 h1), by rw [dqAll_len h2]; exact q.v (.int _)⟩
theorem b1_int : CallR X (.type "int") (rB1 X.K .int) := by
  intro pins s σ H xs us Q I r h
  obtain ⟨F, x, d, o, rfl, s0, p, e, q⟩ := h
  cases p <;> try (simp [b1D] at e; done)
  · cases e
    exact call_int1 pins s σ H _ us Q I r (.inr ⟨_, rfl, q.v (.int _)⟩)
  · cases e
    exact call_int1 pins s σ H _ us Q I r (.inl ⟨_, rfl, q.v (.int _)⟩)
theorem b1_abs : CallR X (.builtin "abs") (rB1 X.K .abs) := by
  intro pins s σ H xs us Q I r h
  obtain ⟨F, x, d, o, rfl, s0, p, e, q⟩ := h
  cases p <;> try (simp [b1D] at e; done)
  cases e
  exact call_abs pins s σ H _ us Q I r ⟨_, rfl, q.v (.int _)⟩
theorem b1_max (hc : X.calm = true) : CallR X (.builtin "max") (rB1 X.K .max) := by
  intro pins s σ H xs us Q I r h
  obtain ⟨F, x, d, o, rfl, s0, p, e, q⟩ := h
  cases p <;> try (simp [b1D] at e; done)
  rename_i a ws ds h1 h2
  obtain ⟨m, e1, e2⟩ := Option.map_eq_some_iff.mp e
  subst e2
  obtain ⟨ns, e3, e4⟩ := Option.bind_eq_some_iff.mp e1
  have ew := dqAll_ints h2 e3
  subst ew
  refine cr_max hc pins s σ H _ us Q I r ⟨a, ns, rfl, lx_sq h1, ?_, fun m' w1 w2 => ?_⟩
  · cases ns with
    | nil => simp [maxL] at e4
    | cons b c => simp
  · rw [maxL_ok e4 w1 w2]
    exact q.v (.int _)
theorem b1_min (hc : X.calm = true) : CallR X (.builtin "min") (rB1 X.K .min) := by
  intro pins s σ H xs us Q I r h
  obtain ⟨F, x, d, o, rfl, s0, p, e, q⟩ := h
  cases p <;> try (simp [b1D] at e; done)
  rename_i a ws ds h1 h2
  obtain ⟨m, e1, e2⟩ := Option.map_eq_some_iff.mp e
  subst e2
  obtain ⟨ns, e3, e4⟩ := Option.bind_eq_some_iff.mp e1
  have ew := dqAll_ints h2 e3
  subst ew
  refine cr_min hc pins s σ H _ us Q I r ⟨a, ns, rfl, lx_sq h1, ?_, fun m' w1 w2 => ?_⟩
  · cases ns with
    | nil => simp [minL] at e4
    | cons b c => simp
  · rw [minL_ok e4 w1 w2]
    exact q.v (.int _)
theorem b1_sum (hc : X.calm = true) : CallR X (.builtin "sum") (rB1 X.K .sum) := by
  intro pins s σ H xs us Q I r h
  obtain ⟨F, x, d, o, rfl, s0, p, e, q⟩ := h
  cases p <;> try (simp [b1D] at e; done)
  rename_i a ws ds h1 h2
  obtain ⟨ns, e1, e2⟩ := Option.map_eq_some_iff.mp e
  subst e2
  have ew := dqAll_ints h2 e1
  subst ew
  exact cr_sum hc pins s σ H _ us Q I r ⟨a, ns, rfl, lx_sq h1, q.v (.int _)⟩
theorem b1_all (hc : X.calm = true) : CallR X (.builtin "all") (rB1 X.K .all) := by
  intro pins s σ H xs us Q I r h
  obtain ⟨F, x, d, o, rfl, s0, p, e, q⟩ := h
  cases p <;> try (simp [b1D] at e; done)
  rename_i a ws ds h1 h2
  obtain ⟨ns, e1, e2⟩ := Option.map_eq_some_iff.mp e
  subst e2
  have ew := dqAll_bools h2 e1
  subst ew
  exact cr_all hc pins s σ H _ us Q I r ⟨a, ns, rfl, lx_sq h1, q.v (.bl _)⟩
theorem b1_any (hc : X.calm = true) : CallR X (.builtin "any") (rB1 X.K .any) := by
  intro pins s σ H xs us Q I r h
  obtain ⟨F, x, d, o, rfl, s0, p, e, q⟩ := h
  cases p <;> try (simp [b1D] at e; done)
  rename_i a ws ds h1 h2
  obtain ⟨ns, e1, e2⟩ := Option.map_eq_some_iff.mp e
  subst e2
  have ew := dqAll_bools h2 e1
  subst ew
  exact cr_any hc pins s σ H _ us Q I r ⟨a, ns, rfl, lx_sq h1, q.v (.bl _)⟩
theorem b1_sorted : CallR X (.builtin "sorted") (rB1 X.K .sorted) := by
  intro pins s σ H xs us Q I r h
  obtain ⟨F, x, d, o, rfl, s0, p, e, q⟩ := h
  cases p <;> try (simp [b1D] at e; done)
  rename_i a ws ds h1 h2
  obtain ⟨ns, e1, e2⟩ := Option.map_eq_some_iff.mp e
  subst e2
  have ew := dqAll_ints h2 e1
  subst ew
  refine cr_sortedI pins s σ H _ us Q I r ⟨a, ns, rfl, lx_sq h1, fun ns' p w1 w2 w3 => ?_⟩
  have : ns' = sortI ns := sorted_uniq (w1.trans (sortI_perm ns).symm) w2 (sortI_sorted ns)
  subst this
  exact q p _ w3 (dqAll_ofInts _)
theorem b1_tuple : CallR X (.type "tuple") (rB1 X.K .tuple) := by
  intro pins s σ H xs us Q I r h
  obtain ⟨F, x, d, o, rfl, s0, p, e, q⟩ := h
  cases p <;> try (simp [b1D] at e; done)
  · rename_i a ws ds h1 h2
    cases e
    exact call_tuple_of pins s σ H _ us Q I r ⟨a, ws, rfl, .inl ⟨lx_sq h1, fun l hl => q.n hl (dq_newTup s0 hl h2)⟩⟩
  · rename_i a ws ds h1 h2
    cases e
    exact call_tuple_of pins s σ H _ us Q I r ⟨a, ws, rfl, .inr ⟨sqT_mono s0 h1, q.v (.tup h1 h2)⟩⟩
theorem b1_list : CallR X (.type "list") (rB1 X.K .list) := by
  intro pins s σ H xs us Q I r h
  obtain ⟨F, x, d, o, rfl, s0, p, e, q⟩ := h
  cases p <;> try (simp [b1D] at e; done)
  · rename_i a ws ds h1 h2
    cases e
    exact call_list_of pins s σ H _ us Q I r ⟨a, ws, rfl, .inl (lx_sq h1), fun l hl => q l _ hl h2⟩
  · rename_i a ws ds h1 h2
    cases e
    exact call_list_of pins s σ H _ us Q I r ⟨a, ws, rfl, .inr (sqT_mono s0 h1), fun l hl => q l _ hl h2⟩
theorem b1_str : CallR X (.type "str") (rB1 X.K .str) := by
  intro pins s σ H xs us Q I r h
  obtain ⟨F, x, d, o, rfl, s0, p, e, q⟩ := h
  cases p <;> try (simp [b1D] at e; done)
  obtain ⟨g, e⟩ := guardO_some e
  subst e
  exact call_str_int pins s σ H _ us Q I r ⟨_, rfl, of_decide_eq_true g, q.v (.str _)⟩
def rB2 (K : PySem.W.Frag) (f : B2) : List V → Hp → VK → Prop := fun xs H Q => ∃ F x y d e r, xs = [x, y] ∧ SubH F H ∧ Pk K F H x d ∧ Pk K F H y e ∧ b2D f d e = some r ∧ ∀ v, Dq K F v r → Q v H
theorem b2_max (hc : X.calm = true) : CallR X (.builtin "max") (rB2 X.K .max) := by
  intro pins s σ H xs us Q I r h
  obtain ⟨F, x, y, d, d', o, rfl, s0, p1, p2, e, q⟩ := h
  cases p1 <;> cases p2 <;> try (simp [b2D] at e; done)
  cases e
  exact call_max2 hc pins s σ H _ us Q I r ⟨_, _, rfl, q _ (.int _)⟩
theorem b2_min (hc : X.calm = true) : CallR X (.builtin "min") (rB2 X.K .min) := by
  intro pins s σ H xs us Q I r h
  obtain ⟨F, x, y, d, d', o, rfl, s0, p1, p2, e, q⟩ := h
  cases p1 <;> cases p2 <;> try (simp [b2D] at e; done)
  cases e
  exact call_min2 hc pins s σ H _ us Q I r ⟨_, _, rfl, q _ (.int _)⟩
theorem b2_gcd : CallR X (.builtin "math.gcd") (rB2 X.K .gcd) := by
  intro pins s σ H xs us Q I r h
  obtain ⟨F, x, y, d, d', o, rfl, s0, p1, p2, e, q⟩ := h
  cases p1 <;> cases p2 <;> try (simp [b2D] at e; done)
  cases e
  exact cr_gcd pins s σ H _ us Q I r ⟨_, _, rfl, q _ (.int _)⟩

/-! ### isinstance -/
def Ty.nm : Ty → String
  | .int => "int" | .bool => "bool" | .str => "str" | .tuple => "tuple" | .list => "list"
def tyD : D → String
  | .none => "NoneType" | .bool _ => "bool" | .int _ => "int" | .str _ => "str" | .list _ => "list" | .tuple _ => "tuple" | .dict _ => "dict"
theorem kt_none : ∀ t : Ty, kitB "NoneType" t.nm = some false := fun t => by cases t <;> decide +kernel
theorem kt_bool : ∀ t : Ty, kitB "bool" t.nm = some (decide (t = .int) || decide (t = .bool)) := fun t => by cases t <;> decide +kernel
theorem kt_int : ∀ t : Ty, kitB "int" t.nm = some (decide (t = .int)) := fun t => by cases t <;> decide +kernel
theorem kt_str : ∀ t : Ty, kitB "str" t.nm = some (decide (t = .str)) := fun t => by cases t <;> decide +kernel
theorem kt_list : ∀ t : Ty, kitB "list" t.nm = some (decide (t = .list)) := fun t => by cases t <;> decide +kernel
theorem kt_tuple : ∀ t : Ty, kitB "tuple" t.nm = some (decide (t = .tuple)) := fun t => by cases t <;> decide +kernel
theorem kit_isi {K : PySem.W.Frag} {d : D} {t : Ty} {b : Bool} (e : isiD d t = some b) : PySem.W.kitOne K (.type (tyD d)) (.type t.nm) = some b := by
  refine kit_ty ?_
  cases d with
  | none => exact (kt_none t).trans (by rw [← e]; cases t <;> rfl)
  | bool x => exact (kt_bool t).trans (by rw [← e]; cases t <;> rfl)
  | int x => exact (kt_int t).trans (by rw [← e]; cases t <;> rfl)
  | str x => exact (kt_str t).trans (by rw [← e]; cases t <;> rfl)
  | list x => exact (kt_list t).trans (by rw [← e]; cases t <;> rfl)
  | tuple x => exact (kt_tuple t).trans (by rw [← e]; cases t <;> rfl)
  | dict x => cases t <;> cases e
theorem tyX_of {F H : Hp} {x : V} {d : D} (s0 : SubH F H) (p : Pk X.K F H x d) : TyX X.K H x (.type (tyD d)) := by
  cases p with
  | non => exact .base .non
  | bl b => exact .base (.bl b)
  | int b => exact .base (.int b)
  | str b => exact .base (.str b)
  | lst h1 h2 =>
    rcases h1 with (h1 | ⟨o, h1⟩) | ⟨its, n, h1, _⟩
    · exact .base (.lst h1)
    · exact .base (.frz h1)
    · exact .kList h1 rfl
  | tup h1 h2 =>
    rcases sqT_mono s0 h1 with (h | ⟨o, h⟩) | ⟨o, its, n, h, hc, _⟩
    · exact .base (.tup h)
    · exact .fTuple h
    · exact .kTuple h hc
def rIsiW (K : PySem.W.Frag) (t : Ty) : List V → Hp → VK → Prop := fun xs H Q => ∃ F x d b, xs = [x, .ty t.nm] ∧ SubH F H ∧ Pk K F H x d ∧ isiD d t = some b ∧ Q (.bl b) H
theorem b_isi (t : Ty) : CallR X (.builtin "isinstance") (rIsiW X.K t) := by
  intro pins s σ H xs us Q I r h
  obtain ⟨F, x, d, b, rfl, s0, p, e, q⟩ := h
  exact call_isi pins s σ H _ us Q I r ⟨x, .ty t.nm, .type (tyD d), .type t.nm, b, rfl, .ty _, tyX_of s0 p, kit_isi e, q⟩
end
end Wk

/-! The walk layer, part 6: readings by the evaluator; expressions. -/
namespace Wk
open PySem PySem.Spec L2
/-- what is fixed through a body: the written part, the heap at its entry, the wish about exceptions, the exceptions' classes -/
structure Par where
  K : PySem.W.Frag
  H0 : Hp
  W : WX
  xc : Nat → Value
section
variable {α β γ δ : Type} (p : Par)
abbrev Stp (p : Par) := Step p.K p.H0
/-- what a result is to bring -/
def PX (σ : St) (F H : Hp) (ρ : Fm) (r : R α) (fin : α → Fm → Prop) : Prop := match r with
  | .ok a ρ' => fin a ρ'
  | .exc c ρ' => ∀ F' H', Stp p σ F H ρ σ F' H' ρ' → p.W (p.xc c) none σ H'
  | .no => False
abbrev Post (Rel : Hp → Hp → Fm → β → α → Prop) (σ : St) (F H : Hp) (ρ : Fm) (r : R α) (Q : β → Hp → Prop) : Prop := PX p σ F H ρ r fun a ρ' => ∀ F' H' b, Stp p σ F H ρ σ F' H' ρ' → Rel F' H' ρ' b a → Q b H'
def RelE (σ : St) (H : Hp) : Hp → Hp → Fm → V → RV → Prop := fun F' H' ρ' v r => RvOk p.K p.H0 H F' σ H' ρ' v r
def RelT (σ : St) (H : Hp) : Hp → Hp → Fm → Bool → Bool → Prop := fun _ _ _ b a => b = a
def RelD (σ : St) (H : Hp) : Hp → Hp → Fm → List V → List D → Prop := fun F' _ _ vs ds => DqAll p.K F' vs ds
def tG (Rel : St → Hp → Hp → Hp → Fm → β → α → Prop) (f : Fm → R α) (σ : St) (H : Hp) (Q : β → Hp → Prop) : Prop := ∃ F ρ, EnvOk p.K p.H0 F σ H ρ ∧ Post p (Rel σ H) σ F H ρ (f ρ) Q
abbrev tE (f : Fm → R RV) : TE := tG p (RelE p) f
abbrev tT (f : Fm → R Bool) : TT := tG p RelT f
abbrev tD (f : Fm → R (List D)) : TA := tG p (RelD p) f
variable {p}
theorem tG_seq {Rel1 : St → Hp → Hp → Hp → Fm → β → α → Prop} {f : Fm → R α} {k : α → Fm → R γ} {σ : St} {F H F1 H1 : Hp} {ρ ρ1 : Fm} {fin : γ → Fm → Prop} {G : β → Hp → Prop}
    (st : Stp p σ F H ρ σ F1 H1 ρ1) (h : PX p σ F H ρ ((f ρ1).bind k) fin)
    (g : ∀ F2 H2 ρ2 a b, Stp p σ F1 H1 ρ1 σ F2 H2 ρ2 → Stp p σ F H ρ σ F2 H2 ρ2 → Rel1 σ H1 F2 H2 ρ2 b a → PX p σ F H ρ (k a ρ2) fin → G b H2) : tG p Rel1 f σ H1 G := by
  refine ⟨F1, ρ1, st.env, ?_⟩
  cases e : f ρ1 with
  | ok a ρ2 =>
    rw [e] at h
    intro F2 H2 b s1 r
    exact g F2 H2 ρ2 a b s1 (st.trans s1) r h
  | exc c ρ2 =>
    rw [e] at h
    intro F2 H2 s1
    exact h F2 H2 (st.trans s1)
  | no =>
    rw [e] at h
    exact h
/-- the last one -/
theorem tG_last {Rel1 : St → Hp → Hp → Hp → Fm → β → α → Prop} {f : Fm → R α} {σ : St} {F H F1 H1 : Hp} {ρ ρ1 : Fm} {Q : β → Hp → Prop}
    (st : Stp p σ F H ρ σ F1 H1 ρ1) (h : Post p (Rel1 σ H) σ F H ρ (f ρ1) Q)
    (old : ∀ F2 H2 ρ2 b a, Rel1 σ H1 F2 H2 ρ2 b a → Rel1 σ H F2 H2 ρ2 b a) : tG p Rel1 f σ H1 Q := by
  refine ⟨F1, ρ1, st.env, ?_⟩
  cases e : f ρ1 with
  | ok a ρ2 =>
    rw [e] at h
    intro F2 H2 b s1 r
    exact h F2 H2 b (st.trans s1) (old _ _ _ _ _ r)
  | exc c ρ2 =>
    rw [e] at h
    intro F2 H2 s1
    exact h F2 H2 (st.trans s1)
  | no =>
    rw [e] at h
    exact h
theorem relE_old {σ : St} {H H1 F2 H2 : Hp} {ρ2 : Fm} {b : V} {a : RV} (d : ∀ a, H1 a = none → H a = none) (h : RelE p σ H1 F2 H2 ρ2 b a) : RelE p σ H F2 H2 ρ2 b a := RvOk.old h d
theorem post_lift {σ : St} {F H : Hp} {ρ ρ1 : Fm} {o : Option α} {fin : α → Fm → Prop} (h : PX p σ F H ρ (lift o ρ1) fin) : ∃ a, o = some a ∧ PX p σ F H ρ (.ok a ρ1) fin := by
  cases o with
  | none => exact h.elim
  | some a => exact ⟨a, rfl, h⟩
theorem post_lift_bind {σ : St} {F H : Hp} {ρ ρ1 : Fm} {o : Option γ} {k : γ → Fm → R α} {fin : α → Fm → Prop} (h : PX p σ F H ρ ((lift o ρ1).bind k) fin) : ∃ a, o = some a ∧ PX p σ F H ρ (k a ρ1) fin := by
  cases o with
  | none => exact h.elim
  | some a => exact ⟨a, rfl, h⟩
theorem bind_some {a : Option α} {k : α → Option β} {b : β} (h : a.bind k = some b) : ∃ x, a = some x ∧ k x = some b := Option.bind_eq_some_iff.mp h
theorem map_some {a : Option α} {k : α → β} {b : β} (h : a.map k = some b) : ∃ x, a = some x ∧ k x = b := Option.map_eq_some_iff.mp h
theorem res_of {σ : St} {F H F1 H1 : Hp} {ρ ρ1 : Fm} {r : RV} {Q : VK} (s : Stp p σ F H ρ σ F1 H1 ρ1) (h : Post p (RelE p σ H) σ F H ρ (.ok r ρ1) Q) : Res p.K F1 H1 Q r := by
  cases r with
  | val d => exact ⟨fun v hv => h F1 H1 v s hv, fun q o v hq hv => h _ _ v (s.newF hq) hv⟩
  | tmp ds => exact fun q vs hq hv => h _ _ _ (s.new hq) (tmp_new s hq hv)
  | sl i => trivial
theorem val_of {σ : St} {F H F1 H1 : Hp} {ρ ρ1 : Fm} {d : D} {Q : VK} {v : V} (s : Stp p σ F H ρ σ F1 H1 ρ1) (h : Post p (RelE p σ H) σ F H ρ (.ok (.val d) ρ1) Q) (hv : Dq p.K F1 v d) : Q v H1 := h F1 H1 v s hv
end
theorem PE.weaken {X : Cx} {e : Expr} {t t' : TE} (h : PE X e t) (w : ∀ σ H Q, t' σ H Q → t σ H Q) : PE X e t' := ⟨fun pins s σ H Q I q => h.run pins s σ H Q I (w σ H Q q)⟩
theorem PT.weaken {X : Cx} {e : Expr} {t t' : TT} (h : PT X e t) (w : ∀ σ H Q, t' σ H Q → t σ H Q) : PT X e t' := ⟨fun pins s σ H Q I q => h.run pins s σ H Q I (w σ H Q q)⟩
theorem PW.weaken {X : Cx} {e : Expr} {t t' : TT} (h : PW X e t) (w : ∀ σ H Q, t' σ H Q → t σ H Q) : PW X e t' := ⟨fun wh pins s σ H Q I q => h.run wh pins s σ H Q I (w σ H Q q)⟩
theorem PA.weaken {X : Cx} {e : List Expr} {t t' : TA} (h : PA X e t) (w : ∀ σ H Q, t' σ H Q → t σ H Q) : PA X e t' := ⟨fun pos pins s σ H Q I q => h.run pos pins s σ H Q I (w σ H Q q)⟩
section
variable {X : Cx} {p : Par} {a b c : Expr} {fa fb fc : Fm → R RV} {ft : Fm → R Bool} {pos : Pos} {hK : p.K = X.K}
def fVar (i : Nat) : Fm → R RV := fun ρ => match ρ[i]? with
  | some (.val d) => .ok (.val d) ρ
  | some (.own _ _) => .ok (.sl i) ρ
  | _ => .no
theorem e_var {i : Nat} {x : Str} (hN : X.N[i]? = some x) (hv : Vis X.env.scope x) (hd : (x == ("__debug__" : Str)) = false) (hcd : (x == ("__classdict__" : Str)) = false) : PE X (.Name x pos) (tE p (fVar i)) :=
  PE.weaken (pe_var hN hv hd hcd) fun σ H Q h => by
    obtain ⟨F, ρ, e, h⟩ := h
    unfold fVar at h
    split at h
    · rename_i d hd
      obtain ⟨v, h1, h2⟩ := e.val i d hd
      exact ⟨v, h1, h F H v (.refl e) h2⟩
    · rename_i xs k hd
      obtain ⟨a, vs, h1, _⟩ := e.own i xs k hd
      exact ⟨.ref a, h1, h F H _ (.refl e) h1⟩
    · exact h.elim
def fC (d : D) : Fm → R RV := fun ρ => .ok (.val d) ρ
theorem tC_of {d : D} {v : V} (hv : ∀ F, Dq p.K F v d) : ∀ σ H Q, tE p (fC d) σ H Q → tC v σ H Q := fun σ H Q h => by
  obtain ⟨F, ρ, e, h⟩ := h
  exact h F H v (.refl e) (hv F)
theorem e_int {i : Int} {j : Nat} : PE X (.Constant (.int i) j pos) (tE p (fC (.int i))) := PE.weaken pe_int (tC_of fun _ => .int i)
theorem e_bl {i : Bool} {j : Nat} : PE X (.Constant (.bool i) j pos) (tE p (fC (.bool i))) := PE.weaken pe_bl (tC_of fun _ => .bl i)
theorem e_non {j : Nat} : PE X (.Constant .none j pos) (tE p (fC .none)) := PE.weaken pe_non (tC_of fun _ => .non)
theorem e_str {x : Str} {j : Nat} : PE X (.Constant (.str x) j pos) (tE p (fC (.str x))) := PE.weaken pe_str (tC_of fun _ => .str x)
theorem e_gint {x : Str} {i : Int} {t : Tok} (hg : Gl X x) (hm : X.mg x = some (.int i t)) (hd : (x == ("__debug__" : Str)) = false) : PE X (.Name x pos) (tE p (fC (.int i))) := PE.weaken (pe_glob hg hm (v := .int i) ⟨t, rfl⟩ hd) (tC_of fun _ => .int i)
include hK
theorem e_gtup {x : Str} {a : Addr} {is : List Int} (hg : Gl X x) (hm : X.mg x = some (.ref a)) (hs : ∀ H, SqT X.K H a (is.map V.int)) (hd : (x == ("__debug__" : Str)) = false) : PE X (.Name x pos) (tE p (fC (.tuple (is.map .int)))) :=
  PE.weaken (pe_glob hg hm (v := .ref a) rfl hd) (tC_of fun F => by
    have q := hs F
    rw [← hK] at q
    exact .tup q (dqAll_ofInts is))
theorem e_bin (o : BOp) (ha : PE X a (tE p fa)) (hb : PE X b (tE p fb)) : PE X (.BinOp a o.op b pos) (tE p fun ρ => (fa ρ).bind fun r1 ρ1 => (fb ρ1).bind fun r2 ρ2 => lift ((peek r1 ρ2).bind fun d1 => (peek r2 ρ2).bind fun d2 => binD o d1 d2) ρ2) :=
  PE.weaken (pe_op (op_bin o) ha hb) fun σ H Q h => by
    obtain ⟨F, ρ, e, h⟩ := h
    refine tG_seq (.refl e) h fun F1 H1 ρ1 r1 x _ s1 v1 h => ?_
    refine tG_seq s1 h fun F2 H2 ρ2 r2 y s12 s2 v2 h => ?_
    obtain ⟨r, er, h⟩ := post_lift h
    obtain ⟨d1, e1, er⟩ := bind_some er
    obtain ⟨d2, e2, er⟩ := bind_some er
    have q := res_of s2 h
    have k1 := peek_ok s2.env (RvOk.step v1 s12) e1
    have k2 := peek_ok s2.env v2 e2
    rw [hK] at q k1 k2
    exact ⟨F2, d1, d2, r, s2.env.sub, k1, k2, er, q⟩
theorem e_neg (ha : PE X a (tE p fa)) : PE X (.UnaryOp .USub a pos) (tE p fun ρ => (fa ρ).bind fun r1 ρ1 => pk r1 ρ1 fun d => (asInt d).map fun i => .val (.int (-i))) :=
  PE.weaken (pe_un un_neg ha) fun σ H Q h => by
    obtain ⟨F, ρ, e, h⟩ := h
    refine tG_seq (.refl e) h fun F1 H1 ρ1 r1 x _ s1 v1 h => ?_
    obtain ⟨r, er, h⟩ := post_lift h
    obtain ⟨d1, e1, er⟩ := bind_some er
    obtain ⟨i, e2, er⟩ := map_some er
    subst er
    have k1 := peek_ok s1.env v1 e1
    cases k1 <;> try (simp [asInt] at e2; done)
    cases e2
    exact ⟨_, rfl, val_of s1 h (.int _)⟩
theorem e_not (ha : PE X a (tE p fa)) : PE X (.UnaryOp .Not a pos) (tE p fun ρ => (fa ρ).bind fun r1 ρ1 => pk r1 ρ1 fun d => (asBool d).map fun i => .val (.bool (!i))) :=
  PE.weaken (pe_not ha) fun σ H Q h => by
    obtain ⟨F, ρ, e, h⟩ := h
    refine tG_seq (.refl e) h fun F1 H1 ρ1 r1 x _ s1 v1 h => ?_
    obtain ⟨r, er, h⟩ := post_lift h
    obtain ⟨d1, e1, er⟩ := bind_some er
    obtain ⟨i, e2, er⟩ := map_some er
    subst er
    have k1 := peek_ok s1.env v1 e1
    cases k1 <;> try (simp [asBool] at e2; done)
    cases e2
    exact ⟨_, rfl, val_of s1 h (.bl _)⟩
theorem e_ite (hc : PT X c (tT p ft)) (ha : PE X a (tE p fa)) (hb : PE X b (tE p fb)) : PE X (.IfExp c a b pos) (tE p fun ρ => (ft ρ).bind fun t ρ1 => if t = true then fa ρ1 else fb ρ1) :=
  PE.weaken (pe_ifExp hc ha hb) fun σ H Q h => by
    obtain ⟨F, ρ, e, h⟩ := h
    refine tG_seq (.refl e) h fun F1 H1 ρ1 r1 x _ s1 v1 h => ?_
    cases v1
    split at h
    · rename_i q
      rw [if_pos q]
      exact tG_last s1 h fun _ _ _ _ _ z => relE_old s1.dm z
    · rename_i q
      rw [if_neg q]
      exact tG_last s1 h fun _ _ _ _ _ z => relE_old s1.dm z
theorem cmp_r {o : COp} {σ : St} {F H F2 H2 : Hp} {ρ ρ2 : Fm} {r1 r2 : RV} {x y : V} {t : Bool} {Hs1 Hs2 : Hp} {Q : VK} (s2 : Stp p σ F H ρ σ F2 H2 ρ2) (v1 : RvOk p.K p.H0 Hs1 F2 σ H2 ρ2 x r1) (v2 : RvOk p.K p.H0 Hs2 F2 σ H2 ρ2 y r2)
    (er : ((peek r1 ρ2).bind fun d1 => (peek r2 ρ2).bind fun d2 => cmpD o d1 d2) = some t) (q : Q (.bl t) H2) : rCmp X.K o x y H2 Q := by
  obtain ⟨d1, e1, er⟩ := bind_some er
  obtain ⟨d2, e2, er⟩ := bind_some er
  have k1 := peek_ok s2.env v1 e1
  have k2 := peek_ok s2.env v2 e2
  rw [hK] at k1 k2
  exact ⟨F2, d1, d2, t, s2.env.sub, k1, k2, er, q⟩
theorem e_cmp (hu : X.A.units + 65 < cLine) (o : COp) (ha : PE X a (tE p fa)) (hb : PE X b (tE p fb)) (hm : behindInMarks o.op b = false) :
    PE X (.Compare a [o.op] [b] pos) (tE p fun ρ => (fa ρ).bind fun r1 ρ1 => (fb ρ1).bind fun r2 ρ2 => lift ((peek r1 ρ2).bind fun d1 => (peek r2 ρ2).bind fun d2 => (cmpD o d1 d2).map fun t => .val (.bool t)) ρ2) :=
  PE.weaken (pe_cmpR (op_cmp hu o) ha hb hm) fun σ H Q h => by
    obtain ⟨F, ρ, e, h⟩ := h
    refine tG_seq (.refl e) h fun F1 H1 ρ1 r1 x _ s1 v1 h => ?_
    refine tG_seq s1 h fun F2 H2 ρ2 r2 y s12 s2 v2 h => ?_
    obtain ⟨r, er, h⟩ := post_lift h
    obtain ⟨d1, e1, er⟩ := bind_some er
    obtain ⟨d2, e2, er⟩ := bind_some er
    obtain ⟨t, e3, er⟩ := map_some er
    subst er
    exact cmp_r (hK := hK) s2 (RvOk.step v1 s12) v2 (by rw [e1, e2]; exact e3) (val_of s2 h (.bl _))
theorem t_cmp (hu : X.A.units + 65 < cLine) (o : COp) (ha : PE X a (tE p fa)) (hb : PE X b (tE p fb)) (hm : behindInMarks o.op b = false) :
    PT X (.Compare a [o.op] [b] pos) (tT p fun ρ => (fa ρ).bind fun r1 ρ1 => (fb ρ1).bind fun r2 ρ2 => lift ((peek r1 ρ2).bind fun d1 => (peek r2 ρ2).bind fun d2 => cmpD o d1 d2) ρ2) :=
  PT.weaken (pt_cmpR (op_cmp hu o) ha hb hm) fun σ H Q h => by
    obtain ⟨F, ρ, e, h⟩ := h
    refine tG_seq (.refl e) h fun F1 H1 ρ1 r1 x _ s1 v1 h => ?_
    refine tG_seq s1 h fun F2 H2 ρ2 r2 y s12 s2 v2 h => ?_
    obtain ⟨r, er, h⟩ := post_lift h
    exact cmp_r (hK := hK) s2 (RvOk.step v1 s12) v2 er ⟨_, rfl, h F2 H2 _ s2 rfl⟩
theorem e_cmp2 (hu : X.A.units + 65 < cLine) (o o' : COp) (ha : PE X a (tE p fa)) (hb : PE X b (tE p fb)) (hc : PE X c (tE p fc)) (hm : lastMarks [o.op, o'.op] [b, c] = false) :
    PE X (.Compare a [o.op, o'.op] [b, c] pos) (tE p fun ρ => (fa ρ).bind fun r1 ρ1 => (fb ρ1).bind fun r2 ρ2 => (lift ((peek r1 ρ2).bind fun d1 => (peek r2 ρ2).bind fun d2 => cmpD o d1 d2) ρ2).bind fun t ρ3 =>
      if t = true then (fc ρ3).bind fun r3 ρ4 => lift ((peek r2 ρ4).bind fun d2 => (peek r3 ρ4).bind fun d3 => (cmpD o' d2 d3).map fun t => .val (.bool t)) ρ4 else .ok (.val (.bool false)) ρ3) :=
  PE.weaken (pe_chain (op_cmp hu o) (op_cmp hu o') ha hb hc hm) fun σ H Q h => by
    obtain ⟨F, ρ, e, h⟩ := h
    refine tG_seq (.refl e) h fun F1 H1 ρ1 r1 x _ s1 v1 h => ?_
    refine tG_seq s1 h fun F2 H2 ρ2 r2 y s12 s2 v2 h => ?_
    obtain ⟨t, er, h⟩ := post_lift_bind h
    refine cmp_r (hK := hK) s2 (RvOk.step v1 s12) v2 er ⟨t, rfl, ?_⟩
    split at h
    · rename_i q
      rw [if_pos q]
      refine tG_seq s2 h fun F3 H3 ρ3 r3 z s23 s3 v3 h => ?_
      obtain ⟨r, er, h⟩ := post_lift h
      obtain ⟨d1, e1, er⟩ := bind_some er
      obtain ⟨d2, e2, er⟩ := bind_some er
      obtain ⟨t', e3, er⟩ := map_some er
      subst er
      exact cmp_r (hK := hK) s3 (RvOk.step v2 s23) v3 (by rw [e1, e2]; exact e3) (val_of s3 h (.bl _))
    · rename_i q
      rw [if_neg q]
      exact val_of s2 h (.bl _)
theorem t_cmp2 (hu : X.A.units + 65 < cLine) (o o' : COp) (ha : PE X a (tE p fa)) (hb : PE X b (tE p fb)) (hc : PE X c (tE p fc)) (hm : lastMarks [o.op, o'.op] [b, c] = false) :
    PT X (.Compare a [o.op, o'.op] [b, c] pos) (tT p fun ρ => (fa ρ).bind fun r1 ρ1 => (fb ρ1).bind fun r2 ρ2 => (lift ((peek r1 ρ2).bind fun d1 => (peek r2 ρ2).bind fun d2 => cmpD o d1 d2) ρ2).bind fun t ρ3 =>
      if t = true then (fc ρ3).bind fun r3 ρ4 => lift ((peek r2 ρ4).bind fun d2 => (peek r3 ρ4).bind fun d3 => cmpD o' d2 d3) ρ4 else .ok false ρ3) :=
  PT.weaken (pt_chain (op_cmp hu o) (op_cmp hu o') ha hb hc hm) fun σ H Q h => by
    obtain ⟨F, ρ, e, h⟩ := h
    refine tG_seq (.refl e) h fun F1 H1 ρ1 r1 x _ s1 v1 h => ?_
    refine tG_seq s1 h fun F2 H2 ρ2 r2 y s12 s2 v2 h => ?_
    obtain ⟨t, er, h⟩ := post_lift_bind h
    refine cmp_r (hK := hK) s2 (RvOk.step v1 s12) v2 er ⟨t, rfl, ?_⟩
    split at h
    · rename_i q
      rw [if_pos q]
      refine tG_seq s2 h fun F3 H3 ρ3 r3 z s23 s3 v3 h => ?_
      obtain ⟨r, er, h⟩ := post_lift h
      exact cmp_r (hK := hK) s3 (RvOk.step v2 s23) v3 er ⟨_, rfl, h F3 H3 _ s3 rfl⟩
    · rename_i q
      rw [if_neg q]
      exact ⟨_, rfl, h F2 H2 _ s2 rfl⟩
theorem e_idx (ha : PE X a (tE p fa)) (hb : PE X b (tE p fb)) (hs : PlainIx b) : PE X (.Subscript a b pos) (tE p fun ρ => (fa ρ).bind fun r1 ρ1 => (fb ρ1).bind fun r2 ρ2 => lift ((peek r1 ρ2).bind fun d1 => (peek r2 ρ2).bind fun d2 => (idxD d1 d2).map .val) ρ2) :=
  PE.weaken (pe_ix ix_idx ha hb hs) fun σ H Q h => by
    obtain ⟨F, ρ, e, h⟩ := h
    refine tG_seq (.refl e) h fun F1 H1 ρ1 r1 x _ s1 v1 h => ?_
    refine tG_seq s1 h fun F2 H2 ρ2 r2 y s12 s2 v2 h => ?_
    obtain ⟨r, er, h⟩ := post_lift h
    obtain ⟨d1, e1, er⟩ := bind_some er
    obtain ⟨d2, e2, er⟩ := bind_some er
    obtain ⟨d, e3, er⟩ := map_some er
    subst er
    have k1 := peek_ok s2.env (RvOk.step v1 s12) e1
    have k2 := peek_ok s2.env v2 e2
    rw [hK] at k1 k2
    exact ⟨F2, d1, d2, d, s2.env.sub, k1, k2, e3, fun v hv => val_of s2 h (hK ▸ hv)⟩
theorem asInt_pk {K : PySem.W.Frag} {F H : Hp} {v : V} {d : D} {i : Int} (k : Pk K F H v d) (e : asInt d = some i) : v = .int i := by
  cases k <;> try (simp [asInt] at e; done)
  cases e
  rfl
theorem asBool_pk {K : PySem.W.Frag} {F H : Hp} {v : V} {d : D} {i : Bool} (k : Pk K F H v d) (e : asBool d = some i) : v = .bl i := by
  cases k <;> try (simp [asBool] at e; done)
  cases e
  rfl
theorem e_slc {p2 : Pos} (ha : PE X a (tE p fa)) (hb : PE X b (tE p fb)) (hc : PE X c (tE p fc)) : PE X (.Subscript a (.Slice (some b) (some c) none p2) pos) (tE p fun ρ => (fa ρ).bind fun r1 ρ1 => (fb ρ1).bind fun r2 ρ2 => (pk r2 ρ2 asInt).bind fun i _ => (fc ρ2).bind fun r3 ρ3 => (pk r3 ρ3 asInt).bind fun j _ => lift ((peek r1 ρ3).bind (slcD (some i) (some j))) ρ3) :=
  PE.weaken (pe_slice sl_slc ha (po_some hb) (po_some hc)) fun σ H Q h => by
    obtain ⟨F, ρ, e, h⟩ := h
    refine tG_seq (.refl e) h fun F1 H1 ρ1 r1 x _ s1 v1 h => ?_
    refine tG_seq s1 h fun F2 H2 ρ2 r2 y s12 s2 v2 h => ?_
    obtain ⟨i, ei, h⟩ := post_lift_bind h
    obtain ⟨d1, e1, ei⟩ := bind_some ei
    refine ⟨i, asInt_pk (hK := hK) (peek_ok s2.env v2 e1) ei, ?_⟩
    refine tG_seq s2 h fun F3 H3 ρ3 r3 z s23 s3 v3 h => ?_
    obtain ⟨j, ej, h⟩ := post_lift_bind h
    obtain ⟨d2, e2, ej⟩ := bind_some ej
    refine ⟨j, asInt_pk (hK := hK) (peek_ok s3.env v3 e2) ej, ?_⟩
    obtain ⟨r, er, h⟩ := post_lift h
    obtain ⟨d3, e3, er⟩ := bind_some er
    have k1 := peek_ok s3.env ((RvOk.step v1 s12).step s23) e3
    have q := res_of s3 h
    rw [hK] at k1 q
    exact ⟨F3, d3, r, s3.env.sub, k1, er, q⟩
theorem e_rvs {k : Nat} {p1 p2 p3 : Pos} (ha : PE X a (tE p fa)) : PE X (.Subscript a (.Slice none none (some (.UnaryOp .USub (.Constant (.int 1) k p1) p2)) p3) pos) (tE p fun ρ => (fa ρ).bind fun r1 ρ1 => lift ((peek r1 ρ1).bind revD) ρ1) :=
  PE.weaken (pe_revA ha) fun σ H Q h => by
    obtain ⟨F, ρ, e, h⟩ := h
    refine tG_seq (.refl e) h fun F1 H1 ρ1 r1 x _ s1 v1 h => ?_
    obtain ⟨r, er, h⟩ := post_lift h
    obtain ⟨d3, e3, er⟩ := bind_some er
    have k1 := peek_ok s1.env v1 e3
    have q := res_of s1 h
    rw [hK] at k1 q
    have s0 := s1.env.sub
    cases k1 <;> try (simp [revD] at er; done)
    · rename_i a xs ds h1 h2
      cases er
      exact ⟨a, xs, rfl, .inl ⟨lx_sq h1, fun p hp => q _ _ hp (dqAll_rev h2)⟩⟩
    · rename_i a xs ds h1 h2
      cases er
      exact ⟨a, xs, rfl, .inr ⟨sqT_mono s0 h1, fun p hp => q.n hp (dq_newTup s0 hp (dqAll_rev h2))⟩⟩
theorem e_slo {p2 : Pos} (ha : PE X a (tE p fa)) (hb : PE X b (tE p fb)) : PE X (.Subscript a (.Slice (some b) none none p2) pos) (tE p fun ρ => (fa ρ).bind fun r1 ρ1 => (fb ρ1).bind fun r2 ρ2 => (pk r2 ρ2 asInt).bind fun i _ => lift ((peek r1 ρ2).bind (slcD (some i) none)) ρ2) :=
  PE.weaken (pe_slice sl_slc ha (po_some hb) po_none) fun σ H Q h => by
    obtain ⟨F, ρ, e, h⟩ := h
    refine tG_seq (.refl e) h fun F1 H1 ρ1 r1 x _ s1 v1 h => ?_
    refine tG_seq s1 h fun F2 H2 ρ2 r2 y s12 s2 v2 h => ?_
    obtain ⟨i, ei, h⟩ := post_lift_bind h
    obtain ⟨d1, e1, ei⟩ := bind_some ei
    refine ⟨i, asInt_pk (hK := hK) (peek_ok s2.env v2 e1) ei, ?_⟩
    obtain ⟨r, er, h⟩ := post_lift h
    obtain ⟨d3, e3, er⟩ := bind_some er
    have k1 := peek_ok s2.env (RvOk.step v1 s12) e3
    have q := res_of s2 h
    rw [hK] at k1 q
    exact ⟨F2, d3, r, s2.env.sub, k1, er, q⟩
theorem e_shi {p2 : Pos} (ha : PE X a (tE p fa)) (hb : PE X b (tE p fb)) : PE X (.Subscript a (.Slice none (some b) none p2) pos) (tE p fun ρ => (fa ρ).bind fun r1 ρ1 => (fb ρ1).bind fun r2 ρ2 => (pk r2 ρ2 asInt).bind fun i _ => lift ((peek r1 ρ2).bind (slcD none (some i))) ρ2) :=
  PE.weaken (pe_slice sl_slc ha po_none (po_some hb)) fun σ H Q h => by
    obtain ⟨F, ρ, e, h⟩ := h
    refine tG_seq (.refl e) h fun F1 H1 ρ1 r1 x _ s1 v1 h => ?_
    refine tG_seq s1 h fun F2 H2 ρ2 r2 y s12 s2 v2 h => ?_
    obtain ⟨i, ei, h⟩ := post_lift_bind h
    obtain ⟨d1, e1, ei⟩ := bind_some ei
    refine ⟨i, asInt_pk (hK := hK) (peek_ok s2.env v2 e1) ei, ?_⟩
    obtain ⟨r, er, h⟩ := post_lift h
    obtain ⟨d3, e3, er⟩ := bind_some er
    have k1 := peek_ok s2.env (RvOk.step v1 s12) e3
    have q := res_of s2 h
    rw [hK] at k1 q
    exact ⟨F2, d3, r, s2.env.sub, k1, er, q⟩
/-- a value's truth -/
theorem t_truth (ha : PE X a (tE p fa)) (he : ∀ whole, isTrue a X.env whole = (do let v ← whole; standAt a.pos; holding [v] (truthy v))) : PT X a (tT p fun ρ => (fa ρ).bind fun r ρ1 => pk r ρ1 truthD) :=
  PT.weaken (pt_truth ha he) fun σ H Q h => by
    obtain ⟨F, ρ, e, h⟩ := h
    refine tG_seq (.refl e) h fun F1 H1 ρ1 r1 x _ s1 v1 h => ?_
    obtain ⟨t, er, h⟩ := post_lift h
    obtain ⟨d1, e1, er⟩ := bind_some er
    have k1 := peek_ok s1.env v1 e1
    rw [hK] at k1
    exact ⟨t, truth_ok s1.env.sub k1 er, h F1 H1 _ s1 rfl⟩
theorem t_not (ha : PT X a (tT p ft)) : PT X (.UnaryOp .Not a pos) (tT p fun ρ => (ft ρ).bind fun b ρ1 => .ok (!b) ρ1) :=
  PT.weaken (pt_not ha) fun σ H Q h => by
    obtain ⟨F, ρ, e, h⟩ := h
    refine tG_seq (.refl e) h fun F1 H1 ρ1 r1 x _ s1 v1 h => ?_
    cases v1
    exact h F1 H1 _ s1 rfl
end
end Wk

/-! The walk layer, part 7: displays, built-in functions, and/or, methods of lists. -/
namespace Wk
open PySem PySem.Spec L2
section
variable {α β γ δ : Type} {p : Par}
theorem post_fz {σ : St} {F H F1 H1 : Hp} {ρ ρ1 : Fm} {r : RV} {v : V} {k : D → Fm → R α} {fin : α → Fm → Prop} (s : Stp p σ F H ρ σ F1 H1 ρ1) (hv : RvOk p.K p.H0 H F1 σ H1 ρ1 v r)
    (h : PX p σ F H ρ ((fzR r ρ1).bind k) fin) : ∃ d ρ2 F2, Stp p σ F H ρ σ F2 H1 ρ2 ∧ Dq p.K F2 v d ∧ PX p σ F H ρ (k d ρ2) fin := by
  unfold fzR at h
  cases e : freeze r ρ1 with
  | none =>
    rw [e] at h
    exact h.elim
  | some q =>
    rw [e] at h
    obtain ⟨d, ρ2⟩ := q
    obtain ⟨F2, s2, h2⟩ := freeze_ok s hv e
    exact ⟨d, ρ2, F2, s2, h2, h⟩
theorem post_pk {σ : St} {F H F1 H1 Hs : Hp} {ρ ρ1 : Fm} {r : RV} {v : V} {f : D → Option γ} {k : γ → Fm → R α} {fin : α → Fm → Prop} (s : Stp p σ F H ρ σ F1 H1 ρ1) (hv : RvOk p.K p.H0 Hs F1 σ H1 ρ1 v r)
    (h : PX p σ F H ρ ((pk r ρ1 f).bind k) fin) : ∃ d c, Pk p.K F1 H1 v d ∧ f d = some c ∧ PX p σ F H ρ (k c ρ1) fin := by
  obtain ⟨c, e, h⟩ := post_lift_bind h
  obtain ⟨d, e1, e2⟩ := bind_some e
  exact ⟨d, c, peek_ok s.env hv e1, e2, h⟩
/-- an own list is changed -/
theorem Step.write {σ : St} {F H F1 H1 : Hp} {σ1 : St} {ρ ρ1 : Fm} {i : Nat} {a : Addr} {xs ys : List D} {k : Kd} {ws vs : List V} (s : Stp p σ F H ρ σ1 F1 H1 ρ1) (hk : k.rw = true) (hi : ρ1[i]? = some (.own xs k)) (ha : σ1[i]? = some (some (V.ref a))) (hw : H1 a = some (.lst ws))
    (hd : DqAll p.K F1 vs ys) : Stp p σ F H ρ σ1 F1 (upd H1 a (.lst vs)) (ρ1.set i (.own ys k)) := by
  have e := s.env
  have oa : OwnAt σ1 ρ1 a := ⟨i, xs, k, hi, ha⟩
  obtain ⟨a', us, w1, w2, w3, w4, w5⟩ := e.own i xs k hi
  rw [ha] at w1
  cases w1
  have ilt : i < ρ1.length := (List.getElem?_eq_some_iff.mp hi).1
  refine ⟨s.fz, fun c o h n => ?_, fun c h => ?_, s.nf, fun c h => ?_, fun j zs l h n => ?_, ⟨fun c o h => ?_, by rw [List.length_set]; exact e.len, fun j d h => ?_, fun j zs l h => ?_, fun j j' c zs zs' l l' h h' e1 e2 => ?_, fun c h => ?_⟩⟩
  · have hc : c ≠ a := fun z => by
      subst z
      exact (s.ow c oa).elim n fun z => by rw [h] at z; cases z
    rw [upd_ne hc]
    exact s.hp c o h n
  · by_cases hc : c = a
    · subst hc
      rw [upd_same] at h
      cases h
    · rw [upd_ne hc] at h
      exact s.dm c h
  · obtain ⟨j, zs, l, h1, h2⟩ := h
    rcases set_get h1 with ⟨rfl, z, _⟩ | ⟨_, z⟩
    · exact s.ow c ⟨i, xs, k, hi, h2⟩
    · exact s.ow c ⟨j, zs, l, z, h2⟩
  · obtain ⟨l1, zs', l2, l3⟩ := s.lk j zs l h n
    refine ⟨l1, ?_⟩
    by_cases hj : i = j
    · subst hj
      rw [hi] at l2
      cases l2
      refine ⟨ys, by rw [List.getElem?_set_self ilt], fun z => ?_⟩
      exfalso
      cases k <;> first | exact n rfl | exact z rfl | (simp [Kd.rw] at hk; done)
    · exact ⟨zs', by rw [List.getElem?_set_ne hj]; exact l2, l3⟩
  · have hc : c ≠ a := fun z => by
      subst z
      rw [w4] at h
      cases h
    rw [upd_ne hc]
    exact e.sub c o h
  · rcases set_get h with ⟨_, z, _⟩ | ⟨_, z⟩
    · cases z
    · exact e.val j d z
  · rcases set_get h with ⟨rfl, z, _⟩ | ⟨nij, z⟩
    · cases z
      exact ⟨a, vs, ha, upd_same, hd, w4, w5⟩
    · obtain ⟨b, us', v1, v2, v3⟩ := e.own j zs l z
      have hb : b ≠ a := fun z' => nij (e.sep i j a _ _ _ _ hi z ha (z' ▸ v1))
      exact ⟨b, us', v1, by rw [upd_ne hb]; exact v2, v3⟩
  · rcases set_get h with ⟨rfl, z, _⟩ | ⟨_, z⟩
    · rcases set_get h' with ⟨rfl, z', _⟩ | ⟨_, z'⟩
      · rfl
      · exact e.sep _ _ c _ _ _ _ hi z' e1 e2
    · rcases set_get h' with ⟨rfl, z', _⟩ | ⟨_, z'⟩
      · exact e.sep _ _ c _ _ _ _ z hi e1 e2
      · exact e.sep _ _ c _ _ _ _ z z' e1 e2
  · by_cases hc : c = a
    · subst hc
      rw [upd_same] at h
      cases h
    · rw [upd_ne hc] at h
      exact e.dom c h
end
section
variable {X : Cx} {p : Par} {a b c : Expr} {es : List Expr} {fa fb fc : Fm → R RV} {fs : Fm → R (List D)} {ft fu : Fm → R Bool} {pos : Pos} {hK : p.K = X.K}
abbrev Plain (X : Cx) (e : Expr) : Prop := ∀ es, starEach (e :: es) X.env = (false, eval e X.env) :: starEach es X.env
theorem d_nil : PA X [] (tD p fun ρ => .ok [] ρ) := PA.weaken pa_nil fun σ H Q h => by
  obtain ⟨F, ρ, e, h⟩ := h
  exact h F H [] (.refl e) .nil
theorem d_cons (ha : PE X a (tE p fa)) (hs : PA X es (tD p fs)) (hp : Plain X a) : PA X (a :: es) (tD p fun ρ => (fa ρ).bind fun r ρ1 => (fzR r ρ1).bind fun x ρ2 => (fs ρ2).bind fun xs ρ3 => .ok (x :: xs) ρ3) :=
  PA.weaken (pa_cons ha hs (hp es)) fun σ H Q h => by
    obtain ⟨F, ρ, e, h⟩ := h
    refine tG_seq (.refl e) h fun F1 H1 ρ1 r1 x _ s1 v1 h => ?_
    obtain ⟨d, ρ2, F2, s2, hd, h⟩ := post_fz s1 v1 h
    refine tG_seq s2 h fun F3 H3 ρ3 ds vs s23 s3 v3 h => ?_
    exact h F3 H3 _ s3 (.cons (dq_mono s23.fz _ _ hd) v3)
theorem e_tup {k : Nat} (hs : PA X es (tD p fs)) : PE X (.Tuple es k pos) (tE p fun ρ => (fs ρ).bind fun ds ρ1 => lift (guardO (fits ds.length) (.val (.tuple ds))) ρ1) :=
  PE.weaken (pe_tup hs) fun σ H Q h => by
    obtain ⟨F, ρ, e, h⟩ := h
    refine tG_seq (.refl e) h fun F1 H1 ρ1 ds vs _ s1 v1 h => ?_
    obtain ⟨r, er, h⟩ := post_lift h
    obtain ⟨g, er⟩ := guardO_some er
    subst er
    have l := dqAll_len v1
    have g := fits_le g
    exact ⟨by omega, fun q hq => (res_of s1 h).n hq (dq_newTup s1.env.sub hq v1)⟩
theorem e_lst (hs : PA X es (tD p fs)) : PE X (.List es pos) (tE p fun ρ => (fs ρ).bind fun ds ρ1 => lift (guardO (fits ds.length) (.tmp ds)) ρ1) :=
  PE.weaken (pe_lst hs) fun σ H Q h => by
    obtain ⟨F, ρ, e, h⟩ := h
    refine tG_seq (.refl e) h fun F1 H1 ρ1 ds vs _ s1 v1 h => ?_
    obtain ⟨r, er, h⟩ := post_lift h
    obtain ⟨g, er⟩ := guardO_some er
    subst er
    have l := dqAll_len v1
    have g := fits_le g
    exact ⟨by omega, fun q hq => res_of s1 h q vs hq v1⟩
include hK
theorem b1_core (f : B1) {σ : St} {H : Hp} {Q : VK} (h : tE p (fun ρ => (fa ρ).bind fun r1 ρ1 => pk r1 ρ1 (b1D f)) σ H Q) : tCB (rB1 X.K f) (tCons (tE p fa) tNil) σ H Q := by
  obtain ⟨F, ρ, e, h⟩ := h
  refine tG_seq (.refl e) h fun F1 H1 ρ1 r1 x _ s1 v1 h => ?_
  obtain ⟨r, er, h⟩ := post_lift h
  obtain ⟨d, e1, er⟩ := bind_some er
  have k1 := peek_ok s1.env v1 e1
  have q := res_of s1 h
  rw [hK] at k1 q
  exact ⟨F1, x, d, r, rfl, s1.env.sub, k1, er, q⟩
theorem e_sset {p1 p2 p3 p4 : Pos} (hc : X.calm = true) (g1 : Gl X "sorted") (m1 : X.mg "sorted" = none) (g2 : Gl X "set") (m2 : X.mg "set" = none) (ha : PE X a (tE p fa)) (hp : Plain X a) :
    PE X (.Call (.Name "sorted" p1) [.Call (.Name "set" p2) [a] [] p3] [] p4) (tE p fun ρ => (fa ρ).bind fun r1 ρ1 => lift ((peek r1 ρ1).bind ssetD) ρ1) :=
  PE.weaken (pe_sset hc g1 m1 g2 m2 ha hp (fun _ => rfl)) fun σ H Q h => by
    obtain ⟨F, ρ, e, h⟩ := h
    refine tG_seq (.refl e) h fun F1 H1 ρ1 r1 x _ s1 v1 h => ?_
    obtain ⟨r, er, h⟩ := post_lift h
    obtain ⟨d3, e3, er⟩ := bind_some er
    have k1 := peek_ok s1.env v1 e3
    rw [hK] at k1
    cases k1 <;> try (simp [ssetD] at er; done)
    rename_i l xs ds h1 h2
    obtain ⟨ns, i1, er⟩ := bind_some er
    obtain ⟨g, er⟩ := guardO_some er
    subst er
    have ew := dqAll_ints h2 i1
    subst ew
    refine ⟨l, ns, rfl, lx_sq h1, of_decide_eq_true g, fun p1 c hp1 hcc => ?_⟩
    have s2 := s1.new (o := SetO X.w p1 (fun j => decide (j ∈ ns)) c) hp1
    refine ⟨p1, _, c, rfl, upd_same, Nat.lt_of_le_of_lt hcc (of_decide_eq_true g), fun ms p2 w1 w2 w3 w4 => ?_⟩
    have em : ms = ssetI ns := lt_uniq w1 (ssetI_lt ns) fun k => by rw [w2 k, ssetI_mem]; simp
    subst em
    have q := res_of s2 h
    rw [hK] at q
    exact q p2 _ w4 (dqAll_ofInts _)
theorem e_b1b {f : B1} {x : Str} {id : String} {p1 : Pos} (hc : CallR X (.builtin id) (rB1 X.K f)) (hg : Gl X x) (hm : X.mg x = none) (hv : bootBuiltins x = some (.builtin id)) (hn : x ≠ "__name__") (hd : (x == ("__debug__" : Str)) = false) (ha : PE X a (tE p fa)) (hp : Plain X a) :
    PE X (.Call (.Name x p1) [a] [] pos) (tE p fun ρ => (fa ρ).bind fun r1 ρ1 => pk r1 ρ1 (b1D f)) :=
  PE.weaken (pe_callB hc hg hm hv (pa_cons ha pa_nil (hp [])) hn hd (hp [])) fun σ H Q h => b1_core (hK := hK) f h
theorem e_b1t {f : B1} {x : Str} {T : String} {p1 : Pos} (hc : CallR X (.type T) (rB1 X.K f)) (hg : Gl X x) (hm : X.mg x = none) (hv : bootBuiltins x = some (.type T)) (hn : x ≠ "__name__") (hd : (x == ("__debug__" : Str)) = false) (ha : PE X a (tE p fa)) (hp : Plain X a) :
    PE X (.Call (.Name x p1) [a] [] pos) (tE p fun ρ => (fa ρ).bind fun r1 ρ1 => pk r1 ρ1 (b1D f)) :=
  PE.weaken (pe_callTy hc hg hm hv (pa_cons ha pa_nil (hp [])) hn hd (hp [])) fun σ H Q h => b1_core (hK := hK) f h
theorem b2_core (f : B2) {σ : St} {H : Hp} {Q : VK} (h : tE p (fun ρ => (fa ρ).bind fun r1 ρ1 => (fb ρ1).bind fun r2 ρ2 => lift ((peek r1 ρ2).bind fun d1 => (peek r2 ρ2).bind fun d2 => (b2D f d1 d2).map .val) ρ2) σ H Q) :
    tCB (rB2 X.K f) (tCons (tE p fa) (tCons (tE p fb) tNil)) σ H Q := by
  obtain ⟨F, ρ, e, h⟩ := h
  refine tG_seq (.refl e) h fun F1 H1 ρ1 r1 x _ s1 v1 h => ?_
  refine tG_seq s1 h fun F2 H2 ρ2 r2 y s12 s2 v2 h => ?_
  obtain ⟨r, er, h⟩ := post_lift h
  obtain ⟨d1, e1, er⟩ := bind_some er
  obtain ⟨d2, e2, er⟩ := bind_some er
  obtain ⟨d, e3, er⟩ := map_some er
  subst er
  have k1 := peek_ok s2.env (RvOk.step v1 s12) e1
  have k2 := peek_ok s2.env v2 e2
  rw [hK] at k1 k2
  exact ⟨F2, x, y, d1, d2, d, rfl, s2.env.sub, k1, k2, e3, fun v hv => val_of s2 h (hK ▸ hv)⟩
theorem e_b2b {f : B2} {x : Str} {id : String} {p1 : Pos} (hc : CallR X (.builtin id) (rB2 X.K f)) (hg : Gl X x) (hm : X.mg x = none) (hv : bootBuiltins x = some (.builtin id)) (hn : x ≠ "__name__") (hd : (x == ("__debug__" : Str)) = false) (ha : PE X a (tE p fa)) (hb : PE X b (tE p fb)) (hp : Plain X a) (hq : Plain X b) :
    PE X (.Call (.Name x p1) [a, b] [] pos) (tE p fun ρ => (fa ρ).bind fun r1 ρ1 => (fb ρ1).bind fun r2 ρ2 => lift ((peek r1 ρ2).bind fun d1 => (peek r2 ρ2).bind fun d2 => (b2D f d1 d2).map .val) ρ2) :=
  PE.weaken (pe_callB hc hg hm hv (pa_cons ha (pa_cons hb pa_nil (hq [])) (hp [b])) hn hd (hp [b]) (by rw [hq []] <;> rfl)) fun σ H Q h => b2_core (hK := hK) f h
theorem e_gcd {x : Str} {p1 : Pos} (hg : Gl X x) (hm : X.mg x = some (.builtin "math.gcd")) (hd : (x == ("__debug__" : Str)) = false) (ha : PE X a (tE p fa)) (hb : PE X b (tE p fb)) (hp : Plain X a) (hq : Plain X b) :
    PE X (.Call (.Name x p1) [a, b] [] pos) (tE p fun ρ => (fa ρ).bind fun r1 ρ1 => (fb ρ1).bind fun r2 ρ2 => lift ((peek r1 ρ2).bind fun d1 => (peek r2 ρ2).bind fun d2 => (b2D .gcd d1 d2).map .val) ρ2) :=
  PE.weaken (pe_callBfun b2_gcd hg hm (pa_cons ha (pa_cons hb pa_nil (hq [])) (hp [b])) hd (hp [b]) (by rw [hq []] <;> rfl)) fun σ H Q h => b2_core (hK := hK) .gcd h
theorem e_isi (t : Ty) {x y : Str} {p1 p2 : Pos} (hx : x = "isinstance") (hy : bootBuiltins y = some (.type t.nm)) (hn : y ≠ "__name__") (hd : (y == ("__debug__" : Str)) = false) (hg : Gl X x) (hm : X.mg x = none) (hgy : Gl X y) (hmy : X.mg y = none) (ha : PE X a (tE p fa)) (hp : Plain X a) :
    PE X (.Call (.Name x p1) [a, .Name y p2] [] pos) (tE p fun ρ => (fa ρ).bind fun r1 ρ1 => pk r1 ρ1 fun d => (isiD d t).map fun b => .val (.bool b)) := by
  subst hx
  have hb : PE X (.Name y p2) (tC (.ty t.nm)) := pe_bltn hgy hmy hy rfl hn hd
  refine PE.weaken (pe_callB (b_isi t) hg hm (by decide +kernel) (pa_cons ha (pa_cons hb pa_nil rfl) (hp _)) (by decide) (by decide) (hp _) (by rfl)) fun σ H Q h => ?_
  obtain ⟨F, ρ, e, h⟩ := h
  refine tG_seq (.refl e) h fun F1 H1 ρ1 r1 x _ s1 v1 h => ?_
  obtain ⟨r, er, h⟩ := post_lift h
  obtain ⟨d, e1, er⟩ := bind_some er
  obtain ⟨z, e2, er⟩ := map_some er
  subst er
  have k1 := peek_ok s1.env v1 e1
  rw [hK] at k1
  exact ⟨F1, x, d, z, rfl, s1.env.sub, k1, e2, val_of s1 h (.bl _)⟩
omit hK
/-! ### and, or -/
theorem e_and1 (ha : PE X a (tE p fa)) : PE X (.BoolOp .And [a] pos) (tE p fa) := pe_one ha
theorem e_or1 (ha : PE X a (tE p fa)) : PE X (.BoolOp .Or [a] pos) (tE p fa) := pe_one ha
theorem e_and {rest : List Expr} (ha : PE X a (tE p fa)) (hb : PE X (.BoolOp .And (b :: rest) pos) (tE p fb)) :
    PE X (.BoolOp .And (a :: b :: rest) pos) (tE p fun ρ => (fa ρ).bind fun r ρ1 => (pk r ρ1 asBool).bind fun t _ => if t = true then fb ρ1 else .ok (.val (.bool false)) ρ1) :=
  PE.weaken (pe_and ha hb) fun σ H Q h => by
    obtain ⟨F, ρ, e, h⟩ := h
    refine tG_seq (.refl e) h fun F1 H1 ρ1 r1 x _ s1 v1 h => ?_
    obtain ⟨d, t, k1, e1, h⟩ := post_pk s1 v1 h
    refine ⟨t, by cases k1 <;> first | (simp [asBool] at e1; done) | (cases e1; rfl), ?_⟩
    split at h
    · rename_i q
      rw [if_pos q]
      exact tG_last s1 h fun _ _ _ _ _ z => relE_old s1.dm z
    · rename_i q
      rw [if_neg q]
      exact val_of s1 h (.bl _)
theorem e_or {rest : List Expr} (ha : PE X a (tE p fa)) (hb : PE X (.BoolOp .Or (b :: rest) pos) (tE p fb)) :
    PE X (.BoolOp .Or (a :: b :: rest) pos) (tE p fun ρ => (fa ρ).bind fun r ρ1 => (pk r ρ1 asBool).bind fun t _ => if t = true then .ok (.val (.bool true)) ρ1 else fb ρ1) :=
  PE.weaken (pe_or ha hb) fun σ H Q h => by
    obtain ⟨F, ρ, e, h⟩ := h
    refine tG_seq (.refl e) h fun F1 H1 ρ1 r1 x _ s1 v1 h => ?_
    obtain ⟨d, t, k1, e1, h⟩ := post_pk s1 v1 h
    refine ⟨t, by cases k1 <;> first | (simp [asBool] at e1; done) | (cases e1; rfl), ?_⟩
    split at h
    · rename_i q
      rw [if_pos q]
      exact val_of s1 h (.bl _)
    · rename_i q
      rw [if_neg q]
      exact tG_last s1 h fun _ _ _ _ _ z => relE_old s1.dm z
theorem t_and1 (ha : PT X a (tT p ft)) : PW X (.BoolOp .And [a] pos) (tT p ft) := pw_and1 ha
theorem t_or1 (ha : PT X a (tT p ft)) : PW X (.BoolOp .Or [a] pos) (tT p ft) := pw_or1 ha
theorem t_and {rest : List Expr} (ha : PT X a (tT p ft)) (hb : PW X (.BoolOp .And (b :: rest) pos) (tT p fu)) :
    PW X (.BoolOp .And (a :: b :: rest) pos) (tT p fun ρ => (ft ρ).bind fun t ρ1 => if t = true then fu ρ1 else .ok false ρ1) :=
  PW.weaken (pw_and ha hb) fun σ H Q h => by
    obtain ⟨F, ρ, e, h⟩ := h
    refine tG_seq (.refl e) h fun F1 H1 ρ1 r1 x _ s1 v1 h => ?_
    cases v1
    split at h
    · rename_i q
      rw [if_pos q]
      exact tG_last s1 h fun _ _ _ _ _ z => z
    · rename_i q
      rw [if_neg q]
      exact h F1 H1 _ s1 rfl
theorem t_or {rest : List Expr} (ha : PT X a (tT p ft)) (hb : PW X (.BoolOp .Or (b :: rest) pos) (tT p fu)) :
    PW X (.BoolOp .Or (a :: b :: rest) pos) (tT p fun ρ => (ft ρ).bind fun t ρ1 => if t = true then .ok true ρ1 else fu ρ1) :=
  PW.weaken (pw_or ha hb) fun σ H Q h => by
    obtain ⟨F, ρ, e, h⟩ := h
    refine tG_seq (.refl e) h fun F1 H1 ρ1 r1 x _ s1 v1 h => ?_
    cases v1
    split at h
    · rename_i q
      rw [if_pos q]
      exact h F1 H1 _ s1 rfl
    · rename_i q
      rw [if_neg q]
      exact tG_last s1 h fun _ _ _ _ _ z => z
/-! ### methods of a list that a name owns -/
include hK
theorem e_app {i : Nat} {x : Str} {p1 apos : Pos} (hN : X.N[i]? = some x) (hv : Vis X.env.scope x) (hd : (x == ("__debug__" : Str)) = false) (hcd : (x == ("__classdict__" : Str)) = false) (ha : PE X a (tE p fa)) (hp : Plain X a) (hl : (apos.endLine == pos.line) = true) :
    PE X (.Call (.Attribute (.Name x p1) "append" apos) [a] [] pos) (tE p fun ρ => match ρ[i]? with
      | some (.own _ _) => (fa ρ).bind fun r ρ1 => (fzR r ρ1).bind fun x ρ2 => appAt i x ρ2
      | _ => .no) := by
  refine PE.weaken (pe_bm PySem.F.plainAttrs_list PySem.F.slot_list_append PySem.F.type_list_append mt_append (pe_var (i := i) hN hv hd hcd) (pa_cons ha pa_nil (hp [])) rfl (by rw [hp []] <;> rfl) hl (hp []) (by rfl)) fun σ H Q h => ?_
  obtain ⟨F, ρ, e, h⟩ := h
  dsimp only at h
  split at h
  · rename_i xs k hi
    obtain ⟨l, vs, w1, w2, _⟩ := e.own i xs k hi
    refine ⟨_, w1, .inl ⟨rfl, _, SqL.of w2⟩, ?_⟩
    refine tG_seq (.refl e) h fun F1 H1 ρ1 r1 y _ s1 v1 h => ?_
    obtain ⟨d, ρ2, F2, s2, hd2, h⟩ := post_fz s1 v1 h
    unfold appAt at h
    split at h
    · rename_i ys k2 hi2
      split at h
      · rename_i g
        obtain ⟨g1, g2⟩ := ba2 g
        have g2 := fits_le g2
        obtain ⟨l', us, z1, z2, z3, _⟩ := s2.env.own i ys k2 hi2
        rw [w1] at z1
        cases z1
        have ll := dqAll_len z3
        refine ⟨l, us, y, rfl, rfl, z2, by omega, ?_⟩
        exact h F2 _ _ (s2.write g1 hi2 w1 z2 (dqAll_app z3 (.cons hd2 .nil))) .non
      · exact h.elim
    · exact h.elim
  · exact h.elim
theorem e_pop0 {i : Nat} {x : Str} {p1 apos : Pos} (hN : X.N[i]? = some x) (hv : Vis X.env.scope x) (hd : (x == ("__debug__" : Str)) = false) (hcd : (x == ("__classdict__" : Str)) = false) (hl : (apos.endLine == pos.line) = true) :
    PE X (.Call (.Attribute (.Name x p1) "pop" apos) [] [] pos) (tE p (pop0At i)) := by
  refine PE.weaken (pe_bm0 PySem.F.plainAttrs_list PySem.F.slot_list_pop PySem.F.type_list_pop mt_pop (pe_var (i := i) hN hv hd hcd) rfl hl) fun σ H Q h => ?_
  obtain ⟨F, ρ, e, h⟩ := h
  unfold pop0At at h
  split at h
  · rename_i xs k hi
    obtain ⟨l, vs, w1, w2, w3, _⟩ := e.own i xs k hi
    refine ⟨_, w1, .inl ⟨rfl, _, SqL.of w2⟩, ?_⟩
    split at h
    · rename_i g
      obtain ⟨d, ed, h⟩ := post_lift_bind h
      obtain ⟨v, ev, hv⟩ := dqAll_get w3 ed
      have ll := dqAll_len w3
      refine ⟨l, vs, v, rfl, rfl, w2, by rw [ll]; exact ev, ?_⟩
      have hdl : DqAll p.K F vs.dropLast xs.dropLast := by
        rw [List.dropLast_eq_take, List.dropLast_eq_take, ll]
        exact dqAll_take _ w3
      exact h F _ _ ((Step.refl e).write g hi w1 w2 hdl) hv
    · exact h.elim
  · exact h.elim
theorem e_popAt {i : Nat} {x : Str} {p1 apos : Pos} (hN : X.N[i]? = some x) (hv : Vis X.env.scope x) (hd : (x == ("__debug__" : Str)) = false) (hcd : (x == ("__classdict__" : Str)) = false) (ha : PE X a (tE p fa)) (hp : Plain X a) (hl : (apos.endLine == pos.line) = true) :
    PE X (.Call (.Attribute (.Name x p1) "pop" apos) [a] [] pos) (tE p fun ρ => match ρ[i]? with
      | some (.own _ _) => (fa ρ).bind fun r ρ1 => (pk r ρ1 asInt).bind fun j _ => popAt i j ρ1
      | _ => .no) := by
  refine PE.weaken (pe_bm PySem.F.plainAttrs_list PySem.F.slot_list_pop PySem.F.type_list_pop mt_popAt (pe_var (i := i) hN hv hd hcd) (pa_cons ha pa_nil (hp [])) rfl (by rw [hp []] <;> rfl) hl (hp []) (by rfl)) fun σ H Q h => ?_
  obtain ⟨F, ρ, e, h⟩ := h
  dsimp only at h
  split at h
  · rename_i xs k hi
    obtain ⟨l, vs, w1, w2, _⟩ := e.own i xs k hi
    refine ⟨_, w1, .inl ⟨rfl, _, SqL.of w2⟩, ?_⟩
    refine tG_seq (.refl e) h fun F1 H1 ρ1 r1 y _ s1 v1 h => ?_
    obtain ⟨d, j, k1, e1, h⟩ := post_pk s1 v1 h
    have ey := asInt_pk (hK := hK) k1 e1
    unfold popAt at h
    split at h
    · rename_i ys k2 hi2
      split at h
      · rename_i g
        obtain ⟨g1, g⟩ := ba2 g
        obtain ⟨g2, g3⟩ := ba2 g
        obtain ⟨n, en, h⟩ := post_lift_bind h
        obtain ⟨z, ez, h⟩ := post_lift_bind h
        obtain ⟨l', us, z1, z2, z3, _⟩ := s1.env.own i ys k2 hi2
        rw [w1] at z1
        cases z1
        have ll := dqAll_len z3
        obtain ⟨v, ev, hv⟩ := dqAll_get z3 ez
        obtain ⟨q1, _⟩ := ixN_seq en
        refine ⟨l, us, j, n, v, rfl, by rw [ey], z2, of_decide_eq_true g2, of_decide_eq_true g3, by rw [ll]; exact q1, ev, ?_⟩
        exact h F1 _ _ (s1.write g1 hi2 w1 z2 (dqAll_erase n z3)) hv
      · exact h.elim
    · exact h.elim
  · exact h.elim
end
end Wk

/-! The walk layer, part 8: arguments, what a def promises, calls. -/
namespace Wk
open PySem PySem.Spec L2
def AOk (K : PySem.W.Frag) (F : Hp) (σ : St) : List V → List (Sum D Nat) → Prop
  | [], [] => True
  | v :: vs, .inl d :: r => Dq K F v d ∧ AOk K F σ vs r
  | v :: vs, .inr i :: r => σ[i]? = some (some v) ∧ AOk K F σ vs r
  | _, _ => False
theorem AOk.mono {K : PySem.W.Frag} {F F' : Hp} {σ : St} (s : SubH F F') : ∀ {vs : List V} {xs : List (Sum D Nat)}, AOk K F σ vs xs → AOk K F' σ vs xs
  | [], [], _ => trivial
  | v :: vs, .inl d :: r, h => ⟨dq_mono s _ _ h.1, AOk.mono s h.2⟩
  | v :: vs, .inr i :: r, h => ⟨h.1, AOk.mono s h.2⟩
  | [], _ :: _, h => h.elim
  | _ :: _, [], h => h.elim
def ArgsOk (K : PySem.W.Frag) (F H : Hp) : List V → List Arg → Prop
  | [], [] => True
  | v :: vs, .val d :: as => Dq K F v d ∧ ArgsOk K F H vs as
  | v :: vs, .own xs k :: as => (k = .lent ∨ k = .lockL) ∧ (∃ a ws, v = .ref a ∧ H a = some (.lst ws) ∧ DqAll K F ws xs ∧ F a = none) ∧ ArgsOk K F H vs as
  | _, _ => False
def lentV : List V → List Arg → List V
  | v :: vs, .own _ _ :: as => v :: lentV vs as
  | _ :: vs, .val _ :: as => lentV vs as
  | _, _ => []
structure StepC (K : PySem.W.Frag) (F H : Hp) (L : List V) (F' H' : Hp) : Prop where
  fz : SubH F F'
  hp : ∀ a o, H a = some o → V.ref a ∉ L → H' a = some o
  dm : ∀ a, H' a = none → H a = none
  nf : ∀ a, F a = none → H a ≠ none → F' a = none
  sub : SubH F' H'
def FinOk (K : PySem.W.Frag) (F' H' : Hp) : List V → List Arg → List (List D) → Prop
  | [], [], fin => fin = []
  | _ :: vs, .val _ :: as, fin => FinOk K F' H' vs as fin
  | v :: vs, .own xs k :: as, ys :: fin => (∃ a ws, v = .ref a ∧ H' a = some (.lst ws) ∧ DqAll K F' ws ys) ∧ (k = .lockL → ys = xs) ∧ FinOk K F' H' vs as fin
  | _, _, _ => False
def RetOk (K : PySem.W.Frag) (F' H H' : Hp) (v : V) : RV → Prop
  | .val d => Dq K F' v d
  | .tmp xs => ∃ a ws, v = .ref a ∧ H' a = some (.lst ws) ∧ DqAll K F' ws xs ∧ F' a = none ∧ H a = none
  | .sl _ => False
def PostC (K : PySem.W.Frag) (xc : Nat → Value) (F H : Hp) (vs : List V) (args : List Arg) (r : RC) (Q : VK) (E : XK) : Prop := match r with
  | .ok rv fin => ∀ F' H' v, StepC K F H (lentV vs args) F' H' → FinOk K F' H' vs args fin → RetOk K F' H H' v rv → Q v H'
  | .exc c fin => ∀ F' H', StepC K F H (lentV vs args) F' H' → FinOk K F' H' vs args fin → E (xc c) none H'
  | .no => False
/-- what a def promises that computes C -/
def spC (K : PySem.W.Frag) (xc : Nat → Value) (C : List Arg → RC) : Sp := fun vs H Q E => ∃ F args, SubH F H ∧ ArgsOk K F H vs args ∧ (lentV vs args).Nodup ∧ PostC K xc F H vs args (C args) Q E
theorem ArgsOk.len {K : PySem.W.Frag} {F H : Hp} : ∀ {vs : List V} {as : List Arg}, ArgsOk K F H vs as → vs.length = as.length
  | [], [], _ => rfl
  | v :: vs, .val d :: as, h => by simp [ArgsOk.len h.2]
  | v :: vs, .own xs k :: as, h => by simp [ArgsOk.len h.2.2]
  | [], _ :: _, h => h.elim
  | _ :: _, [], h => h.elim
section
variable {K : PySem.W.Frag} {H0 F H F' H' : Hp} {σ : St} {ρ : Fm}
theorem argsOf_ok (e : EnvOk K H0 F σ H ρ) : ∀ {vs : List V} {xs : List (Sum D Nat)} {as : List Arg}, AOk K F σ vs xs → argsOf ρ xs = some as → ArgsOk K F H vs as
  | [], [], as, _, h => by
    simp only [argsOf, Option.some.injEq] at h
    subst h
    trivial
  | v :: vs, .inl d :: r, as, a, h => by
    simp only [argsOf, argOf, Option.bind_some] at h
    obtain ⟨as', h1, h2⟩ := map_some h
    subst h2
    exact ⟨a.1, argsOf_ok e a.2 h1⟩
  | v :: vs, .inr i :: r, as, a, h => by
    simp only [argsOf] at h
    obtain ⟨x, h1, h⟩ := bind_some h
    obtain ⟨as', h2, h3⟩ := map_some h
    subst h3
    unfold argOf at h1
    dsimp only at h1
    split at h1
    · rename_i d hd
      cases h1
      obtain ⟨w, w1, w2⟩ := e.val i d hd
      rw [a.1] at w1
      cases w1
      exact ⟨w2, argsOf_ok e a.2 h2⟩
    · rename_i ys k hd
      cases h1
      obtain ⟨b, ws, w1, w2, w3, w4, _⟩ := e.own i ys k hd
      rw [a.1] at w1
      cases w1
      refine ⟨?_, ⟨b, ws, rfl, w2, w3, w4⟩, argsOf_ok e a.2 h2⟩
      split
      · exact .inl rfl
      · exact .inr rfl
    · cases h1
  | [], _ :: _, _, a, _ => a.elim
  | _ :: _, [], _, a, _ => a.elim
theorem lentV_mem : ∀ {vs : List V} {xs : List (Sum D Nat)} {as : List Arg}, AOk K F σ vs xs → argsOf ρ xs = some as → ∀ v, v ∈ lentV vs as ↔ ∃ i ∈ lentOf ρ xs, σ[i]? = some (some v)
  | [], [], as, _, h, v => by
    simp only [argsOf, Option.some.injEq] at h
    subst h
    simp [lentV, lentOf]
  | w :: vs, .inl d :: r, as, a, h, v => by
    simp only [argsOf, argOf, Option.bind_some] at h
    obtain ⟨as', h1, h2⟩ := map_some h
    subst h2
    exact lentV_mem a.2 h1 v
  | w :: vs, .inr i :: r, as, a, h, v => by
    simp only [argsOf] at h
    obtain ⟨x, h1, h⟩ := bind_some h
    obtain ⟨as', h2, h3⟩ := map_some h
    subst h3
    have ih := lentV_mem a.2 h2 v
    unfold argOf at h1
    dsimp only at h1
    split at h1
    · rename_i d hd
      cases h1
      simp only [lentV, lentOf, hd]
      exact ih
    · rename_i ys k hd
      cases h1
      simp only [lentV, lentOf, hd, List.mem_cons]
      constructor
      · rintro (z | z)
        · subst z
          exact ⟨i, .inl rfl, a.1⟩
        · obtain ⟨j, j1, j2⟩ := ih.mp z
          exact ⟨j, .inr j1, j2⟩
      · rintro ⟨j, z | z, j2⟩
        · subst z
          rw [a.1] at j2
          cases j2
          exact .inl rfl
        · exact .inr (ih.mpr ⟨j, z, j2⟩)
    · cases h1
  | [], _ :: _, _, a, _, _ => a.elim
  | _ :: _, [], _, a, _, _ => a.elim
theorem lentOf_own : ∀ {xs : List (Sum D Nat)} {i : Nat}, i ∈ lentOf ρ xs → ∃ ys k, ρ[i]? = some (.own ys k)
  | [], i, h => by simp [lentOf] at h
  | .inl d :: r, i, h => lentOf_own (xs := r) h
  | .inr j :: r, i, h => by
    unfold lentOf at h
    split at h
    · rename_i ys k hd
      rcases List.mem_cons.mp h with z | z
      · subst z
        exact ⟨ys, k, hd⟩
      · exact lentOf_own z
    · exact lentOf_own h
theorem lentV_nodup (e : EnvOk K H0 F σ H ρ) : ∀ {vs : List V} {xs : List (Sum D Nat)} {as : List Arg}, AOk K F σ vs xs → argsOf ρ xs = some as → (lentOf ρ xs).Nodup → (lentV vs as).Nodup
  | [], [], as, _, h, _ => by
    simp only [argsOf, Option.some.injEq] at h
    subst h
    simp [lentV]
  | w :: vs, .inl d :: r, as, a, h, n => by
    simp only [argsOf, argOf, Option.bind_some] at h
    obtain ⟨as', h1, h2⟩ := map_some h
    subst h2
    show (lentV vs as').Nodup
    exact lentV_nodup e a.2 h1 n
  | w :: vs, .inr i :: r, as, a, h, n => by
    simp only [argsOf] at h
    obtain ⟨x, h1, h⟩ := bind_some h
    obtain ⟨as', h2, h3⟩ := map_some h
    subst h3
    unfold argOf at h1
    dsimp only at h1
    split at h1
    · rename_i d hd
      cases h1
      simp only [lentOf, hd] at n
      show (lentV vs as').Nodup
      exact lentV_nodup e a.2 h2 n
    · rename_i ys k hd
      cases h1
      simp only [lentOf, hd, List.nodup_cons] at n
      refine List.nodup_cons.mpr ⟨fun z => ?_, lentV_nodup e a.2 h2 n.2⟩
      obtain ⟨j, j1, j2⟩ := (lentV_mem a.2 h2 w).mp z
      obtain ⟨zs, l, j3⟩ := lentOf_own j1
      obtain ⟨b, ws, w1, _⟩ := e.own i ys k hd
      have w0 := a.1
      rw [w0] at w1
      cases w1
      have := e.sep i j b _ _ _ _ hd j3 w0 j2
      subst this
      exact n.1 j1
    · cases h1
  | [], _ :: _, _, a, _, _ => a.elim
  | _ :: _, [], _, a, _, _ => a.elim
theorem giveB_len : ∀ {xs : List (Sum D Nat)} {fin : List (List D)}, (giveB ρ xs fin).length = ρ.length
  | [], _ => rfl
  | .inl d :: r, fin => giveB_len (xs := r)
  | .inr i :: r, fin => by
    unfold giveB
    split
    · split
      · rw [List.length_set]
        exact giveB_len
      · exact giveB_len
    · exact giveB_len
theorem giveB_get : ∀ {vs : List V} {xs : List (Sum D Nat)} {as : List Arg} {fin : List (List D)}, AOk K F σ vs xs → argsOf ρ xs = some as → FinOk K F' H' vs as fin → (lentOf ρ xs).Nodup → ∀ {j : Nat} {s : Sl}, (giveB ρ xs fin)[j]? = some s →
    (j ∉ lentOf ρ xs ∧ ρ[j]? = some s) ∨ (j ∈ lentOf ρ xs ∧ ∃ zs ys k a ws, ρ[j]? = some (.own zs k) ∧ s = .own ys k ∧ σ[j]? = some (some (V.ref a)) ∧ H' a = some (.lst ws) ∧ DqAll K F' ws ys ∧ (k ≠ .mine → k ≠ .lent → ys = zs))
  | [], [], as, fin, _, h, f, _, j, s, g => by
    refine .inl ⟨by simp [lentOf], ?_⟩
    unfold giveB at g
    exact g
  | w :: vs, .inl d :: r, as, fin, a, h, f, n, j, s, g => by
    simp only [argsOf, argOf, Option.bind_some] at h
    obtain ⟨as', h1, h2⟩ := map_some h
    subst h2
    exact giveB_get a.2 h1 f n g
  | w :: vs, .inr i :: r, as, fin, a, h, f, n, j, s, g => by
    simp only [argsOf] at h
    obtain ⟨x, h1, h⟩ := bind_some h
    obtain ⟨as', h2, h3⟩ := map_some h
    subst h3
    unfold argOf at h1
    dsimp only at h1
    split at h1
    · rename_i d hd
      cases h1
      simp only [lentOf, hd] at n ⊢
      simp only [giveB, hd] at g
      exact giveB_get a.2 h2 f n g
    · rename_i ys k hd
      cases h1
      simp only [lentOf, hd, List.nodup_cons] at n
      simp only [lentOf, hd, List.mem_cons]
      cases fin with
      | nil => exact f.elim
      | cons zs fin' =>
        obtain ⟨⟨b, ws, f1, f2, f3⟩, f4, f5⟩ := f
        simp only [giveB, hd] at g
        rcases set_get g with ⟨z, z2, _⟩ | ⟨z, z2⟩
        · subst z
          refine .inr ⟨.inl rfl, ys, zs, k, b, ws, hd, z2, by rw [a.1, f1], f2, f3, fun k1 k2 => f4 (if_neg fun q => q.elim k1 k2)⟩
        · rcases giveB_get a.2 h2 f5 n.2 z2 with ⟨q1, q2⟩ | ⟨q1, q2⟩
          · exact .inl ⟨fun q => q.elim (fun q => z q.symm) q1, q2⟩
          · exact .inr ⟨.inr q1, q2⟩
    · cases h1
  | [], _ :: _, _, _, a, _, _, _, _, _, _ => a.elim
  | _ :: _, [], _, _, a, _, _, _, _, _, _ => a.elim
/-- behind a call -/
theorem step_call {vs : List V} {xs : List (Sum D Nat)} {as : List Arg} {fin : List (List D)} (e : EnvOk K H0 F σ H ρ) (a : AOk K F σ vs xs) (h : argsOf ρ xs = some as) (n : (lentOf ρ xs).Nodup) (s : StepC K F H (lentV vs as) F' H') (f : FinOk K F' H' vs as fin) :
    Step K H0 σ F H ρ σ F' H' (giveB ρ xs fin) := by
  have own_of : ∀ {j : Nat} {zs : List D} {l : Kd}, (giveB ρ xs fin)[j]? = some (.own zs l) → ∃ ys, ρ[j]? = some (.own ys l) := fun {j zs l} g => by
    rcases giveB_get a h f n g with ⟨_, q⟩ | ⟨_, ys, zs', k, b, ws, q1, q2, _⟩
    · exact ⟨zs, q⟩
    · cases q2
      exact ⟨ys, q1⟩
  have lentOwn : ∀ {b : Addr}, V.ref b ∈ lentV vs as → OwnAt σ ρ b := fun {b} z => by
    obtain ⟨i, i1, i2⟩ := (lentV_mem a h _).mp z
    obtain ⟨ys, k, i3⟩ := lentOf_own i1
    exact ⟨i, ys, k, i3, i2⟩
  refine ⟨s.fz, fun b o hb nb => s.hp b o hb fun z => nb (lentOwn z), s.dm, fun b h1 h2 _ => s.nf b h1 h2, fun b hb => ?_, fun i ys k hi nk => ⟨rfl, ?_⟩, ⟨s.sub, by rw [giveB_len]; exact e.len, fun i d g => ?_, fun i ys k g => ?_, fun i j b ys zs k l g1 g2 e1 e2 => ?_, fun b hb => e.dom b (s.dm b hb)⟩⟩
  · obtain ⟨i, ys, k, g, g2⟩ := hb
    obtain ⟨zs, q⟩ := own_of g
    exact .inl ⟨i, zs, k, q, g2⟩
  · have hlt : i < (giveB ρ xs fin).length := by
      rw [giveB_len]
      exact (List.getElem?_eq_some_iff.mp hi).1
    rcases giveB_get a h f n (List.getElem?_eq_getElem hlt) with ⟨_, q⟩ | ⟨_, ys', zs', k', b, ws, q1, q2, _, _, _, q3⟩
    · rw [hi] at q
      exact ⟨ys, by rw [List.getElem?_eq_getElem hlt, ← q], fun _ => rfl⟩
    · rw [hi] at q1
      cases q1
      exact ⟨zs', by rw [List.getElem?_eq_getElem hlt, q2], fun z => q3 nk z⟩
  · rcases giveB_get a h f n g with ⟨_, q⟩ | ⟨_, ys', zs', k', b, ws, q1, q2, _⟩
    · obtain ⟨w, w1, w2⟩ := e.val i d q
      exact ⟨w, w1, dq_mono s.fz _ _ w2⟩
    · cases q2
  · rcases giveB_get a h f n g with ⟨q0, q⟩ | ⟨_, ys', zs', k', b, ws, q1, q2, q3, q4, q5, q6⟩
    · obtain ⟨b, ws, w1, w2, w3, w4, w5⟩ := e.own i ys k q
      have nb : V.ref b ∉ lentV vs as := fun z => by
        obtain ⟨j, j1, j2⟩ := (lentV_mem a h _).mp z
        obtain ⟨zs, l, j3⟩ := lentOf_own j1
        have := e.sep i j b _ _ _ _ q j3 w1 j2
        subst this
        exact q0 j1
      exact ⟨b, ws, w1, s.hp b _ w2 nb, dqAll_mono s.fz _ _ w3, s.nf b w4 (by rw [w2]; simp), w5⟩
    · cases q2
      obtain ⟨b', ws', w1, w2, w3, w4, w5⟩ := e.own i ys' k q1
      rw [q3] at w1
      cases w1
      exact ⟨b, ws, q3, q4, q5, s.nf b w4 (by rw [w2]; simp), w5⟩
  · obtain ⟨ys', q1⟩ := own_of g1
    obtain ⟨zs', q2⟩ := own_of g2
    exact e.sep i j b _ _ _ _ q1 q2 e1 e2
end
section
variable {p : Par}
def RelA (p : Par) (σ : St) (H : Hp) : Hp → Hp → Fm → List V → List (Sum D Nat) → Prop := fun F' _ _ vs xs => AOk p.K F' σ vs xs
abbrev tA (p : Par) (f : Fm → R (List (Sum D Nat))) : TA := tG p (RelA p) f
theorem call_core {σ : St} {F H F1 H1 : Hp} {ρ ρ1 : Fm} {vs : List V} {xs : List (Sum D Nat)} {C : Nat → List Arg → RC} {f : Nat} {Q : VK} (s : Stp p σ F H ρ σ F1 H1 ρ1) (a : AOk p.K F1 σ vs xs) (h : Post p (RelE p σ H) σ F H ρ (doCall C f xs ρ1) Q) :
    spC p.K p.xc (C f) vs H1 Q (WE p.W σ) := by
  unfold doCall at h
  split at h
  · rename_i as has
    split at h
    · rename_i nd
      refine ⟨F1, as, s.env.sub, argsOf_ok s.env a has, lentV_nodup s.env a has nd, ?_⟩
      cases e : C f as with
      | no =>
        rw [e] at h
        exact h.elim
      | exc c fin =>
        rw [e] at h
        intro F' H' sc fo
        exact h F' H' (s.trans (step_call s.env a has nd sc fo))
      | ok rv fin =>
        rw [e] at h
        intro F' H' v sc fo ro
        have st := step_call s.env a has nd sc fo
        refine h F' H' v (s.trans st) ?_
        cases rv with
        | val d => exact ro
        | tmp ys =>
          obtain ⟨b, ws, r1, r2, r3, r4, r5⟩ := ro
          refine ⟨b, ws, r1, r2, r3, r4, fun q => ?_, s.env.dom b r5, s.dm b r5⟩
          obtain ⟨i, zs, k, g1, g2⟩ := q
          obtain ⟨b', ws', w1, w2, _⟩ := (st.env).own i zs k g1
          rcases st.ow b ⟨i, zs, k, g1, g2⟩ with z | z
          · obtain ⟨i', zs', k', g1', g2'⟩ := z
            obtain ⟨b2, ws2, v1, v2, _⟩ := s.env.own i' zs' k' g1'
            rw [g2'] at v1
            cases v1
            rw [r5] at v2
            cases v2
          · obtain ⟨zs', q⟩ : ∃ zs', ρ1[i]? = some (.own zs' k) := by
              rcases giveB_get a has fo nd g1 with ⟨_, q⟩ | ⟨_, ys', zs'', k', b2, ws2, q1, q2, _⟩
              · exact ⟨zs, q⟩
              · cases q2
                exact ⟨ys', q1⟩
            obtain ⟨b2, ws2, v1, v2, _⟩ := s.env.own i zs' k q
            rw [g2] at v1
            cases v1
            rw [r5] at v2
            cases v2
        | sl i => exact ro.elim
    · exact h.elim
  · exact h.elim
end
section
variable {X : Cx} {p : Par} {a : Expr} {es : List Expr} {fa : Fm → R RV} {fs : Fm → R (List (Sum D Nat))} {pos : Pos}
theorem a_nil : PA X [] (tA p fun ρ => .ok [] ρ) := PA.weaken pa_nil fun σ H Q h => by
  obtain ⟨F, ρ, e, h⟩ := h
  exact h F H [] (.refl e) trivial
theorem a_cons (ha : PE X a (tE p fa)) (hs : PA X es (tA p fs)) (hp : Plain X a) : PA X (a :: es) (tA p fun ρ => (fa ρ).bind fun r ρ1 => (match r with
    | .sl i => (fs ρ1).bind fun xs ρ3 => .ok (.inr i :: xs) ρ3
    | r => (fzR r ρ1).bind fun x ρ2 => (fs ρ2).bind fun xs ρ3 => .ok (.inl x :: xs) ρ3)) :=
  PA.weaken (pa_cons ha hs (hp es)) fun σ H Q h => by
    obtain ⟨F, ρ, e, h⟩ := h
    refine tG_seq (.refl e) h fun F1 H1 ρ1 r1 x _ s1 v1 h => ?_
    split at h
    · rename_i i
      refine tG_seq s1 h fun F3 H3 ρ3 ds vs s13 s3 v3 h => ?_
      exact h F3 H3 _ s3 ⟨v1, v3⟩
    · obtain ⟨d, ρ2, F2, s2, hd, h⟩ := post_fz s1 v1 h
      refine tG_seq s2 h fun F3 H3 ρ3 ds vs s23 s3 v3 h => ?_
      exact h F3 H3 _ s3 ⟨dq_mono s23.fz _ _ hd, v3⟩
/-- f() of a def -/
theorem pe_callS0 {CX : CXT} {k : Nat} {f : Addr} {fd : FuncData} {ps : List Str} {sp : Sp} {E : St → XK} {x : Str} {p1 : Pos} (F : FnOk X.prog X.w X.K X.mg X.base CX k f fd ps sp) (hr : Room k X.A) (hg : Gl X x) (hm : X.mg x = some (.ref f)) (hk : PySem.W.keepIn X.K (.ref f) = true) (hb : Binds X.K fd ps [])
    (hx : ∀ σ, PassesAt CX X σ (E σ)) (hd : (x == ("__debug__" : Str)) = false) : PE X (.Call (.Name x p1) [] [] pos) (tCallS sp E tNil) := by
  refine ⟨fun pins s σ H Q I h => ?_⟩
  exact wpAny_Call_Name_kw (ld_glob I hg hm (PySem.W.callWith_K0 I.kIn hk (run_fnS (us := []) F hr hb (hx σ) I .nil h)) hd)
theorem call_tr {C : Nat → List Arg → RC} {k : Nat} : ∀ σ H Q, tE p (fun ρ => (fs ρ).bind fun xs ρ1 => doCall C k xs ρ1) σ H Q → tCallS (spC p.K p.xc (C k)) (WE p.W) (tA p fs) σ H Q := fun σ H Q h => by
  obtain ⟨F, ρ, e, h⟩ := h
  refine tG_seq (.refl e) h fun F1 H1 ρ1 xs vs _ s1 v1 h => ?_
  exact call_core s1 v1 h
theorem e_call {C : Nat → List Arg → RC} {n k : Nat} {f : Addr} {fd : FuncData} {ps : List Str} {x : Str} {p1 : Pos} (F : FnOk X.prog X.w X.K X.mg X.base (L2.CX X.prog X.w) n f fd ps (spC p.K p.xc (C k))) (hr : Room n X.A) (hg : Gl X x) (hm : X.mg x = some (.ref f))
    (hk : PySem.W.keepIn X.K (.ref f) = true) (hb : Binds X.K fd ps []) (tk : Takes X p.W) (hd : (x == ("__debug__" : Str)) = false) (hs : PA X (a :: es) (tA p fs)) (hp : Plain X a) (hq : (backTo pos (starEach es X.env)).any (·.1) = false) :
    PE X (.Call (.Name x p1) (a :: es) [] pos) (tE p fun ρ => (fs ρ).bind fun xs ρ1 => doCall C k xs ρ1) :=
  PE.weaken (pe_callS F hr hg hm hk hb (fun σ => passAt tk σ) hs hd (hp es) hq) call_tr
theorem e_call0 {C : Nat → List Arg → RC} {n k : Nat} {f : Addr} {fd : FuncData} {ps : List Str} {x : Str} {p1 : Pos} (F : FnOk X.prog X.w X.K X.mg X.base (L2.CX X.prog X.w) n f fd ps (spC p.K p.xc (C k))) (hr : Room n X.A) (hg : Gl X x) (hm : X.mg x = some (.ref f))
    (hk : PySem.W.keepIn X.K (.ref f) = true) (hb : Binds X.K fd ps []) (tk : Takes X p.W) (hd : (x == ("__debug__" : Str)) = false) :
    PE X (.Call (.Name x p1) [] [] pos) (tE p fun ρ => (R.ok [] ρ).bind fun xs ρ1 => doCall C k xs ρ1) :=
  PE.weaken (pe_callS0 F hr hg hm hk hb (fun σ => passAt tk σ) hd) fun σ H Q h => by
    obtain ⟨F, ρ, e, h⟩ := h
    exact call_core (vs := []) (xs := []) (.refl e) trivial h
end
end Wk

/-! The walk layer, part 9: what loops and comprehensions walk. -/
namespace Wk
open PySem PySem.Spec L2
/-! ### locks -/
def LockOf (ρ ρL : Fm) (lk : List Nat) : Prop := ρL.length = ρ.length ∧ ∀ (j : Nat) (s : Sl), ρL[j]? = some s →
  (j ∉ lk ∧ ρ[j]? = some s) ∨ (j ∈ lk ∧ ∃ xs k, (k = Kd.mine ∨ k = Kd.lent) ∧ ρ[j]? = some (.own xs k) ∧ s = .own xs k.lock)
theorem LockOf.refl (ρ : Fm) : LockOf ρ ρ [] := ⟨rfl, fun _ _ h => .inl ⟨by simp, h⟩⟩
theorem LockOf.back {ρ ρL : Fm} {lk : List Nat} (l : LockOf ρ ρL lk) {j : Nat} {s : Sl} (h : ρ[j]? = some s) : (j ∉ lk ∧ ρL[j]? = some s) ∨ (j ∈ lk ∧ ∃ xs k, (k = Kd.mine ∨ k = Kd.lent) ∧ s = .own xs k ∧ ρL[j]? = some (.own xs k.lock)) := by
  have hlt : j < ρL.length := by rw [l.1]; exact (List.getElem?_eq_some_iff.mp h).1
  have g := List.getElem?_eq_getElem hlt
  rcases l.2 j _ g with ⟨q1, q2⟩ | ⟨q1, xs, k, q2, q3, q4⟩
  · rw [h] at q2
    exact .inl ⟨q1, g.trans q2.symm⟩
  · rw [h] at q3
    cases q3
    exact .inr ⟨q1, xs, k, q2, rfl, by rw [g, q4]⟩
theorem lock_ne {k : Kd} (h : k = .mine ∨ k = .lent) : ¬ (k.lock = .mine ∨ k.lock = .lent) := by
  rcases h with rfl | rfl <;> (intro z; rcases z with z | z <;> cases z)
theorem lock_open {k : Kd} (h : k = .mine ∨ k = .lent) : k.lock.open_ = k := by
  rcases h with rfl | rfl <;> rfl
theorem LockOf.trans {ρ ρ1 ρ2 : Fm} {l1 l2 : List Nat} (a : LockOf ρ ρ1 l1) (b : LockOf ρ1 ρ2 l2) : LockOf ρ ρ2 (l1 ++ l2) := by
  refine ⟨b.1.trans a.1, fun j s h => ?_⟩
  rcases b.2 j s h with ⟨q1, q2⟩ | ⟨q1, xs, k, k1, k2, k3⟩
  · rcases a.2 j s q2 with ⟨r1, r2⟩ | ⟨r1, ys, k', k1', k2', k3'⟩
    · exact .inl ⟨by simp [q1, r1], r2⟩
    · exact .inr ⟨by simp [r1], ys, k', k1', k2', k3'⟩
  · rcases a.2 j _ k2 with ⟨r1, r2⟩ | ⟨r1, ys, k', k1', k2', k3'⟩
    · exact .inr ⟨by simp [q1], xs, k, k1, r2, k3⟩
    · cases k3'
      exact absurd k1 (lock_ne k1')
theorem LockOf.own {σ : St} {ρ ρL : Fm} {lk : List Nat} (l : LockOf ρ ρL lk) {a : Addr} : OwnAt σ ρL a ↔ OwnAt σ ρ a := by
  constructor
  · rintro ⟨i, xs, k, h1, h2⟩
    rcases l.2 i _ h1 with ⟨_, q⟩ | ⟨_, ys, k', _, q, _⟩
    · exact ⟨i, xs, k, q, h2⟩
    · exact ⟨i, ys, k', q, h2⟩
  · rintro ⟨i, xs, k, h1, h2⟩
    rcases l.back h1 with ⟨_, q⟩ | ⟨_, ys, k', _, _, q⟩
    · exact ⟨i, xs, k, q, h2⟩
    · exact ⟨i, ys, _, q, h2⟩
section
variable {K : PySem.W.Frag} {H0 F F1 H H1 : Hp} {σ σ1 : St} {ρ ρP ρL ρE : Fm} {lk : List Nat}
theorem EnvOk.lock (e : EnvOk K H0 F σ H ρ) (l : LockOf ρ ρL lk) : EnvOk K H0 F σ H ρL := by
  have back : ∀ {i : Nat} {xs : List D} {k : Kd}, ρL[i]? = some (.own xs k) → ∃ k', ρ[i]? = some (.own xs k') ∧ (k = .mine ∨ k = .lockM → k' = .mine ∨ k' = .lockM) := fun {i xs k} h => by
    rcases l.2 i _ h with ⟨_, q⟩ | ⟨_, ys, k', q0, q, q2⟩
    · exact ⟨k, q, fun z => z⟩
    · cases q2
      refine ⟨k', q, fun z => ?_⟩
      rcases q0 with rfl | rfl
      · exact .inl rfl
      · rcases z with z | z <;> cases z
  refine ⟨e.sub, l.1.trans e.len, fun i d h => ?_, fun i xs k h => ?_, fun i j a xs ys k k' h1 h2 => ?_, e.dom⟩
  · rcases l.2 i _ h with ⟨_, q⟩ | ⟨_, ys, k', q0, q, q2⟩
    · exact e.val i d q
    · cases q2
  · obtain ⟨k', q1, q2⟩ := back h
    obtain ⟨a, vs, w1, w2, w3, w4, w5⟩ := e.own i xs k' q1
    exact ⟨a, vs, w1, w2, w3, w4, fun z => w5 (q2 z)⟩
  · obtain ⟨l1, q1, _⟩ := back h1
    obtain ⟨l2, q2, _⟩ := back h2
    exact e.sep i j a _ _ _ _ q1 q2
theorem RvOk.lock {Hs : Hp} {v : V} {r : RV} (h : RvOk K H0 Hs F σ H ρ v r) (l : LockOf ρ ρL lk) : RvOk K H0 Hs F σ H ρL v r := by
  cases r with
  | val d => exact h
  | tmp xs =>
    obtain ⟨a, vs, h1, h2, h3, h4, h5, h6⟩ := h
    exact ⟨a, vs, h1, h2, h3, h4, fun z => h5 (l.own.mp z), h6⟩
  | sl i => exact h
theorem unlock_len : ∀ {lk : List Nat}, (unlock ρ lk).length = ρ.length
  | [] => rfl
  | i :: r => by
    unfold unlock
    split
    · rw [List.length_set]; exact unlock_len
    · exact unlock_len
theorem unlock_get : ∀ {lk : List Nat} {j : Nat} {s : Sl}, (unlock ρ lk)[j]? = some s → (j ∉ lk ∧ ρ[j]? = some s) ∨ (j ∈ lk ∧ ((∃ xs k, ρ[j]? = some (.own xs k) ∧ s = .own xs k.open_) ∨ ((∀ xs k, s ≠ .own xs k) ∧ ρ[j]? = some s)))
  | [], j, s, h => .inl ⟨by simp, h⟩
  | i :: r, j, s, h => by
    unfold unlock at h
    split at h
    · rename_i xs k hi
      rcases set_get h with ⟨rfl, z, _⟩ | ⟨nij, z⟩
      · refine .inr ⟨by simp, .inl ?_⟩
        rcases unlock_get (lk := r) hi with ⟨_, q⟩ | ⟨_, ⟨ys, k', q1, q2⟩ | ⟨q1, _⟩⟩
        · exact ⟨xs, k, q, z⟩
        · cases q2
          exact ⟨xs, k', q1, by rw [z]; cases k' <;> rfl⟩
        · exact absurd rfl (q1 xs k)
      · rcases unlock_get (lk := r) z with ⟨q1, q2⟩ | ⟨q1, q2⟩
        · exact .inl ⟨by simp [q1, Ne.symm nij], q2⟩
        · exact .inr ⟨by simp [q1], q2⟩
    · rename_i no
      rcases unlock_get (lk := r) h with ⟨q1, q2⟩ | ⟨q1, q2⟩
      · by_cases hij : j = i
        · subst hij
          refine .inr ⟨by simp, .inr ⟨fun xs k z => ?_, q2⟩⟩
          subst z
          exact no xs k h
        · exact .inl ⟨by simp [q1, hij], q2⟩
      · exact .inr ⟨by simp [q1], q2⟩
/-- behind a loop: from ahead of the lock to behind the unlocking -/
theorem Step.unlock (s : Step K H0 σ F H ρ σ F1 H1 ρP) (l : LockOf ρP ρL lk) {F2 H2 : Hp} {σ2 : St} (t : Step K H0 σ F1 H1 ρL σ2 F2 H2 ρE) : Step K H0 σ F H ρ σ2 F2 H2 (unlock ρE lk) := by
  have e := t.env
  -- a locked slot at the end
  have lkd : ∀ {j : Nat}, j ∈ lk → ∀ {xs : List D} {k : Kd}, (k = .mine ∨ k = .lent) → ρP[j]? = some (.own xs k) → ρE[j]? = some (.own xs k.lock) ∧ σ2[j]? = σ[j]? := fun {j} hj {xs k} hk hp => by
    rcases l.back hp with ⟨q, _⟩ | ⟨_, ys, k', _, q1, q2⟩
    · exact absurd hj q
    · cases q1
      have n1 : k.lock ≠ .mine := fun z => lock_ne hk (.inl z)
      have n2 : k.lock ≠ .lent := fun z => lock_ne hk (.inr z)
      obtain ⟨t1, xs', t2, t3⟩ := t.lk j xs k.lock q2 n1
      rw [t3 n2] at t2
      exact ⟨t2, t1⟩
  have rng : ∀ {j : Nat} {s : Sl}, j ∈ lk → (∃ u, ρL[j]? = some u) → ∃ xs k, (k = Kd.mine ∨ k = Kd.lent) ∧ ρP[j]? = some (.own xs k) := fun {j s} hj ⟨u, hu⟩ => by
    rcases l.2 j u hu with ⟨q, _⟩ | ⟨_, xs, k, k1, k2, _⟩
    · exact absurd hj q
    · exact ⟨xs, k, k1, k2⟩
  have ownU : ∀ {a : Addr}, OwnAt σ2 (Wk.unlock ρE lk) a → OwnAt σ2 ρE a := fun {a} ⟨i, xs, k, h1, h2⟩ => by
    rcases unlock_get h1 with ⟨_, q⟩ | ⟨_, ⟨ys, k', q1, q2⟩ | ⟨q1, q2⟩⟩
    · exact ⟨i, xs, k, q, h2⟩
    · exact ⟨i, ys, k', q1, h2⟩
    · exact absurd rfl (q1 xs k)
  have ownE : ∀ {i : Nat} {xs : List D} {k : Kd}, (Wk.unlock ρE lk)[i]? = some (.own xs k) → ∃ k', ρE[i]? = some (.own xs k') ∧ (k = .mine ∨ k = .lockM → k' = .mine ∨ k' = .lockM) := fun {i xs k} h => by
    rcases unlock_get h with ⟨_, q⟩ | ⟨_, ⟨ys, k', q1, q2⟩ | ⟨q1, q2⟩⟩
    · exact ⟨k, q, fun z => z⟩
    · cases q2
      refine ⟨k', q1, fun z => ?_⟩
      cases k' <;> first | exact .inl rfl | exact .inr rfl | (rcases z with z | z <;> cases z)
    · exact absurd rfl (q1 xs k)
  refine ⟨subH_trans s.fz t.fz, fun a o h n => ?_, fun a h => s.dm a (t.dm a h), fun a h m n => ?_, fun a h => ?_, fun i xs k h nk => ?_, ⟨e.sub, by rw [unlock_len]; exact e.len, fun i d h => ?_, fun i xs k h => ?_, fun i j a xs ys k k' h1 h2 => ?_, e.dom⟩⟩
  · have n1 : ¬ OwnAt σ ρP a := fun z => (s.ow a z).elim n fun w => by rw [h] at w; cases w
    exact t.hp a o (s.hp a o h n) fun z => n1 (l.own.mp z)
  · have n1 : ¬ OwnAt σ ρP a := fun z => (s.ow a z).elim n m
    exact t.nf a (s.nf a h m n) (fun z => m (s.dm a z)) fun z => n1 (l.own.mp z)
  · rcases t.ow a (ownU h) with z | z
    · exact s.ow a (l.own.mp z)
    · exact .inr (s.dm a z)
  · obtain ⟨s1, xs1, s2, s3⟩ := s.lk i xs k h nk
    rcases l.back s2 with ⟨q1, q2⟩ | ⟨q1, ys, k', k1, q2, q3⟩
    · obtain ⟨t1, xs2, t2, t3⟩ := t.lk i xs1 k q2 nk
      have hlt : i < (Wk.unlock ρE lk).length := by rw [unlock_len]; exact (List.getElem?_eq_some_iff.mp t2).1
      refine ⟨t1.trans s1, ?_⟩
      rcases unlock_get (List.getElem?_eq_getElem hlt) with ⟨_, w⟩ | ⟨w, _⟩
      · rw [t2] at w
        exact ⟨xs2, by rw [List.getElem?_eq_getElem hlt, ← w], fun z => (t3 z).trans (s3 z)⟩
      · exact absurd w q1
    · cases q2
      obtain ⟨w1, w2⟩ := lkd q1 k1 s2
      have hlt : i < (Wk.unlock ρE lk).length := by rw [unlock_len]; exact (List.getElem?_eq_some_iff.mp w1).1
      refine ⟨w2.trans s1, ?_⟩
      rcases unlock_get (List.getElem?_eq_getElem hlt) with ⟨w, _⟩ | ⟨_, ⟨ys', k'', r1, r2⟩ | ⟨r1, r2⟩⟩
      · exact absurd q1 w
      · rw [w1] at r1
        cases r1
        exact ⟨xs1, by rw [List.getElem?_eq_getElem hlt, r2, lock_open k1], s3⟩
      · rw [w1] at r2
        exact absurd (Option.some.inj r2).symm (r1 _ _)
  · rcases unlock_get h with ⟨_, q⟩ | ⟨_, ⟨ys, k', q1, q2⟩ | ⟨q1, q2⟩⟩
    · exact e.val i d q
    · cases q2
    · exact e.val i d q2
  · obtain ⟨k', q1, q2⟩ := ownE h
    obtain ⟨a, vs, w1, w2, w3, w4, w5⟩ := e.own i xs k' q1
    exact ⟨a, vs, w1, w2, w3, w4, fun z => w5 (q2 z)⟩
  · obtain ⟨l1, q1, _⟩ := ownE h1
    obtain ⟨l2, q2, _⟩ := ownE h2
    exact e.sep i j a _ _ _ _ q1 q2
theorem RvOk.unlock {Hs : Hp} {v : V} {r : RV} (h : RvOk K H0 Hs F σ H ρE v r) : RvOk K H0 Hs F σ H (Wk.unlock ρE lk) v r := by
  cases r with
  | val d => exact h
  | tmp xs =>
    obtain ⟨a, vs, h1, h2, h3, h4, h5, h6⟩ := h
    refine ⟨a, vs, h1, h2, h3, h4, fun ⟨i, ys, k, g1, g2⟩ => h5 ?_, h6⟩
    rcases unlock_get g1 with ⟨_, q⟩ | ⟨_, ⟨zs, k', q1, q2⟩ | ⟨q1, q2⟩⟩
    · exact ⟨i, ys, k, q, g2⟩
    · exact ⟨i, zs, k', q1, g2⟩
    · exact absurd rfl (q1 ys k)
  | sl i => exact h
end

/-! ### a walked list or tuple -/
structure SrcOk (p : Par) (isL : Bool) (a : Addr) (ds : List D) (G : Hp → St → Hp → Fm → Prop) : Prop where
  sq : ∀ F σ H ρ, EnvOk p.K p.H0 F σ H ρ → G F σ H ρ → ∃ vs, (if isL = true then SqL p.K H a vs else SqT p.K H a vs) ∧ DqAll p.K F vs ds
  keep : ∀ σ F H ρ σ' F' H' ρ', Stp p σ F H ρ σ' F' H' ρ' → G F σ H ρ → G F' σ' H' ρ'
  lck : ∀ F σ H ρ ρL lk, LockOf ρ ρL lk → G F σ H ρ → G F σ H ρL
section
variable {p : Par} {σ : St} {F H Hs : Hp} {ρ ρL : Fm} {v : V} {r : RV} {ds : List D} {lk : List Nat}
theorem src_val {d : D} (h : Dq p.K F v d) (hd : d = .list ds) : ∃ a, v = .ref a ∧ ∃ G, SrcOk p true a ds G ∧ G F σ H ρ := by
  subst hd
  cases h with
  | @lst a vs _ h1 h2 =>
    refine ⟨a, rfl, fun F _ _ _ => ∃ vs, Lx p.K F a vs ∧ DqAll p.K F vs ds, ⟨fun F σ H ρ e ⟨ws, w1, w2⟩ => ⟨ws, ?_, w2⟩, fun _ _ _ _ _ _ _ _ s ⟨ws, w1, w2⟩ => ⟨ws, lx_mono s.fz w1, dqAll_mono s.fz _ _ w2⟩, fun _ _ _ _ _ _ _ h => h⟩, ⟨vs, h1, h2⟩⟩
    rw [if_pos rfl]
    exact lx_sq (lx_mono e.sub w1)
theorem src_tup {d : D} (h : Dq p.K F v d) (hd : d = .tuple ds) : ∃ a, v = .ref a ∧ ∃ G, SrcOk p false a ds G ∧ G F σ H ρ := by
  subst hd
  cases h with
  | @tup a vs _ h1 h2 =>
    refine ⟨a, rfl, fun F _ _ _ => ∃ vs, SqT p.K F a vs ∧ DqAll p.K F vs ds, ⟨fun F σ H ρ e ⟨ws, w1, w2⟩ => ⟨ws, ?_, w2⟩, fun _ _ _ _ _ _ _ _ s ⟨ws, w1, w2⟩ => ⟨ws, sqT_mono s.fz w1, dqAll_mono s.fz _ _ w2⟩, fun _ _ _ _ _ _ _ h => h⟩, ⟨vs, h1, h2⟩⟩
    rw [if_neg (by decide)]
    exact sqT_mono e.sub w1
theorem src_own {i : Nat} {a : Addr} {k : Kd} (k1 : k ≠ .mine) (k2 : k ≠ .lent) (hi : ρ[i]? = some (.own ds k)) (ha : σ[i]? = some (some (V.ref a))) : ∃ G, SrcOk p true a ds G ∧ G F σ H ρ := by
  refine ⟨fun _ σ _ ρ => σ[i]? = some (some (V.ref a)) ∧ ∃ k, k ≠ Kd.mine ∧ k ≠ Kd.lent ∧ ρ[i]? = some (.own ds k), ⟨fun F σ H ρ e ⟨w1, k, w2, w3, w4⟩ => ?_, fun σ F H ρ σ' F' H' ρ' s ⟨w1, k, w2, w3, w4⟩ => ?_, fun F σ H ρ ρL lk l ⟨w1, k, w2, w3, w4⟩ => ?_⟩, ⟨ha, k, k1, k2, hi⟩⟩
  · obtain ⟨b, vs, z1, z2, z3, _⟩ := e.own i ds k w4
    rw [w1] at z1
    cases z1
    exact ⟨vs, by rw [if_pos rfl]; exact SqL.of z2, z3⟩
  · obtain ⟨t1, xs, t2, t3⟩ := s.lk i ds k w4 w2
    rw [t3 w3] at t2
    exact ⟨t1.trans w1, k, w2, w3, t2⟩
  · rcases l.back w4 with ⟨_, q⟩ | ⟨_, xs, k', q1, q2, _⟩
    · exact ⟨w1, k, w2, w3, q⟩
    · cases q2
      exact absurd q1 (fun z => z.elim w2 w3)
theorem src_tmp (h : RvOk p.K p.H0 Hs F σ H ρ v (.tmp ds)) : ∃ a, v = .ref a ∧ ∃ G, SrcOk p true a ds G ∧ G F σ H ρ := by
  obtain ⟨a, vs, rfl, h1, h2, h3, h4, _⟩ := h
  refine ⟨a, rfl, fun F σ H ρ => ∃ vs, H a = some (.lst vs) ∧ DqAll p.K F vs ds ∧ ¬ OwnAt σ ρ a, ⟨fun F σ H ρ e ⟨ws, w1, w2, _⟩ => ⟨ws, by rw [if_pos rfl]; exact SqL.of w1, w2⟩, fun σ F H ρ σ' F' H' ρ' s ⟨ws, w1, w2, w3⟩ => ⟨ws, s.hp a _ w1 w3, dqAll_mono s.fz _ _ w2, fun z => (s.ow a z).elim w3 fun q => by rw [w1] at q; cases q⟩,
    fun F σ H ρ ρL lk l ⟨ws, w1, w2, w3⟩ => ⟨ws, w1, w2, fun z => w3 (l.own.mp z)⟩⟩, ⟨vs, h1, h2, h4⟩⟩
theorem lockR_ok (e : EnvOk p.K p.H0 F σ H ρ) (h : RvOk p.K p.H0 Hs F σ H ρ v r) (q : lockR r ρ = some (ds, ρL, lk)) : LockOf ρ ρL lk ∧ ∃ isL a, kindR r ρ = some isL ∧ v = .ref a ∧ ∃ G, SrcOk p isL a ds G ∧ G F σ H ρL := by
  cases r with
  | val d =>
    cases d <;> try (simp [lockR] at q; done)
    · simp only [lockR, Option.some.injEq, Prod.mk.injEq] at q
      obtain ⟨rfl, rfl, rfl⟩ := q
      obtain ⟨a, h1, G, h2⟩ := src_val (σ := σ) (H := H) (ρ := ρ) h rfl
      exact ⟨.refl _, true, a, rfl, h1, G, h2⟩
    · simp only [lockR, Option.some.injEq, Prod.mk.injEq] at q
      obtain ⟨rfl, rfl, rfl⟩ := q
      obtain ⟨a, h1, G, h2⟩ := src_tup (σ := σ) (H := H) (ρ := ρ) h rfl
      exact ⟨.refl _, false, a, rfl, h1, G, h2⟩
  | tmp xs =>
    simp only [lockR, Option.some.injEq, Prod.mk.injEq] at q
    obtain ⟨rfl, rfl, rfl⟩ := q
    obtain ⟨a, h1, G, h2⟩ := src_tmp h
    exact ⟨.refl _, true, a, rfl, h1, G, h2⟩
  | sl i =>
    have h : σ[i]? = some (some v) := h
    unfold lockR at q
    dsimp only at q
    unfold kindR
    dsimp only
    split at q
    · rename_i xs hd
      simp only [Option.some.injEq, Prod.mk.injEq] at q
      obtain ⟨rfl, rfl, rfl⟩ := q
      obtain ⟨w, w1, w2⟩ := e.val i _ hd
      rw [h] at w1
      cases w1
      obtain ⟨a, h1, G, h2⟩ := src_val (σ := σ) (H := H) (ρ := ρ) w2 rfl
      exact ⟨.refl _, true, a, rfl, h1, G, h2⟩
    · rename_i xs hd
      simp only [Option.some.injEq, Prod.mk.injEq] at q
      obtain ⟨rfl, rfl, rfl⟩ := q
      obtain ⟨w, w1, w2⟩ := e.val i _ hd
      rw [h] at w1
      cases w1
      obtain ⟨a, h1, G, h2⟩ := src_tup (σ := σ) (H := H) (ρ := ρ) w2 rfl
      exact ⟨.refl _, false, a, rfl, h1, G, h2⟩
    · rename_i xs k hd
      obtain ⟨a, vs, w1, w2, w3, _⟩ := e.own i xs k hd
      rw [h] at w1
      cases w1
      have ilt : i < ρ.length := (List.getElem?_eq_some_iff.mp hd).1
      split at q
      · rename_i hk
        simp only [Option.some.injEq, Prod.mk.injEq] at q
        obtain ⟨rfl, rfl, rfl⟩ := q
        have l : LockOf ρ (ρ.set i (.own xs k.lock)) [i] := ⟨by rw [List.length_set], fun j s hj => by
          rcases set_get hj with ⟨rfl, z, _⟩ | ⟨n, z⟩
          · exact .inr ⟨by simp, xs, k, hk, hd, z⟩
          · exact .inl ⟨by simpa using Ne.symm n, z⟩⟩
        obtain ⟨G, g⟩ := src_own (p := p) (F := F) (H := H) (i := i) (σ := σ) (ρ := ρ.set i (.own xs k.lock)) (ds := xs) (a := a) (k := k.lock) (fun z => lock_ne hk (.inl z)) (fun z => lock_ne hk (.inr z)) (List.getElem?_set_self ilt) h
        exact ⟨l, true, a, rfl, rfl, G, g⟩
      · rename_i hk
        simp only [Option.some.injEq, Prod.mk.injEq] at q
        obtain ⟨rfl, rfl, rfl⟩ := q
        obtain ⟨G, g⟩ := src_own (p := p) (F := F) (H := H) (i := i) (σ := σ) (ρ := ρ) (ds := xs) (a := a) (k := k) (fun z => hk (.inl z)) (fun z => hk (.inr z)) hd h
        exact ⟨.refl _, true, a, rfl, rfl, G, g⟩
    · cases q
end

/-! ### a walk -/
structure ItOk (p : Par) (J : It) (ds : List D) (G : Hp → St → Hp → Fm → Prop) : Prop where
  go : ∀ i F σ H ρ, i < ds.length → EnvOk p.K p.H0 F σ H ρ → G F σ H ρ → J.go i H
  stop : ∀ F σ H ρ, EnvOk p.K p.H0 F σ H ρ → G F σ H ρ → J.stop ds.length H
  yld : ∀ i F σ H ρ x H', i < ds.length → EnvOk p.K p.H0 F σ H ρ → G F σ H ρ → J.yld i H x H' → ∃ F' d, Stp p σ F H ρ σ F' H' ρ ∧ ds[i]? = some d ∧ Dq p.K F' x d
  keep : ∀ σ F H ρ σ' F' H' ρ', Stp p σ F H ρ σ' F' H' ρ' → G F σ H ρ → G F' σ' H' ρ'
section
variable {p : Par} {a b : Addr} {ds es : List D} {G G2 : Hp → St → Hp → Fm → Prop}
theorem it_list (s : SrcOk p true a ds G) : ItOk p (Itl p.K a) ds G where
  go := fun i F σ H ρ hi e g => by
    obtain ⟨vs, h1, h2⟩ := s.sq F σ H ρ e g
    rw [if_pos rfl] at h1
    obtain ⟨v, hv, _⟩ := dqAll_get h2 (List.getElem?_eq_getElem hi)
    exact ⟨vs, v, h1, hv⟩
  stop := fun F σ H ρ e g => by
    obtain ⟨vs, h1, h2⟩ := s.sq F σ H ρ e g
    rw [if_pos rfl] at h1
    exact ⟨vs, h1, Nat.le_of_eq (dqAll_len h2)⟩
  yld := fun i F σ H ρ x H' hi e g y => by
    obtain ⟨vs, h1, h2⟩ := s.sq F σ H ρ e g
    rw [if_pos rfl] at h1
    obtain ⟨rfl, y2⟩ := y
    obtain ⟨d, hd, hx⟩ := dqAll_get' h2 (y2 vs h1)
    exact ⟨F, d, .refl e, hd, hx⟩
  keep := s.keep
theorem it_tup (s : SrcOk p false a ds G) : ItOk p (Itt p.K a) ds G where
  go := fun i F σ H ρ hi e g => by
    obtain ⟨vs, h1, h2⟩ := s.sq F σ H ρ e g
    rw [if_neg (by decide)] at h1
    obtain ⟨v, hv, _⟩ := dqAll_get h2 (List.getElem?_eq_getElem hi)
    exact ⟨vs, v, h1, hv⟩
  stop := fun F σ H ρ e g => by
    obtain ⟨vs, h1, h2⟩ := s.sq F σ H ρ e g
    rw [if_neg (by decide)] at h1
    exact ⟨vs, h1, Nat.le_of_eq (dqAll_len h2)⟩
  yld := fun i F σ H ρ x H' hi e g y => by
    obtain ⟨vs, h1, h2⟩ := s.sq F σ H ρ e g
    rw [if_neg (by decide)] at h1
    obtain ⟨rfl, y2⟩ := y
    obtain ⟨d, hd, hx⟩ := dqAll_get' h2 (y2 vs h1)
    exact ⟨F, d, .refl e, hd, hx⟩
  keep := s.keep
theorem it_rng (lo c : Int) (n : Nat) : ItOk p (Itc lo c n) (rangeL lo c n) (fun _ _ _ _ => True) where
  go := fun i F σ H ρ hi e g => by
    have : i < n := by simpa [rangeL] using hi
    exact this
  stop := fun F σ H ρ e g => by
    have : n ≤ (rangeL lo c n).length := by simp [rangeL]
    exact this
  yld := fun i F σ H ρ x H' hi e g y => by
    obtain ⟨rfl, rfl⟩ := y
    have hn : i < n := by simpa [rangeL] using hi
    refine ⟨F, .int (lo + (i : Nat) * c), .refl e, ?_, .int _⟩
    simp [rangeL, hn]
  keep := fun _ _ _ _ _ _ _ _ _ g => g
theorem it_rng1 (lo : Int) (n : Nat) : ItOk p (Itr lo n) (rangeL lo 1 n) (fun _ _ _ _ => True) where
  go := fun i F σ H ρ hi e g => by
    have : i < n := by simpa [rangeL] using hi
    exact this
  stop := fun F σ H ρ e g => by
    have : n ≤ (rangeL lo 1 n).length := by simp [rangeL]
    exact this
  yld := fun i F σ H ρ x H' hi e g y => by
    obtain ⟨rfl, rfl⟩ := y
    have hn : i < n := by simpa [rangeL] using hi
    refine ⟨F, .int (lo + (i : Nat)), .refl e, ?_, .int _⟩
    simp [rangeL, hn]
  keep := fun _ _ _ _ _ _ _ _ _ g => g
theorem zipD_get : ∀ {ds es : List D} {i : Nat} {x y : D}, ds[i]? = some x → es[i]? = some y → (zipD ds es)[i]? = some (.tuple [x, y])
  | a :: as, b :: bs, 0, x, y, h1, h2 => by
    simp at h1 h2
    subst h1 h2
    rfl
  | a :: as, b :: bs, i + 1, x, y, h1, h2 => zipD_get (ds := as) (es := bs) (i := i) (by simpa using h1) (by simpa using h2)
  | [], _, _, _, _, h1, _ => by simp at h1
  | _ :: _, [], _, _, _, _, h2 => by simp at h2
theorem zipD_len : ∀ {ds es : List D}, (zipD ds es).length = min ds.length es.length
  | [], es => by simp [zipD]
  | _ :: _, [] => by simp [zipD]
  | a :: as, b :: bs => by
    simp only [zipD, List.length_cons, zipD_len (ds := as) (es := bs)]
    omega
theorem pair_new {σ : St} {F H : Hp} {ρ : Fm} {T : Addr} {x y : V} {d e : D} (en : EnvOk p.K p.H0 F σ H ρ) (hT : H T = none) (h1 : Dq p.K F x d) (h2 : Dq p.K F y e) :
    Stp p σ F H ρ σ (upd F T (.tup [x, y])) (upd H T (.tup [x, y])) ρ ∧ Dq p.K (upd F T (.tup [x, y])) (.ref T) (.tuple [d, e]) :=
  ⟨(Step.refl en).newF hT, dq_newTup en.sub hT (.cons h1 (.cons h2 .nil))⟩
theorem it_zip (s : SrcOk p true a ds G) (t : SrcOk p true b es G2) : ItOk p (Itz p.K a b) (zipD ds es) (fun F σ H ρ => G F σ H ρ ∧ G2 F σ H ρ) where
  go := fun i F σ H ρ hi e g => by
    rw [zipD_len] at hi
    obtain ⟨vs, h1, h2⟩ := s.sq F σ H ρ e g.1
    obtain ⟨us, k1, k2⟩ := t.sq F σ H ρ e g.2
    rw [if_pos rfl] at h1 k1
    obtain ⟨v, hv, _⟩ := dqAll_get h2 (List.getElem?_eq_getElem (show i < ds.length by omega))
    obtain ⟨u, hu, _⟩ := dqAll_get k2 (List.getElem?_eq_getElem (show i < es.length by omega))
    exact ⟨vs, us, v, u, h1, k1, hv, hu⟩
  stop := fun F σ H ρ e g => by
    obtain ⟨vs, h1, h2⟩ := s.sq F σ H ρ e g.1
    obtain ⟨us, k1, k2⟩ := t.sq F σ H ρ e g.2
    rw [if_pos rfl] at h1 k1
    refine ⟨vs, us, h1, k1, ?_⟩
    rw [dqAll_len h2, dqAll_len k2, zipD_len]
    omega
  yld := fun i F σ H ρ x H' hi e g y => by
    obtain ⟨vs, h1, h2⟩ := s.sq F σ H ρ e g.1
    obtain ⟨us, k1, k2⟩ := t.sq F σ H ρ e g.2
    rw [if_pos rfl] at h1 k1
    obtain ⟨T, u, w, rfl, hT, rfl, y1, y2⟩ := y
    obtain ⟨d, hd, hx⟩ := dqAll_get' h2 (y1 vs h1)
    obtain ⟨d2, hd2, hx2⟩ := dqAll_get' k2 (y2 us k1)
    obtain ⟨q1, q2⟩ := pair_new e hT hx hx2
    exact ⟨_, _, q1, zipD_get hd hd2, q2⟩
  keep := fun _ _ _ _ _ _ _ _ st g => ⟨s.keep _ _ _ _ _ _ _ _ st g.1, t.keep _ _ _ _ _ _ _ _ st g.2⟩
theorem it_zipT (s : SrcOk p false a ds G) (t : SrcOk p false b es G2) : ItOk p (RZ.ItzT p.K a b) (zipD ds es) (fun F σ H ρ => G F σ H ρ ∧ G2 F σ H ρ) where
  go := fun i F σ H ρ hi e g => by
    rw [zipD_len] at hi
    obtain ⟨vs, h1, h2⟩ := s.sq F σ H ρ e g.1
    obtain ⟨us, k1, k2⟩ := t.sq F σ H ρ e g.2
    rw [if_neg (by decide)] at h1 k1
    obtain ⟨v, hv, _⟩ := dqAll_get h2 (List.getElem?_eq_getElem (show i < ds.length by omega))
    obtain ⟨u, hu, _⟩ := dqAll_get k2 (List.getElem?_eq_getElem (show i < es.length by omega))
    exact ⟨vs, us, v, u, h1, k1, hv, hu⟩
  stop := fun F σ H ρ e g => by
    obtain ⟨vs, h1, h2⟩ := s.sq F σ H ρ e g.1
    obtain ⟨us, k1, k2⟩ := t.sq F σ H ρ e g.2
    rw [if_neg (by decide)] at h1 k1
    refine ⟨vs, us, h1, k1, ?_⟩
    rw [dqAll_len h2, dqAll_len k2, zipD_len]
    omega
  yld := fun i F σ H ρ x H' hi e g y => by
    obtain ⟨vs, h1, h2⟩ := s.sq F σ H ρ e g.1
    obtain ⟨us, k1, k2⟩ := t.sq F σ H ρ e g.2
    rw [if_neg (by decide)] at h1 k1
    obtain ⟨T, u, w, rfl, hT, rfl, y1, y2⟩ := y
    obtain ⟨d, hd, hx⟩ := dqAll_get' h2 (y1 vs h1)
    obtain ⟨d2, hd2, hx2⟩ := dqAll_get' k2 (y2 us k1)
    obtain ⟨q1, q2⟩ := pair_new e hT hx hx2
    exact ⟨_, _, q1, zipD_get hd hd2, q2⟩
  keep := fun _ _ _ _ _ _ _ _ st g => ⟨s.keep _ _ _ _ _ _ _ _ st g.1, t.keep _ _ _ _ _ _ _ _ st g.2⟩
theorem enumD_get : ∀ {ds : List D} {n i : Nat} {x : D}, ds[i]? = some x → (enumD n ds)[i]? = some (.tuple [.int ((n + i : Nat) : Int), x])
  | a :: as, n, 0, x, h => by
    simp at h
    subst h
    rfl
  | a :: as, n, i + 1, x, h => by
    have := enumD_get (ds := as) (n := n + 1) (i := i) (x := x) (by simpa using h)
    have e : n + 1 + i = n + (i + 1) := by omega
    rw [e] at this
    exact this
  | [], _, _, _, h => by simp at h
theorem enumD_len : ∀ {ds : List D} {n : Nat}, (enumD n ds).length = ds.length
  | [], _ => rfl
  | a :: as, n => by simp [enumD, enumD_len (ds := as)]
theorem it_enum (s : SrcOk p true a ds G) : ItOk p (Ite p.K a) (enumD 0 ds) G where
  go := fun i F σ H ρ hi e g => by
    rw [enumD_len] at hi
    obtain ⟨vs, h1, h2⟩ := s.sq F σ H ρ e g
    rw [if_pos rfl] at h1
    obtain ⟨v, hv, _⟩ := dqAll_get h2 (List.getElem?_eq_getElem hi)
    exact ⟨vs, v, h1, hv⟩
  stop := fun F σ H ρ e g => by
    obtain ⟨vs, h1, h2⟩ := s.sq F σ H ρ e g
    rw [if_pos rfl] at h1
    exact ⟨vs, h1, Nat.le_of_eq (by rw [dqAll_len h2, enumD_len])⟩
  yld := fun i F σ H ρ x H' hi e g y => by
    obtain ⟨vs, h1, h2⟩ := s.sq F σ H ρ e g
    rw [if_pos rfl] at h1
    obtain ⟨T, u, rfl, hT, rfl, y1⟩ := y
    obtain ⟨d, hd, hx⟩ := dqAll_get' h2 (y1 vs h1)
    obtain ⟨q1, q2⟩ := pair_new e hT (.int ((i : Nat) : Int)) hx
    exact ⟨_, _, q1, by have := enumD_get (n := 0) hd; rwa [Nat.zero_add] at this, q2⟩
  keep := s.keep
end
end Wk

/-! The walk layer, part 9b: enumerate over a tuple. -/
namespace Wk
open PySem PySem.Spec L2 PyProof.Rows
section
variable {prog : Program} {w : World} {A : Around} {E : Value → Shared → Prop} {s : Shared}
theorem meets_en1 {v : Value} {o : Obj} {T : Heap → Prop} (B : Begins v o T) :
    Meets (Builtin.«enumerate.__new__» ⟨[.type "enumerate", v], []⟩) fun _ R s => T s.heap ∧
      R (.ok (.ret (.ref (s.heap.push o).objs.size))) { s with heap := (s.heap.push o).push ⟨.type "enumerate", none, .fields #[.none, .bool false, .ref s.heap.objs.size, rawInt 0, .none, .none], #[]⟩ } :=
  .of_wp fun prog w A R s h => by
    obtain ⟨hp, g, d, tk, os⟩ := s
    obtain ⟨h1, h⟩ := h
    have hsub := sub_enumerate
    have it1 : ∀ {A' : Around} {E : Value → Shared → Prop} {Q : Value → Shared → Prop}, Q (.ref hp.objs.size) ⟨hp.push o, g, d, tk, os⟩ → wpAny (model prog w) A' (pyIter v) Q E ⟨hp, g, d, tk, os⟩ :=
      fun z => B.iter prog w _ _ ⟨hp, g, d, tk, os⟩ _ h1 z
    wp_walk using it1
    refine wpAny_stack_any fun _ => wpAny_pure ?_
    split
    case h_1 =>
      rename_i c _ _ _ _ _
      cases (c == Value.type "enumerate") <;> (wp_walk using it1; exact ⟨_, rfl, h⟩)
    all_goals (wp_walk using it1; exact ⟨_, rfl, h⟩)
theorem call_en1 {v : Value} {o : Obj} {T : Heap → Prop} {Q : Value → Shared → Prop} (B : Begins v o T) (h1 : T s.heap)
    (h : ∀ h', IsEnum h' (s.heap.objs.size + 1) s.heap.objs.size 0 .none → h'.get? s.heap.objs.size = some o → (∀ b u, s.heap.get? b = some u → h'.get? b = some u) →
      Q (.ref (s.heap.objs.size + 1)) { s with heap := h' }) : wpAny (model prog w) A (call (.type "enumerate") [v]) Q E s := by
  refine callType_new F.called_enumerate (by decide) (F.typeCall_enumerate_1 _) (F.newCall_enumerate_1 _) (fun ob => F.args_object_init_2 ob _) F.entry_enumerate_new (meets_en1 B) ⟨h1, ?_⟩
  have hz : (s.heap.push o).objs.size = s.heap.objs.size + 1 := Heap.size_push ..
  refine ⟨⟨_, Heap.get?_push_size _ rfl, rfl⟩, ?_⟩
  · have he := Heap.get?_push_size (s.heap.push o) (o := ⟨.type "enumerate", none, .fields #[.none, .bool false, .ref s.heap.objs.size, rawInt 0, .none, .none], #[]⟩) rfl
    have hq := h _ (by rw [hz] at he; exact he) (Heap.get?_push_of_some _ (Heap.get?_push_size _ B.free)) fun b u x => Heap.get?_push_of_some _ (Heap.get?_push_of_some _ x)
    rw [← hz] at hq
    exact hq
end
/-- the tuple at a, each item in a new pair with its place -/
def IteT (K : PySem.W.Frag) (a : Addr) : It where
  go := fun i H => ∃ xs x, SqT K H a xs ∧ xs[i]? = some x
  yld := fun i H v H' => ∃ P x, v = .ref P ∧ H P = none ∧ H' = upd H P (.tup [.int (i : Nat), x]) ∧ ∀ ys, SqT K H a ys → ys[i]? = some x
  stop := fun i H => ∃ xs, SqT K H a xs ∧ xs.length ≤ i
theorem turn_enT {P : Program} {w : World} {K : PySem.W.Frag} {elts : List Expr} {kk : Nat} {tpos : Pos} (a e it : Addr) :
    Turn P w K (.Tuple elts kk tpos) (IteT K a) [e, it] e (fun i h => (∃ u, IsEnum h e it ((i : Nat) : Int) u) ∧ (h.IsTupleIter it a i ∧ e ≠ it)) where
  mem := List.mem_cons_self ..
  obj := fun i h st b hb => by
    obtain ⟨⟨u, he⟩, ⟨o, ho, _, hd⟩, _⟩ := st
    rcases List.mem_cons.mp hb with z | z
    · exact ⟨_, z ▸ he, fun _ q => by cases q⟩
    · exact ⟨o, List.mem_singleton.mp z ▸ ho, fun _ q => by rw [hd] at q; cases q⟩
  keep := fun i h h' st k => ⟨st.1.imp fun _ he => k e (by simp) _ he, st.2.1.at fun o q => k it (by simp) o q, st.2.2⟩
  item := fun X hP hw hK hc i pins s σ H E I hf st hg => by
    subst hP hw hK
    obtain ⟨⟨u, he⟩, hit, hne⟩ := st
    obtain ⟨xs, x, hq, hx⟩ := hg
    obtain ⟨its, rv, p, hz⟩ := I.tuple hq
    have p : s.heap.IsTuple a its.toArray := p
    obtain ⟨v, hv, rr⟩ := rv.get hx
    have hta : a ≠ it := fun z => by
      obtain ⟨o1, w1, _, w2⟩ := hit
      obtain ⟨o2, w3, _, n, w4⟩ := p
      rw [← z, w3] at w1
      cases w1
      rw [w4] at w2
      cases w2
    have hea : e ≠ a := fun z => by
      obtain ⟨o2, w3, _, n, w4⟩ := p
      have he' := he
      unfold IsEnum at he'
      rw [z, w3] at he'
      cases he'
      cases w4
    have hd1 : X.A.in1.handled = none := I.ok.hd hc
    have hlt : i < its.toArray.size := by
      have := (List.getElem?_eq_some_iff.mp hv).1
      simpa using this
    have hel := Heap.lt_size he
    have hil : it < s.heap.objs.size := by
      obtain ⟨_, q, _⟩ := hit
      exact Heap.lt_size q
    refine wpAny_pyNext_enum_itemC (Draws.tuple hd1 it a hta its.toArray) he ⟨hit, p⟩ hlt hne (by simp [hne, hea]) fun y h' tk hy ho st' hT hsz hk => ?_
    have hy : y = v := by
      have : its.toArray[i]? = some v := by simpa using hv
      rw [this] at hy
      exact (Option.some.inj hy).symm
    subst hy
    refine ⟨_, rfl, wpAny_letOwnedTupleGo_enum (s := ⟨h', s.gens, s.drawn, tk + 1, s.os⟩) ho fun h2 he2 sb => ?_⟩
    have nel : s.heap.objs.size ≠ e := Nat.ne_of_gt hel
    have nw : ObjOk X.prog X.w (upd H s.heap.objs.size (.tup [.int (i : Nat), x])) h2 s.heap.objs.size (.tup [.int (i : Nat), x]) :=
      ⟨show 2 ≤ sizeLine by decide, [.int i tk, y], .cons ⟨_, rfl⟩ (.cons rr .nil), ⟨_, (sb.2 _ nel).trans hT, rfl, _, rfl⟩⟩
    have J : Inv X pins σ (upd H s.heap.objs.size (.tup [.int (i : Nat), x])) ⟨h2, s.gens, s.drawn, tk + 1, s.os⟩ :=
      Inv.turnedNew (ch := [e, it]) I (fun b o hb q => by
        have n1 : b ≠ e := fun z => hb (by simp [z])
        have n2 : b ≠ it := fun z => hb (by simp [z])
        exact (sb.2 b n1).trans (hk b o n1 n2 q)) hf (Nat.le_refl _) nw
    have nx : ((i + 1 : Nat) : Int) = (i : Int) + 1 := by omega
    refine ⟨.ref s.heap.objs.size, _, J, rfl, ⟨_, x, rfl, I.hok.fresh (Nat.le_refl _), rfl, fun ys hy => by rw [I.tuple_inj hy hq]; exact hx⟩, ⟨⟨y, nx ▸ he2⟩, st'.1.at fun o q => (sb.2 it (Ne.symm hne)).trans q, hne⟩, fun b hb => ?_⟩
    have hb2 : b < s.heap.objs.size := by
      rcases List.mem_cons.mp hb with z | z
      · exact z ▸ hel
      · exact List.mem_singleton.mp z ▸ hil
    exact (upd_ne (Nat.ne_of_lt hb2)).trans (hf b hb).1
  done := fun X hP hw hK hc i pins s σ H E I hf st hg => by
    subst hP hw hK
    obtain ⟨⟨u, he⟩, hit, hne⟩ := st
    obtain ⟨xs, hq, hx⟩ := hg
    obtain ⟨its, rv, p, hz⟩ := I.tuple hq
    have p : s.heap.IsTuple a its.toArray := p
    obtain ⟨f0, f1, f2, f3, f4, f5⟩ := hf it (by simp)
    have hd1 : X.A.in1.handled = none := I.ok.hd hc
    have hl := rv.length
    unfold pyNext
    have hT : s.TypeIs (.ref e) "enumerate" := ⟨_, he, rfl⟩
    refine wpAny_bind (wpAny_attempt (wpAny_callSpecial?_slot (name := Str.ofString "__next__") hT F.slot_enumerate_next (wpAny_call_entry F.slot_enumerate_next hT F.entry_enumerate_next ?_ (F.args_enumerate_next_1 _))))
    show wpAny _ _ (field (.ref e) 2 >>= _) _ _ _
    refine wpAny_bind (wpAny_field he rfl (x := .ref it) rfl (wpAny_bind (wpAny_nextOf_tuple_end hd1 hit p (by simp; omega) fun h' y xb xc => ?_)))
    obtain ⟨o, ho, hc⟩ := xc
    refine wpAny_bind (wpAny_isInstance (T := "StopIteration") (b := true) ⟨o, ho, hc⟩ isSubtype_stop (wpAny_pure ⟨rfl, ?_⟩))
    exact I.turned (t' := s.toks) (fun b u hb q => xb b u hb q) f0 f1 f3 f4 f5
  self := fun A i s Q E st h => let ⟨⟨_, he⟩, _⟩ := st; wpAny_pyIter_enum he h
def iEnT (K : PySem.W.Frag) (ta : TA) : TI := fun σ H R => ta σ H fun vs H1 => ∃ a, vs = [.ref a] ∧ (((∃ xs, SqL K H1 a xs) ∧ R (Ite K a) H1) ∨ ((∃ xs, SqT K H1 a xs) ∧ R (IteT K a) H1))
theorem pi_enT {X : Cx} {e : Expr} {ta : TA} {p pos tpos : Pos} {elts : List Expr} {kk : Nat} (hg : Gl X "enumerate") (hm : X.mg "enumerate" = none) (ha : PA X [e] ta) (hs : starEach [e] X.env = [(false, eval e X.env)]) :
    PI X (.Tuple elts kk tpos) (.Call (.Name "enumerate" p) [e] [] pos) (iEnT X.K ta) := by
  refine ⟨fun pins s σ H R I h => Call_ (ld_blt I hg hm boot_enumerate (PyProof.Rows.callWith_type1 (thn (ha.run pos pins s σ H _ I h) fun us s1 q1 => ?_) hs rfl))⟩
  obtain ⟨vs, H1, I1, r1, a, ex, q⟩ := q1
  subst ex
  cases r1 with
  | cons r rr =>
    cases rr
    cases r
    have fp : ∀ b ∈ [s1.heap.objs.size + 1, s1.heap.objs.size], FpOk X pins H1 b := fun b hb => by
      have le : s1.heap.objs.size ≤ b := by
        rcases List.mem_cons.mp hb with z | z
        · exact z ▸ Nat.le_succ _
        · exact Nat.le_of_eq (List.mem_singleton.mp z).symm
      exact I1.fpOk le (I1.hok.fresh le)
    rcases q with ⟨⟨xs, hq⟩, q⟩ | ⟨⟨xs, hq⟩, q⟩
    · obtain ⟨its, rv, pl, hz⟩ := I1.list hq
      exact call_enumerate_list pl.isList fun h' he hit _ hk => wpAny_pyIter_enum he ⟨_, _, _, _, H1, rfl, I1.kept (t' := s1.toks) hk, turn_enum a (s1.heap.objs.size + 1) s1.heap.objs.size, ⟨⟨.none, he⟩, hit, Nat.succ_ne_self _⟩, fp, q⟩
    · obtain ⟨its, rv, pl, hz⟩ := I1.tuple hq
      have pl : s1.heap.IsTuple a its.toArray := pl
      exact call_en1 (begins_tuple a its.toArray) pl fun h' he hit hk => wpAny_pyIter_enum he ⟨_, _, _, _, H1, rfl, I1.kept (t' := s1.toks) hk, turn_enT a (s1.heap.objs.size + 1) s1.heap.objs.size, ⟨⟨.none, he⟩, ⟨_, hit, rfl, rfl⟩, Nat.succ_ne_self _⟩, fp, q⟩
section
variable {p : Par} {a b : Addr} {ds es : List D} {G : Hp → L2.St → Hp → Fm → Prop}
theorem it_enT (s : SrcOk p false a ds G) : ItOk p (IteT p.K a) (enumD 0 ds) G where
  go := fun i F σ H ρ hi e g => by
    rw [enumD_len] at hi
    obtain ⟨vs, h1, h2⟩ := s.sq F σ H ρ e g
    rw [if_neg (by decide)] at h1
    obtain ⟨v, hv, _⟩ := dqAll_get h2 (List.getElem?_eq_getElem hi)
    exact ⟨vs, v, h1, hv⟩
  stop := fun F σ H ρ e g => by
    obtain ⟨vs, h1, h2⟩ := s.sq F σ H ρ e g
    rw [if_neg (by decide)] at h1
    exact ⟨vs, h1, Nat.le_of_eq (by rw [dqAll_len h2, enumD_len])⟩
  yld := fun i F σ H ρ x H' hi e g y => by
    obtain ⟨vs, h1, h2⟩ := s.sq F σ H ρ e g
    rw [if_neg (by decide)] at h1
    obtain ⟨T, u, rfl, hT, rfl, y1⟩ := y
    obtain ⟨d, hd, hx⟩ := dqAll_get' h2 (y1 vs h1)
    obtain ⟨q1, q2⟩ := pair_new e hT (.int ((i : Nat) : Int)) hx
    exact ⟨_, _, q1, by have := enumD_get (n := 0) hd; rwa [Nat.zero_add] at this, q2⟩
  keep := s.keep
end
end Wk

/-! The walk layer, part 10: walks' readings, targets, comprehensions. -/
namespace Wk
open PySem PySem.Spec L2
section
variable {p : Par}
def tI (p : Par) (f : Fm → R Its) : TI := fun σ H R => ∃ F ρ, EnvOk p.K p.H0 F σ H ρ ∧ PX p σ F H ρ (f ρ) fun its ρL => ∀ F' H' J ρP G, Stp p σ F H ρ σ F' H' ρP → LockOf ρP ρL its.2 → ItOk p J its.1 G → G F' σ H' ρL → R J H'
theorem PI.weaken {X : Cx} {tg e : Expr} {t t' : TI} (h : PI X tg e t) (w : ∀ σ H Q, t' σ H Q → t σ H Q) : PI X tg e t' := ⟨fun pins s σ H Q I q => h.run pins s σ H Q I (w σ H Q q)⟩
theorem plain_one {X : Cx} {a : Expr} (h : Plain X a) : starEach [a] X.env = [(false, eval a X.env)] := h []
theorem plain_two {X : Cx} {a b : Expr} (h : Plain X a) (h2 : Plain X b) : starEach [a, b] X.env = [(false, eval a X.env), (false, eval b X.env)] := by
  rw [h [b], h2 []] <;> rfl
variable {X : Cx} {tg a b c : Expr} {fa fb fc : Fm → R RV} {pos p1 : Pos} {hK : p.K = X.K}
include hK
theorem i_rng1 (hg : Gl X "range") (hm : X.mg "range" = none) (ha : PE X a (tE p fa)) (hp : Plain X a) : PI X tg (.Call (.Name "range" p1) [a] [] pos) (tI p fun ρ => (fa ρ).bind fun r ρ1 => (pk r ρ1 asInt).bind fun j _ => lift (guardO (rngB j) (rangeL 0 1 j.toNat, [])) ρ1) :=
  PI.weaken (pi_range1 hg hm (pa_cons ha pa_nil (hp [])) (plain_one hp)) fun σ H Q h => by
    obtain ⟨F, ρ, e, h⟩ := h
    refine tG_seq (.refl e) h fun F1 H1 ρ1 r1 x _ s1 v1 h => ?_
    obtain ⟨d, j, k1, e1, h⟩ := post_pk s1 v1 h
    obtain ⟨r, er, h⟩ := post_lift h
    obtain ⟨g, er⟩ := guardO_some er
    subst er
    obtain ⟨g1, g2⟩ := ba2 g
    refine ⟨j, by rw [asInt_pk (hK := hK) k1 e1], of_decide_eq_true g1, of_decide_eq_true g2, ?_⟩
    exact h F1 H1 _ ρ1 _ s1 (.refl _) (it_rng1 0 j.toNat) trivial
theorem i_rng2 (hg : Gl X "range") (hm : X.mg "range" = none) (ha : PE X a (tE p fa)) (hb : PE X b (tE p fb)) (hp : Plain X a) (hq : Plain X b) :
    PI X tg (.Call (.Name "range" p1) [a, b] [] pos) (tI p fun ρ => (fa ρ).bind fun r ρ1 => (pk r ρ1 asInt).bind fun i _ => (fb ρ1).bind fun r2 ρ2 => (pk r2 ρ2 asInt).bind fun j _ => lift (guardO (rngB i && rngB j) (rangeL i 1 (j - i).toNat, [])) ρ2) :=
  PI.weaken (pi_range2 hg hm (pa_cons ha (pa_cons hb pa_nil (hq [])) (hp [b])) (plain_two hp hq) (plain_one hq)) fun σ H Q h => by
    obtain ⟨F, ρ, e, h⟩ := h
    refine tG_seq (.refl e) h fun F1 H1 ρ1 r1 x _ s1 v1 h => ?_
    obtain ⟨d, i, k1, e1, h⟩ := post_pk s1 v1 h
    refine tG_seq s1 h fun F2 H2 ρ2 r2 y s12 s2 v2 h => ?_
    obtain ⟨d2, j, k2, e2, h⟩ := post_pk s2 v2 h
    obtain ⟨r, er, h⟩ := post_lift h
    obtain ⟨g, er⟩ := guardO_some er
    subst er
    obtain ⟨g1, g2⟩ := ba2 g
    obtain ⟨g3, g4⟩ := ba2 g1
    obtain ⟨g5, g6⟩ := ba2 g2
    refine ⟨i, j, by rw [asInt_pk (hK := hK) k1 e1, asInt_pk (hK := hK) k2 e2], ⟨of_decide_eq_true g3, of_decide_eq_true g4, of_decide_eq_true g5, of_decide_eq_true g6⟩, ?_⟩
    exact h F2 H2 _ ρ2 _ s2 (.refl _) (it_rng1 i (j - i).toNat) trivial
theorem i_rng3 (hg : Gl X "range") (hm : X.mg "range" = none) (ha : PE X a (tE p fa)) (hb : PE X b (tE p fb)) (hc : PE X c (tE p fc)) (hp : Plain X a) (hq : Plain X b) (hr : Plain X c) :
    PI X tg (.Call (.Name "range" p1) [a, b, c] [] pos) (tI p fun ρ => (fa ρ).bind fun r ρ1 => (pk r ρ1 asInt).bind fun i _ => (fb ρ1).bind fun r2 ρ2 => (pk r2 ρ2 asInt).bind fun j _ => (fc ρ2).bind fun r3 ρ3 => (pk r3 ρ3 asInt).bind fun k _ =>
      lift (guardO (Builtin.Range.small i j k && (decide (k ≠ 0) && decide (k.natAbs < 1073741824))) (rangeL i k (rngN i j k), [])) ρ3) :=
  PI.weaken (pi_range3 hg hm (pa_cons ha (pa_cons hb (pa_cons hc pa_nil (hr [])) (hq [c])) (hp [b, c])) (hp [b, c]) (by rw [hq [c], hr []] <;> rfl)) fun σ H Q h => by
    obtain ⟨F, ρ, e, h⟩ := h
    refine tG_seq (.refl e) h fun F1 H1 ρ1 r1 x _ s1 v1 h => ?_
    obtain ⟨d, i, k1, e1, h⟩ := post_pk s1 v1 h
    refine tG_seq s1 h fun F2 H2 ρ2 r2 y s12 s2 v2 h => ?_
    obtain ⟨d2, j, k2, e2, h⟩ := post_pk s2 v2 h
    refine tG_seq s2 h fun F3 H3 ρ3 r3 z s23 s3 v3 h => ?_
    obtain ⟨d3, k, k3, e3, h⟩ := post_pk s3 v3 h
    obtain ⟨r, er, h⟩ := post_lift h
    obtain ⟨g, er⟩ := guardO_some er
    subst er
    obtain ⟨g1, g2⟩ := ba2 g
    obtain ⟨g3, g4⟩ := ba2 g2
    refine ⟨i, j, k, rngN i j k, by rw [asInt_pk (hK := hK) k1 e1, asInt_pk (hK := hK) k2 e2, asInt_pk (hK := hK) k3 e3], ⟨of_decide_eq_true g3, of_decide_eq_true g4, g1, PyProof.Rows.rangeSize_toNat i j k⟩, ?_⟩
    exact h F3 H3 _ ρ3 _ s3 (.refl _) (it_rng i k (rngN i j k)) trivial
def iSeq (K : PySem.W.Frag) (tl : TE) : TI := fun σ H R => tl σ H fun x H1 => ∃ a, x = .ref a ∧ (((∃ xs, SqL K H1 a xs) ∧ R (Itl K a) H1) ∨ ((∃ xs, SqT K H1 a xs) ∧ R (Itt K a) H1))
omit hK in
theorem pi_seq {l : Expr} {tl : TE} (hl : PE X l tl) : PI X tg l (iSeq X.K tl) := by
  refine ⟨fun pins s σ H R I h => thn (hl.run pins s σ H _ I h) fun v s1 ⟨x, H1, I1, r1, q1⟩ => ?_⟩
  obtain ⟨a, ex, q1⟩ := q1
  subst ex
  have cst : ∀ (tl' : TE) , True := fun _ => trivial
  obtain rfl : v = Value.ref a := r1
  have fr : ∀ b, b ∈ [s1.heap.objs.size] → FpOk X pins H1 b := fun b hb => by
    rw [List.mem_singleton.mp hb]
    exact I1.fpOk (Nat.le_refl _) (I1.hok.fresh (Nat.le_refl _))
  have kp : ∀ {o : Obj} (b : Addr) (u : Obj), s1.heap.get? b = some u → (s1.heap.push o).get? b = some u := fun _ _ e => Heap.get?_push_of_some _ e
  rcases q1 with ⟨⟨xs, hq⟩, q⟩ | ⟨⟨xs, hq⟩, q⟩
  · obtain ⟨ws, _, pl, _⟩ := I1.list hq
    exact wpAny_pyIter_list pl.isList ⟨_, _, _, _, H1, rfl, I1.kept (t' := s1.toks) kp, turn_list a _, ⟨_, Heap.get?_push_size _ rfl, rfl, rfl⟩, fr, q⟩
  · obtain ⟨ws, _, pl, _⟩ := I1.tuple hq
    exact wpAny_pyIter_tuple (show s1.heap.IsTuple a ws.toArray from pl) ⟨_, _, _, _, H1, rfl, I1.kept (t' := s1.toks) kp, turn_tuple a _, ⟨_, Heap.get?_push_size _ rfl, rfl, rfl⟩, fr, q⟩
theorem i_seq (ha : PE X a (tE p fa)) : PI X tg a (tI p fun ρ => (fa ρ).bind fun r ρ1 => (match lockR r ρ1 with
    | some q => .ok (q.1, q.2.2) q.2.1
    | none => .no)) :=
  PI.weaken (pi_seq ha) fun σ H Q h => by
    obtain ⟨F, ρ, e, h⟩ := h
    refine tG_seq (.refl e) h fun F1 H1 ρ1 r1 x _ s1 v1 h => ?_
    split at h
    · rename_i q hq
      obtain ⟨ds, ρL, lk⟩ := q
      obtain ⟨l, isL, a', _, rfl, G, sG, g⟩ := lockR_ok s1.env v1 hq
      have eL := s1.env.lock l
      obtain ⟨vs, z1, z2⟩ := sG.sq F1 σ H1 ρL eL g
      refine ⟨a', rfl, ?_⟩
      cases isL with
      | true =>
        rw [if_pos rfl] at z1
        rw [hK] at z1
        exact .inl ⟨⟨vs, z1⟩, by have := h F1 H1 _ ρ1 G s1 l (it_list sG) g; rwa [hK] at this⟩
      | false =>
        rw [if_neg (by decide)] at z1
        rw [hK] at z1
        exact .inr ⟨⟨vs, z1⟩, by have := h F1 H1 _ ρ1 G s1 l (it_tup sG) g; rwa [hK] at this⟩
    · exact h.elim
theorem i_zip {elts : List Expr} {kk : Nat} {tpos : Pos} (hg : Gl X "zip") (hm : X.mg "zip" = none) (ha : PE X a (tE p fa)) (hb : PE X b (tE p fb)) (hp : Plain X a) (hq : Plain X b) :
    PI X (.Tuple elts kk tpos) (.Call (.Name "zip" p1) [a, b] [] pos) (tI p fun ρ => (fa ρ).bind fun r ρ1 => (fb ρ1).bind fun r2 ρ2 => (match lockR r ρ2 with
    | some u => (match lockR r2 u.2.1 with
      | some q => if kindR r ρ2 = kindR r2 ρ2 then .ok (zipD u.1 q.1, u.2.2 ++ q.2.2) q.2.1 else .no
      | none => .no)
    | none => .no)) :=
  PI.weaken (RZ.pi_zipA hg hm (pa_cons ha (pa_cons hb pa_nil (hq [])) (hp [b])) (hp [b]) (by rw [hq []] <;> rfl)) fun σ H Q h => by
    obtain ⟨F, ρ, e, h⟩ := h
    refine tG_seq (.refl e) h fun F1 H1 ρ1 r1 x _ s1 v1 h => ?_
    refine tG_seq s1 h fun F2 H2 ρ2 r2 y s12 s2 v2 h => ?_
    split at h
    · rename_i u hu
      obtain ⟨ds, ρL, lk⟩ := u
      split at h
      · rename_i w hw
        obtain ⟨es, ρM, lk2⟩ := w
        split at h
        · rename_i hkd
          obtain ⟨l, isL, a', kd1, rfl, G, sG, g⟩ := lockR_ok s2.env (RvOk.step v1 s12) hu
          have eL := s2.env.lock l
          obtain ⟨l2, isL2, b', kd2, rfl, G2, sG2, g2⟩ := lockR_ok eL (v2.lock l) hw
          have eM := eL.lock l2
          have gM := sG.lck _ _ _ _ _ _ l2 g
          obtain ⟨vs, z1, z2⟩ := sG.sq F2 σ H2 ρM eM gM
          obtain ⟨us, z3, z4⟩ := sG2.sq F2 σ H2 ρM eM g2
          have hk2 : kindR r2 ρL = kindR r2 ρ2 := by
            cases r2 with
            | val d => cases d <;> rfl
            | tmp d => rfl
            | sl i =>
              unfold kindR
              dsimp only
              cases ho : ρ2[i]? with
              | none =>
                have : ρL[i]? = none := by
                  rw [List.getElem?_eq_none_iff] at ho ⊢
                  rw [l.1]
                  exact ho
                rw [this]
              | some s0 =>
                rcases l.back ho with ⟨_, q⟩ | ⟨_, xs, k, _, q1, q2⟩
                · rw [q]
                · rw [q2, q1]
          rw [kd1, ← hk2, kd2] at hkd
          cases hkd
          refine ⟨a', b', vs, us, rfl, ?_⟩
          have hh := fun J => h F2 H2 J ρ2 (fun F σ H ρ => G F σ H ρ ∧ G2 F σ H ρ) s2 (l.trans l2)
          cases isL with
          | true =>
            rw [if_pos rfl] at z1 z3
            have h1 := hh _ (it_zip sG sG2) ⟨gM, g2⟩
            rw [hK] at z1 z3 h1
            exact .inl ⟨z1, z3, h1⟩
          | false =>
            rw [if_neg (by decide)] at z1 z3
            have h1 := hh _ (it_zipT sG sG2) ⟨gM, g2⟩
            rw [hK] at z1 z3 h1
            exact .inr ⟨z1, z3, h1⟩
        · exact h.elim
      · exact h.elim
    · exact h.elim
theorem i_enum {elts : List Expr} {kk : Nat} {tpos : Pos} (hg : Gl X "enumerate") (hm : X.mg "enumerate" = none) (ha : PE X a (tE p fa)) (hp : Plain X a) :
    PI X (.Tuple elts kk tpos) (.Call (.Name "enumerate" p1) [a] [] pos) (tI p fun ρ => (fa ρ).bind fun r ρ1 => (match lockR r ρ1 with
    | some q => .ok (enumD 0 q.1, q.2.2) q.2.1
    | none => .no)) :=
  PI.weaken (pi_enT hg hm (pa_cons ha pa_nil (hp [])) (plain_one hp)) fun σ H Q h => by
    obtain ⟨F, ρ, e, h⟩ := h
    refine tG_seq (.refl e) h fun F1 H1 ρ1 r1 x _ s1 v1 h => ?_
    split at h
    · rename_i q hq
      obtain ⟨ds, ρL, lk⟩ := q
      obtain ⟨l, isL, a', kd, rfl, G, sG, g⟩ := lockR_ok s1.env v1 hq
      have eL := s1.env.lock l
      obtain ⟨vs, z1, z2⟩ := sG.sq F1 σ H1 ρL eL g
      refine ⟨a', rfl, ?_⟩
      cases isL with
      | true =>
        rw [if_pos rfl] at z1
        have h1 := h F1 H1 _ ρ1 G s1 l (it_enum sG) g
        rw [hK] at z1 h1
        exact .inl ⟨⟨vs, z1⟩, h1⟩
      | false =>
        rw [if_neg (by decide)] at z1
        have h1 := h F1 H1 _ ρ1 G s1 l (it_enT sG) g
        rw [hK] at z1 h1
        exact .inr ⟨⟨vs, z1⟩, h1⟩
    · exact h.elim
end
end Wk

/-! The walk layer, part 11: reversed, targets, comprehensions. -/
namespace Wk
open PySem PySem.Spec L2
section
variable {p : Par} {a b : Addr} {ds es : List D} {G G2 : Hp → St → Hp → Fm → Prop}
theorem rev_get {α : Type} {l : List α} {i : Nat} (h : i < l.length) : l.reverse[i]? = l[l.length - 1 - i]? := by
  rw [List.getElem?_reverse h]
theorem it_rev (s : SrcOk p true a ds G) : ItOk p (Itv p.K a ds.length) ds.reverse G where
  go := fun i F σ H ρ hi e g => by
    rw [List.length_reverse] at hi
    obtain ⟨vs, h1, h2⟩ := s.sq F σ H ρ e g
    rw [if_pos rfl] at h1
    obtain ⟨v, hv, _⟩ := dqAll_get h2 (List.getElem?_eq_getElem (show ds.length - 1 - i < ds.length by omega))
    exact ⟨hi, vs, v, h1, hv⟩
  stop := fun F σ H ρ e g => by
    show ds.length ≤ _
    rw [List.length_reverse]
    exact Nat.le_refl _
  yld := fun i F σ H ρ x H' hi e g y => by
    rw [List.length_reverse] at hi
    obtain ⟨vs, h1, h2⟩ := s.sq F σ H ρ e g
    rw [if_pos rfl] at h1
    obtain ⟨rfl, y2⟩ := y
    obtain ⟨d, hd, hx⟩ := dqAll_get' h2 (y2 vs h1)
    exact ⟨F, d, .refl e, by rw [rev_get hi]; exact hd, hx⟩
  keep := s.keep
theorem it_revT (s : SrcOk p false a ds G) : ItOk p (RT.ItvT p.K a ds.length) ds.reverse G where
  go := fun i F σ H ρ hi e g => by
    rw [List.length_reverse] at hi
    obtain ⟨vs, h1, h2⟩ := s.sq F σ H ρ e g
    rw [if_neg (by decide)] at h1
    obtain ⟨v, hv, _⟩ := dqAll_get h2 (List.getElem?_eq_getElem (show ds.length - 1 - i < ds.length by omega))
    exact ⟨hi, vs, v, h1, hv⟩
  stop := fun F σ H ρ e g => by
    show ds.length ≤ _
    rw [List.length_reverse]
    exact Nat.le_refl _
  yld := fun i F σ H ρ x H' hi e g y => by
    rw [List.length_reverse] at hi
    obtain ⟨vs, h1, h2⟩ := s.sq F σ H ρ e g
    rw [if_neg (by decide)] at h1
    obtain ⟨rfl, y2⟩ := y
    obtain ⟨d, hd, hx⟩ := dqAll_get' h2 (y2 vs h1)
    exact ⟨F, d, .refl e, by rw [rev_get hi]; exact hd, hx⟩
  keep := s.keep
end
section
variable {p : Par} {X : Cx} {tg a b c : Expr} {fa fb fc : Fm → R RV} {pos p1 : Pos} {hK : p.K = X.K}
include hK
theorem i_rev (hg : Gl X "reversed") (hm : X.mg "reversed" = none) (ha : PE X a (tE p fa)) (hp : Plain X a) : PI X tg (.Call (.Name "reversed" p1) [a] [] pos) (tI p fun ρ => (fa ρ).bind fun r ρ1 => (match lockR r ρ1 with
    | some q => .ok (q.1.reverse, q.2.2) q.2.1
    | none => .no)) :=
  PI.weaken (RT.pi_revA hg hm ha (hp [])) fun σ H Q h => by
    obtain ⟨F, ρ, e, h⟩ := h
    refine tG_seq (.refl e) h fun F1 H1 ρ1 r1 x _ s1 v1 h => ?_
    split at h
    · rename_i q hq
      obtain ⟨ds, ρL, lk⟩ := q
      obtain ⟨l, isL, a', _, rfl, G, sG, g⟩ := lockR_ok s1.env v1 hq
      have eL := s1.env.lock l
      obtain ⟨vs, z1, z2⟩ := sG.sq F1 σ H1 ρL eL g
      have ll := dqAll_len z2
      refine ⟨a', vs, rfl, ?_⟩
      cases isL with
      | true =>
        rw [if_pos rfl] at z1
        rw [hK] at z1
        exact .inl ⟨z1, by have := h F1 H1 _ ρ1 G s1 l (it_rev sG) g; rwa [hK, ← ll] at this⟩
      | false =>
        rw [if_neg (by decide)] at z1
        rw [hK] at z1
        exact .inr ⟨z1, by have := h F1 H1 _ ρ1 G s1 l (it_revT sG) g; rwa [hK, ← ll] at this⟩
    · exact h.elim
end
/-! ### targets -/
section
variable {K : PySem.W.Frag} {H0 F H : Hp} {σ : St} {ρ ρ' : Fm}
theorem free_not {i : Nat} {xs : List D} {k : Kd} (f : free? ρ[i]? = true) (h : ρ[i]? = some (.own xs k)) : k = .mine := by
  rw [h] at f
  exact of_decide_eq_true f
theorem setV_some {i : Nat} {d : D} (h : setV i d ρ = some ρ') : free? ρ[i]? = true ∧ ρ' = ρ.set i (.val d) ∧ i < ρ.length := by
  unfold setV at h
  split at h
  · rename_i f
    cases h
    refine ⟨f, rfl, ?_⟩
    cases q : ρ[i]? with
    | none => rw [q] at f; cases f
    | some s => exact (List.getElem?_eq_some_iff.mp q).1
  · cases h
theorem step_setV (e : EnvOk K H0 F σ H ρ) {i : Nat} {d : D} {v : V} (h : setV i d ρ = some ρ') (hv : Dq K F v d) : Step K H0 σ F H ρ (σ.set i (some v)) F H ρ' := by
  obtain ⟨f, rfl, hi⟩ := setV_some h
  have own : ∀ {j : Nat} {xs : List D} {k : Kd}, (ρ.set i (.val d))[j]? = some (.own xs k) → i ≠ j ∧ ρ[j]? = some (.own xs k) := fun {j xs k} q => by
    rcases set_get q with ⟨_, z, _⟩ | ⟨z, z2⟩
    · cases z
    · exact ⟨z, z2⟩
  refine ⟨fun _ _ q => q, fun _ _ q _ => q, fun _ q => q, fun _ q _ _ => q, fun a q => ?_, fun j xs k hj nk => ?_, ⟨e.sub, by rw [List.length_set, List.length_set]; exact e.len, fun j d' q => ?_, fun j xs k q => ?_, fun j l a xs ys k k' q1 q2 e1 e2 => ?_, e.dom⟩⟩
  · obtain ⟨j, xs, k, q1, q2⟩ := q
    obtain ⟨n, q3⟩ := own q1
    rw [List.getElem?_set_ne n] at q2
    exact .inl ⟨j, xs, k, q3, q2⟩
  · have n : i ≠ j := fun z => by
      subst z
      exact nk (free_not f hj)
    exact ⟨List.getElem?_set_ne n, xs, by rw [List.getElem?_set_ne n]; exact hj, fun _ => rfl⟩
  · rcases set_get q with ⟨rfl, z, _⟩ | ⟨n, z⟩
    · cases z
      exact ⟨v, List.getElem?_set_self (by rw [← e.len]; exact hi), hv⟩
    · rw [List.getElem?_set_ne n]
      exact e.val j d' z
  · obtain ⟨n, z⟩ := own q
    rw [List.getElem?_set_ne n]
    exact e.own j xs k z
  · obtain ⟨n, z⟩ := own q1
    obtain ⟨n2, z2⟩ := own q2
    rw [List.getElem?_set_ne n] at e1
    rw [List.getElem?_set_ne n2] at e2
    exact e.sep j l a xs ys k k' z z2 e1 e2
theorem freeSetV {i j : Nat} {d : D} (h : setV i d ρ = some ρ') : free? ρ[j]? = true → free? ρ'[j]? = true := fun f => by
  obtain ⟨_, rfl, hi⟩ := setV_some h
  by_cases n : i = j
  · subst n
    rw [List.getElem?_set_self hi]
    rfl
  · rw [List.getElem?_set_ne n]
    exact f
end
def Tgs.len : Tgs → Nat
  | .nil => 0
  | .cons _ ts => ts.len + 1
theorem asgTs_len : ∀ {ts : Tgs} {ds : List D} {ρ ρ' : Fm}, asgTs ts ds ρ = some ρ' → ds.length = ts.len
  | .nil, [], _, _, _ => rfl
  | .nil, _ :: _, _, _, h => by simp [asgTs] at h
  | .cons _ _, [], _, _, h => by simp [asgTs] at h
  | .cons t ts, d :: ds, ρ, ρ', h => by
    simp only [asgTs] at h
    obtain ⟨ρ1, a1, a2⟩ := bind_some h
    rw [List.length_cons, asgTs_len a2]
    rfl
/-- σ' is σ but for the slots of vs -/
def Agree (σ σ' : St) (vs : List Nat) : Prop := σ'.length = σ.length ∧ ∀ j, j ∉ vs → σ'[j]? = σ[j]?
theorem Agree.wipe {σ σ' : St} : ∀ {vs : List Nat}, Agree σ σ' vs → wipe σ' vs = wipe σ vs := by
  intro vs h
  apply List.ext_getElem?
  intro j
  by_cases hj : j ∈ vs
  · have key : ∀ (σ : St), (∀ x, (L2.wipe σ vs)[j]? ≠ some (some x)) := fun σ x z => (wipe_some z).2 hj
    have hl : (L2.wipe σ' vs).length = (L2.wipe σ vs).length := by rw [wipe_length, wipe_length, h.1]
    by_cases hlt : j < (L2.wipe σ vs).length
    · have hlt' : j < (L2.wipe σ' vs).length := by rw [hl]; exact hlt
      have h1 := key σ
      have h2 := key σ'
      rw [List.getElem?_eq_getElem hlt] at h1 ⊢
      rw [List.getElem?_eq_getElem hlt'] at h2 ⊢
      cases q1 : (L2.wipe σ vs)[j] with
      | some x => exact absurd (by rw [q1]) (h1 x)
      | none =>
        cases q2 : (L2.wipe σ' vs)[j] with
        | some x => exact absurd (by rw [q2]) (h2 x)
        | none => rfl
    · rw [List.getElem?_eq_none (by omega), List.getElem?_eq_none (by omega)]
  · rw [wipe_out hj, wipe_out hj, h.2 j hj]
theorem Agree.refl (σ : St) (vs : List Nat) : Agree σ σ vs := ⟨rfl, fun _ _ => rfl⟩
theorem Agree.trans {σ σ1 σ2 : St} {vs ws us : List Nat} (h : Agree σ σ1 vs) (h2 : Agree σ1 σ2 ws) (s1 : ∀ j ∈ vs, j ∈ us) (s2 : ∀ j ∈ ws, j ∈ us) : Agree σ σ2 us :=
  ⟨h2.1.trans h.1, fun j hj => (h2.2 j fun z => hj (s2 j z)).trans (h.2 j fun z => hj (s1 j z))⟩
section
variable (p : Par)
def gW (t : Tg) : TG := fun v σ H Q => ∃ F ρ d ρ', EnvOk p.K p.H0 F σ H ρ ∧ Dq p.K F v d ∧ asgT t d ρ = some ρ' ∧ ∀ σ', Stp p σ F H ρ σ' F H ρ' → Agree σ σ' t.slots → Q σ' H
def gsW (t : Tgs) : TGs := fun vs σ H Q => ∃ F ρ ds ρ', EnvOk p.K p.H0 F σ H ρ ∧ DqAll p.K F vs ds ∧ asgTs t ds ρ = some ρ' ∧ ∀ σ', Stp p σ F H ρ σ' F H ρ' → Agree σ σ' t.slots → Q σ' H
end
theorem PG.weaken {X : Cx} {e : Expr} {t t' : TG} (h : PG X e t) (w : ∀ v σ H Q, t' v σ H Q → t v σ H Q) : PG X e t' := ⟨fun pins s σ H v u Q I r q => h.run pins s σ H v u Q I r (w v σ H Q q)⟩
theorem PGs.weaken {X : Cx} {e : List Expr} {t t' : TGs} (h : PGs X e t) (w : ∀ v σ H Q, t' v σ H Q → t v σ H Q) : PGs X e t' := ⟨fun pins s σ H v u Q I r q => h.run pins s σ H v u Q I r (w v σ H Q q)⟩
section
variable {p : Par} {X : Cx} {tg : Expr} {pos : Pos} {hK : p.K = X.K}
theorem g_name {i : Nat} {x : Str} (hN : X.N.Nodup) (hi : X.N[i]? = some x) (hx : Loc X.env.scope x) (hf : X.fn x = true ∨ X.env.scope.names.lookup x = some .local) : PG X (.Name x pos) (gW p (.name i)) :=
  PG.weaken (pg_name hN hi hx hf) fun v σ H Q h => by
    obtain ⟨F, ρ, d, ρ', e, hv, ha, h⟩ := h
    refine h _ (step_setV e ha hv) ⟨by rw [List.length_set], fun j hj => List.getElem?_set_ne ?_⟩
    intro z
    subst z
    exact hj (by simp [Tg.slots])
theorem gs_nil : PGs X [] (gsW p .nil) :=
  PGs.weaken pgs_nil fun vs σ H Q h => by
    obtain ⟨F, ρ, ds, ρ', e, hv, ha, h⟩ := h
    cases hv with
    | nil =>
      cases ha
      exact ⟨rfl, h σ (.refl e) (.refl _ _)⟩
    | cons _ _ => cases ha
theorem gs_cons {e : Expr} {es : List Expr} {t : Tg} {ts : Tgs} (h1 : PG X e (gW p t)) (h2 : PGs X es (gsW p ts))
    (hs : (assignEach (e :: es) X.env).map (·.2) = assign e X.env :: (assignEach es X.env).map (·.2)) : PGs X (e :: es) (gsW p (.cons t ts)) :=
  PGs.weaken (pgs_cons h1 h2 hs) fun vs σ H Q h => by
    obtain ⟨F, ρ, ds, ρ', e, hv, ha, h⟩ := h
    cases hv with
    | nil => cases ha
    | cons r rr =>
      simp only [asgTs] at ha
      obtain ⟨ρ1, a1, a2⟩ := bind_some ha
      refine ⟨_, _, rfl, F, ρ, _, ρ1, e, r, a1, fun σ1 s1 g1 => ?_⟩
      refine ⟨F, ρ1, _, ρ', s1.env, rr, a2, fun σ2 s2 g2 => ?_⟩
      exact h σ2 (s1.trans s2) (g1.trans g2 (fun j hj => by simp [Tgs.slots, hj]) (fun j hj => by simp [Tgs.slots, hj]))
include hK in
theorem g_tup {es : List Expr} {k n : Nat} {ts : Tgs} (hc : X.calm = true) (h : PGs X es (gsW p ts)) (hl : ts.len = n)
    (hn : (assignEach es X.env).length = n) (hst : (assignEach es X.env).findIdx? (·.1) = none) : PG X (.Tuple es k pos) (gW p (.tup ts)) :=
  PG.weaken (pg_tup hc h hn hst) fun v σ H Q h => by
    obtain ⟨F, ρ, d, ρ', e, hv, ha, h⟩ := h
    cases d <;> try (simp [asgT] at ha; done)
    rename_i ds
    cases hv with
    | tup q1 q2 =>
      have ha : asgTs ts ds ρ = some ρ' := ha
      have q3 := sqT_mono e.sub q1
      rw [hK] at q3
      refine ⟨_, _, rfl, q3, ?_, F, ρ, ds, ρ', e, q2, ha, fun σ' s g => h σ' s g⟩
      rw [dqAll_len q2, ← hl]
      exact asgTs_len ha
end
end Wk

/-! The walk layer, part 12: list(range(..)), comprehensions. -/
namespace Wk
open PySem PySem.Spec L2
theorem R.bind_ok {α β : Type} {r : R α} {k : α → Fm → R β} {b : β} {ρ : Fm} (h : r.bind k = .ok b ρ) : ∃ a ρ1, r = .ok a ρ1 ∧ k a ρ1 = .ok b ρ := by
  cases r with
  | ok a ρ1 => exact ⟨a, ρ1, rfl, h⟩
  | exc c ρ1 => cases h
  | no => cases h
theorem lift_ok {α : Type} {o : Option α} {ρ ρ' : Fm} {a : α} (h : lift o ρ = .ok a ρ') : o = some a ∧ ρ = ρ' := by
  cases o with
  | none => cases h
  | some b => cases h; exact ⟨rfl, rfl⟩
section
variable {K : PySem.W.Frag} {F : Hp}
theorem dqAll_rg (a b : Int) : DqAll K F (rgV a b) (rangeL a 1 (b - a).toNat) := by
  have h := dqAll_ofInts (K := K) (F := F) ((List.range (b - a).toNat).map fun i => a + ((i : Nat) : Int))
  rw [List.map_map, List.map_map] at h
  have e : rangeL a 1 (b - a).toNat = (List.range (b - a).toNat).map (PyData.int ∘ fun i => a + ((i : Nat) : Int)) := by
    unfold rangeL
    apply List.map_congr_left
    intro i _
    simp
  rw [e]
  exact h
theorem rangeL_len (a c : Int) (n : Nat) : (rangeL a c n).length = n := by simp [rangeL]
end
section
variable {p : Par} {X : Cx} {a b : Expr} {fa fb : Fm → R RV} {pos p1 p2 p3 : Pos} {hK : p.K = X.K}
def fR1 (fa : Fm → R RV) : Fm → R Its := fun ρ => (fa ρ).bind fun r ρ1 => (pk r ρ1 asInt).bind fun j _ => lift (guardO (rngB j) (rangeL 0 1 j.toNat, [])) ρ1
def fR2 (fa fb : Fm → R RV) : Fm → R Its := fun ρ => (fa ρ).bind fun r ρ1 => (pk r ρ1 asInt).bind fun i _ => (fb ρ1).bind fun r2 ρ2 => (pk r2 ρ2 asInt).bind fun j _ => lift (guardO (rngB i && rngB j) (rangeL i 1 (j - i).toNat, [])) ρ2
def fLR (f : Fm → R Its) : Fm → R RV := fun ρ => (f ρ).bind fun q ρ1 => lift (guardO (fits q.1.length) (.tmp q.1)) ρ1
def fTR (f : Fm → R Its) : Fm → R RV := fun ρ => (f ρ).bind fun q ρ1 => lift (guardO (fits q.1.length) (.val (.tuple q.1))) ρ1
def t1R (p : Par) (mk : List D → RV) (f : Fm → R Its) : Fm → R RV := fun ρ => (f ρ).bind fun q ρ1 => lift (guardO (fits q.1.length) (mk q.1)) ρ1
theorem R.bind_assoc {α β γ : Type} (r : R α) (k : α → Fm → R β) (l : β → Fm → R γ) : (r.bind k).bind l = r.bind fun a ρ => (k a ρ).bind l := by
  cases r <;> rfl
include hK
theorem rg1_tr {σ : St} {H : Hp} {Q : VK} {mk : List D → RV} (h : tE p (fun ρ => (fR1 fa ρ).bind fun q ρ1 => lift (guardO (fits q.1.length) (mk q.1)) ρ1) σ H Q) : tRg1 (tE p fa) σ H fun i j H1 => RgOk i j ∧ ∃ F1 ρ ρ1 F, Stp p σ F H ρ σ F1 H1 ρ1 ∧ Post p (RelE p σ H) σ F H ρ (.ok (mk (rangeL i 1 (j - i).toNat)) ρ1) Q := by
  obtain ⟨F, ρ, e, h⟩ := h
  unfold fR1 at h
  dsimp only at h
  rw [R.bind_assoc] at h
  refine tG_seq (.refl e) h fun F1 H1 ρ1 r1 x _ s1 v1 h => ?_
  rw [R.bind_assoc] at h
  obtain ⟨d, j, k1, e1, h⟩ := post_pk s1 v1 h
  obtain ⟨r, er, h⟩ := post_lift_bind h
  obtain ⟨g, er⟩ := guardO_some er
  subst er
  obtain ⟨r, er, h⟩ := post_lift h
  obtain ⟨g', er⟩ := guardO_some er
  subst er
  obtain ⟨g1, g2⟩ := ba2 g
  have g3 := of_decide_eq_true g'
  have g1 := of_decide_eq_true g1
  have g2 := of_decide_eq_true g2
  rw [rangeL_len] at g3
  refine ⟨j, by rw [asInt_pk (hK := hK) k1 e1], ⟨by decide, by decide, g1, g2, by omega⟩, F1, ρ, ρ1, F, s1, ?_⟩
  rw [Int.sub_zero]
  exact h
theorem rg2_tr {σ : St} {H : Hp} {Q : VK} {mk : List D → RV} (h : tE p (fun ρ => (fR2 fa fb ρ).bind fun q ρ1 => lift (guardO (fits q.1.length) (mk q.1)) ρ1) σ H Q) : tRg2 (tE p fa) (tE p fb) σ H fun i j H1 => RgOk i j ∧ ∃ F1 ρ ρ1 F, Stp p σ F H ρ σ F1 H1 ρ1 ∧ Post p (RelE p σ H) σ F H ρ (.ok (mk (rangeL i 1 (j - i).toNat)) ρ1) Q := by
  obtain ⟨F, ρ, e, h⟩ := h
  unfold fR2 at h
  dsimp only at h
  rw [R.bind_assoc] at h
  refine tG_seq (.refl e) h fun F1 H1 ρ1 r1 x _ s1 v1 h => ?_
  rw [R.bind_assoc] at h
  obtain ⟨d, i, k1, e1, h⟩ := post_pk s1 v1 h
  rw [R.bind_assoc] at h
  refine tG_seq s1 h fun F2 H2 ρ2 r2 y s12 s2 v2 h => ?_
  rw [R.bind_assoc] at h
  obtain ⟨d2, j, k2, e2, h⟩ := post_pk s2 v2 h
  obtain ⟨r, er, h⟩ := post_lift_bind h
  obtain ⟨g, er⟩ := guardO_some er
  subst er
  obtain ⟨r, er, h⟩ := post_lift h
  obtain ⟨g', er⟩ := guardO_some er
  subst er
  obtain ⟨g1, g2⟩ := ba2 g
  obtain ⟨g4, g5⟩ := ba2 g1
  obtain ⟨g6, g7⟩ := ba2 g2
  have g3 := of_decide_eq_true g'
  rw [rangeL_len] at g3
  exact ⟨i, j, by rw [asInt_pk (hK := hK) k1 e1], by rw [asInt_pk (hK := hK) k2 e2], ⟨of_decide_eq_true g4, of_decide_eq_true g5, of_decide_eq_true g6, of_decide_eq_true g7, by omega⟩, F2, ρ, ρ2, F, s2, h⟩
theorem tRg1_mono {ta : TE} {σ : St} {H : Hp} {Q Q' : Int → Int → Hp → Prop} (hm : ∀ (σ : St) (H : Hp) (Q Q' : VK), (∀ x H, Q x H → Q' x H) → ta σ H Q → ta σ H Q') (w : ∀ i j H, Q i j H → Q' i j H) (h : tRg1 ta σ H Q) : tRg1 ta σ H Q' :=
  hm _ _ _ _ (fun x H1 ⟨n, e, q⟩ => ⟨n, e, w _ _ _ q⟩) h
omit hK in
theorem tE_mono (fa : Fm → R RV) : ∀ (σ : St) (H : Hp) (Q Q' : VK), (∀ x H, Q x H → Q' x H) → tE p fa σ H Q → tE p fa σ H Q' := fun σ H Q Q' w h => by
  obtain ⟨F, ρ, e, h⟩ := h
  refine ⟨F, ρ, e, ?_⟩
  cases ef : fa ρ with
  | ok r ρ1 =>
    rw [ef] at h
    exact fun F' H' b s r => w _ _ (h F' H' b s r)
  | exc c ρ1 =>
    rw [ef] at h
    exact h
  | no =>
    rw [ef] at h
    exact h
theorem lr_end {σ : St} {F F1 H H1 : Hp} {ρ ρ1 : Fm} {Q : VK} {i j : Int} (s : Stp p σ F H ρ σ F1 H1 ρ1) (h : Post p (RelE p σ H) σ F H ρ (.ok (.tmp (rangeL i 1 (j - i).toNat)) ρ1) Q) : ∀ q, H1 q = none → Q (.ref q) (upd H1 q (.lst (rgV i j))) := fun q hq =>
  res_of s h q _ hq (dqAll_rg i j)
theorem tr_end {σ : St} {F F1 H H1 : Hp} {ρ ρ1 : Fm} {Q : VK} {i j : Int} (s : Stp p σ F H ρ σ F1 H1 ρ1) (h : Post p (RelE p σ H) σ F H ρ (.ok (.val (.tuple (rangeL i 1 (j - i).toNat))) ρ1) Q) : ∀ q, H1 q = none → Q (.ref q) (upd H1 q (.tup (rgV i j))) := fun q hq =>
  (res_of s h).n hq (dq_newTup s.env.sub hq (dqAll_rg i j))
theorem e_lrng1 (hc : X.calm = true) (hl : Gl X "list") (ml : X.mg "list" = none) (hg : Gl X "range") (hm : X.mg "range" = none) (ha : PE X a (tE p fa)) (hp : Plain X a) (hpr : Plain X (.Call (.Name "range" p2) [a] [] p3)) :
    PE X (.Call (.Name "list" p1) [.Call (.Name "range" p2) [a] [] p3] [] pos) (tE p (fLR (fR1 fa))) :=
  PE.weaken (pe_listRg hc hl ml (prg_1 hg hm ha (hp [])) (hpr [])) fun σ H Q h => tE_mono fa _ _ _ _ (fun x H1 ⟨n, e, ok, F1, ρ, ρ1, F, s, q⟩ => ⟨n, e, ok, lr_end (hK := hK) s q⟩) (rg1_tr (hK := hK) h)
theorem e_trng1 (hc : X.calm = true) (hl : Gl X "tuple") (ml : X.mg "tuple" = none) (hg : Gl X "range") (hm : X.mg "range" = none) (ha : PE X a (tE p fa)) (hp : Plain X a) (hpr : Plain X (.Call (.Name "range" p2) [a] [] p3)) :
    PE X (.Call (.Name "tuple" p1) [.Call (.Name "range" p2) [a] [] p3] [] pos) (tE p (fTR (fR1 fa))) :=
  PE.weaken (pe_tupRg hc hl ml (prg_1 hg hm ha (hp [])) (hpr [])) fun σ H Q h => tE_mono fa _ _ _ _ (fun x H1 ⟨n, e, ok, F1, ρ, ρ1, F, s, q⟩ => ⟨n, e, ok, tr_end (hK := hK) s q⟩) (rg1_tr (hK := hK) (mk := fun ds => .val (.tuple ds)) h)
theorem e_lrng2 (hc : X.calm = true) (hl : Gl X "list") (ml : X.mg "list" = none) (hg : Gl X "range") (hm : X.mg "range" = none) (ha : PE X a (tE p fa)) (hb : PE X b (tE p fb)) (hp : Plain X a) (hq : Plain X b) (hpr : Plain X (.Call (.Name "range" p2) [a, b] [] p3)) :
    PE X (.Call (.Name "list" p1) [.Call (.Name "range" p2) [a, b] [] p3] [] pos) (tE p (fLR (fR2 fa fb))) :=
  PE.weaken (pe_listRg hc hl ml (prg_2 hg hm ha hb (hp [b]) (hq []) (by rw [hq []] <;> rfl)) (hpr [])) fun σ H Q h => tE_mono fa _ _ _ _ (fun x H1 h1 => tE_mono fb _ _ _ _ (fun y H2 ⟨i, j, e, e', ok, F1, ρ, ρ1, F, s, q⟩ => ⟨i, j, e, e', ok, lr_end (hK := hK) s q⟩) h1) (rg2_tr (hK := hK) h)
theorem e_trng2 (hc : X.calm = true) (hl : Gl X "tuple") (ml : X.mg "tuple" = none) (hg : Gl X "range") (hm : X.mg "range" = none) (ha : PE X a (tE p fa)) (hb : PE X b (tE p fb)) (hp : Plain X a) (hq : Plain X b) (hpr : Plain X (.Call (.Name "range" p2) [a, b] [] p3)) :
    PE X (.Call (.Name "tuple" p1) [.Call (.Name "range" p2) [a, b] [] p3] [] pos) (tE p (fTR (fR2 fa fb))) :=
  PE.weaken (pe_tupRg hc hl ml (prg_2 hg hm ha hb (hp [b]) (hq []) (by rw [hq []] <;> rfl)) (hpr [])) fun σ H Q h => tE_mono fa _ _ _ _ (fun x H1 h1 => tE_mono fb _ _ _ _ (fun y H2 ⟨i, j, e, e', ok, F1, ρ, ρ1, F, s, q⟩ => ⟨i, j, e, e', ok, tr_end (hK := hK) s q⟩) h1) (rg2_tr (hK := hK) (mk := fun ds => .val (.tuple ds)) h)
end
/-! ### comprehensions -/
theorem wipeF_out {ρ : Fm} {i : Nat} : ∀ {vs : List Nat}, i ∉ vs → (wipeF ρ vs)[i]? = ρ[i]?
  | [], _ => rfl
  | v :: vs, h => by
    have h1 : v ≠ i := fun e => h (by rw [e]; exact List.mem_cons_self)
    have h2 : i ∉ vs := fun m => h (List.mem_cons_of_mem _ m)
    unfold wipeF
    rw [List.getElem?_set_ne h1]
    exact wipeF_out h2
theorem wipeF_len {ρ : Fm} : ∀ {vs : List Nat}, (wipeF ρ vs).length = ρ.length
  | [] => rfl
  | v :: vs => by
    unfold wipeF
    rw [List.length_set]
    exact wipeF_len
theorem wipeF_in {ρ : Fm} {i : Nat} {s : Sl} : ∀ {vs : List Nat}, i ∈ vs → (wipeF ρ vs)[i]? = some s → s = .no
  | v :: vs, h, g => by
    unfold wipeF at g
    rcases set_get g with ⟨_, z, _⟩ | ⟨n, z⟩
    · exact z
    · rcases List.mem_cons.mp h with q | q
      · exact absurd q.symm n
      · exact wipeF_in q z
theorem backF_len {ρ0 ρ : Fm} : ∀ {vs : List Nat}, (backF ρ0 ρ vs).length = ρ.length
  | [] => rfl
  | v :: vs => by
    unfold backF
    split
    · rw [List.length_set]; exact backF_len
    · exact backF_len
theorem backF_out {ρ0 ρ : Fm} {i : Nat} : ∀ {vs : List Nat}, i ∉ vs → (backF ρ0 ρ vs)[i]? = ρ[i]?
  | [], _ => rfl
  | v :: vs, h => by
    have h1 : v ≠ i := fun e => h (by rw [e]; exact List.mem_cons_self)
    have h2 : i ∉ vs := fun m => h (List.mem_cons_of_mem _ m)
    unfold backF
    split
    · rw [List.getElem?_set_ne h1]; exact backF_out h2
    · exact backF_out h2
theorem backF_in {ρ0 ρ : Fm} {i : Nat} (hl : ρ0.length = ρ.length) : ∀ {vs : List Nat}, i ∈ vs → (backF ρ0 ρ vs)[i]? = ρ0[i]?
  | v :: vs, h => by
    unfold backF
    split
    · rename_i s hs
      by_cases n : v = i
      · subst n
        rw [List.getElem?_set_self (by rw [backF_len, ← hl]; exact (List.getElem?_eq_some_iff.mp hs).1), hs]
      · rw [List.getElem?_set_ne n]
        rcases List.mem_cons.mp h with q | q
        · exact absurd q.symm n
        · exact backF_in hl q
    · rename_i hs
      rcases List.mem_cons.mp h with q | q
      · subst q
        rw [hs, List.getElem?_eq_none (by rw [backF_len, ← hl]; exact List.getElem?_eq_none_iff.mp hs)]
      · exact backF_in hl q
theorem agree_wipe (σ : St) (vs : List Nat) : Agree σ (wipe σ vs) vs := ⟨wipe_length σ vs, fun j hj => wipe_out hj⟩
section
variable {K : PySem.W.Frag} {H0 F F1 H H1 F2 H2 : Hp} {σ σ1 σ2 : St} {ρ ρ1 ρ2 : Fm} {vs : List Nat}
theorem wipeF_get {i : Nat} {s : Sl} (h : (wipeF ρ vs)[i]? = some s) (n : s ≠ .no) : i ∉ vs ∧ ρ[i]? = some s := by
  by_cases hi : i ∈ vs
  · exact absurd (wipeF_in hi h) n
  · rw [wipeF_out hi] at h
    exact ⟨hi, h⟩
theorem own_wipe {a : Addr} (h : OwnAt (wipe σ vs) (wipeF ρ vs) a) : OwnAt σ ρ a := by
  obtain ⟨i, xs, k, h1, h2⟩ := h
  obtain ⟨n, q⟩ := wipeF_get h1 (by simp)
  rw [wipe_out n] at h2
  exact ⟨i, xs, k, q, h2⟩
theorem EnvOk.wipe (e : EnvOk K H0 F σ H ρ) (vs : List Nat) : EnvOk K H0 F (L2.wipe σ vs) H (wipeF ρ vs) := by
  refine ⟨e.sub, by rw [wipeF_len, wipe_length]; exact e.len, fun i d q => ?_, fun i xs k q => ?_, fun i j a xs ys k l q1 q2 e1 e2 => ?_, e.dom⟩
  · obtain ⟨n, q⟩ := wipeF_get q (by simp)
    rw [wipe_out n]
    exact e.val i d q
  · obtain ⟨n, q⟩ := wipeF_get q (by simp)
    rw [wipe_out n]
    exact e.own i xs k q
  · obtain ⟨n, q1⟩ := wipeF_get q1 (by simp)
    obtain ⟨n2, q2⟩ := wipeF_get q2 (by simp)
    rw [wipe_out n] at e1
    rw [wipe_out n2] at e2
    exact e.sep i j a _ _ _ _ q1 q2 e1 e2
theorem Step.back (e : EnvOk K H0 F σ H ρ) (w : Step K H0 (L2.wipe σ vs) F H (wipeF ρ vs) σ1 F1 H1 ρ1) (ag : Agree σ σ1 vs) : Step K H0 σ F H ρ σ F1 H1 (backF ρ ρ1 vs) := by
  have hl : ρ.length = ρ1.length := by rw [e.len, w.env.len, ag.1]
  have nin : ∀ {i : Nat} {xs : List D} {k : Kd} {a : Addr}, i ∈ vs → ρ[i]? = some (.own xs k) → σ[i]? = some (some (V.ref a)) → ¬ OwnAt (L2.wipe σ vs) (wipeF ρ vs) a := fun {i xs k a} hi h1 h2 z => by
    obtain ⟨j, ys, l, q1, q2⟩ := z
    obtain ⟨n, q1⟩ := wipeF_get q1 (by simp)
    rw [wipe_out n] at q2
    have := e.sep i j a _ _ _ _ h1 q1 h2 q2
    subst this
    exact n hi
  have bk : ∀ {i : Nat} {xs : List D} {k : Kd} {a : Addr}, (backF ρ ρ1 vs)[i]? = some (.own xs k) → σ[i]? = some (some (V.ref a)) → (i ∈ vs ∧ ρ[i]? = some (.own xs k)) ∨ (i ∉ vs ∧ ρ1[i]? = some (.own xs k) ∧ σ1[i]? = some (some (V.ref a))) := fun {i xs k a} h1 h2 => by
    by_cases hi : i ∈ vs
    · rw [backF_in hl hi] at h1
      exact .inl ⟨hi, h1⟩
    · rw [backF_out hi] at h1
      exact .inr ⟨hi, h1, by rw [ag.2 i hi]; exact h2⟩
  refine ⟨w.fz, fun a o h n => w.hp a o h fun z => n (own_wipe z), w.dm, fun a h m n => w.nf a h m fun z => n (own_wipe z), fun a q => ?_, fun i xs k hi nk => ⟨rfl, ?_⟩, ⟨w.env.sub, by rw [backF_len, ← hl]; exact e.len, fun i d q => ?_, fun i xs k q => ?_, fun i j a xs ys k l q1 q2 e1 e2 => ?_, w.env.dom⟩⟩
  · obtain ⟨i, xs, k, h1, h2⟩ := q
    rcases bk h1 h2 with ⟨_, z⟩ | ⟨_, z1, z2⟩
    · exact .inl ⟨i, xs, k, z, h2⟩
    · exact (w.ow a ⟨i, xs, k, z1, z2⟩).imp own_wipe id
  · by_cases hi' : i ∈ vs
    · rw [backF_in hl hi']
      exact ⟨xs, hi, fun _ => rfl⟩
    · rw [backF_out hi']
      obtain ⟨_, q⟩ := w.lk i xs k (by rw [wipeF_out hi']; exact hi) nk
      exact q
  · by_cases hi : i ∈ vs
    · rw [backF_in hl hi] at q
      obtain ⟨v, v1, v2⟩ := e.val i d q
      exact ⟨v, v1, dq_mono w.fz _ _ v2⟩
    · rw [backF_out hi] at q
      obtain ⟨v, v1, v2⟩ := w.env.val i d q
      exact ⟨v, by rw [← ag.2 i hi]; exact v1, v2⟩
  · by_cases hi : i ∈ vs
    · rw [backF_in hl hi] at q
      obtain ⟨a, us, w1, w2, w3, w4, w5⟩ := e.own i xs k q
      have na := nin hi q w1
      exact ⟨a, us, w1, w.hp a _ w2 na, dqAll_mono w.fz _ _ w3, w.nf a w4 (by rw [w2]; simp) na, w5⟩
    · rw [backF_out hi] at q
      obtain ⟨a, us, w1, w2⟩ := w.env.own i xs k q
      exact ⟨a, us, by rw [← ag.2 i hi]; exact w1, w2⟩
  · have mix : ∀ {i j : Nat} {xs ys : List D} {k l : Kd}, i ∈ vs → ρ[i]? = some (.own xs k) → σ[i]? = some (some (V.ref a)) → ρ1[j]? = some (.own ys l) → σ1[j]? = some (some (V.ref a)) → False := fun {i j xs ys k l} hi h1 h2 h3 h4 => by
      obtain ⟨b, us, w1, w2, _⟩ := e.own i xs k h1
      rw [h2] at w1
      cases w1
      rcases w.ow a ⟨j, ys, l, h3, h4⟩ with z | z
      · exact nin hi h1 h2 z
      · rw [w2] at z
        cases z
    rcases bk q1 e1 with ⟨i1, z⟩ | ⟨i1, z1, z2⟩
    · rcases bk q2 e2 with ⟨j1, y⟩ | ⟨j1, y1, y2⟩
      · exact e.sep i j a _ _ _ _ z y e1 e2
      · exact (mix i1 z e1 y1 y2).elim
    · rcases bk q2 e2 with ⟨j1, y⟩ | ⟨j1, y1, y2⟩
      · exact (mix j1 y e2 z1 z2).elim
      · exact w.env.sep i j a _ _ _ _ z1 y1 z2 y2
/-- a new list that nobody knows is changed -/
theorem Step.over {q : Addr} {o : HO} (s : Step K H0 σ F H ρ σ1 F1 H1 ρ1) (h0 : H q = none) (hF : F1 q = none) (hn : ¬ OwnAt σ1 ρ1 q) : Step K H0 σ F H ρ σ1 F1 (upd H1 q o) ρ1 where
  fz := s.fz
  hp := fun a u h n => by
    rw [upd_ne (ne_of_none h h0)]
    exact s.hp a u h n
  dm := fun a h => by
    by_cases ha : a = q
    · subst ha
      exact h0
    · rw [upd_ne ha] at h
      exact s.dm a h
  nf := s.nf
  ow := s.ow
  lk := s.lk
  env := by
    have e := s.env
    refine ⟨fun a u h => ?_, e.len, e.val, fun i xs k h => ?_, e.sep, fun a h => ?_⟩
    · have : a ≠ q := fun z => by
        subst z
        rw [hF] at h
        cases h
      rw [upd_ne this]
      exact e.sub a u h
    · obtain ⟨a, us, w1, w2, w⟩ := e.own i xs k h
      have : a ≠ q := fun z => hn (z ▸ ⟨i, xs, k, h, w1⟩)
      exact ⟨a, us, w1, by rw [upd_ne this]; exact w2, w⟩
    · by_cases ha : a = q
      · subst ha
        rw [upd_same] at h
        cases h
      · rw [upd_ne ha] at h
        exact e.dom a h
end
def BodyOk (p : Par) (body : Fm → R (Option D)) (tt : TT) (te : TE) : Prop := ∀ (σ2 : St) (F2 H2 : Hp) (ρ3 : Fm) (o : Option D) (ρ5 : Fm) (KY : VK) (KN : Hp → Prop), EnvOk p.K p.H0 F2 σ2 H2 ρ3 → body ρ3 = .ok o ρ5 →
  (∀ F4 H4 y x, o = some x → Stp p σ2 F2 H2 ρ3 σ2 F4 H4 ρ5 → Dq p.K F4 y x → KY y H4) → (o = none → ∀ F4 H4, Stp p σ2 F2 H2 ρ3 σ2 F4 H4 ρ5 → KN H4) → tt σ2 H2 fun b H3 => if b = true then te σ2 H3 KY else KN H3
section
variable {p p' : Par} {fe : Fm → R RV} {ft : Fm → R Bool} {hp : p'.K = p.K} {hp0 : p'.H0 = p.H0}
def fItem (fe : Fm → R RV) : Fm → R (Option D) := fun ρ3 => (fe ρ3).bind fun r ρ4 => (fzR r ρ4).bind fun x ρ5 => .ok (some x) ρ5
def fItemIf (ft : Fm → R Bool) (fe : Fm → R RV) : Fm → R (Option D) := fun ρ3 => (ft ρ3).bind fun b ρ4 => if b = true then (fe ρ4).bind fun r ρ5 => (fzR r ρ5).bind fun x ρ6 => .ok (some x) ρ6 else .ok none ρ4
theorem fzR_ok {r : RV} {ρ ρ' : Fm} {d : D} (h : fzR r ρ = .ok d ρ') : freeze r ρ = some (d, ρ') := by
  unfold fzR at h
  split at h
  · rename_i q e
    cases h
    exact e
  · cases h
theorem item_te {σ2 : St} {F1 H1 F2 H2 : Hp} {ρ1 ρ3 ρ5 : Fm} {o : Option D} {KY : VK} (st : Stp p σ2 F1 H1 ρ1 σ2 F2 H2 ρ3) (h : fItem fe ρ3 = .ok o ρ5)
    (hy : ∀ F4 H4 y x, o = some x → Stp p σ2 F1 H1 ρ1 σ2 F4 H4 ρ5 → Dq p.K F4 y x → KY y H4) : tE p fe σ2 H2 KY := by
  obtain ⟨r, ρ4, h1, h⟩ := R.bind_ok h
  obtain ⟨x, ρ6, h2, h⟩ := R.bind_ok h
  cases h
  refine ⟨F2, ρ3, st.env, ?_⟩
  rw [h1]
  intro F' H' b s rv
  obtain ⟨F4, s4, hd⟩ := freeze_ok s rv (fzR_ok h2)
  exact hy F4 H' b x rfl (st.trans s4) hd
theorem body_item : BodyOk p (fItem fe) tYes (tE p fe) := fun σ2 F2 H2 ρ3 o ρ5 KY KN e h hy hn => by
  show if true = true then tE p fe σ2 H2 KY else KN H2
  rw [if_pos rfl]
  exact item_te (Step.refl e : Stp p σ2 F2 H2 ρ3 σ2 F2 H2 ρ3) h hy
theorem body_itemIf : BodyOk p (fItemIf ft fe) (tT p ft) (tE p fe) := fun σ2 F2 H2 ρ3 o ρ5 KY KN e h hy hn => by
  obtain ⟨b, ρ4, h1, h⟩ := R.bind_ok h
  refine ⟨F2, ρ3, e, ?_⟩
  rw [h1]
  intro F' H' b' s rb
  cases rb
  split
  · rename_i q
    rw [if_pos q] at h
    exact item_te s h hy
  · rename_i q
    rw [if_neg q] at h
    cases h
    exact hn rfl F' H' s
theorem backR_ok {α : Type} {ρ0 ρ : Fm} {own : List Nat} {r : R α} {a : α} (h : backR ρ0 own r = .ok a ρ) : ∃ ρ1, r = .ok a ρ1 ∧ ρ = backF ρ0 ρ1 own := by
  cases r with
  | ok b ρ1 =>
    cases h
    exact ⟨ρ1, rfl, rfl⟩
  | exc c ρ1 => cases h
  | no => cases h
theorem comp_tr {fi : Fm → R Its} {t : Tg} {body : Fm → R (Option D)} {tt : TT} {te : TE} (bo : BodyOk p body tt te) :
    ∀ σ H Q, tE p (fun ρ => (fi ρ).bind fun q ρ1 => compAll t.slots (fun d ρ2 => (lift (asgT t d ρ2) ρ2).bind fun ρ3 _ => body ρ3) q.1 q.2 ρ1) σ H Q → tLc (tI p fi) (gW p t) tt te t.slots σ H Q := fun σ H Q h => by
  obtain ⟨F, ρ, e, h⟩ := h
  refine ⟨F, ρ, e, ?_⟩
  dsimp only at h
  cases ef : fi ρ with
  | no =>
    rw [ef] at h
    exact h.elim
  | exc c ρ' =>
    rw [ef] at h
    exact h
  | ok its ρL =>
    rw [ef] at h
    intro F' H' J ρP G s l io g A hA
    obtain ⟨ds, lk⟩ := its
    dsimp only [R.bind] at h l io
    unfold compAll at h
    split at h
    case isFalse => exact h.elim
    rename_i hfit
    have hfit := fits_le hfit
    split at h
    case h_2 => exact h.elim
    rename_i r ρE hcl
    have eL := s.env.lock l
    have hH0A : p.H0 A = none := eL.dom A hA
    have hHA : H A = none := s.dm A hA
    obtain ⟨f, hf⟩ : ∃ f, f = (fun (d : D) (ρ1 : Fm) => backR ρ1 t.slots ((lift (asgT t d (wipeF ρ1 t.slots)) (wipeF ρ1 t.slots)).bind fun ρ3 _ => body ρ3)) := ⟨_, rfl⟩
    have hcl : compL (fun (d : D) (ρ1 : Fm) => backR ρ1 t.slots ((lift (asgT t d (wipeF ρ1 t.slots)) (wipeF ρ1 t.slots)).bind fun ρ3 _ => body ρ3)) ds ρL = .ok r ρE := hcl
    rw [← hf] at hcl
    refine ⟨fun i m H2 => m = ds.length - i ∧ i ≤ ds.length ∧ ∃ F2 ρ2 acc ads rest, Stp p σ F' H' ρL σ F2 H2 ρ2 ∧ H2 A = some (.lst acc) ∧ F2 A = none ∧ ¬ OwnAt σ ρ2 A ∧ DqAll p.K F2 acc ads ∧ compL f (ds.drop i) ρ2 = .ok rest ρE ∧ r = ads ++ rest ∧ ads.length ≤ i, ⟨_, rfl, Nat.zero_le _, ?_⟩, ?_⟩
    · obtain ⟨a, vs, q1, q2, q3, q4, q5, _⟩ := tmp_new (vs := []) (ds := []) (Step.refl (K := p.K) (H0 := p.H0) eL) hA .nil
      cases q1
      exact ⟨F', ρL, [], [], r, (Step.refl eL).new hA, upd_same, q4, q5, .nil, hcl, rfl, Nat.le_refl _⟩
    · rintro i m H2 ⟨rfl, hi, F2, ρ2, acc, ads, rest, st, hA2, fA, nA, hda, hc2, hr, hlen⟩
      have g2 : G F2 σ H2 ρ2 := io.keep _ _ _ _ _ _ _ _ st g
      by_cases hlt : i < ds.length
      · have hdrop : ds.drop i = ds[i] :: ds.drop (i + 1) := List.drop_eq_getElem_cons hlt
        rw [hdrop] at hc2
        simp only [compL] at hc2
        obtain ⟨o, ρ3, c1, hc2⟩ := R.bind_ok hc2
        obtain ⟨rest', ρE', c2, hc2⟩ := R.bind_ok hc2
        cases hc2
        rw [hf] at c1
        obtain ⟨ρ5, c1, c3⟩ := backR_ok c1
        obtain ⟨ρ4, ρx, c4, c5⟩ := R.bind_ok c1
        obtain ⟨c4, _⟩ := lift_ok c4
        refine .inr ⟨io.go i F2 σ H2 ρ2 hlt st.env g2, fun H3 => ds.length - (i + 1) = ds.length - (i + 1) ∧ i + 1 ≤ ds.length ∧ ∃ F2 ρ2 acc ads rest, Stp p σ F' H' ρL σ F2 H3 ρ2 ∧ H3 A = some (.lst acc) ∧ F2 A = none ∧ ¬ OwnAt σ ρ2 A ∧ DqAll p.K F2 acc ads ∧ compL f (ds.drop (i + 1)) ρ2 = .ok rest ρE ∧ r = ads ++ rest ∧ ads.length ≤ i + 1, fun H3 q => ⟨_, by omega, q⟩, fun x Hy y => ?_⟩
        obtain ⟨F3, d, s3, hd, hx⟩ := io.yld i F2 σ H2 ρ2 x Hy hlt st.env g2 y
        rw [List.getElem?_eq_getElem hlt] at hd
        cases hd
        have stt := st.trans s3
        refine ⟨F3, wipeF ρ2 t.slots, _, ρ4, stt.env.wipe _, hx, c4, fun σ2 s4 ag => ⟨(Agree.trans (agree_wipe σ t.slots) ag (us := t.slots) (fun _ z => z) (fun _ z => z)).wipe, ?_⟩⟩
        have agt := Agree.trans (agree_wipe σ t.slots) ag (us := t.slots) (fun _ z => z) (fun _ z => z)
        have hA3 := s3.hp A _ hA2 nA
        have fA3 := s3.nf A fA (by rw [hA2]; simp) nA
        refine bo σ2 F3 Hy ρ4 o ρ5 _ _ s4.env c5 (fun F4 H4 y x ho s5 hy => ?_) (fun ho F4 H4 s5 => ?_)
        · have sb := Step.back stt.env (s4.trans s5) agt
          have hA4 := sb.hp A _ hA3 nA
          have fA4 := sb.nf A fA3 (by rw [hA3]; simp) nA
          have nA4 : ¬ OwnAt σ (backF ρ2 ρ5 t.slots) A := fun z => (sb.ow A z).elim nA fun z => by rw [hA3] at z; cases z
          have ll := dqAll_len hda
          refine ⟨acc, hA4, by omega, rfl, hlt, F4, _, acc ++ [y], ads ++ [x], rest', (stt.trans sb).over hA fA4 nA4, upd_same, fA4, nA4, dqAll_app (dqAll_mono (subH_trans s3.fz sb.fz) _ _ hda) (.cons hy .nil), ?_, ?_, ?_⟩
          · rw [← c3]
            exact c2
          · rw [hr, ho]
            simp
          · simp
            omega
        · have sb := Step.back stt.env (s4.trans s5) agt
          have hA4 := sb.hp A _ hA3 nA
          have fA4 := sb.nf A fA3 (by rw [hA3]; simp) nA
          have nA4 : ¬ OwnAt σ (backF ρ2 ρ5 t.slots) A := fun z => (sb.ow A z).elim nA fun z => by rw [hA3] at z; cases z
          refine ⟨rfl, hlt, F4, _, acc, ads, rest', stt.trans sb, hA4, fA4, nA4, dqAll_mono (subH_trans s3.fz sb.fz) _ _ hda, ?_, ?_, by omega⟩
          · rw [← c3]
            exact c2
          · rw [hr, ho]
      · have hieq : i = ds.length := by omega
        subst hieq
        refine .inl ⟨io.stop F2 σ H2 ρ2 st.env g2, ?_⟩
        rw [List.drop_length] at hc2
        simp only [compL] at hc2
        cases hc2
        rw [List.append_nil] at hr
        subst hr
        refine h F2 H2 _ (s.unlock l st) ?_
        exact RvOk.unlock (r := .tmp r) ⟨A, acc, rfl, hA2, hda, fA, nA, hH0A, hHA⟩
end
section
variable {p : Par} {X : Cx} {elt tg iter c : Expr} {scope : Scope} {own : List (Str × Nat)} {pos : Pos} {fi : Fm → R Its} {fe : Fm → R RV} {ft : Fm → R Bool} {t : Tg} {hK : p.K = X.K}
def fComp (t : Tg) (fi : Fm → R Its) (fe : Fm → R RV) : Fm → R RV := fun ρ => (fi ρ).bind fun q ρ1 => compAll t.slots (fun d ρ2 => (lift (asgT t d ρ2) ρ2).bind fun ρ3 _ => fItem fe ρ3) q.1 q.2 ρ1
def fCompIf (t : Tg) (fi : Fm → R Its) (ft : Fm → R Bool) (fe : Fm → R RV) : Fm → R RV := fun ρ => (fi ρ).bind fun q ρ1 => compAll t.slots (fun d ρ2 => (lift (asgT t d ρ2) ρ2).bind fun ρ3 _ => fItemIf ft fe ρ3) q.1 q.2 ρ1
abbrev Par.calm (p : Par) : Par := { p with W := fun _ _ _ _ => False }
theorem e_comp (hc : X.calm = true) (hN : X.N.Nodup) (hi : PI X tg iter (tI p fi)) (ok : BlkOk X.N X.env.scope scope own) (hv : own.map (·.2) = t.slots)
    (hg : ∀ (s : Shared) (H : Hp) (C : Addr) (cl : List (Str × Addr)) (fp : List Addr), PG (X.blk s H scope (compEnvC scope cl C X.env) fp) tg (gW p.calm t))
    (he : ∀ (s : Shared) (H : Hp) (C : Addr) (cl : List (Str × Addr)) (fp : List Addr), PE (X.blk s H scope (compEnvC scope cl C X.env) fp) elt (tE p.calm fe)) (hs : ∀ x, foldedSetIterable iter X.env x = pure x) :
    PE X (.ListComp elt [⟨tg, iter, [], 0⟩] scope pos) (tE p (fComp t fi fe)) :=
  PE.weaken (pe_lc hc hN hi ok hg (fun _ _ _ _ _ => pts_nil) he hs) fun σ H Q h => by
    rw [hv]
    exact comp_tr (p := p) (body_item (p := p.calm)) σ H Q h
theorem e_compIf (hc : X.calm = true) (hN : X.N.Nodup) (hi : PI X tg iter (tI p fi)) (ok : BlkOk X.N X.env.scope scope own) (hv : own.map (·.2) = t.slots)
    (hg : ∀ (s : Shared) (H : Hp) (C : Addr) (cl : List (Str × Addr)) (fp : List Addr), PG (X.blk s H scope (compEnvC scope cl C X.env) fp) tg (gW p.calm t))
    (ht : ∀ (s : Shared) (H : Hp) (C : Addr) (cl : List (Str × Addr)) (fp : List Addr), PT (X.blk s H scope (compEnvC scope cl C X.env) fp) c (tT p.calm ft))
    (he : ∀ (s : Shared) (H : Hp) (C : Addr) (cl : List (Str × Addr)) (fp : List Addr), PE (X.blk s H scope (compEnvC scope cl C X.env) fp) elt (tE p.calm fe)) (hs : ∀ x, foldedSetIterable iter X.env x = pure x) :
    PE X (.ListComp elt [⟨tg, iter, [c], 0⟩] scope pos) (tE p (fCompIf t fi ft fe)) :=
  PE.weaken (pe_lc hc hN hi ok hg (fun s H C cl fp => pts_one (ht s H C cl fp)) he hs) fun σ H Q h => by
    rw [hv]
    exact comp_tr (p := p) (body_itemIf (p := p.calm)) σ H Q h
end
end Wk

/-! The walk layer, part 13: statements. -/
namespace Wk
open PySem PySem.Spec L2
section
variable (p : Par)
def PostS (σ : St) (F H : Hp) (ρ : Fm) (r : R Fl) (D : Ends) : Prop := match r with
  | .ok .nx ρ' => ∀ σ' F' H', Stp p σ F H ρ σ' F' H' ρ' → D.nx σ' H'
  | .ok .brk ρ' => ∀ σ' F' H', Stp p σ F H ρ σ' F' H' ρ' → D.bk σ' H'
  | .ok .cnt ρ' => ∀ σ' F' H', Stp p σ F H ρ σ' F' H' ρ' → D.ct σ' H'
  | .ok (.ret v) ρ' => ∀ σ' F' H' x, Stp p σ F H ρ σ' F' H' ρ' → RvOk p.K p.H0 H F' σ' H' ρ' x v → D.rt x H'
  | .exc c ρ' => ∀ σ' F' H', Stp p σ F H ρ σ' F' H' ρ' → p.W (p.xc c) none σ' H'
  | .no => False
def tS (f : Fm → R Fl) : TS := fun D σ H => ∃ F ρ, EnvOk p.K p.H0 F σ H ρ ∧ PostS p σ F H ρ (f ρ) D
end
theorem PS.weaken {X : Cx} {e : Stmt} {t t' : TS} (h : PS X e t) (w : ∀ D σ H, t' D σ H → t D σ H) : PS X e t' := ⟨fun pins s σ H D I q => h.run pins s σ H D I (w D σ H q)⟩
theorem PSs.weaken {X : Cx} {e : List Stmt} {t t' : TS} (h : PSs X e t) (w : ∀ D σ H, t' D σ H → t D σ H) : PSs X e t' := ⟨fun pins s σ H D I q => h.run pins s σ H D I (w D σ H q)⟩
section
variable {p : Par} {σ σ1 : St} {F H F1 H1 : Hp} {ρ ρ1 : Fm} {D : Ends} {r : R Fl}
theorem PostS.base (s : Stp p σ F H ρ σ1 F1 H1 ρ1) (h : PostS p σ F H ρ r D) : PostS p σ1 F1 H1 ρ1 r D := by
  match r, h with
  | .ok .nx ρ', h => exact fun σ' F' H' t => h σ' F' H' (s.trans t)
  | .ok .brk ρ', h => exact fun σ' F' H' t => h σ' F' H' (s.trans t)
  | .ok .cnt ρ', h => exact fun σ' F' H' t => h σ' F' H' (s.trans t)
  | .ok (.ret v) ρ', h => exact fun σ' F' H' x t rv => h σ' F' H' x (s.trans t) (rv.old s.dm)
  | .exc c ρ', h => exact fun σ' F' H' t => h σ' F' H' (s.trans t)
  | .no, h => exact h.elim
/-- an expression in a statement -/
theorem sG_seq {α β : Type} {Rel1 : St → Hp → Hp → Hp → Fm → β → α → Prop} {f : Fm → R α} {k : α → Fm → R Fl} {G : β → Hp → Prop}
    (st : Stp p σ F H ρ σ F1 H1 ρ1) (h : PostS p σ F H ρ ((f ρ1).bind k) D)
    (g : ∀ F2 H2 ρ2 a b, Stp p σ F1 H1 ρ1 σ F2 H2 ρ2 → Stp p σ F H ρ σ F2 H2 ρ2 → Rel1 σ H1 F2 H2 ρ2 b a → PostS p σ F H ρ (k a ρ2) D → G b H2) : tG p Rel1 f σ H1 G := by
  refine ⟨F1, ρ1, st.env, ?_⟩
  cases e : f ρ1 with
  | ok a ρ2 =>
    rw [e] at h
    intro F2 H2 b s1 r
    exact g F2 H2 ρ2 a b s1 (st.trans s1) r h
  | exc c ρ2 =>
    rw [e] at h
    intro F2 H2 s1
    exact h σ F2 H2 (st.trans s1)
  | no =>
    rw [e] at h
    exact h
theorem postS_lift {α : Type} {o : Option α} {k : α → Fm → R Fl} (h : PostS p σ F H ρ ((lift o ρ1).bind k) D) : ∃ a, o = some a ∧ PostS p σ F H ρ (k a ρ1) D := by
  cases o with
  | none => exact h.elim
  | some a => exact ⟨a, rfl, h⟩
theorem postS_fz {rv : RV} {v : V} {k : Wk.D → Fm → R Fl} (s : Stp p σ F H ρ σ F1 H1 ρ1) (hv : RvOk p.K p.H0 H F1 σ H1 ρ1 v rv)
    (h : PostS p σ F H ρ ((fzR rv ρ1).bind k) D) : ∃ d ρ2 F2, Stp p σ F H ρ σ F2 H1 ρ2 ∧ Dq p.K F2 v d ∧ PostS p σ F H ρ (k d ρ2) D := by
  unfold fzR at h
  cases e : freeze rv ρ1 with
  | none =>
    rw [e] at h
    exact h.elim
  | some q =>
    rw [e] at h
    obtain ⟨d, ρ2⟩ := q
    obtain ⟨F2, s2, hd⟩ := freeze_ok s hv e
    exact ⟨d, ρ2, F2, s2, hd, h⟩
theorem postS_pk {γ : Type} {Hs : Hp} {rv : RV} {v : V} {f : Wk.D → Option γ} {k : γ → Fm → R Fl} (s : Stp p σ F H ρ σ F1 H1 ρ1) (hv : RvOk p.K p.H0 Hs F1 σ H1 ρ1 v rv)
    (h : PostS p σ F H ρ ((pk rv ρ1 f).bind k) D) : ∃ d c, Pk p.K F1 H1 v d ∧ f d = some c ∧ PostS p σ F H ρ (k c ρ1) D := by
  obtain ⟨c, e, h⟩ := postS_lift h
  obtain ⟨d, e1, e2⟩ := bind_some e
  exact ⟨d, c, peek_ok s.env hv e1, e2, h⟩
theorem setR_ok {i : Nat} {v : V} {rv : RV} {ρ2 : Fm} (s : Stp p σ F H ρ σ F1 H1 ρ1) (hv : RvOk p.K p.H0 H F1 σ H1 ρ1 v rv) (h : setR i rv ρ1 = some ρ2) : ∃ F2, Stp p σ F H ρ (σ.set i (some v)) F2 H1 ρ2 := by
  have e := s.env
  cases rv with
  | val d => exact ⟨F1, s.trans (step_setV e h hv)⟩
  | sl j =>
    obtain ⟨⟨d, ρ3⟩, h1, h2⟩ := bind_some h
    obtain ⟨F2, s2, hd⟩ := freeze_ok s hv h1
    exact ⟨F2, s2.trans (step_setV s2.env h2 hd)⟩
  | tmp xs =>
    obtain ⟨a, vs, rfl, w1, w2, w3, w4, w5, w6⟩ := hv
    simp only [setR] at h
    split at h
    case isFalse => cases h
    rename_i f
    cases h
    have hi : i < ρ1.length := by
      cases q : ρ1[i]? with
      | none => rw [q] at f; cases f
      | some s => exact (List.getElem?_eq_some_iff.mp q).1
    have own : ∀ {j : Nat} {ys : List Wk.D} {k : Kd}, (ρ1.set i (.own xs .mine))[j]? = some (.own ys k) → (i = j ∧ ys = xs ∧ k = .mine) ∨ (i ≠ j ∧ ρ1[j]? = some (.own ys k)) := fun {j ys k} q => by
      rcases set_get q with ⟨z, z2, _⟩ | ⟨z, z2⟩
      · cases z2
        exact .inl ⟨z, rfl, rfl⟩
      · exact .inr ⟨z, z2⟩
    have sv : (σ.set i (some (V.ref a)))[i]? = some (some (V.ref a)) := List.getElem?_set_self (by rw [← e.len]; exact hi)
    refine ⟨F1, s.fz, s.hp, s.dm, s.nf, fun b q => ?_, fun j ys k hj nk => ?_, ⟨e.sub, by rw [List.length_set, List.length_set]; exact e.len, fun j d q => ?_, fun j ys k q => ?_, fun j l b ys zs k k' q1 q2 e1 e2 => ?_, e.dom⟩⟩
    · obtain ⟨j, ys, k, q1, q2⟩ := q
      rcases own q1 with ⟨rfl, _, _⟩ | ⟨n, z⟩
      · rw [sv] at q2
        cases q2
        exact .inr w6
      · rw [List.getElem?_set_ne n] at q2
        exact s.ow b ⟨j, ys, k, z, q2⟩
    · obtain ⟨l1, ys', l2, l3⟩ := s.lk j ys k hj nk
      have n : i ≠ j := fun z => by
        subst z
        exact nk (free_not f l2)
      rw [List.getElem?_set_ne n, List.getElem?_set_ne n]
      exact ⟨l1, ys', l2, l3⟩
    · rcases set_get q with ⟨_, z, _⟩ | ⟨n, z⟩
      · cases z
      · rw [List.getElem?_set_ne n]
        exact e.val j d z
    · rcases own q with ⟨rfl, rfl, rfl⟩ | ⟨n, z⟩
      · exact ⟨a, vs, sv, w1, w2, w3, fun _ => w5⟩
      · rw [List.getElem?_set_ne n]
        exact e.own j ys k z
    · rcases own q1 with ⟨rfl, _, _⟩ | ⟨n, z⟩
      · rcases own q2 with ⟨rfl, _, _⟩ | ⟨n2, z2⟩
        · rfl
        · rw [sv] at e1
          cases e1
          rw [List.getElem?_set_ne n2] at e2
          exact absurd ⟨l, zs, k', z2, e2⟩ w4
      · rcases own q2 with ⟨rfl, _, _⟩ | ⟨n2, z2⟩
        · rw [sv] at e2
          cases e2
          rw [List.getElem?_set_ne n] at e1
          exact absurd ⟨j, ys, k, z, e1⟩ w4
        · rw [List.getElem?_set_ne n] at e1
          rw [List.getElem?_set_ne n2] at e2
          exact e.sep j l b ys zs k k' z z2 e1 e2
end
section
variable {X : Cx} {p : Par} {e c : Expr} {st : Stmt} {rest body orelse : List Stmt} {fe fa fb fx : Fm → R RV} {ft : Fm → R Bool} {fs fu : Fm → R Fl} {pos p1 p2 : Pos} {hK : p.K = X.K}
theorem s_nil : PSs X [] (tS p fun ρ => .ok .nx ρ) := PSs.weaken pss_nil fun D σ H h => by
  obtain ⟨F, ρ, e, h⟩ := h
  exact h σ F H (.refl e)
theorem s_doc {x : Str} {j : Nat} : PS X (.Expr (.Constant (.str x) j p1) p2) (tS p fun ρ => .ok .nx ρ) := PS.weaken ps_doc fun D σ H h => by
  obtain ⟨F, ρ, e, h⟩ := h
  exact h σ F H (.refl e)
theorem s_pass : PS X (.Pass pos) (tS p fun ρ => .ok .nx ρ) := PS.weaken ps_pass fun D σ H h => by
  obtain ⟨F, ρ, e, h⟩ := h
  exact h σ F H (.refl e)
theorem s_never : PS X st (tS p fun _ => .no) := PS.weaken ps_never fun D σ H h => by
  obtain ⟨F, ρ, e, h⟩ := h
  exact h.elim
theorem e_never : PE X e (tE p fun _ => .no) := ⟨fun _ _ _ _ _ _ h => by
  obtain ⟨F, ρ, e, h⟩ := h
  exact h.elim⟩
theorem s_seq (h1 : PS X st (tS p fs)) (h2 : PSs X rest (tS p fu)) : PSs X (st :: rest) (tS p fun ρ => (fs ρ).bind fun fl ρ1 => match fl with
    | .nx => fu ρ1
    | fl => .ok fl ρ1) :=
  PSs.weaken (pss_cons h1 h2) fun D σ H h => by
    obtain ⟨F, ρ, e, h⟩ := h
    have h : PostS p σ F H ρ ((fs ρ).bind fun fl ρ1 => match fl with
      | .nx => fu ρ1
      | fl => .ok fl ρ1) D := h
    refine ⟨F, ρ, e, ?_⟩
    cases q : fs ρ with
    | no =>
      rw [q] at h
      exact h
    | exc c ρ1 =>
      rw [q] at h
      exact h
    | ok fl ρ1 =>
      rw [q] at h
      cases fl with
      | nx => exact fun σ1 F1 H1 s => ⟨F1, ρ1, s.env, PostS.base s h⟩
      | ret v => exact h
      | brk => exact h
      | cnt => exact h
theorem s_expr (he : PE X e (tE p fe)) (hs : swapsWith e none pos.line X.env = pure false) : PS X (.Expr e pos) (tS p fun ρ => (fe ρ).bind fun _ ρ1 => .ok .nx ρ1) :=
  PS.weaken (ps_expr he hs) fun D σ H h => by
    obtain ⟨F, ρ, e, h⟩ := h
    exact sG_seq (.refl e) h fun F1 H1 ρ1 r x _ s1 v1 h => h σ F1 H1 s1
theorem asg_tr {i : Nat} : ∀ D σ H, tS p (fun ρ => (fe ρ).bind fun r ρ1 => (lift (setR i r ρ1) ρ1).bind fun ρ2 _ => .ok .nx ρ2) D σ H → tAsg (tE p fe) (gName i) D σ H := fun D σ H h => by
  obtain ⟨F, ρ, e, h⟩ := h
  refine sG_seq (.refl e) h fun F1 H1 ρ1 r x _ s1 v1 h => ?_
  obtain ⟨ρ2, e2, h⟩ := postS_lift h
  obtain ⟨F2, s2⟩ := setR_ok s1 v1 e2
  exact h _ F2 H1 s2
theorem s_asg {i : Nat} {x : Str} (hN : X.N.Nodup) (hi : X.N[i]? = some x) (hx : Loc X.env.scope x) (he : PE X e (tE p fe)) (hs : swapsWith e (some (.Name x p1)) pos.line X.env = pure false) (hf : X.fn x = true ∨ X.env.scope.names.lookup x = some .local) :
    PS X (.Assign [.Name x p1] e pos) (tS p fun ρ => (fe ρ).bind fun r ρ1 => (lift (setR i r ρ1) ρ1).bind fun ρ2 _ => .ok .nx ρ2) :=
  PS.weaken (ps_set hN hi hx he hs hf) asg_tr
theorem s_asgT {t : Tg} {tg : Expr} (he : PE X e (tE p fe)) (hg : PG X tg (gW p t)) (hs : swapsWithSole [tg] e pos.line X.env = pure false) (hw : swappedStores [tg] e X.env = pure none) (h1 : (assignEach [tg] X.env).map (·.2) = [assign tg X.env]) :
    PS X (.Assign [tg] e pos) (tS p fun ρ => (fe ρ).bind fun r ρ1 => (fzR r ρ1).bind fun d ρ2 => (lift (asgT t d ρ2) ρ2).bind fun ρ3 _ => .ok .nx ρ3) :=
  PS.weaken (ps_asg he hg hs hw h1) fun D σ H h => by
    obtain ⟨F, ρ, e, h⟩ := h
    refine sG_seq (.refl e) h fun F1 H1 ρ1 r x _ s1 v1 h => ?_
    obtain ⟨d, ρ2, F2, s2, hd, h⟩ := postS_fz s1 v1 h
    obtain ⟨ρ3, e3, h⟩ := postS_lift h
    exact ⟨F2, ρ2, d, ρ3, s2.env, hd, e3, fun σ' s3 _ => h σ' F2 H1 (s2.trans s3)⟩
theorem setVs2 {i j : Nat} {ds : List D} {vs : List V} {σ : St} {F H : Hp} {ρ ρ' : Fm} (e : EnvOk p.K p.H0 F σ H ρ) (hv : DqAll p.K F vs ds) (h : setVs [i, j] ds ρ = some ρ') : ∃ v w, vs = [v, w] ∧ Stp p σ F H ρ ((σ.set i (some v)).set j (some w)) F H ρ' := by
  cases hv with
  | nil => cases h
  | cons r1 hv =>
    cases hv with
    | nil =>
      obtain ⟨_, _, h⟩ := bind_some h
      cases h
    | cons r2 hv =>
      obtain ⟨ρ1, h1, h⟩ := bind_some h
      obtain ⟨ρ2, h2, h⟩ := bind_some h
      cases hv with
      | cons _ _ => cases h
      | nil =>
        cases h
        have s1 := step_setV e h1 r1
        exact ⟨_, _, rfl, s1.trans (step_setV s1.env h2 r2)⟩
theorem setVs3 {i j l : Nat} {ds : List D} {vs : List V} {σ : St} {F H : Hp} {ρ ρ' : Fm} (e : EnvOk p.K p.H0 F σ H ρ) (hv : DqAll p.K F vs ds) (h : setVs [i, j, l] ds ρ = some ρ') : ∃ u v w, vs = [u, v, w] ∧ Stp p σ F H ρ (((σ.set i (some u)).set j (some v)).set l (some w)) F H ρ' := by
  cases hv with
  | nil => cases h
  | cons r1 hv =>
    obtain ⟨ρ1, h1, h⟩ := bind_some h
    have s1 := step_setV e h1 r1
    obtain ⟨v, w, rfl, s2⟩ := setVs2 (p := p) s1.env hv h
    exact ⟨_, v, w, rfl, s1.trans s2⟩
theorem s_par2 {i j : Nat} {x y : Str} {a b : Expr} {fd : Fm → R (List D)} {px py pt : Pos} {kt k2 pt2} (hc : X.calm = true) (hN : X.N.Nodup) (hi : X.N[i]? = some x) (hj : X.N[j]? = some y) (hij : i ≠ j)
    (hx : X.env.scope.names.lookup x = some .local) (hy : X.env.scope.names.lookup y = some .local) (ha : PA X [a, b] (tD p fd))
    (hw : swappedStores [.Tuple [.Name x px, .Name y py] kt pt] (.Tuple [a, b] k2 pt2) X.env = pure (some [x, y]))
    (hs : swapsWithSole [.Tuple [.Name x px, .Name y py] kt pt] (.Tuple [a, b] k2 pt2) pos.line X.env = pure false) :
    PS X (.Assign [.Tuple [.Name x px, .Name y py] kt pt] (.Tuple [a, b] k2 pt2) pos) (tS p fun ρ => (fd ρ).bind fun ds ρ1 => (lift (setVs [i, j] ds ρ1) ρ1).bind fun ρ2 _ => .ok .nx ρ2) :=
  PS.weaken (ps_par hc hN hi hj hij hx hy ha hw hs) fun D σ H h => by
    obtain ⟨F, ρ, e, h⟩ := h
    refine sG_seq (.refl e) h fun F1 H1 ρ1 ds vs _ s1 v1 h => ?_
    obtain ⟨ρ2, e2, h⟩ := postS_lift h
    obtain ⟨v, w, rfl, s2⟩ := setVs2 (p := p) s1.env v1 e2
    exact ⟨v, w, rfl, h _ F1 H1 (s1.trans s2)⟩
theorem s_par3 {i j l : Nat} {x y z : Str} {a b c : Expr} {fd : Fm → R (List D)} {px py pz pt : Pos} {kt k2 pt2} (hc : X.calm = true) (hN : X.N.Nodup) (hi : X.N[i]? = some x) (hj : X.N[j]? = some y) (hl : X.N[l]? = some z) (hij : i ≠ j) (hil : i ≠ l) (hjl : j ≠ l)
    (hx : X.env.scope.names.lookup x = some .local) (hy : X.env.scope.names.lookup y = some .local) (hz : X.env.scope.names.lookup z = some .local) (ha : PA X [a, b, c] (tD p fd))
    (hw : swappedStores [.Tuple [.Name x px, .Name y py, .Name z pz] kt pt] (.Tuple [a, b, c] k2 pt2) X.env = pure (some [x, y, z]))
    (hs : swapsWithSole [.Tuple [.Name x px, .Name y py, .Name z pz] kt pt] (.Tuple [a, b, c] k2 pt2) pos.line X.env = pure false) :
    PS X (.Assign [.Tuple [.Name x px, .Name y py, .Name z pz] kt pt] (.Tuple [a, b, c] k2 pt2) pos) (tS p fun ρ => (fd ρ).bind fun ds ρ1 => (lift (setVs [i, j, l] ds ρ1) ρ1).bind fun ρ2 _ => .ok .nx ρ2) :=
  PS.weaken (ps_par3 hc hN hi hj hl hij hil hjl hx hy hz ha hw hs) fun D σ H h => by
    obtain ⟨F, ρ, e, h⟩ := h
    refine sG_seq (.refl e) h fun F1 H1 ρ1 ds vs _ s1 v1 h => ?_
    obtain ⟨ρ2, e2, h⟩ := postS_lift h
    obtain ⟨u, v, w, rfl, s2⟩ := setVs3 (p := p) s1.env v1 e2
    exact ⟨u, v, w, rfl, h _ F1 H1 (s1.trans s2)⟩
include hK in
theorem s_setix {i : Nat} {x : Str} {ix : Expr} {pt : Pos} (hN : X.N[i]? = some x) (hv : Vis X.env.scope x) (hd : (x == ("__debug__" : Str)) = false) (hcd : (x == ("__classdict__" : Str)) = false) (hx : PE X ix (tE p fx)) (he : PE X e (tE p fe))
    (ha : ∀ v, assign (.Subscript (.Name x p1) ix pt) X.env v = (do
      let ov ← holding [v] (eval (.Name x p1) X.env)
      let iv ← holding [v, ov] (eval ix X.env)
      standAt pt
      holding [v, ov, iv] (setItem ov iv v)
      release [v, ov, iv] []))
    (hs : swapsWithSole [.Subscript (.Name x p1) ix pt] e pos.line X.env = pure false) (hw : swappedStores [.Subscript (.Name x p1) ix pt] e X.env = pure none) (h1 : (assignEach [.Subscript (.Name x p1) ix pt] X.env).map (·.2) = [assign (.Subscript (.Name x p1) ix pt) X.env]) :
    PS X (.Assign [.Subscript (.Name x p1) ix pt] e pos) (tS p fun ρ => (fe ρ).bind fun r ρ1 => (fzR r ρ1).bind fun d ρ2 => (match ρ2[i]? with
      | some (.own _ _) => (fx ρ2).bind fun r2 ρ3 => (pk r2 ρ3 asInt).bind fun j _ => setAt i j d ρ3
      | _ => .no)) :=
  PS.weaken (ps_asg he (pg_sub (pe_var hN hv hd hcd) hx set_list ha) hs hw h1) fun D σ H h => by
    obtain ⟨F, ρ, e, h⟩ := h
    refine sG_seq (.refl e) h fun F1 H1 ρ1 r x _ s1 v1 h => ?_
    obtain ⟨d, ρ2, F2, s2, hd2, h⟩ := postS_fz s1 v1 h
    split at h
    · rename_i xs k hi
      obtain ⟨l, vs, w1, w2, _⟩ := s2.env.own i xs k hi
      refine ⟨_, w1, ?_⟩
      refine sG_seq s2 h fun F3 H3 ρ3 r2 y s23 s3 v3 h => ?_
      obtain ⟨dj, j, k1, e1, h⟩ := postS_pk s3 v3 h
      have ey := asInt_pk (hK := hK) k1 e1
      unfold setAt at h
      split at h
      · rename_i ys k2 hi2
        split at h
        · rename_i g
          obtain ⟨n, en, h⟩ := postS_lift h
          obtain ⟨l', us, z1, z2, z3, _⟩ := s3.env.own i ys k2 hi2
          rw [w1] at z1
          cases z1
          have ll := dqAll_len z3
          refine ⟨l, us, j, n, rfl, ey, z2, by rw [ll]; exact en, ?_⟩
          exact h σ F3 _ (s3.write g hi2 w1 z2 (dqAll_set (dq_mono s23.fz _ _ hd2) n z3))
        · exact h.elim
      · exact h.elim
    · exact h.elim
theorem s_ite {s1 s2 : List Stmt} (hc : PT X c (tT p ft)) (ha : PSs X s1 (tS p fs)) (hb : PSs X s2 (tS p fu)) : PS X (.If c s1 s2 pos) (tS p fun ρ => (ft ρ).bind fun b ρ1 => if b = true then fs ρ1 else fu ρ1) :=
  PS.weaken (ps_if hc ha hb) fun D σ H h => by
    obtain ⟨F, ρ, e, h⟩ := h
    refine sG_seq (.refl e) h fun F1 H1 ρ1 r x _ s1 v1 h => ?_
    cases v1
    split at h
    · rename_i q
      rw [if_pos q]
      exact ⟨F1, ρ1, s1.env, PostS.base s1 h⟩
    · rename_i q
      rw [if_neg q]
      exact ⟨F1, ρ1, s1.env, PostS.base s1 h⟩
theorem s_ret (he : PE X e (tE p fe)) : PS X (.Return (some e) pos) (tS p fun ρ => (fe ρ).bind fun r ρ1 => .ok (.ret r) ρ1) :=
  PS.weaken (ps_ret he) fun D σ H h => by
    obtain ⟨F, ρ, e, h⟩ := h
    exact sG_seq (.refl e) h fun F1 H1 ρ1 r x _ s1 v1 h => h σ F1 H1 x s1 v1
theorem s_retN : PS X (.Return none pos) (tS p fun ρ => .ok (.ret (.val .none)) ρ) :=
  PS.weaken ps_retN fun D σ H h => by
    obtain ⟨F, ρ, e, h⟩ := h
    exact h σ F H .non (.refl e) .non
theorem s_brk : PS X (.Break pos) (tS p fun ρ => .ok .brk ρ) := PS.weaken ps_break fun D σ H h => by
  obtain ⟨F, ρ, e, h⟩ := h
  exact h σ F H (.refl e)
theorem s_cnt : PS X (.Continue pos) (tS p fun ρ => .ok .cnt ρ) := PS.weaken ps_continue fun D σ H h => by
  obtain ⟨F, ρ, e, h⟩ := h
  exact h σ F H (.refl e)
/-- turns of a body -/
theorem loop_tr {N : St → Hp → Prop} {σ : St} {F H : Hp} {ρ : Fm} {D : Ends} {r : R Fl} {k : Fm → R Fl} (hN : ∀ σ' F' H' ρ', Stp p σ F H ρ σ' F' H' ρ' → PostS p σ' F' H' ρ' (k ρ') D → N σ' H')
    (h : PostS p σ F H ρ (r.bind fun fl ρ1 => match fl with
      | .nx => k ρ1
      | .cnt => k ρ1
      | .brk => .ok .nx ρ1
      | .ret v => .ok (.ret v) ρ1) D) : PostS p σ F H ρ r { D with nx := N, ct := N, bk := D.nx } := by
  cases r with
  | no => exact h
  | exc c ρ1 => exact h
  | ok fl ρ1 =>
    cases fl with
    | nx => exact fun σ' F' H' t => hN σ' F' H' ρ1 t (PostS.base t h)
    | cnt => exact fun σ' F' H' t => hN σ' F' H' ρ1 t (PostS.base t h)
    | brk => exact h
    | ret v => exact h
theorem s_whl {b : List Stmt} (hp : PassesOwn (model X.prog X.w) X.A X.env X.xe) (hc : PT X c (tT p ft)) (hb : PSs X b (tS p fs)) : PS X (.While c b [] pos) (tS p fun ρ => whlN ft fs turnsMax ρ) :=
  PS.weaken (ps_while hp hc hb) fun D σ H h => by
    obtain ⟨F, ρ, e, h⟩ := h
    refine ⟨fun m σ2 H2 => ∃ F2 ρ2, EnvOk p.K p.H0 F2 σ2 H2 ρ2 ∧ PostS p σ2 F2 H2 ρ2 (whlN ft fs m ρ2) D, ⟨_, F, ρ, e, h⟩, ?_⟩
    rintro m σ2 H2 ⟨F2, ρ2, e2, h⟩
    cases m with
    | zero => exact h.elim
    | succ m =>
      simp only [whlN] at h
      refine sG_seq (.refl e2) h fun F3 H3 ρ3 b b' _ s3 v3 h => ?_
      cases v3
      split at h
      · rename_i q
        rw [if_pos q]
        exact ⟨fun σ' H' => ∃ F2 ρ2, EnvOk p.K p.H0 F2 σ' H' ρ2 ∧ PostS p σ' F2 H' ρ2 (whlN ft fs m ρ2) D, fun σ' H' q => ⟨m, Nat.lt_succ_self m, q⟩, F3, ρ3, s3.env, loop_tr (fun σ' F' H' ρ' t h => ⟨F', ρ', t.env, h⟩) (PostS.base s3 h)⟩
      · rename_i q
        rw [if_neg q]
        exact h σ2 F3 H3 s3
theorem PostS.unlock {σ : St} {F H F1 H1 : Hp} {ρ ρP ρL : Fm} {lk : List Nat} {D : Ends} {r : R Fl} (s : Stp p σ F H ρ σ F1 H1 ρP) (l : LockOf ρP ρL lk) (h : PostS p σ F H ρ (unlockR lk r) D) : PostS p σ F1 H1 ρL r D := by
  match r, h with
  | .ok .nx ρ', h => exact fun σ' F' H' t => h σ' F' H' (s.unlock l t)
  | .ok .brk ρ', h => exact fun σ' F' H' t => h σ' F' H' (s.unlock l t)
  | .ok .cnt ρ', h => exact fun σ' F' H' t => h σ' F' H' (s.unlock l t)
  | .ok (.ret v) ρ', h => exact fun σ' F' H' x t rv => h σ' F' H' x (s.unlock l t) ((rv.old s.dm).unlock)
  | .exc c ρ', h => exact fun σ' F' H' t => h σ' F' H' (s.unlock l t)
  | .no, h => exact h.elim
theorem s_for {tg iter : Expr} {b : List Stmt} {t : Tg} {fi : Fm → R Its} (hp : PassesOwn (model X.prog X.w) X.A X.env X.xe) (hc : X.calm = true) (hi : PI X tg iter (tI p fi)) (hg : PG X tg (gW p t)) (hb : PSs X b (tS p fs)) (hs : ∀ x, foldedSetIterable iter X.env x = pure x) :
    PS X (.For tg iter b [] pos) (tS p fun ρ => (fi ρ).bind fun q ρ1 => unlockR q.2 (forL (fun d ρ2 => (lift (asgT t d ρ2) ρ2).bind fun ρ3 _ => fs ρ3) q.1 ρ1)) :=
  PS.weaken (ps_for hp hc hi hg hb hs) fun D σ H h => by
    obtain ⟨F, ρ, e, h⟩ := h
    refine ⟨F, ρ, e, ?_⟩
    have h : PostS p σ F H ρ ((fi ρ).bind fun q ρ1 => unlockR q.2 (forL (fun d ρ2 => (lift (asgT t d ρ2) ρ2).bind fun ρ3 _ => fs ρ3) q.1 ρ1)) D := h
    cases ef : fi ρ with
    | no =>
      rw [ef] at h
      exact h
    | exc c ρ1 =>
      rw [ef] at h
      exact fun F' H' s => h σ F' H' s
    | ok its ρL =>
      rw [ef] at h
      intro F' H' J ρP G s l io g
      obtain ⟨ds, lk⟩ := its
      obtain ⟨f, hf⟩ : ∃ f, f = (fun (d : Wk.D) (ρ2 : Fm) => (lift (asgT t d ρ2) ρ2).bind fun ρ3 _ => fs ρ3) := ⟨_, rfl⟩
      have h : PostS p σ F H ρ (unlockR lk (forL (fun (d : Wk.D) (ρ2 : Fm) => (lift (asgT t d ρ2) ρ2).bind fun ρ3 _ => fs ρ3) ds ρL)) D := h
      rw [← hf] at h
      have h := PostS.unlock s l h
      have eL := s.env.lock l
      refine ⟨fun i m σ2 H2 => m = ds.length - i ∧ i ≤ ds.length ∧ ∃ F2 ρ2, Stp p σ F' H' ρL σ2 F2 H2 ρ2 ∧ PostS p σ2 F2 H2 ρ2 (forL f (ds.drop i) ρ2) D, ⟨_, rfl, Nat.zero_le _, F', ρL, .refl eL, h⟩, ?_⟩
      rintro i m σ2 H2 ⟨rfl, hi, F2, ρ2, st, h⟩
      have g2 : G F2 σ2 H2 ρ2 := io.keep _ _ _ _ _ _ _ _ st g
      by_cases hlt : i < ds.length
      · have hdrop : ds.drop i = ds[i] :: ds.drop (i + 1) := List.drop_eq_getElem_cons hlt
        rw [hdrop] at h
        have h : PostS p σ2 F2 H2 ρ2 ((f ds[i] ρ2).bind fun fl ρ1 => match fl with
          | .nx => forL f (ds.drop (i + 1)) ρ1
          | .cnt => forL f (ds.drop (i + 1)) ρ1
          | .brk => .ok .nx ρ1
          | .ret v => .ok (.ret v) ρ1) D := h
        refine .inr ⟨io.go i F2 σ2 H2 ρ2 hlt st.env g2, fun σ3 H3 => i + 1 ≤ ds.length ∧ ∃ F3 ρ3, Stp p σ F' H' ρL σ3 F3 H3 ρ3 ∧ PostS p σ3 F3 H3 ρ3 (forL f (ds.drop (i + 1)) ρ3) D, fun σ3 H3 q => ⟨ds.length - (i + 1), by omega, rfl, q⟩, fun x Hy y => ?_⟩
        obtain ⟨F3, d, s3, hd, hx⟩ := io.yld i F2 σ2 H2 ρ2 x Hy hlt st.env g2 y
        rw [List.getElem?_eq_getElem hlt] at hd
        cases hd
        have h := PostS.base s3 h
        rw [hf] at h
        dsimp only at h
        rw [R.bind_assoc] at h
        obtain ⟨ρ3, e3, h⟩ := postS_lift h
        refine ⟨F3, ρ2, _, ρ3, s3.env, hx, e3, fun σ3 s4 _ => ⟨F3, ρ3, s4.env, ?_⟩⟩
        have h := PostS.base s4 h
        rw [← hf] at h
        exact loop_tr (fun σ' F' H' ρ' t h => ⟨hlt, F', ρ', (st.trans s3).trans (s4.trans t), h⟩) h
      · have hieq : i = ds.length := by omega
        subst hieq
        refine .inl ⟨io.stop F2 σ2 H2 ρ2 st.env g2, ?_⟩
        rw [List.drop_length] at h
        exact h σ2 F2 H2 (.refl st.env)
end
end Wk

/-! The walk layer, part 14: does a text of the small language say what an expression says? -/
namespace Wk
open PySem PySem.Spec L2
/-- what a name of the module stands for -/
inductive GK where
  | free
  | int (i : Int)
  | nums (is : List Int)
  | gcd
  | fn (k : Nat)
  deriving DecidableEq
structure Ck where
  N : List Str
  sc : Scope
  fn : Option Scope
  gs : List (Str × GK)
def Ck.fnB (c : Ck) : Str → Bool := match c.fn with
  | none => fun _ => true
  | some s => fun x => s.names.lookup x == some .cell
def Ck.gl (c : Ck) (x : Str) : Bool := decide (c.sc.names.lookup x = some .globalImplicit)
def Ck.is (c : Ck) (x : Str) (g : GK) : Bool := decide (c.gs.lookup x = some g)
def Ck.fr (c : Ck) (x : Str) : Bool := c.gl x && c.is x .free
def okName (x : Str) : Bool := !(x == ("__debug__" : Str)) && !(x == ("__classdict__" : Str))
def visB (sc : Scope) (x : Str) : Bool := decide (sc.names.lookup x = some .local) || (decide (sc.names.lookup x = some .cell) || decide (sc.names.lookup x = some .free))
def locB (sc : Scope) (x : Str) : Bool := decide (sc.names.lookup x = some .local) || decide (sc.names.lookup x = some .cell)
def rdOk (c : Ck) (i : Nat) (x : Str) : Bool := decide (c.N[i]? = some x) && (visB c.sc x && okName x)
def wrOk (c : Ck) (i : Nat) (x : Str) : Bool := decide (c.N[i]? = some x) && (locB c.sc x && (c.fnB x || decide (c.sc.names.lookup x = some .local)))
def notStar : Expr → Bool
  | .Starred _ _ => false
  | _ => true
def notSet : Expr → Bool
  | .Set _ _ _ => false
  | _ => true
def notSlice : Expr → Bool
  | .Slice _ _ _ _ => false
  | _ => true
def notComp : Expr → Bool
  | .ListComp _ _ _ _ => false
  | .SetComp _ _ _ _ => false
  | .DictComp _ _ _ _ _ => false
  | _ => true
def isTup : Expr → Bool
  | .Tuple _ _ _ => true
  | _ => false
theorem plain_of {X : Cx} {e : Expr} (h : notStar e = true) : Plain X e := by
  cases e <;> first | (intro es; rfl) | cases h
theorem fold_of {e : Expr} (h : notSet e = true) : ∀ env x, foldedSetIterable e env x = pure x := by
  cases e <;> first | (intro env x; rfl) | cases h
theorem pix_of {e : Expr} (h : notSlice e = true) : PlainIx e := by
  cases e <;> first | (intro o i; rfl) | cases h
theorem swaps_of {e : Expr} (h : notComp e = true) : ∀ t l env, swapsWith e t l env = pure false := by
  cases e <;> first | (intro t l env; rfl) | cases h
theorem mark_of {e : Expr} (h : notSet e = true) (o : CmpOp) : behindInMarks o e = false := by
  cases e <;> first | rfl | cases h
def litOk : D → Expr → Bool
  | .int i, .Constant (.int j) _ _ => decide (i = j)
  | .bool i, .Constant (.bool j) _ _ => decide (i = j)
  | .str i, .Constant (.str j) _ _ => decide (i = j)
  | .none, .Constant .none _ _ => true
  | _, _ => false
def BOp.is : BOp → Operator → Bool
  | .add, .Add => true | .sub, .Sub => true | .mul, .Mult => true | .fdiv, .FloorDiv => true | .mod, .Mod => true
  | .pow, .Pow => true | .shl, .LShift => true | .shr, .RShift => true | .band, .BitAnd => true | .bor, .BitOr => true
  | _, _ => false
theorem BOp.is_ok {o : BOp} {q : Operator} (h : o.is q = true) : q = o.op := by
  cases o <;> cases q <;> first | rfl | cases h
def COp.is : COp → CmpOp → Bool
  | .eq, .Eq => true | .ne, .NotEq => true | .lt, .Lt => true | .le, .LtE => true | .gt, .Gt => true | .ge, .GtE => true
  | .isN, .Is => true | .isnN, .IsNot => true | .in_, .In => true | .notin, .NotIn => true
  | _, _ => false
theorem COp.is_ok {o : COp} {q : CmpOp} (h : o.is q = true) : q = o.op := by
  cases o <;> cases q <;> first | rfl | cases h
def B1.nm : B1 → Str
  | .len => "len" | .int => "int" | .abs => "abs" | .max => "max" | .min => "min" | .sum => "sum" | .all => "all" | .any => "any" | .sorted => "sorted" | .tuple => "tuple" | .list => "list" | .str => "str"
def Ty.sn : Ty → Str
  | .int => "int" | .bool => "bool" | .str => "str" | .tuple => "tuple" | .list => "list"
mutual
def chkG : Tg → Ck → Expr → Bool
  | .name i, c, e => match e with
    | .Name x _ => wrOk c i x
    | _ => false
  | .tup ts, c, e => match e with
    | .Tuple es _ _ => chkGs ts c es
    | _ => false
def chkGs : Tgs → Ck → List Expr → Bool
  | .nil, _, es => match es with
    | [] => true
    | _ => false
  | .cons t ts, c, es => match es with
    | e :: r => notStar e && (chkG t c e && chkGs ts c r)
    | _ => false
end
mutual
/-- names and slots of a target -/
def ownG : Tg → Expr → List (Str × Nat)
  | .name i, e => match e with
    | .Name x _ => [(x, i)]
    | _ => []
  | .tup ts, e => match e with
    | .Tuple es _ _ => ownGs ts es
    | _ => []
def ownGs : Tgs → List Expr → List (Str × Nat)
  | .nil, _ => []
  | .cons t ts, es => match es with
    | e :: r => ownG t e ++ ownGs ts r
    | _ => []
end
def Ck.inner (c : Ck) (s : Scope) : Ck := { c with sc := relS s c.sc, fn := some s }
def compOk (c : Ck) (t : Tg) (tg it : Expr) (s : Scope) : Bool := blkC c.N c.sc s (ownG t tg) && (decide ((ownG t tg).map (·.2) = t.slots) && (chkG t (c.inner s) tg && notSet it))
mutual
def chkE : IE → Ck → Expr → Bool
  | .never, _, e => notStar e
  | .lit d, _, e => litOk d e
  | .var i, c, e => match e with
    | .Name x _ => rdOk c i x
    | _ => false
  | .gint x i, c, e => match e with
    | .Name y _ => decide (y = x) && (c.gl x && (c.is x (.int i) && okName x))
    | _ => false
  | .gtup x is, c, e => match e with
    | .Name y _ => decide (y = x) && (c.gl x && (c.is x (.nums is) && okName x))
    | _ => false
  | .bin o a b, c, e => match e with
    | .BinOp l q r _ => o.is q && (chkE a c l && chkE b c r)
    | _ => false
  | .neg a, c, e => match e with
    | .UnaryOp .USub x _ => chkE a c x
    | _ => false
  | .not a, c, e => match e with
    | .UnaryOp .Not x _ => chkE a c x
    | _ => false
  | .and as, c, e => match e with
    | .BoolOp .And vs _ => !vs.isEmpty && chkEs as c vs
    | _ => false
  | .or as, c, e => match e with
    | .BoolOp .Or vs _ => !vs.isEmpty && chkEs as c vs
    | _ => false
  | .ite t a b, c, e => match e with
    | .IfExp x y z _ => chkE t c x && (chkE a c y && chkE b c z)
    | _ => false
  | .cmp o a b, c, e => match e with
    | .Compare x [q] [y] _ => o.is q && (notSet y && (chkE a c x && chkE b c y))
    | _ => false
  | .cmp2 o p a b d, c, e => match e with
    | .Compare x [q, r] [y, z] _ => o.is q && (p.is r && (notSet y && (notSet z && (chkE a c x && (chkE b c y && chkE d c z)))))
    | _ => false
  | .idx a i, c, e => match e with
    | .Subscript x y _ => notSlice y && (chkE a c x && chkE i c y)
    | _ => false
  | .slc a lo hi, c, e => match e with
    | .Subscript x (.Slice (some y) (some z) none _) _ => chkE a c x && (chkE lo c y && chkE hi c z)
    | _ => false
  | .rvs a, c, e => match e with
    | .Subscript a' (.Slice none none (some (.UnaryOp .USub (.Constant (.int 1) _ _) _)) _) _ => chkE a c a'
    | _ => false
  | .slo a lo, c, e => match e with
    | .Subscript x (.Slice (some y) none none _) _ => chkE a c x && chkE lo c y
    | _ => false
  | .shi a hi, c, e => match e with
    | .Subscript x (.Slice none (some y) none _) _ => chkE a c x && chkE hi c y
    | _ => false
  | .tup as, c, e => match e with
    | .Tuple es _ _ => chkEs as c es
    | _ => false
  | .lst as, c, e => match e with
    | .List es _ => chkEs as c es
    | _ => false
  | .isi a t, c, e => match e with
    | .Call (.Name x _) [y, .Name z _] [] _ => decide (x = "isinstance") && (decide (z = t.sn) && (c.fr x && (c.fr z && chkE a c y)))
    | _ => false
  | .sset a, c, e => match e with
    | .Call (.Name x _) [.Call (.Name z _) [y] [] _] [] _ => decide (x = "sorted") && (c.fr x && (decide (z = "set") && (c.fr z && chkE a c y)))
    | _ => false
  | .b1 f a, c, e => match e with
    | .Call (.Name x _) [y] [] _ => decide (x = f.nm) && (c.fr x && chkE a c y)
    | _ => false
  | .b2 f a b, c, e => match e with
    | .Call (.Name x _) [y, z] [] _ => (match f with
      | .max => decide (x = "max") && c.fr x
      | .min => decide (x = "min") && c.fr x
      | .gcd => c.gl x && (c.is x .gcd && okName x)) && (chkE a c y && chkE b c z)
    | _ => false
  | .lrng it, c, e => match e with
    | .Call (.Name x _) [y] [] _ => decide (x = "list") && (c.fr x && chkR it c y)
    | _ => false
  | .trng it, c, e => match e with
    | .Call (.Name x _) [y] [] _ => decide (x = "tuple") && (c.fr x && chkR it c y)
    | _ => false
  | .call k as, c, e => match e with
    | .Call (.Name x _) es [] _ => c.gl x && (c.is x (.fn k) && (okName x && chkEs as c es))
    | _ => false
  | .comp a t it, c, e => match e with
    | .ListComp x [⟨tg, ie, [], 0⟩] s _ => compOk c t tg ie s && (chkI it c tg ie && chkE a (c.inner s) x)
    | _ => false
  | .compIf a t it d, c, e => match e with
    | .ListComp x [⟨tg, ie, [y], 0⟩] s _ => compOk c t tg ie s && (chkI it c tg ie && (chkE a (c.inner s) x && chkE d (c.inner s) y))
    | _ => false
  | .app i a, c, e => match e with
    | .Call (.Attribute (.Name x _) m ap) [y] [] pos => decide (m = "append") && (rdOk c i x && ((ap.endLine == pos.line) && chkE a c y))
    | _ => false
  | .pop0 i, c, e => match e with
    | .Call (.Attribute (.Name x _) m ap) [] [] pos => decide (m = "pop") && (rdOk c i x && (ap.endLine == pos.line))
    | _ => false
  | .popAt i a, c, e => match e with
    | .Call (.Attribute (.Name x _) m ap) [y] [] pos => decide (m = "pop") && (rdOk c i x && ((ap.endLine == pos.line) && chkE a c y))
    | _ => false
def chkEs : IEs → Ck → List Expr → Bool
  | .nil, _, es => match es with
    | [] => true
    | _ => false
  | .cons a as, c, es => match es with
    | e :: r => chkE a c e && chkEs as c r
    | _ => false
def chkI : II → Ck → Expr → Expr → Bool
  | .rng1 a, c, _, e => match e with
    | .Call (.Name x _) [y] [] _ => decide (x = "range") && (c.fr x && chkE a c y)
    | _ => false
  | .rng2 a b, c, _, e => match e with
    | .Call (.Name x _) [y, z] [] _ => decide (x = "range") && (c.fr x && (chkE a c y && chkE b c z))
    | _ => false
  | .rng3 a b d, c, _, e => match e with
    | .Call (.Name x _) [y, z, w] [] _ => decide (x = "range") && (c.fr x && (chkE a c y && (chkE b c z && chkE d c w)))
    | _ => false
  | .seq a, c, _, e => chkE a c e
  | .zip a b, c, tg, e => isTup tg && match e with
    | .Call (.Name x _) [y, z] [] _ => decide (x = "zip") && (c.fr x && (chkE a c y && chkE b c z))
    | _ => false
  | .enum a, c, tg, e => isTup tg && match e with
    | .Call (.Name x _) [y] [] _ => decide (x = "enumerate") && (c.fr x && chkE a c y)
    | _ => false
  | .rev a, c, _, e => match e with
    | .Call (.Name x _) [y] [] _ => decide (x = "reversed") && (c.fr x && chkE a c y)
    | _ => false
/-- range(..) as an argument -/
def chkR : II → Ck → Expr → Bool
  | .rng1 a, c, e => match e with
    | .Call (.Name x _) [y] [] _ => decide (x = "range") && (c.fr x && chkE a c y)
    | _ => false
  | .rng2 a b, c, e => match e with
    | .Call (.Name x _) [y, z] [] _ => decide (x = "range") && (c.fr x && (chkE a c y && chkE b c z))
    | _ => false
  | _, _, _ => false
end
/-! ### what the names of the module are -/
def GkOk (X : Cx) (p : Par) (C : Nat → List Arg → RC) (x : Str) : GK → Prop
  | .free => X.mg x = none
  | .int i => ∃ t, X.mg x = some (.int i t)
  | .nums is => ∃ a, X.mg x = some (.ref a) ∧ ∀ H, SqT X.K H a (is.map V.int)
  | .gcd => X.mg x = some (.builtin "math.gcd")
  | .fn k => ∃ (f : Addr) (fd : FuncData) (ps : List Str) (n : Nat), FnOk X.prog X.w X.K X.mg X.base (L2.CX X.prog X.w) n f fd ps (spC p.K p.xc (C k)) ∧ Room n X.A ∧ X.mg x = some (.ref f) ∧ PySem.W.keepIn X.K (.ref f) = true ∧ Binds X.K fd ps []
structure Cok (c : Ck) (X : Cx) (p : Par) (C : Nat → List Arg → RC) : Prop where
  N : X.N = c.N
  nd : c.N.Nodup
  sc : X.env.scope = c.sc
  fn : X.fn = c.fnB
  K : p.K = X.K
  calm : X.calm = true
  un : X.A.units + 65 < cLine
  tk : Takes X p.W
  gs : ∀ x g, c.gs.lookup x = some g → GkOk X p C x g
theorem Cok.inner {c : Ck} {X : Cx} {p : Par} {C : Nat → List Arg → RC} (h : Cok c X p C) (s : Shared) (H : Hp) (scope : Scope) (A : Addr) (cl : List (Str × Addr)) (fp : List Addr) : Cok (c.inner scope) (X.blk s H scope (compEnvC scope cl A X.env) fp) p.calm C where
  N := h.N
  nd := h.nd
  sc := by
    show relS scope X.env.scope = relS scope c.sc
    rw [h.sc]
  fn := rfl
  K := h.K
  calm := h.calm
  un := h.un
  tk := L2.takes0
  gs := fun x g hx => by
    have q := h.gs x g hx
    cases g with
    | free => exact q
    | int i => exact q
    | nums is => exact q
    | gcd => exact q
    | fn k => exact q
section
variable {c : Ck} {X : Cx} {p : Par} {C : Nat → List Arg → RC} (k : Cok c X p C)
include k
theorem Cok.gl {x : Str} (h : c.gl x = true) : Gl X x := by
  have := of_decide_eq_true h
  show X.env.scope.names.lookup x = some .globalImplicit
  rw [k.sc]
  exact this
theorem Cok.free {x : Str} (h : c.fr x = true) : Gl X x ∧ X.mg x = none := by
  obtain ⟨h1, h2⟩ := ba2 h
  exact ⟨k.gl h1, k.gs x .free (of_decide_eq_true h2)⟩
theorem Cok.rd {i : Nat} {x : Str} (h : rdOk c i x = true) : X.N[i]? = some x ∧ Vis X.env.scope x ∧ (x == ("__debug__" : Str)) = false ∧ (x == ("__classdict__" : Str)) = false := by
  obtain ⟨h1, h⟩ := ba2 h
  obtain ⟨h2, h⟩ := ba2 h
  obtain ⟨h3, h4⟩ := ba2 h
  rw [k.N, k.sc]
  refine ⟨of_decide_eq_true h1, ?_, by simpa using h3, by simpa using h4⟩
  rcases Bool.or_eq_true_iff.mp h2 with q | q
  · exact .inl (of_decide_eq_true q)
  · rcases Bool.or_eq_true_iff.mp q with q | q
    · exact .inr (.inl (of_decide_eq_true q))
    · exact .inr (.inr (of_decide_eq_true q))
theorem Cok.wr {i : Nat} {x : Str} (h : wrOk c i x = true) : X.N[i]? = some x ∧ Loc X.env.scope x ∧ (X.fn x = true ∨ X.env.scope.names.lookup x = some .local) := by
  obtain ⟨h1, h⟩ := ba2 h
  obtain ⟨h2, h⟩ := ba2 h
  rw [k.N, k.sc, k.fn]
  refine ⟨of_decide_eq_true h1, ?_, ?_⟩
  · rcases Bool.or_eq_true_iff.mp h2 with q | q
    · exact .inl (of_decide_eq_true q)
    · exact .inr (of_decide_eq_true q)
  · rcases Bool.or_eq_true_iff.mp h with q | q
    · exact .inl q
    · exact .inr (of_decide_eq_true q)
end
theorem chkGs_each {ts : Tgs} {c : Ck} {es : List Expr} : chkGs ts c es = true → ∀ env, (assignEach es env).length = ts.len ∧ (assignEach es env).findIdx? (·.1) = none := by
  intro h env
  induction es generalizing ts with
  | nil =>
    cases ts with
    | nil => exact ⟨rfl, rfl⟩
    | cons t ts => simp [chkGs] at h
  | cons e r ih =>
    cases ts with
    | nil => simp [chkGs] at h
    | cons t ts =>
      simp only [chkGs] at h
      obtain ⟨h1, h⟩ := ba2 h
      obtain ⟨h2, h3⟩ := ba2 h
      obtain ⟨i1, i2⟩ := ih h3
      have e1 : assignEach (e :: r) env = (false, assign e env) :: assignEach r env := by
        cases e <;> first | rfl | cases h1
      rw [e1]
      refine ⟨by rw [List.length_cons, i1]; rfl, ?_⟩
      rw [List.findIdx?_cons]
      simp [i2]
theorem each_cons {e : Expr} (h : notStar e = true) (es : List Expr) (env : Env) : (assignEach (e :: es) env).map (·.2) = assign e env :: (assignEach es env).map (·.2) := by
  cases e <;> first | rfl | cases h
mutual
theorem sndG : ∀ (t : Tg) (c : Ck) (X : Cx) (p : Par) (C : Nat → List Arg → RC) (e : Expr), Cok c X p C → chkG t c e = true → PG X e (gW p t)
  | .name i, c, X, p, C, e, k, h => by
    unfold chkG at h
    split at h
    · obtain ⟨h1, h2, h3⟩ := k.wr h
      exact g_name (by rw [k.N]; exact k.nd) h1 h2 h3
    · cases h
  | .tup ts, c, X, p, C, e, k, h => by
    unfold chkG at h
    split at h
    · obtain ⟨h1, h2⟩ := chkGs_each h X.env
      exact g_tup (hK := k.K) k.calm (sndGs ts c X p C _ k h) rfl h1 h2
    · cases h
theorem sndGs : ∀ (ts : Tgs) (c : Ck) (X : Cx) (p : Par) (C : Nat → List Arg → RC) (es : List Expr), Cok c X p C → chkGs ts c es = true → PGs X es (gsW p ts)
  | .nil, c, X, p, C, es, k, h => by
    unfold chkGs at h
    split at h
    · exact gs_nil
    · cases h
  | .cons t ts, c, X, p, C, es, k, h => by
    unfold chkGs at h
    split at h
    · obtain ⟨h1, h⟩ := ba2 h
      obtain ⟨h2, h3⟩ := ba2 h
      exact gs_cons (sndG t c X p C _ k h2) (sndGs ts c X p C _ k h3) (each_cons h1 _ _)
    · cases h
end
end Wk

/-! The walk layer, part 15: the checker is sound for expressions. -/
namespace Wk
open PySem PySem.Spec L2
theorem _root_.L2.PE.as {X : Cx} {p : Par} {e : Expr} {f g : Fm → R RV} (h : PE X e (tE p f)) (w : ∀ ρ, g ρ = f ρ) : PE X e (tE p g) := by
  have : g = f := funext w
  rw [this]
  exact h
theorem _root_.L2.PT.as {X : Cx} {p : Par} {e : Expr} {f g : Fm → R Bool} (h : PT X e (tT p f)) (w : ∀ ρ, g ρ = f ρ) : PT X e (tT p g) := by
  have : g = f := funext w
  rw [this]
  exact h
theorem _root_.L2.PI.as {X : Cx} {p : Par} {tg e : Expr} {f g : Fm → R Its} (h : PI X tg e (tI p f)) (w : ∀ ρ, g ρ = f ρ) : PI X tg e (tI p g) := by
  have : g = f := funext w
  rw [this]
  exact h
theorem t_no {X : Cx} {p : Par} {e : Expr} {g : Fm → R Bool} (w : ∀ ρ, g ρ = .no) : PT X e (tT p g) := ⟨fun _ _ _ _ _ _ h => by
  obtain ⟨F, ρ, e, h⟩ := h
  rw [w] at h
  exact h.elim⟩
theorem blk_of {N : List Str} {sc scope : Scope} {own : List (Str × Nat)} (h : blkC N sc scope own = true) : BlkOk N sc scope own := blkOk_by h
/-- a truth value by way of the value -/
def thr (f : Fm → R RV) : Fm → R Bool := fun ρ => (f ρ).bind fun r ρ1 => pk r ρ1 truthD
structure SE (X : Cx) (p : Par) (C : Nat → List Arg → RC) (t : IE) (e : Expr) : Prop where
  v : PE X e (tE p (evE C t))
  w : PT X e (tT p (evT C t))
  s : notStar e = true
structure SEs (X : Cx) (p : Par) (C : Nat → List Arg → RC) (ts : IEs) (es : List Expr) : Prop where
  nil : es = [] → ts = .nil
  d : PA X es (tD p (evD C ts))
  a : PA X es (tA p (evA C ts))
  s : ∀ e ∈ es, notStar e = true
  and_ : es ≠ [] → ∀ pos, PE X (.BoolOp .And es pos) (tE p (evAnd C ts)) ∧ PW X (.BoolOp .And es pos) (tT p (evTAnd C ts))
  or_ : es ≠ [] → ∀ pos, PE X (.BoolOp .Or es pos) (tE p (evOr C ts)) ∧ PW X (.BoolOp .Or es pos) (tT p (evTOr C ts))
structure SI (X : Cx) (p : Par) (C : Nat → List Arg → RC) (t : II) (tg e : Expr) : Prop where
  i : PI X tg e (tI p (evI C t))
  s : notStar e = true
theorem star_cons {e : Expr} (h : notStar e = true) (es : List Expr) (env : Env) : starEach (e :: es) env = (false, eval e env) :: starEach es env := by
  cases e <;> first | rfl | cases h
theorem SE.of {c : Ck} {X : Cx} {p : Par} {C : Nat → List Arg → RC} {t : IE} {e : Expr} (k : Cok c X p C) (v : PE X e (tE p (evE C t))) (he : ∀ whole, isTrue e X.env whole = (do let v ← whole; standAt e.pos; holding [v] (truthy v))) (w : ∀ ρ, evT C t ρ = thr (evE C t) ρ) (s : notStar e = true) : SE X p C t e :=
  ⟨v, (t_truth (hK := k.K) v he).as w, s⟩
theorem stars_none : ∀ {es : List Expr}, (∀ e ∈ es, notStar e = true) → ∀ (pos : Pos) (env : Env), (backTo pos (starEach es env)).any (·.1) = false
  | [], _, _, _ => rfl
  | e :: r, h, pos, env => by
    rw [star_cons (h e (List.mem_cons_self ..))]
    have ih := stars_none (es := r) (fun x hx => h x (List.mem_cons_of_mem _ hx)) pos env
    unfold backTo at ih ⊢
    rw [List.map_cons, List.any_cons, ih] <;> rfl
theorem isTup_eq {e : Expr} (h : isTup e = true) : ∃ es k p, e = .Tuple es k p := by
  cases e <;> first | exact ⟨_, _, _, rfl⟩ | cases h
section
variable {c : Ck} {X : Cx} {p : Par} {C : Nat → List Arg → RC}
theorem sndB1 {f : B1} {a : Expr} {fa : Fm → R RV} {x : Str} {p1 pos : Pos} (k : Cok c X p C) (hx : x = f.nm) (hf : c.fr x = true) (ha : PE X a (tE p fa)) (hs : notStar a = true) : PE X (.Call (.Name x p1) [a] [] pos) (tE p fun ρ => (fa ρ).bind fun r1 ρ1 => pk r1 ρ1 (b1D f)) := by
  obtain ⟨g, m⟩ := k.free hf
  subst hx
  have pl := plain_of (X := X) hs
  cases f with
  | len => exact e_b1b (hK := k.K) b1_len g m (by decide +kernel) (by decide) (by decide) ha pl
  | int => exact e_b1t (hK := k.K) b1_int g m (by decide +kernel) (by decide) (by decide) ha pl
  | abs => exact e_b1b (hK := k.K) b1_abs g m (by decide +kernel) (by decide) (by decide) ha pl
  | max => exact e_b1b (hK := k.K) (b1_max k.calm) g m (by decide +kernel) (by decide) (by decide) ha pl
  | min => exact e_b1b (hK := k.K) (b1_min k.calm) g m (by decide +kernel) (by decide) (by decide) ha pl
  | sum => exact e_b1b (hK := k.K) (b1_sum k.calm) g m (by decide +kernel) (by decide) (by decide) ha pl
  | all => exact e_b1b (hK := k.K) (b1_all k.calm) g m (by decide +kernel) (by decide) (by decide) ha pl
  | any => exact e_b1b (hK := k.K) (b1_any k.calm) g m (by decide +kernel) (by decide) (by decide) ha pl
  | sorted => exact e_b1b (hK := k.K) b1_sorted g m (by decide +kernel) (by decide) (by decide) ha pl
  | tuple => exact e_b1t (hK := k.K) b1_tuple g m (by decide +kernel) (by decide) (by decide) ha pl
  | list => exact e_b1t (hK := k.K) b1_list g m (by decide +kernel) (by decide) (by decide) ha pl
  | str => exact e_b1t (hK := k.K) b1_str g m (by decide +kernel) (by decide) (by decide) ha pl
theorem sndIsi {t : Ty} {a : Expr} {fa : Fm → R RV} {x y : Str} {p1 p2 pos : Pos} (k : Cok c X p C) (hx : x = "isinstance") (hy : y = t.sn) (hf : c.fr x = true) (hg : c.fr y = true) (ha : PE X a (tE p fa)) (hs : notStar a = true) :
    PE X (.Call (.Name x p1) [a, .Name y p2] [] pos) (tE p fun ρ => (fa ρ).bind fun r1 ρ1 => pk r1 ρ1 fun d => (isiD d t).map fun b => .val (.bool b)) := by
  obtain ⟨g, m⟩ := k.free hf
  obtain ⟨g2, m2⟩ := k.free hg
  subst hy
  have pl := plain_of (X := X) hs
  cases t <;> exact e_isi (hK := k.K) _ hx (by decide +kernel) (by decide) (by decide) g m g2 m2 ha pl
theorem okName_ok {x : Str} (h : okName x = true) : (x == ("__debug__" : Str)) = false ∧ (x == ("__classdict__" : Str)) = false := by
  obtain ⟨h1, h2⟩ := ba2 h
  exact ⟨by simpa using h1, by simpa using h2⟩
theorem sndCall {j : Nat} {es : List Expr} {as : IEs} {x : Str} {p1 pos : Pos} (k : Cok c X p C) (hg : c.gl x = true) (hi : c.is x (.fn j) = true) (hn : okName x = true) (hs : SEs X p C as es) :
    PE X (.Call (.Name x p1) es [] pos) (tE p fun ρ => (evA C as ρ).bind fun xs ρ1 => doCall C j xs ρ1) := by
  obtain ⟨f, fd, ps, n, F, hr, hm, hk, hb⟩ := k.gs x (.fn j) (of_decide_eq_true hi)
  have hd := (okName_ok hn).1
  match es, hs with
  | [], hs =>
    rw [hs.nil rfl]
    exact e_call0 F hr (k.gl hg) hm hk hb k.tk hd
  | a :: es, hs => exact e_call F hr (k.gl hg) hm hk hb k.tk hd hs.a (plain_of (hs.s a (List.mem_cons_self ..))) (stars_none (fun e he => hs.s e (List.mem_cons_of_mem _ he)) _ _)
theorem thr_var (i : Nat) (ρ : Fm) : evT C (.var i) ρ = thr (evE C (.var i)) ρ := by
  simp only [evT, thr, evE]
  cases h : ρ[i]? with
  | none => rfl
  | some s =>
    cases s with
    | no => rfl
    | val d => rfl
    | own xs k =>
      simp only [R.bind, pk, peek, h]
      rfl
theorem thr_bin (o : BOp) (a b : IE) (ρ : Fm) : evT C (.bin o a b) ρ = thr (evE C (.bin o a b)) ρ := by
  simp only [evT, thr, evE]
  cases evE C a ρ with
  | no => rfl
  | exc c ρ1 => rfl
  | ok r1 ρ1 =>
    simp only [R.bind]
    cases evE C b ρ1 with
    | no => rfl
    | exc c ρ2 => rfl
    | ok r2 ρ2 =>
      dsimp only
      cases peek r1 ρ2 with
      | none => rfl
      | some d1 =>
        cases peek r2 ρ2 with
        | none => rfl
        | some d2 =>
          simp only [Option.bind]
          cases binD o d1 d2 <;> rfl
theorem thr_idx (a b : IE) (ρ : Fm) : evT C (.idx a b) ρ = thr (evE C (.idx a b)) ρ := by
  simp only [evT, thr, evE]
  cases evE C a ρ with
  | no => rfl
  | exc c ρ1 => rfl
  | ok r1 ρ1 =>
    simp only [R.bind]
    cases evE C b ρ1 with
    | no => rfl
    | exc c ρ2 => rfl
    | ok r2 ρ2 =>
      dsimp only
      cases peek r1 ρ2 with
      | none => rfl
      | some d1 =>
        cases peek r2 ρ2 with
        | none => rfl
        | some d2 =>
          simp only [Option.bind]
          cases idxD d1 d2 <;> rfl
theorem thr_isi (a : IE) (t : Ty) (ρ : Fm) : evT C (.isi a t) ρ = thr (evE C (.isi a t)) ρ := by
  simp only [evT, thr, evE]
  cases evE C a ρ with
  | no => rfl
  | exc c ρ1 => rfl
  | ok r1 ρ1 =>
    simp only [R.bind, pk]
    cases peek r1 ρ1 with
    | none => rfl
    | some d1 =>
      simp only [Option.bind]
      cases isiD d1 t <;> rfl
theorem thr_b1 (f : B1) (a : IE) (ρ : Fm) : evT C (.b1 f a) ρ = thr (evE C (.b1 f a)) ρ := by
  simp only [evT, thr, evE]
  rw [R.bind_assoc]
theorem thr_call (f : Nat) (as : IEs) (ρ : Fm) : evT C (.call f as) ρ = thr (evE C (.call f as)) ρ := by
  simp only [evT, thr, evE]
  rw [R.bind_assoc]
theorem thr_lit (d : D) (ρ : Fm) : evT C (.lit d) ρ = thr (evE C (.lit d)) ρ := rfl
theorem thr_gint (x : Str) (i : Int) (ρ : Fm) : evT C (.gint x i) ρ = thr (evE C (.gint x i)) ρ := rfl
end
mutual
theorem sndE : ∀ (t : IE) (c : Ck) (X : Cx) (p : Par) (C : Nat → List Arg → RC) (e : Expr), Cok c X p C → chkE t c e = true → SE X p C t e
  | .never, c, X, p, C, e, k, h => ⟨PE.as e_never fun ρ => by first | rfl | (simp only [evE]; done) | (simp only [evE]; rfl), t_no fun ρ => by first | rfl | (simp only [evT]; done) | (simp only [evT]; rfl), h⟩
  | .lit d, c, X, p, C, e, k, h => by
    unfold chkE litOk at h
    split at h
    · cases of_decide_eq_true h
      exact SE.of k (e_int) (fun _ => rfl) (thr_lit _) rfl
    · cases of_decide_eq_true h
      exact SE.of k (e_bl) (fun _ => rfl) (thr_lit _) rfl
    · cases of_decide_eq_true h
      exact SE.of k (e_str) (fun _ => rfl) (thr_lit _) rfl
    · exact SE.of k (e_non) (fun _ => rfl) (thr_lit _) rfl
    · cases h
  | .var i, c, X, p, C, e, k, h => by
    unfold chkE at h
    split at h
    · obtain ⟨h1, h2, h3, h4⟩ := k.rd h
      exact SE.of k (PE.as (e_var (p := p) h1 h2 h3 h4) fun ρ => by first | rfl | (simp only [evE, fVar]; done) | (simp only [evE, fVar]; rfl)) (fun _ => rfl) (fun ρ => by rw [thr_var]) rfl
    · cases h
  | .gint x i, c, X, p, C, e, k, h => by
    unfold chkE at h
    split at h
    · obtain ⟨h1, h⟩ := ba2 h
      obtain ⟨h2, h⟩ := ba2 h
      obtain ⟨h3, h4⟩ := ba2 h
      cases of_decide_eq_true h1
      obtain ⟨t, ht⟩ := k.gs _ _ (of_decide_eq_true h3)
      exact SE.of k (e_gint (p := p) (k.gl h2) ht (okName_ok h4).1) (fun _ => rfl) (thr_gint _ _) rfl
    · cases h
  | .gtup x is, c, X, p, C, e, k, h => by
    unfold chkE at h
    split at h
    · obtain ⟨h1, h⟩ := ba2 h
      obtain ⟨h2, h⟩ := ba2 h
      obtain ⟨h3, h4⟩ := ba2 h
      cases of_decide_eq_true h1
      obtain ⟨a, ha, hs⟩ := k.gs _ _ (of_decide_eq_true h3)
      exact ⟨(e_gtup (hK := k.K) (k.gl h2) ha hs (okName_ok h4).1).as fun ρ => by first | rfl | (simp only [evE]; done) | (simp only [evE]; rfl), t_no fun ρ => by first | rfl | (simp only [evT]; done) | (simp only [evT]; rfl), rfl⟩
    · cases h
  | .bin o a b, c, X, p, C, e, k, h => by
    unfold chkE at h
    split at h
    · obtain ⟨h1, h⟩ := ba2 h
      obtain ⟨h2, h3⟩ := ba2 h
      cases BOp.is_ok h1
      exact SE.of k (PE.as (e_bin (hK := k.K) o (sndE a c X p C _ k h2).v (sndE b c X p C _ k h3).v) fun ρ => by first | rfl | (simp only [evE]; done) | (simp only [evE]; rfl)) (fun _ => rfl) (fun ρ => by rw [thr_bin]) rfl
    · cases h
  | .neg a, c, X, p, C, e, k, h => by
    unfold chkE at h
    split at h
    · exact ⟨(e_neg (hK := k.K) (sndE a c X p C _ k h).v).as fun ρ => by first | rfl | (simp only [evE]; done) | (simp only [evE]; rfl), t_no fun ρ => by first | rfl | (simp only [evT]; done) | (simp only [evT]; rfl), rfl⟩
    · cases h
  | .not a, c, X, p, C, e, k, h => by
    unfold chkE at h
    split at h
    · exact ⟨(e_not (hK := k.K) (sndE a c X p C _ k h).v).as fun ρ => by first | rfl | (simp only [evE]; done) | (simp only [evE]; rfl), (t_not (hK := k.K) (sndE a c X p C _ k h).w).as fun ρ => by first | rfl | (simp only [evT]; done) | (simp only [evT]; rfl), rfl⟩
    · cases h
  | .and as, c, X, p, C, e, k, h => by
    unfold chkE at h
    split at h
    · obtain ⟨h1, h2⟩ := ba2 h
      have ne : ∀ {l : List Expr}, (!l.isEmpty) = true → l ≠ [] := fun {l} q z => by subst z; cases q
      obtain ⟨q1, q2⟩ := (sndEs as c X p C _ k h2).and_ (ne h1) _
      exact ⟨q1.as fun ρ => by first | rfl | (simp only [evE]; done) | (simp only [evE]; rfl), q2.pt.as fun ρ => by first | rfl | (simp only [evT]; done) | (simp only [evT]; rfl), rfl⟩
    · cases h
  | .or as, c, X, p, C, e, k, h => by
    unfold chkE at h
    split at h
    · obtain ⟨h1, h2⟩ := ba2 h
      have ne : ∀ {l : List Expr}, (!l.isEmpty) = true → l ≠ [] := fun {l} q z => by subst z; cases q
      obtain ⟨q1, q2⟩ := (sndEs as c X p C _ k h2).or_ (ne h1) _
      exact ⟨q1.as fun ρ => by first | rfl | (simp only [evE]; done) | (simp only [evE]; rfl), q2.pt.as fun ρ => by first | rfl | (simp only [evT]; done) | (simp only [evT]; rfl), rfl⟩
    · cases h
  | .ite t a b, c, X, p, C, e, k, h => by
    unfold chkE at h
    split at h
    · obtain ⟨h1, h⟩ := ba2 h
      obtain ⟨h2, h3⟩ := ba2 h
      exact ⟨(e_ite (hK := k.K) (sndE t c X p C _ k h1).w (sndE a c X p C _ k h2).v (sndE b c X p C _ k h3).v).as fun ρ => by first | rfl | (simp only [evE]; done) | (simp only [evE]; rfl), t_no fun ρ => by first | rfl | (simp only [evT]; done) | (simp only [evT]; rfl), rfl⟩
    · cases h
  | .cmp o a b, c, X, p, C, e, k, h => by
    unfold chkE at h
    split at h
    · obtain ⟨h1, h⟩ := ba2 h
      obtain ⟨h0, h⟩ := ba2 h
      obtain ⟨h2, h3⟩ := ba2 h
      cases COp.is_ok h1
      have va := (sndE a c X p C _ k h2).v
      have vb := (sndE b c X p C _ k h3).v
      exact ⟨(e_cmp (hK := k.K) k.un o va vb (mark_of h0 _)).as fun ρ => by first | rfl | (simp only [evE]; done) | (simp only [evE]; rfl), (t_cmp (hK := k.K) k.un o va vb (mark_of h0 _)).as fun ρ => by first | rfl | (simp only [evT]; done) | (simp only [evT]; rfl), rfl⟩
    · cases h
  | .cmp2 o q a b d, c, X, p, C, e, k, h => by
    unfold chkE at h
    split at h
    · obtain ⟨h1, h⟩ := ba2 h
      obtain ⟨h2, h⟩ := ba2 h
      obtain ⟨h3, h⟩ := ba2 h
      obtain ⟨h4, h⟩ := ba2 h
      obtain ⟨h5, h⟩ := ba2 h
      obtain ⟨h6, h7⟩ := ba2 h
      cases COp.is_ok h1
      cases COp.is_ok h2
      have va := (sndE a c X p C _ k h5).v
      have vb := (sndE b c X p C _ k h6).v
      have vc := (sndE d c X p C _ k h7).v
      exact ⟨(e_cmp2 (hK := k.K) k.un o q va vb vc (mark_of h4 _)).as fun ρ => by first | rfl | (simp only [evE]; done) | (simp only [evE]; rfl), (t_cmp2 (hK := k.K) k.un o q va vb vc (mark_of h4 _)).as fun ρ => by first | rfl | (simp only [evT]; done) | (simp only [evT]; rfl), rfl⟩
    · cases h
  | .idx a b, c, X, p, C, e, k, h => by
    unfold chkE at h
    split at h
    · obtain ⟨h1, h⟩ := ba2 h
      obtain ⟨h2, h3⟩ := ba2 h
      exact SE.of k (PE.as (e_idx (hK := k.K) (sndE a c X p C _ k h2).v (sndE b c X p C _ k h3).v (pix_of h1)) fun ρ => by first | rfl | (simp only [evE]; done) | (simp only [evE]; rfl)) (fun _ => rfl) (fun ρ => by rw [thr_idx]) rfl
    · cases h
  | .slc a b d, c, X, p, C, e, k, h => by
    unfold chkE at h
    split at h
    · obtain ⟨h1, h⟩ := ba2 h
      obtain ⟨h2, h3⟩ := ba2 h
      exact ⟨(e_slc (hK := k.K) (sndE a c X p C _ k h1).v (sndE b c X p C _ k h2).v (sndE d c X p C _ k h3).v).as fun ρ => by first | rfl | (simp only [evE]; done) | (simp only [evE]; rfl), t_no fun ρ => by first | rfl | (simp only [evT]; done) | (simp only [evT]; rfl), rfl⟩
    · cases h
  | .rvs a, c, X, p, C, e, k, h => by
    unfold chkE at h
    split at h
    · exact ⟨(e_rvs (hK := k.K) (sndE a c X p C _ k h).v).as fun ρ => by first | rfl | (simp only [evE]; done) | (simp only [evE]; rfl), t_no fun ρ => by first | rfl | (simp only [evT]; done) | (simp only [evT]; rfl), rfl⟩
    · cases h
  | .slo a b, c, X, p, C, e, k, h => by
    unfold chkE at h
    split at h
    · obtain ⟨h1, h2⟩ := ba2 h
      exact ⟨(e_slo (hK := k.K) (sndE a c X p C _ k h1).v (sndE b c X p C _ k h2).v).as fun ρ => by first | rfl | (simp only [evE]; done) | (simp only [evE]; rfl), t_no fun ρ => by first | rfl | (simp only [evT]; done) | (simp only [evT]; rfl), rfl⟩
    · cases h
  | .shi a b, c, X, p, C, e, k, h => by
    unfold chkE at h
    split at h
    · obtain ⟨h1, h2⟩ := ba2 h
      exact ⟨(e_shi (hK := k.K) (sndE a c X p C _ k h1).v (sndE b c X p C _ k h2).v).as fun ρ => by first | rfl | (simp only [evE]; done) | (simp only [evE]; rfl), t_no fun ρ => by first | rfl | (simp only [evT]; done) | (simp only [evT]; rfl), rfl⟩
    · cases h
  | .tup as, c, X, p, C, e, k, h => by
    unfold chkE at h
    split at h
    · exact ⟨(e_tup (sndEs as c X p C _ k h).d).as fun ρ => by first | rfl | (simp only [evE]; done) | (simp only [evE]; rfl), t_no fun ρ => by first | rfl | (simp only [evT]; done) | (simp only [evT]; rfl), rfl⟩
    · cases h
  | .lst as, c, X, p, C, e, k, h => by
    unfold chkE at h
    split at h
    · exact ⟨(e_lst (sndEs as c X p C _ k h).d).as fun ρ => by first | rfl | (simp only [evE]; done) | (simp only [evE]; rfl), t_no fun ρ => by first | rfl | (simp only [evT]; done) | (simp only [evT]; rfl), rfl⟩
    · cases h
  | .isi a t, c, X, p, C, e, k, h => by
    unfold chkE at h
    split at h
    · obtain ⟨h1, h⟩ := ba2 h
      obtain ⟨h2, h⟩ := ba2 h
      obtain ⟨h3, h⟩ := ba2 h
      obtain ⟨h4, h5⟩ := ba2 h
      have i := sndE a c X p C _ k h5
      exact SE.of k (PE.as (sndIsi k (of_decide_eq_true h1) (of_decide_eq_true h2) h3 h4 i.v i.s) fun ρ => by first | rfl | (simp only [evE]; done) | (simp only [evE]; rfl)) (fun _ => rfl) (fun ρ => by rw [thr_isi]) rfl
    · cases h
  | .sset a, c, X, p, C, e, k, h => by
    unfold chkE at h
    split at h
    · obtain ⟨h1, h⟩ := ba2 h
      obtain ⟨h2, h⟩ := ba2 h
      obtain ⟨h3, h⟩ := ba2 h
      obtain ⟨h4, h5⟩ := ba2 h
      have i := sndE a c X p C _ k h5
      have e1 := of_decide_eq_true h1
      have e3 := of_decide_eq_true h3
      subst e1 e3
      obtain ⟨g1, m1⟩ := k.free h2
      obtain ⟨g2, m2⟩ := k.free h4
      exact ⟨(e_sset (hK := k.K) k.calm g1 m1 g2 m2 i.v (plain_of i.s)).as fun ρ => by first | rfl | (simp only [evE]; done) | (simp only [evE]; rfl), t_no fun ρ => by first | rfl | (simp only [evT]; done) | (simp only [evT]; rfl), rfl⟩
    · cases h
  | .b1 f a, c, X, p, C, e, k, h => by
    unfold chkE at h
    split at h
    · obtain ⟨h1, h⟩ := ba2 h
      obtain ⟨h2, h3⟩ := ba2 h
      have i := sndE a c X p C _ k h3
      exact SE.of k (PE.as (sndB1 k (of_decide_eq_true h1) h2 i.v i.s) fun ρ => by first | rfl | (simp only [evE]; done) | (simp only [evE]; rfl)) (fun _ => rfl) (fun ρ => by rw [thr_b1]) rfl
    · cases h
  | .b2 f a b, c, X, p, C, e, k, h => by
    unfold chkE at h
    split at h
    · obtain ⟨h1, h⟩ := ba2 h
      obtain ⟨h2, h3⟩ := ba2 h
      have i := sndE a c X p C _ k h2
      have j := sndE b c X p C _ k h3
      refine ⟨?_, t_no fun ρ => by first | rfl | (simp only [evT]; done) | (simp only [evT]; rfl), rfl⟩
      cases f with
      | max =>
        obtain ⟨q1, q2⟩ := ba2 h1
        cases of_decide_eq_true q1
        obtain ⟨g, m⟩ := k.free q2
        exact (e_b2b (hK := k.K) (b2_max k.calm) g m (by decide +kernel) (by decide) (by decide) i.v j.v (plain_of i.s) (plain_of j.s)).as fun ρ => by first | rfl | (simp only [evE]; done) | (simp only [evE]; rfl)
      | min =>
        obtain ⟨q1, q2⟩ := ba2 h1
        cases of_decide_eq_true q1
        obtain ⟨g, m⟩ := k.free q2
        exact (e_b2b (hK := k.K) (b2_min k.calm) g m (by decide +kernel) (by decide) (by decide) i.v j.v (plain_of i.s) (plain_of j.s)).as fun ρ => by first | rfl | (simp only [evE]; done) | (simp only [evE]; rfl)
      | gcd =>
        obtain ⟨q1, q⟩ := ba2 h1
        obtain ⟨q2, q3⟩ := ba2 q
        exact (e_gcd (hK := k.K) (k.gl q1) (k.gs _ _ (of_decide_eq_true q2)) (okName_ok q3).1 i.v j.v (plain_of i.s) (plain_of j.s)).as fun ρ => by first | rfl | (simp only [evE]; done) | (simp only [evE]; rfl)
    · cases h
  | .lrng it, c, X, p, C, e, k, h => by
    unfold chkE at h
    split at h
    · obtain ⟨h1, h⟩ := ba2 h
      obtain ⟨h2, h3⟩ := ba2 h
      cases of_decide_eq_true h1
      obtain ⟨g, m⟩ := k.free h2
      cases it with
      | rng1 a =>
        unfold chkR at h3
        split at h3
        · obtain ⟨q1, q⟩ := ba2 h3
          obtain ⟨q2, q3⟩ := ba2 q
          cases of_decide_eq_true q1
          obtain ⟨g2, m2⟩ := k.free q2
          have i := sndE a c X p C _ k q3
          exact ⟨(e_lrng1 (hK := k.K) k.calm g m g2 m2 i.v (plain_of i.s) (plain_of rfl)).as fun ρ => by first | rfl | (simp only [evE, evI, fLR, fR1]; done) | (simp only [evE, evI, fLR, fR1]; rfl), t_no fun ρ => by first | rfl | (simp only [evT]; done) | (simp only [evT]; rfl), rfl⟩
        · cases h3
      | rng2 a b =>
        unfold chkR at h3
        split at h3
        · obtain ⟨q1, q⟩ := ba2 h3
          obtain ⟨q2, q⟩ := ba2 q
          obtain ⟨q3, q4⟩ := ba2 q
          cases of_decide_eq_true q1
          obtain ⟨g2, m2⟩ := k.free q2
          have i := sndE a c X p C _ k q3
          have j := sndE b c X p C _ k q4
          exact ⟨(e_lrng2 (hK := k.K) k.calm g m g2 m2 i.v j.v (plain_of i.s) (plain_of j.s) (plain_of rfl)).as fun ρ => by first | rfl | (simp only [evE, evI, fLR, fR2]; done) | (simp only [evE, evI, fLR, fR2]; rfl), t_no fun ρ => by first | rfl | (simp only [evT]; done) | (simp only [evT]; rfl), rfl⟩
        · cases h3
      | _ => cases h3
    · cases h
  | .trng it, c, X, p, C, e, k, h => by
    unfold chkE at h
    split at h
    · obtain ⟨h1, h⟩ := ba2 h
      obtain ⟨h2, h3⟩ := ba2 h
      cases of_decide_eq_true h1
      obtain ⟨g, m⟩ := k.free h2
      cases it with
      | rng1 a =>
        unfold chkR at h3
        split at h3
        · obtain ⟨q1, q⟩ := ba2 h3
          obtain ⟨q2, q3⟩ := ba2 q
          cases of_decide_eq_true q1
          obtain ⟨g2, m2⟩ := k.free q2
          have i := sndE a c X p C _ k q3
          exact ⟨(e_trng1 (hK := k.K) k.calm g m g2 m2 i.v (plain_of i.s) (plain_of rfl)).as fun ρ => by first | rfl | (simp only [evE, evI, fTR, fR1]; done) | (simp only [evE, evI, fTR, fR1]; rfl), t_no fun ρ => by first | rfl | (simp only [evT]; done) | (simp only [evT]; rfl), rfl⟩
        · cases h3
      | rng2 a b =>
        unfold chkR at h3
        split at h3
        · obtain ⟨q1, q⟩ := ba2 h3
          obtain ⟨q2, q⟩ := ba2 q
          obtain ⟨q3, q4⟩ := ba2 q
          cases of_decide_eq_true q1
          obtain ⟨g2, m2⟩ := k.free q2
          have i := sndE a c X p C _ k q3
          have j := sndE b c X p C _ k q4
          exact ⟨(e_trng2 (hK := k.K) k.calm g m g2 m2 i.v j.v (plain_of i.s) (plain_of j.s) (plain_of rfl)).as fun ρ => by first | rfl | (simp only [evE, evI, fTR, fR2]; done) | (simp only [evE, evI, fTR, fR2]; rfl), t_no fun ρ => by first | rfl | (simp only [evT]; done) | (simp only [evT]; rfl), rfl⟩
        · cases h3
      | _ => cases h3
    · cases h
  | .call f as, c, X, p, C, e, k, h => by
    unfold chkE at h
    split at h
    · obtain ⟨h1, h⟩ := ba2 h
      obtain ⟨h2, h⟩ := ba2 h
      obtain ⟨h3, h4⟩ := ba2 h
      exact SE.of k (PE.as (sndCall k h1 h2 h3 (sndEs as c X p C _ k h4)) fun ρ => by first | rfl | (simp only [evE]; done) | (simp only [evE]; rfl)) (fun _ => rfl) (fun ρ => by rw [thr_call]) rfl
    · cases h
  | .comp a t it, c, X, p, C, e, k, h => by
    unfold chkE at h
    split at h
    · obtain ⟨h1, h⟩ := ba2 h
      obtain ⟨h2, h3⟩ := ba2 h
      unfold compOk at h1
      obtain ⟨q1, q⟩ := ba2 h1
      obtain ⟨q2, q⟩ := ba2 q
      obtain ⟨q3, q4⟩ := ba2 q
      refine ⟨(e_comp (own := ownG t _) k.calm (by rw [k.N]; exact k.nd) (sndI it c X p C _ _ k h2).i (by rw [k.N, k.sc]; exact blk_of q1) (of_decide_eq_true q2) (fun s H A cl fp => sndG t _ _ _ C _ (k.inner s H _ A cl fp) q3) (fun s H A cl fp => (sndE a _ _ _ C _ (k.inner s H _ A cl fp) h3).v) (fold_of q4 _)).as fun ρ => by first | rfl | (simp only [evE, fComp, fItem]; done) | (simp only [evE, fComp, fItem]; rfl), t_no fun ρ => by first | rfl | (simp only [evT]; done) | (simp only [evT]; rfl), rfl⟩
    · cases h
  | .compIf a t it d, c, X, p, C, e, k, h => by
    unfold chkE at h
    split at h
    · obtain ⟨h1, h⟩ := ba2 h
      obtain ⟨h2, h⟩ := ba2 h
      obtain ⟨h3, h4⟩ := ba2 h
      unfold compOk at h1
      obtain ⟨q1, q⟩ := ba2 h1
      obtain ⟨q2, q⟩ := ba2 q
      obtain ⟨q3, q4⟩ := ba2 q
      refine ⟨(e_compIf (own := ownG t _) k.calm (by rw [k.N]; exact k.nd) (sndI it c X p C _ _ k h2).i (by rw [k.N, k.sc]; exact blk_of q1) (of_decide_eq_true q2) (fun s H A cl fp => sndG t _ _ _ C _ (k.inner s H _ A cl fp) q3) (fun s H A cl fp => (sndE d _ _ _ C _ (k.inner s H _ A cl fp) h4).w) (fun s H A cl fp => (sndE a _ _ _ C _ (k.inner s H _ A cl fp) h3).v) (fold_of q4 _)).as fun ρ => by first | rfl | (simp only [evE, fCompIf, fItemIf]; done) | (simp only [evE, fCompIf, fItemIf]; rfl), t_no fun ρ => by first | rfl | (simp only [evT]; done) | (simp only [evT]; rfl), rfl⟩
    · cases h
  | .app i a, c, X, p, C, e, k, h => by
    unfold chkE at h
    split at h
    · obtain ⟨h1, h⟩ := ba2 h
      obtain ⟨h2, h⟩ := ba2 h
      obtain ⟨h3, h4⟩ := ba2 h
      cases of_decide_eq_true h1
      obtain ⟨r1, r2, r3, r4⟩ := k.rd h2
      have j := sndE a c X p C _ k h4
      exact ⟨(e_app (hK := k.K) r1 r2 r3 r4 j.v (plain_of j.s) h3).as fun ρ => by first | rfl | (simp only [evE]; done) | (simp only [evE]; rfl), t_no fun ρ => by first | rfl | (simp only [evT]; done) | (simp only [evT]; rfl), rfl⟩
    · cases h
  | .pop0 i, c, X, p, C, e, k, h => by
    unfold chkE at h
    split at h
    · obtain ⟨h1, h⟩ := ba2 h
      obtain ⟨h2, h3⟩ := ba2 h
      cases of_decide_eq_true h1
      obtain ⟨r1, r2, r3, r4⟩ := k.rd h2
      exact ⟨(e_pop0 (hK := k.K) r1 r2 r3 r4 h3).as fun ρ => by first | rfl | (simp only [evE]; done) | (simp only [evE]; rfl), t_no fun ρ => by first | rfl | (simp only [evT]; done) | (simp only [evT]; rfl), rfl⟩
    · cases h
  | .popAt i a, c, X, p, C, e, k, h => by
    unfold chkE at h
    split at h
    · obtain ⟨h1, h⟩ := ba2 h
      obtain ⟨h2, h⟩ := ba2 h
      obtain ⟨h3, h4⟩ := ba2 h
      cases of_decide_eq_true h1
      obtain ⟨r1, r2, r3, r4⟩ := k.rd h2
      have j := sndE a c X p C _ k h4
      exact ⟨(e_popAt (hK := k.K) r1 r2 r3 r4 j.v (plain_of j.s) h3).as fun ρ => by first | rfl | (simp only [evE]; done) | (simp only [evE]; rfl), t_no fun ρ => by first | rfl | (simp only [evT]; done) | (simp only [evT]; rfl), rfl⟩
    · cases h
theorem sndEs : ∀ (ts : IEs) (c : Ck) (X : Cx) (p : Par) (C : Nat → List Arg → RC) (es : List Expr), Cok c X p C → chkEs ts c es = true → SEs X p C ts es
  | .nil, c, X, p, C, es, k, h => by
    unfold chkEs at h
    split at h
    · exact ⟨fun _ => rfl, (d_nil : PA X [] (tD p (fun ρ => .ok [] ρ))), a_nil, fun e he => (by cases he), fun z => absurd rfl z, fun z => absurd rfl z⟩
    · cases h
  | .cons a as, c, X, p, C, es, k, h => by
    unfold chkEs at h
    split at h
    · obtain ⟨h1, h2⟩ := ba2 h
      have i := sndE a c X p C _ k h1
      have j := sndEs as c X p C _ k h2
      rename_i e r
      refine ⟨fun z => (by cases z), ?_, ?_, fun x hx => ?_, fun _ pos => ?_, fun _ pos => ?_⟩
      · exact (d_cons i.v j.d (plain_of i.s))
      · exact (a_cons i.v j.a (plain_of i.s))
      · rcases List.mem_cons.mp hx with z | z
        · rw [z]
          exact i.s
        · exact j.s x z
      · cases r with
        | nil =>
          cases j.nil rfl
          exact ⟨(e_and1 i.v).as fun ρ => by first | rfl | (simp only [evAnd]; done) | (simp only [evAnd]; rfl), (t_and1 i.w)⟩
        | cons e2 r =>
          cases as with
          | nil => simp [chkEs] at h2
          | cons b bs =>
            obtain ⟨q1, q2⟩ := j.and_ (by simp) pos
            exact ⟨(e_and i.v q1).as fun ρ => by first | rfl | (simp only [evAnd]; done) | (simp only [evAnd]; rfl), (t_and i.w q2)⟩
      · cases r with
        | nil =>
          cases j.nil rfl
          exact ⟨(e_or1 i.v).as fun ρ => by first | rfl | (simp only [evOr]; done) | (simp only [evOr]; rfl), (t_or1 i.w)⟩
        | cons e2 r =>
          cases as with
          | nil => simp [chkEs] at h2
          | cons b bs =>
            obtain ⟨q1, q2⟩ := j.or_ (by simp) pos
            exact ⟨(e_or i.v q1).as fun ρ => by first | rfl | (simp only [evOr]; done) | (simp only [evOr]; rfl), (t_or i.w q2)⟩
    · cases h
theorem sndI : ∀ (t : II) (c : Ck) (X : Cx) (p : Par) (C : Nat → List Arg → RC) (tg e : Expr), Cok c X p C → chkI t c tg e = true → SI X p C t tg e
  | .rng1 a, c, X, p, C, tg, e, k, h => by
    unfold chkI at h
    split at h
    · obtain ⟨q1, q⟩ := ba2 h
      obtain ⟨q2, q3⟩ := ba2 q
      cases of_decide_eq_true q1
      obtain ⟨g2, m2⟩ := k.free q2
      have i := sndE a c X p C _ k q3
      exact ⟨(i_rng1 (hK := k.K) g2 m2 i.v (plain_of i.s)).as fun ρ => by first | rfl | (simp only [evI]; done) | (simp only [evI]; rfl), rfl⟩
    · cases h
  | .rng2 a b, c, X, p, C, tg, e, k, h => by
    unfold chkI at h
    split at h
    · obtain ⟨q1, q⟩ := ba2 h
      obtain ⟨q2, q⟩ := ba2 q
      obtain ⟨q3, q4⟩ := ba2 q
      cases of_decide_eq_true q1
      obtain ⟨g2, m2⟩ := k.free q2
      have i := sndE a c X p C _ k q3
      have j := sndE b c X p C _ k q4
      exact ⟨(i_rng2 (hK := k.K) g2 m2 i.v j.v (plain_of i.s) (plain_of j.s)).as fun ρ => by first | rfl | (simp only [evI]; done) | (simp only [evI]; rfl), rfl⟩
    · cases h
  | .rng3 a b d, c, X, p, C, tg, e, k, h => by
    unfold chkI at h
    split at h
    · obtain ⟨q1, q⟩ := ba2 h
      obtain ⟨q2, q⟩ := ba2 q
      obtain ⟨q3, q⟩ := ba2 q
      obtain ⟨q4, q5⟩ := ba2 q
      cases of_decide_eq_true q1
      obtain ⟨g2, m2⟩ := k.free q2
      have i := sndE a c X p C _ k q3
      have j := sndE b c X p C _ k q4
      have l := sndE d c X p C _ k q5
      exact ⟨(i_rng3 (hK := k.K) g2 m2 i.v j.v l.v (plain_of i.s) (plain_of j.s) (plain_of l.s)).as fun ρ => by first | rfl | (simp only [evI]; done) | (simp only [evI]; rfl), rfl⟩
    · cases h
  | .seq a, c, X, p, C, tg, e, k, h => by
    unfold chkI at h
    have i := sndE a c X p C _ k h
    exact ⟨(i_seq (hK := k.K) i.v).as fun ρ => by first | rfl | (simp only [evI]; done) | (simp only [evI]; rfl), i.s⟩
  | .zip a b, c, X, p, C, tg, e, k, h => by
    unfold chkI at h
    obtain ⟨h0, h'⟩ := ba2 h
    clear h
    obtain ⟨es, kk, tp, rfl⟩ := isTup_eq h0
    split at h'
    · obtain ⟨q1, q⟩ := ba2 h'
      obtain ⟨q2, q⟩ := ba2 q
      obtain ⟨q3, q4⟩ := ba2 q
      cases of_decide_eq_true q1
      obtain ⟨g2, m2⟩ := k.free q2
      have i := sndE a c X p C _ k q3
      have j := sndE b c X p C _ k q4
      exact ⟨(i_zip (hK := k.K) g2 m2 i.v j.v (plain_of i.s) (plain_of j.s)).as fun ρ => by first | rfl | (simp only [evI]; done) | (simp only [evI]; rfl), rfl⟩
    · cases h'
  | .enum a, c, X, p, C, tg, e, k, h => by
    unfold chkI at h
    obtain ⟨h0, h'⟩ := ba2 h
    clear h
    obtain ⟨es, kk, tp, rfl⟩ := isTup_eq h0
    split at h'
    · obtain ⟨q1, q⟩ := ba2 h'
      obtain ⟨q2, q3⟩ := ba2 q
      cases of_decide_eq_true q1
      obtain ⟨g2, m2⟩ := k.free q2
      have i := sndE a c X p C _ k q3
      exact ⟨(i_enum (hK := k.K) g2 m2 i.v (plain_of i.s)).as fun ρ => by first | rfl | (simp only [evI]; done) | (simp only [evI]; rfl), rfl⟩
    · cases h'
  | .rev a, c, X, p, C, tg, e, k, h => by
    unfold chkI at h
    split at h
    · obtain ⟨q1, q⟩ := ba2 h
      obtain ⟨q2, q3⟩ := ba2 q
      cases of_decide_eq_true q1
      obtain ⟨g2, m2⟩ := k.free q2
      have i := sndE a c X p C _ k q3
      exact ⟨(i_rev (hK := k.K) g2 m2 i.v (plain_of i.s)).as fun ρ => by first | rfl | (simp only [evI]; done) | (simp only [evI]; rfl), rfl⟩
    · cases h
end
end Wk

/-! The walk layer, part 16: the checker for statements. -/
namespace Wk
open PySem PySem.Spec L2
/-! ### how a pair's stores go -/
def isStar : Expr → Bool
  | .Starred .. => true
  | _ => false
def swNames (loc : Str → Bool) (line : Nat) (ts : List Expr) : List Str := ts.filterMap fun
  | .Name id pos => if loc id && pos.line == line then some id else none
  | _ => none
def swP (loc : Str → Bool) (ts vs : List Expr) : Option (Option (List Str)) :=
  if (!(ts.length == 2 || ts.length == 3) || vs.length != ts.length) = true then some none else
  if vs.any isStar = true then some none else
  if ((swNames loc ((ts.head?.map (·.pos.line)).getD 0) ts).length != ts.length || (swNames loc ((ts.head?.map (·.pos.line)).getD 0) ts).eraseDups.length != (swNames loc ((ts.head?.map (·.pos.line)).getD 0) ts).length) = true then some none else
  if vs.all (foldedForSure 8) = true then some none else
  if vs.all (constantsAlone 8) = true then none else some (some (swNames loc ((ts.head?.map (·.pos.line)).getD 0) ts))
theorem blockKind_fn {env : Env} (hk : env.scope.kind = .function) : env.blockKind = .function := by
  unfold Env.blockKind
  rw [hk] <;> rfl
theorem stores_of {env : Env} {ts vs : List Expr} {k k2 : Nat} {p p2 : Pos} {r : Option (List Str)} (hk : env.scope.kind = .function) (h : swP (fun x => env.kindOf x == some .local) ts vs = some r) :
    swappedStores [.Tuple ts k p] (.Tuple vs k2 p2) env = pure r := by
  have hb := blockKind_fn hk
  unfold swP at h
  unfold swappedStores
  dsimp only
  rw [hb]
  split at h
  · rename_i q
    cases h
    rw [if_pos (by rw [q]; rfl)]
  · rename_i q
    rw [if_neg (by
      intro z
      apply q
      simpa using z)]
    split at h
    · rename_i q1
      cases h
      rw [if_pos (by exact q1)]
    · rename_i q1
      rw [if_neg (by exact q1)]
      have hn : (ts.filterMap fun
        | .Name id pos => if env.kindOf id == some .local && pos.line == (ts.head?.map (·.pos.line)).getD 0 then some id else none
        | _ => none) = swNames (fun x => env.kindOf x == some .local) ((ts.head?.map (·.pos.line)).getD 0) ts := rfl
      split at h
      · rename_i q2
        cases h
        rw [if_pos (by exact q2)]
      · rename_i q2
        rw [if_neg (by exact q2)]
        split at h
        · rename_i q3
          cases h
          rw [if_pos q3]
        · rename_i q3
          rw [if_neg q3]
          split at h
          · cases h
          · rename_i q4
            rw [if_neg q4]
            cases h
            rfl
def Ck.loc (c : Ck) (x : Str) : Bool := c.sc.names.lookup x == some .local
def Ck.isF (c : Ck) : Bool := decide (c.sc.kind = .function)
/-- stored while the comprehension still stands? -/
def swB (c : Ck) (y : Str) (py pos : Pos) (s : Scope) : Bool := c.loc y && ((py.line == pos.line) && !(s.names.any fun (n, k) => n == y && (k == .local || k == .cell)))
theorem swB_eq {c : Ck} {X : Cx} {y : Str} {py pos : Pos} {s : Scope} {elt : Expr} {gs : List Comprehension} {l : Nat} (hs : X.env.scope = c.sc) (hf : c.isF = true) : swapsWith (.ListComp elt gs s pos) (some (.Name y py)) l X.env = pure (swB c y py pos s) := by
  have hb := blockKind_fn (env := X.env) (by rw [hs]; exact of_decide_eq_true hf)
  have e : swapsWith (.ListComp elt gs s pos) (some (.Name y py)) l X.env = pure (X.env.blockKind == .function && X.env.kindOf y == some .local && py.line == pos.line && !(s.names.any fun (n, k) => n == y && (k == .local || k == .cell))) := rfl
  rw [e, hb]
  unfold swB Ck.loc Env.kindOf
  rw [hs]
  congr 1
  simp [Bool.and_assoc]
def swV (c : Ck) (x : Str) (px : Pos) : Expr → Option Bool
  | .ListComp _ _ s pos => if c.isF = true then some (swB c x px pos s) else none
  | .SetComp _ _ _ _ => none
  | .DictComp _ _ _ _ _ => none
  | _ => some false
theorem swV_ok {c : Ck} {X : Cx} {x : Str} {px : Pos} {e : Expr} {b : Bool} {l : Nat} (hs : X.env.scope = c.sc) (h : swV c x px e = some b) : swapsWith e (some (.Name x px)) l X.env = pure b := by
  unfold swV at h
  split at h
  · split at h
    · rename_i q
      cases h
      exact swB_eq hs q
    · cases h
  · cases h
  · cases h
  · cases h
    rename_i h1 h2 h3
    refine swaps_of ?_ _ _ _
    cases e <;> first | rfl | exact absurd rfl (h1 _ _ _ _) | exact absurd rfl (h2 _ _ _ _) | exact absurd rfl (h3 _ _ _ _ _)
/-- a tuple's stores in order -/
def swN (c : Ck) : Expr → Expr → Bool
  | .Tuple ts _ _, v => match v with
    | .Tuple vs _ _ => c.isF && decide (swP c.loc ts vs = some none)
    | _ => true
  | _, _ => false
theorem swN_ok {c : Ck} {X : Cx} {tg v : Expr} (hs : X.env.scope = c.sc) (h : swN c tg v = true) : swappedStores [tg] v X.env = pure none ∧ (assignEach [tg] X.env).map (·.2) = [assign tg X.env] := by
  unfold swN at h
  split at h
  · split at h
    · obtain ⟨h1, h2⟩ := ba2 h
      refine ⟨stores_of (by rw [hs]; exact of_decide_eq_true h1) ?_, rfl⟩
      have q := of_decide_eq_true h2
      unfold Ck.loc at q
      unfold Env.kindOf
      rw [hs]
      exact q
    · rename_i hv
      refine ⟨?_, rfl⟩
      cases v <;> first | rfl | exact absurd rfl (hv _ _ _)
  · cases h
def isLc : IE → Bool
  | .comp _ _ _ => true
  | .compIf _ _ _ _ => true
  | _ => false
mutual
def chkS : IS → Ck → Stmt → Bool
  | .never, _, _ => true
  | .skip, _, st => match st with
    | .Expr (.Constant (.str _) _ _) _ => true
    | .Pass _ => true
    | _ => false
  | .expr e, c, st => match st with
    | .Expr x _ => notComp x && chkE e c x
    | _ => false
  | .asg i e, c, st => match st with
    | .Assign [.Name x px] v _ => wrOk c i x && (chkE e c v && match swV c x px v with
      | some true => decide (c.sc.names.lookup x = some .local) && isLc e
      | some false => true
      | none => false)
    | _ => false
  | .asgT t e, c, st => match st with
    | .Assign [tg] v _ => swN c tg v && (notComp v && (chkG t c tg && chkE e c v))
    | _ => false
  | .par2 i j a b, c, st => match st with
    | .Assign [.Tuple [.Name x px, .Name y py] _ _] (.Tuple [u, v] _ _) _ => wrOk c i x && (wrOk c j y && (decide (i ≠ j) && (c.isF && (c.loc x && (c.loc y && (decide (swP c.loc [.Name x px, .Name y py] [u, v] = some (some [x, y])) && (chkE a c u && chkE b c v)))))))
    | _ => false
  | .par3 i j l a b d, c, st => match st with
    | .Assign [.Tuple [.Name x px, .Name y py, .Name z pz] _ _] (.Tuple [u, v, w] _ _) _ => wrOk c i x && (wrOk c j y && (wrOk c l z && (decide (i ≠ j ∧ i ≠ l ∧ j ≠ l) && (c.isF && (c.loc x && (c.loc y && (c.loc z && (decide (swP c.loc [.Name x px, .Name y py, .Name z pz] [u, v, w] = some (some [x, y, z])) && (chkE a c u && (chkE b c v && chkE d c w))))))))))
    | _ => false
  | .setix i x e, c, st => match st with
    | .Assign [.Subscript (.Name y _) ix _] v _ => rdOk c i y && (notSlice ix && (notComp v && (chkE x c ix && chkE e c v)))
    | _ => false
  | .ite e s t, c, st => match st with
    | .If x a b _ => chkE e c x && (chkSs s c a && chkSs t c b)
    | _ => false
  | .for_ t it s, c, st => match st with
    | .For tg ie b [] _ => notSet ie && (chkG t c tg && (chkI it c tg ie && chkSs s c b))
    | _ => false
  | .whl e s, c, st => match st with
    | .While x b [] _ => chkE e c x && chkSs s c b
    | _ => false
  | .ret e, c, st => match st with
    | .Return (some x) _ => chkE e c x
    | _ => false
  | .retN, _, st => match st with
    | .Return none _ => true
    | _ => false
  | .brk, _, st => match st with
    | .Break _ => true
    | _ => false
  | .cnt, _, st => match st with
    | .Continue _ => true
    | _ => false
  | .raise _, _, _ => false
  | .seq _ _, _, _ => false
def chkSs : IS → Ck → List Stmt → Bool
  | .seq s t, c, sts => match sts with
    | st :: r => chkS s c st && chkSs t c r
    | [] => false
  | .skip, _, sts => sts.isEmpty
  | .never, _, _ => true
  | _, _, _ => false
end
structure Sok (c : Ck) (X : Cx) (p : Par) (C : Nat → List Arg → RC) : Prop extends Cok c X p C where
  pass : PassesOwn (model X.prog X.w) X.A X.env X.xe
theorem _root_.L2.PS.as {X : Cx} {p : Par} {e : Stmt} {f g : Fm → R Fl} (h : PS X e (tS p f)) (w : ∀ ρ, g ρ = f ρ) : PS X e (tS p g) := by
  have : g = f := funext w
  rw [this]
  exact h
theorem _root_.L2.PSs.as {X : Cx} {p : Par} {e : List Stmt} {f g : Fm → R Fl} (h : PSs X e (tS p f)) (w : ∀ ρ, g ρ = f ρ) : PSs X e (tS p g) := by
  have : g = f := funext w
  rw [this]
  exact h
section
variable {c : Ck} {X : Cx} {p : Par} {C : Nat → List Arg → RC}
theorem sndLc {i : Nat} {e : IE} {x : Str} {px pos : Pos} {v : Expr} (k : Cok c X p C) (hw : wrOk c i x = true) (he : chkE e c v = true) (hl : c.sc.names.lookup x = some .local) (hc : isLc e = true) (hs : swapsWith v (some (.Name x px)) pos.line X.env = pure true) :
    PS X (.Assign [.Name x px] v pos) (tS p fun ρ => (evE C e ρ).bind fun r ρ1 => (lift (setR i r ρ1) ρ1).bind fun ρ2 _ => .ok .nx ρ2) := by
  obtain ⟨w1, w2, w3⟩ := k.wr hw
  have hN : X.N.Nodup := by rw [k.N]; exact k.nd
  cases e <;> try (cases hc; done)
  · rename_i a t it
    unfold chkE at he
    split at he
    · obtain ⟨h1, h⟩ := ba2 he
      obtain ⟨h2, h3⟩ := ba2 h
      unfold compOk at h1
      obtain ⟨q1, q⟩ := ba2 h1
      obtain ⟨q2, q⟩ := ba2 q
      obtain ⟨q3, q4⟩ := ba2 q
      refine PS.weaken (ps_setLc k.calm hN w1 (by rw [k.sc]; exact hl) hs (sndI it c X p C _ _ k h2).i (own := ownG t _) (by rw [k.N, k.sc]; exact blk_of q1) (fun s H A cl fp => sndG t _ _ _ C _ (k.inner s H _ A cl fp) q3) (fun _ _ _ _ _ => pts_nil) (fun s H A cl fp => (sndE a _ _ _ C _ (k.inner s H _ A cl fp) h3).v) (fold_of q4 _)) fun D σ H h => ?_
      rw [of_decide_eq_true q2]
      exact comp_tr (p := p) (body_item (p := p.calm)) σ H _ (asg_tr (fe := evE C (.comp a t it)) D σ H h)
    · cases he
  · rename_i a t it d
    unfold chkE at he
    split at he
    · obtain ⟨h1, h⟩ := ba2 he
      obtain ⟨h2, h⟩ := ba2 h
      obtain ⟨h3, h4⟩ := ba2 h
      unfold compOk at h1
      obtain ⟨q1, q⟩ := ba2 h1
      obtain ⟨q2, q⟩ := ba2 q
      obtain ⟨q3, q4⟩ := ba2 q
      refine PS.weaken (ps_setLc k.calm hN w1 (by rw [k.sc]; exact hl) hs (sndI it c X p C _ _ k h2).i (own := ownG t _) (by rw [k.N, k.sc]; exact blk_of q1) (fun s H A cl fp => sndG t _ _ _ C _ (k.inner s H _ A cl fp) q3) (fun s H A cl fp => pts_one (sndE d _ _ _ C _ (k.inner s H _ A cl fp) h4).w) (fun s H A cl fp => (sndE a _ _ _ C _ (k.inner s H _ A cl fp) h3).v) (fold_of q4 _)) fun D σ H h => ?_
      rw [of_decide_eq_true q2]
      exact comp_tr (p := p) (body_itemIf (p := p.calm)) σ H _ (asg_tr (fe := evE C (.compIf a t it d)) D σ H h)
    · cases he
theorem loc_ok (k : Cok c X p C) {x : Str} (h : c.loc x = true) : X.env.scope.names.lookup x = some .local := by
  rw [k.sc]
  exact eq_of_beq h
theorem par_stores (k : Cok c X p C) {ts vs : List Expr} {kt k2 : Nat} {pt p2 : Pos} {r : Option (List Str)} (hf : c.isF = true) (h : swP c.loc ts vs = some r) : swappedStores [.Tuple ts kt pt] (.Tuple vs k2 p2) X.env = pure r := by
  refine stores_of (by rw [k.sc]; exact of_decide_eq_true hf) ?_
  unfold Ck.loc at h
  unfold Env.kindOf
  rw [k.sc]
  exact h
end
theorem sole_of {v : Expr} (h : notComp v = true) : ∀ t l env, swapsWithSole [t] v l env = pure false := by
  intro t l env
  unfold swapsWithSole
  exact swaps_of h _ _ _
theorem stores_sub {o i : Expr} {pos : Pos} {env : Env} (v : Expr) : swappedStores [.Subscript o i pos] v env = pure none := by
  cases v <;> rfl
theorem sub_of {o i : Expr} {pos : Pos} {env : Env} (h : notSlice i = true) : ∀ v, assign (.Subscript o i pos) env v = (do
      let ov ← holding [v] (eval o env)
      let iv ← holding [v, ov] (eval i env)
      standAt pos
      holding [v, ov, iv] (setItem ov iv v)
      release [v, ov, iv] []) := by
  cases i <;> first | (intro v; rfl) | cases h
mutual
theorem sndS : ∀ (t : IS) (c : Ck) (X : Cx) (p : Par) (C : Nat → List Arg → RC) (st : Stmt), Sok c X p C → chkS t c st = true → PS X st (tS p (evS C t))
  | .never, c, X, p, C, st, k, h => s_never.as fun ρ => by first | rfl | (simp only [evS]; done)
  | .skip, c, X, p, C, st, k, h => by
    unfold chkS at h
    split at h
    · exact s_doc.as fun ρ => by first | rfl | (simp only [evS]; done)
    · exact s_pass.as fun ρ => by first | rfl | (simp only [evS]; done)
    · cases h
  | .expr e, c, X, p, C, st, k, h => by
    unfold chkS at h
    split at h
    · obtain ⟨h1, h2⟩ := ba2 h
      exact (s_expr (sndE e c X p C _ k.toCok h2).v (swaps_of h1 _ _ _)).as fun ρ => by first | rfl | (simp only [evS]; done)
    · cases h
  | .asg i e, c, X, p, C, st, k, h => by
    unfold chkS at h
    split at h
    · obtain ⟨h1, h⟩ := ba2 h
      obtain ⟨h2, h3⟩ := ba2 h
      split at h3
      · rename_i q
        obtain ⟨h4, h5⟩ := ba2 h3
        exact (sndLc k.toCok h1 h2 (of_decide_eq_true h4) h5 (swV_ok k.sc q)).as fun ρ => by first | rfl | (simp only [evS]; done)
      · rename_i q
        obtain ⟨w1, w2, w3⟩ := k.toCok.wr h1
        exact (s_asg (by rw [k.N]; exact k.nd) w1 w2 (sndE e c X p C _ k.toCok h2).v (swV_ok k.sc q) w3).as fun ρ => by first | rfl | (simp only [evS]; done)
      · cases h3
    · cases h
  | .asgT t e, c, X, p, C, st, k, h => by
    unfold chkS at h
    split at h
    · obtain ⟨h1, h⟩ := ba2 h
      obtain ⟨h2, h⟩ := ba2 h
      obtain ⟨h3, h4⟩ := ba2 h
      obtain ⟨q1, q2⟩ := swN_ok k.sc h1
      exact (s_asgT (sndE e c X p C _ k.toCok h4).v (sndG t c X p C _ k.toCok h3) (swaps_of h2 _ _ _) q1 q2).as fun ρ => by first | rfl | (simp only [evS]; done)
    · cases h
  | .par2 i j a b, c, X, p, C, st, k, h => by
    unfold chkS at h
    split at h
    · obtain ⟨h1, h⟩ := ba2 h
      obtain ⟨h2, h⟩ := ba2 h
      obtain ⟨h3, h⟩ := ba2 h
      obtain ⟨h4, h⟩ := ba2 h
      obtain ⟨h5, h⟩ := ba2 h
      obtain ⟨h6, h⟩ := ba2 h
      obtain ⟨h7, h⟩ := ba2 h
      obtain ⟨h8, h9⟩ := ba2 h
      have ia := sndE a c X p C _ k.toCok h8
      have ib := sndE b c X p C _ k.toCok h9
      exact (s_par2 k.calm (by rw [k.N]; exact k.nd) (k.toCok.wr h1).1 (k.toCok.wr h2).1 (of_decide_eq_true h3) (loc_ok k.toCok h5) (loc_ok k.toCok h6) (d_cons ia.v (d_cons ib.v d_nil (plain_of ib.s)) (plain_of ia.s)) (par_stores k.toCok h4 (of_decide_eq_true h7)) rfl).as fun ρ => by first | rfl | (simp only [evS]; done)
    · cases h
  | .par3 i j l a b d, c, X, p, C, st, k, h => by
    unfold chkS at h
    split at h
    · obtain ⟨h1, h⟩ := ba2 h
      obtain ⟨h2, h⟩ := ba2 h
      obtain ⟨h2', h⟩ := ba2 h
      obtain ⟨h3, h⟩ := ba2 h
      obtain ⟨h4, h⟩ := ba2 h
      obtain ⟨h5, h⟩ := ba2 h
      obtain ⟨h6, h⟩ := ba2 h
      obtain ⟨h6', h⟩ := ba2 h
      obtain ⟨h7, h⟩ := ba2 h
      obtain ⟨h8, h⟩ := ba2 h
      obtain ⟨h9, h10⟩ := ba2 h
      obtain ⟨n1, n2, n3⟩ := of_decide_eq_true h3
      have ia := sndE a c X p C _ k.toCok h8
      have ib := sndE b c X p C _ k.toCok h9
      have ic := sndE d c X p C _ k.toCok h10
      exact (s_par3 k.calm (by rw [k.N]; exact k.nd) (k.toCok.wr h1).1 (k.toCok.wr h2).1 (k.toCok.wr h2').1 n1 n2 n3 (loc_ok k.toCok h5) (loc_ok k.toCok h6) (loc_ok k.toCok h6') (d_cons ia.v (d_cons ib.v (d_cons ic.v d_nil (plain_of ic.s)) (plain_of ib.s)) (plain_of ia.s)) (par_stores k.toCok h4 (of_decide_eq_true h7)) rfl).as fun ρ => by first | rfl | (simp only [evS]; done)
    · cases h
  | .setix i x e, c, X, p, C, st, k, h => by
    unfold chkS at h
    split at h
    · obtain ⟨h1, h⟩ := ba2 h
      obtain ⟨h0, h⟩ := ba2 h
      obtain ⟨h2, h⟩ := ba2 h
      obtain ⟨h3, h4⟩ := ba2 h
      obtain ⟨r1, r2, r3, r4⟩ := k.toCok.rd h1
      exact (s_setix (hK := k.K) r1 r2 r3 r4 (sndE x c X p C _ k.toCok h3).v (sndE e c X p C _ k.toCok h4).v (sub_of h0) (sole_of h2 _ _ _) (stores_sub _) rfl).as fun ρ => by first | rfl | (simp only [evS]; done) | (simp only [evS]; rfl)
    · cases h
  | .ite e s t, c, X, p, C, st, k, h => by
    unfold chkS at h
    split at h
    · obtain ⟨h1, h⟩ := ba2 h
      obtain ⟨h2, h3⟩ := ba2 h
      exact (s_ite (sndE e c X p C _ k.toCok h1).w (sndSs s c X p C _ k h2) (sndSs t c X p C _ k h3)).as fun ρ => by first | rfl | (simp only [evS]; done)
    · cases h
  | .for_ t it s, c, X, p, C, st, k, h => by
    unfold chkS at h
    split at h
    · obtain ⟨h1, h⟩ := ba2 h
      obtain ⟨h2, h⟩ := ba2 h
      obtain ⟨h3, h4⟩ := ba2 h
      exact (s_for k.pass k.calm (sndI it c X p C _ _ k.toCok h3).i (sndG t c X p C _ k.toCok h2) (sndSs s c X p C _ k h4) (fold_of h1 _)).as fun ρ => by first | rfl | (simp only [evS]; done)
    · cases h
  | .whl e s, c, X, p, C, st, k, h => by
    unfold chkS at h
    split at h
    · obtain ⟨h1, h2⟩ := ba2 h
      exact (s_whl k.pass (sndE e c X p C _ k.toCok h1).w (sndSs s c X p C _ k h2)).as fun ρ => by first | (simp only [evS]; done) | rfl
    · cases h
  | .ret e, c, X, p, C, st, k, h => by
    unfold chkS at h
    split at h
    · exact (s_ret (sndE e c X p C _ k.toCok h).v).as fun ρ => by first | rfl | (simp only [evS]; done)
    · cases h
  | .retN, c, X, p, C, st, k, h => by
    unfold chkS at h
    split at h
    · exact s_retN.as fun ρ => by first | rfl | (simp only [evS]; done)
    · cases h
  | .brk, c, X, p, C, st, k, h => by
    unfold chkS at h
    split at h
    · exact s_brk.as fun ρ => by first | rfl | (simp only [evS]; done)
    · cases h
  | .cnt, c, X, p, C, st, k, h => by
    unfold chkS at h
    split at h
    · exact s_cnt.as fun ρ => by first | rfl | (simp only [evS]; done)
    · cases h
  | .raise _, c, X, p, C, st, k, h => by
    unfold chkS at h
    cases h
  | .seq _ _, c, X, p, C, st, k, h => by
    unfold chkS at h
    cases h
theorem sndSs : ∀ (t : IS) (c : Ck) (X : Cx) (p : Par) (C : Nat → List Arg → RC) (sts : List Stmt), Sok c X p C → chkSs t c sts = true → PSs X sts (tS p (evS C t))
  | .seq s t, c, X, p, C, sts, k, h => by
    unfold chkSs at h
    split at h
    · obtain ⟨h1, h2⟩ := ba2 h
      exact (s_seq (sndS s c X p C _ k h1) (sndSs t c X p C _ k h2)).as fun ρ => by first | rfl | (simp only [evS]; done) | (simp only [evS]; rfl)
    · cases h
  | .skip, c, X, p, C, sts, k, h => by
    unfold chkSs at h
    cases sts with
    | nil => exact s_nil.as fun ρ => by first | rfl | (simp only [evS]; done)
    | cons _ _ => cases h
  | .never, c, X, p, C, sts, k, h => PSs.weaken pss_never fun D σ H q => by
    obtain ⟨F, ρ, e, q⟩ := q
    simp only [evS] at q
    exact q.elim
  | .expr _, c, X, p, C, sts, k, h => by cases h
  | .asg _ _, c, X, p, C, sts, k, h => by cases h
  | .asgT _ _, c, X, p, C, sts, k, h => by cases h
  | .par2 _ _ _ _, c, X, p, C, sts, k, h => by cases h
  | .par3 _ _ _ _ _ _, c, X, p, C, sts, k, h => by cases h
  | .setix _ _ _, c, X, p, C, sts, k, h => by cases h
  | .ite _ _ _, c, X, p, C, sts, k, h => by cases h
  | .for_ _ _ _, c, X, p, C, sts, k, h => by cases h
  | .whl _ _, c, X, p, C, sts, k, h => by cases h
  | .ret _, c, X, p, C, sts, k, h => by cases h
  | .retN, c, X, p, C, sts, k, h => by cases h
  | .brk, c, X, p, C, sts, k, h => by cases h
  | .cnt, c, X, p, C, sts, k, h => by cases h
  | .raise _, c, X, p, C, sts, k, h => by cases h
end
end Wk

/-! The walk layer, part 17: each def keeps the promise of the evaluator. -/
namespace Wk
open PySem PySem.Spec L2
/-! ### the start and the end of a body -/
theorem frame_get {fn : Fn} {args : List Arg} {i : Nat} {s : Sl} (h : (frameOf fn args)[i]? = some s) : (∃ a, args[i]? = some a ∧ s = slOf a) ∨ (args.length ≤ i ∧ s = .no) := by
  unfold frameOf at h
  rw [List.getElem?_append] at h
  split at h
  · rename_i q
    rw [List.getElem?_map] at h
    obtain ⟨a, h1, h2⟩ := map_some h
    exact .inl ⟨a, h1, h2.symm⟩
  · rename_i q
    rw [List.length_map] at q
    have := List.getElem?_eq_some_iff.mp h
    obtain ⟨_, e⟩ := this
    rw [List.getElem_replicate] at e
    exact .inr ⟨by omega, e.symm⟩
theorem args_get {K : PySem.W.Frag} {F H : Hp} : ∀ {vs : List V} {as : List Arg} {i : Nat} {a : Arg}, ArgsOk K F H vs as → as[i]? = some a → ∃ v, vs[i]? = some v ∧ match a with
    | .val d => Dq K F v d
    | .own xs k => (k = .lent ∨ k = .lockL) ∧ v ∈ lentV vs as ∧ ∃ b ws, v = .ref b ∧ H b = some (.lst ws) ∧ DqAll K F ws xs ∧ F b = none
  | [], [], _, _, _, h => by simp at h
  | v :: vs, .val d :: as, 0, a, q, h => by
    simp at h
    subst h
    exact ⟨v, rfl, q.1⟩
  | v :: vs, .own xs k :: as, 0, a, q, h => by
    simp at h
    subst h
    exact ⟨v, rfl, q.1, List.mem_cons_self .., q.2.1⟩
  | v :: vs, .val d :: as, i + 1, a, q, h => by
    obtain ⟨u, h1, h2⟩ := args_get (i := i) q.2 (by simpa using h)
    refine ⟨u, by simpa using h1, ?_⟩
    cases a with
    | val d' => exact h2
    | own ys l => exact h2
  | v :: vs, .own xs k :: as, i + 1, a, q, h => by
    obtain ⟨u, h1, h2⟩ := args_get (i := i) q.2.2 (by simpa using h)
    refine ⟨u, by simpa using h1, ?_⟩
    cases a with
    | val d' => exact h2
    | own ys l => exact ⟨h2.1, List.mem_cons_of_mem _ h2.2.1, h2.2.2⟩
  | [], _ :: _, _, _, q, _ => q.elim
  | _ :: _, [], _, _, q, _ => q.elim
theorem lent_sep {K : PySem.W.Frag} {F H : Hp} : ∀ {vs : List V} {as : List Arg} {i j : Nat} {xs ys : List D} {k l : Kd} {b : Addr}, ArgsOk K F H vs as → (lentV vs as).Nodup → as[i]? = some (.own xs k) → as[j]? = some (.own ys l) → vs[i]? = some (.ref b) → vs[j]? = some (V.ref b) → i = j
  | [], [], _, _, _, _, _, _, _, _, _, h, _, _, _ => by simp at h
  | v :: vs, .val d :: as, 0, _, xs, _, _, _, _, q, n, h, _, _, _ => by simp at h
  | v :: vs, .val d :: as, _ + 1, 0, _, _, _, _, _, q, n, _, h, _, _ => by simp at h
  | v :: vs, .val d :: as, i + 1, j + 1, xs, ys, k, l, b, q, n, h1, h2, h3, h4 => by
    rw [lent_sep (i := i) (j := j) (vs := vs) q.2 n (by simpa using h1) (by simpa using h2) (by simpa using h3) (by simpa using h4)]
  | v :: vs, .own zs m :: as, 0, 0, xs, ys, k, l, b, q, n, h1, h2, h3, h4 => rfl
  | v :: vs, .own zs m :: as, 0, j + 1, xs, ys, k, l, b, q, n, h1, h2, h3, h4 => by
    obtain ⟨u, u1, u2⟩ := args_get (i := j) (vs := vs) (as := as) q.2.2 (by simpa using h2)
    have h4 : vs[j]? = some (V.ref b) := by simpa using h4
    rw [h4] at u1
    cases u1
    simp at h3
    subst h3
    exact absurd u2.2.1 (List.nodup_cons.mp n).1
  | v :: vs, .own zs m :: as, i + 1, 0, xs, ys, k, l, b, q, n, h1, h2, h3, h4 => by
    obtain ⟨u, u1, u2⟩ := args_get (i := i) (vs := vs) (as := as) q.2.2 (by simpa using h1)
    have h3 : vs[i]? = some (V.ref b) := by simpa using h3
    rw [h3] at u1
    cases u1
    simp at h4
    subst h4
    exact absurd u2.2.1 (List.nodup_cons.mp n).1
  | v :: vs, .own zs m :: as, i + 1, j + 1, xs, ys, k, l, b, q, n, h1, h2, h3, h4 => by
    rw [lent_sep (i := i) (j := j) (vs := vs) q.2.2 (List.nodup_cons.mp n).2 (by simpa using h1) (by simpa using h2) (by simpa using h3) (by simpa using h4)]
  | [], _ :: _, _, _, _, _, _, _, _, q, _, _, _, _, _ => q.elim
  | _ :: _, [], _, _, _, _, _, _, _, q, _, _, _, _, _ => q.elim
theorem start_get {N : List Str} {vs : List V} {i : Nat} {v : V} (h : vs[i]? = some v) : (L2.start N vs)[i]? = some (some v) := by
  unfold L2.start
  rw [List.getElem?_append_left (by rw [List.length_map]; exact (List.getElem?_eq_some_iff.mp h).1), List.getElem?_map, h]
  rfl
section
variable {K : PySem.W.Frag} {F H : Hp} {vs : List V} {args : List Arg} {N : List Str} {fn : Fn}
theorem start_own {a : Addr} (q : ArgsOk K F H vs args) (h : OwnAt (L2.start N vs) (frameOf fn args) a) : V.ref a ∈ lentV vs args := by
  obtain ⟨i, xs, k, h1, h2⟩ := h
  rcases frame_get h1 with ⟨b, b1, b2⟩ | ⟨_, z⟩
  · cases b with
    | val d => cases b2
    | own ys l =>
      obtain ⟨v, v1, _, v2, _⟩ := args_get q b1
      rw [start_get v1] at h2
      cases h2
      exact v2
  · cases z
theorem start_env (sub : SubH F H) (q : ArgsOk K F H vs args) (n : (lentV vs args).Nodup) (hs : fn.slots = N.length) (hl : args.length ≤ N.length) : EnvOk K H F (L2.start N vs) H (frameOf fn args) := by
  have ll := q.len
  refine ⟨sub, ?_, fun i d h => ?_, fun i xs k h => ?_, fun i j a xs ys k l h1 h2 e1 e2 => ?_, fun a h => h⟩
  · unfold frameOf L2.start
    simp only [List.length_append, List.length_map, List.length_replicate]
    omega
  · rcases frame_get h with ⟨b, b1, b2⟩ | ⟨_, z⟩
    · cases b with
      | val d' =>
        cases b2
        obtain ⟨v, v1, v2⟩ := args_get q b1
        exact ⟨v, start_get v1, v2⟩
      | own ys l => cases b2
    · cases z
  · rcases frame_get h with ⟨b, b1, b2⟩ | ⟨_, z⟩
    · cases b with
      | val d' => cases b2
      | own ys l =>
        cases b2
        obtain ⟨v, v1, v2, v3, b, ws, rfl, w1, w2, w3⟩ := args_get q b1
        refine ⟨b, ws, start_get v1, w1, w2, w3, fun z => ?_⟩
        rcases v2 with rfl | rfl <;> rcases z with z | z <;> cases z
    · cases z
  · rcases frame_get h1 with ⟨b, b1, b2⟩ | ⟨_, z⟩
    · cases b with
      | val d => cases b2
      | own xs' k' =>
        rcases frame_get h2 with ⟨c, c1, c2⟩ | ⟨_, z⟩
        · cases c with
          | val d => cases c2
          | own ys' l' =>
            obtain ⟨v, v1, _⟩ := args_get q b1
            obtain ⟨u, u1, _⟩ := args_get q c1
            rw [start_get v1] at e1
            rw [start_get u1] at e2
            cases e1
            cases e2
            exact lent_sep q n b1 c1 v1 u1
        · cases z
    · cases z
theorem slot_get {i : Nat} {a : Arg} (h : args[i]? = some a) : (frameOf fn args)[i]? = some (slOf a) := by
  unfold frameOf
  rw [List.getElem?_append_left (by rw [List.length_map]; exact (List.getElem?_eq_some_iff.mp h).1), List.getElem?_map, h]
  rfl
variable {σ' : St} {F' H' : Hp} {ρ' : Fm}
/-- a lent list at the end -/
theorem lent_end (q : ArgsOk K F H vs args) (s : Step K H (L2.start N vs) F H (frameOf fn args) σ' F' H' ρ') {i : Nat} {xs : List D} {k : Kd} {v : V} (h : args[i]? = some (.own xs k)) (hv : vs[i]? = some v) :
    ∃ ys b ws, ρ'[i]? = some (.own ys k) ∧ v = .ref b ∧ H' b = some (.lst ws) ∧ DqAll K F' ws ys ∧ F' b = none ∧ (k = .lockL → ys = xs) := by
  obtain ⟨u, u1, u2, _⟩ := args_get q h
  rw [hv] at u1
  cases u1
  obtain ⟨l1, ys, l2, l3⟩ := s.lk i xs k (slot_get h) (by rcases u2 with rfl | rfl <;> simp)
  obtain ⟨b, ws, w1, w2, w3, w4, _⟩ := s.env.own i ys k l2
  rw [l1, start_get hv] at w1
  cases w1
  exact ⟨ys, b, ws, l2, rfl, w2, w3, w4, fun z => l3 (by rw [z]; simp)⟩
theorem lent_at {K : PySem.W.Frag} {F H : Hp} : ∀ {vs : List V} {as : List Arg} {v : V}, ArgsOk K F H vs as → v ∈ lentV vs as → ∃ (i : Nat) (xs : List D) (k : Kd), as[i]? = some (.own xs k) ∧ vs[i]? = some v
  | [], [], v, _, h => by cases h
  | u :: vs, .val d :: as, v, q, h => by
    obtain ⟨i, xs, k, h1, h2⟩ := lent_at (vs := vs) q.2 h
    exact ⟨i + 1, xs, k, by simpa using h1, by simpa using h2⟩
  | u :: vs, .own ys l :: as, v, q, h => by
    rcases List.mem_cons.mp h with z | z
    · subst z
      exact ⟨0, ys, l, rfl, rfl⟩
    · obtain ⟨i, xs, k, h1, h2⟩ := lent_at (vs := vs) q.2.2 z
      exact ⟨i + 1, xs, k, by simpa using h1, by simpa using h2⟩
  | [], _ :: _, _, q, _ => q.elim
  | _ :: _, [], _, q, _ => q.elim
theorem end_step (q : ArgsOk K F H vs args) (s : Step K H (L2.start N vs) F H (frameOf fn args) σ' F' H' ρ') : StepC K F H (lentV vs args) F' H' where
  fz := s.fz
  hp := fun a o h n => s.hp a o h fun z => n (start_own q z)
  dm := s.dm
  nf := fun a h1 h2 => by
    by_cases z : V.ref a ∈ lentV vs args
    · obtain ⟨i, xs, k, e1, e2⟩ := lent_at q z
      obtain ⟨ys, b, ws, _, w1, _, _, w2, _⟩ := lent_end q s e1 e2
      cases w1
      exact w2
    · exact s.nf a h1 h2 fun y => z (start_own q y)
  sub := s.env.sub
theorem end_fin (q0 : ArgsOk K F H vs args) (s : Step K H (L2.start N vs) F H (frameOf fn args) σ' F' H' ρ') : FinOk K F' H' vs args (finOf ρ' 0 args) := by
  have key : ∀ (us : List V) (as : List Arg) (n : Nat), ArgsOk K F H us as → (∀ i, as[i]? = args[n + i]?) → (∀ i, us[i]? = vs[n + i]?) → FinOk K F' H' us as (finOf ρ' n as) := by
    intro us as
    induction us generalizing as with
    | nil =>
      intro n q h1 h2
      cases as with
      | nil => rfl
      | cons _ _ => exact q.elim
    | cons u us ih =>
      intro n q h1 h2
      cases as with
      | nil => exact q.elim
      | cons a as =>
        have t1 : ∀ i, as[i]? = args[n + 1 + i]? := fun i => by
          have := h1 (i + 1)
          rw [List.getElem?_cons_succ] at this
          rw [this]
          congr 1
          omega
        have t2 : ∀ i, us[i]? = vs[n + 1 + i]? := fun i => by
          have := h2 (i + 1)
          rw [List.getElem?_cons_succ] at this
          rw [this]
          congr 1
          omega
        cases a with
        | val d => exact ih as (n + 1) q.2 t1 t2
        | own xs k =>
          have e1 : args[n]? = some (.own xs k) := (h1 0).symm
          have e2 : vs[n]? = some u := (h2 0).symm
          obtain ⟨ys, b, ws, w0, w1, w2, w3, _, w4⟩ := lent_end q0 s e1 e2
          unfold finOf
          rw [w0]
          exact ⟨⟨b, ws, w1, w2, w3⟩, w4, ih as (n + 1) q.2.2 t1 t2⟩
  exact key vs args 0 q0 (fun i => by rw [Nat.zero_add]) fun i => by rw [Nat.zero_add]
theorem end_ret {x : V} {rv r : RV} (s : Step K H (L2.start N vs) F H (frameOf fn args) σ' F' H' ρ') (h : RvOk K H H F' σ' H' ρ' x rv) (e : retOf rv ρ' = some r) : RetOk K F' H H' x r := by
  cases rv with
  | val d =>
    cases e
    exact h
  | tmp xs =>
    cases e
    obtain ⟨a, ws, h1, h2, h3, h4, h5, h6, h7⟩ := h
    exact ⟨a, ws, h1, h2, h3, h4, h6⟩
  | sl i =>
    have h : σ'[i]? = some (some x) := h
    simp only [retOf] at e
    split at e
    · rename_i xs hi
      cases e
      obtain ⟨a, ws, w1, w2, w3, w4, w5⟩ := s.env.own i xs .mine hi
      rw [h] at w1
      cases w1
      exact ⟨a, ws, rfl, w2, w3, w4, w5 (.inl rfl)⟩
    · rename_i d hi
      cases e
      obtain ⟨v, w1, w2⟩ := s.env.val i d hi
      rw [h] at w1
      cases w1
      exact w2
    · cases e
theorem body_post {xc : Nat → Value} {W : WX} {E : XK} {Q : VK} {r : R Fl} (hW : ∀ c σ H', E (xc c) none H' → W (xc c) none σ H') (q : ArgsOk K F H vs args) (h : PostC K xc F H vs args (endOf args r) Q E) :
    PostS ⟨K, H, W, xc⟩ (L2.start N vs) F H (frameOf fn args) r { nx := fun _ H' => Q .non H', rt := Q } := by
  match r, h with
  | .ok .nx ρ', h => exact fun σ' F' H' s => h F' H' _ (end_step q s) (end_fin q s) .non
  | .ok .brk ρ', h => exact h.elim
  | .ok .cnt ρ', h => exact h.elim
  | .ok (.ret v) ρ', h =>
    intro σ' F' H' x s rv
    unfold endOf at h
    dsimp only at h
    split at h
    · rename_i r' e
      exact h F' H' x (end_step q s) (end_fin q s) (end_ret s rv e)
    · exact h.elim
  | .exc c ρ', h => exact fun σ' F' H' s => hW c σ' H' (h F' H' (end_step q s) (end_fin q s))
  | .no, h => exact h.elim
end
/-! ### the defs of a law -/
structure Df where
  d : He.DefD
  N : List Str
  ps : List Str
def argsB (a : Arguments) (ps : List Str) : Bool := (a.posonlyargs.isEmpty && (a.vararg.isNone && (a.kwonlyargs.isEmpty && (a.kw_defaults.isEmpty && (a.kwarg.isNone && a.defaults.isEmpty))))) && (decide (a.args.map (·.arg) = ps) && decide (ps.length ≤ 8))
def scB (N P : List Str) (sc : Scope) : Bool := decide (sc.kind = .function) && (!sc.isCoroutine && (!sc.isGenerator && (decide N.Nodup && (decide (N.take P.length = P) && ((P.all fun x => decide (sc.names.lookup x = some .local) || decide (sc.names.lookup x = some .cell)) && (sc.names.all fun y => decide (y.2 ≠ .free)))))))
theorem scB_ok {N P : List Str} {sc : Scope} (h : scB N P sc = true) : FnScope N P sc := by
  obtain ⟨h1, h⟩ := ba2 h
  obtain ⟨h2, h⟩ := ba2 h
  obtain ⟨h3, h⟩ := ba2 h
  obtain ⟨h4, h⟩ := ba2 h
  obtain ⟨h5, h⟩ := ba2 h
  obtain ⟨h6, h7⟩ := ba2 h
  refine ⟨of_decide_eq_true h1, by simpa using h2, by simpa using h3, of_decide_eq_true h4, of_decide_eq_true h5, fun x hx => ?_, fun y hy => of_decide_eq_true (List.all_eq_true.mp h7 y hy)⟩
  rcases Bool.or_eq_true_iff.mp (List.all_eq_true.mp h6 x hx) with q | q
  · exact .inl (of_decide_eq_true q)
  · exact .inr (of_decide_eq_true q)
def BindD (d : Df) : Prop := ∀ (kV doc pm : Value) (an : Option Addr) (cdv ct : Value) (us : List Value), us.length = d.ps.length → bindArgs (PySem.W.fnOf d.d.name d.d.qual d.d.params d.d.body d.d.scope .none kV doc pm an cdv ct) ⟨us, []⟩ = pure (d.ps.zip us)
def AllB : List Df → Prop
  | [] => True
  | d :: r => BindD d ∧ AllB r
theorem AllB.at : ∀ {ds : List Df} {j : Nat} {d : Df}, AllB ds → ds[j]? = some d → BindD d
  | [], j, d, _, h => by simp at h
  | e :: r, 0, d, q, h => by
    simp at h
    subst h
    exact q.1
  | e :: r, j + 1, d, q, h => AllB.at (j := j) q.2 (by simpa using h)
def Df.ok (gs : List (Str × GK)) (d : Df) (fn : Fn) : Bool := d.d.dfl.isEmpty && (d.d.kwd.isEmpty && (scB d.N d.ps d.d.scope && (decide (fn.slots = d.N.length) && (decide (fn.pars = d.ps.length) && chkSs fn.body ⟨d.N, d.d.scope, none, gs⟩ d.d.body))))
def allOk (gs : List (Str × GK)) : List Df → List Fn → Bool
  | [], [] => true
  | d :: ds, f :: fs => d.ok gs f && allOk gs ds fs
  | _, _ => false
theorem allOk_at {gs : List (Str × GK)} : ∀ {ds : List Df} {fs : List Fn} {j : Nat} {d : Df}, allOk gs ds fs = true → ds[j]? = some d → ∃ f, fs[j]? = some f ∧ d.ok gs f = true
  | [], _, j, d, _, h => by simp at h
  | _ :: _, [], j, d, q, h => by cases q
  | e :: ds, f :: fs, 0, d, q, h => by
    simp at h
    subst h
    exact ⟨f, rfl, (ba2 q).1⟩
  | e :: ds, f :: fs, j + 1, d, q, h => by
    obtain ⟨g, g1, g2⟩ := allOk_at (j := j) (ba2 q).2 (by simpa using h)
    exact ⟨g, by simpa using g1, g2⟩
/-- what a name of the module stands for, before any context -/
def GkS (K : PySem.W.Frag) (mg : Str → Option Value) (dfs : List Df) (x : Str) : GK → Prop
  | .free => mg x = none
  | .int i => ∃ t, mg x = some (.int i t)
  | .nums is => ∃ a, mg x = some (.ref a) ∧ ∀ H, SqT K H a (is.map V.int)
  | .gcd => mg x = some (.builtin "math.gcd")
  | .fn k => ∃ d, dfs[k]? = some d ∧ mg x = some (.ref (He.fAd K d.d.at_))
theorem fund {K : PySem.W.Frag} {dfs : List Df} {fs : List Fn} {gs : List (Str × GK)} {fa : List He.Fa} (c : He.SaysD fa (dfs.map (·.d)) K) (hok : allOk gs dfs fs = true) {j : Nat} {d : Df} (hd : dfs[j]? = some d) :
    ∃ fd, FunD K d.d.name d.d.qual d.d.params d.d.body d.d.scope [] [] (He.fAd K d.d.at_) fd := by
  obtain ⟨f, hf, h⟩ := allOk_at hok hd
  obtain ⟨h1, h⟩ := ba2 h
  obtain ⟨h2, h⟩ := ba2 h
  obtain ⟨fd, F⟩ := c.def_ j (d := d.d) (by rw [List.getElem?_map, hd]; rfl)
  have e1 : d.d.dvs K = [] := by
    unfold He.DefD.dvs
    rw [List.isEmpty_iff.mp h1] <;> rfl
  have e2 : d.d.kws K = [] := by
    unfold He.DefD.kws
    rw [List.isEmpty_iff.mp h2] <;> rfl
  rw [e1, e2] at F
  exact ⟨fd, F⟩
theorem all_ok {P : Program} {w : World} {K : PySem.W.Frag} {mg : Str → Option Value} {base : Heap} {xc : Nat → Value} {dfs : List Df} {fs : List Fn} {gs : List (Str × GK)} {fa : List He.Fa}
    (c : He.SaysD fa (dfs.map (·.d)) K) (hok : allOk gs dfs fs = true) (hb : AllB dfs) (hg : ∀ x g, gs.lookup x = some g → GkS K mg dfs x g) :
    ∀ n j d, dfs[j]? = some d → ∀ fd, FunD K d.d.name d.d.qual d.d.params d.d.body d.d.scope [] [] (He.fAd K d.d.at_) fd → FnOk P w K mg base (L2.CX P w) (n + 1) (He.fAd K d.d.at_) fd d.ps (spC K xc (evC fs n j)) := by
  intro n
  induction n with
  | zero =>
    intro j d hd fd F
    obtain ⟨f, hf, h⟩ := allOk_at hok hd
    obtain ⟨h1, h⟩ := ba2 h
    obtain ⟨h2, h⟩ := ba2 h
    obtain ⟨h3, h⟩ := ba2 h
    refine F.ok (scB_ok h3) (fun vs H Q E q => ?_) fun cdv A outer s H vs Q E hr q => ?_
    · obtain ⟨F, args, _, _, _, q⟩ := q
      exact q.elim
    · obtain ⟨F, args, _, _, _, q⟩ := q
      exact q.elim
  | succ n ih =>
    intro j d hd fd F
    obtain ⟨f, hf, h⟩ := allOk_at hok hd
    obtain ⟨h1, h⟩ := ba2 h
    obtain ⟨h2, h⟩ := ba2 h
    obtain ⟨h3, h⟩ := ba2 h
    obtain ⟨h4, h⟩ := ba2 h
    obtain ⟨h5, h6⟩ := ba2 h
    have h4 := of_decide_eq_true h4
    have h5 := of_decide_eq_true h5
    have S := scB_ok h3
    have evu : ∀ args, evC fs (n + 1) j args = if args.length = f.pars then endOf args (evS (evC fs n) f.body (frameOf f args)) else .no := fun args => by
      simp only [evC, hf]
    have core : ∀ {vs : List V} {H : Hp} {Q : VK} {E : XK}, spC K xc (evC fs (n + 1) j) vs H Q E → ∃ F args, SubH F H ∧ ArgsOk K F H vs args ∧ (lentV vs args).Nodup ∧ args.length = f.pars ∧ PostC K xc F H vs args (endOf args (evS (evC fs n) f.body (frameOf f args))) Q E := fun {vs H Q E} q => by
      obtain ⟨F, args, q1, q2, q3, q4⟩ := q
      rw [evu] at q4
      split at q4
      · rename_i hl
        exact ⟨F, args, q1, q2, q3, hl, q4⟩
      · exact q4.elim
    refine F.ok S (fun vs H Q E q => ?_) fun cdv A outer s H vs Q E hr q => ?_
    · obtain ⟨F, args, _, q2, _, hl, _⟩ := core q
      rw [q2.len, hl, h5]
    · obtain ⟨F0, args, q1, q2, q3, hl, q4⟩ := core q
      have hlen : args.length ≤ d.N.length := by
        have := congrArg List.length S.pre
        rw [List.length_take] at this
        omega
      have hun := hr.un
      refine ⟨tS ⟨K, H, fun cls d _ H => E cls d H, xc⟩ (evS (evC fs n) f.body), sndSs f.body ⟨d.N, d.d.scope, none, gs⟩ _ _ _ _ ⟨⟨rfl, S.nd, rfl, rfl, rfl, rfl, ?_, L2.takes_of rfl rfl rfl rfl, fun x g hx => ?_⟩, L2.passes_of rfl⟩ h6, F0, frameOf f args, start_env q1 q2 q3 h4 hlen, body_post (fun _ _ _ z => z) q2 q4⟩
      · show (A.deeper _).units + 65 < cLine
        omega
      · have q := hg x g hx
        cases g with
        | free => exact q
        | int i => exact q
        | nums is => exact q
        | gcd => exact q
        | fn k =>
          obtain ⟨e, he, hm⟩ := q
          obtain ⟨fd2, F2⟩ := fund c hok he
          exact ⟨_, fd2, e.ps, n + 1, ih k e he fd2 F2, hr, hm, F2.kp, F2.bindsN fun kV doc pm an cdv ct us hl => hb.at he kV doc pm an cdv ct us hl⟩
end Wk

/-! The walk layer, part 18: from the evaluator to the law. -/
namespace Wk
open PySem PySem.Spec L2
def scriptA (ns : List Int) : List Arg := [.val (.list (ns.map .int))]
theorem law_sp {K : PySem.W.Frag} {xc : Nat → Value} {C : List Arg → RC} {H : Hp} {a : Addr} {ns : List Int} {E : XK} (hl : Lx K H a (ns.map V.int)) (hC : C (scriptA ns) = .ok (.val (.bool true)) []) : spC K xc C [.ref a] H (fun v _ => v = .bl true) E := by
  refine ⟨H, scriptA ns, fun _ _ h => h, ⟨.lst hl (dqAll_ofInts ns), trivial⟩, List.nodup_nil, ?_⟩
  rw [hC]
  intro F' H' v _ _ r
  cases r
  rfl
theorem walk_end {l : PySem.W.OpenLaw} {n k : Nat} {q : Program} {loose : List Str} {XP : (Str → Option Value) → Heap → Prop} {YP : World → Heap → Prop} {d : DefRec} {x : Str} {xc : Nat → Value} {C : List Arg → RC}
    (hn : l.most = some n) (hz : n ≤ sizeLine) (hdf : d.params.defaults = []) (hr : Room k callerA)
    (hC : ∀ ns : List Int, ns.length ≤ n → (∀ i ∈ ns, Builtin.Int.intBits i ≤ 1048576) → C (scriptA ns) = .ok (.val (.bool true)) [])
    (G : ∀ (w : World) (mg : Str → Option Value) (f : Addr) (h : Heap), YP w h → h.Ns mainGlobals mg → mg d.name = some (.ref f) → ∃ (K : PySem.W.Frag) (fd : FuncData), K.In h ∧ (∀ (s : Shared) (u : Value), BindsTo s fd ⟨[u], []⟩ [(x, u)]) ∧
      ∀ base : Heap, K.In base → base.Ns mainGlobals mg → FnOk l.prog w K mg base (L2.CX l.prog w) k f fd [x] (spC K xc C)) :
    PySem.W.WalkO q loose XP YP l.row.toRowW d [] (fun f vs => PySem.call f vs) := by
  refine Att.attach_callB hn hdf fun w _ s mg _ f _ _ _ _ a vs ns g Y _ _ _ hm ho hi hlen hbits hgens => ?_
  obtain ⟨K, fd, KX, hb, hF⟩ := G w mg f _ Y g.T.g hm
  refine law_call KX g.T.g g.T.b g.T.builtins g.T.nolimit hgens ho hi (Nat.le_trans hlen hz) hr hF hb (fun H _ hS => law_sp ?_ (hC ns hlen hbits)) fun H e s' z => ?_
  · rcases hS with hS | ⟨o, its, m, h1, h2, h3, h4, h5, h6⟩
    · exact .inl hS
    · have e := KX _ _ h1
      rw [ho] at e
      cases e
      cases h4
      exact .inr ⟨vs, _, h1, by simpa using h5, by simpa using h6⟩
  · obtain ⟨_, _, _, _, _, _, _, _, _, _, _, _, z⟩ := z
    exact z
/-! ### the head -/
def faOf : Str × GK → He.Fa
  | (x, .free) => .free x
  | (x, .int i) => .int x i
  | (x, .fn _) => .glo x
  | (x, .nums _) => .glo x
  | (_, .gcd) => .glo "law"
def exW (gs : List (Str × GK)) (K : PySem.W.Frag) : Bool := gs.all fun e => match e.2 with
  | .gcd => He.eqO (PySem.W.nsIn K mainGlobals e.1) (some (some (.builtin "math.gcd")))
  | .nums is => He.tupB K e.1 (is.map He.Dv.int)
  | _ => true
abbrev hookW (dfs : List Df) (gs : List (Str × GK)) : PySem.W.Hook := He.hookX 4 (gs.map faOf) (dfs.map (·.d)) [] [] (exW gs)
def obW (dfs : List Df) (gs : List (Str × GK)) (s : PySem.W.SharedT) : He.AlX := He.obsX 4 (gs.map faOf) (dfs.map (·.d)) [] [] (exW gs) (HandSHeadRun.getT s)
theorem obW_eq (dfs : List Df) (gs : List (Str × GK)) (s : PySem.W.SharedT) : obW dfs gs s = (hookW dfs gs).obs s.abs := He.obsX_eq (HandSHeadRun.getT_eq s)
def gsB (dfs : List Df) (gs : List (Str × GK)) : Bool := gs.all fun e => match e.2 with
  | .fn k => (match dfs[k]? with
    | some d => decide (d.d.at_ = (e.1, none))
    | none => false)
  | _ => true
theorem lookup_mem {α β : Type} [BEq α] [LawfulBEq α] {x : α} {y : β} : ∀ {l : List (α × β)}, l.lookup x = some y → (x, y) ∈ l
  | [], h => by simp at h
  | (a, b) :: r, h => by
    rw [List.lookup_cons] at h
    split at h
    · rename_i q
      cases h
      rw [eq_of_beq q]
      exact List.mem_cons_self ..
    · exact List.mem_cons_of_mem _ (lookup_mem h)
theorem gs_ok {K : PySem.W.Frag} {h : Heap} {mg : Str → Option Value} {dfs : List Df} {gs : List (Str × GK)} (X : K.In h) (G : h.Ns mainGlobals mg) (c : He.SaysD (gs.map faOf) (dfs.map (·.d)) K) (ex : exW gs K = true) (hb : gsB dfs gs = true) :
    ∀ x g, gs.lookup x = some g → GkS K mg dfs x g := fun x g hx => by
  have hm := lookup_mem hx
  have hf := c.facts (f := faOf (x, g)) (List.mem_map_of_mem hm)
  cases g with
  | free => exact He.free_ok X G hf
  | int i => exact He.int_ok X G hf
  | nums is =>
    have q := List.all_eq_true.mp ex _ hm
    refine ⟨He.ga K x, He.glo_ok X G hf, fun H => ?_⟩
    have r := He.tupB_ok q H
    rw [List.map_map] at r
    exact r
  | gcd =>
    have q := List.all_eq_true.mp ex _ hm
    exact PySem.W.mg_of X G (He.eqO_ok q)
  | fn k =>
    have q := List.all_eq_true.mp hb _ hm
    dsimp only at q
    split at q
    · rename_i d hd
      refine ⟨d, hd, ?_⟩
      rw [of_decide_eq_true q]
      exact He.glo_ok X G hf
    · cases q
theorem law_end {l : PySem.W.OpenLaw} {n m j : Nat} {q : Program} {loose : List Str} {XP : (Str → Option Value) → Heap → Prop} {d : DefRec} {dfs : List Df} {gs : List (Str × GK)} {fs : List Fn} {dj : Df} {x : Str}
    (hn : l.most = some n) (hz : n ≤ sizeLine) (hdf : d.params.defaults = []) (hr : Room (m + 1) callerA) (hc : allOk gs dfs fs = true) (hg : gsB dfs gs = true) (hb : AllB dfs) (hj : dfs[j]? = some dj) (hl : gs.lookup d.name = some (.fn j)) (hp : dj.ps = [x])
    (hC : ∀ ns : List Int, ns.length ≤ n → (∀ i ∈ ns, Builtin.Int.intBits i ≤ 1048576) → evC fs m j (scriptA ns) = .ok (.val (.bool true)) []) :
    PySem.W.WalkO q loose XP (hookW dfs gs).says l.row.toRowW d [] (fun f vs => PySem.call f vs) := by
  refine walk_end (xc := fun _ => .none) (C := evC fs m j) (x := x) hn hz hdf hr hC fun w mg f h Y G hm => ?_
  obtain ⟨K, KX, c⟩ := Y
  have hgs := gs_ok KX G c.t.d c.more hg
  obtain ⟨fd, F⟩ := fund c.t.d hc hj
  obtain ⟨d', hd', hm'⟩ := hgs _ _ hl
  rw [hj] at hd'
  cases hd'
  rw [hm] at hm'
  cases hm'
  refine ⟨K, fd, KX, fun s u => ?_, fun base _ _ => ?_⟩
  · have := F.bindsA (ps := dj.ps) (fun kV doc pm an cdv ct us hl => hb.at hj kV doc pm an cdv ct us hl) s [u] (by rw [hp]; rfl)
    rw [hp] at this
    exact this
  · rw [← hp]
    exact all_ok c.t.d hc hb hgs m j dj hj fd F
theorem evC_at {fs : List Fn} {n j : Nat} {args : List Arg} {fn : Fn} (h : fs[j]? = some fn) (hl : args.length = fn.pars) : evC fs (n + 1) j args = endOf args (evS (evC fs n) fn.body (frameOf fn args)) := by
  show (match fs[j]? with
    | some fn => if args.length = fn.pars then endOf args (evS (evC fs n) fn.body (frameOf fn args)) else .no
    | none => .no) = _
  rw [h]
  exact if_pos hl
end Wk

/-! The walk layer, part 19: how the evaluator is run on paper. -/
namespace Wk
open PySem
section
variable {α β : Type}
theorem rb_ok (a : α) (ρ : Fm) (f : α → Fm → R β) : (R.ok a ρ).bind f = f a ρ := id rfl
theorem R.bind_as {α β γ : Type} (r : R α) (k : α → Fm → R β) (l : β → Fm → R γ) : (r.bind k).bind l = r.bind fun a ρ => (k a ρ).bind l := by cases r <;> rfl
theorem rb_exc (c : Nat) (ρ : Fm) (f : α → Fm → R β) : (R.exc c ρ : R α).bind f = .exc c ρ := id rfl
theorem rb_no (f : α → Fm → R β) : (R.no : R α).bind f = .no := id rfl
theorem rb_ite (c : Prop) [Decidable c] (x y : R α) (f : α → Fm → R β) : (if c then x else y).bind f = if c then x.bind f else y.bind f := by
  split <;> rfl
theorem lf_some (a : α) (ρ : Fm) : lift (some a) ρ = .ok a ρ := id rfl
theorem lf_none (ρ : Fm) : lift (none : Option α) ρ = .no := id rfl
theorem ob_some (a : α) (f : α → Option β) : (some a).bind f = f a := id rfl
theorem om_some (a : α) (f : α → β) : (some a).map f = some (f a) := id rfl
theorem pk_val (d : D) (ρ : Fm) : peek (.val d) ρ = some d := id rfl
theorem pk_tmp (d : List D) (ρ : Fm) : peek (.tmp d) ρ = some (.list d) := id rfl
theorem fz_val (d : D) (ρ : Fm) : fzR (.val d) ρ = .ok d ρ := id rfl
theorem fz_tmp (d : List D) (ρ : Fm) : fzR (.tmp d) ρ = .ok (.list d) ρ := id rfl
theorem sr_val (i : Nat) (d : D) (ρ : Fm) : setR i (.val d) ρ = setV i d ρ := id rfl
theorem sr_tmp (i : Nat) (d : List D) (ρ : Fm) : setR i (.tmp d) ρ = if free? ρ[i]? = true then some (ρ.set i (.own d .mine)) else none := id rfl
theorem go_t (a : α) : guardO true a = some a := id rfl
theorem as_int (i : Int) : asInt (.int i) = some i := id rfl
theorem as_bool (i : Bool) : asBool (.bool i) = some i := id rfl
theorem fr_val (d : D) : free? (some (.val d)) = true := id rfl
theorem fr_no : free? (some .no) = true := id rfl
theorem fr_own (d : List D) : free? (some (.own d .mine)) = true := id rfl
theorem eo_nx (as : List Arg) (ρ : Fm) : endOf as (.ok .nx ρ) = .ok (.val .none) (finOf ρ 0 as) := id rfl
theorem eo_val (as : List Arg) (d : D) (ρ : Fm) : endOf as (.ok (.ret (.val d)) ρ) = .ok (.val d) (finOf ρ 0 as) := id rfl
theorem eo_tmp (as : List Arg) (d : List D) (ρ : Fm) : endOf as (.ok (.ret (.tmp d)) ρ) = .ok (.tmp d) (finOf ρ 0 as) := id rfl
theorem eo_ite (c : Prop) [Decidable c] (as : List Arg) (x y : R Fl) : endOf as (if c then x else y) = if c then endOf as x else endOf as y := by
  split <;> rfl
theorem fo_nil (ρ : Fm) (i : Nat) : finOf ρ i [] = [] := id rfl
theorem fo_val (ρ : Fm) (i : Nat) (d : D) (as : List Arg) : finOf ρ i (.val d :: as) = finOf ρ (i + 1) as := id rfl
theorem ac_ok (ρ : Fm) (as : List (Sum D Nat)) (v : RV) (fin : List (List D)) : afterCall ρ as (.ok v fin) = .ok v (giveB ρ as fin) := id rfl
theorem gb_nil (ρ : Fm) (f : List (List D)) : giveB ρ [] f = ρ := id rfl
theorem gb_val (ρ : Fm) (d : D) (r : List (Sum D Nat)) (f : List (List D)) : giveB ρ (.inl d :: r) f = giveB ρ r f := id rfl
theorem lo_nil (ρ : Fm) : lentOf ρ [] = [] := id rfl
theorem lo_val (ρ : Fm) (d : D) (r : List (Sum D Nat)) : lentOf ρ (.inl d :: r) = lentOf ρ r := id rfl
theorem ao_val (ρ : Fm) (d : D) : argOf ρ (.inl d) = some (.val d) := id rfl
theorem sl_val (d : D) : slOf (.val d) = .val d := id rfl
theorem sl_own (d : List D) (k : Kd) : slOf (.own d k) = .own d k := id rfl
/-- a call whose arguments are data -/
theorem ite_t (x y : α) : (if (true : Bool) = true then x else y) = x := id rfl
theorem ite_f (x y : α) : (if (false : Bool) = true then x else y) = y := id rfl
end
section
open L2
theorem bd_add (i j : Int) : binD .add (.int i) (.int j) = some (.val (.int (i + j))) := id rfl
theorem bd_sub (i j : Int) : binD .sub (.int i) (.int j) = some (.val (.int (i - j))) := id rfl
theorem bd_mul (i j : Int) : binD .mul (.int i) (.int j) = guardO (mulOk i j) (.val (.int (i * j))) := id rfl
theorem bd_fdiv (i j : Int) : binD .fdiv (.int i) (.int j) = guardO (divOk j) (.val (.int (i.fdiv j))) := id rfl
theorem bd_mod (i j : Int) : binD .mod (.int i) (.int j) = guardO (decide (j ≠ 0)) (.val (.int (i.fmod j))) := id rfl
theorem bd_pow (i j : Int) : binD .pow (.int i) (.int j) = guardO (powOk i j) (.val (.int (i ^ j.toNat))) := id rfl
theorem bd_shl (i j : Int) : binD .shl (.int i) (.int j) = guardO (powOk i j) (.val (.int (i * 2 ^ j.toNat))) := id rfl
theorem bd_shr (i j : Int) : binD .shr (.int i) (.int j) = guardO (decide (0 ≤ j)) (.val (.int (i / 2 ^ j.toNat))) := id rfl
theorem bd_addl (x y : List D) : binD .add (.list x) (.list y) = guardO (fits (x.length + y.length)) (.tmp (x ++ y)) := id rfl
theorem bd_addt (x y : List D) : binD .add (.tuple x) (.tuple y) = guardO (fits (x.length + y.length)) (.val (.tuple (x ++ y))) := id rfl
theorem cd_eq (a b : D) : cmpD .eq a b = guardO (SeqAt.shaped a && SeqAt.shaped b) (PyData.eqv a b) := id rfl
theorem cd_ne (a b : D) : cmpD .ne a b = guardO (SeqAt.shaped a && SeqAt.shaped b) (!PyData.eqv a b) := id rfl
theorem cd_lt (i j : Int) : cmpD .lt (.int i) (.int j) = some (decide (i < j)) := id rfl
theorem cd_le (i j : Int) : cmpD .le (.int i) (.int j) = some (decide (i ≤ j)) := id rfl
theorem cd_gt (i j : Int) : cmpD .gt (.int i) (.int j) = some (decide (j < i)) := id rfl
theorem cd_ge (i j : Int) : cmpD .ge (.int i) (.int j) = some (decide (j ≤ i)) := id rfl
theorem cd_is_none : cmpD .isN .none .none = some true := id rfl
theorem cd_isn_none : cmpD .isnN .none .none = some false := id rfl
theorem id_none_int : isiD .none .int = some false := id rfl
theorem id_none_bool : isiD .none .bool = some false := id rfl
theorem id_none_str : isiD .none .str = some false := id rfl
theorem id_none_tuple : isiD .none .tuple = some false := id rfl
theorem id_none_list : isiD .none .list = some false := id rfl
theorem cd_is_bb (i j : Bool) : cmpD .isN (.bool i) (.bool j) = some (decide (i = j)) := id rfl
theorem cd_isn_bb (i j : Bool) : cmpD .isnN (.bool i) (.bool j) = some (!decide (i = j)) := id rfl
theorem cdB_ne (i j : Bool) : cmpD .ne (.bool i) (.bool j) = some (!(i == j)) := by
  cases i <;> cases j <;> rfl
theorem cd_is_bool (b : Bool) : cmpD .isN (.bool b) .none = some false := id rfl
theorem cd_isn_bool (b : Bool) : cmpD .isnN (.bool b) .none = some true := id rfl
theorem id_bool_int (b : Bool) : isiD (.bool b) .int = some true := id rfl
theorem id_bool_bool (b : Bool) : isiD (.bool b) .bool = some true := id rfl
theorem id_bool_str (b : Bool) : isiD (.bool b) .str = some false := id rfl
theorem id_bool_tuple (b : Bool) : isiD (.bool b) .tuple = some false := id rfl
theorem id_bool_list (b : Bool) : isiD (.bool b) .list = some false := id rfl
theorem cd_is_int (b : Int) : cmpD .isN (.int b) .none = some false := id rfl
theorem cd_isn_int (b : Int) : cmpD .isnN (.int b) .none = some true := id rfl
theorem id_int_int (b : Int) : isiD (.int b) .int = some true := id rfl
theorem id_int_bool (b : Int) : isiD (.int b) .bool = some false := id rfl
theorem id_int_str (b : Int) : isiD (.int b) .str = some false := id rfl
theorem id_int_tuple (b : Int) : isiD (.int b) .tuple = some false := id rfl
theorem id_int_list (b : Int) : isiD (.int b) .list = some false := id rfl
theorem cd_is_str (b : Str) : cmpD .isN (.str b) .none = some false := id rfl
theorem cd_isn_str (b : Str) : cmpD .isnN (.str b) .none = some true := id rfl
theorem id_str_int (b : Str) : isiD (.str b) .int = some false := id rfl
theorem id_str_bool (b : Str) : isiD (.str b) .bool = some false := id rfl
theorem id_str_str (b : Str) : isiD (.str b) .str = some true := id rfl
theorem id_str_tuple (b : Str) : isiD (.str b) .tuple = some false := id rfl
theorem id_str_list (b : Str) : isiD (.str b) .list = some false := id rfl
theorem cd_is_list (b : List D) : cmpD .isN (.list b) .none = some false := id rfl
theorem cd_isn_list (b : List D) : cmpD .isnN (.list b) .none = some true := id rfl
theorem id_list_int (b : List D) : isiD (.list b) .int = some false := id rfl
theorem id_list_bool (b : List D) : isiD (.list b) .bool = some false := id rfl
theorem id_list_str (b : List D) : isiD (.list b) .str = some false := id rfl
theorem id_list_tuple (b : List D) : isiD (.list b) .tuple = some false := id rfl
theorem id_list_list (b : List D) : isiD (.list b) .list = some true := id rfl
theorem cd_is_tuple (b : List D) : cmpD .isN (.tuple b) .none = some false := id rfl
theorem cd_isn_tuple (b : List D) : cmpD .isnN (.tuple b) .none = some true := id rfl
theorem id_tuple_int (b : List D) : isiD (.tuple b) .int = some false := id rfl
theorem id_tuple_bool (b : List D) : isiD (.tuple b) .bool = some false := id rfl
theorem id_tuple_str (b : List D) : isiD (.tuple b) .str = some false := id rfl
theorem id_tuple_tuple (b : List D) : isiD (.tuple b) .tuple = some true := id rfl
theorem id_tuple_list (b : List D) : isiD (.tuple b) .list = some false := id rfl
theorem td_none : truthD .none = some false := id rfl
theorem td_bool (b : Bool) : truthD (.bool b) = some b := id rfl
theorem td_int (i : Int) : truthD (.int i) = some (i != 0) := id rfl
theorem td_list (x : List D) : truthD (.list x) = some (!x.isEmpty) := id rfl
theorem td_tuple (x : List D) : truthD (.tuple x) = some (!x.isEmpty) := id rfl
theorem ix_list (x : List D) (i : Int) : idxD (.list x) (.int i) = atI x i := id rfl
theorem ix_tuple (x : List D) (i : Int) : idxD (.tuple x) (.int i) = atI x i := id rfl
theorem at_0 (x : D) (l : List D) : atI (x :: l) 0 = some x := by simp [atI, ixN]
theorem at_1 (x y : D) (l : List D) : atI (x :: y :: l) 1 = some y := by
  have h : (1 : Int) < l.length + 1 + 1 := by omega
  simp [atI, ixN, h]
theorem at_2 (x y z : D) (l : List D) : atI (x :: y :: z :: l) 2 = some z := by
  have h : (2 : Int) < l.length + 1 + 1 + 1 := by omega
  simp [atI, ixN, h]
theorem f1_lenl (x : List D) : b1D .len (.list x) = some (.val (.int x.length)) := id rfl
theorem f1_lent (x : List D) : b1D .len (.tuple x) = some (.val (.int x.length)) := id rfl
theorem f1_int (i : Int) : b1D .int (.int i) = some (.val (.int i)) := id rfl
theorem f1_intb (b : Bool) : b1D .int (.bool b) = some (.val (.int (if b then 1 else 0))) := id rfl
theorem f1_abs (i : Int) : b1D .abs (.int i) = some (.val (.int (if i < 0 then -i else i))) := id rfl
theorem f1_listl (x : List D) : b1D .list (.list x) = some (.tmp x) := id rfl
theorem f1_listt (x : List D) : b1D .list (.tuple x) = some (.tmp x) := id rfl
theorem f1_tupl (x : List D) : b1D .tuple (.list x) = some (.val (.tuple x)) := id rfl
theorem f1_tupt (x : List D) : b1D .tuple (.tuple x) = some (.val (.tuple x)) := id rfl
theorem f2_max (i j : Int) : b2D .max (.int i) (.int j) = some (.int (if j > i then j else i)) := id rfl
theorem f2_min (i j : Int) : b2D .min (.int i) (.int j) = some (.int (if j < i then j else i)) := id rfl
theorem f2_gcd (i j : Int) : b2D .gcd (.int i) (.int j) = some (.int ((Nat.gcd i.natAbs j.natAbs : Nat) : Int)) := id rfl
end
theorem cdI_eq (i j : Int) : cmpD .eq (.int i) (.int j) = some (decide (i = j)) := by
  simp [cmpD, guardO, SeqAt.shaped, PyData.eqv, PyData.canLay0, PyData.depth]
  try (by_cases h : i = j <;> simp [h])
theorem cdI_ne (i j : Int) : cmpD .ne (.int i) (.int j) = some (!decide (i = j)) := by
  simp [cmpD, guardO, SeqAt.shaped, PyData.eqv, PyData.canLay0, PyData.depth]
  try (by_cases h : i = j <;> simp [h])
theorem cdB_eq (i j : Bool) : cmpD .eq (.bool i) (.bool j) = some (i == j) := by
  cases i <;> cases j <;> rfl
theorem cd_nil : cmpD .eq (.list []) (.list []) = some true := id rfl
theorem cdn_nil : cmpD .ne (.list []) (.list []) = some false := id rfl
/-- turns of a loop, by a promise -/
theorem forL_inv {f : D → Fm → R Fl} (P : Nat → Fm → Prop) (ds : List D) (ρ0 : Fm) (h0 : P 0 ρ0) (hs : ∀ i ρ (hi : i < ds.length), P i ρ → ∃ ρ', f ds[i] ρ = .ok .nx ρ' ∧ P (i + 1) ρ') : ∃ ρ', forL f ds ρ0 = .ok .nx ρ' ∧ P ds.length ρ' := by
  induction ds generalizing ρ0 P with
  | nil => exact ⟨ρ0, rfl, h0⟩
  | cons d ds ih =>
    obtain ⟨ρ1, e1, p1⟩ := hs 0 ρ0 (by simp) h0
    obtain ⟨ρ2, e2, p2⟩ := ih (fun i => P (i + 1)) ρ1 p1 fun i ρ hi p => by
      obtain ⟨ρ', e, q⟩ := hs (i + 1) ρ (by simp; omega) p
      exact ⟨ρ', by simpa using e, q⟩
    refine ⟨ρ2, ?_, by simpa using p2⟩
    show (f d ρ0).bind _ = _
    have e1 : f d ρ0 = .ok .nx ρ1 := e1
    rw [e1]
    exact e2
/-- a comprehension's turns, each of which gives the frame back -/
theorem compL_map {f : D → Fm → R (Option D)} {g : D → Option D} {ρ : Fm} : ∀ (ds : List D), (∀ d ∈ ds, f d ρ = .ok (g d) ρ) → compL f ds ρ = .ok (ds.filterMap g) ρ
  | [], _ => rfl
  | d :: ds, h => by
    show (f d ρ).bind _ = _
    rw [h d (List.mem_cons_self ..), rb_ok]
    rw [compL_map ds fun x hx => h x (List.mem_cons_of_mem _ hx), rb_ok]
    cases q : g d with
    | none => simp [List.filterMap_cons, q]
    | some x => simp [List.filterMap_cons, q]
theorem zipD_self_mem : ∀ {xs : List D} {d : D}, d ∈ zipD xs xs → ∃ x ∈ xs, d = .tuple [x, x]
  | [], d, h => by simp [zipD] at h
  | x :: xs, d, h => by
    simp only [zipD, List.mem_cons] at h
    rcases h with h | h
    · exact ⟨x, List.mem_cons_self .., h⟩
    · obtain ⟨y, h1, h2⟩ := zipD_self_mem h
      exact ⟨y, List.mem_cons_of_mem _ h1, h2⟩
theorem zipD_self_len (xs : List D) : (zipD xs xs).length = xs.length := by
  induction xs with
  | nil => rfl
  | cons x xs ih => simp [zipD, ih]
/-- a comprehension whose turns give the frame back -/
theorem compAll_map {own : List Nat} {f : D → Fm → R (Option D)} {g : D → Option D} {ds : List D} {ρ : Fm} (hf : ds.length ≤ 16777216) (h : ∀ d ∈ ds, backR ρ own (f d (wipeF ρ own)) = .ok (g d) ρ) : compAll own f ds [] ρ = .ok (.tmp (ds.filterMap g)) ρ := by
  unfold compAll
  rw [if_pos (show fits ds.length = true from decide_eq_true hf), compL_map (g := g) ds h]
  rfl
theorem compAll_lk {own lk : List Nat} {f : D → Fm → R (Option D)} {g : D → Option D} {ds : List D} {ρ : Fm} (hf : ds.length ≤ 16777216) (h : ∀ d ∈ ds, backR ρ own (f d (wipeF ρ own)) = .ok (g d) ρ) : compAll own f ds lk ρ = .ok (.tmp (ds.filterMap g)) (unlock ρ lk) := by
  unfold compAll
  rw [if_pos (show fits ds.length = true from decide_eq_true hf), compL_map (g := g) ds h]
theorem rangeL_mem {n : Nat} {d : D} (h : d ∈ rangeL 0 1 n) : ∃ i : Nat, i < n ∧ d = .int (i : Int) := by
  unfold rangeL at h
  obtain ⟨i, h1, h2⟩ := List.mem_map.mp h
  refine ⟨i, by simpa using h1, ?_⟩
  rw [← h2]
  congr 1
  omega
theorem rangeL_length (n : Nat) : (rangeL 0 1 n).length = n := by simp [rangeL]
theorem rangeL_get {n i : Nat} (h : i < (rangeL 0 1 n).length) : (rangeL 0 1 n)[i] = .int (i : Int) := by
  simp [rangeL]
def ofI (f : Int → D) : D → Option D
  | .int x => some (f x)
  | _ => none
theorem rangeL_map (f : Int → D) (n : Nat) : (rangeL 0 1 n).filterMap (ofI f) = (List.range n).map fun (i : Nat) => f (i : Int) := by
  unfold rangeL
  induction List.range n with
  | nil => rfl
  | cons a r ih =>
    simp only [List.map_cons, List.filterMap_cons, ofI, ih]
    congr 2
    omega
end Wk

/-! The walk layer, part 20: the evaluator with named rests, so that nothing is run before its turn. -/
namespace Wk
open PySem
def pk1 {α : Type} (f : D → Option α) (a : Option D) : Option α := a.bind f
def pk2 {α : Type} (f : D → D → Option α) (a b : Option D) : Option α := a.bind fun x => b.bind fun y => f x y
theorem pk1_s {α : Type} (f : D → Option α) (x : D) : pk1 f (some x) = f x := id rfl
theorem pk2_s {α : Type} (f : D → D → Option α) (x y : D) : pk2 f (some x) (some y) = f x y := id rfl
def vB (o : Option Bool) : Option RV := o.map fun t => .val (.bool t)
theorem vB_s (b : Bool) : vB (some b) = some (.val (.bool b)) := id rfl
def vD (o : Option D) : Option RV := o.map .val
theorem vD_s (b : D) : vD (some b) = some (.val b) := id rfl
def cmpV (o : COp) (x y : D) : Option RV := vB (cmpD o x y)
theorem cmpV_e (o : COp) (x y : D) : cmpV o x y = vB (cmpD o x y) := id rfl
def idxV (x y : D) : Option RV := vD (idxD x y)
theorem idxV_e (x y : D) : idxV x y = vD (idxD x y) := id rfl
def b2V (f : B2) (x y : D) : Option RV := vD (b2D f x y)
theorem b2V_e (f : B2) (x y : D) : b2V f x y = vD (b2D f x y) := id rfl
def isiV (t : Ty) (x : D) : Option RV := vB (isiD x t)
theorem isiV_e (t : Ty) (x : D) : isiV t x = vB (isiD x t) := id rfl
def isiT (t : Ty) (x : D) : Option Bool := isiD x t
theorem isiT_e (t : Ty) (x : D) : isiT t x = isiD x t := id rfl
def negV (x : D) : Option RV := (asInt x).map fun i => .val (.int (-i))
theorem negV_e (i : Int) : negV (.int i) = some (.val (.int (-i))) := id rfl
def notV (x : D) : Option RV := (asBool x).map fun i => .val (.bool (!i))
theorem notV_e (i : Bool) : notV (.bool i) = some (.val (.bool (!i))) := id rfl
section
variable (C : Nat → List Arg → RC)
/-! expressions -/
def rdV (s : Option Sl) (i : Nat) (ρ : Fm) : R RV := match s with
  | some (.val d) => .ok (.val d) ρ
  | some (.own _ _) => .ok (.sl i) ρ
  | _ => .no
theorem n_lit (d : D) (ρ : Fm) : evE C (.lit d) ρ = .ok (.val d) ρ := id rfl
theorem n_gint (x : Str) (i : Int) (ρ : Fm) : evE C (.gint x i) ρ = .ok (.val (.int i)) ρ := id rfl
theorem n_gtup (x : Str) (is : List Int) (ρ : Fm) : evE C (.gtup x is) ρ = .ok (.val (.tuple (is.map .int))) ρ := id rfl
theorem n_var (i : Nat) (ρ : Fm) : evE C (.var i) ρ = rdV ρ[i]? i ρ := id rfl
theorem rdV_val (d : D) (i : Nat) (ρ : Fm) : rdV (some (.val d)) i ρ = .ok (.val d) ρ := id rfl
theorem rdV_own (d : List D) (k : Kd) (i : Nat) (ρ : Fm) : rdV (some (.own d k)) i ρ = .ok (.sl i) ρ := id rfl
def k_fin1 (f : D → Option RV) (r : R RV) : R RV := r.bind fun r1 ρ1 => lift (pk1 f (peek r1 ρ1)) ρ1
theorem k_fin1_ok (f : D → Option RV) (r : RV) (ρ : Fm) : k_fin1 f (.ok r ρ) = lift (pk1 f (peek r ρ)) ρ := id rfl
def k_two (f : D → D → Option RV) (b : IE) (r : R RV) : R RV := r.bind fun r1 ρ1 => (evE C b ρ1).bind fun r2 ρ2 => lift (pk2 f (peek r1 ρ2) (peek r2 ρ2)) ρ2
def k_fin2 (f : D → D → Option RV) (r1 : RV) (r : R RV) : R RV := r.bind fun r2 ρ2 => lift (pk2 f (peek r1 ρ2) (peek r2 ρ2)) ρ2
theorem k_two_ok (f : D → D → Option RV) (b : IE) (r : RV) (ρ : Fm) : k_two C f b (.ok r ρ) = k_fin2 f r (evE C b ρ) := id rfl
theorem k_fin2_ok (f : D → D → Option RV) (r1 r : RV) (ρ : Fm) : k_fin2 f r1 (.ok r ρ) = lift (pk2 f (peek r1 ρ) (peek r ρ)) ρ := id rfl
theorem n_bin (o : BOp) (a b : IE) (ρ : Fm) : evE C (.bin o a b) ρ = k_two C (binD o) b (evE C a ρ) := id rfl
theorem n_cmp (o : COp) (a b : IE) (ρ : Fm) : evE C (.cmp o a b) ρ = k_two C (cmpV o) b (evE C a ρ) := id rfl
theorem n_idx (a b : IE) (ρ : Fm) : evE C (.idx a b) ρ = k_two C idxV b (evE C a ρ) := id rfl
theorem n_b2 (f : B2) (a b : IE) (ρ : Fm) : evE C (.b2 f a b) ρ = k_two C (b2V f) b (evE C a ρ) := id rfl
theorem n_neg (a : IE) (ρ : Fm) : evE C (.neg a) ρ = k_fin1 negV (evE C a ρ) := id rfl
theorem n_not (a : IE) (ρ : Fm) : evE C (.not a) ρ = k_fin1 notV (evE C a ρ) := id rfl
theorem n_isi (a : IE) (t : Ty) (ρ : Fm) : evE C (.isi a t) ρ = k_fin1 (isiV t) (evE C a ρ) := id rfl
theorem n_b1 (f : B1) (a : IE) (ρ : Fm) : evE C (.b1 f a) ρ = k_fin1 (b1D f) (evE C a ρ) := id rfl
def k_ite (a b : IE) (r : R Bool) : R RV := r.bind fun t ρ1 => if t = true then evE C a ρ1 else evE C b ρ1
theorem n_ite (c a b : IE) (ρ : Fm) : evE C (.ite c a b) ρ = k_ite C a b (evT C c ρ) := id rfl
theorem k_ite_t (a b : IE) (ρ : Fm) : k_ite C a b (.ok true ρ) = evE C a ρ := id rfl
theorem k_ite_f (a b : IE) (ρ : Fm) : k_ite C a b (.ok false ρ) = evE C b ρ := id rfl
def k_mid (o p : COp) (c : IE) (r1 : RV) (r2 : RV) (r : R Bool) : R RV := r.bind fun t ρ3 => if t = true then k_fin2 (cmpV p) r2 (evE C c ρ3) else .ok (.val (.bool false)) ρ3
def k_c2b (o p : COp) (c : IE) (r1 : RV) (r : R RV) : R RV := r.bind fun r2 ρ2 => k_mid C o p c r1 r2 (lift (pk2 (cmpD o) (peek r1 ρ2) (peek r2 ρ2)) ρ2)
def k_c2a (o p : COp) (b c : IE) (r : R RV) : R RV := r.bind fun r1 ρ1 => k_c2b C o p c r1 (evE C b ρ1)
theorem n_cmp2 (o p : COp) (a b c : IE) (ρ : Fm) : evE C (.cmp2 o p a b c) ρ = k_c2a C o p b c (evE C a ρ) := id rfl
theorem k_c2a_ok (o p : COp) (b c : IE) (r : RV) (ρ : Fm) : k_c2a C o p b c (.ok r ρ) = k_c2b C o p c r (evE C b ρ) := id rfl
theorem k_c2b_ok (o p : COp) (c : IE) (r1 r : RV) (ρ : Fm) : k_c2b C o p c r1 (.ok r ρ) = k_mid C o p c r1 r (lift (pk2 (cmpD o) (peek r1 ρ) (peek r ρ)) ρ) := id rfl
theorem k_mid_t (o p : COp) (c : IE) (r1 r2 : RV) (ρ : Fm) : k_mid C o p c r1 r2 (.ok true ρ) = k_fin2 (cmpV p) r2 (evE C c ρ) := id rfl
theorem k_mid_f (o p : COp) (c : IE) (r1 r2 : RV) (ρ : Fm) : k_mid C o p c r1 r2 (.ok false ρ) = .ok (.val (.bool false)) ρ := id rfl
/-! slices -/
def slV (i : Int) (x : D) : Option RV := slcD (some i) none x
def shV (i : Int) (x : D) : Option RV := slcD none (some i) x
def scV (i j : Int) (x : D) : Option RV := slcD (some i) (some j) x
def k_sl (h : Bool) (r1 : RV) (r : R RV) : R RV := r.bind fun r2 ρ2 => (lift (pk1 asInt (peek r2 ρ2)) ρ2).bind fun i _ => lift (pk1 (if h = true then shV i else slV i) (peek r1 ρ2)) ρ2
theorem k_sl_lo (r1 : RV) (i : Int) (ρ : Fm) : k_sl false r1 (.ok (.val (.int i)) ρ) = lift (pk1 (slV i) (peek r1 ρ)) ρ := id rfl
theorem k_sl_hi (r1 : RV) (i : Int) (ρ : Fm) : k_sl true r1 (.ok (.val (.int i)) ρ) = lift (pk1 (shV i) (peek r1 ρ)) ρ := id rfl
def k_sla (h : Bool) (b : IE) (r : R RV) : R RV := r.bind fun r1 ρ1 => k_sl h r1 (evE C b ρ1)
theorem k_sla_ok (h : Bool) (b : IE) (r : RV) (ρ : Fm) : k_sla C h b (.ok r ρ) = k_sl h r (evE C b ρ) := id rfl
theorem n_sset (a : IE) (ρ : Fm) : evE C (.sset a) ρ = k_fin1 ssetD (evE C a ρ) := id rfl
theorem ss_list {xs : List D} {ns : List Int} (h : intsD xs = some ns) (hl : ns.length < 64) : ssetD (.list xs) = some (.tmp ((ssetI ns).map .int)) := by
  show (intsD xs).bind (fun ns => guardO (decide (ns.length < 64)) (RV.tmp ((ssetI ns).map PyData.int))) = _
  rw [h]
  simp only [Option.bind_some, guardO, decide_eq_true hl, if_true]
theorem n_rvs (a : IE) (ρ : Fm) : evE C (.rvs a) ρ = k_fin1 revD (evE C a ρ) := id rfl
theorem rv_list (xs : List D) : revD (.list xs) = some (.tmp xs.reverse) := id rfl
theorem rv_tup (xs : List D) : revD (.tuple xs) = some (.val (.tuple xs.reverse)) := id rfl
theorem n_slo (a b : IE) (ρ : Fm) : evE C (.slo a b) ρ = k_sla C false b (evE C a ρ) := id rfl
theorem n_shi (a b : IE) (ρ : Fm) : evE C (.shi a b) ρ = k_sla C true b (evE C a ρ) := id rfl
def k_sc3 (r1 : RV) (i : Int) (r : R RV) : R RV := r.bind fun r3 ρ3 => (lift (pk1 asInt (peek r3 ρ3)) ρ3).bind fun j _ => lift (pk1 (scV i j) (peek r1 ρ3)) ρ3
theorem k_sc3_ok (r1 : RV) (i j : Int) (ρ : Fm) : k_sc3 r1 i (.ok (.val (.int j)) ρ) = lift (pk1 (scV i j) (peek r1 ρ)) ρ := id rfl
def k_sc2 (c : IE) (r1 : RV) (r : R RV) : R RV := r.bind fun r2 ρ2 => (lift (pk1 asInt (peek r2 ρ2)) ρ2).bind fun i _ => k_sc3 r1 i (evE C c ρ2)
theorem k_sc2_ok (c : IE) (r1 : RV) (i : Int) (ρ : Fm) : k_sc2 C c r1 (.ok (.val (.int i)) ρ) = k_sc3 r1 i (evE C c ρ) := id rfl
def k_sc1 (b c : IE) (r : R RV) : R RV := r.bind fun r1 ρ1 => k_sc2 C c r1 (evE C b ρ1)
theorem k_sc1_ok (b c : IE) (r : RV) (ρ : Fm) : k_sc1 C b c (.ok r ρ) = k_sc2 C c r (evE C b ρ) := id rfl
theorem n_slc (a b c : IE) (ρ : Fm) : evE C (.slc a b c) ρ = k_sc1 C b c (evE C a ρ) := id rfl
/-! displays, arguments, calls -/
def mkT (ds : List D) (ρ : Fm) : R RV := lift (guardO (fits ds.length) (.val (.tuple ds))) ρ
def mkL (ds : List D) (ρ : Fm) : R RV := lift (guardO (fits ds.length) (.tmp ds)) ρ
theorem mkT_ok {ds : List D} (h : ds.length ≤ 16777216) (ρ : Fm) : mkT ds ρ = .ok (.val (.tuple ds)) ρ := by
  unfold mkT guardO
  rw [if_pos (show fits ds.length = true from decide_eq_true h)] <;> rfl
theorem mkL_ok {ds : List D} (h : ds.length ≤ 16777216) (ρ : Fm) : mkL ds ρ = .ok (.tmp ds) ρ := by
  unfold mkL guardO
  rw [if_pos (show fits ds.length = true from decide_eq_true h)] <;> rfl
def k_tup (r : R (List D)) : R RV := r.bind mkT
def k_lst (r : R (List D)) : R RV := r.bind mkL
theorem n_tup (as : IEs) (ρ : Fm) : evE C (.tup as) ρ = k_tup (evD C as ρ) := id rfl
theorem n_lst (as : IEs) (ρ : Fm) : evE C (.lst as) ρ = k_lst (evD C as ρ) := id rfl
theorem k_tup_ok (ds : List D) (ρ : Fm) : k_tup (.ok ds ρ) = mkT ds ρ := id rfl
theorem k_lst_ok (ds : List D) (ρ : Fm) : k_lst (.ok ds ρ) = mkL ds ρ := id rfl
theorem n_dnil (ρ : Fm) : evD C .nil ρ = .ok [] ρ := id rfl
def k_d3 (x : D) (r : R (List D)) : R (List D) := r.bind fun xs ρ3 => .ok (x :: xs) ρ3
def k_d2 (as : IEs) (r : R D) : R (List D) := r.bind fun x ρ2 => k_d3 x (evD C as ρ2)
def k_d1 (as : IEs) (r : R RV) : R (List D) := r.bind fun r ρ1 => k_d2 C as (fzR r ρ1)
theorem n_dcons (a : IE) (as : IEs) (ρ : Fm) : evD C (.cons a as) ρ = k_d1 C as (evE C a ρ) := by
  rw [evD]
  rfl
theorem k_d1_ok (as : IEs) (r : RV) (ρ : Fm) : k_d1 C as (.ok r ρ) = k_d2 C as (fzR r ρ) := id rfl
theorem k_d2_ok (as : IEs) (x : D) (ρ : Fm) : k_d2 C as (.ok x ρ) = k_d3 x (evD C as ρ) := id rfl
theorem k_d3_ok (x : D) (xs : List D) (ρ : Fm) : k_d3 x (.ok xs ρ) = .ok (x :: xs) ρ := id rfl
theorem n_anil (ρ : Fm) : evA C .nil ρ = .ok [] ρ := id rfl
def k_a3 (x : Sum D Nat) (r : R (List (Sum D Nat))) : R (List (Sum D Nat)) := r.bind fun xs ρ3 => .ok (x :: xs) ρ3
def k_a1 (as : IEs) (r : R RV) : R (List (Sum D Nat)) := r.bind fun r ρ1 => match r with
  | .sl i => k_a3 (.inr i) (evA C as ρ1)
  | .val d => k_a3 (.inl d) (evA C as ρ1)
  | .tmp xs => k_a3 (.inl (.list xs)) (evA C as ρ1)
theorem n_acons (a : IE) (as : IEs) (ρ : Fm) : evA C (.cons a as) ρ = k_a1 C as (evE C a ρ) := by
  rw [evA]
  unfold k_a1
  cases evE C a ρ with
  | ok r ρ1 => cases r <;> rfl
  | exc c ρ1 => rfl
  | no => rfl
theorem k_a1_val (as : IEs) (d : D) (ρ : Fm) : k_a1 C as (.ok (.val d) ρ) = k_a3 (.inl d) (evA C as ρ) := id rfl
theorem k_a1_tmp (as : IEs) (d : List D) (ρ : Fm) : k_a1 C as (.ok (.tmp d) ρ) = k_a3 (.inl (.list d)) (evA C as ρ) := id rfl
theorem k_a1_sl (as : IEs) (i : Nat) (ρ : Fm) : k_a1 C as (.ok (.sl i) ρ) = k_a3 (.inr i) (evA C as ρ) := id rfl
theorem k_a3_ok (x : Sum D Nat) (xs : List (Sum D Nat)) (ρ : Fm) : k_a3 x (.ok xs ρ) = .ok (x :: xs) ρ := id rfl
def k_call (f : Nat) (r : R (List (Sum D Nat))) : R RV := r.bind fun xs ρ1 => doCall C f xs ρ1
theorem n_call (f : Nat) (as : IEs) (ρ : Fm) : evE C (.call f as) ρ = k_call C f (evA C as ρ) := id rfl
theorem k_call_ok (f : Nat) (xs : List (Sum D Nat)) (ρ : Fm) : k_call C f (.ok xs ρ) = doCall C f xs ρ := id rfl
/-- the arguments and what is lent, in one look -/
def callD (f : Nat) (xs : List (Sum D Nat)) (ρ : Fm) (as : Option (List Arg)) (b : Bool) : R RV := match as, b with
  | some args, true => afterCall ρ xs (C f args)
  | _, _ => .no
def ndB (l : List Nat) : Bool := decide l.Nodup
theorem n_do (f : Nat) (xs : List (Sum D Nat)) (ρ : Fm) : doCall C f xs ρ = callD C f xs ρ (argsOf ρ xs) (ndB (lentOf ρ xs)) := by
  unfold doCall callD ndB
  cases argsOf ρ xs with
  | none => rfl
  | some args => by_cases h : (lentOf ρ xs).Nodup <;> simp [h]
theorem callD_ok (f : Nat) (xs : List (Sum D Nat)) (ρ : Fm) (args : List Arg) : callD C f xs ρ (some args) true = afterCall ρ xs (C f args) := id rfl
def aoC (a : Option Arg) (r : Option (List Arg)) : Option (List Arg) := a.bind fun x => r.map (x :: ·)
theorem ags_nil (ρ : Fm) : argsOf ρ [] = some [] := id rfl
theorem ags_cons (ρ : Fm) (a : Sum D Nat) (r : List (Sum D Nat)) : argsOf ρ (a :: r) = aoC (argOf ρ a) (argsOf ρ r) := id rfl
theorem aoC_s (a : Arg) (r : List Arg) : aoC (some a) (some r) = some (a :: r) := id rfl
def aoS (s : Option Sl) : Option Arg := match s with
  | some (.val d) => some (.val d)
  | some (.own xs k) => some (.own xs (if k = .mine ∨ k = .lent then .lent else .lockL))
  | _ => none
theorem ao_sl (ρ : Fm) (i : Nat) : argOf ρ (.inr i) = aoS ρ[i]? := id rfl
theorem aoS_mine (xs : List D) : aoS (some (.own xs .mine)) = some (.own xs .lent) := id rfl
theorem aoS_lent (xs : List D) : aoS (some (.own xs .lent)) = some (.own xs .lent) := id rfl
theorem aoS_lockM (xs : List D) : aoS (some (.own xs .lockM)) = some (.own xs .lockL) := id rfl
theorem aoS_lockL (xs : List D) : aoS (some (.own xs .lockL)) = some (.own xs .lockL) := id rfl
theorem aoS_val (d : D) : aoS (some (.val d)) = some (.val d) := id rfl
def loS (s : Option Sl) (i : Nat) (r : List Nat) : List Nat := match s with
  | some (.own _ _) => i :: r
  | _ => r
theorem lo_sl (ρ : Fm) (i : Nat) (r : List (Sum D Nat)) : lentOf ρ (.inr i :: r) = loS ρ[i]? i (lentOf ρ r) := id rfl
theorem loS_own (xs : List D) (k : Kd) (i : Nat) (r : List Nat) : loS (some (.own xs k)) i r = i :: r := id rfl
theorem loS_val (d : D) (i : Nat) (r : List Nat) : loS (some (.val d)) i r = r := id rfl
def gbS (s : Option Sl) (ρ : Fm) (i : Nat) (r : List (Sum D Nat)) (fin : List (List D)) : Fm := match s with
  | some (.own _ k) => (match fin with
    | ys :: fin' => (giveB ρ r fin').set i (.own ys k)
    | [] => giveB ρ r [])
  | _ => giveB ρ r fin
theorem gb_sl (ρ : Fm) (i : Nat) (r : List (Sum D Nat)) (fin : List (List D)) : giveB ρ (.inr i :: r) fin = gbS ρ[i]? ρ i r fin := id rfl
theorem gbS_own (xs : List D) (k : Kd) (ρ : Fm) (i : Nat) (r : List (Sum D Nat)) (ys : List D) (fin : List (List D)) : gbS (some (.own xs k)) ρ i r (ys :: fin) = (giveB ρ r fin).set i (.own ys k) := id rfl
theorem gbS_val (d : D) (ρ : Fm) (i : Nat) (r : List (Sum D Nat)) (fin : List (List D)) : gbS (some (.val d)) ρ i r fin = giveB ρ r fin := id rfl
theorem nd0 : ndB [] = true := id rfl
theorem nd1 (i : Nat) : ndB [i] = true := by simp [ndB]
theorem pk_sl (i : Nat) (ρ : Fm) : peek (.sl i) ρ = (match ρ[i]? with
    | some (.val d) => some d
    | some (.own xs _) => some (.list xs)
    | _ => none) := id rfl
/-! comprehensions, walks -/
def k_item2 (r : R D) : R (Option D) := r.bind fun x ρ => .ok (some x) ρ
def k_item1 (r : R RV) : R (Option D) := r.bind fun r ρ => k_item2 (fzR r ρ)
def k_it0 (e : IE) (o : Option Fm) : R (Option D) := match o with
  | some ρ => k_item1 (evE C e ρ)
  | none => .no
def itemF (e : IE) (t : Tg) (d : D) (ρ : Fm) : R (Option D) := k_it0 C e (asgT t d ρ)
def k_itIf1 (e : IE) (r : R Bool) : R (Option D) := r.bind fun b ρ => if b = true then k_item1 (evE C e ρ) else .ok none ρ
def k_itIf (e c : IE) (o : Option Fm) : R (Option D) := match o with
  | some ρ => k_itIf1 C e (evT C c ρ)
  | none => .no
def itemIfF (e : IE) (t : Tg) (c : IE) (d : D) (ρ : Fm) : R (Option D) := k_itIf C e c (asgT t d ρ)
theorem itemF_e (e : IE) (t : Tg) (d : D) (ρ : Fm) : itemF C e t d ρ = k_it0 C e (asgT t d ρ) := id rfl
theorem itemIfF_e (e : IE) (t : Tg) (c : IE) (d : D) (ρ : Fm) : itemIfF C e t c d ρ = k_itIf C e c (asgT t d ρ) := id rfl
theorem k_it0_s (e : IE) (ρ : Fm) : k_it0 C e (some ρ) = k_item1 (evE C e ρ) := id rfl
theorem k_itIf_s (e c : IE) (ρ : Fm) : k_itIf C e c (some ρ) = k_itIf1 C e (evT C c ρ) := id rfl
theorem k_itIf1_t (e : IE) (ρ : Fm) : k_itIf1 C e (.ok true ρ) = k_item1 (evE C e ρ) := id rfl
theorem k_itIf1_f (e : IE) (ρ : Fm) : k_itIf1 C e (.ok false ρ) = .ok none ρ := id rfl
theorem k_item1_ok (r : RV) (ρ : Fm) : k_item1 (.ok r ρ) = k_item2 (fzR r ρ) := id rfl
theorem k_item2_ok (r : D) (ρ : Fm) : k_item2 (.ok r ρ) = .ok (some r) ρ := id rfl
def k_comp (e : IE) (t : Tg) (r : R Its) : R RV := r.bind fun p ρ1 => compAll t.slots (itemF C e t) p.1 p.2 ρ1
def k_compIf (e : IE) (t : Tg) (c : IE) (r : R Its) : R RV := r.bind fun p ρ1 => compAll t.slots (itemIfF C e t c) p.1 p.2 ρ1
theorem itemF_raw (e : IE) (t : Tg) : (fun d ρ2 => (lift (asgT t d ρ2) ρ2).bind fun ρ3 _ => (evE C e ρ3).bind fun r ρ4 => (fzR r ρ4).bind fun x ρ5 => .ok (some x) ρ5) = itemF C e t := by
  funext d ρ
  unfold itemF
  cases asgT t d ρ <;> rfl
theorem itemIfF_raw (e : IE) (t : Tg) (c : IE) : (fun d ρ2 => (lift (asgT t d ρ2) ρ2).bind fun ρ3 _ => (evT C c ρ3).bind fun b ρ4 => if b = true then (evE C e ρ4).bind fun r ρ5 => (fzR r ρ5).bind fun x ρ6 => .ok (some x) ρ6 else .ok none ρ4) = itemIfF C e t c := by
  funext d ρ
  unfold itemIfF
  cases asgT t d ρ <;> rfl
theorem n_comp (e : IE) (t : Tg) (it : II) (ρ : Fm) : evE C (.comp e t it) ρ = k_comp C e t (evI C it ρ) := by
  rw [evE, itemF_raw]
  rfl
theorem n_compIf (e : IE) (t : Tg) (it : II) (c : IE) (ρ : Fm) : evE C (.compIf e t it c) ρ = k_compIf C e t c (evI C it ρ) := by
  rw [evE, itemIfF_raw]
  rfl
theorem k_comp_ok (e : IE) (t : Tg) (ds : List D) (lk : List Nat) (ρ : Fm) : k_comp C e t (.ok (ds, lk) ρ) = compAll t.slots (itemF C e t) ds lk ρ := id rfl
theorem k_compIf_ok (e : IE) (t : Tg) (c : IE) (ds : List D) (lk : List Nat) (ρ : Fm) : k_compIf C e t c (.ok (ds, lk) ρ) = compAll t.slots (itemIfF C e t c) ds lk ρ := id rfl
def k_lr (r : R Its) : R RV := r.bind fun p ρ1 => mkL p.1 ρ1
def k_tr (r : R Its) : R RV := r.bind fun p ρ1 => mkT p.1 ρ1
theorem n_lrng (it : II) (ρ : Fm) : evE C (.lrng it) ρ = k_lr (evI C it ρ) := id rfl
theorem n_trng (it : II) (ρ : Fm) : evE C (.trng it) ρ = k_tr (evI C it ρ) := id rfl
theorem k_lr_ok (ds : List D) (lk : List Nat) (ρ : Fm) : k_lr (.ok (ds, lk) ρ) = mkL ds ρ := id rfl
theorem k_tr_ok (ds : List D) (lk : List Nat) (ρ : Fm) : k_tr (.ok (ds, lk) ρ) = mkT ds ρ := id rfl
def rg1 (j : Int) (ρ : Fm) : R Its := lift (guardO (rngB j) (rangeL 0 1 j.toNat, [])) ρ
theorem rg1_ok {j : Int} (h1 : -(2 ^ 62) ≤ j) (h2 : j < 2 ^ 62) (ρ : Fm) : rg1 j ρ = .ok (rangeL 0 1 j.toNat, []) ρ := by
  have : rngB j = true := by
    unfold rngB
    rw [decide_eq_true h1, decide_eq_true h2] <;> rfl
  unfold rg1 guardO
  rw [if_pos this] <;> rfl
def k_rg1 (r : R RV) : R Its := r.bind fun r ρ1 => (lift (pk1 asInt (peek r ρ1)) ρ1).bind fun j _ => rg1 j ρ1
theorem n_rng1 (a : IE) (ρ : Fm) : evI C (.rng1 a) ρ = k_rg1 (evE C a ρ) := id rfl
theorem k_rg1_ok (j : Int) (ρ : Fm) : k_rg1 (.ok (.val (.int j)) ρ) = rg1 j ρ := id rfl
def rg2 (i j : Int) (ρ : Fm) : R Its := lift (guardO (rngB i && rngB j) (rangeL i 1 (j - i).toNat, [])) ρ
theorem rg2_ok {i j : Int} (h1 : -(2 ^ 62) ≤ j) (h2 : j < 2 ^ 62) (h3 : -(2 ^ 62) ≤ i) (h4 : i < 2 ^ 62) (ρ : Fm) : rg2 i j ρ = .ok (rangeL i 1 (j - i).toNat, []) ρ := by
  have : (rngB i && rngB j) = true := by
    unfold rngB
    rw [decide_eq_true h1, decide_eq_true h2, decide_eq_true h3, decide_eq_true h4] <;> rfl
  unfold rg2 guardO
  rw [if_pos this] <;> rfl
def k_rg2b (i : Int) (r : R RV) : R Its := r.bind fun r ρ1 => (lift (pk1 asInt (peek r ρ1)) ρ1).bind fun j _ => rg2 i j ρ1
def k_rg2 (b : IE) (r : R RV) : R Its := r.bind fun r ρ1 => (lift (pk1 asInt (peek r ρ1)) ρ1).bind fun i _ => k_rg2b i (evE C b ρ1)
theorem n_rng2 (a b : IE) (ρ : Fm) : evI C (.rng2 a b) ρ = k_rg2 C b (evE C a ρ) := id rfl
theorem k_rg2_ok (b : IE) (i : Int) (ρ : Fm) : k_rg2 C b (.ok (.val (.int i)) ρ) = k_rg2b i (evE C b ρ) := id rfl
theorem k_rg2b_ok (i j : Int) (ρ : Fm) : k_rg2b i (.ok (.val (.int j)) ρ) = rg2 i j ρ := id rfl
def sqK (o : Option (List D × Fm × List Nat)) : R Its := match o with
  | some p => .ok (p.1, p.2.2) p.2.1
  | none => .no
def k_seq (r : R RV) : R Its := r.bind fun r ρ1 => sqK (lockR r ρ1)
theorem n_iseq (a : IE) (ρ : Fm) : evI C (.seq a) ρ = k_seq (evE C a ρ) := id rfl
theorem k_seq_val (ds : List D) (ρ : Fm) : k_seq (.ok (.val (.list ds)) ρ) = .ok (ds, []) ρ := id rfl
theorem k_seq_tup (ds : List D) (ρ : Fm) : k_seq (.ok (.val (.tuple ds)) ρ) = .ok (ds, []) ρ := id rfl
theorem k_seq_tmp (ds : List D) (ρ : Fm) : k_seq (.ok (.tmp ds) ρ) = .ok (ds, []) ρ := id rfl
theorem k_seq_sl (i : Nat) (ρ : Fm) : k_seq (.ok (.sl i) ρ) = sqK (lockR (.sl i) ρ) := id rfl
def lkS (s : Option Sl) (i : Nat) (ρ : Fm) : R Its := match s with
  | some (.val (.list xs)) => .ok (xs, []) ρ
  | some (.val (.tuple xs)) => .ok (xs, []) ρ
  | some (.own xs k) => if k = .mine ∨ k = .lent then .ok (xs, [i]) (ρ.set i (.own xs k.lock)) else .ok (xs, []) ρ
  | _ => .no
theorem sq_sl (i : Nat) (ρ : Fm) : sqK (lockR (.sl i) ρ) = lkS ρ[i]? i ρ := by
  unfold sqK lockR lkS
  dsimp only
  generalize ρ[i]? = s
  cases s with
  | none => rfl
  | some s =>
    cases s with
    | no => rfl
    | val d => cases d <;> rfl
    | own xs k => cases k <;> rfl
theorem lkS_mine (xs : List D) (i : Nat) (ρ : Fm) : lkS (some (.own xs .mine)) i ρ = .ok (xs, [i]) (ρ.set i (.own xs .lockM)) := id rfl
theorem lkS_lent (xs : List D) (i : Nat) (ρ : Fm) : lkS (some (.own xs .lent)) i ρ = .ok (xs, [i]) (ρ.set i (.own xs .lockL)) := id rfl
theorem lkS_lockM (xs : List D) (i : Nat) (ρ : Fm) : lkS (some (.own xs .lockM)) i ρ = .ok (xs, []) ρ := id rfl
theorem lkS_lockL (xs : List D) (i : Nat) (ρ : Fm) : lkS (some (.own xs .lockL)) i ρ = .ok (xs, []) ρ := id rfl
def zipK (r r2 : RV) (ρ2 : Fm) : R Its := match lockR r ρ2 with
  | some p => (match lockR r2 p.2.1 with
    | some q => if kindR r ρ2 = kindR r2 ρ2 then .ok (zipD p.1 q.1, p.2.2 ++ q.2.2) q.2.1 else .no
    | none => .no)
  | none => .no
def k_z2 (r : RV) (o : R RV) : R Its := o.bind fun r2 ρ2 => zipK r r2 ρ2
def k_z1 (b : IE) (o : R RV) : R Its := o.bind fun r ρ1 => k_z2 r (evE C b ρ1)
theorem n_zip (a b : IE) (ρ : Fm) : evI C (.zip a b) ρ = k_z1 C b (evE C a ρ) := by
  rw [evI]
  rfl
theorem k_z1_ok (b : IE) (r : RV) (ρ : Fm) : k_z1 C b (.ok r ρ) = k_z2 r (evE C b ρ) := id rfl
theorem k_z2_ok (r r2 : RV) (ρ : Fm) : k_z2 r (.ok r2 ρ) = zipK r r2 ρ := id rfl
theorem zipK_ll (xs ys : List D) (ρ : Fm) : zipK (.val (.list xs)) (.val (.list ys)) ρ = .ok (zipD xs ys, []) ρ := id rfl
theorem zipK_tt (xs ys : List D) (ρ : Fm) : zipK (.val (.tuple xs)) (.val (.tuple ys)) ρ = .ok (zipD xs ys, []) ρ := id rfl
theorem zipK_tmp (xs ys : List D) (ρ : Fm) : zipK (.tmp xs) (.tmp ys) ρ = .ok (zipD xs ys, []) ρ := id rfl
theorem zipK_lt (xs ys : List D) (ρ : Fm) : zipK (.val (.list xs)) (.tmp ys) ρ = .ok (zipD xs ys, []) ρ := id rfl
theorem zipK_tl (xs ys : List D) (ρ : Fm) : zipK (.tmp xs) (.val (.list ys)) ρ = .ok (zipD xs ys, []) ρ := id rfl
def enK (r : RV) (ρ1 : Fm) : R Its := match lockR r ρ1 with
  | some p => .ok (enumD 0 p.1, p.2.2) p.2.1
  | none => .no
def k_en (o : R RV) : R Its := o.bind enK
theorem n_enum (a : IE) (ρ : Fm) : evI C (.enum a) ρ = k_en (evE C a ρ) := by
  rw [evI]
  rfl
theorem k_en_ok (r : RV) (ρ : Fm) : k_en (.ok r ρ) = enK r ρ := id rfl
theorem enK_l (xs : List D) (ρ : Fm) : enK (.val (.list xs)) ρ = .ok (enumD 0 xs, []) ρ := id rfl
theorem enK_tup (xs : List D) (ρ : Fm) : enK (.val (.tuple xs)) ρ = .ok (enumD 0 xs, []) ρ := id rfl
theorem enK_tmp (xs : List D) (ρ : Fm) : enK (.tmp xs) ρ = .ok (enumD 0 xs, []) ρ := id rfl
def rvK (r : RV) (ρ1 : Fm) : R Its := match lockR r ρ1 with
  | some p => .ok (p.1.reverse, p.2.2) p.2.1
  | none => .no
def k_rv (o : R RV) : R Its := o.bind rvK
theorem n_rev (a : IE) (ρ : Fm) : evI C (.rev a) ρ = k_rv (evE C a ρ) := by
  rw [evI]
  rfl
theorem k_rv_ok (r : RV) (ρ : Fm) : k_rv (.ok r ρ) = rvK r ρ := id rfl
theorem rvK_l (xs : List D) (ρ : Fm) : rvK (.val (.list xs)) ρ = .ok (xs.reverse, []) ρ := id rfl
theorem rvK_t (xs : List D) (ρ : Fm) : rvK (.val (.tuple xs)) ρ = .ok (xs.reverse, []) ρ := id rfl
theorem rvK_tmp (xs : List D) (ρ : Fm) : rvK (.tmp xs) ρ = .ok (xs.reverse, []) ρ := id rfl
/-! tests -/
def k_t1 (f : D → Option Bool) (r : R RV) : R Bool := r.bind fun r ρ => lift (pk1 f (peek r ρ)) ρ
theorem k_t1_ok (f : D → Option Bool) (r : RV) (ρ : Fm) : k_t1 f (.ok r ρ) = lift (pk1 f (peek r ρ)) ρ := id rfl
def k_tn (r : R Bool) : R Bool := r.bind fun b ρ => .ok (!b) ρ
theorem k_tn_ok (b : Bool) (ρ : Fm) : k_tn (.ok b ρ) = .ok (!b) ρ := id rfl
def k_t2 (f : D → D → Option Bool) (b : IE) (r : R RV) : R Bool := r.bind fun r1 ρ1 => (evE C b ρ1).bind fun r2 ρ2 => lift (pk2 f (peek r1 ρ2) (peek r2 ρ2)) ρ2
def k_t2b (f : D → D → Option Bool) (r1 : RV) (r : R RV) : R Bool := r.bind fun r2 ρ2 => lift (pk2 f (peek r1 ρ2) (peek r2 ρ2)) ρ2
theorem k_t2_ok (f : D → D → Option Bool) (b : IE) (r : RV) (ρ : Fm) : k_t2 C f b (.ok r ρ) = k_t2b f r (evE C b ρ) := id rfl
theorem k_t2b_ok (f : D → D → Option Bool) (r1 r : RV) (ρ : Fm) : k_t2b f r1 (.ok r ρ) = lift (pk2 f (peek r1 ρ) (peek r ρ)) ρ := id rfl
theorem m_cmp (o : COp) (a b : IE) (ρ : Fm) : evT C (.cmp o a b) ρ = k_t2 C (cmpD o) b (evE C a ρ) := id rfl
theorem m_not (a : IE) (ρ : Fm) : evT C (.not a) ρ = k_tn (evT C a ρ) := id rfl
theorem m_lit (d : D) (ρ : Fm) : evT C (.lit d) ρ = lift (truthD d) ρ := id rfl
theorem m_gint (x : Str) (i : Int) (ρ : Fm) : evT C (.gint x i) ρ = .ok (i != 0) ρ := id rfl
def rdT (s : Option Sl) (ρ : Fm) : R Bool := match s with
  | some (.val d) => lift (truthD d) ρ
  | some (.own xs _) => .ok (!xs.isEmpty) ρ
  | _ => .no
theorem m_var (i : Nat) (ρ : Fm) : evT C (.var i) ρ = rdT ρ[i]? ρ := id rfl
theorem rdT_val (d : D) (ρ : Fm) : rdT (some (.val d)) ρ = lift (truthD d) ρ := id rfl
theorem rdT_own (d : List D) (k : Kd) (ρ : Fm) : rdT (some (.own d k)) ρ = .ok (!d.isEmpty) ρ := id rfl
theorem m_isi (a : IE) (t : Ty) (ρ : Fm) : evT C (.isi a t) ρ = k_t1 (isiT t) (evE C a ρ) := id rfl
theorem m_call (f : Nat) (as : IEs) (ρ : Fm) : evT C (.call f as) ρ = k_t1 truthD (k_call C f (evA C as ρ)) := by
  rw [evT]
  unfold k_t1 k_call
  rw [R.bind_as]
  rfl
theorem m_b1 (f : B1) (a : IE) (ρ : Fm) : evT C (.b1 f a) ρ = k_t1 truthD (k_fin1 (b1D f) (evE C a ρ)) := by
  rw [evT]
  unfold k_t1 k_fin1
  rw [R.bind_as]
  rfl
def k_m2 (p : COp) (c : IE) (r2 : RV) (r : R Bool) : R Bool := r.bind fun t ρ3 => if t = true then k_t2b (cmpD p) r2 (evE C c ρ3) else .ok false ρ3
def k_m1 (o p : COp) (c : IE) (r1 : RV) (r : R RV) : R Bool := r.bind fun r2 ρ2 => k_m2 C p c r2 (lift (pk2 (cmpD o) (peek r1 ρ2) (peek r2 ρ2)) ρ2)
def k_m0 (o p : COp) (b c : IE) (r : R RV) : R Bool := r.bind fun r1 ρ1 => k_m1 C o p c r1 (evE C b ρ1)
theorem m_cmp2 (o p : COp) (a b c : IE) (ρ : Fm) : evT C (.cmp2 o p a b c) ρ = k_m0 C o p b c (evE C a ρ) := id rfl
theorem k_m0_ok (o p : COp) (b c : IE) (r : RV) (ρ : Fm) : k_m0 C o p b c (.ok r ρ) = k_m1 C o p c r (evE C b ρ) := id rfl
theorem k_m1_ok (o p : COp) (c : IE) (r1 r : RV) (ρ : Fm) : k_m1 C o p c r1 (.ok r ρ) = k_m2 C p c r (lift (pk2 (cmpD o) (peek r1 ρ) (peek r ρ)) ρ) := id rfl
theorem k_m2_t (p : COp) (c : IE) (r2 : RV) (ρ : Fm) : k_m2 C p c r2 (.ok true ρ) = k_t2b (cmpD p) r2 (evE C c ρ) := id rfl
theorem k_m2_f (p : COp) (c : IE) (r2 : RV) (ρ : Fm) : k_m2 C p c r2 (.ok false ρ) = .ok false ρ := id rfl
/-! and, or -/
def k_and2 (as : IEs) (r : R Bool) : R RV := r.bind fun t ρ => if t = true then evAnd C as ρ else .ok (.val (.bool false)) ρ
def k_or2 (as : IEs) (r : R Bool) : R RV := r.bind fun t ρ => if t = true then .ok (.val (.bool true)) ρ else evOr C as ρ
def k_and1 (as : IEs) (r : R RV) : R RV := r.bind fun r ρ => k_and2 C as (lift (pk1 asBool (peek r ρ)) ρ)
def k_or1 (as : IEs) (r : R RV) : R RV := r.bind fun r ρ => k_or2 C as (lift (pk1 asBool (peek r ρ)) ρ)
theorem n_and (as : IEs) (ρ : Fm) : evE C (.and as) ρ = evAnd C as ρ := id rfl
theorem n_or (as : IEs) (ρ : Fm) : evE C (.or as) ρ = evOr C as ρ := id rfl
theorem n_and1 (a : IE) (ρ : Fm) : evAnd C (.cons a .nil) ρ = evE C a ρ := by rw [evAnd]
theorem n_or1 (a : IE) (ρ : Fm) : evOr C (.cons a .nil) ρ = evE C a ρ := by rw [evOr]
theorem n_ands (a b : IE) (as : IEs) (ρ : Fm) : evAnd C (.cons a (.cons b as)) ρ = k_and1 C (.cons b as) (evE C a ρ) := by
  rw [evAnd]
  · unfold k_and1
    cases evE C a ρ with
    | ok r ρ1 =>
      simp only [rb_ok, k_and2, pk, pk1]
      cases (peek r ρ1).bind asBool <;> rfl
    | exc c ρ1 => rfl
    | no => rfl
  · intro h
    cases h
theorem n_ors (a b : IE) (as : IEs) (ρ : Fm) : evOr C (.cons a (.cons b as)) ρ = k_or1 C (.cons b as) (evE C a ρ) := by
  rw [evOr]
  · unfold k_or1
    cases evE C a ρ with
    | ok r ρ1 =>
      simp only [rb_ok, k_or2, pk, pk1]
      cases (peek r ρ1).bind asBool <;> rfl
    | exc c ρ1 => rfl
    | no => rfl
  · intro h
    cases h
theorem k_and1_ok (as : IEs) (r : RV) (ρ : Fm) : k_and1 C as (.ok r ρ) = k_and2 C as (lift (pk1 asBool (peek r ρ)) ρ) := id rfl
theorem k_or1_ok (as : IEs) (r : RV) (ρ : Fm) : k_or1 C as (.ok r ρ) = k_or2 C as (lift (pk1 asBool (peek r ρ)) ρ) := id rfl
theorem k_and2_t (as : IEs) (ρ : Fm) : k_and2 C as (.ok true ρ) = evAnd C as ρ := id rfl
theorem k_and2_f (as : IEs) (ρ : Fm) : k_and2 C as (.ok false ρ) = .ok (.val (.bool false)) ρ := id rfl
theorem k_or2_t (as : IEs) (ρ : Fm) : k_or2 C as (.ok true ρ) = .ok (.val (.bool true)) ρ := id rfl
theorem k_or2_f (as : IEs) (ρ : Fm) : k_or2 C as (.ok false ρ) = evOr C as ρ := id rfl
def k_tand (as : IEs) (r : R Bool) : R Bool := r.bind fun t ρ => if t = true then evTAnd C as ρ else .ok false ρ
def k_tor (as : IEs) (r : R Bool) : R Bool := r.bind fun t ρ => if t = true then .ok true ρ else evTOr C as ρ
theorem m_and (as : IEs) (ρ : Fm) : evT C (.and as) ρ = evTAnd C as ρ := id rfl
theorem m_or (as : IEs) (ρ : Fm) : evT C (.or as) ρ = evTOr C as ρ := id rfl
theorem m_and1 (a : IE) (ρ : Fm) : evTAnd C (.cons a .nil) ρ = evT C a ρ := by rw [evTAnd]
theorem m_or1 (a : IE) (ρ : Fm) : evTOr C (.cons a .nil) ρ = evT C a ρ := by rw [evTOr]
theorem m_ands (a b : IE) (as : IEs) (ρ : Fm) : evTAnd C (.cons a (.cons b as)) ρ = k_tand C (.cons b as) (evT C a ρ) := by
  rw [evTAnd]
  · rfl
  · intro h
    cases h
theorem m_ors (a b : IE) (as : IEs) (ρ : Fm) : evTOr C (.cons a (.cons b as)) ρ = k_tor C (.cons b as) (evT C a ρ) := by
  rw [evTOr]
  · rfl
  · intro h
    cases h
theorem k_tand_t (as : IEs) (ρ : Fm) : k_tand C as (.ok true ρ) = evTAnd C as ρ := id rfl
theorem k_tand_f (as : IEs) (ρ : Fm) : k_tand C as (.ok false ρ) = .ok false ρ := id rfl
theorem k_tor_t (as : IEs) (ρ : Fm) : k_tor C as (.ok true ρ) = .ok true ρ := id rfl
theorem k_tor_f (as : IEs) (ρ : Fm) : k_tor C as (.ok false ρ) = evTOr C as ρ := id rfl
/-! statements -/
def k_then (t : IS) (r : R Fl) : R Fl := r.bind fun fl ρ1 => match fl with
  | .nx => evS C t ρ1
  | fl => .ok fl ρ1
theorem s_skip' (ρ : Fm) : evS C .skip ρ = .ok .nx ρ := id rfl
theorem s_seq' (s t : IS) (ρ : Fm) : evS C (.seq s t) ρ = k_then C t (evS C s ρ) := id rfl
theorem k_then_nx (t : IS) (ρ : Fm) : k_then C t (.ok .nx ρ) = evS C t ρ := id rfl
theorem k_then_ret (t : IS) (v : RV) (ρ : Fm) : k_then C t (.ok (.ret v) ρ) = .ok (.ret v) ρ := id rfl
theorem k_then_brk (t : IS) (ρ : Fm) : k_then C t (.ok .brk ρ) = .ok .brk ρ := id rfl
theorem k_then_cnt (t : IS) (ρ : Fm) : k_then C t (.ok .cnt ρ) = .ok .cnt ρ := id rfl
def k_drop (r : R RV) : R Fl := r.bind fun _ ρ => .ok .nx ρ
theorem s_expr' (e : IE) (ρ : Fm) : evS C (.expr e) ρ = k_drop (evE C e ρ) := id rfl
theorem k_drop_ok (r : RV) (ρ : Fm) : k_drop (.ok r ρ) = .ok .nx ρ := id rfl
def nxO (o : Option Fm) : R Fl := match o with
  | some ρ => .ok .nx ρ
  | none => .no
theorem nxO_s (ρ : Fm) : nxO (some ρ) = .ok .nx ρ := id rfl
def k_asg (i : Nat) (r : R RV) : R Fl := r.bind fun r ρ1 => nxO (setR i r ρ1)
theorem s_asg' (i : Nat) (e : IE) (ρ : Fm) : evS C (.asg i e) ρ = k_asg i (evE C e ρ) := by
  rw [evS]
  unfold k_asg
  cases evE C e ρ with
  | ok r ρ1 =>
    rw [rb_ok, rb_ok]
    cases setR i r ρ1 <;> rfl
  | exc c ρ1 => rfl
  | no => rfl
theorem k_asg_ok (i : Nat) (r : RV) (ρ : Fm) : k_asg i (.ok r ρ) = nxO (setR i r ρ) := id rfl
def k_asgT2 (t : Tg) (r : R D) : R Fl := r.bind fun d ρ2 => nxO (asgT t d ρ2)
def k_asgT (t : Tg) (r : R RV) : R Fl := r.bind fun r ρ1 => k_asgT2 t (fzR r ρ1)
theorem s_asgT' (t : Tg) (e : IE) (ρ : Fm) : evS C (.asgT t e) ρ = k_asgT t (evE C e ρ) := by
  rw [evS]
  unfold k_asgT
  cases evE C e ρ with
  | ok r ρ1 =>
    rw [rb_ok, rb_ok]
    unfold k_asgT2
    cases fzR r ρ1 with
    | ok d ρ2 =>
      rw [rb_ok, rb_ok]
      cases asgT t d ρ2 <;> rfl
    | exc c ρ1 => rfl
    | no => rfl
  | exc c ρ1 => rfl
  | no => rfl
theorem k_asgT_ok (t : Tg) (r : RV) (ρ : Fm) : k_asgT t (.ok r ρ) = k_asgT2 t (fzR r ρ) := id rfl
theorem k_asgT2_ok (t : Tg) (d : D) (ρ : Fm) : k_asgT2 t (.ok d ρ) = nxO (asgT t d ρ) := id rfl
def k_par (is : List Nat) (r : R (List D)) : R Fl := r.bind fun ds ρ => nxO (setVs is ds ρ)
theorem k_par_ok (is : List Nat) (ds : List D) (ρ : Fm) : k_par is (.ok ds ρ) = nxO (setVs is ds ρ) := id rfl
theorem s_par2' (i j : Nat) (a b : IE) (ρ : Fm) : evS C (.par2 i j a b) ρ = k_par [i, j] (evD C (.cons a (.cons b .nil)) ρ) := by
  rw [evS]
  unfold k_par
  cases evD C (.cons a (.cons b .nil)) ρ with
  | ok r ρ1 =>
    rw [rb_ok, rb_ok]
    cases setVs [i, j] r ρ1 <;> rfl
  | exc c ρ1 => rfl
  | no => rfl
theorem s_par3' (i j l : Nat) (a b c : IE) (ρ : Fm) : evS C (.par3 i j l a b c) ρ = k_par [i, j, l] (evD C (.cons a (.cons b (.cons c .nil))) ρ) := by
  rw [evS]
  unfold k_par
  cases evD C (.cons a (.cons b (.cons c .nil))) ρ with
  | ok r ρ1 =>
    rw [rb_ok, rb_ok]
    cases setVs [i, j, l] r ρ1 <;> rfl
  | exc c ρ1 => rfl
  | no => rfl
theorem sv_nil (ρ : Fm) : setVs [] [] ρ = some ρ := id rfl
def svC (is : List Nat) (ds : List D) (o : Option Fm) : Option Fm := o.bind fun ρ => setVs is ds ρ
theorem sv_cons (i : Nat) (is : List Nat) (d : D) (ds : List D) (ρ : Fm) : setVs (i :: is) (d :: ds) ρ = svC is ds (setV i d ρ) := id rfl
theorem svC_s (is : List Nat) (ds : List D) (ρ : Fm) : svC is ds (some ρ) = setVs is ds ρ := id rfl
def sVf (b : Bool) (i : Nat) (d : D) (ρ : Fm) : Option Fm := match b with
  | true => some (ρ.set i (.val d))
  | false => none
theorem sv_eq (i : Nat) (d : D) (ρ : Fm) : setV i d ρ = sVf (free? ρ[i]?) i d ρ := by
  unfold setV sVf
  cases free? ρ[i]? <;> rfl
theorem sVf_t (i : Nat) (d : D) (ρ : Fm) : sVf true i d ρ = some (ρ.set i (.val d)) := id rfl
def sTf (b : Bool) (i : Nat) (d : List D) (ρ : Fm) : Option Fm := match b with
  | true => some (ρ.set i (.own d .mine))
  | false => none
theorem st_eq (i : Nat) (d : List D) (ρ : Fm) : setR i (.tmp d) ρ = sTf (free? ρ[i]?) i d ρ := by
  unfold setR sTf
  cases free? ρ[i]? <;> rfl
theorem sTf_t (i : Nat) (d : List D) (ρ : Fm) : sTf true i d ρ = some (ρ.set i (.own d .mine)) := id rfl
theorem ag_name (i : Nat) (d : D) (ρ : Fm) : asgT (.name i) d ρ = sVf (free? ρ[i]?) i d ρ := by
  rw [asgT, sv_eq]
theorem ag_tup (ts : Tgs) (ds : List D) (ρ : Fm) : asgT (.tup ts) (.tuple ds) ρ = asgTs ts ds ρ := id rfl
theorem ag_nil (ρ : Fm) : asgTs .nil [] ρ = some ρ := id rfl
def agC (ts : Tgs) (ds : List D) (o : Option Fm) : Option Fm := o.bind fun ρ => asgTs ts ds ρ
theorem ag_cons (t : Tg) (ts : Tgs) (d : D) (ds : List D) (ρ : Fm) : asgTs (.cons t ts) (d :: ds) ρ = agC ts ds (asgT t d ρ) := id rfl
theorem agC_s (ts : Tgs) (ds : List D) (ρ : Fm) : agC ts ds (some ρ) = asgTs ts ds ρ := id rfl
theorem tg_name (i : Nat) : Tg.slots (.name i) = [i] := id rfl
theorem tg_tup (ts : Tgs) : Tg.slots (.tup ts) = ts.slots := id rfl
theorem tg_nil : Tgs.slots .nil = [] := id rfl
theorem tg_cons (t : Tg) (ts : Tgs) : Tgs.slots (.cons t ts) = t.slots ++ ts.slots := id rfl
def k_sx3 (i : Nat) (d : D) (r : R RV) : R Fl := r.bind fun r2 ρ3 => (lift (pk1 asInt (peek r2 ρ3)) ρ3).bind fun j _ => setAt i j d ρ3
def k_sxS (i : Nat) (x : IE) (d : D) (ρ : Fm) (s : Option Sl) : R Fl := match s with
  | some (.own _ _) => k_sx3 i d (evE C x ρ)
  | _ => .no
def k_sx2 (i : Nat) (x : IE) (r : R D) : R Fl := r.bind fun d ρ2 => k_sxS C i x d ρ2 ρ2[i]?
def k_sx1 (i : Nat) (x : IE) (r : R RV) : R Fl := r.bind fun r ρ1 => k_sx2 C i x (fzR r ρ1)
theorem s_setix' (i : Nat) (x e : IE) (ρ : Fm) : evS C (.setix i x e) ρ = k_sx1 C i x (evE C e ρ) := by
  rw [evS]
  unfold k_sx1 k_sx2 k_sxS
  rfl
theorem k_sx1_ok (i : Nat) (x : IE) (r : RV) (ρ : Fm) : k_sx1 C i x (.ok r ρ) = k_sx2 C i x (fzR r ρ) := id rfl
theorem k_sx2_ok (i : Nat) (x : IE) (d : D) (ρ : Fm) : k_sx2 C i x (.ok d ρ) = k_sxS C i x d ρ ρ[i]? := id rfl
theorem k_sxS_own (i : Nat) (x : IE) (d : D) (ρ : Fm) (xs : List D) (k : Kd) : k_sxS C i x d ρ (some (.own xs k)) = k_sx3 i d (evE C x ρ) := id rfl
theorem k_sx3_ok (i : Nat) (d : D) (j : Int) (ρ : Fm) : k_sx3 i d (.ok (.val (.int j)) ρ) = setAt i j d ρ := id rfl
def saS (s : Option Sl) (i : Nat) (j : Int) (d : D) (ρ : Fm) : R Fl := match s with
  | some (.own xs k) => (match k.rw, L2.ixN xs.length j with
    | true, some n => .ok .nx (ρ.set i (.own (xs.set n d) k))
    | _, _ => .no)
  | _ => .no
theorem sa_eq (i : Nat) (j : Int) (d : D) (ρ : Fm) : setAt i j d ρ = saS ρ[i]? i j d ρ := by
  unfold setAt saS
  generalize ρ[i]? = s
  cases s with
  | none => rfl
  | some s =>
    cases s with
    | no => rfl
    | val d => rfl
    | own xs k =>
      dsimp only
      cases k.rw <;> cases L2.ixN xs.length j <;> rfl
theorem saS_mine (xs : List D) (i : Nat) (j : Int) (d : D) (ρ : Fm) (n : Nat) (h : L2.ixN xs.length j = some n) : saS (some (.own xs .mine)) i j d ρ = .ok .nx (ρ.set i (.own (xs.set n d) .mine)) := by
  simp [saS, h, Kd.rw]
theorem saS_lent (xs : List D) (i : Nat) (j : Int) (d : D) (ρ : Fm) (n : Nat) (h : L2.ixN xs.length j = some n) : saS (some (.own xs .lent)) i j d ρ = .ok .nx (ρ.set i (.own (xs.set n d) .lent)) := by
  simp [saS, h, Kd.rw]
def k_if (s t : IS) (r : R Bool) : R Fl := r.bind fun b ρ1 => if b = true then evS C s ρ1 else evS C t ρ1
theorem s_ite' (c : IE) (s t : IS) (ρ : Fm) : evS C (.ite c s t) ρ = k_if C s t (evT C c ρ) := id rfl
theorem k_if_t (s t : IS) (ρ : Fm) : k_if C s t (.ok true ρ) = evS C s ρ := id rfl
theorem k_if_f (s t : IS) (ρ : Fm) : k_if C s t (.ok false ρ) = evS C t ρ := id rfl
def k_turn (s : IS) (o : Option Fm) : R Fl := match o with
  | some ρ => evS C s ρ
  | none => .no
def turnF (t : Tg) (s : IS) (d : D) (ρ : Fm) : R Fl := k_turn C s (asgT t d ρ)
theorem turnF_e (t : Tg) (s : IS) (d : D) (ρ : Fm) : turnF C t s d ρ = k_turn C s (asgT t d ρ) := id rfl
theorem k_turn_s (s : IS) (ρ : Fm) : k_turn C s (some ρ) = evS C s ρ := id rfl
def k_for (t : Tg) (s : IS) (r : R Its) : R Fl := r.bind fun p ρ1 => unlockR p.2 (forL (turnF C t s) p.1 ρ1)
theorem s_for' (t : Tg) (it : II) (s : IS) (ρ : Fm) : evS C (.for_ t it s) ρ = k_for C t s (evI C it ρ) := by
  have h : (fun d ρ2 => (lift (asgT t d ρ2) ρ2).bind fun ρ3 _ => evS C s ρ3) = turnF C t s := by
    funext d ρ
    unfold turnF
    cases asgT t d ρ <;> rfl
  rw [evS, h]
  rfl
theorem k_for_ok (t : Tg) (s : IS) (ds : List D) (lk : List Nat) (ρ : Fm) : k_for C t s (.ok (ds, lk) ρ) = unlockR lk (forL (turnF C t s) ds ρ) := id rfl
theorem ul_nil {α : Type} (r : R α) : unlockR [] r = r := by cases r <;> rfl
theorem s_whl' (c : IE) (s : IS) (ρ : Fm) : evS C (.whl c s) ρ = whlN (evT C c) (evS C s) turnsMax ρ := id rfl
def k_ret (r : R RV) : R Fl := r.bind fun r ρ => .ok (.ret r) ρ
theorem s_ret' (e : IE) (ρ : Fm) : evS C (.ret e) ρ = k_ret (evE C e ρ) := id rfl
theorem k_ret_ok (r : RV) (ρ : Fm) : k_ret (.ok r ρ) = .ok (.ret r) ρ := id rfl
theorem s_retN' (ρ : Fm) : evS C .retN ρ = .ok (.ret (.val .none)) ρ := id rfl
theorem s_brk' (ρ : Fm) : evS C .brk ρ = .ok .brk ρ := id rfl
theorem s_cnt' (ρ : Fm) : evS C .cnt ρ = .ok .cnt ρ := id rfl
theorem wf_nil (ρ : Fm) : wipeF ρ [] = ρ := id rfl
theorem wf_cons (ρ : Fm) (v : Nat) (vs : List Nat) : wipeF ρ (v :: vs) = (wipeF ρ vs).set v .no := id rfl
theorem br_ok {α : Type} (ρ0 ρ : Fm) (own : List Nat) (a : α) : backR ρ0 own (.ok a ρ) = .ok a (backF ρ0 ρ own) := id rfl
def bkS (s : Option Sl) (ρ : Fm) (v : Nat) : Fm := match s with
  | some s => ρ.set v s
  | none => ρ
theorem bf_nil (ρ0 ρ : Fm) : backF ρ0 ρ [] = ρ := id rfl
theorem bf_cons (ρ0 ρ : Fm) (v : Nat) (vs : List Nat) : backF ρ0 ρ (v :: vs) = bkS ρ0[v]? (backF ρ0 ρ vs) v := id rfl
theorem bkS_s (s : Sl) (ρ : Fm) (v : Nat) : bkS (some s) ρ v = ρ.set v s := id rfl
theorem fm_none (l : List D) : l.filterMap (fun _ => (none : Option D)) = [] := by induction l <;> simp [*]
def foS (s : Option Sl) (xs : List D) : List D := match s with
  | some (.own ys _) => ys
  | _ => xs
theorem fo_own (ρ : Fm) (i : Nat) (xs : List D) (k : Kd) (r : List Arg) : finOf ρ i (.own xs k :: r) = foS ρ[i]? xs :: finOf ρ (i + 1) r := id rfl
theorem foS_own (xs ys : List D) (k : Kd) : foS (some (.own ys k)) xs = ys := id rfl
def pkS (s : Option Sl) : Option D := match s with
  | some (.val d) => some d
  | some (.own xs _) => some (.list xs)
  | _ => none
theorem pk_slot (i : Nat) (ρ : Fm) : peek (.sl i) ρ = pkS ρ[i]? := id rfl
theorem pkS_val (d : D) : pkS (some (.val d)) = some d := id rfl
theorem pkS_own (xs : List D) (k : Kd) : pkS (some (.own xs k)) = some (.list xs) := id rfl
theorem sa2_0 (x y : D) (i : Nat) (d : D) (ρ : Fm) : saS (some (.own [x, y] .lent)) i 0 d ρ = .ok .nx (ρ.set i (.own [d, y] .lent)) := id rfl
theorem sa2_1 (x y : D) (i : Nat) (d : D) (ρ : Fm) : saS (some (.own [x, y] .lent)) i 1 d ρ = .ok .nx (ρ.set i (.own [x, d] .lent)) := id rfl
theorem at_ok {xs : List D} {r : Int} (h0 : 0 ≤ r) (h1 : r < xs.length) : ∃ d, d ∈ xs ∧ L2.atI xs r = some d := by
  have h : r.toNat < xs.length := by omega
  refine ⟨xs[r.toNat], List.getElem_mem h, ?_⟩
  unfold L2.atI L2.ixN
  rw [if_pos h0, if_pos h1]
  exact List.getElem?_eq_getElem h
end
end Wk

namespace Wk37
open PySem PySem.Spec L2 Wk
/-- is_whole(value, low, high): slots 0 value, 1 low, 2 high -/
def b_is_whole : IS :=
 (.seq (.ret (.and (.cons (.isi (.var 0) .int) (.cons (.not (.isi (.var 0) .bool)) (.cons (.cmp2 .le .le (.var 1) (.var 0) (.var 2)) .nil)))))
 .skip)
/-- is_tuple_of(value, low, high): slots 0 value, 1 low, 2 high -/
def b_is_tuple_of : IS :=
 (.seq (.ret (.and (.cons (.isi (.var 0) .tuple) (.cons (.cmp2 .le .le (.var 1) (.b1 .len (.var 0)) (.var 2)) .nil))))
 .skip)
/-- is_ascending(values): slots 0 values, 1 one, 2 other -/
def b_is_ascending : IS :=
 (.seq (.ret (.b1 .all (.comp (.cmp .lt (.var 1) (.var 2)) (.tup (.cons (.name 1) (.cons (.name 2) .nil))) (.zip (.var 0) (.slo (.var 0) (.lit (.int 1)))))))
 .skip)
/-- is_ratio(value): slots 0 value -/
def b_is_ratio : IS :=
 (.seq (.ite (.or (.cons (.not (.call 1 (.cons (.var 0) (.cons (.lit (.int 2)) (.cons (.lit (.int 2)) .nil))))) (.cons (.not (.call 0 (.cons (.idx (.var 0) (.lit (.int 0))) (.cons (.neg (.gint "GREAT" 1000000000000000000000000000000000000000000000000000000000000)) (.cons (.gint "GREAT" 1000000000000000000000000000000000000000000000000000000000000) .nil))))) (.cons (.not (.call 0 (.cons (.idx (.var 0) (.lit (.int 1))) (.cons (.lit (.int 1)) (.cons (.gint "GREAT" 1000000000000000000000000000000000000000000000000000000000000) .nil))))) .nil))))
   (.seq (.ret (.lit (.bool false)))
   .skip)
   .skip)
 (.seq (.ret (.cmp .eq (.b2 .gcd (.idx (.var 0) (.lit (.int 0))) (.idx (.var 0) (.lit (.int 1)))) (.lit (.int 1))))
 .skip))
/-- cut(top, bottom): slots 0 top, 1 bottom, 2 shared -/
def b_cut : IS :=
 (.seq (.asg 2 (.b2 .gcd (.var 0) (.var 1)))
 (.seq (.ret (.ite (.cmp .lt (.var 1) (.lit (.int 0))) (.tup (.cons (.bin .fdiv (.neg (.var 0)) (.var 2)) (.cons (.bin .fdiv (.neg (.var 1)) (.var 2)) .nil))) (.tup (.cons (.bin .fdiv (.var 0) (.var 2)) (.cons (.bin .fdiv (.var 1) (.var 2)) .nil)))))
 .skip))
/-- side(one, other): slots 0 one, 1 other -/
def b_side : IS :=
 (.seq (.ret (.bin .sub (.bin .mul (.idx (.var 0) (.lit (.int 0))) (.idx (.var 1) (.lit (.int 1)))) (.bin .mul (.idx (.var 1) (.lit (.int 0))) (.idx (.var 0) (.lit (.int 1))))))
 .skip)
/-- fits_time(value): slots 0 value -/
def b_fits_time : IS :=
 (.seq (.ret (.and (.cons (.call 3 (.cons (.var 0) .nil)) (.cons (.cmp2 .le .le (.neg (.gint "TOP" 1000000000000)) (.idx (.var 0) (.lit (.int 0))) (.gint "TOP" 1000000000000)) (.cons (.cmp .le (.idx (.var 0) (.lit (.int 1))) (.gint "BOTTOM" 1000000)) .nil)))))
 .skip)
/-- need_time(value): slots 0 value -/
def b_need_time : IS :=
 (.seq (.ite (.not (.call 6 (.cons (.var 0) .nil)))
   (.seq .never
   .skip)
   .skip)
 .skip)
/-- need_rates(value): slots 0 value, 1 rate -/
def b_need_rates : IS :=
 (.seq (.ite (.or (.cons (.not (.call 1 (.cons (.var 0) (.cons (.lit (.int 1)) (.cons (.gint "MANY" 5) .nil))))) (.cons (.not (.b1 .all (.comp (.call 0 (.cons (.var 1) (.cons (.lit (.int 1)) (.cons (.gint "RATE" 60) .nil)))) (.name 1) (.seq (.var 0))))) .nil)))
   (.seq .never
   .skip)
   .skip)
 (.seq (.ite (.not (.call 2 (.cons (.var 0) .nil)))
   (.seq .never
   .skip)
   .skip)
 .skip))
/-- clear_at(rates, time): slots 0 rates, 1 time, 2 rests, 3 rate, 4 rest -/
def b_clear_at : IS :=
 (.seq (.asg 2 (.comp (.bin .mod (.bin .mul (.var 3) (.idx (.var 1) (.lit (.int 0)))) (.idx (.var 1) (.lit (.int 1)))) (.name 3) (.seq (.var 0))))
 (.seq (.ret (.call 4 (.cons (.b1 .min (.comp (.b2 .min (.var 4) (.bin .sub (.idx (.var 1) (.lit (.int 1))) (.var 4))) (.name 4) (.seq (.var 2)))) (.cons (.idx (.var 1) (.lit (.int 1))) .nil))))
 .skip))
/-- greatest_in(rates): slots 0 rates, 1 best, 2 at, 3 rate, 4 other, 5 top, 6 time, 7 own -/
def b_greatest_in : IS :=
 (.seq (.asg 1 (.tup (.cons (.tup (.cons (.lit (.int 0)) (.cons (.lit (.int 1)) .nil))) (.cons (.tup (.cons (.lit (.int 0)) (.cons (.lit (.int 1)) .nil))) .nil))))
 (.seq (.for_ (.tup (.cons (.name 2) (.cons (.name 3) .nil))) (.enum (.var 0))
   (.seq (.for_ (.name 4) (.seq (.slo (.var 0) (.var 2)))
     (.seq (.for_ (.name 5) (.rng2 (.lit (.int 1)) (.bin .add (.var 3) (.var 4)))
       (.seq (.asg 6 (.call 4 (.cons (.var 5) (.cons (.bin .add (.var 3) (.var 4)) .nil))))
       (.seq (.asg 7 (.call 9 (.cons (.var 0) (.cons (.var 6) .nil))))
       (.seq (.ite (.or (.cons (.cmp .gt (.call 5 (.cons (.var 7) (.cons (.idx (.var 1) (.lit (.int 0))) .nil))) (.lit (.int 0))) (.cons (.and (.cons (.cmp .eq (.var 7) (.idx (.var 1) (.lit (.int 0)))) (.cons (.cmp .lt (.call 5 (.cons (.var 6) (.cons (.idx (.var 1) (.lit (.int 1))) .nil))) (.lit (.int 0))) .nil))) .nil)))
         (.seq (.asg 1 (.tup (.cons (.var 7) (.cons (.var 6) .nil))))
         .skip)
         .skip)
       .skip))))
     .skip))
   .skip))
 (.seq (.ret (.var 1))
 .skip)))
/-- clearance(rates, time): slots 0 rates, 1 time -/
def b_clearance : IS :=
 (.seq (.expr (.call 8 (.cons (.var 0) .nil)))
 (.seq (.expr (.call 7 (.cons (.var 1) .nil)))
 (.seq (.ret (.call 9 (.cons (.var 0) (.cons (.var 1) .nil))))
 .skip)))
/-- greatest_clearance(rates): slots 0 rates -/
def b_greatest_clearance : IS :=
 (.seq (.expr (.call 8 (.cons (.var 0) .nil)))
 (.seq (.ret (.idx (.call 10 (.cons (.var 0) .nil)) (.lit (.int 0))))
 .skip))
/-- first_clear_time(rates): slots 0 rates -/
def b_first_clear_time : IS :=
 (.seq (.expr (.call 8 (.cons (.var 0) .nil)))
 (.seq (.ret (.idx (.call 10 (.cons (.var 0) .nil)) (.lit (.int 1))))
 .skip))
/-- is_reached(rates, time): slots 0 rates, 1 time -/
def b_is_reached : IS :=
 (.seq (.expr (.call 8 (.cons (.var 0) .nil)))
 (.seq (.expr (.call 7 (.cons (.var 1) .nil)))
 (.seq (.ret (.cmp .eq (.call 9 (.cons (.var 0) (.cons (.var 1) .nil))) (.idx (.call 10 (.cons (.var 0) .nil)) (.lit (.int 0)))))
 .skip)))
/-- _law_cup(script): slots 0 script, 1 cell -/
def b__law_cup : IS :=
 (.seq (.asg 1 (.b1 .abs (.idx (.bin .add (.b1 .list (.var 0)) (.lst (.cons (.lit (.int 0)) .nil))) (.lit (.int 0)))))
 (.seq (.ret (.lst (.cons (.ite (.cmp .ge (.var 1) (.bin .pow (.lit (.int 10)) (.lit (.int 18)))) (.bin .fdiv (.var 1) (.lit (.int 127))) (.lit (.int 0))) (.cons (.bin .add (.bin .mod (.b1 .int (.bin .add (.bin .mul (.var 1) (.lit (.int 373))) (.lit (.int 5407)))) (.lit (.int 1974129427))) (.lit (.int 229))) .nil))))
 .skip))
/-- _law_roll(cup, many): slots 0 cup, 1 many, 2 deep, 3 found -/
def b__law_roll : IS :=
 (.seq (.ite (.cmp .gt (.idx (.var 0) (.lit (.int 0))) (.lit (.int 0)))
   (.seq (.asg 3 (.bin .mod (.b1 .int (.idx (.var 0) (.lit (.int 0)))) (.var 1)))
   (.seq (.setix 0 (.lit (.int 0)) (.bin .fdiv (.idx (.var 0) (.lit (.int 0))) (.var 1)))
   (.seq (.ret (.var 3))
   .skip)))
   .skip)
 (.seq (.setix 0 (.lit (.int 1)) (.bin .mod (.b1 .int (.bin .add (.bin .mul (.idx (.var 0) (.lit (.int 1))) (.lit (.int 29917))) (.lit (.int 9103)))) (.lit (.int 2147483543))))
 (.seq (.asg 2 (.bin .mod (.b1 .int (.bin .mul (.idx (.var 0) (.lit (.int 1))) (.bin .add (.idx (.var 0) (.lit (.int 1))) (.lit (.int 307))))) (.lit (.int 2147483587))))
 (.seq (.ret (.bin .mod (.b1 .int (.bin .fdiv (.var 2) (.lit (.int 887)))) (.var 1)))
 .skip))))
/-- _law_sort(value): slots 0 value -/
def b__law_sort : IS :=
 (.seq (.ite (.or (.cons (.cmp .isN (.var 0) (.lit .none)) (.cons (.isi (.var 0) .bool) .nil)))
   (.seq (.ret (.ite (.cmp .isN (.var 0) (.lit .none)) (.lit (.int 0)) (.lit (.int 1))))
   .skip)
   .skip)
 (.seq (.ite (.or (.cons (.isi (.var 0) .int) (.cons (.isi (.var 0) .str) .nil)))
   (.seq (.ret (.ite (.isi (.var 0) .int) (.lit (.int 2)) (.lit (.int 3))))
   .skip)
   .skip)
 (.seq (.ret (.ite (.isi (.var 0) .tuple) (.lit (.int 4)) (.ite (.isi (.var 0) .list) (.lit (.int 5)) (.lit (.int 6)))))
 .skip)))
/-- _law_like(one, other): slots 0 one, 1 other, 2 sort, 3 first, 4 second -/
def b__law_like : IS :=
 (.seq (.asg 2 (.call 17 (.cons (.var 1) .nil)))
 (.seq (.ite (.or (.cons (.cmp .ne (.call 17 (.cons (.var 0) .nil)) (.var 2)) (.cons (.cmp .eq (.var 2) (.lit (.int 6))) .nil)))
   (.seq (.ret (.lit (.bool false)))
   .skip)
   .skip)
 (.seq (.ite (.cmp .in_ (.var 2) (.tup (.cons (.lit (.int 4)) (.cons (.lit (.int 5)) .nil))))
   (.seq (.ret (.and (.cons (.cmp .eq (.b1 .len (.var 0)) (.b1 .len (.var 1))) (.cons (.cmp .eq (.compIf (.lit (.int 1)) (.tup (.cons (.name 3) (.cons (.name 4) .nil))) (.zip (.var 0) (.var 1)) (.not (.call 18 (.cons (.var 3) (.cons (.var 4) .nil))))) (.lst .nil)) .nil))))
   .skip)
   .skip)
 (.seq (.ret (.cmp .eq (.var 0) (.var 1)))
 .skip))))
/-- _law_gcd(one, other): slots 0 one, 1 other, 2 turn -/
def b__law_gcd : IS :=
 (.seq (.for_ (.name 2) (.rng1 (.lit (.int 1200)))
   (.seq (.ite (.cmp .eq (.var 1) (.lit (.int 0)))
     (.seq (.ret (.b2 .max (.var 0) (.neg (.var 0))))
     .skip)
     .skip)
   (.seq (.par2 0 1 (.var 1) (.bin .mod (.b1 .int (.var 0)) (.var 1)))
   .skip)))
 (.seq (.ret (.var 0))
 .skip))
/-- _law_ratio(top, bottom): slots 0 top, 1 bottom, 2 shared -/
def b__law_ratio : IS :=
 (.seq (.asg 2 (.bin .mul (.call 19 (.cons (.var 0) (.cons (.var 1) .nil))) (.ite (.cmp .gt (.var 1) (.lit (.int 0))) (.lit (.int 1)) (.neg (.lit (.int 1))))))
 (.seq (.ret (.tup (.cons (.bin .fdiv (.var 0) (.var 2)) (.cons (.bin .fdiv (.var 1) (.var 2)) .nil))))
 .skip))
/-- _law_plus(one, other): slots 0 one, 1 other -/
def b__law_plus : IS :=
 (.seq (.ret (.call 20 (.cons (.bin .add (.bin .mul (.idx (.var 0) (.lit (.int 0))) (.idx (.var 1) (.lit (.int 1)))) (.bin .mul (.idx (.var 1) (.lit (.int 0))) (.idx (.var 0) (.lit (.int 1))))) (.cons (.bin .mul (.idx (.var 0) (.lit (.int 1))) (.idx (.var 1) (.lit (.int 1)))) .nil))))
 .skip)
/-- _law_time(cup, wide, most): slots 0 cup, 1 wide, 2 most, 3 bottom -/
def b__law_time : IS :=
 (.seq (.asg 3 (.bin .add (.lit (.int 1)) (.call 16 (.cons (.var 0) (.cons (.var 2) .nil)))))
 (.seq (.ret (.call 20 (.cons (.bin .sub (.call 16 (.cons (.var 0) (.cons (.bin .add (.bin .mul (.bin .mul (.lit (.int 2)) (.var 1)) (.var 3)) (.lit (.int 1))) .nil))) (.bin .mul (.var 1) (.var 3))) (.cons (.var 3) .nil))))
 .skip))
/-- _law_clear(rates, time): slots 0 rates, 1 time, 2 found, 3 rate, 4 rest, 5 own -/
def b__law_clear : IS :=
 (.seq (.asg 2 (.lit .none))
 (.seq (.for_ (.name 3) (.seq (.var 0))
   (.seq (.asg 4 (.bin .mod (.b1 .int (.bin .mul (.var 3) (.idx (.var 1) (.lit (.int 0))))) (.idx (.var 1) (.lit (.int 1)))))
   (.seq (.asg 5 (.b2 .min (.var 4) (.bin .sub (.idx (.var 1) (.lit (.int 1))) (.var 4))))
   (.seq (.asg 2 (.ite (.or (.cons (.cmp .isN (.var 2) (.lit .none)) (.cons (.cmp .lt (.var 5) (.var 2)) .nil))) (.var 5) (.var 2)))
   .skip))))
 (.seq (.ret (.call 20 (.cons (.var 2) (.cons (.idx (.var 1) (.lit (.int 1))) .nil))))
 .skip)))
/-- _law_less(one, other): slots 0 one, 1 other -/
def b__law_less : IS :=
 (.seq (.ret (.cmp .lt (.bin .mul (.idx (.var 0) (.lit (.int 0))) (.idx (.var 1) (.lit (.int 1)))) (.bin .mul (.idx (.var 1) (.lit (.int 0))) (.idx (.var 0) (.lit (.int 1))))))
 .skip)
/-- _law_best(rates): slots 0 rates, 1 bottom, 2 best, 3 first, 4 top, 5 time, 6 own -/
def b__law_best : IS :=
 (.seq (.asgT (.tup (.cons (.name 2) (.cons (.name 3) .nil))) (.tup (.cons (.tup (.cons (.lit (.int 0)) (.cons (.lit (.int 1)) .nil))) (.cons (.tup (.cons (.lit (.int 0)) (.cons (.lit (.int 1)) .nil))) .nil))))
 (.seq (.for_ (.name 1) (.rng2 (.lit (.int 1)) (.bin .add (.bin .mul (.lit (.int 2)) (.idx (.var 0) (.neg (.lit (.int 1))))) (.lit (.int 1))))
   (.seq (.for_ (.name 4) (.rng1 (.var 1))
     (.seq (.asg 5 (.call 20 (.cons (.var 4) (.cons (.var 1) .nil))))
     (.seq (.asg 6 (.call 23 (.cons (.var 0) (.cons (.var 5) .nil))))
     (.seq (.ite (.or (.cons (.call 24 (.cons (.var 2) (.cons (.var 6) .nil))) (.cons (.and (.cons (.cmp .eq (.var 6) (.var 2)) (.cons (.call 24 (.cons (.var 5) (.cons (.var 3) .nil))) .nil))) .nil)))
       (.seq (.par2 2 3 (.var 6) (.var 5))
       .skip)
       .skip)
     .skip))))
   .skip))
 (.seq (.ret (.tup (.cons (.var 2) (.cons (.var 3) .nil))))
 .skip)))
/-- _law_right(cup, rates): slots 0 cup, 1 rates, 2 told, 3 turned, 4 best, 5 first, 6 time, 7 fine -/
def b__law_right : IS :=
 (.seq (.asgT (.tup (.cons (.name 4) (.cons (.name 5) .nil))) (.call 25 (.cons (.var 1) .nil)))
 (.seq (.par2 6 7 (.call 22 (.cons (.var 0) (.cons (.lit (.int 3)) (.cons (.lit (.int 40)) .nil)))) (.call 22 (.cons (.var 0) (.cons (.lit (.int 1)) (.cons (.bin .pow (.lit (.int 10)) (.lit (.int 6))) .nil)))))
 (.seq (.asg 2 (.lst (.cons (.call 12 (.cons (.var 1) .nil)) (.cons (.call 13 (.cons (.var 1) .nil)) (.cons (.call 11 (.cons (.var 1) (.cons (.var 6) .nil))) (.cons (.call 11 (.cons (.var 1) (.cons (.var 7) .nil))) (.cons (.call 14 (.cons (.var 1) (.cons (.var 5) .nil))) (.cons (.call 14 (.cons (.var 1) (.cons (.var 6) .nil))) (.cons (.call 11 (.cons (.var 1) (.cons (.var 5) .nil))) .nil)))))))))
 (.seq (.ite (.not (.call 18 (.cons (.var 2) (.cons (.lst (.cons (.var 4) (.cons (.var 5) (.cons (.call 23 (.cons (.var 1) (.cons (.var 6) .nil))) (.cons (.call 23 (.cons (.var 1) (.cons (.var 7) .nil))) (.cons (.lit (.bool true)) (.cons (.cmp .eq (.call 23 (.cons (.var 1) (.cons (.var 6) .nil))) (.var 4)) (.cons (.var 4) .nil)))))))) .nil))))
   (.seq (.ret (.lit (.bool false)))
   .skip)
   .skip)
 (.seq (.asg 3 (.call 20 (.cons (.bin .sub (.idx (.var 5) (.lit (.int 1))) (.idx (.var 5) (.lit (.int 0)))) (.cons (.idx (.var 5) (.lit (.int 1))) .nil))))
 (.seq (.ite (.or (.cons (.call 24 (.cons (.var 4) (.cons (.call 23 (.cons (.var 1) (.cons (.var 7) .nil))) .nil))) (.cons (.not (.call 18 (.cons (.lst (.cons (.call 14 (.cons (.var 1) (.cons (.var 3) .nil))) (.cons (.call 14 (.cons (.var 1) (.cons (.call 21 (.cons (.var 5) (.cons (.tup (.cons (.lit (.int 5)) (.cons (.lit (.int 1)) .nil))) .nil))) .nil))) .nil))) (.cons (.lst (.cons (.lit (.bool true)) (.cons (.lit (.bool true)) .nil))) .nil)))) .nil)))
   (.seq (.ret (.lit (.bool false)))
   .skip)
   .skip)
 (.seq (.ret (.or (.cons (.cmp .eq (.var 5) (.tup (.cons (.lit (.int 0)) (.cons (.lit (.int 1)) .nil)))) (.cons (.cmp .isN (.call 14 (.cons (.var 1) (.cons (.call 21 (.cons (.var 5) (.cons (.tup (.cons (.neg (.lit (.int 1))) (.cons (.bin .mul (.bin .mul (.lit (.int 8)) (.idx (.var 5) (.lit (.int 1)))) (.idx (.var 1) (.neg (.lit (.int 1))))) .nil))) .nil))) .nil))) (.lit (.bool false))) .nil))))
 .skip)))))))
/-- _law_great_right(cup): slots 0 cup, 1 odd, 2 told, 3 rate, 4 k, 5 times, 6 row, 7 more, 8 at -/
def b__law_great_right : IS :=
 (.seq (.asgT (.tup (.cons (.name 4) (.cons (.name 5) .nil))) (.tup (.cons (.bin .add (.lit (.int 1)) (.call 16 (.cons (.var 0) (.cons (.lit (.int 5)) .nil)))) (.cons (.bin .add (.lit (.int 1)) (.call 16 (.cons (.var 0) (.cons (.lit (.int 12)) .nil)))) .nil))))
 (.seq (.par2 6 7 (.trng (.rng2 (.lit (.int 1)) (.bin .add (.var 4) (.lit (.int 1))))) (.b1 .tuple (.comp (.bin .mul (.var 5) (.var 3)) (.name 3) (.rng2 (.lit (.int 1)) (.bin .add (.var 4) (.lit (.int 1)))))))
 (.seq (.asg 1 (.b1 .tuple (.comp (.bin .add (.bin .mul (.lit (.int 2)) (.var 8)) (.lit (.int 1))) (.name 8) (.rng1 (.var 4)))))
 (.seq (.asg 2 (.lst (.cons (.call 12 (.cons (.var 6) .nil)) (.cons (.call 13 (.cons (.var 6) .nil)) (.cons (.call 12 (.cons (.var 7) .nil)) (.cons (.call 13 (.cons (.var 7) .nil)) (.cons (.call 12 (.cons (.var 1) .nil)) (.cons (.call 13 (.cons (.var 1) .nil)) (.cons (.call 14 (.cons (.var 1) (.cons (.tup (.cons (.lit (.int 1)) (.cons (.lit (.int 2)) .nil))) .nil))) .nil)))))))))
 (.seq (.ite (.not (.call 18 (.cons (.var 2) (.cons (.lst (.cons (.tup (.cons (.lit (.int 1)) (.cons (.bin .add (.var 4) (.lit (.int 1))) .nil))) (.cons (.tup (.cons (.lit (.int 1)) (.cons (.bin .add (.var 4) (.lit (.int 1))) .nil))) (.cons (.tup (.cons (.lit (.int 1)) (.cons (.bin .add (.var 4) (.lit (.int 1))) .nil))) (.cons (.call 20 (.cons (.lit (.int 1)) (.cons (.bin .mul (.var 5) (.bin .add (.var 4) (.lit (.int 1)))) .nil))) (.cons (.tup (.cons (.lit (.int 1)) (.cons (.lit (.int 2)) .nil))) (.cons (.tup (.cons (.lit (.int 1)) (.cons (.lit (.int 2)) .nil))) (.cons (.lit (.bool true)) .nil)))))))) .nil))))
   (.seq (.ret (.lit (.bool false)))
   .skip)
   .skip)
 (.seq (.asg 3 (.bin .add (.lit (.int 1)) (.call 16 (.cons (.var 0) (.cons (.lit (.int 60)) .nil)))))
 (.seq (.asg 2 (.lst (.cons (.call 12 (.cons (.tup (.cons (.var 3) .nil)) .nil)) (.cons (.call 13 (.cons (.tup (.cons (.var 3) .nil)) .nil)) (.cons (.call 11 (.cons (.tup (.cons (.var 3) .nil)) (.cons (.call 20 (.cons (.lit (.int 1)) (.cons (.var 3) .nil))) .nil))) (.cons (.call 12 (.cons (.tup (.cons (.lit (.int 1)) (.cons (.lit (.int 60)) .nil))) .nil)) (.cons (.call 14 (.cons (.tup (.cons (.lit (.int 1)) (.cons (.lit (.int 60)) .nil))) (.cons (.tup (.cons (.lit (.int 30)) (.cons (.lit (.int 61)) .nil))) .nil))) .nil)))))))
 (.seq (.ret (.call 18 (.cons (.var 2) (.cons (.lst (.cons (.tup (.cons (.lit (.int 1)) (.cons (.lit (.int 2)) .nil))) (.cons (.call 20 (.cons (.lit (.int 1)) (.cons (.bin .mul (.lit (.int 2)) (.var 3)) .nil))) (.cons (.tup (.cons (.lit (.int 0)) (.cons (.lit (.int 1)) .nil))) (.cons (.tup (.cons (.lit (.int 30)) (.cons (.lit (.int 61)) .nil))) (.cons (.lit (.bool true)) .nil)))))) .nil))))
 .skip))))))))
/-- _law_written_right(): slots 0 told -/
def b__law_written_right : IS :=
 (.seq (.asg 0 (.lst (.cons (.call 11 (.cons (.tup (.cons (.lit (.int 1)) (.cons (.lit (.int 2)) .nil))) (.cons (.tup (.cons (.lit (.int 1)) (.cons (.lit (.int 4)) .nil))) .nil))) (.cons (.call 12 (.cons (.tup (.cons (.lit (.int 1)) (.cons (.lit (.int 2)) .nil))) .nil)) (.cons (.call 13 (.cons (.tup (.cons (.lit (.int 1)) (.cons (.lit (.int 2)) .nil))) .nil)) (.cons (.call 12 (.cons (.tup (.cons (.lit (.int 1)) .nil)) .nil)) (.cons (.call 12 (.cons (.tup (.cons (.lit (.int 1)) (.cons (.lit (.int 2)) (.cons (.lit (.int 3)) .nil)))) .nil)) (.cons (.call 13 (.cons (.tup (.cons (.lit (.int 1)) (.cons (.lit (.int 2)) (.cons (.lit (.int 3)) .nil)))) .nil)) (.cons (.call 14 (.cons (.tup (.cons (.lit (.int 1)) (.cons (.lit (.int 2)) .nil))) (.cons (.tup (.cons (.neg (.lit (.int 1))) (.cons (.lit (.int 3)) .nil))) .nil))) (.cons (.call 12 (.cons (.tup (.cons (.lit (.int 2)) (.cons (.lit (.int 4)) .nil))) .nil)) .nil))))))))))
 (.seq (.asg 0 (.bin .add (.var 0) (.lst (.cons (.call 13 (.cons (.tup (.cons (.lit (.int 2)) (.cons (.lit (.int 4)) .nil))) .nil)) (.cons (.call 11 (.cons (.tup (.cons (.lit (.int 1)) (.cons (.lit (.int 2)) .nil))) (.cons (.tup (.cons (.lit (.int 0)) (.cons (.lit (.int 1)) .nil))) .nil))) (.cons (.call 12 (.cons (.tup (.cons (.lit (.int 1)) (.cons (.lit (.int 3)) .nil))) .nil)) (.cons (.call 14 (.cons (.tup (.cons (.lit (.int 1)) (.cons (.lit (.int 2)) .nil))) (.cons (.tup (.cons (.lit (.int 2)) (.cons (.lit (.int 3)) .nil))) .nil))) (.cons (.call 14 (.cons (.tup (.cons (.lit (.int 1)) (.cons (.lit (.int 2)) .nil))) (.cons (.tup (.cons (.lit (.int 4)) (.cons (.lit (.int 3)) .nil))) .nil))) (.cons (.call 11 (.cons (.tup (.cons (.lit (.int 7)) (.cons (.lit (.int 9)) .nil))) (.cons (.tup (.cons (.neg (.lit (.int 5))) (.cons (.lit (.int 2)) .nil))) .nil))) .nil)))))))))
 (.seq (.asg 0 (.bin .add (.var 0) (.lst (.cons (.call 12 (.cons (.tup (.cons (.lit (.int 1)) (.cons (.lit (.int 3)) (.cons (.lit (.int 4)) (.cons (.lit (.int 7)) .nil))))) .nil)) (.cons (.call 11 (.cons (.tup (.cons (.lit (.int 60)) .nil)) (.cons (.tup (.cons (.bin .pow (.lit (.int 10)) (.lit (.int 12))) (.cons (.lit (.int 7)) .nil))) .nil))) .nil)))))
 (.seq (.ret (.call 18 (.cons (.var 0) (.cons (.lst (.cons (.tup (.cons (.lit (.int 1)) (.cons (.lit (.int 4)) .nil))) (.cons (.tup (.cons (.lit (.int 1)) (.cons (.lit (.int 3)) .nil))) (.cons (.tup (.cons (.lit (.int 1)) (.cons (.lit (.int 3)) .nil))) (.cons (.tup (.cons (.lit (.int 1)) (.cons (.lit (.int 2)) .nil))) (.cons (.tup (.cons (.lit (.int 1)) (.cons (.lit (.int 4)) .nil))) (.cons (.tup (.cons (.lit (.int 1)) (.cons (.lit (.int 4)) .nil))) (.cons (.lit (.bool true)) (.cons (.tup (.cons (.lit (.int 1)) (.cons (.lit (.int 3)) .nil))) (.cons (.tup (.cons (.lit (.int 1)) (.cons (.lit (.int 6)) .nil))) (.cons (.tup (.cons (.lit (.int 0)) (.cons (.lit (.int 1)) .nil))) (.cons (.tup (.cons (.lit (.int 1)) (.cons (.lit (.int 2)) .nil))) (.cons (.lit (.bool true)) (.cons (.lit (.bool true)) (.cons (.tup (.cons (.lit (.int 1)) (.cons (.lit (.int 2)) .nil))) (.cons (.tup (.cons (.lit (.int 1)) (.cons (.lit (.int 5)) .nil))) (.cons (.call 23 (.cons (.tup (.cons (.lit (.int 60)) .nil)) (.cons (.tup (.cons (.bin .pow (.lit (.int 10)) (.lit (.int 12))) (.cons (.lit (.int 7)) .nil))) .nil))) .nil))))))))))))))))) .nil))))
 .skip))))
/-- law(script): slots 0 script, 1 cup, 2 turn, 3 rates, 4 more -/
def b_law : IS :=
 (.seq (.asg 1 (.call 15 (.cons (.var 0) .nil)))
 (.seq (.for_ (.name 2) (.rng1 (.lit (.int 3)))
   (.seq (.asg 3 (.b1 .tuple (.sset (.comp (.bin .add (.lit (.int 1)) (.call 16 (.cons (.var 1) (.cons (.lit (.int 12)) .nil)))) (.name 4) (.rng1 (.bin .add (.lit (.int 1)) (.call 16 (.cons (.var 1) (.cons (.lit (.int 5)) .nil)))))))))
   (.seq (.ite (.not (.call 26 (.cons (.var 1) (.cons (.var 3) .nil))))
     (.seq (.ret (.lit (.bool false)))
     .skip)
     .skip)
   .skip)))
 (.seq (.ret (.and (.cons (.call 27 (.cons (.var 1) .nil)) (.cons (.call 28 .nil) .nil))))
 .skip)))
def fs : List Fn := [⟨3, 3, b_is_whole⟩,
  ⟨3, 3, b_is_tuple_of⟩,
  ⟨3, 1, b_is_ascending⟩,
  ⟨1, 1, b_is_ratio⟩,
  ⟨3, 2, b_cut⟩,
  ⟨2, 2, b_side⟩,
  ⟨1, 1, b_fits_time⟩,
  ⟨1, 1, b_need_time⟩,
  ⟨2, 1, b_need_rates⟩,
  ⟨5, 2, b_clear_at⟩,
  ⟨8, 1, b_greatest_in⟩,
  ⟨2, 2, b_clearance⟩,
  ⟨1, 1, b_greatest_clearance⟩,
  ⟨1, 1, b_first_clear_time⟩,
  ⟨2, 2, b_is_reached⟩,
  ⟨2, 1, b__law_cup⟩,
  ⟨4, 2, b__law_roll⟩,
  ⟨1, 1, b__law_sort⟩,
  ⟨5, 2, b__law_like⟩,
  ⟨3, 2, b__law_gcd⟩,
  ⟨3, 2, b__law_ratio⟩,
  ⟨2, 2, b__law_plus⟩,
  ⟨4, 3, b__law_time⟩,
  ⟨6, 2, b__law_clear⟩,
  ⟨2, 2, b__law_less⟩,
  ⟨7, 1, b__law_best⟩,
  ⟨8, 2, b__law_right⟩,
  ⟨9, 1, b__law_great_right⟩,
  ⟨1, 0, b__law_written_right⟩,
  ⟨5, 1, b_law⟩]
theorem u_is_whole (n : Nat) (a0 a1 a2 : Wk.Arg) : evC fs (n + 1) 0 [a0, a1, a2] = endOf [a0, a1, a2] (evS (evC fs n) b_is_whole [slOf a0, slOf a1, slOf a2]) := Wk.evC_at (fn := ⟨3, 3, b_is_whole⟩) (id rfl) (id rfl)
theorem u_is_tuple_of (n : Nat) (a0 a1 a2 : Wk.Arg) : evC fs (n + 1) 1 [a0, a1, a2] = endOf [a0, a1, a2] (evS (evC fs n) b_is_tuple_of [slOf a0, slOf a1, slOf a2]) := Wk.evC_at (fn := ⟨3, 3, b_is_tuple_of⟩) (id rfl) (id rfl)
theorem u_is_ascending (n : Nat) (a0 : Wk.Arg) : evC fs (n + 1) 2 [a0] = endOf [a0] (evS (evC fs n) b_is_ascending [slOf a0, .no, .no]) := Wk.evC_at (fn := ⟨3, 1, b_is_ascending⟩) (id rfl) (id rfl)
theorem u_is_ratio (n : Nat) (a0 : Wk.Arg) : evC fs (n + 1) 3 [a0] = endOf [a0] (evS (evC fs n) b_is_ratio [slOf a0]) := Wk.evC_at (fn := ⟨1, 1, b_is_ratio⟩) (id rfl) (id rfl)
theorem u_cut (n : Nat) (a0 a1 : Wk.Arg) : evC fs (n + 1) 4 [a0, a1] = endOf [a0, a1] (evS (evC fs n) b_cut [slOf a0, slOf a1, .no]) := Wk.evC_at (fn := ⟨3, 2, b_cut⟩) (id rfl) (id rfl)
theorem u_side (n : Nat) (a0 a1 : Wk.Arg) : evC fs (n + 1) 5 [a0, a1] = endOf [a0, a1] (evS (evC fs n) b_side [slOf a0, slOf a1]) := Wk.evC_at (fn := ⟨2, 2, b_side⟩) (id rfl) (id rfl)
theorem u_fits_time (n : Nat) (a0 : Wk.Arg) : evC fs (n + 1) 6 [a0] = endOf [a0] (evS (evC fs n) b_fits_time [slOf a0]) := Wk.evC_at (fn := ⟨1, 1, b_fits_time⟩) (id rfl) (id rfl)
theorem u_need_time (n : Nat) (a0 : Wk.Arg) : evC fs (n + 1) 7 [a0] = endOf [a0] (evS (evC fs n) b_need_time [slOf a0]) := Wk.evC_at (fn := ⟨1, 1, b_need_time⟩) (id rfl) (id rfl)
theorem u_need_rates (n : Nat) (a0 : Wk.Arg) : evC fs (n + 1) 8 [a0] = endOf [a0] (evS (evC fs n) b_need_rates [slOf a0, .no]) := Wk.evC_at (fn := ⟨2, 1, b_need_rates⟩) (id rfl) (id rfl)
theorem u_clear_at (n : Nat) (a0 a1 : Wk.Arg) : evC fs (n + 1) 9 [a0, a1] = endOf [a0, a1] (evS (evC fs n) b_clear_at [slOf a0, slOf a1, .no, .no, .no]) := Wk.evC_at (fn := ⟨5, 2, b_clear_at⟩) (id rfl) (id rfl)
theorem u_greatest_in (n : Nat) (a0 : Wk.Arg) : evC fs (n + 1) 10 [a0] = endOf [a0] (evS (evC fs n) b_greatest_in [slOf a0, .no, .no, .no, .no, .no, .no, .no]) := Wk.evC_at (fn := ⟨8, 1, b_greatest_in⟩) (id rfl) (id rfl)
theorem u_clearance (n : Nat) (a0 a1 : Wk.Arg) : evC fs (n + 1) 11 [a0, a1] = endOf [a0, a1] (evS (evC fs n) b_clearance [slOf a0, slOf a1]) := Wk.evC_at (fn := ⟨2, 2, b_clearance⟩) (id rfl) (id rfl)
theorem u_greatest_clearance (n : Nat) (a0 : Wk.Arg) : evC fs (n + 1) 12 [a0] = endOf [a0] (evS (evC fs n) b_greatest_clearance [slOf a0]) := Wk.evC_at (fn := ⟨1, 1, b_greatest_clearance⟩) (id rfl) (id rfl)
theorem u_first_clear_time (n : Nat) (a0 : Wk.Arg) : evC fs (n + 1) 13 [a0] = endOf [a0] (evS (evC fs n) b_first_clear_time [slOf a0]) := Wk.evC_at (fn := ⟨1, 1, b_first_clear_time⟩) (id rfl) (id rfl)
theorem u_is_reached (n : Nat) (a0 a1 : Wk.Arg) : evC fs (n + 1) 14 [a0, a1] = endOf [a0, a1] (evS (evC fs n) b_is_reached [slOf a0, slOf a1]) := Wk.evC_at (fn := ⟨2, 2, b_is_reached⟩) (id rfl) (id rfl)
theorem u__law_cup (n : Nat) (a0 : Wk.Arg) : evC fs (n + 1) 15 [a0] = endOf [a0] (evS (evC fs n) b__law_cup [slOf a0, .no]) := Wk.evC_at (fn := ⟨2, 1, b__law_cup⟩) (id rfl) (id rfl)
theorem u__law_roll (n : Nat) (a0 a1 : Wk.Arg) : evC fs (n + 1) 16 [a0, a1] = endOf [a0, a1] (evS (evC fs n) b__law_roll [slOf a0, slOf a1, .no, .no]) := Wk.evC_at (fn := ⟨4, 2, b__law_roll⟩) (id rfl) (id rfl)
theorem u__law_sort (n : Nat) (a0 : Wk.Arg) : evC fs (n + 1) 17 [a0] = endOf [a0] (evS (evC fs n) b__law_sort [slOf a0]) := Wk.evC_at (fn := ⟨1, 1, b__law_sort⟩) (id rfl) (id rfl)
theorem u__law_like (n : Nat) (a0 a1 : Wk.Arg) : evC fs (n + 1) 18 [a0, a1] = endOf [a0, a1] (evS (evC fs n) b__law_like [slOf a0, slOf a1, .no, .no, .no]) := Wk.evC_at (fn := ⟨5, 2, b__law_like⟩) (id rfl) (id rfl)
theorem u__law_gcd (n : Nat) (a0 a1 : Wk.Arg) : evC fs (n + 1) 19 [a0, a1] = endOf [a0, a1] (evS (evC fs n) b__law_gcd [slOf a0, slOf a1, .no]) := Wk.evC_at (fn := ⟨3, 2, b__law_gcd⟩) (id rfl) (id rfl)
theorem u__law_ratio (n : Nat) (a0 a1 : Wk.Arg) : evC fs (n + 1) 20 [a0, a1] = endOf [a0, a1] (evS (evC fs n) b__law_ratio [slOf a0, slOf a1, .no]) := Wk.evC_at (fn := ⟨3, 2, b__law_ratio⟩) (id rfl) (id rfl)
theorem u__law_plus (n : Nat) (a0 a1 : Wk.Arg) : evC fs (n + 1) 21 [a0, a1] = endOf [a0, a1] (evS (evC fs n) b__law_plus [slOf a0, slOf a1]) := Wk.evC_at (fn := ⟨2, 2, b__law_plus⟩) (id rfl) (id rfl)
theorem u__law_time (n : Nat) (a0 a1 a2 : Wk.Arg) : evC fs (n + 1) 22 [a0, a1, a2] = endOf [a0, a1, a2] (evS (evC fs n) b__law_time [slOf a0, slOf a1, slOf a2, .no]) := Wk.evC_at (fn := ⟨4, 3, b__law_time⟩) (id rfl) (id rfl)
theorem u__law_clear (n : Nat) (a0 a1 : Wk.Arg) : evC fs (n + 1) 23 [a0, a1] = endOf [a0, a1] (evS (evC fs n) b__law_clear [slOf a0, slOf a1, .no, .no, .no, .no]) := Wk.evC_at (fn := ⟨6, 2, b__law_clear⟩) (id rfl) (id rfl)
theorem u__law_less (n : Nat) (a0 a1 : Wk.Arg) : evC fs (n + 1) 24 [a0, a1] = endOf [a0, a1] (evS (evC fs n) b__law_less [slOf a0, slOf a1]) := Wk.evC_at (fn := ⟨2, 2, b__law_less⟩) (id rfl) (id rfl)
theorem u__law_best (n : Nat) (a0 : Wk.Arg) : evC fs (n + 1) 25 [a0] = endOf [a0] (evS (evC fs n) b__law_best [slOf a0, .no, .no, .no, .no, .no, .no]) := Wk.evC_at (fn := ⟨7, 1, b__law_best⟩) (id rfl) (id rfl)
theorem u__law_right (n : Nat) (a0 a1 : Wk.Arg) : evC fs (n + 1) 26 [a0, a1] = endOf [a0, a1] (evS (evC fs n) b__law_right [slOf a0, slOf a1, .no, .no, .no, .no, .no, .no]) := Wk.evC_at (fn := ⟨8, 2, b__law_right⟩) (id rfl) (id rfl)
theorem u__law_great_right (n : Nat) (a0 : Wk.Arg) : evC fs (n + 1) 27 [a0] = endOf [a0] (evS (evC fs n) b__law_great_right [slOf a0, .no, .no, .no, .no, .no, .no, .no, .no]) := Wk.evC_at (fn := ⟨9, 1, b__law_great_right⟩) (id rfl) (id rfl)
theorem u__law_written_right (n : Nat) : evC fs (n + 1) 28 [] = endOf [] (evS (evC fs n) b__law_written_right [.no]) := Wk.evC_at (fn := ⟨1, 0, b__law_written_right⟩) (id rfl) (id rfl)
theorem u_law (n : Nat) (a0 : Wk.Arg) : evC fs (n + 1) 29 [a0] = endOf [a0] (evS (evC fs n) b_law [slOf a0, .no, .no, .no, .no]) := Wk.evC_at (fn := ⟨5, 1, b_law⟩) (id rfl) (id rfl)
end Wk37
namespace Wk37
open PySem PySem.Spec L2 Wk
local macro_rules
  | `(tactic| trivial) => `(tactic| simp only [rb_ok, lf_some, pk_val, pk_tmp, fz_val, fz_tmp, sr_val, go_t, as_int, as_bool, fr_val, fr_no, fr_own, eo_nx, eo_val, eo_tmp, fo_nil, fo_val, ac_ok, gb_nil, gb_val, lo_nil, lo_val, ao_val, sl_val, sl_own, List.getElem?_cons_succ, List.getElem?_cons_zero, List.set_cons_succ, List.set_cons_zero, Bool.not_true, Bool.not_false, Bool.false_and, Bool.true_and, pk1_s, pk2_s, vB_s, vD_s, cmpV_e, idxV_e, b2V_e, isiV_e, isiT_e, negV_e, notV_e, n_lit, n_gint, n_var, rdV_val, rdV_own, k_fin1_ok, k_two_ok, k_fin2_ok, n_bin, n_cmp, n_idx, n_b2, n_neg, n_not, n_isi, n_b1, n_ite, k_ite_t, k_ite_f, n_cmp2, k_c2a_ok, k_c2b_ok, k_mid_t, k_mid_f, k_sl_lo, k_sl_hi, k_sla_ok, n_slo, n_shi, k_sc3_ok, k_sc2_ok, k_sc1_ok, n_slc, n_tup, n_lst, k_tup_ok, k_lst_ok, n_dnil, n_dcons, k_d1_ok, k_d2_ok, k_d3_ok, n_anil, n_acons, k_a1_val, k_a1_tmp, k_a1_sl, k_a3_ok, n_call, k_call_ok, n_do, callD_ok, ags_nil, ags_cons, aoC_s, ao_sl, aoS_mine, aoS_lent, aoS_lockM, aoS_lockL, aoS_val, lo_sl, loS_own, loS_val, gb_sl, gbS_own, gbS_val, nd0, nd1, itemF_e, itemIfF_e, k_it0_s, k_itIf_s, k_itIf1_t, k_itIf1_f, k_item1_ok, k_item2_ok, n_comp, n_compIf, k_comp_ok, k_compIf_ok, n_lrng, n_trng, k_lr_ok, k_tr_ok, n_rng1, k_rg1_ok, n_rng2, k_rg2_ok, k_rg2b_ok, n_iseq, k_seq_val, k_seq_tup, k_seq_tmp, k_seq_sl, sq_sl, lkS_mine, lkS_lent, lkS_lockM, lkS_lockL, k_t1_ok, k_tn_ok, k_t2_ok, k_t2b_ok, m_cmp, m_not, m_lit, m_gint, m_var, rdT_val, rdT_own, m_isi, m_call, m_b1, m_cmp2, k_m0_ok, k_m1_ok, k_m2_t, k_m2_f, n_and, n_or, n_and1, n_or1, n_ands, n_ors, k_and1_ok, k_or1_ok, k_and2_t, k_and2_f, k_or2_t, k_or2_f, m_and, m_or, m_and1, m_or1, m_ands, m_ors, k_tand_t, k_tand_f, k_tor_t, k_tor_f, s_skip', s_seq', k_then_nx, k_then_ret, k_then_brk, k_then_cnt, s_expr', k_drop_ok, nxO_s, s_asg', k_asg_ok, s_asgT', k_asgT_ok, k_asgT2_ok, k_par_ok, s_par2', s_par3', sv_nil, sv_cons, svC_s, sv_eq, sVf_t, st_eq, sTf_t, ag_name, ag_tup, ag_nil, ag_cons, agC_s, tg_name, tg_tup, tg_nil, tg_cons, s_setix', k_sx1_ok, k_sx2_ok, k_sxS_own, k_sx3_ok, sa_eq, s_ite', k_if_t, k_if_f, turnF_e, k_turn_s, s_for', k_for_ok, ul_nil, s_whl', s_ret', k_ret_ok, s_retN', s_brk', s_cnt', bd_add, bd_sub, bd_mul, bd_fdiv, bd_mod, bd_pow, bd_shl, bd_shr, bd_addl, bd_addt, cd_lt, cd_le, cd_gt, cd_ge, cd_is_none, cd_isn_none, id_none_int, id_none_bool, id_none_str, id_none_tuple, id_none_list, cd_is_bool, cd_isn_bool, id_bool_int, id_bool_bool, id_bool_str, id_bool_tuple, id_bool_list, cd_is_int, cd_isn_int, id_int_int, id_int_bool, id_int_str, id_int_tuple, id_int_list, cd_is_str, cd_isn_str, id_str_int, id_str_bool, id_str_str, id_str_tuple, id_str_list, cd_is_list, cd_isn_list, id_list_int, id_list_bool, id_list_str, id_list_tuple, id_list_list, cd_is_tuple, cd_isn_tuple, id_tuple_int, id_tuple_bool, id_tuple_str, id_tuple_tuple, id_tuple_list, td_none, td_bool, td_int, td_list, td_tuple, Wk.ix_list, Wk.ix_tuple, at_0, at_1, at_2, f1_lenl, f1_lent, f1_int, f1_intb, f1_abs, f1_listl, f1_listt, f1_tupl, f1_tupt, f2_max, f2_min, f2_gcd, cdI_eq, cdI_ne, cdB_eq, cd_nil, cdn_nil, decide_true, decide_false, Int.reduceEq, Int.reduceLT, Int.reduceLE, Int.reduceAdd, Int.reduceSub, Int.reduceMul, Int.reduceNeg, mkT_ok, mkL_ok, List.length_cons, List.length_nil, Nat.reduceAdd, Nat.reduceLeDiff, reduceCtorEq, n_zip, k_z1_ok, k_z2_ok, zipK_ll, zipK_tt, zipK_tmp, zipK_lt, zipK_tl, n_enum, k_en_ok, enK_l, enK_tmp, enK_tup, n_rev, k_rv_ok, rvK_l, rvK_t, rvK_tmp, wf_nil, wf_cons, br_ok, bf_nil, bf_cons, bkS_s, List.cons_append, List.nil_append, List.append_nil, fo_own, foS_own, pk_slot, pkS_val, pkS_own, sa2_0, sa2_1, n_gtup, n_rvs, n_sset, rv_list, rv_tup, cd_is_bb, cd_isn_bb, cdB_ne
])
  | `(tactic| exists $es,*) => `(tactic| simp only [$[$es:term],*, rb_ok, lf_some, pk_val, pk_tmp, fz_val, fz_tmp, sr_val, go_t, as_int, as_bool, fr_val, fr_no, fr_own, eo_nx, eo_val, eo_tmp, fo_nil, fo_val, ac_ok, gb_nil, gb_val, lo_nil, lo_val, ao_val, sl_val, sl_own, List.getElem?_cons_succ, List.getElem?_cons_zero, List.set_cons_succ, List.set_cons_zero, Bool.not_true, Bool.not_false, Bool.false_and, Bool.true_and, pk1_s, pk2_s, vB_s, vD_s, cmpV_e, idxV_e, b2V_e, isiV_e, isiT_e, negV_e, notV_e, n_lit, n_gint, n_var, rdV_val, rdV_own, k_fin1_ok, k_two_ok, k_fin2_ok, n_bin, n_cmp, n_idx, n_b2, n_neg, n_not, n_isi, n_b1, n_ite, k_ite_t, k_ite_f, n_cmp2, k_c2a_ok, k_c2b_ok, k_mid_t, k_mid_f, k_sl_lo, k_sl_hi, k_sla_ok, n_slo, n_shi, k_sc3_ok, k_sc2_ok, k_sc1_ok, n_slc, n_tup, n_lst, k_tup_ok, k_lst_ok, n_dnil, n_dcons, k_d1_ok, k_d2_ok, k_d3_ok, n_anil, n_acons, k_a1_val, k_a1_tmp, k_a1_sl, k_a3_ok, n_call, k_call_ok, n_do, callD_ok, ags_nil, ags_cons, aoC_s, ao_sl, aoS_mine, aoS_lent, aoS_lockM, aoS_lockL, aoS_val, lo_sl, loS_own, loS_val, gb_sl, gbS_own, gbS_val, nd0, nd1, itemF_e, itemIfF_e, k_it0_s, k_itIf_s, k_itIf1_t, k_itIf1_f, k_item1_ok, k_item2_ok, n_comp, n_compIf, k_comp_ok, k_compIf_ok, n_lrng, n_trng, k_lr_ok, k_tr_ok, n_rng1, k_rg1_ok, n_rng2, k_rg2_ok, k_rg2b_ok, n_iseq, k_seq_val, k_seq_tup, k_seq_tmp, k_seq_sl, sq_sl, lkS_mine, lkS_lent, lkS_lockM, lkS_lockL, k_t1_ok, k_tn_ok, k_t2_ok, k_t2b_ok, m_cmp, m_not, m_lit, m_gint, m_var, rdT_val, rdT_own, m_isi, m_call, m_b1, m_cmp2, k_m0_ok, k_m1_ok, k_m2_t, k_m2_f, n_and, n_or, n_and1, n_or1, n_ands, n_ors, k_and1_ok, k_or1_ok, k_and2_t, k_and2_f, k_or2_t, k_or2_f, m_and, m_or, m_and1, m_or1, m_ands, m_ors, k_tand_t, k_tand_f, k_tor_t, k_tor_f, s_skip', s_seq', k_then_nx, k_then_ret, k_then_brk, k_then_cnt, s_expr', k_drop_ok, nxO_s, s_asg', k_asg_ok, s_asgT', k_asgT_ok, k_asgT2_ok, k_par_ok, s_par2', s_par3', sv_nil, sv_cons, svC_s, sv_eq, sVf_t, st_eq, sTf_t, ag_name, ag_tup, ag_nil, ag_cons, agC_s, tg_name, tg_tup, tg_nil, tg_cons, s_setix', k_sx1_ok, k_sx2_ok, k_sxS_own, k_sx3_ok, sa_eq, s_ite', k_if_t, k_if_f, turnF_e, k_turn_s, s_for', k_for_ok, ul_nil, s_whl', s_ret', k_ret_ok, s_retN', s_brk', s_cnt', bd_add, bd_sub, bd_mul, bd_fdiv, bd_mod, bd_pow, bd_shl, bd_shr, bd_addl, bd_addt, cd_lt, cd_le, cd_gt, cd_ge, cd_is_none, cd_isn_none, id_none_int, id_none_bool, id_none_str, id_none_tuple, id_none_list, cd_is_bool, cd_isn_bool, id_bool_int, id_bool_bool, id_bool_str, id_bool_tuple, id_bool_list, cd_is_int, cd_isn_int, id_int_int, id_int_bool, id_int_str, id_int_tuple, id_int_list, cd_is_str, cd_isn_str, id_str_int, id_str_bool, id_str_str, id_str_tuple, id_str_list, cd_is_list, cd_isn_list, id_list_int, id_list_bool, id_list_str, id_list_tuple, id_list_list, cd_is_tuple, cd_isn_tuple, id_tuple_int, id_tuple_bool, id_tuple_str, id_tuple_tuple, id_tuple_list, td_none, td_bool, td_int, td_list, td_tuple, Wk.ix_list, Wk.ix_tuple, at_0, at_1, at_2, f1_lenl, f1_lent, f1_int, f1_intb, f1_abs, f1_listl, f1_listt, f1_tupl, f1_tupt, f2_max, f2_min, f2_gcd, cdI_eq, cdI_ne, cdB_eq, cd_nil, cdn_nil, decide_true, decide_false, Int.reduceEq, Int.reduceLT, Int.reduceLE, Int.reduceAdd, Int.reduceSub, Int.reduceMul, Int.reduceNeg, mkT_ok, mkL_ok, List.length_cons, List.length_nil, Nat.reduceAdd, Nat.reduceLeDiff, reduceCtorEq, n_zip, k_z1_ok, k_z2_ok, zipK_ll, zipK_tt, zipK_tmp, zipK_lt, zipK_tl, n_enum, k_en_ok, enK_l, enK_tmp, enK_tup, n_rev, k_rv_ok, rvK_l, rvK_t, rvK_tmp, wf_nil, wf_cons, br_ok, bf_nil, bf_cons, bkS_s, List.cons_append, List.nil_append, List.append_nil, fo_own, foS_own, pk_slot, pkS_val, pkS_own, sa2_0, sa2_1, n_gtup, n_rvs, n_sset, rv_list, rv_tup, cd_is_bb, cd_isn_bb, cdB_ne
])

theorem t_is_whole (n : Nat) (v lo hi : Int) : evC fs (n + 1) 0 [.val (.int v), .val (.int lo), .val (.int hi)] = .ok (.val (.bool (decide (lo ≤ v) && decide (v ≤ hi)))) [] := by
  rw [u_is_whole]
  unfold b_is_whole
  trivial
  by_cases h : lo ≤ v
  · exists decide_eq_true h
  · exists decide_eq_false h
theorem gcd_pos {x b : Int} (hb : 0 < b) : 0 < Nat.gcd x.natAbs b.natAbs := Nat.gcd_pos_of_pos_right _ (by omega)
theorem gcd_le {x b : Int} (hb : 0 < b) : Nat.gcd x.natAbs b.natAbs ≤ b.natAbs := Nat.gcd_le_right _ (by omega)
theorem pw4 : (1000000000000000000000000000000000000000000000000000000000000 : Nat) ≤ 2 ^ 4000 := by decide +kernel
theorem log2_big {n : Nat} (h : n < 2 ^ 4000) : n.log2 < 4000 := by
  by_cases h0 : n = 0
  · subst h0
    decide
  · exact (Nat.log2_lt h0).mpr h
theorem divOk_big {j : Int} (h1 : 0 < j) (h2 : j.natAbs < 2 ^ 4000) : divOk j = true := by
  have a : j ≠ 0 := by omega
  have b := log2_big h2
  generalize j.natAbs.log2 = w at b
  have c : j.natAbs.log2 < 9000 := Nat.lt_trans (log2_big h2) (by decide)
  simp [divOk, a, c]
theorem divOk_of {j : Int} (h1 : 0 < j) (h2 : j < 1000000000000000000000000000000000000000000000000000000000000) : divOk j = true :=
  divOk_big h1 (Nat.lt_of_lt_of_le (show j.natAbs < 1000000000000000000000000000000000000000000000000000000000000 by omega) pw4)
theorem bits_big {i : Int} (h : i.natAbs < 2 ^ 4000) : Builtin.Int.intBits i ≤ 4001 := by
  have b := log2_big h
  unfold Builtin.Int.intBits
  split <;> omega
theorem mulOk_big {i j : Int} (h1 : i.natAbs < 2 ^ 4000) (h2 : j.natAbs < 2 ^ 4000) : mulOk i j = true := by
  have a := bits_big h1
  have b := bits_big h2
  unfold mulOk
  exact decide_eq_true (by omega)
theorem mulOk_of {i j : Int} (h1 : i.natAbs < 1000000000000000000000000000000000000000000000000000000000000) (h2 : j.natAbs < 1000000000000000000000000000000000000000000000000000000000000) : mulOk i j = true :=
  mulOk_big (Nat.lt_of_lt_of_le h1 pw4) (Nat.lt_of_lt_of_le h2 pw4)
theorem fmod_pos {x m : Int} (h : 0 < m) : x.fmod m = x % m := Int.fmod_eq_emod_of_nonneg _ (Int.le_of_lt h)
theorem fdiv_pos {x m : Int} (h : 0 < m) : x.fdiv m = x / m := Int.fdiv_eq_ediv_of_nonneg _ (Int.le_of_lt h)
theorem mul_bd {x y X Y : Int} (h1 : 0 ≤ x) (h2 : x ≤ X) (h3 : 0 ≤ y) (h4 : y ≤ Y) : 0 ≤ x * y ∧ x * y ≤ X * Y :=
  ⟨Int.mul_nonneg h1 h3, Int.mul_le_mul h2 h4 h3 (by omega)⟩
theorem abs_bd {x y X Y : Int} (h1 : -X ≤ x) (h2 : x ≤ X) (h3 : -Y ≤ y) (h4 : y ≤ Y) : -(X * Y) ≤ x * y ∧ x * y ≤ X * Y := by
  have a : x.natAbs ≤ X.toNat := by omega
  have b : y.natAbs ≤ Y.toNat := by omega
  have c : (x * y).natAbs ≤ X.toNat * Y.toNat := by
    rw [Int.natAbs_mul]
    exact Nat.mul_le_mul a b
  have e : ((X.toNat * Y.toNat : Nat) : Int) = X * Y := by
    rw [Int.natCast_mul, Int.toNat_of_nonneg (by omega), Int.toNat_of_nonneg (by omega)]
  omega
/-- x / b in its lowest terms -/
def rt (x b : Int) : D := .tuple [.int (x / (Int.gcd x b : Int)), .int (b / (Int.gcd x b : Int))]
def sortOf : D → Int
  | .none => 0
  | .bool _ => 1
  | .int _ => 2
  | .str _ => 3
  | .tuple _ => 4
  | .list _ => 5
  | .dict _ => 6
theorem t_sort (n : Nat) (d : D) (h : ∀ x, d ≠ .dict x) : evC fs (n + 1) 17 [.val d] = .ok (.val (.int (sortOf d))) [] := by
  rw [u__law_sort]
  unfold b__law_sort
  cases d <;> first | (trivial; rfl) | exact absurd rfl (h _) | skip
/-- data that _law_like may look at -/
def flat0 : D → Bool
  | .none => true
  | .bool _ => true
  | .int _ => true
  | _ => false
def gd : Nat → D → Bool
  | 0, d => flat0 d
  | m + 1, .list xs => decide (xs.length ≤ 16777216) && xs.all (gd m)
  | m + 1, .tuple xs => decide (xs.length ≤ 16777216) && xs.all (gd m)
  | _ + 1, d => flat0 d
theorem in45_0 : cmpD .in_ (.int 0) (.tuple [.int 4, .int 5]) = some false := rfl
theorem in45_1 : cmpD .in_ (.int 1) (.tuple [.int 4, .int 5]) = some false := rfl
theorem in45_2 : cmpD .in_ (.int 2) (.tuple [.int 4, .int 5]) = some false := rfl
theorem in45_3 : cmpD .in_ (.int 3) (.tuple [.int 4, .int 5]) = some false := rfl
theorem in45_4 : cmpD .in_ (.int 4) (.tuple [.int 4, .int 5]) = some true := rfl
theorem in45_5 : cmpD .in_ (.int 5) (.tuple [.int 4, .int 5]) = some true := rfl
theorem eq_self (d : D) (h : flat0 d = true) : cmpD .eq d d = some true := by
  cases d with
  | none => rfl
  | bool b => rw [cdB_eq, beq_self_eq_true]
  | int i => rw [cdI_eq, decide_eq_true rfl]
  | _ => cases h
theorem like_flat (n : Nat) (d : D) (h : flat0 d = true) : evC fs (n + 2) 18 [.val d, .val d] = .ok (.val (.bool true)) [] := by
  rw [u__law_like]
  unfold b__law_like
  have hs := eq_self d h
  have ht : evC fs (n + 1) 17 [.val d] = _ := t_sort n d (fun x e => by subst e; cases h)
  cases d <;> try (cases h; done)
  all_goals exists ht, hs, sortOf, in45_0, in45_1, in45_2, in45_3
theorem like_seq (n : Nat) (d : D) (xs : List D) (hd : d = .list xs ∨ d = .tuple xs) (hl : xs.length ≤ 16777216) (h : ∀ x ∈ xs, evC fs (n + 1) 18 [.val x, .val x] = .ok (.val (.bool true)) []) : evC fs (n + 2) 18 [.val d, .val d] = .ok (.val (.bool true)) [] := by
  rw [u__law_like]
  unfold b__law_like
  have ht : evC fs (n + 1) 17 [.val d] = _ := t_sort n d (fun x e => by rcases hd with q | q <;> (rw [q] at e; cases e))
  rcases hd with rfl | rfl
  · exists ht, sortOf, in45_5, in45_4
    rw [compAll_map (g := fun _ => none) (by rw [zipD_self_len]; exact hl)]
    · rw [fm_none]
      exists cmpV
    · intro d hd
      obtain ⟨x, hx, rfl⟩ := zipD_self_mem hd
      have hx := h x hx
      exists hx
  · exists ht, sortOf, in45_5, in45_4
    rw [compAll_map (g := fun _ => none) (by rw [zipD_self_len]; exact hl)]
    · rw [fm_none]
      exists cmpV
    · intro d hd
      obtain ⟨x, hx, rfl⟩ := zipD_self_mem hd
      have hx := h x hx
      exists hx
theorem t_like : ∀ (m n : Nat) (d : D), gd m d = true → evC fs (n + m + 2) 18 [.val d, .val d] = .ok (.val (.bool true)) []
  | 0, n, d, h => like_flat n d h
  | m + 1, n, d, h => by
    cases d with
    | list xs =>
      obtain ⟨h1, h2⟩ := Bool.and_eq_true_iff.mp h
      exact like_seq (n + m + 1) _ xs (.inl rfl) (of_decide_eq_true h1) fun x hx => t_like m n x (List.all_eq_true.mp h2 x hx)
    | tuple xs =>
      obtain ⟨h1, h2⟩ := Bool.and_eq_true_iff.mp h
      exact like_seq (n + m + 1) _ xs (.inr rfl) (of_decide_eq_true h1) fun x hx => t_like m n x (List.all_eq_true.mp h2 x hx)
    | none => exact like_flat (n + (m + 1)) _ h
    | bool b => exact like_flat (n + (m + 1)) _ h
    | int i => exact like_flat (n + (m + 1)) _ h
    | str x => cases h
    | dict x => cases h
/-! the loop of _law_gcd -/
theorem fmod_abs {x y : Int} (h : y ≠ 0) : (x.fmod y).natAbs < y.natAbs := by
  rcases Int.lt_or_gt_of_ne h with q | q
  · have e : x.fmod y = -((-x).fmod (-y)) := by rw [Int.neg_fmod_neg, Int.neg_neg]
    rw [e, fmod_pos (by omega)]
    have := Int.emod_nonneg (-x) (show -y ≠ 0 by omega)
    have := Int.emod_lt_of_pos (-x) (show 0 < -y by omega)
    omega
  · rw [fmod_pos q]
    have := Int.emod_nonneg x h
    have := Int.emod_lt_of_pos x q
    omega
theorem fmod_gcd (x y : Int) : Nat.gcd y.natAbs (x.fmod y).natAbs = Nat.gcd x.natAbs y.natAbs := by
  have e : x.fmod y = x - y * x.fdiv y := Int.fmod_def x y
  have : Int.gcd y (x.fmod y) = Int.gcd x y := by
    rw [e, Int.gcd_sub_mul_left_right y x, Int.gcd_comm]
  exact this
/-- two turns halve -/
theorem fmod_half {x y : Int} (h : y ≠ 0) (h2 : x.fmod y ≠ 0) : 2 * (y.fmod (x.fmod y)).natAbs < y.natAbs := by
  rcases Int.lt_or_gt_of_ne h with q | q
  · have e : x.fmod y = -((-x) % (-y)) := by rw [← fmod_pos (by omega), Int.neg_fmod_neg, Int.neg_neg]
    have h3 := Int.emod_nonneg (-x) (show -y ≠ 0 by omega)
    have h4 := Int.emod_lt_of_pos (-x) (show 0 < -y by omega)
    rw [e] at h2 ⊢
    generalize (-x) % (-y) = r at h2 h3 h4
    have e2 : y.fmod (-r) = -((-y) % r) := by
      have z := Int.neg_fmod_neg (-y) r
      rw [Int.neg_neg] at z
      rw [z, fmod_pos (by omega)]
    rw [e2]
    have h5 := Int.emod_nonneg (-y) (show r ≠ 0 by omega)
    have h6 := Int.emod_lt_of_pos (-y) (show 0 < r by omega)
    have h7 := Int.mul_ediv_add_emod (-y) r
    have h8 : 1 ≤ (-y) / r := (Int.le_ediv_iff_mul_le (by omega)).mpr (by omega)
    have h9 : r * 1 ≤ r * ((-y) / r) := Int.mul_le_mul_of_nonneg_left h8 (by omega)
    omega
  · rw [fmod_pos q] at h2 ⊢
    have h3 := Int.emod_nonneg x h
    have h4 := Int.emod_lt_of_pos x q
    generalize x % y = r at h2 h3 h4
    rw [fmod_pos (by omega)]
    have h5 := Int.emod_nonneg y (show r ≠ 0 by omega)
    have h6 := Int.emod_lt_of_pos y (show 0 < r by omega)
    have h7 := Int.mul_ediv_add_emod y r
    have h8 : 1 ≤ y / r := (Int.le_ediv_iff_mul_le (by omega)).mpr (by omega)
    have h9 : r * 1 ≤ r * (y / r) := Int.mul_le_mul_of_nonneg_left h8 (by omega)
    omega
def gcdT : IS := (.seq (.ite (.cmp .eq (.var 1) (.lit (.int 0)))
     (.seq (.ret (.b2 .max (.var 0) (.neg (.var 0))))
     .skip)
     .skip)
   (.seq (.par2 0 1 (.var 1) (.bin .mod (.b1 .int (.var 0)) (.var 1)))
   .skip))
theorem gcd_turn0 (C : Nat → List Wk.Arg → RC) (a : Int) (d : D) (s : Sl) (hs : free? (some s) = true) : turnF C (.name 2) gcdT d [.val (.int a), .val (.int 0), s] = .ok (.ret (.val (.int (a.natAbs : Nat)))) [.val (.int a), .val (.int 0), .val d] := by
  unfold gcdT
  exists hs
  have : (if -a > a then -a else a) = (a.natAbs : Int) := by split <;> omega
  rw [this]
theorem gcd_turn1 (C : Nat → List Wk.Arg → RC) (a b : Int) (hb : b ≠ 0) (d : D) (s : Sl) (hs : free? (some s) = true) : turnF C (.name 2) gcdT d [.val (.int a), .val (.int b), s] = .ok .nx [.val (.int b), .val (.int (a.fmod b)), .val d] := by
  unfold gcdT
  have h0 : decide (b = 0) = false := decide_eq_false hb
  have h1 : decide (b ≠ 0) = true := decide_eq_true hb
  exists hs, h0, h1
theorem gcd_loop (C : Nat → List Wk.Arg → RC) : ∀ (k : Nat) (a b : Int) (s : Sl) (ds : List D), free? (some s) = true → b.natAbs < 2 ^ k → 2 * k + 1 ≤ ds.length → ∃ ρ, forL (turnF C (.name 2) gcdT) ds [.val (.int a), .val (.int b), s] = .ok (.ret (.val (.int (Nat.gcd a.natAbs b.natAbs : Nat)))) ρ
  | k, a, b, s, [], hs, hb, hl => by simp at hl
  | k, a, b, s, d :: ds, hs, hb, hl => by
    by_cases h : b = 0
    · subst h
      refine ⟨[.val (.int a), .val (.int 0), .val d], ?_⟩
      show (turnF C (.name 2) gcdT d _).bind _ = _
      rw [gcd_turn0 C a d s hs, rb_ok]
      simp
    · have e := gcd_turn1 C a b h d s hs
      have hr := fmod_abs (x := a) h
      match k, hb, hl with
      | 0, hb, hl => simp at hb; omega
      | k + 1, hb, hl =>
      match ds, hl with
      | [], hl => simp at hl
      | d2 :: ds, hl =>
      by_cases h0 : a.fmod b = 0
      · refine ⟨[.val (.int b), .val (.int 0), .val d2], ?_⟩
        show (turnF C (.name 2) gcdT d _).bind _ = _
        rw [e, rb_ok]
        show (turnF C (.name 2) gcdT d2 _).bind _ = _
        rw [h0]
        rw [gcd_turn0 C b d2 (.val d) rfl, rb_ok, ← fmod_gcd a b, h0]
        simp
      · have e2 := gcd_turn1 C b (a.fmod b) h0 d2 (.val d) rfl
        have h2 := fmod_half h h0
        obtain ⟨ρ, e3⟩ := gcd_loop C k (a.fmod b) (b.fmod (a.fmod b)) (.val d2) ds rfl (by rw [Nat.pow_succ] at hb; omega) (by simp at hl; omega)
        refine ⟨ρ, ?_⟩
        show (turnF C (.name 2) gcdT d _).bind _ = _
        rw [e, rb_ok]
        show (turnF C (.name 2) gcdT d2 _).bind _ = _
        rw [e2, rb_ok]
        show forL _ ds _ = _
        rw [e3, fmod_gcd, fmod_gcd]
theorem pw200 : (1000000000000000000000000000000000000000000000000000000000000 : Nat) ≤ 2 ^ 200 := by decide +kernel
theorem t_gcd (n : Nat) (a b : Int) (hb : b.natAbs < 1000000000000000000000000000000000000000000000000000000000000) : evC fs (n + 1) 19 [.val (.int a), .val (.int b)] = .ok (.val (.int (Nat.gcd a.natAbs b.natAbs : Nat))) [] := by
  rw [u__law_gcd]
  unfold b__law_gcd
  have e0 : ∀ ρ, rg1 1200 ρ = .ok (rangeL 0 1 (1200 : Int).toNat, []) ρ := fun ρ => rg1_ok (by decide) (by decide) ρ
  have hl : 2 * 200 + 1 ≤ (rangeL 0 1 (1200 : Int).toNat).length := by
    unfold rangeL
    rw [List.length_map, List.length_range]
    decide
  generalize rangeL 0 1 (1200 : Int).toNat = ds at e0 hl
  obtain ⟨ρ, e⟩ := gcd_loop (evC fs n) 200 a b .no ds rfl (Nat.lt_of_lt_of_le hb pw200) hl
  unfold gcdT at e
  exists e0, e
theorem t_ratio (n : Nat) (x b : Int) (hb : 0 < b) (hs : b < 1000000000000000000000000000000000000000000000000000000000000) : evC fs (n + 2) 20 [.val (.int x), .val (.int b)] = .ok (.val (rt x b)) [] := by
  rw [u__law_ratio]
  unfold b__law_ratio
  have h0 : decide (0 < b) = true := decide_eq_true hb
  have g1 := gcd_pos (x := x) hb
  have g2 := gcd_le (x := x) hb
  have hm : mulOk ((Nat.gcd x.natAbs b.natAbs : Nat) : Int) 1 = true := mulOk_of (by omega) (by omega)
  have h1 : divOk ((Nat.gcd x.natAbs b.natAbs : Nat) : Int) = true := divOk_of (by omega) (by omega)
  have ht := t_gcd n x b (by omega)
  generalize evC fs (n + 1) = C at ht ⊢
  exists h0, h1, hm, ht, Int.mul_one
  have e : ∀ y : Int, y.fdiv ((Nat.gcd x.natAbs b.natAbs : Nat) : Int) = y / ((Nat.gcd x.natAbs b.natAbs : Nat) : Int) := fun y => Int.fdiv_eq_ediv_of_nonneg _ (by omega)
  simp [e, rt, Int.gcd]
/-! lowest terms -/
def tm (a c : Int) : D := .tuple [.int a, .int c]
theorem rt_scale {g x b : Int} (hg : 0 < g) : rt (g * x) (g * b) = rt x b := by
  unfold rt
  have e : Int.gcd (g * x) (g * b) = g.natAbs * Int.gcd x b := Int.gcd_mul_left g x b
  rw [e]
  have e2 : ((g.natAbs * Int.gcd x b : Nat) : Int) = g * (Int.gcd x b : Int) := by
    rw [Int.natCast_mul, Int.natAbs_of_nonneg (by omega)]
  rw [e2, Int.mul_ediv_mul_of_pos _ _ hg, Int.mul_ediv_mul_of_pos _ _ hg]
theorem rt_tm {a c : Int} (h : Int.gcd a c = 1) : rt a c = tm a c := by
  unfold rt tm
  rw [h]
  simp
theorem low (x b : Int) (hb : 0 < b) : ∃ g a c : Int, 0 < g ∧ x = g * a ∧ b = g * c ∧ 0 < c ∧ Int.gcd a c = 1 ∧ rt x b = tm a c ∧ a.natAbs ≤ x.natAbs ∧ c ≤ b := by
  have g1 : 0 < Int.gcd x b := gcd_pos (x := x) hb
  have g0 : (0 : Int) < (Int.gcd x b : Int) := by omega
  have d1 : (Int.gcd x b : Int) ∣ x := Int.gcd_dvd_left ..
  have d2 : (Int.gcd x b : Int) ∣ b := Int.gcd_dvd_right ..
  have e1 := (Int.mul_ediv_cancel' d1).symm
  have e2 := (Int.mul_ediv_cancel' d2).symm
  refine ⟨(Int.gcd x b : Int), x / (Int.gcd x b : Int), b / (Int.gcd x b : Int), g0, e1, e2, ?_, ?_, rfl, ?_, ?_⟩
  · exact Int.ediv_pos_of_pos_of_dvd hb (by omega) d2
  · exact Int.gcd_ediv_gcd_ediv_gcd g1
  · have : x.natAbs = (Int.gcd x b) * (x / (Int.gcd x b : Int)).natAbs := by
      have := congrArg Int.natAbs e1
      rw [Int.natAbs_mul] at this
      exact this
    rw [this]
    exact Nat.le_mul_of_pos_left _ g1
  · have h : 0 < b / (Int.gcd x b : Int) := Int.ediv_pos_of_pos_of_dvd hb (by omega) d2
    have : 1 * (b / (Int.gcd x b : Int)) ≤ (Int.gcd x b : Int) * (b / (Int.gcd x b : Int)) := Int.mul_le_mul_of_nonneg_right (by omega) (by omega)
    omega
theorem tm_inj {a c a' c' : Int} (h : tm a c = tm a' c') : a = a' ∧ c = c' := by
  unfold tm at h
  injection h with h
  injection h with p q
  injection q with q _
  injection p with p
  injection q with q
  exact ⟨p, q⟩
theorem rt_inj {x y b : Int} (hb : 0 < b) (h : rt x b = rt y b) : x = y := by
  obtain ⟨g, a, c, hg, e1, e2, hc, hd, e3, _⟩ := low x b hb
  obtain ⟨g', a', c', hg', e1', e2', hc', hd', e3', _⟩ := low y b hb
  rw [e3, e3'] at h
  obtain ⟨ha, hcc⟩ := tm_inj h
  subst ha hcc
  have : g = g' := Int.eq_of_mul_eq_mul_right (Int.ne_of_gt hc) (e2.symm.trans e2')
  rw [e1, e1', this]
/-- equal ratios -/
theorem rt_eq {x b y c : Int} (hb : 0 < b) (hc : 0 < c) (h : x * c = y * b) : rt x b = rt y c := by
  rw [← rt_scale (g := c) (x := x) (b := b) hc, ← rt_scale (g := b) (x := y) (b := c) hb, Int.mul_comm c x, h, Int.mul_comm c b, Int.mul_comm y b]
theorem rt_eq_iff {x b y c : Int} (hb : 0 < b) (hc : 0 < c) : rt x b = rt y c ↔ x * c = y * b := by
  constructor
  · intro h
    rw [← rt_scale (g := c) (x := x) (b := b) hc, ← rt_scale (g := b) (x := y) (b := c) hb, Int.mul_comm c b] at h
    have := rt_inj (Int.mul_pos hb hc) h
    rw [Int.mul_comm x c, Int.mul_comm y b]
    exact this
  · exact rt_eq hb hc
theorem mod_scale {g a c : Int} (hg : 0 < g) : (g * a) % (g * c) = g * (a % c) := Int.mul_emod_mul_of_pos a c hg
theorem mod_zero {g a c : Int} (hg : 0 < g) : (g * a) % (g * c) = 0 ↔ a % c = 0 := by
  rw [mod_scale hg]
  constructor
  · intro h
    rcases Int.mul_eq_zero.mp h with q | q
    · omega
    · exact q
  · intro h
    rw [h, Int.mul_zero]
theorem eqv_tm (a c a' c' : Int) : cmpD .eq (tm a c) (tm a' c') = some (decide (a = a' ∧ c = c')) := by
  unfold tm
  simp [cmpD, guardO, SeqAt.shaped, PyData.eqv, PyData.eqvAll, PyData.canLay0, PyData.canLayAll0, PyData.depth, PyData.depthAll]
  by_cases q1 : a = a' <;> by_cases q2 : c = c' <;> simp [q1, q2]
theorem eqv_rt {x b y c : Int} (hb : 0 < b) (hc : 0 < c) : cmpD .eq (rt x b) (rt y c) = some (decide (x * c = y * b)) := by
  have key := rt_eq_iff (x := x) (y := y) hb hc
  obtain ⟨g, a, p, _, _, _, _, _, e3, _⟩ := low x b hb
  obtain ⟨g', a', p', _, _, _, _, _, e3', _⟩ := low y c hc
  rw [e3, e3', eqv_tm]
  rw [e3, e3'] at key
  have k2 : (a = a' ∧ p = p') ↔ x * c = y * b := by
    rw [← key]
    constructor
    · rintro ⟨rfl, rfl⟩
      rfl
    · exact tm_inj
  simp only [k2]
theorem nev_rt {x b y c : Int} (hb : 0 < b) (hc : 0 < c) : cmpD .ne (rt x b) (rt y c) = some (!decide (x * c = y * b)) := by
  have h := eqv_rt (x := x) (y := y) hb hc
  have e : ∀ u v : D, cmpD .ne u v = (cmpD .eq u v).map (!·) := fun u v => by
    simp only [cmpD]
    unfold guardO
    split <;> rfl
  rw [e, h]
  rfl
/-! draws -/
def CupOk (l : List D) : Prop := ∃ c0 c1 : Int, l = [.int c0, .int c1] ∧ 0 ≤ c0 ∧ 0 ≤ c1 ∧ c1 < 2147483543
theorem t_roll (n : Nat) (l : List D) (many : Int) (hl : CupOk l) (h1 : 1 ≤ many) (h2 : many < 1000000000000000000000000000000000000000000000000000000000000) : ∃ r l', CupOk l' ∧ 0 ≤ r ∧ r < many ∧ evC fs (n + 1) 16 [.own l .lent, .val (.int many)] = .ok (.val (.int r)) [l'] := by
  obtain ⟨c0, c1, rfl, p0, p1, p2⟩ := hl
  rw [u__law_roll]
  unfold b__law_roll
  generalize evC fs n = C
  have dm : decide (many ≠ 0) = true := decide_eq_true (by omega)
  have dv : divOk many = true := divOk_of (by omega) (by omega)
  by_cases q : 0 < c0
  · refine ⟨c0 % many, [.int (c0 / many), .int c1], ⟨_, _, rfl, Int.ediv_nonneg (by omega) (by omega), p1, p2⟩, Int.emod_nonneg _ (by omega), Int.emod_lt_of_pos _ (by omega), ?_⟩
    have q' := decide_eq_true q
    have f1 := fmod_pos (x := c0) (m := many) (by omega)
    have f2 := fdiv_pos (x := c0) (m := many) (by omega)
    exists q', dm, dv, f1, f2
  · have q' := decide_eq_false q
    have m1 : mulOk c1 29917 = true := mulOk_of (by omega) (by omega)
    have e1 : (c1 * 29917 + 9103).fmod 2147483543 = (c1 * 29917 + 9103) % 2147483543 := fmod_pos (by omega)
    have b0 : 0 ≤ (c1 * 29917 + 9103) % 2147483543 := Int.emod_nonneg _ (by omega)
    have b1 : (c1 * 29917 + 9103) % 2147483543 < 2147483543 := Int.emod_lt_of_pos _ (by omega)
    generalize (c1 * 29917 + 9103) % 2147483543 = d at e1 b0 b1
    have m2 : mulOk d (d + 307) = true := mulOk_of (by omega) (by omega)
    have e2 : (d * (d + 307)).fmod 2147483587 = (d * (d + 307)) % 2147483587 := fmod_pos (by omega)
    have e3 : ((d * (d + 307)) % 2147483587).fdiv 887 = ((d * (d + 307)) % 2147483587) / 887 := fdiv_pos (by omega)
    generalize (d * (d + 307)) % 2147483587 = w at e2 e3
    have e4 : (w / 887).fmod many = (w / 887) % many := fmod_pos (by omega)
    have g1 : decide ((2147483543 : Int) ≠ 0) = true := by decide
    have g2 : decide ((2147483587 : Int) ≠ 0) = true := by decide
    have g3 : divOk 887 = true := divOk_of (by omega) (by omega)
    refine ⟨(w / 887) % many, [.int c0, .int d], ⟨_, _, rfl, p0, b0, b1⟩, Int.emod_nonneg _ (by omega), Int.emod_lt_of_pos _ (by omega), ?_⟩
    exists q', m1, e1, m2, e2, e3, e4, g1, g2, g3, dm
theorem gd_rt (m : Nat) (x b : Int) : gd (m + 1) (rt x b) = true := by
  cases m <;> rfl
theorem gd_int (m : Nat) (i : Int) : gd m (.int i) = true := by cases m <;> rfl
theorem gd_bool (m : Nat) (i : Bool) : gd m (.bool i) = true := by cases m <;> rfl
theorem gd_none (m : Nat) : gd m .none = true := by cases m <;> rfl
theorem gd_ite (m : Nat) (p : Prop) [Decidable p] (x b : Int) : gd (m + 1) (if p then rt x b else .none) = true := by
  split
  · exact gd_rt m x b
  · exact gd_none _
theorem gd_list (m : Nat) (xs : List D) (h : xs.length ≤ 16777216) (h2 : ∀ x ∈ xs, gd m x = true) : gd (m + 1) (.list xs) = true := by
  show (decide (xs.length ≤ 16777216) && xs.all (gd m)) = true
  rw [decide_eq_true h, List.all_eq_true.mpr h2]
  rfl
theorem bits_abs {i : Int} : Builtin.Int.intBits (if i < 0 then -i else i) = Builtin.Int.intBits i := by
  unfold Builtin.Int.intBits
  split
  · by_cases h : i = 0
    · subst h
      rfl
    · have h2 : -i ≠ 0 := by omega
      simp [h, h2]
  · rfl
theorem t_cup (n : Nat) (ns : List Int) (h1 : ns.length ≤ 63) (h2 : ∀ i ∈ ns, Builtin.Int.intBits i ≤ 1048576) : ∃ l, CupOk l ∧ evC fs (n + 1) 15 [.val (.list (ns.map .int))] = .ok (.tmp l) [] := by
  obtain ⟨h, hb, hh⟩ : ∃ h : Int, Builtin.Int.intBits h ≤ 1048576 ∧ atI (ns.map PyData.int ++ [.int 0]) 0 = some (.int h) := by
    cases ns with
    | nil => exact ⟨0, by decide, at_0 _ _⟩
    | cons a r => exact ⟨a, h2 a (List.mem_cons_self ..), at_0 _ _⟩
  have g1 : guardO (fits ((ns.map PyData.int).length + (0 + 1))) (RV.tmp (ns.map PyData.int ++ [.int 0])) = some (.tmp (ns.map PyData.int ++ [.int 0])) := by
    unfold guardO
    rw [if_pos]
    exact decide_eq_true (by rw [List.length_map]; omega)
  rw [u__law_cup]
  unfold b__law_cup
  generalize evC fs n = C
  have c0 : 0 ≤ (if h < 0 then -h else h) := by split <;> omega
  have cb : Builtin.Int.intBits (if h < 0 then -h else h) ≤ 1048576 := by rw [bits_abs]; exact hb
  generalize hc : (if h < 0 then -h else h) = cell at c0 cb
  have m1 : mulOk cell 373 = true := by
    have := bits_big (i := 373) (Nat.lt_of_lt_of_le (show (373 : Int).natAbs < 1000000000000000000000000000000000000000000000000000000000000 by omega) pw4)
    unfold mulOk
    exact decide_eq_true (by omega)
  have p1 : powOk 10 18 = true := by decide +kernel
  have p2 : (10 : Int) ^ (18 : Int).toNat = 1000000000000000000 := by decide +kernel
  have d1 : divOk 127 = true := divOk_of (by omega) (by omega)
  have d2 : decide ((1974129427 : Int) ≠ 0) = true := by decide
  have f1 : (cell * 373 + 5407).fmod 1974129427 = (cell * 373 + 5407) % 1974129427 := fmod_pos (by omega)
  have f2 : cell.fdiv 127 = cell / 127 := fdiv_pos (by omega)
  have b0 : 0 ≤ (cell * 373 + 5407) % 1974129427 := Int.emod_nonneg _ (by omega)
  have b1 : (cell * 373 + 5407) % 1974129427 < 1974129427 := Int.emod_lt_of_pos _ (by omega)
  generalize ns.map PyData.int = xs at g1 hh
  by_cases q : (1000000000000000000 : Int) ≤ cell
  · refine ⟨[.int (cell / 127), .int ((cell * 373 + 5407) % 1974129427 + 229)], ⟨_, _, rfl, Int.ediv_nonneg c0 (by omega), by omega, by omega⟩, ?_⟩
    have q' := decide_eq_true q
    exists g1, hh, hc, p1, p2, q', d1, f2, m1, d2, f1
  · refine ⟨[.int 0, .int ((cell * 373 + 5407) % 1974129427 + 229)], ⟨_, _, rfl, Int.le_refl _, by omega, by omega⟩, ?_⟩
    have q' := decide_eq_false q
    exists g1, hh, hc, p1, p2, q', d1, f2, m1, d2, f1
/-! _law_like on lists that a name owns -/
theorem sort_own (n : Nat) (xs : List D) : evC fs (n + 1) 17 [.own xs .lent] = .ok (.val (.int 5)) [xs] := by
  rw [u__law_sort]
  unfold b__law_sort
  generalize evC fs n = C
  trivial
theorem zs1 (xs ys : List D) (s0 s2 s3 s4 : Sl) : zipK (.val (.list xs)) (.sl 1) [s0, .own ys .lent, s2, s3, s4] = .ok (zipD xs ys, [1]) [s0, .own ys .lockL, s2, s3, s4] := id rfl
theorem zs0 (xs ys : List D) (s1 s2 s3 s4 : Sl) : zipK (.sl 0) (.val (.list ys)) [.own xs .lent, s1, s2, s3, s4] = .ok (zipD xs ys, [0]) [.own xs .lockL, s1, s2, s3, s4] := id rfl
theorem ul1 (ys : List D) (s0 s2 s3 s4 : Sl) : unlock [s0, .own ys .lockL, s2, s3, s4] [1] = [s0, .own ys .lent, s2, s3, s4] := id rfl
theorem ul0 (ys : List D) (s1 s2 s3 s4 : Sl) : unlock [.own ys .lockL, s1, s2, s3, s4] [0] = [.own ys .lent, s1, s2, s3, s4] := id rfl
theorem like_vo (n : Nat) (xs : List D) (hl : xs.length ≤ 16777216) (h : ∀ x ∈ xs, evC fs (n + 1) 18 [.val x, .val x] = .ok (.val (.bool true)) []) : evC fs (n + 2) 18 [.val (.list xs), .own xs .lent] = .ok (.val (.bool true)) [xs] := by
  rw [u__law_like]
  unfold b__law_like
  have ht : evC fs (n + 1) 17 [.val (.list xs)] = .ok (.val (.int 5)) [] := t_sort n _ (fun x e => by cases e)
  have hs := sort_own n xs
  generalize evC fs (n + 1) = C at h ht hs ⊢
  exists ht, hs, in45_5, zs1
  rw [compAll_lk (g := fun _ => none) (by rw [zipD_self_len]; exact hl)]
  · rw [fm_none, ul1]
    exists cmpV
  · intro d hd
    obtain ⟨x, hx, rfl⟩ := zipD_self_mem hd
    have hx := h x hx
    exists hx
theorem like_ov (n : Nat) (xs : List D) (hl : xs.length ≤ 16777216) (h : ∀ x ∈ xs, evC fs (n + 1) 18 [.val x, .val x] = .ok (.val (.bool true)) []) : evC fs (n + 2) 18 [.own xs .lent, .val (.list xs)] = .ok (.val (.bool true)) [xs] := by
  rw [u__law_like]
  unfold b__law_like
  have ht : evC fs (n + 1) 17 [.val (.list xs)] = .ok (.val (.int 5)) [] := t_sort n _ (fun x e => by cases e)
  have hs := sort_own n xs
  generalize evC fs (n + 1) = C at h ht hs ⊢
  exists ht, hs, in45_5, zs0
  rw [compAll_lk (g := fun _ => none) (by rw [zipD_self_len]; exact hl)]
  · rw [fm_none, ul0]
    exists cmpV
  · intro d hd
    obtain ⟨x, hx, rfl⟩ := zipD_self_mem hd
    have hx := h x hx
    exists hx
/-! loops and comprehensions over mapped lists -/
def k_fl (f : D → Fm → R Fl) (ds : List D) (r : R Fl) : R Fl := r.bind fun fl ρ1 => match fl with
    | .nx => forL f ds ρ1
    | .cnt => forL f ds ρ1
    | .brk => .ok .nx ρ1
    | .ret v => .ok (.ret v) ρ1
theorem fl_nil (f : D → Fm → R Fl) (ρ : Fm) : forL f [] ρ = .ok .nx ρ := id rfl
theorem fl_cons (f : D → Fm → R Fl) (d : D) (ds : List D) (ρ : Fm) : forL f (d :: ds) ρ = k_fl f ds (f d ρ) := id rfl
theorem k_fl_nx (f : D → Fm → R Fl) (ds : List D) (ρ : Fm) : k_fl f ds (.ok .nx ρ) = forL f ds ρ := id rfl
theorem k_fl_cnt (f : D → Fm → R Fl) (ds : List D) (ρ : Fm) : k_fl f ds (.ok .cnt ρ) = forL f ds ρ := id rfl
theorem k_fl_brk (f : D → Fm → R Fl) (ds : List D) (ρ : Fm) : k_fl f ds (.ok .brk ρ) = .ok .nx ρ := id rfl
theorem k_fl_ret (f : D → Fm → R Fl) (ds : List D) (v : RV) (ρ : Fm) : k_fl f ds (.ok (.ret v) ρ) = .ok (.ret v) ρ := id rfl
theorem compL_of {α : Type} {f : D → Fm → R (Option D)} {c : α → D} {k : α → Option D} {ρ : Fm} : ∀ (hs : List α), (∀ a ∈ hs, f (c a) ρ = .ok (k a) ρ) → compL f (hs.map c) ρ = .ok (hs.filterMap k) ρ
  | [], _ => rfl
  | a :: hs, h => by
    show (f (c a) ρ).bind _ = _
    rw [h a (List.mem_cons_self ..), rb_ok]
    rw [compL_of hs fun x hx => h x (List.mem_cons_of_mem _ hx), rb_ok]
    cases q : k a with
    | none => simp [List.filterMap_cons, q]
    | some x => simp [List.filterMap_cons, q]
theorem compAll_of {α : Type} {own : List Nat} {f : D → Fm → R (Option D)} {hs : List α} {c : α → D} {k : α → Option D} {ρ : Fm} (hf : hs.length ≤ 16777216) (h : ∀ a ∈ hs, backR ρ own (f (c a) (wipeF ρ own)) = .ok (k a) ρ) : compAll own f (hs.map c) [] ρ = .ok (.tmp (hs.filterMap k)) ρ := by
  unfold compAll
  rw [if_pos (show fits (hs.map c).length = true from decide_eq_true (by rw [List.length_map]; exact hf)), compL_of (c := c) (k := k) hs h]
  rfl
theorem fm_some {α : Type} (k : α → D) : ∀ hs : List α, hs.filterMap (fun a => some (k a)) = hs.map k
  | [] => rfl
  | a :: hs => by rw [List.filterMap_cons, List.map_cons, fm_some k hs]
theorem atI_map {α : Type} (c : α → D) {hs : List α} {i : Int} (h0 : 0 ≤ i) (h1 : i < hs.length) : ∃ a, a ∈ hs ∧ hs[i.toNat]? = some a ∧ L2.atI (hs.map c) i = some (c a) := by
  have h : i.toNat < hs.length := by omega
  refine ⟨hs[i.toNat], List.getElem_mem h, List.getElem?_eq_getElem h, ?_⟩
  unfold L2.atI L2.ixN
  rw [if_pos h0, if_pos (by rw [List.length_map]; exact h1)]
  show (hs.map c)[i.toNat]? = _
  rw [List.getElem?_map, List.getElem?_eq_getElem h]
  rfl
theorem boolsD_map {α : Type} (p : α → Bool) : ∀ hs : List α, boolsD (hs.map fun a => .bool (p a)) = some (hs.map p)
  | [] => rfl
  | a :: hs => by
    show (boolsD (hs.map fun a => .bool (p a))).map _ = _
    rw [boolsD_map p hs]
    rfl
theorem all_map {α : Type} (p : α → Bool) (hs : List α) : b1D .all (.list (hs.map fun a => .bool (p a))) = some (.val (.bool (hs.all p))) := by
  show (boolsD (hs.map fun a => .bool (p a))).map _ = _
  rw [boolsD_map]
  simp [List.all_map]
theorem any_map {α : Type} (p : α → Bool) (hs : List α) : b1D .any (.list (hs.map fun a => .bool (p a))) = some (.val (.bool (hs.any p))) := by
  show (boolsD (hs.map fun a => .bool (p a))).map _ = _
  rw [boolsD_map]
  simp [List.any_map]
/-! what may be compared -/
theorem gd_lay : ∀ (m : Nat) (d : D), gd m d = true → d.canLay0 = true ∧ d.depth ≤ m + 1
  | 0, d, h => by
    have h : flat0 d = true := h
    cases d <;> first | exact ⟨rfl, Nat.zero_le _⟩ | exact ⟨rfl, Nat.le_refl _⟩ | cases h
  | m + 1, d, h => by
    have all : ∀ xs : List D, (∀ x ∈ xs, gd m x = true) → PyData.canLayAll0 xs = true ∧ PyData.depthAll xs ≤ m + 1 := by
      intro xs
      induction xs with
      | nil =>
        intro _
        exact ⟨by simp [PyData.canLayAll0], by simp [PyData.depthAll]⟩
      | cons x xs ih =>
        intro hx
        have h1 := gd_lay m x (hx x (List.mem_cons_self ..))
        have h2 := ih fun y hy => hx y (List.mem_cons_of_mem _ hy)
        refine ⟨by simp [PyData.canLayAll0, h1.1, h2.1], ?_⟩
        simp only [PyData.depthAll]
        omega
    cases d with
    | list xs =>
      obtain ⟨h1, h2⟩ := Bool.and_eq_true_iff.mp h
      have := all xs (List.all_eq_true.mp h2)
      refine ⟨by simp [PyData.canLay0, this.1], ?_⟩
      simp only [PyData.depth]
      omega
    | tuple xs =>
      obtain ⟨h1, h2⟩ := Bool.and_eq_true_iff.mp h
      have := all xs (List.all_eq_true.mp h2)
      refine ⟨by simp [PyData.canLay0, this.1], ?_⟩
      simp only [PyData.depth]
      omega
    | none => exact ⟨rfl, by simp [PyData.depth]⟩
    | bool b => exact ⟨rfl, by simp [PyData.depth]⟩
    | int b => exact ⟨rfl, by simp [PyData.depth]⟩
    | str x => cases h
    | dict x => cases h
theorem gd_shaped {m : Nat} {d : D} (h : gd m d = true) (hm : m ≤ 60) : SeqAt.shaped d = true := by
  have := gd_lay m d h
  unfold SeqAt.shaped
  rw [this.1, decide_eq_true (by omega)]
  rfl
theorem eq_nil {m : Nat} {xs : List D} (h : gd m (.list xs) = true) (hm : m ≤ 60) : cmpD .eq (.list xs) (.list []) = some xs.isEmpty := by
  have h1 := gd_shaped h hm
  have h2 : SeqAt.shaped (.list []) = true := by decide
  show guardO (SeqAt.shaped (.list xs) && SeqAt.shaped (.list [])) (PyData.eqv (.list xs) (.list [])) = _
  rw [h1, h2]
  cases xs <;> simp [guardO, PyData.eqv, PyData.eqvAll]
theorem ne_nil {m : Nat} {xs : List D} (h : gd m (.list xs) = true) (hm : m ≤ 60) : cmpD .ne (.list xs) (.list []) = some (!xs.isEmpty) := by
  have h1 := gd_shaped h hm
  have h2 : SeqAt.shaped (.list []) = true := by decide
  show guardO (SeqAt.shaped (.list xs) && SeqAt.shaped (.list [])) (!PyData.eqv (.list xs) (.list [])) = _
  rw [h1, h2]
  cases xs <;> simp [guardO, PyData.eqv, PyData.eqvAll]
theorem forL_suf {α : Type} {f : D → Fm → R Fl} (c : α → D) (P : List α → Fm → Prop) : ∀ (hs : List α) (ρ : Fm), P hs ρ → (∀ a rest ρ, P (a :: rest) ρ → ∃ ρ', f (c a) ρ = .ok .nx ρ' ∧ P rest ρ') → ∃ ρ', forL f (hs.map c) ρ = .ok .nx ρ' ∧ P [] ρ'
  | [], ρ, h, _ => ⟨ρ, rfl, h⟩
  | a :: hs, ρ, h, st => by
    obtain ⟨ρ1, e1, p1⟩ := st a hs ρ h
    obtain ⟨ρ2, e2, p2⟩ := forL_suf c P hs ρ1 p1 st
    refine ⟨ρ2, ?_, p2⟩
    show (f (c a) ρ).bind _ = _
    rw [e1]
    exact e2
theorem slo1_t (d : D) (ds : List D) : slV 1 (.tuple (d :: ds)) = some (.val (.tuple ds)) := by
  simp [slV, slcD, cutL, HT.sIx]
theorem t_is_tuple2 (n : Nat) (x y : D) : evC fs (n + 1) 1 [.val (.tuple [x, y]), .val (.int 2), .val (.int 2)] = .ok (.val (.bool true)) [] := by
  rw [u_is_tuple_of]
  unfold b_is_tuple_of
  trivial
  rfl
theorem t_cut (n : Nat) (x b : Int) (hb : 0 < b) (hs : b < 1000000000000000000000000000000000000000000000000000000000000) : evC fs (n + 1) 4 [.val (.int x), .val (.int b)] = .ok (.val (rt x b)) [] := by
  rw [u_cut]
  unfold b_cut
  have h0 : decide (b < 0) = false := decide_eq_false (by omega)
  have g1 := gcd_pos (x := x) hb
  have g2 := gcd_le (x := x) hb
  have h1 : divOk ((Nat.gcd x.natAbs b.natAbs : Nat) : Int) = true := divOk_of (by omega) (by omega)
  exists h0, h1, List.length_cons, List.length_nil, fits
  have e : ∀ y : Int, y.fdiv ((Nat.gcd x.natAbs b.natAbs : Nat) : Int) = y / ((Nat.gcd x.natAbs b.natAbs : Nat) : Int) := fun y => Int.fdiv_eq_ediv_of_nonneg _ (by omega)
  simp [e, rt, Int.gcd, guardO]
theorem le_mul_r {a b : Int} (ha : 0 < a) (hb : 0 < b) : a ≤ a * b := by
  have := Int.mul_le_mul_of_nonneg_left (show 1 ≤ b by omega) (show 0 ≤ a by omega)
  omega
theorem le_mul_l {a b : Int} (ha : 0 < a) (hb : 0 < b) : b ≤ a * b := by
  have := le_mul_r hb ha
  rw [Int.mul_comm]
  exact this
theorem sum_raw (g a p g' a' p' : Int) : (g * a) * (g' * p') + (g' * a') * (g * p) = (g * g') * (a * p' + a' * p) := by grind
theorem dif_raw (g a p g' a' p' : Int) : (g * a) * (g' * p') - (g' * a') * (g * p) = (g * g') * (a * p' - a' * p) := by grind
theorem bot_raw (g p g' p' : Int) : (g * p) * (g' * p') = (g * g') * (p * p') := by grind
section
variable {x b y c : Int} (hb : 0 < b) (hc : 0 < c) (hx : x.natAbs < 1000000000000000000000000000000000000000000000000000000000000) (hy : y.natAbs < 1000000000000000000000000000000000000000000000000000000000000) (hbc : b * c < 1000000000000000000000000000000000000000000000000000000000000)
include hb hc hx hy hbc
theorem t_plus (n : Nat) : evC fs (n + 3) 21 [.val (rt x b), .val (rt y c)] = .ok (.val (rt (x * c + y * b) (b * c))) [] := by
  have k1 := le_mul_r hb hc
  have k2 := le_mul_l hb hc
  obtain ⟨g, a, p, hg, e1, e2, hp, _, e3, l1, l2⟩ := low x b hb
  obtain ⟨g', a', p', hg', e1', e2', hp', _, e3', l1', l2'⟩ := low y c hc
  have k3 : p * p' ≤ b * c := Int.mul_le_mul l2 l2' (by omega) (by omega)
  have h := t_ratio n (a * p' + a' * p) (p * p') (Int.mul_pos hp hp') (by omega)
  have m1 : mulOk a p' = true := mulOk_of (by omega) (by omega)
  have m2 : mulOk a' p = true := mulOk_of (by omega) (by omega)
  have m3 : mulOk p p' = true := mulOk_of (by omega) (by omega)
  have e : rt (x * c + y * b) (b * c) = rt (a * p' + a' * p) (p * p') := by
    rw [e1, e2, e1', e2', sum_raw, bot_raw, rt_scale (Int.mul_pos hg hg')]
  rw [e, e3, e3', u__law_plus]
  unfold b__law_plus
  generalize evC fs (n + 2) = C at h ⊢
  unfold tm
  exists h, m1, m2, m3
theorem sgn_scale {g z : Int} (hg : 0 < g) : (z < 0 ↔ g * z < 0) ∧ (0 < z ↔ 0 < g * z) := by
  have p1 : ∀ z, 0 < z → 0 < g * z := fun z h => Int.mul_pos hg h
  have p2 := p1 (-z)
  have p3 := p1 z
  have e := Int.mul_neg g z
  rcases Int.lt_trichotomy z 0 with h | h | h
  · have := p2 (by omega)
    omega
  · subst h
    simp
  · have := p3 h
    omega
theorem t_side (n : Nat) : ∃ z : Int, evC fs (n + 1) 5 [.val (rt x b), .val (rt y c)] = .ok (.val (.int z)) [] ∧ (z < 0 ↔ x * c - y * b < 0) ∧ (0 < z ↔ 0 < x * c - y * b) := by
  have k1 := le_mul_r hb hc
  have k2 := le_mul_l hb hc
  obtain ⟨g, a, p, hg, e1, e2, hp, _, e3, l1, l2⟩ := low x b hb
  obtain ⟨g', a', p', hg', e1', e2', hp', _, e3', l1', l2'⟩ := low y c hc
  have m1 : mulOk a p' = true := mulOk_of (by omega) (by omega)
  have m2 : mulOk a' p = true := mulOk_of (by omega) (by omega)
  refine ⟨a * p' - a' * p, ?_, ?_⟩
  · rw [e3, e3', u_side]
    unfold b_side
    generalize evC fs n = C
    unfold tm
    exists m1, m2
  · rw [e1, e2, e1', e2', dif_raw]
    exact sgn_scale (x := 0) (y := 0) (b := 1) (c := 1) (by decide) (by decide) (by decide) (by decide) (by decide) (Int.mul_pos hg hg')
theorem t_lless (n : Nat) : evC fs (n + 1) 24 [.val (rt x b), .val (rt y c)] = .ok (.val (.bool (decide (x * c < y * b)))) [] := by
  have k1 := le_mul_r hb hc
  have k2 := le_mul_l hb hc
  obtain ⟨g, a, p, hg, e1, e2, hp, _, e3, l1, l2⟩ := low x b hb
  obtain ⟨g', a', p', hg', e1', e2', hp', _, e3', l1', l2'⟩ := low y c hc
  have m1 : mulOk a p' = true := mulOk_of (by omega) (by omega)
  have m2 : mulOk a' p = true := mulOk_of (by omega) (by omega)
  have q : (a * p' < a' * p) ↔ (x * c < y * b) := by
    have h := (sgn_scale (x := 0) (y := 0) (b := 1) (c := 1) (z := a * p' - a' * p) (by decide) (by decide) (by decide) (by decide) (by decide) (Int.mul_pos hg hg')).1
    rw [← dif_raw, ← e1, ← e2, ← e1', ← e2'] at h
    omega
  have q2 : decide (x * c < y * b) = decide (a * p' < a' * p) := decide_eq_decide.mpr q.symm
  rw [e3, e3', u__law_less, q2]
  unfold b__law_less
  generalize evC fs n = C
  unfold tm
  exists m1, m2
end
theorem t_is_tuple (n : Nat) (xs : List D) (lo hi : Int) : evC fs (n + 1) 1 [.val (.tuple xs), .val (.int lo), .val (.int hi)] = .ok (.val (.bool (decide (lo ≤ xs.length) && decide ((xs.length : Int) ≤ hi)))) [] := by
  rw [u_is_tuple_of]
  unfold b_is_tuple_of
  by_cases h : lo ≤ xs.length
  · exists decide_eq_true h
  · exists decide_eq_false h
theorem t_is_ratio (n : Nat) (a c : Int) (h1 : a.natAbs < 1000000000000000000000000000000000000000000000000000000000000) (h2 : 0 < c) (h3 : c < 1000000000000000000000000000000000000000000000000000000000000) (h4 : Int.gcd a c = 1) : evC fs (n + 2) 3 [.val (tm a c)] = .ok (.val (.bool true)) [] := by
  rw [u_is_ratio]
  unfold b_is_ratio tm
  have e1 := t_is_tuple2 n (.int a) (.int c)
  have e2 := t_is_whole n a (-1000000000000000000000000000000000000000000000000000000000000) 1000000000000000000000000000000000000000000000000000000000000
  have e3 := t_is_whole n c 1 1000000000000000000000000000000000000000000000000000000000000
  rw [decide_eq_true (by omega), decide_eq_true (by omega)] at e2 e3
  generalize evC fs (n + 1) = C at e1 e2 e3 ⊢
  have e4 : ((Nat.gcd a.natAbs c.natAbs : Nat) : Int) = 1 := by
    have : Nat.gcd a.natAbs c.natAbs = 1 := h4
    rw [this]
    rfl
  exists e1, e2, e3, e4
def TOk (u v : Int) : Prop := -1000000000000 ≤ u ∧ u ≤ 1000000000000 ∧ 0 < v ∧ v ≤ 1000000
theorem t_need_time (n : Nat) (u v : Int) (h : TOk u v) : evC fs (n + 4) 7 [.val (rt u v)] = .ok (.val .none) [] := by
  obtain ⟨h1, h2, h3, h4⟩ := h
  obtain ⟨g, a, c, hg, _, _, hc, hd, e, l1, l2⟩ := low u v h3
  rw [e]
  have e1 : evC fs (n + 3) 6 [.val (tm a c)] = .ok (.val (.bool true)) [] := by
    have e1 := t_is_ratio n a c (by omega) hc (by omega) hd
    rw [u_fits_time]
    unfold b_fits_time
    generalize evC fs (n + 2) = C at e1 ⊢
    unfold tm at e1 ⊢
    have d1 : decide ((-1000000000000 : Int) ≤ a) = true := decide_eq_true (by omega)
    have d2 : decide (a ≤ (1000000000000 : Int)) = true := decide_eq_true (by omega)
    have d3 : decide (c ≤ (1000000 : Int)) = true := decide_eq_true (by omega)
    exists e1, d1, d2, d3
  rw [u_need_time]
  unfold b_need_time
  generalize evC fs (n + 3) = C at e1 ⊢
  exists e1
theorem gd_tuple (m : Nat) (xs : List D) (h : xs.length ≤ 16777216) (h2 : ∀ x ∈ xs, gd m x = true) : gd (m + 1) (.tuple xs) = true := by
  show (decide (xs.length ≤ 16777216) && xs.all (gd m)) = true
  rw [decide_eq_true h, List.all_eq_true.mpr h2]
  rfl
theorem t_ltime (n : Nat) (l : List D) (wide most : Int) (hl : CupOk l) (w1 : 1 ≤ wide) (w2 : wide ≤ 100000) (m1 : 1 ≤ most) (m2 : most ≤ 1000000) : ∃ u v l', TOk u v ∧ CupOk l' ∧ evC fs (n + 3) 22 [.own l .lent, .val (.int wide), .val (.int most)] = .ok (.val (rt u v)) [l'] := by
  obtain ⟨r0, l1, c1, a0, a1, e1⟩ := t_roll (n + 1) l most hl m1 (by omega)
  have bb := mul_bd (x := wide) (y := 1 + r0) (X := 100000) (Y := 1000000) (by omega) w2 (by omega) (by omega)
  have eb : 2 * wide * (1 + r0) = 2 * (wide * (1 + r0)) := Int.mul_assoc ..
  obtain ⟨r1, l2, c2, b0, b1, e2⟩ := t_roll (n + 1) l1 (2 * wide * (1 + r0) + 1) c1 (by omega) (by omega)
  refine ⟨r1 - wide * (1 + r0), 1 + r0, l2, ⟨by omega, by omega, by omega, by omega⟩, c2, ?_⟩
  have e3 := t_ratio n (r1 - wide * (1 + r0)) (1 + r0) (by omega) (by omega)
  have x1 : mulOk 2 wide = true := mulOk_of (by omega) (by omega)
  have x2 : mulOk (2 * wide) (1 + r0) = true := mulOk_of (by omega) (by omega)
  have x3 : mulOk wide (1 + r0) = true := mulOk_of (by omega) (by omega)
  rw [u__law_time]
  unfold b__law_time
  have e1 : evC fs (n + 2) 16 _ = _ := e1
  have e2 : evC fs (n + 2) 16 _ = _ := e2
  generalize evC fs (n + 2) = C at *
  exists e1, e2, e3, x1, x2, x3
theorem p10_6 : powOk 10 6 = true := by decide +kernel
theorem p10_6v : (10 : Int) ^ (6 : Int).toNat = 1000000 := by decide +kernel
/-! clearances, in plain numbers -/
def dst (r p q : Int) : Int := if q - r * p % q < r * p % q then q - r * p % q else r * p % q
def mn : List Int → Int
  | [] => 0
  | [a] => a
  | a :: b :: r => if a ≤ mn (b :: r) then a else mn (b :: r)
def cl (R : List Int) (p q : Int) : Int := mn (R.map fun r => dst r p q)
theorem mn_min : ∀ l : List Int, l ≠ [] → minL l = some (mn l)
  | [], h => absurd rfl h
  | [a], _ => rfl
  | a :: b :: r, _ => by
    show (minL (b :: r)).map (fun m => if a ≤ m then a else m) = _
    rw [mn_min (b :: r) (by simp)]
    rfl
theorem mn_ge (d : Int) : ∀ l : List Int, l ≠ [] → (d ≤ mn l ↔ ∀ x ∈ l, d ≤ x)
  | [], h => absurd rfl h
  | [a], _ => by simp [mn]
  | a :: b :: r, _ => by
    have ih := mn_ge d (b :: r) (by simp)
    have e : mn (a :: b :: r) = if a ≤ mn (b :: r) then a else mn (b :: r) := rfl
    rw [List.forall_mem_cons, ← ih, e]
    split <;> omega
theorem mn_mul {g : Int} (hg : 0 < g) : ∀ l : List Int, mn (l.map (g * ·)) = g * mn l
  | [] => by simp [mn]
  | [a] => rfl
  | a :: b :: r => by
    have ih := mn_mul hg (b :: r)
    have e : mn ((a :: b :: r).map (g * ·)) = if g * a ≤ mn ((b :: r).map (g * ·)) then g * a else mn ((b :: r).map (g * ·)) := rfl
    rw [e, ih]
    have m := Int.mul_le_mul_left (a := g) (b := a) (c := mn (b :: r)) hg
    show _ = g * (if a ≤ mn (b :: r) then a else mn (b :: r))
    split <;> split <;> omega
theorem dst_ge {d r p q : Int} : d ≤ dst r p q ↔ d ≤ r * p % q ∧ d ≤ q - r * p % q := by
  unfold dst
  split <;> omega
theorem cl_ge {R : List Int} (hR : R ≠ []) {d p q : Int} : d ≤ cl R p q ↔ ∀ r ∈ R, d ≤ r * p % q ∧ d ≤ q - r * p % q := by
  unfold cl
  rw [mn_ge d _ (by simpa using hR)]
  simp only [List.mem_map, forall_exists_index, and_imp, forall_apply_eq_imp_iff₂, dst_ge]
theorem md_bd {x q : Int} (hq : 0 < q) : 0 ≤ x % q ∧ x % q < q := ⟨Int.emod_nonneg _ (by omega), Int.emod_lt_of_pos _ hq⟩
theorem cl_nn {R : List Int} (hR : R ≠ []) {p q : Int} (hq : 0 < q) : 0 ≤ cl R p q := (cl_ge hR).mpr fun r _ => by
  have := md_bd (x := r * p) hq
  omega
theorem cl_scale (R : List Int) {g p q : Int} (hg : 0 < g) : cl R (g * p) (g * q) = g * cl R p q := by
  unfold cl
  rw [← mn_mul hg, List.map_map]
  congr 1
  refine List.map_congr_left fun r _ => ?_
  show dst r (g * p) (g * q) = g * dst r p q
  have e : r * (g * p) % (g * q) = g * (r * p % q) := by
    rw [Int.mul_left_comm, Int.mul_emod_mul_of_pos _ _ hg]
  unfold dst
  rw [e, ← Int.mul_sub]
  have m := Int.mul_lt_mul_left (a := g) (b := q - r * p % q) (c := r * p % q) hg
  split <;> split <;> omega
theorem cl_cong (R : List Int) {p q u v : Int} (hq : 0 < q) (hv : 0 < v) (h : p * v = u * q) : cl R p q * v = cl R u v * q := by
  obtain ⟨g, a, c, hg, e1, e2, hc, _, e3, _, _⟩ := low p q hq
  obtain ⟨g', a', c', hg', e1', e2', hc', _, e3', _, _⟩ := low u v hv
  have e := rt_eq hq hv h
  rw [e3, e3'] at e
  obtain ⟨rfl, rfl⟩ := tm_inj e
  rw [e1, e2, e1', e2', cl_scale R hg, cl_scale R hg']
  have : ∀ x : Int, g * x * (g' * c) = g' * x * (g * c) := fun x => by grind
  exact this _
theorem cl_shift (R : List Int) (p q k : Int) : cl R (p + q * k) q = cl R p q := by
  unfold cl
  congr 1
  refine List.map_congr_left fun r _ => ?_
  have e : r * (p + q * k) % q = r * p % q := by
    rw [Int.mul_add, Int.mul_left_comm, Int.add_mul_emod_self_left]
  unfold dst
  rw [e]
theorem cl_neg (R : List Int) {p q : Int} (hq : 0 < q) : cl R (-p) q = cl R p q := by
  unfold cl
  congr 1
  refine List.map_congr_left fun r _ => ?_
  have b := md_bd (x := r * p) hq
  have e : r * -p % q = if r * p % q = 0 then 0 else q - r * p % q := by
    rw [Int.mul_neg]
    have d := Int.mul_ediv_add_emod (r * p) q
    split
    · rename_i z
      have e2 : -(r * p) = q * (-(r * p / q)) := by rw [Int.mul_neg]; omega
      rw [e2]
      exact Int.mul_emod_right _ _
    · rename_i z
      have e2 : -(r * p) = (q - r * p % q) + q * (-(r * p / q) - 1) := by
        rw [Int.mul_sub, Int.mul_neg]
        omega
      rw [e2, Int.add_mul_emod_self_left]
      exact Int.emod_eq_of_lt (by omega) (by omega)
  unfold dst
  rw [e]
  split <;> split <;> split <;> omega
theorem cl_01 {R : List Int} (hR : R ≠ []) : cl R 0 1 = 0 := by
  have h0 := cl_nn hR (p := 0) (q := 1) (by decide)
  cases R with
  | nil => exact absurd rfl hR
  | cons r R =>
    have := ((cl_ge hR (d := cl (r :: R) 0 1) (p := 0) (q := 1)).mp (Int.le_refl _) r (List.mem_cons_self ..)).1
    have e : r * 0 % 1 = 0 := by simp
    omega
/-! fractions by their cross products -/
theorem fr_le {a b c d e f : Int} (hb : 0 < b) (hd : 0 < d) (hf : 0 < f) (h1 : a * d ≤ c * b) (h2 : c * f ≤ e * d) : a * f ≤ e * b := by
  have m1 := Int.mul_le_mul_of_nonneg_right h1 (Int.le_of_lt hf)
  have m2 := Int.mul_le_mul_of_nonneg_right h2 (Int.le_of_lt hb)
  have e1 : a * d * f = d * (a * f) := by grind
  have e2 : c * b * f = c * f * b := by grind
  have e3 : e * d * b = d * (e * b) := by grind
  exact Int.le_of_mul_le_mul_left (show d * (a * f) ≤ d * (e * b) by omega) hd
theorem fr_eq {a b c d e f : Int} (hb : 0 < b) (hd : 0 < d) (hf : 0 < f) (h1 : a * d ≤ c * b) (h2 : c * f ≤ e * d) (h : a * f = e * b) : a * d = c * b ∧ c * f = e * d := by
  have q1 := fr_le (a := c) (b := d) (c := e) (d := f) (e := a) (f := b) hd hf hb h2 (by omega)
  have q2 := fr_le (a := e) (b := f) (c := a) (d := b) (e := c) (f := d) hf hb hd (by omega) h1
  omega
def GE (R : List Int) (p q u v : Int) : Prop := cl R u v * q ≤ cl R p q * v ∧ (cl R u v * q = cl R p q * v → p * v ≤ u * q)
theorem GE.trans {R : List Int} {p q u v w x : Int} (hq : 0 < q) (hv : 0 < v) (hx : 0 < x) (a : GE R p q u v) (b : GE R u v w x) : GE R p q w x := by
  refine ⟨fr_le hx hv hq b.1 a.1, fun h => ?_⟩
  obtain ⟨e1, e2⟩ := fr_eq hx hv hq b.1 a.1 h
  exact fr_le hq hv hx (a.2 e2) (b.2 e1)
theorem GE.refl (R : List Int) (p q : Int) : GE R p q p q := ⟨Int.le_refl _, fun _ => Int.le_refl _⟩
theorem GE.eqv {R : List Int} {p q u v : Int} (hq : 0 < q) (hv : 0 < v) (h : p * v = u * q) : GE R p q u v := by
  have := cl_cong R hq hv h
  exact ⟨by omega, fun _ => by omega⟩
theorem GE.anti {R : List Int} {p q u v : Int} (a : GE R p q u v) (b : GE R u v p q) : cl R p q * v = cl R u v * q ∧ p * v = u * q := by
  have h1 := a.1
  have h2 := b.1
  have h3 := a.2 (by omega)
  have h4 := b.2 (by omega)
  omega
/-! the best times are among top / (i + j) -/
theorem argmin {α : Type} (N s : α → Int) : ∀ l : List α, l ≠ [] → (∀ x ∈ l, 0 < s x) → ∃ x ∈ l, ∀ y ∈ l, N x * s y ≤ N y * s x
  | [], h, _ => absurd rfl h
  | [a], _, _ => ⟨a, List.mem_cons_self .., fun y hy => by rw [List.mem_singleton.mp hy]; exact Int.le_refl _⟩
  | a :: b :: r, _, hs => by
    obtain ⟨x, hx, h⟩ := argmin N s (b :: r) (by simp) fun y hy => hs y (List.mem_cons_of_mem _ hy)
    have sx := hs x (List.mem_cons_of_mem _ hx)
    have sa := hs a (List.mem_cons_self ..)
    by_cases q : N x * s a ≤ N a * s x
    · refine ⟨x, List.mem_cons_of_mem _ hx, fun y hy => ?_⟩
      rcases List.mem_cons.mp hy with z | z
      · rw [z]
        exact q
      · exact h y z
    · refine ⟨a, List.mem_cons_self .., fun y hy => ?_⟩
      rcases List.mem_cons.mp hy with z | z
      · rw [z]
        exact Int.le_refl _
      · exact fr_le sa sx (hs y (List.mem_cons_of_mem _ z)) (by omega) (h y z)
theorem kr1 (i j mi mj : Int) : j * (mi + mj + 1) = (i + j) * (mj + 1) - (i * (mj + 1) - j * mi) := by grind
theorem kr2 (i j mi mj : Int) : i * (mi + mj + 1) = (i + j) * mi + (i * (mj + 1) - j * mi) := by grind
theorem kr3 (k mk j mj s N t : Int) (h : j * t = s * (mj + 1) - N) : j * (k * t - s * mk - N) = s * (k * (mj + 1) - j * mk) - N * (k + j) := by grind
theorem kr4 (k mk i mi s N t : Int) (h : i * t = s * mi + N) : i * (s - (k * t - s * mk) - N) = s * (i * (mk + 1) - k * mi) - N * (i + k) := by grind
theorem kr5 (i j p q mi mj : Int) : j * (i * p - q * mi) + i * (q * (mj + 1) - j * p) = q * (i * (mj + 1) - j * mi) := by grind
theorem kr6 (i j c q N p mi : Int) : (i * p - q * mi - c) * j = j * (i * p - q * mi) - c * j := by grind
theorem kr7 (i p q s t mi N c : Int) (h1 : i * p - q * mi = c) (h2 : i * t = s * mi + N) (h3 : c * s = q * N) : i * (t * q) = i * (p * s) := by grind
theorem nn_of_mul {j x : Int} (hj : 0 < j) (h : 0 ≤ j * x) : 0 ≤ x := by
  rcases Int.lt_or_le x 0 with q | q
  · have := Int.mul_pos hj (show 0 < -x by omega)
    rw [Int.mul_neg] at this
    omega
  · exact q
theorem key {R : List Int} (hR : R ≠ []) (pos : ∀ r ∈ R, 0 < r) {p q : Int} (hp : 0 ≤ p) (hpq : p < q) :
    ∃ i ∈ R, ∃ j ∈ R, ∃ t, 1 ≤ t ∧ t < i + j ∧ cl R p q * (i + j) ≤ cl R t (i + j) * q ∧ (cl R t (i + j) * q ≤ cl R p q * (i + j) → t * q = p * (i + j)) := by
  have hq : 0 < q := by omega
  obtain ⟨⟨i, j⟩, hx, hmin⟩ := argmin (fun x : Int × Int => x.1 * (x.2 * p / q + 1) - x.2 * (x.1 * p / q)) (fun x => x.1 + x.2) (R.flatMap fun i => R.map fun j => (i, j)) (by
    cases R with
    | nil => exact absurd rfl hR
    | cons a R => simp) fun x hx => by
    obtain ⟨i, hi, hx⟩ := List.mem_flatMap.mp hx
    obtain ⟨j, hj, rfl⟩ := List.mem_map.mp hx
    have := pos i hi
    have := pos j hj
    show 0 < i + j
    omega
  obtain ⟨i', hi, hx⟩ := List.mem_flatMap.mp hx
  obtain ⟨j', hj, hx⟩ := List.mem_map.mp hx
  cases hx
  have hmin : ∀ a ∈ R, ∀ b ∈ R, (i * (j * p / q + 1) - j * (i * p / q)) * (a + b) ≤ (a * (b * p / q + 1) - b * (a * p / q)) * (i + j) := fun a ha b hb => hmin (a, b) (List.mem_flatMap.mpr ⟨a, ha, List.mem_map.mpr ⟨b, hb, rfl⟩⟩)
  have pi := pos i hi
  have pj := pos j hj
  generalize hm : (fun x : Int => x * p / q) = m at *
  have em : ∀ x, x * p / q = m x := fun x => by rw [← hm]
  simp only [em] at hmin
  have mb : ∀ x, 0 < x → 0 ≤ m x ∧ m x < x := fun x hx => by
    rw [← hm]
    refine ⟨Int.ediv_nonneg (Int.mul_nonneg (by omega) hp) (by omega), Int.ediv_lt_of_lt_mul hq ?_⟩
    exact Int.mul_lt_mul_of_pos_left hpq hx
  have md : ∀ x, x * p % q = x * p - q * m x := fun x => by
    have := Int.mul_ediv_add_emod (x * p) q
    rw [em] at this
    omega
  have bi := mb i pi
  have bj := mb j pj
  have hc := (cl_ge hR (d := cl R p q) (p := p) (q := q)).mp (Int.le_refl _)
  simp only [md] at hc
  have c1 := (hc i hi).1
  have c2 := (hc j hj).2
  have c3 : q * (m j + 1) = q * m j + q := by rw [Int.mul_add]; omega
  generalize hN : i * (m j + 1) - j * m i = N at *
  have t1 := kr1 i j (m i) (m j)
  have t2 := kr2 i j (m i) (m j)
  rw [hN] at t1 t2
  have k5 := kr5 i j p q (m i) (m j)
  rw [hN] at k5
  -- c s ≤ q N
  have l1 := Int.mul_le_mul_of_nonneg_left c1 (Int.le_of_lt pj)
  have l2 := Int.mul_le_mul_of_nonneg_left (show cl R p q ≤ q * (m j + 1) - j * p by omega) (Int.le_of_lt pi)
  have cs : cl R p q * (i + j) ≤ q * N := by
    rw [Int.mul_add, Int.mul_comm _ i, Int.mul_comm _ j]
    omega
  -- N ≤ cl
  have hs : 0 < i + j := by omega
  have nc : N ≤ cl R (m i + m j + 1) (i + j) := by
    rcases Int.lt_or_le 0 N with q0 | q0
    · refine (cl_ge hR).mpr fun k hk => ?_
      have pk := pos k hk
      have a1 := hmin k hk j hj
      have a2 := hmin i hi k hk
      have z1 := kr3 k (m k) j (m j) (i + j) N _ t1
      have z2 := kr4 k (m k) i (m i) (i + j) N _ t2
      have w1 : 0 ≤ k * (m i + m j + 1) - (i + j) * m k - N := nn_of_mul pj (by
        rw [z1, Int.mul_comm (i + j)]
        omega)
      have w2 : 0 ≤ i + j - (k * (m i + m j + 1) - (i + j) * m k) - N := nn_of_mul pi (by
        rw [z2, Int.mul_comm (i + j)]
        omega)
      have e : k * (m i + m j + 1) % (i + j) = k * (m i + m j + 1) - (i + j) * m k := by
        have e1 : k * (m i + m j + 1) = (k * (m i + m j + 1) - (i + j) * m k) + (i + j) * m k := by omega
        rw [e1, Int.add_mul_emod_self_left, Int.add_sub_cancel]
        exact Int.emod_eq_of_lt (by omega) (by omega)
      rw [e]
      omega
    · exact Int.le_trans q0 (cl_nn hR hs)
  refine ⟨i, hi, j, hj, m i + m j + 1, by omega, by omega, ?_, fun h => ?_⟩
  · have := Int.mul_le_mul_of_nonneg_left nc (Int.le_of_lt hq)
    rw [Int.mul_comm q (cl R _ _)] at this
    omega
  · have z := Int.mul_le_mul_of_nonneg_left nc (Int.le_of_lt hq)
    rw [Int.mul_comm q (cl R _ _)] at z
    have e3 : cl R p q * (i + j) = q * N := by omega
    have e4 : j * (i * p - q * m i) = j * cl R p q := by
      rw [Int.mul_add, Int.mul_comm _ i, Int.mul_comm _ j] at e3
      omega
    have e5 : i * p - q * m i = cl R p q := Int.eq_of_mul_eq_mul_left (by omega) e4
    exact Int.eq_of_mul_eq_mul_left (show i ≠ 0 by omega) (kr7 i p q (i + j) (m i + m j + 1) (m i) N _ e5 t2 e3)
/-! the best of a set -/
def SP (R : List Int) (u v : Int) : Prop := ∃ i ∈ R, ∃ j ∈ R, v = i + j ∧ 1 ≤ u ∧ u < v
structure Best (R : List Int) (S : Int → Int → Prop) (p q : Int) : Prop where
  p0 : 0 ≤ p
  pq : p < q
  qb : q ≤ 120
  mem : S p q ∨ (p = 0 ∧ q = 1)
  ge0 : GE R p q 0 1
  ge : ∀ u v, S u v → GE R p q u v
def cond (R : List Int) (p q u v : Int) : Prop := 0 < cl R u v * q - cl R p q * v ∨ (cl R u v * q = cl R p q * v ∧ u * q - p * v < 0)
theorem best_new {R : List Int} {S : Int → Int → Prop} {p q u v : Int} (b : Best R S p q) (pos : ∀ u v, S u v → 0 < v) (u0 : 0 ≤ u) (uv : u < v) (vb : v ≤ 120) (h : cond R p q u v) : Best R (fun x y => S x y ∨ (x = u ∧ y = v)) u v := by
  have q0 := b.p0
  have q1 := b.pq
  have g : GE R u v p q := by
    unfold cond at h
    constructor <;> omega
  refine ⟨u0, uv, vb, .inl (.inr ⟨rfl, rfl⟩), g.trans (by omega) (by omega) (by decide) b.ge0, fun x y hxy => ?_⟩
  rcases hxy with hxy | ⟨rfl, rfl⟩
  · exact g.trans (by omega) (by omega) (pos x y hxy) (b.ge x y hxy)
  · exact .refl _ _ _
theorem best_old {R : List Int} {S : Int → Int → Prop} {p q u v : Int} (b : Best R S p q) (h : ¬ cond R p q u v) : Best R (fun x y => S x y ∨ (x = u ∧ y = v)) p q := by
  refine ⟨b.p0, b.pq, b.qb, b.mem.imp .inl id, b.ge0, fun x y hxy => ?_⟩
  rcases hxy with hxy | ⟨rfl, rfl⟩
  · exact b.ge x y hxy
  · unfold cond at h
    constructor <;> omega
theorem Best.congr {R : List Int} {S T : Int → Int → Prop} {p q : Int} (b : Best R S p q) (h : ∀ u v, S u v ↔ T u v) : Best R T p q :=
  ⟨b.p0, b.pq, b.qb, b.mem.imp (h p q).mp id, b.ge0, fun u v z => b.ge u v ((h u v).mpr z)⟩
theorem best_start {R : List Int} {S : Int → Int → Prop} (h : ∀ u v, ¬ S u v) : Best R S 0 1 := ⟨by decide, by decide, by decide, .inr ⟨rfl, rfl⟩, .refl _ _ _, fun u v z => absurd z (h u v)⟩
theorem top_of {R : List Int} (hR : R ≠ []) (pos : ∀ r ∈ R, 0 < r) {p q : Int} (b : Best R (SP R) p q) {u v : Int} (u0 : 0 ≤ u) (uv : u < v) : GE R p q u v := by
  obtain ⟨i, hi, j, hj, t, t1, t2, h1, h2⟩ := key hR pos u0 uv
  have g := b.ge t (i + j) ⟨i, hi, j, hj, rfl, t1, t2⟩
  have q0 := b.p0
  have q1 := b.pq
  have l1 : cl R u v * q ≤ cl R p q * v := fr_le (by omega) (by omega) (by omega) h1 g.1
  refine ⟨l1, fun e => ?_⟩
  obtain ⟨e1, e2⟩ := fr_eq (by omega) (by omega) (by omega) h1 g.1 e
  have e3 := h2 (by omega)
  exact fr_le (b := q) (d := i + j) (f := v) (c := t) (by omega) (by omega) (by omega) (g.2 e2) (by omega)
/-- .. whatever the time -/
theorem top_any {R : List Int} (hR : R ≠ []) (pos : ∀ r ∈ R, 0 < r) {p q : Int} (b : Best R (SP R) p q) {u v : Int} (hv : 0 < v) : cl R u v * q ≤ cl R p q * v := by
  have d := Int.mul_ediv_add_emod u v
  have m := md_bd (x := u) hv
  have e := cl_shift R (u % v) v (u / v)
  rw [show u % v + v * (u / v) = u by omega] at e
  rw [e]
  exact (top_of hR pos b m.1 m.2).1
/-! clear_at, the law's clear -/
abbrev rD (R : List Int) : D := .tuple (R.map .int)
structure ROk (R : List Int) : Prop where
  ne : R ≠ []
  l5 : R.length ≤ 5
  bd : ∀ r ∈ R, 1 ≤ r ∧ r ≤ 60
  up : R.Pairwise (· < ·)
theorem ROk.pos {R : List Int} (h : ROk R) : ∀ r ∈ R, 0 < r := fun r hr => by have := (h.bd r hr).1; omega
theorem map_some {α : Type} (k : α → D) (hs : List α) : hs.filterMap (fun a => some (k a)) = hs.map k := fm_some k hs
theorem intsD_map : ∀ l : List Int, intsD (l.map .int) = some l
  | [] => rfl
  | a :: l => by
    show (intsD (l.map .int)).map (a :: ·) = _
    rw [intsD_map l]
    rfl
theorem min_map {l : List Int} (h : l ≠ []) : b1D .min (.list (l.map .int)) = some (.val (.int (mn l))) := by
  show ((intsD (l.map .int)).bind minL).map (fun m => RV.val (.int m)) = _
  rw [intsD_map, Option.bind_some, mn_min l h]
  rfl
theorem b2min (i j : Int) : b2D .min (.int i) (.int j) = some (.int (if j < i then j else i)) := id rfl
theorem ul5_2 (s0 s1 : Sl) (xs : List D) (s3 s4 : Sl) : unlock [s0, s1, .own xs .lockM, s3, s4] [2] = [s0, s1, .own xs .mine, s3, s4] := id rfl
theorem ur_ok {α : Type} (lk : List Nat) (a : α) (ρ : Fm) : unlockR lk (.ok a ρ) = .ok a (unlock ρ lk) := id rfl
theorem compAll_ofL {α : Type} {own lk : List Nat} {f : D → Fm → R (Option D)} {hs : List α} {c : α → D} {k : α → D} {ρ : Fm} (hf : hs.length ≤ 16777216) (h : ∀ a ∈ hs, backR ρ own (f (c a) (wipeF ρ own)) = .ok (some (k a)) ρ) : compAll own f (hs.map c) lk ρ = .ok (.tmp (hs.map k)) (unlock ρ lk) := by
  unfold compAll
  rw [if_pos (show fits (hs.map c).length = true from decide_eq_true (by rw [List.length_map]; exact hf)), compL_of (c := c) (k := fun a => some (k a)) hs h, fm_some]
section
variable {R : List Int} (ok : ROk R) {p q : Int} (ht : TOk p q)
include ok ht
theorem cl_lt : 0 ≤ cl R p q ∧ cl R p q ≤ q := by
  obtain ⟨h1, h2, h3, h4⟩ := ht
  refine ⟨cl_nn ok.ne h3, ?_⟩
  obtain ⟨r, R', rfl⟩ := List.exists_cons_of_ne_nil ok.ne
  have := ((cl_ge ok.ne (d := cl (r :: R') p q) (p := p) (q := q)).mp (Int.le_refl _) r (List.mem_cons_self ..)).1
  have := md_bd (x := r * p) h3
  omega
theorem t_clear (n : Nat) : evC fs (n + 2) 9 [.val (rD R), .val (rt p q)] = .ok (.val (rt (cl R p q) q)) [] := by
  obtain ⟨h1, h2, h3, h4⟩ := ht
  obtain ⟨g, a, c, hg, e1, e2, hc, hd, e, l1, l2⟩ := low p q h3
  have ht' : TOk a c := ⟨by omega, by omega, hc, by omega⟩
  have e5 : rt (cl R p q) q = rt (cl R a c) c := by rw [e1, e2, cl_scale R hg, rt_scale hg]
  have b := cl_lt ok ht'
  have e6 := t_cut n (cl R a c) c hc (by omega)
  rw [e, e5, u_clear_at]
  unfold b_clear_at tm rD
  have e6 : evC fs (n + 1) 4 _ = _ := e6
  have d1 : decide (c ≠ 0) = true := decide_eq_true (by omega)
  generalize evC fs (n + 1) = C at e6 ⊢
  exists d1
  have q1 : ∀ s2 s4 : Sl, compAll [3] (itemF C (.bin .mod (.bin .mul (.var 3) (.idx (.var 1) (.lit (.int 0)))) (.idx (.var 1) (.lit (.int 1)))) (.name 3)) (R.map .int) [] [.val (.tuple (R.map .int)), .val (.tuple [.int a, .int c]), s2, .no, s4] = .ok (.tmp ((R.map fun r => r * a % c).map .int)) [.val (.tuple (R.map .int)), .val (.tuple [.int a, .int c]), s2, .no, s4] := fun s2 s4 => by
    rw [compAll_of (c := PyData.int) (k := fun r => some (.int (r * a % c))) (by have := ok.l5; omega)]
    · rw [fm_some, List.map_map]
      rfl
    · intro r hr
      have := ok.bd r hr
      have m1 : mulOk r a = true := mulOk_of (by omega) (by omega)
      have f1 := fmod_pos (x := r * a) hc
      exists m1, d1, f1
  rw [q1]
  exists ul5_2
  have q2 : ∀ s2 s3 : Sl, compAll [4] (itemF C (.b2 .min (.var 4) (.bin .sub (.idx (.var 1) (.lit (.int 1))) (.var 4))) (.name 4)) ((R.map fun r => r * a % c).map .int) [2] [.val (.tuple (R.map .int)), .val (.tuple [.int a, .int c]), s2, s3, .no] = .ok (.tmp ((R.map fun r => dst r a c).map .int)) (unlock [.val (.tuple (R.map .int)), .val (.tuple [.int a, .int c]), s2, s3, .no] [2]) := fun s2 s3 => by
    rw [compAll_ofL (c := PyData.int) (k := fun m => .int (if c - m < m then c - m else m)) (by rw [List.length_map]; have := ok.l5; omega)]
    · rw [List.map_map, List.map_map]
      rfl
    · intro m hm
      exists b2min
  have em : mn (R.map fun r => dst r a c) = cl R a c := rfl
  exists q2, ul5_2, min_map (l := R.map fun r => dst r a c) (by simpa using ok.ne), em, e6
def lcB : IS := (.seq (.asg 4 (.bin .mod (.b1 .int (.bin .mul (.var 3) (.idx (.var 1) (.lit (.int 0))))) (.idx (.var 1) (.lit (.int 1)))))
   (.seq (.asg 5 (.b2 .min (.var 4) (.bin .sub (.idx (.var 1) (.lit (.int 1))) (.var 4))))
   (.seq (.asg 2 (.ite (.or (.cons (.cmp .isN (.var 2) (.lit .none)) (.cons (.cmp .lt (.var 5) (.var 2)) .nil))) (.var 5) (.var 2)))
   .skip)))
end
theorem forL_pre {α : Type} {f : D → Fm → R Fl} (c : α → D) (P : List α → Fm → Prop) : ∀ (hs pre : List α) (ρ : Fm), P pre ρ → (∀ pre a ρ, a ∈ hs → P pre ρ → ∃ ρ', f (c a) ρ = .ok .nx ρ' ∧ P (pre ++ [a]) ρ') → ∃ ρ', forL f (hs.map c) ρ = .ok .nx ρ' ∧ P (pre ++ hs) ρ'
  | [], pre, ρ, h, _ => ⟨ρ, rfl, by simpa using h⟩
  | a :: hs, pre, ρ, h, t => by
    obtain ⟨ρ1, e1, h1⟩ := t pre a ρ (List.mem_cons_self ..) h
    obtain ⟨ρ2, e2, h2⟩ := forL_pre c P hs (pre ++ [a]) ρ1 h1 fun pre b ρ hb => t pre b ρ (List.mem_cons_of_mem _ hb)
    refine ⟨ρ2, ?_, by simpa using h2⟩
    rw [List.map_cons, fl_cons, e1, k_fl_nx, e2]
theorem mn_snoc (x : Int) : ∀ l : List Int, l ≠ [] → mn (l ++ [x]) = if x < mn l then x else mn l
  | [], h => absurd rfl h
  | [a], _ => by
    show (if a ≤ x then a else x) = if x < a then x else a
    split <;> split <;> omega
  | a :: b :: r, _ => by
    have ih := mn_snoc x (b :: r) (by simp)
    show (if a ≤ mn (b :: r ++ [x]) then a else mn (b :: r ++ [x])) = if x < (if a ≤ mn (b :: r) then a else mn (b :: r)) then x else (if a ≤ mn (b :: r) then a else mn (b :: r))
    rw [ih]
    generalize mn (b :: r) = m
    repeat' split
    all_goals omega
/-- the least so far -/
def lo (l : List Int) : D := if l = [] then .none else .int (mn l)
theorem lo_turn (C : Nat → List Wk.Arg → RC) (s0 s3 s4 s5 : Sl) {r a c : Int} (pre : List Int) (hr : 1 ≤ r ∧ r ≤ 60) (ha : a.natAbs ≤ 1000000000000) (hc : 0 < c) (f3 : free? (some s3) = true) (f4 : free? (some s4) = true) (f5 : free? (some s5) = true) :
    turnF C (.name 3) lcB (.int r) [s0, .val (.tuple [.int a, .int c]), .val (lo pre), s3, s4, s5] = .ok .nx [s0, .val (.tuple [.int a, .int c]), .val (lo (pre ++ [dst r a c])), .val (.int r), .val (.int (r * a % c)), .val (.int (dst r a c))] := by
  have m1 : mulOk r a = true := mulOk_of (by omega) (by omega)
  have d1 : decide (c ≠ 0) = true := decide_eq_true (by omega)
  have f1 := fmod_pos (x := r * a) hc
  have ed : (if c - r * a % c < r * a % c then c - r * a % c else r * a % c) = dst r a c := rfl
  have el : lo (pre ++ [dst r a c]) = if pre = [] then .int (dst r a c) else .int (if dst r a c < mn pre then dst r a c else mn pre) := by
    unfold lo
    rw [if_neg (by simp)]
    split
    · rename_i h
      subst h
      rfl
    · rename_i h
      rw [mn_snoc _ _ h]
  rw [el]
  unfold lcB
  by_cases h : pre = []
  · subst h
    rw [if_pos rfl]
    have e0 : lo [] = .none := rfl
    rw [e0]
    exists f3, f4, f5, m1, d1, f1, b2min, ed
  · have e0 : lo pre = .int (mn pre) := if_neg h
    rw [if_neg h, e0]
    by_cases q : dst r a c < mn pre
    · rw [if_pos q]
      have dq : decide (dst r a c < mn pre) = true := decide_eq_true q
      exists f3, f4, f5, m1, d1, f1, b2min, ed, dq
    · rw [if_neg q]
      have dq : decide (dst r a c < mn pre) = false := decide_eq_false q
      exists f3, f4, f5, m1, d1, f1, b2min, ed, dq
theorem t_lclear {R : List Int} (ok : ROk R) {p q : Int} (ht : TOk p q) (n : Nat) : evC fs (n + 3) 23 [.val (rD R), .val (rt p q)] = .ok (.val (rt (cl R p q) q)) [] := by
  obtain ⟨h1, h2, h3, h4⟩ := ht
  obtain ⟨g, a, c, hg, e1, e2, hc, hd, e, l1, l2⟩ := low p q h3
  have ht' : TOk a c := ⟨by omega, by omega, hc, by omega⟩
  have e5 : rt (cl R p q) q = rt (cl R a c) c := by rw [e1, e2, cl_scale R hg, rt_scale hg]
  have b := cl_lt ok ht'
  have e6 := t_ratio n (cl R a c) c hc (by omega)
  rw [e, e5, u__law_clear]
  unfold b__law_clear tm rD
  have e6 : evC fs (n + 2) 20 _ = _ := e6
  generalize evC fs (n + 2) = C at e6 ⊢
  have z := forL_pre (f := turnF C (.name 3) lcB) PyData.int (fun pre ρ => ∃ s3 s4 s5, free? (some s3) = true ∧ free? (some s4) = true ∧ free? (some s5) = true ∧ ρ = [.val (.tuple (R.map .int)), .val (.tuple [.int a, .int c]), .val (lo (pre.map fun r => dst r a c)), s3, s4, s5]) R [] [.val (.tuple (R.map .int)), .val (.tuple [.int a, .int c]), .val .none, .no, .no, .no] ⟨.no, .no, .no, rfl, rfl, rfl, rfl⟩ (by
    rintro pre r ρ hr ⟨s3, s4, s5, f3, f4, f5, rfl⟩
    refine ⟨_, lo_turn C _ s3 s4 s5 _ (ok.bd r hr) (by omega) hc f3 f4 f5, .val (.int r), .val (.int (r * a % c)), .val (.int (dst r a c)), rfl, rfl, rfl, ?_⟩
    rw [List.map_append]
    rfl)
  obtain ⟨ρ', z, s3, s4, s5, f3, f4, f5, rfl⟩ := z
  have el : lo (([] ++ R).map fun r => dst r a c) = .int (cl R a c) := if_neg (by simpa using ok.ne)
  rw [el] at z
  unfold lcB at z
  exists z, e6
/-! greatest_in -/
def bD (R : List Int) (p q : Int) : D := .tuple [rt (cl R p q) q, rt p q]
def gB : IS := (.seq (.asg 6 (.call 4 (.cons (.var 5) (.cons (.bin .add (.var 3) (.var 4)) .nil))))
       (.seq (.asg 7 (.call 9 (.cons (.var 0) (.cons (.var 6) .nil))))
       (.seq (.ite (.or (.cons (.cmp .gt (.call 5 (.cons (.var 7) (.cons (.idx (.var 1) (.lit (.int 0))) .nil))) (.lit (.int 0))) (.cons (.and (.cons (.cmp .eq (.var 7) (.idx (.var 1) (.lit (.int 0)))) (.cons (.cmp .lt (.call 5 (.cons (.var 6) (.cons (.idx (.var 1) (.lit (.int 1))) .nil))) (.lit (.int 0))) .nil))) .nil)))
         (.seq (.asg 1 (.tup (.cons (.var 7) (.cons (.var 6) .nil))))
         .skip)
         .skip)
       .skip)))
section
variable {R : List Int} (ok : ROk R)
include ok
theorem g_turn (n : Nat) (k : Int) {i j p q u : Int} (p0 : 0 ≤ p) (pq : p < q) (qb : q ≤ 120) (u1 : 1 ≤ u) (uv : u < i + j) (vb : i + j ≤ 120) (s5 s6 s7 : Sl) (f5 : free? (some s5) = true) (f6 : free? (some s6) = true) (f7 : free? (some s7) = true) [Decidable (cond R p q u (i + j))] :
    turnF (evC fs (n + 2)) (.name 5) gB (.int u) [.val (rD R), .val (bD R p q), .val (.int k), .val (.int i), .val (.int j), s5, s6, s7] = .ok .nx [.val (rD R), .val (if cond R p q u (i + j) then bD R u (i + j) else bD R p q), .val (.int k), .val (.int i), .val (.int j), .val (.int u), .val (rt u (i + j)), .val (rt (cl R u (i + j)) (i + j))] := by
  generalize hv : i + j = v at *
  have tu : TOk u v := ⟨by omega, by omega, by omega, by omega⟩
  have tp : TOk p q := ⟨by omega, by omega, by omega, by omega⟩
  have e1 := t_cut (n + 1) u v (by omega) (by omega)
  have e2 := t_clear ok tu n
  have b1 := cl_lt ok tu
  have b2 := cl_lt ok tp
  have mb := mul_bd (x := v) (y := q) (X := 120) (Y := 120) (by omega) vb (by omega) qb
  obtain ⟨z1, e3, _, d1⟩ := t_side (x := cl R u v) (b := v) (y := cl R p q) (c := q) (by omega) (by omega) (by omega) (by omega) (by omega) (n + 1)
  obtain ⟨z2, e4, d2, _⟩ := t_side (x := u) (b := v) (y := p) (c := q) (by omega) (by omega) (by omega) (by omega) (by omega) (n + 1)
  have e5 := eqv_rt (x := cl R u v) (b := v) (y := cl R p q) (c := q) (by omega) (by omega)
  generalize evC fs (n + 2) = C at *
  unfold gB bD
  rw [show (rD R) = .tuple (R.map .int) from rfl] at *
  by_cases q1 : 0 < z1
  · have c : cond R p q u v := .inl (d1.mp q1)
    have g1 := decide_eq_true q1
    rw [if_pos c]
    exists f5, f6, f7, hv, e1, e2, e3, g1
  · have g1 := decide_eq_false q1
    by_cases q2 : cl R u v * q = cl R p q * v
    · rw [decide_eq_true q2] at e5
      by_cases q3 : z2 < 0
      · have c : cond R p q u v := .inr ⟨q2, d2.mp q3⟩
        have g3 := decide_eq_true q3
        rw [if_pos c]
        exists f5, f6, f7, hv, e1, e2, e3, g1, e5, e4, g3
      · have c : ¬ cond R p q u v := fun h => h.elim (fun h => q1 (d1.mpr h)) fun h => q3 (d2.mpr h.2)
        have g3 := decide_eq_false q3
        rw [if_neg c]
        exists f5, f6, f7, hv, e1, e2, e3, g1, e5, e4, g3
    · rw [decide_eq_false q2] at e5
      have c : ¬ cond R p q u v := fun h => h.elim (fun h => q1 (d1.mpr h)) fun h => q2 h.1
      rw [if_neg c]
      exists f5, f6, f7, hv, e1, e2, e3, g1, e5
theorem g_inner (n : Nat) (k : Int) {i j p q : Int} (hi : 1 ≤ i ∧ i ≤ 60) (hj : 1 ≤ j ∧ j ≤ 60) {S : Int → Int → Prop} (hS : ∀ u v, S u v → 0 < v) (b : Best R S p q) (s5 s6 s7 : Sl) (f5 : free? (some s5) = true) (f6 : free? (some s6) = true) (f7 : free? (some s7) = true) :
    ∃ p' q' t5 t6 t7, free? (some t5) = true ∧ free? (some t6) = true ∧ free? (some t7) = true ∧ Best R (fun u v => S u v ∨ (v = i + j ∧ 1 ≤ u ∧ u < v)) p' q' ∧
      forL (turnF (evC fs (n + 2)) (.name 5) gB) (rangeL 1 1 (i + j - 1).toNat) [.val (rD R), .val (bD R p q), .val (.int k), .val (.int i), .val (.int j), s5, s6, s7] = .ok .nx [.val (rD R), .val (bD R p' q'), .val (.int k), .val (.int i), .val (.int j), t5, t6, t7] := by
  have z := forL_pre (f := turnF (evC fs (n + 2)) (.name 5) gB) (fun t : Nat => PyData.int (1 + (t : Int) * 1)) (fun pre ρ => ∃ p q s5 s6 s7, free? (some s5) = true ∧ free? (some s6) = true ∧ free? (some s7) = true ∧ Best R (fun u v => S u v ∨ ∃ t ∈ pre, u = 1 + (t : Int) * 1 ∧ v = i + j) p q ∧ ρ = [.val (rD R), .val (bD R p q), .val (.int k), .val (.int i), .val (.int j), s5, s6, s7])
    (List.range (i + j - 1).toNat) [] [.val (rD R), .val (bD R p q), .val (.int k), .val (.int i), .val (.int j), s5, s6, s7] ⟨p, q, s5, s6, s7, f5, f6, f7, b.congr fun u v => by simp, rfl⟩ (by
    rintro pre t ρ ht ⟨p, q, s5, s6, s7, f5, f6, f7, b, rfl⟩
    have ht := List.mem_range.mp ht
    have hS' : ∀ u v, (S u v ∨ ∃ t ∈ pre, u = 1 + (t : Int) * 1 ∧ v = i + j) → 0 < v := fun u v h => h.elim (hS u v) fun ⟨_, _, _, h⟩ => by omega
    have hh : ∀ p' q', Best R (fun x y => (S x y ∨ ∃ t ∈ pre, x = 1 + (t : Int) * 1 ∧ y = i + j) ∨ (x = 1 + (t : Int) * 1 ∧ y = i + j)) p' q' → Best R (fun u v => S u v ∨ ∃ t' ∈ pre ++ [t], u = 1 + (t' : Int) * 1 ∧ v = i + j) p' q' := fun p' q' h => h.congr fun u v => by
      simp only [List.mem_append, List.mem_singleton, or_and_right, exists_or, or_assoc, exists_eq_left]
    have e := @g_turn R ok n k i j p q (1 + (t : Int) * 1) b.p0 b.pq b.qb (by omega) (by omega) (by omega) s5 s6 s7 f5 f6 f7 (Classical.propDecidable _)
    by_cases c : cond R p q (1 + (t : Int) * 1) (i + j)
    · rw [if_pos c] at e
      exact ⟨_, e, _, _, _, _, _, rfl, rfl, rfl, hh _ _ (best_new b hS' (by omega) (by omega) (by omega) c), rfl⟩
    · rw [if_neg c] at e
      exact ⟨_, e, _, _, _, _, _, rfl, rfl, rfl, hh _ _ (best_old b c), rfl⟩)
  obtain ⟨ρ', z, p', q', t5, t6, t7, f5, f6, f7, b, rfl⟩ := z
  refine ⟨p', q', t5, t6, t7, f5, f6, f7, b.congr fun u v => or_congr Iff.rfl ?_, z⟩
  rw [List.nil_append]
  constructor
  · rintro ⟨t, ht, rfl, rfl⟩
    have ht := List.mem_range.mp ht
    exact ⟨rfl, by omega, by omega⟩
  · rintro ⟨rfl, h1, h2⟩
    exact ⟨(u - 1).toNat, List.mem_range.mpr (by omega), by omega, rfl⟩
end
def gM : IS := (.seq (.for_ (.name 5) (.rng2 (.lit (.int 1)) (.bin .add (.var 3) (.var 4))) gB)
     .skip)
def gO : IS := (.seq (.for_ (.name 4) (.seq (.slo (.var 0) (.var 2))) gM)
   .skip)
theorem slo_drop (xs : List D) (k : Nat) (hk : k ≤ xs.length) : slV (k : Int) (.tuple xs) = some (.val (.tuple (xs.drop k))) := by
  show some (RV.val (.tuple (cutL xs (some (k : Int)) none))) = _
  unfold cutL
  have e1 : HT.sIx xs.length 0 (some (k : Int)) = k := by
    rw [HT.sIx_nat]
    omega
  have e2 : HT.sIx xs.length xs.length none = xs.length := rfl
  rw [e1, e2, List.take_of_length_le (by simp)]
section
variable {R : List Int} (ok : ROk R)
include ok
theorem g_mid1 (n : Nat) (k : Int) {i j p q : Int} (hi : 1 ≤ i ∧ i ≤ 60) (hj : 1 ≤ j ∧ j ≤ 60) {S : Int → Int → Prop} (hS : ∀ u v, S u v → 0 < v) (b : Best R S p q) (s4 s5 s6 s7 : Sl) (f4 : free? (some s4) = true) (f5 : free? (some s5) = true) (f6 : free? (some s6) = true) (f7 : free? (some s7) = true) :
    ∃ p' q' t5 t6 t7, free? (some t5) = true ∧ free? (some t6) = true ∧ free? (some t7) = true ∧ Best R (fun u v => S u v ∨ (v = i + j ∧ 1 ≤ u ∧ u < v)) p' q' ∧
      turnF (evC fs (n + 2)) (.name 4) gM (.int j) [.val (rD R), .val (bD R p q), .val (.int k), .val (.int i), s4, s5, s6, s7] = .ok .nx [.val (rD R), .val (bD R p' q'), .val (.int k), .val (.int i), .val (.int j), t5, t6, t7] := by
  obtain ⟨p', q', t5, t6, t7, g5, g6, g7, b', z⟩ := g_inner ok n k hi hj hS b s5 s6 s7 f5 f6 f7
  refine ⟨p', q', t5, t6, t7, g5, g6, g7, b', ?_⟩
  generalize evC fs (n + 2) = C at *
  generalize bD R p q = B at *
  generalize bD R p' q' = B' at *
  generalize rD R = RR at *
  unfold gM
  have r0 : ∀ ρ, rg2 1 (i + j) ρ = .ok (rangeL 1 1 (i + j - 1).toNat, []) ρ := fun ρ => rg2_ok (by omega) (by omega) (by omega) (by omega) ρ
  exists f4, r0, z
theorem g_mid (n : Nat) (k : Int) {i p q : Int} (hi : 1 ≤ i ∧ i ≤ 60) {js : List Int} (hjs : ∀ j ∈ js, 1 ≤ j ∧ j ≤ 60) {S : Int → Int → Prop} (hS : ∀ u v, S u v → 0 < v) (b : Best R S p q) (s4 s5 s6 s7 : Sl) (f4 : free? (some s4) = true) (f5 : free? (some s5) = true) (f6 : free? (some s6) = true) (f7 : free? (some s7) = true) :
    ∃ p' q' t4 t5 t6 t7, free? (some t4) = true ∧ free? (some t5) = true ∧ free? (some t6) = true ∧ free? (some t7) = true ∧ Best R (fun u v => S u v ∨ ∃ j ∈ js, v = i + j ∧ 1 ≤ u ∧ u < v) p' q' ∧
      forL (turnF (evC fs (n + 2)) (.name 4) gM) (js.map .int) [.val (rD R), .val (bD R p q), .val (.int k), .val (.int i), s4, s5, s6, s7] = .ok .nx [.val (rD R), .val (bD R p' q'), .val (.int k), .val (.int i), t4, t5, t6, t7] := by
  have z := forL_pre (f := turnF (evC fs (n + 2)) (.name 4) gM) PyData.int (fun pre ρ => ∃ p q s4 s5 s6 s7, free? (some s4) = true ∧ free? (some s5) = true ∧ free? (some s6) = true ∧ free? (some s7) = true ∧ Best R (fun u v => S u v ∨ ∃ j ∈ pre, v = i + j ∧ 1 ≤ u ∧ u < v) p q ∧ ρ = [.val (rD R), .val (bD R p q), .val (.int k), .val (.int i), s4, s5, s6, s7])
    js [] [.val (rD R), .val (bD R p q), .val (.int k), .val (.int i), s4, s5, s6, s7] ⟨p, q, s4, s5, s6, s7, f4, f5, f6, f7, b.congr fun u v => by simp, rfl⟩ (by
    rintro pre j ρ hj ⟨p, q, s4, s5, s6, s7, f4, f5, f6, f7, b, rfl⟩
    obtain ⟨p', q', t5, t6, t7, g5, g6, g7, b', e⟩ := g_mid1 ok n k hi (hjs j hj) (fun u v h => h.elim (hS u v) fun ⟨_, _, _, _, _⟩ => by omega) b s4 s5 s6 s7 f4 f5 f6 f7
    refine ⟨_, e, _, _, .val (.int j), t5, t6, t7, rfl, g5, g6, g7, b'.congr fun u v => ?_, rfl⟩
    simp only [List.mem_append, List.mem_singleton, or_and_right, exists_or, or_assoc, exists_eq_left])
  obtain ⟨ρ', z, p', q', t4, t5, t6, t7, f4, f5, f6, f7, b, rfl⟩ := z
  exact ⟨p', q', t4, t5, t6, t7, f4, f5, f6, f7, b, z⟩
theorem g_out1 (n : Nat) (k : Nat) {i p q : Int} (hk : R[k]? = some i) {S : Int → Int → Prop} (hS : ∀ u v, S u v → 0 < v) (b : Best R S p q) (s2 s3 s4 s5 s6 s7 : Sl) (f2 : free? (some s2) = true) (f3 : free? (some s3) = true) (f4 : free? (some s4) = true) (f5 : free? (some s5) = true) (f6 : free? (some s6) = true) (f7 : free? (some s7) = true) :
    ∃ p' q' t4 t5 t6 t7, free? (some t4) = true ∧ free? (some t5) = true ∧ free? (some t6) = true ∧ free? (some t7) = true ∧ Best R (fun u v => S u v ∨ ∃ j ∈ R.drop k, v = i + j ∧ 1 ≤ u ∧ u < v) p' q' ∧
      turnF (evC fs (n + 2)) (.tup (.cons (.name 2) (.cons (.name 3) .nil))) gO (.tuple [.int (k : Int), .int i]) [.val (rD R), .val (bD R p q), s2, s3, s4, s5, s6, s7] = .ok .nx [.val (rD R), .val (bD R p' q'), .val (.int (k : Int)), .val (.int i), t4, t5, t6, t7] := by
  have hi := ok.bd i (List.mem_of_getElem? hk)
  obtain ⟨p', q', t4, t5, t6, t7, g4, g5, g6, g7, b', z⟩ := g_mid ok n k hi (js := R.drop k) (fun j hj => ok.bd j (List.mem_of_mem_drop hj)) hS b s4 s5 s6 s7 f4 f5 f6 f7
  refine ⟨p', q', t4, t5, t6, t7, g4, g5, g6, g7, b', ?_⟩
  have hl : k ≤ (R.map PyData.int).length := by
    rw [List.length_map]
    have := (List.getElem?_eq_some_iff.mp hk).1
    omega
  have sl := slo_drop (R.map .int) k hl
  rw [← List.map_drop] at sl
  generalize evC fs (n + 2) = C at *
  generalize bD R p q = B at *
  generalize bD R p' q' = B' at *
  unfold rD at *
  unfold gO
  exists f2, f3, sl, z
end
theorem enumD_map : ∀ (R : List Int) (n : Nat), enumD n (R.map .int) = (R.zipIdx n).map fun x => .tuple [.int (x.2 : Int), .int x.1]
  | [], n => rfl
  | a :: R, n => by
    show PyData.tuple [.int n, .int a] :: enumD (n + 1) (R.map .int) = _
    rw [enumD_map R (n + 1), List.zipIdx_cons]
    rfl
section
variable {R : List Int} (ok : ROk R)
include ok
theorem pairs_sp (u v : Int) : (∃ x ∈ R.zipIdx, ∃ j ∈ R.drop x.2, v = x.1 + j ∧ 1 ≤ u ∧ u < v) ↔ SP R u v := by
  constructor
  · rintro ⟨⟨i, k⟩, hx, j, hj, h⟩
    exact ⟨i, List.mem_of_getElem? (List.mem_zipIdx_iff_getElem?.mp hx), j, List.mem_of_mem_drop hj, h⟩
  · rintro ⟨i, hi, j, hj, e, h⟩
    obtain ⟨a, ha⟩ := List.mem_iff_getElem?.mp hi
    obtain ⟨b, hb⟩ := List.mem_iff_getElem?.mp hj
    rcases Nat.le_total a b with q | q
    · refine ⟨(i, a), List.mem_zipIdx_iff_getElem?.mpr ha, j, List.mem_of_getElem? (i := b - a) ?_, e, h⟩
      rw [List.getElem?_drop, show a + (b - a) = b by omega]
      exact hb
    · refine ⟨(j, b), List.mem_zipIdx_iff_getElem?.mpr hb, i, List.mem_of_getElem? (i := a - b) ?_, show v = j + i by omega, h⟩
      rw [List.getElem?_drop, show b + (a - b) = a by omega]
      exact ha
theorem t_greatest (n : Nat) : ∃ p q, Best R (SP R) p q ∧ evC fs (n + 3) 10 [.val (rD R)] = .ok (.val (bD R p q)) [] := by
  have b0 : Best R (fun _ _ => False) 0 1 := best_start fun _ _ h => h
  have z := forL_pre (f := turnF (evC fs (n + 2)) (.tup (.cons (.name 2) (.cons (.name 3) .nil))) gO) (fun x : Int × Nat => PyData.tuple [.int (x.2 : Int), .int x.1]) (fun pre ρ => ∃ p q s2 s3 s4 s5 s6 s7, free? (some s2) = true ∧ free? (some s3) = true ∧ free? (some s4) = true ∧ free? (some s5) = true ∧ free? (some s6) = true ∧ free? (some s7) = true ∧ Best R (fun u v => False ∨ ∃ x ∈ pre, ∃ j ∈ R.drop x.2, v = x.1 + j ∧ 1 ≤ u ∧ u < v) p q ∧ ρ = [.val (rD R), .val (bD R p q), s2, s3, s4, s5, s6, s7])
    R.zipIdx [] [.val (rD R), .val (bD R 0 1), .no, .no, .no, .no, .no, .no] ⟨0, 1, .no, .no, .no, .no, .no, .no, rfl, rfl, rfl, rfl, rfl, rfl, b0.congr fun u v => by simp, rfl⟩ (by
    rintro pre ⟨i, k⟩ ρ hx ⟨p, q, s2, s3, s4, s5, s6, s7, f2, f3, f4, f5, f6, f7, b, rfl⟩
    have hk : R[k]? = some i := List.mem_zipIdx_iff_getElem?.mp hx
    obtain ⟨p', q', t4, t5, t6, t7, g4, g5, g6, g7, b', e⟩ := g_out1 ok n k hk (fun u v h => h.elim False.elim fun ⟨_, _, _, _, _, _, _⟩ => by omega) b s2 s3 s4 s5 s6 s7 f2 f3 f4 f5 f6 f7
    refine ⟨_, e, _, _, .val (.int (k : Int)), .val (.int i), t4, t5, t6, t7, rfl, rfl, g4, g5, g6, g7, b'.congr fun u v => ?_, rfl⟩
    simp only [List.mem_append, List.mem_singleton, or_and_right, exists_or, or_assoc, exists_eq_left])
  obtain ⟨ρ', z, p, q, s2, s3, s4, s5, s6, s7, f2, f3, f4, f5, f6, f7, b, rfl⟩ := z
  refine ⟨p, q, b.congr fun u v => ?_, ?_⟩
  · rw [List.nil_append, false_or]
    exact pairs_sp ok u v
  rw [u_greatest_in]
  unfold b_greatest_in
  have e0 : bD R 0 1 = .tuple [.tuple [.int 0, .int 1], .tuple [.int 0, .int 1]] := by
    unfold bD
    rw [cl_01 ok.ne]
    rfl
  rw [e0] at z
  rw [← enumD_map] at z
  unfold gO gM gB at z
  generalize bD R p q = B at *
  unfold rD at *
  generalize evC fs (n + 2) = C at *
  exists z
end
/-! the interface -/
theorem zip_asc : ∀ (l : List Int) (a : Int), (a :: l).Pairwise (· < ·) → ∀ d ∈ zipD ((a :: l).map PyData.int) (l.map PyData.int), ∃ x y : Int, d = .tuple [.int x, .int y] ∧ x < y
  | [], a, _, d, h => by
    have : d ∈ ([] : List D) := h
    cases this
  | b :: l, a, hp, d, h => by
    obtain ⟨h1, h2⟩ := List.pairwise_cons.mp hp
    have h : d ∈ PyData.tuple [.int a, .int b] :: zipD ((b :: l).map PyData.int) (l.map PyData.int) := h
    rcases List.mem_cons.mp h with z | z
    · exact ⟨a, b, z, h1 b (List.mem_cons_self ..)⟩
    · exact zip_asc l b h2 d z
theorem zipD_le : ∀ xs ys : List D, (zipD xs ys).length ≤ xs.length
  | [], ys => by cases ys <;> exact Nat.le_refl _
  | x :: xs, [] => Nat.zero_le _
  | x :: xs, y :: ys => Nat.succ_le_succ (zipD_le xs ys)
theorem fm_true (l : List D) : l.filterMap (fun _ => some (PyData.bool true)) = l.map fun _ => PyData.bool ((fun _ => true) ()) := by
  induction l with
  | nil => rfl
  | cons a l ih => rw [List.filterMap_cons, List.map_cons, ih]
section
variable {R : List Int} (ok : ROk R)
include ok
theorem t_asc (n : Nat) : evC fs (n + 1) 2 [.val (rD R)] = .ok (.val (.bool true)) [] := by
  obtain ⟨a, l, rfl⟩ := List.exists_cons_of_ne_nil ok.ne
  have z := zip_asc l a ok.up
  have sl := slo1_t (.int a) (l.map PyData.int)
  have hl : (zipD ((a :: l).map PyData.int) (l.map PyData.int)).length ≤ 16777216 := by
    have := zipD_le ((a :: l).map PyData.int) (l.map PyData.int)
    rw [List.length_map] at this
    have := ok.l5
    omega
  rw [u_is_ascending]
  unfold b_is_ascending rD
  rw [List.map_cons] at *
  generalize evC fs n = C
  exists sl, zipK_tt
  rw [compAll_map (g := fun _ => some (.bool true)) hl]
  · rw [fm_true]
    have e := all_map (fun _ => true) (zipD (.int a :: l.map PyData.int) (l.map PyData.int))
    have e2 : ((zipD (.int a :: l.map PyData.int) (l.map PyData.int)).all fun _ => true) = true := by simp
    rw [e2] at e
    exists e
  · intro d hd
    obtain ⟨x, y, rfl, h⟩ := z d hd
    have dd := decide_eq_true h
    exists dd
theorem t_need_rates (n : Nat) : evC fs (n + 2) 8 [.val (rD R)] = .ok (.val .none) [] := by
  have e1 := t_is_tuple n (R.map PyData.int) 1 5
  have l0 := List.length_pos_iff.mpr ok.ne
  have l5 := ok.l5
  rw [List.length_map, decide_eq_true (show (1 : Int) ≤ R.length by omega), decide_eq_true (show (R.length : Int) ≤ 5 by omega)] at e1
  have e2 := t_asc ok n
  have e3 : ∀ r ∈ R, evC fs (n + 1) 0 [.val (.int r), .val (.int 1), .val (.int 60)] = .ok (.val (.bool true)) [] := fun r hr => by
    have b := ok.bd r hr
    rw [t_is_whole, decide_eq_true b.1, decide_eq_true b.2]
    rfl
  rw [u_need_rates]
  unfold b_need_rates
  have e1 : evC fs (n + 1) 1 _ = _ := e1
  have e2 : evC fs (n + 1) 2 _ = _ := e2
  unfold rD at *
  generalize evC fs (n + 1) = C at *
  have q : compAll [1] (itemF C (.call 0 (.cons (.var 1) (.cons (.lit (.int 1)) (.cons (.gint "RATE" 60) .nil)))) (.name 1)) (R.map .int) [] [.val (.tuple (R.map .int)), .no] = .ok (.tmp (R.map fun _ => .bool true)) [.val (.tuple (R.map .int)), .no] := by
    rw [compAll_of (c := PyData.int) (k := fun _ => some (.bool true)) (by omega)]
    · rw [fm_some]
    · intro r hr
      have e3 := e3 r hr
      exists e3
  have qa := all_map (fun _ => true) R
  have qb : (R.all fun _ => true) = true := by simp
  rw [qb] at qa
  exists e1, q, qa, e2
theorem bD_eq {p q u v : Int} (b : Best R (SP R) p q) (c : Best R (SP R) u v) : bD R p q = bD R u v := by
  have p0 := b.p0
  have p1 := b.pq
  have u0 := c.p0
  have u1 := c.pq
  obtain ⟨e1, e2⟩ := (top_of ok.ne ok.pos b u0 u1).anti (top_of ok.ne ok.pos c p0 p1)
  unfold bD
  rw [rt_eq (x := p) (b := q) (y := u) (c := v) (by omega) (by omega) e2, rt_eq (x := cl R p q) (b := q) (y := cl R u v) (c := v) (by omega) (by omega) e1]
variable {p q : Int} (b : Best R (SP R) p q)
include b
theorem t_gin (n : Nat) : evC fs (n + 3) 10 [.val (rD R)] = .ok (.val (bD R p q)) [] := by
  obtain ⟨u, v, c, e⟩ := t_greatest ok n
  rw [e, bD_eq ok c b]
theorem t_gc (n : Nat) : evC fs (n + 4) 12 [.val (rD R)] = .ok (.val (rt (cl R p q) q)) [] := by
  have e1 := t_need_rates ok (n + 1)
  have e2 := t_gin ok b n
  rw [u_greatest_clearance]
  unfold b_greatest_clearance
  have e1 : evC fs (n + 3) 8 _ = _ := e1
  generalize evC fs (n + 3) = C at *
  unfold bD at e2
  generalize rD R = RR at *
  generalize rt (cl R p q) q = x at *
  exists e1, e2
theorem t_fc (n : Nat) : evC fs (n + 4) 13 [.val (rD R)] = .ok (.val (rt p q)) [] := by
  have e1 := t_need_rates ok (n + 1)
  have e2 := t_gin ok b n
  rw [u_first_clear_time]
  unfold b_first_clear_time
  have e1 : evC fs (n + 3) 8 _ = _ := e1
  generalize evC fs (n + 3) = C at *
  unfold bD at e2
  generalize rD R = RR at *
  generalize rt (cl R p q) q = x at *
  generalize rt p q = y at *
  exists e1, e2
omit b in
theorem t_cn {u v : Int} (ht : TOk u v) (n : Nat) : evC fs (n + 5) 11 [.val (rD R), .val (rt u v)] = .ok (.val (rt (cl R u v) v)) [] := by
  have e1 := t_need_rates ok (n + 2)
  have e2 := t_need_time n u v ht
  have e3 := t_clear ok ht (n + 2)
  rw [u_clearance]
  unfold b_clearance
  have e1 : evC fs (n + 4) 8 _ = _ := e1
  have e3 : evC fs (n + 4) 9 _ = _ := e3
  generalize evC fs (n + 4) = C at *
  generalize rD R = RR at *
  generalize rt (cl R u v) v = x at *
  generalize rt u v = y at *
  exists e1, e2, e3
theorem t_reached {u v : Int} (ht : TOk u v) (n : Nat) : evC fs (n + 5) 14 [.val (rD R), .val (rt u v)] = .ok (.val (.bool (decide (cl R u v * q = cl R p q * v)))) [] := by
  have e1 := t_need_rates ok (n + 2)
  have e2 := t_need_time n u v ht
  have e3 := t_clear ok ht (n + 2)
  have e4 := t_gin ok b (n + 1)
  have p0 := b.p0
  have p1 := b.pq
  have e5 := eqv_rt (x := cl R u v) (b := v) (y := cl R p q) (c := q) ht.2.2.1 (by omega)
  rw [u_is_reached]
  unfold b_is_reached
  have e1 : evC fs (n + 4) 8 _ = _ := e1
  have e3 : evC fs (n + 4) 9 _ = _ := e3
  have e4 : evC fs (n + 4) 10 _ = _ := e4
  generalize evC fs (n + 4) = C at *
  unfold bD at e4
  generalize rD R = RR at *
  generalize rt (cl R u v) v = x at *
  generalize rt (cl R p q) q = z at *
  generalize rt u v = y at *
  exists e1, e2, e3, e4, e5
end
/-! the law's best -/
def SL (L : Int) (u v : Int) : Prop := 1 ≤ v ∧ v ≤ 2 * L ∧ 0 ≤ u ∧ u < v
theorem at_last {R : List Int} (hR : R ≠ []) : ∃ L, R[R.length - 1]? = some L ∧ L2.atI (R.map PyData.int) (-1) = some (.int L) := by
  have h : R.length - 1 < R.length := by
    have := List.length_pos_iff.mpr hR
    omega
  refine ⟨R[R.length - 1], List.getElem?_eq_getElem h, ?_⟩
  have e : ixN (R.map PyData.int).length (-1) = some (R.length - 1) := by
    rw [List.length_map]
    unfold ixN
    rw [if_neg (by omega), if_pos (by omega)]
    congr 1
    omega
  unfold L2.atI
  rw [e, Option.bind_some, List.getElem?_map, List.getElem?_eq_getElem h]
  rfl
theorem le_last {R : List Int} (ok : ROk R) {L : Int} (hL : R[R.length - 1]? = some L) : ∀ r ∈ R, r ≤ L := fun r hr => by
  obtain ⟨a, ha⟩ := List.mem_iff_getElem?.mp hr
  obtain ⟨h1, e1⟩ := List.getElem?_eq_some_iff.mp ha
  obtain ⟨h2, e2⟩ := List.getElem?_eq_some_iff.mp hL
  rcases Nat.lt_or_ge a (R.length - 1) with q | q
  · have := List.pairwise_iff_getElem.mp ok.up a (R.length - 1) h1 h2 q
    omega
  · have e : a = R.length - 1 := by omega
    subst e
    omega
def lB : IS := (.seq (.asg 5 (.call 20 (.cons (.var 4) (.cons (.var 1) .nil))))
     (.seq (.asg 6 (.call 23 (.cons (.var 0) (.cons (.var 5) .nil))))
     (.seq (.ite (.or (.cons (.call 24 (.cons (.var 2) (.cons (.var 6) .nil))) (.cons (.and (.cons (.cmp .eq (.var 6) (.var 2)) (.cons (.call 24 (.cons (.var 5) (.cons (.var 3) .nil))) .nil))) .nil)))
       (.seq (.par2 2 3 (.var 6) (.var 5))
       .skip)
       .skip)
     .skip)))
def lO : IS := (.seq (.for_ (.name 4) (.rng1 (.var 1)) lB)
   .skip)
section
variable {R : List Int} (ok : ROk R)
include ok
theorem l_turn (n : Nat) {p q u v : Int} (p0 : 0 ≤ p) (pq : p < q) (qb : q ≤ 120) (u1 : 0 ≤ u) (uv : u < v) (vb : v ≤ 120) (s4 s5 s6 : Sl) (f4 : free? (some s4) = true) (f5 : free? (some s5) = true) (f6 : free? (some s6) = true) [Decidable (cond R p q u v)] :
    turnF (evC fs (n + 3)) (.name 4) lB (.int u) [.val (rD R), .val (.int v), .val (rt (cl R p q) q), .val (rt p q), s4, s5, s6] = .ok .nx [.val (rD R), .val (.int v), .val (if cond R p q u v then rt (cl R u v) v else rt (cl R p q) q), .val (if cond R p q u v then rt u v else rt p q), .val (.int u), .val (rt u v), .val (rt (cl R u v) v)] := by
  have tu : TOk u v := ⟨by omega, by omega, by omega, by omega⟩
  have tp : TOk p q := ⟨by omega, by omega, by omega, by omega⟩
  have e1 := t_ratio (n + 1) u v (by omega) (by omega)
  have e2 := t_lclear ok tu n
  have b1 := cl_lt ok tu
  have b2 := cl_lt ok tp
  have mb := mul_bd (x := v) (y := q) (X := 120) (Y := 120) (by omega) vb (by omega) qb
  have mb' := mul_bd (x := q) (y := v) (X := 120) (Y := 120) (by omega) qb (by omega) vb
  have e3 := t_lless (x := cl R p q) (b := q) (y := cl R u v) (c := v) (by omega) (by omega) (by omega) (by omega) (by omega) (n + 2)
  have e4 := t_lless (x := u) (b := v) (y := p) (c := q) (by omega) (by omega) (by omega) (by omega) (by omega) (n + 2)
  have e5 := eqv_rt (x := cl R u v) (b := v) (y := cl R p q) (c := q) (by omega) (by omega)
  generalize evC fs (n + 3) = C at *
  unfold lB
  generalize rD R = RR at *
  generalize hx : rt (cl R u v) v = x at *
  generalize hy : rt (cl R p q) q = y at *
  generalize hz : rt u v = z at *
  generalize hw : rt p q = w at *
  by_cases q1 : cl R p q * v < cl R u v * q
  · have c : cond R p q u v := .inl (by omega)
    rw [decide_eq_true q1] at e3
    rw [if_pos c, if_pos c]
    exists f4, f5, f6, e1, e2, e3
  · rw [decide_eq_false q1] at e3
    by_cases q2 : cl R u v * q = cl R p q * v
    · rw [decide_eq_true q2] at e5
      by_cases q3 : u * q < p * v
      · have c : cond R p q u v := .inr ⟨q2, by omega⟩
        rw [decide_eq_true q3] at e4
        rw [if_pos c, if_pos c]
        exists f4, f5, f6, e1, e2, e3, e5, e4
      · have c : ¬ cond R p q u v := fun h => h.elim (fun h => q1 (by omega)) fun h => q3 (by omega)
        rw [decide_eq_false q3] at e4
        rw [if_neg c, if_neg c]
        exists f4, f5, f6, e1, e2, e3, e5, e4
    · rw [decide_eq_false q2] at e5
      have c : ¬ cond R p q u v := fun h => h.elim (fun h => q1 (by omega)) fun h => q2 h.1
      rw [if_neg c, if_neg c]
      exists f4, f5, f6, e1, e2, e3, e5
theorem l_inner (n : Nat) {p q v : Int} (v1 : 1 ≤ v) (vb : v ≤ 120) {S : Int → Int → Prop} (hS : ∀ u v, S u v → 0 < v) (b : Best R S p q) (s4 s5 s6 : Sl) (f4 : free? (some s4) = true) (f5 : free? (some s5) = true) (f6 : free? (some s6) = true) :
    ∃ p' q' t4 t5 t6, free? (some t4) = true ∧ free? (some t5) = true ∧ free? (some t6) = true ∧ Best R (fun x y => S x y ∨ (y = v ∧ 0 ≤ x ∧ x < y)) p' q' ∧
      forL (turnF (evC fs (n + 3)) (.name 4) lB) (rangeL 0 1 v.toNat) [.val (rD R), .val (.int v), .val (rt (cl R p q) q), .val (rt p q), s4, s5, s6] = .ok .nx [.val (rD R), .val (.int v), .val (rt (cl R p' q') q'), .val (rt p' q'), t4, t5, t6] := by
  have z := forL_pre (f := turnF (evC fs (n + 3)) (.name 4) lB) (fun t : Nat => PyData.int (0 + (t : Int) * 1)) (fun pre ρ => ∃ p q s4 s5 s6, free? (some s4) = true ∧ free? (some s5) = true ∧ free? (some s6) = true ∧ Best R (fun x y => S x y ∨ ∃ t ∈ pre, x = 0 + (t : Int) * 1 ∧ y = v) p q ∧ ρ = [.val (rD R), .val (.int v), .val (rt (cl R p q) q), .val (rt p q), s4, s5, s6])
    (List.range v.toNat) [] [.val (rD R), .val (.int v), .val (rt (cl R p q) q), .val (rt p q), s4, s5, s6] ⟨p, q, s4, s5, s6, f4, f5, f6, b.congr fun u v => by simp, rfl⟩ (by
    rintro pre t ρ ht ⟨p, q, s4, s5, s6, f4, f5, f6, b, rfl⟩
    have ht := List.mem_range.mp ht
    have hS' : ∀ x y, (S x y ∨ ∃ t ∈ pre, x = 0 + (t : Int) * 1 ∧ y = v) → 0 < y := fun x y h => h.elim (hS x y) fun ⟨_, _, _, h⟩ => by omega
    have hh : ∀ p' q', Best R (fun x y => (S x y ∨ ∃ t ∈ pre, x = 0 + (t : Int) * 1 ∧ y = v) ∨ (x = 0 + (t : Int) * 1 ∧ y = v)) p' q' → Best R (fun x y => S x y ∨ ∃ t' ∈ pre ++ [t], x = 0 + (t' : Int) * 1 ∧ y = v) p' q' := fun p' q' h => h.congr fun x y => by
      simp only [List.mem_append, List.mem_singleton, or_and_right, exists_or, or_assoc, exists_eq_left]
    have e := @l_turn R ok n p q (0 + (t : Int) * 1) v b.p0 b.pq b.qb (by omega) (by omega) vb s4 s5 s6 f4 f5 f6 (Classical.propDecidable _)
    by_cases c : cond R p q (0 + (t : Int) * 1) v
    · rw [if_pos c, if_pos c] at e
      exact ⟨_, e, _, _, _, _, _, rfl, rfl, rfl, hh _ _ (best_new b hS' (by omega) (by omega) (by omega) c), rfl⟩
    · rw [if_neg c, if_neg c] at e
      exact ⟨_, e, _, _, _, _, _, rfl, rfl, rfl, hh _ _ (best_old b c), rfl⟩)
  obtain ⟨ρ', z, p', q', t4, t5, t6, f4, f5, f6, b, rfl⟩ := z
  refine ⟨p', q', t4, t5, t6, f4, f5, f6, b.congr fun x y => or_congr Iff.rfl ?_, z⟩
  rw [List.nil_append]
  constructor
  · rintro ⟨t, ht, rfl, rfl⟩
    have ht := List.mem_range.mp ht
    exact ⟨rfl, by omega, by omega⟩
  · rintro ⟨rfl, h1, h2⟩
    exact ⟨x.toNat, List.mem_range.mpr (by omega), by omega, rfl⟩
theorem l_out1 (n : Nat) {p q v : Int} (v1 : 1 ≤ v) (vb : v ≤ 120) {S : Int → Int → Prop} (hS : ∀ u v, S u v → 0 < v) (b : Best R S p q) (s1 s4 s5 s6 : Sl) (f1 : free? (some s1) = true) (f4 : free? (some s4) = true) (f5 : free? (some s5) = true) (f6 : free? (some s6) = true) :
    ∃ p' q' t4 t5 t6, free? (some t4) = true ∧ free? (some t5) = true ∧ free? (some t6) = true ∧ Best R (fun x y => S x y ∨ (y = v ∧ 0 ≤ x ∧ x < y)) p' q' ∧
      turnF (evC fs (n + 3)) (.name 1) lO (.int v) [.val (rD R), s1, .val (rt (cl R p q) q), .val (rt p q), s4, s5, s6] = .ok .nx [.val (rD R), .val (.int v), .val (rt (cl R p' q') q'), .val (rt p' q'), t4, t5, t6] := by
  obtain ⟨p', q', t4, t5, t6, g4, g5, g6, b', z⟩ := l_inner ok n v1 vb hS b s4 s5 s6 f4 f5 f6
  refine ⟨p', q', t4, t5, t6, g4, g5, g6, b', ?_⟩
  generalize evC fs (n + 3) = C at *
  generalize rD R = RR at *
  generalize rt (cl R p q) q = x at *
  generalize rt p q = y at *
  generalize rt (cl R p' q') q' = x' at *
  generalize rt p' q' = y' at *
  unfold lO
  have r0 : ∀ ρ, rg1 v ρ = .ok (rangeL 0 1 v.toNat, []) ρ := fun ρ => rg1_ok (by omega) (by omega) ρ
  exists f1, r0, z
theorem t_lbest {p q : Int} (b : Best R (SP R) p q) (n : Nat) : evC fs (n + 4) 25 [.val (rD R)] = .ok (.val (.tuple [rt (cl R p q) q, rt p q])) [] := by
  obtain ⟨L, hL, hat⟩ := at_last ok.ne
  have lb := ok.bd L (List.mem_of_getElem? hL)
  have b0 : Best R (fun _ _ => False) 0 1 := best_start fun _ _ h => h
  have z := forL_pre (f := turnF (evC fs (n + 3)) (.name 1) lO) (fun t : Nat => PyData.int (1 + (t : Int) * 1)) (fun pre ρ => ∃ p q s1 s4 s5 s6, free? (some s1) = true ∧ free? (some s4) = true ∧ free? (some s5) = true ∧ free? (some s6) = true ∧ Best R (fun x y => False ∨ ∃ t ∈ pre, y = 1 + (t : Int) * 1 ∧ 0 ≤ x ∧ x < y) p q ∧ ρ = [.val (rD R), s1, .val (rt (cl R p q) q), .val (rt p q), s4, s5, s6])
    (List.range (2 * L + 1 - 1).toNat) [] [.val (rD R), .no, .val (rt (cl R 0 1) 1), .val (rt 0 1), .no, .no, .no] ⟨0, 1, .no, .no, .no, .no, rfl, rfl, rfl, rfl, b0.congr fun u v => by simp, rfl⟩ (by
    rintro pre t ρ ht ⟨p, q, s1, s4, s5, s6, f1, f4, f5, f6, b, rfl⟩
    have ht := List.mem_range.mp ht
    obtain ⟨p', q', t4, t5, t6, g4, g5, g6, b', e⟩ := l_out1 ok n (v := 1 + (t : Int) * 1) (by omega) (by omega) (fun u v h => h.elim False.elim fun ⟨_, _, _, _, _⟩ => by omega) b s1 s4 s5 s6 f1 f4 f5 f6
    refine ⟨_, e, _, _, .val (.int (1 + (t : Int) * 1)), t4, t5, t6, rfl, g4, g5, g6, b'.congr fun u v => ?_, rfl⟩
    simp only [List.mem_append, List.mem_singleton, or_and_right, exists_or, or_assoc, exists_eq_left])
  obtain ⟨ρ', z, p', q', s1, s4, s5, s6, f1, f4, f5, f6, b', rfl⟩ := z
  have b' : Best R (SL L) p' q' := b'.congr fun x y => by
    rw [List.nil_append, false_or]
    unfold SL
    constructor
    · rintro ⟨t, ht, h⟩
      have ht := List.mem_range.mp ht
      omega
    · rintro h
      exact ⟨(y - 1).toNat, List.mem_range.mpr (by omega), by omega, by omega, by omega⟩
  have p0 := b.p0
  have p1 := b.pq
  have u0 := b'.p0
  have u1 := b'.pq
  have g1 := top_of ok.ne ok.pos b u0 u1
  have g2 : GE R p' q' p q := by
    rcases b.mem with ⟨i, hi, j, hj, rfl, h1, h2⟩ | ⟨rfl, rfl⟩
    · have l1 := le_last ok hL i hi
      have l2 := le_last ok hL j hj
      exact b'.ge p _ ⟨by omega, by omega, by omega, by omega⟩
    · exact b'.ge0
  obtain ⟨e1, e2⟩ := g1.anti g2
  rw [← rt_eq (x := p) (b := q) (y := p') (c := q') (by omega) (by omega) e2, ← rt_eq (x := cl R p q) (b := q) (y := cl R p' q') (c := q') (by omega) (by omega) e1, cl_01 ok.ne] at z
  have c0 : rt 0 1 = .tuple [.int 0, .int 1] := rfl
  rw [c0] at z
  rw [u__law_best]
  unfold b__law_best
  have m2 : mulOk 2 L = true := mulOk_of (by omega) (by omega)
  have r0 : ∀ ρ, rg2 1 (2 * L + 1) ρ = .ok (rangeL 1 1 (2 * L + 1 - 1).toNat, []) ρ := fun ρ => rg2_ok (by omega) (by omega) (by omega) (by omega) ρ
  have z : forL (turnF (evC fs (n + 3)) (.name 1) lO) (rangeL 1 1 (2 * L + 1 - 1).toNat) _ = _ := z
  unfold lO lB at z
  generalize rt (cl R p q) q = x at *
  generalize rt p q = y at *
  generalize evC fs (n + 3) = C at *
  unfold rD at *
  exists hat, m2, r0, z
end
section
variable {R : List Int} (ok : ROk R) (h12 : ∀ r ∈ R, r ≤ 12) {p q : Int} (b : Best R (SP R) p q)
include ok h12 b
theorem q24 : q ≤ 24 := by
  rcases b.mem with ⟨i, hi, j, hj, rfl, h1, h2⟩ | ⟨rfl, rfl⟩
  · have := h12 i hi
    have := h12 j hj
    omega
  · decide
omit h12 in
theorem cl_turn : cl R (q - p) q = cl R p q := by
  have p0 := b.p0
  have p1 := b.pq
  have e := cl_shift R (-p) q 1
  rw [show -p + q * 1 = q - p by omega, cl_neg R (by omega)] at e
  exact e
omit h12 in
theorem cl_plus5 : cl R (p * 1 + 5 * q) (q * 1) = cl R p q := by
  have e := cl_shift R p q 5
  rw [show p * 1 + 5 * q = p + q * 5 by omega, show q * 1 = q by omega]
  exact e
omit h12 ok in
theorem gr1 (g a c L : Int) : (g * a) * (8 * c * L) = (8 * L * a) * (g * c) := by grind
/-- a little ahead of the first time there is less -/
theorem ahead {g a c L : Int} (hg : 0 < g) (e1 : p = g * a) (e2 : q = g * c) (hc : 0 < c) (h0 : p ≠ 0) (hL : 1 ≤ L ∧ L ≤ 12) : TOk (p * (8 * c * L) + (-1) * q) (q * (8 * c * L)) ∧ ¬ cl R (p * (8 * c * L) + (-1) * q) (q * (8 * c * L)) * q = cl R p q * (q * (8 * c * L)) := by
  have p0 := b.p0
  have p1 := b.pq
  have q2 := q24 ok h12 b
  have ha : 1 ≤ a := by
    rcases Int.lt_or_le 0 a with z | z
    · exact z
    · have := Int.mul_nonpos_of_nonneg_of_nonpos (Int.le_of_lt hg) z
      omega
  have c24 : c ≤ 24 := by
    have := le_mul_l hg hc
    omega
  have m1 := mul_bd (x := c) (y := L) (X := 24) (Y := 12) (by omega) c24 (by omega) hL.2
  have m2 : 1 ≤ c * L := Int.mul_pos hc (by omega)
  have ek : 8 * c * L = 8 * (c * L) := by rw [Int.mul_assoc]
  have m3 := mul_bd (x := p) (y := 8 * c * L) (X := 24) (Y := 2304) (by omega) (by omega) (by omega) (by omega)
  have m4 := mul_bd (x := q) (y := 8 * c * L) (X := 24) (Y := 2304) (by omega) (by omega) (by omega) (by omega)
  have m5 : 0 < q * (8 * c * L) := Int.mul_pos (by omega) (by omega)
  have m6 : p * (8 * c * L) < q * (8 * c * L) := Int.mul_lt_mul_of_pos_right p1 (by omega)
  have m7 : q ≤ p * (8 * c * L) := by
    have z := gr1 b g a c L
    rw [← e1, ← e2] at z
    rw [z]
    have w := Int.mul_pos (show 0 < L by omega) (show 0 < a by omega)
    have w2 : 8 * L * a = 8 * (L * a) := by rw [Int.mul_assoc]
    have := Int.mul_le_mul_of_nonneg_right (show 1 ≤ 8 * L * a by omega) (show 0 ≤ q by omega)
    omega
  refine ⟨⟨by omega, by omega, m5, by omega⟩, fun h => ?_⟩
  have g2 := (top_of ok.ne ok.pos b (u := p * (8 * c * L) + (-1) * q) (v := q * (8 * c * L)) (by omega) (by omega)).2 h
  have e3 : p * (q * (8 * c * L)) = q * (p * (8 * c * L)) := by grind
  have e4 : (p * (8 * c * L) + (-1) * q) * q = q * (p * (8 * c * L)) - q * q := by grind
  have := Int.mul_pos (show 0 < q by omega) (show 0 < q by omega)
  omega
end
theorem t_right (n : Nat) (l : List D) (hl : CupOk l) {R : List Int} (ok : ROk R) (h12 : ∀ r ∈ R, r ≤ 12) : ∃ l', CupOk l' ∧ evC fs (n + 7) 26 [.own l .lent, .val (rD R)] = .ok (.val (.bool true)) [l'] := by
  obtain ⟨p, q, b, _⟩ := t_greatest ok n
  have p0 := b.p0
  have p1 := b.pq
  have q2 := q24 ok h12 b
  obtain ⟨u, v, l1, ht, c1, eT1⟩ := t_ltime (n + 3) l 3 40 hl (by decide) (by decide) (by decide) (by decide)
  obtain ⟨u2, v2, l2, ht2, c2, eT2⟩ := t_ltime (n + 3) l1 1 1000000 c1 (by decide) (by decide) (by decide) (by decide)
  refine ⟨l2, c2, ?_⟩
  have hv := ht.2.2.1
  have hv2 := ht2.2.2.1
  have tp : TOk p q := ⟨by omega, by omega, by omega, by omega⟩
  have eB := t_lbest ok b (n + 2)
  have eG := t_gc ok b (n + 2)
  have eF := t_fc ok b (n + 2)
  have eC1 := t_cn ok ht (n + 1)
  have eC2 := t_cn ok ht2 (n + 1)
  have eC3 := t_cn ok tp (n + 1)
  have eR1 := t_reached ok b tp (n + 1)
  have eR2 := t_reached ok b ht (n + 1)
  have eL1 := t_lclear ok ht (n + 3)
  have eL2 := t_lclear ok ht2 (n + 3)
  have eQ := eqv_rt (x := cl R u v) (b := v) (y := cl R p q) (c := q) hv (by omega)
  have bb := cl_lt ok tp
  have bb2 := cl_lt ok ht2
  have mb := mul_bd (x := q) (y := v2) (X := 120) (Y := 1000000) (by omega) (by omega) (by omega) ht2.2.2.2
  have eS := t_lless (x := cl R p q) (b := q) (y := cl R u2 v2) (c := v2) (by omega) hv2 (by have := tp.2.2.2; omega) (by have := ht2.2.2.2; omega) (by omega) (n + 5)
  rw [decide_eq_false (show ¬ cl R p q * v2 < cl R u2 v2 * q by have := top_any ok.ne ok.pos b hv2 (u := u2); omega)] at eS
  rw [decide_eq_true rfl] at eR1
  -- the time turned about, and on
  obtain ⟨g, a, c, hg, e1, e2, hc, hd, e, la, lc⟩ := low p q (by omega)
  have eT : rt (c - a) c = rt (q - p) q := by rw [e1, e2, ← Int.mul_sub, rt_scale hg]
  have eU := t_ratio (n + 4) (c - a) c hc (by omega)
  rw [eT] at eU
  have tt : TOk (q - p) q := ⟨by omega, by omega, by omega, by omega⟩
  have eR3 := t_reached ok b tt (n + 1)
  rw [cl_turn ok b, decide_eq_true rfl] at eR3
  have eP := t_plus (x := p) (b := q) (y := 5) (c := 1) (by omega) (by decide) (by omega) (by decide) (by omega) (n + 3)
  have t5 : TOk (p * 1 + 5 * q) (q * 1) := ⟨by omega, by omega, by omega, by omega⟩
  have eR4 := t_reached ok b t5 (n + 1)
  rw [cl_plus5 ok b, decide_eq_true (by rw [Int.mul_one])] at eR4
  have g5 : rt 5 1 = .tuple [.int 5, .int 1] := rfl
  rw [g5] at eP
  have eLk := t_like 1 (n + 3) (.list [.bool true, .bool true]) rfl
  have eLT := like_ov (n + 4) [rt (cl R p q) q, rt p q, rt (cl R u v) v, rt (cl R u2 v2) v2, .bool true, .bool (decide (cl R u v * q = cl R p q * v)), rt (cl R p q) q] (show (7 : Nat) ≤ 16777216 by decide) (fun d hd => by
    refine t_like 1 (n + 2) d ?_
    simp only [List.mem_cons, List.not_mem_nil, or_false] at hd
    rcases hd with rfl | rfl | rfl | rfl | rfl | rfl | rfl <;> first | exact gd_rt _ _ _ | exact gd_bool _ _)
  -- a little ahead
  obtain ⟨L, hL, hat⟩ := at_last ok.ne
  have Lb := ok.bd L (List.mem_of_getElem? hL)
  have L12 := h12 L (List.mem_of_getElem? hL)
  have c24 : c ≤ 24 := by omega
  have m1 := mul_bd (x := c) (y := L) (X := 24) (Y := 12) (by omega) c24 (by omega) L12
  have m2 : 1 ≤ c * L := Int.mul_pos hc (by omega)
  have ek : 8 * c * L = 8 * (c * L) := by rw [Int.mul_assoc]
  have m3 := mul_bd (x := q) (y := 8 * c * L) (X := 24) (Y := 2304) (by omega) (by omega) (by omega) (by omega)
  have eA := t_plus (x := p) (b := q) (y := -1) (c := 8 * c * L) (by omega) (by omega) (by omega) (by decide) (by omega) (n + 3)
  have gA : rt (-1) (8 * c * L) = .tuple [.int (-1), .int (8 * c * L)] := rt_tm (by
    show Nat.gcd 1 _ = 1
    exact Nat.gcd_one_left _)
  rw [gA] at eA
  have k1 : mulOk 8 c = true := mulOk_of (by omega) (by omega)
  have k2 : mulOk (8 * c) L = true := mulOk_of (by omega) (by omega)
  have eE := eqv_rt (x := p) (b := q) (y := 0) (c := 1) (by omega) (by decide)
  have g0 : rt 0 1 = .tuple [.int 0, .int 1] := rfl
  rw [g0] at eE
  have fin : ∃ B : Bool, cmpD .eq (rt p q) (.tuple [.int 0, .int 1]) = some B ∧ (B = false → evC fs (n + 6) 14 [.val (rD R), .val (rt (p * (8 * c * L) + (-1) * q) (q * (8 * c * L)))] = .ok (.val (.bool false)) []) := by
    refine ⟨_, eE, fun hB => ?_⟩
    have h0 : p ≠ 0 := fun z => by
      subst z
      simp at hB
    obtain ⟨w1, w2⟩ := ahead ok h12 b hg e1 e2 hc h0 ⟨by omega, L12⟩
    have w := t_reached ok b w1 (n + 1)
    rw [decide_eq_false w2] at w
    exact w
  obtain ⟨B, fE, fR⟩ := fin
  rw [u__law_right]
  unfold b__law_right
  have eT1 : evC fs (n + 6) 22 _ = _ := eT1
  have eT2 : evC fs (n + 6) 22 _ = _ := eT2
  have eB : evC fs (n + 6) 25 _ = _ := eB
  have eG : evC fs (n + 6) 12 _ = _ := eG
  have eF : evC fs (n + 6) 13 _ = _ := eF
  have eC1 : evC fs (n + 6) 11 _ = _ := eC1
  have eC2 : evC fs (n + 6) 11 _ = _ := eC2
  have eC3 : evC fs (n + 6) 11 _ = _ := eC3
  have eR1 : evC fs (n + 6) 14 _ = _ := eR1
  have eR2 : evC fs (n + 6) 14 _ = _ := eR2
  have eR3 : evC fs (n + 6) 14 _ = _ := eR3
  have eR4 : evC fs (n + 6) 14 _ = _ := eR4
  have eL1 : evC fs (n + 6) 23 _ = _ := eL1
  have eL2 : evC fs (n + 6) 23 _ = _ := eL2
  have eS : evC fs (n + 6) 24 _ = _ := eS
  have eU : evC fs (n + 6) 20 _ = _ := eU
  have eP : evC fs (n + 6) 21 _ = _ := eP
  have eA : evC fs (n + 6) 21 _ = _ := eA
  have eLk : evC fs (n + 6) 18 _ = _ := eLk
  have eLT : evC fs (n + 6) 18 _ = _ := eLT
  generalize evC fs (n + 6) = C at *
  generalize rt (cl R u v) v = W1 at *
  generalize rt (cl R u2 v2) v2 = W2 at *
  generalize rt (cl R p q) q = x at *
  generalize rt u v = T1 at *
  generalize rt u2 v2 = T2 at *
  generalize rt (q - p) q = T3 at *
  generalize rt (p * 1 + 5 * q) (q * 1) = T4 at *
  generalize rt (p * (8 * c * L) + (-1) * q) (q * (8 * c * L)) = T5 at *
  generalize decide (cl R u v * q = cl R p q * v) = D1 at *
  rw [e] at *
  unfold tm at *
  have bb1 : ∀ s : Bool, (s == false) = !s := fun s => by cases s <;> rfl
  unfold rD at *
  cases B with
  | true => exists eB, eT1, eT2, p10_6, p10_6v, eG, eF, eC1, eC2, eC3, eR1, eR2, eR3, eR4, eL1, eL2, eQ, eS, eU, eP, eLk, eLT, fE
  | false =>
    have fR := fR rfl
    exists eB, eT1, eT2, p10_6, p10_6v, eG, eF, eC1, eC2, eC3, eR1, eR2, eR3, eR4, eL1, eL2, eQ, eS, eU, eP, eLk, eLT, fE, hat, k1, k2, eA, fR
/-! told rates: by looking at all of them -/
def geB (R : List Int) (c0 p q u v : Int) : Bool := let c := cl R u v * q; let d := c0 * v; decide (c < d) || (decide (c = d) && decide (p * v ≤ u * q))
def rokB (R : List Int) : Bool := !R.isEmpty && (decide (R.length ≤ 5) && (R.all (fun r => decide (1 ≤ r) && decide (r ≤ 60)) && decide (R.Pairwise (· < ·))))
/-- each pair once -/
def pairB (f : Int → Bool) : List Int → Bool
  | [] => true
  | i :: r => (i :: r).all (fun j => f (i + j)) && pairB f r
def bestB (R : List Int) (c0 p q : Int) : Bool := decide (cl R p q = c0) && (decide (0 ≤ p) && (decide (p < q) && (decide (q ≤ 120) && (decide (1 ≤ p) && (R.any (fun i => R.any fun j => decide (q = i + j)) && (geB R c0 p q 0 1 && pairB (fun v => (List.range v.toNat).all fun u => u == 0 || geB R c0 p q u v) R))))))
theorem geB_ok {R : List Int} {p q u v : Int} (h : geB R (cl R p q) p q u v = true) : GE R p q u v := by
  unfold geB at h
  simp only [Bool.or_eq_true, Bool.and_eq_true, decide_eq_true_eq] at h
  constructor <;> omega
theorem rokB_ok {R : List Int} (h : rokB R = true) : ROk R := by
  unfold rokB at h
  simp only [Bool.and_eq_true, decide_eq_true_eq, List.all_eq_true] at h
  obtain ⟨h1, h2, h3, h4⟩ := h
  exact ⟨fun z => by subst z; simp at h1, h2, h3, h4⟩
theorem pairB_ok {f : Int → Bool} : ∀ {R : List Int}, pairB f R = true → ∀ i ∈ R, ∀ j ∈ R, f (i + j) = true
  | [], _, i, hi, _, _ => nomatch hi
  | a :: r, h, i, hi, j, hj => by
    unfold pairB at h
    obtain ⟨h1, h2⟩ := Bool.and_eq_true_iff.mp h
    have h1 := List.all_eq_true.mp h1
    rcases List.mem_cons.mp hi with z | z
    · subst z
      exact h1 j hj
    · rcases List.mem_cons.mp hj with y | y
      · subst y
        rw [Int.add_comm]
        exact h1 i hi
      · exact pairB_ok h2 i z j y
theorem bestB_ok {R : List Int} {c0 p q : Int} (h : bestB R c0 p q = true) : Best R (SP R) p q ∧ cl R p q = c0 := by
  unfold bestB at h
  simp only [Bool.and_eq_true, decide_eq_true_eq, List.any_eq_true] at h
  obtain ⟨h1, h2, h3, h4, h5, ⟨i, hi, j, hj, h6⟩, h7, h8⟩ := h
  subst h1
  refine ⟨⟨h2, h3, h4, .inl ⟨i, hi, j, hj, h6, h5, h3⟩, geB_ok h7, ?_⟩, rfl⟩
  rintro u v ⟨i, hi, j, hj, rfl, u1, uv⟩
  have z := pairB_ok h8 i hi j hj
  have z := List.all_eq_true.mp z u.toNat (List.mem_range.mpr (by omega))
  rcases Bool.or_eq_true_iff.mp z with y | y
  · have := beq_iff_eq.mp y
    omega
  · have e : ((u.toNat : Nat) : Int) = u := by omega
    rw [e] at y
    exact geB_ok y
def rowL (k : Nat) : List Int := (List.range k).map fun i : Nat => 1 + (i : Int) * 1
def moreL (t : Int) (k : Nat) : List Int := (List.range k).map fun i : Nat => t * (1 + (i : Int) * 1)
def oddL (k : Nat) : List Int := (List.range k).map fun i : Nat => 2 * (0 + (i : Int) * 1) + 1
def rowC : Bool := (List.range 5).all fun k : Nat => (rokB (rowL (k + 1)) && bestB (rowL (k + 1)) 1 1 ((k : Int) + 1 + 1)) && (rokB (oddL (k + 1)) && bestB (oddL (k + 1)) 1 1 2)
def moreC : Bool := (List.range 5).all fun k : Nat => (List.range 12).all fun t : Nat => rokB (moreL ((t : Int) + 1) (k + 1)) && bestB (moreL ((t : Int) + 1) (k + 1)) ((t : Int) + 1) 1 (((t : Int) + 1) * ((k : Int) + 1 + 1))
def oneC : Bool := (List.range 60).all fun r : Nat => rokB [(r : Int) + 1] && (bestB [(r : Int) + 1] ((r : Int) + 1) 1 (2 * ((r : Int) + 1)) && decide (cl [(r : Int) + 1] 1 ((r : Int) + 1) = 0))
theorem rowC_ok : rowC = true := by decide +kernel
theorem oneC_ok : oneC = true := by decide +kernel
theorem sixC_ok : (rokB [1, 60] && bestB [1, 60] 30 30 61) = true := by decide +kernel
theorem moreC_ok : moreC = true := by decide +kernel
theorem row_ok {k : Nat} (hk : k < 5) : (ROk (rowL (k + 1)) ∧ Best (rowL (k + 1)) (SP (rowL (k + 1))) 1 ((k : Int) + 1 + 1) ∧ cl (rowL (k + 1)) 1 ((k : Int) + 1 + 1) = 1) ∧ ROk (oddL (k + 1)) ∧ Best (oddL (k + 1)) (SP (oddL (k + 1))) 1 2 ∧ cl (oddL (k + 1)) 1 2 = 1 := by
  have z := List.all_eq_true.mp rowC_ok k (List.mem_range.mpr hk)
  simp only [Bool.and_eq_true] at z
  exact ⟨⟨rokB_ok z.1.1, bestB_ok z.1.2⟩, rokB_ok z.2.1, bestB_ok z.2.2⟩
theorem more_ok {k t : Nat} (hk : k < 5) (ht : t < 12) : ROk (moreL ((t : Int) + 1) (k + 1)) ∧ Best (moreL ((t : Int) + 1) (k + 1)) (SP (moreL ((t : Int) + 1) (k + 1))) 1 (((t : Int) + 1) * ((k : Int) + 1 + 1)) ∧ cl (moreL ((t : Int) + 1) (k + 1)) 1 (((t : Int) + 1) * ((k : Int) + 1 + 1)) = (t : Int) + 1 := by
  have z := List.all_eq_true.mp (List.all_eq_true.mp moreC_ok k (List.mem_range.mpr hk)) t (List.mem_range.mpr ht)
  simp only [Bool.and_eq_true] at z
  exact ⟨rokB_ok z.1, bestB_ok z.2⟩
theorem one_ok {r : Nat} (hr : r < 60) : ROk [(r : Int) + 1] ∧ (Best [(r : Int) + 1] (SP [(r : Int) + 1]) 1 (2 * ((r : Int) + 1)) ∧ cl [(r : Int) + 1] 1 (2 * ((r : Int) + 1)) = (r : Int) + 1) ∧ cl [(r : Int) + 1] 1 ((r : Int) + 1) = 0 := by
  have z := List.all_eq_true.mp oneC_ok r (List.mem_range.mpr hr)
  simp only [Bool.and_eq_true, decide_eq_true_eq] at z
  exact ⟨rokB_ok z.1, bestB_ok z.2.1, z.2.2⟩
theorem six_ok : ROk [1, 60] ∧ Best [1, 60] (SP [1, 60]) 30 61 ∧ cl [1, 60] 30 61 = 30 := by
  have z := sixC_ok
  simp only [Bool.and_eq_true] at z
  exact ⟨rokB_ok z.1, bestB_ok z.2⟩
theorem tm1 (c : Int) : rt 1 c = tm 1 c := rt_tm (Nat.gcd_one_left _)
theorem t_great (n : Nat) (l : List D) (hl : CupOk l) : ∃ l', CupOk l' ∧ evC fs (n + 7) 27 [.own l .lent] = .ok (.val (.bool true)) [l'] := by
  obtain ⟨r0, l1, c1, a0, a1, e0⟩ := t_roll (n + 5) l 5 hl (by decide) (by decide)
  obtain ⟨r1, l2, c2, b0, b1, e1⟩ := t_roll (n + 5) l1 12 c1 (by decide) (by decide)
  obtain ⟨r2, l3, c3, d0, d1, e2⟩ := t_roll (n + 5) l2 60 c2 (by decide) (by decide)
  refine ⟨l3, c3, ?_⟩
  obtain ⟨k, rfl⟩ := Int.eq_ofNat_of_zero_le a0
  obtain ⟨t, rfl⟩ := Int.eq_ofNat_of_zero_le b0
  obtain ⟨r, rfl⟩ := Int.eq_ofNat_of_zero_le d0
  obtain ⟨⟨o1, p1, v1⟩, o3, p3, v3⟩ := row_ok (k := k) (by omega)
  obtain ⟨o2, p2, v2⟩ := more_ok (k := k) (t := t) (by omega) (by omega)
  obtain ⟨o4, ⟨p4, v4⟩, v5⟩ := one_ok (r := r) (by omega)
  obtain ⟨o6, p6, v6⟩ := six_ok
  have g1 := t_gc o1 p1 (n + 2)
  have f1 := t_fc o1 p1 (n + 2)
  have g2 := t_gc o2 p2 (n + 2)
  have f2 := t_fc o2 p2 (n + 2)
  have g3 := t_gc o3 p3 (n + 2)
  have f3 := t_fc o3 p3 (n + 2)
  have r3 := t_reached o3 p3 (u := 1) (v := 2) (by unfold TOk; decide) (n + 1)
  have g4 := t_gc o4 p4 (n + 2)
  have f4 := t_fc o4 p4 (n + 2)
  have h4 := t_cn o4 (u := 1) (v := (r : Int) + 1) (by unfold TOk; omega) (n + 1)
  have g6 := t_gc o6 p6 (n + 2)
  have r6 := t_reached o6 p6 (u := 30) (v := 61) (by unfold TOk; decide) (n + 1)
  rw [v1] at g1
  rw [v2] at g2
  rw [v3] at g3
  rw [v4] at g4
  rw [v5] at h4
  rw [v6] at g6
  rw [decide_eq_true rfl] at r3 r6
  have mt := mul_bd (x := (t : Int) + 1) (y := (k : Int) + 1 + 1) (X := 12) (Y := 6) (by omega) (by omega) (by omega) (by omega)
  have mp := Int.mul_pos (show 0 < (t : Int) + 1 by omega) (show 0 < (k : Int) + 1 + 1 by omega)
  have q2 : rt ((t : Int) + 1) (((t : Int) + 1) * ((k : Int) + 1 + 1)) = tm 1 ((k : Int) + 1 + 1) := by
    rw [← tm1]
    exact rt_eq mp (by omega) (by rw [Int.one_mul])
  have q4 : rt ((r : Int) + 1) (2 * ((r : Int) + 1)) = tm 1 2 := by
    have : tm 1 2 = rt 1 2 := rfl
    rw [this]
    exact rt_eq (by omega) (by decide) (by omega)
  have q5 : rt 0 ((r : Int) + 1) = tm 0 1 := by
    have : tm 0 1 = rt 0 1 := rfl
    rw [this]
    exact rt_eq (by omega) (by decide) (by omega)
  rw [q2] at g2
  rw [q4] at g4
  rw [q5] at h4
  rw [tm1] at g1 f1
  have s1 := t_ratio (n + 4) 1 (((t : Int) + 1) * ((k : Int) + 1 + 1)) mp (by omega)
  have s2 := t_ratio (n + 4) 1 ((r : Int) + 1) (by omega) (by omega)
  have s3 := t_ratio (n + 4) 1 (2 * ((r : Int) + 1)) (by omega) (by omega)
  have h12 : rt 1 2 = tm 1 2 := rfl
  have h30 : rt 30 61 = tm 30 61 := rt_tm (by decide)
  rw [h12] at g3 f3 r3
  rw [h30] at g6 r6
  have gt : ∀ (m : Nat) (a c : Int), gd (m + 1) (tm a c) = true := fun m a c => by
    unfold tm
    exact gd_tuple _ _ (show (2 : Nat) ≤ 16777216 by decide) fun x hx => by
      simp only [List.mem_cons, List.not_mem_nil, or_false] at hx
      rcases hx with rfl | rfl <;> exact gd_int _ _
  have L1 := like_ov (n + 4) [tm 1 ((k : Int) + 1 + 1), tm 1 ((k : Int) + 1 + 1), tm 1 ((k : Int) + 1 + 1), rt 1 (((t : Int) + 1) * ((k : Int) + 1 + 1)), tm 1 2, tm 1 2, .bool true] (show (7 : Nat) ≤ 16777216 by decide) (fun d hd => by
    refine t_like 1 (n + 2) d ?_
    simp only [List.mem_cons, List.not_mem_nil, or_false] at hd
    rcases hd with rfl | rfl | rfl | rfl | rfl | rfl | rfl <;> first | exact gt _ _ _ | exact gd_rt _ _ _ | exact gd_bool _ _)
  have L2 := like_ov (n + 4) [tm 1 2, rt 1 (2 * ((r : Int) + 1)), tm 0 1, tm 30 61, .bool true] (show (5 : Nat) ≤ 16777216 by decide) (fun d hd => by
    refine t_like 1 (n + 2) d ?_
    simp only [List.mem_cons, List.not_mem_nil, or_false] at hd
    rcases hd with rfl | rfl | rfl | rfl | rfl <;> first | exact gt _ _ _ | exact gd_rt _ _ _ | exact gd_bool _ _)
  rw [u__law_great_right]
  unfold b__law_great_right
  have e0 : evC fs (n + 6) 16 _ = _ := e0
  have e1 : evC fs (n + 6) 16 _ = _ := e1
  have e2 : evC fs (n + 6) 16 _ = _ := e2
  have g1 : evC fs (n + 6) 12 _ = _ := g1
  have f1 : evC fs (n + 6) 13 _ = _ := f1
  have g2 : evC fs (n + 6) 12 _ = _ := g2
  have f2 : evC fs (n + 6) 13 _ = _ := f2
  have g3 : evC fs (n + 6) 12 _ = _ := g3
  have f3 : evC fs (n + 6) 13 _ = _ := f3
  have r3 : evC fs (n + 6) 14 _ = _ := r3
  have g4 : evC fs (n + 6) 12 _ = _ := g4
  have f4 : evC fs (n + 6) 13 _ = _ := f4
  have h4 : evC fs (n + 6) 11 _ = _ := h4
  have g6 : evC fs (n + 6) 12 _ = _ := g6
  have r6 : evC fs (n + 6) 14 _ = _ := r6
  have s1 : evC fs (n + 6) 20 _ = _ := s1
  have s2 : evC fs (n + 6) 20 _ = _ := s2
  have s3 : evC fs (n + 6) 20 _ = _ := s3
  have L1 : evC fs (n + 6) 18 _ = _ := L1
  have L2 : evC fs (n + 6) 18 _ = _ := L2
  generalize evC fs (n + 6) = C at *
  have i1 : (1 : Int) + (k : Int) = (k : Int) + 1 := Int.add_comm ..
  have i2 : (1 : Int) + (t : Int) = (t : Int) + 1 := Int.add_comm ..
  have i3 : (1 : Int) + (r : Int) = (r : Int) + 1 := Int.add_comm ..
  have m1 : mulOk ((t : Int) + 1) ((k : Int) + 1 + 1) = true := mulOk_of (by omega) (by omega)
  have m2 : mulOk 2 ((r : Int) + 1) = true := mulOk_of (by omega) (by omega)
  have j1 : ∀ ρ, rg2 1 ((k : Int) + 1 + 1) ρ = .ok ((rowL (k + 1)).map .int, []) ρ := fun ρ => by
    rw [rg2_ok (by omega) (by omega) (by omega) (by omega), show ((k : Int) + 1 + 1 - 1).toNat = k + 1 by omega]
    unfold rowL
    rw [List.map_map]
    rfl
  have j2 : ∀ ρ, rg1 ((k : Int) + 1) ρ = .ok ((List.range (k + 1)).map (fun i : Nat => .int (0 + (i : Int) * 1)), []) ρ := fun ρ => by
    rw [rg1_ok (by omega) (by omega), show ((k : Int) + 1).toNat = k + 1 by omega]
    rfl
  have jT : ∀ ρ, mkT ((rowL (k + 1)).map .int) ρ = .ok (.val (.tuple ((rowL (k + 1)).map .int))) ρ := mkT_ok (by rw [List.length_map]; have := o1.l5; omega)
  have jc1 : ∀ a b c d e f g : Sl, compAll [3] (itemF C (.bin .mul (.var 5) (.var 3)) (.name 3)) ((rowL (k + 1)).map .int) [] [a, b, c, .no, d, .val (.int ((t : Int) + 1)), e, f, g] = .ok (.tmp ((moreL ((t : Int) + 1) (k + 1)).map .int)) [a, b, c, .no, d, .val (.int ((t : Int) + 1)), e, f, g] := fun a b c d e f g => by
    rw [compAll_of (c := PyData.int) (k := fun x => some (.int (((t : Int) + 1) * x))) (by have := o1.l5; omega)]
    · rw [fm_some]
      unfold moreL rowL
      rw [List.map_map, List.map_map]
      rfl
    · intro x hx
      have := o1.bd x hx
      have m : mulOk ((t : Int) + 1) x = true := mulOk_of (by omega) (by omega)
      exists m
  have jc2 : ∀ a b c d e f g h : Sl, compAll [8] (itemF C (.bin .add (.bin .mul (.lit (.int 2)) (.var 8)) (.lit (.int 1))) (.name 8)) ((List.range (k + 1)).map (fun i : Nat => .int (0 + (i : Int) * 1))) [] [a, b, c, d, e, f, g, h, .no] = .ok (.tmp ((oddL (k + 1)).map .int)) [a, b, c, d, e, f, g, h, .no] := fun a b c d e f g h => by
    rw [compAll_of (c := fun i : Nat => PyData.int (0 + (i : Int) * 1)) (k := fun i : Nat => some (.int (2 * (0 + (i : Int) * 1) + 1))) (by rw [List.length_range]; omega)]
    · rw [fm_some]
      unfold oddL
      rw [List.map_map]
      rfl
    · intro x hx
      have := List.mem_range.mp hx
      have m : mulOk 2 (0 + (x : Int) * 1) = true := mulOk_of (by omega) (by omega)
      exists m
  generalize rt 1 (((t : Int) + 1) * ((k : Int) + 1 + 1)) = W1 at *
  generalize rt 1 (2 * ((r : Int) + 1)) = W2 at *
  generalize rt 1 ((r : Int) + 1) = W3 at *
  unfold tm rD at *
  simp only [List.map_cons, List.map_nil] at g4 f4 h4 g6 r6
  exists e0, e1, i1, i2, j1, j2, jT, jc1, jc2, g1, f1, g2, f2, g3, f3, r3, m1, s1, L1, e2, i3, g4, f4, s2, h4, g6, r6, m2, s3, L2
theorem t_written : evC fs 59 28 [] = .ok (.val (.bool true)) [] := by kernel_rfl
/-! comprehensions whose turns change the frame -/
theorem compL_st {f : D → Fm → R (Option D)} (P : Fm → Prop) (Q : D → Prop) : ∀ (ds : List D) (ρ : Fm), P ρ → (∀ d ρ, d ∈ ds → P ρ → ∃ x ρ', f d ρ = .ok (some x) ρ' ∧ Q x ∧ P ρ') → ∃ xs ρ', compL f ds ρ = .ok xs ρ' ∧ xs.length = ds.length ∧ (∀ x ∈ xs, Q x) ∧ P ρ'
  | [], ρ, h, _ => ⟨[], ρ, rfl, rfl, (fun x h => by cases h), h⟩
  | d :: ds, ρ, h, t => by
    obtain ⟨x, ρ1, e1, q1, p1⟩ := t d ρ (List.mem_cons_self ..) h
    obtain ⟨xs, ρ2, e2, l2, q2, p2⟩ := compL_st P Q ds ρ1 p1 fun d ρ hd => t d ρ (List.mem_cons_of_mem _ hd)
    refine ⟨x :: xs, ρ2, ?_, by simp [l2], fun y hy => ?_, p2⟩
    · show (f d ρ).bind _ = _
      rw [e1, rb_ok, e2, rb_ok]
    · rcases List.mem_cons.mp hy with z | z
      · exact z ▸ q1
      · exact q2 y z
theorem compAll_st {own : List Nat} {f : D → Fm → R (Option D)} (P : Fm → Prop) (Q : D → Prop) {ds : List D} {ρ : Fm} (hl : ds.length ≤ 16777216) (h : P ρ) (t : ∀ d ρ, d ∈ ds → P ρ → ∃ x ρ', backR ρ own (f d (wipeF ρ own)) = .ok (some x) ρ' ∧ Q x ∧ P ρ') : ∃ xs ρ', compAll own f ds [] ρ = .ok (.tmp xs) ρ' ∧ xs.length = ds.length ∧ (∀ x ∈ xs, Q x) ∧ P ρ' := by
  obtain ⟨xs, ρ', e, r⟩ := compL_st P Q ds ρ h t
  refine ⟨xs, ρ', ?_, r⟩
  unfold compAll
  rw [if_pos (show fits ds.length = true from decide_eq_true hl), e]
  rfl
theorem ints_of {P : Int → Prop} : ∀ {xs : List D}, (∀ x ∈ xs, ∃ m, x = .int m ∧ P m) → ∃ ms : List Int, xs = ms.map .int ∧ intsD xs = some ms ∧ ∀ m ∈ ms, P m
  | [], _ => ⟨[], rfl, rfl, fun m h => by cases h⟩
  | x :: xs, h => by
    obtain ⟨m, rfl, hm⟩ := h x (List.mem_cons_self ..)
    obtain ⟨ms, rfl, e, hs⟩ := ints_of fun y hy => h y (List.mem_cons_of_mem _ hy)
    refine ⟨m :: ms, rfl, ?_, fun k hk => ?_⟩
    · show (intsD (ms.map .int)).map (m :: ·) = _
      rw [e]
      rfl
    · rcases List.mem_cons.mp hk with z | z
      · exact z ▸ hm
      · exact hs k z
theorem insU_len (a : Int) : ∀ l : List Int, (insU a l).length ≤ l.length + 1
  | [] => Nat.le_refl _
  | b :: r => by
    have ih := insU_len a r
    unfold insU
    split
    · simp
    · split
      · simp
      · simp only [List.length_cons]
        omega
theorem ssetI_len : ∀ l : List Int, (ssetI l).length ≤ l.length
  | [] => Nat.le_refl _
  | a :: r => by
    have := insU_len a (ssetI r)
    have := ssetI_len r
    show (insU a (ssetI r)).length ≤ r.length + 1
    omega
def lwB : IS := (.seq (.asg 3 (.b1 .tuple (.sset (.comp (.bin .add (.lit (.int 1)) (.call 16 (.cons (.var 1) (.cons (.lit (.int 12)) .nil)))) (.name 4) (.rng1 (.bin .add (.lit (.int 1)) (.call 16 (.cons (.var 1) (.cons (.lit (.int 5)) .nil)))))))))
   (.seq (.ite (.not (.call 26 (.cons (.var 1) (.cons (.var 3) .nil))))
     (.seq (.ret (.lit (.bool false)))
     .skip)
     .skip)
   .skip))
theorem lw_turn (s d : D) (l : List D) (s2 s3 : Sl) (hl : CupOk l) (f2 : free? (some s2) = true) (f3 : free? (some s3) = true) : ∃ l' d3, CupOk l' ∧ turnF (evC fs 59) (.name 2) lwB d [.val s, .own l .mine, s2, s3, .no] = .ok .nx [.val s, .own l' .mine, .val d, .val d3, .no] := by
  obtain ⟨r, l1, c1, r0, r1, e1⟩ := t_roll 58 l 5 hl (by omega) (by omega)
  have g0 : ∀ ρ, rg1 (1 + r) ρ = .ok (rangeL 0 1 (1 + r).toNat, []) ρ := fun ρ => rg1_ok (by omega) (by omega) ρ
  have hlen : (rangeL 0 1 (1 + r).toNat).length = (1 + r).toNat := by simp [rangeL]
  obtain ⟨xs, ρ', ec, lx, hx, l2, c2, rfl⟩ := compAll_st (own := [4]) (f := itemF (evC fs 59) (.bin .add (.lit (.int 1)) (.call 16 (.cons (.var 1) (.cons (.lit (.int 12)) .nil)))) (.name 4)) (fun ρ => ∃ l, CupOk l ∧ ρ = [.val s, .own l .mine, .val d, s3, .no]) (fun x => ∃ m, x = .int m ∧ (1 ≤ m ∧ m ≤ 12)) (ds := rangeL 0 1 (1 + r).toNat) (ρ := [.val s, .own l1 .mine, .val d, s3, .no]) (by omega) ⟨l1, c1, rfl⟩ (by
    rintro x ρ hx ⟨l, c, rfl⟩
    obtain ⟨m, l', c', m0, m1, e⟩ := t_roll 58 l 12 c (by omega) (by omega)
    refine ⟨.int (1 + m), [.val s, .own l' .mine, .val d, s3, .no], ?_, ⟨1 + m, rfl, by omega, by omega⟩, l', c', rfl⟩
    have e : evC fs 59 16 _ = _ := e
    generalize evC fs 59 = C at *
    exists e)
  obtain ⟨ms, rfl, em, hm⟩ := ints_of hx
  rw [List.length_map, hlen] at lx
  have ok : ROk (ssetI ms) := by
    have k := ssetI_len ms
    refine ⟨fun z => ?_, by omega, fun m h => ?_, ssetI_lt ms⟩
    · cases ms with
      | nil => simp at lx; omega
      | cons a ms =>
        have := (ssetI_mem a (a :: ms)).mpr (List.mem_cons_self ..)
        rw [z] at this
        cases this
    · have := hm m ((ssetI_mem m ms).mp h)
      omega
  obtain ⟨l3, c3, e3⟩ := t_right 52 l2 c2 ok fun m h => (hm m ((ssetI_mem m ms).mp h)).2
  have es := ss_list em (by omega)
  have e1 : evC fs 59 16 _ = _ := e1
  have e3 : evC fs 59 26 _ = _ := e3
  refine ⟨l3, rD (ssetI ms), c3, ?_⟩
  unfold lwB rD at *
  generalize evC fs 59 = C at *
  exists f2, f3, e1, g0, ec, es, e3
theorem math : ∀ ns : List Int, ns.length ≤ 63 → (∀ i ∈ ns, PySem.Builtin.Int.intBits i ≤ 1048576) → evC fs 60 29 (scriptA ns) = .ok (.val (.bool true)) [] := by
  intro ns h1 h2
  unfold scriptA
  obtain ⟨l, c, e0⟩ := t_cup 58 ns h1 h2
  have e0 : evC fs 59 15 _ = _ := e0
  have ew := t_written
  generalize PyData.list (ns.map PyData.int) = s at e0 ⊢
  have g3 : ∀ ρ, rg1 3 ρ = .ok (rangeL 0 1 (3 : Int).toNat, []) ρ := fun ρ => rg1_ok (by decide) (by decide) ρ
  obtain ⟨ρ1, la, l1, s2, s3, f2, f3, c1, rfl⟩ := forL_inv (f := turnF (evC fs 59) (.name 2) lwB) (fun _ ρ => ∃ l s2 s3, free? (some s2) = true ∧ free? (some s3) = true ∧ CupOk l ∧ ρ = [.val s, .own l .mine, s2, s3, .no]) (rangeL 0 1 (3 : Int).toNat) [.val s, .own l .mine, .no, .no, .no] ⟨l, .no, .no, rfl, rfl, c, rfl⟩ (by
    rintro i ρ hi ⟨l, s2, s3, f2, f3, c, rfl⟩
    obtain ⟨l', d3, c', e⟩ := lw_turn s (rangeL 0 1 (3 : Int).toNat)[i] l s2 s3 c f2 f3
    exact ⟨_, e, _, _, _, rfl, rfl, c', rfl⟩)
  obtain ⟨l2, c2, eg⟩ := t_great 52 l1 c1
  have eg : evC fs 59 27 _ = _ := eg
  unfold lwB at la
  rw [u_law]
  unfold b_law
  generalize evC fs 59 = C at *
  exists e0, eg, ew, g3, la
end Wk37
namespace Wk37
open PySem PySem.Spec L2 Wk
def top (i : Nat) : Stmt := PySem.Challenge.pw_wheelmark_k37_whole_most_apart.main.body.getD i (.Pass ⟨0, 0, 0, 0⟩)
def dD (i : Nat) (x : Str) : He.DefD := ⟨(x, none), x, x, defArgs (top i), defBody (top i), defScope (top i), [], []⟩
def dfs : List Df := [⟨dD 6 "is_whole", (["value", "low", "high"] : List Str), (["value", "low", "high"] : List Str)⟩,
  ⟨dD 7 "is_tuple_of", (["value", "low", "high"] : List Str), (["value", "low", "high"] : List Str)⟩,
  ⟨dD 8 "is_ascending", (["values", "one", "other"] : List Str), (["values"] : List Str)⟩,
  ⟨dD 11 "is_ratio", (["value"] : List Str), (["value"] : List Str)⟩,
  ⟨dD 12 "cut", (["top", "bottom", "shared"] : List Str), (["top", "bottom"] : List Str)⟩,
  ⟨dD 13 "side", (["one", "other"] : List Str), (["one", "other"] : List Str)⟩,
  ⟨dD 17 "fits_time", (["value"] : List Str), (["value"] : List Str)⟩,
  ⟨dD 18 "need_time", (["value"] : List Str), (["value"] : List Str)⟩,
  ⟨dD 22 "need_rates", (["value", "rate"] : List Str), (["value"] : List Str)⟩,
  ⟨dD 23 "clear_at", (["rates", "time", "rests", "rate", "rest"] : List Str), (["rates", "time"] : List Str)⟩,
  ⟨dD 24 "greatest_in", (["rates", "best", "at", "rate", "other", "top", "time", "own"] : List Str), (["rates"] : List Str)⟩,
  ⟨dD 25 "clearance", (["rates", "time"] : List Str), (["rates", "time"] : List Str)⟩,
  ⟨dD 26 "greatest_clearance", (["rates"] : List Str), (["rates"] : List Str)⟩,
  ⟨dD 27 "first_clear_time", (["rates"] : List Str), (["rates"] : List Str)⟩,
  ⟨dD 28 "is_reached", (["rates", "time"] : List Str), (["rates", "time"] : List Str)⟩,
  ⟨dD 30 "_law_cup", (["script", "cell"] : List Str), (["script"] : List Str)⟩,
  ⟨dD 31 "_law_roll", (["cup", "many", "deep", "found"] : List Str), (["cup", "many"] : List Str)⟩,
  ⟨dD 32 "_law_sort", (["value"] : List Str), (["value"] : List Str)⟩,
  ⟨dD 33 "_law_like", (["one", "other", "sort", "first", "second"] : List Str), (["one", "other"] : List Str)⟩,
  ⟨dD 34 "_law_gcd", (["one", "other", "turn"] : List Str), (["one", "other"] : List Str)⟩,
  ⟨dD 35 "_law_ratio", (["top", "bottom", "shared"] : List Str), (["top", "bottom"] : List Str)⟩,
  ⟨dD 36 "_law_plus", (["one", "other"] : List Str), (["one", "other"] : List Str)⟩,
  ⟨dD 37 "_law_time", (["cup", "wide", "most", "bottom"] : List Str), (["cup", "wide", "most"] : List Str)⟩,
  ⟨dD 38 "_law_clear", (["rates", "time", "found", "rate", "rest", "own"] : List Str), (["rates", "time"] : List Str)⟩,
  ⟨dD 39 "_law_less", (["one", "other"] : List Str), (["one", "other"] : List Str)⟩,
  ⟨dD 40 "_law_best", (["rates", "bottom", "best", "first", "top", "time", "own"] : List Str), (["rates"] : List Str)⟩,
  ⟨dD 41 "_law_right", (["cup", "rates", "told", "turned", "best", "first", "time", "fine"] : List Str), (["cup", "rates"] : List Str)⟩,
  ⟨dD 42 "_law_great_right", (["cup", "odd", "told", "rate", "k", "times", "row", "more", "at"] : List Str), (["cup"] : List Str)⟩,
  ⟨dD 43 "_law_written_right", (["told"] : List Str), ([] : List Str)⟩,
  ⟨dD 44 "law", (["script", "cup", "turn", "rates", "more"] : List Str), (["script"] : List Str)⟩]
def gs : List (Str × GK) := ([("is_whole", .fn 0), ("is_tuple_of", .fn 1), ("is_ascending", .fn 2), ("is_ratio", .fn 3), ("cut", .fn 4), ("side", .fn 5), ("fits_time", .fn 6), ("need_time", .fn 7), ("need_rates", .fn 8), ("clear_at", .fn 9), ("greatest_in", .fn 10), ("clearance", .fn 11), ("greatest_clearance", .fn 12), ("first_clear_time", .fn 13), ("is_reached", .fn 14), ("_law_cup", .fn 15), ("_law_roll", .fn 16), ("_law_sort", .fn 17), ("_law_like", .fn 18), ("_law_gcd", .fn 19)] : List (Str × GK)) ++
  ([("_law_ratio", .fn 20), ("_law_plus", .fn 21), ("_law_time", .fn 22), ("_law_clear", .fn 23), ("_law_less", .fn 24), ("_law_best", .fn 25), ("_law_right", .fn 26), ("_law_great_right", .fn 27), ("_law_written_right", .fn 28), ("law", .fn 29), ("abs", .free), ("all", .free), ("bool", .free), ("enumerate", .free), ("int", .free), ("isinstance", .free), ("len", .free), ("list", .free), ("max", .free), ("min", .free)] : List (Str × GK)) ++
  ([("range", .free), ("set", .free), ("sorted", .free), ("str", .free), ("tuple", .free), ("zip", .free), ("BOTTOM", .int 1000000), ("GREAT", .int 1000000000000000000000000000000000000000000000000000000000000), ("MANY", .int 5), ("RATE", .int 60), ("TOP", .int 1000000000000), ("gcd", .gcd)] : List (Str × GK))
def loose : List Str := (["__name__", "ClockError", "InvalidHands", "InvalidTime", "is_whole", "is_tuple_of", "is_ascending", "GREAT", "is_ratio", "cut"] : List Str) ++ (["side", "TOP", "BOTTOM", "fits_time", "need_time", "MANY", "RATE", "need_rates", "clear_at", "greatest_in"] : List Str) ++ (["clearance", "greatest_clearance", "first_clear_time", "is_reached", "_law_cup", "_law_roll", "_law_sort", "_law_like", "_law_gcd", "_law_ratio"] : List Str) ++ (["_law_plus", "_law_time", "_law_clear", "_law_less", "_law_best", "_law_right", "_law_great_right", "_law_written_right"] : List Str)
abbrev R : PySem.W.OpenRow := PySem.W.OpenLaw.row PySem.Challenge.rw_wheelmark_k37_whole_most_apart
theorem chk : allOk gs dfs fs = true := by kernel_rfl
theorem gsk : gsB dfs gs = true := by kernel_rfl
theorem bd_is_whole : BindD ⟨dD 6 "is_whole", (["value", "low", "high"] : List Str), (["value", "low", "high"] : List Str)⟩ := fun _ _ _ _ _ _ us hl => match us, hl with | [_, _, _], _ => rfl
theorem bd_is_tuple_of : BindD ⟨dD 7 "is_tuple_of", (["value", "low", "high"] : List Str), (["value", "low", "high"] : List Str)⟩ := fun _ _ _ _ _ _ us hl => match us, hl with | [_, _, _], _ => rfl
theorem bd_is_ascending : BindD ⟨dD 8 "is_ascending", (["values", "one", "other"] : List Str), (["values"] : List Str)⟩ := fun _ _ _ _ _ _ us hl => match us, hl with | [_], _ => rfl
theorem bd_is_ratio : BindD ⟨dD 11 "is_ratio", (["value"] : List Str), (["value"] : List Str)⟩ := fun _ _ _ _ _ _ us hl => match us, hl with | [_], _ => rfl
theorem bd_cut : BindD ⟨dD 12 "cut", (["top", "bottom", "shared"] : List Str), (["top", "bottom"] : List Str)⟩ := fun _ _ _ _ _ _ us hl => match us, hl with | [_, _], _ => rfl
theorem bd_side : BindD ⟨dD 13 "side", (["one", "other"] : List Str), (["one", "other"] : List Str)⟩ := fun _ _ _ _ _ _ us hl => match us, hl with | [_, _], _ => rfl
theorem bd_fits_time : BindD ⟨dD 17 "fits_time", (["value"] : List Str), (["value"] : List Str)⟩ := fun _ _ _ _ _ _ us hl => match us, hl with | [_], _ => rfl
theorem bd_need_time : BindD ⟨dD 18 "need_time", (["value"] : List Str), (["value"] : List Str)⟩ := fun _ _ _ _ _ _ us hl => match us, hl with | [_], _ => rfl
theorem bd_need_rates : BindD ⟨dD 22 "need_rates", (["value", "rate"] : List Str), (["value"] : List Str)⟩ := fun _ _ _ _ _ _ us hl => match us, hl with | [_], _ => rfl
theorem bd_clear_at : BindD ⟨dD 23 "clear_at", (["rates", "time", "rests", "rate", "rest"] : List Str), (["rates", "time"] : List Str)⟩ := fun _ _ _ _ _ _ us hl => match us, hl with | [_, _], _ => rfl
theorem bd_greatest_in : BindD ⟨dD 24 "greatest_in", (["rates", "best", "at", "rate", "other", "top", "time", "own"] : List Str), (["rates"] : List Str)⟩ := fun _ _ _ _ _ _ us hl => match us, hl with | [_], _ => rfl
theorem bd_clearance : BindD ⟨dD 25 "clearance", (["rates", "time"] : List Str), (["rates", "time"] : List Str)⟩ := fun _ _ _ _ _ _ us hl => match us, hl with | [_, _], _ => rfl
theorem bd_greatest_clearance : BindD ⟨dD 26 "greatest_clearance", (["rates"] : List Str), (["rates"] : List Str)⟩ := fun _ _ _ _ _ _ us hl => match us, hl with | [_], _ => rfl
theorem bd_first_clear_time : BindD ⟨dD 27 "first_clear_time", (["rates"] : List Str), (["rates"] : List Str)⟩ := fun _ _ _ _ _ _ us hl => match us, hl with | [_], _ => rfl
theorem bd_is_reached : BindD ⟨dD 28 "is_reached", (["rates", "time"] : List Str), (["rates", "time"] : List Str)⟩ := fun _ _ _ _ _ _ us hl => match us, hl with | [_, _], _ => rfl
theorem bd__law_cup : BindD ⟨dD 30 "_law_cup", (["script", "cell"] : List Str), (["script"] : List Str)⟩ := fun _ _ _ _ _ _ us hl => match us, hl with | [_], _ => rfl
theorem bd__law_roll : BindD ⟨dD 31 "_law_roll", (["cup", "many", "deep", "found"] : List Str), (["cup", "many"] : List Str)⟩ := fun _ _ _ _ _ _ us hl => match us, hl with | [_, _], _ => rfl
theorem bd__law_sort : BindD ⟨dD 32 "_law_sort", (["value"] : List Str), (["value"] : List Str)⟩ := fun _ _ _ _ _ _ us hl => match us, hl with | [_], _ => rfl
theorem bd__law_like : BindD ⟨dD 33 "_law_like", (["one", "other", "sort", "first", "second"] : List Str), (["one", "other"] : List Str)⟩ := fun _ _ _ _ _ _ us hl => match us, hl with | [_, _], _ => rfl
theorem bd__law_gcd : BindD ⟨dD 34 "_law_gcd", (["one", "other", "turn"] : List Str), (["one", "other"] : List Str)⟩ := fun _ _ _ _ _ _ us hl => match us, hl with | [_, _], _ => rfl
theorem bd__law_ratio : BindD ⟨dD 35 "_law_ratio", (["top", "bottom", "shared"] : List Str), (["top", "bottom"] : List Str)⟩ := fun _ _ _ _ _ _ us hl => match us, hl with | [_, _], _ => rfl
theorem bd__law_plus : BindD ⟨dD 36 "_law_plus", (["one", "other"] : List Str), (["one", "other"] : List Str)⟩ := fun _ _ _ _ _ _ us hl => match us, hl with | [_, _], _ => rfl
theorem bd__law_time : BindD ⟨dD 37 "_law_time", (["cup", "wide", "most", "bottom"] : List Str), (["cup", "wide", "most"] : List Str)⟩ := fun _ _ _ _ _ _ us hl => match us, hl with | [_, _, _], _ => rfl
theorem bd__law_clear : BindD ⟨dD 38 "_law_clear", (["rates", "time", "found", "rate", "rest", "own"] : List Str), (["rates", "time"] : List Str)⟩ := fun _ _ _ _ _ _ us hl => match us, hl with | [_, _], _ => rfl
theorem bd__law_less : BindD ⟨dD 39 "_law_less", (["one", "other"] : List Str), (["one", "other"] : List Str)⟩ := fun _ _ _ _ _ _ us hl => match us, hl with | [_, _], _ => rfl
theorem bd__law_best : BindD ⟨dD 40 "_law_best", (["rates", "bottom", "best", "first", "top", "time", "own"] : List Str), (["rates"] : List Str)⟩ := fun _ _ _ _ _ _ us hl => match us, hl with | [_], _ => rfl
theorem bd__law_right : BindD ⟨dD 41 "_law_right", (["cup", "rates", "told", "turned", "best", "first", "time", "fine"] : List Str), (["cup", "rates"] : List Str)⟩ := fun _ _ _ _ _ _ us hl => match us, hl with | [_, _], _ => rfl
theorem bd__law_great_right : BindD ⟨dD 42 "_law_great_right", (["cup", "odd", "told", "rate", "k", "times", "row", "more", "at"] : List Str), (["cup"] : List Str)⟩ := fun _ _ _ _ _ _ us hl => match us, hl with | [_], _ => rfl
theorem bd__law_written_right : BindD ⟨dD 43 "_law_written_right", (["told"] : List Str), ([] : List Str)⟩ := fun _ _ _ _ _ _ us hl => match us, hl with | [], _ => rfl
theorem bd_law : BindD ⟨dD 44 "law", (["script", "cup", "turn", "rates", "more"] : List Str), (["script"] : List Str)⟩ := fun _ _ _ _ _ _ us hl => match us, hl with | [_], _ => rfl
theorem bds : AllB dfs := ⟨bd_is_whole, bd_is_tuple_of, bd_is_ascending, bd_is_ratio, bd_cut, bd_side, bd_fits_time, bd_need_time, bd_need_rates, bd_clear_at, bd_greatest_in, bd_clearance, bd_greatest_clearance, bd_first_clear_time, bd_is_reached, bd__law_cup, bd__law_roll, bd__law_sort, bd__law_like, bd__law_gcd, bd__law_ratio, bd__law_plus, bd__law_time, bd__law_clear, bd__law_less, bd__law_best, bd__law_right, bd__law_great_right, bd__law_written_right, bd_law, trivial⟩
abbrev hk : PySem.W.Hook := hookW dfs gs
def ob (s : PySem.W.SharedT) : He.AlX := obW dfs gs s
theorem run (w : World) : HandSHeadRun.RunEqI R (PySem.W.view R.prog [0, 44]) hk ob 6000 loose w := by
  unfold HandSHeadRun.RunEqI
  kernel_rfl
end Wk37
open PySem PySem.W PySem.Calls
theorem PySem.Challenge.cw_wheelmark_k37_whole_most_apart_holds : PySem.Challenge.rw_wheelmark_k37_whole_most_apart.Holds := by
  w_on; o_law
  refine HandSHeadRun.head_imp (r := OpenLaw.row PySem.Challenge.rw_wheelmark_k37_whole_most_apart) (q := view (OpenLaw.row PySem.Challenge.rw_wheelmark_k37_whole_most_apart).prog [0, 44]) (H := Wk37.hk) (ob := Wk37.ob) (M := 6000) (loose := Wk37.loose) (d := HandSHeadRun.topDef (OpenLaw.row PySem.Challenge.rw_wheelmark_k37_whole_most_apart).prog 44) (kwd := []) (Wk.obW_eq _ _)
    Wk37.run (by kernel_rfl) (by kernel_rfl) (by kernel_rfl) (by rfl) (by first | assumption | decide +kernel) (by decide +kernel) ⟨rfl, rfl, rfl, rfl, rfl, by decide +kernel⟩ ?hw ?hc
  case hw => w_witness2
  case hc =>
    refine Wk.law_end (l := PySem.Challenge.rw_wheelmark_k37_whole_most_apart) (dfs := Wk37.dfs) (gs := Wk37.gs) (fs := Wk37.fs) (j := 29) (m := 60) (n := 63) rfl (by decide) (by kernel_rfl) (by exact ⟨rfl, by decide, by decide⟩) Wk37.chk Wk37.gsk Wk37.bds rfl (by kernel_rfl) rfl Wk37.math
