import PyProof.Rows.All
import Wide.All
import OpenK.AllK
import Wide.FinOn
import KE.KStateDown
import KE.LtData
import Lean
import HandS.ForMost
import HandS.Exc
import HandS.Defaults
import HandS.Wide
import HandS.WideBits
import HandS.Gcd
import HandS.IsInst
import HandS.Walk
import HandS.Zip
import HandS.Conv
import HandS.TupAny
import HandS.TupMul
import HandS.SortInts
import HandS.Style
import HandS.ExcOwn
import HandS.WordsExc
import HandS.Head0
import HandS.Head1
import HandS.Head2
import HandS.HeadEnd
import HandS.HeadHook1
import HandS.HeadHook2
import HandS.HeadHook3
import HandS.HeadHook4
import HandS.Deep
import HandS.Strs
import HandS.SetFor
import HandS.Rev
import KE.GoesMore
import KE.GoesEnum
import KE.GoesZip
import HandS.EndBits
import HandS.Head3
import PySem.Challenge.RW_wheelmark_k48_whole_shims
set_option Elab.async false
set_option linter.all false
set_option maxRecDepth 100000
set_option maxHeartbeats 0
/-! The walk layer, part 1: data, frames, the small language, its evaluator. -/
namespace Wk
open PySem

abbrev D := PyData
/-- who owns a list: the frame itself, the caller (lent); the same while a loop walks it -/
inductive Kd where
  | mine | lent | lockM | lockL
  deriving DecidableEq
inductive Sl where
  | no
  | val (d : D)
  | own (xs : List D) (k : Kd)
abbrev Fm := List Sl
/-- a value in passing: data that never changes, a new list, the list that slot i owns -/
inductive RV where
  | val (d : D)
  | tmp (xs : List D)
  | sl (i : Nat)
inductive R (α : Type) where
  | ok (a : α) (ρ : Fm)
  | exc (c : Nat) (ρ : Fm)
  | no
@[simp] def R.bind {α β : Type} : R α → (α → Fm → R β) → R β
  | .ok a ρ, f => f a ρ
  | .exc c ρ, _ => .exc c ρ
  | .no, _ => .no

inductive Fl where
  | nx | ret (v : RV) | brk | cnt

inductive BOp where
  | add | sub | mul | fdiv | mod | pow | shl | shr | band | bor
  deriving DecidableEq
inductive COp where
  | eq | ne | lt | le | gt | ge | isN | isnN | in_ | notin
  deriving DecidableEq
inductive Ty where
  | int | bool | str | tuple | list
  deriving DecidableEq
/-- built-in functions of one argument -/
inductive B1 where
  | len | int | abs | max | min | sum | all | any | sorted | tuple | list | str
  deriving DecidableEq
/-- .. of two -/
inductive B2 where
  | max | min | gcd
  deriving DecidableEq
mutual
inductive Tg where
  | name (i : Nat)
  | tup (ts : Tgs)
inductive Tgs where
  | nil
  | cons (t : Tg) (ts : Tgs)
end
mutual
inductive IE where
  | lit (d : D)
  | var (i : Nat)
  | gint (x : Str) (i : Int)
  | gtup (x : Str) (is : List Int)
  | bin (o : BOp) (a b : IE)
  | neg (a : IE)
  | not (a : IE)
  | and (as : IEs)
  | or (as : IEs)
  | ite (c a b : IE)
  | cmp (o : COp) (a b : IE)
  | cmp2 (o p : COp) (a b c : IE)
  | idx (a i : IE)
  | slc (a lo hi : IE)
  | slo (a lo : IE)
  | rvs (a : IE)
  | sset (a : IE)
  | shi (a hi : IE)
  | tup (as : IEs)
  | lst (as : IEs)
  | isi (a : IE) (t : Ty)
  | b1 (f : B1) (a : IE)
  | b2 (f : B2) (a b : IE)
  | lrng (a : II)
  | trng (a : II)
  | call (f : Nat) (as : IEs)
  | comp (e : IE) (t : Tg) (it : II)
  | compIf (e : IE) (t : Tg) (it : II) (c : IE)
  | app (i : Nat) (a : IE)
  | pop0 (i : Nat)
  | popAt (i : Nat) (a : IE)
  | never
inductive IEs where
  | nil
  | cons (a : IE) (as : IEs)
inductive II where
  | rng1 (a : IE)
  | rng2 (a b : IE)
  | rng3 (a b c : IE)
  | seq (a : IE)
  | zip (a b : IE)
  | enum (a : IE)
  | rev (a : IE)
end
inductive IS where
  | skip
  | seq (s t : IS)
  | expr (e : IE)
  | asg (i : Nat) (e : IE)
  | asgT (t : Tg) (e : IE)
  | par2 (i j : Nat) (a b : IE)
  | par3 (i j l : Nat) (a b c : IE)
  | parO (i j : Nat) (a b : IE)
  | setix (i : Nat) (x e : IE)
  | ite (c : IE) (s t : IS)
  | for_ (t : Tg) (it : II) (s : IS)
  | whl (c : IE) (s : IS)
  | ret (e : IE)
  | retN
  | brk
  | cnt
  | raise (c : Nat)
  | never

/-! ### operations on data -/
def flatD : D → Bool
  | .none => true
  | .bool _ => true
  | .int _ => true
  | .str _ => true
  | _ => false
def fits (n : Nat) : Bool := decide (n ≤ 16777216)
def mulOk (i j : Int) : Bool := decide ((Builtin.Int.intBits i : Int) + (Builtin.Int.intBits j : Int) ≤ 134217728)
def divOk (j : Int) : Bool := decide (j ≠ 0) && decide (j.natAbs.log2 < 9000)
def powOk (i j : Int) : Bool := decide (0 ≤ j) && (decide (j ≤ 1000000) && decide (i.natAbs < 2 ^ 64))
def guardO {α : Type} (b : Bool) (a : α) : Option α := if b = true then some a else none
def binD : BOp → D → D → Option RV
  | .add, .int i, .int j => some (.val (.int (i + j)))
  | .add, .str x, .str y => guardO (fits (x.length + y.length)) (.val (.str (x ++ y)))
  | .add, .tuple xs, .tuple ys => guardO (fits (xs.length + ys.length)) (.val (.tuple (xs ++ ys)))
  | .add, .list xs, .list ys => guardO (fits (xs.length + ys.length)) (.tmp (xs ++ ys))
  | .sub, .int i, .int j => some (.val (.int (i - j)))
  | .mul, .int i, .int j => guardO (mulOk i j) (.val (.int (i * j)))
  | .mul, .tuple xs, .int k => guardO (decide (-1000 ≤ k) && (decide (k ≤ 1000) && decide (xs.length ≤ 1000))) (.val (.tuple (List.replicate k.toNat xs).flatten))
  | .mul, .list xs, .int k => guardO (decide (-(2 ^ 63) ≤ k) && (decide (k < 2 ^ 63) && fits (xs.length * k.toNat))) (.tmp (List.replicate k.toNat xs).flatten)
  | .fdiv, .int i, .int j => guardO (divOk j) (.val (.int (i.fdiv j)))
  | .mod, .int i, .int j => guardO (decide (j ≠ 0)) (.val (.int (i.fmod j)))
  | .pow, .int i, .int j => guardO (powOk i j) (.val (.int (i ^ j.toNat)))
  | .shl, .int i, .int j => guardO (powOk i j) (.val (.int (i * 2 ^ j.toNat)))
  | .shr, .int i, .int j => guardO (decide (0 ≤ j)) (.val (.int (i / 2 ^ j.toNat)))
  | .band, .int i, .int j => some (.val (.int (Builtin.bitAnd i j)))
  | .bor, .int i, .int j => some (.val (.int (Builtin.bitOr i j)))
  | _, _, _ => none
def inAny (d : D) (ds : List D) : Bool := ds.any fun z => PyData.eqv z d
def cmpD : COp → D → D → Option Bool
  | .eq, a, b => guardO (SeqAt.shaped a && SeqAt.shaped b) (PyData.eqv a b)
  | .ne, a, b => guardO (SeqAt.shaped a && SeqAt.shaped b) (!PyData.eqv a b)
  | .lt, .int i, .int j => some (decide (i < j))
  | .le, .int i, .int j => some (decide (i ≤ j))
  | .gt, .int i, .int j => some (decide (j < i))
  | .ge, .int i, .int j => some (decide (j ≤ i))
  | .isN, .bool i, .bool j => some (decide (i = j))
  | .isnN, .bool i, .bool j => some (!decide (i = j))
  | .isN, a, .none => some (match a with | .none => true | _ => false)
  | .isnN, a, .none => some (match a with | .none => false | _ => true)
  | .in_, a, .list ds => guardO (flatD a && ds.all flatD || SeqAt.shaped a && SeqAt.shaped (.list ds)) (inAny a ds)
  | .in_, a, .tuple ds => guardO (flatD a && ds.all flatD) (inAny a ds)
  | .notin, a, .list ds => guardO (flatD a && ds.all flatD || SeqAt.shaped a && SeqAt.shaped (.list ds)) (!inAny a ds)
  | .notin, a, .tuple ds => guardO (flatD a && ds.all flatD) (!inAny a ds)
  | _, _, _ => none
def truthD : D → Option Bool
  | .none => some false
  | .bool b => some b
  | .int i => some (i != 0)
  | .list xs => some (!xs.isEmpty)
  | .tuple xs => some (!xs.isEmpty)
  | _ => none
def isiD : D → Ty → Option Bool
  | .dict _, _ => none
  | .bool _, .int => some true
  | .bool _, .bool => some true
  | .int _, .int => some true
  | .str _, .str => some true
  | .tuple _, .tuple => some true
  | .list _, .list => some true
  | _, _ => some false
/-- each number once, in order -/
def insU (a : Int) : List Int → List Int
  | [] => [a]
  | b :: r => if a < b then a :: b :: r else if a = b then b :: r else b :: insU a r
def ssetI : List Int → List Int
  | [] => []
  | a :: r => insU a (ssetI r)
def intsD : List D → Option (List Int)
  | [] => some []
  | .int i :: r => (intsD r).map (i :: ·)
  | _ => none
def boolsD : List D → Option (List Bool)
  | [] => some []
  | .bool i :: r => (boolsD r).map (i :: ·)
  | _ => none
def maxL : List Int → Option Int
  | [] => none
  | [a] => some a
  | a :: r => (maxL r).map fun m => if m ≤ a then a else m
def minL : List Int → Option Int
  | [] => none
  | [a] => some a
  | a :: r => (minL r).map fun m => if a ≤ m then a else m
def insI (a : Int) : List Int → List Int
  | [] => [a]
  | b :: r => if a ≤ b then a :: b :: r else b :: insI a r
def sortI : List Int → List Int
  | [] => []
  | a :: r => insI a (sortI r)
/-- may x be asked for being less than b -/
def lessOk (x b : D) : Bool := W.alike x b && (decide (x.depth ≤ 60) && match x with | .tuple _ => true | _ => false)
/-- the first of the least ones, b the best of those that were -/
def minD : D → List D → Option D
  | b, [] => some b
  | b, x :: r => if lessOk x b = true then minD (if W.dataLt x b = true then x else b) r else none
def minV (xs : List D) : Option RV := match (intsD xs).bind minL with
  | some m => some (.val (.int m))
  | none => match xs with
    | [] => none
    | x :: r => (minD x r).map .val
def b1D : B1 → D → Option RV
  | .len, .list xs => some (.val (.int xs.length))
  | .len, .tuple xs => some (.val (.int xs.length))
  | .len, .str x => guardO (fits x.length) (.val (.int x.length))
  | .int, .int i => some (.val (.int i))
  | .int, .bool b => some (.val (.int (if b then 1 else 0)))
  | .abs, .int i => some (.val (.int (if i < 0 then -i else i)))
  | .max, .list xs => ((intsD xs).bind maxL).map fun m => .val (.int m)
  | .min, .list xs => minV xs
  | .sum, .list xs => (intsD xs).map fun ns => .val (.int ns.sum)
  | .all, .list xs => (boolsD xs).map fun bs => .val (.bool (bs.all id))
  | .any, .list xs => (boolsD xs).map fun bs => .val (.bool (bs.any id))
  | .sorted, .list xs => (intsD xs).map fun ns => .tmp ((sortI ns).map .int)
  | .tuple, .list xs => some (.val (.tuple xs))
  | .tuple, .tuple xs => some (.val (.tuple xs))
  | .list, .list xs => some (.tmp xs)
  | .list, .tuple xs => some (.tmp xs)
  | .str, .int i => guardO (decide (i.natAbs.log2 < 1920)) (.val (.str (toString i)))
  | _, _ => none
def ssetD : D → Option RV
  | .list xs => (intsD xs).bind fun ns => guardO (decide (ns.length < 64)) (.tmp ((ssetI ns).map .int))
  | .tuple xs => (intsD xs).bind fun ns => guardO (decide (ns.length < 64)) (.tmp ((ssetI ns).map .int))
  | _ => none
def b2D : B2 → D → D → Option D
  | .max, .int i, .int j => some (.int (if j > i then j else i))
  | .min, .int i, .int j => some (.int (if j < i then j else i))
  | .gcd, .int i, .int j => some (.int ((Nat.gcd i.natAbs j.natAbs : Nat) : Int))
  | _, _, _ => none
def idxD : D → D → Option D
  | .list xs, .int i => L2.atI xs i
  | .tuple xs, .int i => L2.atI xs i
  | _, _ => none
def cutL (xs : List D) (lo hi : Option Int) : List D := (xs.drop (HT.sIx xs.length 0 lo)).take (HT.sIx xs.length xs.length hi - HT.sIx xs.length 0 lo)
def revD : D → Option RV
  | .list xs => some (.tmp xs.reverse)
  | .tuple xs => some (.val (.tuple xs.reverse))
  | _ => none
def slcD (lo hi : Option Int) : D → Option RV
  | .list xs => some (.tmp (cutL xs lo hi))
  | .tuple xs => some (.val (.tuple (cutL xs lo hi)))
  | _ => none

/-! ### frames -/
def lift {α : Type} (o : Option α) (ρ : Fm) : R α := match o with
  | some a => .ok a ρ
  | none => .no
/-- what a value in passing says, without moving it -/
def peek : RV → Fm → Option D
  | .val d, _ => some d
  | .tmp xs, _ => some (.list xs)
  | .sl i, ρ => match ρ[i]? with
    | some (.val d) => some d
    | some (.own xs _) => some (.list xs)
    | _ => none
/-- a value in passing made data: its list is never changed from now on -/
def freeze : RV → Fm → Option (D × Fm)
  | .val d, ρ => some (d, ρ)
  | .tmp xs, ρ => some (.list xs, ρ)
  | .sl i, ρ => match ρ[i]? with
    | some (.val d) => some (d, ρ)
    | some (.own xs .mine) => some (.list xs, ρ.set i (.val (.list xs)))
    | _ => none
def free? : Option Sl → Bool
  | some (.own _ k) => decide (k = .mine)
  | some _ => true
  | none => false
def Kd.lock : Kd → Kd
  | .mine => .lockM
  | .lent => .lockL
  | k => k
def Kd.open_ : Kd → Kd
  | .lockM => .mine
  | .lockL => .lent
  | k => k
def setV (i : Nat) (d : D) (ρ : Fm) : Option Fm := if free? ρ[i]? = true then some (ρ.set i (.val d)) else none
def setVs : List Nat → List D → Fm → Option Fm
  | [], [], ρ => some ρ
  | i :: is, d :: ds, ρ => (setV i d ρ).bind fun ρ1 => setVs is ds ρ1
  | _, _, _ => none
mutual
def asgT : Tg → D → Fm → Option Fm
  | .name i, d, ρ => setV i d ρ
  | .tup ts, .tuple ds, ρ => asgTs ts ds ρ
  | .tup _, _, _ => none
def asgTs : Tgs → List D → Fm → Option Fm
  | .nil, [], ρ => some ρ
  | .cons t ts, d :: ds, ρ => (asgT t d ρ).bind fun ρ1 => asgTs ts ds ρ1
  | _, _, _ => none
end
mutual
def Tg.slots : Tg → List Nat
  | .name i => [i]
  | .tup ts => ts.slots
def Tgs.slots : Tgs → List Nat
  | .nil => []
  | .cons t ts => t.slots ++ ts.slots
end
/-- a value in passing stored at a name -/
def setR (i : Nat) (rv : RV) (ρ : Fm) : Option Fm := match rv with
  | .val d => setV i d ρ
  | .tmp xs => if free? ρ[i]? = true then some (ρ.set i (.own xs .mine)) else none
  | .sl j => (freeze (.sl j) ρ).bind fun p => setV i p.1 p.2
/-- two values stored at two names; new lists belong to them -/
def setR2 (i j : Nat) (r1 r2 : RV) (ρ : Fm) : Option Fm := match r1, r2 with
  | .sl _, _ => none
  | _, .sl _ => none
  | r1, r2 => (setR i r1 ρ).bind (setR j r2)
def wipeF (ρ : Fm) : List Nat → Fm
  | [] => ρ
  | v :: vs => (wipeF ρ vs).set v .no
/-- the slots vs as ρ0 had them -/
def backF (ρ0 ρ : Fm) : List Nat → Fm
  | [] => ρ
  | v :: vs => match ρ0[v]? with
    | some s => (backF ρ0 ρ vs).set v s
    | none => backF ρ0 ρ vs
/-- the list that a loop walks, locked: its items, the frame, what to unlock -/
def lockR : RV → Fm → Option (List D × Fm × List Nat)
  | .val (.list xs), ρ => some (xs, ρ, [])
  | .val (.tuple xs), ρ => some (xs, ρ, [])
  | .tmp xs, ρ => some (xs, ρ, [])
  | .sl i, ρ => match ρ[i]? with
    | some (.val (.list xs)) => some (xs, ρ, [])
    | some (.val (.tuple xs)) => some (xs, ρ, [])
    | some (.own xs k) => if k = .mine ∨ k = .lent then some (xs, ρ.set i (.own xs k.lock), [i]) else some (xs, ρ, [])
    | _ => none
  | _, _ => none
/-- a list (true) or a tuple -/
def kindR : RV → Fm → Option Bool
  | .val (.list _), _ => some true
  | .val (.tuple _), _ => some false
  | .tmp _, _ => some true
  | .sl i, ρ => match ρ[i]? with
    | some (.val (.list _)) => some true
    | some (.val (.tuple _)) => some false
    | some (.own _ _) => some true
    | _ => none
  | _, _ => none
/-- what zip may take: two lists, two tuples, a list and a tuple -/
def kindZ : Option Bool → Option Bool → Bool
  | some false, some true => false
  | some _, some _ => true
  | _, _ => false
def unlock (ρ : Fm) : List Nat → Fm
  | [] => ρ
  | i :: r => match (unlock ρ r)[i]? with
    | some (.own xs k) => (unlock ρ r).set i (.own xs k.open_)
    | _ => unlock ρ r
/-- arguments: data, or a list that is lent -/
inductive Arg where
  | val (d : D)
  | own (xs : List D) (k : Kd)
inductive RC where
  | ok (v : RV) (fin : List (List D))
  | exc (c : Nat) (fin : List (List D))
  | no
def argOf (ρ : Fm) : Sum D Nat → Option Arg
  | .inl d => some (.val d)
  | .inr i => match ρ[i]? with
    | some (.val d) => some (.val d)
    | some (.own xs k) => some (.own xs (if k = .mine ∨ k = .lent then .lent else .lockL))
    | _ => none
def argsOf (ρ : Fm) : List (Sum D Nat) → Option (List Arg)
  | [] => some []
  | a :: r => (argOf ρ a).bind fun x => (argsOf ρ r).map (x :: ·)
/-- the slots of the lists that are handed on -/
def lentOf (ρ : Fm) : List (Sum D Nat) → List Nat
  | [] => []
  | .inl _ :: r => lentOf ρ r
  | .inr i :: r => match ρ[i]? with
    | some (.own _ _) => i :: lentOf ρ r
    | _ => lentOf ρ r
/-- the lists as the callee left them -/
def giveB (ρ : Fm) : List (Sum D Nat) → List (List D) → Fm
  | [], _ => ρ
  | .inl _ :: r, fin => giveB ρ r fin
  | .inr i :: r, fin => (match ρ[i]? with
    | some (.own _ k) => (match fin with
      | ys :: fin' => (giveB ρ r fin').set i (.own ys k)
      | [] => giveB ρ r [])
    | _ => giveB ρ r fin)
def afterCall (ρ : Fm) (as : List (Sum D Nat)) : RC → R RV
  | .ok v fin => .ok v (giveB ρ as fin)
  | .exc c fin => .exc c (giveB ρ as fin)
  | .no => .no
def doCall (C : Nat → List Arg → RC) (f : Nat) (as : List (Sum D Nat)) (ρ : Fm) : R RV :=
  match argsOf ρ as with
  | some args => if (lentOf ρ as).Nodup then afterCall ρ as (C f args) else .no
  | none => .no
/-- a comprehension's turns: f gives an item or none -/
def compL (f : D → Fm → R (Option D)) : List D → Fm → R (List D)
  | [], ρ => .ok [] ρ
  | d :: ds, ρ => (f d ρ).bind fun o ρ1 => (compL f ds ρ1).bind fun r ρ2 => .ok (match o with | some x => x :: r | none => r) ρ2
def forL (f : D → Fm → R Fl) : List D → Fm → R Fl
  | [], ρ => .ok .nx ρ
  | d :: ds, ρ => (f d ρ).bind fun fl ρ1 => match fl with
    | .nx => forL f ds ρ1
    | .cnt => forL f ds ρ1
    | .brk => .ok .nx ρ1
    | .ret v => .ok (.ret v) ρ1
def whlN (c : Fm → R Bool) (f : Fm → R Fl) : Nat → Fm → R Fl
  | 0, _ => .no
  | n + 1, ρ => (c ρ).bind fun b ρ1 => if b = true then (f ρ1).bind fun fl ρ2 => match fl with
      | .nx => whlN c f n ρ2
      | .cnt => whlN c f n ρ2
      | .brk => .ok .nx ρ2
      | .ret v => .ok (.ret v) ρ2
    else .ok .nx ρ1
def unlockR {α : Type} (lk : List Nat) : R α → R α
  | .ok a ρ => .ok a (unlock ρ lk)
  | .exc c ρ => .exc c (unlock ρ lk)
  | .no => .no
def backR {α : Type} (ρ0 : Fm) (own : List Nat) : R α → R α
  | .ok a ρ => .ok a (backF ρ0 ρ own)
  | .exc c ρ => .exc c ρ
  | .no => .no
def compAll (own : List Nat) (f : D → Fm → R (Option D)) (ds : List D) (lk : List Nat) (ρ : Fm) : R RV :=
  if fits ds.length = true then
    (match compL (fun d ρ1 => backR ρ1 own (f d (wipeF ρ1 own))) ds ρ with
    | .ok r ρ1 => .ok (.tmp r) (unlock ρ1 lk)
    | _ => .no)
  else .no
def rangeL (lo : Int) (c : Int) (n : Nat) : List D := (List.range n).map fun i => .int (lo + ((i : Nat) : Int) * c)
def rngB (i : Int) : Bool := decide (-(2 ^ 62) ≤ i) && decide (i < 2 ^ 62)
/-- how many turns of range(i, j, c) -/
def rngN (i j c : Int) : Nat := (Builtin.Range.rangeSize i j c).toNat
def asInt : D → Option Int
  | .int i => some i
  | _ => none
def asBool : D → Option Bool
  | .bool b => some b
  | _ => none
def zipD : List D → List D → List D
  | a :: as, b :: bs => .tuple [a, b] :: zipD as bs
  | _, _ => []
def enumD (n : Nat) : List D → List D
  | [] => []
  | a :: as => .tuple [.int n, a] :: enumD (n + 1) as
/-- peeked as .. -/
def pk {α : Type} (rv : RV) (ρ : Fm) (f : D → Option α) : R α := lift ((peek rv ρ).bind f) ρ
def fzR (rv : RV) (ρ : Fm) : R D := match freeze rv ρ with
  | some p => .ok p.1 p.2
  | none => .no
def Kd.rw (k : Kd) : Bool := decide (k = .mine) || decide (k = .lent)
def appAt (i : Nat) (x : D) (ρ : Fm) : R RV := match ρ[i]? with
  | some (.own xs k) => if (k.rw && fits (xs.length + 1)) = true then .ok (.val .none) (ρ.set i (.own (xs ++ [x]) k)) else .no
  | _ => .no
def pop0At (i : Nat) (ρ : Fm) : R RV := match ρ[i]? with
  | some (.own xs k) => if k.rw = true then (lift xs[xs.length - 1]? ρ).bind fun x _ => .ok (.val x) (ρ.set i (.own xs.dropLast k)) else .no
  | _ => .no
def popAt (i : Nat) (j : Int) (ρ : Fm) : R RV := match ρ[i]? with
  | some (.own xs k) => if (k.rw && (decide (-(2 ^ 63) ≤ j) && decide (j < 2 ^ 63))) = true then (lift (L2.ixN xs.length j) ρ).bind fun n _ => (lift xs[n]? ρ).bind fun x _ => .ok (.val x) (ρ.set i (.own (xs.eraseIdx n) k)) else .no
  | _ => .no
def setAt (i : Nat) (j : Int) (d : D) (ρ : Fm) : R Fl := match ρ[i]? with
  | some (.own xs k) => if k.rw = true then (lift (L2.ixN xs.length j) ρ).bind fun n _ => .ok .nx (ρ.set i (.own (xs.set n d) k)) else .no
  | _ => .no
abbrev Its := List D × List Nat
section
variable (C : Nat → List Arg → RC)
mutual
def evE : IE → Fm → R RV
  | .lit d, ρ => .ok (.val d) ρ
  | .var i, ρ => (match ρ[i]? with
    | some (.val d) => .ok (.val d) ρ
    | some (.own _ _) => .ok (.sl i) ρ
    | _ => .no)
  | .gint _ i, ρ => .ok (.val (.int i)) ρ
  | .gtup _ is, ρ => .ok (.val (.tuple (is.map .int))) ρ
  | .bin o a b, ρ => (evE a ρ).bind fun r1 ρ1 => (evE b ρ1).bind fun r2 ρ2 => lift ((peek r1 ρ2).bind fun d1 => (peek r2 ρ2).bind fun d2 => binD o d1 d2) ρ2
  | .neg a, ρ => (evE a ρ).bind fun r1 ρ1 => pk r1 ρ1 fun d => (asInt d).map fun i => .val (.int (-i))
  | .not a, ρ => (evE a ρ).bind fun r1 ρ1 => pk r1 ρ1 fun d => (asBool d).map fun b => .val (.bool (!b))
  | .and as, ρ => evAnd as ρ
  | .or as, ρ => evOr as ρ
  | .ite c a b, ρ => (evT c ρ).bind fun t ρ1 => if t = true then evE a ρ1 else evE b ρ1
  | .cmp o a b, ρ => (evE a ρ).bind fun r1 ρ1 => (evE b ρ1).bind fun r2 ρ2 => lift ((peek r1 ρ2).bind fun d1 => (peek r2 ρ2).bind fun d2 => (cmpD o d1 d2).map fun t => .val (.bool t)) ρ2
  | .cmp2 o p a b c, ρ => (evE a ρ).bind fun r1 ρ1 => (evE b ρ1).bind fun r2 ρ2 => (lift ((peek r1 ρ2).bind fun d1 => (peek r2 ρ2).bind fun d2 => cmpD o d1 d2) ρ2).bind fun t ρ3 =>
      if t = true then (evE c ρ3).bind fun r3 ρ4 => lift ((peek r2 ρ4).bind fun d2 => (peek r3 ρ4).bind fun d3 => (cmpD p d2 d3).map fun t => .val (.bool t)) ρ4 else .ok (.val (.bool false)) ρ3
  | .idx a i, ρ => (evE a ρ).bind fun r1 ρ1 => (evE i ρ1).bind fun r2 ρ2 => lift ((peek r1 ρ2).bind fun d1 => (peek r2 ρ2).bind fun d2 => (idxD d1 d2).map .val) ρ2
  | .slc a lo hi, ρ => (evE a ρ).bind fun r1 ρ1 => (evE lo ρ1).bind fun r2 ρ2 => (pk r2 ρ2 asInt).bind fun i _ => (evE hi ρ2).bind fun r3 ρ3 => (pk r3 ρ3 asInt).bind fun j _ => lift ((peek r1 ρ3).bind (slcD (some i) (some j))) ρ3
  | .sset a, ρ => (evE a ρ).bind fun r1 ρ1 => lift ((peek r1 ρ1).bind ssetD) ρ1
  | .rvs a, ρ => (evE a ρ).bind fun r1 ρ1 => lift ((peek r1 ρ1).bind revD) ρ1
  | .slo a lo, ρ => (evE a ρ).bind fun r1 ρ1 => (evE lo ρ1).bind fun r2 ρ2 => (pk r2 ρ2 asInt).bind fun i _ => lift ((peek r1 ρ2).bind (slcD (some i) none)) ρ2
  | .shi a hi, ρ => (evE a ρ).bind fun r1 ρ1 => (evE hi ρ1).bind fun r2 ρ2 => (pk r2 ρ2 asInt).bind fun i _ => lift ((peek r1 ρ2).bind (slcD none (some i))) ρ2
  | .tup as, ρ => (evD as ρ).bind fun ds ρ1 => lift (guardO (fits ds.length) (.val (.tuple ds))) ρ1
  | .lst as, ρ => (evD as ρ).bind fun ds ρ1 => lift (guardO (fits ds.length) (.tmp ds)) ρ1
  | .isi a t, ρ => (evE a ρ).bind fun r1 ρ1 => pk r1 ρ1 fun d => (isiD d t).map fun b => .val (.bool b)
  | .b1 f a, ρ => (evE a ρ).bind fun r1 ρ1 => pk r1 ρ1 (b1D f)
  | .b2 f a b, ρ => (evE a ρ).bind fun r1 ρ1 => (evE b ρ1).bind fun r2 ρ2 => lift ((peek r1 ρ2).bind fun d1 => (peek r2 ρ2).bind fun d2 => (b2D f d1 d2).map .val) ρ2
  | .lrng it, ρ => (evI it ρ).bind fun p ρ1 => lift (guardO (fits p.1.length) (.tmp p.1)) ρ1
  | .trng it, ρ => (evI it ρ).bind fun p ρ1 => lift (guardO (fits p.1.length) (.val (.tuple p.1))) ρ1
  | .call f as, ρ => (evA as ρ).bind fun xs ρ1 => doCall C f xs ρ1
  | .comp e t it, ρ => (evI it ρ).bind fun p ρ1 => compAll t.slots (fun d ρ2 => (lift (asgT t d ρ2) ρ2).bind fun ρ3 _ => (evE e ρ3).bind fun r ρ4 => (fzR r ρ4).bind fun x ρ5 => .ok (some x) ρ5) p.1 p.2 ρ1
  | .compIf e t it c, ρ => (evI it ρ).bind fun p ρ1 => compAll t.slots (fun d ρ2 => (lift (asgT t d ρ2) ρ2).bind fun ρ3 _ => (evT c ρ3).bind fun b ρ4 => if b = true then (evE e ρ4).bind fun r ρ5 => (fzR r ρ5).bind fun x ρ6 => .ok (some x) ρ6 else .ok none ρ4) p.1 p.2 ρ1
  | .app i a, ρ => (match ρ[i]? with
    | some (.own _ _) => (evE a ρ).bind fun r ρ1 => (fzR r ρ1).bind fun x ρ2 => appAt i x ρ2
    | _ => .no)
  | .pop0 i, ρ => pop0At i ρ
  | .popAt i a, ρ => (match ρ[i]? with
    | some (.own _ _) => (evE a ρ).bind fun r ρ1 => (pk r ρ1 asInt).bind fun j _ => popAt i j ρ1
    | _ => .no)
  | .never, _ => .no
def evT : IE → Fm → R Bool
  | .not a, ρ => (evT a ρ).bind fun b ρ1 => .ok (!b) ρ1
  | .and as, ρ => evTAnd as ρ
  | .or as, ρ => evTOr as ρ
  | .ite _ _ _, _ => .no
  | .lit d, ρ => lift (truthD d) ρ
  | .var i, ρ => (match ρ[i]? with
    | some (.val d) => lift (truthD d) ρ
    | some (.own xs _) => .ok (!xs.isEmpty) ρ
    | _ => .no)
  | .gint _ i, ρ => .ok (i != 0) ρ
  | .bin o a b, ρ => (evE a ρ).bind fun r1 ρ1 => (evE b ρ1).bind fun r2 ρ2 => lift ((peek r1 ρ2).bind fun d1 => (peek r2 ρ2).bind fun d2 => (binD o d1 d2).bind fun r => (peek r ρ2).bind truthD) ρ2
  | .cmp o a b, ρ => (evE a ρ).bind fun r1 ρ1 => (evE b ρ1).bind fun r2 ρ2 => lift ((peek r1 ρ2).bind fun d1 => (peek r2 ρ2).bind fun d2 => cmpD o d1 d2) ρ2
  | .cmp2 o p a b c, ρ => (evE a ρ).bind fun r1 ρ1 => (evE b ρ1).bind fun r2 ρ2 => (lift ((peek r1 ρ2).bind fun d1 => (peek r2 ρ2).bind fun d2 => cmpD o d1 d2) ρ2).bind fun t ρ3 =>
      if t = true then (evE c ρ3).bind fun r3 ρ4 => lift ((peek r2 ρ4).bind fun d2 => (peek r3 ρ4).bind fun d3 => cmpD p d2 d3) ρ4 else .ok false ρ3
  | .isi a t, ρ => (evE a ρ).bind fun r1 ρ1 => pk r1 ρ1 fun d => isiD d t
  | .b1 f a, ρ => (evE a ρ).bind fun r1 ρ1 => (pk r1 ρ1 (b1D f)).bind fun r ρ2 => pk r ρ2 truthD
  | .call f as, ρ => (evA as ρ).bind fun xs ρ1 => (doCall C f xs ρ1).bind fun r ρ2 => pk r ρ2 truthD
  | .idx a i, ρ => (evE a ρ).bind fun r1 ρ1 => (evE i ρ1).bind fun r2 ρ2 => lift ((peek r1 ρ2).bind fun d1 => (peek r2 ρ2).bind fun d2 => (idxD d1 d2).bind truthD) ρ2
  | _, _ => .no
def evAnd : IEs → Fm → R RV
  | .nil, _ => .no
  | .cons a .nil, ρ => evE a ρ
  | .cons a as, ρ => (evE a ρ).bind fun r ρ1 => (pk r ρ1 asBool).bind fun t _ => if t = true then evAnd as ρ1 else .ok (.val (.bool false)) ρ1
def evOr : IEs → Fm → R RV
  | .nil, _ => .no
  | .cons a .nil, ρ => evE a ρ
  | .cons a as, ρ => (evE a ρ).bind fun r ρ1 => (pk r ρ1 asBool).bind fun t _ => if t = true then .ok (.val (.bool true)) ρ1 else evOr as ρ1
def evTAnd : IEs → Fm → R Bool
  | .nil, _ => .no
  | .cons a .nil, ρ => evT a ρ
  | .cons a as, ρ => (evT a ρ).bind fun t ρ1 => if t = true then evTAnd as ρ1 else .ok false ρ1
def evTOr : IEs → Fm → R Bool
  | .nil, _ => .no
  | .cons a .nil, ρ => evT a ρ
  | .cons a as, ρ => (evT a ρ).bind fun t ρ1 => if t = true then .ok true ρ1 else evTOr as ρ1
/-- items of a display -/
def evD : IEs → Fm → R (List D)
  | .nil, ρ => .ok [] ρ
  | .cons a as, ρ => (evE a ρ).bind fun r ρ1 => (fzR r ρ1).bind fun x ρ2 => (evD as ρ2).bind fun xs ρ3 => .ok (x :: xs) ρ3
/-- arguments -/
def evA : IEs → Fm → R (List (Sum D Nat))
  | .nil, ρ => .ok [] ρ
  | .cons a as, ρ => (evE a ρ).bind fun r ρ1 => (match r with
    | .sl i => (evA as ρ1).bind fun xs ρ3 => .ok (.inr i :: xs) ρ3
    | r => (fzR r ρ1).bind fun x ρ2 => (evA as ρ2).bind fun xs ρ3 => .ok (.inl x :: xs) ρ3)
def evI : II → Fm → R Its
  | .rng1 a, ρ => (evE a ρ).bind fun r ρ1 => (pk r ρ1 asInt).bind fun j _ => lift (guardO (rngB j) (rangeL 0 1 j.toNat, [])) ρ1
  | .rng2 a b, ρ => (evE a ρ).bind fun r ρ1 => (pk r ρ1 asInt).bind fun i _ => (evE b ρ1).bind fun r2 ρ2 => (pk r2 ρ2 asInt).bind fun j _ => lift (guardO (rngB i && rngB j) (rangeL i 1 (j - i).toNat, [])) ρ2
  | .rng3 a b c, ρ => (evE a ρ).bind fun r ρ1 => (pk r ρ1 asInt).bind fun i _ => (evE b ρ1).bind fun r2 ρ2 => (pk r2 ρ2 asInt).bind fun j _ => (evE c ρ2).bind fun r3 ρ3 => (pk r3 ρ3 asInt).bind fun k _ =>
      lift (guardO (Builtin.Range.small i j k && (decide (k ≠ 0) && decide (k.natAbs < 1073741824))) (rangeL i k (rngN i j k), [])) ρ3
  | .seq a, ρ => (evE a ρ).bind fun r ρ1 => (match lockR r ρ1 with
    | some p => .ok (p.1, p.2.2) p.2.1
    | none => .no)
  | .zip a b, ρ => (evE a ρ).bind fun r ρ1 => (evE b ρ1).bind fun r2 ρ2 => (match lockR r ρ2 with
    | some p => (match lockR r2 p.2.1 with
      | some q => if kindZ (kindR r ρ2) (kindR r2 ρ2) = true then .ok (zipD p.1 q.1, p.2.2 ++ q.2.2) q.2.1 else .no
      | none => .no)
    | none => .no)
  | .enum a, ρ => (evE a ρ).bind fun r ρ1 => (match lockR r ρ1 with
    | some p => .ok (enumD 0 p.1, p.2.2) p.2.1
    | none => .no)
  | .rev a, ρ => (evE a ρ).bind fun r ρ1 => (match lockR r ρ1 with
    | some p => .ok (p.1.reverse, p.2.2) p.2.1
    | none => .no)
end
/-- the most turns of a while -/
def turnsMax : Nat := 2 ^ 64
def evS : IS → Fm → R Fl
  | .skip, ρ => .ok .nx ρ
  | .seq s t, ρ => (evS s ρ).bind fun fl ρ1 => match fl with
    | .nx => evS t ρ1
    | fl => .ok fl ρ1
  | .expr e, ρ => (evE C e ρ).bind fun _ ρ1 => .ok .nx ρ1
  | .asg i e, ρ => (evE C e ρ).bind fun r ρ1 => (lift (setR i r ρ1) ρ1).bind fun ρ2 _ => .ok .nx ρ2
  | .asgT t e, ρ => (evE C e ρ).bind fun r ρ1 => (fzR r ρ1).bind fun d ρ2 => (lift (asgT t d ρ2) ρ2).bind fun ρ3 _ => .ok .nx ρ3
  | .par2 i j a b, ρ => (evD C (.cons a (.cons b .nil)) ρ).bind fun ds ρ1 => (lift (setVs [i, j] ds ρ1) ρ1).bind fun ρ2 _ => .ok .nx ρ2
  | .par3 i j l a b c, ρ => (evD C (.cons a (.cons b (.cons c .nil))) ρ).bind fun ds ρ1 => (lift (setVs [i, j, l] ds ρ1) ρ1).bind fun ρ2 _ => .ok .nx ρ2
  | .parO i j a b, ρ => (evE C a ρ).bind fun r1 ρ1 => (evE C b ρ1).bind fun r2 ρ2 => (lift (setR2 i j r1 r2 ρ2) ρ2).bind fun ρ3 _ => .ok .nx ρ3
  | .setix i x e, ρ => (evE C e ρ).bind fun r ρ1 => (fzR r ρ1).bind fun d ρ2 => (match ρ2[i]? with
    | some (.own _ _) => (evE C x ρ2).bind fun r2 ρ3 => (pk r2 ρ3 asInt).bind fun j _ => setAt i j d ρ3
    | _ => .no)
  | .ite c s t, ρ => (evT C c ρ).bind fun b ρ1 => if b = true then evS s ρ1 else evS t ρ1
  | .for_ t it s, ρ => (evI C it ρ).bind fun p ρ1 => unlockR p.2 (forL (fun d ρ2 => (lift (asgT t d ρ2) ρ2).bind fun ρ3 _ => evS s ρ3) p.1 ρ1)
  | .whl c s, ρ => whlN (fun ρ1 => evT C c ρ1) (fun ρ1 => evS s ρ1) turnsMax ρ
  | .ret e, ρ => (evE C e ρ).bind fun r ρ1 => .ok (.ret r) ρ1
  | .retN, ρ => .ok (.ret (.val .none)) ρ
  | .brk, ρ => .ok .brk ρ
  | .cnt, ρ => .ok .cnt ρ
  | .raise c, ρ => .exc c ρ
  | .never, _ => .no
end
/-! ### defs -/
structure Fn where
  /-- slots, parameters first -/
  slots : Nat
  pars : Nat
  body : IS
def slOf : Arg → Sl
  | .val d => .val d
  | .own xs k => .own xs k
def frameOf (fn : Fn) (args : List Arg) : Fm := args.map slOf ++ List.replicate (fn.slots - args.length) .no
def finOf (ρ : Fm) : Nat → List Arg → List (List D)
  | _, [] => []
  | i, .val _ :: r => finOf ρ (i + 1) r
  | i, .own xs _ :: r => (match ρ[i]? with
    | some (.own ys _) => ys
    | _ => xs) :: finOf ρ (i + 1) r
def retOf (rv : RV) (ρ : Fm) : Option RV := match rv with
  | .val d => some (.val d)
  | .tmp xs => some (.tmp xs)
  | .sl i => match ρ[i]? with
    | some (.own xs .mine) => some (.tmp xs)
    | some (.val d) => some (.val d)
    | _ => none
def endOf (args : List Arg) : R Fl → RC
  | .ok .nx ρ => .ok (.val .none) (finOf ρ 0 args)
  | .ok (.ret v) ρ => (match retOf v ρ with
    | some r => .ok r (finOf ρ 0 args)
    | none => .no)
  | .exc c ρ => .exc c (finOf ρ 0 args)
  | _ => .no
def evC (fs : List Fn) : Nat → Nat → List Arg → RC
  | 0, _, _ => .no
  | n + 1, f, args => match fs[f]? with
    | some fn => if args.length = fn.pars then endOf args (evS (evC fs n) fn.body (frameOf fn args)) else .no
    | none => .no
end Wk

/-! The walk layer, part 2: what a frame means in a heap; steps. -/
namespace Wk
open PySem PySem.Spec L2

/-! ### data in a heap -/
abbrev SubH (F F' : Hp) : Prop := ∀ a o, F a = some o → F' a = some o
/-- a list that never changes: in F, or one of the written part -/
def Lx (K : PySem.W.Frag) (F : Hp) (a : Addr) (xs : List V) : Prop := Rd F a (.lst xs) ∨ ∃ (its : List Value) (n : Nat), K.lookup a = some { cls := .type "list", data := .seq its.toArray n } ∧ its.length ≤ sizeLine ∧ Vals xs its
mutual
/-- v is the data d, by what stands in F: a list or a tuple that never changes, its items alike -/
inductive Dq (K : PySem.W.Frag) (F : Hp) : V → D → Prop where
  | non : Dq K F .non .none
  | bl (b : Bool) : Dq K F (.bl b) (.bool b)
  | int (i : Int) : Dq K F (.int i) (.int i)
  | str (x : Str) : Dq K F (.str x) (.str x)
  | lst {a : Addr} {xs : List V} {ds : List D} : Lx K F a xs → DqAll K F xs ds → Dq K F (.ref a) (.list ds)
  | tup {a : Addr} {xs : List V} {ds : List D} : SqT K F a xs → DqAll K F xs ds → Dq K F (.ref a) (.tuple ds)
inductive DqAll (K : PySem.W.Frag) (F : Hp) : List V → List D → Prop where
  | nil : DqAll K F [] []
  | cons {v : V} {vs : List V} {d : D} {ds : List D} : Dq K F v d → DqAll K F vs ds → DqAll K F (v :: vs) (d :: ds)
end
theorem rd_mono {F F' : Hp} {a : Addr} {u : HO} (s : SubH F F') (h : Rd F a u) : Rd F' a u := by
  rcases h with h | ⟨o, h⟩
  · exact .inl (s _ _ h)
  · exact .inr ⟨o, s _ _ h⟩
theorem lx_mono {K : PySem.W.Frag} {F F' : Hp} {a : Addr} {xs : List V} (s : SubH F F') (h : Lx K F a xs) : Lx K F' a xs := h.imp (rd_mono s) id
theorem lx_sq {K : PySem.W.Frag} {F : Hp} {a : Addr} {xs : List V} (h : Lx K F a xs) : SqL K F a xs := by
  rcases h with h | ⟨its, n, h1, h2, h3⟩
  · exact .inl h
  · exact .inr ⟨_, its.toArray, n, h1, rfl, rfl, rfl, by rw [List.size_toArray]; exact h2, h3⟩
theorem Lx.of {K : PySem.W.Frag} {F : Hp} {a : Addr} {xs : List V} (h : F a = some (.lst xs)) : Lx K F a xs := .inl (.inl h)
theorem sqT_mono {K : PySem.W.Frag} {F F' : Hp} {a : Addr} {xs : List V} (s : SubH F F') (h : SqT K F a xs) : SqT K F' a xs := by
  rcases h with (h | ⟨o, h⟩) | h
  · exact .inl (.inl (s _ _ h))
  · exact .inl (.inr ⟨o, s _ _ h⟩)
  · exact .inr h
mutual
theorem dq_mono {K : PySem.W.Frag} {F F' : Hp} (s : SubH F F') : ∀ (d : D) (v : V), Dq K F v d → Dq K F' v d
  | .none, _, h => by cases h; exact .non
  | .bool b, _, h => by cases h; exact .bl b
  | .int i, _, h => by cases h; exact .int i
  | .str x, _, h => by cases h; exact .str x
  | .list ds, _, h => by
    cases h with
    | lst hs ha => exact .lst (lx_mono s hs) (dqAll_mono s ds _ ha)
  | .tuple ds, _, h => by
    cases h with
    | tup hs ha => exact .tup (sqT_mono s hs) (dqAll_mono s ds _ ha)
  | .dict _, _, h => by cases h
theorem dqAll_mono {K : PySem.W.Frag} {F F' : Hp} (s : SubH F F') : ∀ (ds : List D) (vs : List V), DqAll K F vs ds → DqAll K F' vs ds
  | [], _, h => by cases h; exact .nil
  | d :: ds, _, h => by
    cases h with
    | cons h1 h2 => exact .cons (dq_mono s d _ h1) (dqAll_mono s ds _ h2)
end
theorem subH_trans {F F1 F2 : Hp} (a : SubH F F1) (b : SubH F1 F2) : SubH F F2 := fun c o h => b c o (a c o h)
theorem subH_upd {F : Hp} {a : Addr} {o : HO} (h : F a = none) : SubH F (upd F a o) := fun b u e => by
  rw [upd_ne (ne_of_none e h)]
  exact e
mutual
theorem dq_dp {K : PySem.W.Frag} {F : Hp} : ∀ (d : D) (v : V), Dq K F v d → Dp K F v d
  | .none, _, h => by cases h; exact .non
  | .bool b, _, h => by cases h; exact .bl b
  | .int i, _, h => by cases h; exact .int i
  | .str x, _, h => by cases h; exact .str x
  | .list ds, _, h => by
    cases h with
    | lst hs ha => exact .lst (lx_sq hs) (dqAll_dp ds _ ha)
  | .tuple ds, _, h => by
    cases h with
    | tup hs ha => exact .tup hs (dqAll_dp ds _ ha)
  | .dict _, _, h => by cases h
theorem dqAll_dp {K : PySem.W.Frag} {F : Hp} : ∀ (ds : List D) (vs : List V), DqAll K F vs ds → DpAll K F vs ds
  | [], _, h => by cases h; exact .nil
  | d :: ds, _, h => by
    cases h with
    | cons h1 h2 => exact .cons (dq_dp d _ h1) (dqAll_dp ds _ h2)
end
section
variable {K : PySem.W.Frag} {F H : Hp}
theorem dqAll_len : ∀ {vs : List V} {ds : List D}, DqAll K F vs ds → vs.length = ds.length
  | _, _, .nil => rfl
  | _, _, .cons _ t => by simp [dqAll_len t]
theorem dqAll_get : ∀ {vs : List V} {ds : List D} {i : Nat} {d : D}, DqAll K F vs ds → ds[i]? = some d → ∃ v, vs[i]? = some v ∧ Dq K F v d
  | _, _, _, _, .nil, e => by simp at e
  | _, _, 0, _, .cons h _, e => by simp at e; subst e; exact ⟨_, rfl, h⟩
  | _, _, i + 1, d, .cons _ t, e => by
    obtain ⟨v, h1, h2⟩ := dqAll_get (i := i) (d := d) t (by simpa using e)
    exact ⟨v, by simpa using h1, h2⟩
theorem dqAll_get' : ∀ {vs : List V} {ds : List D} {i : Nat} {v : V}, DqAll K F vs ds → vs[i]? = some v → ∃ d, ds[i]? = some d ∧ Dq K F v d
  | _, _, _, _, .nil, e => by simp at e
  | _, _, 0, _, .cons h _, e => by simp at e; subst e; exact ⟨_, rfl, h⟩
  | _, _, i + 1, v, .cons _ t, e => by
    obtain ⟨d, h1, h2⟩ := dqAll_get' (i := i) (v := v) t (by simpa using e)
    exact ⟨d, by simpa using h1, h2⟩
theorem dqAll_app : ∀ {vs us : List V} {ds es : List D}, DqAll K F vs ds → DqAll K F us es → DqAll K F (vs ++ us) (ds ++ es)
  | _, _, _, _, .nil, s => s
  | _, _, _, _, .cons r t, s => .cons r (dqAll_app t s)
theorem dqAll_take : ∀ {vs : List V} {ds : List D} (n : Nat), DqAll K F vs ds → DqAll K F (vs.take n) (ds.take n)
  | _, _, 0, _ => .nil
  | _, _, _ + 1, .nil => .nil
  | _, _, n + 1, .cons r t => .cons r (dqAll_take n t)
theorem dqAll_drop : ∀ {vs : List V} {ds : List D} (n : Nat), DqAll K F vs ds → DqAll K F (vs.drop n) (ds.drop n)
  | _, _, 0, r => r
  | _, _, _ + 1, .nil => .nil
  | _, _, n + 1, .cons _ t => dqAll_drop n t
theorem dqAll_set {v : V} {d : D} (r : Dq K F v d) : ∀ {vs : List V} {ds : List D} (i : Nat), DqAll K F vs ds → DqAll K F (vs.set i v) (ds.set i d)
  | _, _, _, .nil => .nil
  | _, _, 0, .cons _ t => .cons r t
  | _, _, i + 1, .cons q t => .cons q (dqAll_set r i t)
theorem dqAll_erase : ∀ {vs : List V} {ds : List D} (i : Nat), DqAll K F vs ds → DqAll K F (vs.eraseIdx i) (ds.eraseIdx i)
  | _, _, _, .nil => .nil
  | _, _, 0, .cons _ t => t
  | _, _, i + 1, .cons q t => .cons q (dqAll_erase i t)
theorem dqAll_rev : ∀ {vs : List V} {ds : List D}, DqAll K F vs ds → DqAll K F vs.reverse ds.reverse
  | _, _, .nil => .nil
  | _, _, .cons r t => by
    rw [List.reverse_cons, List.reverse_cons]
    exact dqAll_app (dqAll_rev t) (.cons r .nil)
theorem dqAll_rep : ∀ (n : Nat) {vs : List V} {ds : List D}, DqAll K F vs ds → DqAll K F (List.replicate n vs).flatten (List.replicate n ds).flatten
  | 0, _, _, _ => by simp; exact .nil
  | n + 1, _, _, h => by
    rw [List.replicate_succ, List.replicate_succ, List.flatten_cons, List.flatten_cons]
    exact dqAll_app h (dqAll_rep n h)
theorem dqAll_ints : ∀ {vs : List V} {ds : List D} {ns : List Int}, DqAll K F vs ds → intsD ds = some ns → vs = ns.map V.int
  | _, _, ns, .nil, e => by
    simp [intsD] at e
    subst e
    rfl
  | _, _, ns, .cons (d := d) (ds := ds) h t, e => by
    cases h with
    | int i =>
      simp only [intsD] at e
      obtain ⟨ms, e1, e2⟩ := Option.map_eq_some_iff.mp e
      subst e2
      rw [dqAll_ints t e1]
      rfl
    | _ => simp [intsD] at e
theorem dqAll_bools : ∀ {vs : List V} {ds : List D} {ns : List Bool}, DqAll K F vs ds → boolsD ds = some ns → vs = ns.map V.bl
  | _, _, ns, .nil, e => by
    simp [boolsD] at e
    subst e
    rfl
  | _, _, ns, .cons (d := d) (ds := ds) h t, e => by
    cases h with
    | bl i =>
      simp only [boolsD] at e
      obtain ⟨ms, e1, e2⟩ := Option.map_eq_some_iff.mp e
      subst e2
      rw [dqAll_bools t e1]
      rfl
    | _ => simp [boolsD] at e
theorem dqAll_ofInts : ∀ (ns : List Int), DqAll K F (ns.map V.int) (ns.map PyData.int)
  | [] => .nil
  | n :: ns => .cons (.int n) (dqAll_ofInts ns)
end

/-! ### frames in a heap -/
def OwnAt (σ : St) (ρ : Fm) (a : Addr) : Prop := ∃ (i : Nat) (xs : List D) (k : Kd), ρ[i]? = some (.own xs k) ∧ σ[i]? = some (some (V.ref a))
structure EnvOk (K : PySem.W.Frag) (H0 F : Hp) (σ : St) (H : Hp) (ρ : Fm) : Prop where
  sub : SubH F H
  len : ρ.length = σ.length
  val : ∀ (i : Nat) (d : D), ρ[i]? = some (.val d) → ∃ v, σ[i]? = some (some v) ∧ Dq K F v d
  own : ∀ (i : Nat) (xs : List D) (k : Kd), ρ[i]? = some (.own xs k) → ∃ a vs, σ[i]? = some (some (.ref a)) ∧ H a = some (.lst vs) ∧ DqAll K F vs xs ∧ F a = none ∧ (k = .mine ∨ k = .lockM → H0 a = none)
  sep : ∀ (i j : Nat) (a : Addr) (xs ys : List D) (k l : Kd), ρ[i]? = some (.own xs k) → ρ[j]? = some (.own ys l) → σ[i]? = some (some (V.ref a)) → σ[j]? = some (some (V.ref a)) → i = j
  dom : ∀ a, H a = none → H0 a = none
/-- Hs: the heap ahead; a new list is none of its -/
def RvOk (K : PySem.W.Frag) (H0 Hs F : Hp) (σ : St) (H : Hp) (ρ : Fm) (v : V) : RV → Prop
  | .val d => Dq K F v d
  | .tmp xs => ∃ a vs, v = .ref a ∧ H a = some (.lst vs) ∧ DqAll K F vs xs ∧ F a = none ∧ ¬ OwnAt σ ρ a ∧ H0 a = none ∧ Hs a = none
  | .sl i => σ[i]? = some (some v)
/-- from one state to a later one -/
structure Step (K : PySem.W.Frag) (H0 : Hp) (σ : St) (F H : Hp) (ρ : Fm) (σ' : St) (F' H' : Hp) (ρ' : Fm) : Prop where
  fz : SubH F F'
  hp : ∀ a o, H a = some o → ¬ OwnAt σ ρ a → H' a = some o
  dm : ∀ a, H' a = none → H a = none
  nf : ∀ a, F a = none → H a ≠ none → ¬ OwnAt σ ρ a → F' a = none
  ow : ∀ a, OwnAt σ' ρ' a → OwnAt σ ρ a ∨ H a = none
  lk : ∀ (i : Nat) (xs : List D) (k : Kd), ρ[i]? = some (.own xs k) → k ≠ .mine → σ'[i]? = σ[i]? ∧ ∃ xs', ρ'[i]? = some (.own xs' k) ∧ (k ≠ .lent → xs' = xs)
  env : EnvOk K H0 F' σ' H' ρ'
section
variable {K : PySem.W.Frag} {H0 F F1 F2 H H1 H2 : Hp} {σ σ1 σ2 : St} {ρ ρ1 ρ2 : Fm}
theorem Step.refl (e : EnvOk K H0 F σ H ρ) : Step K H0 σ F H ρ σ F H ρ where
  fz := fun _ _ h => h
  hp := fun _ _ h _ => h
  dm := fun _ h => h
  nf := fun _ h _ _ => h
  ow := fun _ h => .inl h
  lk := fun _ xs _ h _ => ⟨rfl, xs, h, fun _ => rfl⟩
  env := e
theorem Step.trans (a : Step K H0 σ F H ρ σ1 F1 H1 ρ1) (b : Step K H0 σ1 F1 H1 ρ1 σ2 F2 H2 ρ2) : Step K H0 σ F H ρ σ2 F2 H2 ρ2 where
  fz := subH_trans a.fz b.fz
  hp := fun c o h n => b.hp c o (a.hp c o h n) fun q => (a.ow c q).elim n fun z => by rw [h] at z; cases z
  dm := fun c h => a.dm c (b.dm c h)
  nf := fun c h m n => b.nf c (a.nf c h m n) (fun z => m (a.dm c z)) fun q => (a.ow c q).elim n m
  ow := fun c h => (b.ow c h).elim (a.ow c) fun z => .inr (a.dm c z)
  lk := fun i xs k h n => by
    obtain ⟨e1, xs1, h1, k1⟩ := a.lk i xs k h n
    obtain ⟨e2, xs2, h2, k2⟩ := b.lk i xs1 k h1 n
    exact ⟨e2.trans e1, xs2, h2, fun z => (k2 z).trans (k1 z)⟩
  env := b.env
theorem RvOk.step {Hs : Hp} {v : V} {r : RV} (h : RvOk K H0 Hs F σ H ρ v r) (s : Step K H0 σ F H ρ σ F1 H1 ρ1) : RvOk K H0 Hs F1 σ H1 ρ1 v r := by
  cases r with
  | val d => exact dq_mono s.fz d v h
  | tmp xs =>
    obtain ⟨a, vs, rfl, h1, h2, h3, h4, h5, h6⟩ := h
    exact ⟨a, vs, rfl, s.hp a _ h1 h4, dqAll_mono s.fz _ _ h2, s.nf a h3 (by rw [h1]; simp) h4, fun q => (s.ow a q).elim h4 (fun z => by rw [h1] at z; cases z), h5, h6⟩
  | sl i => exact h
theorem RvOk.old {Hs Hs' : Hp} {v : V} {r : RV} (h : RvOk K H0 Hs F σ H ρ v r) (s : ∀ a, Hs a = none → Hs' a = none) : RvOk K H0 Hs' F σ H ρ v r := by
  cases r with
  | val d => exact h
  | tmp xs =>
    obtain ⟨a, vs, rfl, h1, h2, h3, h4, h5, h6⟩ := h
    exact ⟨a, vs, rfl, h1, h2, h3, h4, h5, s a h6⟩
  | sl i => exact h
theorem EnvOk.dp (e : EnvOk K H0 F σ H ρ) {v : V} {d : D} (h : Dq K F v d) : Dq K H v d := dq_mono e.sub d v h
/-- .. as it may be read now: its own list may still change, its items not -/
inductive Pk (K : PySem.W.Frag) (F H : Hp) : V → D → Prop where
  | non : Pk K F H .non .none
  | bl (b : Bool) : Pk K F H (.bl b) (.bool b)
  | int (i : Int) : Pk K F H (.int i) (.int i)
  | str (x : Str) : Pk K F H (.str x) (.str x)
  | lst {a : Addr} {xs : List V} {ds : List D} : Lx K H a xs → DqAll K F xs ds → Pk K F H (.ref a) (.list ds)
  | tup {a : Addr} {xs : List V} {ds : List D} : SqT K F a xs → DqAll K F xs ds → Pk K F H (.ref a) (.tuple ds)
theorem Pk.dq (s : SubH F H) {v : V} {d : D} (h : Pk K F H v d) : Dq K H v d := by
  cases h with
  | non => exact .non
  | bl b => exact .bl b
  | int b => exact .int b
  | str b => exact .str b
  | lst h1 h2 => exact .lst h1 (dqAll_mono s _ _ h2)
  | tup h1 h2 => exact .tup (sqT_mono s h1) (dqAll_mono s _ _ h2)
theorem pk_of (s : SubH F H) {v : V} {d : D} (h : Dq K F v d) : Pk K F H v d := by
  cases h with
  | non => exact .non
  | bl b => exact .bl b
  | int b => exact .int b
  | str b => exact .str b
  | lst h1 h2 => exact .lst (lx_mono s h1) h2
  | tup h1 h2 => exact .tup h1 h2
theorem peek_ok {Hs : Hp} (e : EnvOk K H0 F σ H ρ) {v : V} {r : RV} {d : D} (h : RvOk K H0 Hs F σ H ρ v r) (p : peek r ρ = some d) : Pk K F H v d := by
  cases r with
  | val d' =>
    simp only [peek, Option.some.injEq] at p
    subst p
    exact pk_of e.sub h
  | tmp xs =>
    obtain ⟨a, vs, rfl, h1, h2, _⟩ := h
    simp only [peek, Option.some.injEq] at p
    subst p
    exact .lst (.of h1) h2
  | sl i =>
    have h : σ[i]? = some (some v) := h
    unfold peek at p
    dsimp only at p
    split at p
    · rename_i d' hd
      cases p
      obtain ⟨v', h1, h2⟩ := e.val i _ hd
      rw [h] at h1
      cases h1
      exact pk_of e.sub h2
    · rename_i xs k hd
      cases p
      obtain ⟨a, vs, h1, h2, h3, _⟩ := e.own i _ _ hd
      rw [h] at h1
      cases h1
      exact .lst (.of h2) h3
    · cases p
/-- a slot is made data -/
theorem ownAt_set_val {i : Nat} {d : D} {a : Addr} (h : OwnAt σ (ρ.set i (.val d)) a) : OwnAt σ ρ a := by
  obtain ⟨j, xs, k, h1, h2⟩ := h
  rw [List.getElem?_set] at h1
  split at h1
  · split at h1
    · cases h1
    · cases h1
  · exact ⟨j, xs, k, h1, h2⟩
theorem set_get {α : Type} {l : List α} {i j : Nat} {x y : α} (h : (l.set i x)[j]? = some y) : (i = j ∧ y = x ∧ i < l.length) ∨ (i ≠ j ∧ l[j]? = some y) := by
  rw [List.getElem?_set] at h
  split at h
  · split at h
    · cases h
      exact .inl ⟨by assumption, rfl, by assumption⟩
    · cases h
  · exact .inr ⟨by assumption, h⟩
theorem freeze_ok (s : Step K H0 σ F H ρ σ1 F1 H1 ρ1) {v : V} {r : RV} {d : D} (h : RvOk K H0 H F1 σ1 H1 ρ1 v r) (p : freeze r ρ1 = some (d, ρ2)) : ∃ F', Step K H0 σ F H ρ σ1 F' H1 ρ2 ∧ Dq K F' v d := by
  have e := s.env
  cases r with
  | val d' =>
    simp only [freeze, Option.some.injEq, Prod.mk.injEq] at p
    obtain ⟨rfl, rfl⟩ := p
    exact ⟨F1, s, h⟩
  | tmp xs =>
    obtain ⟨a, vs, rfl, h1, h2, h3, h4, h5, h6⟩ := h
    simp only [freeze, Option.some.injEq, Prod.mk.injEq] at p
    obtain ⟨rfl, rfl⟩ := p
    have sF : SubH F1 (upd F1 a (.lst vs)) := subH_upd h3
    have ne : ∀ b, OwnAt σ1 ρ1 b → b ≠ a := fun b q z => h4 (z ▸ q)
    refine ⟨upd F1 a (.lst vs), ⟨subH_trans s.fz sF, s.hp, s.dm, fun b q m n => ?_, s.ow, s.lk, ⟨fun b o q => ?_, e.len, fun i d q => ?_, fun i ys k q => ?_, e.sep, e.dom⟩⟩, .lst (.of upd_same) (dqAll_mono sF _ _ h2)⟩
    · have hb : b ≠ a := fun z => m (z ▸ h6)
      rw [upd_ne hb]
      exact s.nf b q m n
    · by_cases hb : b = a
      · subst hb
        rw [upd_same] at q
        cases q
        exact h1
      · rw [upd_ne hb] at q
        exact e.sub b o q
    · obtain ⟨w, w1, w2⟩ := e.val i d q
      exact ⟨w, w1, dq_mono sF _ _ w2⟩
    · obtain ⟨b, us, w1, w2, w3, w4, w5⟩ := e.own i ys k q
      exact ⟨b, us, w1, w2, dqAll_mono sF _ _ w3, by rw [upd_ne (ne b ⟨i, ys, k, q, w1⟩)]; exact w4, w5⟩
  | sl i =>
    have h : σ1[i]? = some (some v) := h
    unfold freeze at p
    dsimp only at p
    split at p
    · rename_i d' hd
      cases p
      obtain ⟨v', h1, h2⟩ := e.val i _ hd
      rw [h] at h1
      cases h1
      exact ⟨F1, s, h2⟩
    · rename_i xs hd
      cases p
      obtain ⟨a, vs, h1, h2, h3, h4, h5⟩ := e.own i _ _ hd
      rw [h] at h1
      cases h1
      have oa : OwnAt σ1 ρ1 a := ⟨i, _, _, hd, h⟩
      have sF : SubH F1 (upd F1 a (.lst vs)) := subH_upd h4
      refine ⟨upd F1 a (.lst vs), ⟨subH_trans s.fz sF, s.hp, s.dm, fun b q m n => ?_, fun b q => s.ow b (ownAt_set_val q), fun j ys k q nk => ?_, ⟨fun b o q => ?_, by rw [List.length_set]; exact e.len, fun j d q => ?_, fun j ys k q => ?_, fun j l b ys zs k k' q1 q2 => ?_, e.dom⟩⟩, .lst (.of upd_same) (dqAll_mono sF _ _ h3)⟩
      · have hb : b ≠ a := fun z => (s.ow a oa).elim (fun w => n (z ▸ w)) (fun w => m (z ▸ w))
        rw [upd_ne hb]
        exact s.nf b q m n
      · obtain ⟨l1, ys', l2, l3⟩ := s.lk j ys k q nk
        refine ⟨l1, ys', ?_, l3⟩
        have hij : i ≠ j := fun z => by
          subst z
          rw [hd] at l2
          cases l2
          exact nk rfl
        rw [List.getElem?_set_ne hij]
        exact l2
      · by_cases hb : b = a
        · subst hb
          rw [upd_same] at q
          cases q
          exact h2
        · rw [upd_ne hb] at q
          exact e.sub b o q
      · rcases set_get q with ⟨rfl, w, _⟩ | ⟨_, w⟩
        · cases w
          exact ⟨_, h, .lst (.of upd_same) (dqAll_mono sF _ _ h3)⟩
        · obtain ⟨w0, w1, w2⟩ := e.val j d w
          exact ⟨w0, w1, dq_mono sF _ _ w2⟩
      · rcases set_get q with ⟨rfl, w, _⟩ | ⟨nij, w⟩
        · cases w
        · obtain ⟨b, us, w1, w2, w3, w4, w5⟩ := e.own j ys k w
          have hb : b ≠ a := fun z => nij (e.sep i j a _ _ _ _ hd w h (z ▸ w1))
          exact ⟨b, us, w1, w2, dqAll_mono sF _ _ w3, by rw [upd_ne hb]; exact w4, w5⟩
      · rcases set_get q1 with ⟨_, w, _⟩ | ⟨_, w⟩
        · cases w
        · rcases set_get q2 with ⟨_, w', _⟩ | ⟨_, w'⟩
          · cases w'
          · exact e.sep j l b ys zs k k' w w'
    · cases p
/-- a new object of any kind -/
theorem Step.new {p : Addr} {o : HO} (s : Step K H0 σ F H ρ σ1 F1 H1 ρ1) (hp : H1 p = none) : Step K H0 σ F H ρ σ1 F1 (upd H1 p o) ρ1 where
  fz := s.fz
  hp := fun a u h n => by
    have q := s.hp a u h n
    rw [upd_ne (ne_of_none q hp)]
    exact q
  dm := fun a h => by
    by_cases ha : a = p
    · subst ha
      rw [upd_same] at h
      cases h
    · rw [upd_ne ha] at h
      exact s.dm a h
  nf := s.nf
  ow := s.ow
  lk := s.lk
  env := by
    have e := s.env
    refine ⟨fun a u h => ?_, e.len, e.val, fun i xs k h => ?_, e.sep, fun a h => ?_⟩
    · rw [upd_ne (ne_of_none (e.sub a u h) hp)]
      exact e.sub a u h
    · obtain ⟨a, vs, w1, w2, w⟩ := e.own i xs k h
      exact ⟨a, vs, w1, by rw [upd_ne (ne_of_none w2 hp)]; exact w2, w⟩
    · by_cases ha : a = p
      · subst ha
        rw [upd_same] at h
        cases h
      · rw [upd_ne ha] at h
        exact e.dom a h
/-- .. that is data from the start -/
theorem Step.newF {p : Addr} {o : HO} (s : Step K H0 σ F H ρ σ1 F1 H1 ρ1) (hp : H1 p = none) : Step K H0 σ F H ρ σ1 (upd F1 p o) (upd H1 p o) ρ1 := by
  have s2 := s.new (o := o) hp
  have e := s2.env
  have fp : F1 p = none := by
    cases q : F1 p with
    | none => rfl
    | some u =>
      have := s.env.sub p u q
      rw [hp] at this
      cases this
  have sF : SubH F1 (upd F1 p o) := subH_upd fp
  have nown : ∀ b, OwnAt σ1 ρ1 b → b ≠ p := fun b q z => by
    obtain ⟨i, xs, k, h1, h2⟩ := q
    obtain ⟨a, vs, w1, w2, _⟩ := s.env.own i xs k h1
    rw [h2] at w1
    cases w1
    rw [z, hp] at w2
    cases w2
  refine ⟨subH_trans s.fz sF, s2.hp, s2.dm, fun b q m n => ?_, s2.ow, s2.lk, ⟨fun b u q => ?_, e.len, fun i d q => ?_, fun i ys k q => ?_, e.sep, e.dom⟩⟩
  · have hb : b ≠ p := fun z => m (s.dm b (z ▸ hp))
    rw [upd_ne hb]
    exact s.nf b q m n
  · by_cases hb : b = p
    · subst hb
      rw [upd_same] at q ⊢
      exact q
    · rw [upd_ne hb] at q
      exact e.sub b u q
  · obtain ⟨w, w1, w2⟩ := e.val i d q
    exact ⟨w, w1, dq_mono sF _ _ w2⟩
  · obtain ⟨b, us, w1, w2, w3, w4, w5⟩ := e.own i ys k q
    exact ⟨b, us, w1, w2, dqAll_mono sF _ _ w3, by rw [upd_ne (nown b ⟨i, ys, k, q, w1⟩)]; exact w4, w5⟩
/-- a new list at p, in passing -/
theorem tmp_new {p : Addr} {vs : List V} {ds : List D} (s : Step K H0 σ F H ρ σ1 F1 H1 ρ1) (hp : H1 p = none) (h : DqAll K F1 vs ds) : RvOk K H0 H F1 σ1 (upd H1 p (.lst vs)) ρ1 (.ref p) (.tmp ds) := by
  refine ⟨p, vs, rfl, upd_same, h, ?_, fun q => ?_, s.env.dom p hp, s.dm p hp⟩
  · cases q : F1 p with
    | none => rfl
    | some u =>
      have := s.env.sub p u q
      rw [hp] at this
      cases this
  · obtain ⟨i, xs, k, h1, h2⟩ := q
    obtain ⟨a, us, w1, w2, _⟩ := s.env.own i xs k h1
    rw [h2] at w1
    cases w1
    rw [hp] at w2
    cases w2
end
end Wk

/-! The walk layer, part 3: the operations on data are the model's. -/
namespace Wk
open PySem PySem.Spec L2
section
variable {K : PySem.W.Frag}
/-- what is wanted of a result: data (as it stands, or new at p), or a new list -/
def Res (K : PySem.W.Frag) (F H : Hp) (Q : VK) : RV → Prop
  | .val d => (∀ v, Dq K F v d → Q v H) ∧ ∀ p o v, H p = none → Dq K (upd F p o) v d → Q v (upd H p o)
  | .tmp ds => ∀ p vs, H p = none → DqAll K F vs ds → Q (.ref p) (upd H p (.lst vs))
  | .sl _ => True
theorem Res.v {F H : Hp} {Q : VK} {d : D} {v : V} (r : Res K F H Q (.val d)) (h : Dq K F v d) : Q v H := r.1 v h
theorem Res.n {F H : Hp} {Q : VK} {d : D} {v : V} {p : Addr} {o : HO} (r : Res K F H Q (.val d)) (hp : H p = none) (h : Dq K (upd F p o) v d) : Q v (upd H p o) := r.2 p o v hp h
theorem subN {F H : Hp} {p : Addr} (s : SubH F H) (hp : H p = none) : F p = none := by
  cases q : F p with
  | none => rfl
  | some u =>
    have := s p u q
    rw [hp] at this
    cases this
theorem dq_newTup {F H : Hp} {p : Addr} {vs : List V} {ds : List D} (s : SubH F H) (hp : H p = none) (h : DqAll K F vs ds) : Dq K (upd F p (.tup vs)) (.ref p) (.tuple ds) :=
  .tup (SqT.of upd_same) (dqAll_mono (subH_upd (subN s hp)) _ _ h)
def rBin (K : PySem.W.Frag) (o : BOp) : R2 := fun x y H Q => ∃ F d1 d2 r, SubH F H ∧ Pk K F H x d1 ∧ Pk K F H y d2 ∧ binD o d1 d2 = some r ∧ Res K F H Q r
def BOp.op : BOp → Operator
  | .add => .Add | .sub => .Sub | .mul => .Mult | .fdiv => .FloorDiv | .mod => .Mod | .pow => .Pow | .shl => .LShift | .shr => .RShift | .band => .BitAnd | .bor => .BitOr
theorem guardO_some {α : Type} {b : Bool} {a r : α} (h : guardO b a = some r) : b = true ∧ a = r := by
  unfold guardO at h
  split at h
  · exact ⟨by assumption, Option.some.inj h⟩
  · cases h
theorem ba2 {a b : Bool} (h : (a && b) = true) : a = true ∧ b = true := Bool.and_eq_true_iff.mp h
theorem fits_le {n : Nat} (h : fits n = true) : n ≤ sizeLine := by
  have := of_decide_eq_true h
  rw [sizeLine_eq]
  omega
variable {X : Cx}
theorem rd_isL {pins : List (Addr × Obj)} {σ : St} {H : Hp} {s : Shared} {a : Addr} {xs : List V} (I : Inv X pins σ H s) (h : Lx X.K H a xs) : xs.length ≤ sizeLine ∧ ∃ (its : List Value) (n : Nat), Vals xs its ∧ s.heap.get? a = some { cls := .type "list", data := .seq its.toArray n } := by
  rcases h with h | ⟨its, n, h1, h2, h3⟩
  · exact h.ok I.hok
  · exact ⟨by rw [h3.length]; exact h2, its, n, h3, I.kIn _ _ h1⟩
theorem add_ll {pins : List (Addr × Obj)} {s : Shared} {σ : St} {F H : Hp} {x y : Addr} {Q : VK} {xs ys : List V} {d1 d2 : List D} (I : Inv X pins σ H s) (s0 : SubH F H) (h1 : Lx X.K H x xs) (h2 : Lx X.K H y ys) (a1 : DqAll X.K F xs d1) (a2 : DqAll X.K F ys d2)
    (hz : d1.length + d2.length ≤ sizeLine) (q : Res X.K F H Q (.tmp (d1 ++ d2))) : wpAny (model X.prog X.w) X.A (binaryOp .Add (.ref x) (.ref y)) (EP X pins σ Q) X.xe s := by
  obtain ⟨z, its, n, r, e⟩ := rd_isL I h1
  obtain ⟨z2, its2, n2, r2, e2⟩ := rd_isL I h2
  have l1 := dqAll_len a1
  have l2 := dqAll_len a2
  have l3 := r.length
  have l4 := r2.length
  refine PySem.P.add_list e e2 ?_ (by rw [List.size_toArray, List.size_toArray]; omega)
  have ea : its.toArray ++ its2.toArray = (its ++ its2).toArray := by simp
  rw [ea]
  exact ⟨.ref _, _, I.lnew (t' := s.toks) (r.append r2) (by rw [List.length_append]; omega), rfl, q _ _ I.fresh (dqAll_app a1 a2)⟩
theorem op_bin_add : OpR X (binaryOp .Add) (rBin X.K .add) := by
  intro pins s σ H x y v u Q I rx ry h
  obtain ⟨F, d1, d2, r, s0, p1, p2, e, q⟩ := h
  cases p1 <;> cases p2 <;> try (simp [binD] at e; done)
  · cases e
    exact op_add pins s σ H _ _ v u Q I rx ry ⟨_, _, rfl, rfl, q.v (.int _)⟩
  · obtain ⟨g, e⟩ := guardO_some e
    subst e
    exact op_add_str pins s σ H _ _ v u Q I rx ry ⟨_, _, rfl, rfl, fits_le g, q.v (.str _)⟩
  · rename_i a xs ds h1 h2 b ys es h3 h4
    obtain ⟨g, e⟩ := guardO_some e
    subst e
    cases rx
    cases ry
    exact add_ll I s0 h1 h3 h2 h4 (fits_le g) q
  · rename_i a xs ds h1 h2 b ys es h3 h4
    obtain ⟨g, e⟩ := guardO_some e
    subst e
    have l1 := dqAll_len h2
    have l2 := dqAll_len h4
    have g := fits_le g
    refine op_catA pins s σ H _ _ v u Q I rx ry ⟨a, b, xs, ys, rfl, rfl, sqT_mono s0 h1, sqT_mono s0 h3, by omega, fun z => ?_, fun _ z => ?_, fun _ _ p hp => q.n hp (dq_newTup s0 hp (dqAll_app h2 h4))⟩
    · subst z
      have : ds = [] := List.eq_nil_of_length_eq_zero (by rw [← l1]; rfl)
      subst this
      exact q.v (.tup h3 h4)
    · subst z
      have : es = [] := List.eq_nil_of_length_eq_zero (by rw [← l2]; rfl)
      subst this
      rw [List.append_nil] at q
      exact q.v (.tup h1 h2)
theorem op_bin_sub : OpR X (binaryOp .Sub) (rBin X.K .sub) := by
  intro pins s σ H x y v u Q I rx ry h
  obtain ⟨F, d1, d2, r, s0, p1, p2, e, q⟩ := h
  cases p1 <;> cases p2 <;> try (simp [binD] at e; done)
  cases e
  exact op_sub pins s σ H _ _ v u Q I rx ry ⟨_, _, rfl, rfl, q.v (.int _)⟩
theorem mul_lk {pins : List (Addr × Obj)} {s : Shared} {σ : St} {F H : Hp} {x : Addr} {k : Int} {t : Tok} {Q : VK} {xs : List V} {d1 : List D} (I : Inv X pins σ H s) (h1 : Lx X.K H x xs) (a1 : DqAll X.K F xs d1)
    (g1 : -(2 ^ 63) ≤ k) (g2 : k < 2 ^ 63) (hz : d1.length * k.toNat ≤ sizeLine) (q : Res X.K F H Q (.tmp (List.replicate k.toNat d1).flatten)) : wpAny (model X.prog X.w) X.A (binaryOp .Mult (.ref x) (.int k t)) (EP X pins σ Q) X.xe s := by
  obtain ⟨z, js, n, r, e⟩ := rd_isL I h1
  have l1 := dqAll_len a1
  have l3 := r.length
  have sz : js.toArray.size * k.toNat ≤ sizeLine := by rw [List.size_toArray]; rw [← l3, l1]; exact hz
  have c1 : ¬ js.toArray.size * k.toNat > (2 ^ 63 - 1) / 8 := fun w => by
    have w2 : (sizeLine : Nat) ≤ (2 ^ 63 - 1) / 8 := by decide
    omega
  have c2 : ¬ (!Builtin.List.listFitsIndex k) = true := fun w => by
    rw [fitsIndex_both g1 g2] at w
    cases w
  have c3 : ¬ Builtin.List.listTooLong (js.toArray.size * k.toNat) = true := fun w => by
    rw [notLongL sz] at w
    cases w
  have fr : ∀ m : Nat, List.foldl (fun a b => a ++ b) #[] (List.replicate m js.toArray) = (List.replicate m js).flatten.toArray := fun m => by
    simpa using foldl_rep js m []
  have hn : List.foldl (fun a b => a ++ b) #[] (List.replicate (if js.toArray.isEmpty = true then 0 else k.toNat) js.toArray) = (List.replicate k.toNat js).flatten.toArray := by
    rw [fr]
    cases js with
    | nil => simp
    | cons a r' => simp
  refine PySem.wpAny_binaryOp_repeat_ref (T := "list") (U := "int") (by decide) ⟨_, e, rfl⟩ (fun s' => PySem.typeIs_int s' k t)
    PySem.noFill_list_mul PySem.F.fills_int_mul PySem.F.slot_int_rmul PySem.repeat_list PySem.F.slot_int_index.lookup ?_
  refine PySem.call_meets PySem.F.slot_int_rmul (PySem.typeIs_int s k t) PySem.F.entry_int_rmul (PySem.F.args_int_rmul_2 _ _) (PySem.int___rmul___int_list k t x js.toArray n) ⟨e, rfl, ⟨_, e, rfl⟩, ?_⟩
  refine PySem.call_meets PySem.F.slot_list_mul ⟨_, e, rfl⟩ PySem.F.entry_list_mul (PySem.F.args_list_mul_2 _ _) (AutoListH.list___mul___list_int_3 x js.toArray n k t c2 c1 c3) ⟨e, ?_⟩
  rw [hn]
  exact ⟨.ref _, _, I.lnew (t' := s.toks) (r.rep k.toNat) (by rw [PyProof.Rows.lm_len_rep_flat, Nat.mul_comm, l1]; exact hz), rfl, q _ _ I.fresh (dqAll_rep _ a1)⟩
section
open PyProof.Rows
open PySem.AutoSeq1 (wpAny_loadPart')
theorem t_mul_same (l : Addr) (js : Array Value) (n : Nat) (dd : Option Addr) (sl : Array (Option Value)) (x : Int) (u : Tok) (c0 : (decide (x < -(2 ^ 63)) || decide (x ≥ 2 ^ 63)) = false) (c1 : (js.isEmpty || x == 1) = true) :
    Meets (Builtin.«tuple.__mul__» ⟨[.ref l, .int x u], []⟩) (fun _ Rz s => s.heap.get? l = some { cls := .type "tuple", dict := dd, data := .seq js n, slots := sl } ∧ Rz (.ok (.ret (Value.ref l))) s) :=
  .of_wp fun pr w A Rz s h => by
    obtain ⟨hp, g, d, tk, os⟩ := s
    obtain ⟨hl, h⟩ := h
    have f1 := AutoSeq1.idx_int
    have f2 := AutoSeq1.sub_tuple_tuple
    wp_walk using wpAny_loadPart' hl
    refine wpAny_ite_false (decide_eq_false (by rw [c0]; exact Bool.false_ne_true)) ?_
    wp_walk using wpAny_loadPart' hl
    exact ⟨_, rfl, h⟩
theorem t_mul_none (l : Addr) (js : Array Value) (n : Nat) (dd : Option Addr) (sl : Array (Option Value)) (x : Int) (u : Tok) (c0 : (decide (x < -(2 ^ 63)) || decide (x ≥ 2 ^ 63)) = false) (c1 : (js.isEmpty || x == 1) = false) (c2 : (decide (x ≤ 0) || js.isEmpty) = true) :
    Meets (Builtin.«tuple.__mul__» ⟨[.ref l, .int x u], []⟩) (fun _ Rz s => s.heap.get? l = some { cls := .type "tuple", dict := dd, data := .seq js n, slots := sl } ∧
      Rz (.ok (.ret (Value.ref s.heap.objs.size))) { s with heap := s.heap.push { cls := Value.type "tuple", data := Data.seq #[] }, toks := s.toks }) :=
  .of_wp fun pr w A Rz s h => by
    obtain ⟨hp, g, d, tk, os⟩ := s
    obtain ⟨hl, h⟩ := h
    have f1 := AutoSeq1.idx_int
    have f2 := AutoSeq1.sub_tuple_tuple
    wp_walk using wpAny_loadPart' hl
    refine wpAny_ite_false (decide_eq_false (by rw [c0]; exact Bool.false_ne_true)) ?_
    wp_walk using wpAny_loadPart' hl
    exact ⟨_, rfl, h⟩
end
theorem mul_tp {pins : List (Addr × Obj)} {s : Shared} {σ : St} {F H : Hp} {x : Addr} {k : Int} {t : Tok} {Q : VK} {xs : List V} {d1 : List D} (I : Inv X pins σ H s) (s0 : SubH F H) (h1 : SqT X.K F x xs) (a1 : DqAll X.K F xs d1)
    (g1 : -1000 ≤ k) (g2 : k ≤ 1000) (hz : d1.length ≤ 1000) (q : Res X.K F H Q (.val (.tuple (List.replicate k.toNat d1).flatten))) : wpAny (model X.prog X.w) X.A (binaryOp .Mult (.ref x) (.int k t)) (EP X pins σ Q) X.xe s := by
  have l1 := dqAll_len a1
  obtain ⟨js, r, ⟨⟨cls, dd, data, sl⟩, ho, hc, n, hd⟩, hs⟩ := I.tuple (sqT_mono s0 h1)
  simp only at hc hd
  subst hc hd
  have c0 : (decide (k < -(2 ^ 63)) || decide (k ≥ 2 ^ 63)) = false := by
    rw [decide_eq_false (by omega), decide_eq_false (by omega)] <;> rfl
  have same : (js.toArray.isEmpty || k == 1) = true → (List.replicate k.toNat d1).flatten = d1 → wpAny (model X.prog X.w) X.A (binaryOp .Mult (.ref x) (.int k t)) (EP X pins σ Q) X.xe s := fun c1 ee => by
    refine PySem.wpAny_binaryOp_repeat_ref (T := "tuple") (U := "int") (by decide) ⟨_, ho, rfl⟩ (fun s' => PySem.typeIs_int s' k t) noFill_tuple_mul PySem.F.fills_int_mul PySem.F.slot_int_rmul repeat_tuple PySem.F.slot_int_index.lookup ?_
    refine PySem.call_meets PySem.F.slot_int_rmul (PySem.typeIs_int s k t) PySem.F.entry_int_rmul (PySem.F.args_int_rmul_2 _ _) (int_rmul_tuple k t x js.toArray n dd sl) ⟨ho, rfl, ⟨_, ho, rfl⟩, ?_⟩
    refine PySem.call_meets PySem.F.slot_tuple_mul ⟨_, ho, rfl⟩ PySem.F.entry_tuple_mul (PySem.F.args_tuple_mul_2 _ _) (t_mul_same x js.toArray n dd sl k t c0 c1) ⟨ho, ?_⟩
    rw [ee] at q
    exact ⟨.ref x, H, I, rfl, q.v (.tup h1 a1)⟩
  by_cases e1 : k = 1
  · subst e1
    exact same (by simp) (by simp)
  cases js with
  | nil =>
    have z := r.length
    have : d1 = [] := List.eq_nil_of_length_eq_zero (by rw [← l1]; exact z)
    subst this
    exact same (by simp) (by simp)
  | cons j0 jr =>
    by_cases e2 : k ≤ 0
    · have e3 : k.toNat = 0 := by omega
      refine PySem.wpAny_binaryOp_repeat_ref (T := "tuple") (U := "int") (by decide) ⟨_, ho, rfl⟩ (fun s' => PySem.typeIs_int s' k t) noFill_tuple_mul PySem.F.fills_int_mul PySem.F.slot_int_rmul repeat_tuple PySem.F.slot_int_index.lookup ?_
      refine PySem.call_meets PySem.F.slot_int_rmul (PySem.typeIs_int s k t) PySem.F.entry_int_rmul (PySem.F.args_int_rmul_2 _ _) (int_rmul_tuple k t x _ n dd sl) ⟨ho, rfl, ⟨_, ho, rfl⟩, ?_⟩
      refine PySem.call_meets PySem.F.slot_tuple_mul ⟨_, ho, rfl⟩ PySem.F.entry_tuple_mul (PySem.F.args_tuple_mul_2 _ _) (t_mul_none x _ n dd sl k t c0 (by simp [e1]) (by simp [e2])) ⟨ho, ?_⟩
      rw [e3] at q
      refine ⟨.ref s.heap.objs.size, _, I.laid (t' := s.toks) (o := .tup []) (fun b ob q => Heap.get?_push_of_some _ q) (Nat.le_refl _) ?_, rfl, q.n (I.hok.fresh (Nat.le_refl _)) (dq_newTup s0 (I.hok.fresh (Nat.le_refl _)) .nil)⟩
      exact ⟨Nat.zero_le _, [], .nil, PyProof.Rows.IsTup.new _ _⟩
    · have hne : xs ≠ [] := fun z => by
        subst z
        cases r
      exact op_repT pins s σ H (.ref x) (.int k) _ _ Q I rfl ⟨t, rfl⟩ ⟨x, k, xs, rfl, rfl, sqT_mono s0 h1, hne, by omega, g2, by omega, fun p hp => q.n hp (dq_newTup s0 hp (dqAll_rep _ a1))⟩
theorem op_bin_mul : OpR X (binaryOp .Mult) (rBin X.K .mul) := by
  intro pins s σ H x y v u Q I rx ry h
  obtain ⟨F, d1, d2, r, s0, p1, p2, e, q⟩ := h
  cases p1 <;> cases p2 <;> try (simp [binD] at e; done)
  · obtain ⟨g, e⟩ := guardO_some e
    subst e
    exact op_mulX pins s σ H _ _ v u Q I rx ry ⟨_, _, rfl, rfl, (of_decide_eq_true (p := _ ≤ _) g), q.v (.int _)⟩
  · rename_i a xs ds h1 h2 k
    obtain ⟨g, e⟩ := guardO_some e
    subst e
    obtain ⟨g1, g⟩ := ba2 g
    obtain ⟨g2, g⟩ := ba2 g
    have g1 := of_decide_eq_true g1
    have g2 := of_decide_eq_true g2
    cases rx
    obtain ⟨t, rfl⟩ := ry
    exact mul_lk I h1 h2 g1 g2 (fits_le g) q
  · rename_i a xs ds h1 h2 k
    obtain ⟨g, e⟩ := guardO_some e
    subst e
    obtain ⟨g1, g⟩ := ba2 g
    obtain ⟨g2, g3⟩ := ba2 g
    cases rx
    obtain ⟨t, rfl⟩ := ry
    exact mul_tp I s0 h1 h2 (of_decide_eq_true g1) (of_decide_eq_true g2) (of_decide_eq_true g3) q
theorem op_bin_fdiv : OpR X (binaryOp .FloorDiv) (rBin X.K .fdiv) := by
  intro pins s σ H x y v u Q I rx ry h
  obtain ⟨F, d1, d2, r, s0, p1, p2, e, q⟩ := h
  cases p1 <;> cases p2 <;> try (simp [binD] at e; done)
  rename_i i j
  obtain ⟨g, e⟩ := guardO_some e
  subst e
  obtain ⟨g1, g2⟩ := ba2 g
  have : OpR X (binaryOp .FloorDiv) (rI (fun _ j => j ≠ 0 ∧ j.natAbs.log2 < 9000) fun i j => .int (i.fdiv j)) := opI fun _ _ _ _ _ _ _ hc q => PyProof.Rows.floordiv_int hc.1 q (.inl (PyProof.noPylong_of_log2 hc.2))
  exact this pins s σ H _ _ v u Q I rx ry ⟨_, _, rfl, rfl, ⟨of_decide_eq_true g1, of_decide_eq_true g2⟩, q.v (.int _)⟩
theorem op_bin_mod : OpR X (binaryOp .Mod) (rBin X.K .mod) := by
  intro pins s σ H x y v u Q I rx ry h
  obtain ⟨F, d1, d2, r, s0, p1, p2, e, q⟩ := h
  cases p1 <;> cases p2 <;> try (simp [binD] at e; done)
  obtain ⟨g, e⟩ := guardO_some e
  subst e
  exact op_modN pins s σ H _ _ v u Q I rx ry ⟨_, _, rfl, rfl, of_decide_eq_true g, q.v (.int _)⟩
theorem pow_ok {i j : Int} (g : powOk i j = true) : CPow i j := by
  obtain ⟨g1, g⟩ := ba2 g
  obtain ⟨g2, g3⟩ := ba2 g
  exact ⟨of_decide_eq_true g1, of_decide_eq_true g2, of_decide_eq_true g3⟩
theorem op_bin_pow : OpR X (binaryOp .Pow) (rBin X.K .pow) := by
  intro pins s σ H x y v u Q I rx ry h
  obtain ⟨F, d1, d2, r, s0, p1, p2, e, q⟩ := h
  cases p1 <;> cases p2 <;> try (simp [binD] at e; done)
  obtain ⟨g, e⟩ := guardO_some e
  subst e
  exact op_pow pins s σ H _ _ v u Q I rx ry ⟨_, _, rfl, rfl, pow_ok g, q.v (.int _)⟩
theorem op_bin_shl : OpR X (binaryOp .LShift) (rBin X.K .shl) := by
  intro pins s σ H x y v u Q I rx ry h
  obtain ⟨F, d1, d2, r, s0, p1, p2, e, q⟩ := h
  cases p1 <;> cases p2 <;> try (simp [binD] at e; done)
  obtain ⟨g, e⟩ := guardO_some e
  subst e
  exact op_shl pins s σ H _ _ v u Q I rx ry ⟨_, _, rfl, rfl, pow_ok g, q.v (.int _)⟩
theorem op_bin_shr : OpR X (binaryOp .RShift) (rBin X.K .shr) := by
  intro pins s σ H x y v u Q I rx ry h
  obtain ⟨F, d1, d2, r, s0, p1, p2, e, q⟩ := h
  cases p1 <;> cases p2 <;> try (simp [binD] at e; done)
  obtain ⟨g, e⟩ := guardO_some e
  subst e
  exact op_shr pins s σ H _ _ v u Q I rx ry ⟨_, _, rfl, rfl, of_decide_eq_true g, q.v (.int _)⟩
theorem op_bin_band : OpR X (binaryOp .BitAnd) (rBin X.K .band) := by
  intro pins s σ H x y v u Q I rx ry h
  obtain ⟨F, d1, d2, r, s0, p1, p2, e, q⟩ := h
  cases p1 <;> cases p2 <;> try (simp [binD] at e; done)
  cases e
  exact op_and pins s σ H _ _ v u Q I rx ry ⟨_, _, rfl, rfl, q.v (.int _)⟩
theorem op_bin_bor : OpR X (binaryOp .BitOr) (rBin X.K .bor) := by
  intro pins s σ H x y v u Q I rx ry h
  obtain ⟨F, d1, d2, r, s0, p1, p2, e, q⟩ := h
  cases p1 <;> cases p2 <;> try (simp [binD] at e; done)
  cases e
  exact op_or pins s σ H _ _ v u Q I rx ry ⟨_, _, rfl, rfl, q.v (.int _)⟩
theorem op_bin (o : BOp) : OpR X (binaryOp o.op) (rBin X.K o) := by
  cases o
  · exact op_bin_add
  · exact op_bin_sub
  · exact op_bin_mul
  · exact op_bin_fdiv
  · exact op_bin_mod
  · exact op_bin_pow
  · exact op_bin_shl
  · exact op_bin_shr
  · exact op_bin_band
  · exact op_bin_bor
end
end Wk

/-! The walk layer, part 4: comparisons, items, slices, truth, built-in functions. -/
namespace Wk
open PySem PySem.Spec L2
section
variable {X : Cx}
def COp.op : COp → CmpOp
  | .eq => .Eq | .ne => .NotEq | .lt => .Lt | .le => .LtE | .gt => .Gt | .ge => .GtE | .isN => .Is | .isnN => .IsNot | .in_ => .In | .notin => .NotIn
def rCmp (K : PySem.W.Frag) (o : COp) : R2 := fun x y H Q => ∃ F d1 d2 b, SubH F H ∧ Pk K F H x d1 ∧ Pk K F H y d2 ∧ cmpD o d1 d2 = some b ∧ Q (.bl b) H
theorem pk_dp {K : PySem.W.Frag} {F H : Hp} {x : V} {d : D} (s : SubH F H) (p : Pk K F H x d) : Dp K H x d := dq_dp _ _ (p.dq s)
theorem op_cmp_eq (hu : X.A.units + 64 < cLine) : OpR X (compareOp .Eq) (rCmp X.K .eq) := by
  intro pins s σ H x y v u Q I rx ry h
  obtain ⟨F, d1, d2, b, s0, p1, p2, e, q⟩ := h
  obtain ⟨g, e⟩ := guardO_some e
  subst e
  obtain ⟨g1, g2⟩ := ba2 g
  exact op_eqD hu pins s σ H x y v u Q I rx ry ⟨d1, d2, pk_dp s0 p1, pk_dp s0 p2, g1, g2, q⟩
theorem op_cmp_ne (hu : X.A.units + 64 < cLine) : OpR X (compareOp .NotEq) (rCmp X.K .ne) := by
  intro pins s σ H x y v u Q I rx ry h
  obtain ⟨F, d1, d2, b, s0, p1, p2, e, q⟩ := h
  obtain ⟨g, e⟩ := guardO_some e
  subst e
  obtain ⟨g1, g2⟩ := ba2 g
  exact op_neD hu pins s σ H x y v u Q I rx ry ⟨d1, d2, pk_dp s0 p1, pk_dp s0 p2, g1, g2, q⟩
theorem op_cmp_lt : OpR X (compareOp .Lt) (rCmp X.K .lt) := by
  intro pins s σ H x y v u Q I rx ry h
  obtain ⟨F, d1, d2, b, s0, p1, p2, e, q⟩ := h
  cases p1 <;> cases p2 <;> try (simp [cmpD] at e; done)
  cases e
  exact op_lt pins s σ H _ _ v u Q I rx ry ⟨_, _, rfl, rfl, q⟩
theorem op_cmp_le : OpR X (compareOp .LtE) (rCmp X.K .le) := by
  intro pins s σ H x y v u Q I rx ry h
  obtain ⟨F, d1, d2, b, s0, p1, p2, e, q⟩ := h
  cases p1 <;> cases p2 <;> try (simp [cmpD] at e; done)
  cases e
  exact op_le pins s σ H _ _ v u Q I rx ry ⟨_, _, rfl, rfl, q⟩
theorem op_cmp_gt : OpR X (compareOp .Gt) (rCmp X.K .gt) := by
  intro pins s σ H x y v u Q I rx ry h
  obtain ⟨F, d1, d2, b, s0, p1, p2, e, q⟩ := h
  cases p1 <;> cases p2 <;> try (simp [cmpD] at e; done)
  cases e
  exact op_gt pins s σ H _ _ v u Q I rx ry ⟨_, _, rfl, rfl, q⟩
theorem op_cmp_ge : OpR X (compareOp .GtE) (rCmp X.K .ge) := by
  intro pins s σ H x y v u Q I rx ry h
  obtain ⟨F, d1, d2, b, s0, p1, p2, e, q⟩ := h
  cases p1 <;> cases p2 <;> try (simp [cmpD] at e; done)
  cases e
  exact op_ge pins s σ H _ _ v u Q I rx ry ⟨_, _, rfl, rfl, q⟩
theorem op_cmp_isN : OpR X (compareOp .Is) (rCmp X.K .isN) := by
  intro pins s σ H x y v u Q I rx ry h
  obtain ⟨F, d1, d2, b, s0, p1, p2, e, q⟩ := h
  cases p2 <;> cases p1 <;> try (simp [cmpD] at e; done)
  all_goals
    simp only [cmpD, Option.some.injEq] at e
    subst e
    first
      | exact op_isN pins s σ H _ _ v u Q I rx ry ⟨rfl, by simpa using q⟩
      | exact op_isBl pins s σ H _ _ v u Q I rx ry ⟨_, _, rfl, rfl, q⟩
theorem op_cmp_isnN : OpR X (compareOp .IsNot) (rCmp X.K .isnN) := by
  intro pins s σ H x y v u Q I rx ry h
  obtain ⟨F, d1, d2, b, s0, p1, p2, e, q⟩ := h
  cases p2 <;> cases p1 <;> try (simp [cmpD] at e; done)
  all_goals
    simp only [cmpD, Option.some.injEq] at e
    subst e
    first
      | exact op_notN pins s σ H _ _ v u Q I rx ry ⟨rfl, by simpa using q⟩
      | exact op_notBl pins s σ H _ _ v u Q I rx ry ⟨_, _, rfl, rfl, q⟩
theorem eqV_eqv {K : PySem.W.Frag} {F F' : Hp} {x y : V} {d e : D} (h1 : Dq K F x d) (h2 : Dq K F' y e) (f1 : flatD d = true) (f2 : flatD e = true) : eqV x y = PyData.eqv d e := by
  cases h1 <;> cases h2 <;> first | rfl | (simp [flatD] at f1; done) | (simp [flatD] at f2; done) | simp [eqV, PyData.eqv]
theorem inV_in {K : PySem.W.Frag} {F F' : Hp} {x : V} {d : D} (h : Dq K F x d) (f : flatD d = true) : ∀ {vs : List V} {ds : List D}, DqAll K F' vs ds → ds.all flatD = true → inV x vs = inAny d ds ∧ vs.all flatV = true
  | _, _, .nil, _ => ⟨rfl, rfl⟩
  | _, _, .cons (v := v) (d := e) (vs := vs) (ds := ds) h1 t, g => by
    rw [List.all_cons] at g
    obtain ⟨g1, g2⟩ := ba2 g
    obtain ⟨i1, i2⟩ := inV_in h f t g2
    have e1 : eqV v x = PyData.eqv e d := eqV_eqv h1 h g1 f
    have i1' : vs.any (fun y => eqV y x) = ds.any (fun z => PyData.eqv z d) := i1
    refine ⟨?_, ?_⟩
    · show ((v :: vs).any fun y => eqV y x) = ((e :: ds).any fun z => PyData.eqv z d)
      rw [List.any_cons, List.any_cons, e1, i1']
    · rw [List.all_cons, i2, Bool.and_true]
      cases h1 <;> first | rfl | (simp [flatD] at g1; done)
theorem flatV_of {K : PySem.W.Frag} {F H : Hp} {x : V} {d : D} (h : Pk K F H x d) (f : flatD d = true) : flatV x = true := by
  cases h <;> first | rfl | (simp [flatD] at f; done)
theorem in_flat {F H : Hp} {x y : V} {d : D} {ds : List D} {Q : VK} {neg : Bool} (s0 : SubH F H) (p1 : Pk X.K F H x d) (p2 : Pk X.K F H y (.list ds) ∨ Pk X.K F H y (.tuple ds)) (g1 : flatD d = true) (g2 : ds.all flatD = true)
    (q : Q (.bl (if neg then !inAny d ds else inAny d ds)) H) : rIn X.K neg x y H Q := by
  rcases p2 with p2 | p2
  · cases p2 with
    | lst h1 h2 =>
      obtain ⟨i1, i2⟩ := inV_in (p1.dq s0) g1 h2 g2
      exact ⟨_, _, rfl, .inl (lx_sq h1), flatV_of p1 g1, i2, by rw [i1]; exact q⟩
  · cases p2 with
    | tup h1 h2 =>
      obtain ⟨i1, i2⟩ := inV_in (p1.dq s0) g1 h2 g2
      exact ⟨_, _, rfl, .inr (sqT_mono s0 h1), flatV_of p1 g1, i2, by rw [i1]; exact q⟩
theorem op_cmp_in (hu : X.A.units + 65 < cLine) : OpR X (compareOp .In) (rCmp X.K .in_) := by
  intro pins s σ H x y v u Q I rx ry h
  obtain ⟨F, d1, d2, b, s0, p1, p2, e, q⟩ := h
  cases d2 <;> try (simp [cmpD] at e; done)
  · rename_i ds
    obtain ⟨g, e⟩ := guardO_some e
    subst e
    cases gf : (flatD d1 && ds.all flatD) with
    | true =>
      obtain ⟨g1, g2⟩ := ba2 gf
      exact op_in_seq pins s σ H _ _ v u Q I rx ry (in_flat (neg := false) s0 p1 (.inl p2) g1 g2 q)
    | false =>
      rw [gf, Bool.false_or] at g
      obtain ⟨g1, g2⟩ := ba2 g
      exact op_inD hu pins s σ H _ _ v u Q I rx ry ⟨d1, ds, pk_dp s0 p1, pk_dp s0 p2, g1, g2, q⟩
  · rename_i ds
    obtain ⟨g, e⟩ := guardO_some e
    subst e
    obtain ⟨g1, g2⟩ := ba2 g
    exact op_in_seq pins s σ H _ _ v u Q I rx ry (in_flat (neg := false) s0 p1 (.inr p2) g1 g2 q)
theorem op_cmp_notin (hu : X.A.units + 65 < cLine) : OpR X (compareOp .NotIn) (rCmp X.K .notin) := by
  intro pins s σ H x y v u Q I rx ry h
  obtain ⟨F, d1, d2, b, s0, p1, p2, e, q⟩ := h
  cases d2 <;> try (simp [cmpD] at e; done)
  · rename_i ds
    obtain ⟨g, e⟩ := guardO_some e
    subst e
    cases gf : (flatD d1 && ds.all flatD) with
    | true =>
      obtain ⟨g1, g2⟩ := ba2 gf
      exact op_notIn_seq pins s σ H _ _ v u Q I rx ry (in_flat (neg := true) s0 p1 (.inl p2) g1 g2 q)
    | false =>
      rw [gf, Bool.false_or] at g
      obtain ⟨g1, g2⟩ := ba2 g
      exact op_notInD hu pins s σ H _ _ v u Q I rx ry ⟨d1, ds, pk_dp s0 p1, pk_dp s0 p2, g1, g2, q⟩
  · rename_i ds
    obtain ⟨g, e⟩ := guardO_some e
    subst e
    obtain ⟨g1, g2⟩ := ba2 g
    exact op_notIn_seq pins s σ H _ _ v u Q I rx ry (in_flat (neg := true) s0 p1 (.inr p2) g1 g2 q)
theorem op_cmp (hu : X.A.units + 65 < cLine) (o : COp) : OpR X (compareOp o.op) (rCmp X.K o) := by
  cases o
  · exact op_cmp_eq (by omega)
  · exact op_cmp_ne (by omega)
  · exact op_cmp_lt
  · exact op_cmp_le
  · exact op_cmp_gt
  · exact op_cmp_ge
  · exact op_cmp_isN
  · exact op_cmp_isnN
  · exact op_cmp_in hu
  · exact op_cmp_notin hu

/-! ### items and slices -/
theorem atI_dq {K : PySem.W.Frag} {F : Hp} {vs : List V} {ds : List D} {i : Int} {d : D} (h : DqAll K F vs ds) (e : atI ds i = some d) : ∃ v, atI vs i = some v ∧ Dq K F v d := by
  unfold atI at e ⊢
  rw [dqAll_len h]
  obtain ⟨j, e1, e2⟩ := Option.bind_eq_some_iff.mp e
  obtain ⟨v, v1, v2⟩ := dqAll_get h e2
  exact ⟨v, by rw [e1]; exact v1, v2⟩
def rIdx (K : PySem.W.Frag) : R2 := fun x y H Q => ∃ F d1 d2 d, SubH F H ∧ Pk K F H x d1 ∧ Pk K F H y d2 ∧ idxD d1 d2 = some d ∧ ∀ v, Dq K F v d → Q v H
theorem ix_idx : IxR X (rIdx X.K) := by
  intro value slice pins s σ H x y v u Q I rx ry h hs
  obtain ⟨F, d1, d2, d, s0, p1, p2, e, q⟩ := h
  cases p1 <;> cases p2 <;> try (simp [idxD] at e; done)
  · rename_i a xs ds h1 h2 i
    obtain ⟨w, w1, w2⟩ := atI_dq h2 e
    exact ix_list value slice pins s σ H _ _ v u Q I rx ry ⟨a, xs, i, w, rfl, rfl, lx_sq h1, w1, q w w2⟩ hs
  · rename_i a xs ds h1 h2 i
    obtain ⟨w, w1, w2⟩ := atI_dq h2 e
    exact ix_tup value slice pins s σ H _ _ v u Q I rx ry ⟨a, xs, i, w, rfl, rfl, sqT_mono s0 h1, w1, q w w2⟩ hs
def rSlc (K : PySem.W.Frag) : V → Option Int → Option Int → Hp → VK → Prop := fun x lo hi H Q => ∃ F d r, SubH F H ∧ Pk K F H x d ∧ slcD lo hi d = some r ∧ Res K F H Q r
theorem dqAll_cut {K : PySem.W.Frag} {F : Hp} {vs : List V} {ds : List D} {lo hi : Option Int} (h : DqAll K F vs ds) : DqAll K F (cutV vs lo hi) (cutL ds lo hi) := by
  unfold cutV cutL
  rw [dqAll_len h]
  exact dqAll_take _ (dqAll_drop _ h)
theorem sl_slc : SlR X (rSlc X.K) := by
  intro pins s σ H x v vl vu lo hi sl Q I rx hs pl pu h
  obtain ⟨F, d, r, s0, p1, e, q⟩ := h
  cases p1 <;> try (simp [slcD] at e; done)
  · rename_i a xs ds h1 h2
    cases e
    exact sl_list pins s σ H _ v vl vu lo hi sl Q I rx hs pl pu ⟨a, xs, rfl, lx_sq h1, fun p hp => q _ _ hp (dqAll_cut h2)⟩
  · rename_i a xs ds h1 h2
    cases e
    refine sl_tupA pins s σ H _ v vl vu lo hi sl Q I rx hs pl pu ⟨a, xs, rfl, sqT_mono s0 h1, fun w => ?_, fun _ p hp => q.n hp (dq_newTup s0 hp (dqAll_cut h2))⟩
    refine q.v ?_
    have l := dqAll_len h2
    have c : cutL ds lo hi = ds := by
      unfold cutL
      rw [← l, w.1, w.2, List.drop_zero, Nat.sub_zero, l, List.take_length]
    rw [c]
    exact .tup h1 h2

/-! ### truth -/
theorem truth_ok {F H : Hp} {x : V} {d : D} {b : Bool} (s0 : SubH F H) (p : Pk X.K F H x d) (e : truthD d = some b) : TruV X.K x H b := by
  cases p <;> try (simp [truthD] at e; done)
  · cases e; rfl
  · cases e; rfl
  · cases e; rfl
  · rename_i a xs ds h1 h2
    cases e
    refine .inl ⟨xs, lx_sq h1, ?_⟩
    cases h2 <;> rfl
  · rename_i a xs ds h1 h2
    cases e
    refine .inr (.inl ⟨xs, sqT_mono s0 h1, ?_⟩)
    cases h2 <;> rfl
end
end Wk

/-! The walk layer: x[::-1] of a list or a tuple. -/
namespace Wk
open PySem PySem.Spec L2
section
open PyProof.Rows HT
variable {prog : Program} {w : World} {A : Around} {E : Value → Shared → Prop} {s : Shared}
theorem applied_m1 {sl : Addr} {vl vu vs : Value} {n : Nat} {Q : Int × Int × Nat → Shared → Prop} (hs : s.heap.IsSliceOf sl vl vu vs) (pl : IsPart vl none) (pu : IsPart vu none) (ps : IsPart vs (some (-1)))
    (h : Q ((n : Int) - 1, -1, n) s) : wpAny (model prog w) A (Builtin.Slice.sliceApplied (.ref sl) (pure (n : Int))) Q E s := by
  obtain ⟨os, hos, hcs, hds⟩ := id hs
  unfold Builtin.Slice.sliceApplied Builtin.Slice.sliceFields
  refine wpAny_bind (wpAny_bind (wpAny_field hos hds (x := vl) rfl (wpAny_bind (wpAny_field hos hds (x := vu) rfl (wpAny_bind (wpAny_field hos hds (x := vs) rfl (wpAny_pure ?_)))))))
  refine wpAny_bind (slicePart_ ps ?_)
  show wpAny _ _ (if ((-1 : Int) == 0) = true then _ else _) _ _ s
  rw [if_neg (by decide)]
  refine wpAny_bind (slicePart_ pl (wpAny_bind (slicePart_ pu (wpAny_bind (wpAny_pure ?_)))))
  show wpAny _ _ (match Builtin.Slice.sliceAdjust none none (-1) (n : Int) with | (lo, hi) => pure (lo, (-1 : Int), Builtin.Slice.slicePlaces lo hi (-1))) _ _ s
  have e : Builtin.Slice.sliceAdjust none none (-1) (n : Int) = ((n : Int) - 1, -1) := rfl
  rw [e]
  have e2 : Builtin.Slice.slicePlaces ((n : Int) - 1) (-1) (-1) = n := by
    unfold Builtin.Slice.slicePlaces
    rw [if_neg (by decide)]
    split
    · have : ((n : Int) - 1 - -1 - 1) / (- -1) = (n : Int) - 1 := by
        rw [Int.neg_neg, Int.ediv_one]
        omega
      rw [this]
      omega
    · omega
  show wpAny _ _ (pure ((n : Int) - 1, (-1 : Int), Builtin.Slice.slicePlaces ((n : Int) - 1) (-1) (-1))) _ _ s
  rw [e2]
  exact wpAny_pure h
theorem fmap_congr {α β : Type} {f g : α → Option β} : ∀ l : List α, (∀ a ∈ l, f a = g a) → l.filterMap f = l.filterMap g
  | [], _ => rfl
  | a :: l, h => by
    rw [List.filterMap_cons, List.filterMap_cons, h a (List.mem_cons_self ..), fmap_congr l fun b hb => h b (List.mem_cons_of_mem _ hb)]
theorem pick_m1 (xs : Array Value) : ((List.range xs.size).filterMap fun (m : Nat) => xs[((xs.size : Int) - 1 + (m : Int) * (-1)).toNat]?).toArray = xs.toList.reverse.toArray := by
  congr 1
  refine List.ext_getElem? fun i => ?_
  have e : (List.range xs.size).filterMap (fun (m : Nat) => xs[((xs.size : Int) - 1 + (m : Int) * (-1)).toNat]?) = (List.range xs.size).filterMap (fun m => xs.toList.reverse[m]?) := by
    refine fmap_congr _ fun m hm => ?_
    have hm := List.mem_range.mp hm
    have e1 : ((xs.size : Int) - 1 + (m : Int) * (-1)).toNat = xs.size - 1 - m := by omega
    rw [e1, List.getElem?_reverse (by rw [Array.length_toList]; exact hm), Array.length_toList, Array.getElem?_toList]
  rw [e]
  have e2 : (List.range xs.size).filterMap (fun m => xs.toList.reverse[m]?) = xs.toList.reverse := by
    have l : xs.size = xs.toList.reverse.length := by rw [List.length_reverse, Array.length_toList]
    rw [l]
    generalize xs.toList.reverse = l
    induction l with
    | nil => rfl
    | cons a r ih =>
      rw [List.length_cons, List.range_succ_eq_map, List.filterMap_cons]
      simp only [List.getElem?_cons_zero, List.filterMap_map]
      congr 1
  rw [e2]
theorem getItem_tuple_m1 {t sl : Addr} {items : Array Value} {vl vu vs : Value} {Q : Value → Shared → Prop} (ht : IsTup s.heap t items) (hs : s.heap.IsSliceOf sl vl vu vs) (pl : IsPart vl none) (pu : IsPart vu none) (ps : IsPart vs (some (-1)))
    (h : Q (.ref s.heap.objs.size) { s with heap := s.heap.push { cls := .type "tuple", data := .seq items.toList.reverse.toArray } })
    (hsz : items.size ≤ sizeLine) : wpAny (model prog w) A (getItem (.ref t) (.ref sl)) Q E s := by
  have htake : sizeOk (.seq items.toList.reverse.toArray) := by
    show items.toList.reverse.toArray.size ≤ sizeLine
    rw [List.size_toArray, List.length_reverse, Array.length_toList]
    exact hsz
  obtain ⟨os, hos, hcs, hds⟩ := id hs
  have hTs : s.TypeIs (.ref sl) "slice" := ⟨os, hos, hcs⟩
  unfold getItem
  try with_reducible refine wpAny_holding ?_
  first | refine wpAny_bind (wpAny_pure ?_) | skip
  refine wpAny_bind (wpAny_sequenceKey ht.typeIs (by decide) ?_)
  refine wpAny_bind (wpAny_callSpecial?_slot (name := Str.ofString "__getitem__") ht.typeIs PyProof.Rows.slot_tuple_getitem
    (wpAny_call_entry PyProof.Rows.slot_tuple_getitem ht.typeIs entry_tuple_getitem ?_ (args_tuple_getitem _ _)))
  show wpAny _ _ (Builtin.Tuple.tupleItemsOf (.ref t) >>= _) _ _ s
  refine wpAny_bind (tupleItemsOf_ ht ?_)
  refine wpAny_bind (wpAny_typeOf hTs ?_)
  rw [if_pos (by decide)]
  refine wpAny_bind (applied_m1 hs pl pu ps ?_)
  have hno : ¬ ((((items.size : Int) - 1) == 0 && (-1 : Int) == 1 && items.size == items.size) = true) := by
    intro q
    rw [Bool.and_eq_true, Bool.and_eq_true] at q
    exact absurd q.1.2 (by decide)
  show wpAny _ _ (if (((items.size : Int) - 1) == 0 && (-1 : Int) == 1 && items.size == items.size) = true then _ else _) _ _ s
  rw [if_neg hno, pick_m1]
  first
    | exact wpAny_bind (m := Builtin.Tuple.tupleExact _) (wpAny_newObj_type (wpAny_pure ⟨_, rfl, wpAny_pure h⟩) htake)
    | exact wpAny_bind (m := Builtin.Tuple.tupleExact _) (wpAny_newObj_type (wpAny_bind (wpAny_pure (wpAny_pure ⟨_, rfl, wpAny_pure h⟩))) htake)
    | exact wpAny_bind (wpAny_bind (m := Builtin.Tuple.tupleExact _) (wpAny_newObj_type (wpAny_pure (wpAny_pure ⟨_, rfl, wpAny_pure h⟩)) htake))
    | exact wpAny_bind (wpAny_bind (m := Builtin.Tuple.tupleExact _) (wpAny_newObj_type (wpAny_pure ⟨_, rfl, wpAny_pure h⟩) htake))
end
section
open PyProof.Rows
variable {X : Cx}
def tRevA (K : PySem.W.Frag) (te : TE) : TE := fun σ H Q => te σ H fun x H1 => ∃ a xs, x = .ref a ∧ ((SqL K H1 a xs ∧ ∀ p, H1 p = none → Q (.ref p) (upd H1 p (.lst xs.reverse))) ∨ (SqT K H1 a xs ∧ ∀ p, H1 p = none → Q (.ref p) (upd H1 p (.tup xs.reverse))))
theorem pe_revA {e : Expr} {te : TE} {k : Nat} {p1 p2 p3 pos : Pos} (he : PE X e te) : PE X (.Subscript e (.Slice none none (some (.UnaryOp .USub (.Constant (.int 1) k p1) p2)) p3) pos) (tRevA X.K te) := by
  refine ⟨fun pins s σ H Q I h => ?_⟩
  refine Subscript_ (thn (he.run pins s σ H _ I h) fun v s1 ⟨x, H1, I1, r1, q1⟩ => ?_)
  obtain ⟨a, xs, ex, hx⟩ := q1
  subst ex
  cases r1
  have hst : PO X (some (.UnaryOp .USub (.Constant (.int 1) k p1) p2)) (tPart (tUn (rU fun i => .int (-i)) (tC (.int 1)))) := po_some (pe_un un_neg pe_int)
  refine wpAny_Slice (thn (po_none.run pins s1 σ H1 (fun o H2 => o = none ∧ H2 = H1) I1 ⟨rfl, rfl⟩) fun vl s2 ⟨l, H2, I2, pl, el, e2⟩ => ?_)
  subst el e2
  refine thn (po_none.run pins s2 σ H2 (fun o H3 => o = none ∧ H3 = H2) I2 ⟨rfl, rfl⟩) fun vu s3 ⟨u, H3, I3, pu, eu, e3⟩ => ?_
  subst eu e3
  refine thn (hst.run pins s3 σ H3 (fun o H4 => o = some (-1) ∧ H4 = H3) I3 ⟨1, rfl, -1, rfl, rfl, rfl⟩) fun vs s4 ⟨o, H4, I4, ps, eo, e4⟩ => ?_
  subst eo e4
  have I5 : Inv X pins σ H4 { s4 with heap := s4.heap.push { cls := .type "slice", data := .fields #[vl, vu, vs] } } := I4.kept (t' := s4.toks) fun b ob q => Heap.get?_push_of_some _ q
  rcases hx with ⟨hx, q⟩ | ⟨hx, q⟩
  · obtain ⟨its, r, ht, hz⟩ := I5.list hx
    have hlen := r.length
    show wpAny (model X.prog X.w) X.A (subscriptTail e (.Slice none none (some (.UnaryOp .USub (.Constant (.int 1) k p1) p2)) p3) (.ref a) (.ref s4.heap.objs.size)) (EP X pins σ Q) X.xe { s4 with heap := s4.heap.push { cls := .type "slice", data := .fields #[vl, vu, vs] } }
    refine tail_any (ops := [.ref a, .ref s4.heap.objs.size]) ht.isList.typeIs (PySem.slot_list_getitem.lookup) ?_ (by with_unfolding_all rfl)
    refine wpAny_getItem_list_slice ht.isList (Heap.IsSliceOf.new _ vl vu vs) pl pu ps (by decide) ?_ (by rw [List.size_toArray]; omega)
    rw [PySem.W.krv_pick]
    refine ⟨.ref _, _, I5.laid (t' := s4.toks) (o := .lst xs.reverse) (fun b ob q => Heap.get?_push_of_some _ q) (Nat.le_refl _) ?_, rfl, q _ (I5.hok.fresh (Nat.le_refl _))⟩
    exact ⟨by rw [List.length_reverse]; exact hz, _, 0, r.reverse, Heap.get?_push_size _ rfl⟩
  · obtain ⟨its, r, ht, hz⟩ := I5.tuple hx
    have hlen : its.toArray.size = xs.length := by rw [List.size_toArray]; exact r.length.symm
    show wpAny (model X.prog X.w) X.A (subscriptTail e (.Slice none none (some (.UnaryOp .USub (.Constant (.int 1) k p1) p2)) p3) (.ref a) (.ref s4.heap.objs.size)) (EP X pins σ Q) X.xe { s4 with heap := s4.heap.push { cls := .type "slice", data := .fields #[vl, vu, vs] } }
    refine tail_any (ops := [.ref a, .ref s4.heap.objs.size]) ht.typeIs (PyProof.Rows.slot_tuple_getitem.lookup) ?_ (by with_unfolding_all rfl)
    refine getItem_tuple_m1 ht (Heap.IsSliceOf.new _ vl vu vs) pl pu ps ?_ (by rw [hlen]; exact hz)
    refine ⟨.ref _, _, I5.laid (t' := s4.toks) (o := .tup xs.reverse) (fun b ob q => Heap.get?_push_of_some _ q) (Nat.le_refl _) ?_, rfl, q _ (I5.hok.fresh (Nat.le_refl _))⟩
    exact ⟨by rw [List.length_reverse]; exact hz, _, r.reverse, IsTup.new _ _⟩
end
end Wk

/-! The walk layer, part 6b: sorted(set(list of ints)). -/
namespace Wk
open PySem PySem.Spec L2 PyProof.Rows
/-- a set just made -/
abbrev oSet (w : World) : Obj := ⟨.type "set", none, .set #[] 0 (.fresh 0 0 (!w.params.followText "set-order")), #[]⟩
section
variable {P : Program} {w : World} {A : Around} {E : Value → Shared → Prop} {s : Shared}
theorem call_setL {l : Addr} {items : Array Value} (ns : List Int) {Q : Value → Shared → Prop} (hh : A.handled = none) (hl : s.heap.IsList l items) (hit : IntsAre items.toList ns) (hb : ns.length + 1 < scanBound)
    (h : ∀ (h' : Heap) (tk c : Nat), SetR w h' s.heap.objs.size (fun j => decide (j ∈ ns)) c → c ≤ ns.length → (∀ b u, s.heap.get? b = some u → h'.get? b = some u) → Q (.ref s.heap.objs.size) ⟨h', s.gens, s.drawn, tk, s.os⟩) :
    wpAny (model P w) A (call (.type "set") [.ref l]) Q E s := by
  have hsz : items.size = ns.length := by
    have := IntsAre.length hit
    rwa [Array.length_toList] at this
  have cs := F.called_set
  obtain ⟨c, tl, hmro⟩ := cs.mro
  have hmade := cs.made
  have hsub := cs.sub
  have hnt := cs.notType
  have hcc := cs.canCreate
  have hct := F.typeCall_set_1 (.ref l)
  have hli := cs.init.lookup
  have hbi := cs.init.bind (.ref s.heap.objs.size)
  refine wpAny_call (codeAny_of_tree (show wpAny _ _ (callAny (.type "set") _) _ _ _ from ?_))
  refine wpAny_pure ⟨Code.quiet_builtin _ (by decide +kernel), codeAny_builtin F.entry_type_call ?_⟩
  rw [Around.under_plain (weight_type_call_type "set" [.ref l] []) rfl]
  repeat (any_goals (first | assumption | wp_step))
  refine codeAny_mono (code_set_led1 (.ref l) (E := E) (Q₁ := fun ob s₁ => ob = .ref s.heap.objs.size ∧ s₁ = ⟨s.heap.push (oSet w), s.gens, s.drawn, s.toks, s.os⟩) ⟨rfl, rfl⟩) fun r s₁ hr => ?_
  cases r with
  | error e => exact hr
  | ok fl =>
    cases fl with
    | ret ob =>
      obtain ⟨rfl, rfl⟩ := hr
      have hS : (s.heap.push (oSet w)).get? s.heap.objs.size = some (oSet w) := Heap.get?_push_size _ rfl
      have hT : Shared.TypeIs ⟨s.heap.push (oSet w), s.gens, s.drawn, s.toks, s.os⟩ (.ref s.heap.objs.size) "set" := ⟨_, hS, rfl⟩
      repeat (any_goals (first | assumption | wp_step))
      refine codeAny_mono (codeAny_call_builtin (R := wants (fun r s₂ => r = .none ∧ ∃ h' tk c, s₂ = ⟨h', s.gens, s.drawn, tk, s.os⟩ ∧ SetR w h' s.heap.objs.size (fun j => decide (j ∈ ns)) c ∧ c ≤ ns.length ∧
          (∀ b u, s.heap.get? b = some u → h'.get? b = some u)) E) cs.init.plain F.entry_set_init (check_set_init_1 hT ?_)) fun r₂ s₂ hr₂ => ?_
      · have hlS : l < s.heap.objs.size := by
          obtain ⟨_, q, _⟩ := hl
          exact Heap.lt_size q
        have hl1 : (s.heap.push (oSet w)).IsList l items := hl.push _
        obtain ⟨⟨kc, kd, kk, ks⟩, kl, hcl, nl, hdl⟩ := hl
        have hcl : kc = .type "list" := hcl
        have hdl : kk = .seq items nl := hdl
        subst hcl hdl
        have kl' : (s.heap.push (oSet w)).get? l = some ⟨.type "list", kd, .seq items nl, ks⟩ := Heap.get?_push_of_some _ kl
        have q1 := F.sub_list_set
        have q2 := F.sub_list_frozenset
        have q3 : (Value.type "list" == Value.type "dict") = false := by decide
        unfold Builtin.«set.__init__» noKeywords Builtin.Frozenset.updateFrom
        generalize hPI : pyIter = PI
        wp_walk
        subst hPI
        refine wpAny_pyIter_list hl1 (wpAny_bind (wpAny_runValue ?_))
        have h3 : A.in1.in1.in1.handled = none := by simp [hh]
        have z1 : (s.heap.push (oSet w)).objs.size = s.heap.objs.size + 1 := Heap.size_push ..
        have n1 : l ≠ (s.heap.push (oSet w)).objs.size := by
          rw [z1]
          exact Nat.ne_of_lt (Nat.lt_succ_of_lt hlS)
        have n2 : s.heap.objs.size ∉ [(s.heap.push (oSet w)).objs.size, l] := by
          rw [z1]
          simp only [List.mem_cons, List.not_mem_nil, or_false, not_or]
          exact ⟨Nat.ne_of_lt (Nat.lt_succ_self _), Nat.ne_of_gt hlS⟩
        have hval : ∀ (i : Nat) (v : Value), items[i]? = some v → ∃ k t, ns[i]? = some k ∧ v = .int k t := fun i v hv => by
          have hi : i < ns.length := hsz ▸ (Array.getElem?_eq_some_iff.mp hv).1
          obtain ⟨t, e⟩ := IntsAre.int_at hit i v (by rw [Array.getElem?_toList]; exact hv)
          have e2 : ns[i]? = some ns[i] := List.getElem?_eq_getElem hi
          exact ⟨ns[i], t, e2, by rw [e, List.getD_eq_getElem?_getD, e2] <;> rfl⟩
        have hget : ((s.heap.push (oSet w)).push ⟨.type "list_iterator", none, .fields #[.ref l, .int 0 0], #[]⟩).get? s.heap.objs.size = some (oSet w) := Heap.get?_push_of_some _ hS
        refine set_update_ints ((Walks.list h3 _ l n1 items).toS) s.heap.objs.size n2 ns hsz hb hval (items.size - 0) 0 _ (by omega) (Nat.zero_le _) ⟨⟨_, Heap.get?_push_size _ rfl, rfl, rfl⟩, hl1.push _⟩ ⟨0, Nat.le_refl 0, setR_new_at hget⟩ fun s' c' hm hc' hS' => ?_
        obtain ⟨h', g2, d', tk', os'⟩ := s'
        have eg : g2 = s.gens := hm.gens
        have ed : d' = s.drawn := hm.drawn
        have eo : os' = s.os := hm.os
        subst eg ed eo
        refine wpAny_pure (show wpAny _ _ (ret Value.none) _ _ _ from ?_)
        refine wpAny_pure ⟨rfl, h', tk', c', rfl, hS', hsz ▸ hc', fun b u e => ?_⟩
        have b0 : b < s.heap.objs.size := Heap.lt_size e
        refine hm.heap b u ?_ (Heap.get?_push_of_some _ (Heap.get?_push_of_some _ e))
        simp only [List.mem_cons, List.not_mem_nil, or_false, not_or]
        exact ⟨Nat.ne_of_lt b0, by rw [z1]; exact Nat.ne_of_lt (Nat.lt_succ_of_lt b0)⟩
      · cases r₂ with
        | error e => exact hr₂
        | ok fl₂ =>
          cases fl₂ with
          | ret r =>
            obtain ⟨rfl, h', tk, c', rfl, hS', hc', hk'⟩ := hr₂
            repeat (any_goals (first | assumption | wp_step))
            exact h _ _ _ hS' hc' hk'
          | _ => exact hr₂.elim
    | _ => exact hr.elim
theorem call_setT {l : Addr} {items : Array Value} (ns : List Int) {Q : Value → Shared → Prop} (hh : A.handled = none) (hl : s.heap.IsTuple l items) (hit : IntsAre items.toList ns) (hb : ns.length + 1 < scanBound)
    (h : ∀ (h' : Heap) (tk c : Nat), SetR w h' s.heap.objs.size (fun j => decide (j ∈ ns)) c → c ≤ ns.length → (∀ b u, s.heap.get? b = some u → h'.get? b = some u) → Q (.ref s.heap.objs.size) ⟨h', s.gens, s.drawn, tk, s.os⟩) :
    wpAny (model P w) A (call (.type "set") [.ref l]) Q E s := by
  have hsz : items.size = ns.length := by
    have := IntsAre.length hit
    rwa [Array.length_toList] at this
  have cs := F.called_set
  obtain ⟨c, tl, hmro⟩ := cs.mro
  have hmade := cs.made
  have hsub := cs.sub
  have hnt := cs.notType
  have hcc := cs.canCreate
  have hct := F.typeCall_set_1 (.ref l)
  have hli := cs.init.lookup
  have hbi := cs.init.bind (.ref s.heap.objs.size)
  refine wpAny_call (codeAny_of_tree (show wpAny _ _ (callAny (.type "set") _) _ _ _ from ?_))
  refine wpAny_pure ⟨Code.quiet_builtin _ (by decide +kernel), codeAny_builtin F.entry_type_call ?_⟩
  rw [Around.under_plain (weight_type_call_type "set" [.ref l] []) rfl]
  repeat (any_goals (first | assumption | wp_step))
  refine codeAny_mono (code_set_led1 (.ref l) (E := E) (Q₁ := fun ob s₁ => ob = .ref s.heap.objs.size ∧ s₁ = ⟨s.heap.push (oSet w), s.gens, s.drawn, s.toks, s.os⟩) ⟨rfl, rfl⟩) fun r s₁ hr => ?_
  cases r with
  | error e => exact hr
  | ok fl =>
    cases fl with
    | ret ob =>
      obtain ⟨rfl, rfl⟩ := hr
      have hS : (s.heap.push (oSet w)).get? s.heap.objs.size = some (oSet w) := Heap.get?_push_size _ rfl
      have hT : Shared.TypeIs ⟨s.heap.push (oSet w), s.gens, s.drawn, s.toks, s.os⟩ (.ref s.heap.objs.size) "set" := ⟨_, hS, rfl⟩
      repeat (any_goals (first | assumption | wp_step))
      refine codeAny_mono (codeAny_call_builtin (R := wants (fun r s₂ => r = .none ∧ ∃ h' tk c, s₂ = ⟨h', s.gens, s.drawn, tk, s.os⟩ ∧ SetR w h' s.heap.objs.size (fun j => decide (j ∈ ns)) c ∧ c ≤ ns.length ∧
          (∀ b u, s.heap.get? b = some u → h'.get? b = some u)) E) cs.init.plain F.entry_set_init (check_set_init_1 hT ?_)) fun r₂ s₂ hr₂ => ?_
      · have hlS : l < s.heap.objs.size := by
          obtain ⟨_, q, _⟩ := hl
          exact Heap.lt_size q
        have hl1 : (s.heap.push (oSet w)).IsTuple l items := hl.push _
        obtain ⟨⟨kc, kd, kk, ks⟩, kl, hcl, nl, hdl⟩ := hl
        have hcl : kc = .type "tuple" := hcl
        have hdl : kk = .seq items nl := hdl
        subst hcl hdl
        have kl' : (s.heap.push (oSet w)).get? l = some ⟨.type "tuple", kd, .seq items nl, ks⟩ := Heap.get?_push_of_some _ kl
        have q1 := F.sub_tuple_set
        have q2 := F.sub_tuple_frozenset
        have q3 : (Value.type "tuple" == Value.type "dict") = false := by decide
        unfold Builtin.«set.__init__» noKeywords Builtin.Frozenset.updateFrom
        generalize hPI : pyIter = PI
        wp_walk
        subst hPI
        refine wpAny_pyIter_tuple hl1 (wpAny_bind (wpAny_runValue ?_))
        have h3 : A.in1.in1.in1.handled = none := by simp [hh]
        have z1 : (s.heap.push (oSet w)).objs.size = s.heap.objs.size + 1 := Heap.size_push ..
        have n1 : l ≠ (s.heap.push (oSet w)).objs.size := by
          rw [z1]
          exact Nat.ne_of_lt (Nat.lt_succ_of_lt hlS)
        have n2 : s.heap.objs.size ∉ [(s.heap.push (oSet w)).objs.size, l] := by
          rw [z1]
          simp only [List.mem_cons, List.not_mem_nil, or_false, not_or]
          exact ⟨Nat.ne_of_lt (Nat.lt_succ_self _), Nat.ne_of_gt hlS⟩
        have hval : ∀ (i : Nat) (v : Value), items[i]? = some v → ∃ k t, ns[i]? = some k ∧ v = .int k t := fun i v hv => by
          have hi : i < ns.length := hsz ▸ (Array.getElem?_eq_some_iff.mp hv).1
          obtain ⟨t, e⟩ := IntsAre.int_at hit i v (by rw [Array.getElem?_toList]; exact hv)
          have e2 : ns[i]? = some ns[i] := List.getElem?_eq_getElem hi
          exact ⟨ns[i], t, e2, by rw [e, List.getD_eq_getElem?_getD, e2] <;> rfl⟩
        have hget : ((s.heap.push (oSet w)).push ⟨.type "tuple_iterator", none, .fields #[.ref l, .int 0 0], #[]⟩).get? s.heap.objs.size = some (oSet w) := Heap.get?_push_of_some _ hS
        refine set_update_ints ((Walks.tuple h3 _ l n1 items).toS) s.heap.objs.size n2 ns hsz hb hval (items.size - 0) 0 _ (by omega) (Nat.zero_le _) ⟨⟨_, Heap.get?_push_size _ rfl, rfl, rfl⟩, hl1.push _⟩ ⟨0, Nat.le_refl 0, setR_new_at hget⟩ fun s' c' hm hc' hS' => ?_
        obtain ⟨h', g2, d', tk', os'⟩ := s'
        have eg : g2 = s.gens := hm.gens
        have ed : d' = s.drawn := hm.drawn
        have eo : os' = s.os := hm.os
        subst eg ed eo
        refine wpAny_pure (show wpAny _ _ (ret Value.none) _ _ _ from ?_)
        refine wpAny_pure ⟨rfl, h', tk', c', rfl, hS', hsz ▸ hc', fun b u e => ?_⟩
        have b0 : b < s.heap.objs.size := Heap.lt_size e
        refine hm.heap b u ?_ (Heap.get?_push_of_some _ (Heap.get?_push_of_some _ e))
        simp only [List.mem_cons, List.not_mem_nil, or_false, not_or]
        exact ⟨Nat.ne_of_lt b0, by rw [z1]; exact Nat.ne_of_lt (Nat.lt_succ_of_lt b0)⟩
      · cases r₂ with
        | error e => exact hr₂
        | ok fl₂ =>
          cases fl₂ with
          | ret r =>
            obtain ⟨rfl, h', tk, c', rfl, hS', hc', hk'⟩ := hr₂
            repeat (any_goals (first | assumption | wp_step))
            exact h _ _ _ hS' hc' hk'
          | _ => exact hr₂.elim
    | _ => exact hr.elim
end
theorem insU_mem (a k : Int) : ∀ l : List Int, k ∈ insU a l ↔ k = a ∨ k ∈ l
  | [] => by simp [insU]
  | b :: r => by
    unfold insU
    split
    · simp
    · split
      · rename_i h
        subst h
        simp
      · have := insU_mem a k r
        simp only [List.mem_cons, this]
        constructor
        · rintro (h | h | h)
          · exact .inr (.inl h)
          · exact .inl h
          · exact .inr (.inr h)
        · rintro (h | h | h)
          · exact .inr (.inl h)
          · exact .inl h
          · exact .inr (.inr h)
theorem insU_lt (a : Int) : ∀ {l : List Int}, l.Pairwise (· < ·) → (insU a l).Pairwise (· < ·)
  | [], _ => by simp [insU]
  | b :: r, h => by
    obtain ⟨h1, h2⟩ := List.pairwise_cons.mp h
    unfold insU
    split
    · rename_i q
      refine List.pairwise_cons.mpr ⟨fun y hy => ?_, h⟩
      rcases List.mem_cons.mp hy with z | z
      · rw [z]
        exact q
      · exact Int.lt_trans q (h1 y z)
    · split
      · exact h
      · rename_i q1 q2
        refine List.pairwise_cons.mpr ⟨fun y hy => ?_, insU_lt a h2⟩
        rcases (insU_mem a y r).mp hy with z | z
        · rw [z]
          omega
        · exact h1 y z
theorem ssetI_mem (k : Int) : ∀ l : List Int, k ∈ ssetI l ↔ k ∈ l
  | [] => by simp [ssetI]
  | a :: r => by
    show k ∈ insU a (ssetI r) ↔ _
    rw [insU_mem, ssetI_mem k r, List.mem_cons]
theorem ssetI_lt : ∀ l : List Int, (ssetI l).Pairwise (· < ·)
  | [] => .nil
  | a :: r => insU_lt a (ssetI_lt r)
theorem lt_uniq : ∀ {l m : List Int}, l.Pairwise (· < ·) → m.Pairwise (· < ·) → (∀ k, k ∈ l ↔ k ∈ m) → l = m
  | [], [], _, _, _ => rfl
  | [], b :: m, _, _, h => by
    have := (h b).mpr (List.mem_cons_self ..)
    cases this
  | a :: l, [], _, _, h => by
    have := (h a).mp (List.mem_cons_self ..)
    cases this
  | a :: l, b :: m, p, q, h => by
    obtain ⟨p1, p2⟩ := List.pairwise_cons.mp p
    obtain ⟨q1, q2⟩ := List.pairwise_cons.mp q
    have e : a = b := by
      rcases List.mem_cons.mp ((h a).mp (List.mem_cons_self ..)) with z | z
      · exact z
      · rcases List.mem_cons.mp ((h b).mpr (List.mem_cons_self ..)) with y | y
        · exact y.symm
        · have := q1 a z
          have := p1 b y
          omega
    subst e
    congr 1
    refine lt_uniq p2 q2 fun k => ⟨fun z => ?_, fun z => ?_⟩
    · rcases List.mem_cons.mp ((h k).mp (List.mem_cons_of_mem _ z)) with y | y
      · have := p1 k z
        omega
      · exact y
    · rcases List.mem_cons.mp ((h k).mpr (List.mem_cons_of_mem _ z)) with y | y
      · have := q1 k z
        omega
      · exact y
section
variable {X : Cx}
def rSetL (K : PySem.W.Frag) (w : World) : List V → Hp → VK → Prop := fun vs H Q => ∃ (a : Addr) (ns : List Int), vs = [V.ref a] ∧ (SqL K H a (ns.map V.int) ∨ SqT K H a (ns.map V.int)) ∧ ns.length < 64 ∧ ∀ p c, H p = none → c ≤ ns.length → Q (.ref p) (upd H p (SetO w p (fun j => decide (j ∈ ns)) c))
theorem cr_setL (hc : X.calm = true) : CallR X (.type "set") (rSetL X.K X.w) := by
  intro pins s σ H vs us Q I r h
  obtain ⟨a, ns, rfl, hq, hl, q⟩ := h
  rw [Vals.ref1 r]
  rcases hq with hq | hq
  · obtain ⟨its, rv, pl, hz⟩ := I.list hq
    refine call_setL ns (I.ok.hd hc) pl.isList (by simpa using Vals.ints rv) (by unfold scanBound; omega) fun h' tk c R hc' k => ?_
    exact ⟨.ref s.heap.objs.size, _, I.laid (t' := tk) k (Nat.le_refl _) (setO_new R), rfl, q _ c (I.hok.fresh (Nat.le_refl _)) hc'⟩
  · obtain ⟨its, rv, pl, hz⟩ := I.tuple hq
    refine call_setT ns (I.ok.hd hc) pl (by simpa using Vals.ints rv) (by unfold scanBound; omega) fun h' tk c R hc' k => ?_
    exact ⟨.ref s.heap.objs.size, _, I.laid (t' := tk) k (Nat.le_refl _) (setO_new R), rfl, q _ c (I.hok.fresh (Nat.le_refl _)) hc'⟩
theorem pe_sset {e : Expr} {te : TE} {p1 p2 p3 p4 : Pos} (hc : X.calm = true) (g1 : Gl X "sorted") (m1 : X.mg "sorted" = none) (g2 : Gl X "set") (m2 : X.mg "set" = none) (he : PE X e te) (hs : ∀ es, starEach (e :: es) X.env = (false, eval e X.env) :: starEach es X.env)
    (hs2 : ∀ es, starEach (.Call (.Name "set" p2) [e] [] p3 :: es) X.env = (false, eval (.Call (.Name "set" p2) [e] [] p3) X.env) :: starEach es X.env) :
    PE X (.Call (.Name "sorted" p1) [.Call (.Name "set" p2) [e] [] p3] [] p4) (tCB (rSortedSet X.w) (tCons (tCB (rSetL X.K X.w) (tCons te tNil)) tNil)) := by
  have h1 := pe_callTy (p := p2) (pos := p3) (x := "set") (cr_setL hc) g2 m2 (by decide +kernel) (pa_cons he pa_nil (hs [])) (by decide) (by decide) (hs [])
  have h2 := pe_callB (p := p1) (pos := p4) (x := "sorted") (cr_sortedSet hc) g1 m1 (by decide +kernel) (pa_cons h1 pa_nil (hs2 [])) (by decide) (by decide) (hs2 [])
  exact h2
end
end Wk

/-! The walk layer, part 6c: min of a list of tuples; sorted(set(tuple of ints)). -/
namespace Wk
open PySem PySem.Spec L2 PyProof.Rows
section
variable {pr : Program} {w : World} {A : Around} {Rz : Result → Shared → Prop} {it z : Addr} {fo wr : List Addr} {m : Nat} {Pv : Nat → Value → Prop} {Sg : Nat → Heap → Prop}
theorem min_nm : (toString "min" ++ toString ".loop" : String) = "min.loop" := by decide
/-- the least of what comes, the first of equals; the order may look at the heap -/
theorem least_turns (W : Walks pr w A.in1 it fo wr m Pv Sg) (less : Nat → Nat → Bool) (G : Heap → Prop) (gk : ∀ h h' : Heap, G h → (∀ b o, b ∉ wr → b ≠ z → h.get? b = some o → h'.get? b = some o) → G h')
    (cm : ∀ (j : Nat) (v u : Value) (s : Shared) (Q E : Value → Shared → Prop), j + 1 < m → Pv (j + 1) v → Pv (argBest less j) u → G s.heap → Q (.bool (less (j + 1) (argBest less j))) s → wpAny (model pr w) A.in1 (richCompare .Lt v u) Q E s) (zf : z ∉ fo) :
    ∀ (k j : Nat) (s : Shared) (bv : Value) (c : Nat), m - (j + 1) = k → j + 1 ≤ m → Sg (j + 1) s.heap → G s.heap → Pv (argBest less j) bv →
    s.heap.get? z = some { cls := .type "list", dict := none, data := .seq #[bv, bv] c, slots := #[] } →
    (∀ v h' tk, Pv (argBest less (m - 1)) v → (∀ b o, b ∉ wr → b ≠ z → s.heap.get? b = some o → h'.get? b = some o) → Rz (.ok (.ret v)) { s with heap := h', toks := tk }) →
    codeAny (model pr w) A (.builtin "min.loop" ⟨[.ref it, .none, .ref z], []⟩) Rz s := by
  have zw : z ∉ wr := fun q => zf (W.sub _ q)
  intro k
  induction k with
  | zero =>
    intro j s bv c hk hj sg hg pb hz rz
    have jm : j + 1 = m := by omega
    refine codeAny_builtin PySem.F.entry_min_loop (?_)
    rw [Around.under_plainId PySem.F.plain_min_loop _]
    show wpAny _ A.in1 (seqItems? (.ref z) >>= _) _ _ s
    refine wpAny_bind (wpAny_seqItems hz rfl (?_))
    show wpAny _ A.in1 (tryCatch (pyNext (.ref it)) _ >>= _) _ _ s
    refine wpAny_bind (wpAny_tryCatch (W.done s _ _ (jm ▸ sg) fun h1 tk kp => ?_))
    have hz1 := kp z _ zw hz
    show wpAny _ A.in1 (updateSeq z (fun _ => #[]) >>= _) _ _ _
    refine wpAny_bind (wpAny_updateSeq hz1 rfl (wpAny_bind (wpAny_letGo (wpAny_pure ?_))))
    exact rz bv _ tk (by rw [← jm]; exact pb) fun b o hb bz e => (Heap.get?_update_other _ _ (Ne.symm bz)).trans (kp b o hb e)
  | succ k ih =>
    intro j s bv c hk hj sg hg pb hz rz
    have jm : j + 1 < m := by omega
    refine codeAny_builtin PySem.F.entry_min_loop (?_)
    rw [Around.under_plainId PySem.F.plain_min_loop _]
    show wpAny _ A.in1 (seqItems? (.ref z) >>= _) _ _ s
    refine wpAny_bind (wpAny_seqItems hz rfl (?_))
    show wpAny _ A.in1 (tryCatch (pyNext (.ref it)) _ >>= _) _ _ s
    refine wpAny_bind (wpAny_tryCatch (W.item (j + 1) s _ _ jm sg fun v h1 tk pv sg1 kp => ?_))
    have hz1 := kp z _ zw hz
    have hg1 : G h1 := gk _ _ hg fun b o hb _ e => kp b o hb e
    show wpAny _ A.in1 (tryCatch (holding [v, v] (richCompare .Lt v bv >>= _)) _ >>= _) _ _ _
    refine wpAny_bind (wpAny_tryCatch (wpAny_holding (wpAny_bind (cm j v bv _ _ _ jm pv pb hg1 ?_))))
    refine wpAny_bind (wpAny_holding (wpAny_truthy_bool (wpAny_bind (wpAny_letGo (wpAny_pure ?_)))))
    cases hl : less (j + 1) (argBest less j) with
    | true =>
      simp only [if_true]
      refine wpAny_bind (wpAny_updateSeq hz1 rfl (wpAny_bind (wpAny_letGo ?_)))
      rw [min_nm]
      have kq : ∀ b o, b ∉ wr → b ≠ z → s.heap.get? b = some o → (h1.update z (Obj.mapSeq fun _ => #[v, v])).get? b = some o := fun b o hb bz e => (Heap.get?_update_other _ _ (Ne.symm bz)).trans (kp b o hb e)
      refine wpAny_pure ⟨plainId_quiet PySem.F.plain_min_loop _, ih (j + 1) _ v _ (by omega) jm (W.frame _ _ _ sg1 fun b hb o e => ?_) ?_ (by simp only [argBest, hl, if_true]; exact pv) (Heap.get?_update_self _ hz1 rfl) fun v' h2 tk2 pv2 k2 => ?_⟩
      · exact (Heap.get?_update_other _ _ (fun q : z = b => zf (by rw [q]; exact hb))).trans e
      · exact gk _ _ hg1 fun b o hb bz e => (Heap.get?_update_other _ _ (Ne.symm bz)).trans e
      · exact rz v' h2 tk2 pv2 fun b o hb bz e => k2 b o hb bz ((Heap.get?_update_other _ _ (Ne.symm bz)).trans (kp b o hb e))
    | false =>
      simp only [Bool.false_eq_true, if_false]
      refine wpAny_bind (wpAny_letGo (?_))
      rw [min_nm]
      refine wpAny_pure ⟨plainId_quiet PySem.F.plain_min_loop _, ih (j + 1) _ bv c (by omega) jm sg1 hg1 (by simp only [argBest, hl, Bool.false_eq_true, if_false]; exact pb) hz1 fun v' h2 tk2 pv2 k2 => ?_⟩
      exact rz v' h2 tk2 pv2 fun b o hb bz e => k2 b o hb bz (kp b o hb e)
end
section
variable {pr : Program} {w : World} {A : Around} {E : Value → Shared → Prop} {s : Shared}
/-- min(xs): the first of the least, the order by what stands in the heap -/
theorem call_least {l : Addr} {items : Array Value} {Q : Value → Shared → Prop} (less : Nat → Nat → Bool) (hh : A.handled = none) (hl : s.heap.IsList l items) (hne : 0 < items.size)
    (cm : ∀ (j : Nat) (v u : Value) (s' : Shared) (Q E : Value → Shared → Prop), j + 1 < items.size → items[j + 1]? = some v → items[argBest less j]? = some u → (∀ b o, s.heap.get? b = some o → s'.heap.get? b = some o) → Q (.bool (less (j + 1) (argBest less j))) s' →
      wpAny (model pr w) A.in1 (richCompare .Lt v u) Q E s')
    (h : ∀ v h' tk, items[argBest less (items.size - 1)]? = some v → (∀ b o, s.heap.get? b = some o → h'.get? b = some o) → Q v { s with heap := h', toks := tk }) :
    wpAny (model pr w) A (call (.builtin "min") [.ref l]) Q E s := by
  have ll : l < s.heap.objs.size := by
    obtain ⟨_, e, _⟩ := hl
    exact Heap.lt_size e
  have hh1 : A.in1.in1.handled = none := by simp [hh]
  refine call_function_tree PySem.F.kind_min PySem.F.plain_min PySem.F.entry_min (PySem.F.args_min1 _) (?_)
  show wpAny _ A.in1 (Builtin.Builtins.bindParams "min" ["key", "default"] 0 ⟨[], []⟩ >>= fun _ => _) _ _ s
  refine wpAny_bind (wpAny_of_eq (show Builtin.Builtins.bindParams "min" ["key", "default"] 0 ⟨[], []⟩ = pure [none, none] from rfl) (wpAny_bind (wpAny_pure ?_)))
  refine wpAny_bind (wpAny_pyIter_list hl (wpAny_bind (wpAny_newObj_type ?_)))
  have hz : (s.heap.push { cls := .type "list_iterator", data := .fields #[.ref l, .int 0 0] }).objs.size = s.heap.objs.size + 1 := Heap.size_push ..
  have W := Walks.list (prog := pr) (w := w) (A := A.in1) (by simp [hh]) s.heap.objs.size l (Nat.ne_of_lt ll) items
  rw [min_nm]
  refine wpAny_pure ⟨plainId_quiet PySem.F.plain_min_loop _, ?_⟩
  generalize hH : ((s.heap.push { cls := .type "list_iterator", data := .fields #[.ref l, .int 0 0] }).push { cls := .type "list", dict := none, data := .seq #[] 0, slots := #[] }) = hp
  have hk : ∀ b o, s.heap.get? b = some o → hp.get? b = some o := fun b o e => by
    rw [← hH]
    exact Heap.get?_push_of_some _ (Heap.get?_push_of_some _ e)
  have st0 : hp.IsListIter s.heap.objs.size l 0 ∧ hp.IsList l items := by
    rw [← hH]
    refine ⟨?_, (hl.push _).push _⟩
    exact ⟨_, Heap.get?_push_of_some _ (Heap.get?_push_size _ rfl), rfl, rfl⟩
  have hS : hp.get? (s.heap.objs.size + 1) = some { cls := .type "list", dict := none, data := .seq #[] 0, slots := #[] } := by
    rw [← hH, ← hz]
    exact Heap.get?_push_size _ rfl
  rw [hz]
  have zf : s.heap.objs.size + 1 ∉ [s.heap.objs.size, l] := by
    intro q
    rcases List.mem_cons.mp q with q | q
    · exact absurd q (Nat.succ_ne_self _)
    · rcases List.mem_cons.mp q with q | q
      · rw [← q] at ll
        exact absurd ll (Nat.not_lt.mpr (Nat.le_succ _))
      · cases q
  have wf : ∀ b o, s.heap.get? b = some o → b ∉ [s.heap.objs.size] ∧ b ≠ s.heap.objs.size + 1 := fun b o e => by
    have z := Heap.lt_size e
    refine ⟨fun q => ?_, fun q => ?_⟩
    · rcases List.mem_cons.mp q with q | q
      · rw [q] at z
        exact absurd z (Nat.lt_irrefl _)
      · cases q
    · rw [q] at z
      exact absurd z (Nat.not_lt.mpr (Nat.le_succ _))
  refine codeAny_builtin PySem.F.entry_min_loop (?_)
  rw [Around.under_plainId PySem.F.plain_min_loop _]
  show wpAny _ A.in1 (seqItems? (.ref (s.heap.objs.size + 1)) >>= _) _ _ { s with heap := hp }
  refine wpAny_bind (wpAny_seqItems (s := { s with heap := hp }) hS rfl (?_))
  show wpAny _ A.in1 (tryCatch (pyNext (.ref s.heap.objs.size)) _ >>= _) _ _ { s with heap := hp }
  refine wpAny_bind (wpAny_tryCatch (W.item 0 { s with heap := hp } _ _ hne st0 fun v h1 tk pv sg1 kp => ?_))
  have hS1 := kp _ _ (fun q => zf (W.sub _ q)) hS
  show wpAny _ A.in1 (updateSeq (s.heap.objs.size + 1) (fun _ => #[v, v]) >>= _) _ _ _
  refine wpAny_bind (wpAny_updateSeq hS1 rfl ?_)
  rw [min_nm]
  refine wpAny_pure ⟨plainId_quiet PySem.F.plain_min_loop _, least_turns W less (fun h2 => ∀ b o, s.heap.get? b = some o → h2.get? b = some o) (fun h2 h3 g k b o e => k b o (wf b o e).1 (wf b o e).2 (g b o e)) (fun j v u s' Q E j1 p1 p2 g q => cm j v u s' Q E j1 p1 p2 g q) zf _ 0 _ v _ rfl hne
    (W.frame _ _ _ sg1 fun b hb o e => ?_) (fun b o e => ?_) pv (Heap.get?_update_self _ hS1 rfl) fun v' h2 tk2 pv2 k2 => ?_⟩
  · exact (Heap.get?_update_other _ _ (fun q : s.heap.objs.size + 1 = b => zf (by rw [q]; exact hb))).trans e
  · exact (Heap.get?_update_other _ _ (Ne.symm (wf b o e).2)).trans (kp b o (wf b o e).1 (hk b o e))
  · exact h v' h2 tk2 pv2 fun b o e => k2 b o (wf b o e).1 (wf b o e).2 ((Heap.get?_update_other _ _ (Ne.symm (wf b o e).2)).trans (kp b o (wf b o e).1 (hk b o e)))
end
end Wk

/-! The walk layer, part 5: built-in functions. -/
namespace Wk
open PySem PySem.Spec L2
section
variable {X : Cx}
def rB1 (K : PySem.W.Frag) (f : B1) : List V → Hp → VK → Prop := fun xs H Q => ∃ F x d r, xs = [x] ∧ SubH F H ∧ Pk K F H x d ∧ b1D f d = some r ∧ Res K F H Q r
theorem rd_sq {K : PySem.W.Frag} {H : Hp} {a : Addr} {xs : List V} (h : Lx K H a xs) : SqL K H a xs := lx_sq h
theorem maxL_spec : ∀ {ns : List Int} {k : Int}, maxL ns = some k → k ∈ ns ∧ ∀ y ∈ ns, y ≤ k
  | [], k, e => by simp [maxL] at e
  | [a], k, e => by
    simp only [maxL, Option.some.injEq] at e
    subst e
    simp
  | a :: b :: r, k, e => by
    simp only [maxL] at e
    obtain ⟨q, q1, q2⟩ := Option.map_eq_some_iff.mp e
    obtain ⟨i1, i2⟩ := maxL_spec (ns := b :: r) q1
    by_cases hq : q ≤ a
    · rw [if_pos hq] at q2
      subst q2
      exact ⟨List.mem_cons_self, fun y hy => (List.mem_cons.mp hy).elim (fun z => by omega) fun z => by have := i2 y z; omega⟩
    · rw [if_neg hq] at q2
      subst q2
      exact ⟨List.mem_cons_of_mem _ i1, fun y hy => (List.mem_cons.mp hy).elim (fun z => by omega) fun z => i2 y z⟩
theorem minL_spec : ∀ {ns : List Int} {k : Int}, minL ns = some k → k ∈ ns ∧ ∀ y ∈ ns, k ≤ y
  | [], k, e => by simp [minL] at e
  | [a], k, e => by
    simp only [minL, Option.some.injEq] at e
    subst e
    simp
  | a :: b :: r, k, e => by
    simp only [minL] at e
    obtain ⟨q, q1, q2⟩ := Option.map_eq_some_iff.mp e
    obtain ⟨i1, i2⟩ := minL_spec (ns := b :: r) q1
    by_cases hq : a ≤ q
    · rw [if_pos hq] at q2
      subst q2
      exact ⟨List.mem_cons_self, fun y hy => (List.mem_cons.mp hy).elim (fun z => by omega) fun z => by have := i2 y z; omega⟩
    · rw [if_neg hq] at q2
      subst q2
      exact ⟨List.mem_cons_of_mem _ i1, fun y hy => (List.mem_cons.mp hy).elim (fun z => by omega) fun z => i2 y z⟩
theorem maxL_ok {ns : List Int} {m m' : Int} (e : maxL ns = some m) (h1 : m' ∈ ns) (h2 : ∀ y ∈ ns, y ≤ m') : m' = m := by
  obtain ⟨k1, k2⟩ := maxL_spec e
  have := k2 m' h1
  have := h2 m k1
  omega
theorem minL_ok {ns : List Int} {m m' : Int} (e : minL ns = some m) (h1 : m' ∈ ns) (h2 : ∀ y ∈ ns, m' ≤ y) : m' = m := by
  obtain ⟨k1, k2⟩ := minL_spec e
  have := k2 m' h1
  have := h2 m k1
  omega
theorem insI_perm (a : Int) : ∀ l : List Int, (insI a l).Perm (a :: l)
  | [] => .refl _
  | b :: r => by
    unfold insI
    split
    · exact .refl _
    · exact ((insI_perm a r).cons b).trans (List.Perm.swap a b r)
theorem sortI_perm : ∀ l : List Int, (sortI l).Perm l
  | [] => .refl _
  | a :: r => (insI_perm a _).trans ((sortI_perm r).cons a)
theorem insI_sorted (a : Int) : ∀ {l : List Int}, l.Pairwise (· ≤ ·) → (insI a l).Pairwise (· ≤ ·)
  | [], _ => by simp [insI]
  | b :: r, h => by
    obtain ⟨h1, h2⟩ := List.pairwise_cons.mp h
    unfold insI
    split
    · refine List.pairwise_cons.mpr ⟨fun y hy => ?_, h⟩
      rcases List.mem_cons.mp hy with z | z
      · omega
      · have := h1 y z
        omega
    · refine List.pairwise_cons.mpr ⟨fun y hy => ?_, insI_sorted a h2⟩
      rcases List.mem_cons.mp ((insI_perm a r).mem_iff.mp hy) with z | z
      · omega
      · exact h1 y z
theorem sortI_sorted : ∀ l : List Int, (sortI l).Pairwise (· ≤ ·)
  | [] => by simp [sortI]
  | a :: r => insI_sorted a (sortI_sorted r)
theorem sorted_uniq : ∀ {l m : List Int}, l.Perm m → l.Pairwise (· ≤ ·) → m.Pairwise (· ≤ ·) → l = m
  | [], m, p, _, _ => (List.nil_perm.mp p).symm
  | a :: l, [], p, _, _ => by
    have := p.length_eq
    simp at this
  | a :: l, b :: m, p, h1, h2 => by
    obtain ⟨a1, a2⟩ := List.pairwise_cons.mp h1
    obtain ⟨b1, b2⟩ := List.pairwise_cons.mp h2
    have hab : a = b := by
      have q1 : a ∈ b :: m := p.mem_iff.mp List.mem_cons_self
      have q2 : b ∈ a :: l := p.mem_iff.mpr List.mem_cons_self
      rcases List.mem_cons.mp q1 with z | z
      · exact z
      · rcases List.mem_cons.mp q2 with y | y
        · exact y.symm
        · have c1 := b1 a z
          have c2 := a1 b y
          omega
    subst hab
    rw [sorted_uniq (List.Perm.cons_inv p) a2 b2]
theorem intsD_ofInts : ∀ (ns : List Int), intsD (ns.map PyData.int) = some ns
  | [] => rfl
  | n :: ns => by simp [intsD, intsD_ofInts ns]
theorem b1_len : CallR X (.builtin "len") (rB1 X.K .len) := by
  intro pins s σ H xs us Q I r h
  obtain ⟨F, x, d, o, rfl, s0, p, e, q⟩ := h
  cases p <;> try (simp [b1D] at e; done)
  · obtain ⟨g, e⟩ := guardO_some e
    subst e
    exact call_len_str pins s σ H _ us Q I r ⟨_, rfl, fits_le g, q.v (.int _)⟩
  · rename_i a ws ds h1 h2
    cases e
    exact call_len_seq pins s σ H _ us Q I r ⟨a, ws, rfl, .inl (lx_sq h1), by rw [dqAll_len h2]; exact q.v (.int _)⟩
  · rename_i a ws ds h1 h2
    cases e
    exact call_len_seq pins s σ H _ us Q I r ⟨a, ws, rfl, .inr (sqT_mono s0 h1), by rw [dqAll_len h2]; exact q.v (.int _)⟩
theorem b1_int : CallR X (.type "int") (rB1 X.K .int) := by
  intro pins s σ H xs us Q I r h
  obtain ⟨F, x, d, o, rfl, s0, p, e, q⟩ := h
  cases p <;> try (simp [b1D] at e; done)
  · cases e
    exact call_int1 pins s σ H _ us Q I r (.inr ⟨_, rfl, q.v (.int _)⟩)
  · cases e
    exact call_int1 pins s σ H _ us Q I r (.inl ⟨_, rfl, q.v (.int _)⟩)
theorem b1_abs : CallR X (.builtin "abs") (rB1 X.K .abs) := by
  intro pins s σ H xs us Q I r h
  obtain ⟨F, x, d, o, rfl, s0, p, e, q⟩ := h
  cases p <;> try (simp [b1D] at e; done)
  cases e
  exact call_abs pins s σ H _ us Q I r ⟨_, rfl, q.v (.int _)⟩
/-- less, by place -/
def lessAt (ds : List D) (i j : Nat) : Bool := W.dataLt (ds.getD i .none) (ds.getD j .none)
theorem minD_best (ds : List D) {d : D} : ∀ (r : List D) (k : Nat), ds.drop (k + 1) = r → k + 1 ≤ ds.length → minD (ds.getD (argBest (lessAt ds) k) .none) r = some d →
    (∀ j, k ≤ j → j + 1 < ds.length → lessOk (ds.getD (j + 1) .none) (ds.getD (argBest (lessAt ds) j) .none) = true) ∧ d = ds.getD (argBest (lessAt ds) (ds.length - 1)) .none
  | [], k, hr, hk, e => by
    have : ds.length ≤ k + 1 := by
      have := congrArg List.length hr
      simp at this
      omega
    have hk2 : ds.length - 1 = k := by omega
    cases e
    rw [hk2]
    exact ⟨fun j h1 h2 => by omega, rfl⟩
  | x :: r, k, hr, hk, e => by
    have hlt : k + 1 < ds.length := by
      have := congrArg List.length hr
      simp at this
      omega
    rw [List.drop_eq_getElem_cons hlt] at hr
    injection hr with h1 h2
    have hx : ds.getD (k + 1) .none = x := by
      rw [List.getD_eq_getElem?_getD, List.getElem?_eq_getElem hlt]
      exact h1
    unfold minD at e
    split at e
    · rename_i ok
      have e' : minD (ds.getD (argBest (lessAt ds) (k + 1)) .none) r = some d := by
        rw [← e]
        congr 1
        have z : ∀ i, lessAt ds (k + 1) i = W.dataLt x (ds.getD i .none) := fun i => by
          show W.dataLt (ds.getD (k + 1) .none) (ds.getD i .none) = _
          rw [hx]
        have y : argBest (lessAt ds) (k + 1) = if lessAt ds (k + 1) (argBest (lessAt ds) k) = true then k + 1 else argBest (lessAt ds) k := rfl
        rw [y, z]
        split
        · exact hx
        · rfl
      obtain ⟨i1, i2⟩ := minD_best ds r (k + 1) h2 hlt e'
      refine ⟨fun j a b => ?_, i2⟩
      by_cases q : j = k
      · subst q
        rw [hx]
        exact ok
      · exact i1 j (by omega) b
    · cases e
theorem b1_max (hc : X.calm = true) : CallR X (.builtin "max") (rB1 X.K .max) := by
  intro pins s σ H xs us Q I r h
  obtain ⟨F, x, d, o, rfl, s0, p, e, q⟩ := h
  cases p <;> try (simp [b1D] at e; done)
  rename_i a ws ds h1 h2
  obtain ⟨m, e1, e2⟩ := Option.map_eq_some_iff.mp e
  subst e2
  obtain ⟨ns, e3, e4⟩ := Option.bind_eq_some_iff.mp e1
  have ew := dqAll_ints h2 e3
  subst ew
  refine cr_max hc pins s σ H _ us Q I r ⟨a, ns, rfl, lx_sq h1, ?_, fun m' w1 w2 => ?_⟩
  · cases ns with
    | nil => simp [maxL] at e4
    | cons b c => simp
  · rw [maxL_ok e4 w1 w2]
    exact q.v (.int _)
theorem b1_min (hc : X.calm = true) (hu : X.A.units + 64 < cLine) : CallR X (.builtin "min") (rB1 X.K .min) := by
  intro pins s σ H xs us Q I r h
  obtain ⟨F, x, d, o, rfl, s0, p, e, q⟩ := h
  cases p <;> try (simp [b1D] at e; done)
  rename_i a ws ds h1 h2
  have e : minV ds = some o := e
  unfold minV at e
  split at e
  · rename_i m e1
    cases e
    obtain ⟨ns, e3, e4⟩ := Option.bind_eq_some_iff.mp e1
    have ew := dqAll_ints h2 e3
    subst ew
    refine cr_min hc pins s σ H _ us Q I r ⟨a, ns, rfl, lx_sq h1, ?_, fun m' w1 w2 => ?_⟩
    · cases ns with
      | nil => simp [minL] at e4
      | cons b c => simp
    · rw [minL_ok e4 w1 w2]
      exact q.v (.int _)
  · cases ds with
    | nil => cases e
    | cons d0 dr =>
      obtain ⟨d, e1, e2⟩ := Option.map_eq_some_iff.mp e
      subst e2
      obtain ⟨its, rv, hl, _⟩ := I.list (lx_sq h1)
      rw [Vals.ref1 r]
      obtain ⟨g1, g2⟩ := minD_best (d0 :: dr) dr 0 rfl (by simp) e1
      have lw := dqAll_len h2
      have li := rv.length
      have at_ : ∀ (i : Nat) (v : Value), its.toArray[i]? = some v → ∃ (v' : V) (d' : D), ws[i]? = some v' ∧ RelV v' v ∧ (d0 :: dr)[i]? = some d' ∧ Dq X.K F v' d' := fun i v hv => by
        have hv : its[i]? = some v := by simpa using hv
        have hi : i < its.length := (List.getElem?_eq_some_iff.mp hv).1
        obtain ⟨d', hd, hq⟩ := dqAll_get' h2 (List.getElem?_eq_getElem (show i < ws.length by omega))
        obtain ⟨u, hu1, hu2⟩ := rv.get (List.getElem?_eq_getElem (show i < ws.length by omega))
        rw [hv] at hu1
        cases hu1
        exact ⟨_, d', List.getElem?_eq_getElem _, hu2, hd, hq⟩
      have gD : ∀ (i : Nat) (d' : D), (d0 :: dr)[i]? = some d' → (d0 :: dr).getD i .none = d' := fun i d' h => by
        rw [List.getD_eq_getElem?_getD, h]
        rfl
      refine call_least (lessAt (d0 :: dr)) (I.ok.hd hc) hl.isList ?_ ?_ ?_
      · rw [List.size_toArray, ← li, lw]
        simp
      · intro j v u s' Q' E' hj p1 p2 kp hQ
        obtain ⟨v1, d1, _, r1, w1, q1⟩ := at_ _ _ p1
        obtain ⟨v2, d2, _, r2, w2, q2⟩ := at_ _ _ p2
        have hj' : j + 1 < (d0 :: dr).length := by
          rw [List.size_toArray, ← li, lw] at hj
          exact hj
        have ok := g1 j (Nat.zero_le _) hj'
        rw [gD _ _ w1, gD _ _ w2] at ok
        have I' : Inv X pins σ H { s with heap := s'.heap, toks := s.toks } := I.kept kp
        obtain ⟨as, a1⟩ := Dp.reads I' d1 v1 v (dq_dp d1 v1 (dq_mono s0 d1 v1 q1)) r1
        obtain ⟨bs, a2⟩ := Dp.reads I' d2 v2 u (dq_dp d2 v2 (dq_mono s0 d2 v2 q2)) r2
        obtain ⟨ok1, ok2⟩ := Bool.and_eq_true_iff.mp ok
        obtain ⟨ok2, ok3⟩ := Bool.and_eq_true_iff.mp ok2
        have dp := of_decide_eq_true ok2
        refine W.rcLt_alike d1 d2 X.A.in1 s' v u as bs a1 a2 ok1 ?_ ?_ X.prog X.w E' Q' ?_
        · rintro rfl
          cases ok3
        · have : X.A.in1.units = X.A.units + 1 := rfl
          have := Nat.min_le_left d1.depth d2.depth
          omega
        · have z : lessAt (d0 :: dr) (j + 1) (argBest (lessAt (d0 :: dr)) j) = W.dataLt d1 d2 := by
            unfold lessAt
            rw [gD _ _ w1]
            congr 1
            exact gD _ _ w2
          rw [← z]
          exact hQ
      · intro v h' tk hv kp
        obtain ⟨v1, d1, _, r1, w1, q1⟩ := at_ _ _ hv
        rw [List.size_toArray, ← li, lw] at w1
        rw [← gD _ _ w1] at q1
        have g2 : d = (d0 :: dr).getD (argBest (lessAt (d0 :: dr)) ((d0 :: dr).length - 1)) .none := g2
        rw [← g2] at q1
        exact ⟨v1, H, I.kept kp, r1, q.v q1⟩
theorem b1_sum (hc : X.calm = true) : CallR X (.builtin "sum") (rB1 X.K .sum) := by
  intro pins s σ H xs us Q I r h
  obtain ⟨F, x, d, o, rfl, s0, p, e, q⟩ := h
  cases p <;> try (simp [b1D] at e; done)
  rename_i a ws ds h1 h2
  obtain ⟨ns, e1, e2⟩ := Option.map_eq_some_iff.mp e
  subst e2
  have ew := dqAll_ints h2 e1
  subst ew
  exact cr_sum hc pins s σ H _ us Q I r ⟨a, ns, rfl, lx_sq h1, q.v (.int _)⟩
theorem b1_all (hc : X.calm = true) : CallR X (.builtin "all") (rB1 X.K .all) := by
  intro pins s σ H xs us Q I r h
  obtain ⟨F, x, d, o, rfl, s0, p, e, q⟩ := h
  cases p <;> try (simp [b1D] at e; done)
  rename_i a ws ds h1 h2
  obtain ⟨ns, e1, e2⟩ := Option.map_eq_some_iff.mp e
  subst e2
  have ew := dqAll_bools h2 e1
  subst ew
  exact cr_all hc pins s σ H _ us Q I r ⟨a, ns, rfl, lx_sq h1, q.v (.bl _)⟩
theorem b1_any (hc : X.calm = true) : CallR X (.builtin "any") (rB1 X.K .any) := by
  intro pins s σ H xs us Q I r h
  obtain ⟨F, x, d, o, rfl, s0, p, e, q⟩ := h
  cases p <;> try (simp [b1D] at e; done)
  rename_i a ws ds h1 h2
  obtain ⟨ns, e1, e2⟩ := Option.map_eq_some_iff.mp e
  subst e2
  have ew := dqAll_bools h2 e1
  subst ew
  exact cr_any hc pins s σ H _ us Q I r ⟨a, ns, rfl, lx_sq h1, q.v (.bl _)⟩
theorem b1_sorted : CallR X (.builtin "sorted") (rB1 X.K .sorted) := by
  intro pins s σ H xs us Q I r h
  obtain ⟨F, x, d, o, rfl, s0, p, e, q⟩ := h
  cases p <;> try (simp [b1D] at e; done)
  rename_i a ws ds h1 h2
  obtain ⟨ns, e1, e2⟩ := Option.map_eq_some_iff.mp e
  subst e2
  have ew := dqAll_ints h2 e1
  subst ew
  refine cr_sortedI pins s σ H _ us Q I r ⟨a, ns, rfl, lx_sq h1, fun ns' p w1 w2 w3 => ?_⟩
  have : ns' = sortI ns := sorted_uniq (w1.trans (sortI_perm ns).symm) w2 (sortI_sorted ns)
  subst this
  exact q p _ w3 (dqAll_ofInts _)
theorem b1_tuple : CallR X (.type "tuple") (rB1 X.K .tuple) := by
  intro pins s σ H xs us Q I r h
  obtain ⟨F, x, d, o, rfl, s0, p, e, q⟩ := h
  cases p <;> try (simp [b1D] at e; done)
  · rename_i a ws ds h1 h2
    cases e
    exact call_tuple_of pins s σ H _ us Q I r ⟨a, ws, rfl, .inl ⟨lx_sq h1, fun l hl => q.n hl (dq_newTup s0 hl h2)⟩⟩
  · rename_i a ws ds h1 h2
    cases e
    exact call_tuple_of pins s σ H _ us Q I r ⟨a, ws, rfl, .inr ⟨sqT_mono s0 h1, q.v (.tup h1 h2)⟩⟩
theorem b1_list : CallR X (.type "list") (rB1 X.K .list) := by
  intro pins s σ H xs us Q I r h
  obtain ⟨F, x, d, o, rfl, s0, p, e, q⟩ := h
  cases p <;> try (simp [b1D] at e; done)
  · rename_i a ws ds h1 h2
    cases e
    exact call_list_of pins s σ H _ us Q I r ⟨a, ws, rfl, .inl (lx_sq h1), fun l hl => q l _ hl h2⟩
  · rename_i a ws ds h1 h2
    cases e
    exact call_list_of pins s σ H _ us Q I r ⟨a, ws, rfl, .inr (sqT_mono s0 h1), fun l hl => q l _ hl h2⟩
theorem b1_str : CallR X (.type "str") (rB1 X.K .str) := by
  intro pins s σ H xs us Q I r h
  obtain ⟨F, x, d, o, rfl, s0, p, e, q⟩ := h
  cases p <;> try (simp [b1D] at e; done)
  obtain ⟨g, e⟩ := guardO_some e
  subst e
  exact call_str_int pins s σ H _ us Q I r ⟨_, rfl, of_decide_eq_true g, q.v (.str _)⟩
def rB2 (K : PySem.W.Frag) (f : B2) : List V → Hp → VK → Prop := fun xs H Q => ∃ F x y d e r, xs = [x, y] ∧ SubH F H ∧ Pk K F H x d ∧ Pk K F H y e ∧ b2D f d e = some r ∧ ∀ v, Dq K F v r → Q v H
theorem b2_max (hc : X.calm = true) : CallR X (.builtin "max") (rB2 X.K .max) := by
  intro pins s σ H xs us Q I r h
  obtain ⟨F, x, y, d, d', o, rfl, s0, p1, p2, e, q⟩ := h
  cases p1 <;> cases p2 <;> try (simp [b2D] at e; done)
  cases e
  exact call_max2 hc pins s σ H _ us Q I r ⟨_, _, rfl, q _ (.int _)⟩
theorem b2_min (hc : X.calm = true) : CallR X (.builtin "min") (rB2 X.K .min) := by
  intro pins s σ H xs us Q I r h
  obtain ⟨F, x, y, d, d', o, rfl, s0, p1, p2, e, q⟩ := h
  cases p1 <;> cases p2 <;> try (simp [b2D] at e; done)
  cases e
  exact call_min2 hc pins s σ H _ us Q I r ⟨_, _, rfl, q _ (.int _)⟩
theorem b2_gcd : CallR X (.builtin "math.gcd") (rB2 X.K .gcd) := by
  intro pins s σ H xs us Q I r h
  obtain ⟨F, x, y, d, d', o, rfl, s0, p1, p2, e, q⟩ := h
  cases p1 <;> cases p2 <;> try (simp [b2D] at e; done)
  cases e
  exact cr_gcd pins s σ H _ us Q I r ⟨_, _, rfl, q _ (.int _)⟩

/-! ### isinstance -/
def Ty.nm : Ty → String
  | .int => "int" | .bool => "bool" | .str => "str" | .tuple => "tuple" | .list => "list"
def tyD : D → String
  | .none => "NoneType" | .bool _ => "bool" | .int _ => "int" | .str _ => "str" | .list _ => "list" | .tuple _ => "tuple" | .dict _ => "dict"
theorem kt_none : ∀ t : Ty, kitB "NoneType" t.nm = some false := fun t => by cases t <;> decide +kernel
theorem kt_bool : ∀ t : Ty, kitB "bool" t.nm = some (decide (t = .int) || decide (t = .bool)) := fun t => by cases t <;> decide +kernel
theorem kt_int : ∀ t : Ty, kitB "int" t.nm = some (decide (t = .int)) := fun t => by cases t <;> decide +kernel
theorem kt_str : ∀ t : Ty, kitB "str" t.nm = some (decide (t = .str)) := fun t => by cases t <;> decide +kernel
theorem kt_list : ∀ t : Ty, kitB "list" t.nm = some (decide (t = .list)) := fun t => by cases t <;> decide +kernel
theorem kt_tuple : ∀ t : Ty, kitB "tuple" t.nm = some (decide (t = .tuple)) := fun t => by cases t <;> decide +kernel
theorem kit_isi {K : PySem.W.Frag} {d : D} {t : Ty} {b : Bool} (e : isiD d t = some b) : PySem.W.kitOne K (.type (tyD d)) (.type t.nm) = some b := by
  refine kit_ty ?_
  cases d with
  | none => exact (kt_none t).trans (by rw [← e]; cases t <;> rfl)
  | bool x => exact (kt_bool t).trans (by rw [← e]; cases t <;> rfl)
  | int x => exact (kt_int t).trans (by rw [← e]; cases t <;> rfl)
  | str x => exact (kt_str t).trans (by rw [← e]; cases t <;> rfl)
  | list x => exact (kt_list t).trans (by rw [← e]; cases t <;> rfl)
  | tuple x => exact (kt_tuple t).trans (by rw [← e]; cases t <;> rfl)
  | dict x => cases t <;> cases e
theorem tyX_of {F H : Hp} {x : V} {d : D} (s0 : SubH F H) (p : Pk X.K F H x d) : TyX X.K H x (.type (tyD d)) := by
  cases p with
  | non => exact .base .non
  | bl b => exact .base (.bl b)
  | int b => exact .base (.int b)
  | str b => exact .base (.str b)
  | lst h1 h2 =>
    rcases h1 with (h1 | ⟨o, h1⟩) | ⟨its, n, h1, _⟩
    · exact .base (.lst h1)
    · exact .base (.frz h1)
    · exact .kList h1 rfl
  | tup h1 h2 =>
    rcases sqT_mono s0 h1 with (h | ⟨o, h⟩) | ⟨o, its, n, h, hc, _⟩
    · exact .base (.tup h)
    · exact .fTuple h
    · exact .kTuple h hc
def rIsiW (K : PySem.W.Frag) (t : Ty) : List V → Hp → VK → Prop := fun xs H Q => ∃ F x d b, xs = [x, .ty t.nm] ∧ SubH F H ∧ Pk K F H x d ∧ isiD d t = some b ∧ Q (.bl b) H
theorem b_isi (t : Ty) : CallR X (.builtin "isinstance") (rIsiW X.K t) := by
  intro pins s σ H xs us Q I r h
  obtain ⟨F, x, d, b, rfl, s0, p, e, q⟩ := h
  exact call_isi pins s σ H _ us Q I r ⟨x, .ty t.nm, .type (tyD d), .type t.nm, b, rfl, .ty _, tyX_of s0 p, kit_isi e, q⟩
end
end Wk

/-! The walk layer, part 6: readings by the evaluator; expressions. -/
namespace Wk
open PySem PySem.Spec L2
/-- what is fixed through a body: the written part, the heap at its entry, the wish about exceptions, the exceptions' classes -/
structure Par where
  K : PySem.W.Frag
  H0 : Hp
  W : WX
  xc : Nat → Value
section
variable {α β γ δ : Type} (p : Par)
abbrev Stp (p : Par) := Step p.K p.H0
/-- what a result is to bring -/
def PX (σ : St) (F H : Hp) (ρ : Fm) (r : R α) (fin : α → Fm → Prop) : Prop := match r with
  | .ok a ρ' => fin a ρ'
  | .exc c ρ' => ∀ F' H', Stp p σ F H ρ σ F' H' ρ' → p.W (p.xc c) none σ H'
  | .no => False
abbrev Post (Rel : Hp → Hp → Fm → β → α → Prop) (σ : St) (F H : Hp) (ρ : Fm) (r : R α) (Q : β → Hp → Prop) : Prop := PX p σ F H ρ r fun a ρ' => ∀ F' H' b, Stp p σ F H ρ σ F' H' ρ' → Rel F' H' ρ' b a → Q b H'
def RelE (σ : St) (H : Hp) : Hp → Hp → Fm → V → RV → Prop := fun F' H' ρ' v r => RvOk p.K p.H0 H F' σ H' ρ' v r
def RelT (σ : St) (H : Hp) : Hp → Hp → Fm → Bool → Bool → Prop := fun _ _ _ b a => b = a
def RelD (σ : St) (H : Hp) : Hp → Hp → Fm → List V → List D → Prop := fun F' _ _ vs ds => DqAll p.K F' vs ds
def tG (Rel : St → Hp → Hp → Hp → Fm → β → α → Prop) (f : Fm → R α) (σ : St) (H : Hp) (Q : β → Hp → Prop) : Prop := ∃ F ρ, EnvOk p.K p.H0 F σ H ρ ∧ Post p (Rel σ H) σ F H ρ (f ρ) Q
abbrev tE (f : Fm → R RV) : TE := tG p (RelE p) f
abbrev tT (f : Fm → R Bool) : TT := tG p RelT f
abbrev tD (f : Fm → R (List D)) : TA := tG p (RelD p) f
variable {p}
theorem tG_seq {Rel1 : St → Hp → Hp → Hp → Fm → β → α → Prop} {f : Fm → R α} {k : α → Fm → R γ} {σ : St} {F H F1 H1 : Hp} {ρ ρ1 : Fm} {fin : γ → Fm → Prop} {G : β → Hp → Prop}
    (st : Stp p σ F H ρ σ F1 H1 ρ1) (h : PX p σ F H ρ ((f ρ1).bind k) fin)
    (g : ∀ F2 H2 ρ2 a b, Stp p σ F1 H1 ρ1 σ F2 H2 ρ2 → Stp p σ F H ρ σ F2 H2 ρ2 → Rel1 σ H1 F2 H2 ρ2 b a → PX p σ F H ρ (k a ρ2) fin → G b H2) : tG p Rel1 f σ H1 G := by
  refine ⟨F1, ρ1, st.env, ?_⟩
  cases e : f ρ1 with
  | ok a ρ2 =>
    rw [e] at h
    intro F2 H2 b s1 r
    exact g F2 H2 ρ2 a b s1 (st.trans s1) r h
  | exc c ρ2 =>
    rw [e] at h
    intro F2 H2 s1
    exact h F2 H2 (st.trans s1)
  | no =>
    rw [e] at h
    exact h
/-- the last one -/
theorem tG_last {Rel1 : St → Hp → Hp → Hp → Fm → β → α → Prop} {f : Fm → R α} {σ : St} {F H F1 H1 : Hp} {ρ ρ1 : Fm} {Q : β → Hp → Prop}
    (st : Stp p σ F H ρ σ F1 H1 ρ1) (h : Post p (Rel1 σ H) σ F H ρ (f ρ1) Q)
    (old : ∀ F2 H2 ρ2 b a, Rel1 σ H1 F2 H2 ρ2 b a → Rel1 σ H F2 H2 ρ2 b a) : tG p Rel1 f σ H1 Q := by
  refine ⟨F1, ρ1, st.env, ?_⟩
  cases e : f ρ1 with
  | ok a ρ2 =>
    rw [e] at h
    intro F2 H2 b s1 r
    exact h F2 H2 b (st.trans s1) (old _ _ _ _ _ r)
  | exc c ρ2 =>
    rw [e] at h
    intro F2 H2 s1
    exact h F2 H2 (st.trans s1)
  | no =>
    rw [e] at h
    exact h
theorem relE_old {σ : St} {H H1 F2 H2 : Hp} {ρ2 : Fm} {b : V} {a : RV} (d : ∀ a, H1 a = none → H a = none) (h : RelE p σ H1 F2 H2 ρ2 b a) : RelE p σ H F2 H2 ρ2 b a := RvOk.old h d
theorem post_lift {σ : St} {F H : Hp} {ρ ρ1 : Fm} {o : Option α} {fin : α → Fm → Prop} (h : PX p σ F H ρ (lift o ρ1) fin) : ∃ a, o = some a ∧ PX p σ F H ρ (.ok a ρ1) fin := by
  cases o with
  | none => exact h.elim
  | some a => exact ⟨a, rfl, h⟩
theorem post_lift_bind {σ : St} {F H : Hp} {ρ ρ1 : Fm} {o : Option γ} {k : γ → Fm → R α} {fin : α → Fm → Prop} (h : PX p σ F H ρ ((lift o ρ1).bind k) fin) : ∃ a, o = some a ∧ PX p σ F H ρ (k a ρ1) fin := by
  cases o with
  | none => exact h.elim
  | some a => exact ⟨a, rfl, h⟩
theorem bind_some {a : Option α} {k : α → Option β} {b : β} (h : a.bind k = some b) : ∃ x, a = some x ∧ k x = some b := Option.bind_eq_some_iff.mp h
theorem map_some {a : Option α} {k : α → β} {b : β} (h : a.map k = some b) : ∃ x, a = some x ∧ k x = b := Option.map_eq_some_iff.mp h
theorem res_of {σ : St} {F H F1 H1 : Hp} {ρ ρ1 : Fm} {r : RV} {Q : VK} (s : Stp p σ F H ρ σ F1 H1 ρ1) (h : Post p (RelE p σ H) σ F H ρ (.ok r ρ1) Q) : Res p.K F1 H1 Q r := by
  cases r with
  | val d => exact ⟨fun v hv => h F1 H1 v s hv, fun q o v hq hv => h _ _ v (s.newF hq) hv⟩
  | tmp ds => exact fun q vs hq hv => h _ _ _ (s.new hq) (tmp_new s hq hv)
  | sl i => trivial
theorem val_of {σ : St} {F H F1 H1 : Hp} {ρ ρ1 : Fm} {d : D} {Q : VK} {v : V} (s : Stp p σ F H ρ σ F1 H1 ρ1) (h : Post p (RelE p σ H) σ F H ρ (.ok (.val d) ρ1) Q) (hv : Dq p.K F1 v d) : Q v H1 := h F1 H1 v s hv
end
theorem PE.weaken {X : Cx} {e : Expr} {t t' : TE} (h : PE X e t) (w : ∀ σ H Q, t' σ H Q → t σ H Q) : PE X e t' := ⟨fun pins s σ H Q I q => h.run pins s σ H Q I (w σ H Q q)⟩
theorem PT.weaken {X : Cx} {e : Expr} {t t' : TT} (h : PT X e t) (w : ∀ σ H Q, t' σ H Q → t σ H Q) : PT X e t' := ⟨fun pins s σ H Q I q => h.run pins s σ H Q I (w σ H Q q)⟩
theorem PW.weaken {X : Cx} {e : Expr} {t t' : TT} (h : PW X e t) (w : ∀ σ H Q, t' σ H Q → t σ H Q) : PW X e t' := ⟨fun wh pins s σ H Q I q => h.run wh pins s σ H Q I (w σ H Q q)⟩
theorem PA.weaken {X : Cx} {e : List Expr} {t t' : TA} (h : PA X e t) (w : ∀ σ H Q, t' σ H Q → t σ H Q) : PA X e t' := ⟨fun pos pins s σ H Q I q => h.run pos pins s σ H Q I (w σ H Q q)⟩
section
variable {X : Cx} {p : Par} {a b c : Expr} {fa fb fc : Fm → R RV} {ft : Fm → R Bool} {pos : Pos} {hK : p.K = X.K}
def fVar (i : Nat) : Fm → R RV := fun ρ => match ρ[i]? with
  | some (.val d) => .ok (.val d) ρ
  | some (.own _ _) => .ok (.sl i) ρ
  | _ => .no
theorem e_var {i : Nat} {x : Str} (hN : X.N[i]? = some x) (hv : Vis X.env.scope x) (hd : (x == ("__debug__" : Str)) = false) (hcd : (x == ("__classdict__" : Str)) = false) : PE X (.Name x pos) (tE p (fVar i)) :=
  PE.weaken (pe_var hN hv hd hcd) fun σ H Q h => by
    obtain ⟨F, ρ, e, h⟩ := h
    unfold fVar at h
    split at h
    · rename_i d hd
      obtain ⟨v, h1, h2⟩ := e.val i d hd
      exact ⟨v, h1, h F H v (.refl e) h2⟩
    · rename_i xs k hd
      obtain ⟨a, vs, h1, _⟩ := e.own i xs k hd
      exact ⟨.ref a, h1, h F H _ (.refl e) h1⟩
    · exact h.elim
def fC (d : D) : Fm → R RV := fun ρ => .ok (.val d) ρ
theorem tC_of {d : D} {v : V} (hv : ∀ F, Dq p.K F v d) : ∀ σ H Q, tE p (fC d) σ H Q → tC v σ H Q := fun σ H Q h => by
  obtain ⟨F, ρ, e, h⟩ := h
  exact h F H v (.refl e) (hv F)
theorem e_int {i : Int} {j : Nat} : PE X (.Constant (.int i) j pos) (tE p (fC (.int i))) := PE.weaken pe_int (tC_of fun _ => .int i)
theorem e_bl {i : Bool} {j : Nat} : PE X (.Constant (.bool i) j pos) (tE p (fC (.bool i))) := PE.weaken pe_bl (tC_of fun _ => .bl i)
theorem e_non {j : Nat} : PE X (.Constant .none j pos) (tE p (fC .none)) := PE.weaken pe_non (tC_of fun _ => .non)
theorem e_str {x : Str} {j : Nat} : PE X (.Constant (.str x) j pos) (tE p (fC (.str x))) := PE.weaken pe_str (tC_of fun _ => .str x)
theorem e_gint {x : Str} {i : Int} {t : Tok} (hg : Gl X x) (hm : X.mg x = some (.int i t)) (hd : (x == ("__debug__" : Str)) = false) : PE X (.Name x pos) (tE p (fC (.int i))) := PE.weaken (pe_glob hg hm (v := .int i) ⟨t, rfl⟩ hd) (tC_of fun _ => .int i)
include hK
theorem e_gtup {x : Str} {a : Addr} {is : List Int} (hg : Gl X x) (hm : X.mg x = some (.ref a)) (hs : ∀ H, SqT X.K H a (is.map V.int)) (hd : (x == ("__debug__" : Str)) = false) : PE X (.Name x pos) (tE p (fC (.tuple (is.map .int)))) :=
  PE.weaken (pe_glob hg hm (v := .ref a) rfl hd) (tC_of fun F => by
    have q := hs F
    rw [← hK] at q
    exact .tup q (dqAll_ofInts is))
theorem e_bin (o : BOp) (ha : PE X a (tE p fa)) (hb : PE X b (tE p fb)) : PE X (.BinOp a o.op b pos) (tE p fun ρ => (fa ρ).bind fun r1 ρ1 => (fb ρ1).bind fun r2 ρ2 => lift ((peek r1 ρ2).bind fun d1 => (peek r2 ρ2).bind fun d2 => binD o d1 d2) ρ2) :=
  PE.weaken (pe_op (op_bin o) ha hb) fun σ H Q h => by
    obtain ⟨F, ρ, e, h⟩ := h
    refine tG_seq (.refl e) h fun F1 H1 ρ1 r1 x _ s1 v1 h => ?_
    refine tG_seq s1 h fun F2 H2 ρ2 r2 y s12 s2 v2 h => ?_
    obtain ⟨r, er, h⟩ := post_lift h
    obtain ⟨d1, e1, er⟩ := bind_some er
    obtain ⟨d2, e2, er⟩ := bind_some er
    have q := res_of s2 h
    have k1 := peek_ok s2.env (RvOk.step v1 s12) e1
    have k2 := peek_ok s2.env v2 e2
    rw [hK] at q k1 k2
    exact ⟨F2, d1, d2, r, s2.env.sub, k1, k2, er, q⟩
theorem e_neg (ha : PE X a (tE p fa)) : PE X (.UnaryOp .USub a pos) (tE p fun ρ => (fa ρ).bind fun r1 ρ1 => pk r1 ρ1 fun d => (asInt d).map fun i => .val (.int (-i))) :=
  PE.weaken (pe_un un_neg ha) fun σ H Q h => by
    obtain ⟨F, ρ, e, h⟩ := h
    refine tG_seq (.refl e) h fun F1 H1 ρ1 r1 x _ s1 v1 h => ?_
    obtain ⟨r, er, h⟩ := post_lift h
    obtain ⟨d1, e1, er⟩ := bind_some er
    obtain ⟨i, e2, er⟩ := map_some er
    subst er
    have k1 := peek_ok s1.env v1 e1
    cases k1 <;> try (simp [asInt] at e2; done)
    cases e2
    exact ⟨_, rfl, val_of s1 h (.int _)⟩
theorem e_not (ha : PE X a (tE p fa)) : PE X (.UnaryOp .Not a pos) (tE p fun ρ => (fa ρ).bind fun r1 ρ1 => pk r1 ρ1 fun d => (asBool d).map fun i => .val (.bool (!i))) :=
  PE.weaken (pe_not ha) fun σ H Q h => by
    obtain ⟨F, ρ, e, h⟩ := h
    refine tG_seq (.refl e) h fun F1 H1 ρ1 r1 x _ s1 v1 h => ?_
    obtain ⟨r, er, h⟩ := post_lift h
    obtain ⟨d1, e1, er⟩ := bind_some er
    obtain ⟨i, e2, er⟩ := map_some er
    subst er
    have k1 := peek_ok s1.env v1 e1
    cases k1 <;> try (simp [asBool] at e2; done)
    cases e2
    exact ⟨_, rfl, val_of s1 h (.bl _)⟩
theorem e_ite (hc : PT X c (tT p ft)) (ha : PE X a (tE p fa)) (hb : PE X b (tE p fb)) : PE X (.IfExp c a b pos) (tE p fun ρ => (ft ρ).bind fun t ρ1 => if t = true then fa ρ1 else fb ρ1) :=
  PE.weaken (pe_ifExp hc ha hb) fun σ H Q h => by
    obtain ⟨F, ρ, e, h⟩ := h
    refine tG_seq (.refl e) h fun F1 H1 ρ1 r1 x _ s1 v1 h => ?_
    cases v1
    split at h
    · rename_i q
      rw [if_pos q]
      exact tG_last s1 h fun _ _ _ _ _ z => relE_old s1.dm z
    · rename_i q
      rw [if_neg q]
      exact tG_last s1 h fun _ _ _ _ _ z => relE_old s1.dm z
theorem cmp_r {o : COp} {σ : St} {F H F2 H2 : Hp} {ρ ρ2 : Fm} {r1 r2 : RV} {x y : V} {t : Bool} {Hs1 Hs2 : Hp} {Q : VK} (s2 : Stp p σ F H ρ σ F2 H2 ρ2) (v1 : RvOk p.K p.H0 Hs1 F2 σ H2 ρ2 x r1) (v2 : RvOk p.K p.H0 Hs2 F2 σ H2 ρ2 y r2)
    (er : ((peek r1 ρ2).bind fun d1 => (peek r2 ρ2).bind fun d2 => cmpD o d1 d2) = some t) (q : Q (.bl t) H2) : rCmp X.K o x y H2 Q := by
  obtain ⟨d1, e1, er⟩ := bind_some er
  obtain ⟨d2, e2, er⟩ := bind_some er
  have k1 := peek_ok s2.env v1 e1
  have k2 := peek_ok s2.env v2 e2
  rw [hK] at k1 k2
  exact ⟨F2, d1, d2, t, s2.env.sub, k1, k2, er, q⟩
theorem e_cmp (hu : X.A.units + 65 < cLine) (o : COp) (ha : PE X a (tE p fa)) (hb : PE X b (tE p fb)) (hm : behindInMarks o.op b = false) :
    PE X (.Compare a [o.op] [b] pos) (tE p fun ρ => (fa ρ).bind fun r1 ρ1 => (fb ρ1).bind fun r2 ρ2 => lift ((peek r1 ρ2).bind fun d1 => (peek r2 ρ2).bind fun d2 => (cmpD o d1 d2).map fun t => .val (.bool t)) ρ2) :=
  PE.weaken (pe_cmpR (op_cmp hu o) ha hb hm) fun σ H Q h => by
    obtain ⟨F, ρ, e, h⟩ := h
    refine tG_seq (.refl e) h fun F1 H1 ρ1 r1 x _ s1 v1 h => ?_
    refine tG_seq s1 h fun F2 H2 ρ2 r2 y s12 s2 v2 h => ?_
    obtain ⟨r, er, h⟩ := post_lift h
    obtain ⟨d1, e1, er⟩ := bind_some er
    obtain ⟨d2, e2, er⟩ := bind_some er
    obtain ⟨t, e3, er⟩ := map_some er
    subst er
    exact cmp_r (hK := hK) s2 (RvOk.step v1 s12) v2 (by rw [e1, e2]; exact e3) (val_of s2 h (.bl _))
theorem t_cmp (hu : X.A.units + 65 < cLine) (o : COp) (ha : PE X a (tE p fa)) (hb : PE X b (tE p fb)) (hm : behindInMarks o.op b = false) :
    PT X (.Compare a [o.op] [b] pos) (tT p fun ρ => (fa ρ).bind fun r1 ρ1 => (fb ρ1).bind fun r2 ρ2 => lift ((peek r1 ρ2).bind fun d1 => (peek r2 ρ2).bind fun d2 => cmpD o d1 d2) ρ2) :=
  PT.weaken (pt_cmpR (op_cmp hu o) ha hb hm) fun σ H Q h => by
    obtain ⟨F, ρ, e, h⟩ := h
    refine tG_seq (.refl e) h fun F1 H1 ρ1 r1 x _ s1 v1 h => ?_
    refine tG_seq s1 h fun F2 H2 ρ2 r2 y s12 s2 v2 h => ?_
    obtain ⟨r, er, h⟩ := post_lift h
    exact cmp_r (hK := hK) s2 (RvOk.step v1 s12) v2 er ⟨_, rfl, h F2 H2 _ s2 rfl⟩
theorem e_cmp2 (hu : X.A.units + 65 < cLine) (o o' : COp) (ha : PE X a (tE p fa)) (hb : PE X b (tE p fb)) (hc : PE X c (tE p fc)) (hm : lastMarks [o.op, o'.op] [b, c] = false) :
    PE X (.Compare a [o.op, o'.op] [b, c] pos) (tE p fun ρ => (fa ρ).bind fun r1 ρ1 => (fb ρ1).bind fun r2 ρ2 => (lift ((peek r1 ρ2).bind fun d1 => (peek r2 ρ2).bind fun d2 => cmpD o d1 d2) ρ2).bind fun t ρ3 =>
      if t = true then (fc ρ3).bind fun r3 ρ4 => lift ((peek r2 ρ4).bind fun d2 => (peek r3 ρ4).bind fun d3 => (cmpD o' d2 d3).map fun t => .val (.bool t)) ρ4 else .ok (.val (.bool false)) ρ3) :=
  PE.weaken (pe_chain (op_cmp hu o) (op_cmp hu o') ha hb hc hm) fun σ H Q h => by
    obtain ⟨F, ρ, e, h⟩ := h
    refine tG_seq (.refl e) h fun F1 H1 ρ1 r1 x _ s1 v1 h => ?_
    refine tG_seq s1 h fun F2 H2 ρ2 r2 y s12 s2 v2 h => ?_
    obtain ⟨t, er, h⟩ := post_lift_bind h
    refine cmp_r (hK := hK) s2 (RvOk.step v1 s12) v2 er ⟨t, rfl, ?_⟩
    split at h
    · rename_i q
      rw [if_pos q]
      refine tG_seq s2 h fun F3 H3 ρ3 r3 z s23 s3 v3 h => ?_
      obtain ⟨r, er, h⟩ := post_lift h
      obtain ⟨d1, e1, er⟩ := bind_some er
      obtain ⟨d2, e2, er⟩ := bind_some er
      obtain ⟨t', e3, er⟩ := map_some er
      subst er
      exact cmp_r (hK := hK) s3 (RvOk.step v2 s23) v3 (by rw [e1, e2]; exact e3) (val_of s3 h (.bl _))
    · rename_i q
      rw [if_neg q]
      exact val_of s2 h (.bl _)
theorem t_cmp2 (hu : X.A.units + 65 < cLine) (o o' : COp) (ha : PE X a (tE p fa)) (hb : PE X b (tE p fb)) (hc : PE X c (tE p fc)) (hm : lastMarks [o.op, o'.op] [b, c] = false) :
    PT X (.Compare a [o.op, o'.op] [b, c] pos) (tT p fun ρ => (fa ρ).bind fun r1 ρ1 => (fb ρ1).bind fun r2 ρ2 => (lift ((peek r1 ρ2).bind fun d1 => (peek r2 ρ2).bind fun d2 => cmpD o d1 d2) ρ2).bind fun t ρ3 =>
      if t = true then (fc ρ3).bind fun r3 ρ4 => lift ((peek r2 ρ4).bind fun d2 => (peek r3 ρ4).bind fun d3 => cmpD o' d2 d3) ρ4 else .ok false ρ3) :=
  PT.weaken (pt_chain (op_cmp hu o) (op_cmp hu o') ha hb hc hm) fun σ H Q h => by
    obtain ⟨F, ρ, e, h⟩ := h
    refine tG_seq (.refl e) h fun F1 H1 ρ1 r1 x _ s1 v1 h => ?_
    refine tG_seq s1 h fun F2 H2 ρ2 r2 y s12 s2 v2 h => ?_
    obtain ⟨t, er, h⟩ := post_lift_bind h
    refine cmp_r (hK := hK) s2 (RvOk.step v1 s12) v2 er ⟨t, rfl, ?_⟩
    split at h
    · rename_i q
      rw [if_pos q]
      refine tG_seq s2 h fun F3 H3 ρ3 r3 z s23 s3 v3 h => ?_
      obtain ⟨r, er, h⟩ := post_lift h
      exact cmp_r (hK := hK) s3 (RvOk.step v2 s23) v3 er ⟨_, rfl, h F3 H3 _ s3 rfl⟩
    · rename_i q
      rw [if_neg q]
      exact ⟨_, rfl, h F2 H2 _ s2 rfl⟩
theorem e_idx (ha : PE X a (tE p fa)) (hb : PE X b (tE p fb)) (hs : PlainIx b) : PE X (.Subscript a b pos) (tE p fun ρ => (fa ρ).bind fun r1 ρ1 => (fb ρ1).bind fun r2 ρ2 => lift ((peek r1 ρ2).bind fun d1 => (peek r2 ρ2).bind fun d2 => (idxD d1 d2).map .val) ρ2) :=
  PE.weaken (pe_ix ix_idx ha hb hs) fun σ H Q h => by
    obtain ⟨F, ρ, e, h⟩ := h
    refine tG_seq (.refl e) h fun F1 H1 ρ1 r1 x _ s1 v1 h => ?_
    refine tG_seq s1 h fun F2 H2 ρ2 r2 y s12 s2 v2 h => ?_
    obtain ⟨r, er, h⟩ := post_lift h
    obtain ⟨d1, e1, er⟩ := bind_some er
    obtain ⟨d2, e2, er⟩ := bind_some er
    obtain ⟨d, e3, er⟩ := map_some er
    subst er
    have k1 := peek_ok s2.env (RvOk.step v1 s12) e1
    have k2 := peek_ok s2.env v2 e2
    rw [hK] at k1 k2
    exact ⟨F2, d1, d2, d, s2.env.sub, k1, k2, e3, fun v hv => val_of s2 h (hK ▸ hv)⟩
theorem asInt_pk {K : PySem.W.Frag} {F H : Hp} {v : V} {d : D} {i : Int} (k : Pk K F H v d) (e : asInt d = some i) : v = .int i := by
  cases k <;> try (simp [asInt] at e; done)
  cases e
  rfl
theorem asBool_pk {K : PySem.W.Frag} {F H : Hp} {v : V} {d : D} {i : Bool} (k : Pk K F H v d) (e : asBool d = some i) : v = .bl i := by
  cases k <;> try (simp [asBool] at e; done)
  cases e
  rfl
theorem e_slc {p2 : Pos} (ha : PE X a (tE p fa)) (hb : PE X b (tE p fb)) (hc : PE X c (tE p fc)) : PE X (.Subscript a (.Slice (some b) (some c) none p2) pos) (tE p fun ρ => (fa ρ).bind fun r1 ρ1 => (fb ρ1).bind fun r2 ρ2 => (pk r2 ρ2 asInt).bind fun i _ => (fc ρ2).bind fun r3 ρ3 => (pk r3 ρ3 asInt).bind fun j _ => lift ((peek r1 ρ3).bind (slcD (some i) (some j))) ρ3) :=
  PE.weaken (pe_slice sl_slc ha (po_some hb) (po_some hc)) fun σ H Q h => by
    obtain ⟨F, ρ, e, h⟩ := h
    refine tG_seq (.refl e) h fun F1 H1 ρ1 r1 x _ s1 v1 h => ?_
    refine tG_seq s1 h fun F2 H2 ρ2 r2 y s12 s2 v2 h => ?_
    obtain ⟨i, ei, h⟩ := post_lift_bind h
    obtain ⟨d1, e1, ei⟩ := bind_some ei
    refine ⟨i, asInt_pk (hK := hK) (peek_ok s2.env v2 e1) ei, ?_⟩
    refine tG_seq s2 h fun F3 H3 ρ3 r3 z s23 s3 v3 h => ?_
    obtain ⟨j, ej, h⟩ := post_lift_bind h
    obtain ⟨d2, e2, ej⟩ := bind_some ej
    refine ⟨j, asInt_pk (hK := hK) (peek_ok s3.env v3 e2) ej, ?_⟩
    obtain ⟨r, er, h⟩ := post_lift h
    obtain ⟨d3, e3, er⟩ := bind_some er
    have k1 := peek_ok s3.env ((RvOk.step v1 s12).step s23) e3
    have q := res_of s3 h
    rw [hK] at k1 q
    exact ⟨F3, d3, r, s3.env.sub, k1, er, q⟩
theorem e_rvs {k : Nat} {p1 p2 p3 : Pos} (ha : PE X a (tE p fa)) : PE X (.Subscript a (.Slice none none (some (.UnaryOp .USub (.Constant (.int 1) k p1) p2)) p3) pos) (tE p fun ρ => (fa ρ).bind fun r1 ρ1 => lift ((peek r1 ρ1).bind revD) ρ1) :=
  PE.weaken (pe_revA ha) fun σ H Q h => by
    obtain ⟨F, ρ, e, h⟩ := h
    refine tG_seq (.refl e) h fun F1 H1 ρ1 r1 x _ s1 v1 h => ?_
    obtain ⟨r, er, h⟩ := post_lift h
    obtain ⟨d3, e3, er⟩ := bind_some er
    have k1 := peek_ok s1.env v1 e3
    have q := res_of s1 h
    rw [hK] at k1 q
    have s0 := s1.env.sub
    cases k1 <;> try (simp [revD] at er; done)
    · rename_i a xs ds h1 h2
      cases er
      exact ⟨a, xs, rfl, .inl ⟨lx_sq h1, fun p hp => q _ _ hp (dqAll_rev h2)⟩⟩
    · rename_i a xs ds h1 h2
      cases er
      exact ⟨a, xs, rfl, .inr ⟨sqT_mono s0 h1, fun p hp => q.n hp (dq_newTup s0 hp (dqAll_rev h2))⟩⟩
theorem e_slo {p2 : Pos} (ha : PE X a (tE p fa)) (hb : PE X b (tE p fb)) : PE X (.Subscript a (.Slice (some b) none none p2) pos) (tE p fun ρ => (fa ρ).bind fun r1 ρ1 => (fb ρ1).bind fun r2 ρ2 => (pk r2 ρ2 asInt).bind fun i _ => lift ((peek r1 ρ2).bind (slcD (some i) none)) ρ2) :=
  PE.weaken (pe_slice sl_slc ha (po_some hb) po_none) fun σ H Q h => by
    obtain ⟨F, ρ, e, h⟩ := h
    refine tG_seq (.refl e) h fun F1 H1 ρ1 r1 x _ s1 v1 h => ?_
    refine tG_seq s1 h fun F2 H2 ρ2 r2 y s12 s2 v2 h => ?_
    obtain ⟨i, ei, h⟩ := post_lift_bind h
    obtain ⟨d1, e1, ei⟩ := bind_some ei
    refine ⟨i, asInt_pk (hK := hK) (peek_ok s2.env v2 e1) ei, ?_⟩
    obtain ⟨r, er, h⟩ := post_lift h
    obtain ⟨d3, e3, er⟩ := bind_some er
    have k1 := peek_ok s2.env (RvOk.step v1 s12) e3
    have q := res_of s2 h
    rw [hK] at k1 q
    exact ⟨F2, d3, r, s2.env.sub, k1, er, q⟩
theorem e_shi {p2 : Pos} (ha : PE X a (tE p fa)) (hb : PE X b (tE p fb)) : PE X (.Subscript a (.Slice none (some b) none p2) pos) (tE p fun ρ => (fa ρ).bind fun r1 ρ1 => (fb ρ1).bind fun r2 ρ2 => (pk r2 ρ2 asInt).bind fun i _ => lift ((peek r1 ρ2).bind (slcD none (some i))) ρ2) :=
  PE.weaken (pe_slice sl_slc ha po_none (po_some hb)) fun σ H Q h => by
    obtain ⟨F, ρ, e, h⟩ := h
    refine tG_seq (.refl e) h fun F1 H1 ρ1 r1 x _ s1 v1 h => ?_
    refine tG_seq s1 h fun F2 H2 ρ2 r2 y s12 s2 v2 h => ?_
    obtain ⟨i, ei, h⟩ := post_lift_bind h
    obtain ⟨d1, e1, ei⟩ := bind_some ei
    refine ⟨i, asInt_pk (hK := hK) (peek_ok s2.env v2 e1) ei, ?_⟩
    obtain ⟨r, er, h⟩ := post_lift h
    obtain ⟨d3, e3, er⟩ := bind_some er
    have k1 := peek_ok s2.env (RvOk.step v1 s12) e3
    have q := res_of s2 h
    rw [hK] at k1 q
    exact ⟨F2, d3, r, s2.env.sub, k1, er, q⟩
/-- a value's truth -/
theorem t_truth (ha : PE X a (tE p fa)) (he : ∀ whole, isTrue a X.env whole = (do let v ← whole; standAt a.pos; holding [v] (truthy v))) : PT X a (tT p fun ρ => (fa ρ).bind fun r ρ1 => pk r ρ1 truthD) :=
  PT.weaken (pt_truth ha he) fun σ H Q h => by
    obtain ⟨F, ρ, e, h⟩ := h
    refine tG_seq (.refl e) h fun F1 H1 ρ1 r1 x _ s1 v1 h => ?_
    obtain ⟨t, er, h⟩ := post_lift h
    obtain ⟨d1, e1, er⟩ := bind_some er
    have k1 := peek_ok s1.env v1 e1
    rw [hK] at k1
    exact ⟨t, truth_ok s1.env.sub k1 er, h F1 H1 _ s1 rfl⟩
theorem t_not (ha : PT X a (tT p ft)) : PT X (.UnaryOp .Not a pos) (tT p fun ρ => (ft ρ).bind fun b ρ1 => .ok (!b) ρ1) :=
  PT.weaken (pt_not ha) fun σ H Q h => by
    obtain ⟨F, ρ, e, h⟩ := h
    refine tG_seq (.refl e) h fun F1 H1 ρ1 r1 x _ s1 v1 h => ?_
    cases v1
    exact h F1 H1 _ s1 rfl
end
end Wk

/-! The walk layer, part 7: displays, built-in functions, and/or, methods of lists. -/
namespace Wk
open PySem PySem.Spec L2
section
variable {α β γ δ : Type} {p : Par}
theorem post_fz {σ : St} {F H F1 H1 : Hp} {ρ ρ1 : Fm} {r : RV} {v : V} {k : D → Fm → R α} {fin : α → Fm → Prop} (s : Stp p σ F H ρ σ F1 H1 ρ1) (hv : RvOk p.K p.H0 H F1 σ H1 ρ1 v r)
    (h : PX p σ F H ρ ((fzR r ρ1).bind k) fin) : ∃ d ρ2 F2, Stp p σ F H ρ σ F2 H1 ρ2 ∧ Dq p.K F2 v d ∧ PX p σ F H ρ (k d ρ2) fin := by
  unfold fzR at h
  cases e : freeze r ρ1 with
  | none =>
    rw [e] at h
    exact h.elim
  | some q =>
    rw [e] at h
    obtain ⟨d, ρ2⟩ := q
    obtain ⟨F2, s2, h2⟩ := freeze_ok s hv e
    exact ⟨d, ρ2, F2, s2, h2, h⟩
theorem post_pk {σ : St} {F H F1 H1 Hs : Hp} {ρ ρ1 : Fm} {r : RV} {v : V} {f : D → Option γ} {k : γ → Fm → R α} {fin : α → Fm → Prop} (s : Stp p σ F H ρ σ F1 H1 ρ1) (hv : RvOk p.K p.H0 Hs F1 σ H1 ρ1 v r)
    (h : PX p σ F H ρ ((pk r ρ1 f).bind k) fin) : ∃ d c, Pk p.K F1 H1 v d ∧ f d = some c ∧ PX p σ F H ρ (k c ρ1) fin := by
  obtain ⟨c, e, h⟩ := post_lift_bind h
  obtain ⟨d, e1, e2⟩ := bind_some e
  exact ⟨d, c, peek_ok s.env hv e1, e2, h⟩
/-- an own list is changed -/
theorem Step.write {σ : St} {F H F1 H1 : Hp} {σ1 : St} {ρ ρ1 : Fm} {i : Nat} {a : Addr} {xs ys : List D} {k : Kd} {ws vs : List V} (s : Stp p σ F H ρ σ1 F1 H1 ρ1) (hk : k.rw = true) (hi : ρ1[i]? = some (.own xs k)) (ha : σ1[i]? = some (some (V.ref a))) (hw : H1 a = some (.lst ws))
    (hd : DqAll p.K F1 vs ys) : Stp p σ F H ρ σ1 F1 (upd H1 a (.lst vs)) (ρ1.set i (.own ys k)) := by
  have e := s.env
  have oa : OwnAt σ1 ρ1 a := ⟨i, xs, k, hi, ha⟩
  obtain ⟨a', us, w1, w2, w3, w4, w5⟩ := e.own i xs k hi
  rw [ha] at w1
  cases w1
  have ilt : i < ρ1.length := (List.getElem?_eq_some_iff.mp hi).1
  refine ⟨s.fz, fun c o h n => ?_, fun c h => ?_, s.nf, fun c h => ?_, fun j zs l h n => ?_, ⟨fun c o h => ?_, by rw [List.length_set]; exact e.len, fun j d h => ?_, fun j zs l h => ?_, fun j j' c zs zs' l l' h h' e1 e2 => ?_, fun c h => ?_⟩⟩
  · have hc : c ≠ a := fun z => by
      subst z
      exact (s.ow c oa).elim n fun z => by rw [h] at z; cases z
    rw [upd_ne hc]
    exact s.hp c o h n
  · by_cases hc : c = a
    · subst hc
      rw [upd_same] at h
      cases h
    · rw [upd_ne hc] at h
      exact s.dm c h
  · obtain ⟨j, zs, l, h1, h2⟩ := h
    rcases set_get h1 with ⟨rfl, z, _⟩ | ⟨_, z⟩
    · exact s.ow c ⟨i, xs, k, hi, h2⟩
    · exact s.ow c ⟨j, zs, l, z, h2⟩
  · obtain ⟨l1, zs', l2, l3⟩ := s.lk j zs l h n
    refine ⟨l1, ?_⟩
    by_cases hj : i = j
    · subst hj
      rw [hi] at l2
      cases l2
      refine ⟨ys, by rw [List.getElem?_set_self ilt], fun z => ?_⟩
      exfalso
      cases k <;> first | exact n rfl | exact z rfl | (simp [Kd.rw] at hk; done)
    · exact ⟨zs', by rw [List.getElem?_set_ne hj]; exact l2, l3⟩
  · have hc : c ≠ a := fun z => by
      subst z
      rw [w4] at h
      cases h
    rw [upd_ne hc]
    exact e.sub c o h
  · rcases set_get h with ⟨_, z, _⟩ | ⟨_, z⟩
    · cases z
    · exact e.val j d z
  · rcases set_get h with ⟨rfl, z, _⟩ | ⟨nij, z⟩
    · cases z
      exact ⟨a, vs, ha, upd_same, hd, w4, w5⟩
    · obtain ⟨b, us', v1, v2, v3⟩ := e.own j zs l z
      have hb : b ≠ a := fun z' => nij (e.sep i j a _ _ _ _ hi z ha (z' ▸ v1))
      exact ⟨b, us', v1, by rw [upd_ne hb]; exact v2, v3⟩
  · rcases set_get h with ⟨rfl, z, _⟩ | ⟨_, z⟩
    · rcases set_get h' with ⟨rfl, z', _⟩ | ⟨_, z'⟩
      · rfl
      · exact e.sep _ _ c _ _ _ _ hi z' e1 e2
    · rcases set_get h' with ⟨rfl, z', _⟩ | ⟨_, z'⟩
      · exact e.sep _ _ c _ _ _ _ z hi e1 e2
      · exact e.sep _ _ c _ _ _ _ z z' e1 e2
  · by_cases hc : c = a
    · subst hc
      rw [upd_same] at h
      cases h
    · rw [upd_ne hc] at h
      exact e.dom c h
end
section
variable {X : Cx} {p : Par} {a b c : Expr} {es : List Expr} {fa fb fc : Fm → R RV} {fs : Fm → R (List D)} {ft fu : Fm → R Bool} {pos : Pos} {hK : p.K = X.K}
abbrev Plain (X : Cx) (e : Expr) : Prop := ∀ es, starEach (e :: es) X.env = (false, eval e X.env) :: starEach es X.env
theorem d_nil : PA X [] (tD p fun ρ => .ok [] ρ) := PA.weaken pa_nil fun σ H Q h => by
  obtain ⟨F, ρ, e, h⟩ := h
  exact h F H [] (.refl e) .nil
theorem d_cons (ha : PE X a (tE p fa)) (hs : PA X es (tD p fs)) (hp : Plain X a) : PA X (a :: es) (tD p fun ρ => (fa ρ).bind fun r ρ1 => (fzR r ρ1).bind fun x ρ2 => (fs ρ2).bind fun xs ρ3 => .ok (x :: xs) ρ3) :=
  PA.weaken (pa_cons ha hs (hp es)) fun σ H Q h => by
    obtain ⟨F, ρ, e, h⟩ := h
    refine tG_seq (.refl e) h fun F1 H1 ρ1 r1 x _ s1 v1 h => ?_
    obtain ⟨d, ρ2, F2, s2, hd, h⟩ := post_fz s1 v1 h
    refine tG_seq s2 h fun F3 H3 ρ3 ds vs s23 s3 v3 h => ?_
    exact h F3 H3 _ s3 (.cons (dq_mono s23.fz _ _ hd) v3)
theorem e_tup {k : Nat} (hs : PA X es (tD p fs)) : PE X (.Tuple es k pos) (tE p fun ρ => (fs ρ).bind fun ds ρ1 => lift (guardO (fits ds.length) (.val (.tuple ds))) ρ1) :=
  PE.weaken (pe_tup hs) fun σ H Q h => by
    obtain ⟨F, ρ, e, h⟩ := h
    refine tG_seq (.refl e) h fun F1 H1 ρ1 ds vs _ s1 v1 h => ?_
    obtain ⟨r, er, h⟩ := post_lift h
    obtain ⟨g, er⟩ := guardO_some er
    subst er
    have l := dqAll_len v1
    have g := fits_le g
    exact ⟨by omega, fun q hq => (res_of s1 h).n hq (dq_newTup s1.env.sub hq v1)⟩
theorem e_lst (hs : PA X es (tD p fs)) : PE X (.List es pos) (tE p fun ρ => (fs ρ).bind fun ds ρ1 => lift (guardO (fits ds.length) (.tmp ds)) ρ1) :=
  PE.weaken (pe_lst hs) fun σ H Q h => by
    obtain ⟨F, ρ, e, h⟩ := h
    refine tG_seq (.refl e) h fun F1 H1 ρ1 ds vs _ s1 v1 h => ?_
    obtain ⟨r, er, h⟩ := post_lift h
    obtain ⟨g, er⟩ := guardO_some er
    subst er
    have l := dqAll_len v1
    have g := fits_le g
    exact ⟨by omega, fun q hq => res_of s1 h q vs hq v1⟩
include hK
theorem b1_core (f : B1) {σ : St} {H : Hp} {Q : VK} (h : tE p (fun ρ => (fa ρ).bind fun r1 ρ1 => pk r1 ρ1 (b1D f)) σ H Q) : tCB (rB1 X.K f) (tCons (tE p fa) tNil) σ H Q := by
  obtain ⟨F, ρ, e, h⟩ := h
  refine tG_seq (.refl e) h fun F1 H1 ρ1 r1 x _ s1 v1 h => ?_
  obtain ⟨r, er, h⟩ := post_lift h
  obtain ⟨d, e1, er⟩ := bind_some er
  have k1 := peek_ok s1.env v1 e1
  have q := res_of s1 h
  rw [hK] at k1 q
  exact ⟨F1, x, d, r, rfl, s1.env.sub, k1, er, q⟩
theorem e_sset {p1 p2 p3 p4 : Pos} (hc : X.calm = true) (g1 : Gl X "sorted") (m1 : X.mg "sorted" = none) (g2 : Gl X "set") (m2 : X.mg "set" = none) (ha : PE X a (tE p fa)) (hp : Plain X a) :
    PE X (.Call (.Name "sorted" p1) [.Call (.Name "set" p2) [a] [] p3] [] p4) (tE p fun ρ => (fa ρ).bind fun r1 ρ1 => lift ((peek r1 ρ1).bind ssetD) ρ1) :=
  PE.weaken (pe_sset hc g1 m1 g2 m2 ha hp (fun _ => rfl)) fun σ H Q h => by
    obtain ⟨F, ρ, e, h⟩ := h
    refine tG_seq (.refl e) h fun F1 H1 ρ1 r1 x _ s1 v1 h => ?_
    obtain ⟨r, er, h⟩ := post_lift h
    obtain ⟨d3, e3, er⟩ := bind_some er
    have k1 := peek_ok s1.env v1 e3
    rw [hK] at k1
    cases k1 <;> try (simp [ssetD] at er; done)
    · rename_i l xs ds h1 h2
      obtain ⟨ns, i1, er⟩ := bind_some er
      obtain ⟨g, er⟩ := guardO_some er
      subst er
      have ew := dqAll_ints h2 i1
      subst ew
      refine ⟨l, ns, rfl, .inl (lx_sq h1), of_decide_eq_true g, fun p1 c hp1 hcc => ?_⟩
      have s2 := s1.new (o := SetO X.w p1 (fun j => decide (j ∈ ns)) c) hp1
      refine ⟨p1, _, c, rfl, upd_same, Nat.lt_of_le_of_lt hcc (of_decide_eq_true g), fun ms p2 w1 w2 w3 w4 => ?_⟩
      have em : ms = ssetI ns := lt_uniq w1 (ssetI_lt ns) fun k => by rw [w2 k, ssetI_mem]; simp
      subst em
      have q := res_of s2 h
      rw [hK] at q
      exact q p2 _ w4 (dqAll_ofInts _)
    · rename_i l xs ds h1 h2
      obtain ⟨ns, i1, er⟩ := bind_some er
      obtain ⟨g, er⟩ := guardO_some er
      subst er
      have ew := dqAll_ints h2 i1
      subst ew
      refine ⟨l, ns, rfl, .inr (sqT_mono s1.env.sub h1), of_decide_eq_true g, fun p1 c hp1 hcc => ?_⟩
      have s2 := s1.new (o := SetO X.w p1 (fun j => decide (j ∈ ns)) c) hp1
      refine ⟨p1, _, c, rfl, upd_same, Nat.lt_of_le_of_lt hcc (of_decide_eq_true g), fun ms p2 w1 w2 w3 w4 => ?_⟩
      have em : ms = ssetI ns := lt_uniq w1 (ssetI_lt ns) fun k => by rw [w2 k, ssetI_mem]; simp
      subst em
      have q := res_of s2 h
      rw [hK] at q
      exact q p2 _ w4 (dqAll_ofInts _)
theorem e_b1b {f : B1} {x : Str} {id : String} {p1 : Pos} (hc : CallR X (.builtin id) (rB1 X.K f)) (hg : Gl X x) (hm : X.mg x = none) (hv : bootBuiltins x = some (.builtin id)) (hn : x ≠ "__name__") (hd : (x == ("__debug__" : Str)) = false) (ha : PE X a (tE p fa)) (hp : Plain X a) :
    PE X (.Call (.Name x p1) [a] [] pos) (tE p fun ρ => (fa ρ).bind fun r1 ρ1 => pk r1 ρ1 (b1D f)) :=
  PE.weaken (pe_callB hc hg hm hv (pa_cons ha pa_nil (hp [])) hn hd (hp [])) fun σ H Q h => b1_core (hK := hK) f h
theorem e_b1t {f : B1} {x : Str} {T : String} {p1 : Pos} (hc : CallR X (.type T) (rB1 X.K f)) (hg : Gl X x) (hm : X.mg x = none) (hv : bootBuiltins x = some (.type T)) (hn : x ≠ "__name__") (hd : (x == ("__debug__" : Str)) = false) (ha : PE X a (tE p fa)) (hp : Plain X a) :
    PE X (.Call (.Name x p1) [a] [] pos) (tE p fun ρ => (fa ρ).bind fun r1 ρ1 => pk r1 ρ1 (b1D f)) :=
  PE.weaken (pe_callTy hc hg hm hv (pa_cons ha pa_nil (hp [])) hn hd (hp [])) fun σ H Q h => b1_core (hK := hK) f h
theorem b2_core (f : B2) {σ : St} {H : Hp} {Q : VK} (h : tE p (fun ρ => (fa ρ).bind fun r1 ρ1 => (fb ρ1).bind fun r2 ρ2 => lift ((peek r1 ρ2).bind fun d1 => (peek r2 ρ2).bind fun d2 => (b2D f d1 d2).map .val) ρ2) σ H Q) :
    tCB (rB2 X.K f) (tCons (tE p fa) (tCons (tE p fb) tNil)) σ H Q := by
  obtain ⟨F, ρ, e, h⟩ := h
  refine tG_seq (.refl e) h fun F1 H1 ρ1 r1 x _ s1 v1 h => ?_
  refine tG_seq s1 h fun F2 H2 ρ2 r2 y s12 s2 v2 h => ?_
  obtain ⟨r, er, h⟩ := post_lift h
  obtain ⟨d1, e1, er⟩ := bind_some er
  obtain ⟨d2, e2, er⟩ := bind_some er
  obtain ⟨d, e3, er⟩ := map_some er
  subst er
  have k1 := peek_ok s2.env (RvOk.step v1 s12) e1
  have k2 := peek_ok s2.env v2 e2
  rw [hK] at k1 k2
  exact ⟨F2, x, y, d1, d2, d, rfl, s2.env.sub, k1, k2, e3, fun v hv => val_of s2 h (hK ▸ hv)⟩
theorem e_b2b {f : B2} {x : Str} {id : String} {p1 : Pos} (hc : CallR X (.builtin id) (rB2 X.K f)) (hg : Gl X x) (hm : X.mg x = none) (hv : bootBuiltins x = some (.builtin id)) (hn : x ≠ "__name__") (hd : (x == ("__debug__" : Str)) = false) (ha : PE X a (tE p fa)) (hb : PE X b (tE p fb)) (hp : Plain X a) (hq : Plain X b) :
    PE X (.Call (.Name x p1) [a, b] [] pos) (tE p fun ρ => (fa ρ).bind fun r1 ρ1 => (fb ρ1).bind fun r2 ρ2 => lift ((peek r1 ρ2).bind fun d1 => (peek r2 ρ2).bind fun d2 => (b2D f d1 d2).map .val) ρ2) :=
  PE.weaken (pe_callB hc hg hm hv (pa_cons ha (pa_cons hb pa_nil (hq [])) (hp [b])) hn hd (hp [b]) (by rw [hq []] <;> rfl)) fun σ H Q h => b2_core (hK := hK) f h
theorem e_gcd {x : Str} {p1 : Pos} (hg : Gl X x) (hm : X.mg x = some (.builtin "math.gcd")) (hd : (x == ("__debug__" : Str)) = false) (ha : PE X a (tE p fa)) (hb : PE X b (tE p fb)) (hp : Plain X a) (hq : Plain X b) :
    PE X (.Call (.Name x p1) [a, b] [] pos) (tE p fun ρ => (fa ρ).bind fun r1 ρ1 => (fb ρ1).bind fun r2 ρ2 => lift ((peek r1 ρ2).bind fun d1 => (peek r2 ρ2).bind fun d2 => (b2D .gcd d1 d2).map .val) ρ2) :=
  PE.weaken (pe_callBfun b2_gcd hg hm (pa_cons ha (pa_cons hb pa_nil (hq [])) (hp [b])) hd (hp [b]) (by rw [hq []] <;> rfl)) fun σ H Q h => b2_core (hK := hK) .gcd h
theorem e_isi (t : Ty) {x y : Str} {p1 p2 : Pos} (hx : x = "isinstance") (hy : bootBuiltins y = some (.type t.nm)) (hn : y ≠ "__name__") (hd : (y == ("__debug__" : Str)) = false) (hg : Gl X x) (hm : X.mg x = none) (hgy : Gl X y) (hmy : X.mg y = none) (ha : PE X a (tE p fa)) (hp : Plain X a) :
    PE X (.Call (.Name x p1) [a, .Name y p2] [] pos) (tE p fun ρ => (fa ρ).bind fun r1 ρ1 => pk r1 ρ1 fun d => (isiD d t).map fun b => .val (.bool b)) := by
  subst hx
  have hb : PE X (.Name y p2) (tC (.ty t.nm)) := pe_bltn hgy hmy hy rfl hn hd
  refine PE.weaken (pe_callB (b_isi t) hg hm (by decide +kernel) (pa_cons ha (pa_cons hb pa_nil rfl) (hp _)) (by decide) (by decide) (hp _) (by rfl)) fun σ H Q h => ?_
  obtain ⟨F, ρ, e, h⟩ := h
  refine tG_seq (.refl e) h fun F1 H1 ρ1 r1 x _ s1 v1 h => ?_
  obtain ⟨r, er, h⟩ := post_lift h
  obtain ⟨d, e1, er⟩ := bind_some er
  obtain ⟨z, e2, er⟩ := map_some er
  subst er
  have k1 := peek_ok s1.env v1 e1
  rw [hK] at k1
  exact ⟨F1, x, d, z, rfl, s1.env.sub, k1, e2, val_of s1 h (.bl _)⟩
omit hK
/-! ### and, or -/
theorem e_and1 (ha : PE X a (tE p fa)) : PE X (.BoolOp .And [a] pos) (tE p fa) := pe_one ha
theorem e_or1 (ha : PE X a (tE p fa)) : PE X (.BoolOp .Or [a] pos) (tE p fa) := pe_one ha
theorem e_and {rest : List Expr} (ha : PE X a (tE p fa)) (hb : PE X (.BoolOp .And (b :: rest) pos) (tE p fb)) :
    PE X (.BoolOp .And (a :: b :: rest) pos) (tE p fun ρ => (fa ρ).bind fun r ρ1 => (pk r ρ1 asBool).bind fun t _ => if t = true then fb ρ1 else .ok (.val (.bool false)) ρ1) :=
  PE.weaken (pe_and ha hb) fun σ H Q h => by
    obtain ⟨F, ρ, e, h⟩ := h
    refine tG_seq (.refl e) h fun F1 H1 ρ1 r1 x _ s1 v1 h => ?_
    obtain ⟨d, t, k1, e1, h⟩ := post_pk s1 v1 h
    refine ⟨t, by cases k1 <;> first | (simp [asBool] at e1; done) | (cases e1; rfl), ?_⟩
    split at h
    · rename_i q
      rw [if_pos q]
      exact tG_last s1 h fun _ _ _ _ _ z => relE_old s1.dm z
    · rename_i q
      rw [if_neg q]
      exact val_of s1 h (.bl _)
theorem e_or {rest : List Expr} (ha : PE X a (tE p fa)) (hb : PE X (.BoolOp .Or (b :: rest) pos) (tE p fb)) :
    PE X (.BoolOp .Or (a :: b :: rest) pos) (tE p fun ρ => (fa ρ).bind fun r ρ1 => (pk r ρ1 asBool).bind fun t _ => if t = true then .ok (.val (.bool true)) ρ1 else fb ρ1) :=
  PE.weaken (pe_or ha hb) fun σ H Q h => by
    obtain ⟨F, ρ, e, h⟩ := h
    refine tG_seq (.refl e) h fun F1 H1 ρ1 r1 x _ s1 v1 h => ?_
    obtain ⟨d, t, k1, e1, h⟩ := post_pk s1 v1 h
    refine ⟨t, by cases k1 <;> first | (simp [asBool] at e1; done) | (cases e1; rfl), ?_⟩
    split at h
    · rename_i q
      rw [if_pos q]
      exact val_of s1 h (.bl _)
    · rename_i q
      rw [if_neg q]
      exact tG_last s1 h fun _ _ _ _ _ z => relE_old s1.dm z
theorem t_and1 (ha : PT X a (tT p ft)) : PW X (.BoolOp .And [a] pos) (tT p ft) := pw_and1 ha
theorem t_or1 (ha : PT X a (tT p ft)) : PW X (.BoolOp .Or [a] pos) (tT p ft) := pw_or1 ha
theorem t_and {rest : List Expr} (ha : PT X a (tT p ft)) (hb : PW X (.BoolOp .And (b :: rest) pos) (tT p fu)) :
    PW X (.BoolOp .And (a :: b :: rest) pos) (tT p fun ρ => (ft ρ).bind fun t ρ1 => if t = true then fu ρ1 else .ok false ρ1) :=
  PW.weaken (pw_and ha hb) fun σ H Q h => by
    obtain ⟨F, ρ, e, h⟩ := h
    refine tG_seq (.refl e) h fun F1 H1 ρ1 r1 x _ s1 v1 h => ?_
    cases v1
    split at h
    · rename_i q
      rw [if_pos q]
      exact tG_last s1 h fun _ _ _ _ _ z => z
    · rename_i q
      rw [if_neg q]
      exact h F1 H1 _ s1 rfl
theorem t_or {rest : List Expr} (ha : PT X a (tT p ft)) (hb : PW X (.BoolOp .Or (b :: rest) pos) (tT p fu)) :
    PW X (.BoolOp .Or (a :: b :: rest) pos) (tT p fun ρ => (ft ρ).bind fun t ρ1 => if t = true then .ok true ρ1 else fu ρ1) :=
  PW.weaken (pw_or ha hb) fun σ H Q h => by
    obtain ⟨F, ρ, e, h⟩ := h
    refine tG_seq (.refl e) h fun F1 H1 ρ1 r1 x _ s1 v1 h => ?_
    cases v1
    split at h
    · rename_i q
      rw [if_pos q]
      exact h F1 H1 _ s1 rfl
    · rename_i q
      rw [if_neg q]
      exact tG_last s1 h fun _ _ _ _ _ z => z
/-! ### methods of a list that a name owns -/
include hK
theorem e_app {i : Nat} {x : Str} {p1 apos : Pos} (hN : X.N[i]? = some x) (hv : Vis X.env.scope x) (hd : (x == ("__debug__" : Str)) = false) (hcd : (x == ("__classdict__" : Str)) = false) (ha : PE X a (tE p fa)) (hp : Plain X a) (hl : (apos.endLine == pos.line) = true) :
    PE X (.Call (.Attribute (.Name x p1) "append" apos) [a] [] pos) (tE p fun ρ => match ρ[i]? with
      | some (.own _ _) => (fa ρ).bind fun r ρ1 => (fzR r ρ1).bind fun x ρ2 => appAt i x ρ2
      | _ => .no) := by
  refine PE.weaken (pe_bm PySem.F.plainAttrs_list PySem.F.slot_list_append PySem.F.type_list_append mt_append (pe_var (i := i) hN hv hd hcd) (pa_cons ha pa_nil (hp [])) rfl (by rw [hp []] <;> rfl) hl (hp []) (by rfl)) fun σ H Q h => ?_
  obtain ⟨F, ρ, e, h⟩ := h
  dsimp only at h
  split at h
  · rename_i xs k hi
    obtain ⟨l, vs, w1, w2, _⟩ := e.own i xs k hi
    refine ⟨_, w1, .inl ⟨rfl, _, SqL.of w2⟩, ?_⟩
    refine tG_seq (.refl e) h fun F1 H1 ρ1 r1 y _ s1 v1 h => ?_
    obtain ⟨d, ρ2, F2, s2, hd2, h⟩ := post_fz s1 v1 h
    unfold appAt at h
    split at h
    · rename_i ys k2 hi2
      split at h
      · rename_i g
        obtain ⟨g1, g2⟩ := ba2 g
        have g2 := fits_le g2
        obtain ⟨l', us, z1, z2, z3, _⟩ := s2.env.own i ys k2 hi2
        rw [w1] at z1
        cases z1
        have ll := dqAll_len z3
        refine ⟨l, us, y, rfl, rfl, z2, by omega, ?_⟩
        exact h F2 _ _ (s2.write g1 hi2 w1 z2 (dqAll_app z3 (.cons hd2 .nil))) .non
      · exact h.elim
    · exact h.elim
  · exact h.elim
theorem e_pop0 {i : Nat} {x : Str} {p1 apos : Pos} (hN : X.N[i]? = some x) (hv : Vis X.env.scope x) (hd : (x == ("__debug__" : Str)) = false) (hcd : (x == ("__classdict__" : Str)) = false) (hl : (apos.endLine == pos.line) = true) :
    PE X (.Call (.Attribute (.Name x p1) "pop" apos) [] [] pos) (tE p (pop0At i)) := by
  refine PE.weaken (pe_bm0 PySem.F.plainAttrs_list PySem.F.slot_list_pop PySem.F.type_list_pop mt_pop (pe_var (i := i) hN hv hd hcd) rfl hl) fun σ H Q h => ?_
  obtain ⟨F, ρ, e, h⟩ := h
  unfold pop0At at h
  split at h
  · rename_i xs k hi
    obtain ⟨l, vs, w1, w2, w3, _⟩ := e.own i xs k hi
    refine ⟨_, w1, .inl ⟨rfl, _, SqL.of w2⟩, ?_⟩
    split at h
    · rename_i g
      obtain ⟨d, ed, h⟩ := post_lift_bind h
      obtain ⟨v, ev, hv⟩ := dqAll_get w3 ed
      have ll := dqAll_len w3
      refine ⟨l, vs, v, rfl, rfl, w2, by rw [ll]; exact ev, ?_⟩
      have hdl : DqAll p.K F vs.dropLast xs.dropLast := by
        rw [List.dropLast_eq_take, List.dropLast_eq_take, ll]
        exact dqAll_take _ w3
      exact h F _ _ ((Step.refl e).write g hi w1 w2 hdl) hv
    · exact h.elim
  · exact h.elim
theorem e_popAt {i : Nat} {x : Str} {p1 apos : Pos} (hN : X.N[i]? = some x) (hv : Vis X.env.scope x) (hd : (x == ("__debug__" : Str)) = false) (hcd : (x == ("__classdict__" : Str)) = false) (ha : PE X a (tE p fa)) (hp : Plain X a) (hl : (apos.endLine == pos.line) = true) :
    PE X (.Call (.Attribute (.Name x p1) "pop" apos) [a] [] pos) (tE p fun ρ => match ρ[i]? with
      | some (.own _ _) => (fa ρ).bind fun r ρ1 => (pk r ρ1 asInt).bind fun j _ => popAt i j ρ1
      | _ => .no) := by
  refine PE.weaken (pe_bm PySem.F.plainAttrs_list PySem.F.slot_list_pop PySem.F.type_list_pop mt_popAt (pe_var (i := i) hN hv hd hcd) (pa_cons ha pa_nil (hp [])) rfl (by rw [hp []] <;> rfl) hl (hp []) (by rfl)) fun σ H Q h => ?_
  obtain ⟨F, ρ, e, h⟩ := h
  dsimp only at h
  split at h
  · rename_i xs k hi
    obtain ⟨l, vs, w1, w2, _⟩ := e.own i xs k hi
    refine ⟨_, w1, .inl ⟨rfl, _, SqL.of w2⟩, ?_⟩
    refine tG_seq (.refl e) h fun F1 H1 ρ1 r1 y _ s1 v1 h => ?_
    obtain ⟨d, j, k1, e1, h⟩ := post_pk s1 v1 h
    have ey := asInt_pk (hK := hK) k1 e1
    unfold popAt at h
    split at h
    · rename_i ys k2 hi2
      split at h
      · rename_i g
        obtain ⟨g1, g⟩ := ba2 g
        obtain ⟨g2, g3⟩ := ba2 g
        obtain ⟨n, en, h⟩ := post_lift_bind h
        obtain ⟨z, ez, h⟩ := post_lift_bind h
        obtain ⟨l', us, z1, z2, z3, _⟩ := s1.env.own i ys k2 hi2
        rw [w1] at z1
        cases z1
        have ll := dqAll_len z3
        obtain ⟨v, ev, hv⟩ := dqAll_get z3 ez
        obtain ⟨q1, _⟩ := ixN_seq en
        refine ⟨l, us, j, n, v, rfl, by rw [ey], z2, of_decide_eq_true g2, of_decide_eq_true g3, by rw [ll]; exact q1, ev, ?_⟩
        exact h F1 _ _ (s1.write g1 hi2 w1 z2 (dqAll_erase n z3)) hv
      · exact h.elim
    · exact h.elim
  · exact h.elim
end
end Wk

/-! The walk layer, part 8: arguments, what a def promises, calls. -/
namespace Wk
open PySem PySem.Spec L2
def AOk (K : PySem.W.Frag) (F : Hp) (σ : St) : List V → List (Sum D Nat) → Prop
  | [], [] => True
  | v :: vs, .inl d :: r => Dq K F v d ∧ AOk K F σ vs r
  | v :: vs, .inr i :: r => σ[i]? = some (some v) ∧ AOk K F σ vs r
  | _, _ => False
theorem AOk.mono {K : PySem.W.Frag} {F F' : Hp} {σ : St} (s : SubH F F') : ∀ {vs : List V} {xs : List (Sum D Nat)}, AOk K F σ vs xs → AOk K F' σ vs xs
  | [], [], _ => trivial
  | v :: vs, .inl d :: r, h => ⟨dq_mono s _ _ h.1, AOk.mono s h.2⟩
  | v :: vs, .inr i :: r, h => ⟨h.1, AOk.mono s h.2⟩
  | [], _ :: _, h => h.elim
  | _ :: _, [], h => h.elim
def ArgsOk (K : PySem.W.Frag) (F H : Hp) : List V → List Arg → Prop
  | [], [] => True
  | v :: vs, .val d :: as => Dq K F v d ∧ ArgsOk K F H vs as
  | v :: vs, .own xs k :: as => (k = .lent ∨ k = .lockL) ∧ (∃ a ws, v = .ref a ∧ H a = some (.lst ws) ∧ DqAll K F ws xs ∧ F a = none) ∧ ArgsOk K F H vs as
  | _, _ => False
def lentV : List V → List Arg → List V
  | v :: vs, .own _ _ :: as => v :: lentV vs as
  | _ :: vs, .val _ :: as => lentV vs as
  | _, _ => []
structure StepC (K : PySem.W.Frag) (F H : Hp) (L : List V) (F' H' : Hp) : Prop where
  fz : SubH F F'
  hp : ∀ a o, H a = some o → V.ref a ∉ L → H' a = some o
  dm : ∀ a, H' a = none → H a = none
  nf : ∀ a, F a = none → H a ≠ none → F' a = none
  sub : SubH F' H'
def FinOk (K : PySem.W.Frag) (F' H' : Hp) : List V → List Arg → List (List D) → Prop
  | [], [], fin => fin = []
  | _ :: vs, .val _ :: as, fin => FinOk K F' H' vs as fin
  | v :: vs, .own xs k :: as, ys :: fin => (∃ a ws, v = .ref a ∧ H' a = some (.lst ws) ∧ DqAll K F' ws ys) ∧ (k = .lockL → ys = xs) ∧ FinOk K F' H' vs as fin
  | _, _, _ => False
def RetOk (K : PySem.W.Frag) (F' H H' : Hp) (v : V) : RV → Prop
  | .val d => Dq K F' v d
  | .tmp xs => ∃ a ws, v = .ref a ∧ H' a = some (.lst ws) ∧ DqAll K F' ws xs ∧ F' a = none ∧ H a = none
  | .sl _ => False
def PostC (K : PySem.W.Frag) (xc : Nat → Value) (F H : Hp) (vs : List V) (args : List Arg) (r : RC) (Q : VK) (E : XK) : Prop := match r with
  | .ok rv fin => ∀ F' H' v, StepC K F H (lentV vs args) F' H' → FinOk K F' H' vs args fin → RetOk K F' H H' v rv → Q v H'
  | .exc c fin => ∀ F' H', StepC K F H (lentV vs args) F' H' → FinOk K F' H' vs args fin → E (xc c) none H'
  | .no => False
/-- what a def promises that computes C -/
def spC (K : PySem.W.Frag) (xc : Nat → Value) (C : List Arg → RC) : Sp := fun vs H Q E => ∃ F args, SubH F H ∧ ArgsOk K F H vs args ∧ (lentV vs args).Nodup ∧ PostC K xc F H vs args (C args) Q E
theorem ArgsOk.len {K : PySem.W.Frag} {F H : Hp} : ∀ {vs : List V} {as : List Arg}, ArgsOk K F H vs as → vs.length = as.length
  | [], [], _ => rfl
  | v :: vs, .val d :: as, h => by simp [ArgsOk.len h.2]
  | v :: vs, .own xs k :: as, h => by simp [ArgsOk.len h.2.2]
  | [], _ :: _, h => h.elim
  | _ :: _, [], h => h.elim
section
variable {K : PySem.W.Frag} {H0 F H F' H' : Hp} {σ : St} {ρ : Fm}
theorem argsOf_ok (e : EnvOk K H0 F σ H ρ) : ∀ {vs : List V} {xs : List (Sum D Nat)} {as : List Arg}, AOk K F σ vs xs → argsOf ρ xs = some as → ArgsOk K F H vs as
  | [], [], as, _, h => by
    simp only [argsOf, Option.some.injEq] at h
    subst h
    trivial
  | v :: vs, .inl d :: r, as, a, h => by
    simp only [argsOf, argOf, Option.bind_some] at h
    obtain ⟨as', h1, h2⟩ := map_some h
    subst h2
    exact ⟨a.1, argsOf_ok e a.2 h1⟩
  | v :: vs, .inr i :: r, as, a, h => by
    simp only [argsOf] at h
    obtain ⟨x, h1, h⟩ := bind_some h
    obtain ⟨as', h2, h3⟩ := map_some h
    subst h3
    unfold argOf at h1
    dsimp only at h1
    split at h1
    · rename_i d hd
      cases h1
      obtain ⟨w, w1, w2⟩ := e.val i d hd
      rw [a.1] at w1
      cases w1
      exact ⟨w2, argsOf_ok e a.2 h2⟩
    · rename_i ys k hd
      cases h1
      obtain ⟨b, ws, w1, w2, w3, w4, _⟩ := e.own i ys k hd
      rw [a.1] at w1
      cases w1
      refine ⟨?_, ⟨b, ws, rfl, w2, w3, w4⟩, argsOf_ok e a.2 h2⟩
      split
      · exact .inl rfl
      · exact .inr rfl
    · cases h1
  | [], _ :: _, _, a, _ => a.elim
  | _ :: _, [], _, a, _ => a.elim
theorem lentV_mem : ∀ {vs : List V} {xs : List (Sum D Nat)} {as : List Arg}, AOk K F σ vs xs → argsOf ρ xs = some as → ∀ v, v ∈ lentV vs as ↔ ∃ i ∈ lentOf ρ xs, σ[i]? = some (some v)
  | [], [], as, _, h, v => by
    simp only [argsOf, Option.some.injEq] at h
    subst h
    simp [lentV, lentOf]
  | w :: vs, .inl d :: r, as, a, h, v => by
    simp only [argsOf, argOf, Option.bind_some] at h
    obtain ⟨as', h1, h2⟩ := map_some h
    subst h2
    exact lentV_mem a.2 h1 v
  | w :: vs, .inr i :: r, as, a, h, v => by
    simp only [argsOf] at h
    obtain ⟨x, h1, h⟩ := bind_some h
    obtain ⟨as', h2, h3⟩ := map_some h
    subst h3
    have ih := lentV_mem a.2 h2 v
    unfold argOf at h1
    dsimp only at h1
    split at h1
    · rename_i d hd
      cases h1
      simp only [lentV, lentOf, hd]
      exact ih
    · rename_i ys k hd
      cases h1
      simp only [lentV, lentOf, hd, List.mem_cons]
      constructor
      · rintro (z | z)
        · subst z
          exact ⟨i, .inl rfl, a.1⟩
        · obtain ⟨j, j1, j2⟩ := ih.mp z
          exact ⟨j, .inr j1, j2⟩
      · rintro ⟨j, z | z, j2⟩
        · subst z
          rw [a.1] at j2
          cases j2
          exact .inl rfl
        · exact .inr (ih.mpr ⟨j, z, j2⟩)
    · cases h1
  | [], _ :: _, _, a, _, _ => a.elim
  | _ :: _, [], _, a, _, _ => a.elim
theorem lentOf_own : ∀ {xs : List (Sum D Nat)} {i : Nat}, i ∈ lentOf ρ xs → ∃ ys k, ρ[i]? = some (.own ys k)
  | [], i, h => by simp [lentOf] at h
  | .inl d :: r, i, h => lentOf_own (xs := r) h
  | .inr j :: r, i, h => by
    unfold lentOf at h
    split at h
    · rename_i ys k hd
      rcases List.mem_cons.mp h with z | z
      · subst z
        exact ⟨ys, k, hd⟩
      · exact lentOf_own z
    · exact lentOf_own h
theorem lentV_nodup (e : EnvOk K H0 F σ H ρ) : ∀ {vs : List V} {xs : List (Sum D Nat)} {as : List Arg}, AOk K F σ vs xs → argsOf ρ xs = some as → (lentOf ρ xs).Nodup → (lentV vs as).Nodup
  | [], [], as, _, h, _ => by
    simp only [argsOf, Option.some.injEq] at h
    subst h
    simp [lentV]
  | w :: vs, .inl d :: r, as, a, h, n => by
    simp only [argsOf, argOf, Option.bind_some] at h
    obtain ⟨as', h1, h2⟩ := map_some h
    subst h2
    show (lentV vs as').Nodup
    exact lentV_nodup e a.2 h1 n
  | w :: vs, .inr i :: r, as, a, h, n => by
    simp only [argsOf] at h
    obtain ⟨x, h1, h⟩ := bind_some h
    obtain ⟨as', h2, h3⟩ := map_some h
    subst h3
    unfold argOf at h1
    dsimp only at h1
    split at h1
    · rename_i d hd
      cases h1
      simp only [lentOf, hd] at n
      show (lentV vs as').Nodup
      exact lentV_nodup e a.2 h2 n
    · rename_i ys k hd
      cases h1
      simp only [lentOf, hd, List.nodup_cons] at n
      refine List.nodup_cons.mpr ⟨fun z => ?_, lentV_nodup e a.2 h2 n.2⟩
      obtain ⟨j, j1, j2⟩ := (lentV_mem a.2 h2 w).mp z
      obtain ⟨zs, l, j3⟩ := lentOf_own j1
      obtain ⟨b, ws, w1, _⟩ := e.own i ys k hd
      have w0 := a.1
      rw [w0] at w1
      cases w1
      have := e.sep i j b _ _ _ _ hd j3 w0 j2
      subst this
      exact n.1 j1
    · cases h1
  | [], _ :: _, _, a, _, _ => a.elim
  | _ :: _, [], _, a, _, _ => a.elim
theorem giveB_len : ∀ {xs : List (Sum D Nat)} {fin : List (List D)}, (giveB ρ xs fin).length = ρ.length
  | [], _ => rfl
  | .inl d :: r, fin => giveB_len (xs := r)
  | .inr i :: r, fin => by
    unfold giveB
    split
    · split
      · rw [List.length_set]
        exact giveB_len
      · exact giveB_len
    · exact giveB_len
theorem giveB_get : ∀ {vs : List V} {xs : List (Sum D Nat)} {as : List Arg} {fin : List (List D)}, AOk K F σ vs xs → argsOf ρ xs = some as → FinOk K F' H' vs as fin → (lentOf ρ xs).Nodup → ∀ {j : Nat} {s : Sl}, (giveB ρ xs fin)[j]? = some s →
    (j ∉ lentOf ρ xs ∧ ρ[j]? = some s) ∨ (j ∈ lentOf ρ xs ∧ ∃ zs ys k a ws, ρ[j]? = some (.own zs k) ∧ s = .own ys k ∧ σ[j]? = some (some (V.ref a)) ∧ H' a = some (.lst ws) ∧ DqAll K F' ws ys ∧ (k ≠ .mine → k ≠ .lent → ys = zs))
  | [], [], as, fin, _, h, f, _, j, s, g => by
    refine .inl ⟨by simp [lentOf], ?_⟩
    unfold giveB at g
    exact g
  | w :: vs, .inl d :: r, as, fin, a, h, f, n, j, s, g => by
    simp only [argsOf, argOf, Option.bind_some] at h
    obtain ⟨as', h1, h2⟩ := map_some h
    subst h2
    exact giveB_get a.2 h1 f n g
  | w :: vs, .inr i :: r, as, fin, a, h, f, n, j, s, g => by
    simp only [argsOf] at h
    obtain ⟨x, h1, h⟩ := bind_some h
    obtain ⟨as', h2, h3⟩ := map_some h
    subst h3
    unfold argOf at h1
    dsimp only at h1
    split at h1
    · rename_i d hd
      cases h1
      simp only [lentOf, hd] at n ⊢
      simp only [giveB, hd] at g
      exact giveB_get a.2 h2 f n g
    · rename_i ys k hd
      cases h1
      simp only [lentOf, hd, List.nodup_cons] at n
      simp only [lentOf, hd, List.mem_cons]
      cases fin with
      | nil => exact f.elim
      | cons zs fin' =>
        obtain ⟨⟨b, ws, f1, f2, f3⟩, f4, f5⟩ := f
        simp only [giveB, hd] at g
        rcases set_get g with ⟨z, z2, _⟩ | ⟨z, z2⟩
        · subst z
          refine .inr ⟨.inl rfl, ys, zs, k, b, ws, hd, z2, by rw [a.1, f1], f2, f3, fun k1 k2 => f4 (if_neg fun q => q.elim k1 k2)⟩
        · rcases giveB_get a.2 h2 f5 n.2 z2 with ⟨q1, q2⟩ | ⟨q1, q2⟩
          · exact .inl ⟨fun q => q.elim (fun q => z q.symm) q1, q2⟩
          · exact .inr ⟨.inr q1, q2⟩
    · cases h1
  | [], _ :: _, _, _, a, _, _, _, _, _, _ => a.elim
  | _ :: _, [], _, _, a, _, _, _, _, _, _ => a.elim
/-- behind a call -/
theorem step_call {vs : List V} {xs : List (Sum D Nat)} {as : List Arg} {fin : List (List D)} (e : EnvOk K H0 F σ H ρ) (a : AOk K F σ vs xs) (h : argsOf ρ xs = some as) (n : (lentOf ρ xs).Nodup) (s : StepC K F H (lentV vs as) F' H') (f : FinOk K F' H' vs as fin) :
    Step K H0 σ F H ρ σ F' H' (giveB ρ xs fin) := by
  have own_of : ∀ {j : Nat} {zs : List D} {l : Kd}, (giveB ρ xs fin)[j]? = some (.own zs l) → ∃ ys, ρ[j]? = some (.own ys l) := fun {j zs l} g => by
    rcases giveB_get a h f n g with ⟨_, q⟩ | ⟨_, ys, zs', k, b, ws, q1, q2, _⟩
    · exact ⟨zs, q⟩
    · cases q2
      exact ⟨ys, q1⟩
  have lentOwn : ∀ {b : Addr}, V.ref b ∈ lentV vs as → OwnAt σ ρ b := fun {b} z => by
    obtain ⟨i, i1, i2⟩ := (lentV_mem a h _).mp z
    obtain ⟨ys, k, i3⟩ := lentOf_own i1
    exact ⟨i, ys, k, i3, i2⟩
  refine ⟨s.fz, fun b o hb nb => s.hp b o hb fun z => nb (lentOwn z), s.dm, fun b h1 h2 _ => s.nf b h1 h2, fun b hb => ?_, fun i ys k hi nk => ⟨rfl, ?_⟩, ⟨s.sub, by rw [giveB_len]; exact e.len, fun i d g => ?_, fun i ys k g => ?_, fun i j b ys zs k l g1 g2 e1 e2 => ?_, fun b hb => e.dom b (s.dm b hb)⟩⟩
  · obtain ⟨i, ys, k, g, g2⟩ := hb
    obtain ⟨zs, q⟩ := own_of g
    exact .inl ⟨i, zs, k, q, g2⟩
  · have hlt : i < (giveB ρ xs fin).length := by
      rw [giveB_len]
      exact (List.getElem?_eq_some_iff.mp hi).1
    rcases giveB_get a h f n (List.getElem?_eq_getElem hlt) with ⟨_, q⟩ | ⟨_, ys', zs', k', b, ws, q1, q2, _, _, _, q3⟩
    · rw [hi] at q
      exact ⟨ys, by rw [List.getElem?_eq_getElem hlt, ← q], fun _ => rfl⟩
    · rw [hi] at q1
      cases q1
      exact ⟨zs', by rw [List.getElem?_eq_getElem hlt, q2], fun z => q3 nk z⟩
  · rcases giveB_get a h f n g with ⟨_, q⟩ | ⟨_, ys', zs', k', b, ws, q1, q2, _⟩
    · obtain ⟨w, w1, w2⟩ := e.val i d q
      exact ⟨w, w1, dq_mono s.fz _ _ w2⟩
    · cases q2
  · rcases giveB_get a h f n g with ⟨q0, q⟩ | ⟨_, ys', zs', k', b, ws, q1, q2, q3, q4, q5, q6⟩
    · obtain ⟨b, ws, w1, w2, w3, w4, w5⟩ := e.own i ys k q
      have nb : V.ref b ∉ lentV vs as := fun z => by
        obtain ⟨j, j1, j2⟩ := (lentV_mem a h _).mp z
        obtain ⟨zs, l, j3⟩ := lentOf_own j1
        have := e.sep i j b _ _ _ _ q j3 w1 j2
        subst this
        exact q0 j1
      exact ⟨b, ws, w1, s.hp b _ w2 nb, dqAll_mono s.fz _ _ w3, s.nf b w4 (by rw [w2]; simp), w5⟩
    · cases q2
      obtain ⟨b', ws', w1, w2, w3, w4, w5⟩ := e.own i ys' k q1
      rw [q3] at w1
      cases w1
      exact ⟨b, ws, q3, q4, q5, s.nf b w4 (by rw [w2]; simp), w5⟩
  · obtain ⟨ys', q1⟩ := own_of g1
    obtain ⟨zs', q2⟩ := own_of g2
    exact e.sep i j b _ _ _ _ q1 q2 e1 e2
end
section
variable {p : Par}
def RelA (p : Par) (σ : St) (H : Hp) : Hp → Hp → Fm → List V → List (Sum D Nat) → Prop := fun F' _ _ vs xs => AOk p.K F' σ vs xs
abbrev tA (p : Par) (f : Fm → R (List (Sum D Nat))) : TA := tG p (RelA p) f
theorem call_core {σ : St} {F H F1 H1 : Hp} {ρ ρ1 : Fm} {vs : List V} {xs : List (Sum D Nat)} {C : Nat → List Arg → RC} {f : Nat} {Q : VK} (s : Stp p σ F H ρ σ F1 H1 ρ1) (a : AOk p.K F1 σ vs xs) (h : Post p (RelE p σ H) σ F H ρ (doCall C f xs ρ1) Q) :
    spC p.K p.xc (C f) vs H1 Q (WE p.W σ) := by
  unfold doCall at h
  split at h
  · rename_i as has
    split at h
    · rename_i nd
      refine ⟨F1, as, s.env.sub, argsOf_ok s.env a has, lentV_nodup s.env a has nd, ?_⟩
      cases e : C f as with
      | no =>
        rw [e] at h
        exact h.elim
      | exc c fin =>
        rw [e] at h
        intro F' H' sc fo
        exact h F' H' (s.trans (step_call s.env a has nd sc fo))
      | ok rv fin =>
        rw [e] at h
        intro F' H' v sc fo ro
        have st := step_call s.env a has nd sc fo
        refine h F' H' v (s.trans st) ?_
        cases rv with
        | val d => exact ro
        | tmp ys =>
          obtain ⟨b, ws, r1, r2, r3, r4, r5⟩ := ro
          refine ⟨b, ws, r1, r2, r3, r4, fun q => ?_, s.env.dom b r5, s.dm b r5⟩
          obtain ⟨i, zs, k, g1, g2⟩ := q
          obtain ⟨b', ws', w1, w2, _⟩ := (st.env).own i zs k g1
          rcases st.ow b ⟨i, zs, k, g1, g2⟩ with z | z
          · obtain ⟨i', zs', k', g1', g2'⟩ := z
            obtain ⟨b2, ws2, v1, v2, _⟩ := s.env.own i' zs' k' g1'
            rw [g2'] at v1
            cases v1
            rw [r5] at v2
            cases v2
          · obtain ⟨zs', q⟩ : ∃ zs', ρ1[i]? = some (.own zs' k) := by
              rcases giveB_get a has fo nd g1 with ⟨_, q⟩ | ⟨_, ys', zs'', k', b2, ws2, q1, q2, _⟩
              · exact ⟨zs, q⟩
              · cases q2
                exact ⟨ys', q1⟩
            obtain ⟨b2, ws2, v1, v2, _⟩ := s.env.own i zs' k q
            rw [g2] at v1
            cases v1
            rw [r5] at v2
            cases v2
        | sl i => exact ro.elim
    · exact h.elim
  · exact h.elim
end
section
variable {X : Cx} {p : Par} {a : Expr} {es : List Expr} {fa : Fm → R RV} {fs : Fm → R (List (Sum D Nat))} {pos : Pos}
theorem a_nil : PA X [] (tA p fun ρ => .ok [] ρ) := PA.weaken pa_nil fun σ H Q h => by
  obtain ⟨F, ρ, e, h⟩ := h
  exact h F H [] (.refl e) trivial
theorem a_cons (ha : PE X a (tE p fa)) (hs : PA X es (tA p fs)) (hp : Plain X a) : PA X (a :: es) (tA p fun ρ => (fa ρ).bind fun r ρ1 => (match r with
    | .sl i => (fs ρ1).bind fun xs ρ3 => .ok (.inr i :: xs) ρ3
    | r => (fzR r ρ1).bind fun x ρ2 => (fs ρ2).bind fun xs ρ3 => .ok (.inl x :: xs) ρ3)) :=
  PA.weaken (pa_cons ha hs (hp es)) fun σ H Q h => by
    obtain ⟨F, ρ, e, h⟩ := h
    refine tG_seq (.refl e) h fun F1 H1 ρ1 r1 x _ s1 v1 h => ?_
    split at h
    · rename_i i
      refine tG_seq s1 h fun F3 H3 ρ3 ds vs s13 s3 v3 h => ?_
      exact h F3 H3 _ s3 ⟨v1, v3⟩
    · obtain ⟨d, ρ2, F2, s2, hd, h⟩ := post_fz s1 v1 h
      refine tG_seq s2 h fun F3 H3 ρ3 ds vs s23 s3 v3 h => ?_
      exact h F3 H3 _ s3 ⟨dq_mono s23.fz _ _ hd, v3⟩
/-- f() of a def -/
theorem pe_callS0 {CX : CXT} {k : Nat} {f : Addr} {fd : FuncData} {ps : List Str} {sp : Sp} {E : St → XK} {x : Str} {p1 : Pos} (F : FnOk X.prog X.w X.K X.mg X.base CX k f fd ps sp) (hr : Room k X.A) (hg : Gl X x) (hm : X.mg x = some (.ref f)) (hk : PySem.W.keepIn X.K (.ref f) = true) (hb : Binds X.K fd ps [])
    (hx : ∀ σ, PassesAt CX X σ (E σ)) (hd : (x == ("__debug__" : Str)) = false) : PE X (.Call (.Name x p1) [] [] pos) (tCallS sp E tNil) := by
  refine ⟨fun pins s σ H Q I h => ?_⟩
  exact wpAny_Call_Name_kw (ld_glob I hg hm (PySem.W.callWith_K0 I.kIn hk (run_fnS (us := []) F hr hb (hx σ) I .nil h)) hd)
theorem call_tr {C : Nat → List Arg → RC} {k : Nat} : ∀ σ H Q, tE p (fun ρ => (fs ρ).bind fun xs ρ1 => doCall C k xs ρ1) σ H Q → tCallS (spC p.K p.xc (C k)) (WE p.W) (tA p fs) σ H Q := fun σ H Q h => by
  obtain ⟨F, ρ, e, h⟩ := h
  refine tG_seq (.refl e) h fun F1 H1 ρ1 xs vs _ s1 v1 h => ?_
  exact call_core s1 v1 h
theorem e_call {C : Nat → List Arg → RC} {n k : Nat} {f : Addr} {fd : FuncData} {ps : List Str} {x : Str} {p1 : Pos} (F : FnOk X.prog X.w X.K X.mg X.base (L2.CX X.prog X.w) n f fd ps (spC p.K p.xc (C k))) (hr : Room n X.A) (hg : Gl X x) (hm : X.mg x = some (.ref f))
    (hk : PySem.W.keepIn X.K (.ref f) = true) (hb : Binds X.K fd ps []) (tk : Takes X p.W) (hd : (x == ("__debug__" : Str)) = false) (hs : PA X (a :: es) (tA p fs)) (hp : Plain X a) (hq : (backTo pos (starEach es X.env)).any (·.1) = false) :
    PE X (.Call (.Name x p1) (a :: es) [] pos) (tE p fun ρ => (fs ρ).bind fun xs ρ1 => doCall C k xs ρ1) :=
  PE.weaken (pe_callS F hr hg hm hk hb (fun σ => passAt tk σ) hs hd (hp es) hq) call_tr
theorem e_call0 {C : Nat → List Arg → RC} {n k : Nat} {f : Addr} {fd : FuncData} {ps : List Str} {x : Str} {p1 : Pos} (F : FnOk X.prog X.w X.K X.mg X.base (L2.CX X.prog X.w) n f fd ps (spC p.K p.xc (C k))) (hr : Room n X.A) (hg : Gl X x) (hm : X.mg x = some (.ref f))
    (hk : PySem.W.keepIn X.K (.ref f) = true) (hb : Binds X.K fd ps []) (tk : Takes X p.W) (hd : (x == ("__debug__" : Str)) = false) :
    PE X (.Call (.Name x p1) [] [] pos) (tE p fun ρ => (R.ok [] ρ).bind fun xs ρ1 => doCall C k xs ρ1) :=
  PE.weaken (pe_callS0 F hr hg hm hk hb (fun σ => passAt tk σ) hd) fun σ H Q h => by
    obtain ⟨F, ρ, e, h⟩ := h
    exact call_core (vs := []) (xs := []) (.refl e) trivial h
end
end Wk

/-! The walk layer, part 9: what loops and comprehensions walk. -/
namespace Wk
open PySem PySem.Spec L2
/-! ### locks -/
def LockOf (ρ ρL : Fm) (lk : List Nat) : Prop := ρL.length = ρ.length ∧ ∀ (j : Nat) (s : Sl), ρL[j]? = some s →
  (j ∉ lk ∧ ρ[j]? = some s) ∨ (j ∈ lk ∧ ∃ xs k, (k = Kd.mine ∨ k = Kd.lent) ∧ ρ[j]? = some (.own xs k) ∧ s = .own xs k.lock)
theorem LockOf.refl (ρ : Fm) : LockOf ρ ρ [] := ⟨rfl, fun _ _ h => .inl ⟨by simp, h⟩⟩
theorem LockOf.back {ρ ρL : Fm} {lk : List Nat} (l : LockOf ρ ρL lk) {j : Nat} {s : Sl} (h : ρ[j]? = some s) : (j ∉ lk ∧ ρL[j]? = some s) ∨ (j ∈ lk ∧ ∃ xs k, (k = Kd.mine ∨ k = Kd.lent) ∧ s = .own xs k ∧ ρL[j]? = some (.own xs k.lock)) := by
  have hlt : j < ρL.length := by rw [l.1]; exact (List.getElem?_eq_some_iff.mp h).1
  have g := List.getElem?_eq_getElem hlt
  rcases l.2 j _ g with ⟨q1, q2⟩ | ⟨q1, xs, k, q2, q3, q4⟩
  · rw [h] at q2
    exact .inl ⟨q1, g.trans q2.symm⟩
  · rw [h] at q3
    cases q3
    exact .inr ⟨q1, xs, k, q2, rfl, by rw [g, q4]⟩
theorem lock_ne {k : Kd} (h : k = .mine ∨ k = .lent) : ¬ (k.lock = .mine ∨ k.lock = .lent) := by
  rcases h with rfl | rfl <;> (intro z; rcases z with z | z <;> cases z)
theorem lock_open {k : Kd} (h : k = .mine ∨ k = .lent) : k.lock.open_ = k := by
  rcases h with rfl | rfl <;> rfl
theorem LockOf.trans {ρ ρ1 ρ2 : Fm} {l1 l2 : List Nat} (a : LockOf ρ ρ1 l1) (b : LockOf ρ1 ρ2 l2) : LockOf ρ ρ2 (l1 ++ l2) := by
  refine ⟨b.1.trans a.1, fun j s h => ?_⟩
  rcases b.2 j s h with ⟨q1, q2⟩ | ⟨q1, xs, k, k1, k2, k3⟩
  · rcases a.2 j s q2 with ⟨r1, r2⟩ | ⟨r1, ys, k', k1', k2', k3'⟩
    · exact .inl ⟨by simp [q1, r1], r2⟩
    · exact .inr ⟨by simp [r1], ys, k', k1', k2', k3'⟩
  · rcases a.2 j _ k2 with ⟨r1, r2⟩ | ⟨r1, ys, k', k1', k2', k3'⟩
    · exact .inr ⟨by simp [q1], xs, k, k1, r2, k3⟩
    · cases k3'
      exact absurd k1 (lock_ne k1')
theorem LockOf.own {σ : St} {ρ ρL : Fm} {lk : List Nat} (l : LockOf ρ ρL lk) {a : Addr} : OwnAt σ ρL a ↔ OwnAt σ ρ a := by
  constructor
  · rintro ⟨i, xs, k, h1, h2⟩
    rcases l.2 i _ h1 with ⟨_, q⟩ | ⟨_, ys, k', _, q, _⟩
    · exact ⟨i, xs, k, q, h2⟩
    · exact ⟨i, ys, k', q, h2⟩
  · rintro ⟨i, xs, k, h1, h2⟩
    rcases l.back h1 with ⟨_, q⟩ | ⟨_, ys, k', _, _, q⟩
    · exact ⟨i, xs, k, q, h2⟩
    · exact ⟨i, ys, _, q, h2⟩
section
variable {K : PySem.W.Frag} {H0 F F1 H H1 : Hp} {σ σ1 : St} {ρ ρP ρL ρE : Fm} {lk : List Nat}
theorem EnvOk.lock (e : EnvOk K H0 F σ H ρ) (l : LockOf ρ ρL lk) : EnvOk K H0 F σ H ρL := by
  have back : ∀ {i : Nat} {xs : List D} {k : Kd}, ρL[i]? = some (.own xs k) → ∃ k', ρ[i]? = some (.own xs k') ∧ (k = .mine ∨ k = .lockM → k' = .mine ∨ k' = .lockM) := fun {i xs k} h => by
    rcases l.2 i _ h with ⟨_, q⟩ | ⟨_, ys, k', q0, q, q2⟩
    · exact ⟨k, q, fun z => z⟩
    · cases q2
      refine ⟨k', q, fun z => ?_⟩
      rcases q0 with rfl | rfl
      · exact .inl rfl
      · rcases z with z | z <;> cases z
  refine ⟨e.sub, l.1.trans e.len, fun i d h => ?_, fun i xs k h => ?_, fun i j a xs ys k k' h1 h2 => ?_, e.dom⟩
  · rcases l.2 i _ h with ⟨_, q⟩ | ⟨_, ys, k', q0, q, q2⟩
    · exact e.val i d q
    · cases q2
  · obtain ⟨k', q1, q2⟩ := back h
    obtain ⟨a, vs, w1, w2, w3, w4, w5⟩ := e.own i xs k' q1
    exact ⟨a, vs, w1, w2, w3, w4, fun z => w5 (q2 z)⟩
  · obtain ⟨l1, q1, _⟩ := back h1
    obtain ⟨l2, q2, _⟩ := back h2
    exact e.sep i j a _ _ _ _ q1 q2
theorem RvOk.lock {Hs : Hp} {v : V} {r : RV} (h : RvOk K H0 Hs F σ H ρ v r) (l : LockOf ρ ρL lk) : RvOk K H0 Hs F σ H ρL v r := by
  cases r with
  | val d => exact h
  | tmp xs =>
    obtain ⟨a, vs, h1, h2, h3, h4, h5, h6⟩ := h
    exact ⟨a, vs, h1, h2, h3, h4, fun z => h5 (l.own.mp z), h6⟩
  | sl i => exact h
theorem unlock_len : ∀ {lk : List Nat}, (unlock ρ lk).length = ρ.length
  | [] => rfl
  | i :: r => by
    unfold unlock
    split
    · rw [List.length_set]; exact unlock_len
    · exact unlock_len
theorem unlock_get : ∀ {lk : List Nat} {j : Nat} {s : Sl}, (unlock ρ lk)[j]? = some s → (j ∉ lk ∧ ρ[j]? = some s) ∨ (j ∈ lk ∧ ((∃ xs k, ρ[j]? = some (.own xs k) ∧ s = .own xs k.open_) ∨ ((∀ xs k, s ≠ .own xs k) ∧ ρ[j]? = some s)))
  | [], j, s, h => .inl ⟨by simp, h⟩
  | i :: r, j, s, h => by
    unfold unlock at h
    split at h
    · rename_i xs k hi
      rcases set_get h with ⟨rfl, z, _⟩ | ⟨nij, z⟩
      · refine .inr ⟨by simp, .inl ?_⟩
        rcases unlock_get (lk := r) hi with ⟨_, q⟩ | ⟨_, ⟨ys, k', q1, q2⟩ | ⟨q1, _⟩⟩
        · exact ⟨xs, k, q, z⟩
        · cases q2
          exact ⟨xs, k', q1, by rw [z]; cases k' <;> rfl⟩
        · exact absurd rfl (q1 xs k)
      · rcases unlock_get (lk := r) z with ⟨q1, q2⟩ | ⟨q1, q2⟩
        · exact .inl ⟨by simp [q1, Ne.symm nij], q2⟩
        · exact .inr ⟨by simp [q1], q2⟩
    · rename_i no
      rcases unlock_get (lk := r) h with ⟨q1, q2⟩ | ⟨q1, q2⟩
      · by_cases hij : j = i
        · subst hij
          refine .inr ⟨by simp, .inr ⟨fun xs k z => ?_, q2⟩⟩
          subst z
          exact no xs k h
        · exact .inl ⟨by simp [q1, hij], q2⟩
      · exact .inr ⟨by simp [q1], q2⟩
/-- behind a loop: from ahead of the lock to behind the unlocking -/
theorem Step.unlock (s : Step K H0 σ F H ρ σ F1 H1 ρP) (l : LockOf ρP ρL lk) {F2 H2 : Hp} {σ2 : St} (t : Step K H0 σ F1 H1 ρL σ2 F2 H2 ρE) : Step K H0 σ F H ρ σ2 F2 H2 (unlock ρE lk) := by
  have e := t.env
  -- a locked slot at the end
  have lkd : ∀ {j : Nat}, j ∈ lk → ∀ {xs : List D} {k : Kd}, (k = .mine ∨ k = .lent) → ρP[j]? = some (.own xs k) → ρE[j]? = some (.own xs k.lock) ∧ σ2[j]? = σ[j]? := fun {j} hj {xs k} hk hp => by
    rcases l.back hp with ⟨q, _⟩ | ⟨_, ys, k', _, q1, q2⟩
    · exact absurd hj q
    · cases q1
      have n1 : k.lock ≠ .mine := fun z => lock_ne hk (.inl z)
      have n2 : k.lock ≠ .lent := fun z => lock_ne hk (.inr z)
      obtain ⟨t1, xs', t2, t3⟩ := t.lk j xs k.lock q2 n1
      rw [t3 n2] at t2
      exact ⟨t2, t1⟩
  have rng : ∀ {j : Nat} {s : Sl}, j ∈ lk → (∃ u, ρL[j]? = some u) → ∃ xs k, (k = Kd.mine ∨ k = Kd.lent) ∧ ρP[j]? = some (.own xs k) := fun {j s} hj ⟨u, hu⟩ => by
    rcases l.2 j u hu with ⟨q, _⟩ | ⟨_, xs, k, k1, k2, _⟩
    · exact absurd hj q
    · exact ⟨xs, k, k1, k2⟩
  have ownU : ∀ {a : Addr}, OwnAt σ2 (Wk.unlock ρE lk) a → OwnAt σ2 ρE a := fun {a} ⟨i, xs, k, h1, h2⟩ => by
    rcases unlock_get h1 with ⟨_, q⟩ | ⟨_, ⟨ys, k', q1, q2⟩ | ⟨q1, q2⟩⟩
    · exact ⟨i, xs, k, q, h2⟩
    · exact ⟨i, ys, k', q1, h2⟩
    · exact absurd rfl (q1 xs k)
  have ownE : ∀ {i : Nat} {xs : List D} {k : Kd}, (Wk.unlock ρE lk)[i]? = some (.own xs k) → ∃ k', ρE[i]? = some (.own xs k') ∧ (k = .mine ∨ k = .lockM → k' = .mine ∨ k' = .lockM) := fun {i xs k} h => by
    rcases unlock_get h with ⟨_, q⟩ | ⟨_, ⟨ys, k', q1, q2⟩ | ⟨q1, q2⟩⟩
    · exact ⟨k, q, fun z => z⟩
    · cases q2
      refine ⟨k', q1, fun z => ?_⟩
      cases k' <;> first | exact .inl rfl | exact .inr rfl | (rcases z with z | z <;> cases z)
    · exact absurd rfl (q1 xs k)
  refine ⟨subH_trans s.fz t.fz, fun a o h n => ?_, fun a h => s.dm a (t.dm a h), fun a h m n => ?_, fun a h => ?_, fun i xs k h nk => ?_, ⟨e.sub, by rw [unlock_len]; exact e.len, fun i d h => ?_, fun i xs k h => ?_, fun i j a xs ys k k' h1 h2 => ?_, e.dom⟩⟩
  · have n1 : ¬ OwnAt σ ρP a := fun z => (s.ow a z).elim n fun w => by rw [h] at w; cases w
    exact t.hp a o (s.hp a o h n) fun z => n1 (l.own.mp z)
  · have n1 : ¬ OwnAt σ ρP a := fun z => (s.ow a z).elim n m
    exact t.nf a (s.nf a h m n) (fun z => m (s.dm a z)) fun z => n1 (l.own.mp z)
  · rcases t.ow a (ownU h) with z | z
    · exact s.ow a (l.own.mp z)
    · exact .inr (s.dm a z)
  · obtain ⟨s1, xs1, s2, s3⟩ := s.lk i xs k h nk
    rcases l.back s2 with ⟨q1, q2⟩ | ⟨q1, ys, k', k1, q2, q3⟩
    · obtain ⟨t1, xs2, t2, t3⟩ := t.lk i xs1 k q2 nk
      have hlt : i < (Wk.unlock ρE lk).length := by rw [unlock_len]; exact (List.getElem?_eq_some_iff.mp t2).1
      refine ⟨t1.trans s1, ?_⟩
      rcases unlock_get (List.getElem?_eq_getElem hlt) with ⟨_, w⟩ | ⟨w, _⟩
      · rw [t2] at w
        exact ⟨xs2, by rw [List.getElem?_eq_getElem hlt, ← w], fun z => (t3 z).trans (s3 z)⟩
      · exact absurd w q1
    · cases q2
      obtain ⟨w1, w2⟩ := lkd q1 k1 s2
      have hlt : i < (Wk.unlock ρE lk).length := by rw [unlock_len]; exact (List.getElem?_eq_some_iff.mp w1).1
      refine ⟨w2.trans s1, ?_⟩
      rcases unlock_get (List.getElem?_eq_getElem hlt) with ⟨w, _⟩ | ⟨_, ⟨ys', k'', r1, r2⟩ | ⟨r1, r2⟩⟩
      · exact absurd q1 w
      · rw [w1] at r1
        cases r1
        exact ⟨xs1, by rw [List.getElem?_eq_getElem hlt, r2, lock_open k1], s3⟩
      · rw [w1] at r2
        exact absurd (Option.some.inj r2).symm (r1 _ _)
  · rcases unlock_get h with ⟨_, q⟩ | ⟨_, ⟨ys, k', q1, q2⟩ | ⟨q1, q2⟩⟩
    · exact e.val i d q
    · cases q2
    · exact e.val i d q2
  · obtain ⟨k', q1, q2⟩ := ownE h
    obtain ⟨a, vs, w1, w2, w3, w4, w5⟩ := e.own i xs k' q1
    exact ⟨a, vs, w1, w2, w3, w4, fun z => w5 (q2 z)⟩
  · obtain ⟨l1, q1, _⟩ := ownE h1
    obtain ⟨l2, q2, _⟩ := ownE h2
    exact e.sep i j a _ _ _ _ q1 q2
theorem RvOk.unlock {Hs : Hp} {v : V} {r : RV} (h : RvOk K H0 Hs F σ H ρE v r) : RvOk K H0 Hs F σ H (Wk.unlock ρE lk) v r := by
  cases r with
  | val d => exact h
  | tmp xs =>
    obtain ⟨a, vs, h1, h2, h3, h4, h5, h6⟩ := h
    refine ⟨a, vs, h1, h2, h3, h4, fun ⟨i, ys, k, g1, g2⟩ => h5 ?_, h6⟩
    rcases unlock_get g1 with ⟨_, q⟩ | ⟨_, ⟨zs, k', q1, q2⟩ | ⟨q1, q2⟩⟩
    · exact ⟨i, ys, k, q, g2⟩
    · exact ⟨i, zs, k', q1, g2⟩
    · exact absurd rfl (q1 ys k)
  | sl i => exact h
end

/-! ### a walked list or tuple -/
structure SrcOk (p : Par) (isL : Bool) (a : Addr) (ds : List D) (G : Hp → St → Hp → Fm → Prop) : Prop where
  sq : ∀ F σ H ρ, EnvOk p.K p.H0 F σ H ρ → G F σ H ρ → ∃ vs, (if isL = true then SqL p.K H a vs else SqT p.K H a vs) ∧ DqAll p.K F vs ds
  keep : ∀ σ F H ρ σ' F' H' ρ', Stp p σ F H ρ σ' F' H' ρ' → G F σ H ρ → G F' σ' H' ρ'
  lck : ∀ F σ H ρ ρL lk, LockOf ρ ρL lk → G F σ H ρ → G F σ H ρL
section
variable {p : Par} {σ : St} {F H Hs : Hp} {ρ ρL : Fm} {v : V} {r : RV} {ds : List D} {lk : List Nat}
theorem src_val {d : D} (h : Dq p.K F v d) (hd : d = .list ds) : ∃ a, v = .ref a ∧ ∃ G, SrcOk p true a ds G ∧ G F σ H ρ := by
  subst hd
  cases h with
  | @lst a vs _ h1 h2 =>
    refine ⟨a, rfl, fun F _ _ _ => ∃ vs, Lx p.K F a vs ∧ DqAll p.K F vs ds, ⟨fun F σ H ρ e ⟨ws, w1, w2⟩ => ⟨ws, ?_, w2⟩, fun _ _ _ _ _ _ _ _ s ⟨ws, w1, w2⟩ => ⟨ws, lx_mono s.fz w1, dqAll_mono s.fz _ _ w2⟩, fun _ _ _ _ _ _ _ h => h⟩, ⟨vs, h1, h2⟩⟩
    rw [if_pos rfl]
    exact lx_sq (lx_mono e.sub w1)
theorem src_tup {d : D} (h : Dq p.K F v d) (hd : d = .tuple ds) : ∃ a, v = .ref a ∧ ∃ G, SrcOk p false a ds G ∧ G F σ H ρ := by
  subst hd
  cases h with
  | @tup a vs _ h1 h2 =>
    refine ⟨a, rfl, fun F _ _ _ => ∃ vs, SqT p.K F a vs ∧ DqAll p.K F vs ds, ⟨fun F σ H ρ e ⟨ws, w1, w2⟩ => ⟨ws, ?_, w2⟩, fun _ _ _ _ _ _ _ _ s ⟨ws, w1, w2⟩ => ⟨ws, sqT_mono s.fz w1, dqAll_mono s.fz _ _ w2⟩, fun _ _ _ _ _ _ _ h => h⟩, ⟨vs, h1, h2⟩⟩
    rw [if_neg (by decide)]
    exact sqT_mono e.sub w1
theorem src_own {i : Nat} {a : Addr} {k : Kd} (k1 : k ≠ .mine) (k2 : k ≠ .lent) (hi : ρ[i]? = some (.own ds k)) (ha : σ[i]? = some (some (V.ref a))) : ∃ G, SrcOk p true a ds G ∧ G F σ H ρ := by
  refine ⟨fun _ σ _ ρ => σ[i]? = some (some (V.ref a)) ∧ ∃ k, k ≠ Kd.mine ∧ k ≠ Kd.lent ∧ ρ[i]? = some (.own ds k), ⟨fun F σ H ρ e ⟨w1, k, w2, w3, w4⟩ => ?_, fun σ F H ρ σ' F' H' ρ' s ⟨w1, k, w2, w3, w4⟩ => ?_, fun F σ H ρ ρL lk l ⟨w1, k, w2, w3, w4⟩ => ?_⟩, ⟨ha, k, k1, k2, hi⟩⟩
  · obtain ⟨b, vs, z1, z2, z3, _⟩ := e.own i ds k w4
    rw [w1] at z1
    cases z1
    exact ⟨vs, by rw [if_pos rfl]; exact SqL.of z2, z3⟩
  · obtain ⟨t1, xs, t2, t3⟩ := s.lk i ds k w4 w2
    rw [t3 w3] at t2
    exact ⟨t1.trans w1, k, w2, w3, t2⟩
  · rcases l.back w4 with ⟨_, q⟩ | ⟨_, xs, k', q1, q2, _⟩
    · exact ⟨w1, k, w2, w3, q⟩
    · cases q2
      exact absurd q1 (fun z => z.elim w2 w3)
theorem src_tmp (h : RvOk p.K p.H0 Hs F σ H ρ v (.tmp ds)) : ∃ a, v = .ref a ∧ ∃ G, SrcOk p true a ds G ∧ G F σ H ρ := by
  obtain ⟨a, vs, rfl, h1, h2, h3, h4, _⟩ := h
  refine ⟨a, rfl, fun F σ H ρ => ∃ vs, H a = some (.lst vs) ∧ DqAll p.K F vs ds ∧ ¬ OwnAt σ ρ a, ⟨fun F σ H ρ e ⟨ws, w1, w2, _⟩ => ⟨ws, by rw [if_pos rfl]; exact SqL.of w1, w2⟩, fun σ F H ρ σ' F' H' ρ' s ⟨ws, w1, w2, w3⟩ => ⟨ws, s.hp a _ w1 w3, dqAll_mono s.fz _ _ w2, fun z => (s.ow a z).elim w3 fun q => by rw [w1] at q; cases q⟩,
    fun F σ H ρ ρL lk l ⟨ws, w1, w2, w3⟩ => ⟨ws, w1, w2, fun z => w3 (l.own.mp z)⟩⟩, ⟨vs, h1, h2, h4⟩⟩
theorem lockR_ok (e : EnvOk p.K p.H0 F σ H ρ) (h : RvOk p.K p.H0 Hs F σ H ρ v r) (q : lockR r ρ = some (ds, ρL, lk)) : LockOf ρ ρL lk ∧ ∃ isL a, kindR r ρ = some isL ∧ v = .ref a ∧ ∃ G, SrcOk p isL a ds G ∧ G F σ H ρL := by
  cases r with
  | val d =>
    cases d <;> try (simp [lockR] at q; done)
    · simp only [lockR, Option.some.injEq, Prod.mk.injEq] at q
      obtain ⟨rfl, rfl, rfl⟩ := q
      obtain ⟨a, h1, G, h2⟩ := src_val (σ := σ) (H := H) (ρ := ρ) h rfl
      exact ⟨.refl _, true, a, rfl, h1, G, h2⟩
    · simp only [lockR, Option.some.injEq, Prod.mk.injEq] at q
      obtain ⟨rfl, rfl, rfl⟩ := q
      obtain ⟨a, h1, G, h2⟩ := src_tup (σ := σ) (H := H) (ρ := ρ) h rfl
      exact ⟨.refl _, false, a, rfl, h1, G, h2⟩
  | tmp xs =>
    simp only [lockR, Option.some.injEq, Prod.mk.injEq] at q
    obtain ⟨rfl, rfl, rfl⟩ := q
    obtain ⟨a, h1, G, h2⟩ := src_tmp h
    exact ⟨.refl _, true, a, rfl, h1, G, h2⟩
  | sl i =>
    have h : σ[i]? = some (some v) := h
    unfold lockR at q
    dsimp only at q
    unfold kindR
    dsimp only
    split at q
    · rename_i xs hd
      simp only [Option.some.injEq, Prod.mk.injEq] at q
      obtain ⟨rfl, rfl, rfl⟩ := q
      obtain ⟨w, w1, w2⟩ := e.val i _ hd
      rw [h] at w1
      cases w1
      obtain ⟨a, h1, G, h2⟩ := src_val (σ := σ) (H := H) (ρ := ρ) w2 rfl
      exact ⟨.refl _, true, a, rfl, h1, G, h2⟩
    · rename_i xs hd
      simp only [Option.some.injEq, Prod.mk.injEq] at q
      obtain ⟨rfl, rfl, rfl⟩ := q
      obtain ⟨w, w1, w2⟩ := e.val i _ hd
      rw [h] at w1
      cases w1
      obtain ⟨a, h1, G, h2⟩ := src_tup (σ := σ) (H := H) (ρ := ρ) w2 rfl
      exact ⟨.refl _, false, a, rfl, h1, G, h2⟩
    · rename_i xs k hd
      obtain ⟨a, vs, w1, w2, w3, _⟩ := e.own i xs k hd
      rw [h] at w1
      cases w1
      have ilt : i < ρ.length := (List.getElem?_eq_some_iff.mp hd).1
      split at q
      · rename_i hk
        simp only [Option.some.injEq, Prod.mk.injEq] at q
        obtain ⟨rfl, rfl, rfl⟩ := q
        have l : LockOf ρ (ρ.set i (.own xs k.lock)) [i] := ⟨by rw [List.length_set], fun j s hj => by
          rcases set_get hj with ⟨rfl, z, _⟩ | ⟨n, z⟩
          · exact .inr ⟨by simp, xs, k, hk, hd, z⟩
          · exact .inl ⟨by simpa using Ne.symm n, z⟩⟩
        obtain ⟨G, g⟩ := src_own (p := p) (F := F) (H := H) (i := i) (σ := σ) (ρ := ρ.set i (.own xs k.lock)) (ds := xs) (a := a) (k := k.lock) (fun z => lock_ne hk (.inl z)) (fun z => lock_ne hk (.inr z)) (List.getElem?_set_self ilt) h
        exact ⟨l, true, a, rfl, rfl, G, g⟩
      · rename_i hk
        simp only [Option.some.injEq, Prod.mk.injEq] at q
        obtain ⟨rfl, rfl, rfl⟩ := q
        obtain ⟨G, g⟩ := src_own (p := p) (F := F) (H := H) (i := i) (σ := σ) (ρ := ρ) (ds := xs) (a := a) (k := k) (fun z => hk (.inl z)) (fun z => hk (.inr z)) hd h
        exact ⟨.refl _, true, a, rfl, rfl, G, g⟩
    · cases q
end

/-! ### a walk -/
structure ItOk (p : Par) (J : It) (ds : List D) (G : Hp → St → Hp → Fm → Prop) : Prop where
  go : ∀ i F σ H ρ, i < ds.length → EnvOk p.K p.H0 F σ H ρ → G F σ H ρ → J.go i H
  stop : ∀ F σ H ρ, EnvOk p.K p.H0 F σ H ρ → G F σ H ρ → J.stop ds.length H
  yld : ∀ i F σ H ρ x H', i < ds.length → EnvOk p.K p.H0 F σ H ρ → G F σ H ρ → J.yld i H x H' → ∃ F' d, Stp p σ F H ρ σ F' H' ρ ∧ ds[i]? = some d ∧ Dq p.K F' x d
  keep : ∀ σ F H ρ σ' F' H' ρ', Stp p σ F H ρ σ' F' H' ρ' → G F σ H ρ → G F' σ' H' ρ'
section
variable {p : Par} {a b : Addr} {ds es : List D} {G G2 : Hp → St → Hp → Fm → Prop}
theorem it_list (s : SrcOk p true a ds G) : ItOk p (Itl p.K a) ds G where
  go := fun i F σ H ρ hi e g => by
    obtain ⟨vs, h1, h2⟩ := s.sq F σ H ρ e g
    rw [if_pos rfl] at h1
    obtain ⟨v, hv, _⟩ := dqAll_get h2 (List.getElem?_eq_getElem hi)
    exact ⟨vs, v, h1, hv⟩
  stop := fun F σ H ρ e g => by
    obtain ⟨vs, h1, h2⟩ := s.sq F σ H ρ e g
    rw [if_pos rfl] at h1
    exact ⟨vs, h1, Nat.le_of_eq (dqAll_len h2)⟩
  yld := fun i F σ H ρ x H' hi e g y => by
    obtain ⟨vs, h1, h2⟩ := s.sq F σ H ρ e g
    rw [if_pos rfl] at h1
    obtain ⟨rfl, y2⟩ := y
    obtain ⟨d, hd, hx⟩ := dqAll_get' h2 (y2 vs h1)
    exact ⟨F, d, .refl e, hd, hx⟩
  keep := s.keep
theorem it_tup (s : SrcOk p false a ds G) : ItOk p (Itt p.K a) ds G where
  go := fun i F σ H ρ hi e g => by
    obtain ⟨vs, h1, h2⟩ := s.sq F σ H ρ e g
    rw [if_neg (by decide)] at h1
    obtain ⟨v, hv, _⟩ := dqAll_get h2 (List.getElem?_eq_getElem hi)
    exact ⟨vs, v, h1, hv⟩
  stop := fun F σ H ρ e g => by
    obtain ⟨vs, h1, h2⟩ := s.sq F σ H ρ e g
    rw [if_neg (by decide)] at h1
    exact ⟨vs, h1, Nat.le_of_eq (dqAll_len h2)⟩
  yld := fun i F σ H ρ x H' hi e g y => by
    obtain ⟨vs, h1, h2⟩ := s.sq F σ H ρ e g
    rw [if_neg (by decide)] at h1
    obtain ⟨rfl, y2⟩ := y
    obtain ⟨d, hd, hx⟩ := dqAll_get' h2 (y2 vs h1)
    exact ⟨F, d, .refl e, hd, hx⟩
  keep := s.keep
theorem it_rng (lo c : Int) (n : Nat) : ItOk p (Itc lo c n) (rangeL lo c n) (fun _ _ _ _ => True) where
  go := fun i F σ H ρ hi e g => by
    have : i < n := by simpa [rangeL] using hi
    exact this
  stop := fun F σ H ρ e g => by
    have : n ≤ (rangeL lo c n).length := by simp [rangeL]
    exact this
  yld := fun i F σ H ρ x H' hi e g y => by
    obtain ⟨rfl, rfl⟩ := y
    have hn : i < n := by simpa [rangeL] using hi
    refine ⟨F, .int (lo + (i : Nat) * c), .refl e, ?_, .int _⟩
    simp [rangeL, hn]
  keep := fun _ _ _ _ _ _ _ _ _ g => g
theorem it_rng1 (lo : Int) (n : Nat) : ItOk p (Itr lo n) (rangeL lo 1 n) (fun _ _ _ _ => True) where
  go := fun i F σ H ρ hi e g => by
    have : i < n := by simpa [rangeL] using hi
    exact this
  stop := fun F σ H ρ e g => by
    have : n ≤ (rangeL lo 1 n).length := by simp [rangeL]
    exact this
  yld := fun i F σ H ρ x H' hi e g y => by
    obtain ⟨rfl, rfl⟩ := y
    have hn : i < n := by simpa [rangeL] using hi
    refine ⟨F, .int (lo + (i : Nat)), .refl e, ?_, .int _⟩
    simp [rangeL, hn]
  keep := fun _ _ _ _ _ _ _ _ _ g => g
theorem zipD_get : ∀ {ds es : List D} {i : Nat} {x y : D}, ds[i]? = some x → es[i]? = some y → (zipD ds es)[i]? = some (.tuple [x, y])
  | a :: as, b :: bs, 0, x, y, h1, h2 => by
    simp at h1 h2
    subst h1 h2
    rfl
  | a :: as, b :: bs, i + 1, x, y, h1, h2 => zipD_get (ds := as) (es := bs) (i := i) (by simpa using h1) (by simpa using h2)
  | [], _, _, _, _, h1, _ => by simp at h1
  | _ :: _, [], _, _, _, _, h2 => by simp at h2
theorem zipD_len : ∀ {ds es : List D}, (zipD ds es).length = min ds.length es.length
  | [], es => by simp [zipD]
  | _ :: _, [] => by simp [zipD]
  | a :: as, b :: bs => by
    simp only [zipD, List.length_cons, zipD_len (ds := as) (es := bs)]
    omega
theorem pair_new {σ : St} {F H : Hp} {ρ : Fm} {T : Addr} {x y : V} {d e : D} (en : EnvOk p.K p.H0 F σ H ρ) (hT : H T = none) (h1 : Dq p.K F x d) (h2 : Dq p.K F y e) :
    Stp p σ F H ρ σ (upd F T (.tup [x, y])) (upd H T (.tup [x, y])) ρ ∧ Dq p.K (upd F T (.tup [x, y])) (.ref T) (.tuple [d, e]) :=
  ⟨(Step.refl en).newF hT, dq_newTup en.sub hT (.cons h1 (.cons h2 .nil))⟩
theorem it_zip (s : SrcOk p true a ds G) (t : SrcOk p true b es G2) : ItOk p (Itz p.K a b) (zipD ds es) (fun F σ H ρ => G F σ H ρ ∧ G2 F σ H ρ) where
  go := fun i F σ H ρ hi e g => by
    rw [zipD_len] at hi
    obtain ⟨vs, h1, h2⟩ := s.sq F σ H ρ e g.1
    obtain ⟨us, k1, k2⟩ := t.sq F σ H ρ e g.2
    rw [if_pos rfl] at h1 k1
    obtain ⟨v, hv, _⟩ := dqAll_get h2 (List.getElem?_eq_getElem (show i < ds.length by omega))
    obtain ⟨u, hu, _⟩ := dqAll_get k2 (List.getElem?_eq_getElem (show i < es.length by omega))
    exact ⟨vs, us, v, u, h1, k1, hv, hu⟩
  stop := fun F σ H ρ e g => by
    obtain ⟨vs, h1, h2⟩ := s.sq F σ H ρ e g.1
    obtain ⟨us, k1, k2⟩ := t.sq F σ H ρ e g.2
    rw [if_pos rfl] at h1 k1
    refine ⟨vs, us, h1, k1, ?_⟩
    rw [dqAll_len h2, dqAll_len k2, zipD_len]
    omega
  yld := fun i F σ H ρ x H' hi e g y => by
    obtain ⟨vs, h1, h2⟩ := s.sq F σ H ρ e g.1
    obtain ⟨us, k1, k2⟩ := t.sq F σ H ρ e g.2
    rw [if_pos rfl] at h1 k1
    obtain ⟨T, u, w, rfl, hT, rfl, y1, y2⟩ := y
    obtain ⟨d, hd, hx⟩ := dqAll_get' h2 (y1 vs h1)
    obtain ⟨d2, hd2, hx2⟩ := dqAll_get' k2 (y2 us k1)
    obtain ⟨q1, q2⟩ := pair_new e hT hx hx2
    exact ⟨_, _, q1, zipD_get hd hd2, q2⟩
  keep := fun _ _ _ _ _ _ _ _ st g => ⟨s.keep _ _ _ _ _ _ _ _ st g.1, t.keep _ _ _ _ _ _ _ _ st g.2⟩
theorem it_zipT (s : SrcOk p false a ds G) (t : SrcOk p false b es G2) : ItOk p (RZ.ItzT p.K a b) (zipD ds es) (fun F σ H ρ => G F σ H ρ ∧ G2 F σ H ρ) where
  go := fun i F σ H ρ hi e g => by
    rw [zipD_len] at hi
    obtain ⟨vs, h1, h2⟩ := s.sq F σ H ρ e g.1
    obtain ⟨us, k1, k2⟩ := t.sq F σ H ρ e g.2
    rw [if_neg (by decide)] at h1 k1
    obtain ⟨v, hv, _⟩ := dqAll_get h2 (List.getElem?_eq_getElem (show i < ds.length by omega))
    obtain ⟨u, hu, _⟩ := dqAll_get k2 (List.getElem?_eq_getElem (show i < es.length by omega))
    exact ⟨vs, us, v, u, h1, k1, hv, hu⟩
  stop := fun F σ H ρ e g => by
    obtain ⟨vs, h1, h2⟩ := s.sq F σ H ρ e g.1
    obtain ⟨us, k1, k2⟩ := t.sq F σ H ρ e g.2
    rw [if_neg (by decide)] at h1 k1
    refine ⟨vs, us, h1, k1, ?_⟩
    rw [dqAll_len h2, dqAll_len k2, zipD_len]
    omega
  yld := fun i F σ H ρ x H' hi e g y => by
    obtain ⟨vs, h1, h2⟩ := s.sq F σ H ρ e g.1
    obtain ⟨us, k1, k2⟩ := t.sq F σ H ρ e g.2
    rw [if_neg (by decide)] at h1 k1
    obtain ⟨T, u, w, rfl, hT, rfl, y1, y2⟩ := y
    obtain ⟨d, hd, hx⟩ := dqAll_get' h2 (y1 vs h1)
    obtain ⟨d2, hd2, hx2⟩ := dqAll_get' k2 (y2 us k1)
    obtain ⟨q1, q2⟩ := pair_new e hT hx hx2
    exact ⟨_, _, q1, zipD_get hd hd2, q2⟩
  keep := fun _ _ _ _ _ _ _ _ st g => ⟨s.keep _ _ _ _ _ _ _ _ st g.1, t.keep _ _ _ _ _ _ _ _ st g.2⟩
theorem enumD_get : ∀ {ds : List D} {n i : Nat} {x : D}, ds[i]? = some x → (enumD n ds)[i]? = some (.tuple [.int ((n + i : Nat) : Int), x])
  | a :: as, n, 0, x, h => by
    simp at h
    subst h
    rfl
  | a :: as, n, i + 1, x, h => by
    have := enumD_get (ds := as) (n := n + 1) (i := i) (x := x) (by simpa using h)
    have e : n + 1 + i = n + (i + 1) := by omega
    rw [e] at this
    exact this
  | [], _, _, _, h => by simp at h
theorem enumD_len : ∀ {ds : List D} {n : Nat}, (enumD n ds).length = ds.length
  | [], _ => rfl
  | a :: as, n => by simp [enumD, enumD_len (ds := as)]
theorem it_enum (s : SrcOk p true a ds G) : ItOk p (Ite p.K a) (enumD 0 ds) G where
  go := fun i F σ H ρ hi e g => by
    rw [enumD_len] at hi
    obtain ⟨vs, h1, h2⟩ := s.sq F σ H ρ e g
    rw [if_pos rfl] at h1
    obtain ⟨v, hv, _⟩ := dqAll_get h2 (List.getElem?_eq_getElem hi)
    exact ⟨vs, v, h1, hv⟩
  stop := fun F σ H ρ e g => by
    obtain ⟨vs, h1, h2⟩ := s.sq F σ H ρ e g
    rw [if_pos rfl] at h1
    exact ⟨vs, h1, Nat.le_of_eq (by rw [dqAll_len h2, enumD_len])⟩
  yld := fun i F σ H ρ x H' hi e g y => by
    obtain ⟨vs, h1, h2⟩ := s.sq F σ H ρ e g
    rw [if_pos rfl] at h1
    obtain ⟨T, u, rfl, hT, rfl, y1⟩ := y
    obtain ⟨d, hd, hx⟩ := dqAll_get' h2 (y1 vs h1)
    obtain ⟨q1, q2⟩ := pair_new e hT (.int ((i : Nat) : Int)) hx
    exact ⟨_, _, q1, by have := enumD_get (n := 0) hd; rwa [Nat.zero_add] at this, q2⟩
  keep := s.keep
end
end Wk

/-! The walk layer, part 9b: enumerate over a tuple. -/
namespace Wk
open PySem PySem.Spec L2 PyProof.Rows
section
variable {prog : Program} {w : World} {A : Around} {E : Value → Shared → Prop} {s : Shared}
theorem meets_en1 {v : Value} {o : Obj} {T : Heap → Prop} (B : Begins v o T) :
    Meets (Builtin.«enumerate.__new__» ⟨[.type "enumerate", v], []⟩) fun _ R s => T s.heap ∧
      R (.ok (.ret (.ref (s.heap.push o).objs.size))) { s with heap := (s.heap.push o).push ⟨.type "enumerate", none, .fields #[.none, .bool false, .ref s.heap.objs.size, rawInt 0, .none, .none], #[]⟩ } :=
  .of_wp fun prog w A R s h => by
    obtain ⟨hp, g, d, tk, os⟩ := s
    obtain ⟨h1, h⟩ := h
    have hsub := sub_enumerate
    have it1 : ∀ {A' : Around} {E : Value → Shared → Prop} {Q : Value → Shared → Prop}, Q (.ref hp.objs.size) ⟨hp.push o, g, d, tk, os⟩ → wpAny (model prog w) A' (pyIter v) Q E ⟨hp, g, d, tk, os⟩ :=
      fun z => B.iter prog w _ _ ⟨hp, g, d, tk, os⟩ _ h1 z
    wp_walk using it1
    refine wpAny_stack_any fun _ => wpAny_pure ?_
    split
    case h_1 =>
      rename_i c _ _ _ _ _
      cases (c == Value.type "enumerate") <;> (wp_walk using it1; exact ⟨_, rfl, h⟩)
    all_goals (wp_walk using it1; exact ⟨_, rfl, h⟩)
theorem call_en1 {v : Value} {o : Obj} {T : Heap → Prop} {Q : Value → Shared → Prop} (B : Begins v o T) (h1 : T s.heap)
    (h : ∀ h', IsEnum h' (s.heap.objs.size + 1) s.heap.objs.size 0 .none → h'.get? s.heap.objs.size = some o → (∀ b u, s.heap.get? b = some u → h'.get? b = some u) →
      Q (.ref (s.heap.objs.size + 1)) { s with heap := h' }) : wpAny (model prog w) A (call (.type "enumerate") [v]) Q E s := by
  refine callType_new F.called_enumerate (by decide) (F.typeCall_enumerate_1 _) (F.newCall_enumerate_1 _) (fun ob => F.args_object_init_2 ob _) F.entry_enumerate_new (meets_en1 B) ⟨h1, ?_⟩
  have hz : (s.heap.push o).objs.size = s.heap.objs.size + 1 := Heap.size_push ..
  refine ⟨⟨_, Heap.get?_push_size _ rfl, rfl⟩, ?_⟩
  · have he := Heap.get?_push_size (s.heap.push o) (o := ⟨.type "enumerate", none, .fields #[.none, .bool false, .ref s.heap.objs.size, rawInt 0, .none, .none], #[]⟩) rfl
    have hq := h _ (by rw [hz] at he; exact he) (Heap.get?_push_of_some _ (Heap.get?_push_size _ B.free)) fun b u x => Heap.get?_push_of_some _ (Heap.get?_push_of_some _ x)
    rw [← hz] at hq
    exact hq
end
/-- the tuple at a, each item in a new pair with its place -/
def IteT (K : PySem.W.Frag) (a : Addr) : It where
  go := fun i H => ∃ xs x, SqT K H a xs ∧ xs[i]? = some x
  yld := fun i H v H' => ∃ P x, v = .ref P ∧ H P = none ∧ H' = upd H P (.tup [.int (i : Nat), x]) ∧ ∀ ys, SqT K H a ys → ys[i]? = some x
  stop := fun i H => ∃ xs, SqT K H a xs ∧ xs.length ≤ i
theorem turn_enT {P : Program} {w : World} {K : PySem.W.Frag} {elts : List Expr} {kk : Nat} {tpos : Pos} (a e it : Addr) :
    Turn P w K (.Tuple elts kk tpos) (IteT K a) [e, it] e (fun i h => (∃ u, IsEnum h e it ((i : Nat) : Int) u) ∧ (h.IsTupleIter it a i ∧ e ≠ it)) where
  mem := List.mem_cons_self ..
  obj := fun i h st b hb => by
    obtain ⟨⟨u, he⟩, ⟨o, ho, _, hd⟩, _⟩ := st
    rcases List.mem_cons.mp hb with z | z
    · exact ⟨_, z ▸ he, fun _ q => by cases q⟩
    · exact ⟨o, List.mem_singleton.mp z ▸ ho, fun _ q => by rw [hd] at q; cases q⟩
  keep := fun i h h' st k => ⟨st.1.imp fun _ he => k e (by simp) _ he, st.2.1.at fun o q => k it (by simp) o q, st.2.2⟩
  item := fun X hP hw hK hc i pins s σ H E I hf st hg => by
    subst hP hw hK
    obtain ⟨⟨u, he⟩, hit, hne⟩ := st
    obtain ⟨xs, x, hq, hx⟩ := hg
    obtain ⟨its, rv, p, hz⟩ := I.tuple hq
    have p : s.heap.IsTuple a its.toArray := p
    obtain ⟨v, hv, rr⟩ := rv.get hx
    have hta : a ≠ it := fun z => by
      obtain ⟨o1, w1, _, w2⟩ := hit
      obtain ⟨o2, w3, _, n, w4⟩ := p
      rw [← z, w3] at w1
      cases w1
      rw [w4] at w2
      cases w2
    have hea : e ≠ a := fun z => by
      obtain ⟨o2, w3, _, n, w4⟩ := p
      have he' := he
      unfold IsEnum at he'
      rw [z, w3] at he'
      cases he'
      cases w4
    have hd1 : X.A.in1.handled = none := I.ok.hd hc
    have hlt : i < its.toArray.size := by
      have := (List.getElem?_eq_some_iff.mp hv).1
      simpa using this
    have hel := Heap.lt_size he
    have hil : it < s.heap.objs.size := by
      obtain ⟨_, q, _⟩ := hit
      exact Heap.lt_size q
    refine wpAny_pyNext_enum_itemC (Draws.tuple hd1 it a hta its.toArray) he ⟨hit, p⟩ hlt hne (by simp [hne, hea]) fun y h' tk hy ho st' hT hsz hk => ?_
    have hy : y = v := by
      have : its.toArray[i]? = some v := by simpa using hv
      rw [this] at hy
      exact (Option.some.inj hy).symm
    subst hy
    refine ⟨_, rfl, wpAny_letOwnedTupleGo_enum (s := ⟨h', s.gens, s.drawn, tk + 1, s.os⟩) ho fun h2 he2 sb => ?_⟩
    have nel : s.heap.objs.size ≠ e := Nat.ne_of_gt hel
    have nw : ObjOk X.prog X.w (upd H s.heap.objs.size (.tup [.int (i : Nat), x])) h2 s.heap.objs.size (.tup [.int (i : Nat), x]) :=
      ⟨show 2 ≤ sizeLine by decide, [.int i tk, y], .cons ⟨_, rfl⟩ (.cons rr .nil), ⟨_, (sb.2 _ nel).trans hT, rfl, _, rfl⟩⟩
    have J : Inv X pins σ (upd H s.heap.objs.size (.tup [.int (i : Nat), x])) ⟨h2, s.gens, s.drawn, tk + 1, s.os⟩ :=
      Inv.turnedNew (ch := [e, it]) I (fun b o hb q => by
        have n1 : b ≠ e := fun z => hb (by simp [z])
        have n2 : b ≠ it := fun z => hb (by simp [z])
        exact (sb.2 b n1).trans (hk b o n1 n2 q)) hf (Nat.le_refl _) nw
    have nx : ((i + 1 : Nat) : Int) = (i : Int) + 1 := by omega
    refine ⟨.ref s.heap.objs.size, _, J, rfl, ⟨_, x, rfl, I.hok.fresh (Nat.le_refl _), rfl, fun ys hy => by rw [I.tuple_inj hy hq]; exact hx⟩, ⟨⟨y, nx ▸ he2⟩, st'.1.at fun o q => (sb.2 it (Ne.symm hne)).trans q, hne⟩, fun b hb => ?_⟩
    have hb2 : b < s.heap.objs.size := by
      rcases List.mem_cons.mp hb with z | z
      · exact z ▸ hel
      · exact List.mem_singleton.mp z ▸ hil
    exact (upd_ne (Nat.ne_of_lt hb2)).trans (hf b hb).1
  done := fun X hP hw hK hc i pins s σ H E I hf st hg => by
    subst hP hw hK
    obtain ⟨⟨u, he⟩, hit, hne⟩ := st
    obtain ⟨xs, hq, hx⟩ := hg
    obtain ⟨its, rv, p, hz⟩ := I.tuple hq
    have p : s.heap.IsTuple a its.toArray := p
    obtain ⟨f0, f1, f2, f3, f4, f5⟩ := hf it (by simp)
    have hd1 : X.A.in1.handled = none := I.ok.hd hc
    have hl := rv.length
    unfold pyNext
    have hT : s.TypeIs (.ref e) "enumerate" := ⟨_, he, rfl⟩
    refine wpAny_bind (wpAny_attempt (wpAny_callSpecial?_slot (name := Str.ofString "__next__") hT F.slot_enumerate_next (wpAny_call_entry F.slot_enumerate_next hT F.entry_enumerate_next ?_ (F.args_enumerate_next_1 _))))
    show wpAny _ _ (field (.ref e) 2 >>= _) _ _ _
    refine wpAny_bind (wpAny_field he rfl (x := .ref it) rfl (wpAny_bind (wpAny_nextOf_tuple_end hd1 hit p (by simp; omega) fun h' y xb xc => ?_)))
    obtain ⟨o, ho, hc⟩ := xc
    refine wpAny_bind (wpAny_isInstance (T := "StopIteration") (b := true) ⟨o, ho, hc⟩ isSubtype_stop (wpAny_pure ⟨rfl, ?_⟩))
    exact I.turned (t' := s.toks) (fun b u hb q => xb b u hb q) f0 f1 f3 f4 f5
  self := fun A i s Q E st h => let ⟨⟨_, he⟩, _⟩ := st; wpAny_pyIter_enum he h
def iEnT (K : PySem.W.Frag) (ta : TA) : TI := fun σ H R => ta σ H fun vs H1 => ∃ a, vs = [.ref a] ∧ (((∃ xs, SqL K H1 a xs) ∧ R (Ite K a) H1) ∨ ((∃ xs, SqT K H1 a xs) ∧ R (IteT K a) H1))
theorem pi_enT {X : Cx} {e : Expr} {ta : TA} {p pos tpos : Pos} {elts : List Expr} {kk : Nat} (hg : Gl X "enumerate") (hm : X.mg "enumerate" = none) (ha : PA X [e] ta) (hs : starEach [e] X.env = [(false, eval e X.env)]) :
    PI X (.Tuple elts kk tpos) (.Call (.Name "enumerate" p) [e] [] pos) (iEnT X.K ta) := by
  refine ⟨fun pins s σ H R I h => Call_ (ld_blt I hg hm boot_enumerate (PyProof.Rows.callWith_type1 (thn (ha.run pos pins s σ H _ I h) fun us s1 q1 => ?_) hs rfl))⟩
  obtain ⟨vs, H1, I1, r1, a, ex, q⟩ := q1
  subst ex
  cases r1 with
  | cons r rr =>
    cases rr
    cases r
    have fp : ∀ b ∈ [s1.heap.objs.size + 1, s1.heap.objs.size], FpOk X pins H1 b := fun b hb => by
      have le : s1.heap.objs.size ≤ b := by
        rcases List.mem_cons.mp hb with z | z
        · exact z ▸ Nat.le_succ _
        · exact Nat.le_of_eq (List.mem_singleton.mp z).symm
      exact I1.fpOk le (I1.hok.fresh le)
    rcases q with ⟨⟨xs, hq⟩, q⟩ | ⟨⟨xs, hq⟩, q⟩
    · obtain ⟨its, rv, pl, hz⟩ := I1.list hq
      exact call_enumerate_list pl.isList fun h' he hit _ hk => wpAny_pyIter_enum he ⟨_, _, _, _, H1, rfl, I1.kept (t' := s1.toks) hk, turn_enum a (s1.heap.objs.size + 1) s1.heap.objs.size, ⟨⟨.none, he⟩, hit, Nat.succ_ne_self _⟩, fp, q⟩
    · obtain ⟨its, rv, pl, hz⟩ := I1.tuple hq
      have pl : s1.heap.IsTuple a its.toArray := pl
      exact call_en1 (begins_tuple a its.toArray) pl fun h' he hit hk => wpAny_pyIter_enum he ⟨_, _, _, _, H1, rfl, I1.kept (t' := s1.toks) hk, turn_enT a (s1.heap.objs.size + 1) s1.heap.objs.size, ⟨⟨.none, he⟩, ⟨_, hit, rfl, rfl⟩, Nat.succ_ne_self _⟩, fp, q⟩
section
variable {p : Par} {a b : Addr} {ds es : List D} {G : Hp → L2.St → Hp → Fm → Prop}
theorem it_enT (s : SrcOk p false a ds G) : ItOk p (IteT p.K a) (enumD 0 ds) G where
  go := fun i F σ H ρ hi e g => by
    rw [enumD_len] at hi
    obtain ⟨vs, h1, h2⟩ := s.sq F σ H ρ e g
    rw [if_neg (by decide)] at h1
    obtain ⟨v, hv, _⟩ := dqAll_get h2 (List.getElem?_eq_getElem hi)
    exact ⟨vs, v, h1, hv⟩
  stop := fun F σ H ρ e g => by
    obtain ⟨vs, h1, h2⟩ := s.sq F σ H ρ e g
    rw [if_neg (by decide)] at h1
    exact ⟨vs, h1, Nat.le_of_eq (by rw [dqAll_len h2, enumD_len])⟩
  yld := fun i F σ H ρ x H' hi e g y => by
    obtain ⟨vs, h1, h2⟩ := s.sq F σ H ρ e g
    rw [if_neg (by decide)] at h1
    obtain ⟨T, u, rfl, hT, rfl, y1⟩ := y
    obtain ⟨d, hd, hx⟩ := dqAll_get' h2 (y1 vs h1)
    obtain ⟨q1, q2⟩ := pair_new e hT (.int ((i : Nat) : Int)) hx
    exact ⟨_, _, q1, by have := enumD_get (n := 0) hd; rwa [Nat.zero_add] at this, q2⟩
  keep := s.keep
end
end Wk

/-! The walk layer: zip of a list and a tuple. -/
namespace Wk
open PySem PySem.Spec L2 PyProof.Rows
/-- the list at a and the tuple at b, the items in new pairs -/
def ItzM (K : PySem.W.Frag) (a b : Addr) : It :=
  ⟨fun i H => ∃ (xs ys : List V) (x y : V), SqL K H a xs ∧ SqT K H b ys ∧ xs[i]? = some x ∧ ys[i]? = some y,
    fun i H v H' => ∃ T x y, v = .ref T ∧ H T = none ∧ H' = upd H T (.tup [x, y]) ∧ (∀ xs, SqL K H a xs → xs[i]? = some x) ∧ ∀ ys, SqT K H b ys → ys[i]? = some y,
    fun i H => ∃ xs ys : List V, SqL K H a xs ∧ SqT K H b ys ∧ i = min xs.length ys.length⟩
theorem sep_of {z TI TO i1 i2 a b : Addr} (D : ZipApart z TI TO i1 i2 a b) : ZipSep2 z TI TO i1 i2 [i1, a] [i2, b] where
  TIz := D.TIz
  TOz := D.TOz
  TITO := D.TITO
  TIi1 := D.TIi1
  mem1 := by simp
  zf1 := by simp [D.i1z.symm, D.l1z.symm]
  Tf1 := by simp [D.TOi1, D.l1TO.symm]
  TIi2 := D.TIi2
  mem2 := by simp
  zf2 := by simp [D.i2z.symm, D.l2z.symm]
  Tf2 := by simp [D.TOi2, D.l2TO.symm]
  sep1_2 := by simp [D.i12, D.l2i1.symm]
  sep2_1 := by simp [D.i12.symm, D.l1i2.symm]
theorem turn_mix {pr : Program} {w : World} {K : PySem.W.Frag} {elts : List Expr} {kk : Nat} {tpos : Pos} {a b z TI TO i1 i2 : Addr} (D : ZipApart z TI TO i1 i2 a b) (na : a ≠ i1) (nb : b ≠ i2) :
    Turn pr w K (.Tuple elts kk tpos) (ItzM K a b) [z, TI, TO, i1, i2] z (fun i h => IsZip h z TI TO .none ∧ IsTupOf2 h TI (.ref i1) (.ref i2) ∧ (∃ x y, IsTupOf2 h TO x y) ∧ h.IsListIter i1 a i ∧ h.IsTupleIter i2 b i) where
  mem := by simp
  obj := fun i h t c hc => by
    obtain ⟨tz, tI, ⟨x, y, tO⟩, ⟨o1, e1, _, d1⟩, ⟨o2, e2, _, d2⟩⟩ := t
    simp only [List.mem_cons, List.not_mem_nil, or_false] at hc
    rcases hc with rfl | rfl | rfl | rfl | rfl
    · exact ⟨_, tz, fun v q => nomatch q⟩
    · exact ⟨_, tI, fun v q => nomatch q⟩
    · exact ⟨_, tO, fun v q => nomatch q⟩
    · exact ⟨o1, e1, fun v q => by rw [d1] at q; cases q⟩
    · exact ⟨o2, e2, fun v q => by rw [d2] at q; cases q⟩
  keep := fun i h h' t k => by
    obtain ⟨tz, tI, ⟨x, y, tO⟩, t1, t2⟩ := t
    exact ⟨k z (by simp) _ tz, k TI (by simp) _ tI, ⟨x, y, k TO (by simp) _ tO⟩, t1.at fun o q => k i1 (by simp) o q, t2.at fun o q => k i2 (by simp) o q⟩
  item := by
    intro X hP hw hK hc i pins s σ H E I hf t hg
    subst hP hw hK
    obtain ⟨tz, tI, ⟨x0, y0, tO⟩, t1, t2⟩ := t
    obtain ⟨xs, ys, x, y, qx, qy, hx, hy⟩ := hg
    obtain ⟨its, rv, p, _⟩ := I.list qx
    obtain ⟨its2, rv2, p2, _⟩ := I.tuple qy
    obtain ⟨u, hu, ru⟩ := rv.get hx
    obtain ⟨u2, hu2, ru2⟩ := rv2.get hy
    have zl : z < s.heap.objs.size := Heap.lt_size tz
    have k1 : i < its.toArray.size := by
      rw [List.size_toArray]
      exact (List.getElem?_eq_some_iff.mp hu).1
    have k2 : i < its2.toArray.size := by
      rw [List.size_toArray]
      exact (List.getElem?_eq_some_iff.mp hu2).1
    have D1 := Draws.list (prog := X.prog) (w := X.w) (A := X.A.in1) (I.ok.hd hc) i1 a na its.toArray
    have D2 := Draws.tuple (prog := X.prog) (w := X.w) (A := X.A.in1) (I.ok.hd hc) i2 b nb its2.toArray
    refine wpAny_pyNext_zipD2_item (sep_of D) D1 D2 tz tI tO ⟨t1, p.isList⟩ ⟨t2, p2⟩ k1 k2 fun x1 x2 h' tk y1 y2 z' tO' s1 s2 hT hsz hk => ?_
    have e1 : x1 = u := by
      have y1 : its[i]? = some x1 := by simpa using y1
      rw [hu] at y1
      exact (Option.some.inj y1).symm
    have e2 : x2 = u2 := by
      have y2 : its2[i]? = some x2 := by simpa using y2
      rw [hu2] at y2
      exact (Option.some.inj y2).symm
    subst e1 e2
    refine ⟨_, rfl, wpAny_letOwnedTupleGo_zip (s := { s with heap := h', toks := tk }) z' fun h'' z'' sb => ?_⟩
    have hT2 : h''.get? s.heap.objs.size = some { cls := .type "tuple", data := .seq #[x1, x2] } := (sb.2 _ (Nat.ne_of_gt zl)).trans hT
    have new : ObjOk X.prog X.w (upd H s.heap.objs.size (.tup [x, y])) h'' s.heap.objs.size (.tup [x, y]) :=
      ⟨by show 2 ≤ sizeLine; decide, [x1, x2], .cons ru (.cons ru2 .nil), ⟨_, hT2, rfl, _, rfl⟩⟩
    have out : ∀ c o, c ∉ [z, TI, TO, i1, i2] → s.heap.get? c = some o → h''.get? c = some o := fun c o hb q => by
      simp only [List.mem_cons, List.not_mem_nil, or_false, not_or] at hb
      exact (sb.2 c hb.1).trans (hk c o hb.1 hb.2.2.1 hb.2.2.2.1 hb.2.2.2.2 q)
    have I1 : Inv X pins σ (upd H s.heap.objs.size (.tup [x, y])) { s with heap := h'', toks := tk } := I.turnedNew (t' := tk) (ch := [z, TI, TO, i1, i2]) out hf (Nat.le_refl _) new
    refine ⟨.ref s.heap.objs.size, _, I1, rfl, ⟨_, x, y, rfl, I.hok.fresh (Nat.le_refl _), rfl, fun l hl => by rw [I.list_inj hl qx]; exact hx, fun l hl => by rw [I.tuple_inj hl qy]; exact hy⟩, ⟨z'', ?_, ⟨x1, x2, ?_⟩, ?_, ?_⟩, fun c hcm => ?_⟩
    · exact (sb.2 _ D.TIz).trans (hk _ _ D.TIz D.TITO D.TIi1 D.TIi2 tI)
    · exact (sb.2 _ D.TOz).trans tO'
    · exact s1.1.at fun o q => (sb.2 _ D.i1z).trans q
    · exact s2.1.at fun o q => (sb.2 _ D.i2z).trans q
    · have lt : c < s.heap.objs.size := by
        simp only [List.mem_cons, List.not_mem_nil, or_false] at hcm
        rcases hcm with rfl | rfl | rfl | rfl | rfl
        · exact zl
        · exact Heap.lt_size tI
        · exact Heap.lt_size tO
        · obtain ⟨_, e1, _⟩ := t1
          exact Heap.lt_size e1
        · obtain ⟨_, e2, _⟩ := t2
          exact Heap.lt_size e2
      rw [upd_ne (Nat.ne_of_lt lt)]
      exact (hf c hcm).1
  done := by
    intro X hP hw hK hc i pins s σ H E I hf t hg
    subst hP hw hK
    obtain ⟨tz, tI, ⟨x0, y0, tO⟩, t1, t2⟩ := t
    obtain ⟨xs, ys, qx, qy, hend⟩ := hg
    obtain ⟨its, rv, p, _⟩ := I.list qx
    obtain ⟨its2, rv2, p2, _⟩ := I.tuple qy
    have l1 : its.toArray.size = xs.length := by rw [List.size_toArray, rv.length]
    have l2 : its2.toArray.size = ys.length := by rw [List.size_toArray, rv2.length]
    have D1 := Draws.list (prog := X.prog) (w := X.w) (A := X.A.in1) (I.ok.hd hc) i1 a na its.toArray
    have D2 := Draws.tuple (prog := X.prog) (w := X.w) (A := X.A.in1) (I.ok.hd hc) i2 b nb its2.toArray
    refine wpAny_pyNext_zipD2_end (sep_of D) D1 D2 tz tI tO ⟨t1, p.isList⟩ ⟨t2, p2⟩ (by omega) (by omega) (by omega) fun h' tk hk => ⟨rfl, I.turnedL (t' := tk) (ch := [z, TI, TO, i1, i2]) (fun c o hb q => ?_) hf⟩
    simp only [List.mem_cons, List.not_mem_nil, or_false, not_or] at hb
    exact hk c o hb.1 hb.2.2.1 hb.2.2.2.1 hb.2.2.2.2 q
  self := fun A i s Q E t h => wpAny_pyIter_zip t.1 h
def iZipM (K : PySem.W.Frag) (ta : TA) : TI := fun σ H R => ta σ H fun vs H1 => ∃ a b xs ys, vs = [.ref a, .ref b] ∧ ((SqL K H1 a xs ∧ SqL K H1 b ys ∧ R (Itz K a b) H1) ∨ (SqT K H1 a xs ∧ SqT K H1 b ys ∧ R (RZ.ItzT K a b) H1) ∨ (SqL K H1 a xs ∧ SqT K H1 b ys ∧ R (ItzM K a b) H1))
theorem pi_zipM {X : Cx} {e e2 : Expr} {ta : TA} {p pos tpos : Pos} {elts : List Expr} {kk : Nat} (hg : Gl X "zip") (hm : X.mg "zip" = none) (ha : PA X [e, e2] ta)
    (st : starEach [e, e2] X.env = (false, eval e X.env) :: starEach [e2] X.env) (pl : (backTo pos (starEach [e2] X.env)).any (·.1) = false) :
    PI X (.Tuple elts kk tpos) (.Call (.Name "zip" p) [e, e2] [] pos) (iZipM X.K ta) := by
  refine ⟨fun pins s σ H Rz I h => ?_⟩
  refine Call_ (ld_blt I hg hm PyProof.Rows.boot_zip (PyProof.Rows.callWith_type1 (thn (ha.run pos pins s σ H _ I h) fun us s1 ⟨vs, H1, I1, r1, q1⟩ => ?_) st pl))
  obtain ⟨a, b, xs, ys, ex, q1⟩ := q1
  subst ex
  obtain ⟨ua, ub, rfl⟩ : ∃ ua ub, us = [ua, ub] := by
    cases r1 with
    | cons r rr =>
      cases rr with
      | cons r' rr =>
        cases rr
        exact ⟨_, _, rfl⟩
  have ra : ua = .ref a := by
    cases r1 with
    | cons r rr => exact r
  have rb : ub = .ref b := by
    cases r1 with
    | cons r rr =>
      cases rr with
      | cons r' rr => exact r'
  subst ra rb
  generalize hn : s1.heap.objs.size = n at *
  have five : ∀ c, c ∈ [n + 4, n + 2, n + 3, n, n + 1] → FpOk X pins H1 c := fun c hcm => by
    have le : s1.heap.objs.size ≤ c := by
      simp only [List.mem_cons, List.not_mem_nil, or_false] at hcm
      rw [hn]
      rcases hcm with rfl | rfl | rfl | rfl | rfl <;> omega
    exact I1.fpOk le (I1.hok.fresh le)
  rcases q1 with ⟨qx, qy, q⟩ | ⟨qx, qy, q⟩ | ⟨qx, qy, q⟩
  · obtain ⟨its, rv, p1, _⟩ := I1.list qx
    obtain ⟨its2, rv2, p2, _⟩ := I1.list qy
    refine call_zip_2 p1.isList p2.isList fun h' z' tI tO t1 t2 sz hk => wpAny_pyIter_zip z' ?_
    have I2 : Inv X pins σ H1 { s1 with heap := h' } := I1.kept (t' := s1.toks) hk
    rw [hn] at z' tI tO t1 t2
    refine ⟨n + 4, [n + 4, n + 2, n + 3, n, n + 1], _, _, H1, by rw [hn], I2, turn_zip (PySem.W.ktu_apart n a b (hn ▸ p1.lt) (hn ▸ p2.lt)), ⟨z', tI, ⟨_, _, tO⟩, t1, t2⟩, five, q⟩
  · obtain ⟨its, rv, p1, _⟩ := I1.tuple qx
    obtain ⟨its2, rv2, p2, _⟩ := I1.tuple qy
    obtain ⟨o1, ho1, _⟩ := id p1
    obtain ⟨o2, ho2, _⟩ := id p2
    refine RZ.call_zipT (show s1.heap.IsTuple a its.toArray from p1) (show s1.heap.IsTuple b its2.toArray from p2) fun h' z' tI tO t1 t2 sz hk => wpAny_pyIter_zip z' ?_
    have I2 : Inv X pins σ H1 { s1 with heap := h' } := I1.kept (t' := s1.toks) hk
    rw [hn] at z' tI tO t1 t2
    refine ⟨n + 4, [n + 4, n + 2, n + 3, n, n + 1], _, _, H1, by rw [hn], I2, RZ.turn_zipT (PySem.W.ktu_apart n a b (hn ▸ Heap.lt_size ho1) (hn ▸ Heap.lt_size ho2)), ⟨z', tI, ⟨_, _, tO⟩, t1, t2⟩, five, q⟩
  · obtain ⟨its, rv, p1, _⟩ := I1.list qx
    obtain ⟨its2, rv2, p2, _⟩ := I1.tuple qy
    obtain ⟨o2, ho2, _⟩ := id p2
    have la : a < n := hn ▸ p1.lt
    have lb : b < n := hn ▸ Heap.lt_size ho2
    refine zip_begins2 (begins_list a its.toArray) (begins_tuple b its2.toArray) p1.isList p2 fun h' z' tI tO t1 t2 sz hk => wpAny_pyIter_zip z' ?_
    have I2 : Inv X pins σ H1 { s1 with heap := h' } := I1.kept (t' := s1.toks) hk
    rw [hn] at z' tI tO t1 t2
    refine ⟨n + 4, [n + 4, n + 2, n + 3, n, n + 1], _, _, H1, by rw [hn], I2, turn_mix (PySem.W.ktu_apart n a b la lb) (Nat.ne_of_lt la) (Nat.ne_of_lt (Nat.lt_succ_of_lt lb)), ⟨z', tI, ⟨_, _, tO⟩, ⟨_, t1, rfl, rfl⟩, ⟨_, t2, rfl, rfl⟩⟩, five, q⟩
variable {p : Par} {a b : Addr} {ds es : List D} {G G2 : Hp → L2.St → Hp → Fm → Prop}
theorem it_zipM (s : SrcOk p true a ds G) (t : SrcOk p false b es G2) : ItOk p (ItzM p.K a b) (zipD ds es) (fun F σ H ρ => G F σ H ρ ∧ G2 F σ H ρ) where
  go := fun i F σ H ρ hi e g => by
    rw [zipD_len] at hi
    obtain ⟨vs, h1, h2⟩ := s.sq F σ H ρ e g.1
    obtain ⟨us, k1, k2⟩ := t.sq F σ H ρ e g.2
    rw [if_pos rfl] at h1
    rw [if_neg (by decide)] at k1
    obtain ⟨v, hv, _⟩ := dqAll_get h2 (List.getElem?_eq_getElem (show i < ds.length by omega))
    obtain ⟨u, hu, _⟩ := dqAll_get k2 (List.getElem?_eq_getElem (show i < es.length by omega))
    exact ⟨vs, us, v, u, h1, k1, hv, hu⟩
  stop := fun F σ H ρ e g => by
    obtain ⟨vs, h1, h2⟩ := s.sq F σ H ρ e g.1
    obtain ⟨us, k1, k2⟩ := t.sq F σ H ρ e g.2
    rw [if_pos rfl] at h1
    rw [if_neg (by decide)] at k1
    refine ⟨vs, us, h1, k1, ?_⟩
    rw [zipD_len, dqAll_len h2, dqAll_len k2]
  yld := fun i F σ H ρ x H' hi e g y => by
    obtain ⟨vs, h1, h2⟩ := s.sq F σ H ρ e g.1
    obtain ⟨us, k1, k2⟩ := t.sq F σ H ρ e g.2
    rw [if_pos rfl] at h1
    rw [if_neg (by decide)] at k1
    obtain ⟨T, u, w, rfl, hT, rfl, y1, y2⟩ := y
    obtain ⟨d, hd, hx⟩ := dqAll_get' h2 (y1 vs h1)
    obtain ⟨d2, hd2, hx2⟩ := dqAll_get' k2 (y2 us k1)
    obtain ⟨q1, q2⟩ := pair_new e hT hx hx2
    exact ⟨_, _, q1, zipD_get hd hd2, q2⟩
  keep := fun _ _ _ _ _ _ _ _ st g => ⟨s.keep _ _ _ _ _ _ _ _ st g.1, t.keep _ _ _ _ _ _ _ _ st g.2⟩
end Wk

/-! The walk layer, part 10: walks' readings, targets, comprehensions. -/
namespace Wk
open PySem PySem.Spec L2
section
variable {p : Par}
def tI (p : Par) (f : Fm → R Its) : TI := fun σ H R => ∃ F ρ, EnvOk p.K p.H0 F σ H ρ ∧ PX p σ F H ρ (f ρ) fun its ρL => ∀ F' H' J ρP G, Stp p σ F H ρ σ F' H' ρP → LockOf ρP ρL its.2 → ItOk p J its.1 G → G F' σ H' ρL → R J H'
theorem PI.weaken {X : Cx} {tg e : Expr} {t t' : TI} (h : PI X tg e t) (w : ∀ σ H Q, t' σ H Q → t σ H Q) : PI X tg e t' := ⟨fun pins s σ H Q I q => h.run pins s σ H Q I (w σ H Q q)⟩
theorem plain_one {X : Cx} {a : Expr} (h : Plain X a) : starEach [a] X.env = [(false, eval a X.env)] := h []
theorem plain_two {X : Cx} {a b : Expr} (h : Plain X a) (h2 : Plain X b) : starEach [a, b] X.env = [(false, eval a X.env), (false, eval b X.env)] := by
  rw [h [b], h2 []] <;> rfl
variable {X : Cx} {tg a b c : Expr} {fa fb fc : Fm → R RV} {pos p1 : Pos} {hK : p.K = X.K}
include hK
theorem i_rng1 (hg : Gl X "range") (hm : X.mg "range" = none) (ha : PE X a (tE p fa)) (hp : Plain X a) : PI X tg (.Call (.Name "range" p1) [a] [] pos) (tI p fun ρ => (fa ρ).bind fun r ρ1 => (pk r ρ1 asInt).bind fun j _ => lift (guardO (rngB j) (rangeL 0 1 j.toNat, [])) ρ1) :=
  PI.weaken (pi_range1 hg hm (pa_cons ha pa_nil (hp [])) (plain_one hp)) fun σ H Q h => by
    obtain ⟨F, ρ, e, h⟩ := h
    refine tG_seq (.refl e) h fun F1 H1 ρ1 r1 x _ s1 v1 h => ?_
    obtain ⟨d, j, k1, e1, h⟩ := post_pk s1 v1 h
    obtain ⟨r, er, h⟩ := post_lift h
    obtain ⟨g, er⟩ := guardO_some er
    subst er
    obtain ⟨g1, g2⟩ := ba2 g
    refine ⟨j, by rw [asInt_pk (hK := hK) k1 e1], of_decide_eq_true g1, of_decide_eq_true g2, ?_⟩
    exact h F1 H1 _ ρ1 _ s1 (.refl _) (it_rng1 0 j.toNat) trivial
theorem i_rng2 (hg : Gl X "range") (hm : X.mg "range" = none) (ha : PE X a (tE p fa)) (hb : PE X b (tE p fb)) (hp : Plain X a) (hq : Plain X b) :
    PI X tg (.Call (.Name "range" p1) [a, b] [] pos) (tI p fun ρ => (fa ρ).bind fun r ρ1 => (pk r ρ1 asInt).bind fun i _ => (fb ρ1).bind fun r2 ρ2 => (pk r2 ρ2 asInt).bind fun j _ => lift (guardO (rngB i && rngB j) (rangeL i 1 (j - i).toNat, [])) ρ2) :=
  PI.weaken (pi_range2 hg hm (pa_cons ha (pa_cons hb pa_nil (hq [])) (hp [b])) (plain_two hp hq) (plain_one hq)) fun σ H Q h => by
    obtain ⟨F, ρ, e, h⟩ := h
    refine tG_seq (.refl e) h fun F1 H1 ρ1 r1 x _ s1 v1 h => ?_
    obtain ⟨d, i, k1, e1, h⟩ := post_pk s1 v1 h
    refine tG_seq s1 h fun F2 H2 ρ2 r2 y s12 s2 v2 h => ?_
    obtain ⟨d2, j, k2, e2, h⟩ := post_pk s2 v2 h
    obtain ⟨r, er, h⟩ := post_lift h
    obtain ⟨g, er⟩ := guardO_some er
    subst er
    obtain ⟨g1, g2⟩ := ba2 g
    obtain ⟨g3, g4⟩ := ba2 g1
    obtain ⟨g5, g6⟩ := ba2 g2
    refine ⟨i, j, by rw [asInt_pk (hK := hK) k1 e1, asInt_pk (hK := hK) k2 e2], ⟨of_decide_eq_true g3, of_decide_eq_true g4, of_decide_eq_true g5, of_decide_eq_true g6⟩, ?_⟩
    exact h F2 H2 _ ρ2 _ s2 (.refl _) (it_rng1 i (j - i).toNat) trivial
theorem i_rng3 (hg : Gl X "range") (hm : X.mg "range" = none) (ha : PE X a (tE p fa)) (hb : PE X b (tE p fb)) (hc : PE X c (tE p fc)) (hp : Plain X a) (hq : Plain X b) (hr : Plain X c) :
    PI X tg (.Call (.Name "range" p1) [a, b, c] [] pos) (tI p fun ρ => (fa ρ).bind fun r ρ1 => (pk r ρ1 asInt).bind fun i _ => (fb ρ1).bind fun r2 ρ2 => (pk r2 ρ2 asInt).bind fun j _ => (fc ρ2).bind fun r3 ρ3 => (pk r3 ρ3 asInt).bind fun k _ =>
      lift (guardO (Builtin.Range.small i j k && (decide (k ≠ 0) && decide (k.natAbs < 1073741824))) (rangeL i k (rngN i j k), [])) ρ3) :=
  PI.weaken (pi_range3 hg hm (pa_cons ha (pa_cons hb (pa_cons hc pa_nil (hr [])) (hq [c])) (hp [b, c])) (hp [b, c]) (by rw [hq [c], hr []] <;> rfl)) fun σ H Q h => by
    obtain ⟨F, ρ, e, h⟩ := h
    refine tG_seq (.refl e) h fun F1 H1 ρ1 r1 x _ s1 v1 h => ?_
    obtain ⟨d, i, k1, e1, h⟩ := post_pk s1 v1 h
    refine tG_seq s1 h fun F2 H2 ρ2 r2 y s12 s2 v2 h => ?_
    obtain ⟨d2, j, k2, e2, h⟩ := post_pk s2 v2 h
    refine tG_seq s2 h fun F3 H3 ρ3 r3 z s23 s3 v3 h => ?_
    obtain ⟨d3, k, k3, e3, h⟩ := post_pk s3 v3 h
    obtain ⟨r, er, h⟩ := post_lift h
    obtain ⟨g, er⟩ := guardO_some er
    subst er
    obtain ⟨g1, g2⟩ := ba2 g
    obtain ⟨g3, g4⟩ := ba2 g2
    refine ⟨i, j, k, rngN i j k, by rw [asInt_pk (hK := hK) k1 e1, asInt_pk (hK := hK) k2 e2, asInt_pk (hK := hK) k3 e3], ⟨of_decide_eq_true g3, of_decide_eq_true g4, g1, PyProof.Rows.rangeSize_toNat i j k⟩, ?_⟩
    exact h F3 H3 _ ρ3 _ s3 (.refl _) (it_rng i k (rngN i j k)) trivial
def iSeq (K : PySem.W.Frag) (tl : TE) : TI := fun σ H R => tl σ H fun x H1 => ∃ a, x = .ref a ∧ (((∃ xs, SqL K H1 a xs) ∧ R (Itl K a) H1) ∨ ((∃ xs, SqT K H1 a xs) ∧ R (Itt K a) H1))
omit hK in
theorem pi_seq {l : Expr} {tl : TE} (hl : PE X l tl) : PI X tg l (iSeq X.K tl) := by
  refine ⟨fun pins s σ H R I h => thn (hl.run pins s σ H _ I h) fun v s1 ⟨x, H1, I1, r1, q1⟩ => ?_⟩
  obtain ⟨a, ex, q1⟩ := q1
  subst ex
  have cst : ∀ (tl' : TE) , True := fun _ => trivial
  obtain rfl : v = Value.ref a := r1
  have fr : ∀ b, b ∈ [s1.heap.objs.size] → FpOk X pins H1 b := fun b hb => by
    rw [List.mem_singleton.mp hb]
    exact I1.fpOk (Nat.le_refl _) (I1.hok.fresh (Nat.le_refl _))
  have kp : ∀ {o : Obj} (b : Addr) (u : Obj), s1.heap.get? b = some u → (s1.heap.push o).get? b = some u := fun _ _ e => Heap.get?_push_of_some _ e
  rcases q1 with ⟨⟨xs, hq⟩, q⟩ | ⟨⟨xs, hq⟩, q⟩
  · obtain ⟨ws, _, pl, _⟩ := I1.list hq
    exact wpAny_pyIter_list pl.isList ⟨_, _, _, _, H1, rfl, I1.kept (t' := s1.toks) kp, turn_list a _, ⟨_, Heap.get?_push_size _ rfl, rfl, rfl⟩, fr, q⟩
  · obtain ⟨ws, _, pl, _⟩ := I1.tuple hq
    exact wpAny_pyIter_tuple (show s1.heap.IsTuple a ws.toArray from pl) ⟨_, _, _, _, H1, rfl, I1.kept (t' := s1.toks) kp, turn_tuple a _, ⟨_, Heap.get?_push_size _ rfl, rfl, rfl⟩, fr, q⟩
theorem i_seq (ha : PE X a (tE p fa)) : PI X tg a (tI p fun ρ => (fa ρ).bind fun r ρ1 => (match lockR r ρ1 with
    | some q => .ok (q.1, q.2.2) q.2.1
    | none => .no)) :=
  PI.weaken (pi_seq ha) fun σ H Q h => by
    obtain ⟨F, ρ, e, h⟩ := h
    refine tG_seq (.refl e) h fun F1 H1 ρ1 r1 x _ s1 v1 h => ?_
    split at h
    · rename_i q hq
      obtain ⟨ds, ρL, lk⟩ := q
      obtain ⟨l, isL, a', _, rfl, G, sG, g⟩ := lockR_ok s1.env v1 hq
      have eL := s1.env.lock l
      obtain ⟨vs, z1, z2⟩ := sG.sq F1 σ H1 ρL eL g
      refine ⟨a', rfl, ?_⟩
      cases isL with
      | true =>
        rw [if_pos rfl] at z1
        rw [hK] at z1
        exact .inl ⟨⟨vs, z1⟩, by have := h F1 H1 _ ρ1 G s1 l (it_list sG) g; rwa [hK] at this⟩
      | false =>
        rw [if_neg (by decide)] at z1
        rw [hK] at z1
        exact .inr ⟨⟨vs, z1⟩, by have := h F1 H1 _ ρ1 G s1 l (it_tup sG) g; rwa [hK] at this⟩
    · exact h.elim
theorem i_zip {elts : List Expr} {kk : Nat} {tpos : Pos} (hg : Gl X "zip") (hm : X.mg "zip" = none) (ha : PE X a (tE p fa)) (hb : PE X b (tE p fb)) (hp : Plain X a) (hq : Plain X b) :
    PI X (.Tuple elts kk tpos) (.Call (.Name "zip" p1) [a, b] [] pos) (tI p fun ρ => (fa ρ).bind fun r ρ1 => (fb ρ1).bind fun r2 ρ2 => (match lockR r ρ2 with
    | some u => (match lockR r2 u.2.1 with
      | some q => if kindZ (kindR r ρ2) (kindR r2 ρ2) = true then .ok (zipD u.1 q.1, u.2.2 ++ q.2.2) q.2.1 else .no
      | none => .no)
    | none => .no)) :=
  PI.weaken (pi_zipM hg hm (pa_cons ha (pa_cons hb pa_nil (hq [])) (hp [b])) (hp [b]) (by rw [hq []] <;> rfl)) fun σ H Q h => by
    obtain ⟨F, ρ, e, h⟩ := h
    refine tG_seq (.refl e) h fun F1 H1 ρ1 r1 x _ s1 v1 h => ?_
    refine tG_seq s1 h fun F2 H2 ρ2 r2 y s12 s2 v2 h => ?_
    split at h
    · rename_i u hu
      obtain ⟨ds, ρL, lk⟩ := u
      split at h
      · rename_i w hw
        obtain ⟨es, ρM, lk2⟩ := w
        split at h
        · rename_i hkd
          obtain ⟨l, isL, a', kd1, rfl, G, sG, g⟩ := lockR_ok s2.env (RvOk.step v1 s12) hu
          have eL := s2.env.lock l
          obtain ⟨l2, isL2, b', kd2, rfl, G2, sG2, g2⟩ := lockR_ok eL (v2.lock l) hw
          have eM := eL.lock l2
          have gM := sG.lck _ _ _ _ _ _ l2 g
          obtain ⟨vs, z1, z2⟩ := sG.sq F2 σ H2 ρM eM gM
          obtain ⟨us, z3, z4⟩ := sG2.sq F2 σ H2 ρM eM g2
          have hk2 : kindR r2 ρL = kindR r2 ρ2 := by
            cases r2 with
            | val d => cases d <;> rfl
            | tmp d => rfl
            | sl i =>
              unfold kindR
              dsimp only
              cases ho : ρ2[i]? with
              | none =>
                have : ρL[i]? = none := by
                  rw [List.getElem?_eq_none_iff] at ho ⊢
                  rw [l.1]
                  exact ho
                rw [this]
              | some s0 =>
                rcases l.back ho with ⟨_, q⟩ | ⟨_, xs, k, _, q1, q2⟩
                · rw [q]
                · rw [q2, q1]
          rw [kd1, ← hk2, kd2] at hkd
          refine ⟨a', b', vs, us, rfl, ?_⟩
          have hh := fun J => h F2 H2 J ρ2 (fun F σ H ρ => G F σ H ρ ∧ G2 F σ H ρ) s2 (l.trans l2)
          cases isL with
          | true =>
            cases isL2 with
            | true =>
              rw [if_pos rfl] at z1 z3
              have h1 := hh _ (it_zip sG sG2) ⟨gM, g2⟩
              rw [hK] at z1 z3 h1
              exact .inl ⟨z1, z3, h1⟩
            | false =>
              rw [if_pos rfl] at z1
              rw [if_neg (by decide)] at z3
              have h1 := hh _ (it_zipM sG sG2) ⟨gM, g2⟩
              rw [hK] at z1 z3 h1
              exact .inr (.inr ⟨z1, z3, h1⟩)
          | false =>
            cases isL2 with
            | true => cases hkd
            | false =>
              rw [if_neg (by decide)] at z1 z3
              have h1 := hh _ (it_zipT sG sG2) ⟨gM, g2⟩
              rw [hK] at z1 z3 h1
              exact .inr (.inl ⟨z1, z3, h1⟩)
        · exact h.elim
      · exact h.elim
    · exact h.elim
theorem i_enum {elts : List Expr} {kk : Nat} {tpos : Pos} (hg : Gl X "enumerate") (hm : X.mg "enumerate" = none) (ha : PE X a (tE p fa)) (hp : Plain X a) :
    PI X (.Tuple elts kk tpos) (.Call (.Name "enumerate" p1) [a] [] pos) (tI p fun ρ => (fa ρ).bind fun r ρ1 => (match lockR r ρ1 with
    | some q => .ok (enumD 0 q.1, q.2.2) q.2.1
    | none => .no)) :=
  PI.weaken (pi_enT hg hm (pa_cons ha pa_nil (hp [])) (plain_one hp)) fun σ H Q h => by
    obtain ⟨F, ρ, e, h⟩ := h
    refine tG_seq (.refl e) h fun F1 H1 ρ1 r1 x _ s1 v1 h => ?_
    split at h
    · rename_i q hq
      obtain ⟨ds, ρL, lk⟩ := q
      obtain ⟨l, isL, a', kd, rfl, G, sG, g⟩ := lockR_ok s1.env v1 hq
      have eL := s1.env.lock l
      obtain ⟨vs, z1, z2⟩ := sG.sq F1 σ H1 ρL eL g
      refine ⟨a', rfl, ?_⟩
      cases isL with
      | true =>
        rw [if_pos rfl] at z1
        have h1 := h F1 H1 _ ρ1 G s1 l (it_enum sG) g
        rw [hK] at z1 h1
        exact .inl ⟨⟨vs, z1⟩, h1⟩
      | false =>
        rw [if_neg (by decide)] at z1
        have h1 := h F1 H1 _ ρ1 G s1 l (it_enT sG) g
        rw [hK] at z1 h1
        exact .inr ⟨⟨vs, z1⟩, h1⟩
    · exact h.elim
end
end Wk

/-! The walk layer, part 11: reversed, targets, comprehensions. -/
namespace Wk
open PySem PySem.Spec L2
section
variable {p : Par} {a b : Addr} {ds es : List D} {G G2 : Hp → St → Hp → Fm → Prop}
theorem rev_get {α : Type} {l : List α} {i : Nat} (h : i < l.length) : l.reverse[i]? = l[l.length - 1 - i]? := by
  rw [List.getElem?_reverse h]
theorem it_rev (s : SrcOk p true a ds G) : ItOk p (Itv p.K a ds.length) ds.reverse G where
  go := fun i F σ H ρ hi e g => by
    rw [List.length_reverse] at hi
    obtain ⟨vs, h1, h2⟩ := s.sq F σ H ρ e g
    rw [if_pos rfl] at h1
    obtain ⟨v, hv, _⟩ := dqAll_get h2 (List.getElem?_eq_getElem (show ds.length - 1 - i < ds.length by omega))
    exact ⟨hi, vs, v, h1, hv⟩
  stop := fun F σ H ρ e g => by
    show ds.length ≤ _
    rw [List.length_reverse]
    exact Nat.le_refl _
  yld := fun i F σ H ρ x H' hi e g y => by
    rw [List.length_reverse] at hi
    obtain ⟨vs, h1, h2⟩ := s.sq F σ H ρ e g
    rw [if_pos rfl] at h1
    obtain ⟨rfl, y2⟩ := y
    obtain ⟨d, hd, hx⟩ := dqAll_get' h2 (y2 vs h1)
    exact ⟨F, d, .refl e, by rw [rev_get hi]; exact hd, hx⟩
  keep := s.keep
theorem it_revT (s : SrcOk p false a ds G) : ItOk p (RT.ItvT p.K a ds.length) ds.reverse G where
  go := fun i F σ H ρ hi e g => by
    rw [List.length_reverse] at hi
    obtain ⟨vs, h1, h2⟩ := s.sq F σ H ρ e g
    rw [if_neg (by decide)] at h1
    obtain ⟨v, hv, _⟩ := dqAll_get h2 (List.getElem?_eq_getElem (show ds.length - 1 - i < ds.length by omega))
    exact ⟨hi, vs, v, h1, hv⟩
  stop := fun F σ H ρ e g => by
    show ds.length ≤ _
    rw [List.length_reverse]
    exact Nat.le_refl _
  yld := fun i F σ H ρ x H' hi e g y => by
    rw [List.length_reverse] at hi
    obtain ⟨vs, h1, h2⟩ := s.sq F σ H ρ e g
    rw [if_neg (by decide)] at h1
    obtain ⟨rfl, y2⟩ := y
    obtain ⟨d, hd, hx⟩ := dqAll_get' h2 (y2 vs h1)
    exact ⟨F, d, .refl e, by rw [rev_get hi]; exact hd, hx⟩
  keep := s.keep
end
section
variable {p : Par} {X : Cx} {tg a b c : Expr} {fa fb fc : Fm → R RV} {pos p1 : Pos} {hK : p.K = X.K}
include hK
theorem i_rev (hg : Gl X "reversed") (hm : X.mg "reversed" = none) (ha : PE X a (tE p fa)) (hp : Plain X a) : PI X tg (.Call (.Name "reversed" p1) [a] [] pos) (tI p fun ρ => (fa ρ).bind fun r ρ1 => (match lockR r ρ1 with
    | some q => .ok (q.1.reverse, q.2.2) q.2.1
    | none => .no)) :=
  PI.weaken (RT.pi_revA hg hm ha (hp [])) fun σ H Q h => by
    obtain ⟨F, ρ, e, h⟩ := h
    refine tG_seq (.refl e) h fun F1 H1 ρ1 r1 x _ s1 v1 h => ?_
    split at h
    · rename_i q hq
      obtain ⟨ds, ρL, lk⟩ := q
      obtain ⟨l, isL, a', _, rfl, G, sG, g⟩ := lockR_ok s1.env v1 hq
      have eL := s1.env.lock l
      obtain ⟨vs, z1, z2⟩ := sG.sq F1 σ H1 ρL eL g
      have ll := dqAll_len z2
      refine ⟨a', vs, rfl, ?_⟩
      cases isL with
      | true =>
        rw [if_pos rfl] at z1
        rw [hK] at z1
        exact .inl ⟨z1, by have := h F1 H1 _ ρ1 G s1 l (it_rev sG) g; rwa [hK, ← ll] at this⟩
      | false =>
        rw [if_neg (by decide)] at z1
        rw [hK] at z1
        exact .inr ⟨z1, by have := h F1 H1 _ ρ1 G s1 l (it_revT sG) g; rwa [hK, ← ll] at this⟩
    · exact h.elim
end
/-! ### targets -/
section
variable {K : PySem.W.Frag} {H0 F H : Hp} {σ : St} {ρ ρ' : Fm}
theorem free_not {i : Nat} {xs : List D} {k : Kd} (f : free? ρ[i]? = true) (h : ρ[i]? = some (.own xs k)) : k = .mine := by
  rw [h] at f
  exact of_decide_eq_true f
theorem setV_some {i : Nat} {d : D} (h : setV i d ρ = some ρ') : free? ρ[i]? = true ∧ ρ' = ρ.set i (.val d) ∧ i < ρ.length := by
  unfold setV at h
  split at h
  · rename_i f
    cases h
    refine ⟨f, rfl, ?_⟩
    cases q : ρ[i]? with
    | none => rw [q] at f; cases f
    | some s => exact (List.getElem?_eq_some_iff.mp q).1
  · cases h
theorem step_setV (e : EnvOk K H0 F σ H ρ) {i : Nat} {d : D} {v : V} (h : setV i d ρ = some ρ') (hv : Dq K F v d) : Step K H0 σ F H ρ (σ.set i (some v)) F H ρ' := by
  obtain ⟨f, rfl, hi⟩ := setV_some h
  have own : ∀ {j : Nat} {xs : List D} {k : Kd}, (ρ.set i (.val d))[j]? = some (.own xs k) → i ≠ j ∧ ρ[j]? = some (.own xs k) := fun {j xs k} q => by
    rcases set_get q with ⟨_, z, _⟩ | ⟨z, z2⟩
    · cases z
    · exact ⟨z, z2⟩
  refine ⟨fun _ _ q => q, fun _ _ q _ => q, fun _ q => q, fun _ q _ _ => q, fun a q => ?_, fun j xs k hj nk => ?_, ⟨e.sub, by rw [List.length_set, List.length_set]; exact e.len, fun j d' q => ?_, fun j xs k q => ?_, fun j l a xs ys k k' q1 q2 e1 e2 => ?_, e.dom⟩⟩
  · obtain ⟨j, xs, k, q1, q2⟩ := q
    obtain ⟨n, q3⟩ := own q1
    rw [List.getElem?_set_ne n] at q2
    exact .inl ⟨j, xs, k, q3, q2⟩
  · have n : i ≠ j := fun z => by
      subst z
      exact nk (free_not f hj)
    exact ⟨List.getElem?_set_ne n, xs, by rw [List.getElem?_set_ne n]; exact hj, fun _ => rfl⟩
  · rcases set_get q with ⟨rfl, z, _⟩ | ⟨n, z⟩
    · cases z
      exact ⟨v, List.getElem?_set_self (by rw [← e.len]; exact hi), hv⟩
    · rw [List.getElem?_set_ne n]
      exact e.val j d' z
  · obtain ⟨n, z⟩ := own q
    rw [List.getElem?_set_ne n]
    exact e.own j xs k z
  · obtain ⟨n, z⟩ := own q1
    obtain ⟨n2, z2⟩ := own q2
    rw [List.getElem?_set_ne n] at e1
    rw [List.getElem?_set_ne n2] at e2
    exact e.sep j l a xs ys k k' z z2 e1 e2
theorem freeSetV {i j : Nat} {d : D} (h : setV i d ρ = some ρ') : free? ρ[j]? = true → free? ρ'[j]? = true := fun f => by
  obtain ⟨_, rfl, hi⟩ := setV_some h
  by_cases n : i = j
  · subst n
    rw [List.getElem?_set_self hi]
    rfl
  · rw [List.getElem?_set_ne n]
    exact f
end
def Tgs.len : Tgs → Nat
  | .nil => 0
  | .cons _ ts => ts.len + 1
theorem asgTs_len : ∀ {ts : Tgs} {ds : List D} {ρ ρ' : Fm}, asgTs ts ds ρ = some ρ' → ds.length = ts.len
  | .nil, [], _, _, _ => rfl
  | .nil, _ :: _, _, _, h => by simp [asgTs] at h
  | .cons _ _, [], _, _, h => by simp [asgTs] at h
  | .cons t ts, d :: ds, ρ, ρ', h => by
    simp only [asgTs] at h
    obtain ⟨ρ1, a1, a2⟩ := bind_some h
    rw [List.length_cons, asgTs_len a2]
    rfl
/-- σ' is σ but for the slots of vs -/
def Agree (σ σ' : St) (vs : List Nat) : Prop := σ'.length = σ.length ∧ ∀ j, j ∉ vs → σ'[j]? = σ[j]?
theorem Agree.wipe {σ σ' : St} : ∀ {vs : List Nat}, Agree σ σ' vs → wipe σ' vs = wipe σ vs := by
  intro vs h
  apply List.ext_getElem?
  intro j
  by_cases hj : j ∈ vs
  · have key : ∀ (σ : St), (∀ x, (L2.wipe σ vs)[j]? ≠ some (some x)) := fun σ x z => (wipe_some z).2 hj
    have hl : (L2.wipe σ' vs).length = (L2.wipe σ vs).length := by rw [wipe_length, wipe_length, h.1]
    by_cases hlt : j < (L2.wipe σ vs).length
    · have hlt' : j < (L2.wipe σ' vs).length := by rw [hl]; exact hlt
      have h1 := key σ
      have h2 := key σ'
      rw [List.getElem?_eq_getElem hlt] at h1 ⊢
      rw [List.getElem?_eq_getElem hlt'] at h2 ⊢
      cases q1 : (L2.wipe σ vs)[j] with
      | some x => exact absurd (by rw [q1]) (h1 x)
      | none =>
        cases q2 : (L2.wipe σ' vs)[j] with
        | some x => exact absurd (by rw [q2]) (h2 x)
        | none => rfl
    · rw [List.getElem?_eq_none (by omega), List.getElem?_eq_none (by omega)]
  · rw [wipe_out hj, wipe_out hj, h.2 j hj]
theorem Agree.refl (σ : St) (vs : List Nat) : Agree σ σ vs := ⟨rfl, fun _ _ => rfl⟩
theorem Agree.trans {σ σ1 σ2 : St} {vs ws us : List Nat} (h : Agree σ σ1 vs) (h2 : Agree σ1 σ2 ws) (s1 : ∀ j ∈ vs, j ∈ us) (s2 : ∀ j ∈ ws, j ∈ us) : Agree σ σ2 us :=
  ⟨h2.1.trans h.1, fun j hj => (h2.2 j fun z => hj (s2 j z)).trans (h.2 j fun z => hj (s1 j z))⟩
section
variable (p : Par)
def gW (t : Tg) : TG := fun v σ H Q => ∃ F ρ d ρ', EnvOk p.K p.H0 F σ H ρ ∧ Dq p.K F v d ∧ asgT t d ρ = some ρ' ∧ ∀ σ', Stp p σ F H ρ σ' F H ρ' → Agree σ σ' t.slots → Q σ' H
def gsW (t : Tgs) : TGs := fun vs σ H Q => ∃ F ρ ds ρ', EnvOk p.K p.H0 F σ H ρ ∧ DqAll p.K F vs ds ∧ asgTs t ds ρ = some ρ' ∧ ∀ σ', Stp p σ F H ρ σ' F H ρ' → Agree σ σ' t.slots → Q σ' H
end
theorem PG.weaken {X : Cx} {e : Expr} {t t' : TG} (h : PG X e t) (w : ∀ v σ H Q, t' v σ H Q → t v σ H Q) : PG X e t' := ⟨fun pins s σ H v u Q I r q => h.run pins s σ H v u Q I r (w v σ H Q q)⟩
theorem PGs.weaken {X : Cx} {e : List Expr} {t t' : TGs} (h : PGs X e t) (w : ∀ v σ H Q, t' v σ H Q → t v σ H Q) : PGs X e t' := ⟨fun pins s σ H v u Q I r q => h.run pins s σ H v u Q I r (w v σ H Q q)⟩
section
variable {p : Par} {X : Cx} {tg : Expr} {pos : Pos} {hK : p.K = X.K}
theorem g_name {i : Nat} {x : Str} (hN : X.N.Nodup) (hi : X.N[i]? = some x) (hx : Loc X.env.scope x) (hf : X.fn x = true ∨ X.env.scope.names.lookup x = some .local) : PG X (.Name x pos) (gW p (.name i)) :=
  PG.weaken (pg_name hN hi hx hf) fun v σ H Q h => by
    obtain ⟨F, ρ, d, ρ', e, hv, ha, h⟩ := h
    refine h _ (step_setV e ha hv) ⟨by rw [List.length_set], fun j hj => List.getElem?_set_ne ?_⟩
    intro z
    subst z
    exact hj (by simp [Tg.slots])
theorem gs_nil : PGs X [] (gsW p .nil) :=
  PGs.weaken pgs_nil fun vs σ H Q h => by
    obtain ⟨F, ρ, ds, ρ', e, hv, ha, h⟩ := h
    cases hv with
    | nil =>
      cases ha
      exact ⟨rfl, h σ (.refl e) (.refl _ _)⟩
    | cons _ _ => cases ha
theorem gs_cons {e : Expr} {es : List Expr} {t : Tg} {ts : Tgs} (h1 : PG X e (gW p t)) (h2 : PGs X es (gsW p ts))
    (hs : (assignEach (e :: es) X.env).map (·.2) = assign e X.env :: (assignEach es X.env).map (·.2)) : PGs X (e :: es) (gsW p (.cons t ts)) :=
  PGs.weaken (pgs_cons h1 h2 hs) fun vs σ H Q h => by
    obtain ⟨F, ρ, ds, ρ', e, hv, ha, h⟩ := h
    cases hv with
    | nil => cases ha
    | cons r rr =>
      simp only [asgTs] at ha
      obtain ⟨ρ1, a1, a2⟩ := bind_some ha
      refine ⟨_, _, rfl, F, ρ, _, ρ1, e, r, a1, fun σ1 s1 g1 => ?_⟩
      refine ⟨F, ρ1, _, ρ', s1.env, rr, a2, fun σ2 s2 g2 => ?_⟩
      exact h σ2 (s1.trans s2) (g1.trans g2 (fun j hj => by simp [Tgs.slots, hj]) (fun j hj => by simp [Tgs.slots, hj]))
include hK in
theorem g_tup {es : List Expr} {k n : Nat} {ts : Tgs} (hc : X.calm = true) (h : PGs X es (gsW p ts)) (hl : ts.len = n)
    (hn : (assignEach es X.env).length = n) (hst : (assignEach es X.env).findIdx? (·.1) = none) : PG X (.Tuple es k pos) (gW p (.tup ts)) :=
  PG.weaken (pg_tup hc h hn hst) fun v σ H Q h => by
    obtain ⟨F, ρ, d, ρ', e, hv, ha, h⟩ := h
    cases d <;> try (simp [asgT] at ha; done)
    rename_i ds
    cases hv with
    | tup q1 q2 =>
      have ha : asgTs ts ds ρ = some ρ' := ha
      have q3 := sqT_mono e.sub q1
      rw [hK] at q3
      refine ⟨_, _, rfl, q3, ?_, F, ρ, ds, ρ', e, q2, ha, fun σ' s g => h σ' s g⟩
      rw [dqAll_len q2, ← hl]
      exact asgTs_len ha
end
end Wk

/-! The walk layer, part 12: list(range(..)), comprehensions. -/
namespace Wk
open PySem PySem.Spec L2
theorem R.bind_ok {α β : Type} {r : R α} {k : α → Fm → R β} {b : β} {ρ : Fm} (h : r.bind k = .ok b ρ) : ∃ a ρ1, r = .ok a ρ1 ∧ k a ρ1 = .ok b ρ := by
  cases r with
  | ok a ρ1 => exact ⟨a, ρ1, rfl, h⟩
  | exc c ρ1 => cases h
  | no => cases h
theorem lift_ok {α : Type} {o : Option α} {ρ ρ' : Fm} {a : α} (h : lift o ρ = .ok a ρ') : o = some a ∧ ρ = ρ' := by
  cases o with
  | none => cases h
  | some b => cases h; exact ⟨rfl, rfl⟩
section
variable {K : PySem.W.Frag} {F : Hp}
theorem dqAll_rg (a b : Int) : DqAll K F (rgV a b) (rangeL a 1 (b - a).toNat) := by
  have h := dqAll_ofInts (K := K) (F := F) ((List.range (b - a).toNat).map fun i => a + ((i : Nat) : Int))
  rw [List.map_map, List.map_map] at h
  have e : rangeL a 1 (b - a).toNat = (List.range (b - a).toNat).map (PyData.int ∘ fun i => a + ((i : Nat) : Int)) := by
    unfold rangeL
    apply List.map_congr_left
    intro i _
    simp
  rw [e]
  exact h
theorem rangeL_len (a c : Int) (n : Nat) : (rangeL a c n).length = n := by simp [rangeL]
end
section
variable {p : Par} {X : Cx} {a b : Expr} {fa fb : Fm → R RV} {pos p1 p2 p3 : Pos} {hK : p.K = X.K}
def fR1 (fa : Fm → R RV) : Fm → R Its := fun ρ => (fa ρ).bind fun r ρ1 => (pk r ρ1 asInt).bind fun j _ => lift (guardO (rngB j) (rangeL 0 1 j.toNat, [])) ρ1
def fR2 (fa fb : Fm → R RV) : Fm → R Its := fun ρ => (fa ρ).bind fun r ρ1 => (pk r ρ1 asInt).bind fun i _ => (fb ρ1).bind fun r2 ρ2 => (pk r2 ρ2 asInt).bind fun j _ => lift (guardO (rngB i && rngB j) (rangeL i 1 (j - i).toNat, [])) ρ2
def fLR (f : Fm → R Its) : Fm → R RV := fun ρ => (f ρ).bind fun q ρ1 => lift (guardO (fits q.1.length) (.tmp q.1)) ρ1
def fTR (f : Fm → R Its) : Fm → R RV := fun ρ => (f ρ).bind fun q ρ1 => lift (guardO (fits q.1.length) (.val (.tuple q.1))) ρ1
def t1R (p : Par) (mk : List D → RV) (f : Fm → R Its) : Fm → R RV := fun ρ => (f ρ).bind fun q ρ1 => lift (guardO (fits q.1.length) (mk q.1)) ρ1
theorem R.bind_assoc {α β γ : Type} (r : R α) (k : α → Fm → R β) (l : β → Fm → R γ) : (r.bind k).bind l = r.bind fun a ρ => (k a ρ).bind l := by
  cases r <;> rfl
include hK
theorem rg1_tr {σ : St} {H : Hp} {Q : VK} {mk : List D → RV} (h : tE p (fun ρ => (fR1 fa ρ).bind fun q ρ1 => lift (guardO (fits q.1.length) (mk q.1)) ρ1) σ H Q) : tRg1 (tE p fa) σ H fun i j H1 => RgOk i j ∧ ∃ F1 ρ ρ1 F, Stp p σ F H ρ σ F1 H1 ρ1 ∧ Post p (RelE p σ H) σ F H ρ (.ok (mk (rangeL i 1 (j - i).toNat)) ρ1) Q := by
  obtain ⟨F, ρ, e, h⟩ := h
  unfold fR1 at h
  dsimp only at h
  rw [R.bind_assoc] at h
  refine tG_seq (.refl e) h fun F1 H1 ρ1 r1 x _ s1 v1 h => ?_
  rw [R.bind_assoc] at h
  obtain ⟨d, j, k1, e1, h⟩ := post_pk s1 v1 h
  obtain ⟨r, er, h⟩ := post_lift_bind h
  obtain ⟨g, er⟩ := guardO_some er
  subst er
  obtain ⟨r, er, h⟩ := post_lift h
  obtain ⟨g', er⟩ := guardO_some er
  subst er
  obtain ⟨g1, g2⟩ := ba2 g
  have g3 := of_decide_eq_true g'
  have g1 := of_decide_eq_true g1
  have g2 := of_decide_eq_true g2
  rw [rangeL_len] at g3
  refine ⟨j, by rw [asInt_pk (hK := hK) k1 e1], ⟨by decide, by decide, g1, g2, by omega⟩, F1, ρ, ρ1, F, s1, ?_⟩
  rw [Int.sub_zero]
  exact h
theorem rg2_tr {σ : St} {H : Hp} {Q : VK} {mk : List D → RV} (h : tE p (fun ρ => (fR2 fa fb ρ).bind fun q ρ1 => lift (guardO (fits q.1.length) (mk q.1)) ρ1) σ H Q) : tRg2 (tE p fa) (tE p fb) σ H fun i j H1 => RgOk i j ∧ ∃ F1 ρ ρ1 F, Stp p σ F H ρ σ F1 H1 ρ1 ∧ Post p (RelE p σ H) σ F H ρ (.ok (mk (rangeL i 1 (j - i).toNat)) ρ1) Q := by
  obtain ⟨F, ρ, e, h⟩ := h
  unfold fR2 at h
  dsimp only at h
  rw [R.bind_assoc] at h
  refine tG_seq (.refl e) h fun F1 H1 ρ1 r1 x _ s1 v1 h => ?_
  rw [R.bind_assoc] at h
  obtain ⟨d, i, k1, e1, h⟩ := post_pk s1 v1 h
  rw [R.bind_assoc] at h
  refine tG_seq s1 h fun F2 H2 ρ2 r2 y s12 s2 v2 h => ?_
  rw [R.bind_assoc] at h
  obtain ⟨d2, j, k2, e2, h⟩ := post_pk s2 v2 h
  obtain ⟨r, er, h⟩ := post_lift_bind h
  obtain ⟨g, er⟩ := guardO_some er
  subst er
  obtain ⟨r, er, h⟩ := post_lift h
  obtain ⟨g', er⟩ := guardO_some er
  subst er
  obtain ⟨g1, g2⟩ := ba2 g
  obtain ⟨g4, g5⟩ := ba2 g1
  obtain ⟨g6, g7⟩ := ba2 g2
  have g3 := of_decide_eq_true g'
  rw [rangeL_len] at g3
  exact ⟨i, j, by rw [asInt_pk (hK := hK) k1 e1], by rw [asInt_pk (hK := hK) k2 e2], ⟨of_decide_eq_true g4, of_decide_eq_true g5, of_decide_eq_true g6, of_decide_eq_true g7, by omega⟩, F2, ρ, ρ2, F, s2, h⟩
theorem tRg1_mono {ta : TE} {σ : St} {H : Hp} {Q Q' : Int → Int → Hp → Prop} (hm : ∀ (σ : St) (H : Hp) (Q Q' : VK), (∀ x H, Q x H → Q' x H) → ta σ H Q → ta σ H Q') (w : ∀ i j H, Q i j H → Q' i j H) (h : tRg1 ta σ H Q) : tRg1 ta σ H Q' :=
  hm _ _ _ _ (fun x H1 ⟨n, e, q⟩ => ⟨n, e, w _ _ _ q⟩) h
omit hK in
theorem tE_mono (fa : Fm → R RV) : ∀ (σ : St) (H : Hp) (Q Q' : VK), (∀ x H, Q x H → Q' x H) → tE p fa σ H Q → tE p fa σ H Q' := fun σ H Q Q' w h => by
  obtain ⟨F, ρ, e, h⟩ := h
  refine ⟨F, ρ, e, ?_⟩
  cases ef : fa ρ with
  | ok r ρ1 =>
    rw [ef] at h
    exact fun F' H' b s r => w _ _ (h F' H' b s r)
  | exc c ρ1 =>
    rw [ef] at h
    exact h
  | no =>
    rw [ef] at h
    exact h
theorem lr_end {σ : St} {F F1 H H1 : Hp} {ρ ρ1 : Fm} {Q : VK} {i j : Int} (s : Stp p σ F H ρ σ F1 H1 ρ1) (h : Post p (RelE p σ H) σ F H ρ (.ok (.tmp (rangeL i 1 (j - i).toNat)) ρ1) Q) : ∀ q, H1 q = none → Q (.ref q) (upd H1 q (.lst (rgV i j))) := fun q hq =>
  res_of s h q _ hq (dqAll_rg i j)
theorem tr_end {σ : St} {F F1 H H1 : Hp} {ρ ρ1 : Fm} {Q : VK} {i j : Int} (s : Stp p σ F H ρ σ F1 H1 ρ1) (h : Post p (RelE p σ H) σ F H ρ (.ok (.val (.tuple (rangeL i 1 (j - i).toNat))) ρ1) Q) : ∀ q, H1 q = none → Q (.ref q) (upd H1 q (.tup (rgV i j))) := fun q hq =>
  (res_of s h).n hq (dq_newTup s.env.sub hq (dqAll_rg i j))
theorem e_lrng1 (hc : X.calm = true) (hl : Gl X "list") (ml : X.mg "list" = none) (hg : Gl X "range") (hm : X.mg "range" = none) (ha : PE X a (tE p fa)) (hp : Plain X a) (hpr : Plain X (.Call (.Name "range" p2) [a] [] p3)) :
    PE X (.Call (.Name "list" p1) [.Call (.Name "range" p2) [a] [] p3] [] pos) (tE p (fLR (fR1 fa))) :=
  PE.weaken (pe_listRg hc hl ml (prg_1 hg hm ha (hp [])) (hpr [])) fun σ H Q h => tE_mono fa _ _ _ _ (fun x H1 ⟨n, e, ok, F1, ρ, ρ1, F, s, q⟩ => ⟨n, e, ok, lr_end (hK := hK) s q⟩) (rg1_tr (hK := hK) h)
theorem e_trng1 (hc : X.calm = true) (hl : Gl X "tuple") (ml : X.mg "tuple" = none) (hg : Gl X "range") (hm : X.mg "range" = none) (ha : PE X a (tE p fa)) (hp : Plain X a) (hpr : Plain X (.Call (.Name "range" p2) [a] [] p3)) :
    PE X (.Call (.Name "tuple" p1) [.Call (.Name "range" p2) [a] [] p3] [] pos) (tE p (fTR (fR1 fa))) :=
  PE.weaken (pe_tupRg hc hl ml (prg_1 hg hm ha (hp [])) (hpr [])) fun σ H Q h => tE_mono fa _ _ _ _ (fun x H1 ⟨n, e, ok, F1, ρ, ρ1, F, s, q⟩ => ⟨n, e, ok, tr_end (hK := hK) s q⟩) (rg1_tr (hK := hK) (mk := fun ds => .val (.tuple ds)) h)
theorem e_lrng2 (hc : X.calm = true) (hl : Gl X "list") (ml : X.mg "list" = none) (hg : Gl X "range") (hm : X.mg "range" = none) (ha : PE X a (tE p fa)) (hb : PE X b (tE p fb)) (hp : Plain X a) (hq : Plain X b) (hpr : Plain X (.Call (.Name "range" p2) [a, b] [] p3)) :
    PE X (.Call (.Name "list" p1) [.Call (.Name "range" p2) [a, b] [] p3] [] pos) (tE p (fLR (fR2 fa fb))) :=
  PE.weaken (pe_listRg hc hl ml (prg_2 hg hm ha hb (hp [b]) (hq []) (by rw [hq []] <;> rfl)) (hpr [])) fun σ H Q h => tE_mono fa _ _ _ _ (fun x H1 h1 => tE_mono fb _ _ _ _ (fun y H2 ⟨i, j, e, e', ok, F1, ρ, ρ1, F, s, q⟩ => ⟨i, j, e, e', ok, lr_end (hK := hK) s q⟩) h1) (rg2_tr (hK := hK) h)
theorem e_trng2 (hc : X.calm = true) (hl : Gl X "tuple") (ml : X.mg "tuple" = none) (hg : Gl X "range") (hm : X.mg "range" = none) (ha : PE X a (tE p fa)) (hb : PE X b (tE p fb)) (hp : Plain X a) (hq : Plain X b) (hpr : Plain X (.Call (.Name "range" p2) [a, b] [] p3)) :
    PE X (.Call (.Name "tuple" p1) [.Call (.Name "range" p2) [a, b] [] p3] [] pos) (tE p (fTR (fR2 fa fb))) :=
  PE.weaken (pe_tupRg hc hl ml (prg_2 hg hm ha hb (hp [b]) (hq []) (by rw [hq []] <;> rfl)) (hpr [])) fun σ H Q h => tE_mono fa _ _ _ _ (fun x H1 h1 => tE_mono fb _ _ _ _ (fun y H2 ⟨i, j, e, e', ok, F1, ρ, ρ1, F, s, q⟩ => ⟨i, j, e, e', ok, tr_end (hK := hK) s q⟩) h1) (rg2_tr (hK := hK) (mk := fun ds => .val (.tuple ds)) h)
end
/-! ### comprehensions -/
theorem wipeF_out {ρ : Fm} {i : Nat} : ∀ {vs : List Nat}, i ∉ vs → (wipeF ρ vs)[i]? = ρ[i]?
  | [], _ => rfl
  | v :: vs, h => by
    have h1 : v ≠ i := fun e => h (by rw [e]; exact List.mem_cons_self)
    have h2 : i ∉ vs := fun m => h (List.mem_cons_of_mem _ m)
    unfold wipeF
    rw [List.getElem?_set_ne h1]
    exact wipeF_out h2
theorem wipeF_len {ρ : Fm} : ∀ {vs : List Nat}, (wipeF ρ vs).length = ρ.length
  | [] => rfl
  | v :: vs => by
    unfold wipeF
    rw [List.length_set]
    exact wipeF_len
theorem wipeF_in {ρ : Fm} {i : Nat} {s : Sl} : ∀ {vs : List Nat}, i ∈ vs → (wipeF ρ vs)[i]? = some s → s = .no
  | v :: vs, h, g => by
    unfold wipeF at g
    rcases set_get g with ⟨_, z, _⟩ | ⟨n, z⟩
    · exact z
    · rcases List.mem_cons.mp h with q | q
      · exact absurd q.symm n
      · exact wipeF_in q z
theorem backF_len {ρ0 ρ : Fm} : ∀ {vs : List Nat}, (backF ρ0 ρ vs).length = ρ.length
  | [] => rfl
  | v :: vs => by
    unfold backF
    split
    · rw [List.length_set]; exact backF_len
    · exact backF_len
theorem backF_out {ρ0 ρ : Fm} {i : Nat} : ∀ {vs : List Nat}, i ∉ vs → (backF ρ0 ρ vs)[i]? = ρ[i]?
  | [], _ => rfl
  | v :: vs, h => by
    have h1 : v ≠ i := fun e => h (by rw [e]; exact List.mem_cons_self)
    have h2 : i ∉ vs := fun m => h (List.mem_cons_of_mem _ m)
    unfold backF
    split
    · rw [List.getElem?_set_ne h1]; exact backF_out h2
    · exact backF_out h2
theorem backF_in {ρ0 ρ : Fm} {i : Nat} (hl : ρ0.length = ρ.length) : ∀ {vs : List Nat}, i ∈ vs → (backF ρ0 ρ vs)[i]? = ρ0[i]?
  | v :: vs, h => by
    unfold backF
    split
    · rename_i s hs
      by_cases n : v = i
      · subst n
        rw [List.getElem?_set_self (by rw [backF_len, ← hl]; exact (List.getElem?_eq_some_iff.mp hs).1), hs]
      · rw [List.getElem?_set_ne n]
        rcases List.mem_cons.mp h with q | q
        · exact absurd q.symm n
        · exact backF_in hl q
    · rename_i hs
      rcases List.mem_cons.mp h with q | q
      · subst q
        rw [hs, List.getElem?_eq_none (by rw [backF_len, ← hl]; exact List.getElem?_eq_none_iff.mp hs)]
      · exact backF_in hl q
theorem agree_wipe (σ : St) (vs : List Nat) : Agree σ (wipe σ vs) vs := ⟨wipe_length σ vs, fun j hj => wipe_out hj⟩
section
variable {K : PySem.W.Frag} {H0 F F1 H H1 F2 H2 : Hp} {σ σ1 σ2 : St} {ρ ρ1 ρ2 : Fm} {vs : List Nat}
theorem wipeF_get {i : Nat} {s : Sl} (h : (wipeF ρ vs)[i]? = some s) (n : s ≠ .no) : i ∉ vs ∧ ρ[i]? = some s := by
  by_cases hi : i ∈ vs
  · exact absurd (wipeF_in hi h) n
  · rw [wipeF_out hi] at h
    exact ⟨hi, h⟩
theorem own_wipe {a : Addr} (h : OwnAt (wipe σ vs) (wipeF ρ vs) a) : OwnAt σ ρ a := by
  obtain ⟨i, xs, k, h1, h2⟩ := h
  obtain ⟨n, q⟩ := wipeF_get h1 (by simp)
  rw [wipe_out n] at h2
  exact ⟨i, xs, k, q, h2⟩
theorem EnvOk.wipe (e : EnvOk K H0 F σ H ρ) (vs : List Nat) : EnvOk K H0 F (L2.wipe σ vs) H (wipeF ρ vs) := by
  refine ⟨e.sub, by rw [wipeF_len, wipe_length]; exact e.len, fun i d q => ?_, fun i xs k q => ?_, fun i j a xs ys k l q1 q2 e1 e2 => ?_, e.dom⟩
  · obtain ⟨n, q⟩ := wipeF_get q (by simp)
    rw [wipe_out n]
    exact e.val i d q
  · obtain ⟨n, q⟩ := wipeF_get q (by simp)
    rw [wipe_out n]
    exact e.own i xs k q
  · obtain ⟨n, q1⟩ := wipeF_get q1 (by simp)
    obtain ⟨n2, q2⟩ := wipeF_get q2 (by simp)
    rw [wipe_out n] at e1
    rw [wipe_out n2] at e2
    exact e.sep i j a _ _ _ _ q1 q2 e1 e2
theorem Step.back (e : EnvOk K H0 F σ H ρ) (w : Step K H0 (L2.wipe σ vs) F H (wipeF ρ vs) σ1 F1 H1 ρ1) (ag : Agree σ σ1 vs) : Step K H0 σ F H ρ σ F1 H1 (backF ρ ρ1 vs) := by
  have hl : ρ.length = ρ1.length := by rw [e.len, w.env.len, ag.1]
  have nin : ∀ {i : Nat} {xs : List D} {k : Kd} {a : Addr}, i ∈ vs → ρ[i]? = some (.own xs k) → σ[i]? = some (some (V.ref a)) → ¬ OwnAt (L2.wipe σ vs) (wipeF ρ vs) a := fun {i xs k a} hi h1 h2 z => by
    obtain ⟨j, ys, l, q1, q2⟩ := z
    obtain ⟨n, q1⟩ := wipeF_get q1 (by simp)
    rw [wipe_out n] at q2
    have := e.sep i j a _ _ _ _ h1 q1 h2 q2
    subst this
    exact n hi
  have bk : ∀ {i : Nat} {xs : List D} {k : Kd} {a : Addr}, (backF ρ ρ1 vs)[i]? = some (.own xs k) → σ[i]? = some (some (V.ref a)) → (i ∈ vs ∧ ρ[i]? = some (.own xs k)) ∨ (i ∉ vs ∧ ρ1[i]? = some (.own xs k) ∧ σ1[i]? = some (some (V.ref a))) := fun {i xs k a} h1 h2 => by
    by_cases hi : i ∈ vs
    · rw [backF_in hl hi] at h1
      exact .inl ⟨hi, h1⟩
    · rw [backF_out hi] at h1
      exact .inr ⟨hi, h1, by rw [ag.2 i hi]; exact h2⟩
  refine ⟨w.fz, fun a o h n => w.hp a o h fun z => n (own_wipe z), w.dm, fun a h m n => w.nf a h m fun z => n (own_wipe z), fun a q => ?_, fun i xs k hi nk => ⟨rfl, ?_⟩, ⟨w.env.sub, by rw [backF_len, ← hl]; exact e.len, fun i d q => ?_, fun i xs k q => ?_, fun i j a xs ys k l q1 q2 e1 e2 => ?_, w.env.dom⟩⟩
  · obtain ⟨i, xs, k, h1, h2⟩ := q
    rcases bk h1 h2 with ⟨_, z⟩ | ⟨_, z1, z2⟩
    · exact .inl ⟨i, xs, k, z, h2⟩
    · exact (w.ow a ⟨i, xs, k, z1, z2⟩).imp own_wipe id
  · by_cases hi' : i ∈ vs
    · rw [backF_in hl hi']
      exact ⟨xs, hi, fun _ => rfl⟩
    · rw [backF_out hi']
      obtain ⟨_, q⟩ := w.lk i xs k (by rw [wipeF_out hi']; exact hi) nk
      exact q
  · by_cases hi : i ∈ vs
    · rw [backF_in hl hi] at q
      obtain ⟨v, v1, v2⟩ := e.val i d q
      exact ⟨v, v1, dq_mono w.fz _ _ v2⟩
    · rw [backF_out hi] at q
      obtain ⟨v, v1, v2⟩ := w.env.val i d q
      exact ⟨v, by rw [← ag.2 i hi]; exact v1, v2⟩
  · by_cases hi : i ∈ vs
    · rw [backF_in hl hi] at q
      obtain ⟨a, us, w1, w2, w3, w4, w5⟩ := e.own i xs k q
      have na := nin hi q w1
      exact ⟨a, us, w1, w.hp a _ w2 na, dqAll_mono w.fz _ _ w3, w.nf a w4 (by rw [w2]; simp) na, w5⟩
    · rw [backF_out hi] at q
      obtain ⟨a, us, w1, w2⟩ := w.env.own i xs k q
      exact ⟨a, us, by rw [← ag.2 i hi]; exact w1, w2⟩
  · have mix : ∀ {i j : Nat} {xs ys : List D} {k l : Kd}, i ∈ vs → ρ[i]? = some (.own xs k) → σ[i]? = some (some (V.ref a)) → ρ1[j]? = some (.own ys l) → σ1[j]? = some (some (V.ref a)) → False := fun {i j xs ys k l} hi h1 h2 h3 h4 => by
      obtain ⟨b, us, w1, w2, _⟩ := e.own i xs k h1
      rw [h2] at w1
      cases w1
      rcases w.ow a ⟨j, ys, l, h3, h4⟩ with z | z
      · exact nin hi h1 h2 z
      · rw [w2] at z
        cases z
    rcases bk q1 e1 with ⟨i1, z⟩ | ⟨i1, z1, z2⟩
    · rcases bk q2 e2 with ⟨j1, y⟩ | ⟨j1, y1, y2⟩
      · exact e.sep i j a _ _ _ _ z y e1 e2
      · exact (mix i1 z e1 y1 y2).elim
    · rcases bk q2 e2 with ⟨j1, y⟩ | ⟨j1, y1, y2⟩
      · exact (mix j1 y e2 z1 z2).elim
      · exact w.env.sep i j a _ _ _ _ z1 y1 z2 y2
/-- a new list that nobody knows is changed -/
theorem Step.over {q : Addr} {o : HO} (s : Step K H0 σ F H ρ σ1 F1 H1 ρ1) (h0 : H q = none) (hF : F1 q = none) (hn : ¬ OwnAt σ1 ρ1 q) : Step K H0 σ F H ρ σ1 F1 (upd H1 q o) ρ1 where
  fz := s.fz
  hp := fun a u h n => by
    rw [upd_ne (ne_of_none h h0)]
    exact s.hp a u h n
  dm := fun a h => by
    by_cases ha : a = q
    · subst ha
      exact h0
    · rw [upd_ne ha] at h
      exact s.dm a h
  nf := s.nf
  ow := s.ow
  lk := s.lk
  env := by
    have e := s.env
    refine ⟨fun a u h => ?_, e.len, e.val, fun i xs k h => ?_, e.sep, fun a h => ?_⟩
    · have : a ≠ q := fun z => by
        subst z
        rw [hF] at h
        cases h
      rw [upd_ne this]
      exact e.sub a u h
    · obtain ⟨a, us, w1, w2, w⟩ := e.own i xs k h
      have : a ≠ q := fun z => hn (z ▸ ⟨i, xs, k, h, w1⟩)
      exact ⟨a, us, w1, by rw [upd_ne this]; exact w2, w⟩
    · by_cases ha : a = q
      · subst ha
        rw [upd_same] at h
        cases h
      · rw [upd_ne ha] at h
        exact e.dom a h
end
def BodyOk (p : Par) (body : Fm → R (Option D)) (tt : TT) (te : TE) : Prop := ∀ (σ2 : St) (F2 H2 : Hp) (ρ3 : Fm) (o : Option D) (ρ5 : Fm) (KY : VK) (KN : Hp → Prop), EnvOk p.K p.H0 F2 σ2 H2 ρ3 → body ρ3 = .ok o ρ5 →
  (∀ F4 H4 y x, o = some x → Stp p σ2 F2 H2 ρ3 σ2 F4 H4 ρ5 → Dq p.K F4 y x → KY y H4) → (o = none → ∀ F4 H4, Stp p σ2 F2 H2 ρ3 σ2 F4 H4 ρ5 → KN H4) → tt σ2 H2 fun b H3 => if b = true then te σ2 H3 KY else KN H3
section
variable {p p' : Par} {fe : Fm → R RV} {ft : Fm → R Bool} {hp : p'.K = p.K} {hp0 : p'.H0 = p.H0}
def fItem (fe : Fm → R RV) : Fm → R (Option D) := fun ρ3 => (fe ρ3).bind fun r ρ4 => (fzR r ρ4).bind fun x ρ5 => .ok (some x) ρ5
def fItemIf (ft : Fm → R Bool) (fe : Fm → R RV) : Fm → R (Option D) := fun ρ3 => (ft ρ3).bind fun b ρ4 => if b = true then (fe ρ4).bind fun r ρ5 => (fzR r ρ5).bind fun x ρ6 => .ok (some x) ρ6 else .ok none ρ4
theorem fzR_ok {r : RV} {ρ ρ' : Fm} {d : D} (h : fzR r ρ = .ok d ρ') : freeze r ρ = some (d, ρ') := by
  unfold fzR at h
  split at h
  · rename_i q e
    cases h
    exact e
  · cases h
theorem item_te {σ2 : St} {F1 H1 F2 H2 : Hp} {ρ1 ρ3 ρ5 : Fm} {o : Option D} {KY : VK} (st : Stp p σ2 F1 H1 ρ1 σ2 F2 H2 ρ3) (h : fItem fe ρ3 = .ok o ρ5)
    (hy : ∀ F4 H4 y x, o = some x → Stp p σ2 F1 H1 ρ1 σ2 F4 H4 ρ5 → Dq p.K F4 y x → KY y H4) : tE p fe σ2 H2 KY := by
  obtain ⟨r, ρ4, h1, h⟩ := R.bind_ok h
  obtain ⟨x, ρ6, h2, h⟩ := R.bind_ok h
  cases h
  refine ⟨F2, ρ3, st.env, ?_⟩
  rw [h1]
  intro F' H' b s rv
  obtain ⟨F4, s4, hd⟩ := freeze_ok s rv (fzR_ok h2)
  exact hy F4 H' b x rfl (st.trans s4) hd
theorem body_item : BodyOk p (fItem fe) tYes (tE p fe) := fun σ2 F2 H2 ρ3 o ρ5 KY KN e h hy hn => by
  show if true = true then tE p fe σ2 H2 KY else KN H2
  rw [if_pos rfl]
  exact item_te (Step.refl e : Stp p σ2 F2 H2 ρ3 σ2 F2 H2 ρ3) h hy
theorem body_itemIf : BodyOk p (fItemIf ft fe) (tT p ft) (tE p fe) := fun σ2 F2 H2 ρ3 o ρ5 KY KN e h hy hn => by
  obtain ⟨b, ρ4, h1, h⟩ := R.bind_ok h
  refine ⟨F2, ρ3, e, ?_⟩
  rw [h1]
  intro F' H' b' s rb
  cases rb
  split
  · rename_i q
    rw [if_pos q] at h
    exact item_te s h hy
  · rename_i q
    rw [if_neg q] at h
    cases h
    exact hn rfl F' H' s
theorem backR_ok {α : Type} {ρ0 ρ : Fm} {own : List Nat} {r : R α} {a : α} (h : backR ρ0 own r = .ok a ρ) : ∃ ρ1, r = .ok a ρ1 ∧ ρ = backF ρ0 ρ1 own := by
  cases r with
  | ok b ρ1 =>
    cases h
    exact ⟨ρ1, rfl, rfl⟩
  | exc c ρ1 => cases h
  | no => cases h
theorem comp_tr {fi : Fm → R Its} {t : Tg} {body : Fm → R (Option D)} {tt : TT} {te : TE} (bo : BodyOk p body tt te) :
    ∀ σ H Q, tE p (fun ρ => (fi ρ).bind fun q ρ1 => compAll t.slots (fun d ρ2 => (lift (asgT t d ρ2) ρ2).bind fun ρ3 _ => body ρ3) q.1 q.2 ρ1) σ H Q → tLc (tI p fi) (gW p t) tt te t.slots σ H Q := fun σ H Q h => by
  obtain ⟨F, ρ, e, h⟩ := h
  refine ⟨F, ρ, e, ?_⟩
  dsimp only at h
  cases ef : fi ρ with
  | no =>
    rw [ef] at h
    exact h.elim
  | exc c ρ' =>
    rw [ef] at h
    exact h
  | ok its ρL =>
    rw [ef] at h
    intro F' H' J ρP G s l io g A hA
    obtain ⟨ds, lk⟩ := its
    dsimp only [R.bind] at h l io
    unfold compAll at h
    split at h
    case isFalse => exact h.elim
    rename_i hfit
    have hfit := fits_le hfit
    split at h
    case h_2 => exact h.elim
    rename_i r ρE hcl
    have eL := s.env.lock l
    have hH0A : p.H0 A = none := eL.dom A hA
    have hHA : H A = none := s.dm A hA
    obtain ⟨f, hf⟩ : ∃ f, f = (fun (d : D) (ρ1 : Fm) => backR ρ1 t.slots ((lift (asgT t d (wipeF ρ1 t.slots)) (wipeF ρ1 t.slots)).bind fun ρ3 _ => body ρ3)) := ⟨_, rfl⟩
    have hcl : compL (fun (d : D) (ρ1 : Fm) => backR ρ1 t.slots ((lift (asgT t d (wipeF ρ1 t.slots)) (wipeF ρ1 t.slots)).bind fun ρ3 _ => body ρ3)) ds ρL = .ok r ρE := hcl
    rw [← hf] at hcl
    refine ⟨fun i m H2 => m = ds.length - i ∧ i ≤ ds.length ∧ ∃ F2 ρ2 acc ads rest, Stp p σ F' H' ρL σ F2 H2 ρ2 ∧ H2 A = some (.lst acc) ∧ F2 A = none ∧ ¬ OwnAt σ ρ2 A ∧ DqAll p.K F2 acc ads ∧ compL f (ds.drop i) ρ2 = .ok rest ρE ∧ r = ads ++ rest ∧ ads.length ≤ i, ⟨_, rfl, Nat.zero_le _, ?_⟩, ?_⟩
    · obtain ⟨a, vs, q1, q2, q3, q4, q5, _⟩ := tmp_new (vs := []) (ds := []) (Step.refl (K := p.K) (H0 := p.H0) eL) hA .nil
      cases q1
      exact ⟨F', ρL, [], [], r, (Step.refl eL).new hA, upd_same, q4, q5, .nil, hcl, rfl, Nat.le_refl _⟩
    · rintro i m H2 ⟨rfl, hi, F2, ρ2, acc, ads, rest, st, hA2, fA, nA, hda, hc2, hr, hlen⟩
      have g2 : G F2 σ H2 ρ2 := io.keep _ _ _ _ _ _ _ _ st g
      by_cases hlt : i < ds.length
      · have hdrop : ds.drop i = ds[i] :: ds.drop (i + 1) := List.drop_eq_getElem_cons hlt
        rw [hdrop] at hc2
        simp only [compL] at hc2
        obtain ⟨o, ρ3, c1, hc2⟩ := R.bind_ok hc2
        obtain ⟨rest', ρE', c2, hc2⟩ := R.bind_ok hc2
        cases hc2
        rw [hf] at c1
        obtain ⟨ρ5, c1, c3⟩ := backR_ok c1
        obtain ⟨ρ4, ρx, c4, c5⟩ := R.bind_ok c1
        obtain ⟨c4, _⟩ := lift_ok c4
        refine .inr ⟨io.go i F2 σ H2 ρ2 hlt st.env g2, fun H3 => ds.length - (i + 1) = ds.length - (i + 1) ∧ i + 1 ≤ ds.length ∧ ∃ F2 ρ2 acc ads rest, Stp p σ F' H' ρL σ F2 H3 ρ2 ∧ H3 A = some (.lst acc) ∧ F2 A = none ∧ ¬ OwnAt σ ρ2 A ∧ DqAll p.K F2 acc ads ∧ compL f (ds.drop (i + 1)) ρ2 = .ok rest ρE ∧ r = ads ++ rest ∧ ads.length ≤ i + 1, fun H3 q => ⟨_, by omega, q⟩, fun x Hy y => ?_⟩
        obtain ⟨F3, d, s3, hd, hx⟩ := io.yld i F2 σ H2 ρ2 x Hy hlt st.env g2 y
        rw [List.getElem?_eq_getElem hlt] at hd
        cases hd
        have stt := st.trans s3
        refine ⟨F3, wipeF ρ2 t.slots, _, ρ4, stt.env.wipe _, hx, c4, fun σ2 s4 ag => ⟨(Agree.trans (agree_wipe σ t.slots) ag (us := t.slots) (fun _ z => z) (fun _ z => z)).wipe, ?_⟩⟩
        have agt := Agree.trans (agree_wipe σ t.slots) ag (us := t.slots) (fun _ z => z) (fun _ z => z)
        have hA3 := s3.hp A _ hA2 nA
        have fA3 := s3.nf A fA (by rw [hA2]; simp) nA
        refine bo σ2 F3 Hy ρ4 o ρ5 _ _ s4.env c5 (fun F4 H4 y x ho s5 hy => ?_) (fun ho F4 H4 s5 => ?_)
        · have sb := Step.back stt.env (s4.trans s5) agt
          have hA4 := sb.hp A _ hA3 nA
          have fA4 := sb.nf A fA3 (by rw [hA3]; simp) nA
          have nA4 : ¬ OwnAt σ (backF ρ2 ρ5 t.slots) A := fun z => (sb.ow A z).elim nA fun z => by rw [hA3] at z; cases z
          have ll := dqAll_len hda
          refine ⟨acc, hA4, by omega, rfl, hlt, F4, _, acc ++ [y], ads ++ [x], rest', (stt.trans sb).over hA fA4 nA4, upd_same, fA4, nA4, dqAll_app (dqAll_mono (subH_trans s3.fz sb.fz) _ _ hda) (.cons hy .nil), ?_, ?_, ?_⟩
          · rw [← c3]
            exact c2
          · rw [hr, ho]
            simp
          · simp
            omega
        · have sb := Step.back stt.env (s4.trans s5) agt
          have hA4 := sb.hp A _ hA3 nA
          have fA4 := sb.nf A fA3 (by rw [hA3]; simp) nA
          have nA4 : ¬ OwnAt σ (backF ρ2 ρ5 t.slots) A := fun z => (sb.ow A z).elim nA fun z => by rw [hA3] at z; cases z
          refine ⟨rfl, hlt, F4, _, acc, ads, rest', stt.trans sb, hA4, fA4, nA4, dqAll_mono (subH_trans s3.fz sb.fz) _ _ hda, ?_, ?_, by omega⟩
          · rw [← c3]
            exact c2
          · rw [hr, ho]
      · have hieq : i = ds.length := by omega
        subst hieq
        refine .inl ⟨io.stop F2 σ H2 ρ2 st.env g2, ?_⟩
        rw [List.drop_length] at hc2
        simp only [compL] at hc2
        cases hc2
        rw [List.append_nil] at hr
        subst hr
        refine h F2 H2 _ (s.unlock l st) ?_
        exact RvOk.unlock (r := .tmp r) ⟨A, acc, rfl, hA2, hda, fA, nA, hH0A, hHA⟩
end
section
variable {p : Par} {X : Cx} {elt tg iter c : Expr} {scope : Scope} {own : List (Str × Nat)} {pos : Pos} {fi : Fm → R Its} {fe : Fm → R RV} {ft : Fm → R Bool} {t : Tg} {hK : p.K = X.K}
def fComp (t : Tg) (fi : Fm → R Its) (fe : Fm → R RV) : Fm → R RV := fun ρ => (fi ρ).bind fun q ρ1 => compAll t.slots (fun d ρ2 => (lift (asgT t d ρ2) ρ2).bind fun ρ3 _ => fItem fe ρ3) q.1 q.2 ρ1
def fCompIf (t : Tg) (fi : Fm → R Its) (ft : Fm → R Bool) (fe : Fm → R RV) : Fm → R RV := fun ρ => (fi ρ).bind fun q ρ1 => compAll t.slots (fun d ρ2 => (lift (asgT t d ρ2) ρ2).bind fun ρ3 _ => fItemIf ft fe ρ3) q.1 q.2 ρ1
abbrev Par.calm (p : Par) : Par := { p with W := fun _ _ _ _ => False }
theorem e_comp (hc : X.calm = true) (hN : X.N.Nodup) (hi : PI X tg iter (tI p fi)) (ok : BlkOk X.N X.env.scope scope own) (hv : own.map (·.2) = t.slots)
    (hg : ∀ (s : Shared) (H : Hp) (C : Addr) (cl : List (Str × Addr)) (fp : List Addr), PG (X.blk s H scope (compEnvC scope cl C X.env) fp) tg (gW p.calm t))
    (he : ∀ (s : Shared) (H : Hp) (C : Addr) (cl : List (Str × Addr)) (fp : List Addr), PE (X.blk s H scope (compEnvC scope cl C X.env) fp) elt (tE p.calm fe)) (hs : ∀ x, foldedSetIterable iter X.env x = pure x) :
    PE X (.ListComp elt [⟨tg, iter, [], 0⟩] scope pos) (tE p (fComp t fi fe)) :=
  PE.weaken (pe_lc hc hN hi ok hg (fun _ _ _ _ _ => pts_nil) he hs) fun σ H Q h => by
    rw [hv]
    exact comp_tr (p := p) (body_item (p := p.calm)) σ H Q h
theorem e_compIf (hc : X.calm = true) (hN : X.N.Nodup) (hi : PI X tg iter (tI p fi)) (ok : BlkOk X.N X.env.scope scope own) (hv : own.map (·.2) = t.slots)
    (hg : ∀ (s : Shared) (H : Hp) (C : Addr) (cl : List (Str × Addr)) (fp : List Addr), PG (X.blk s H scope (compEnvC scope cl C X.env) fp) tg (gW p.calm t))
    (ht : ∀ (s : Shared) (H : Hp) (C : Addr) (cl : List (Str × Addr)) (fp : List Addr), PT (X.blk s H scope (compEnvC scope cl C X.env) fp) c (tT p.calm ft))
    (he : ∀ (s : Shared) (H : Hp) (C : Addr) (cl : List (Str × Addr)) (fp : List Addr), PE (X.blk s H scope (compEnvC scope cl C X.env) fp) elt (tE p.calm fe)) (hs : ∀ x, foldedSetIterable iter X.env x = pure x) :
    PE X (.ListComp elt [⟨tg, iter, [c], 0⟩] scope pos) (tE p (fCompIf t fi ft fe)) :=
  PE.weaken (pe_lc hc hN hi ok hg (fun s H C cl fp => pts_one (ht s H C cl fp)) he hs) fun σ H Q h => by
    rw [hv]
    exact comp_tr (p := p) (body_itemIf (p := p.calm)) σ H Q h
end
end Wk

/-! The walk layer, part 13: statements. -/
namespace Wk
open PySem PySem.Spec L2
section
variable (p : Par)
def PostS (σ : St) (F H : Hp) (ρ : Fm) (r : R Fl) (D : Ends) : Prop := match r with
  | .ok .nx ρ' => ∀ σ' F' H', Stp p σ F H ρ σ' F' H' ρ' → D.nx σ' H'
  | .ok .brk ρ' => ∀ σ' F' H', Stp p σ F H ρ σ' F' H' ρ' → D.bk σ' H'
  | .ok .cnt ρ' => ∀ σ' F' H', Stp p σ F H ρ σ' F' H' ρ' → D.ct σ' H'
  | .ok (.ret v) ρ' => ∀ σ' F' H' x, Stp p σ F H ρ σ' F' H' ρ' → RvOk p.K p.H0 H F' σ' H' ρ' x v → D.rt x H'
  | .exc c ρ' => ∀ σ' F' H', Stp p σ F H ρ σ' F' H' ρ' → p.W (p.xc c) none σ' H'
  | .no => False
def tS (f : Fm → R Fl) : TS := fun D σ H => ∃ F ρ, EnvOk p.K p.H0 F σ H ρ ∧ PostS p σ F H ρ (f ρ) D
end
theorem PS.weaken {X : Cx} {e : Stmt} {t t' : TS} (h : PS X e t) (w : ∀ D σ H, t' D σ H → t D σ H) : PS X e t' := ⟨fun pins s σ H D I q => h.run pins s σ H D I (w D σ H q)⟩
theorem PSs.weaken {X : Cx} {e : List Stmt} {t t' : TS} (h : PSs X e t) (w : ∀ D σ H, t' D σ H → t D σ H) : PSs X e t' := ⟨fun pins s σ H D I q => h.run pins s σ H D I (w D σ H q)⟩
section
variable {p : Par} {σ σ1 : St} {F H F1 H1 : Hp} {ρ ρ1 : Fm} {D : Ends} {r : R Fl}
theorem PostS.base (s : Stp p σ F H ρ σ1 F1 H1 ρ1) (h : PostS p σ F H ρ r D) : PostS p σ1 F1 H1 ρ1 r D := by
  match r, h with
  | .ok .nx ρ', h => exact fun σ' F' H' t => h σ' F' H' (s.trans t)
  | .ok .brk ρ', h => exact fun σ' F' H' t => h σ' F' H' (s.trans t)
  | .ok .cnt ρ', h => exact fun σ' F' H' t => h σ' F' H' (s.trans t)
  | .ok (.ret v) ρ', h => exact fun σ' F' H' x t rv => h σ' F' H' x (s.trans t) (rv.old s.dm)
  | .exc c ρ', h => exact fun σ' F' H' t => h σ' F' H' (s.trans t)
  | .no, h => exact h.elim
/-- an expression in a statement -/
theorem sG_seq {α β : Type} {Rel1 : St → Hp → Hp → Hp → Fm → β → α → Prop} {f : Fm → R α} {k : α → Fm → R Fl} {G : β → Hp → Prop}
    (st : Stp p σ F H ρ σ F1 H1 ρ1) (h : PostS p σ F H ρ ((f ρ1).bind k) D)
    (g : ∀ F2 H2 ρ2 a b, Stp p σ F1 H1 ρ1 σ F2 H2 ρ2 → Stp p σ F H ρ σ F2 H2 ρ2 → Rel1 σ H1 F2 H2 ρ2 b a → PostS p σ F H ρ (k a ρ2) D → G b H2) : tG p Rel1 f σ H1 G := by
  refine ⟨F1, ρ1, st.env, ?_⟩
  cases e : f ρ1 with
  | ok a ρ2 =>
    rw [e] at h
    intro F2 H2 b s1 r
    exact g F2 H2 ρ2 a b s1 (st.trans s1) r h
  | exc c ρ2 =>
    rw [e] at h
    intro F2 H2 s1
    exact h σ F2 H2 (st.trans s1)
  | no =>
    rw [e] at h
    exact h
theorem postS_lift {α : Type} {o : Option α} {k : α → Fm → R Fl} (h : PostS p σ F H ρ ((lift o ρ1).bind k) D) : ∃ a, o = some a ∧ PostS p σ F H ρ (k a ρ1) D := by
  cases o with
  | none => exact h.elim
  | some a => exact ⟨a, rfl, h⟩
theorem postS_fz {rv : RV} {v : V} {k : Wk.D → Fm → R Fl} (s : Stp p σ F H ρ σ F1 H1 ρ1) (hv : RvOk p.K p.H0 H F1 σ H1 ρ1 v rv)
    (h : PostS p σ F H ρ ((fzR rv ρ1).bind k) D) : ∃ d ρ2 F2, Stp p σ F H ρ σ F2 H1 ρ2 ∧ Dq p.K F2 v d ∧ PostS p σ F H ρ (k d ρ2) D := by
  unfold fzR at h
  cases e : freeze rv ρ1 with
  | none =>
    rw [e] at h
    exact h.elim
  | some q =>
    rw [e] at h
    obtain ⟨d, ρ2⟩ := q
    obtain ⟨F2, s2, hd⟩ := freeze_ok s hv e
    exact ⟨d, ρ2, F2, s2, hd, h⟩
theorem postS_pk {γ : Type} {Hs : Hp} {rv : RV} {v : V} {f : Wk.D → Option γ} {k : γ → Fm → R Fl} (s : Stp p σ F H ρ σ F1 H1 ρ1) (hv : RvOk p.K p.H0 Hs F1 σ H1 ρ1 v rv)
    (h : PostS p σ F H ρ ((pk rv ρ1 f).bind k) D) : ∃ d c, Pk p.K F1 H1 v d ∧ f d = some c ∧ PostS p σ F H ρ (k c ρ1) D := by
  obtain ⟨c, e, h⟩ := postS_lift h
  obtain ⟨d, e1, e2⟩ := bind_some e
  exact ⟨d, c, peek_ok s.env hv e1, e2, h⟩
theorem setR_ok {i : Nat} {v : V} {rv : RV} {ρ2 : Fm} (s : Stp p σ F H ρ σ F1 H1 ρ1) (hv : RvOk p.K p.H0 H F1 σ H1 ρ1 v rv) (h : setR i rv ρ1 = some ρ2) : ∃ F2, Stp p σ F H ρ (σ.set i (some v)) F2 H1 ρ2 := by
  have e := s.env
  cases rv with
  | val d => exact ⟨F1, s.trans (step_setV e h hv)⟩
  | sl j =>
    obtain ⟨⟨d, ρ3⟩, h1, h2⟩ := bind_some h
    obtain ⟨F2, s2, hd⟩ := freeze_ok s hv h1
    exact ⟨F2, s2.trans (step_setV s2.env h2 hd)⟩
  | tmp xs =>
    obtain ⟨a, vs, rfl, w1, w2, w3, w4, w5, w6⟩ := hv
    simp only [setR] at h
    split at h
    case isFalse => cases h
    rename_i f
    cases h
    have hi : i < ρ1.length := by
      cases q : ρ1[i]? with
      | none => rw [q] at f; cases f
      | some s => exact (List.getElem?_eq_some_iff.mp q).1
    have own : ∀ {j : Nat} {ys : List Wk.D} {k : Kd}, (ρ1.set i (.own xs .mine))[j]? = some (.own ys k) → (i = j ∧ ys = xs ∧ k = .mine) ∨ (i ≠ j ∧ ρ1[j]? = some (.own ys k)) := fun {j ys k} q => by
      rcases set_get q with ⟨z, z2, _⟩ | ⟨z, z2⟩
      · cases z2
        exact .inl ⟨z, rfl, rfl⟩
      · exact .inr ⟨z, z2⟩
    have sv : (σ.set i (some (V.ref a)))[i]? = some (some (V.ref a)) := List.getElem?_set_self (by rw [← e.len]; exact hi)
    refine ⟨F1, s.fz, s.hp, s.dm, s.nf, fun b q => ?_, fun j ys k hj nk => ?_, ⟨e.sub, by rw [List.length_set, List.length_set]; exact e.len, fun j d q => ?_, fun j ys k q => ?_, fun j l b ys zs k k' q1 q2 e1 e2 => ?_, e.dom⟩⟩
    · obtain ⟨j, ys, k, q1, q2⟩ := q
      rcases own q1 with ⟨rfl, _, _⟩ | ⟨n, z⟩
      · rw [sv] at q2
        cases q2
        exact .inr w6
      · rw [List.getElem?_set_ne n] at q2
        exact s.ow b ⟨j, ys, k, z, q2⟩
    · obtain ⟨l1, ys', l2, l3⟩ := s.lk j ys k hj nk
      have n : i ≠ j := fun z => by
        subst z
        exact nk (free_not f l2)
      rw [List.getElem?_set_ne n, List.getElem?_set_ne n]
      exact ⟨l1, ys', l2, l3⟩
    · rcases set_get q with ⟨_, z, _⟩ | ⟨n, z⟩
      · cases z
      · rw [List.getElem?_set_ne n]
        exact e.val j d z
    · rcases own q with ⟨rfl, rfl, rfl⟩ | ⟨n, z⟩
      · exact ⟨a, vs, sv, w1, w2, w3, fun _ => w5⟩
      · rw [List.getElem?_set_ne n]
        exact e.own j ys k z
    · rcases own q1 with ⟨rfl, _, _⟩ | ⟨n, z⟩
      · rcases own q2 with ⟨rfl, _, _⟩ | ⟨n2, z2⟩
        · rfl
        · rw [sv] at e1
          cases e1
          rw [List.getElem?_set_ne n2] at e2
          exact absurd ⟨l, zs, k', z2, e2⟩ w4
      · rcases own q2 with ⟨rfl, _, _⟩ | ⟨n2, z2⟩
        · rw [sv] at e2
          cases e2
          rw [List.getElem?_set_ne n] at e1
          exact absurd ⟨j, ys, k, z, e1⟩ w4
        · rw [List.getElem?_set_ne n] at e1
          rw [List.getElem?_set_ne n2] at e2
          exact e.sep j l b ys zs k k' z z2 e1 e2
theorem setR_okF {σ0 : St} {i : Nat} {v : V} {rv : RV} {ρ2 : Fm} (s : Stp p σ0 F H ρ σ F1 H1 ρ1) (hv : RvOk p.K p.H0 H F1 σ H1 ρ1 v rv) (h : setR i rv ρ1 = some ρ2) (hn : ∀ j, rv ≠ .sl j) : Stp p σ0 F H ρ (σ.set i (some v)) F1 H1 ρ2 := by
  have e := s.env
  cases rv with
  | val d => exact s.trans (step_setV e h hv)
  | sl j => exact absurd rfl (hn j)
  | tmp xs =>
    obtain ⟨a, vs, rfl, w1, w2, w3, w4, w5, w6⟩ := hv
    simp only [setR] at h
    split at h
    case isFalse => cases h
    rename_i f
    cases h
    have hi : i < ρ1.length := by
      cases q : ρ1[i]? with
      | none => rw [q] at f; cases f
      | some s => exact (List.getElem?_eq_some_iff.mp q).1
    have own : ∀ {j : Nat} {ys : List Wk.D} {k : Kd}, (ρ1.set i (.own xs .mine))[j]? = some (.own ys k) → (i = j ∧ ys = xs ∧ k = .mine) ∨ (i ≠ j ∧ ρ1[j]? = some (.own ys k)) := fun {j ys k} q => by
      rcases set_get q with ⟨z, z2, _⟩ | ⟨z, z2⟩
      · cases z2
        exact .inl ⟨z, rfl, rfl⟩
      · exact .inr ⟨z, z2⟩
    have sv : (σ.set i (some (V.ref a)))[i]? = some (some (V.ref a)) := List.getElem?_set_self (by rw [← e.len]; exact hi)
    refine ⟨s.fz, s.hp, s.dm, s.nf, fun b q => ?_, fun j ys k hj nk => ?_, ⟨e.sub, by rw [List.length_set, List.length_set]; exact e.len, fun j d q => ?_, fun j ys k q => ?_, fun j l b ys zs k k' q1 q2 e1 e2 => ?_, e.dom⟩⟩
    · obtain ⟨j, ys, k, q1, q2⟩ := q
      rcases own q1 with ⟨rfl, _, _⟩ | ⟨n, z⟩
      · rw [sv] at q2
        cases q2
        exact .inr w6
      · rw [List.getElem?_set_ne n] at q2
        exact s.ow b ⟨j, ys, k, z, q2⟩
    · obtain ⟨l1, ys', l2, l3⟩ := s.lk j ys k hj nk
      have n : i ≠ j := fun z => by
        subst z
        exact nk (free_not f l2)
      rw [List.getElem?_set_ne n, List.getElem?_set_ne n]
      exact ⟨l1, ys', l2, l3⟩
    · rcases set_get q with ⟨_, z, _⟩ | ⟨n, z⟩
      · cases z
      · rw [List.getElem?_set_ne n]
        exact e.val j d z
    · rcases own q with ⟨rfl, rfl, rfl⟩ | ⟨n, z⟩
      · exact ⟨a, vs, sv, w1, w2, w3, fun _ => w5⟩
      · rw [List.getElem?_set_ne n]
        exact e.own j ys k z
    · rcases own q1 with ⟨rfl, _, _⟩ | ⟨n, z⟩
      · rcases own q2 with ⟨rfl, _, _⟩ | ⟨n2, z2⟩
        · rfl
        · rw [sv] at e1
          cases e1
          rw [List.getElem?_set_ne n2] at e2
          exact absurd ⟨l, zs, k', z2, e2⟩ w4
      · rcases own q2 with ⟨rfl, _, _⟩ | ⟨n2, z2⟩
        · rw [sv] at e2
          cases e2
          rw [List.getElem?_set_ne n] at e1
          exact absurd ⟨j, ys, k, z, e1⟩ w4
        · rw [List.getElem?_set_ne n] at e1
          rw [List.getElem?_set_ne n2] at e2
          exact e.sep j l b ys zs k k' z z2 e1 e2
/-- two values stored, new lists owned -/
theorem setR_get {i : Nat} {rv : RV} {ρ1 ρ2 : Fm} (h : setR i rv ρ1 = some ρ2) (hn : ∀ j, rv ≠ .sl j) : ρ2 = ρ1.set i (match rv with | .val d => .val d | .tmp xs => .own xs .mine | .sl _ => .no) := by
  cases rv with
  | val d =>
    simp only [setR, setV] at h
    split at h
    · cases h
      rfl
    · cases h
  | sl j => exact absurd rfl (hn j)
  | tmp xs =>
    simp only [setR] at h
    split at h
    · cases h
      rfl
    · cases h
theorem setR2_ok {σ0 : St} {i j : Nat} {v w : V} {r1 r2 : RV} {ρ3 : Fm} {Hm : Hp} (s : Stp p σ0 F H ρ σ F1 H1 ρ1) (h1 : RvOk p.K p.H0 H F1 σ H1 ρ1 v r1) (h2 : RvOk p.K p.H0 Hm F1 σ H1 ρ1 w r2) (hm : ∀ a, Hm a = none → H a = none)
    (hd : ∀ xs, r1 = .tmp xs → ∀ a, v = .ref a → Hm a = none → False) (h : setR2 i j r1 r2 ρ1 = some ρ3) : Stp p σ0 F H ρ ((σ.set i (some v)).set j (some w)) F1 H1 ρ3 := by
  have n1 : ∀ k, r1 ≠ .sl k := by
    rintro k rfl
    cases r2 <;> cases h
  have n2 : ∀ k, r2 ≠ .sl k := by
    rintro k rfl
    cases r1 <;> cases h
  have h : (setR i r1 ρ1).bind (setR j r2) = some ρ3 := by
    cases r1 <;> cases r2 <;> first | exact h | exact absurd rfl (n1 _) | exact absurd rfl (n2 _)
  obtain ⟨ρ2, e1, e2⟩ := bind_some h
  have s1 := setR_okF s h1 e1 n1
  have g := setR_get e1 n1
  refine setR_okF s1 ?_ e2 n2
  have h2c := h2
  have h2 := h2.old hm
  cases r2 with
  | val d => exact h2
  | sl k => exact absurd rfl (n2 k)
  | tmp ys =>
    obtain ⟨a, vs, rfl, w1, w2, w3, w4, w5, w6⟩ := h2
    refine ⟨a, vs, rfl, w1, w2, w3, ?_, w5, w6⟩
    rintro ⟨k, zs, kd, q1, q2⟩
    rw [g] at q1
    rcases set_get q1 with ⟨z, z2, z3⟩ | ⟨z, z2⟩
    · rw [z, List.getElem?_set_self (by rw [← s.env.len]; rw [← z]; exact z3)] at q2
      have q2 : v = .ref a := Option.some.inj (Option.some.inj q2)
      cases r1 with
      | val d => cases z2
      | sl k => exact absurd rfl (n1 k)
      | tmp xs =>
        obtain ⟨a', vs', e', _, _, _, _, _, z6⟩ := h2c
        cases e'
        exact hd xs rfl _ q2 z6
    · rw [List.getElem?_set_ne z] at q2
      exact w4 ⟨k, zs, kd, z2, q2⟩
end
section
variable {X : Cx} {p : Par} {e c : Expr} {st : Stmt} {rest body orelse : List Stmt} {fe fa fb fx : Fm → R RV} {ft : Fm → R Bool} {fs fu : Fm → R Fl} {pos p1 p2 : Pos} {hK : p.K = X.K}
theorem s_nil : PSs X [] (tS p fun ρ => .ok .nx ρ) := PSs.weaken pss_nil fun D σ H h => by
  obtain ⟨F, ρ, e, h⟩ := h
  exact h σ F H (.refl e)
theorem s_doc {x : Str} {j : Nat} : PS X (.Expr (.Constant (.str x) j p1) p2) (tS p fun ρ => .ok .nx ρ) := PS.weaken ps_doc fun D σ H h => by
  obtain ⟨F, ρ, e, h⟩ := h
  exact h σ F H (.refl e)
theorem s_pass : PS X (.Pass pos) (tS p fun ρ => .ok .nx ρ) := PS.weaken ps_pass fun D σ H h => by
  obtain ⟨F, ρ, e, h⟩ := h
  exact h σ F H (.refl e)
theorem s_never : PS X st (tS p fun _ => .no) := PS.weaken ps_never fun D σ H h => by
  obtain ⟨F, ρ, e, h⟩ := h
  exact h.elim
theorem e_never : PE X e (tE p fun _ => .no) := ⟨fun _ _ _ _ _ _ h => by
  obtain ⟨F, ρ, e, h⟩ := h
  exact h.elim⟩
theorem s_seq (h1 : PS X st (tS p fs)) (h2 : PSs X rest (tS p fu)) : PSs X (st :: rest) (tS p fun ρ => (fs ρ).bind fun fl ρ1 => match fl with
    | .nx => fu ρ1
    | fl => .ok fl ρ1) :=
  PSs.weaken (pss_cons h1 h2) fun D σ H h => by
    obtain ⟨F, ρ, e, h⟩ := h
    have h : PostS p σ F H ρ ((fs ρ).bind fun fl ρ1 => match fl with
      | .nx => fu ρ1
      | fl => .ok fl ρ1) D := h
    refine ⟨F, ρ, e, ?_⟩
    cases q : fs ρ with
    | no =>
      rw [q] at h
      exact h
    | exc c ρ1 =>
      rw [q] at h
      exact h
    | ok fl ρ1 =>
      rw [q] at h
      cases fl with
      | nx => exact fun σ1 F1 H1 s => ⟨F1, ρ1, s.env, PostS.base s h⟩
      | ret v => exact h
      | brk => exact h
      | cnt => exact h
theorem s_expr (he : PE X e (tE p fe)) (hs : swapsWith e none pos.line X.env = pure false) : PS X (.Expr e pos) (tS p fun ρ => (fe ρ).bind fun _ ρ1 => .ok .nx ρ1) :=
  PS.weaken (ps_expr he hs) fun D σ H h => by
    obtain ⟨F, ρ, e, h⟩ := h
    exact sG_seq (.refl e) h fun F1 H1 ρ1 r x _ s1 v1 h => h σ F1 H1 s1
theorem asg_tr {i : Nat} : ∀ D σ H, tS p (fun ρ => (fe ρ).bind fun r ρ1 => (lift (setR i r ρ1) ρ1).bind fun ρ2 _ => .ok .nx ρ2) D σ H → tAsg (tE p fe) (gName i) D σ H := fun D σ H h => by
  obtain ⟨F, ρ, e, h⟩ := h
  refine sG_seq (.refl e) h fun F1 H1 ρ1 r x _ s1 v1 h => ?_
  obtain ⟨ρ2, e2, h⟩ := postS_lift h
  obtain ⟨F2, s2⟩ := setR_ok s1 v1 e2
  exact h _ F2 H1 s2
theorem s_asg {i : Nat} {x : Str} (hN : X.N.Nodup) (hi : X.N[i]? = some x) (hx : Loc X.env.scope x) (he : PE X e (tE p fe)) (hs : swapsWith e (some (.Name x p1)) pos.line X.env = pure false) (hf : X.fn x = true ∨ X.env.scope.names.lookup x = some .local) :
    PS X (.Assign [.Name x p1] e pos) (tS p fun ρ => (fe ρ).bind fun r ρ1 => (lift (setR i r ρ1) ρ1).bind fun ρ2 _ => .ok .nx ρ2) :=
  PS.weaken (ps_set hN hi hx he hs hf) asg_tr
theorem s_asgT {t : Tg} {tg : Expr} (he : PE X e (tE p fe)) (hg : PG X tg (gW p t)) (hs : swapsWithSole [tg] e pos.line X.env = pure false) (hw : swappedStores [tg] e X.env = pure none) (h1 : (assignEach [tg] X.env).map (·.2) = [assign tg X.env]) :
    PS X (.Assign [tg] e pos) (tS p fun ρ => (fe ρ).bind fun r ρ1 => (fzR r ρ1).bind fun d ρ2 => (lift (asgT t d ρ2) ρ2).bind fun ρ3 _ => .ok .nx ρ3) :=
  PS.weaken (ps_asg he hg hs hw h1) fun D σ H h => by
    obtain ⟨F, ρ, e, h⟩ := h
    refine sG_seq (.refl e) h fun F1 H1 ρ1 r x _ s1 v1 h => ?_
    obtain ⟨d, ρ2, F2, s2, hd, h⟩ := postS_fz s1 v1 h
    obtain ⟨ρ3, e3, h⟩ := postS_lift h
    exact ⟨F2, ρ2, d, ρ3, s2.env, hd, e3, fun σ' s3 _ => h σ' F2 H1 (s2.trans s3)⟩
theorem setVs2 {i j : Nat} {ds : List D} {vs : List V} {σ : St} {F H : Hp} {ρ ρ' : Fm} (e : EnvOk p.K p.H0 F σ H ρ) (hv : DqAll p.K F vs ds) (h : setVs [i, j] ds ρ = some ρ') : ∃ v w, vs = [v, w] ∧ Stp p σ F H ρ ((σ.set i (some v)).set j (some w)) F H ρ' := by
  cases hv with
  | nil => cases h
  | cons r1 hv =>
    cases hv with
    | nil =>
      obtain ⟨_, _, h⟩ := bind_some h
      cases h
    | cons r2 hv =>
      obtain ⟨ρ1, h1, h⟩ := bind_some h
      obtain ⟨ρ2, h2, h⟩ := bind_some h
      cases hv with
      | cons _ _ => cases h
      | nil =>
        cases h
        have s1 := step_setV e h1 r1
        exact ⟨_, _, rfl, s1.trans (step_setV s1.env h2 r2)⟩
theorem setVs3 {i j l : Nat} {ds : List D} {vs : List V} {σ : St} {F H : Hp} {ρ ρ' : Fm} (e : EnvOk p.K p.H0 F σ H ρ) (hv : DqAll p.K F vs ds) (h : setVs [i, j, l] ds ρ = some ρ') : ∃ u v w, vs = [u, v, w] ∧ Stp p σ F H ρ (((σ.set i (some u)).set j (some v)).set l (some w)) F H ρ' := by
  cases hv with
  | nil => cases h
  | cons r1 hv =>
    obtain ⟨ρ1, h1, h⟩ := bind_some h
    have s1 := step_setV e h1 r1
    obtain ⟨v, w, rfl, s2⟩ := setVs2 (p := p) s1.env hv h
    exact ⟨_, v, w, rfl, s1.trans s2⟩
theorem s_par2 {i j : Nat} {x y : Str} {a b : Expr} {fd : Fm → R (List D)} {px py pt : Pos} {kt k2 pt2} (hc : X.calm = true) (hN : X.N.Nodup) (hi : X.N[i]? = some x) (hj : X.N[j]? = some y) (hij : i ≠ j)
    (hx : X.env.scope.names.lookup x = some .local) (hy : X.env.scope.names.lookup y = some .local) (ha : PA X [a, b] (tD p fd))
    (hw : swappedStores [.Tuple [.Name x px, .Name y py] kt pt] (.Tuple [a, b] k2 pt2) X.env = pure (some [x, y]))
    (hs : swapsWithSole [.Tuple [.Name x px, .Name y py] kt pt] (.Tuple [a, b] k2 pt2) pos.line X.env = pure false) :
    PS X (.Assign [.Tuple [.Name x px, .Name y py] kt pt] (.Tuple [a, b] k2 pt2) pos) (tS p fun ρ => (fd ρ).bind fun ds ρ1 => (lift (setVs [i, j] ds ρ1) ρ1).bind fun ρ2 _ => .ok .nx ρ2) :=
  PS.weaken (ps_par hc hN hi hj hij hx hy ha hw hs) fun D σ H h => by
    obtain ⟨F, ρ, e, h⟩ := h
    refine sG_seq (.refl e) h fun F1 H1 ρ1 ds vs _ s1 v1 h => ?_
    obtain ⟨ρ2, e2, h⟩ := postS_lift h
    obtain ⟨v, w, rfl, s2⟩ := setVs2 (p := p) s1.env v1 e2
    exact ⟨v, w, rfl, h _ F1 H1 (s1.trans s2)⟩
theorem s_parO {i j : Nat} {x y : Str} {a b : Expr} {px py pt : Pos} {kt k2 pt2} (hc : X.calm = true) (hN : X.N.Nodup) (hi : X.N[i]? = some x) (hj : X.N[j]? = some y) (hij : i ≠ j)
    (hx : X.env.scope.names.lookup x = some .local) (hy : X.env.scope.names.lookup y = some .local) (ha : PE X a (tE p fa)) (hb : PE X b (tE p fb)) (hp : Plain X a) (hq : Plain X b)
    (hw : swappedStores [.Tuple [.Name x px, .Name y py] kt pt] (.Tuple [a, b] k2 pt2) X.env = pure (some [x, y]))
    (hs : swapsWithSole [.Tuple [.Name x px, .Name y py] kt pt] (.Tuple [a, b] k2 pt2) pos.line X.env = pure false) :
    PS X (.Assign [.Tuple [.Name x px, .Name y py] kt pt] (.Tuple [a, b] k2 pt2) pos) (tS p fun ρ => (fa ρ).bind fun r1 ρ1 => (fb ρ1).bind fun r2 ρ2 => (lift (setR2 i j r1 r2 ρ2) ρ2).bind fun ρ3 _ => .ok .nx ρ3) :=
  PS.weaken (ps_par hc hN hi hj hij hx hy (pa_cons ha (pa_cons hb pa_nil (hq [])) (hp [b])) hw hs) fun D σ H h => by
    obtain ⟨F, ρ, e, h⟩ := h
    refine sG_seq (.refl e) h fun F1 H1 ρ1 r1 v _ s1 v1 h => ?_
    refine sG_seq s1 h fun F2 H2 ρ2 r2 w s12 s2 v2 h => ?_
    obtain ⟨ρ3, e3, h⟩ := postS_lift h
    refine ⟨v, w, rfl, h _ F2 H2 (setR2_ok s2 (RvOk.step v1 s12) v2 s1.dm (fun xs er a e1 z => ?_) e3)⟩
    subst er
    obtain ⟨a', vs', e', w1, _⟩ := v1
    rw [e1] at e'
    cases e'
    rw [z] at w1
    cases w1
/-- the same where the pair is made: x, y = a, b of names that other scopes see -/
theorem s_asgO {i j : Nat} {x y : Str} {a b : Expr} {px py pt : Pos} {kt k2 pt2} (hc : X.calm = true) (hN : X.N.Nodup) (hi : X.N[i]? = some x) (hj : X.N[j]? = some y) (hij : i ≠ j)
    (hx : Loc X.env.scope x) (hy : Loc X.env.scope y) (fx : X.fn x = true ∨ X.env.scope.names.lookup x = some .local) (fy : X.fn y = true ∨ X.env.scope.names.lookup y = some .local) (ha : PE X a (tE p fa)) (hb : PE X b (tE p fb)) (hp : Plain X a) (hq : Plain X b)
    (hw : swappedStores [.Tuple [.Name x px, .Name y py] kt pt] (.Tuple [a, b] k2 pt2) X.env = pure none)
    (hs : swapsWithSole [.Tuple [.Name x px, .Name y py] kt pt] (.Tuple [a, b] k2 pt2) pos.line X.env = pure false) :
    PS X (.Assign [.Tuple [.Name x px, .Name y py] kt pt] (.Tuple [a, b] k2 pt2) pos) (tS p fun ρ => (fa ρ).bind fun r1 ρ1 => (fb ρ1).bind fun r2 ρ2 => (lift (setR2 i j r1 r2 ρ2) ρ2).bind fun ρ3 _ => .ok .nx ρ3) :=
  PS.weaken (ps_asg (pe_tup (pa_cons ha (pa_cons hb pa_nil (hq [])) (hp [b]))) (pg_tup hc (pgs_cons (pg_name hN hi hx fx) (pgs_cons (pg_name hN hj hy fy) pgs_nil)) rfl rfl) hs hw rfl) fun D σ H h => by
    obtain ⟨F, ρ, e, h⟩ := h
    refine sG_seq (.refl e) h fun F1 H1 ρ1 r1 v _ s1 v1 h => ?_
    refine sG_seq s1 h fun F2 H2 ρ2 r2 w s12 s2 v2 h => ?_
    obtain ⟨ρ3, e3, h⟩ := postS_lift h
    refine ⟨by show 2 ≤ sizeLine; decide, fun T hT => ?_⟩
    have sn := (Step.refl s2.env).new (o := HO.tup [v, w]) hT
    have s3 := setR2_ok (s2.new (o := HO.tup [v, w]) hT) (RvOk.step (RvOk.step v1 s12) sn) (RvOk.step v2 sn) s1.dm (fun xs er a e1 z => by
      subst er
      obtain ⟨a', vs', e', w1, _⟩ := v1
      rw [e1] at e'
      cases e'
      rw [z] at w1
      cases w1) e3
    exact ⟨T, [v, w], rfl, SqT.of upd_same, rfl, v, [w], rfl, w, [], rfl, rfl, h _ F2 _ s3⟩
theorem s_par3 {i j l : Nat} {x y z : Str} {a b c : Expr} {fd : Fm → R (List D)} {px py pz pt : Pos} {kt k2 pt2} (hc : X.calm = true) (hN : X.N.Nodup) (hi : X.N[i]? = some x) (hj : X.N[j]? = some y) (hl : X.N[l]? = some z) (hij : i ≠ j) (hil : i ≠ l) (hjl : j ≠ l)
    (hx : X.env.scope.names.lookup x = some .local) (hy : X.env.scope.names.lookup y = some .local) (hz : X.env.scope.names.lookup z = some .local) (ha : PA X [a, b, c] (tD p fd))
    (hw : swappedStores [.Tuple [.Name x px, .Name y py, .Name z pz] kt pt] (.Tuple [a, b, c] k2 pt2) X.env = pure (some [x, y, z]))
    (hs : swapsWithSole [.Tuple [.Name x px, .Name y py, .Name z pz] kt pt] (.Tuple [a, b, c] k2 pt2) pos.line X.env = pure false) :
    PS X (.Assign [.Tuple [.Name x px, .Name y py, .Name z pz] kt pt] (.Tuple [a, b, c] k2 pt2) pos) (tS p fun ρ => (fd ρ).bind fun ds ρ1 => (lift (setVs [i, j, l] ds ρ1) ρ1).bind fun ρ2 _ => .ok .nx ρ2) :=
  PS.weaken (ps_par3 hc hN hi hj hl hij hil hjl hx hy hz ha hw hs) fun D σ H h => by
    obtain ⟨F, ρ, e, h⟩ := h
    refine sG_seq (.refl e) h fun F1 H1 ρ1 ds vs _ s1 v1 h => ?_
    obtain ⟨ρ2, e2, h⟩ := postS_lift h
    obtain ⟨u, v, w, rfl, s2⟩ := setVs3 (p := p) s1.env v1 e2
    exact ⟨u, v, w, rfl, h _ F1 H1 (s1.trans s2)⟩
include hK in
theorem s_setix {i : Nat} {x : Str} {ix : Expr} {pt : Pos} (hN : X.N[i]? = some x) (hv : Vis X.env.scope x) (hd : (x == ("__debug__" : Str)) = false) (hcd : (x == ("__classdict__" : Str)) = false) (hx : PE X ix (tE p fx)) (he : PE X e (tE p fe))
    (ha : ∀ v, assign (.Subscript (.Name x p1) ix pt) X.env v = (do
      let ov ← holding [v] (eval (.Name x p1) X.env)
      let iv ← holding [v, ov] (eval ix X.env)
      standAt pt
      holding [v, ov, iv] (setItem ov iv v)
      release [v, ov, iv] []))
    (hs : swapsWithSole [.Subscript (.Name x p1) ix pt] e pos.line X.env = pure false) (hw : swappedStores [.Subscript (.Name x p1) ix pt] e X.env = pure none) (h1 : (assignEach [.Subscript (.Name x p1) ix pt] X.env).map (·.2) = [assign (.Subscript (.Name x p1) ix pt) X.env]) :
    PS X (.Assign [.Subscript (.Name x p1) ix pt] e pos) (tS p fun ρ => (fe ρ).bind fun r ρ1 => (fzR r ρ1).bind fun d ρ2 => (match ρ2[i]? with
      | some (.own _ _) => (fx ρ2).bind fun r2 ρ3 => (pk r2 ρ3 asInt).bind fun j _ => setAt i j d ρ3
      | _ => .no)) :=
  PS.weaken (ps_asg he (pg_sub (pe_var hN hv hd hcd) hx set_list ha) hs hw h1) fun D σ H h => by
    obtain ⟨F, ρ, e, h⟩ := h
    refine sG_seq (.refl e) h fun F1 H1 ρ1 r x _ s1 v1 h => ?_
    obtain ⟨d, ρ2, F2, s2, hd2, h⟩ := postS_fz s1 v1 h
    split at h
    · rename_i xs k hi
      obtain ⟨l, vs, w1, w2, _⟩ := s2.env.own i xs k hi
      refine ⟨_, w1, ?_⟩
      refine sG_seq s2 h fun F3 H3 ρ3 r2 y s23 s3 v3 h => ?_
      obtain ⟨dj, j, k1, e1, h⟩ := postS_pk s3 v3 h
      have ey := asInt_pk (hK := hK) k1 e1
      unfold setAt at h
      split at h
      · rename_i ys k2 hi2
        split at h
        · rename_i g
          obtain ⟨n, en, h⟩ := postS_lift h
          obtain ⟨l', us, z1, z2, z3, _⟩ := s3.env.own i ys k2 hi2
          rw [w1] at z1
          cases z1
          have ll := dqAll_len z3
          refine ⟨l, us, j, n, rfl, ey, z2, by rw [ll]; exact en, ?_⟩
          exact h σ F3 _ (s3.write g hi2 w1 z2 (dqAll_set (dq_mono s23.fz _ _ hd2) n z3))
        · exact h.elim
      · exact h.elim
    · exact h.elim
theorem s_ite {s1 s2 : List Stmt} (hc : PT X c (tT p ft)) (ha : PSs X s1 (tS p fs)) (hb : PSs X s2 (tS p fu)) : PS X (.If c s1 s2 pos) (tS p fun ρ => (ft ρ).bind fun b ρ1 => if b = true then fs ρ1 else fu ρ1) :=
  PS.weaken (ps_if hc ha hb) fun D σ H h => by
    obtain ⟨F, ρ, e, h⟩ := h
    refine sG_seq (.refl e) h fun F1 H1 ρ1 r x _ s1 v1 h => ?_
    cases v1
    split at h
    · rename_i q
      rw [if_pos q]
      exact ⟨F1, ρ1, s1.env, PostS.base s1 h⟩
    · rename_i q
      rw [if_neg q]
      exact ⟨F1, ρ1, s1.env, PostS.base s1 h⟩
theorem s_ret (he : PE X e (tE p fe)) : PS X (.Return (some e) pos) (tS p fun ρ => (fe ρ).bind fun r ρ1 => .ok (.ret r) ρ1) :=
  PS.weaken (ps_ret he) fun D σ H h => by
    obtain ⟨F, ρ, e, h⟩ := h
    exact sG_seq (.refl e) h fun F1 H1 ρ1 r x _ s1 v1 h => h σ F1 H1 x s1 v1
theorem s_retN : PS X (.Return none pos) (tS p fun ρ => .ok (.ret (.val .none)) ρ) :=
  PS.weaken ps_retN fun D σ H h => by
    obtain ⟨F, ρ, e, h⟩ := h
    exact h σ F H .non (.refl e) .non
theorem s_brk : PS X (.Break pos) (tS p fun ρ => .ok .brk ρ) := PS.weaken ps_break fun D σ H h => by
  obtain ⟨F, ρ, e, h⟩ := h
  exact h σ F H (.refl e)
theorem s_cnt : PS X (.Continue pos) (tS p fun ρ => .ok .cnt ρ) := PS.weaken ps_continue fun D σ H h => by
  obtain ⟨F, ρ, e, h⟩ := h
  exact h σ F H (.refl e)
/-- turns of a body -/
theorem loop_tr {N : St → Hp → Prop} {σ : St} {F H : Hp} {ρ : Fm} {D : Ends} {r : R Fl} {k : Fm → R Fl} (hN : ∀ σ' F' H' ρ', Stp p σ F H ρ σ' F' H' ρ' → PostS p σ' F' H' ρ' (k ρ') D → N σ' H')
    (h : PostS p σ F H ρ (r.bind fun fl ρ1 => match fl with
      | .nx => k ρ1
      | .cnt => k ρ1
      | .brk => .ok .nx ρ1
      | .ret v => .ok (.ret v) ρ1) D) : PostS p σ F H ρ r { D with nx := N, ct := N, bk := D.nx } := by
  cases r with
  | no => exact h
  | exc c ρ1 => exact h
  | ok fl ρ1 =>
    cases fl with
    | nx => exact fun σ' F' H' t => hN σ' F' H' ρ1 t (PostS.base t h)
    | cnt => exact fun σ' F' H' t => hN σ' F' H' ρ1 t (PostS.base t h)
    | brk => exact h
    | ret v => exact h
theorem s_whl {b : List Stmt} (hp : PassesOwn (model X.prog X.w) X.A X.env X.xe) (hc : PT X c (tT p ft)) (hb : PSs X b (tS p fs)) : PS X (.While c b [] pos) (tS p fun ρ => whlN ft fs turnsMax ρ) :=
  PS.weaken (ps_while hp hc hb) fun D σ H h => by
    obtain ⟨F, ρ, e, h⟩ := h
    refine ⟨fun m σ2 H2 => ∃ F2 ρ2, EnvOk p.K p.H0 F2 σ2 H2 ρ2 ∧ PostS p σ2 F2 H2 ρ2 (whlN ft fs m ρ2) D, ⟨_, F, ρ, e, h⟩, ?_⟩
    rintro m σ2 H2 ⟨F2, ρ2, e2, h⟩
    cases m with
    | zero => exact h.elim
    | succ m =>
      simp only [whlN] at h
      refine sG_seq (.refl e2) h fun F3 H3 ρ3 b b' _ s3 v3 h => ?_
      cases v3
      split at h
      · rename_i q
        rw [if_pos q]
        exact ⟨fun σ' H' => ∃ F2 ρ2, EnvOk p.K p.H0 F2 σ' H' ρ2 ∧ PostS p σ' F2 H' ρ2 (whlN ft fs m ρ2) D, fun σ' H' q => ⟨m, Nat.lt_succ_self m, q⟩, F3, ρ3, s3.env, loop_tr (fun σ' F' H' ρ' t h => ⟨F', ρ', t.env, h⟩) (PostS.base s3 h)⟩
      · rename_i q
        rw [if_neg q]
        exact h σ2 F3 H3 s3
theorem PostS.unlock {σ : St} {F H F1 H1 : Hp} {ρ ρP ρL : Fm} {lk : List Nat} {D : Ends} {r : R Fl} (s : Stp p σ F H ρ σ F1 H1 ρP) (l : LockOf ρP ρL lk) (h : PostS p σ F H ρ (unlockR lk r) D) : PostS p σ F1 H1 ρL r D := by
  match r, h with
  | .ok .nx ρ', h => exact fun σ' F' H' t => h σ' F' H' (s.unlock l t)
  | .ok .brk ρ', h => exact fun σ' F' H' t => h σ' F' H' (s.unlock l t)
  | .ok .cnt ρ', h => exact fun σ' F' H' t => h σ' F' H' (s.unlock l t)
  | .ok (.ret v) ρ', h => exact fun σ' F' H' x t rv => h σ' F' H' x (s.unlock l t) ((rv.old s.dm).unlock)
  | .exc c ρ', h => exact fun σ' F' H' t => h σ' F' H' (s.unlock l t)
  | .no, h => exact h.elim
theorem s_for {tg iter : Expr} {b : List Stmt} {t : Tg} {fi : Fm → R Its} (hp : PassesOwn (model X.prog X.w) X.A X.env X.xe) (hc : X.calm = true) (hi : PI X tg iter (tI p fi)) (hg : PG X tg (gW p t)) (hb : PSs X b (tS p fs)) (hs : ∀ x, foldedSetIterable iter X.env x = pure x) :
    PS X (.For tg iter b [] pos) (tS p fun ρ => (fi ρ).bind fun q ρ1 => unlockR q.2 (forL (fun d ρ2 => (lift (asgT t d ρ2) ρ2).bind fun ρ3 _ => fs ρ3) q.1 ρ1)) :=
  PS.weaken (ps_for hp hc hi hg hb hs) fun D σ H h => by
    obtain ⟨F, ρ, e, h⟩ := h
    refine ⟨F, ρ, e, ?_⟩
    have h : PostS p σ F H ρ ((fi ρ).bind fun q ρ1 => unlockR q.2 (forL (fun d ρ2 => (lift (asgT t d ρ2) ρ2).bind fun ρ3 _ => fs ρ3) q.1 ρ1)) D := h
    cases ef : fi ρ with
    | no =>
      rw [ef] at h
      exact h
    | exc c ρ1 =>
      rw [ef] at h
      exact fun F' H' s => h σ F' H' s
    | ok its ρL =>
      rw [ef] at h
      intro F' H' J ρP G s l io g
      obtain ⟨ds, lk⟩ := its
      obtain ⟨f, hf⟩ : ∃ f, f = (fun (d : Wk.D) (ρ2 : Fm) => (lift (asgT t d ρ2) ρ2).bind fun ρ3 _ => fs ρ3) := ⟨_, rfl⟩
      have h : PostS p σ F H ρ (unlockR lk (forL (fun (d : Wk.D) (ρ2 : Fm) => (lift (asgT t d ρ2) ρ2).bind fun ρ3 _ => fs ρ3) ds ρL)) D := h
      rw [← hf] at h
      have h := PostS.unlock s l h
      have eL := s.env.lock l
      refine ⟨fun i m σ2 H2 => m = ds.length - i ∧ i ≤ ds.length ∧ ∃ F2 ρ2, Stp p σ F' H' ρL σ2 F2 H2 ρ2 ∧ PostS p σ2 F2 H2 ρ2 (forL f (ds.drop i) ρ2) D, ⟨_, rfl, Nat.zero_le _, F', ρL, .refl eL, h⟩, ?_⟩
      rintro i m σ2 H2 ⟨rfl, hi, F2, ρ2, st, h⟩
      have g2 : G F2 σ2 H2 ρ2 := io.keep _ _ _ _ _ _ _ _ st g
      by_cases hlt : i < ds.length
      · have hdrop : ds.drop i = ds[i] :: ds.drop (i + 1) := List.drop_eq_getElem_cons hlt
        rw [hdrop] at h
        have h : PostS p σ2 F2 H2 ρ2 ((f ds[i] ρ2).bind fun fl ρ1 => match fl with
          | .nx => forL f (ds.drop (i + 1)) ρ1
          | .cnt => forL f (ds.drop (i + 1)) ρ1
          | .brk => .ok .nx ρ1
          | .ret v => .ok (.ret v) ρ1) D := h
        refine .inr ⟨io.go i F2 σ2 H2 ρ2 hlt st.env g2, fun σ3 H3 => i + 1 ≤ ds.length ∧ ∃ F3 ρ3, Stp p σ F' H' ρL σ3 F3 H3 ρ3 ∧ PostS p σ3 F3 H3 ρ3 (forL f (ds.drop (i + 1)) ρ3) D, fun σ3 H3 q => ⟨ds.length - (i + 1), by omega, rfl, q⟩, fun x Hy y => ?_⟩
        obtain ⟨F3, d, s3, hd, hx⟩ := io.yld i F2 σ2 H2 ρ2 x Hy hlt st.env g2 y
        rw [List.getElem?_eq_getElem hlt] at hd
        cases hd
        have h := PostS.base s3 h
        rw [hf] at h
        dsimp only at h
        rw [R.bind_assoc] at h
        obtain ⟨ρ3, e3, h⟩ := postS_lift h
        refine ⟨F3, ρ2, _, ρ3, s3.env, hx, e3, fun σ3 s4 _ => ⟨F3, ρ3, s4.env, ?_⟩⟩
        have h := PostS.base s4 h
        rw [← hf] at h
        exact loop_tr (fun σ' F' H' ρ' t h => ⟨hlt, F', ρ', (st.trans s3).trans (s4.trans t), h⟩) h
      · have hieq : i = ds.length := by omega
        subst hieq
        refine .inl ⟨io.stop F2 σ2 H2 ρ2 st.env g2, ?_⟩
        rw [List.drop_length] at h
        exact h σ2 F2 H2 (.refl st.env)
end
end Wk

/-! The walk layer, part 14: does a text of the small language say what an expression says? -/
namespace Wk
open PySem PySem.Spec L2
/-- what a name of the module stands for -/
inductive GK where
  | free
  | int (i : Int)
  | nums (is : List Int)
  | gcd
  | fn (k : Nat)
  deriving DecidableEq
structure Ck where
  N : List Str
  sc : Scope
  fn : Option Scope
  gs : List (Str × GK)
def Ck.fnB (c : Ck) : Str → Bool := match c.fn with
  | none => fun _ => true
  | some s => fun x => s.names.lookup x == some .cell
def Ck.gl (c : Ck) (x : Str) : Bool := decide (c.sc.names.lookup x = some .globalImplicit)
def Ck.is (c : Ck) (x : Str) (g : GK) : Bool := decide (c.gs.lookup x = some g)
def Ck.fr (c : Ck) (x : Str) : Bool := c.gl x && c.is x .free
def okName (x : Str) : Bool := !(x == ("__debug__" : Str)) && !(x == ("__classdict__" : Str))
def visB (sc : Scope) (x : Str) : Bool := decide (sc.names.lookup x = some .local) || (decide (sc.names.lookup x = some .cell) || decide (sc.names.lookup x = some .free))
def locB (sc : Scope) (x : Str) : Bool := decide (sc.names.lookup x = some .local) || decide (sc.names.lookup x = some .cell)
def rdOk (c : Ck) (i : Nat) (x : Str) : Bool := decide (c.N[i]? = some x) && (visB c.sc x && okName x)
def wrOk (c : Ck) (i : Nat) (x : Str) : Bool := decide (c.N[i]? = some x) && (locB c.sc x && (c.fnB x || decide (c.sc.names.lookup x = some .local)))
def notStar : Expr → Bool
  | .Starred _ _ => false
  | _ => true
def notSet : Expr → Bool
  | .Set _ _ _ => false
  | _ => true
def notSlice : Expr → Bool
  | .Slice _ _ _ _ => false
  | _ => true
def notComp : Expr → Bool
  | .ListComp _ _ _ _ => false
  | .SetComp _ _ _ _ => false
  | .DictComp _ _ _ _ _ => false
  | _ => true
def isTup : Expr → Bool
  | .Tuple _ _ _ => true
  | _ => false
theorem plain_of {X : Cx} {e : Expr} (h : notStar e = true) : Plain X e := by
  cases e <;> first | (intro es; rfl) | cases h
theorem fold_of {e : Expr} (h : notSet e = true) : ∀ env x, foldedSetIterable e env x = pure x := by
  cases e <;> first | (intro env x; rfl) | cases h
theorem pix_of {e : Expr} (h : notSlice e = true) : PlainIx e := by
  cases e <;> first | (intro o i; rfl) | cases h
theorem swaps_of {e : Expr} (h : notComp e = true) : ∀ t l env, swapsWith e t l env = pure false := by
  cases e <;> first | (intro t l env; rfl) | cases h
theorem mark_of {e : Expr} (h : notSet e = true) (o : CmpOp) : behindInMarks o e = false := by
  cases e <;> first | rfl | cases h
def litOk : D → Expr → Bool
  | .int i, .Constant (.int j) _ _ => decide (i = j)
  | .bool i, .Constant (.bool j) _ _ => decide (i = j)
  | .str i, .Constant (.str j) _ _ => decide (i = j)
  | .none, .Constant .none _ _ => true
  | _, _ => false
def BOp.is : BOp → Operator → Bool
  | .add, .Add => true | .sub, .Sub => true | .mul, .Mult => true | .fdiv, .FloorDiv => true | .mod, .Mod => true
  | .pow, .Pow => true | .shl, .LShift => true | .shr, .RShift => true | .band, .BitAnd => true | .bor, .BitOr => true
  | _, _ => false
theorem BOp.is_ok {o : BOp} {q : Operator} (h : o.is q = true) : q = o.op := by
  cases o <;> cases q <;> first | rfl | cases h
def COp.is : COp → CmpOp → Bool
  | .eq, .Eq => true | .ne, .NotEq => true | .lt, .Lt => true | .le, .LtE => true | .gt, .Gt => true | .ge, .GtE => true
  | .isN, .Is => true | .isnN, .IsNot => true | .in_, .In => true | .notin, .NotIn => true
  | _, _ => false
theorem COp.is_ok {o : COp} {q : CmpOp} (h : o.is q = true) : q = o.op := by
  cases o <;> cases q <;> first | rfl | cases h
def B1.nm : B1 → Str
  | .len => "len" | .int => "int" | .abs => "abs" | .max => "max" | .min => "min" | .sum => "sum" | .all => "all" | .any => "any" | .sorted => "sorted" | .tuple => "tuple" | .list => "list" | .str => "str"
def Ty.sn : Ty → Str
  | .int => "int" | .bool => "bool" | .str => "str" | .tuple => "tuple" | .list => "list"
mutual
def chkG : Tg → Ck → Expr → Bool
  | .name i, c, e => match e with
    | .Name x _ => wrOk c i x
    | _ => false
  | .tup ts, c, e => match e with
    | .Tuple es _ _ => chkGs ts c es
    | _ => false
def chkGs : Tgs → Ck → List Expr → Bool
  | .nil, _, es => match es with
    | [] => true
    | _ => false
  | .cons t ts, c, es => match es with
    | e :: r => notStar e && (chkG t c e && chkGs ts c r)
    | _ => false
end
mutual
/-- names and slots of a target -/
def ownG : Tg → Expr → List (Str × Nat)
  | .name i, e => match e with
    | .Name x _ => [(x, i)]
    | _ => []
  | .tup ts, e => match e with
    | .Tuple es _ _ => ownGs ts es
    | _ => []
def ownGs : Tgs → List Expr → List (Str × Nat)
  | .nil, _ => []
  | .cons t ts, es => match es with
    | e :: r => ownG t e ++ ownGs ts r
    | _ => []
end
def Ck.inner (c : Ck) (s : Scope) : Ck := { c with sc := relS s c.sc, fn := some s }
def compOk (c : Ck) (t : Tg) (tg it : Expr) (s : Scope) : Bool := blkC c.N c.sc s (ownG t tg) && (decide ((ownG t tg).map (·.2) = t.slots) && (chkG t (c.inner s) tg && notSet it))
mutual
def chkE : IE → Ck → Expr → Bool
  | .never, _, e => notStar e
  | .lit d, _, e => litOk d e
  | .var i, c, e => match e with
    | .Name x _ => rdOk c i x
    | _ => false
  | .gint x i, c, e => match e with
    | .Name y _ => decide (y = x) && (c.gl x && (c.is x (.int i) && okName x))
    | _ => false
  | .gtup x is, c, e => match e with
    | .Name y _ => decide (y = x) && (c.gl x && (c.is x (.nums is) && okName x))
    | _ => false
  | .bin o a b, c, e => match e with
    | .BinOp l q r _ => o.is q && (chkE a c l && chkE b c r)
    | _ => false
  | .neg a, c, e => match e with
    | .UnaryOp .USub x _ => chkE a c x
    | _ => false
  | .not a, c, e => match e with
    | .UnaryOp .Not x _ => chkE a c x
    | _ => false
  | .and as, c, e => match e with
    | .BoolOp .And vs _ => !vs.isEmpty && chkEs as c vs
    | _ => false
  | .or as, c, e => match e with
    | .BoolOp .Or vs _ => !vs.isEmpty && chkEs as c vs
    | _ => false
  | .ite t a b, c, e => match e with
    | .IfExp x y z _ => chkE t c x && (chkE a c y && chkE b c z)
    | _ => false
  | .cmp o a b, c, e => match e with
    | .Compare x [q] [y] _ => o.is q && (notSet y && (chkE a c x && chkE b c y))
    | _ => false
  | .cmp2 o p a b d, c, e => match e with
    | .Compare x [q, r] [y, z] _ => o.is q && (p.is r && (notSet y && (notSet z && (chkE a c x && (chkE b c y && chkE d c z)))))
    | _ => false
  | .idx a i, c, e => match e with
    | .Subscript x y _ => notSlice y && (chkE a c x && chkE i c y)
    | _ => false
  | .slc a lo hi, c, e => match e with
    | .Subscript x (.Slice (some y) (some z) none _) _ => chkE a c x && (chkE lo c y && chkE hi c z)
    | _ => false
  | .rvs a, c, e => match e with
    | .Subscript a' (.Slice none none (some (.UnaryOp .USub (.Constant (.int 1) _ _) _)) _) _ => chkE a c a'
    | _ => false
  | .slo a lo, c, e => match e with
    | .Subscript x (.Slice (some y) none none _) _ => chkE a c x && chkE lo c y
    | _ => false
  | .shi a hi, c, e => match e with
    | .Subscript x (.Slice none (some y) none _) _ => chkE a c x && chkE hi c y
    | _ => false
  | .tup as, c, e => match e with
    | .Tuple es _ _ => chkEs as c es
    | _ => false
  | .lst as, c, e => match e with
    | .List es _ => chkEs as c es
    | _ => false
  | .isi a t, c, e => match e with
    | .Call (.Name x _) [y, .Name z _] [] _ => decide (x = "isinstance") && (decide (z = t.sn) && (c.fr x && (c.fr z && chkE a c y)))
    | _ => false
  | .sset a, c, e => match e with
    | .Call (.Name x _) [.Call (.Name z _) [y] [] _] [] _ => decide (x = "sorted") && (c.fr x && (decide (z = "set") && (c.fr z && chkE a c y)))
    | _ => false
  | .b1 f a, c, e => match e with
    | .Call (.Name x _) [y] [] _ => decide (x = f.nm) && (c.fr x && chkE a c y)
    | _ => false
  | .b2 f a b, c, e => match e with
    | .Call (.Name x _) [y, z] [] _ => (match f with
      | .max => decide (x = "max") && c.fr x
      | .min => decide (x = "min") && c.fr x
      | .gcd => c.gl x && (c.is x .gcd && okName x)) && (chkE a c y && chkE b c z)
    | _ => false
  | .lrng it, c, e => match e with
    | .Call (.Name x _) [y] [] _ => decide (x = "list") && (c.fr x && chkR it c y)
    | _ => false
  | .trng it, c, e => match e with
    | .Call (.Name x _) [y] [] _ => decide (x = "tuple") && (c.fr x && chkR it c y)
    | _ => false
  | .call k as, c, e => match e with
    | .Call (.Name x _) es [] _ => c.gl x && (c.is x (.fn k) && (okName x && chkEs as c es))
    | _ => false
  | .comp a t it, c, e => match e with
    | .ListComp x [⟨tg, ie, [], 0⟩] s _ => compOk c t tg ie s && (chkI it c tg ie && chkE a (c.inner s) x)
    | _ => false
  | .compIf a t it d, c, e => match e with
    | .ListComp x [⟨tg, ie, [y], 0⟩] s _ => compOk c t tg ie s && (chkI it c tg ie && (chkE a (c.inner s) x && chkE d (c.inner s) y))
    | _ => false
  | .app i a, c, e => match e with
    | .Call (.Attribute (.Name x _) m ap) [y] [] pos => decide (m = "append") && (rdOk c i x && ((ap.endLine == pos.line) && chkE a c y))
    | _ => false
  | .pop0 i, c, e => match e with
    | .Call (.Attribute (.Name x _) m ap) [] [] pos => decide (m = "pop") && (rdOk c i x && (ap.endLine == pos.line))
    | _ => false
  | .popAt i a, c, e => match e with
    | .Call (.Attribute (.Name x _) m ap) [y] [] pos => decide (m = "pop") && (rdOk c i x && ((ap.endLine == pos.line) && chkE a c y))
    | _ => false
def chkEs : IEs → Ck → List Expr → Bool
  | .nil, _, es => match es with
    | [] => true
    | _ => false
  | .cons a as, c, es => match es with
    | e :: r => chkE a c e && chkEs as c r
    | _ => false
def chkI : II → Ck → Expr → Expr → Bool
  | .rng1 a, c, _, e => match e with
    | .Call (.Name x _) [y] [] _ => decide (x = "range") && (c.fr x && chkE a c y)
    | _ => false
  | .rng2 a b, c, _, e => match e with
    | .Call (.Name x _) [y, z] [] _ => decide (x = "range") && (c.fr x && (chkE a c y && chkE b c z))
    | _ => false
  | .rng3 a b d, c, _, e => match e with
    | .Call (.Name x _) [y, z, w] [] _ => decide (x = "range") && (c.fr x && (chkE a c y && (chkE b c z && chkE d c w)))
    | _ => false
  | .seq a, c, _, e => chkE a c e
  | .zip a b, c, tg, e => isTup tg && match e with
    | .Call (.Name x _) [y, z] [] _ => decide (x = "zip") && (c.fr x && (chkE a c y && chkE b c z))
    | _ => false
  | .enum a, c, tg, e => isTup tg && match e with
    | .Call (.Name x _) [y] [] _ => decide (x = "enumerate") && (c.fr x && chkE a c y)
    | _ => false
  | .rev a, c, _, e => match e with
    | .Call (.Name x _) [y] [] _ => decide (x = "reversed") && (c.fr x && chkE a c y)
    | _ => false
/-- range(..) as an argument -/
def chkR : II → Ck → Expr → Bool
  | .rng1 a, c, e => match e with
    | .Call (.Name x _) [y] [] _ => decide (x = "range") && (c.fr x && chkE a c y)
    | _ => false
  | .rng2 a b, c, e => match e with
    | .Call (.Name x _) [y, z] [] _ => decide (x = "range") && (c.fr x && (chkE a c y && chkE b c z))
    | _ => false
  | _, _, _ => false
end
/-! ### what the names of the module are -/
def GkOk (X : Cx) (p : Par) (C : Nat → List Arg → RC) (x : Str) : GK → Prop
  | .free => X.mg x = none
  | .int i => ∃ t, X.mg x = some (.int i t)
  | .nums is => ∃ a, X.mg x = some (.ref a) ∧ ∀ H, SqT X.K H a (is.map V.int)
  | .gcd => X.mg x = some (.builtin "math.gcd")
  | .fn k => ∃ (f : Addr) (fd : FuncData) (ps : List Str) (n : Nat), FnOk X.prog X.w X.K X.mg X.base (L2.CX X.prog X.w) n f fd ps (spC p.K p.xc (C k)) ∧ Room n X.A ∧ X.mg x = some (.ref f) ∧ PySem.W.keepIn X.K (.ref f) = true ∧ Binds X.K fd ps []
structure Cok (c : Ck) (X : Cx) (p : Par) (C : Nat → List Arg → RC) : Prop where
  N : X.N = c.N
  nd : c.N.Nodup
  sc : X.env.scope = c.sc
  fn : X.fn = c.fnB
  K : p.K = X.K
  calm : X.calm = true
  un : X.A.units + 65 < cLine
  tk : Takes X p.W
  gs : ∀ x g, c.gs.lookup x = some g → GkOk X p C x g
theorem Cok.inner {c : Ck} {X : Cx} {p : Par} {C : Nat → List Arg → RC} (h : Cok c X p C) (s : Shared) (H : Hp) (scope : Scope) (A : Addr) (cl : List (Str × Addr)) (fp : List Addr) : Cok (c.inner scope) (X.blk s H scope (compEnvC scope cl A X.env) fp) p.calm C where
  N := h.N
  nd := h.nd
  sc := by
    show relS scope X.env.scope = relS scope c.sc
    rw [h.sc]
  fn := rfl
  K := h.K
  calm := h.calm
  un := h.un
  tk := L2.takes0
  gs := fun x g hx => by
    have q := h.gs x g hx
    cases g with
    | free => exact q
    | int i => exact q
    | nums is => exact q
    | gcd => exact q
    | fn k => exact q
section
variable {c : Ck} {X : Cx} {p : Par} {C : Nat → List Arg → RC} (k : Cok c X p C)
include k
theorem Cok.gl {x : Str} (h : c.gl x = true) : Gl X x := by
  have := of_decide_eq_true h
  show X.env.scope.names.lookup x = some .globalImplicit
  rw [k.sc]
  exact this
theorem Cok.free {x : Str} (h : c.fr x = true) : Gl X x ∧ X.mg x = none := by
  obtain ⟨h1, h2⟩ := ba2 h
  exact ⟨k.gl h1, k.gs x .free (of_decide_eq_true h2)⟩
theorem Cok.rd {i : Nat} {x : Str} (h : rdOk c i x = true) : X.N[i]? = some x ∧ Vis X.env.scope x ∧ (x == ("__debug__" : Str)) = false ∧ (x == ("__classdict__" : Str)) = false := by
  obtain ⟨h1, h⟩ := ba2 h
  obtain ⟨h2, h⟩ := ba2 h
  obtain ⟨h3, h4⟩ := ba2 h
  rw [k.N, k.sc]
  refine ⟨of_decide_eq_true h1, ?_, by simpa using h3, by simpa using h4⟩
  rcases Bool.or_eq_true_iff.mp h2 with q | q
  · exact .inl (of_decide_eq_true q)
  · rcases Bool.or_eq_true_iff.mp q with q | q
    · exact .inr (.inl (of_decide_eq_true q))
    · exact .inr (.inr (of_decide_eq_true q))
theorem Cok.wr {i : Nat} {x : Str} (h : wrOk c i x = true) : X.N[i]? = some x ∧ Loc X.env.scope x ∧ (X.fn x = true ∨ X.env.scope.names.lookup x = some .local) := by
  obtain ⟨h1, h⟩ := ba2 h
  obtain ⟨h2, h⟩ := ba2 h
  rw [k.N, k.sc, k.fn]
  refine ⟨of_decide_eq_true h1, ?_, ?_⟩
  · rcases Bool.or_eq_true_iff.mp h2 with q | q
    · exact .inl (of_decide_eq_true q)
    · exact .inr (of_decide_eq_true q)
  · rcases Bool.or_eq_true_iff.mp h with q | q
    · exact .inl q
    · exact .inr (of_decide_eq_true q)
end
theorem chkGs_each {ts : Tgs} {c : Ck} {es : List Expr} : chkGs ts c es = true → ∀ env, (assignEach es env).length = ts.len ∧ (assignEach es env).findIdx? (·.1) = none := by
  intro h env
  induction es generalizing ts with
  | nil =>
    cases ts with
    | nil => exact ⟨rfl, rfl⟩
    | cons t ts => simp [chkGs] at h
  | cons e r ih =>
    cases ts with
    | nil => simp [chkGs] at h
    | cons t ts =>
      simp only [chkGs] at h
      obtain ⟨h1, h⟩ := ba2 h
      obtain ⟨h2, h3⟩ := ba2 h
      obtain ⟨i1, i2⟩ := ih h3
      have e1 : assignEach (e :: r) env = (false, assign e env) :: assignEach r env := by
        cases e <;> first | rfl | cases h1
      rw [e1]
      refine ⟨by rw [List.length_cons, i1]; rfl, ?_⟩
      rw [List.findIdx?_cons]
      simp [i2]
theorem each_cons {e : Expr} (h : notStar e = true) (es : List Expr) (env : Env) : (assignEach (e :: es) env).map (·.2) = assign e env :: (assignEach es env).map (·.2) := by
  cases e <;> first | rfl | cases h
mutual
theorem sndG : ∀ (t : Tg) (c : Ck) (X : Cx) (p : Par) (C : Nat → List Arg → RC) (e : Expr), Cok c X p C → chkG t c e = true → PG X e (gW p t)
  | .name i, c, X, p, C, e, k, h => by
    unfold chkG at h
    split at h
    · obtain ⟨h1, h2, h3⟩ := k.wr h
      exact g_name (by rw [k.N]; exact k.nd) h1 h2 h3
    · cases h
  | .tup ts, c, X, p, C, e, k, h => by
    unfold chkG at h
    split at h
    · obtain ⟨h1, h2⟩ := chkGs_each h X.env
      exact g_tup (hK := k.K) k.calm (sndGs ts c X p C _ k h) rfl h1 h2
    · cases h
theorem sndGs : ∀ (ts : Tgs) (c : Ck) (X : Cx) (p : Par) (C : Nat → List Arg → RC) (es : List Expr), Cok c X p C → chkGs ts c es = true → PGs X es (gsW p ts)
  | .nil, c, X, p, C, es, k, h => by
    unfold chkGs at h
    split at h
    · exact gs_nil
    · cases h
  | .cons t ts, c, X, p, C, es, k, h => by
    unfold chkGs at h
    split at h
    · obtain ⟨h1, h⟩ := ba2 h
      obtain ⟨h2, h3⟩ := ba2 h
      exact gs_cons (sndG t c X p C _ k h2) (sndGs ts c X p C _ k h3) (each_cons h1 _ _)
    · cases h
end
end Wk

/-! The walk layer, part 15: the checker is sound for expressions. -/
namespace Wk
open PySem PySem.Spec L2
theorem _root_.L2.PE.as {X : Cx} {p : Par} {e : Expr} {f g : Fm → R RV} (h : PE X e (tE p f)) (w : ∀ ρ, g ρ = f ρ) : PE X e (tE p g) := by
  have : g = f := funext w
  rw [this]
  exact h
theorem _root_.L2.PT.as {X : Cx} {p : Par} {e : Expr} {f g : Fm → R Bool} (h : PT X e (tT p f)) (w : ∀ ρ, g ρ = f ρ) : PT X e (tT p g) := by
  have : g = f := funext w
  rw [this]
  exact h
theorem _root_.L2.PI.as {X : Cx} {p : Par} {tg e : Expr} {f g : Fm → R Its} (h : PI X tg e (tI p f)) (w : ∀ ρ, g ρ = f ρ) : PI X tg e (tI p g) := by
  have : g = f := funext w
  rw [this]
  exact h
theorem t_no {X : Cx} {p : Par} {e : Expr} {g : Fm → R Bool} (w : ∀ ρ, g ρ = .no) : PT X e (tT p g) := ⟨fun _ _ _ _ _ _ h => by
  obtain ⟨F, ρ, e, h⟩ := h
  rw [w] at h
  exact h.elim⟩
theorem blk_of {N : List Str} {sc scope : Scope} {own : List (Str × Nat)} (h : blkC N sc scope own = true) : BlkOk N sc scope own := blkOk_by h
/-- a truth value by way of the value -/
def thr (f : Fm → R RV) : Fm → R Bool := fun ρ => (f ρ).bind fun r ρ1 => pk r ρ1 truthD
structure SE (X : Cx) (p : Par) (C : Nat → List Arg → RC) (t : IE) (e : Expr) : Prop where
  v : PE X e (tE p (evE C t))
  w : PT X e (tT p (evT C t))
  s : notStar e = true
structure SEs (X : Cx) (p : Par) (C : Nat → List Arg → RC) (ts : IEs) (es : List Expr) : Prop where
  nil : es = [] → ts = .nil
  d : PA X es (tD p (evD C ts))
  a : PA X es (tA p (evA C ts))
  s : ∀ e ∈ es, notStar e = true
  and_ : es ≠ [] → ∀ pos, PE X (.BoolOp .And es pos) (tE p (evAnd C ts)) ∧ PW X (.BoolOp .And es pos) (tT p (evTAnd C ts))
  or_ : es ≠ [] → ∀ pos, PE X (.BoolOp .Or es pos) (tE p (evOr C ts)) ∧ PW X (.BoolOp .Or es pos) (tT p (evTOr C ts))
structure SI (X : Cx) (p : Par) (C : Nat → List Arg → RC) (t : II) (tg e : Expr) : Prop where
  i : PI X tg e (tI p (evI C t))
  s : notStar e = true
theorem star_cons {e : Expr} (h : notStar e = true) (es : List Expr) (env : Env) : starEach (e :: es) env = (false, eval e env) :: starEach es env := by
  cases e <;> first | rfl | cases h
theorem SE.of {c : Ck} {X : Cx} {p : Par} {C : Nat → List Arg → RC} {t : IE} {e : Expr} (k : Cok c X p C) (v : PE X e (tE p (evE C t))) (he : ∀ whole, isTrue e X.env whole = (do let v ← whole; standAt e.pos; holding [v] (truthy v))) (w : ∀ ρ, evT C t ρ = thr (evE C t) ρ) (s : notStar e = true) : SE X p C t e :=
  ⟨v, (t_truth (hK := k.K) v he).as w, s⟩
theorem stars_none : ∀ {es : List Expr}, (∀ e ∈ es, notStar e = true) → ∀ (pos : Pos) (env : Env), (backTo pos (starEach es env)).any (·.1) = false
  | [], _, _, _ => rfl
  | e :: r, h, pos, env => by
    rw [star_cons (h e (List.mem_cons_self ..))]
    have ih := stars_none (es := r) (fun x hx => h x (List.mem_cons_of_mem _ hx)) pos env
    unfold backTo at ih ⊢
    rw [List.map_cons, List.any_cons, ih] <;> rfl
theorem isTup_eq {e : Expr} (h : isTup e = true) : ∃ es k p, e = .Tuple es k p := by
  cases e <;> first | exact ⟨_, _, _, rfl⟩ | cases h
section
variable {c : Ck} {X : Cx} {p : Par} {C : Nat → List Arg → RC}
theorem sndB1 {f : B1} {a : Expr} {fa : Fm → R RV} {x : Str} {p1 pos : Pos} (k : Cok c X p C) (hx : x = f.nm) (hf : c.fr x = true) (ha : PE X a (tE p fa)) (hs : notStar a = true) : PE X (.Call (.Name x p1) [a] [] pos) (tE p fun ρ => (fa ρ).bind fun r1 ρ1 => pk r1 ρ1 (b1D f)) := by
  obtain ⟨g, m⟩ := k.free hf
  subst hx
  have pl := plain_of (X := X) hs
  cases f with
  | len => exact e_b1b (hK := k.K) b1_len g m (by decide +kernel) (by decide) (by decide) ha pl
  | int => exact e_b1t (hK := k.K) b1_int g m (by decide +kernel) (by decide) (by decide) ha pl
  | abs => exact e_b1b (hK := k.K) b1_abs g m (by decide +kernel) (by decide) (by decide) ha pl
  | max => exact e_b1b (hK := k.K) (b1_max k.calm) g m (by decide +kernel) (by decide) (by decide) ha pl
  | min => exact e_b1b (hK := k.K) (b1_min k.calm (Nat.lt_of_succ_lt k.un)) g m (by decide +kernel) (by decide) (by decide) ha pl
  | sum => exact e_b1b (hK := k.K) (b1_sum k.calm) g m (by decide +kernel) (by decide) (by decide) ha pl
  | all => exact e_b1b (hK := k.K) (b1_all k.calm) g m (by decide +kernel) (by decide) (by decide) ha pl
  | any => exact e_b1b (hK := k.K) (b1_any k.calm) g m (by decide +kernel) (by decide) (by decide) ha pl
  | sorted => exact e_b1b (hK := k.K) b1_sorted g m (by decide +kernel) (by decide) (by decide) ha pl
  | tuple => exact e_b1t (hK := k.K) b1_tuple g m (by decide +kernel) (by decide) (by decide) ha pl
  | list => exact e_b1t (hK := k.K) b1_list g m (by decide +kernel) (by decide) (by decide) ha pl
  | str => exact e_b1t (hK := k.K) b1_str g m (by decide +kernel) (by decide) (by decide) ha pl
theorem sndIsi {t : Ty} {a : Expr} {fa : Fm → R RV} {x y : Str} {p1 p2 pos : Pos} (k : Cok c X p C) (hx : x = "isinstance") (hy : y = t.sn) (hf : c.fr x = true) (hg : c.fr y = true) (ha : PE X a (tE p fa)) (hs : notStar a = true) :
    PE X (.Call (.Name x p1) [a, .Name y p2] [] pos) (tE p fun ρ => (fa ρ).bind fun r1 ρ1 => pk r1 ρ1 fun d => (isiD d t).map fun b => .val (.bool b)) := by
  obtain ⟨g, m⟩ := k.free hf
  obtain ⟨g2, m2⟩ := k.free hg
  subst hy
  have pl := plain_of (X := X) hs
  cases t <;> exact e_isi (hK := k.K) _ hx (by decide +kernel) (by decide) (by decide) g m g2 m2 ha pl
theorem okName_ok {x : Str} (h : okName x = true) : (x == ("__debug__" : Str)) = false ∧ (x == ("__classdict__" : Str)) = false := by
  obtain ⟨h1, h2⟩ := ba2 h
  exact ⟨by simpa using h1, by simpa using h2⟩
theorem sndCall {j : Nat} {es : List Expr} {as : IEs} {x : Str} {p1 pos : Pos} (k : Cok c X p C) (hg : c.gl x = true) (hi : c.is x (.fn j) = true) (hn : okName x = true) (hs : SEs X p C as es) :
    PE X (.Call (.Name x p1) es [] pos) (tE p fun ρ => (evA C as ρ).bind fun xs ρ1 => doCall C j xs ρ1) := by
  obtain ⟨f, fd, ps, n, F, hr, hm, hk, hb⟩ := k.gs x (.fn j) (of_decide_eq_true hi)
  have hd := (okName_ok hn).1
  match es, hs with
  | [], hs =>
    rw [hs.nil rfl]
    exact e_call0 F hr (k.gl hg) hm hk hb k.tk hd
  | a :: es, hs => exact e_call F hr (k.gl hg) hm hk hb k.tk hd hs.a (plain_of (hs.s a (List.mem_cons_self ..))) (stars_none (fun e he => hs.s e (List.mem_cons_of_mem _ he)) _ _)
theorem thr_var (i : Nat) (ρ : Fm) : evT C (.var i) ρ = thr (evE C (.var i)) ρ := by
  simp only [evT, thr, evE]
  cases h : ρ[i]? with
  | none => rfl
  | some s =>
    cases s with
    | no => rfl
    | val d => rfl
    | own xs k =>
      simp only [R.bind, pk, peek, h]
      rfl
theorem thr_bin (o : BOp) (a b : IE) (ρ : Fm) : evT C (.bin o a b) ρ = thr (evE C (.bin o a b)) ρ := by
  simp only [evT, thr, evE]
  cases evE C a ρ with
  | no => rfl
  | exc c ρ1 => rfl
  | ok r1 ρ1 =>
    simp only [R.bind]
    cases evE C b ρ1 with
    | no => rfl
    | exc c ρ2 => rfl
    | ok r2 ρ2 =>
      dsimp only
      cases peek r1 ρ2 with
      | none => rfl
      | some d1 =>
        cases peek r2 ρ2 with
        | none => rfl
        | some d2 =>
          simp only [Option.bind]
          cases binD o d1 d2 <;> rfl
theorem thr_idx (a b : IE) (ρ : Fm) : evT C (.idx a b) ρ = thr (evE C (.idx a b)) ρ := by
  simp only [evT, thr, evE]
  cases evE C a ρ with
  | no => rfl
  | exc c ρ1 => rfl
  | ok r1 ρ1 =>
    simp only [R.bind]
    cases evE C b ρ1 with
    | no => rfl
    | exc c ρ2 => rfl
    | ok r2 ρ2 =>
      dsimp only
      cases peek r1 ρ2 with
      | none => rfl
      | some d1 =>
        cases peek r2 ρ2 with
        | none => rfl
        | some d2 =>
          simp only [Option.bind]
          cases idxD d1 d2 <;> rfl
theorem thr_isi (a : IE) (t : Ty) (ρ : Fm) : evT C (.isi a t) ρ = thr (evE C (.isi a t)) ρ := by
  simp only [evT, thr, evE]
  cases evE C a ρ with
  | no => rfl
  | exc c ρ1 => rfl
  | ok r1 ρ1 =>
    simp only [R.bind, pk]
    cases peek r1 ρ1 with
    | none => rfl
    | some d1 =>
      simp only [Option.bind]
      cases isiD d1 t <;> rfl
theorem thr_b1 (f : B1) (a : IE) (ρ : Fm) : evT C (.b1 f a) ρ = thr (evE C (.b1 f a)) ρ := by
  simp only [evT, thr, evE]
  rw [R.bind_assoc]
theorem thr_call (f : Nat) (as : IEs) (ρ : Fm) : evT C (.call f as) ρ = thr (evE C (.call f as)) ρ := by
  simp only [evT, thr, evE]
  rw [R.bind_assoc]
theorem thr_lit (d : D) (ρ : Fm) : evT C (.lit d) ρ = thr (evE C (.lit d)) ρ := rfl
theorem thr_gint (x : Str) (i : Int) (ρ : Fm) : evT C (.gint x i) ρ = thr (evE C (.gint x i)) ρ := rfl
end
mutual
theorem sndE : ∀ (t : IE) (c : Ck) (X : Cx) (p : Par) (C : Nat → List Arg → RC) (e : Expr), Cok c X p C → chkE t c e = true → SE X p C t e
  | .never, c, X, p, C, e, k, h => ⟨PE.as e_never fun ρ => by first | rfl | (simp only [evE]; done) | (simp only [evE]; rfl), t_no fun ρ => by first | rfl | (simp only [evT]; done) | (simp only [evT]; rfl), h⟩
  | .lit d, c, X, p, C, e, k, h => by
    unfold chkE litOk at h
    split at h
    · cases of_decide_eq_true h
      exact SE.of k (e_int) (fun _ => rfl) (thr_lit _) rfl
    · cases of_decide_eq_true h
      exact SE.of k (e_bl) (fun _ => rfl) (thr_lit _) rfl
    · cases of_decide_eq_true h
      exact SE.of k (e_str) (fun _ => rfl) (thr_lit _) rfl
    · exact SE.of k (e_non) (fun _ => rfl) (thr_lit _) rfl
    · cases h
  | .var i, c, X, p, C, e, k, h => by
    unfold chkE at h
    split at h
    · obtain ⟨h1, h2, h3, h4⟩ := k.rd h
      exact SE.of k (PE.as (e_var (p := p) h1 h2 h3 h4) fun ρ => by first | rfl | (simp only [evE, fVar]; done) | (simp only [evE, fVar]; rfl)) (fun _ => rfl) (fun ρ => by rw [thr_var]) rfl
    · cases h
  | .gint x i, c, X, p, C, e, k, h => by
    unfold chkE at h
    split at h
    · obtain ⟨h1, h⟩ := ba2 h
      obtain ⟨h2, h⟩ := ba2 h
      obtain ⟨h3, h4⟩ := ba2 h
      cases of_decide_eq_true h1
      obtain ⟨t, ht⟩ := k.gs _ _ (of_decide_eq_true h3)
      exact SE.of k (e_gint (p := p) (k.gl h2) ht (okName_ok h4).1) (fun _ => rfl) (thr_gint _ _) rfl
    · cases h
  | .gtup x is, c, X, p, C, e, k, h => by
    unfold chkE at h
    split at h
    · obtain ⟨h1, h⟩ := ba2 h
      obtain ⟨h2, h⟩ := ba2 h
      obtain ⟨h3, h4⟩ := ba2 h
      cases of_decide_eq_true h1
      obtain ⟨a, ha, hs⟩ := k.gs _ _ (of_decide_eq_true h3)
      exact ⟨(e_gtup (hK := k.K) (k.gl h2) ha hs (okName_ok h4).1).as fun ρ => by first | rfl | (simp only [evE]; done) | (simp only [evE]; rfl), t_no fun ρ => by first | rfl | (simp only [evT]; done) | (simp only [evT]; rfl), rfl⟩
    · cases h
  | .bin o a b, c, X, p, C, e, k, h => by
    unfold chkE at h
    split at h
    · obtain ⟨h1, h⟩ := ba2 h
      obtain ⟨h2, h3⟩ := ba2 h
      cases BOp.is_ok h1
      exact SE.of k (PE.as (e_bin (hK := k.K) o (sndE a c X p C _ k h2).v (sndE b c X p C _ k h3).v) fun ρ => by first | rfl | (simp only [evE]; done) | (simp only [evE]; rfl)) (fun _ => rfl) (fun ρ => by rw [thr_bin]) rfl
    · cases h
  | .neg a, c, X, p, C, e, k, h => by
    unfold chkE at h
    split at h
    · exact ⟨(e_neg (hK := k.K) (sndE a c X p C _ k h).v).as fun ρ => by first | rfl | (simp only [evE]; done) | (simp only [evE]; rfl), t_no fun ρ => by first | rfl | (simp only [evT]; done) | (simp only [evT]; rfl), rfl⟩
    · cases h
  | .not a, c, X, p, C, e, k, h => by
    unfold chkE at h
    split at h
    · exact ⟨(e_not (hK := k.K) (sndE a c X p C _ k h).v).as fun ρ => by first | rfl | (simp only [evE]; done) | (simp only [evE]; rfl), (t_not (hK := k.K) (sndE a c X p C _ k h).w).as fun ρ => by first | rfl | (simp only [evT]; done) | (simp only [evT]; rfl), rfl⟩
    · cases h
  | .and as, c, X, p, C, e, k, h => by
    unfold chkE at h
    split at h
    · obtain ⟨h1, h2⟩ := ba2 h
      have ne : ∀ {l : List Expr}, (!l.isEmpty) = true → l ≠ [] := fun {l} q z => by subst z; cases q
      obtain ⟨q1, q2⟩ := (sndEs as c X p C _ k h2).and_ (ne h1) _
      exact ⟨q1.as fun ρ => by first | rfl | (simp only [evE]; done) | (simp only [evE]; rfl), q2.pt.as fun ρ => by first | rfl | (simp only [evT]; done) | (simp only [evT]; rfl), rfl⟩
    · cases h
  | .or as, c, X, p, C, e, k, h => by
    unfold chkE at h
    split at h
    · obtain ⟨h1, h2⟩ := ba2 h
      have ne : ∀ {l : List Expr}, (!l.isEmpty) = true → l ≠ [] := fun {l} q z => by subst z; cases q
      obtain ⟨q1, q2⟩ := (sndEs as c X p C _ k h2).or_ (ne h1) _
      exact ⟨q1.as fun ρ => by first | rfl | (simp only [evE]; done) | (simp only [evE]; rfl), q2.pt.as fun ρ => by first | rfl | (simp only [evT]; done) | (simp only [evT]; rfl), rfl⟩
    · cases h
  | .ite t a b, c, X, p, C, e, k, h => by
    unfold chkE at h
    split at h
    · obtain ⟨h1, h⟩ := ba2 h
      obtain ⟨h2, h3⟩ := ba2 h
      exact ⟨(e_ite (hK := k.K) (sndE t c X p C _ k h1).w (sndE a c X p C _ k h2).v (sndE b c X p C _ k h3).v).as fun ρ => by first | rfl | (simp only [evE]; done) | (simp only [evE]; rfl), t_no fun ρ => by first | rfl | (simp only [evT]; done) | (simp only [evT]; rfl), rfl⟩
    · cases h
  | .cmp o a b, c, X, p, C, e, k, h => by
    unfold chkE at h
    split at h
    · obtain ⟨h1, h⟩ := ba2 h
      obtain ⟨h0, h⟩ := ba2 h
      obtain ⟨h2, h3⟩ := ba2 h
      cases COp.is_ok h1
      have va := (sndE a c X p C _ k h2).v
      have vb := (sndE b c X p C _ k h3).v
      exact ⟨(e_cmp (hK := k.K) k.un o va vb (mark_of h0 _)).as fun ρ => by first | rfl | (simp only [evE]; done) | (simp only [evE]; rfl), (t_cmp (hK := k.K) k.un o va vb (mark_of h0 _)).as fun ρ => by first | rfl | (simp only [evT]; done) | (simp only [evT]; rfl), rfl⟩
    · cases h
  | .cmp2 o q a b d, c, X, p, C, e, k, h => by
    unfold chkE at h
    split at h
    · obtain ⟨h1, h⟩ := ba2 h
      obtain ⟨h2, h⟩ := ba2 h
      obtain ⟨h3, h⟩ := ba2 h
      obtain ⟨h4, h⟩ := ba2 h
      obtain ⟨h5, h⟩ := ba2 h
      obtain ⟨h6, h7⟩ := ba2 h
      cases COp.is_ok h1
      cases COp.is_ok h2
      have va := (sndE a c X p C _ k h5).v
      have vb := (sndE b c X p C _ k h6).v
      have vc := (sndE d c X p C _ k h7).v
      exact ⟨(e_cmp2 (hK := k.K) k.un o q va vb vc (mark_of h4 _)).as fun ρ => by first | rfl | (simp only [evE]; done) | (simp only [evE]; rfl), (t_cmp2 (hK := k.K) k.un o q va vb vc (mark_of h4 _)).as fun ρ => by first | rfl | (simp only [evT]; done) | (simp only [evT]; rfl), rfl⟩
    · cases h
  | .idx a b, c, X, p, C, e, k, h => by
    unfold chkE at h
    split at h
    · obtain ⟨h1, h⟩ := ba2 h
      obtain ⟨h2, h3⟩ := ba2 h
      exact SE.of k (PE.as (e_idx (hK := k.K) (sndE a c X p C _ k h2).v (sndE b c X p C _ k h3).v (pix_of h1)) fun ρ => by first | rfl | (simp only [evE]; done) | (simp only [evE]; rfl)) (fun _ => rfl) (fun ρ => by rw [thr_idx]) rfl
    · cases h
  | .slc a b d, c, X, p, C, e, k, h => by
    unfold chkE at h
    split at h
    · obtain ⟨h1, h⟩ := ba2 h
      obtain ⟨h2, h3⟩ := ba2 h
      exact ⟨(e_slc (hK := k.K) (sndE a c X p C _ k h1).v (sndE b c X p C _ k h2).v (sndE d c X p C _ k h3).v).as fun ρ => by first | rfl | (simp only [evE]; done) | (simp only [evE]; rfl), t_no fun ρ => by first | rfl | (simp only [evT]; done) | (simp only [evT]; rfl), rfl⟩
    · cases h
  | .rvs a, c, X, p, C, e, k, h => by
    unfold chkE at h
    split at h
    · exact ⟨(e_rvs (hK := k.K) (sndE a c X p C _ k h).v).as fun ρ => by first | rfl | (simp only [evE]; done) | (simp only [evE]; rfl), t_no fun ρ => by first | rfl | (simp only [evT]; done) | (simp only [evT]; rfl), rfl⟩
    · cases h
  | .slo a b, c, X, p, C, e, k, h => by
    unfold chkE at h
    split at h
    · obtain ⟨h1, h2⟩ := ba2 h
      exact ⟨(e_slo (hK := k.K) (sndE a c X p C _ k h1).v (sndE b c X p C _ k h2).v).as fun ρ => by first | rfl | (simp only [evE]; done) | (simp only [evE]; rfl), t_no fun ρ => by first | rfl | (simp only [evT]; done) | (simp only [evT]; rfl), rfl⟩
    · cases h
  | .shi a b, c, X, p, C, e, k, h => by
    unfold chkE at h
    split at h
    · obtain ⟨h1, h2⟩ := ba2 h
      exact ⟨(e_shi (hK := k.K) (sndE a c X p C _ k h1).v (sndE b c X p C _ k h2).v).as fun ρ => by first | rfl | (simp only [evE]; done) | (simp only [evE]; rfl), t_no fun ρ => by first | rfl | (simp only [evT]; done) | (simp only [evT]; rfl), rfl⟩
    · cases h
  | .tup as, c, X, p, C, e, k, h => by
    unfold chkE at h
    split at h
    · exact ⟨(e_tup (sndEs as c X p C _ k h).d).as fun ρ => by first | rfl | (simp only [evE]; done) | (simp only [evE]; rfl), t_no fun ρ => by first | rfl | (simp only [evT]; done) | (simp only [evT]; rfl), rfl⟩
    · cases h
  | .lst as, c, X, p, C, e, k, h => by
    unfold chkE at h
    split at h
    · exact ⟨(e_lst (sndEs as c X p C _ k h).d).as fun ρ => by first | rfl | (simp only [evE]; done) | (simp only [evE]; rfl), t_no fun ρ => by first | rfl | (simp only [evT]; done) | (simp only [evT]; rfl), rfl⟩
    · cases h
  | .isi a t, c, X, p, C, e, k, h => by
    unfold chkE at h
    split at h
    · obtain ⟨h1, h⟩ := ba2 h
      obtain ⟨h2, h⟩ := ba2 h
      obtain ⟨h3, h⟩ := ba2 h
      obtain ⟨h4, h5⟩ := ba2 h
      have i := sndE a c X p C _ k h5
      exact SE.of k (PE.as (sndIsi k (of_decide_eq_true h1) (of_decide_eq_true h2) h3 h4 i.v i.s) fun ρ => by first | rfl | (simp only [evE]; done) | (simp only [evE]; rfl)) (fun _ => rfl) (fun ρ => by rw [thr_isi]) rfl
    · cases h
  | .sset a, c, X, p, C, e, k, h => by
    unfold chkE at h
    split at h
    · obtain ⟨h1, h⟩ := ba2 h
      obtain ⟨h2, h⟩ := ba2 h
      obtain ⟨h3, h⟩ := ba2 h
      obtain ⟨h4, h5⟩ := ba2 h
      have i := sndE a c X p C _ k h5
      have e1 := of_decide_eq_true h1
      have e3 := of_decide_eq_true h3
      subst e1 e3
      obtain ⟨g1, m1⟩ := k.free h2
      obtain ⟨g2, m2⟩ := k.free h4
      exact ⟨(e_sset (hK := k.K) k.calm g1 m1 g2 m2 i.v (plain_of i.s)).as fun ρ => by first | rfl | (simp only [evE]; done) | (simp only [evE]; rfl), t_no fun ρ => by first | rfl | (simp only [evT]; done) | (simp only [evT]; rfl), rfl⟩
    · cases h
  | .b1 f a, c, X, p, C, e, k, h => by
    unfold chkE at h
    split at h
    · obtain ⟨h1, h⟩ := ba2 h
      obtain ⟨h2, h3⟩ := ba2 h
      have i := sndE a c X p C _ k h3
      exact SE.of k (PE.as (sndB1 k (of_decide_eq_true h1) h2 i.v i.s) fun ρ => by first | rfl | (simp only [evE]; done) | (simp only [evE]; rfl)) (fun _ => rfl) (fun ρ => by rw [thr_b1]) rfl
    · cases h
  | .b2 f a b, c, X, p, C, e, k, h => by
    unfold chkE at h
    split at h
    · obtain ⟨h1, h⟩ := ba2 h
      obtain ⟨h2, h3⟩ := ba2 h
      have i := sndE a c X p C _ k h2
      have j := sndE b c X p C _ k h3
      refine ⟨?_, t_no fun ρ => by first | rfl | (simp only [evT]; done) | (simp only [evT]; rfl), rfl⟩
      cases f with
      | max =>
        obtain ⟨q1, q2⟩ := ba2 h1
        cases of_decide_eq_true q1
        obtain ⟨g, m⟩ := k.free q2
        exact (e_b2b (hK := k.K) (b2_max k.calm) g m (by decide +kernel) (by decide) (by decide) i.v j.v (plain_of i.s) (plain_of j.s)).as fun ρ => by first | rfl | (simp only [evE]; done) | (simp only [evE]; rfl)
      | min =>
        obtain ⟨q1, q2⟩ := ba2 h1
        cases of_decide_eq_true q1
        obtain ⟨g, m⟩ := k.free q2
        exact (e_b2b (hK := k.K) (b2_min k.calm) g m (by decide +kernel) (by decide) (by decide) i.v j.v (plain_of i.s) (plain_of j.s)).as fun ρ => by first | rfl | (simp only [evE]; done) | (simp only [evE]; rfl)
      | gcd =>
        obtain ⟨q1, q⟩ := ba2 h1
        obtain ⟨q2, q3⟩ := ba2 q
        exact (e_gcd (hK := k.K) (k.gl q1) (k.gs _ _ (of_decide_eq_true q2)) (okName_ok q3).1 i.v j.v (plain_of i.s) (plain_of j.s)).as fun ρ => by first | rfl | (simp only [evE]; done) | (simp only [evE]; rfl)
    · cases h
  | .lrng it, c, X, p, C, e, k, h => by
    unfold chkE at h
    split at h
    · obtain ⟨h1, h⟩ := ba2 h
      obtain ⟨h2, h3⟩ := ba2 h
      cases of_decide_eq_true h1
      obtain ⟨g, m⟩ := k.free h2
      cases it with
      | rng1 a =>
        unfold chkR at h3
        split at h3
        · obtain ⟨q1, q⟩ := ba2 h3
          obtain ⟨q2, q3⟩ := ba2 q
          cases of_decide_eq_true q1
          obtain ⟨g2, m2⟩ := k.free q2
          have i := sndE a c X p C _ k q3
          exact ⟨(e_lrng1 (hK := k.K) k.calm g m g2 m2 i.v (plain_of i.s) (plain_of rfl)).as fun ρ => by first | rfl | (simp only [evE, evI, fLR, fR1]; done) | (simp only [evE, evI, fLR, fR1]; rfl), t_no fun ρ => by first | rfl | (simp only [evT]; done) | (simp only [evT]; rfl), rfl⟩
        · cases h3
      | rng2 a b =>
        unfold chkR at h3
        split at h3
        · obtain ⟨q1, q⟩ := ba2 h3
          obtain ⟨q2, q⟩ := ba2 q
          obtain ⟨q3, q4⟩ := ba2 q
          cases of_decide_eq_true q1
          obtain ⟨g2, m2⟩ := k.free q2
          have i := sndE a c X p C _ k q3
          have j := sndE b c X p C _ k q4
          exact ⟨(e_lrng2 (hK := k.K) k.calm g m g2 m2 i.v j.v (plain_of i.s) (plain_of j.s) (plain_of rfl)).as fun ρ => by first | rfl | (simp only [evE, evI, fLR, fR2]; done) | (simp only [evE, evI, fLR, fR2]; rfl), t_no fun ρ => by first | rfl | (simp only [evT]; done) | (simp only [evT]; rfl), rfl⟩
        · cases h3
      | _ => cases h3
    · cases h
  | .trng it, c, X, p, C, e, k, h => by
    unfold chkE at h
    split at h
    · obtain ⟨h1, h⟩ := ba2 h
      obtain ⟨h2, h3⟩ := ba2 h
      cases of_decide_eq_true h1
      obtain ⟨g, m⟩ := k.free h2
      cases it with
      | rng1 a =>
        unfold chkR at h3
        split at h3
        · obtain ⟨q1, q⟩ := ba2 h3
          obtain ⟨q2, q3⟩ := ba2 q
          cases of_decide_eq_true q1
          obtain ⟨g2, m2⟩ := k.free q2
          have i := sndE a c X p C _ k q3
          exact ⟨(e_trng1 (hK := k.K) k.calm g m g2 m2 i.v (plain_of i.s) (plain_of rfl)).as fun ρ => by first | rfl | (simp only [evE, evI, fTR, fR1]; done) | (simp only [evE, evI, fTR, fR1]; rfl), t_no fun ρ => by first | rfl | (simp only [evT]; done) | (simp only [evT]; rfl), rfl⟩
        · cases h3
      | rng2 a b =>
        unfold chkR at h3
        split at h3
        · obtain ⟨q1, q⟩ := ba2 h3
          obtain ⟨q2, q⟩ := ba2 q
          obtain ⟨q3, q4⟩ := ba2 q
          cases of_decide_eq_true q1
          obtain ⟨g2, m2⟩ := k.free q2
          have i := sndE a c X p C _ k q3
          have j := sndE b c X p C _ k q4
          exact ⟨(e_trng2 (hK := k.K) k.calm g m g2 m2 i.v j.v (plain_of i.s) (plain_of j.s) (plain_of rfl)).as fun ρ => by first | rfl | (simp only [evE, evI, fTR, fR2]; done) | (simp only [evE, evI, fTR, fR2]; rfl), t_no fun ρ => by first | rfl | (simp only [evT]; done) | (simp only [evT]; rfl), rfl⟩
        · cases h3
      | _ => cases h3
    · cases h
  | .call f as, c, X, p, C, e, k, h => by
    unfold chkE at h
    split at h
    · obtain ⟨h1, h⟩ := ba2 h
      obtain ⟨h2, h⟩ := ba2 h
      obtain ⟨h3, h4⟩ := ba2 h
      exact SE.of k (PE.as (sndCall k h1 h2 h3 (sndEs as c X p C _ k h4)) fun ρ => by first | rfl | (simp only [evE]; done) | (simp only [evE]; rfl)) (fun _ => rfl) (fun ρ => by rw [thr_call]) rfl
    · cases h
  | .comp a t it, c, X, p, C, e, k, h => by
    unfold chkE at h
    split at h
    · obtain ⟨h1, h⟩ := ba2 h
      obtain ⟨h2, h3⟩ := ba2 h
      unfold compOk at h1
      obtain ⟨q1, q⟩ := ba2 h1
      obtain ⟨q2, q⟩ := ba2 q
      obtain ⟨q3, q4⟩ := ba2 q
      refine ⟨(e_comp (own := ownG t _) k.calm (by rw [k.N]; exact k.nd) (sndI it c X p C _ _ k h2).i (by rw [k.N, k.sc]; exact blk_of q1) (of_decide_eq_true q2) (fun s H A cl fp => sndG t _ _ _ C _ (k.inner s H _ A cl fp) q3) (fun s H A cl fp => (sndE a _ _ _ C _ (k.inner s H _ A cl fp) h3).v) (fold_of q4 _)).as fun ρ => by first | rfl | (simp only [evE, fComp, fItem]; done) | (simp only [evE, fComp, fItem]; rfl), t_no fun ρ => by first | rfl | (simp only [evT]; done) | (simp only [evT]; rfl), rfl⟩
    · cases h
  | .compIf a t it d, c, X, p, C, e, k, h => by
    unfold chkE at h
    split at h
    · obtain ⟨h1, h⟩ := ba2 h
      obtain ⟨h2, h⟩ := ba2 h
      obtain ⟨h3, h4⟩ := ba2 h
      unfold compOk at h1
      obtain ⟨q1, q⟩ := ba2 h1
      obtain ⟨q2, q⟩ := ba2 q
      obtain ⟨q3, q4⟩ := ba2 q
      refine ⟨(e_compIf (own := ownG t _) k.calm (by rw [k.N]; exact k.nd) (sndI it c X p C _ _ k h2).i (by rw [k.N, k.sc]; exact blk_of q1) (of_decide_eq_true q2) (fun s H A cl fp => sndG t _ _ _ C _ (k.inner s H _ A cl fp) q3) (fun s H A cl fp => (sndE d _ _ _ C _ (k.inner s H _ A cl fp) h4).w) (fun s H A cl fp => (sndE a _ _ _ C _ (k.inner s H _ A cl fp) h3).v) (fold_of q4 _)).as fun ρ => by first | rfl | (simp only [evE, fCompIf, fItemIf]; done) | (simp only [evE, fCompIf, fItemIf]; rfl), t_no fun ρ => by first | rfl | (simp only [evT]; done) | (simp only [evT]; rfl), rfl⟩
    · cases h
  | .app i a, c, X, p, C, e, k, h => by
    unfold chkE at h
    split at h
    · obtain ⟨h1, h⟩ := ba2 h
      obtain ⟨h2, h⟩ := ba2 h
      obtain ⟨h3, h4⟩ := ba2 h
      cases of_decide_eq_true h1
      obtain ⟨r1, r2, r3, r4⟩ := k.rd h2
      have j := sndE a c X p C _ k h4
      exact ⟨(e_app (hK := k.K) r1 r2 r3 r4 j.v (plain_of j.s) h3).as fun ρ => by first | rfl | (simp only [evE]; done) | (simp only [evE]; rfl), t_no fun ρ => by first | rfl | (simp only [evT]; done) | (simp only [evT]; rfl), rfl⟩
    · cases h
  | .pop0 i, c, X, p, C, e, k, h => by
    unfold chkE at h
    split at h
    · obtain ⟨h1, h⟩ := ba2 h
      obtain ⟨h2, h3⟩ := ba2 h
      cases of_decide_eq_true h1
      obtain ⟨r1, r2, r3, r4⟩ := k.rd h2
      exact ⟨(e_pop0 (hK := k.K) r1 r2 r3 r4 h3).as fun ρ => by first | rfl | (simp only [evE]; done) | (simp only [evE]; rfl), t_no fun ρ => by first | rfl | (simp only [evT]; done) | (simp only [evT]; rfl), rfl⟩
    · cases h
  | .popAt i a, c, X, p, C, e, k, h => by
    unfold chkE at h
    split at h
    · obtain ⟨h1, h⟩ := ba2 h
      obtain ⟨h2, h⟩ := ba2 h
      obtain ⟨h3, h4⟩ := ba2 h
      cases of_decide_eq_true h1
      obtain ⟨r1, r2, r3, r4⟩ := k.rd h2
      have j := sndE a c X p C _ k h4
      exact ⟨(e_popAt (hK := k.K) r1 r2 r3 r4 j.v (plain_of j.s) h3).as fun ρ => by first | rfl | (simp only [evE]; done) | (simp only [evE]; rfl), t_no fun ρ => by first | rfl | (simp only [evT]; done) | (simp only [evT]; rfl), rfl⟩
    · cases h
theorem sndEs : ∀ (ts : IEs) (c : Ck) (X : Cx) (p : Par) (C : Nat → List Arg → RC) (es : List Expr), Cok c X p C → chkEs ts c es = true → SEs X p C ts es
  | .nil, c, X, p, C, es, k, h => by
    unfold chkEs at h
    split at h
    · exact ⟨fun _ => rfl, (d_nil : PA X [] (tD p (fun ρ => .ok [] ρ))), a_nil, fun e he => (by cases he), fun z => absurd rfl z, fun z => absurd rfl z⟩
    · cases h
  | .cons a as, c, X, p, C, es, k, h => by
    unfold chkEs at h
    split at h
    · obtain ⟨h1, h2⟩ := ba2 h
      have i := sndE a c X p C _ k h1
      have j := sndEs as c X p C _ k h2
      rename_i e r
      refine ⟨fun z => (by cases z), ?_, ?_, fun x hx => ?_, fun _ pos => ?_, fun _ pos => ?_⟩
      · exact (d_cons i.v j.d (plain_of i.s))
      · exact (a_cons i.v j.a (plain_of i.s))
      · rcases List.mem_cons.mp hx with z | z
        · rw [z]
          exact i.s
        · exact j.s x z
      · cases r with
        | nil =>
          cases j.nil rfl
          exact ⟨(e_and1 i.v).as fun ρ => by first | rfl | (simp only [evAnd]; done) | (simp only [evAnd]; rfl), (t_and1 i.w)⟩
        | cons e2 r =>
          cases as with
          | nil => simp [chkEs] at h2
          | cons b bs =>
            obtain ⟨q1, q2⟩ := j.and_ (by simp) pos
            exact ⟨(e_and i.v q1).as fun ρ => by first | rfl | (simp only [evAnd]; done) | (simp only [evAnd]; rfl), (t_and i.w q2)⟩
      · cases r with
        | nil =>
          cases j.nil rfl
          exact ⟨(e_or1 i.v).as fun ρ => by first | rfl | (simp only [evOr]; done) | (simp only [evOr]; rfl), (t_or1 i.w)⟩
        | cons e2 r =>
          cases as with
          | nil => simp [chkEs] at h2
          | cons b bs =>
            obtain ⟨q1, q2⟩ := j.or_ (by simp) pos
            exact ⟨(e_or i.v q1).as fun ρ => by first | rfl | (simp only [evOr]; done) | (simp only [evOr]; rfl), (t_or i.w q2)⟩
    · cases h
theorem sndI : ∀ (t : II) (c : Ck) (X : Cx) (p : Par) (C : Nat → List Arg → RC) (tg e : Expr), Cok c X p C → chkI t c tg e = true → SI X p C t tg e
  | .rng1 a, c, X, p, C, tg, e, k, h => by
    unfold chkI at h
    split at h
    · obtain ⟨q1, q⟩ := ba2 h
      obtain ⟨q2, q3⟩ := ba2 q
      cases of_decide_eq_true q1
      obtain ⟨g2, m2⟩ := k.free q2
      have i := sndE a c X p C _ k q3
      exact ⟨(i_rng1 (hK := k.K) g2 m2 i.v (plain_of i.s)).as fun ρ => by first | rfl | (simp only [evI]; done) | (simp only [evI]; rfl), rfl⟩
    · cases h
  | .rng2 a b, c, X, p, C, tg, e, k, h => by
    unfold chkI at h
    split at h
    · obtain ⟨q1, q⟩ := ba2 h
      obtain ⟨q2, q⟩ := ba2 q
      obtain ⟨q3, q4⟩ := ba2 q
      cases of_decide_eq_true q1
      obtain ⟨g2, m2⟩ := k.free q2
      have i := sndE a c X p C _ k q3
      have j := sndE b c X p C _ k q4
      exact ⟨(i_rng2 (hK := k.K) g2 m2 i.v j.v (plain_of i.s) (plain_of j.s)).as fun ρ => by first | rfl | (simp only [evI]; done) | (simp only [evI]; rfl), rfl⟩
    · cases h
  | .rng3 a b d, c, X, p, C, tg, e, k, h => by
    unfold chkI at h
    split at h
    · obtain ⟨q1, q⟩ := ba2 h
      obtain ⟨q2, q⟩ := ba2 q
      obtain ⟨q3, q⟩ := ba2 q
      obtain ⟨q4, q5⟩ := ba2 q
      cases of_decide_eq_true q1
      obtain ⟨g2, m2⟩ := k.free q2
      have i := sndE a c X p C _ k q3
      have j := sndE b c X p C _ k q4
      have l := sndE d c X p C _ k q5
      exact ⟨(i_rng3 (hK := k.K) g2 m2 i.v j.v l.v (plain_of i.s) (plain_of j.s) (plain_of l.s)).as fun ρ => by first | rfl | (simp only [evI]; done) | (simp only [evI]; rfl), rfl⟩
    · cases h
  | .seq a, c, X, p, C, tg, e, k, h => by
    unfold chkI at h
    have i := sndE a c X p C _ k h
    exact ⟨(i_seq (hK := k.K) i.v).as fun ρ => by first | rfl | (simp only [evI]; done) | (simp only [evI]; rfl), i.s⟩
  | .zip a b, c, X, p, C, tg, e, k, h => by
    unfold chkI at h
    obtain ⟨h0, h'⟩ := ba2 h
    clear h
    obtain ⟨es, kk, tp, rfl⟩ := isTup_eq h0
    split at h'
    · obtain ⟨q1, q⟩ := ba2 h'
      obtain ⟨q2, q⟩ := ba2 q
      obtain ⟨q3, q4⟩ := ba2 q
      cases of_decide_eq_true q1
      obtain ⟨g2, m2⟩ := k.free q2
      have i := sndE a c X p C _ k q3
      have j := sndE b c X p C _ k q4
      exact ⟨(i_zip (hK := k.K) g2 m2 i.v j.v (plain_of i.s) (plain_of j.s)).as fun ρ => by first | rfl | (simp only [evI]; done) | (simp only [evI]; rfl), rfl⟩
    · cases h'
  | .enum a, c, X, p, C, tg, e, k, h => by
    unfold chkI at h
    obtain ⟨h0, h'⟩ := ba2 h
    clear h
    obtain ⟨es, kk, tp, rfl⟩ := isTup_eq h0
    split at h'
    · obtain ⟨q1, q⟩ := ba2 h'
      obtain ⟨q2, q3⟩ := ba2 q
      cases of_decide_eq_true q1
      obtain ⟨g2, m2⟩ := k.free q2
      have i := sndE a c X p C _ k q3
      exact ⟨(i_enum (hK := k.K) g2 m2 i.v (plain_of i.s)).as fun ρ => by first | rfl | (simp only [evI]; done) | (simp only [evI]; rfl), rfl⟩
    · cases h'
  | .rev a, c, X, p, C, tg, e, k, h => by
    unfold chkI at h
    split at h
    · obtain ⟨q1, q⟩ := ba2 h
      obtain ⟨q2, q3⟩ := ba2 q
      cases of_decide_eq_true q1
      obtain ⟨g2, m2⟩ := k.free q2
      have i := sndE a c X p C _ k q3
      exact ⟨(i_rev (hK := k.K) g2 m2 i.v (plain_of i.s)).as fun ρ => by first | rfl | (simp only [evI]; done) | (simp only [evI]; rfl), rfl⟩
    · cases h
end
end Wk

/-! The walk layer, part 16: the checker for statements. -/
namespace Wk
open PySem PySem.Spec L2
/-! ### how a pair's stores go -/
def isStar : Expr → Bool
  | .Starred .. => true
  | _ => false
def swNames (loc : Str → Bool) (line : Nat) (ts : List Expr) : List Str := ts.filterMap fun
  | .Name id pos => if loc id && pos.line == line then some id else none
  | _ => none
def swP (loc : Str → Bool) (ts vs : List Expr) : Option (Option (List Str)) :=
  if (!(ts.length == 2 || ts.length == 3) || vs.length != ts.length) = true then some none else
  if vs.any isStar = true then some none else
  if ((swNames loc ((ts.head?.map (·.pos.line)).getD 0) ts).length != ts.length || (swNames loc ((ts.head?.map (·.pos.line)).getD 0) ts).eraseDups.length != (swNames loc ((ts.head?.map (·.pos.line)).getD 0) ts).length) = true then some none else
  if vs.all (foldedForSure 8) = true then some none else
  if vs.all (constantsAlone 8) = true then none else some (some (swNames loc ((ts.head?.map (·.pos.line)).getD 0) ts))
theorem blockKind_fn {env : Env} (hk : env.scope.kind = .function) : env.blockKind = .function := by
  unfold Env.blockKind
  rw [hk] <;> rfl
theorem stores_of {env : Env} {ts vs : List Expr} {k k2 : Nat} {p p2 : Pos} {r : Option (List Str)} (hk : env.scope.kind = .function) (h : swP (fun x => env.kindOf x == some .local) ts vs = some r) :
    swappedStores [.Tuple ts k p] (.Tuple vs k2 p2) env = pure r := by
  have hb := blockKind_fn hk
  unfold swP at h
  unfold swappedStores
  dsimp only
  rw [hb]
  split at h
  · rename_i q
    cases h
    rw [if_pos (by rw [q]; rfl)]
  · rename_i q
    rw [if_neg (by
      intro z
      apply q
      simpa using z)]
    split at h
    · rename_i q1
      cases h
      rw [if_pos (by exact q1)]
    · rename_i q1
      rw [if_neg (by exact q1)]
      have hn : (ts.filterMap fun
        | .Name id pos => if env.kindOf id == some .local && pos.line == (ts.head?.map (·.pos.line)).getD 0 then some id else none
        | _ => none) = swNames (fun x => env.kindOf x == some .local) ((ts.head?.map (·.pos.line)).getD 0) ts := rfl
      split at h
      · rename_i q2
        cases h
        rw [if_pos (by exact q2)]
      · rename_i q2
        rw [if_neg (by exact q2)]
        split at h
        · rename_i q3
          cases h
          rw [if_pos q3]
        · rename_i q3
          rw [if_neg q3]
          split at h
          · cases h
          · rename_i q4
            rw [if_neg q4]
            cases h
            rfl
def Ck.loc (c : Ck) (x : Str) : Bool := c.sc.names.lookup x == some .local
def Ck.isF (c : Ck) : Bool := decide (c.sc.kind = .function)
/-- stored while the comprehension still stands? -/
def swB (c : Ck) (y : Str) (py pos : Pos) (s : Scope) : Bool := c.loc y && ((py.line == pos.line) && !(s.names.any fun (n, k) => n == y && (k == .local || k == .cell)))
theorem swB_eq {c : Ck} {X : Cx} {y : Str} {py pos : Pos} {s : Scope} {elt : Expr} {gs : List Comprehension} {l : Nat} (hs : X.env.scope = c.sc) (hf : c.isF = true) : swapsWith (.ListComp elt gs s pos) (some (.Name y py)) l X.env = pure (swB c y py pos s) := by
  have hb := blockKind_fn (env := X.env) (by rw [hs]; exact of_decide_eq_true hf)
  have e : swapsWith (.ListComp elt gs s pos) (some (.Name y py)) l X.env = pure (X.env.blockKind == .function && X.env.kindOf y == some .local && py.line == pos.line && !(s.names.any fun (n, k) => n == y && (k == .local || k == .cell))) := rfl
  rw [e, hb]
  unfold swB Ck.loc Env.kindOf
  rw [hs]
  congr 1
  simp [Bool.and_assoc]
def swV (c : Ck) (x : Str) (px : Pos) : Expr → Option Bool
  | .ListComp _ _ s pos => if c.isF = true then some (swB c x px pos s) else none
  | .SetComp _ _ _ _ => none
  | .DictComp _ _ _ _ _ => none
  | _ => some false
theorem swV_ok {c : Ck} {X : Cx} {x : Str} {px : Pos} {e : Expr} {b : Bool} {l : Nat} (hs : X.env.scope = c.sc) (h : swV c x px e = some b) : swapsWith e (some (.Name x px)) l X.env = pure b := by
  unfold swV at h
  split at h
  · split at h
    · rename_i q
      cases h
      exact swB_eq hs q
    · cases h
  · cases h
  · cases h
  · cases h
    rename_i h1 h2 h3
    refine swaps_of ?_ _ _ _
    cases e <;> first | rfl | exact absurd rfl (h1 _ _ _ _) | exact absurd rfl (h2 _ _ _ _) | exact absurd rfl (h3 _ _ _ _ _)
/-- a tuple's stores in order -/
def swN (c : Ck) : Expr → Expr → Bool
  | .Tuple ts _ _, v => match v with
    | .Tuple vs _ _ => c.isF && decide (swP c.loc ts vs = some none)
    | _ => true
  | _, _ => false
theorem swN_ok {c : Ck} {X : Cx} {tg v : Expr} (hs : X.env.scope = c.sc) (h : swN c tg v = true) : swappedStores [tg] v X.env = pure none ∧ (assignEach [tg] X.env).map (·.2) = [assign tg X.env] := by
  unfold swN at h
  split at h
  · split at h
    · obtain ⟨h1, h2⟩ := ba2 h
      refine ⟨stores_of (by rw [hs]; exact of_decide_eq_true h1) ?_, rfl⟩
      have q := of_decide_eq_true h2
      unfold Ck.loc at q
      unfold Env.kindOf
      rw [hs]
      exact q
    · rename_i hv
      refine ⟨?_, rfl⟩
      cases v <;> first | rfl | exact absurd rfl (hv _ _ _)
  · cases h
def isLc : IE → Bool
  | .comp _ _ _ => true
  | .compIf _ _ _ _ => true
  | _ => false
mutual
def chkS : IS → Ck → Stmt → Bool
  | .never, _, _ => true
  | .skip, _, st => match st with
    | .Expr (.Constant (.str _) _ _) _ => true
    | .Pass _ => true
    | _ => false
  | .expr e, c, st => match st with
    | .Expr x _ => notComp x && chkE e c x
    | _ => false
  | .asg i e, c, st => match st with
    | .Assign [.Name x px] v _ => wrOk c i x && (chkE e c v && match swV c x px v with
      | some true => decide (c.sc.names.lookup x = some .local) && isLc e
      | some false => true
      | none => false)
    | _ => false
  | .asgT t e, c, st => match st with
    | .Assign [tg] v _ => swN c tg v && (notComp v && (chkG t c tg && chkE e c v))
    | _ => false
  | .par2 i j a b, c, st => match st with
    | .Assign [.Tuple [.Name x px, .Name y py] _ _] (.Tuple [u, v] _ _) _ => wrOk c i x && (wrOk c j y && (decide (i ≠ j) && (c.isF && (c.loc x && (c.loc y && (decide (swP c.loc [.Name x px, .Name y py] [u, v] = some (some [x, y])) && (chkE a c u && chkE b c v)))))))
    | _ => false
  | .parO i j a b, c, st => match st with
    | .Assign [.Tuple [.Name x px, .Name y py] kt pt] (.Tuple [u, v] k2 pt2) _ => wrOk c i x && (wrOk c j y && (decide (i ≠ j) && (chkE a c u && (chkE b c v &&
      (c.isF && (c.loc x && (c.loc y && decide (swP c.loc [.Name x px, .Name y py] [u, v] = some (some [x, y]))))
        || (swN c (.Tuple [.Name x px, .Name y py] kt pt) (.Tuple [u, v] k2 pt2) && notComp (.Tuple [u, v] k2 pt2)))))))
    | _ => false
  | .par3 i j l a b d, c, st => match st with
    | .Assign [.Tuple [.Name x px, .Name y py, .Name z pz] _ _] (.Tuple [u, v, w] _ _) _ => wrOk c i x && (wrOk c j y && (wrOk c l z && (decide (i ≠ j ∧ i ≠ l ∧ j ≠ l) && (c.isF && (c.loc x && (c.loc y && (c.loc z && (decide (swP c.loc [.Name x px, .Name y py, .Name z pz] [u, v, w] = some (some [x, y, z])) && (chkE a c u && (chkE b c v && chkE d c w))))))))))
    | _ => false
  | .setix i x e, c, st => match st with
    | .Assign [.Subscript (.Name y _) ix _] v _ => rdOk c i y && (notSlice ix && (notComp v && (chkE x c ix && chkE e c v)))
    | _ => false
  | .ite e s t, c, st => match st with
    | .If x a b _ => chkE e c x && (chkSs s c a && chkSs t c b)
    | _ => false
  | .for_ t it s, c, st => match st with
    | .For tg ie b [] _ => notSet ie && (chkG t c tg && (chkI it c tg ie && chkSs s c b))
    | _ => false
  | .whl e s, c, st => match st with
    | .While x b [] _ => chkE e c x && chkSs s c b
    | _ => false
  | .ret e, c, st => match st with
    | .Return (some x) _ => chkE e c x
    | _ => false
  | .retN, _, st => match st with
    | .Return none _ => true
    | _ => false
  | .brk, _, st => match st with
    | .Break _ => true
    | _ => false
  | .cnt, _, st => match st with
    | .Continue _ => true
    | _ => false
  | .raise _, _, _ => false
  | .seq _ _, _, _ => false
def chkSs : IS → Ck → List Stmt → Bool
  | .seq s t, c, sts => match sts with
    | st :: r => chkS s c st && chkSs t c r
    | [] => false
  | .skip, _, sts => sts.isEmpty
  | .never, _, _ => true
  | _, _, _ => false
end
structure Sok (c : Ck) (X : Cx) (p : Par) (C : Nat → List Arg → RC) : Prop extends Cok c X p C where
  pass : PassesOwn (model X.prog X.w) X.A X.env X.xe
theorem _root_.L2.PS.as {X : Cx} {p : Par} {e : Stmt} {f g : Fm → R Fl} (h : PS X e (tS p f)) (w : ∀ ρ, g ρ = f ρ) : PS X e (tS p g) := by
  have : g = f := funext w
  rw [this]
  exact h
theorem _root_.L2.PSs.as {X : Cx} {p : Par} {e : List Stmt} {f g : Fm → R Fl} (h : PSs X e (tS p f)) (w : ∀ ρ, g ρ = f ρ) : PSs X e (tS p g) := by
  have : g = f := funext w
  rw [this]
  exact h
section
variable {c : Ck} {X : Cx} {p : Par} {C : Nat → List Arg → RC}
theorem sndLc {i : Nat} {e : IE} {x : Str} {px pos : Pos} {v : Expr} (k : Cok c X p C) (hw : wrOk c i x = true) (he : chkE e c v = true) (hl : c.sc.names.lookup x = some .local) (hc : isLc e = true) (hs : swapsWith v (some (.Name x px)) pos.line X.env = pure true) :
    PS X (.Assign [.Name x px] v pos) (tS p fun ρ => (evE C e ρ).bind fun r ρ1 => (lift (setR i r ρ1) ρ1).bind fun ρ2 _ => .ok .nx ρ2) := by
  obtain ⟨w1, w2, w3⟩ := k.wr hw
  have hN : X.N.Nodup := by rw [k.N]; exact k.nd
  cases e <;> try (cases hc; done)
  · rename_i a t it
    unfold chkE at he
    split at he
    · obtain ⟨h1, h⟩ := ba2 he
      obtain ⟨h2, h3⟩ := ba2 h
      unfold compOk at h1
      obtain ⟨q1, q⟩ := ba2 h1
      obtain ⟨q2, q⟩ := ba2 q
      obtain ⟨q3, q4⟩ := ba2 q
      refine PS.weaken (ps_setLc k.calm hN w1 (by rw [k.sc]; exact hl) hs (sndI it c X p C _ _ k h2).i (own := ownG t _) (by rw [k.N, k.sc]; exact blk_of q1) (fun s H A cl fp => sndG t _ _ _ C _ (k.inner s H _ A cl fp) q3) (fun _ _ _ _ _ => pts_nil) (fun s H A cl fp => (sndE a _ _ _ C _ (k.inner s H _ A cl fp) h3).v) (fold_of q4 _)) fun D σ H h => ?_
      rw [of_decide_eq_true q2]
      exact comp_tr (p := p) (body_item (p := p.calm)) σ H _ (asg_tr (fe := evE C (.comp a t it)) D σ H h)
    · cases he
  · rename_i a t it d
    unfold chkE at he
    split at he
    · obtain ⟨h1, h⟩ := ba2 he
      obtain ⟨h2, h⟩ := ba2 h
      obtain ⟨h3, h4⟩ := ba2 h
      unfold compOk at h1
      obtain ⟨q1, q⟩ := ba2 h1
      obtain ⟨q2, q⟩ := ba2 q
      obtain ⟨q3, q4⟩ := ba2 q
      refine PS.weaken (ps_setLc k.calm hN w1 (by rw [k.sc]; exact hl) hs (sndI it c X p C _ _ k h2).i (own := ownG t _) (by rw [k.N, k.sc]; exact blk_of q1) (fun s H A cl fp => sndG t _ _ _ C _ (k.inner s H _ A cl fp) q3) (fun s H A cl fp => pts_one (sndE d _ _ _ C _ (k.inner s H _ A cl fp) h4).w) (fun s H A cl fp => (sndE a _ _ _ C _ (k.inner s H _ A cl fp) h3).v) (fold_of q4 _)) fun D σ H h => ?_
      rw [of_decide_eq_true q2]
      exact comp_tr (p := p) (body_itemIf (p := p.calm)) σ H _ (asg_tr (fe := evE C (.compIf a t it d)) D σ H h)
    · cases he
theorem loc_ok (k : Cok c X p C) {x : Str} (h : c.loc x = true) : X.env.scope.names.lookup x = some .local := by
  rw [k.sc]
  exact eq_of_beq h
theorem par_stores (k : Cok c X p C) {ts vs : List Expr} {kt k2 : Nat} {pt p2 : Pos} {r : Option (List Str)} (hf : c.isF = true) (h : swP c.loc ts vs = some r) : swappedStores [.Tuple ts kt pt] (.Tuple vs k2 p2) X.env = pure r := by
  refine stores_of (by rw [k.sc]; exact of_decide_eq_true hf) ?_
  unfold Ck.loc at h
  unfold Env.kindOf
  rw [k.sc]
  exact h
end
theorem sole_of {v : Expr} (h : notComp v = true) : ∀ t l env, swapsWithSole [t] v l env = pure false := by
  intro t l env
  unfold swapsWithSole
  exact swaps_of h _ _ _
theorem stores_sub {o i : Expr} {pos : Pos} {env : Env} (v : Expr) : swappedStores [.Subscript o i pos] v env = pure none := by
  cases v <;> rfl
theorem sub_of {o i : Expr} {pos : Pos} {env : Env} (h : notSlice i = true) : ∀ v, assign (.Subscript o i pos) env v = (do
      let ov ← holding [v] (eval o env)
      let iv ← holding [v, ov] (eval i env)
      standAt pos
      holding [v, ov, iv] (setItem ov iv v)
      release [v, ov, iv] []) := by
  cases i <;> first | (intro v; rfl) | cases h
mutual
theorem sndS : ∀ (t : IS) (c : Ck) (X : Cx) (p : Par) (C : Nat → List Arg → RC) (st : Stmt), Sok c X p C → chkS t c st = true → PS X st (tS p (evS C t))
  | .never, c, X, p, C, st, k, h => s_never.as fun ρ => by first | rfl | (simp only [evS]; done)
  | .skip, c, X, p, C, st, k, h => by
    unfold chkS at h
    split at h
    · exact s_doc.as fun ρ => by first | rfl | (simp only [evS]; done)
    · exact s_pass.as fun ρ => by first | rfl | (simp only [evS]; done)
    · cases h
  | .expr e, c, X, p, C, st, k, h => by
    unfold chkS at h
    split at h
    · obtain ⟨h1, h2⟩ := ba2 h
      exact (s_expr (sndE e c X p C _ k.toCok h2).v (swaps_of h1 _ _ _)).as fun ρ => by first | rfl | (simp only [evS]; done)
    · cases h
  | .asg i e, c, X, p, C, st, k, h => by
    unfold chkS at h
    split at h
    · obtain ⟨h1, h⟩ := ba2 h
      obtain ⟨h2, h3⟩ := ba2 h
      split at h3
      · rename_i q
        obtain ⟨h4, h5⟩ := ba2 h3
        exact (sndLc k.toCok h1 h2 (of_decide_eq_true h4) h5 (swV_ok k.sc q)).as fun ρ => by first | rfl | (simp only [evS]; done)
      · rename_i q
        obtain ⟨w1, w2, w3⟩ := k.toCok.wr h1
        exact (s_asg (by rw [k.N]; exact k.nd) w1 w2 (sndE e c X p C _ k.toCok h2).v (swV_ok k.sc q) w3).as fun ρ => by first | rfl | (simp only [evS]; done)
      · cases h3
    · cases h
  | .asgT t e, c, X, p, C, st, k, h => by
    unfold chkS at h
    split at h
    · obtain ⟨h1, h⟩ := ba2 h
      obtain ⟨h2, h⟩ := ba2 h
      obtain ⟨h3, h4⟩ := ba2 h
      obtain ⟨q1, q2⟩ := swN_ok k.sc h1
      exact (s_asgT (sndE e c X p C _ k.toCok h4).v (sndG t c X p C _ k.toCok h3) (swaps_of h2 _ _ _) q1 q2).as fun ρ => by first | rfl | (simp only [evS]; done)
    · cases h
  | .par2 i j a b, c, X, p, C, st, k, h => by
    unfold chkS at h
    split at h
    · obtain ⟨h1, h⟩ := ba2 h
      obtain ⟨h2, h⟩ := ba2 h
      obtain ⟨h3, h⟩ := ba2 h
      obtain ⟨h4, h⟩ := ba2 h
      obtain ⟨h5, h⟩ := ba2 h
      obtain ⟨h6, h⟩ := ba2 h
      obtain ⟨h7, h⟩ := ba2 h
      obtain ⟨h8, h9⟩ := ba2 h
      have ia := sndE a c X p C _ k.toCok h8
      have ib := sndE b c X p C _ k.toCok h9
      exact (s_par2 k.calm (by rw [k.N]; exact k.nd) (k.toCok.wr h1).1 (k.toCok.wr h2).1 (of_decide_eq_true h3) (loc_ok k.toCok h5) (loc_ok k.toCok h6) (d_cons ia.v (d_cons ib.v d_nil (plain_of ib.s)) (plain_of ia.s)) (par_stores k.toCok h4 (of_decide_eq_true h7)) rfl).as fun ρ => by first | rfl | (simp only [evS]; done)
    · cases h
  | .parO i j a b, c, X, p, C, st, k, h => by
    unfold chkS at h
    split at h
    · obtain ⟨h1, h⟩ := ba2 h
      obtain ⟨h2, h⟩ := ba2 h
      obtain ⟨h3, h⟩ := ba2 h
      obtain ⟨h8, h⟩ := ba2 h
      obtain ⟨h9, h⟩ := ba2 h
      have ia := sndE a c X p C _ k.toCok h8
      have ib := sndE b c X p C _ k.toCok h9
      rcases Bool.or_eq_true_iff.mp h with h | h
      · obtain ⟨h4, h⟩ := ba2 h
        obtain ⟨h5, h⟩ := ba2 h
        obtain ⟨h6, h7⟩ := ba2 h
        exact (s_parO k.calm (by rw [k.N]; exact k.nd) (k.toCok.wr h1).1 (k.toCok.wr h2).1 (of_decide_eq_true h3) (loc_ok k.toCok h5) (loc_ok k.toCok h6) ia.v ib.v (plain_of ia.s) (plain_of ib.s) (par_stores k.toCok h4 (of_decide_eq_true h7)) rfl).as fun ρ => by first | rfl | (simp only [evS]; done)
      · obtain ⟨h4, h5⟩ := ba2 h
        obtain ⟨q1, q2⟩ := swN_ok k.sc h4
        exact (s_asgO k.calm (by rw [k.N]; exact k.nd) (k.toCok.wr h1).1 (k.toCok.wr h2).1 (of_decide_eq_true h3) (k.toCok.wr h1).2.1 (k.toCok.wr h2).2.1 (k.toCok.wr h1).2.2 (k.toCok.wr h2).2.2 ia.v ib.v (plain_of ia.s) (plain_of ib.s) q1 rfl).as fun ρ => by first | rfl | (simp only [evS]; done)
    · cases h
  | .par3 i j l a b d, c, X, p, C, st, k, h => by
    unfold chkS at h
    split at h
    · obtain ⟨h1, h⟩ := ba2 h
      obtain ⟨h2, h⟩ := ba2 h
      obtain ⟨h2', h⟩ := ba2 h
      obtain ⟨h3, h⟩ := ba2 h
      obtain ⟨h4, h⟩ := ba2 h
      obtain ⟨h5, h⟩ := ba2 h
      obtain ⟨h6, h⟩ := ba2 h
      obtain ⟨h6', h⟩ := ba2 h
      obtain ⟨h7, h⟩ := ba2 h
      obtain ⟨h8, h⟩ := ba2 h
      obtain ⟨h9, h10⟩ := ba2 h
      obtain ⟨n1, n2, n3⟩ := of_decide_eq_true h3
      have ia := sndE a c X p C _ k.toCok h8
      have ib := sndE b c X p C _ k.toCok h9
      have ic := sndE d c X p C _ k.toCok h10
      exact (s_par3 k.calm (by rw [k.N]; exact k.nd) (k.toCok.wr h1).1 (k.toCok.wr h2).1 (k.toCok.wr h2').1 n1 n2 n3 (loc_ok k.toCok h5) (loc_ok k.toCok h6) (loc_ok k.toCok h6') (d_cons ia.v (d_cons ib.v (d_cons ic.v d_nil (plain_of ic.s)) (plain_of ib.s)) (plain_of ia.s)) (par_stores k.toCok h4 (of_decide_eq_true h7)) rfl).as fun ρ => by first | rfl | (simp only [evS]; done)
    · cases h
  | .setix i x e, c, X, p, C, st, k, h => by
    unfold chkS at h
    split at h
    · obtain ⟨h1, h⟩ := ba2 h
      obtain ⟨h0, h⟩ := ba2 h
      obtain ⟨h2, h⟩ := ba2 h
      obtain ⟨h3, h4⟩ := ba2 h
      obtain ⟨r1, r2, r3, r4⟩ := k.toCok.rd h1
      exact (s_setix (hK := k.K) r1 r2 r3 r4 (sndE x c X p C _ k.toCok h3).v (sndE e c X p C _ k.toCok h4).v (sub_of h0) (sole_of h2 _ _ _) (stores_sub _) rfl).as fun ρ => by first | rfl | (simp only [evS]; done) | (simp only [evS]; rfl)
    · cases h
  | .ite e s t, c, X, p, C, st, k, h => by
    unfold chkS at h
    split at h
    · obtain ⟨h1, h⟩ := ba2 h
      obtain ⟨h2, h3⟩ := ba2 h
      exact (s_ite (sndE e c X p C _ k.toCok h1).w (sndSs s c X p C _ k h2) (sndSs t c X p C _ k h3)).as fun ρ => by first | rfl | (simp only [evS]; done)
    · cases h
  | .for_ t it s, c, X, p, C, st, k, h => by
    unfold chkS at h
    split at h
    · obtain ⟨h1, h⟩ := ba2 h
      obtain ⟨h2, h⟩ := ba2 h
      obtain ⟨h3, h4⟩ := ba2 h
      exact (s_for k.pass k.calm (sndI it c X p C _ _ k.toCok h3).i (sndG t c X p C _ k.toCok h2) (sndSs s c X p C _ k h4) (fold_of h1 _)).as fun ρ => by first | rfl | (simp only [evS]; done)
    · cases h
  | .whl e s, c, X, p, C, st, k, h => by
    unfold chkS at h
    split at h
    · obtain ⟨h1, h2⟩ := ba2 h
      exact (s_whl k.pass (sndE e c X p C _ k.toCok h1).w (sndSs s c X p C _ k h2)).as fun ρ => by first | (simp only [evS]; done) | rfl
    · cases h
  | .ret e, c, X, p, C, st, k, h => by
    unfold chkS at h
    split at h
    · exact (s_ret (sndE e c X p C _ k.toCok h).v).as fun ρ => by first | rfl | (simp only [evS]; done)
    · cases h
  | .retN, c, X, p, C, st, k, h => by
    unfold chkS at h
    split at h
    · exact s_retN.as fun ρ => by first | rfl | (simp only [evS]; done)
    · cases h
  | .brk, c, X, p, C, st, k, h => by
    unfold chkS at h
    split at h
    · exact s_brk.as fun ρ => by first | rfl | (simp only [evS]; done)
    · cases h
  | .cnt, c, X, p, C, st, k, h => by
    unfold chkS at h
    split at h
    · exact s_cnt.as fun ρ => by first | rfl | (simp only [evS]; done)
    · cases h
  | .raise _, c, X, p, C, st, k, h => by
    unfold chkS at h
    cases h
  | .seq _ _, c, X, p, C, st, k, h => by
    unfold chkS at h
    cases h
theorem sndSs : ∀ (t : IS) (c : Ck) (X : Cx) (p : Par) (C : Nat → List Arg → RC) (sts : List Stmt), Sok c X p C → chkSs t c sts = true → PSs X sts (tS p (evS C t))
  | .seq s t, c, X, p, C, sts, k, h => by
    unfold chkSs at h
    split at h
    · obtain ⟨h1, h2⟩ := ba2 h
      exact (s_seq (sndS s c X p C _ k h1) (sndSs t c X p C _ k h2)).as fun ρ => by first | rfl | (simp only [evS]; done) | (simp only [evS]; rfl)
    · cases h
  | .skip, c, X, p, C, sts, k, h => by
    unfold chkSs at h
    cases sts with
    | nil => exact s_nil.as fun ρ => by first | rfl | (simp only [evS]; done)
    | cons _ _ => cases h
  | .never, c, X, p, C, sts, k, h => PSs.weaken pss_never fun D σ H q => by
    obtain ⟨F, ρ, e, q⟩ := q
    simp only [evS] at q
    exact q.elim
  | .expr _, c, X, p, C, sts, k, h => by cases h
  | .asg _ _, c, X, p, C, sts, k, h => by cases h
  | .asgT _ _, c, X, p, C, sts, k, h => by cases h
  | .par2 _ _ _ _, c, X, p, C, sts, k, h => by cases h
  | .par3 _ _ _ _ _ _, c, X, p, C, sts, k, h => by cases h
  | .parO _ _ _ _, c, X, p, C, sts, k, h => by cases h
  | .setix _ _ _, c, X, p, C, sts, k, h => by cases h
  | .ite _ _ _, c, X, p, C, sts, k, h => by cases h
  | .for_ _ _ _, c, X, p, C, sts, k, h => by cases h
  | .whl _ _, c, X, p, C, sts, k, h => by cases h
  | .ret _, c, X, p, C, sts, k, h => by cases h
  | .retN, c, X, p, C, sts, k, h => by cases h
  | .brk, c, X, p, C, sts, k, h => by cases h
  | .cnt, c, X, p, C, sts, k, h => by cases h
  | .raise _, c, X, p, C, sts, k, h => by cases h
end
end Wk

/-! The walk layer, part 17: each def keeps the promise of the evaluator. -/
namespace Wk
open PySem PySem.Spec L2
/-! ### the start and the end of a body -/
theorem frame_get {fn : Fn} {args : List Arg} {i : Nat} {s : Sl} (h : (frameOf fn args)[i]? = some s) : (∃ a, args[i]? = some a ∧ s = slOf a) ∨ (args.length ≤ i ∧ s = .no) := by
  unfold frameOf at h
  rw [List.getElem?_append] at h
  split at h
  · rename_i q
    rw [List.getElem?_map] at h
    obtain ⟨a, h1, h2⟩ := map_some h
    exact .inl ⟨a, h1, h2.symm⟩
  · rename_i q
    rw [List.length_map] at q
    have := List.getElem?_eq_some_iff.mp h
    obtain ⟨_, e⟩ := this
    rw [List.getElem_replicate] at e
    exact .inr ⟨by omega, e.symm⟩
theorem args_get {K : PySem.W.Frag} {F H : Hp} : ∀ {vs : List V} {as : List Arg} {i : Nat} {a : Arg}, ArgsOk K F H vs as → as[i]? = some a → ∃ v, vs[i]? = some v ∧ match a with
    | .val d => Dq K F v d
    | .own xs k => (k = .lent ∨ k = .lockL) ∧ v ∈ lentV vs as ∧ ∃ b ws, v = .ref b ∧ H b = some (.lst ws) ∧ DqAll K F ws xs ∧ F b = none
  | [], [], _, _, _, h => by simp at h
  | v :: vs, .val d :: as, 0, a, q, h => by
    simp at h
    subst h
    exact ⟨v, rfl, q.1⟩
  | v :: vs, .own xs k :: as, 0, a, q, h => by
    simp at h
    subst h
    exact ⟨v, rfl, q.1, List.mem_cons_self .., q.2.1⟩
  | v :: vs, .val d :: as, i + 1, a, q, h => by
    obtain ⟨u, h1, h2⟩ := args_get (i := i) q.2 (by simpa using h)
    refine ⟨u, by simpa using h1, ?_⟩
    cases a with
    | val d' => exact h2
    | own ys l => exact h2
  | v :: vs, .own xs k :: as, i + 1, a, q, h => by
    obtain ⟨u, h1, h2⟩ := args_get (i := i) q.2.2 (by simpa using h)
    refine ⟨u, by simpa using h1, ?_⟩
    cases a with
    | val d' => exact h2
    | own ys l => exact ⟨h2.1, List.mem_cons_of_mem _ h2.2.1, h2.2.2⟩
  | [], _ :: _, _, _, q, _ => q.elim
  | _ :: _, [], _, _, q, _ => q.elim
theorem lent_sep {K : PySem.W.Frag} {F H : Hp} : ∀ {vs : List V} {as : List Arg} {i j : Nat} {xs ys : List D} {k l : Kd} {b : Addr}, ArgsOk K F H vs as → (lentV vs as).Nodup → as[i]? = some (.own xs k) → as[j]? = some (.own ys l) → vs[i]? = some (.ref b) → vs[j]? = some (V.ref b) → i = j
  | [], [], _, _, _, _, _, _, _, _, _, h, _, _, _ => by simp at h
  | v :: vs, .val d :: as, 0, _, xs, _, _, _, _, q, n, h, _, _, _ => by simp at h
  | v :: vs, .val d :: as, _ + 1, 0, _, _, _, _, _, q, n, _, h, _, _ => by simp at h
  | v :: vs, .val d :: as, i + 1, j + 1, xs, ys, k, l, b, q, n, h1, h2, h3, h4 => by
    rw [lent_sep (i := i) (j := j) (vs := vs) q.2 n (by simpa using h1) (by simpa using h2) (by simpa using h3) (by simpa using h4)]
  | v :: vs, .own zs m :: as, 0, 0, xs, ys, k, l, b, q, n, h1, h2, h3, h4 => rfl
  | v :: vs, .own zs m :: as, 0, j + 1, xs, ys, k, l, b, q, n, h1, h2, h3, h4 => by
    obtain ⟨u, u1, u2⟩ := args_get (i := j) (vs := vs) (as := as) q.2.2 (by simpa using h2)
    have h4 : vs[j]? = some (V.ref b) := by simpa using h4
    rw [h4] at u1
    cases u1
    simp at h3
    subst h3
    exact absurd u2.2.1 (List.nodup_cons.mp n).1
  | v :: vs, .own zs m :: as, i + 1, 0, xs, ys, k, l, b, q, n, h1, h2, h3, h4 => by
    obtain ⟨u, u1, u2⟩ := args_get (i := i) (vs := vs) (as := as) q.2.2 (by simpa using h1)
    have h3 : vs[i]? = some (V.ref b) := by simpa using h3
    rw [h3] at u1
    cases u1
    simp at h4
    subst h4
    exact absurd u2.2.1 (List.nodup_cons.mp n).1
  | v :: vs, .own zs m :: as, i + 1, j + 1, xs, ys, k, l, b, q, n, h1, h2, h3, h4 => by
    rw [lent_sep (i := i) (j := j) (vs := vs) q.2.2 (List.nodup_cons.mp n).2 (by simpa using h1) (by simpa using h2) (by simpa using h3) (by simpa using h4)]
  | [], _ :: _, _, _, _, _, _, _, _, q, _, _, _, _, _ => q.elim
  | _ :: _, [], _, _, _, _, _, _, _, q, _, _, _, _, _ => q.elim
theorem start_get {N : List Str} {vs : List V} {i : Nat} {v : V} (h : vs[i]? = some v) : (L2.start N vs)[i]? = some (some v) := by
  unfold L2.start
  rw [List.getElem?_append_left (by rw [List.length_map]; exact (List.getElem?_eq_some_iff.mp h).1), List.getElem?_map, h]
  rfl
section
variable {K : PySem.W.Frag} {F H : Hp} {vs : List V} {args : List Arg} {N : List Str} {fn : Fn}
theorem start_own {a : Addr} (q : ArgsOk K F H vs args) (h : OwnAt (L2.start N vs) (frameOf fn args) a) : V.ref a ∈ lentV vs args := by
  obtain ⟨i, xs, k, h1, h2⟩ := h
  rcases frame_get h1 with ⟨b, b1, b2⟩ | ⟨_, z⟩
  · cases b with
    | val d => cases b2
    | own ys l =>
      obtain ⟨v, v1, _, v2, _⟩ := args_get q b1
      rw [start_get v1] at h2
      cases h2
      exact v2
  · cases z
theorem start_env (sub : SubH F H) (q : ArgsOk K F H vs args) (n : (lentV vs args).Nodup) (hs : fn.slots = N.length) (hl : args.length ≤ N.length) : EnvOk K H F (L2.start N vs) H (frameOf fn args) := by
  have ll := q.len
  refine ⟨sub, ?_, fun i d h => ?_, fun i xs k h => ?_, fun i j a xs ys k l h1 h2 e1 e2 => ?_, fun a h => h⟩
  · unfold frameOf L2.start
    simp only [List.length_append, List.length_map, List.length_replicate]
    omega
  · rcases frame_get h with ⟨b, b1, b2⟩ | ⟨_, z⟩
    · cases b with
      | val d' =>
        cases b2
        obtain ⟨v, v1, v2⟩ := args_get q b1
        exact ⟨v, start_get v1, v2⟩
      | own ys l => cases b2
    · cases z
  · rcases frame_get h with ⟨b, b1, b2⟩ | ⟨_, z⟩
    · cases b with
      | val d' => cases b2
      | own ys l =>
        cases b2
        obtain ⟨v, v1, v2, v3, b, ws, rfl, w1, w2, w3⟩ := args_get q b1
        refine ⟨b, ws, start_get v1, w1, w2, w3, fun z => ?_⟩
        rcases v2 with rfl | rfl <;> rcases z with z | z <;> cases z
    · cases z
  · rcases frame_get h1 with ⟨b, b1, b2⟩ | ⟨_, z⟩
    · cases b with
      | val d => cases b2
      | own xs' k' =>
        rcases frame_get h2 with ⟨c, c1, c2⟩ | ⟨_, z⟩
        · cases c with
          | val d => cases c2
          | own ys' l' =>
            obtain ⟨v, v1, _⟩ := args_get q b1
            obtain ⟨u, u1, _⟩ := args_get q c1
            rw [start_get v1] at e1
            rw [start_get u1] at e2
            cases e1
            cases e2
            exact lent_sep q n b1 c1 v1 u1
        · cases z
    · cases z
theorem slot_get {i : Nat} {a : Arg} (h : args[i]? = some a) : (frameOf fn args)[i]? = some (slOf a) := by
  unfold frameOf
  rw [List.getElem?_append_left (by rw [List.length_map]; exact (List.getElem?_eq_some_iff.mp h).1), List.getElem?_map, h]
  rfl
variable {σ' : St} {F' H' : Hp} {ρ' : Fm}
/-- a lent list at the end -/
theorem lent_end (q : ArgsOk K F H vs args) (s : Step K H (L2.start N vs) F H (frameOf fn args) σ' F' H' ρ') {i : Nat} {xs : List D} {k : Kd} {v : V} (h : args[i]? = some (.own xs k)) (hv : vs[i]? = some v) :
    ∃ ys b ws, ρ'[i]? = some (.own ys k) ∧ v = .ref b ∧ H' b = some (.lst ws) ∧ DqAll K F' ws ys ∧ F' b = none ∧ (k = .lockL → ys = xs) := by
  obtain ⟨u, u1, u2, _⟩ := args_get q h
  rw [hv] at u1
  cases u1
  obtain ⟨l1, ys, l2, l3⟩ := s.lk i xs k (slot_get h) (by rcases u2 with rfl | rfl <;> simp)
  obtain ⟨b, ws, w1, w2, w3, w4, _⟩ := s.env.own i ys k l2
  rw [l1, start_get hv] at w1
  cases w1
  exact ⟨ys, b, ws, l2, rfl, w2, w3, w4, fun z => l3 (by rw [z]; simp)⟩
theorem lent_at {K : PySem.W.Frag} {F H : Hp} : ∀ {vs : List V} {as : List Arg} {v : V}, ArgsOk K F H vs as → v ∈ lentV vs as → ∃ (i : Nat) (xs : List D) (k : Kd), as[i]? = some (.own xs k) ∧ vs[i]? = some v
  | [], [], v, _, h => by cases h
  | u :: vs, .val d :: as, v, q, h => by
    obtain ⟨i, xs, k, h1, h2⟩ := lent_at (vs := vs) q.2 h
    exact ⟨i + 1, xs, k, by simpa using h1, by simpa using h2⟩
  | u :: vs, .own ys l :: as, v, q, h => by
    rcases List.mem_cons.mp h with z | z
    · subst z
      exact ⟨0, ys, l, rfl, rfl⟩
    · obtain ⟨i, xs, k, h1, h2⟩ := lent_at (vs := vs) q.2.2 z
      exact ⟨i + 1, xs, k, by simpa using h1, by simpa using h2⟩
  | [], _ :: _, _, q, _ => q.elim
  | _ :: _, [], _, q, _ => q.elim
theorem end_step (q : ArgsOk K F H vs args) (s : Step K H (L2.start N vs) F H (frameOf fn args) σ' F' H' ρ') : StepC K F H (lentV vs args) F' H' where
  fz := s.fz
  hp := fun a o h n => s.hp a o h fun z => n (start_own q z)
  dm := s.dm
  nf := fun a h1 h2 => by
    by_cases z : V.ref a ∈ lentV vs args
    · obtain ⟨i, xs, k, e1, e2⟩ := lent_at q z
      obtain ⟨ys, b, ws, _, w1, _, _, w2, _⟩ := lent_end q s e1 e2
      cases w1
      exact w2
    · exact s.nf a h1 h2 fun y => z (start_own q y)
  sub := s.env.sub
theorem end_fin (q0 : ArgsOk K F H vs args) (s : Step K H (L2.start N vs) F H (frameOf fn args) σ' F' H' ρ') : FinOk K F' H' vs args (finOf ρ' 0 args) := by
  have key : ∀ (us : List V) (as : List Arg) (n : Nat), ArgsOk K F H us as → (∀ i, as[i]? = args[n + i]?) → (∀ i, us[i]? = vs[n + i]?) → FinOk K F' H' us as (finOf ρ' n as) := by
    intro us as
    induction us generalizing as with
    | nil =>
      intro n q h1 h2
      cases as with
      | nil => rfl
      | cons _ _ => exact q.elim
    | cons u us ih =>
      intro n q h1 h2
      cases as with
      | nil => exact q.elim
      | cons a as =>
        have t1 : ∀ i, as[i]? = args[n + 1 + i]? := fun i => by
          have := h1 (i + 1)
          rw [List.getElem?_cons_succ] at this
          rw [this]
          congr 1
          omega
        have t2 : ∀ i, us[i]? = vs[n + 1 + i]? := fun i => by
          have := h2 (i + 1)
          rw [List.getElem?_cons_succ] at this
          rw [this]
          congr 1
          omega
        cases a with
        | val d => exact ih as (n + 1) q.2 t1 t2
        | own xs k =>
          have e1 : args[n]? = some (.own xs k) := (h1 0).symm
          have e2 : vs[n]? = some u := (h2 0).symm
          obtain ⟨ys, b, ws, w0, w1, w2, w3, _, w4⟩ := lent_end q0 s e1 e2
          unfold finOf
          rw [w0]
          exact ⟨⟨b, ws, w1, w2, w3⟩, w4, ih as (n + 1) q.2.2 t1 t2⟩
  exact key vs args 0 q0 (fun i => by rw [Nat.zero_add]) fun i => by rw [Nat.zero_add]
theorem end_ret {x : V} {rv r : RV} (s : Step K H (L2.start N vs) F H (frameOf fn args) σ' F' H' ρ') (h : RvOk K H H F' σ' H' ρ' x rv) (e : retOf rv ρ' = some r) : RetOk K F' H H' x r := by
  cases rv with
  | val d =>
    cases e
    exact h
  | tmp xs =>
    cases e
    obtain ⟨a, ws, h1, h2, h3, h4, h5, h6, h7⟩ := h
    exact ⟨a, ws, h1, h2, h3, h4, h6⟩
  | sl i =>
    have h : σ'[i]? = some (some x) := h
    simp only [retOf] at e
    split at e
    · rename_i xs hi
      cases e
      obtain ⟨a, ws, w1, w2, w3, w4, w5⟩ := s.env.own i xs .mine hi
      rw [h] at w1
      cases w1
      exact ⟨a, ws, rfl, w2, w3, w4, w5 (.inl rfl)⟩
    · rename_i d hi
      cases e
      obtain ⟨v, w1, w2⟩ := s.env.val i d hi
      rw [h] at w1
      cases w1
      exact w2
    · cases e
theorem body_post {xc : Nat → Value} {W : WX} {E : XK} {Q : VK} {r : R Fl} (hW : ∀ c σ H', E (xc c) none H' → W (xc c) none σ H') (q : ArgsOk K F H vs args) (h : PostC K xc F H vs args (endOf args r) Q E) :
    PostS ⟨K, H, W, xc⟩ (L2.start N vs) F H (frameOf fn args) r { nx := fun _ H' => Q .non H', rt := Q } := by
  match r, h with
  | .ok .nx ρ', h => exact fun σ' F' H' s => h F' H' _ (end_step q s) (end_fin q s) .non
  | .ok .brk ρ', h => exact h.elim
  | .ok .cnt ρ', h => exact h.elim
  | .ok (.ret v) ρ', h =>
    intro σ' F' H' x s rv
    unfold endOf at h
    dsimp only at h
    split at h
    · rename_i r' e
      exact h F' H' x (end_step q s) (end_fin q s) (end_ret s rv e)
    · exact h.elim
  | .exc c ρ', h => exact fun σ' F' H' s => hW c σ' H' (h F' H' (end_step q s) (end_fin q s))
  | .no, h => exact h.elim
end
/-! ### the defs of a law -/
structure Df where
  d : He.DefD
  N : List Str
  ps : List Str
def argsB (a : Arguments) (ps : List Str) : Bool := (a.posonlyargs.isEmpty && (a.vararg.isNone && (a.kwonlyargs.isEmpty && (a.kw_defaults.isEmpty && (a.kwarg.isNone && a.defaults.isEmpty))))) && (decide (a.args.map (·.arg) = ps) && decide (ps.length ≤ 8))
def scB (N P : List Str) (sc : Scope) : Bool := decide (sc.kind = .function) && (!sc.isCoroutine && (!sc.isGenerator && (decide N.Nodup && (decide (N.take P.length = P) && ((P.all fun x => decide (sc.names.lookup x = some .local) || decide (sc.names.lookup x = some .cell)) && (sc.names.all fun y => decide (y.2 ≠ .free)))))))
theorem scB_ok {N P : List Str} {sc : Scope} (h : scB N P sc = true) : FnScope N P sc := by
  obtain ⟨h1, h⟩ := ba2 h
  obtain ⟨h2, h⟩ := ba2 h
  obtain ⟨h3, h⟩ := ba2 h
  obtain ⟨h4, h⟩ := ba2 h
  obtain ⟨h5, h⟩ := ba2 h
  obtain ⟨h6, h7⟩ := ba2 h
  refine ⟨of_decide_eq_true h1, by simpa using h2, by simpa using h3, of_decide_eq_true h4, of_decide_eq_true h5, fun x hx => ?_, fun y hy => of_decide_eq_true (List.all_eq_true.mp h7 y hy)⟩
  rcases Bool.or_eq_true_iff.mp (List.all_eq_true.mp h6 x hx) with q | q
  · exact .inl (of_decide_eq_true q)
  · exact .inr (of_decide_eq_true q)
def BindD (d : Df) : Prop := ∀ (kV doc pm : Value) (an : Option Addr) (cdv ct : Value) (us : List Value), us.length = d.ps.length → bindArgs (PySem.W.fnOf d.d.name d.d.qual d.d.params d.d.body d.d.scope .none kV doc pm an cdv ct) ⟨us, []⟩ = pure (d.ps.zip us)
def AllB : List Df → Prop
  | [] => True
  | d :: r => BindD d ∧ AllB r
theorem AllB.at : ∀ {ds : List Df} {j : Nat} {d : Df}, AllB ds → ds[j]? = some d → BindD d
  | [], j, d, _, h => by simp at h
  | e :: r, 0, d, q, h => by
    simp at h
    subst h
    exact q.1
  | e :: r, j + 1, d, q, h => AllB.at (j := j) q.2 (by simpa using h)
def Df.ok (gs : List (Str × GK)) (d : Df) (fn : Fn) : Bool := d.d.dfl.isEmpty && (d.d.kwd.isEmpty && (scB d.N d.ps d.d.scope && (decide (fn.slots = d.N.length) && (decide (fn.pars = d.ps.length) && chkSs fn.body ⟨d.N, d.d.scope, none, gs⟩ d.d.body))))
def allOk (gs : List (Str × GK)) : List Df → List Fn → Bool
  | [], [] => true
  | d :: ds, f :: fs => d.ok gs f && allOk gs ds fs
  | _, _ => false
theorem allOk_at {gs : List (Str × GK)} : ∀ {ds : List Df} {fs : List Fn} {j : Nat} {d : Df}, allOk gs ds fs = true → ds[j]? = some d → ∃ f, fs[j]? = some f ∧ d.ok gs f = true
  | [], _, j, d, _, h => by simp at h
  | _ :: _, [], j, d, q, h => by cases q
  | e :: ds, f :: fs, 0, d, q, h => by
    simp at h
    subst h
    exact ⟨f, rfl, (ba2 q).1⟩
  | e :: ds, f :: fs, j + 1, d, q, h => by
    obtain ⟨g, g1, g2⟩ := allOk_at (j := j) (ba2 q).2 (by simpa using h)
    exact ⟨g, by simpa using g1, g2⟩
/-- what a name of the module stands for, before any context -/
def GkS (K : PySem.W.Frag) (mg : Str → Option Value) (dfs : List Df) (x : Str) : GK → Prop
  | .free => mg x = none
  | .int i => ∃ t, mg x = some (.int i t)
  | .nums is => ∃ a, mg x = some (.ref a) ∧ ∀ H, SqT K H a (is.map V.int)
  | .gcd => mg x = some (.builtin "math.gcd")
  | .fn k => ∃ d, dfs[k]? = some d ∧ mg x = some (.ref (He.fAd K d.d.at_))
theorem fund {K : PySem.W.Frag} {dfs : List Df} {fs : List Fn} {gs : List (Str × GK)} {fa : List He.Fa} (c : He.SaysD fa (dfs.map (·.d)) K) (hok : allOk gs dfs fs = true) {j : Nat} {d : Df} (hd : dfs[j]? = some d) :
    ∃ fd, FunD K d.d.name d.d.qual d.d.params d.d.body d.d.scope [] [] (He.fAd K d.d.at_) fd := by
  obtain ⟨f, hf, h⟩ := allOk_at hok hd
  obtain ⟨h1, h⟩ := ba2 h
  obtain ⟨h2, h⟩ := ba2 h
  obtain ⟨fd, F⟩ := c.def_ j (d := d.d) (by rw [List.getElem?_map, hd]; rfl)
  have e1 : d.d.dvs K = [] := by
    unfold He.DefD.dvs
    rw [List.isEmpty_iff.mp h1] <;> rfl
  have e2 : d.d.kws K = [] := by
    unfold He.DefD.kws
    rw [List.isEmpty_iff.mp h2] <;> rfl
  rw [e1, e2] at F
  exact ⟨fd, F⟩
theorem all_ok {P : Program} {w : World} {K : PySem.W.Frag} {mg : Str → Option Value} {base : Heap} {xc : Nat → Value} {dfs : List Df} {fs : List Fn} {gs : List (Str × GK)} {fa : List He.Fa}
    (c : He.SaysD fa (dfs.map (·.d)) K) (hok : allOk gs dfs fs = true) (hb : AllB dfs) (hg : ∀ x g, gs.lookup x = some g → GkS K mg dfs x g) :
    ∀ n j d, dfs[j]? = some d → ∀ fd, FunD K d.d.name d.d.qual d.d.params d.d.body d.d.scope [] [] (He.fAd K d.d.at_) fd → FnOk P w K mg base (L2.CX P w) (n + 1) (He.fAd K d.d.at_) fd d.ps (spC K xc (evC fs n j)) := by
  intro n
  induction n with
  | zero =>
    intro j d hd fd F
    obtain ⟨f, hf, h⟩ := allOk_at hok hd
    obtain ⟨h1, h⟩ := ba2 h
    obtain ⟨h2, h⟩ := ba2 h
    obtain ⟨h3, h⟩ := ba2 h
    refine F.ok (scB_ok h3) (fun vs H Q E q => ?_) fun cdv A outer s H vs Q E hr q => ?_
    · obtain ⟨F, args, _, _, _, q⟩ := q
      exact q.elim
    · obtain ⟨F, args, _, _, _, q⟩ := q
      exact q.elim
  | succ n ih =>
    intro j d hd fd F
    obtain ⟨f, hf, h⟩ := allOk_at hok hd
    obtain ⟨h1, h⟩ := ba2 h
    obtain ⟨h2, h⟩ := ba2 h
    obtain ⟨h3, h⟩ := ba2 h
    obtain ⟨h4, h⟩ := ba2 h
    obtain ⟨h5, h6⟩ := ba2 h
    have h4 := of_decide_eq_true h4
    have h5 := of_decide_eq_true h5
    have S := scB_ok h3
    have evu : ∀ args, evC fs (n + 1) j args = if args.length = f.pars then endOf args (evS (evC fs n) f.body (frameOf f args)) else .no := fun args => by
      simp only [evC, hf]
    have core : ∀ {vs : List V} {H : Hp} {Q : VK} {E : XK}, spC K xc (evC fs (n + 1) j) vs H Q E → ∃ F args, SubH F H ∧ ArgsOk K F H vs args ∧ (lentV vs args).Nodup ∧ args.length = f.pars ∧ PostC K xc F H vs args (endOf args (evS (evC fs n) f.body (frameOf f args))) Q E := fun {vs H Q E} q => by
      obtain ⟨F, args, q1, q2, q3, q4⟩ := q
      rw [evu] at q4
      split at q4
      · rename_i hl
        exact ⟨F, args, q1, q2, q3, hl, q4⟩
      · exact q4.elim
    refine F.ok S (fun vs H Q E q => ?_) fun cdv A outer s H vs Q E hr q => ?_
    · obtain ⟨F, args, _, q2, _, hl, _⟩ := core q
      rw [q2.len, hl, h5]
    · obtain ⟨F0, args, q1, q2, q3, hl, q4⟩ := core q
      have hlen : args.length ≤ d.N.length := by
        have := congrArg List.length S.pre
        rw [List.length_take] at this
        omega
      have hun := hr.un
      refine ⟨tS ⟨K, H, fun cls d _ H => E cls d H, xc⟩ (evS (evC fs n) f.body), sndSs f.body ⟨d.N, d.d.scope, none, gs⟩ _ _ _ _ ⟨⟨rfl, S.nd, rfl, rfl, rfl, rfl, ?_, L2.takes_of rfl rfl rfl rfl, fun x g hx => ?_⟩, L2.passes_of rfl⟩ h6, F0, frameOf f args, start_env q1 q2 q3 h4 hlen, body_post (fun _ _ _ z => z) q2 q4⟩
      · show (A.deeper _).units + 65 < cLine
        omega
      · have q := hg x g hx
        cases g with
        | free => exact q
        | int i => exact q
        | nums is => exact q
        | gcd => exact q
        | fn k =>
          obtain ⟨e, he, hm⟩ := q
          obtain ⟨fd2, F2⟩ := fund c hok he
          exact ⟨_, fd2, e.ps, n + 1, ih k e he fd2 F2, hr, hm, F2.kp, F2.bindsN fun kV doc pm an cdv ct us hl => hb.at he kV doc pm an cdv ct us hl⟩
end Wk

/-! The walk layer, part 18: from the evaluator to the law. -/
namespace Wk
open PySem PySem.Spec L2
def scriptA (ns : List Int) : List Arg := [.val (.list (ns.map .int))]
theorem law_sp {K : PySem.W.Frag} {xc : Nat → Value} {C : List Arg → RC} {H : Hp} {a : Addr} {ns : List Int} {E : XK} (hl : Lx K H a (ns.map V.int)) (hC : C (scriptA ns) = .ok (.val (.bool true)) []) : spC K xc C [.ref a] H (fun v _ => v = .bl true) E := by
  refine ⟨H, scriptA ns, fun _ _ h => h, ⟨.lst hl (dqAll_ofInts ns), trivial⟩, List.nodup_nil, ?_⟩
  rw [hC]
  intro F' H' v _ _ r
  cases r
  rfl
theorem walk_end {l : PySem.W.OpenLaw} {n k : Nat} {q : Program} {loose : List Str} {XP : (Str → Option Value) → Heap → Prop} {YP : World → Heap → Prop} {d : DefRec} {x : Str} {xc : Nat → Value} {C : List Arg → RC}
    (hn : l.most = some n) (hz : n ≤ sizeLine) (hdf : d.params.defaults = []) (hr : Room k callerA)
    (hC : ∀ ns : List Int, ns.length ≤ n → (∀ i ∈ ns, Builtin.Int.intBits i ≤ 1048576) → C (scriptA ns) = .ok (.val (.bool true)) [])
    (G : ∀ (w : World) (mg : Str → Option Value) (f : Addr) (h : Heap), YP w h → h.Ns mainGlobals mg → mg d.name = some (.ref f) → ∃ (K : PySem.W.Frag) (fd : FuncData), K.In h ∧ (∀ (s : Shared) (u : Value), BindsTo s fd ⟨[u], []⟩ [(x, u)]) ∧
      ∀ base : Heap, K.In base → base.Ns mainGlobals mg → FnOk l.prog w K mg base (L2.CX l.prog w) k f fd [x] (spC K xc C)) :
    PySem.W.WalkO q loose XP YP l.row.toRowW d [] (fun f vs => PySem.call f vs) := by
  refine Att.attach_callB hn hdf fun w _ s mg _ f _ _ _ _ a vs ns g Y _ _ _ hm ho hi hlen hbits hgens => ?_
  obtain ⟨K, fd, KX, hb, hF⟩ := G w mg f _ Y g.T.g hm
  refine law_call KX g.T.g g.T.b g.T.builtins g.T.nolimit hgens ho hi (Nat.le_trans hlen hz) hr hF hb (fun H _ hS => law_sp ?_ (hC ns hlen hbits)) fun H e s' z => ?_
  · rcases hS with hS | ⟨o, its, m, h1, h2, h3, h4, h5, h6⟩
    · exact .inl hS
    · have e := KX _ _ h1
      rw [ho] at e
      cases e
      cases h4
      exact .inr ⟨vs, _, h1, by simpa using h5, by simpa using h6⟩
  · obtain ⟨_, _, _, _, _, _, _, _, _, _, _, _, z⟩ := z
    exact z
/-! ### the head -/
def faOf : Str × GK → He.Fa
  | (x, .free) => .free x
  | (x, .int i) => .int x i
  | (x, .fn _) => .glo x
  | (x, .nums _) => .glo x
  | (_, .gcd) => .glo "law"
def exW (gs : List (Str × GK)) (K : PySem.W.Frag) : Bool := gs.all fun e => match e.2 with
  | .gcd => He.eqO (PySem.W.nsIn K mainGlobals e.1) (some (some (.builtin "math.gcd")))
  | .nums is => He.tupB K e.1 (is.map He.Dv.int)
  | _ => true
abbrev hookW (dfs : List Df) (gs : List (Str × GK)) : PySem.W.Hook := He.hookX 4 (gs.map faOf) (dfs.map (·.d)) [] [] (exW gs)
def obW (dfs : List Df) (gs : List (Str × GK)) (s : PySem.W.SharedT) : He.AlX := He.obsX 4 (gs.map faOf) (dfs.map (·.d)) [] [] (exW gs) (HandSHeadRun.getT s)
theorem obW_eq (dfs : List Df) (gs : List (Str × GK)) (s : PySem.W.SharedT) : obW dfs gs s = (hookW dfs gs).obs s.abs := He.obsX_eq (HandSHeadRun.getT_eq s)
def gsB (dfs : List Df) (gs : List (Str × GK)) : Bool := gs.all fun e => match e.2 with
  | .fn k => (match dfs[k]? with
    | some d => decide (d.d.at_ = (e.1, none))
    | none => false)
  | _ => true
theorem lookup_mem {α β : Type} [BEq α] [LawfulBEq α] {x : α} {y : β} : ∀ {l : List (α × β)}, l.lookup x = some y → (x, y) ∈ l
  | [], h => by simp at h
  | (a, b) :: r, h => by
    rw [List.lookup_cons] at h
    split at h
    · rename_i q
      cases h
      rw [eq_of_beq q]
      exact List.mem_cons_self ..
    · exact List.mem_cons_of_mem _ (lookup_mem h)
theorem gs_ok {K : PySem.W.Frag} {h : Heap} {mg : Str → Option Value} {dfs : List Df} {gs : List (Str × GK)} (X : K.In h) (G : h.Ns mainGlobals mg) (c : He.SaysD (gs.map faOf) (dfs.map (·.d)) K) (ex : exW gs K = true) (hb : gsB dfs gs = true) :
    ∀ x g, gs.lookup x = some g → GkS K mg dfs x g := fun x g hx => by
  have hm := lookup_mem hx
  have hf := c.facts (f := faOf (x, g)) (List.mem_map_of_mem hm)
  cases g with
  | free => exact He.free_ok X G hf
  | int i => exact He.int_ok X G hf
  | nums is =>
    have q := List.all_eq_true.mp ex _ hm
    refine ⟨He.ga K x, He.glo_ok X G hf, fun H => ?_⟩
    have r := He.tupB_ok q H
    rw [List.map_map] at r
    exact r
  | gcd =>
    have q := List.all_eq_true.mp ex _ hm
    exact PySem.W.mg_of X G (He.eqO_ok q)
  | fn k =>
    have q := List.all_eq_true.mp hb _ hm
    dsimp only at q
    split at q
    · rename_i d hd
      refine ⟨d, hd, ?_⟩
      rw [of_decide_eq_true q]
      exact He.glo_ok X G hf
    · cases q
theorem law_end {l : PySem.W.OpenLaw} {n m j : Nat} {q : Program} {loose : List Str} {XP : (Str → Option Value) → Heap → Prop} {d : DefRec} {dfs : List Df} {gs : List (Str × GK)} {fs : List Fn} {dj : Df} {x : Str}
    (hn : l.most = some n) (hz : n ≤ sizeLine) (hdf : d.params.defaults = []) (hr : Room (m + 1) callerA) (hc : allOk gs dfs fs = true) (hg : gsB dfs gs = true) (hb : AllB dfs) (hj : dfs[j]? = some dj) (hl : gs.lookup d.name = some (.fn j)) (hp : dj.ps = [x])
    (hC : ∀ ns : List Int, ns.length ≤ n → (∀ i ∈ ns, Builtin.Int.intBits i ≤ 1048576) → evC fs m j (scriptA ns) = .ok (.val (.bool true)) []) :
    PySem.W.WalkO q loose XP (hookW dfs gs).says l.row.toRowW d [] (fun f vs => PySem.call f vs) := by
  refine walk_end (xc := fun _ => .none) (C := evC fs m j) (x := x) hn hz hdf hr hC fun w mg f h Y G hm => ?_
  obtain ⟨K, KX, c⟩ := Y
  have hgs := gs_ok KX G c.t.d c.more hg
  obtain ⟨fd, F⟩ := fund c.t.d hc hj
  obtain ⟨d', hd', hm'⟩ := hgs _ _ hl
  rw [hj] at hd'
  cases hd'
  rw [hm] at hm'
  cases hm'
  refine ⟨K, fd, KX, fun s u => ?_, fun base _ _ => ?_⟩
  · have := F.bindsA (ps := dj.ps) (fun kV doc pm an cdv ct us hl => hb.at hj kV doc pm an cdv ct us hl) s [u] (by rw [hp]; rfl)
    rw [hp] at this
    exact this
  · rw [← hp]
    exact all_ok c.t.d hc hb hgs m j dj hj fd F
theorem evC_at {fs : List Fn} {n j : Nat} {args : List Arg} {fn : Fn} (h : fs[j]? = some fn) (hl : args.length = fn.pars) : evC fs (n + 1) j args = endOf args (evS (evC fs n) fn.body (frameOf fn args)) := by
  show (match fs[j]? with
    | some fn => if args.length = fn.pars then endOf args (evS (evC fs n) fn.body (frameOf fn args)) else .no
    | none => .no) = _
  rw [h]
  exact if_pos hl
end Wk

/-! The walk layer, part 19: how the evaluator is run on paper. -/
namespace Wk
open PySem
section
variable {α β : Type}
theorem rb_ok (a : α) (ρ : Fm) (f : α → Fm → R β) : (R.ok a ρ).bind f = f a ρ := id rfl
theorem R.bind_as {α β γ : Type} (r : R α) (k : α → Fm → R β) (l : β → Fm → R γ) : (r.bind k).bind l = r.bind fun a ρ => (k a ρ).bind l := by cases r <;> rfl
theorem rb_exc (c : Nat) (ρ : Fm) (f : α → Fm → R β) : (R.exc c ρ : R α).bind f = .exc c ρ := id rfl
theorem rb_no (f : α → Fm → R β) : (R.no : R α).bind f = .no := id rfl
theorem rb_ite (c : Prop) [Decidable c] (x y : R α) (f : α → Fm → R β) : (if c then x else y).bind f = if c then x.bind f else y.bind f := by
  split <;> rfl
theorem lf_some (a : α) (ρ : Fm) : lift (some a) ρ = .ok a ρ := id rfl
theorem lf_none (ρ : Fm) : lift (none : Option α) ρ = .no := id rfl
theorem ob_some (a : α) (f : α → Option β) : (some a).bind f = f a := id rfl
theorem om_some (a : α) (f : α → β) : (some a).map f = some (f a) := id rfl
theorem pk_val (d : D) (ρ : Fm) : peek (.val d) ρ = some d := id rfl
theorem pk_tmp (d : List D) (ρ : Fm) : peek (.tmp d) ρ = some (.list d) := id rfl
theorem fz_val (d : D) (ρ : Fm) : fzR (.val d) ρ = .ok d ρ := id rfl
theorem fz_tmp (d : List D) (ρ : Fm) : fzR (.tmp d) ρ = .ok (.list d) ρ := id rfl
theorem sr_val (i : Nat) (d : D) (ρ : Fm) : setR i (.val d) ρ = setV i d ρ := id rfl
theorem sr_tmp (i : Nat) (d : List D) (ρ : Fm) : setR i (.tmp d) ρ = if free? ρ[i]? = true then some (ρ.set i (.own d .mine)) else none := id rfl
theorem go_t (a : α) : guardO true a = some a := id rfl
theorem as_int (i : Int) : asInt (.int i) = some i := id rfl
theorem as_bool (i : Bool) : asBool (.bool i) = some i := id rfl
theorem fr_val (d : D) : free? (some (.val d)) = true := id rfl
theorem fr_no : free? (some .no) = true := id rfl
theorem fr_own (d : List D) : free? (some (.own d .mine)) = true := id rfl
theorem eo_nx (as : List Arg) (ρ : Fm) : endOf as (.ok .nx ρ) = .ok (.val .none) (finOf ρ 0 as) := id rfl
theorem eo_val (as : List Arg) (d : D) (ρ : Fm) : endOf as (.ok (.ret (.val d)) ρ) = .ok (.val d) (finOf ρ 0 as) := id rfl
theorem eo_tmp (as : List Arg) (d : List D) (ρ : Fm) : endOf as (.ok (.ret (.tmp d)) ρ) = .ok (.tmp d) (finOf ρ 0 as) := id rfl
theorem eo_ite (c : Prop) [Decidable c] (as : List Arg) (x y : R Fl) : endOf as (if c then x else y) = if c then endOf as x else endOf as y := by
  split <;> rfl
theorem fo_nil (ρ : Fm) (i : Nat) : finOf ρ i [] = [] := id rfl
theorem fo_val (ρ : Fm) (i : Nat) (d : D) (as : List Arg) : finOf ρ i (.val d :: as) = finOf ρ (i + 1) as := id rfl
theorem ac_ok (ρ : Fm) (as : List (Sum D Nat)) (v : RV) (fin : List (List D)) : afterCall ρ as (.ok v fin) = .ok v (giveB ρ as fin) := id rfl
theorem gb_nil (ρ : Fm) (f : List (List D)) : giveB ρ [] f = ρ := id rfl
theorem gb_val (ρ : Fm) (d : D) (r : List (Sum D Nat)) (f : List (List D)) : giveB ρ (.inl d :: r) f = giveB ρ r f := id rfl
theorem lo_nil (ρ : Fm) : lentOf ρ [] = [] := id rfl
theorem lo_val (ρ : Fm) (d : D) (r : List (Sum D Nat)) : lentOf ρ (.inl d :: r) = lentOf ρ r := id rfl
theorem ao_val (ρ : Fm) (d : D) : argOf ρ (.inl d) = some (.val d) := id rfl
theorem sl_val (d : D) : slOf (.val d) = .val d := id rfl
theorem sl_own (d : List D) (k : Kd) : slOf (.own d k) = .own d k := id rfl
/-- a call whose arguments are data -/
theorem ite_t (x y : α) : (if (true : Bool) = true then x else y) = x := id rfl
theorem ite_f (x y : α) : (if (false : Bool) = true then x else y) = y := id rfl
end
section
open L2
theorem bd_add (i j : Int) : binD .add (.int i) (.int j) = some (.val (.int (i + j))) := id rfl
theorem bd_sub (i j : Int) : binD .sub (.int i) (.int j) = some (.val (.int (i - j))) := id rfl
theorem bd_mul (i j : Int) : binD .mul (.int i) (.int j) = guardO (mulOk i j) (.val (.int (i * j))) := id rfl
theorem bd_fdiv (i j : Int) : binD .fdiv (.int i) (.int j) = guardO (divOk j) (.val (.int (i.fdiv j))) := id rfl
theorem bd_mod (i j : Int) : binD .mod (.int i) (.int j) = guardO (decide (j ≠ 0)) (.val (.int (i.fmod j))) := id rfl
theorem bd_pow (i j : Int) : binD .pow (.int i) (.int j) = guardO (powOk i j) (.val (.int (i ^ j.toNat))) := id rfl
theorem bd_shl (i j : Int) : binD .shl (.int i) (.int j) = guardO (powOk i j) (.val (.int (i * 2 ^ j.toNat))) := id rfl
theorem bd_shr (i j : Int) : binD .shr (.int i) (.int j) = guardO (decide (0 ≤ j)) (.val (.int (i / 2 ^ j.toNat))) := id rfl
theorem bd_addl (x y : List D) : binD .add (.list x) (.list y) = guardO (fits (x.length + y.length)) (.tmp (x ++ y)) := id rfl
theorem bd_addt (x y : List D) : binD .add (.tuple x) (.tuple y) = guardO (fits (x.length + y.length)) (.val (.tuple (x ++ y))) := id rfl
theorem cd_eq (a b : D) : cmpD .eq a b = guardO (SeqAt.shaped a && SeqAt.shaped b) (PyData.eqv a b) := id rfl
theorem cd_ne (a b : D) : cmpD .ne a b = guardO (SeqAt.shaped a && SeqAt.shaped b) (!PyData.eqv a b) := id rfl
theorem cd_lt (i j : Int) : cmpD .lt (.int i) (.int j) = some (decide (i < j)) := id rfl
theorem cd_le (i j : Int) : cmpD .le (.int i) (.int j) = some (decide (i ≤ j)) := id rfl
theorem cd_gt (i j : Int) : cmpD .gt (.int i) (.int j) = some (decide (j < i)) := id rfl
theorem cd_ge (i j : Int) : cmpD .ge (.int i) (.int j) = some (decide (j ≤ i)) := id rfl
theorem cd_is_none : cmpD .isN .none .none = some true := id rfl
theorem cd_isn_none : cmpD .isnN .none .none = some false := id rfl
theorem id_none_int : isiD .none .int = some false := id rfl
theorem id_none_bool : isiD .none .bool = some false := id rfl
theorem id_none_str : isiD .none .str = some false := id rfl
theorem id_none_tuple : isiD .none .tuple = some false := id rfl
theorem id_none_list : isiD .none .list = some false := id rfl
theorem cd_is_bb (i j : Bool) : cmpD .isN (.bool i) (.bool j) = some (decide (i = j)) := id rfl
theorem cd_isn_bb (i j : Bool) : cmpD .isnN (.bool i) (.bool j) = some (!decide (i = j)) := id rfl
theorem cdB_ne (i j : Bool) : cmpD .ne (.bool i) (.bool j) = some (!(i == j)) := by
  cases i <;> cases j <;> rfl
theorem cd_is_bool (b : Bool) : cmpD .isN (.bool b) .none = some false := id rfl
theorem cd_isn_bool (b : Bool) : cmpD .isnN (.bool b) .none = some true := id rfl
theorem id_bool_int (b : Bool) : isiD (.bool b) .int = some true := id rfl
theorem id_bool_bool (b : Bool) : isiD (.bool b) .bool = some true := id rfl
theorem id_bool_str (b : Bool) : isiD (.bool b) .str = some false := id rfl
theorem id_bool_tuple (b : Bool) : isiD (.bool b) .tuple = some false := id rfl
theorem id_bool_list (b : Bool) : isiD (.bool b) .list = some false := id rfl
theorem cd_is_int (b : Int) : cmpD .isN (.int b) .none = some false := id rfl
theorem cd_isn_int (b : Int) : cmpD .isnN (.int b) .none = some true := id rfl
theorem id_int_int (b : Int) : isiD (.int b) .int = some true := id rfl
theorem id_int_bool (b : Int) : isiD (.int b) .bool = some false := id rfl
theorem id_int_str (b : Int) : isiD (.int b) .str = some false := id rfl
theorem id_int_tuple (b : Int) : isiD (.int b) .tuple = some false := id rfl
theorem id_int_list (b : Int) : isiD (.int b) .list = some false := id rfl
theorem cd_is_str (b : Str) : cmpD .isN (.str b) .none = some false := id rfl
theorem cd_isn_str (b : Str) : cmpD .isnN (.str b) .none = some true := id rfl
theorem id_str_int (b : Str) : isiD (.str b) .int = some false := id rfl
theorem id_str_bool (b : Str) : isiD (.str b) .bool = some false := id rfl
theorem id_str_str (b : Str) : isiD (.str b) .str = some true := id rfl
theorem id_str_tuple (b : Str) : isiD (.str b) .tuple = some false := id rfl
theorem id_str_list (b : Str) : isiD (.str b) .list = some false := id rfl
theorem cd_is_list (b : List D) : cmpD .isN (.list b) .none = some false := id rfl
theorem cd_isn_list (b : List D) : cmpD .isnN (.list b) .none = some true := id rfl
theorem id_list_int (b : List D) : isiD (.list b) .int = some false := id rfl
theorem id_list_bool (b : List D) : isiD (.list b) .bool = some false := id rfl
theorem id_list_str (b : List D) : isiD (.list b) .str = some false := id rfl
theorem id_list_tuple (b : List D) : isiD (.list b) .tuple = some false := id rfl
theorem id_list_list (b : List D) : isiD (.list b) .list = some true := id rfl
theorem cd_is_tuple (b : List D) : cmpD .isN (.tuple b) .none = some false := id rfl
theorem cd_isn_tuple (b : List D) : cmpD .isnN (.tuple b) .none = some true := id rfl
theorem id_tuple_int (b : List D) : isiD (.tuple b) .int = some false := id rfl
theorem id_tuple_bool (b : List D) : isiD (.tuple b) .bool = some false := id rfl
theorem id_tuple_str (b : List D) : isiD (.tuple b) .str = some false := id rfl
theorem id_tuple_tuple (b : List D) : isiD (.tuple b) .tuple = some true := id rfl
theorem id_tuple_list (b : List D) : isiD (.tuple b) .list = some false := id rfl
theorem td_none : truthD .none = some false := id rfl
theorem td_bool (b : Bool) : truthD (.bool b) = some b := id rfl
theorem td_int (i : Int) : truthD (.int i) = some (i != 0) := id rfl
theorem td_list (x : List D) : truthD (.list x) = some (!x.isEmpty) := id rfl
theorem td_tuple (x : List D) : truthD (.tuple x) = some (!x.isEmpty) := id rfl
theorem ix_list (x : List D) (i : Int) : idxD (.list x) (.int i) = atI x i := id rfl
theorem ix_tuple (x : List D) (i : Int) : idxD (.tuple x) (.int i) = atI x i := id rfl
theorem at_0 (x : D) (l : List D) : atI (x :: l) 0 = some x := by simp [atI, ixN]
theorem at_1 (x y : D) (l : List D) : atI (x :: y :: l) 1 = some y := by
  have h : (1 : Int) < l.length + 1 + 1 := by omega
  simp [atI, ixN, h]
theorem at_2 (x y z : D) (l : List D) : atI (x :: y :: z :: l) 2 = some z := by
  have h : (2 : Int) < l.length + 1 + 1 + 1 := by omega
  simp [atI, ixN, h]
theorem f1_lenl (x : List D) : b1D .len (.list x) = some (.val (.int x.length)) := id rfl
theorem f1_lent (x : List D) : b1D .len (.tuple x) = some (.val (.int x.length)) := id rfl
theorem f1_int (i : Int) : b1D .int (.int i) = some (.val (.int i)) := id rfl
theorem f1_intb (b : Bool) : b1D .int (.bool b) = some (.val (.int (if b then 1 else 0))) := id rfl
theorem f1_abs (i : Int) : b1D .abs (.int i) = some (.val (.int (if i < 0 then -i else i))) := id rfl
theorem f1_listl (x : List D) : b1D .list (.list x) = some (.tmp x) := id rfl
theorem f1_listt (x : List D) : b1D .list (.tuple x) = some (.tmp x) := id rfl
theorem f1_tupl (x : List D) : b1D .tuple (.list x) = some (.val (.tuple x)) := id rfl
theorem f1_tupt (x : List D) : b1D .tuple (.tuple x) = some (.val (.tuple x)) := id rfl
theorem f2_max (i j : Int) : b2D .max (.int i) (.int j) = some (.int (if j > i then j else i)) := id rfl
theorem f2_min (i j : Int) : b2D .min (.int i) (.int j) = some (.int (if j < i then j else i)) := id rfl
theorem f2_gcd (i j : Int) : b2D .gcd (.int i) (.int j) = some (.int ((Nat.gcd i.natAbs j.natAbs : Nat) : Int)) := id rfl
end
theorem cdI_eq (i j : Int) : cmpD .eq (.int i) (.int j) = some (decide (i = j)) := by
  simp [cmpD, guardO, SeqAt.shaped, PyData.eqv, PyData.canLay0, PyData.depth]
  try (by_cases h : i = j <;> simp [h])
theorem cdI_ne (i j : Int) : cmpD .ne (.int i) (.int j) = some (!decide (i = j)) := by
  simp [cmpD, guardO, SeqAt.shaped, PyData.eqv, PyData.canLay0, PyData.depth]
  try (by_cases h : i = j <;> simp [h])
theorem cdB_eq (i j : Bool) : cmpD .eq (.bool i) (.bool j) = some (i == j) := by
  cases i <;> cases j <;> rfl
theorem cd_nil : cmpD .eq (.list []) (.list []) = some true := id rfl
theorem cdn_nil : cmpD .ne (.list []) (.list []) = some false := id rfl
/-- turns of a loop, by a promise -/
theorem forL_inv {f : D → Fm → R Fl} (P : Nat → Fm → Prop) (ds : List D) (ρ0 : Fm) (h0 : P 0 ρ0) (hs : ∀ i ρ (hi : i < ds.length), P i ρ → ∃ ρ', f ds[i] ρ = .ok .nx ρ' ∧ P (i + 1) ρ') : ∃ ρ', forL f ds ρ0 = .ok .nx ρ' ∧ P ds.length ρ' := by
  induction ds generalizing ρ0 P with
  | nil => exact ⟨ρ0, rfl, h0⟩
  | cons d ds ih =>
    obtain ⟨ρ1, e1, p1⟩ := hs 0 ρ0 (by simp) h0
    obtain ⟨ρ2, e2, p2⟩ := ih (fun i => P (i + 1)) ρ1 p1 fun i ρ hi p => by
      obtain ⟨ρ', e, q⟩ := hs (i + 1) ρ (by simp; omega) p
      exact ⟨ρ', by simpa using e, q⟩
    refine ⟨ρ2, ?_, by simpa using p2⟩
    show (f d ρ0).bind _ = _
    have e1 : f d ρ0 = .ok .nx ρ1 := e1
    rw [e1]
    exact e2
/-- a comprehension's turns, each of which gives the frame back -/
theorem compL_map {f : D → Fm → R (Option D)} {g : D → Option D} {ρ : Fm} : ∀ (ds : List D), (∀ d ∈ ds, f d ρ = .ok (g d) ρ) → compL f ds ρ = .ok (ds.filterMap g) ρ
  | [], _ => rfl
  | d :: ds, h => by
    show (f d ρ).bind _ = _
    rw [h d (List.mem_cons_self ..), rb_ok]
    rw [compL_map ds fun x hx => h x (List.mem_cons_of_mem _ hx), rb_ok]
    cases q : g d with
    | none => simp [List.filterMap_cons, q]
    | some x => simp [List.filterMap_cons, q]
theorem zipD_self_mem : ∀ {xs : List D} {d : D}, d ∈ zipD xs xs → ∃ x ∈ xs, d = .tuple [x, x]
  | [], d, h => by simp [zipD] at h
  | x :: xs, d, h => by
    simp only [zipD, List.mem_cons] at h
    rcases h with h | h
    · exact ⟨x, List.mem_cons_self .., h⟩
    · obtain ⟨y, h1, h2⟩ := zipD_self_mem h
      exact ⟨y, List.mem_cons_of_mem _ h1, h2⟩
theorem zipD_self_len (xs : List D) : (zipD xs xs).length = xs.length := by
  induction xs with
  | nil => rfl
  | cons x xs ih => simp [zipD, ih]
/-- a comprehension whose turns give the frame back -/
theorem compAll_map {own : List Nat} {f : D → Fm → R (Option D)} {g : D → Option D} {ds : List D} {ρ : Fm} (hf : ds.length ≤ 16777216) (h : ∀ d ∈ ds, backR ρ own (f d (wipeF ρ own)) = .ok (g d) ρ) : compAll own f ds [] ρ = .ok (.tmp (ds.filterMap g)) ρ := by
  unfold compAll
  rw [if_pos (show fits ds.length = true from decide_eq_true hf), compL_map (g := g) ds h]
  rfl
theorem compAll_lk {own lk : List Nat} {f : D → Fm → R (Option D)} {g : D → Option D} {ds : List D} {ρ : Fm} (hf : ds.length ≤ 16777216) (h : ∀ d ∈ ds, backR ρ own (f d (wipeF ρ own)) = .ok (g d) ρ) : compAll own f ds lk ρ = .ok (.tmp (ds.filterMap g)) (unlock ρ lk) := by
  unfold compAll
  rw [if_pos (show fits ds.length = true from decide_eq_true hf), compL_map (g := g) ds h]
theorem rangeL_mem {n : Nat} {d : D} (h : d ∈ rangeL 0 1 n) : ∃ i : Nat, i < n ∧ d = .int (i : Int) := by
  unfold rangeL at h
  obtain ⟨i, h1, h2⟩ := List.mem_map.mp h
  refine ⟨i, by simpa using h1, ?_⟩
  rw [← h2]
  congr 1
  omega
theorem rangeL_length (n : Nat) : (rangeL 0 1 n).length = n := by simp [rangeL]
theorem rangeL_get {n i : Nat} (h : i < (rangeL 0 1 n).length) : (rangeL 0 1 n)[i] = .int (i : Int) := by
  simp [rangeL]
def ofI (f : Int → D) : D → Option D
  | .int x => some (f x)
  | _ => none
theorem rangeL_map (f : Int → D) (n : Nat) : (rangeL 0 1 n).filterMap (ofI f) = (List.range n).map fun (i : Nat) => f (i : Int) := by
  unfold rangeL
  induction List.range n with
  | nil => rfl
  | cons a r ih =>
    simp only [List.map_cons, List.filterMap_cons, ofI, ih]
    congr 2
    omega
end Wk

/-! The walk layer, part 20: the evaluator with named rests, so that nothing is run before its turn. -/
namespace Wk
open PySem
def pk1 {α : Type} (f : D → Option α) (a : Option D) : Option α := a.bind f
def pk2 {α : Type} (f : D → D → Option α) (a b : Option D) : Option α := a.bind fun x => b.bind fun y => f x y
theorem pk1_s {α : Type} (f : D → Option α) (x : D) : pk1 f (some x) = f x := id rfl
theorem pk2_s {α : Type} (f : D → D → Option α) (x y : D) : pk2 f (some x) (some y) = f x y := id rfl
def vB (o : Option Bool) : Option RV := o.map fun t => .val (.bool t)
theorem vB_s (b : Bool) : vB (some b) = some (.val (.bool b)) := id rfl
def vD (o : Option D) : Option RV := o.map .val
theorem vD_s (b : D) : vD (some b) = some (.val b) := id rfl
def cmpV (o : COp) (x y : D) : Option RV := vB (cmpD o x y)
theorem cmpV_e (o : COp) (x y : D) : cmpV o x y = vB (cmpD o x y) := id rfl
def idxV (x y : D) : Option RV := vD (idxD x y)
theorem idxV_e (x y : D) : idxV x y = vD (idxD x y) := id rfl
def b2V (f : B2) (x y : D) : Option RV := vD (b2D f x y)
theorem b2V_e (f : B2) (x y : D) : b2V f x y = vD (b2D f x y) := id rfl
def isiV (t : Ty) (x : D) : Option RV := vB (isiD x t)
theorem isiV_e (t : Ty) (x : D) : isiV t x = vB (isiD x t) := id rfl
def isiT (t : Ty) (x : D) : Option Bool := isiD x t
theorem isiT_e (t : Ty) (x : D) : isiT t x = isiD x t := id rfl
def negV (x : D) : Option RV := (asInt x).map fun i => .val (.int (-i))
theorem negV_e (i : Int) : negV (.int i) = some (.val (.int (-i))) := id rfl
def notV (x : D) : Option RV := (asBool x).map fun i => .val (.bool (!i))
theorem notV_e (i : Bool) : notV (.bool i) = some (.val (.bool (!i))) := id rfl
section
variable (C : Nat → List Arg → RC)
/-! expressions -/
def rdV (s : Option Sl) (i : Nat) (ρ : Fm) : R RV := match s with
  | some (.val d) => .ok (.val d) ρ
  | some (.own _ _) => .ok (.sl i) ρ
  | _ => .no
theorem n_lit (d : D) (ρ : Fm) : evE C (.lit d) ρ = .ok (.val d) ρ := id rfl
theorem n_gint (x : Str) (i : Int) (ρ : Fm) : evE C (.gint x i) ρ = .ok (.val (.int i)) ρ := id rfl
theorem n_gtup (x : Str) (is : List Int) (ρ : Fm) : evE C (.gtup x is) ρ = .ok (.val (.tuple (is.map .int))) ρ := id rfl
theorem n_var (i : Nat) (ρ : Fm) : evE C (.var i) ρ = rdV ρ[i]? i ρ := id rfl
theorem rdV_val (d : D) (i : Nat) (ρ : Fm) : rdV (some (.val d)) i ρ = .ok (.val d) ρ := id rfl
theorem rdV_own (d : List D) (k : Kd) (i : Nat) (ρ : Fm) : rdV (some (.own d k)) i ρ = .ok (.sl i) ρ := id rfl
def k_fin1 (f : D → Option RV) (r : R RV) : R RV := r.bind fun r1 ρ1 => lift (pk1 f (peek r1 ρ1)) ρ1
theorem k_fin1_ok (f : D → Option RV) (r : RV) (ρ : Fm) : k_fin1 f (.ok r ρ) = lift (pk1 f (peek r ρ)) ρ := id rfl
def k_two (f : D → D → Option RV) (b : IE) (r : R RV) : R RV := r.bind fun r1 ρ1 => (evE C b ρ1).bind fun r2 ρ2 => lift (pk2 f (peek r1 ρ2) (peek r2 ρ2)) ρ2
def k_fin2 (f : D → D → Option RV) (r1 : RV) (r : R RV) : R RV := r.bind fun r2 ρ2 => lift (pk2 f (peek r1 ρ2) (peek r2 ρ2)) ρ2
theorem k_two_ok (f : D → D → Option RV) (b : IE) (r : RV) (ρ : Fm) : k_two C f b (.ok r ρ) = k_fin2 f r (evE C b ρ) := id rfl
theorem k_fin2_ok (f : D → D → Option RV) (r1 r : RV) (ρ : Fm) : k_fin2 f r1 (.ok r ρ) = lift (pk2 f (peek r1 ρ) (peek r ρ)) ρ := id rfl
theorem n_bin (o : BOp) (a b : IE) (ρ : Fm) : evE C (.bin o a b) ρ = k_two C (binD o) b (evE C a ρ) := id rfl
theorem n_cmp (o : COp) (a b : IE) (ρ : Fm) : evE C (.cmp o a b) ρ = k_two C (cmpV o) b (evE C a ρ) := id rfl
theorem n_idx (a b : IE) (ρ : Fm) : evE C (.idx a b) ρ = k_two C idxV b (evE C a ρ) := id rfl
theorem n_b2 (f : B2) (a b : IE) (ρ : Fm) : evE C (.b2 f a b) ρ = k_two C (b2V f) b (evE C a ρ) := id rfl
theorem n_neg (a : IE) (ρ : Fm) : evE C (.neg a) ρ = k_fin1 negV (evE C a ρ) := id rfl
theorem n_not (a : IE) (ρ : Fm) : evE C (.not a) ρ = k_fin1 notV (evE C a ρ) := id rfl
theorem n_isi (a : IE) (t : Ty) (ρ : Fm) : evE C (.isi a t) ρ = k_fin1 (isiV t) (evE C a ρ) := id rfl
theorem n_b1 (f : B1) (a : IE) (ρ : Fm) : evE C (.b1 f a) ρ = k_fin1 (b1D f) (evE C a ρ) := id rfl
def k_ite (a b : IE) (r : R Bool) : R RV := r.bind fun t ρ1 => if t = true then evE C a ρ1 else evE C b ρ1
theorem n_ite (c a b : IE) (ρ : Fm) : evE C (.ite c a b) ρ = k_ite C a b (evT C c ρ) := id rfl
theorem k_ite_t (a b : IE) (ρ : Fm) : k_ite C a b (.ok true ρ) = evE C a ρ := id rfl
theorem k_ite_f (a b : IE) (ρ : Fm) : k_ite C a b (.ok false ρ) = evE C b ρ := id rfl
def k_mid (o p : COp) (c : IE) (r1 : RV) (r2 : RV) (r : R Bool) : R RV := r.bind fun t ρ3 => if t = true then k_fin2 (cmpV p) r2 (evE C c ρ3) else .ok (.val (.bool false)) ρ3
def k_c2b (o p : COp) (c : IE) (r1 : RV) (r : R RV) : R RV := r.bind fun r2 ρ2 => k_mid C o p c r1 r2 (lift (pk2 (cmpD o) (peek r1 ρ2) (peek r2 ρ2)) ρ2)
def k_c2a (o p : COp) (b c : IE) (r : R RV) : R RV := r.bind fun r1 ρ1 => k_c2b C o p c r1 (evE C b ρ1)
theorem n_cmp2 (o p : COp) (a b c : IE) (ρ : Fm) : evE C (.cmp2 o p a b c) ρ = k_c2a C o p b c (evE C a ρ) := id rfl
theorem k_c2a_ok (o p : COp) (b c : IE) (r : RV) (ρ : Fm) : k_c2a C o p b c (.ok r ρ) = k_c2b C o p c r (evE C b ρ) := id rfl
theorem k_c2b_ok (o p : COp) (c : IE) (r1 r : RV) (ρ : Fm) : k_c2b C o p c r1 (.ok r ρ) = k_mid C o p c r1 r (lift (pk2 (cmpD o) (peek r1 ρ) (peek r ρ)) ρ) := id rfl
theorem k_mid_t (o p : COp) (c : IE) (r1 r2 : RV) (ρ : Fm) : k_mid C o p c r1 r2 (.ok true ρ) = k_fin2 (cmpV p) r2 (evE C c ρ) := id rfl
theorem k_mid_f (o p : COp) (c : IE) (r1 r2 : RV) (ρ : Fm) : k_mid C o p c r1 r2 (.ok false ρ) = .ok (.val (.bool false)) ρ := id rfl
/-! slices -/
def slV (i : Int) (x : D) : Option RV := slcD (some i) none x
def shV (i : Int) (x : D) : Option RV := slcD none (some i) x
def scV (i j : Int) (x : D) : Option RV := slcD (some i) (some j) x
def k_sl (h : Bool) (r1 : RV) (r : R RV) : R RV := r.bind fun r2 ρ2 => (lift (pk1 asInt (peek r2 ρ2)) ρ2).bind fun i _ => lift (pk1 (if h = true then shV i else slV i) (peek r1 ρ2)) ρ2
theorem k_sl_lo (r1 : RV) (i : Int) (ρ : Fm) : k_sl false r1 (.ok (.val (.int i)) ρ) = lift (pk1 (slV i) (peek r1 ρ)) ρ := id rfl
theorem k_sl_hi (r1 : RV) (i : Int) (ρ : Fm) : k_sl true r1 (.ok (.val (.int i)) ρ) = lift (pk1 (shV i) (peek r1 ρ)) ρ := id rfl
def k_sla (h : Bool) (b : IE) (r : R RV) : R RV := r.bind fun r1 ρ1 => k_sl h r1 (evE C b ρ1)
theorem k_sla_ok (h : Bool) (b : IE) (r : RV) (ρ : Fm) : k_sla C h b (.ok r ρ) = k_sl h r (evE C b ρ) := id rfl
theorem n_sset (a : IE) (ρ : Fm) : evE C (.sset a) ρ = k_fin1 ssetD (evE C a ρ) := id rfl
theorem ss_list {xs : List D} {ns : List Int} (h : intsD xs = some ns) (hl : ns.length < 64) : ssetD (.list xs) = some (.tmp ((ssetI ns).map .int)) := by
  show (intsD xs).bind (fun ns => guardO (decide (ns.length < 64)) (RV.tmp ((ssetI ns).map PyData.int))) = _
  rw [h]
  simp only [Option.bind_some, guardO, decide_eq_true hl, if_true]
theorem n_rvs (a : IE) (ρ : Fm) : evE C (.rvs a) ρ = k_fin1 revD (evE C a ρ) := id rfl
theorem rv_list (xs : List D) : revD (.list xs) = some (.tmp xs.reverse) := id rfl
theorem rv_tup (xs : List D) : revD (.tuple xs) = some (.val (.tuple xs.reverse)) := id rfl
theorem n_slo (a b : IE) (ρ : Fm) : evE C (.slo a b) ρ = k_sla C false b (evE C a ρ) := id rfl
theorem n_shi (a b : IE) (ρ : Fm) : evE C (.shi a b) ρ = k_sla C true b (evE C a ρ) := id rfl
def k_sc3 (r1 : RV) (i : Int) (r : R RV) : R RV := r.bind fun r3 ρ3 => (lift (pk1 asInt (peek r3 ρ3)) ρ3).bind fun j _ => lift (pk1 (scV i j) (peek r1 ρ3)) ρ3
theorem k_sc3_ok (r1 : RV) (i j : Int) (ρ : Fm) : k_sc3 r1 i (.ok (.val (.int j)) ρ) = lift (pk1 (scV i j) (peek r1 ρ)) ρ := id rfl
def k_sc2 (c : IE) (r1 : RV) (r : R RV) : R RV := r.bind fun r2 ρ2 => (lift (pk1 asInt (peek r2 ρ2)) ρ2).bind fun i _ => k_sc3 r1 i (evE C c ρ2)
theorem k_sc2_ok (c : IE) (r1 : RV) (i : Int) (ρ : Fm) : k_sc2 C c r1 (.ok (.val (.int i)) ρ) = k_sc3 r1 i (evE C c ρ) := id rfl
def k_sc1 (b c : IE) (r : R RV) : R RV := r.bind fun r1 ρ1 => k_sc2 C c r1 (evE C b ρ1)
theorem k_sc1_ok (b c : IE) (r : RV) (ρ : Fm) : k_sc1 C b c (.ok r ρ) = k_sc2 C c r (evE C b ρ) := id rfl
theorem n_slc (a b c : IE) (ρ : Fm) : evE C (.slc a b c) ρ = k_sc1 C b c (evE C a ρ) := id rfl
/-! displays, arguments, calls -/
def mkT (ds : List D) (ρ : Fm) : R RV := lift (guardO (fits ds.length) (.val (.tuple ds))) ρ
def mkL (ds : List D) (ρ : Fm) : R RV := lift (guardO (fits ds.length) (.tmp ds)) ρ
theorem mkT_ok {ds : List D} (h : ds.length ≤ 16777216) (ρ : Fm) : mkT ds ρ = .ok (.val (.tuple ds)) ρ := by
  unfold mkT guardO
  rw [if_pos (show fits ds.length = true from decide_eq_true h)] <;> rfl
theorem mkL_ok {ds : List D} (h : ds.length ≤ 16777216) (ρ : Fm) : mkL ds ρ = .ok (.tmp ds) ρ := by
  unfold mkL guardO
  rw [if_pos (show fits ds.length = true from decide_eq_true h)] <;> rfl
def k_tup (r : R (List D)) : R RV := r.bind mkT
def k_lst (r : R (List D)) : R RV := r.bind mkL
theorem n_tup (as : IEs) (ρ : Fm) : evE C (.tup as) ρ = k_tup (evD C as ρ) := id rfl
theorem n_lst (as : IEs) (ρ : Fm) : evE C (.lst as) ρ = k_lst (evD C as ρ) := id rfl
theorem k_tup_ok (ds : List D) (ρ : Fm) : k_tup (.ok ds ρ) = mkT ds ρ := id rfl
theorem k_lst_ok (ds : List D) (ρ : Fm) : k_lst (.ok ds ρ) = mkL ds ρ := id rfl
theorem n_dnil (ρ : Fm) : evD C .nil ρ = .ok [] ρ := id rfl
def k_d3 (x : D) (r : R (List D)) : R (List D) := r.bind fun xs ρ3 => .ok (x :: xs) ρ3
def k_d2 (as : IEs) (r : R D) : R (List D) := r.bind fun x ρ2 => k_d3 x (evD C as ρ2)
def k_d1 (as : IEs) (r : R RV) : R (List D) := r.bind fun r ρ1 => k_d2 C as (fzR r ρ1)
theorem n_dcons (a : IE) (as : IEs) (ρ : Fm) : evD C (.cons a as) ρ = k_d1 C as (evE C a ρ) := by
  rw [evD]
  rfl
theorem k_d1_ok (as : IEs) (r : RV) (ρ : Fm) : k_d1 C as (.ok r ρ) = k_d2 C as (fzR r ρ) := id rfl
theorem k_d2_ok (as : IEs) (x : D) (ρ : Fm) : k_d2 C as (.ok x ρ) = k_d3 x (evD C as ρ) := id rfl
theorem k_d3_ok (x : D) (xs : List D) (ρ : Fm) : k_d3 x (.ok xs ρ) = .ok (x :: xs) ρ := id rfl
theorem n_anil (ρ : Fm) : evA C .nil ρ = .ok [] ρ := id rfl
def k_a3 (x : Sum D Nat) (r : R (List (Sum D Nat))) : R (List (Sum D Nat)) := r.bind fun xs ρ3 => .ok (x :: xs) ρ3
def k_a1 (as : IEs) (r : R RV) : R (List (Sum D Nat)) := r.bind fun r ρ1 => match r with
  | .sl i => k_a3 (.inr i) (evA C as ρ1)
  | .val d => k_a3 (.inl d) (evA C as ρ1)
  | .tmp xs => k_a3 (.inl (.list xs)) (evA C as ρ1)
theorem n_acons (a : IE) (as : IEs) (ρ : Fm) : evA C (.cons a as) ρ = k_a1 C as (evE C a ρ) := by
  rw [evA]
  unfold k_a1
  cases evE C a ρ with
  | ok r ρ1 => cases r <;> rfl
  | exc c ρ1 => rfl
  | no => rfl
theorem k_a1_val (as : IEs) (d : D) (ρ : Fm) : k_a1 C as (.ok (.val d) ρ) = k_a3 (.inl d) (evA C as ρ) := id rfl
theorem k_a1_tmp (as : IEs) (d : List D) (ρ : Fm) : k_a1 C as (.ok (.tmp d) ρ) = k_a3 (.inl (.list d)) (evA C as ρ) := id rfl
theorem k_a1_sl (as : IEs) (i : Nat) (ρ : Fm) : k_a1 C as (.ok (.sl i) ρ) = k_a3 (.inr i) (evA C as ρ) := id rfl
theorem k_a3_ok (x : Sum D Nat) (xs : List (Sum D Nat)) (ρ : Fm) : k_a3 x (.ok xs ρ) = .ok (x :: xs) ρ := id rfl
def k_call (f : Nat) (r : R (List (Sum D Nat))) : R RV := r.bind fun xs ρ1 => doCall C f xs ρ1
theorem n_call (f : Nat) (as : IEs) (ρ : Fm) : evE C (.call f as) ρ = k_call C f (evA C as ρ) := id rfl
theorem k_call_ok (f : Nat) (xs : List (Sum D Nat)) (ρ : Fm) : k_call C f (.ok xs ρ) = doCall C f xs ρ := id rfl
/-- the arguments and what is lent, in one look -/
def callD (f : Nat) (xs : List (Sum D Nat)) (ρ : Fm) (as : Option (List Arg)) (b : Bool) : R RV := match as, b with
  | some args, true => afterCall ρ xs (C f args)
  | _, _ => .no
def ndB (l : List Nat) : Bool := decide l.Nodup
theorem n_do (f : Nat) (xs : List (Sum D Nat)) (ρ : Fm) : doCall C f xs ρ = callD C f xs ρ (argsOf ρ xs) (ndB (lentOf ρ xs)) := by
  unfold doCall callD ndB
  cases argsOf ρ xs with
  | none => rfl
  | some args => by_cases h : (lentOf ρ xs).Nodup <;> simp [h]
theorem callD_ok (f : Nat) (xs : List (Sum D Nat)) (ρ : Fm) (args : List Arg) : callD C f xs ρ (some args) true = afterCall ρ xs (C f args) := id rfl
def aoC (a : Option Arg) (r : Option (List Arg)) : Option (List Arg) := a.bind fun x => r.map (x :: ·)
theorem ags_nil (ρ : Fm) : argsOf ρ [] = some [] := id rfl
theorem ags_cons (ρ : Fm) (a : Sum D Nat) (r : List (Sum D Nat)) : argsOf ρ (a :: r) = aoC (argOf ρ a) (argsOf ρ r) := id rfl
theorem aoC_s (a : Arg) (r : List Arg) : aoC (some a) (some r) = some (a :: r) := id rfl
def aoS (s : Option Sl) : Option Arg := match s with
  | some (.val d) => some (.val d)
  | some (.own xs k) => some (.own xs (if k = .mine ∨ k = .lent then .lent else .lockL))
  | _ => none
theorem ao_sl (ρ : Fm) (i : Nat) : argOf ρ (.inr i) = aoS ρ[i]? := id rfl
theorem aoS_mine (xs : List D) : aoS (some (.own xs .mine)) = some (.own xs .lent) := id rfl
theorem aoS_lent (xs : List D) : aoS (some (.own xs .lent)) = some (.own xs .lent) := id rfl
theorem aoS_lockM (xs : List D) : aoS (some (.own xs .lockM)) = some (.own xs .lockL) := id rfl
theorem aoS_lockL (xs : List D) : aoS (some (.own xs .lockL)) = some (.own xs .lockL) := id rfl
theorem aoS_val (d : D) : aoS (some (.val d)) = some (.val d) := id rfl
def loS (s : Option Sl) (i : Nat) (r : List Nat) : List Nat := match s with
  | some (.own _ _) => i :: r
  | _ => r
theorem lo_sl (ρ : Fm) (i : Nat) (r : List (Sum D Nat)) : lentOf ρ (.inr i :: r) = loS ρ[i]? i (lentOf ρ r) := id rfl
theorem loS_own (xs : List D) (k : Kd) (i : Nat) (r : List Nat) : loS (some (.own xs k)) i r = i :: r := id rfl
theorem loS_val (d : D) (i : Nat) (r : List Nat) : loS (some (.val d)) i r = r := id rfl
def gbS (s : Option Sl) (ρ : Fm) (i : Nat) (r : List (Sum D Nat)) (fin : List (List D)) : Fm := match s with
  | some (.own _ k) => (match fin with
    | ys :: fin' => (giveB ρ r fin').set i (.own ys k)
    | [] => giveB ρ r [])
  | _ => giveB ρ r fin
theorem gb_sl (ρ : Fm) (i : Nat) (r : List (Sum D Nat)) (fin : List (List D)) : giveB ρ (.inr i :: r) fin = gbS ρ[i]? ρ i r fin := id rfl
theorem gbS_own (xs : List D) (k : Kd) (ρ : Fm) (i : Nat) (r : List (Sum D Nat)) (ys : List D) (fin : List (List D)) : gbS (some (.own xs k)) ρ i r (ys :: fin) = (giveB ρ r fin).set i (.own ys k) := id rfl
theorem gbS_val (d : D) (ρ : Fm) (i : Nat) (r : List (Sum D Nat)) (fin : List (List D)) : gbS (some (.val d)) ρ i r fin = giveB ρ r fin := id rfl
theorem nd0 : ndB [] = true := id rfl
theorem nd1 (i : Nat) : ndB [i] = true := by simp [ndB]
theorem pk_sl (i : Nat) (ρ : Fm) : peek (.sl i) ρ = (match ρ[i]? with
    | some (.val d) => some d
    | some (.own xs _) => some (.list xs)
    | _ => none) := id rfl
/-! comprehensions, walks -/
def k_item2 (r : R D) : R (Option D) := r.bind fun x ρ => .ok (some x) ρ
def k_item1 (r : R RV) : R (Option D) := r.bind fun r ρ => k_item2 (fzR r ρ)
def k_it0 (e : IE) (o : Option Fm) : R (Option D) := match o with
  | some ρ => k_item1 (evE C e ρ)
  | none => .no
def itemF (e : IE) (t : Tg) (d : D) (ρ : Fm) : R (Option D) := k_it0 C e (asgT t d ρ)
def k_itIf1 (e : IE) (r : R Bool) : R (Option D) := r.bind fun b ρ => if b = true then k_item1 (evE C e ρ) else .ok none ρ
def k_itIf (e c : IE) (o : Option Fm) : R (Option D) := match o with
  | some ρ => k_itIf1 C e (evT C c ρ)
  | none => .no
def itemIfF (e : IE) (t : Tg) (c : IE) (d : D) (ρ : Fm) : R (Option D) := k_itIf C e c (asgT t d ρ)
theorem itemF_e (e : IE) (t : Tg) (d : D) (ρ : Fm) : itemF C e t d ρ = k_it0 C e (asgT t d ρ) := id rfl
theorem itemIfF_e (e : IE) (t : Tg) (c : IE) (d : D) (ρ : Fm) : itemIfF C e t c d ρ = k_itIf C e c (asgT t d ρ) := id rfl
theorem k_it0_s (e : IE) (ρ : Fm) : k_it0 C e (some ρ) = k_item1 (evE C e ρ) := id rfl
theorem k_itIf_s (e c : IE) (ρ : Fm) : k_itIf C e c (some ρ) = k_itIf1 C e (evT C c ρ) := id rfl
theorem k_itIf1_t (e : IE) (ρ : Fm) : k_itIf1 C e (.ok true ρ) = k_item1 (evE C e ρ) := id rfl
theorem k_itIf1_f (e : IE) (ρ : Fm) : k_itIf1 C e (.ok false ρ) = .ok none ρ := id rfl
theorem k_item1_ok (r : RV) (ρ : Fm) : k_item1 (.ok r ρ) = k_item2 (fzR r ρ) := id rfl
theorem k_item2_ok (r : D) (ρ : Fm) : k_item2 (.ok r ρ) = .ok (some r) ρ := id rfl
def k_comp (e : IE) (t : Tg) (r : R Its) : R RV := r.bind fun p ρ1 => compAll t.slots (itemF C e t) p.1 p.2 ρ1
def k_compIf (e : IE) (t : Tg) (c : IE) (r : R Its) : R RV := r.bind fun p ρ1 => compAll t.slots (itemIfF C e t c) p.1 p.2 ρ1
theorem itemF_raw (e : IE) (t : Tg) : (fun d ρ2 => (lift (asgT t d ρ2) ρ2).bind fun ρ3 _ => (evE C e ρ3).bind fun r ρ4 => (fzR r ρ4).bind fun x ρ5 => .ok (some x) ρ5) = itemF C e t := by
  funext d ρ
  unfold itemF
  cases asgT t d ρ <;> rfl
theorem itemIfF_raw (e : IE) (t : Tg) (c : IE) : (fun d ρ2 => (lift (asgT t d ρ2) ρ2).bind fun ρ3 _ => (evT C c ρ3).bind fun b ρ4 => if b = true then (evE C e ρ4).bind fun r ρ5 => (fzR r ρ5).bind fun x ρ6 => .ok (some x) ρ6 else .ok none ρ4) = itemIfF C e t c := by
  funext d ρ
  unfold itemIfF
  cases asgT t d ρ <;> rfl
theorem n_comp (e : IE) (t : Tg) (it : II) (ρ : Fm) : evE C (.comp e t it) ρ = k_comp C e t (evI C it ρ) := by
  rw [evE, itemF_raw]
  rfl
theorem n_compIf (e : IE) (t : Tg) (it : II) (c : IE) (ρ : Fm) : evE C (.compIf e t it c) ρ = k_compIf C e t c (evI C it ρ) := by
  rw [evE, itemIfF_raw]
  rfl
theorem k_comp_ok (e : IE) (t : Tg) (ds : List D) (lk : List Nat) (ρ : Fm) : k_comp C e t (.ok (ds, lk) ρ) = compAll t.slots (itemF C e t) ds lk ρ := id rfl
theorem k_compIf_ok (e : IE) (t : Tg) (c : IE) (ds : List D) (lk : List Nat) (ρ : Fm) : k_compIf C e t c (.ok (ds, lk) ρ) = compAll t.slots (itemIfF C e t c) ds lk ρ := id rfl
def k_lr (r : R Its) : R RV := r.bind fun p ρ1 => mkL p.1 ρ1
def k_tr (r : R Its) : R RV := r.bind fun p ρ1 => mkT p.1 ρ1
theorem n_lrng (it : II) (ρ : Fm) : evE C (.lrng it) ρ = k_lr (evI C it ρ) := id rfl
theorem n_trng (it : II) (ρ : Fm) : evE C (.trng it) ρ = k_tr (evI C it ρ) := id rfl
theorem k_lr_ok (ds : List D) (lk : List Nat) (ρ : Fm) : k_lr (.ok (ds, lk) ρ) = mkL ds ρ := id rfl
theorem k_tr_ok (ds : List D) (lk : List Nat) (ρ : Fm) : k_tr (.ok (ds, lk) ρ) = mkT ds ρ := id rfl
def rg1 (j : Int) (ρ : Fm) : R Its := lift (guardO (rngB j) (rangeL 0 1 j.toNat, [])) ρ
theorem rg1_ok {j : Int} (h1 : -(2 ^ 62) ≤ j) (h2 : j < 2 ^ 62) (ρ : Fm) : rg1 j ρ = .ok (rangeL 0 1 j.toNat, []) ρ := by
  have : rngB j = true := by
    unfold rngB
    rw [decide_eq_true h1, decide_eq_true h2] <;> rfl
  unfold rg1 guardO
  rw [if_pos this] <;> rfl
def k_rg1 (r : R RV) : R Its := r.bind fun r ρ1 => (lift (pk1 asInt (peek r ρ1)) ρ1).bind fun j _ => rg1 j ρ1
theorem n_rng1 (a : IE) (ρ : Fm) : evI C (.rng1 a) ρ = k_rg1 (evE C a ρ) := id rfl
theorem k_rg1_ok (j : Int) (ρ : Fm) : k_rg1 (.ok (.val (.int j)) ρ) = rg1 j ρ := id rfl
def rg2 (i j : Int) (ρ : Fm) : R Its := lift (guardO (rngB i && rngB j) (rangeL i 1 (j - i).toNat, [])) ρ
theorem rg2_ok {i j : Int} (h1 : -(2 ^ 62) ≤ j) (h2 : j < 2 ^ 62) (h3 : -(2 ^ 62) ≤ i) (h4 : i < 2 ^ 62) (ρ : Fm) : rg2 i j ρ = .ok (rangeL i 1 (j - i).toNat, []) ρ := by
  have : (rngB i && rngB j) = true := by
    unfold rngB
    rw [decide_eq_true h1, decide_eq_true h2, decide_eq_true h3, decide_eq_true h4] <;> rfl
  unfold rg2 guardO
  rw [if_pos this] <;> rfl
def k_rg2b (i : Int) (r : R RV) : R Its := r.bind fun r ρ1 => (lift (pk1 asInt (peek r ρ1)) ρ1).bind fun j _ => rg2 i j ρ1
def k_rg2 (b : IE) (r : R RV) : R Its := r.bind fun r ρ1 => (lift (pk1 asInt (peek r ρ1)) ρ1).bind fun i _ => k_rg2b i (evE C b ρ1)
theorem n_rng2 (a b : IE) (ρ : Fm) : evI C (.rng2 a b) ρ = k_rg2 C b (evE C a ρ) := id rfl
theorem k_rg2_ok (b : IE) (i : Int) (ρ : Fm) : k_rg2 C b (.ok (.val (.int i)) ρ) = k_rg2b i (evE C b ρ) := id rfl
theorem k_rg2b_ok (i j : Int) (ρ : Fm) : k_rg2b i (.ok (.val (.int j)) ρ) = rg2 i j ρ := id rfl
def sqK (o : Option (List D × Fm × List Nat)) : R Its := match o with
  | some p => .ok (p.1, p.2.2) p.2.1
  | none => .no
def k_seq (r : R RV) : R Its := r.bind fun r ρ1 => sqK (lockR r ρ1)
theorem n_iseq (a : IE) (ρ : Fm) : evI C (.seq a) ρ = k_seq (evE C a ρ) := id rfl
theorem k_seq_val (ds : List D) (ρ : Fm) : k_seq (.ok (.val (.list ds)) ρ) = .ok (ds, []) ρ := id rfl
theorem k_seq_tup (ds : List D) (ρ : Fm) : k_seq (.ok (.val (.tuple ds)) ρ) = .ok (ds, []) ρ := id rfl
theorem k_seq_tmp (ds : List D) (ρ : Fm) : k_seq (.ok (.tmp ds) ρ) = .ok (ds, []) ρ := id rfl
theorem k_seq_sl (i : Nat) (ρ : Fm) : k_seq (.ok (.sl i) ρ) = sqK (lockR (.sl i) ρ) := id rfl
def lkS (s : Option Sl) (i : Nat) (ρ : Fm) : R Its := match s with
  | some (.val (.list xs)) => .ok (xs, []) ρ
  | some (.val (.tuple xs)) => .ok (xs, []) ρ
  | some (.own xs k) => if k = .mine ∨ k = .lent then .ok (xs, [i]) (ρ.set i (.own xs k.lock)) else .ok (xs, []) ρ
  | _ => .no
theorem sq_sl (i : Nat) (ρ : Fm) : sqK (lockR (.sl i) ρ) = lkS ρ[i]? i ρ := by
  unfold sqK lockR lkS
  dsimp only
  generalize ρ[i]? = s
  cases s with
  | none => rfl
  | some s =>
    cases s with
    | no => rfl
    | val d => cases d <;> rfl
    | own xs k => cases k <;> rfl
theorem lkS_mine (xs : List D) (i : Nat) (ρ : Fm) : lkS (some (.own xs .mine)) i ρ = .ok (xs, [i]) (ρ.set i (.own xs .lockM)) := id rfl
theorem lkS_lent (xs : List D) (i : Nat) (ρ : Fm) : lkS (some (.own xs .lent)) i ρ = .ok (xs, [i]) (ρ.set i (.own xs .lockL)) := id rfl
theorem lkS_lockM (xs : List D) (i : Nat) (ρ : Fm) : lkS (some (.own xs .lockM)) i ρ = .ok (xs, []) ρ := id rfl
theorem lkS_lockL (xs : List D) (i : Nat) (ρ : Fm) : lkS (some (.own xs .lockL)) i ρ = .ok (xs, []) ρ := id rfl
def zipK (r r2 : RV) (ρ2 : Fm) : R Its := match lockR r ρ2 with
  | some p => (match lockR r2 p.2.1 with
    | some q => if kindZ (kindR r ρ2) (kindR r2 ρ2) = true then .ok (zipD p.1 q.1, p.2.2 ++ q.2.2) q.2.1 else .no
    | none => .no)
  | none => .no
def k_z2 (r : RV) (o : R RV) : R Its := o.bind fun r2 ρ2 => zipK r r2 ρ2
def k_z1 (b : IE) (o : R RV) : R Its := o.bind fun r ρ1 => k_z2 r (evE C b ρ1)
theorem n_zip (a b : IE) (ρ : Fm) : evI C (.zip a b) ρ = k_z1 C b (evE C a ρ) := by
  rw [evI]
  rfl
theorem k_z1_ok (b : IE) (r : RV) (ρ : Fm) : k_z1 C b (.ok r ρ) = k_z2 r (evE C b ρ) := id rfl
theorem k_z2_ok (r r2 : RV) (ρ : Fm) : k_z2 r (.ok r2 ρ) = zipK r r2 ρ := id rfl
theorem zipK_sl0t (xs ys : List D) (r : Fm) : zipK (.sl 0) (.val (.tuple ys)) (.own xs .lent :: r) = .ok (zipD xs ys, [0]) (.own xs .lockL :: r) := id rfl
theorem zipK_vlt (xs ys : List D) (ρ : Fm) : zipK (.val (.list xs)) (.val (.tuple ys)) ρ = .ok (zipD xs ys, []) ρ := id rfl
theorem zipK_ll (xs ys : List D) (ρ : Fm) : zipK (.val (.list xs)) (.val (.list ys)) ρ = .ok (zipD xs ys, []) ρ := id rfl
theorem zipK_tt (xs ys : List D) (ρ : Fm) : zipK (.val (.tuple xs)) (.val (.tuple ys)) ρ = .ok (zipD xs ys, []) ρ := id rfl
theorem zipK_tmp (xs ys : List D) (ρ : Fm) : zipK (.tmp xs) (.tmp ys) ρ = .ok (zipD xs ys, []) ρ := id rfl
theorem zipK_lt (xs ys : List D) (ρ : Fm) : zipK (.val (.list xs)) (.tmp ys) ρ = .ok (zipD xs ys, []) ρ := id rfl
theorem zipK_tl (xs ys : List D) (ρ : Fm) : zipK (.tmp xs) (.val (.list ys)) ρ = .ok (zipD xs ys, []) ρ := id rfl
def enK (r : RV) (ρ1 : Fm) : R Its := match lockR r ρ1 with
  | some p => .ok (enumD 0 p.1, p.2.2) p.2.1
  | none => .no
def k_en (o : R RV) : R Its := o.bind enK
theorem n_enum (a : IE) (ρ : Fm) : evI C (.enum a) ρ = k_en (evE C a ρ) := by
  rw [evI]
  rfl
theorem k_en_ok (r : RV) (ρ : Fm) : k_en (.ok r ρ) = enK r ρ := id rfl
theorem enK_l (xs : List D) (ρ : Fm) : enK (.val (.list xs)) ρ = .ok (enumD 0 xs, []) ρ := id rfl
theorem enK_tup (xs : List D) (ρ : Fm) : enK (.val (.tuple xs)) ρ = .ok (enumD 0 xs, []) ρ := id rfl
theorem enK_tmp (xs : List D) (ρ : Fm) : enK (.tmp xs) ρ = .ok (enumD 0 xs, []) ρ := id rfl
def rvK (r : RV) (ρ1 : Fm) : R Its := match lockR r ρ1 with
  | some p => .ok (p.1.reverse, p.2.2) p.2.1
  | none => .no
def k_rv (o : R RV) : R Its := o.bind rvK
theorem n_rev (a : IE) (ρ : Fm) : evI C (.rev a) ρ = k_rv (evE C a ρ) := by
  rw [evI]
  rfl
theorem k_rv_ok (r : RV) (ρ : Fm) : k_rv (.ok r ρ) = rvK r ρ := id rfl
theorem rvK_l (xs : List D) (ρ : Fm) : rvK (.val (.list xs)) ρ = .ok (xs.reverse, []) ρ := id rfl
theorem rvK_t (xs : List D) (ρ : Fm) : rvK (.val (.tuple xs)) ρ = .ok (xs.reverse, []) ρ := id rfl
theorem rvK_tmp (xs : List D) (ρ : Fm) : rvK (.tmp xs) ρ = .ok (xs.reverse, []) ρ := id rfl
/-! tests -/
def k_t1 (f : D → Option Bool) (r : R RV) : R Bool := r.bind fun r ρ => lift (pk1 f (peek r ρ)) ρ
theorem k_t1_ok (f : D → Option Bool) (r : RV) (ρ : Fm) : k_t1 f (.ok r ρ) = lift (pk1 f (peek r ρ)) ρ := id rfl
def k_tn (r : R Bool) : R Bool := r.bind fun b ρ => .ok (!b) ρ
theorem k_tn_ok (b : Bool) (ρ : Fm) : k_tn (.ok b ρ) = .ok (!b) ρ := id rfl
def k_t2 (f : D → D → Option Bool) (b : IE) (r : R RV) : R Bool := r.bind fun r1 ρ1 => (evE C b ρ1).bind fun r2 ρ2 => lift (pk2 f (peek r1 ρ2) (peek r2 ρ2)) ρ2
def k_t2b (f : D → D → Option Bool) (r1 : RV) (r : R RV) : R Bool := r.bind fun r2 ρ2 => lift (pk2 f (peek r1 ρ2) (peek r2 ρ2)) ρ2
theorem k_t2_ok (f : D → D → Option Bool) (b : IE) (r : RV) (ρ : Fm) : k_t2 C f b (.ok r ρ) = k_t2b f r (evE C b ρ) := id rfl
theorem k_t2b_ok (f : D → D → Option Bool) (r1 r : RV) (ρ : Fm) : k_t2b f r1 (.ok r ρ) = lift (pk2 f (peek r1 ρ) (peek r ρ)) ρ := id rfl
theorem m_cmp (o : COp) (a b : IE) (ρ : Fm) : evT C (.cmp o a b) ρ = k_t2 C (cmpD o) b (evE C a ρ) := id rfl
theorem m_not (a : IE) (ρ : Fm) : evT C (.not a) ρ = k_tn (evT C a ρ) := id rfl
theorem m_lit (d : D) (ρ : Fm) : evT C (.lit d) ρ = lift (truthD d) ρ := id rfl
theorem m_gint (x : Str) (i : Int) (ρ : Fm) : evT C (.gint x i) ρ = .ok (i != 0) ρ := id rfl
def rdT (s : Option Sl) (ρ : Fm) : R Bool := match s with
  | some (.val d) => lift (truthD d) ρ
  | some (.own xs _) => .ok (!xs.isEmpty) ρ
  | _ => .no
theorem m_var (i : Nat) (ρ : Fm) : evT C (.var i) ρ = rdT ρ[i]? ρ := id rfl
theorem rdT_val (d : D) (ρ : Fm) : rdT (some (.val d)) ρ = lift (truthD d) ρ := id rfl
theorem rdT_own (d : List D) (k : Kd) (ρ : Fm) : rdT (some (.own d k)) ρ = .ok (!d.isEmpty) ρ := id rfl
theorem m_isi (a : IE) (t : Ty) (ρ : Fm) : evT C (.isi a t) ρ = k_t1 (isiT t) (evE C a ρ) := id rfl
theorem m_call (f : Nat) (as : IEs) (ρ : Fm) : evT C (.call f as) ρ = k_t1 truthD (k_call C f (evA C as ρ)) := by
  rw [evT]
  unfold k_t1 k_call
  rw [R.bind_as]
  rfl
theorem m_b1 (f : B1) (a : IE) (ρ : Fm) : evT C (.b1 f a) ρ = k_t1 truthD (k_fin1 (b1D f) (evE C a ρ)) := by
  rw [evT]
  unfold k_t1 k_fin1
  rw [R.bind_as]
  rfl
def k_m2 (p : COp) (c : IE) (r2 : RV) (r : R Bool) : R Bool := r.bind fun t ρ3 => if t = true then k_t2b (cmpD p) r2 (evE C c ρ3) else .ok false ρ3
def k_m1 (o p : COp) (c : IE) (r1 : RV) (r : R RV) : R Bool := r.bind fun r2 ρ2 => k_m2 C p c r2 (lift (pk2 (cmpD o) (peek r1 ρ2) (peek r2 ρ2)) ρ2)
def k_m0 (o p : COp) (b c : IE) (r : R RV) : R Bool := r.bind fun r1 ρ1 => k_m1 C o p c r1 (evE C b ρ1)
theorem m_cmp2 (o p : COp) (a b c : IE) (ρ : Fm) : evT C (.cmp2 o p a b c) ρ = k_m0 C o p b c (evE C a ρ) := id rfl
theorem k_m0_ok (o p : COp) (b c : IE) (r : RV) (ρ : Fm) : k_m0 C o p b c (.ok r ρ) = k_m1 C o p c r (evE C b ρ) := id rfl
theorem k_m1_ok (o p : COp) (c : IE) (r1 r : RV) (ρ : Fm) : k_m1 C o p c r1 (.ok r ρ) = k_m2 C p c r (lift (pk2 (cmpD o) (peek r1 ρ) (peek r ρ)) ρ) := id rfl
theorem k_m2_t (p : COp) (c : IE) (r2 : RV) (ρ : Fm) : k_m2 C p c r2 (.ok true ρ) = k_t2b (cmpD p) r2 (evE C c ρ) := id rfl
theorem k_m2_f (p : COp) (c : IE) (r2 : RV) (ρ : Fm) : k_m2 C p c r2 (.ok false ρ) = .ok false ρ := id rfl
/-! and, or -/
def k_and2 (as : IEs) (r : R Bool) : R RV := r.bind fun t ρ => if t = true then evAnd C as ρ else .ok (.val (.bool false)) ρ
def k_or2 (as : IEs) (r : R Bool) : R RV := r.bind fun t ρ => if t = true then .ok (.val (.bool true)) ρ else evOr C as ρ
def k_and1 (as : IEs) (r : R RV) : R RV := r.bind fun r ρ => k_and2 C as (lift (pk1 asBool (peek r ρ)) ρ)
def k_or1 (as : IEs) (r : R RV) : R RV := r.bind fun r ρ => k_or2 C as (lift (pk1 asBool (peek r ρ)) ρ)
theorem n_and (as : IEs) (ρ : Fm) : evE C (.and as) ρ = evAnd C as ρ := id rfl
theorem n_or (as : IEs) (ρ : Fm) : evE C (.or as) ρ = evOr C as ρ := id rfl
theorem n_and1 (a : IE) (ρ : Fm) : evAnd C (.cons a .nil) ρ = evE C a ρ := by rw [evAnd]
theorem n_or1 (a : IE) (ρ : Fm) : evOr C (.cons a .nil) ρ = evE C a ρ := by rw [evOr]
theorem n_ands (a b : IE) (as : IEs) (ρ : Fm) : evAnd C (.cons a (.cons b as)) ρ = k_and1 C (.cons b as) (evE C a ρ) := by
  rw [evAnd]
  · unfold k_and1
    cases evE C a ρ with
    | ok r ρ1 =>
      simp only [rb_ok, k_and2, pk, pk1]
      cases (peek r ρ1).bind asBool <;> rfl
    | exc c ρ1 => rfl
    | no => rfl
  · intro h
    cases h
theorem n_ors (a b : IE) (as : IEs) (ρ : Fm) : evOr C (.cons a (.cons b as)) ρ = k_or1 C (.cons b as) (evE C a ρ) := by
  rw [evOr]
  · unfold k_or1
    cases evE C a ρ with
    | ok r ρ1 =>
      simp only [rb_ok, k_or2, pk, pk1]
      cases (peek r ρ1).bind asBool <;> rfl
    | exc c ρ1 => rfl
    | no => rfl
  · intro h
    cases h
theorem k_and1_ok (as : IEs) (r : RV) (ρ : Fm) : k_and1 C as (.ok r ρ) = k_and2 C as (lift (pk1 asBool (peek r ρ)) ρ) := id rfl
theorem k_or1_ok (as : IEs) (r : RV) (ρ : Fm) : k_or1 C as (.ok r ρ) = k_or2 C as (lift (pk1 asBool (peek r ρ)) ρ) := id rfl
theorem k_and2_t (as : IEs) (ρ : Fm) : k_and2 C as (.ok true ρ) = evAnd C as ρ := id rfl
theorem k_and2_f (as : IEs) (ρ : Fm) : k_and2 C as (.ok false ρ) = .ok (.val (.bool false)) ρ := id rfl
theorem k_or2_t (as : IEs) (ρ : Fm) : k_or2 C as (.ok true ρ) = .ok (.val (.bool true)) ρ := id rfl
theorem k_or2_f (as : IEs) (ρ : Fm) : k_or2 C as (.ok false ρ) = evOr C as ρ := id rfl
def k_tand (as : IEs) (r : R Bool) : R Bool := r.bind fun t ρ => if t = true then evTAnd C as ρ else .ok false ρ
def k_tor (as : IEs) (r : R Bool) : R Bool := r.bind fun t ρ => if t = true then .ok true ρ else evTOr C as ρ
theorem m_and (as : IEs) (ρ : Fm) : evT C (.and as) ρ = evTAnd C as ρ := id rfl
theorem m_or (as : IEs) (ρ : Fm) : evT C (.or as) ρ = evTOr C as ρ := id rfl
theorem m_and1 (a : IE) (ρ : Fm) : evTAnd C (.cons a .nil) ρ = evT C a ρ := by rw [evTAnd]
theorem m_or1 (a : IE) (ρ : Fm) : evTOr C (.cons a .nil) ρ = evT C a ρ := by rw [evTOr]
theorem m_ands (a b : IE) (as : IEs) (ρ : Fm) : evTAnd C (.cons a (.cons b as)) ρ = k_tand C (.cons b as) (evT C a ρ) := by
  rw [evTAnd]
  · rfl
  · intro h
    cases h
theorem m_ors (a b : IE) (as : IEs) (ρ : Fm) : evTOr C (.cons a (.cons b as)) ρ = k_tor C (.cons b as) (evT C a ρ) := by
  rw [evTOr]
  · rfl
  · intro h
    cases h
theorem k_tand_t (as : IEs) (ρ : Fm) : k_tand C as (.ok true ρ) = evTAnd C as ρ := id rfl
theorem k_tand_f (as : IEs) (ρ : Fm) : k_tand C as (.ok false ρ) = .ok false ρ := id rfl
theorem k_tor_t (as : IEs) (ρ : Fm) : k_tor C as (.ok true ρ) = .ok true ρ := id rfl
theorem k_tor_f (as : IEs) (ρ : Fm) : k_tor C as (.ok false ρ) = evTOr C as ρ := id rfl
/-! statements -/
def k_then (t : IS) (r : R Fl) : R Fl := r.bind fun fl ρ1 => match fl with
  | .nx => evS C t ρ1
  | fl => .ok fl ρ1
theorem s_skip' (ρ : Fm) : evS C .skip ρ = .ok .nx ρ := id rfl
theorem s_seq' (s t : IS) (ρ : Fm) : evS C (.seq s t) ρ = k_then C t (evS C s ρ) := id rfl
theorem k_then_nx (t : IS) (ρ : Fm) : k_then C t (.ok .nx ρ) = evS C t ρ := id rfl
theorem k_then_ret (t : IS) (v : RV) (ρ : Fm) : k_then C t (.ok (.ret v) ρ) = .ok (.ret v) ρ := id rfl
theorem k_then_brk (t : IS) (ρ : Fm) : k_then C t (.ok .brk ρ) = .ok .brk ρ := id rfl
theorem k_then_cnt (t : IS) (ρ : Fm) : k_then C t (.ok .cnt ρ) = .ok .cnt ρ := id rfl
def k_drop (r : R RV) : R Fl := r.bind fun _ ρ => .ok .nx ρ
theorem s_expr' (e : IE) (ρ : Fm) : evS C (.expr e) ρ = k_drop (evE C e ρ) := id rfl
theorem k_drop_ok (r : RV) (ρ : Fm) : k_drop (.ok r ρ) = .ok .nx ρ := id rfl
def nxO (o : Option Fm) : R Fl := match o with
  | some ρ => .ok .nx ρ
  | none => .no
theorem nxO_s (ρ : Fm) : nxO (some ρ) = .ok .nx ρ := id rfl
def k_asg (i : Nat) (r : R RV) : R Fl := r.bind fun r ρ1 => nxO (setR i r ρ1)
theorem s_asg' (i : Nat) (e : IE) (ρ : Fm) : evS C (.asg i e) ρ = k_asg i (evE C e ρ) := by
  rw [evS]
  unfold k_asg
  cases evE C e ρ with
  | ok r ρ1 =>
    rw [rb_ok, rb_ok]
    cases setR i r ρ1 <;> rfl
  | exc c ρ1 => rfl
  | no => rfl
theorem k_asg_ok (i : Nat) (r : RV) (ρ : Fm) : k_asg i (.ok r ρ) = nxO (setR i r ρ) := id rfl
def k_asgT2 (t : Tg) (r : R D) : R Fl := r.bind fun d ρ2 => nxO (asgT t d ρ2)
def k_asgT (t : Tg) (r : R RV) : R Fl := r.bind fun r ρ1 => k_asgT2 t (fzR r ρ1)
theorem s_asgT' (t : Tg) (e : IE) (ρ : Fm) : evS C (.asgT t e) ρ = k_asgT t (evE C e ρ) := by
  rw [evS]
  unfold k_asgT
  cases evE C e ρ with
  | ok r ρ1 =>
    rw [rb_ok, rb_ok]
    unfold k_asgT2
    cases fzR r ρ1 with
    | ok d ρ2 =>
      rw [rb_ok, rb_ok]
      cases asgT t d ρ2 <;> rfl
    | exc c ρ1 => rfl
    | no => rfl
  | exc c ρ1 => rfl
  | no => rfl
theorem k_asgT_ok (t : Tg) (r : RV) (ρ : Fm) : k_asgT t (.ok r ρ) = k_asgT2 t (fzR r ρ) := id rfl
theorem k_asgT2_ok (t : Tg) (d : D) (ρ : Fm) : k_asgT2 t (.ok d ρ) = nxO (asgT t d ρ) := id rfl
def k_par (is : List Nat) (r : R (List D)) : R Fl := r.bind fun ds ρ => nxO (setVs is ds ρ)
theorem k_par_ok (is : List Nat) (ds : List D) (ρ : Fm) : k_par is (.ok ds ρ) = nxO (setVs is ds ρ) := id rfl
theorem s_par2' (i j : Nat) (a b : IE) (ρ : Fm) : evS C (.par2 i j a b) ρ = k_par [i, j] (evD C (.cons a (.cons b .nil)) ρ) := by
  rw [evS]
  unfold k_par
  cases evD C (.cons a (.cons b .nil)) ρ with
  | ok r ρ1 =>
    rw [rb_ok, rb_ok]
    cases setVs [i, j] r ρ1 <;> rfl
  | exc c ρ1 => rfl
  | no => rfl
theorem s_par3' (i j l : Nat) (a b c : IE) (ρ : Fm) : evS C (.par3 i j l a b c) ρ = k_par [i, j, l] (evD C (.cons a (.cons b (.cons c .nil))) ρ) := by
  rw [evS]
  unfold k_par
  cases evD C (.cons a (.cons b (.cons c .nil))) ρ with
  | ok r ρ1 =>
    rw [rb_ok, rb_ok]
    cases setVs [i, j, l] r ρ1 <;> rfl
  | exc c ρ1 => rfl
  | no => rfl
theorem sv_nil (ρ : Fm) : setVs [] [] ρ = some ρ := id rfl
def svC (is : List Nat) (ds : List D) (o : Option Fm) : Option Fm := o.bind fun ρ => setVs is ds ρ
theorem sv_cons (i : Nat) (is : List Nat) (d : D) (ds : List D) (ρ : Fm) : setVs (i :: is) (d :: ds) ρ = svC is ds (setV i d ρ) := id rfl
theorem svC_s (is : List Nat) (ds : List D) (ρ : Fm) : svC is ds (some ρ) = setVs is ds ρ := id rfl
def sVf (b : Bool) (i : Nat) (d : D) (ρ : Fm) : Option Fm := match b with
  | true => some (ρ.set i (.val d))
  | false => none
theorem sv_eq (i : Nat) (d : D) (ρ : Fm) : setV i d ρ = sVf (free? ρ[i]?) i d ρ := by
  unfold setV sVf
  cases free? ρ[i]? <;> rfl
theorem sVf_t (i : Nat) (d : D) (ρ : Fm) : sVf true i d ρ = some (ρ.set i (.val d)) := id rfl
def sTf (b : Bool) (i : Nat) (d : List D) (ρ : Fm) : Option Fm := match b with
  | true => some (ρ.set i (.own d .mine))
  | false => none
theorem st_eq (i : Nat) (d : List D) (ρ : Fm) : setR i (.tmp d) ρ = sTf (free? ρ[i]?) i d ρ := by
  unfold setR sTf
  cases free? ρ[i]? <;> rfl
theorem sTf_t (i : Nat) (d : List D) (ρ : Fm) : sTf true i d ρ = some (ρ.set i (.own d .mine)) := id rfl
theorem ag_name (i : Nat) (d : D) (ρ : Fm) : asgT (.name i) d ρ = sVf (free? ρ[i]?) i d ρ := by
  rw [asgT, sv_eq]
theorem ag_tup (ts : Tgs) (ds : List D) (ρ : Fm) : asgT (.tup ts) (.tuple ds) ρ = asgTs ts ds ρ := id rfl
theorem ag_nil (ρ : Fm) : asgTs .nil [] ρ = some ρ := id rfl
def agC (ts : Tgs) (ds : List D) (o : Option Fm) : Option Fm := o.bind fun ρ => asgTs ts ds ρ
theorem ag_cons (t : Tg) (ts : Tgs) (d : D) (ds : List D) (ρ : Fm) : asgTs (.cons t ts) (d :: ds) ρ = agC ts ds (asgT t d ρ) := id rfl
theorem agC_s (ts : Tgs) (ds : List D) (ρ : Fm) : agC ts ds (some ρ) = asgTs ts ds ρ := id rfl
theorem tg_name (i : Nat) : Tg.slots (.name i) = [i] := id rfl
theorem tg_tup (ts : Tgs) : Tg.slots (.tup ts) = ts.slots := id rfl
theorem tg_nil : Tgs.slots .nil = [] := id rfl
theorem tg_cons (t : Tg) (ts : Tgs) : Tgs.slots (.cons t ts) = t.slots ++ ts.slots := id rfl
def k_sx3 (i : Nat) (d : D) (r : R RV) : R Fl := r.bind fun r2 ρ3 => (lift (pk1 asInt (peek r2 ρ3)) ρ3).bind fun j _ => setAt i j d ρ3
def k_sxS (i : Nat) (x : IE) (d : D) (ρ : Fm) (s : Option Sl) : R Fl := match s with
  | some (.own _ _) => k_sx3 i d (evE C x ρ)
  | _ => .no
def k_sx2 (i : Nat) (x : IE) (r : R D) : R Fl := r.bind fun d ρ2 => k_sxS C i x d ρ2 ρ2[i]?
def k_sx1 (i : Nat) (x : IE) (r : R RV) : R Fl := r.bind fun r ρ1 => k_sx2 C i x (fzR r ρ1)
theorem s_setix' (i : Nat) (x e : IE) (ρ : Fm) : evS C (.setix i x e) ρ = k_sx1 C i x (evE C e ρ) := by
  rw [evS]
  unfold k_sx1 k_sx2 k_sxS
  rfl
theorem k_sx1_ok (i : Nat) (x : IE) (r : RV) (ρ : Fm) : k_sx1 C i x (.ok r ρ) = k_sx2 C i x (fzR r ρ) := id rfl
theorem k_sx2_ok (i : Nat) (x : IE) (d : D) (ρ : Fm) : k_sx2 C i x (.ok d ρ) = k_sxS C i x d ρ ρ[i]? := id rfl
theorem k_sxS_own (i : Nat) (x : IE) (d : D) (ρ : Fm) (xs : List D) (k : Kd) : k_sxS C i x d ρ (some (.own xs k)) = k_sx3 i d (evE C x ρ) := id rfl
theorem k_sx3_ok (i : Nat) (d : D) (j : Int) (ρ : Fm) : k_sx3 i d (.ok (.val (.int j)) ρ) = setAt i j d ρ := id rfl
def saS (s : Option Sl) (i : Nat) (j : Int) (d : D) (ρ : Fm) : R Fl := match s with
  | some (.own xs k) => (match k.rw, L2.ixN xs.length j with
    | true, some n => .ok .nx (ρ.set i (.own (xs.set n d) k))
    | _, _ => .no)
  | _ => .no
theorem sa_eq (i : Nat) (j : Int) (d : D) (ρ : Fm) : setAt i j d ρ = saS ρ[i]? i j d ρ := by
  unfold setAt saS
  generalize ρ[i]? = s
  cases s with
  | none => rfl
  | some s =>
    cases s with
    | no => rfl
    | val d => rfl
    | own xs k =>
      dsimp only
      cases k.rw <;> cases L2.ixN xs.length j <;> rfl
theorem saS_mine (xs : List D) (i : Nat) (j : Int) (d : D) (ρ : Fm) (n : Nat) (h : L2.ixN xs.length j = some n) : saS (some (.own xs .mine)) i j d ρ = .ok .nx (ρ.set i (.own (xs.set n d) .mine)) := by
  simp [saS, h, Kd.rw]
theorem saS_lent (xs : List D) (i : Nat) (j : Int) (d : D) (ρ : Fm) (n : Nat) (h : L2.ixN xs.length j = some n) : saS (some (.own xs .lent)) i j d ρ = .ok .nx (ρ.set i (.own (xs.set n d) .lent)) := by
  simp [saS, h, Kd.rw]
def k_if (s t : IS) (r : R Bool) : R Fl := r.bind fun b ρ1 => if b = true then evS C s ρ1 else evS C t ρ1
theorem s_ite' (c : IE) (s t : IS) (ρ : Fm) : evS C (.ite c s t) ρ = k_if C s t (evT C c ρ) := id rfl
theorem k_if_t (s t : IS) (ρ : Fm) : k_if C s t (.ok true ρ) = evS C s ρ := id rfl
theorem k_if_f (s t : IS) (ρ : Fm) : k_if C s t (.ok false ρ) = evS C t ρ := id rfl
def k_turn (s : IS) (o : Option Fm) : R Fl := match o with
  | some ρ => evS C s ρ
  | none => .no
def turnF (t : Tg) (s : IS) (d : D) (ρ : Fm) : R Fl := k_turn C s (asgT t d ρ)
theorem turnF_e (t : Tg) (s : IS) (d : D) (ρ : Fm) : turnF C t s d ρ = k_turn C s (asgT t d ρ) := id rfl
theorem k_turn_s (s : IS) (ρ : Fm) : k_turn C s (some ρ) = evS C s ρ := id rfl
def k_for (t : Tg) (s : IS) (r : R Its) : R Fl := r.bind fun p ρ1 => unlockR p.2 (forL (turnF C t s) p.1 ρ1)
theorem s_for' (t : Tg) (it : II) (s : IS) (ρ : Fm) : evS C (.for_ t it s) ρ = k_for C t s (evI C it ρ) := by
  have h : (fun d ρ2 => (lift (asgT t d ρ2) ρ2).bind fun ρ3 _ => evS C s ρ3) = turnF C t s := by
    funext d ρ
    unfold turnF
    cases asgT t d ρ <;> rfl
  rw [evS, h]
  rfl
theorem k_for_ok (t : Tg) (s : IS) (ds : List D) (lk : List Nat) (ρ : Fm) : k_for C t s (.ok (ds, lk) ρ) = unlockR lk (forL (turnF C t s) ds ρ) := id rfl
theorem ul_nil {α : Type} (r : R α) : unlockR [] r = r := by cases r <;> rfl
theorem s_whl' (c : IE) (s : IS) (ρ : Fm) : evS C (.whl c s) ρ = whlN (evT C c) (evS C s) turnsMax ρ := id rfl
def k_ret (r : R RV) : R Fl := r.bind fun r ρ => .ok (.ret r) ρ
theorem s_ret' (e : IE) (ρ : Fm) : evS C (.ret e) ρ = k_ret (evE C e ρ) := id rfl
theorem k_ret_ok (r : RV) (ρ : Fm) : k_ret (.ok r ρ) = .ok (.ret r) ρ := id rfl
theorem s_retN' (ρ : Fm) : evS C .retN ρ = .ok (.ret (.val .none)) ρ := id rfl
theorem s_brk' (ρ : Fm) : evS C .brk ρ = .ok .brk ρ := id rfl
theorem s_cnt' (ρ : Fm) : evS C .cnt ρ = .ok .cnt ρ := id rfl
theorem wf_nil (ρ : Fm) : wipeF ρ [] = ρ := id rfl
theorem wf_cons (ρ : Fm) (v : Nat) (vs : List Nat) : wipeF ρ (v :: vs) = (wipeF ρ vs).set v .no := id rfl
theorem br_ok {α : Type} (ρ0 ρ : Fm) (own : List Nat) (a : α) : backR ρ0 own (.ok a ρ) = .ok a (backF ρ0 ρ own) := id rfl
def bkS (s : Option Sl) (ρ : Fm) (v : Nat) : Fm := match s with
  | some s => ρ.set v s
  | none => ρ
theorem bf_nil (ρ0 ρ : Fm) : backF ρ0 ρ [] = ρ := id rfl
theorem bf_cons (ρ0 ρ : Fm) (v : Nat) (vs : List Nat) : backF ρ0 ρ (v :: vs) = bkS ρ0[v]? (backF ρ0 ρ vs) v := id rfl
theorem bkS_s (s : Sl) (ρ : Fm) (v : Nat) : bkS (some s) ρ v = ρ.set v s := id rfl
theorem fm_none (l : List D) : l.filterMap (fun _ => (none : Option D)) = [] := by induction l <;> simp [*]
def foS (s : Option Sl) (xs : List D) : List D := match s with
  | some (.own ys _) => ys
  | _ => xs
theorem fo_own (ρ : Fm) (i : Nat) (xs : List D) (k : Kd) (r : List Arg) : finOf ρ i (.own xs k :: r) = foS ρ[i]? xs :: finOf ρ (i + 1) r := id rfl
theorem foS_own (xs ys : List D) (k : Kd) : foS (some (.own ys k)) xs = ys := id rfl
def pkS (s : Option Sl) : Option D := match s with
  | some (.val d) => some d
  | some (.own xs _) => some (.list xs)
  | _ => none
theorem pk_slot (i : Nat) (ρ : Fm) : peek (.sl i) ρ = pkS ρ[i]? := id rfl
theorem pkS_val (d : D) : pkS (some (.val d)) = some d := id rfl
theorem pkS_own (xs : List D) (k : Kd) : pkS (some (.own xs k)) = some (.list xs) := id rfl
theorem sa2_0 (x y : D) (i : Nat) (d : D) (ρ : Fm) : saS (some (.own [x, y] .lent)) i 0 d ρ = .ok .nx (ρ.set i (.own [d, y] .lent)) := id rfl
theorem sa2_1 (x y : D) (i : Nat) (d : D) (ρ : Fm) : saS (some (.own [x, y] .lent)) i 1 d ρ = .ok .nx (ρ.set i (.own [x, d] .lent)) := id rfl
theorem at_ok {xs : List D} {r : Int} (h0 : 0 ≤ r) (h1 : r < xs.length) : ∃ d, d ∈ xs ∧ L2.atI xs r = some d := by
  have h : r.toNat < xs.length := by omega
  refine ⟨xs[r.toNat], List.getElem_mem h, ?_⟩
  unfold L2.atI L2.ixN
  rw [if_pos h0, if_pos h1]
  exact List.getElem?_eq_getElem h
/-! append, pop -/
def k_app2 (i : Nat) (o : R D) : R RV := o.bind fun x ρ2 => appAt i x ρ2
def k_app1 (i : Nat) (o : R RV) : R RV := o.bind fun r ρ1 => k_app2 i (fzR r ρ1)
def k_app0 (i : Nat) (a : IE) (ρ : Fm) : Option Sl → R RV
  | some (.own _ _) => k_app1 i (evE C a ρ)
  | _ => .no
theorem n_app (i : Nat) (a : IE) (ρ : Fm) : evE C (.app i a) ρ = k_app0 C i a ρ ρ[i]? := by
  rw [evE]
  generalize ρ[i]? = o
  cases o with
  | none => rfl
  | some s => cases s <;> rfl
theorem k_app0_own (i : Nat) (a : IE) (ρ : Fm) (xs : List D) (k : Kd) : k_app0 C i a ρ (some (.own xs k)) = k_app1 i (evE C a ρ) := id rfl
theorem k_app1_ok (i : Nat) (r : RV) (ρ : Fm) : k_app1 i (.ok r ρ) = k_app2 i (fzR r ρ) := id rfl
theorem k_app2_ok (i : Nat) (x : D) (ρ : Fm) : k_app2 i (.ok x ρ) = appAt i x ρ := id rfl
def k_pop2 (i : Nat) (ρ1 : Fm) (o : R Int) : R RV := o.bind fun j _ => popAt i j ρ1
def k_pop1 (i : Nat) (o : R RV) : R RV := o.bind fun r ρ1 => k_pop2 i ρ1 (pk r ρ1 asInt)
def k_pop0 (i : Nat) (a : IE) (ρ : Fm) : Option Sl → R RV
  | some (.own _ _) => k_pop1 i (evE C a ρ)
  | _ => .no
theorem n_popAt (i : Nat) (a : IE) (ρ : Fm) : evE C (.popAt i a) ρ = k_pop0 C i a ρ ρ[i]? := by
  rw [evE]
  generalize ρ[i]? = o
  cases o with
  | none => rfl
  | some s => cases s <;> rfl
theorem k_pop0_own (i : Nat) (a : IE) (ρ : Fm) (xs : List D) (k : Kd) : k_pop0 C i a ρ (some (.own xs k)) = k_pop1 i (evE C a ρ) := id rfl
theorem k_pop1_ok (i : Nat) (r : RV) (ρ : Fm) : k_pop1 i (.ok r ρ) = k_pop2 i ρ (pk r ρ asInt) := id rfl
theorem k_pop2_ok (i : Nat) (ρ ρ2 : Fm) (j : Int) : k_pop2 i ρ (.ok j ρ2) = popAt i j ρ := id rfl
def apK (i : Nat) (x : D) (ρ : Fm) (xs : List D) (k : Kd) : Bool → R RV
  | true => .ok (.val .none) (ρ.set i (.own (xs ++ [x]) k))
  | false => .no
def apS (i : Nat) (x : D) (ρ : Fm) : Option Sl → R RV
  | some (.own xs k) => apK i x ρ xs k (k.rw && fits (xs.length + 1))
  | _ => .no
theorem appAt_S (i : Nat) (x : D) (ρ : Fm) : appAt i x ρ = apS i x ρ ρ[i]? := by
  unfold appAt
  generalize ρ[i]? = o
  cases o with
  | none => rfl
  | some s =>
    cases s with
    | own xs k =>
      show (if (k.rw && fits (xs.length + 1)) = true then _ else _) = apK i x ρ xs k (k.rw && fits (xs.length + 1))
      cases k.rw && fits (xs.length + 1) <;> rfl
    | _ => rfl
theorem apS_mine (i : Nat) (x : D) (ρ : Fm) (xs : List D) : apS i x ρ (some (.own xs .mine)) = apK i x ρ xs .mine (fits (xs.length + 1)) := id rfl
theorem apS_lent (i : Nat) (x : D) (ρ : Fm) (xs : List D) : apS i x ρ (some (.own xs .lent)) = apK i x ρ xs .lent (fits (xs.length + 1)) := id rfl
theorem apK_t (i : Nat) (x : D) (ρ : Fm) (xs : List D) (k : Kd) : apK i x ρ xs k true = .ok (.val .none) (ρ.set i (.own (xs ++ [x]) k)) := id rfl
def popI (xs : List D) (j : Int) : Option (D × List D) := if (decide (-(2 ^ 63) ≤ j) && decide (j < 2 ^ 63)) = true then (L2.ixN xs.length j).bind fun n => xs[n]?.map fun x => (x, xs.eraseIdx n) else none
def popK (i : Nat) (ρ : Fm) (k : Kd) : Option (D × List D) → R RV
  | some p => .ok (.val p.1) (ρ.set i (.own p.2 k))
  | none => .no
def popS (i : Nat) (j : Int) (ρ : Fm) : Option Sl → R RV
  | some (.own xs k) => if k.rw = true then popK i ρ k (popI xs j) else .no
  | _ => .no
theorem popAt_S (i : Nat) (j : Int) (ρ : Fm) : popAt i j ρ = popS i j ρ ρ[i]? := by
  unfold popAt
  generalize ρ[i]? = o
  cases o with
  | none => rfl
  | some s =>
    cases s with
    | own xs k =>
      show (if (k.rw && (decide (-(2 ^ 63) ≤ j) && decide (j < 2 ^ 63))) = true then _ else _) = if k.rw = true then popK i ρ k (popI xs j) else .no
      unfold popI
      generalize (decide (-(2 ^ 63) ≤ j) && decide (j < 2 ^ 63)) = b
      cases k.rw with
      | false => rfl
      | true =>
        cases b with
        | false => rfl
        | true =>
          show ((lift (L2.ixN xs.length j) ρ).bind fun n _ => (lift xs[n]? ρ).bind fun x _ => .ok (.val x) (ρ.set i (.own (xs.eraseIdx n) k))) = popK i ρ k ((L2.ixN xs.length j).bind fun n => xs[n]?.map fun x => (x, xs.eraseIdx n))
          cases L2.ixN xs.length j with
          | none => rfl
          | some n =>
            show ((lift xs[n]? ρ).bind fun x _ => .ok (.val x) (ρ.set i (.own (xs.eraseIdx n) k))) = popK i ρ k (xs[n]?.map fun x => (x, xs.eraseIdx n))
            cases xs[n]? <;> rfl
    | _ => rfl
theorem popS_mine (i : Nat) (j : Int) (ρ : Fm) (xs : List D) : popS i j ρ (some (.own xs .mine)) = popK i ρ .mine (popI xs j) := id rfl
theorem popK_some (i : Nat) (ρ : Fm) (k : Kd) (x : D) (ys : List D) : popK i ρ k (some (x, ys)) = .ok (.val x) (ρ.set i (.own ys k)) := id rfl
/-! two values at two names -/
def k_pO3 (j : Nat) (r2 : RV) : Option Fm → R Fl
  | some ρ => nxO (setR j r2 ρ)
  | none => .no
def k_pO2 (i j : Nat) (r1 : RV) (o : R RV) : R Fl := o.bind fun r2 ρ => nxO (setR2 i j r1 r2 ρ)
def k_pO1 (i j : Nat) (b : IE) (o : R RV) : R Fl := o.bind fun r1 ρ => k_pO2 i j r1 (evE C b ρ)
theorem nxO_lift (o : Option Fm) (ρ : Fm) : ((lift o ρ).bind fun ρ3 _ => (R.ok Fl.nx ρ3 : R Fl)) = nxO o := by
  cases o <;> rfl
theorem s_parO' (i j : Nat) (a b : IE) (ρ : Fm) : evS C (.parO i j a b) ρ = k_pO1 C i j b (evE C a ρ) := by
  rw [evS]
  unfold k_pO1 k_pO2
  simp only [nxO_lift]
theorem k_pO1_ok (i j : Nat) (b : IE) (r1 : RV) (ρ : Fm) : k_pO1 C i j b (.ok r1 ρ) = k_pO2 i j r1 (evE C b ρ) := id rfl
theorem k_pO2_tv (i j : Nat) (xs : List D) (d : D) (ρ : Fm) : k_pO2 i j (.tmp xs) (.ok (.val d) ρ) = k_pO3 j (.val d) (setR i (.tmp xs) ρ) := by
  show nxO ((setR i (.tmp xs) ρ).bind (setR j (.val d))) = _
  cases setR i (.tmp xs) ρ <;> rfl
theorem k_pO2_vt (i j : Nat) (xs : List D) (d : D) (ρ : Fm) : k_pO2 i j (.val d) (.ok (.tmp xs) ρ) = k_pO3 j (.tmp xs) (setR i (.val d) ρ) := by
  show nxO ((setR i (.val d) ρ).bind (setR j (.tmp xs))) = _
  cases setR i (.val d) ρ <;> rfl
theorem k_pO2_tt (i j : Nat) (xs ys : List D) (ρ : Fm) : k_pO2 i j (.tmp xs) (.ok (.tmp ys) ρ) = k_pO3 j (.tmp ys) (setR i (.tmp xs) ρ) := by
  show nxO ((setR i (.tmp xs) ρ).bind (setR j (.tmp ys))) = _
  cases setR i (.tmp xs) ρ <;> rfl
theorem k_pO3_s (j : Nat) (r2 : RV) (ρ : Fm) : k_pO3 j r2 (some ρ) = nxO (setR j r2 ρ) := id rfl
end
end Wk

namespace Wk48
open PySem PySem.Spec L2 Wk
/-- is_whole(value, low, high): slots 0 value, 1 low, 2 high -/
def b_is_whole : IS :=
 (.seq (.ret (.and (.cons (.isi (.var 0) .int) (.cons (.not (.isi (.var 0) .bool)) (.cons (.cmp2 .le .le (.var 1) (.var 0) (.var 2)) .nil)))))
 .skip)
/-- is_tuple_of(value, low, high): slots 0 value, 1 low, 2 high -/
def b_is_tuple_of : IS :=
 (.seq (.ret (.and (.cons (.isi (.var 0) .tuple) (.cons (.cmp2 .le .le (.var 1) (.b1 .len (.var 0)) (.var 2)) .nil))))
 .skip)
/-- is_ascending(values): slots 0 values, 1 one, 2 other -/
def b_is_ascending : IS :=
 (.seq (.ret (.b1 .all (.comp (.cmp .lt (.var 1) (.var 2)) (.tup (.cons (.name 1) (.cons (.name 2) .nil))) (.zip (.var 0) (.slo (.var 0) (.lit (.int 1)))))))
 .skip)
/-- is_set_below(value, many): slots 0 value, 1 many, 2 one -/
def b_is_set_below : IS :=
 (.seq (.ite (.or (.cons (.not (.isi (.var 0) .tuple)) (.cons (.not (.b1 .all (.comp (.call 0 (.cons (.var 2) (.cons (.lit (.int 0)) (.cons (.bin .sub (.var 1) (.lit (.int 1))) .nil)))) (.name 2) (.seq (.var 0))))) .nil)))
   (.seq (.ret (.lit (.bool false)))
   .skip)
   .skip)
 (.seq (.ret (.call 2 (.cons (.var 0) .nil)))
 .skip))
/-- are_wholes(value, many, low, high): slots 0 value, 1 many, 2 low, 3 high, 4 one -/
def b_are_wholes : IS :=
 (.seq (.ret (.and (.cons (.call 1 (.cons (.var 0) (.cons (.var 1) (.cons (.var 1) .nil)))) (.cons (.b1 .all (.comp (.call 0 (.cons (.var 4) (.cons (.var 2) (.cons (.var 3) .nil)))) (.name 4) (.seq (.var 0)))) .nil))))
 .skip)
/-- is_ring(value, most, height): slots 0 value, 1 most, 2 height, 3 one -/
def b_is_ring : IS :=
 (.seq (.ret (.and (.cons (.call 1 (.cons (.var 0) (.cons (.lit (.int 1)) (.cons (.var 1) .nil)))) (.cons (.b1 .all (.comp (.call 0 (.cons (.var 3) (.cons (.neg (.var 2)) (.cons (.var 2) .nil)))) (.name 3) (.seq (.var 0)))) .nil))))
 .skip)
/-- need_cam(value): slots 0 value -/
def b_need_cam : IS :=
 (.seq (.ite (.not (.call 5 (.cons (.var 0) (.cons (.gint "PLACES" 60) (.cons (.gint "HEIGHT" 1000000) .nil)))))
   (.seq .never
   .skip)
   .skip)
 .skip)
/-- is_cam(value): slots 0 value -/
def b_is_cam : IS :=
 (.seq (.ret (.call 5 (.cons (.var 0) (.cons (.gint "PLACES" 60) (.cons (.gint "HEIGHT" 1000000) .nil)))))
 .skip)
/-- are_together(value): slots 0 value, 1 cam -/
def b_are_together : IS :=
 (.seq (.ite (.or (.cons (.not (.call 1 (.cons (.var 0) (.cons (.lit (.int 1)) (.cons (.gint "CAMS" 12) .nil))))) (.cons (.not (.b1 .all (.comp (.call 7 (.cons (.var 1) .nil)) (.name 1) (.seq (.var 0))))) .nil)))
   (.seq (.ret (.lit (.bool false)))
   .skip)
   .skip)
 (.seq (.ret (.b1 .all (.comp (.cmp .eq (.b1 .len (.var 1)) (.b1 .len (.idx (.var 0) (.lit (.int 0))))) (.name 1) (.seq (.var 0)))))
 .skip))
/-- need_cams(value): slots 0 value -/
def b_need_cams : IS :=
 (.seq (.ite (.not (.call 8 (.cons (.var 0) .nil)))
   (.seq .never
   .skip)
   .skip)
 .skip)
/-- need_wish(cams, wish): slots 0 cams, 1 wish -/
def b_need_wish : IS :=
 (.seq (.expr (.call 9 (.cons (.var 0) .nil)))
 (.seq (.expr (.call 6 (.cons (.var 1) .nil)))
 (.seq (.ite (.cmp .ne (.b1 .len (.var 1)) (.b1 .len (.idx (.var 0) (.lit (.int 0)))))
   (.seq .never
   .skip)
   .skip)
 .skip)))
/-- follows(cams, shims): slots 0 cams, 1 shims, 2 rows, 3 height, 4 cam, 5 shim, 6 place, 7 row -/
def b_follows : IS :=
 (.seq (.asg 2 (.comp (.comp (.bin .add (.var 3) (.var 5)) (.name 3) (.seq (.var 4))) (.tup (.cons (.name 4) (.cons (.name 5) .nil))) (.zip (.var 0) (.var 1))))
 (.seq (.ret (.b1 .tuple (.comp (.b1 .max (.comp (.idx (.var 7) (.var 6)) (.name 7) (.seq (.var 2)))) (.name 6) (.rng1 (.b1 .len (.idx (.var 0) (.lit (.int 0))))))))
 .skip))
/-- greatest_in(cams, wish): slots 0 cams, 1 wish, 2 cam, 3 high, 4 own -/
def b_greatest_in : IS :=
 (.seq (.ret (.b1 .tuple (.comp (.b1 .min (.comp (.bin .sub (.var 3) (.var 4)) (.tup (.cons (.name 3) (.cons (.name 4) .nil))) (.zip (.var 1) (.var 2)))) (.name 2) (.seq (.var 0)))))
 .skip)
/-- reached(cams, wish): slots 0 cams, 1 wish, 2 found, 3 cam, 4 shim, 5 place, 6 height -/
def b_reached : IS :=
 (.seq (.asg 2 (.lst .nil))
 (.seq (.for_ (.tup (.cons (.name 3) (.cons (.name 4) .nil))) (.zip (.var 0) (.call 12 (.cons (.var 0) (.cons (.var 1) .nil))))
   (.seq (.expr (.app 2 (.b1 .sum (.compIf (.bin .shl (.lit (.int 1)) (.var 5)) (.tup (.cons (.name 5) (.cons (.name 6) .nil))) (.enum (.var 3)) (.cmp .eq (.bin .add (.var 6) (.var 4)) (.idx (.var 1) (.var 5)))))))
   .skip))
 (.seq (.ret (.var 2))
 .skip)))
/-- few_in(cams, wish): slots 0 cams, 1 wish, 2 sets, 3 good, 4 marks, 5 full, 6 at, 7 own, 8 some, 9 mark -/
def b_few_in : IS :=
 (.seq (.asgT (.tup (.cons (.name 4) (.cons (.name 5) .nil))) (.tup (.cons (.call 13 (.cons (.var 0) (.cons (.var 1) .nil))) (.cons (.bin .sub (.bin .shl (.lit (.int 1)) (.b1 .len (.var 1))) (.lit (.int 1))) .nil))))
 (.seq (.asg 2 (.lst (.cons (.tup (.cons (.tup .nil) (.cons (.lit (.int 0)) .nil))) .nil)))
 (.seq (.for_ (.tup (.cons (.name 6) (.cons (.name 7) .nil))) (.enum (.var 4))
   (.seq (.asg 2 (.bin .add (.var 2) (.comp (.tup (.cons (.bin .add (.var 8) (.tup (.cons (.var 6) .nil))) (.cons (.bin .bor (.var 9) (.var 7)) .nil))) (.tup (.cons (.name 8) (.cons (.name 9) .nil))) (.seq (.var 2)))))
   .skip))
 (.seq (.asg 3 (.compIf (.tup (.cons (.b1 .len (.var 8)) (.cons (.var 8) .nil))) (.tup (.cons (.name 8) (.cons (.name 9) .nil))) (.seq (.var 2)) (.cmp .eq (.var 9) (.var 5))))
 (.seq (.ret (.ite (.cmp .ne (.var 3) (.lst .nil)) (.idx (.b1 .min (.var 3)) (.lit (.int 1))) (.lit .none)))
 .skip)))))
/-- are_cams(value): slots 0 value -/
def b_are_cams : IS :=
 (.seq (.ret (.call 8 (.cons (.var 0) .nil)))
 .skip)
/-- follower(cams, shims): slots 0 cams, 1 shims -/
def b_follower : IS :=
 (.seq (.expr (.call 9 (.cons (.var 0) .nil)))
 (.seq (.ite (.not (.call 4 (.cons (.var 1) (.cons (.b1 .len (.var 0)) (.cons (.neg (.gint "SHIM" 10000000)) (.cons (.gint "SHIM" 10000000) .nil))))))
   (.seq .never
   .skip)
   .skip)
 (.seq (.ret (.call 11 (.cons (.var 0) (.cons (.var 1) .nil))))
 .skip)))
/-- greatest_shims(cams, wish): slots 0 cams, 1 wish -/
def b_greatest_shims : IS :=
 (.seq (.expr (.call 10 (.cons (.var 0) (.cons (.var 1) .nil))))
 (.seq (.ret (.call 12 (.cons (.var 0) (.cons (.var 1) .nil))))
 .skip))
/-- shims_for(cams, wish): slots 0 cams, 1 wish, 2 shims -/
def b_shims_for : IS :=
 (.seq (.expr (.call 10 (.cons (.var 0) (.cons (.var 1) .nil))))
 (.seq (.asg 2 (.call 12 (.cons (.var 0) (.cons (.var 1) .nil))))
 (.seq (.ret (.ite (.cmp .eq (.call 11 (.cons (.var 0) (.cons (.var 2) .nil))) (.var 1)) (.var 2) (.lit .none)))
 .skip)))
/-- bare_place(cams, wish): slots 0 cams, 1 wish, 2 high, 3 some, 4 place, 5 height -/
def b_bare_place : IS :=
 (.seq (.expr (.call 10 (.cons (.var 0) (.cons (.var 1) .nil))))
 (.seq (.asg 2 (.call 11 (.cons (.var 0) (.cons (.call 12 (.cons (.var 0) (.cons (.var 1) .nil))) .nil))))
 (.seq (.asg 3 (.compIf (.var 4) (.tup (.cons (.name 4) (.cons (.name 5) .nil))) (.enum (.var 1)) (.cmp .lt (.idx (.var 2) (.var 4)) (.var 5))))
 (.seq (.ret (.ite (.cmp .ne (.var 3) (.lst .nil)) (.idx (.var 3) (.lit (.int 0))) (.lit .none)))
 .skip))))
/-- are_shims(cams, wish, value): slots 0 cams, 1 wish, 2 value -/
def b_are_shims : IS :=
 (.seq (.expr (.call 10 (.cons (.var 0) (.cons (.var 1) .nil))))
 (.seq (.ret (.and (.cons (.call 4 (.cons (.var 2) (.cons (.b1 .len (.var 0)) (.cons (.neg (.gint "SHIM" 10000000)) (.cons (.gint "SHIM" 10000000) .nil))))) (.cons (.cmp .eq (.call 11 (.cons (.var 0) (.cons (.var 2) .nil))) (.var 1)) .nil))))
 .skip))
/-- is_bare_place(cams, wish, value): slots 0 cams, 1 wish, 2 value -/
def b_is_bare_place : IS :=
 (.seq (.expr (.call 10 (.cons (.var 0) (.cons (.var 1) .nil))))
 (.seq (.ite (.not (.call 0 (.cons (.var 2) (.cons (.lit (.int 0)) (.cons (.bin .sub (.b1 .len (.var 1)) (.lit (.int 1))) .nil)))))
   (.seq (.ret (.lit (.bool false)))
   .skip)
   .skip)
 (.seq (.ret (.cmp .lt (.idx (.call 11 (.cons (.var 0) (.cons (.call 12 (.cons (.var 0) (.cons (.var 1) .nil))) .nil))) (.var 2)) (.idx (.var 1) (.var 2))))
 .skip)))
/-- fewest_cams(cams, wish): slots 0 cams, 1 wish, 2 some -/
def b_fewest_cams : IS :=
 (.seq (.expr (.call 10 (.cons (.var 0) (.cons (.var 1) .nil))))
 (.seq (.asg 2 (.call 14 (.cons (.var 0) (.cons (.var 1) .nil))))
 (.seq (.ret (.ite (.cmp .isnN (.var 2) (.lit .none)) (.b1 .len (.var 2)) (.lit .none)))
 .skip)))
/-- few_set(cams, wish): slots 0 cams, 1 wish -/
def b_few_set : IS :=
 (.seq (.expr (.call 10 (.cons (.var 0) (.cons (.var 1) .nil))))
 (.seq (.ret (.call 14 (.cons (.var 0) (.cons (.var 1) .nil))))
 .skip))
/-- does_set(cams, wish, value): slots 0 cams, 1 wish, 2 value, 3 some, 4 at -/
def b_does_set : IS :=
 (.seq (.expr (.call 10 (.cons (.var 0) (.cons (.var 1) .nil))))
 (.seq (.ite (.or (.cons (.not (.call 3 (.cons (.var 2) (.cons (.b1 .len (.var 0)) .nil)))) (.cons (.cmp .eq (.var 2) (.tup .nil)) .nil)))
   (.seq (.ret (.lit (.bool false)))
   .skip)
   .skip)
 (.seq (.asg 3 (.b1 .tuple (.comp (.idx (.var 0) (.var 4)) (.name 4) (.seq (.var 2)))))
 (.seq (.ret (.cmp .eq (.call 11 (.cons (.var 3) (.cons (.call 12 (.cons (.var 3) (.cons (.var 1) .nil))) .nil))) (.var 1)))
 .skip))))
/-- _law_cup(script): slots 0 script, 1 cell -/
def b__law_cup : IS :=
 (.seq (.asg 1 (.b1 .abs (.idx (.bin .add (.b1 .list (.var 0)) (.lst (.cons (.lit (.int 0)) .nil))) (.lit (.int 0)))))
 (.seq (.ret (.lst (.cons (.ite (.cmp .ge (.var 1) (.bin .pow (.lit (.int 10)) (.lit (.int 18)))) (.bin .fdiv (.var 1) (.lit (.int 127))) (.lit (.int 0))) (.cons (.bin .add (.bin .mod (.b1 .int (.bin .add (.bin .mul (.var 1) (.lit (.int 373))) (.lit (.int 5407)))) (.lit (.int 1974129427))) (.lit (.int 229))) .nil))))
 .skip))
/-- _law_roll(cup, many): slots 0 cup, 1 many, 2 deep, 3 found -/
def b__law_roll : IS :=
 (.seq (.ite (.cmp .gt (.idx (.var 0) (.lit (.int 0))) (.lit (.int 0)))
   (.seq (.asg 3 (.bin .mod (.b1 .int (.idx (.var 0) (.lit (.int 0)))) (.var 1)))
   (.seq (.setix 0 (.lit (.int 0)) (.bin .fdiv (.idx (.var 0) (.lit (.int 0))) (.var 1)))
   (.seq (.ret (.var 3))
   .skip)))
   .skip)
 (.seq (.setix 0 (.lit (.int 1)) (.bin .mod (.b1 .int (.bin .add (.bin .mul (.idx (.var 0) (.lit (.int 1))) (.lit (.int 29917))) (.lit (.int 9103)))) (.lit (.int 2147483543))))
 (.seq (.asg 2 (.bin .mod (.b1 .int (.bin .mul (.idx (.var 0) (.lit (.int 1))) (.bin .add (.idx (.var 0) (.lit (.int 1))) (.lit (.int 307))))) (.lit (.int 2147483587))))
 (.seq (.ret (.bin .mod (.b1 .int (.bin .fdiv (.var 2) (.lit (.int 887)))) (.var 1)))
 .skip))))
/-- _law_some(cup, things): slots 0 cup, 1 things -/
def b__law_some : IS :=
 (.seq (.ret (.idx (.var 1) (.call 26 (.cons (.var 0) (.cons (.b1 .len (.var 1)) .nil)))))
 .skip)
/-- _law_sort(value): slots 0 value -/
def b__law_sort : IS :=
 (.seq (.ite (.or (.cons (.cmp .isN (.var 0) (.lit .none)) (.cons (.isi (.var 0) .bool) .nil)))
   (.seq (.ret (.ite (.cmp .isN (.var 0) (.lit .none)) (.lit (.int 0)) (.lit (.int 1))))
   .skip)
   .skip)
 (.seq (.ite (.or (.cons (.isi (.var 0) .int) (.cons (.isi (.var 0) .str) .nil)))
   (.seq (.ret (.ite (.isi (.var 0) .int) (.lit (.int 2)) (.lit (.int 3))))
   .skip)
   .skip)
 (.seq (.ret (.ite (.isi (.var 0) .tuple) (.lit (.int 4)) (.ite (.isi (.var 0) .list) (.lit (.int 5)) (.lit (.int 6)))))
 .skip)))
/-- _law_like(one, other): slots 0 one, 1 other, 2 sort, 3 first, 4 second -/
def b__law_like : IS :=
 (.seq (.asg 2 (.call 28 (.cons (.var 1) .nil)))
 (.seq (.ite (.or (.cons (.cmp .ne (.call 28 (.cons (.var 0) .nil)) (.var 2)) (.cons (.cmp .eq (.var 2) (.lit (.int 6))) .nil)))
   (.seq (.ret (.lit (.bool false)))
   .skip)
   .skip)
 (.seq (.ite (.cmp .in_ (.var 2) (.tup (.cons (.lit (.int 4)) (.cons (.lit (.int 5)) .nil))))
   (.seq (.ret (.and (.cons (.cmp .eq (.b1 .len (.var 0)) (.b1 .len (.var 1))) (.cons (.cmp .eq (.compIf (.lit (.int 1)) (.tup (.cons (.name 3) (.cons (.name 4) .nil))) (.zip (.var 0) (.var 1)) (.not (.call 29 (.cons (.var 3) (.cons (.var 4) .nil))))) (.lst .nil)) .nil))))
   .skip)
   .skip)
 (.seq (.ret (.cmp .eq (.var 0) (.var 1)))
 .skip))))
/-- _law_bent(cup, value): slots 0 cup, 1 value, 2 way, 3 at -/
def b__law_bent : IS :=
 (.seq (.ite (.and (.cons (.isi (.var 1) .tuple) (.cons (.cmp .ne (.var 1) (.tup .nil)) (.cons (.cmp .gt (.call 26 (.cons (.var 0) (.cons (.lit (.int 4)) .nil))) (.lit (.int 0))) .nil))))
   (.seq (.asg 3 (.call 26 (.cons (.var 0) (.cons (.b1 .len (.var 1)) .nil))))
   (.seq (.ret (.bin .add (.bin .add (.shi (.var 1) (.var 3)) (.tup (.cons (.call 30 (.cons (.var 0) (.cons (.idx (.var 1) (.var 3)) .nil))) .nil))) (.slo (.var 1) (.bin .add (.var 3) (.lit (.int 1))))))
   .skip))
   .skip)
 (.seq (.asg 2 (.call 26 (.cons (.var 0) (.cons (.lit (.int 5)) .nil))))
 (.seq (.ite (.isi (.var 1) .tuple)
   (.seq (.asg 3 (.call 26 (.cons (.var 0) (.cons (.bin .add (.b1 .len (.var 1)) (.lit (.int 1))) .nil))))
   (.seq (.ite (.cmp .eq (.var 2) (.lit (.int 0)))
     (.seq (.ret (.b1 .list (.var 1)))
     .skip)
     .skip)
   (.seq (.ite (.cmp .eq (.var 2) (.lit (.int 1)))
     (.seq (.ret (.bin .add (.shi (.var 1) (.var 3)) (.slo (.var 1) (.bin .add (.var 3) (.lit (.int 1))))))
     .skip)
     .skip)
   (.seq (.ret (.ite (.cmp .eq (.var 2) (.lit (.int 2))) (.bin .add (.bin .add (.shi (.var 1) (.var 3)) (.bin .mul (.slc (.var 1) (.var 3) (.bin .add (.var 3) (.lit (.int 1)))) (.lit (.int 2)))) (.slo (.var 1) (.bin .add (.var 3) (.lit (.int 1))))) (.ite (.cmp .eq (.var 2) (.lit (.int 3))) (.rvs (.var 1)) (.lit .none))))
   .skip))))
   .skip)
 (.seq (.ite (.or (.cons (.cmp .isN (.var 1) (.lit .none)) (.cons (.isi (.var 1) .str) .nil)))
   (.seq (.ret (.call 27 (.cons (.var 0) (.cons (.lst (.cons (.lit (.int 0)) (.cons (.lit (.int 1)) (.cons (.tup .nil) (.cons (.lit (.str "")) (.cons (.lit .none) (.cons (.tup (.cons (.lit (.str "sign")) .nil)) .nil))))))) .nil))))
   .skip)
   .skip)
 (.seq (.ret (.call 27 (.cons (.var 0) (.cons (.lst (.cons (.bin .add (.var 1) (.lit (.int 1))) (.cons (.bin .sub (.var 1) (.lit (.int 1))) (.cons (.neg (.var 1)) (.cons (.cmp .eq (.var 1) (.lit (.int 1))) (.cons (.lit .none) (.cons (.lit (.int 0)) (.cons (.b1 .str (.var 1)) (.cons (.tup (.cons (.var 1) .nil)) .nil))))))))) .nil))))
 .skip)))))
/-- _law_mixed(cup, things): slots 0 cup, 1 things, 2 turn, 3 left, 4 found -/
def b__law_mixed : IS :=
 (.seq (.parO 3 4 (.b1 .list (.var 1)) (.lst .nil))
 (.seq (.for_ (.name 2) (.rng1 (.b1 .len (.var 1)))
   (.seq (.expr (.app 4 (.popAt 3 (.call 26 (.cons (.var 0) (.cons (.b1 .len (.var 3)) .nil))))))
   .skip))
 (.seq (.ret (.b1 .tuple (.var 4)))
 .skip)))
/-- _law_whole(value, low, high): slots 0 value, 1 low, 2 high -/
def b__law_whole : IS :=
 (.seq (.ret (.and (.cons (.cmp .eq (.call 28 (.cons (.var 0) .nil)) (.lit (.int 2))) (.cons (.cmp2 .le .le (.var 1) (.var 0) (.var 2)) .nil))))
 .skip)
/-- _law_cam(cup, many, top): slots 0 cup, 1 many, 2 top, 3 place -/
def b__law_cam : IS :=
 (.seq (.ret (.b1 .tuple (.comp (.call 27 (.cons (.var 0) (.cons (.lst (.cons (.lit (.int 0)) (.cons (.var 2) (.cons (.bin .sub (.call 26 (.cons (.var 0) (.cons (.bin .add (.bin .mul (.lit (.int 2)) (.var 2)) (.lit (.int 1))) .nil))) (.var 2)) (.cons (.bin .sub (.call 26 (.cons (.var 0) (.cons (.bin .add (.bin .mul (.lit (.int 2)) (.var 2)) (.lit (.int 1))) .nil))) (.var 2)) .nil))))) .nil))) (.name 3) (.rng1 (.var 1)))))
 .skip)
/-- _law_follows(cams, shims): slots 0 cams, 1 shims, 2 place, 3 cam, 4 shim -/
def b__law_follows : IS :=
 (.seq (.ret (.b1 .tuple (.comp (.b1 .max (.comp (.bin .add (.idx (.var 3) (.var 2)) (.var 4)) (.tup (.cons (.name 3) (.cons (.name 4) .nil))) (.zip (.var 0) (.var 1)))) (.name 2) (.rng1 (.b1 .len (.idx (.var 0) (.lit (.int 0))))))))
 .skip)
/-- _law_greatest(cams, wish): slots 0 cams, 1 wish, 2 cam, 3 high, 4 own -/
def b__law_greatest : IS :=
 (.seq (.ret (.b1 .tuple (.comp (.b1 .min (.comp (.bin .sub (.var 3) (.var 4)) (.tup (.cons (.name 3) (.cons (.name 4) .nil))) (.zip (.var 1) (.var 2)))) (.name 2) (.seq (.var 0)))))
 .skip)
/-- _law_are_shims(cams, wish, value): slots 0 cams, 1 wish, 2 value, 3 one -/
def b__law_are_shims : IS :=
 (.seq (.ite (.or (.cons (.cmp .ne (.call 28 (.cons (.var 2) .nil)) (.lit (.int 4))) (.cons (.cmp .ne (.b1 .len (.var 2)) (.b1 .len (.var 0))) (.cons (.cmp .ne (.compIf (.lit (.int 1)) (.name 3) (.seq (.var 2)) (.not (.call 32 (.cons (.var 3) (.cons (.neg (.lit (.int 10000000))) (.cons (.lit (.int 10000000)) .nil)))))) (.lst .nil)) .nil))))
   (.seq (.ret (.lit (.bool false)))
   .skip)
   .skip)
 (.seq (.ret (.cmp .eq (.call 34 (.cons (.var 0) (.cons (.var 2) .nil))) (.var 1)))
 .skip))
/-- _law_does(cams, wish, value): slots 0 cams, 1 wish, 2 value, 3 some, 4 at -/
def b__law_does : IS :=
 (.seq (.ite (.or (.cons (.cmp .ne (.call 28 (.cons (.var 2) .nil)) (.lit (.int 4))) (.cons (.cmp .eq (.var 2) (.tup .nil)) (.cons (.cmp .ne (.compIf (.lit (.int 1)) (.name 4) (.seq (.var 2)) (.not (.call 32 (.cons (.var 4) (.cons (.lit (.int 0)) (.cons (.bin .sub (.b1 .len (.var 0)) (.lit (.int 1))) .nil)))))) (.lst .nil)) .nil))))
   (.seq (.ret (.lit (.bool false)))
   .skip)
   .skip)
 (.seq (.ite (.cmp .ne (.b1 .list (.var 2)) (.sset (.var 2)))
   (.seq (.ret (.lit (.bool false)))
   .skip)
   .skip)
 (.seq (.asg 3 (.comp (.idx (.var 0) (.var 4)) (.name 4) (.seq (.var 2))))
 (.seq (.ret (.cmp .eq (.call 34 (.cons (.var 3) (.cons (.call 35 (.cons (.var 3) (.cons (.var 1) .nil))) .nil))) (.var 1)))
 .skip))))
/-- _law_are_cams(value): slots 0 value, 1 cam, 2 one -/
def b__law_are_cams : IS :=
 (.seq (.ite (.or (.cons (.cmp .ne (.call 28 (.cons (.var 0) .nil)) (.lit (.int 4))) (.cons (.not (.cmp2 .le .le (.lit (.int 1)) (.b1 .len (.var 0)) (.lit (.int 12)))) (.cons (.cmp .ne (.compIf (.lit (.int 1)) (.name 1) (.seq (.var 0)) (.or (.cons (.cmp .ne (.call 28 (.cons (.var 1) .nil)) (.lit (.int 4))) (.cons (.not (.cmp2 .le .le (.lit (.int 1)) (.b1 .len (.var 1)) (.lit (.int 60)))) .nil)))) (.lst .nil)) .nil))))
   (.seq (.ret (.lit (.bool false)))
   .skip)
   .skip)
 (.seq (.for_ (.name 1) (.seq (.var 0))
   (.seq (.ite (.or (.cons (.cmp .ne (.b1 .len (.var 1)) (.b1 .len (.idx (.var 0) (.lit (.int 0))))) (.cons (.cmp .ne (.compIf (.lit (.int 1)) (.name 2) (.seq (.var 1)) (.not (.call 32 (.cons (.var 2) (.cons (.neg (.lit (.int 1000000))) (.cons (.lit (.int 1000000)) .nil)))))) (.lst .nil)) .nil)))
     (.seq (.ret (.lit (.bool false)))
     .skip)
     .skip)
   .skip))
 (.seq (.ret (.lit (.bool true)))
 .skip)))
/-- _law_right(cup, cams, wish): slots 0 cup, 1 cams, 2 wish, 3 high, 4 places, 5 value, 6 values, 7 most, 8 bare, 9 told, 10 every, 11 few, 12 some, 13 place, 14 one, 15 other -/
def b__law_right : IS :=
 (.seq (.par3 7 8 9 (.call 35 (.cons (.var 1) (.cons (.var 2) .nil))) (.call 19 (.cons (.var 1) (.cons (.var 2) .nil))) (.call 18 (.cons (.var 1) (.cons (.var 2) .nil))))
 (.seq (.asg 3 (.call 34 (.cons (.var 1) (.cons (.var 7) .nil))))
 (.seq (.asg 4 (.compIf (.var 13) (.name 13) (.rng1 (.b1 .len (.var 2))) (.cmp .lt (.idx (.var 3) (.var 13)) (.idx (.var 2) (.var 13)))))
 (.seq (.ite (.not (.call 29 (.cons (.lst (.cons (.call 17 (.cons (.var 1) (.cons (.var 2) .nil))) (.cons (.cmp .isN (.var 8) (.lit .none)) (.cons (.cmp .isnN (.var 9) (.lit .none)) .nil)))) (.cons (.lst (.cons (.var 7) (.cons (.cmp .eq (.var 4) (.lst .nil)) (.cons (.cmp .eq (.var 4) (.lst .nil)) .nil)))) .nil))))
   (.seq (.ret (.lit (.bool false)))
   .skip)
   .skip)
 (.seq (.ite (.or (.cons (.and (.cons (.cmp .isnN (.var 8) (.lit .none)) (.cons (.not (.and (.cons (.cmp .eq (.call 28 (.cons (.var 8) .nil)) (.lit (.int 2))) (.cons (.cmp .in_ (.var 8) (.var 4)) .nil)))) .nil))) (.cons (.and (.cons (.cmp .isnN (.var 9) (.lit .none)) (.cons (.not (.call 36 (.cons (.var 1) (.cons (.var 2) (.cons (.var 9) .nil))))) .nil))) .nil)))
   (.seq (.ret (.lit (.bool false)))
   .skip)
   .skip)
 (.seq (.ite (.and (.cons (.cmp .isnN (.var 9) (.lit .none)) (.cons (.cmp .ne (.compIf (.lit (.int 1)) (.tup (.cons (.name 14) (.cons (.name 15) .nil))) (.zip (.var 9) (.var 7)) (.cmp .gt (.var 14) (.var 15))) (.lst .nil)) .nil)))
   (.seq (.ret (.lit (.bool false)))
   .skip)
   .skip)
 (.seq (.for_ (.name 5) (.seq (.tup (.cons (.var 7) (.cons (.var 9) (.cons (.call 30 (.cons (.var 0) (.cons (.var 7) .nil))) (.cons (.b1 .tuple (.comp (.bin .add (.var 14) (.lit (.int 1))) (.name 14) (.seq (.var 7)))) (.cons (.b1 .list (.var 7)) (.cons (.lit .none) .nil))))))))
   (.seq (.ite (.not (.call 29 (.cons (.call 20 (.cons (.var 1) (.cons (.var 2) (.cons (.var 5) .nil)))) (.cons (.call 36 (.cons (.var 1) (.cons (.var 2) (.cons (.var 5) .nil)))) .nil))))
     (.seq (.ret (.lit (.bool false)))
     .skip)
     .skip)
   .skip))
 (.seq (.asg 6 (.lst (.cons (.var 8) (.cons (.lit .none) (.cons (.lit (.bool true)) (.cons (.neg (.lit (.int 1))) (.cons (.b1 .len (.var 2)) (.cons (.call 26 (.cons (.var 0) (.cons (.b1 .len (.var 2)) .nil))) .nil))))))))
 (.seq (.ite (.not (.call 29 (.cons (.comp (.call 21 (.cons (.var 1) (.cons (.var 2) (.cons (.var 5) .nil)))) (.name 5) (.seq (.var 6))) (.cons (.comp (.and (.cons (.cmp .eq (.call 28 (.cons (.var 5) .nil)) (.lit (.int 2))) (.cons (.cmp .in_ (.var 5) (.var 4)) .nil))) (.name 5) (.seq (.var 6))) .nil))))
   (.seq (.ret (.lit (.bool false)))
   .skip)
   .skip)
 (.seq (.par3 10 11 12 (.trng (.rng1 (.b1 .len (.var 1)))) (.call 22 (.cons (.var 1) (.cons (.var 2) .nil))) (.call 23 (.cons (.var 1) (.cons (.var 2) .nil))))
 (.seq (.ite (.or (.cons (.not (.call 29 (.cons (.lst (.cons (.cmp .isN (.var 11) (.lit .none)) (.cons (.cmp .isN (.var 12) (.lit .none)) .nil))) (.cons (.lst (.cons (.cmp .ne (.var 4) (.lst .nil)) (.cons (.cmp .ne (.var 4) (.lst .nil)) .nil))) .nil)))) (.cons (.and (.cons (.cmp .isnN (.var 12) (.lit .none)) (.cons (.or (.cons (.cmp .ne (.b1 .len (.var 12)) (.var 11)) (.cons (.not (.call 37 (.cons (.var 1) (.cons (.var 2) (.cons (.var 12) .nil))))) .nil))) .nil))) .nil)))
   (.seq (.ret (.lit (.bool false)))
   .skip)
   .skip)
 (.seq (.for_ (.name 5) (.seq (.tup (.cons (.var 12) (.cons (.var 10) (.cons (.rvs (.var 10)) (.cons (.shi (.var 10) (.lit (.int 1))) (.cons (.tup (.cons (.call 26 (.cons (.var 0) (.cons (.b1 .len (.var 1)) .nil))) .nil)) (.cons (.tup .nil) (.cons (.lit .none) (.cons (.call 30 (.cons (.var 0) (.cons (.var 10) .nil))) .nil))))))))))
   (.seq (.ite (.not (.call 29 (.cons (.call 24 (.cons (.var 1) (.cons (.var 2) (.cons (.var 5) .nil)))) (.cons (.call 37 (.cons (.var 1) (.cons (.var 2) (.cons (.var 5) .nil)))) .nil))))
     (.seq (.ret (.lit (.bool false)))
     .skip)
     .skip)
   .skip))
 (.seq (.ret (.lit (.bool true)))
 .skip)))))))))))))
/-- _law_few(cams, wish): slots 0 cams, 1 wish, 2 at, 3 some, 4 sets, 5 best -/
def b__law_few : IS :=
 (.seq (.par2 4 5 (.lst (.cons (.tup .nil) .nil)) (.lit .none))
 (.seq (.for_ (.name 2) (.rng1 (.b1 .len (.var 0)))
   (.seq (.asg 4 (.bin .add (.var 4) (.comp (.bin .add (.var 3) (.tup (.cons (.var 2) .nil))) (.name 3) (.seq (.var 4)))))
   .skip))
 (.seq (.for_ (.name 3) (.seq (.slo (.var 4) (.lit (.int 1))))
   (.seq (.ite (.call 37 (.cons (.var 0) (.cons (.var 1) (.cons (.var 3) .nil))))
     (.seq (.asg 5 (.ite (.cmp .isN (.var 5) (.lit .none)) (.b1 .len (.var 3)) (.b2 .min (.var 5) (.b1 .len (.var 3)))))
     .skip)
     .skip)
   .skip))
 (.seq (.ret (.var 5))
 .skip))))
/-- _law_small_right(cup): slots 0 cup, 1 cams, 2 shims, 3 wish, 4 at, 5 moved, 6 one, 7 value, 8 many, 9 heights, 10 top, 11 cam, 12 turn -/
def b__law_small_right : IS :=
 (.seq (.asgT (.tup (.cons (.name 8) (.cons (.name 9) (.cons (.name 10) .nil)))) (.tup (.cons (.bin .add (.lit (.int 1)) (.call 26 (.cons (.var 0) (.cons (.lit (.int 4)) .nil)))) (.cons (.bin .add (.lit (.int 1)) (.call 26 (.cons (.var 0) (.cons (.lit (.int 6)) .nil)))) (.cons (.call 27 (.cons (.var 0) (.cons (.lst (.cons (.lit (.int 1)) (.cons (.lit (.int 3)) (.cons (.lit (.int 9)) .nil)))) .nil))) .nil)))))
 (.seq (.asg 1 (.b1 .tuple (.comp (.call 33 (.cons (.var 0) (.cons (.var 9) (.cons (.var 10) .nil)))) (.name 11) (.rng1 (.var 8)))))
 (.seq (.asg 2 (.b1 .tuple (.comp (.bin .sub (.call 26 (.cons (.var 0) (.cons (.bin .add (.bin .mul (.lit (.int 2)) (.var 10)) (.lit (.int 1))) .nil))) (.var 10)) (.name 11) (.rng1 (.var 8)))))
 (.seq (.asg 3 (.call 34 (.cons (.var 1) (.cons (.var 2) .nil))))
 (.seq (.ite (.or (.cons (.not (.call 29 (.cons (.lst (.cons (.call 15 (.cons (.var 1) .nil)) (.cons (.call 16 (.cons (.var 1) (.cons (.var 2) .nil))) .nil))) (.cons (.lst (.cons (.lit (.bool true)) (.cons (.var 3) .nil))) .nil)))) (.cons (.cmp .isN (.call 18 (.cons (.var 1) (.cons (.var 3) .nil))) (.lit .none)) .nil)))
   (.seq (.ret (.lit (.bool false)))
   .skip)
   .skip)
 (.seq (.asg 4 (.call 26 (.cons (.var 0) (.cons (.var 9) .nil))))
 (.seq (.asg 5 (.bin .add (.bin .add (.shi (.var 3) (.var 4)) (.tup (.cons (.bin .add (.idx (.var 3) (.var 4)) (.call 27 (.cons (.var 0) (.cons (.lst (.cons (.lit (.int 1)) (.cons (.neg (.lit (.int 1))) (.cons (.lit (.int 2)) .nil)))) .nil)))) .nil))) (.slo (.var 3) (.bin .add (.var 4) (.lit (.int 1))))))
 (.seq (.for_ (.name 6) (.seq (.tup (.cons (.var 3) (.cons (.var 5) .nil))))
   (.seq (.ite (.or (.cons (.not (.call 39 (.cons (.var 0) (.cons (.var 1) (.cons (.var 6) .nil))))) (.cons (.not (.call 29 (.cons (.call 22 (.cons (.var 1) (.cons (.var 6) .nil))) (.cons (.call 40 (.cons (.var 1) (.cons (.var 6) .nil))) .nil)))) .nil)))
     (.seq (.ret (.lit (.bool false)))
     .skip)
     .skip)
   .skip))
 (.seq (.for_ (.name 7) (.seq (.bin .add (.comp (.call 30 (.cons (.var 0) (.cons (.var 1) .nil))) (.name 12) (.rng1 (.lit (.int 3)))) (.lst (.cons (.idx (.var 1) (.lit (.int 0))) (.cons (.b1 .list (.var 1)) (.cons (.bin .add (.var 1) (.tup (.cons (.slo (.idx (.var 1) (.lit (.int 0))) (.lit (.int 1))) .nil))) .nil))))))
   (.seq (.ite (.not (.call 29 (.cons (.call 15 (.cons (.var 7) .nil)) (.cons (.call 38 (.cons (.var 7) .nil)) .nil))))
     (.seq (.ret (.lit (.bool false)))
     .skip)
     .skip)
   .skip))
 (.seq (.ret (.lit (.bool true)))
 .skip))))))))))
/-- _law_great_right(cup): slots 0 cup, 1 cam, 2 order, 3 cams, 4 told, 5 shims, 6 more, 7 alone, 8 wish, 9 at, 10 place, 11 height -/
def b__law_great_right : IS :=
 (.seq (.parO 3 8 (.lst .nil) (.b1 .tuple (.comp (.call 26 (.cons (.var 0) (.cons (.lit (.int 1000)) .nil))) (.name 10) (.rng1 (.lit (.int 60))))))
 (.seq (.for_ (.name 1) (.rng1 (.lit (.int 12)))
   (.seq (.expr (.app 3 (.b1 .tuple (.comp (.ite (.cmp .eq (.bin .fdiv (.var 10) (.lit (.int 5))) (.var 1)) (.bin .add (.idx (.var 8) (.var 10)) (.var 1)) (.bin .sub (.bin .sub (.bin .add (.idx (.var 8) (.var 10)) (.var 1)) (.lit (.int 1))) (.call 26 (.cons (.var 0) (.cons (.lit (.int 9)) .nil))))) (.name 10) (.rng1 (.lit (.int 60)))))))
   .skip))
 (.seq (.asg 2 (.call 31 (.cons (.var 0) (.cons (.lrng (.rng1 (.lit (.int 12)))) .nil))))
 (.seq (.asg 3 (.b1 .tuple (.comp (.idx (.var 3) (.var 9)) (.name 9) (.seq (.var 2)))))
 (.seq (.asg 4 (.lst (.cons (.call 17 (.cons (.var 3) (.cons (.var 8) .nil))) (.cons (.call 18 (.cons (.var 3) (.cons (.var 8) .nil))) (.cons (.call 22 (.cons (.var 3) (.cons (.var 8) .nil))) (.cons (.call 23 (.cons (.var 3) (.cons (.var 8) .nil))) (.cons (.cmp .isN (.call 19 (.cons (.slo (.var 3) (.lit (.int 1))) (.cons (.var 8) .nil))) (.lit .none)) .nil)))))))
 (.seq (.asg 5 (.b1 .tuple (.comp (.neg (.var 9)) (.name 9) (.seq (.var 2)))))
 (.seq (.ite (.or (.cons (.not (.call 29 (.cons (.var 4) (.cons (.lst (.cons (.var 5) (.cons (.var 5) (.cons (.lit (.int 12)) (.cons (.trng (.rng1 (.lit (.int 12)))) (.cons (.lit (.bool false)) .nil)))))) .nil)))) (.cons (.not (.call 21 (.cons (.slo (.var 3) (.lit (.int 1))) (.cons (.var 8) (.cons (.bin .mul (.lit (.int 5)) (.idx (.var 2) (.lit (.int 0)))) .nil))))) .nil)))
   (.seq (.ret (.lit (.bool false)))
   .skip)
   .skip)
 (.seq (.asg 6 (.bin .sub (.call 26 (.cons (.var 0) (.cons (.lit (.int 2001)) .nil))) (.lit (.int 1000))))
 (.seq (.asg 7 (.bin .add (.shi (.var 3) (.lit (.int 11))) (.tup (.cons (.b1 .tuple (.comp (.bin .sub (.var 11) (.var 6)) (.name 11) (.seq (.var 8)))) .nil))))
 (.seq (.asg 4 (.lst (.cons (.call 22 (.cons (.var 7) (.cons (.var 8) .nil))) (.cons (.call 23 (.cons (.var 7) (.cons (.var 8) .nil))) (.cons (.idx (.call 17 (.cons (.var 7) (.cons (.var 8) .nil))) (.lit (.int 11))) .nil)))))
 (.seq (.ret (.and (.cons (.call 29 (.cons (.var 4) (.cons (.lst (.cons (.lit (.int 1)) (.cons (.tup (.cons (.lit (.int 11)) .nil)) (.cons (.var 6) .nil)))) .nil))) (.cons (.call 39 (.cons (.var 0) (.cons (.var 3) (.cons (.var 8) .nil)))) .nil))))
 .skip)))))))))))
/-- _law_written_right(): slots 0 some, 1 told -/
def b__law_written_right : IS :=
 (.seq (.asg 0 (.tup (.cons (.tup (.cons (.lit (.int 0)) (.cons (.lit (.int 3)) (.cons (.lit (.int 0)) .nil)))) (.cons (.tup (.cons (.lit (.int 2)) (.cons (.lit (.int 0)) (.cons (.lit (.int 1)) .nil)))) .nil))))
 (.seq (.asg 1 (.lst (.cons (.call 16 (.cons (.var 0) (.cons (.tup (.cons (.lit (.int 1)) (.cons (.lit (.int 0)) .nil))) .nil))) (.cons (.call 17 (.cons (.var 0) (.cons (.tup (.cons (.lit (.int 2)) (.cons (.lit (.int 4)) (.cons (.lit (.int 1)) .nil)))) .nil))) (.cons (.call 18 (.cons (.var 0) (.cons (.tup (.cons (.lit (.int 2)) (.cons (.lit (.int 4)) (.cons (.lit (.int 1)) .nil)))) .nil))) .nil)))))
 (.seq (.asg 1 (.bin .add (.var 1) (.lst (.cons (.call 19 (.cons (.var 0) (.cons (.tup (.cons (.lit (.int 2)) (.cons (.lit (.int 4)) (.cons (.lit (.int 1)) .nil)))) .nil))) (.cons (.call 17 (.cons (.var 0) (.cons (.tup (.cons (.lit (.int 5)) (.cons (.lit (.int 4)) (.cons (.lit (.int 1)) .nil)))) .nil))) (.cons (.call 18 (.cons (.var 0) (.cons (.tup (.cons (.lit (.int 5)) (.cons (.lit (.int 4)) (.cons (.lit (.int 1)) .nil)))) .nil))) (.cons (.call 19 (.cons (.var 0) (.cons (.tup (.cons (.lit (.int 5)) (.cons (.lit (.int 4)) (.cons (.lit (.int 1)) .nil)))) .nil))) .nil)))))))
 (.seq (.asg 1 (.bin .add (.var 1) (.lst (.cons (.call 22 (.cons (.var 0) (.cons (.tup (.cons (.lit (.int 2)) (.cons (.lit (.int 4)) (.cons (.lit (.int 1)) .nil)))) .nil))) (.cons (.call 23 (.cons (.var 0) (.cons (.tup (.cons (.lit (.int 7)) (.cons (.lit (.int 10)) (.cons (.lit (.int 7)) .nil)))) .nil))) (.cons (.call 24 (.cons (.var 0) (.cons (.tup (.cons (.lit (.int 7)) (.cons (.lit (.int 10)) (.cons (.lit (.int 7)) .nil)))) (.cons (.tup (.cons (.lit (.int 1)) .nil)) .nil)))) (.cons (.call 22 (.cons (.var 0) (.cons (.tup (.cons (.lit (.int 5)) (.cons (.lit (.int 4)) (.cons (.lit (.int 1)) .nil)))) .nil))) (.cons (.call 23 (.cons (.var 0) (.cons (.tup (.cons (.lit (.int 5)) (.cons (.lit (.int 4)) (.cons (.lit (.int 1)) .nil)))) .nil))) .nil))))))))
 (.seq (.asg 1 (.bin .add (.var 1) (.lst (.cons (.call 18 (.cons (.tup (.cons (.tup (.cons (.lit (.int 4)) .nil)) .nil)) (.cons (.tup (.cons (.neg (.lit (.int 9))) .nil)) .nil))) (.cons (.call 21 (.cons (.var 0) (.cons (.tup (.cons (.lit (.int 5)) (.cons (.lit (.int 4)) (.cons (.lit (.int 1)) .nil)))) (.cons (.lit (.bool false)) .nil)))) .nil)))))
 (.seq (.ret (.call 29 (.cons (.var 1) (.cons (.lst (.cons (.tup (.cons (.lit (.int 2)) (.cons (.lit (.int 4)) (.cons (.lit (.int 1)) .nil)))) (.cons (.tup (.cons (.lit (.int 1)) (.cons (.lit (.int 0)) .nil))) (.cons (.tup (.cons (.lit (.int 1)) (.cons (.lit (.int 0)) .nil))) (.cons (.lit .none) (.cons (.tup (.cons (.lit (.int 1)) (.cons (.lit (.int 0)) .nil))) (.cons (.lit .none) (.cons (.lit (.int 0)) (.cons (.lit (.int 2)) (.cons (.tup (.cons (.lit (.int 0)) .nil)) (.cons (.lit (.bool false)) (.cons (.lit .none) (.cons (.lit .none) (.cons (.tup (.cons (.neg (.lit (.int 13))) .nil)) (.cons (.lit (.bool false)) .nil))))))))))))))) .nil))))
 .skip))))))
/-- law(script): slots 0 script, 1 cup, 2 turn -/
def b_law : IS :=
 (.seq (.asg 1 (.call 25 (.cons (.var 0) .nil)))
 (.seq (.for_ (.name 2) (.rng1 (.lit (.int 5)))
   (.seq (.ite (.not (.call 41 (.cons (.var 1) .nil)))
     (.seq (.ret (.lit (.bool false)))
     .skip)
     .skip)
   .skip))
 (.seq (.ret (.and (.cons (.call 42 (.cons (.var 1) .nil)) (.cons (.call 43 .nil) .nil))))
 .skip)))
def fs : List Fn := [⟨3, 3, b_is_whole⟩,
  ⟨3, 3, b_is_tuple_of⟩,
  ⟨3, 1, b_is_ascending⟩,
  ⟨3, 2, b_is_set_below⟩,
  ⟨5, 4, b_are_wholes⟩,
  ⟨4, 3, b_is_ring⟩,
  ⟨1, 1, b_need_cam⟩,
  ⟨1, 1, b_is_cam⟩,
  ⟨2, 1, b_are_together⟩,
  ⟨1, 1, b_need_cams⟩,
  ⟨2, 2, b_need_wish⟩,
  ⟨8, 2, b_follows⟩,
  ⟨5, 2, b_greatest_in⟩,
  ⟨7, 2, b_reached⟩,
  ⟨10, 2, b_few_in⟩,
  ⟨1, 1, b_are_cams⟩,
  ⟨2, 2, b_follower⟩,
  ⟨2, 2, b_greatest_shims⟩,
  ⟨3, 2, b_shims_for⟩,
  ⟨6, 2, b_bare_place⟩,
  ⟨3, 3, b_are_shims⟩,
  ⟨3, 3, b_is_bare_place⟩,
  ⟨3, 2, b_fewest_cams⟩,
  ⟨2, 2, b_few_set⟩,
  ⟨5, 3, b_does_set⟩,
  ⟨2, 1, b__law_cup⟩,
  ⟨4, 2, b__law_roll⟩,
  ⟨2, 2, b__law_some⟩,
  ⟨1, 1, b__law_sort⟩,
  ⟨5, 2, b__law_like⟩,
  ⟨4, 2, b__law_bent⟩,
  ⟨5, 2, b__law_mixed⟩,
  ⟨3, 3, b__law_whole⟩,
  ⟨4, 3, b__law_cam⟩,
  ⟨5, 2, b__law_follows⟩,
  ⟨5, 2, b__law_greatest⟩,
  ⟨4, 3, b__law_are_shims⟩,
  ⟨5, 3, b__law_does⟩,
  ⟨3, 1, b__law_are_cams⟩,
  ⟨16, 3, b__law_right⟩,
  ⟨6, 2, b__law_few⟩,
  ⟨13, 1, b__law_small_right⟩,
  ⟨12, 1, b__law_great_right⟩,
  ⟨2, 0, b__law_written_right⟩,
  ⟨3, 1, b_law⟩]
theorem u_is_whole (n : Nat) (a0 a1 a2 : Wk.Arg) : evC fs (n + 1) 0 [a0, a1, a2] = endOf [a0, a1, a2] (evS (evC fs n) b_is_whole [slOf a0, slOf a1, slOf a2]) := Wk.evC_at (fn := ⟨3, 3, b_is_whole⟩) (id rfl) (id rfl)
theorem u_is_tuple_of (n : Nat) (a0 a1 a2 : Wk.Arg) : evC fs (n + 1) 1 [a0, a1, a2] = endOf [a0, a1, a2] (evS (evC fs n) b_is_tuple_of [slOf a0, slOf a1, slOf a2]) := Wk.evC_at (fn := ⟨3, 3, b_is_tuple_of⟩) (id rfl) (id rfl)
theorem u_is_ascending (n : Nat) (a0 : Wk.Arg) : evC fs (n + 1) 2 [a0] = endOf [a0] (evS (evC fs n) b_is_ascending [slOf a0, .no, .no]) := Wk.evC_at (fn := ⟨3, 1, b_is_ascending⟩) (id rfl) (id rfl)
theorem u_is_set_below (n : Nat) (a0 a1 : Wk.Arg) : evC fs (n + 1) 3 [a0, a1] = endOf [a0, a1] (evS (evC fs n) b_is_set_below [slOf a0, slOf a1, .no]) := Wk.evC_at (fn := ⟨3, 2, b_is_set_below⟩) (id rfl) (id rfl)
theorem u_are_wholes (n : Nat) (a0 a1 a2 a3 : Wk.Arg) : evC fs (n + 1) 4 [a0, a1, a2, a3] = endOf [a0, a1, a2, a3] (evS (evC fs n) b_are_wholes [slOf a0, slOf a1, slOf a2, slOf a3, .no]) := Wk.evC_at (fn := ⟨5, 4, b_are_wholes⟩) (id rfl) (id rfl)
theorem u_is_ring (n : Nat) (a0 a1 a2 : Wk.Arg) : evC fs (n + 1) 5 [a0, a1, a2] = endOf [a0, a1, a2] (evS (evC fs n) b_is_ring [slOf a0, slOf a1, slOf a2, .no]) := Wk.evC_at (fn := ⟨4, 3, b_is_ring⟩) (id rfl) (id rfl)
theorem u_need_cam (n : Nat) (a0 : Wk.Arg) : evC fs (n + 1) 6 [a0] = endOf [a0] (evS (evC fs n) b_need_cam [slOf a0]) := Wk.evC_at (fn := ⟨1, 1, b_need_cam⟩) (id rfl) (id rfl)
theorem u_is_cam (n : Nat) (a0 : Wk.Arg) : evC fs (n + 1) 7 [a0] = endOf [a0] (evS (evC fs n) b_is_cam [slOf a0]) := Wk.evC_at (fn := ⟨1, 1, b_is_cam⟩) (id rfl) (id rfl)
theorem u_are_together (n : Nat) (a0 : Wk.Arg) : evC fs (n + 1) 8 [a0] = endOf [a0] (evS (evC fs n) b_are_together [slOf a0, .no]) := Wk.evC_at (fn := ⟨2, 1, b_are_together⟩) (id rfl) (id rfl)
theorem u_need_cams (n : Nat) (a0 : Wk.Arg) : evC fs (n + 1) 9 [a0] = endOf [a0] (evS (evC fs n) b_need_cams [slOf a0]) := Wk.evC_at (fn := ⟨1, 1, b_need_cams⟩) (id rfl) (id rfl)
theorem u_need_wish (n : Nat) (a0 a1 : Wk.Arg) : evC fs (n + 1) 10 [a0, a1] = endOf [a0, a1] (evS (evC fs n) b_need_wish [slOf a0, slOf a1]) := Wk.evC_at (fn := ⟨2, 2, b_need_wish⟩) (id rfl) (id rfl)
theorem u_follows (n : Nat) (a0 a1 : Wk.Arg) : evC fs (n + 1) 11 [a0, a1] = endOf [a0, a1] (evS (evC fs n) b_follows [slOf a0, slOf a1, .no, .no, .no, .no, .no, .no]) := Wk.evC_at (fn := ⟨8, 2, b_follows⟩) (id rfl) (id rfl)
theorem u_greatest_in (n : Nat) (a0 a1 : Wk.Arg) : evC fs (n + 1) 12 [a0, a1] = endOf [a0, a1] (evS (evC fs n) b_greatest_in [slOf a0, slOf a1, .no, .no, .no]) := Wk.evC_at (fn := ⟨5, 2, b_greatest_in⟩) (id rfl) (id rfl)
theorem u_reached (n : Nat) (a0 a1 : Wk.Arg) : evC fs (n + 1) 13 [a0, a1] = endOf [a0, a1] (evS (evC fs n) b_reached [slOf a0, slOf a1, .no, .no, .no, .no, .no]) := Wk.evC_at (fn := ⟨7, 2, b_reached⟩) (id rfl) (id rfl)
theorem u_few_in (n : Nat) (a0 a1 : Wk.Arg) : evC fs (n + 1) 14 [a0, a1] = endOf [a0, a1] (evS (evC fs n) b_few_in [slOf a0, slOf a1, .no, .no, .no, .no, .no, .no, .no, .no]) := Wk.evC_at (fn := ⟨10, 2, b_few_in⟩) (id rfl) (id rfl)
theorem u_are_cams (n : Nat) (a0 : Wk.Arg) : evC fs (n + 1) 15 [a0] = endOf [a0] (evS (evC fs n) b_are_cams [slOf a0]) := Wk.evC_at (fn := ⟨1, 1, b_are_cams⟩) (id rfl) (id rfl)
theorem u_follower (n : Nat) (a0 a1 : Wk.Arg) : evC fs (n + 1) 16 [a0, a1] = endOf [a0, a1] (evS (evC fs n) b_follower [slOf a0, slOf a1]) := Wk.evC_at (fn := ⟨2, 2, b_follower⟩) (id rfl) (id rfl)
theorem u_greatest_shims (n : Nat) (a0 a1 : Wk.Arg) : evC fs (n + 1) 17 [a0, a1] = endOf [a0, a1] (evS (evC fs n) b_greatest_shims [slOf a0, slOf a1]) := Wk.evC_at (fn := ⟨2, 2, b_greatest_shims⟩) (id rfl) (id rfl)
theorem u_shims_for (n : Nat) (a0 a1 : Wk.Arg) : evC fs (n + 1) 18 [a0, a1] = endOf [a0, a1] (evS (evC fs n) b_shims_for [slOf a0, slOf a1, .no]) := Wk.evC_at (fn := ⟨3, 2, b_shims_for⟩) (id rfl) (id rfl)
theorem u_bare_place (n : Nat) (a0 a1 : Wk.Arg) : evC fs (n + 1) 19 [a0, a1] = endOf [a0, a1] (evS (evC fs n) b_bare_place [slOf a0, slOf a1, .no, .no, .no, .no]) := Wk.evC_at (fn := ⟨6, 2, b_bare_place⟩) (id rfl) (id rfl)
theorem u_are_shims (n : Nat) (a0 a1 a2 : Wk.Arg) : evC fs (n + 1) 20 [a0, a1, a2] = endOf [a0, a1, a2] (evS (evC fs n) b_are_shims [slOf a0, slOf a1, slOf a2]) := Wk.evC_at (fn := ⟨3, 3, b_are_shims⟩) (id rfl) (id rfl)
theorem u_is_bare_place (n : Nat) (a0 a1 a2 : Wk.Arg) : evC fs (n + 1) 21 [a0, a1, a2] = endOf [a0, a1, a2] (evS (evC fs n) b_is_bare_place [slOf a0, slOf a1, slOf a2]) := Wk.evC_at (fn := ⟨3, 3, b_is_bare_place⟩) (id rfl) (id rfl)
theorem u_fewest_cams (n : Nat) (a0 a1 : Wk.Arg) : evC fs (n + 1) 22 [a0, a1] = endOf [a0, a1] (evS (evC fs n) b_fewest_cams [slOf a0, slOf a1, .no]) := Wk.evC_at (fn := ⟨3, 2, b_fewest_cams⟩) (id rfl) (id rfl)
theorem u_few_set (n : Nat) (a0 a1 : Wk.Arg) : evC fs (n + 1) 23 [a0, a1] = endOf [a0, a1] (evS (evC fs n) b_few_set [slOf a0, slOf a1]) := Wk.evC_at (fn := ⟨2, 2, b_few_set⟩) (id rfl) (id rfl)
theorem u_does_set (n : Nat) (a0 a1 a2 : Wk.Arg) : evC fs (n + 1) 24 [a0, a1, a2] = endOf [a0, a1, a2] (evS (evC fs n) b_does_set [slOf a0, slOf a1, slOf a2, .no, .no]) := Wk.evC_at (fn := ⟨5, 3, b_does_set⟩) (id rfl) (id rfl)
theorem u__law_cup (n : Nat) (a0 : Wk.Arg) : evC fs (n + 1) 25 [a0] = endOf [a0] (evS (evC fs n) b__law_cup [slOf a0, .no]) := Wk.evC_at (fn := ⟨2, 1, b__law_cup⟩) (id rfl) (id rfl)
theorem u__law_roll (n : Nat) (a0 a1 : Wk.Arg) : evC fs (n + 1) 26 [a0, a1] = endOf [a0, a1] (evS (evC fs n) b__law_roll [slOf a0, slOf a1, .no, .no]) := Wk.evC_at (fn := ⟨4, 2, b__law_roll⟩) (id rfl) (id rfl)
theorem u__law_some (n : Nat) (a0 a1 : Wk.Arg) : evC fs (n + 1) 27 [a0, a1] = endOf [a0, a1] (evS (evC fs n) b__law_some [slOf a0, slOf a1]) := Wk.evC_at (fn := ⟨2, 2, b__law_some⟩) (id rfl) (id rfl)
theorem u__law_sort (n : Nat) (a0 : Wk.Arg) : evC fs (n + 1) 28 [a0] = endOf [a0] (evS (evC fs n) b__law_sort [slOf a0]) := Wk.evC_at (fn := ⟨1, 1, b__law_sort⟩) (id rfl) (id rfl)
theorem u__law_like (n : Nat) (a0 a1 : Wk.Arg) : evC fs (n + 1) 29 [a0, a1] = endOf [a0, a1] (evS (evC fs n) b__law_like [slOf a0, slOf a1, .no, .no, .no]) := Wk.evC_at (fn := ⟨5, 2, b__law_like⟩) (id rfl) (id rfl)
theorem u__law_bent (n : Nat) (a0 a1 : Wk.Arg) : evC fs (n + 1) 30 [a0, a1] = endOf [a0, a1] (evS (evC fs n) b__law_bent [slOf a0, slOf a1, .no, .no]) := Wk.evC_at (fn := ⟨4, 2, b__law_bent⟩) (id rfl) (id rfl)
theorem u__law_mixed (n : Nat) (a0 a1 : Wk.Arg) : evC fs (n + 1) 31 [a0, a1] = endOf [a0, a1] (evS (evC fs n) b__law_mixed [slOf a0, slOf a1, .no, .no, .no]) := Wk.evC_at (fn := ⟨5, 2, b__law_mixed⟩) (id rfl) (id rfl)
theorem u__law_whole (n : Nat) (a0 a1 a2 : Wk.Arg) : evC fs (n + 1) 32 [a0, a1, a2] = endOf [a0, a1, a2] (evS (evC fs n) b__law_whole [slOf a0, slOf a1, slOf a2]) := Wk.evC_at (fn := ⟨3, 3, b__law_whole⟩) (id rfl) (id rfl)
theorem u__law_cam (n : Nat) (a0 a1 a2 : Wk.Arg) : evC fs (n + 1) 33 [a0, a1, a2] = endOf [a0, a1, a2] (evS (evC fs n) b__law_cam [slOf a0, slOf a1, slOf a2, .no]) := Wk.evC_at (fn := ⟨4, 3, b__law_cam⟩) (id rfl) (id rfl)
theorem u__law_follows (n : Nat) (a0 a1 : Wk.Arg) : evC fs (n + 1) 34 [a0, a1] = endOf [a0, a1] (evS (evC fs n) b__law_follows [slOf a0, slOf a1, .no, .no, .no]) := Wk.evC_at (fn := ⟨5, 2, b__law_follows⟩) (id rfl) (id rfl)
theorem u__law_greatest (n : Nat) (a0 a1 : Wk.Arg) : evC fs (n + 1) 35 [a0, a1] = endOf [a0, a1] (evS (evC fs n) b__law_greatest [slOf a0, slOf a1, .no, .no, .no]) := Wk.evC_at (fn := ⟨5, 2, b__law_greatest⟩) (id rfl) (id rfl)
theorem u__law_are_shims (n : Nat) (a0 a1 a2 : Wk.Arg) : evC fs (n + 1) 36 [a0, a1, a2] = endOf [a0, a1, a2] (evS (evC fs n) b__law_are_shims [slOf a0, slOf a1, slOf a2, .no]) := Wk.evC_at (fn := ⟨4, 3, b__law_are_shims⟩) (id rfl) (id rfl)
theorem u__law_does (n : Nat) (a0 a1 a2 : Wk.Arg) : evC fs (n + 1) 37 [a0, a1, a2] = endOf [a0, a1, a2] (evS (evC fs n) b__law_does [slOf a0, slOf a1, slOf a2, .no, .no]) := Wk.evC_at (fn := ⟨5, 3, b__law_does⟩) (id rfl) (id rfl)
theorem u__law_are_cams (n : Nat) (a0 : Wk.Arg) : evC fs (n + 1) 38 [a0] = endOf [a0] (evS (evC fs n) b__law_are_cams [slOf a0, .no, .no]) := Wk.evC_at (fn := ⟨3, 1, b__law_are_cams⟩) (id rfl) (id rfl)
theorem u__law_right (n : Nat) (a0 a1 a2 : Wk.Arg) : evC fs (n + 1) 39 [a0, a1, a2] = endOf [a0, a1, a2] (evS (evC fs n) b__law_right [slOf a0, slOf a1, slOf a2, .no, .no, .no, .no, .no, .no, .no, .no, .no, .no, .no, .no, .no]) := Wk.evC_at (fn := ⟨16, 3, b__law_right⟩) (id rfl) (id rfl)
theorem u__law_few (n : Nat) (a0 a1 : Wk.Arg) : evC fs (n + 1) 40 [a0, a1] = endOf [a0, a1] (evS (evC fs n) b__law_few [slOf a0, slOf a1, .no, .no, .no, .no]) := Wk.evC_at (fn := ⟨6, 2, b__law_few⟩) (id rfl) (id rfl)
theorem u__law_small_right (n : Nat) (a0 : Wk.Arg) : evC fs (n + 1) 41 [a0] = endOf [a0] (evS (evC fs n) b__law_small_right [slOf a0, .no, .no, .no, .no, .no, .no, .no, .no, .no, .no, .no, .no]) := Wk.evC_at (fn := ⟨13, 1, b__law_small_right⟩) (id rfl) (id rfl)
theorem u__law_great_right (n : Nat) (a0 : Wk.Arg) : evC fs (n + 1) 42 [a0] = endOf [a0] (evS (evC fs n) b__law_great_right [slOf a0, .no, .no, .no, .no, .no, .no, .no, .no, .no, .no, .no]) := Wk.evC_at (fn := ⟨12, 1, b__law_great_right⟩) (id rfl) (id rfl)
theorem u__law_written_right (n : Nat) : evC fs (n + 1) 43 [] = endOf [] (evS (evC fs n) b__law_written_right [.no, .no]) := Wk.evC_at (fn := ⟨2, 0, b__law_written_right⟩) (id rfl) (id rfl)
theorem u_law (n : Nat) (a0 : Wk.Arg) : evC fs (n + 1) 44 [a0] = endOf [a0] (evS (evC fs n) b_law [slOf a0, .no, .no]) := Wk.evC_at (fn := ⟨3, 1, b_law⟩) (id rfl) (id rfl)
end Wk48
namespace Wk48
open PySem PySem.Spec L2 Wk
local macro_rules
  | `(tactic| trivial) => `(tactic| simp only [rb_ok, lf_some, pk_val, pk_tmp, fz_val, fz_tmp, sr_val, go_t, as_int, as_bool, fr_val, fr_no, fr_own, eo_nx, eo_val, eo_tmp, fo_nil, fo_val, ac_ok, gb_nil, gb_val, lo_nil, lo_val, ao_val, sl_val, sl_own, List.getElem?_cons_succ, List.getElem?_cons_zero, List.set_cons_succ, List.set_cons_zero, Bool.not_true, Bool.not_false, Bool.false_and, Bool.true_and, pk1_s, pk2_s, vB_s, vD_s, cmpV_e, idxV_e, b2V_e, isiV_e, isiT_e, negV_e, notV_e, n_lit, n_gint, n_var, rdV_val, rdV_own, k_fin1_ok, k_two_ok, k_fin2_ok, n_bin, n_cmp, n_idx, n_b2, n_neg, n_not, n_isi, n_b1, n_ite, k_ite_t, k_ite_f, n_cmp2, k_c2a_ok, k_c2b_ok, k_mid_t, k_mid_f, k_sl_lo, k_sl_hi, k_sla_ok, n_slo, n_shi, k_sc3_ok, k_sc2_ok, k_sc1_ok, n_slc, n_tup, n_lst, k_tup_ok, k_lst_ok, n_dnil, n_dcons, k_d1_ok, k_d2_ok, k_d3_ok, n_anil, n_acons, k_a1_val, k_a1_tmp, k_a1_sl, k_a3_ok, n_call, k_call_ok, n_do, callD_ok, ags_nil, ags_cons, aoC_s, ao_sl, aoS_mine, aoS_lent, aoS_lockM, aoS_lockL, aoS_val, lo_sl, loS_own, loS_val, gb_sl, gbS_own, gbS_val, nd0, nd1, itemF_e, itemIfF_e, k_it0_s, k_itIf_s, k_itIf1_t, k_itIf1_f, k_item1_ok, k_item2_ok, n_comp, n_compIf, k_comp_ok, k_compIf_ok, n_lrng, n_trng, k_lr_ok, k_tr_ok, n_rng1, k_rg1_ok, n_rng2, k_rg2_ok, k_rg2b_ok, n_iseq, k_seq_val, k_seq_tup, k_seq_tmp, k_seq_sl, sq_sl, lkS_mine, lkS_lent, lkS_lockM, lkS_lockL, k_t1_ok, k_tn_ok, k_t2_ok, k_t2b_ok, m_cmp, m_not, m_lit, m_gint, m_var, rdT_val, rdT_own, m_isi, m_call, m_b1, m_cmp2, k_m0_ok, k_m1_ok, k_m2_t, k_m2_f, n_and, n_or, n_and1, n_or1, n_ands, n_ors, k_and1_ok, k_or1_ok, k_and2_t, k_and2_f, k_or2_t, k_or2_f, m_and, m_or, m_and1, m_or1, m_ands, m_ors, k_tand_t, k_tand_f, k_tor_t, k_tor_f, s_skip', s_seq', k_then_nx, k_then_ret, k_then_brk, k_then_cnt, s_expr', k_drop_ok, nxO_s, s_asg', k_asg_ok, s_asgT', k_asgT_ok, k_asgT2_ok, k_par_ok, s_par2', s_par3', sv_nil, sv_cons, svC_s, sv_eq, sVf_t, st_eq, sTf_t, ag_name, ag_tup, ag_nil, ag_cons, agC_s, tg_name, tg_tup, tg_nil, tg_cons, s_setix', k_sx1_ok, k_sx2_ok, k_sxS_own, k_sx3_ok, sa_eq, s_ite', k_if_t, k_if_f, turnF_e, k_turn_s, s_for', k_for_ok, ul_nil, s_whl', s_ret', k_ret_ok, s_retN', s_brk', s_cnt', bd_add, bd_sub, bd_mul, bd_fdiv, bd_mod, bd_pow, bd_shl, bd_shr, bd_addl, bd_addt, cd_lt, cd_le, cd_gt, cd_ge, cd_is_none, cd_isn_none, id_none_int, id_none_bool, id_none_str, id_none_tuple, id_none_list, cd_is_bool, cd_isn_bool, id_bool_int, id_bool_bool, id_bool_str, id_bool_tuple, id_bool_list, cd_is_int, cd_isn_int, id_int_int, id_int_bool, id_int_str, id_int_tuple, id_int_list, cd_is_str, cd_isn_str, id_str_int, id_str_bool, id_str_str, id_str_tuple, id_str_list, cd_is_list, cd_isn_list, id_list_int, id_list_bool, id_list_str, id_list_tuple, id_list_list, cd_is_tuple, cd_isn_tuple, id_tuple_int, id_tuple_bool, id_tuple_str, id_tuple_tuple, id_tuple_list, td_none, td_bool, td_int, td_list, td_tuple, Wk.ix_list, Wk.ix_tuple, at_0, at_1, at_2, f1_lenl, f1_lent, f1_int, f1_intb, f1_abs, f1_listl, f1_listt, f1_tupl, f1_tupt, f2_max, f2_min, f2_gcd, cdI_eq, cdI_ne, cdB_eq, cd_nil, cdn_nil, decide_true, decide_false, Int.reduceEq, Int.reduceLT, Int.reduceLE, Int.reduceAdd, Int.reduceSub, Int.reduceMul, Int.reduceNeg, mkT_ok, mkL_ok, List.length_cons, List.length_nil, Nat.reduceAdd, Nat.reduceLeDiff, reduceCtorEq, n_zip, k_z1_ok, k_z2_ok, zipK_sl0t, zipK_vlt, zipK_ll, zipK_tt, zipK_tmp, zipK_lt, zipK_tl, n_enum, k_en_ok, enK_l, enK_tmp, enK_tup, n_rev, k_rv_ok, rvK_l, rvK_t, rvK_tmp, wf_nil, wf_cons, br_ok, bf_nil, bf_cons, bkS_s, List.cons_append, List.nil_append, List.append_nil, fo_own, foS_own, pk_slot, pkS_val, pkS_own, sa2_0, sa2_1, n_gtup, n_rvs, n_sset, rv_list, rv_tup, cd_is_bb, cd_isn_bb, cdB_ne, n_app, k_app0_own, k_app1_ok, k_app2_ok, n_popAt, k_pop0_own, k_pop1_ok, k_pop2_ok, appAt_S, apS_mine, apS_lent, apK_t, popAt_S, popS_mine, popK_some, s_parO', k_pO1_ok, k_pO2_tv, k_pO2_vt, k_pO2_tt, k_pO3_s
])
  | `(tactic| exists $es,*) => `(tactic| simp only [$[$es:term],*, rb_ok, lf_some, pk_val, pk_tmp, fz_val, fz_tmp, sr_val, go_t, as_int, as_bool, fr_val, fr_no, fr_own, eo_nx, eo_val, eo_tmp, fo_nil, fo_val, ac_ok, gb_nil, gb_val, lo_nil, lo_val, ao_val, sl_val, sl_own, List.getElem?_cons_succ, List.getElem?_cons_zero, List.set_cons_succ, List.set_cons_zero, Bool.not_true, Bool.not_false, Bool.false_and, Bool.true_and, pk1_s, pk2_s, vB_s, vD_s, cmpV_e, idxV_e, b2V_e, isiV_e, isiT_e, negV_e, notV_e, n_lit, n_gint, n_var, rdV_val, rdV_own, k_fin1_ok, k_two_ok, k_fin2_ok, n_bin, n_cmp, n_idx, n_b2, n_neg, n_not, n_isi, n_b1, n_ite, k_ite_t, k_ite_f, n_cmp2, k_c2a_ok, k_c2b_ok, k_mid_t, k_mid_f, k_sl_lo, k_sl_hi, k_sla_ok, n_slo, n_shi, k_sc3_ok, k_sc2_ok, k_sc1_ok, n_slc, n_tup, n_lst, k_tup_ok, k_lst_ok, n_dnil, n_dcons, k_d1_ok, k_d2_ok, k_d3_ok, n_anil, n_acons, k_a1_val, k_a1_tmp, k_a1_sl, k_a3_ok, n_call, k_call_ok, n_do, callD_ok, ags_nil, ags_cons, aoC_s, ao_sl, aoS_mine, aoS_lent, aoS_lockM, aoS_lockL, aoS_val, lo_sl, loS_own, loS_val, gb_sl, gbS_own, gbS_val, nd0, nd1, itemF_e, itemIfF_e, k_it0_s, k_itIf_s, k_itIf1_t, k_itIf1_f, k_item1_ok, k_item2_ok, n_comp, n_compIf, k_comp_ok, k_compIf_ok, n_lrng, n_trng, k_lr_ok, k_tr_ok, n_rng1, k_rg1_ok, n_rng2, k_rg2_ok, k_rg2b_ok, n_iseq, k_seq_val, k_seq_tup, k_seq_tmp, k_seq_sl, sq_sl, lkS_mine, lkS_lent, lkS_lockM, lkS_lockL, k_t1_ok, k_tn_ok, k_t2_ok, k_t2b_ok, m_cmp, m_not, m_lit, m_gint, m_var, rdT_val, rdT_own, m_isi, m_call, m_b1, m_cmp2, k_m0_ok, k_m1_ok, k_m2_t, k_m2_f, n_and, n_or, n_and1, n_or1, n_ands, n_ors, k_and1_ok, k_or1_ok, k_and2_t, k_and2_f, k_or2_t, k_or2_f, m_and, m_or, m_and1, m_or1, m_ands, m_ors, k_tand_t, k_tand_f, k_tor_t, k_tor_f, s_skip', s_seq', k_then_nx, k_then_ret, k_then_brk, k_then_cnt, s_expr', k_drop_ok, nxO_s, s_asg', k_asg_ok, s_asgT', k_asgT_ok, k_asgT2_ok, k_par_ok, s_par2', s_par3', sv_nil, sv_cons, svC_s, sv_eq, sVf_t, st_eq, sTf_t, ag_name, ag_tup, ag_nil, ag_cons, agC_s, tg_name, tg_tup, tg_nil, tg_cons, s_setix', k_sx1_ok, k_sx2_ok, k_sxS_own, k_sx3_ok, sa_eq, s_ite', k_if_t, k_if_f, turnF_e, k_turn_s, s_for', k_for_ok, ul_nil, s_whl', s_ret', k_ret_ok, s_retN', s_brk', s_cnt', bd_add, bd_sub, bd_mul, bd_fdiv, bd_mod, bd_pow, bd_shl, bd_shr, bd_addl, bd_addt, cd_lt, cd_le, cd_gt, cd_ge, cd_is_none, cd_isn_none, id_none_int, id_none_bool, id_none_str, id_none_tuple, id_none_list, cd_is_bool, cd_isn_bool, id_bool_int, id_bool_bool, id_bool_str, id_bool_tuple, id_bool_list, cd_is_int, cd_isn_int, id_int_int, id_int_bool, id_int_str, id_int_tuple, id_int_list, cd_is_str, cd_isn_str, id_str_int, id_str_bool, id_str_str, id_str_tuple, id_str_list, cd_is_list, cd_isn_list, id_list_int, id_list_bool, id_list_str, id_list_tuple, id_list_list, cd_is_tuple, cd_isn_tuple, id_tuple_int, id_tuple_bool, id_tuple_str, id_tuple_tuple, id_tuple_list, td_none, td_bool, td_int, td_list, td_tuple, Wk.ix_list, Wk.ix_tuple, at_0, at_1, at_2, f1_lenl, f1_lent, f1_int, f1_intb, f1_abs, f1_listl, f1_listt, f1_tupl, f1_tupt, f2_max, f2_min, f2_gcd, cdI_eq, cdI_ne, cdB_eq, cd_nil, cdn_nil, decide_true, decide_false, Int.reduceEq, Int.reduceLT, Int.reduceLE, Int.reduceAdd, Int.reduceSub, Int.reduceMul, Int.reduceNeg, mkT_ok, mkL_ok, List.length_cons, List.length_nil, Nat.reduceAdd, Nat.reduceLeDiff, reduceCtorEq, n_zip, k_z1_ok, k_z2_ok, zipK_sl0t, zipK_vlt, zipK_ll, zipK_tt, zipK_tmp, zipK_lt, zipK_tl, n_enum, k_en_ok, enK_l, enK_tmp, enK_tup, n_rev, k_rv_ok, rvK_l, rvK_t, rvK_tmp, wf_nil, wf_cons, br_ok, bf_nil, bf_cons, bkS_s, List.cons_append, List.nil_append, List.append_nil, fo_own, foS_own, pk_slot, pkS_val, pkS_own, sa2_0, sa2_1, n_gtup, n_rvs, n_sset, rv_list, rv_tup, cd_is_bb, cd_isn_bb, cdB_ne, n_app, k_app0_own, k_app1_ok, k_app2_ok, n_popAt, k_pop0_own, k_pop1_ok, k_pop2_ok, appAt_S, apS_mine, apS_lent, apK_t, popAt_S, popS_mine, popK_some, s_parO', k_pO1_ok, k_pO2_tv, k_pO2_vt, k_pO2_tt, k_pO3_s
])

theorem t_is_whole (n : Nat) (v lo hi : Int) : evC fs (n + 1) 0 [.val (.int v), .val (.int lo), .val (.int hi)] = .ok (.val (.bool (decide (lo ≤ v) && decide (v ≤ hi)))) [] := by
  rw [u_is_whole]
  unfold b_is_whole
  trivial
  by_cases h : lo ≤ v
  · exists decide_eq_true h
  · exists decide_eq_false h
theorem gcd_pos {x b : Int} (hb : 0 < b) : 0 < Nat.gcd x.natAbs b.natAbs := Nat.gcd_pos_of_pos_right _ (by omega)
theorem gcd_le {x b : Int} (hb : 0 < b) : Nat.gcd x.natAbs b.natAbs ≤ b.natAbs := Nat.gcd_le_right _ (by omega)
theorem pw4 : (1000000000000000000000000000000000000000000000000000000000000 : Nat) ≤ 2 ^ 4000 := by decide +kernel
theorem log2_big {n : Nat} (h : n < 2 ^ 4000) : n.log2 < 4000 := by
  by_cases h0 : n = 0
  · subst h0
    decide
  · exact (Nat.log2_lt h0).mpr h
theorem divOk_big {j : Int} (h1 : 0 < j) (h2 : j.natAbs < 2 ^ 4000) : divOk j = true := by
  have a : j ≠ 0 := by omega
  have b := log2_big h2
  generalize j.natAbs.log2 = w at b
  have c : j.natAbs.log2 < 9000 := Nat.lt_trans (log2_big h2) (by decide)
  simp [divOk, a, c]
theorem divOk_of {j : Int} (h1 : 0 < j) (h2 : j < 1000000000000000000000000000000000000000000000000000000000000) : divOk j = true :=
  divOk_big h1 (Nat.lt_of_lt_of_le (show j.natAbs < 1000000000000000000000000000000000000000000000000000000000000 by omega) pw4)
theorem bits_big {i : Int} (h : i.natAbs < 2 ^ 4000) : Builtin.Int.intBits i ≤ 4001 := by
  have b := log2_big h
  unfold Builtin.Int.intBits
  split <;> omega
theorem mulOk_big {i j : Int} (h1 : i.natAbs < 2 ^ 4000) (h2 : j.natAbs < 2 ^ 4000) : mulOk i j = true := by
  have a := bits_big h1
  have b := bits_big h2
  unfold mulOk
  exact decide_eq_true (by omega)
theorem mulOk_of {i j : Int} (h1 : i.natAbs < 1000000000000000000000000000000000000000000000000000000000000) (h2 : j.natAbs < 1000000000000000000000000000000000000000000000000000000000000) : mulOk i j = true :=
  mulOk_big (Nat.lt_of_lt_of_le h1 pw4) (Nat.lt_of_lt_of_le h2 pw4)
theorem fmod_pos {x m : Int} (h : 0 < m) : x.fmod m = x % m := Int.fmod_eq_emod_of_nonneg _ (Int.le_of_lt h)
theorem fdiv_pos {x m : Int} (h : 0 < m) : x.fdiv m = x / m := Int.fdiv_eq_ediv_of_nonneg _ (Int.le_of_lt h)
theorem mul_bd {x y X Y : Int} (h1 : 0 ≤ x) (h2 : x ≤ X) (h3 : 0 ≤ y) (h4 : y ≤ Y) : 0 ≤ x * y ∧ x * y ≤ X * Y :=
  ⟨Int.mul_nonneg h1 h3, Int.mul_le_mul h2 h4 h3 (by omega)⟩
theorem abs_bd {x y X Y : Int} (h1 : -X ≤ x) (h2 : x ≤ X) (h3 : -Y ≤ y) (h4 : y ≤ Y) : -(X * Y) ≤ x * y ∧ x * y ≤ X * Y := by
  have a : x.natAbs ≤ X.toNat := by omega
  have b : y.natAbs ≤ Y.toNat := by omega
  have c : (x * y).natAbs ≤ X.toNat * Y.toNat := by
    rw [Int.natAbs_mul]
    exact Nat.mul_le_mul a b
  have e : ((X.toNat * Y.toNat : Nat) : Int) = X * Y := by
    rw [Int.natCast_mul, Int.toNat_of_nonneg (by omega), Int.toNat_of_nonneg (by omega)]
  omega
/-- x / b in its lowest terms -/
def rt (x b : Int) : D := .tuple [.int (x / (Int.gcd x b : Int)), .int (b / (Int.gcd x b : Int))]
def sortOf : D → Int
  | .none => 0
  | .bool _ => 1
  | .int _ => 2
  | .str _ => 3
  | .tuple _ => 4
  | .list _ => 5
  | .dict _ => 6
theorem t_sort (n : Nat) (d : D) (h : ∀ x, d ≠ .dict x) : evC fs (n + 1) 28 [.val d] = .ok (.val (.int (sortOf d))) [] := by
  rw [u__law_sort]
  unfold b__law_sort
  cases d <;> first | (trivial; rfl) | exact absurd rfl (h _) | skip
/-- data that _law_like may look at -/
def flat0 : D → Bool
  | .none => true
  | .bool _ => true
  | .int _ => true
  | _ => false
def gd : Nat → D → Bool
  | 0, d => flat0 d
  | m + 1, .list xs => decide (xs.length ≤ 16777216) && xs.all (gd m)
  | m + 1, .tuple xs => decide (xs.length ≤ 16777216) && xs.all (gd m)
  | _ + 1, d => flat0 d
theorem in45_0 : cmpD .in_ (.int 0) (.tuple [.int 4, .int 5]) = some false := rfl
theorem in45_1 : cmpD .in_ (.int 1) (.tuple [.int 4, .int 5]) = some false := rfl
theorem in45_2 : cmpD .in_ (.int 2) (.tuple [.int 4, .int 5]) = some false := rfl
theorem in45_3 : cmpD .in_ (.int 3) (.tuple [.int 4, .int 5]) = some false := rfl
theorem in45_4 : cmpD .in_ (.int 4) (.tuple [.int 4, .int 5]) = some true := rfl
theorem in45_5 : cmpD .in_ (.int 5) (.tuple [.int 4, .int 5]) = some true := rfl
theorem eq_self (d : D) (h : flat0 d = true) : cmpD .eq d d = some true := by
  cases d with
  | none => rfl
  | bool b => rw [cdB_eq, beq_self_eq_true]
  | int i => rw [cdI_eq, decide_eq_true rfl]
  | _ => cases h
theorem like_flat (n : Nat) (d : D) (h : flat0 d = true) : evC fs (n + 2) 29 [.val d, .val d] = .ok (.val (.bool true)) [] := by
  rw [u__law_like]
  unfold b__law_like
  have hs := eq_self d h
  have ht : evC fs (n + 1) 28 [.val d] = _ := t_sort n d (fun x e => by subst e; cases h)
  cases d <;> try (cases h; done)
  all_goals exists ht, hs, sortOf, in45_0, in45_1, in45_2, in45_3
theorem like_seq (n : Nat) (d : D) (xs : List D) (hd : d = .list xs ∨ d = .tuple xs) (hl : xs.length ≤ 16777216) (h : ∀ x ∈ xs, evC fs (n + 1) 29 [.val x, .val x] = .ok (.val (.bool true)) []) : evC fs (n + 2) 29 [.val d, .val d] = .ok (.val (.bool true)) [] := by
  rw [u__law_like]
  unfold b__law_like
  have ht : evC fs (n + 1) 28 [.val d] = _ := t_sort n d (fun x e => by rcases hd with q | q <;> (rw [q] at e; cases e))
  rcases hd with rfl | rfl
  · exists ht, sortOf, in45_5, in45_4
    rw [compAll_map (g := fun _ => none) (by rw [zipD_self_len]; exact hl)]
    · rw [fm_none]
      exists cmpV
    · intro d hd
      obtain ⟨x, hx, rfl⟩ := zipD_self_mem hd
      have hx := h x hx
      exists hx
  · exists ht, sortOf, in45_5, in45_4
    rw [compAll_map (g := fun _ => none) (by rw [zipD_self_len]; exact hl)]
    · rw [fm_none]
      exists cmpV
    · intro d hd
      obtain ⟨x, hx, rfl⟩ := zipD_self_mem hd
      have hx := h x hx
      exists hx
theorem t_like : ∀ (m n : Nat) (d : D), gd m d = true → evC fs (n + m + 2) 29 [.val d, .val d] = .ok (.val (.bool true)) []
  | 0, n, d, h => like_flat n d h
  | m + 1, n, d, h => by
    cases d with
    | list xs =>
      obtain ⟨h1, h2⟩ := Bool.and_eq_true_iff.mp h
      exact like_seq (n + m + 1) _ xs (.inl rfl) (of_decide_eq_true h1) fun x hx => t_like m n x (List.all_eq_true.mp h2 x hx)
    | tuple xs =>
      obtain ⟨h1, h2⟩ := Bool.and_eq_true_iff.mp h
      exact like_seq (n + m + 1) _ xs (.inr rfl) (of_decide_eq_true h1) fun x hx => t_like m n x (List.all_eq_true.mp h2 x hx)
    | none => exact like_flat (n + (m + 1)) _ h
    | bool b => exact like_flat (n + (m + 1)) _ h
    | int i => exact like_flat (n + (m + 1)) _ h
    | str x => cases h
    | dict x => cases h
/-! draws -/
def CupOk (l : List D) : Prop := ∃ c0 c1 : Int, l = [.int c0, .int c1] ∧ 0 ≤ c0 ∧ 0 ≤ c1 ∧ c1 < 2147483543
theorem t_roll (n : Nat) (l : List D) (many : Int) (hl : CupOk l) (h1 : 1 ≤ many) (h2 : many < 1000000000000000000000000000000000000000000000000000000000000) : ∃ r l', CupOk l' ∧ 0 ≤ r ∧ r < many ∧ evC fs (n + 1) 26 [.own l .lent, .val (.int many)] = .ok (.val (.int r)) [l'] := by
  obtain ⟨c0, c1, rfl, p0, p1, p2⟩ := hl
  rw [u__law_roll]
  unfold b__law_roll
  generalize evC fs n = C
  have dm : decide (many ≠ 0) = true := decide_eq_true (by omega)
  have dv : divOk many = true := divOk_of (by omega) (by omega)
  by_cases q : 0 < c0
  · refine ⟨c0 % many, [.int (c0 / many), .int c1], ⟨_, _, rfl, Int.ediv_nonneg (by omega) (by omega), p1, p2⟩, Int.emod_nonneg _ (by omega), Int.emod_lt_of_pos _ (by omega), ?_⟩
    have q' := decide_eq_true q
    have f1 := fmod_pos (x := c0) (m := many) (by omega)
    have f2 := fdiv_pos (x := c0) (m := many) (by omega)
    exists q', dm, dv, f1, f2
  · have q' := decide_eq_false q
    have m1 : mulOk c1 29917 = true := mulOk_of (by omega) (by omega)
    have e1 : (c1 * 29917 + 9103).fmod 2147483543 = (c1 * 29917 + 9103) % 2147483543 := fmod_pos (by omega)
    have b0 : 0 ≤ (c1 * 29917 + 9103) % 2147483543 := Int.emod_nonneg _ (by omega)
    have b1 : (c1 * 29917 + 9103) % 2147483543 < 2147483543 := Int.emod_lt_of_pos _ (by omega)
    generalize (c1 * 29917 + 9103) % 2147483543 = d at e1 b0 b1
    have m2 : mulOk d (d + 307) = true := mulOk_of (by omega) (by omega)
    have e2 : (d * (d + 307)).fmod 2147483587 = (d * (d + 307)) % 2147483587 := fmod_pos (by omega)
    have e3 : ((d * (d + 307)) % 2147483587).fdiv 887 = ((d * (d + 307)) % 2147483587) / 887 := fdiv_pos (by omega)
    generalize (d * (d + 307)) % 2147483587 = w at e2 e3
    have e4 : (w / 887).fmod many = (w / 887) % many := fmod_pos (by omega)
    have g1 : decide ((2147483543 : Int) ≠ 0) = true := by decide
    have g2 : decide ((2147483587 : Int) ≠ 0) = true := by decide
    have g3 : divOk 887 = true := divOk_of (by omega) (by omega)
    refine ⟨(w / 887) % many, [.int c0, .int d], ⟨_, _, rfl, p0, b0, b1⟩, Int.emod_nonneg _ (by omega), Int.emod_lt_of_pos _ (by omega), ?_⟩
    exists q', m1, e1, m2, e2, e3, e4, g1, g2, g3, dm
theorem gd_rt (m : Nat) (x b : Int) : gd (m + 1) (rt x b) = true := by
  cases m <;> rfl
theorem gd_int (m : Nat) (i : Int) : gd m (.int i) = true := by cases m <;> rfl
theorem gd_bool (m : Nat) (i : Bool) : gd m (.bool i) = true := by cases m <;> rfl
theorem gd_none (m : Nat) : gd m .none = true := by cases m <;> rfl
theorem gd_ite (m : Nat) (p : Prop) [Decidable p] (x b : Int) : gd (m + 1) (if p then rt x b else .none) = true := by
  split
  · exact gd_rt m x b
  · exact gd_none _
theorem gd_list (m : Nat) (xs : List D) (h : xs.length ≤ 16777216) (h2 : ∀ x ∈ xs, gd m x = true) : gd (m + 1) (.list xs) = true := by
  show (decide (xs.length ≤ 16777216) && xs.all (gd m)) = true
  rw [decide_eq_true h, List.all_eq_true.mpr h2]
  rfl
theorem bits_abs {i : Int} : Builtin.Int.intBits (if i < 0 then -i else i) = Builtin.Int.intBits i := by
  unfold Builtin.Int.intBits
  split
  · by_cases h : i = 0
    · subst h
      rfl
    · have h2 : -i ≠ 0 := by omega
      simp [h, h2]
  · rfl
theorem t_cup (n : Nat) (ns : List Int) (h1 : ns.length ≤ 63) (h2 : ∀ i ∈ ns, Builtin.Int.intBits i ≤ 1048576) : ∃ l, CupOk l ∧ evC fs (n + 1) 25 [.val (.list (ns.map .int))] = .ok (.tmp l) [] := by
  obtain ⟨h, hb, hh⟩ : ∃ h : Int, Builtin.Int.intBits h ≤ 1048576 ∧ atI (ns.map PyData.int ++ [.int 0]) 0 = some (.int h) := by
    cases ns with
    | nil => exact ⟨0, by decide, at_0 _ _⟩
    | cons a r => exact ⟨a, h2 a (List.mem_cons_self ..), at_0 _ _⟩
  have g1 : guardO (fits ((ns.map PyData.int).length + (0 + 1))) (RV.tmp (ns.map PyData.int ++ [.int 0])) = some (.tmp (ns.map PyData.int ++ [.int 0])) := by
    unfold guardO
    rw [if_pos]
    exact decide_eq_true (by rw [List.length_map]; omega)
  rw [u__law_cup]
  unfold b__law_cup
  generalize evC fs n = C
  have c0 : 0 ≤ (if h < 0 then -h else h) := by split <;> omega
  have cb : Builtin.Int.intBits (if h < 0 then -h else h) ≤ 1048576 := by rw [bits_abs]; exact hb
  generalize hc : (if h < 0 then -h else h) = cell at c0 cb
  have m1 : mulOk cell 373 = true := by
    have := bits_big (i := 373) (Nat.lt_of_lt_of_le (show (373 : Int).natAbs < 1000000000000000000000000000000000000000000000000000000000000 by omega) pw4)
    unfold mulOk
    exact decide_eq_true (by omega)
  have p1 : powOk 10 18 = true := by decide +kernel
  have p2 : (10 : Int) ^ (18 : Int).toNat = 1000000000000000000 := by decide +kernel
  have d1 : divOk 127 = true := divOk_of (by omega) (by omega)
  have d2 : decide ((1974129427 : Int) ≠ 0) = true := by decide
  have f1 : (cell * 373 + 5407).fmod 1974129427 = (cell * 373 + 5407) % 1974129427 := fmod_pos (by omega)
  have f2 : cell.fdiv 127 = cell / 127 := fdiv_pos (by omega)
  have b0 : 0 ≤ (cell * 373 + 5407) % 1974129427 := Int.emod_nonneg _ (by omega)
  have b1 : (cell * 373 + 5407) % 1974129427 < 1974129427 := Int.emod_lt_of_pos _ (by omega)
  generalize ns.map PyData.int = xs at g1 hh
  by_cases q : (1000000000000000000 : Int) ≤ cell
  · refine ⟨[.int (cell / 127), .int ((cell * 373 + 5407) % 1974129427 + 229)], ⟨_, _, rfl, Int.ediv_nonneg c0 (by omega), by omega, by omega⟩, ?_⟩
    have q' := decide_eq_true q
    exists g1, hh, hc, p1, p2, q', d1, f2, m1, d2, f1
  · refine ⟨[.int 0, .int ((cell * 373 + 5407) % 1974129427 + 229)], ⟨_, _, rfl, Int.le_refl _, by omega, by omega⟩, ?_⟩
    have q' := decide_eq_false q
    exists g1, hh, hc, p1, p2, q', d1, f2, m1, d2, f1
theorem t_some (n : Nat) (l xs : List D) (hl : CupOk l) (h1 : 1 ≤ xs.length) (h2 : xs.length ≤ 1000) : ∃ v l', CupOk l' ∧ v ∈ xs ∧ evC fs (n + 2) 27 [.own l .lent, .val (.list xs)] = .ok (.val v) [l'] := by
  obtain ⟨r, l', c, r0, r1, e⟩ := t_roll n l xs.length hl (by omega) (by omega)
  obtain ⟨v, hv, ev⟩ := at_ok (xs := xs) r0 r1
  refine ⟨v, l', c, hv, ?_⟩
  rw [u__law_some]
  unfold b__law_some
  generalize evC fs (n + 1) = C at e ⊢
  exists e, ev
/-! _law_like on lists that a name owns -/
theorem sort_own (n : Nat) (xs : List D) : evC fs (n + 1) 28 [.own xs .lent] = .ok (.val (.int 5)) [xs] := by
  rw [u__law_sort]
  unfold b__law_sort
  generalize evC fs n = C
  trivial
theorem zs1 (xs ys : List D) (s0 s2 s3 s4 : Sl) : zipK (.val (.list xs)) (.sl 1) [s0, .own ys .lent, s2, s3, s4] = .ok (zipD xs ys, [1]) [s0, .own ys .lockL, s2, s3, s4] := id rfl
theorem zs0 (xs ys : List D) (s1 s2 s3 s4 : Sl) : zipK (.sl 0) (.val (.list ys)) [.own xs .lent, s1, s2, s3, s4] = .ok (zipD xs ys, [0]) [.own xs .lockL, s1, s2, s3, s4] := id rfl
theorem ul1 (ys : List D) (s0 s2 s3 s4 : Sl) : unlock [s0, .own ys .lockL, s2, s3, s4] [1] = [s0, .own ys .lent, s2, s3, s4] := id rfl
theorem ul0 (ys : List D) (s1 s2 s3 s4 : Sl) : unlock [.own ys .lockL, s1, s2, s3, s4] [0] = [.own ys .lent, s1, s2, s3, s4] := id rfl
theorem like_vo (n : Nat) (xs : List D) (hl : xs.length ≤ 16777216) (h : ∀ x ∈ xs, evC fs (n + 1) 29 [.val x, .val x] = .ok (.val (.bool true)) []) : evC fs (n + 2) 29 [.val (.list xs), .own xs .lent] = .ok (.val (.bool true)) [xs] := by
  rw [u__law_like]
  unfold b__law_like
  have ht : evC fs (n + 1) 28 [.val (.list xs)] = .ok (.val (.int 5)) [] := t_sort n _ (fun x e => by cases e)
  have hs := sort_own n xs
  generalize evC fs (n + 1) = C at h ht hs ⊢
  exists ht, hs, in45_5, zs1
  rw [compAll_lk (g := fun _ => none) (by rw [zipD_self_len]; exact hl)]
  · rw [fm_none, ul1]
    exists cmpV
  · intro d hd
    obtain ⟨x, hx, rfl⟩ := zipD_self_mem hd
    have hx := h x hx
    exists hx
theorem like_ov (n : Nat) (xs : List D) (hl : xs.length ≤ 16777216) (h : ∀ x ∈ xs, evC fs (n + 1) 29 [.val x, .val x] = .ok (.val (.bool true)) []) : evC fs (n + 2) 29 [.own xs .lent, .val (.list xs)] = .ok (.val (.bool true)) [xs] := by
  rw [u__law_like]
  unfold b__law_like
  have ht : evC fs (n + 1) 28 [.val (.list xs)] = .ok (.val (.int 5)) [] := t_sort n _ (fun x e => by cases e)
  have hs := sort_own n xs
  generalize evC fs (n + 1) = C at h ht hs ⊢
  exists ht, hs, in45_5, zs0
  rw [compAll_lk (g := fun _ => none) (by rw [zipD_self_len]; exact hl)]
  · rw [fm_none, ul0]
    exists cmpV
  · intro d hd
    obtain ⟨x, hx, rfl⟩ := zipD_self_mem hd
    have hx := h x hx
    exists hx
/-! loops and comprehensions over mapped lists -/
def k_fl (f : D → Fm → R Fl) (ds : List D) (r : R Fl) : R Fl := r.bind fun fl ρ1 => match fl with
    | .nx => forL f ds ρ1
    | .cnt => forL f ds ρ1
    | .brk => .ok .nx ρ1
    | .ret v => .ok (.ret v) ρ1
theorem fl_nil (f : D → Fm → R Fl) (ρ : Fm) : forL f [] ρ = .ok .nx ρ := id rfl
theorem fl_cons (f : D → Fm → R Fl) (d : D) (ds : List D) (ρ : Fm) : forL f (d :: ds) ρ = k_fl f ds (f d ρ) := id rfl
theorem k_fl_nx (f : D → Fm → R Fl) (ds : List D) (ρ : Fm) : k_fl f ds (.ok .nx ρ) = forL f ds ρ := id rfl
theorem k_fl_cnt (f : D → Fm → R Fl) (ds : List D) (ρ : Fm) : k_fl f ds (.ok .cnt ρ) = forL f ds ρ := id rfl
theorem k_fl_brk (f : D → Fm → R Fl) (ds : List D) (ρ : Fm) : k_fl f ds (.ok .brk ρ) = .ok .nx ρ := id rfl
theorem k_fl_ret (f : D → Fm → R Fl) (ds : List D) (v : RV) (ρ : Fm) : k_fl f ds (.ok (.ret v) ρ) = .ok (.ret v) ρ := id rfl
theorem compL_of {α : Type} {f : D → Fm → R (Option D)} {c : α → D} {k : α → Option D} {ρ : Fm} : ∀ (hs : List α), (∀ a ∈ hs, f (c a) ρ = .ok (k a) ρ) → compL f (hs.map c) ρ = .ok (hs.filterMap k) ρ
  | [], _ => rfl
  | a :: hs, h => by
    show (f (c a) ρ).bind _ = _
    rw [h a (List.mem_cons_self ..), rb_ok]
    rw [compL_of hs fun x hx => h x (List.mem_cons_of_mem _ hx), rb_ok]
    cases q : k a with
    | none => simp [List.filterMap_cons, q]
    | some x => simp [List.filterMap_cons, q]
theorem compAll_of {α : Type} {own : List Nat} {f : D → Fm → R (Option D)} {hs : List α} {c : α → D} {k : α → Option D} {ρ : Fm} (hf : hs.length ≤ 16777216) (h : ∀ a ∈ hs, backR ρ own (f (c a) (wipeF ρ own)) = .ok (k a) ρ) : compAll own f (hs.map c) [] ρ = .ok (.tmp (hs.filterMap k)) ρ := by
  unfold compAll
  rw [if_pos (show fits (hs.map c).length = true from decide_eq_true (by rw [List.length_map]; exact hf)), compL_of (c := c) (k := k) hs h]
  rfl
theorem fm_some {α : Type} (k : α → D) : ∀ hs : List α, hs.filterMap (fun a => some (k a)) = hs.map k
  | [] => rfl
  | a :: hs => by rw [List.filterMap_cons, List.map_cons, fm_some k hs]
theorem atI_map {α : Type} (c : α → D) {hs : List α} {i : Int} (h0 : 0 ≤ i) (h1 : i < hs.length) : ∃ a, a ∈ hs ∧ hs[i.toNat]? = some a ∧ L2.atI (hs.map c) i = some (c a) := by
  have h : i.toNat < hs.length := by omega
  refine ⟨hs[i.toNat], List.getElem_mem h, List.getElem?_eq_getElem h, ?_⟩
  unfold L2.atI L2.ixN
  rw [if_pos h0, if_pos (by rw [List.length_map]; exact h1)]
  show (hs.map c)[i.toNat]? = _
  rw [List.getElem?_map, List.getElem?_eq_getElem h]
  rfl
theorem boolsD_map {α : Type} (p : α → Bool) : ∀ hs : List α, boolsD (hs.map fun a => .bool (p a)) = some (hs.map p)
  | [] => rfl
  | a :: hs => by
    show (boolsD (hs.map fun a => .bool (p a))).map _ = _
    rw [boolsD_map p hs]
    rfl
theorem all_map {α : Type} (p : α → Bool) (hs : List α) : b1D .all (.list (hs.map fun a => .bool (p a))) = some (.val (.bool (hs.all p))) := by
  show (boolsD (hs.map fun a => .bool (p a))).map _ = _
  rw [boolsD_map]
  simp [List.all_map]
theorem any_map {α : Type} (p : α → Bool) (hs : List α) : b1D .any (.list (hs.map fun a => .bool (p a))) = some (.val (.bool (hs.any p))) := by
  show (boolsD (hs.map fun a => .bool (p a))).map _ = _
  rw [boolsD_map]
  simp [List.any_map]
/-! what may be compared -/
theorem gd_lay : ∀ (m : Nat) (d : D), gd m d = true → d.canLay0 = true ∧ d.depth ≤ m + 1
  | 0, d, h => by
    have h : flat0 d = true := h
    cases d <;> first | exact ⟨rfl, Nat.zero_le _⟩ | exact ⟨rfl, Nat.le_refl _⟩ | cases h
  | m + 1, d, h => by
    have all : ∀ xs : List D, (∀ x ∈ xs, gd m x = true) → PyData.canLayAll0 xs = true ∧ PyData.depthAll xs ≤ m + 1 := by
      intro xs
      induction xs with
      | nil =>
        intro _
        exact ⟨by simp [PyData.canLayAll0], by simp [PyData.depthAll]⟩
      | cons x xs ih =>
        intro hx
        have h1 := gd_lay m x (hx x (List.mem_cons_self ..))
        have h2 := ih fun y hy => hx y (List.mem_cons_of_mem _ hy)
        refine ⟨by simp [PyData.canLayAll0, h1.1, h2.1], ?_⟩
        simp only [PyData.depthAll]
        omega
    cases d with
    | list xs =>
      obtain ⟨h1, h2⟩ := Bool.and_eq_true_iff.mp h
      have := all xs (List.all_eq_true.mp h2)
      refine ⟨by simp [PyData.canLay0, this.1], ?_⟩
      simp only [PyData.depth]
      omega
    | tuple xs =>
      obtain ⟨h1, h2⟩ := Bool.and_eq_true_iff.mp h
      have := all xs (List.all_eq_true.mp h2)
      refine ⟨by simp [PyData.canLay0, this.1], ?_⟩
      simp only [PyData.depth]
      omega
    | none => exact ⟨rfl, by simp [PyData.depth]⟩
    | bool b => exact ⟨rfl, by simp [PyData.depth]⟩
    | int b => exact ⟨rfl, by simp [PyData.depth]⟩
    | str x => cases h
    | dict x => cases h
theorem gd_shaped {m : Nat} {d : D} (h : gd m d = true) (hm : m ≤ 60) : SeqAt.shaped d = true := by
  have := gd_lay m d h
  unfold SeqAt.shaped
  rw [this.1, decide_eq_true (by omega)]
  rfl
theorem eq_nil {m : Nat} {xs : List D} (h : gd m (.list xs) = true) (hm : m ≤ 60) : cmpD .eq (.list xs) (.list []) = some xs.isEmpty := by
  have h1 := gd_shaped h hm
  have h2 : SeqAt.shaped (.list []) = true := by decide
  show guardO (SeqAt.shaped (.list xs) && SeqAt.shaped (.list [])) (PyData.eqv (.list xs) (.list [])) = _
  rw [h1, h2]
  cases xs <;> simp [guardO, PyData.eqv, PyData.eqvAll]
theorem ne_nil {m : Nat} {xs : List D} (h : gd m (.list xs) = true) (hm : m ≤ 60) : cmpD .ne (.list xs) (.list []) = some (!xs.isEmpty) := by
  have h1 := gd_shaped h hm
  have h2 : SeqAt.shaped (.list []) = true := by decide
  show guardO (SeqAt.shaped (.list xs) && SeqAt.shaped (.list [])) (!PyData.eqv (.list xs) (.list [])) = _
  rw [h1, h2]
  cases xs <;> simp [guardO, PyData.eqv, PyData.eqvAll]
theorem forL_suf {α : Type} {f : D → Fm → R Fl} (c : α → D) (P : List α → Fm → Prop) : ∀ (hs : List α) (ρ : Fm), P hs ρ → (∀ a rest ρ, P (a :: rest) ρ → ∃ ρ', f (c a) ρ = .ok .nx ρ' ∧ P rest ρ') → ∃ ρ', forL f (hs.map c) ρ = .ok .nx ρ' ∧ P [] ρ'
  | [], ρ, h, _ => ⟨ρ, rfl, h⟩
  | a :: hs, ρ, h, st => by
    obtain ⟨ρ1, e1, p1⟩ := st a hs ρ h
    obtain ⟨ρ2, e2, p2⟩ := forL_suf c P hs ρ1 p1 st
    refine ⟨ρ2, ?_, p2⟩
    show (f (c a) ρ).bind _ = _
    rw [e1]
    exact e2
theorem slo1_t (d : D) (ds : List D) : slV 1 (.tuple (d :: ds)) = some (.val (.tuple ds)) := by
  simp [slV, slcD, cutL, HT.sIx]
/-! comprehensions whose turns change the frame -/
theorem compL_st {f : D → Fm → R (Option D)} (P : Fm → Prop) (Q : D → Prop) : ∀ (ds : List D) (ρ : Fm), P ρ → (∀ d ρ, d ∈ ds → P ρ → ∃ x ρ', f d ρ = .ok (some x) ρ' ∧ Q x ∧ P ρ') → ∃ xs ρ', compL f ds ρ = .ok xs ρ' ∧ xs.length = ds.length ∧ (∀ x ∈ xs, Q x) ∧ P ρ'
  | [], ρ, h, _ => ⟨[], ρ, rfl, rfl, (fun x h => by cases h), h⟩
  | d :: ds, ρ, h, t => by
    obtain ⟨x, ρ1, e1, q1, p1⟩ := t d ρ (List.mem_cons_self ..) h
    obtain ⟨xs, ρ2, e2, l2, q2, p2⟩ := compL_st P Q ds ρ1 p1 fun d ρ hd => t d ρ (List.mem_cons_of_mem _ hd)
    refine ⟨x :: xs, ρ2, ?_, by simp [l2], fun y hy => ?_, p2⟩
    · show (f d ρ).bind _ = _
      rw [e1, rb_ok, e2, rb_ok]
    · rcases List.mem_cons.mp hy with z | z
      · exact z ▸ q1
      · exact q2 y z
theorem compAll_st {own : List Nat} {f : D → Fm → R (Option D)} (P : Fm → Prop) (Q : D → Prop) {ds : List D} {ρ : Fm} (hl : ds.length ≤ 16777216) (h : P ρ) (t : ∀ d ρ, d ∈ ds → P ρ → ∃ x ρ', backR ρ own (f d (wipeF ρ own)) = .ok (some x) ρ' ∧ Q x ∧ P ρ') : ∃ xs ρ', compAll own f ds [] ρ = .ok (.tmp xs) ρ' ∧ xs.length = ds.length ∧ (∀ x ∈ xs, Q x) ∧ P ρ' := by
  obtain ⟨xs, ρ', e, r⟩ := compL_st P Q ds ρ h t
  refine ⟨xs, ρ', ?_, r⟩
  unfold compAll
  rw [if_pos (show fits ds.length = true from decide_eq_true hl), e]
  rfl
theorem ints_of {P : Int → Prop} : ∀ {xs : List D}, (∀ x ∈ xs, ∃ m, x = .int m ∧ P m) → ∃ ms : List Int, xs = ms.map .int ∧ intsD xs = some ms ∧ ∀ m ∈ ms, P m
  | [], _ => ⟨[], rfl, rfl, fun m h => by cases h⟩
  | x :: xs, h => by
    obtain ⟨m, rfl, hm⟩ := h x (List.mem_cons_self ..)
    obtain ⟨ms, rfl, e, hs⟩ := ints_of fun y hy => h y (List.mem_cons_of_mem _ hy)
    refine ⟨m :: ms, rfl, ?_, fun k hk => ?_⟩
    · show (intsD (ms.map .int)).map (m :: ·) = _
      rw [e]
      rfl
    · rcases List.mem_cons.mp hk with z | z
      · exact z ▸ hm
      · exact hs k z
theorem insU_len (a : Int) : ∀ l : List Int, (insU a l).length ≤ l.length + 1
  | [] => Nat.le_refl _
  | b :: r => by
    have ih := insU_len a r
    unfold insU
    split
    · simp
    · split
      · simp
      · simp only [List.length_cons]
        omega
theorem ssetI_len : ∀ l : List Int, (ssetI l).length ≤ l.length
  | [] => Nat.le_refl _
  | a :: r => by
    have := insU_len a (ssetI r)
    have := ssetI_len r
    show (insU a (ssetI r)).length ≤ r.length + 1
    omega
/-! values of any small shape -/
def fl1 : D → Bool
  | .none => true
  | .bool _ => true
  | .int _ => true
  | .str x => PyData.strOk x
  | _ => false
def gsh (L : Nat) : Nat → D → Bool
  | 0, d => fl1 d
  | m + 1, .list xs => decide (xs.length ≤ L) && xs.all (gsh L m)
  | m + 1, .tuple xs => decide (xs.length ≤ L) && xs.all (gsh L m)
  | _ + 1, d => fl1 d
theorem gs_nd {L m : Nat} {d : D} (h : gsh L m d = true) : ∀ x, d ≠ .dict x := by
  rintro x rfl
  cases m <;> cases h
theorem gs_tup {L m : Nat} {xs : List D} (h : gsh L m (.tuple xs) = true) : ∃ k, m = k + 1 ∧ xs.length ≤ L ∧ ∀ x ∈ xs, gsh L k x = true := by
  cases m with
  | zero => cases h
  | succ k =>
    obtain ⟨h1, h2⟩ := Bool.and_eq_true_iff.mp h
    exact ⟨k, rfl, of_decide_eq_true h1, List.all_eq_true.mp h2⟩
theorem gs_mk {L m : Nat} {xs : List D} (h1 : xs.length ≤ L) (h2 : ∀ x ∈ xs, gsh L m x = true) : gsh L (m + 1) (.tuple xs) = true := by
  show (decide (xs.length ≤ L) && xs.all (gsh L m)) = true
  rw [decide_eq_true h1, List.all_eq_true.mpr h2]
  rfl
theorem gs_mkL {L m : Nat} {xs : List D} (h1 : xs.length ≤ L) (h2 : ∀ x ∈ xs, gsh L m x = true) : gsh L (m + 1) (.list xs) = true := by
  show (decide (xs.length ≤ L) && xs.all (gsh L m)) = true
  rw [decide_eq_true h1, List.all_eq_true.mpr h2]
  rfl
theorem fl1_gs {L : Nat} {d : D} (h : fl1 d = true) : ∀ m, gsh L m d = true := fun m => by
  cases m with
  | zero => exact h
  | succ k => cases d <;> first | exact h | cases h
theorem gs_up {L L2 : Nat} (hL : L ≤ L2) : ∀ (m : Nat) {d : D}, gsh L m d = true → ∀ k, gsh L2 (m + k) d = true
  | 0, d, h, k => by rw [Nat.zero_add]; exact fl1_gs h k
  | m + 1, d, h, k => by
    have e : m + 1 + k = (m + k) + 1 := by omega
    rw [e]
    cases d with
    | list xs =>
      obtain ⟨h1, h2⟩ := Bool.and_eq_true_iff.mp h
      exact gs_mkL (Nat.le_trans (of_decide_eq_true h1) hL) fun x hx => gs_up hL m (List.all_eq_true.mp h2 x hx) k
    | tuple xs =>
      obtain ⟨h1, h2⟩ := Bool.and_eq_true_iff.mp h
      exact gs_mk (Nat.le_trans (of_decide_eq_true h1) hL) fun x hx => gs_up hL m (List.all_eq_true.mp h2 x hx) k
    | none => rfl
    | bool b => rfl
    | int b => rfl
    | str x => exact h
    | dict x => cases h
theorem gs_lay {L : Nat} : ∀ (m : Nat) (d : D), gsh L m d = true → d.canLay0 = true ∧ d.depth ≤ m + 1
  | 0, d, h => by
    have h : fl1 d = true := h
    cases d with
    | str x =>
      have h : PyData.strOk x = true := h
      exact ⟨by simpa [PyData.canLay0] using h, Nat.zero_le _⟩
    | list x => cases h
    | tuple x => cases h
    | dict x => cases h
    | none => exact ⟨rfl, Nat.zero_le _⟩
    | bool x => exact ⟨rfl, Nat.zero_le _⟩
    | int x => exact ⟨rfl, Nat.zero_le _⟩
  | m + 1, d, h => by
    have all : ∀ xs : List D, (∀ x ∈ xs, gsh L m x = true) → PyData.canLayAll0 xs = true ∧ PyData.depthAll xs ≤ m + 1 := by
      intro xs
      induction xs with
      | nil =>
        intro _
        exact ⟨by simp [PyData.canLayAll0], by simp [PyData.depthAll]⟩
      | cons x xs ih =>
        intro hx
        have h1 := gs_lay m x (hx x (List.mem_cons_self ..))
        have h2 := ih fun y hy => hx y (List.mem_cons_of_mem _ hy)
        refine ⟨by simp [PyData.canLayAll0, h1.1, h2.1], ?_⟩
        simp only [PyData.depthAll]
        omega
    cases d with
    | list xs =>
      obtain ⟨h1, h2⟩ := Bool.and_eq_true_iff.mp h
      have := all xs (List.all_eq_true.mp h2)
      refine ⟨by simp [PyData.canLay0, this.1], ?_⟩
      simp only [PyData.depth]
      omega
    | tuple xs =>
      obtain ⟨h1, h2⟩ := Bool.and_eq_true_iff.mp h
      have := all xs (List.all_eq_true.mp h2)
      refine ⟨by simp [PyData.canLay0, this.1], ?_⟩
      simp only [PyData.depth]
      omega
    | str x =>
      have h : PyData.strOk x = true := h
      exact ⟨by simpa [PyData.canLay0] using h, Nat.zero_le _⟩
    | none => exact ⟨rfl, Nat.zero_le _⟩
    | bool b => exact ⟨rfl, Nat.zero_le _⟩
    | int b => exact ⟨rfl, Nat.zero_le _⟩
    | dict x => cases h
theorem gs_shaped {L m : Nat} {d : D} (h : gsh L m d = true) (hm : m ≤ 60) : SeqAt.shaped d = true := by
  have := gs_lay m d h
  unfold SeqAt.shaped
  rw [this.1, decide_eq_true (by omega)]
  rfl
theorem eqS {L m : Nat} {a b : D} (ha : gsh L m a = true) (hb : gsh L m b = true) (hm : m ≤ 60) : cmpD .eq a b = some (PyData.eqv a b) := by
  show guardO (SeqAt.shaped a && SeqAt.shaped b) _ = _
  rw [gs_shaped ha hm, gs_shaped hb hm]
  rfl
theorem neS {L m : Nat} {a b : D} (ha : gsh L m a = true) (hb : gsh L m b = true) (hm : m ≤ 60) : cmpD .ne a b = some (!PyData.eqv a b) := by
  show guardO (SeqAt.shaped a && SeqAt.shaped b) _ = _
  rw [gs_shaped ha hm, gs_shaped hb hm]
  rfl
theorem neS_nil {L m : Nat} {xs : List D} (h : ∀ x ∈ xs, gsh L m x = true) (hl : xs.length ≤ L) (hm : m ≤ 50) : cmpD .ne (.list xs) (.list []) = some (!xs.isEmpty) := by
  rw [neS (gs_mkL hl h) (gs_mkL (m := m) (xs := []) (Nat.zero_le _) fun x hx => nomatch hx) (by omega)]
  cases xs <;> simp [PyData.eqv, PyData.eqvAll]
theorem eqS_nil {L m : Nat} {xs : List D} (h : ∀ x ∈ xs, gsh L m x = true) (hl : xs.length ≤ L) (hm : m ≤ 50) : cmpD .eq (.list xs) (.list []) = some xs.isEmpty := by
  rw [eqS (gs_mkL hl h) (gs_mkL (m := m) (xs := []) (Nat.zero_le _) fun x hx => nomatch hx) (by omega)]
  cases xs <;> simp [PyData.eqv, PyData.eqvAll]
/-! is_whole, is_tuple_of, fits_cycle, .. of such -/
def isW : D → Int → Int → Bool
  | .int v, lo, hi => decide (lo ≤ v) && decide (v ≤ hi)
  | _, _, _ => false
theorem t_isW (n : Nat) (d : D) (lo hi : Int) (h : ∀ x, d ≠ .dict x) : evC fs (n + 1) 0 [.val d, .val (.int lo), .val (.int hi)] = .ok (.val (.bool (isW d lo hi))) [] := by
  cases d with
  | int v => exact t_is_whole n v lo hi
  | dict x => exact absurd rfl (h x)
  | _ =>
    rw [u_is_whole]
    unfold b_is_whole
    trivial
    rfl
def isT : D → Int → Int → Bool
  | .tuple xs, lo, hi => decide (lo ≤ xs.length) && decide ((xs.length : Int) ≤ hi)
  | _, _, _ => false
theorem t_isT (n : Nat) (d : D) (lo hi : Int) (h : ∀ x, d ≠ .dict x) : evC fs (n + 1) 1 [.val d, .val (.int lo), .val (.int hi)] = .ok (.val (.bool (isT d lo hi))) [] := by
  rw [u_is_tuple_of]
  unfold b_is_tuple_of
  cases d with
  | tuple xs =>
    by_cases q : lo ≤ xs.length
    · exists decide_eq_true q, isT
    · exists decide_eq_false q, isT
  | dict x => exact absurd rfl (h x)
  | _ =>
    trivial
    rfl
theorem t_isT_own (n : Nat) (xs : List D) (lo hi : Int) : evC fs (n + 1) 1 [.own xs .lent, .val (.int lo), .val (.int hi)] = .ok (.val (.bool false)) [xs] := by
  rw [u_is_tuple_of]
  unfold b_is_tuple_of
  generalize evC fs n = C
  trivial
/-! _law_bent: values near tuples of ints -/
theorem strOk_of (x : String) : PyData.strOk (Str.ofString x) = true := by
  rw [Str.ofString_eq_toList]
  unfold PyData.strOk
  rw [Array.all_eq_true]
  intro i hi
  simp only [List.getElem_toArray, List.getElem_map, decide_eq_true_eq]
  have h : (x.toList[i]'(by simpa using hi)).toNat.isValidChar := (x.toList[i]'(by simpa using hi)).valid
  rcases h with h | h <;> omega
theorem b1str {v : Int} (h : v.natAbs < 2 ^ 1000) : b1D .str (.int v) = some (.val (.str (Str.ofString (toString v)))) := by
  show guardO (decide (v.natAbs.log2 < 1920)) _ = _
  have : v.natAbs.log2 < 1920 := by
    by_cases q : v.natAbs = 0
    · rw [q]
      decide
    · rw [Nat.log2_lt q]
      exact Nat.lt_of_lt_of_le h (Nat.pow_le_pow_right (by decide) (by decide))
  rw [decide_eq_true this]
  rfl
theorem sh_t {xs : List D} {i : Int} (h0 : 0 ≤ i) (h1 : i ≤ xs.length) : shV i (.tuple xs) = some (.val (.tuple (xs.take i.toNat))) := by
  show some (RV.val (.tuple (cutL xs none (some i)))) = _
  unfold cutL HT.sIx
  simp only [if_neg (show ¬ i < 0 by omega), List.drop_zero, Nat.sub_zero]
  rw [Nat.min_eq_left (by omega)]
theorem sl_t {xs : List D} {i : Int} (h0 : 0 ≤ i) (h1 : i ≤ xs.length) : slV i (.tuple xs) = some (.val (.tuple (xs.drop i.toNat))) := by
  show some (RV.val (.tuple (cutL xs (some i) none))) = _
  unfold cutL HT.sIx
  simp only [if_neg (show ¬ i < 0 by omega)]
  rw [Nat.min_eq_left (by omega), List.take_of_length_le (by rw [List.length_drop]; omega)]
theorem slc_t {xs : List D} {i j : Int} (h0 : 0 ≤ i) (h1 : i ≤ xs.length) (h2 : i ≤ j) : scV i j (.tuple xs) = some (.val (.tuple ((xs.drop i.toNat).take (j.toNat - i.toNat)))) := by
  show some (RV.val (.tuple (cutL xs (some i) (some j)))) = _
  unfold cutL HT.sIx
  simp only [if_neg (show ¬ i < 0 by omega), if_neg (show ¬ j < 0 by omega)]
  rw [Nat.min_eq_left (show i.toNat ≤ xs.length by omega)]
  congr 3
  by_cases q : j.toNat ≤ xs.length
  · rw [Nat.min_eq_left q]
  · rw [Nat.min_eq_right (by omega), List.take_of_length_le (by rw [List.length_drop]; omega), List.take_of_length_le (by rw [List.length_drop]; omega)]
def Out (L m : Nat) (r : RV) : Prop := ∃ d, gsh L m d = true ∧ (r = .val d ∨ ∃ xs, d = .list xs ∧ r = .tmp xs)
/-- tuples of tuples .. of ints -/
def inn (L : Nat) : Nat → D → Bool
  | 0, .int v => decide (v.natAbs < 2 ^ 100)
  | 0, _ => false
  | m + 1, .tuple xs => decide (xs.length ≤ L) && xs.all (inn L m)
  | _ + 1, _ => false
theorem inn_gs {L : Nat} : ∀ (m : Nat) {d : D}, inn L m d = true → gsh L m d = true
  | 0, d, h => by cases d <;> first | rfl | cases h
  | m + 1, d, h => by
    cases d with
    | tuple xs =>
      obtain ⟨h1, h2⟩ := Bool.and_eq_true_iff.mp h
      exact gs_mk (of_decide_eq_true h1) fun x hx => inn_gs m (List.all_eq_true.mp h2 x hx)
    | _ => cases h
theorem eqv_t0 {L m : Nat} {d : D} (h : gsh L m d = true) (hm : m ≤ 50) : cmpD .eq d (.tuple []) = some (PyData.eqv d (.tuple [])) := by
  have h2 : gsh L (m + 1) (.tuple []) = true := gs_mk (Nat.zero_le _) fun x hx => nomatch hx
  exact eqS (gs_up (Nat.le_refl _) m h 1) h2 (by omega)
theorem nev_t0 {L m : Nat} {d : D} (h : gsh L m d = true) (hm : m ≤ 50) : cmpD .ne d (.tuple []) = some (!PyData.eqv d (.tuple [])) := by
  have h2 : gsh L (m + 1) (.tuple []) = true := gs_mk (Nat.zero_le _) fun x hx => nomatch hx
  exact neS (gs_up (Nat.le_refl _) m h 1) h2 (by omega)
theorem take_gs {L m k : Nat} {xs : List D} (h : ∀ x ∈ xs, gsh L m x = true) : ∀ x ∈ xs.take k, gsh L m x = true := fun x hx => h x (List.mem_of_mem_take hx)
theorem drop_gs {L m k : Nat} {xs : List D} (h : ∀ x ∈ xs, gsh L m x = true) : ∀ x ∈ xs.drop k, gsh L m x = true := fun x hx => h x (List.mem_of_mem_drop hx)
theorem app_gs {L m : Nat} {xs ys : List D} (h : ∀ x ∈ xs, gsh L m x = true) (h2 : ∀ x ∈ ys, gsh L m x = true) : ∀ x ∈ xs ++ ys, gsh L m x = true := fun x hx => by
  rcases List.mem_append.mp hx with hx | hx
  · exact h x hx
  · exact h2 x hx
def nearL (v : Int) : List D := [.int (v + 1), .int (v - 1), .int (-v), .bool (decide (v = 1)), .none, .int 0, .str (Str.ofString (toString v)), .tuple [.int v]]
theorem bent_int (n : Nat) (l : List D) {v : Int} (hv : v.natAbs < 2 ^ 100) (hl : CupOk l) {L : Nat} (hL : 1 ≤ L) : ∃ r l', CupOk l' ∧ gsh L 1 r = true ∧ evC fs (n + 3) 30 [.own l .lent, .val (.int v)] = .ok (.val r) [l'] := by
  obtain ⟨way, l1, c1, w0, w1, e1⟩ := t_roll (n + 1) l 5 hl (by omega) (by omega)
  obtain ⟨r, l2, c2, hr, e2⟩ := t_some n l1 (nearL v) c1 (by simp [nearL]) (by simp [nearL])
  refine ⟨r, l2, c2, ?_, ?_⟩
  · unfold nearL at hr
    simp only [List.mem_cons, List.not_mem_nil, or_false] at hr
    rcases hr with rfl | rfl | rfl | rfl | rfl | rfl | rfl | rfl
    all_goals first
      | rfl
      | exact strOk_of _
      | skip
    refine gs_mk hL fun x hx => ?_
    rw [List.mem_singleton] at hx
    subst hx
    rfl
  · have g1 := b1str (v := v) (Nat.lt_of_lt_of_le hv (Nat.pow_le_pow_right (by decide) (by decide)))
    have g2 : cmpD .eq (.int v) (.int 1) = some (decide (v = 1)) := by
      rw [eqS (L := 0) (m := 0) rfl rfl (by omega)]
      congr 1
    have eo : [.int (v + 1), .int (v - 1), .int (-v), .bool (decide (v = 1)), .none, .int 0, .str (Str.ofString (toString v)), .tuple [.int v]] = nearL v := rfl
    have mo : ∀ ρ, mkL (nearL v) ρ = .ok (.tmp (nearL v)) ρ := mkL_ok (show 8 ≤ 16777216 by omega)
    rw [u__law_bent]
    unfold b__law_bent
    have e1 : evC fs (n + 2) 26 _ = _ := e1
    generalize evC fs (n + 2) = C at *
    generalize nearL v = os at *
    exists e1, g1, g2, eo, mo, e2
theorem t_bent : ∀ (m n : Nat) {L : Nat} (l : List D) (d : D), inn L m d = true → 1 ≤ L → L ≤ 500 → m ≤ 20 → CupOk l → ∃ r l', CupOk l' ∧ Out (2 * L) (m + 1) r ∧ evC fs (n + m + 3) 30 [.own l .lent, .val d] = .ok r [l'] := by
  intro m
  induction m with
  | zero =>
    intro n L l d h hL hL2 hm hl
    cases d with
    | int v =>
      obtain ⟨r, l', c, g, e⟩ := bent_int n l (of_decide_eq_true h) hl (L := 2 * L) (by omega)
      exact ⟨.val r, l', c, ⟨r, g, .inl rfl⟩, e⟩
    | _ => cases h
  | succ m ih =>
    intro n L l d h hL hL2 hm hl
    cases d with
    | tuple xs =>
      have gs := inn_gs (m + 1) h
      obtain ⟨h1, h2⟩ := Bool.and_eq_true_iff.mp h
      have hlen := of_decide_eq_true h1
      have hx := List.all_eq_true.mp h2
      have z0 := nev_t0 gs (by omega)
      have lt : ∀ i, (xs.take i).length ≤ xs.length := fun i => by rw [List.length_take]; omega
      have ld : ∀ i, (xs.drop i).length ≤ xs.length := fun i => by rw [List.length_drop]; omega
      have hx' : ∀ x ∈ xs, gsh (2 * L) (m + 1) x = true := fun x hx0 => gs_up (by omega) m (inn_gs m (hx x hx0)) 1
      have e0 : n + (m + 1) + 2 = n + m + 3 := by omega
      have cuts : ∀ at' : Int, 0 ≤ at' → at' ≤ xs.length → shV at' (.tuple xs) = some (.val (.tuple (xs.take at'.toNat))) ∧ slV (at' + 1) (.tuple xs) = some (.val (.tuple (xs.drop (at' + 1).toNat))) ∧
          scV at' (at' + 1) (.tuple xs) = some (.val (.tuple ((xs.drop at'.toNat).take 1))) ∧ binD .mul (.tuple ((xs.drop at'.toNat).take 1)) (.int 2) = some (.val (.tuple ((xs.drop at'.toNat).take 1 ++ (xs.drop at'.toNat).take 1))) ∧
          fits ((xs.take at'.toNat).length + (xs.drop (at' + 1).toNat).length) = true ∧ fits ((xs.take at'.toNat).length + ((xs.drop at'.toNat).take 1 ++ (xs.drop at'.toNat).take 1).length) = true ∧
          fits ((xs.take at'.toNat ++ ((xs.drop at'.toNat).take 1 ++ (xs.drop at'.toNat).take 1)).length + (xs.drop (at' + 1).toNat).length) = true ∧
          (xs.take at'.toNat ++ ((xs.drop at'.toNat).take 1 ++ (xs.drop at'.toNat).take 1) ++ xs.drop (at' + 1).toNat).length ≤ 2 * L ∧ (∀ x ∈ (xs.drop at'.toNat).take 1, gsh (2 * L) (m + 1) x = true) := by
        intro at' b0 b1
        have ej : (at' + 1).toNat - at'.toNat = 1 := by omega
        have s3 := slc_t (xs := xs) (i := at') (j := at' + 1) b0 (by omega) (by omega)
        rw [ej] at s3
        have dl : ((xs.drop at'.toNat).take 1).length ≤ 1 := by
          rw [List.length_take]
          omega
        have t1 := lt at'.toNat
        have t2 := ld (at' + 1).toNat
        have tot : (xs.take at'.toNat).length + ((xs.drop at'.toNat).take 1).length + (xs.drop (at' + 1).toNat).length ≤ xs.length := by
          simp only [List.length_take, List.length_drop]
          omega
        refine ⟨sh_t b0 (by omega), ?_, s3, ?_, decide_eq_true (by omega), decide_eq_true (by rw [List.length_append]; omega), decide_eq_true (by rw [List.length_append, List.length_append]; omega), ?_, take_gs (drop_gs hx')⟩
        · by_cases h : at' + 1 ≤ xs.length
          · exact sl_t (by omega) h
          · show some (RV.val (.tuple (cutL xs (some (at' + 1)) none))) = _
            unfold cutL HT.sIx
            simp only [if_neg (show ¬ at' + 1 < 0 by omega)]
            rw [Nat.min_eq_right (by omega), List.drop_of_length_le (Nat.le_refl _), List.drop_of_length_le (by omega), List.take_nil]
        · generalize (xs.drop at'.toNat).take 1 = dd at *
          show guardO _ _ = _
          rw [show (decide ((-1000 : Int) ≤ 2) && (decide ((2 : Int) ≤ 1000) && decide (dd.length ≤ 1000))) = true by rw [decide_eq_true (show dd.length ≤ 1000 by omega)]; rfl]
          show some (RV.val (.tuple (List.replicate 2 dd).flatten)) = _
          simp
        · rw [List.length_append, List.length_append, List.length_append]
          by_cases q : xs.length = 0
          · omega
          · omega
      have nn : cmpD .ne (.tuple xs) (.tuple []) = some (!xs.isEmpty) := by
        rw [z0]
        cases xs <;> simp [PyData.eqv, PyData.eqvAll]
      by_cases hne : xs = []
      · have nn : cmpD .ne (.tuple xs) (.tuple []) = some (!true) := by
          rw [nn, hne]
          rfl
        obtain ⟨way, l3, c3, w0, w1, e3⟩ := t_roll (n + m + 2) l 5 hl (by omega) (by omega)
        obtain ⟨at', l4, c4, b0, b1, e4⟩ := t_roll (n + m + 2) l3 (xs.length + 1) c3 (by omega) (by omega)
        have e3 : evC fs (n + m + 3) 26 _ = _ := e3
        have e4 : evC fs (n + m + 3) 26 _ = _ := e4
        obtain ⟨s1, s2, s3, g1, f1, f2, f3, ll, hd⟩ := cuts at' b0 (by omega)
        generalize hD : (xs.drop at'.toNat).take 1 = dd at *
        have w4 : way = 0 ∨ way = 1 ∨ way = 2 ∨ way = 3 ∨ way = 4 := by omega
        rcases w4 with rfl | rfl | rfl | rfl | rfl
        · refine ⟨(.tmp xs), l4, c4, ⟨.list xs, gs_mkL (by omega) hx', .inr ⟨xs, rfl, rfl⟩⟩, ?_⟩
          rw [u__law_bent, e0]
          unfold b__law_bent
          generalize evC fs (n + m + 3) = C at *
          exists nn, e3, e4
        · refine ⟨(.val (.tuple (xs.take at'.toNat ++ xs.drop (at' + 1).toNat))), l4, c4, ⟨_, gs_mk (by rw [List.length_append]; have := lt at'.toNat; have := ld (at' + 1).toNat; omega) (app_gs (take_gs hx') (drop_gs hx')), .inl rfl⟩, ?_⟩
          rw [u__law_bent, e0]
          unfold b__law_bent
          generalize evC fs (n + m + 3) = C at *
          exists nn, e3, e4, s1, s2, f1
        · refine ⟨(.val (.tuple (xs.take at'.toNat ++ (dd ++ dd) ++ xs.drop (at' + 1).toNat))), l4, c4, ⟨_, gs_mk ll (app_gs (app_gs (take_gs hx') (app_gs hd hd)) (drop_gs hx')), .inl rfl⟩, ?_⟩
          rw [u__law_bent, e0]
          unfold b__law_bent
          generalize evC fs (n + m + 3) = C at *
          exists nn, e3, e4, s1, s2, s3, g1, f2, f3
        · refine ⟨(.val (.tuple xs.reverse)), l4, c4, ⟨_, gs_mk (by rw [List.length_reverse]; omega) fun x hx0 => hx' x (List.mem_reverse.mp hx0), .inl rfl⟩, ?_⟩
          rw [u__law_bent, e0]
          unfold b__law_bent
          generalize evC fs (n + m + 3) = C at *
          exists nn, e3, e4
        · refine ⟨(.val .none), l4, c4, ⟨.none, rfl, .inl rfl⟩, ?_⟩
          rw [u__law_bent, e0]
          unfold b__law_bent
          generalize evC fs (n + m + 3) = C at *
          exists nn, e3, e4
      · have nn : cmpD .ne (.tuple xs) (.tuple []) = some (!false) := by
          rw [nn]
          cases xs with
          | nil => exact absurd rfl hne
          | cons => rfl
        have hpos : 1 ≤ xs.length := List.length_pos_iff.mpr hne
        obtain ⟨r0, l1, c1, a0, a1, e1⟩ := t_roll (n + m + 2) l 4 hl (by omega) (by omega)
        have e1 : evC fs (n + m + 3) 26 _ = _ := e1
        by_cases hr : 0 < r0
        · have g0 := decide_eq_true hr
          obtain ⟨at', l2, c2, b0, b1, e2⟩ := t_roll (n + m + 2) l1 xs.length c1 (by omega) (by omega)
          have e2 : evC fs (n + m + 3) 26 _ = _ := e2
          have s1 := sh_t (xs := xs) (i := at') b0 (by omega)
          have s2 := sl_t (xs := xs) (i := at' + 1) (by omega) (by omega)
          obtain ⟨x, hx0, _, hat⟩ := atI_map (fun x : D => x) (hs := xs) b0 b1
          rw [List.map_id'' (fun _ => rfl)] at hat
          obtain ⟨r, l4, c4, ⟨y, gy, hr⟩, e4⟩ := ih n l2 x (hx x hx0) hL hL2 (by omega) c2
          have e4 : evC fs (n + m + 3) 30 [.own l2 .lent, .val x] = .ok r [l4] := e4
          have t1 := lt at'.toNat
          have t2 := ld (at' + 1).toNat
          have tot : (xs.take at'.toNat).length + 1 + (xs.drop (at' + 1).toNat).length ≤ xs.length := by
            simp only [List.length_take, List.length_drop]
            omega
          refine ⟨.val (.tuple (xs.take at'.toNat ++ [y] ++ xs.drop (at' + 1).toNat)), l4, c4, ⟨_, gs_mk ?_ (app_gs (app_gs (take_gs hx') fun z hz => ?_) (drop_gs hx')), .inl rfl⟩, ?_⟩
          · rw [List.length_append, List.length_append, List.length_singleton]
            omega
          · rw [List.mem_singleton] at hz
            subst hz
            exact gy
          · have f3 : fits ((xs.take at'.toNat).length + (0 + 1)) = true := decide_eq_true (by omega)
            have f4 : fits ((xs.take at'.toNat ++ [y]).length + (xs.drop (at' + 1).toNat).length) = true := decide_eq_true (by rw [List.length_append, List.length_singleton]; omega)
            rw [u__law_bent, e0]
            unfold b__law_bent
            generalize evC fs (n + m + 3) = C at *
            rcases hr with rfl | ⟨ys, rfl, rfl⟩
            · generalize hA : xs.take at'.toNat ++ [y] = A at *
              exists nn, e1, g0, e2, s1, s2, hat, e4, f3, hA, f4
            · generalize hA : xs.take at'.toNat ++ [.list ys] = A at *
              exists nn, e1, g0, e2, s1, s2, hat, e4, f3, hA, f4
        · have g0 := decide_eq_false hr
          obtain ⟨way, l3, c3, w0, w1, e3⟩ := t_roll (n + m + 2) l1 5 c1 (by omega) (by omega)
          obtain ⟨at', l4, c4, b0, b1, e4⟩ := t_roll (n + m + 2) l3 (xs.length + 1) c3 (by omega) (by omega)
          have e3 : evC fs (n + m + 3) 26 _ = _ := e3
          have e4 : evC fs (n + m + 3) 26 _ = _ := e4
          obtain ⟨s1, s2, s3, g1, f1, f2, f3, ll, hd⟩ := cuts at' b0 (by omega)
          generalize hD : (xs.drop at'.toNat).take 1 = dd at *
          have w4 : way = 0 ∨ way = 1 ∨ way = 2 ∨ way = 3 ∨ way = 4 := by omega
          rcases w4 with rfl | rfl | rfl | rfl | rfl
          · refine ⟨(.tmp xs), l4, c4, ⟨.list xs, gs_mkL (by omega) hx', .inr ⟨xs, rfl, rfl⟩⟩, ?_⟩
            rw [u__law_bent, e0]
            unfold b__law_bent
            generalize evC fs (n + m + 3) = C at *
            exists nn, e1, g0, e3, e4
          · refine ⟨(.val (.tuple (xs.take at'.toNat ++ xs.drop (at' + 1).toNat))), l4, c4, ⟨_, gs_mk (by rw [List.length_append]; have := lt at'.toNat; have := ld (at' + 1).toNat; omega) (app_gs (take_gs hx') (drop_gs hx')), .inl rfl⟩, ?_⟩
            rw [u__law_bent, e0]
            unfold b__law_bent
            generalize evC fs (n + m + 3) = C at *
            exists nn, e1, g0, e3, e4, s1, s2, f1
          · refine ⟨(.val (.tuple (xs.take at'.toNat ++ (dd ++ dd) ++ xs.drop (at' + 1).toNat))), l4, c4, ⟨_, gs_mk ll (app_gs (app_gs (take_gs hx') (app_gs hd hd)) (drop_gs hx')), .inl rfl⟩, ?_⟩
            rw [u__law_bent, e0]
            unfold b__law_bent
            generalize evC fs (n + m + 3) = C at *
            exists nn, e1, g0, e3, e4, s1, s2, s3, g1, f2, f3
          · refine ⟨(.val (.tuple xs.reverse)), l4, c4, ⟨_, gs_mk (by rw [List.length_reverse]; omega) fun x hx0 => hx' x (List.mem_reverse.mp hx0), .inl rfl⟩, ?_⟩
            rw [u__law_bent, e0]
            unfold b__law_bent
            generalize evC fs (n + m + 3) = C at *
            exists nn, e1, g0, e3, e4
          · refine ⟨(.val .none), l4, c4, ⟨.none, rfl, .inl rfl⟩, ?_⟩
            rw [u__law_bent, e0]
            unfold b__law_bent
            generalize evC fs (n + m + 3) = C at *
            exists nn, e1, g0, e3, e4
    | _ => cases h
/-! cams: the follower, the greatest shims -/
def cm (c : List Int) : D := .tuple (c.map .int)
def cms (cs : List (List Int)) : D := .tuple (cs.map cm)
def mx (l : List Int) : Int := (maxL l).getD 0
def mn (l : List Int) : Int := (minL l).getD 0
def fol (m : Nat) (cs : List (List Int)) (sh : List Int) : List Int := (List.range m).map fun p => mx ((cs.zip sh).map fun q => q.1.getD p 0 + q.2)
def gr (cs : List (List Int)) (w : List Int) : List Int := cs.map fun c => mn ((w.zip c).map fun q => q.1 - q.2)
theorem intsD_map : ∀ l : List Int, intsD (l.map .int) = some l
  | [] => rfl
  | a :: l => by
    show (intsD (l.map .int)).map (a :: ·) = _
    rw [intsD_map l]
    rfl
theorem mn_min : ∀ l : List Int, l ≠ [] → minL l = some (mn l)
  | [], h => absurd rfl h
  | [a], _ => rfl
  | a :: b :: r, _ => by
    have := mn_min (b :: r) (by simp)
    unfold mn
    show (minL (b :: r)).map _ = some (((minL (b :: r)).map _).getD 0)
    rw [this]
    rfl
theorem mx_max : ∀ l : List Int, l ≠ [] → maxL l = some (mx l)
  | [], h => absurd rfl h
  | [a], _ => rfl
  | a :: b :: r, _ => by
    have := mx_max (b :: r) (by simp)
    unfold mx
    show (maxL (b :: r)).map _ = some (((maxL (b :: r)).map _).getD 0)
    rw [this]
    rfl
theorem min_map {l : List Int} (h : l ≠ []) : b1D .min (.list (l.map .int)) = some (.val (.int (mn l))) := by
  show minV (l.map .int) = _
  unfold minV
  rw [intsD_map, Option.bind_some, mn_min l h]
theorem max_map {l : List Int} (h : l ≠ []) : b1D .max (.list (l.map .int)) = some (.val (.int (mx l))) := by
  show ((intsD (l.map .int)).bind maxL).map (fun m => RV.val (.int m)) = _
  rw [intsD_map, Option.bind_some, mx_max l h]
  rfl
theorem zipD_map2 {α β : Type} (c : α → D) (d : β → D) : ∀ (xs : List α) (ys : List β), zipD (xs.map c) (ys.map d) = (xs.zip ys).map fun p => .tuple [c p.1, d p.2]
  | [], _ => by cases ‹List β› <;> rfl
  | _ :: _, [] => rfl
  | x :: xs, y :: ys => by
    show _ :: zipD _ _ = _ :: _
    rw [zipD_map2 c d xs ys]
    rfl
theorem compAll_ofL {α : Type} {own lk : List Nat} {f : D → Fm → R (Option D)} {hs : List α} {c : α → D} {k : α → D} {ρ : Fm} (hf : hs.length ≤ 16777216) (h : ∀ a ∈ hs, backR ρ own (f (c a) (wipeF ρ own)) = .ok (some (k a)) ρ) : compAll own f (hs.map c) lk ρ = .ok (.tmp (hs.map k)) (unlock ρ lk) := by
  unfold compAll
  rw [if_pos (show fits (hs.map c).length = true from decide_eq_true (by rw [List.length_map]; exact hf)), compL_of (c := c) (k := fun a => some (k a)) hs h, fm_some]
theorem compAll_of0 {α : Type} {own : List Nat} {f : D → Fm → R (Option D)} {hs : List α} {c : α → D} {k : α → D} {ρ : Fm} (hf : hs.length ≤ 16777216) (h : ∀ a ∈ hs, backR ρ own (f (c a) (wipeF ρ own)) = .ok (some (k a)) ρ) : compAll own f (hs.map c) [] ρ = .ok (.tmp (hs.map k)) ρ := compAll_ofL hf h
theorem mm_int {α : Type} (f : α → Int) (l : List α) : (l.map f).map PyData.int = l.map fun a => PyData.int (f a) := by
  rw [List.map_map]
  rfl
theorem at_int {l : List Int} {p : Nat} (h : p < l.length) : L2.atI (l.map PyData.int) (p : Int) = some (.int (l.getD p 0)) := by
  obtain ⟨a, _, h1, h2⟩ := atI_map PyData.int (hs := l) (i := (p : Int)) (by omega) (by omega)
  rw [h2]
  have e : ((p : Int)).toNat = p := by omega
  rw [e] at h1
  rw [List.getD_eq_getElem?_getD, h1]
  rfl
theorem at0 {α : Type} (c : α → D) (x : α) (xs : List α) : L2.atI ((x :: xs).map c) 0 = some (c x) := by
  obtain ⟨a, _, h1, h2⟩ := atI_map c (hs := x :: xs) (i := 0) (by omega) (by simp)
  rw [h2]
  cases h1
  rfl
theorem rl0 (m : Nat) : rangeL 0 1 m = (List.range m).map fun p : Nat => PyData.int (p : Int) := by
  unfold rangeL
  exact List.map_congr_left fun p _ => by rw [Int.zero_add, Int.mul_one]
theorem rg1_at (m : Nat) (hm : m ≤ 1000000) (ρ : Fm) : rg1 (m : Int) ρ = .ok ((List.range m).map fun p : Nat => PyData.int (p : Int), []) ρ := by
  rw [rg1_ok (by omega) (by omega), ← rl0]
  congr 4

/-- cams of m heights each -/
def Rect (m : Nat) (cs : List (List Int)) : Prop := m ≤ 60 ∧ cs.length ≤ 1000 ∧ cs ≠ [] ∧ ∀ c ∈ cs, c.length = m
theorem t_follows (n : Nat) {m : Nat} {cs : List (List Int)} {sh : List Int} (ok : Rect m cs) (hs : sh.length = cs.length) : evC fs (n + 1) 11 [.val (cms cs), .val (cm sh)] = .ok (.val (cm (fol m cs sh))) [] := by
  obtain ⟨o1, o2, o3, o4⟩ := ok
  have z1 : zipD (cs.map cm) (sh.map .int) = (cs.zip sh).map fun q => .tuple [cm q.1, .int q.2] := zipD_map2 cm PyData.int cs sh
  rw [u_follows]
  unfold b_follows cms
  rw [show cm sh = .tuple (sh.map .int) from rfl]
  generalize evC fs n = C
  have q1 : ∀ s2 s6 s7 : Sl, compAll [4, 5] (itemF C (.comp (.bin .add (.var 3) (.var 5)) (.name 3) (.seq (.var 4))) (.tup (.cons (.name 4) (.cons (.name 5) .nil)))) (zipD (cs.map cm) (sh.map .int)) [] [.val (.tuple (cs.map cm)), .val (.tuple (sh.map .int)), s2, .no, .no, .no, s6, s7] =
      .ok (.tmp ((cs.zip sh).map fun q => .list ((q.1.map fun h => h + q.2).map .int))) [.val (.tuple (cs.map cm)), .val (.tuple (sh.map .int)), s2, .no, .no, .no, s6, s7] := by
    intro s2 s6 s7
    rw [z1, compAll_of0 (k := fun q : List Int × Int => .list ((q.1.map fun h => h + q.2).map .int)) (by rw [List.length_zip]; omega)]
    rintro ⟨c, v⟩ hq
    have hc := (List.of_mem_zip hq).1
    have lc := o4 c hc
    have q2 : ∀ s0 s1 s2 s6 s7 : Sl, compAll [3] (itemF C (.bin .add (.var 3) (.var 5)) (.name 3)) (c.map .int) [] [s0, s1, s2, .no, .val (cm c), .val (.int v), s6, s7] = .ok (.tmp ((c.map fun h => h + v).map .int)) [s0, s1, s2, .no, .val (cm c), .val (.int v), s6, s7] := by
      intro s0 s1 s2 s6 s7
      rw [mm_int, compAll_of0 (c := PyData.int) (k := fun h => .int (h + v)) (by omega)]
      intro h hh
      trivial
    unfold cm at q2 ⊢
    exists q2
  obtain ⟨c0, cr, rfl⟩ := List.exists_cons_of_ne_nil o3
  have l0 := o4 c0 (List.mem_cons_self ..)
  have a0 := at0 cm c0 cr
  have k0 : ((c0.map PyData.int).length : Int) = (m : Int) := by rw [List.length_map, l0]
  have r0 : ∀ ρ, rg1 (m : Int) ρ = .ok ((List.range m).map fun p : Nat => PyData.int (p : Int), []) ρ := rg1_at m (by omega)
  generalize hR : ((c0 :: cr).zip sh) = zs at *
  have zl : zs.length ≤ 1000 := by
    rw [← hR, List.length_zip]
    omega
  have zn : zs ≠ [] := by
    rw [← hR]
    intro h
    have := congrArg List.length h
    rw [List.length_zip, hs, List.length_cons] at this
    simp at this
  have zm : ∀ q ∈ zs, q.1.length = m := fun q hq => by
    rw [← hR] at hq
    exact o4 _ (List.of_mem_zip hq).1
  have q3 : ∀ (s0 s1 s3 s4 s5 : Sl), compAll [6] (itemF C (.b1 .max (.comp (.idx (.var 7) (.var 6)) (.name 7) (.seq (.var 2)))) (.name 6)) ((List.range m).map fun p : Nat => PyData.int (p : Int)) [] [s0, s1, .own (zs.map fun q => .list ((q.1.map fun h => h + q.2).map .int)) .mine, s3, s4, s5, .no, .no] =
      .ok (.tmp ((List.range m).map fun p => .int (mx (zs.map fun q => q.1.getD p 0 + q.2)))) [s0, s1, .own (zs.map fun q => .list ((q.1.map fun h => h + q.2).map .int)) .mine, s3, s4, s5, .no, .no] := by
    intro s0 s1 s3 s4 s5
    rw [compAll_of0 (k := fun p => .int (mx (zs.map fun q => q.1.getD p 0 + q.2))) (by rw [List.length_range]; omega)]
    intro p hp
    have hp := List.mem_range.mp hp
    have q4 : ∀ s0 s1 s3 s4 s5 : Sl, compAll [7] (itemF C (.idx (.var 7) (.var 6)) (.name 7)) (zs.map fun q => .list ((q.1.map fun h => h + q.2).map .int)) [2] [s0, s1, .own (zs.map fun q => .list ((q.1.map fun h => h + q.2).map .int)) .lockM, s3, s4, s5, .val (.int p), .no] =
        .ok (.tmp ((zs.map fun q => q.1.getD p 0 + q.2).map .int)) [s0, s1, .own (zs.map fun q => .list ((q.1.map fun h => h + q.2).map .int)) .mine, s3, s4, s5, .val (.int p), .no] := by
      intro s0 s1 s3 s4 s5
      rw [mm_int, compAll_ofL (k := fun q : List Int × Int => .int (q.1.getD p 0 + q.2)) (by omega)]
      · rfl
      · rintro ⟨c, v⟩ hq
        have lc := zm _ hq
        have lc : c.length = m := lc
        have e : L2.atI ((c.map fun h => h + v).map PyData.int) (p : Int) = some (.int (c.getD p 0 + v)) := by
          rw [at_int (by rw [List.length_map]; omega)]
          congr 2
          simp only [List.getD_eq_getElem?_getD, List.getElem?_map]
          rw [List.getElem?_eq_getElem (by omega)]
          rfl
        exists e
    exists q4, max_map (l := zs.map fun q => q.1.getD p 0 + q.2) (by simpa using zn)
  have ef : (fol m (c0 :: cr) sh).map PyData.int = (List.range m).map fun p => .int (mx (zs.map fun q => q.1.getD p 0 + q.2)) := by
    unfold fol
    rw [mm_int, hR]
  unfold cm at *
  rw [ef]
  exists q1, a0, k0, r0, q3
/-! the law's follower and greatest shims, of a tuple and of a list -/
def gI : IE := .b1 .min (.comp (.bin .sub (.var 3) (.var 4)) (.tup (.cons (.name 3) (.cons (.name 4) .nil))) (.zip (.var 1) (.var 2)))
def fI : IE := .b1 .max (.comp (.bin .add (.idx (.var 3) (.var 2)) (.var 4)) (.tup (.cons (.name 3) (.cons (.name 4) .nil))) (.zip (.var 0) (.var 1)))
theorem g_item (C : Nat → List Wk.Arg → RC) {m : Nat} {w c : List Int} (m1 : 1 ≤ m) (m2 : m ≤ 60) (hw : w.length = m) (hc : c.length = m) (s0 : Sl) :
    backR [s0, .val (cm w), .no, .no, .no] [2] (itemF C gI (.name 2) (cm c) (wipeF [s0, .val (cm w), .no, .no, .no] [2])) = .ok (some (.int (mn ((w.zip c).map fun q => q.1 - q.2)))) [s0, .val (cm w), .no, .no, .no] := by
  have z1 : zipD (w.map .int) (c.map .int) = (w.zip c).map fun q => .tuple [.int q.1, .int q.2] := zipD_map2 PyData.int PyData.int w c
  have q2 : compAll [3, 4] (itemF C (.bin .sub (.var 3) (.var 4)) (.tup (.cons (.name 3) (.cons (.name 4) .nil)))) (zipD (w.map .int) (c.map .int)) [] [s0, .val (.tuple (w.map .int)), .val (.tuple (c.map .int)), .no, .no] =
      .ok (.tmp (((w.zip c).map fun q => q.1 - q.2).map .int)) [s0, .val (.tuple (w.map .int)), .val (.tuple (c.map .int)), .no, .no] := by
    rw [z1, mm_int, compAll_of0 (k := fun q : Int × Int => .int (q.1 - q.2)) (by rw [List.length_zip]; omega)]
    rintro ⟨a, b⟩ hq
    trivial
  have ne : ((w.zip c).map fun q => q.1 - q.2) ≠ [] := by
    intro h
    have := congrArg List.length h
    rw [List.length_map, List.length_zip, hw, hc] at this
    simp at this
    omega
  have e := min_map ne
  unfold gI cm
  exists q2, e
theorem gr_eq (w : List Int) (cs : List (List Int)) : (gr cs w).map PyData.int = cs.map fun c => .int (mn ((w.zip c).map fun q => q.1 - q.2)) := by
  unfold gr
  rw [mm_int]
section
variable {m : Nat} {cs : List (List Int)} {w : List Int} (ok : Rect m cs) (m1 : 1 ≤ m) (hw : w.length = m)
include ok m1 hw
theorem t_greatest (n : Nat) : evC fs (n + 1) 12 [.val (cms cs), .val (cm w)] = .ok (.val (cm (gr cs w))) [] := by
  obtain ⟨o1, o2, o3, o4⟩ := ok
  rw [u_greatest_in]
  generalize evC fs n = C
  have q : compAll [2] (itemF C gI (.name 2)) (cs.map cm) [] [.val (.tuple (cs.map cm)), .val (cm w), .no, .no, .no] = .ok (.tmp (cs.map fun c => .int (mn ((w.zip c).map fun q => q.1 - q.2)))) [.val (.tuple (cs.map cm)), .val (cm w), .no, .no, .no] :=
    compAll_of0 (by omega) fun c hc => g_item C m1 o1 hw (o4 c hc) _
  unfold b_greatest_in cms
  unfold gI at q
  have e : cm (gr cs w) = .tuple ((gr cs w).map .int) := rfl
  rw [e, gr_eq]
  exists q
theorem t_lgreatest (n : Nat) : evC fs (n + 1) 35 [.val (cms cs), .val (cm w)] = .ok (.val (cm (gr cs w))) [] := by
  obtain ⟨o1, o2, o3, o4⟩ := ok
  rw [u__law_greatest]
  generalize evC fs n = C
  have q : compAll [2] (itemF C gI (.name 2)) (cs.map cm) [] [.val (.tuple (cs.map cm)), .val (cm w), .no, .no, .no] = .ok (.tmp (cs.map fun c => .int (mn ((w.zip c).map fun q => q.1 - q.2)))) [.val (.tuple (cs.map cm)), .val (cm w), .no, .no, .no] :=
    compAll_of0 (by omega) fun c hc => g_item C m1 o1 hw (o4 c hc) _
  unfold b__law_greatest cms
  unfold gI at q
  have e : cm (gr cs w) = .tuple ((gr cs w).map .int) := rfl
  rw [e, gr_eq]
  exists q
theorem t_lgreatest_own (n : Nat) : evC fs (n + 1) 35 [.own (cs.map cm) .lent, .val (cm w)] = .ok (.val (cm (gr cs w))) [cs.map cm] := by
  obtain ⟨o1, o2, o3, o4⟩ := ok
  rw [u__law_greatest]
  generalize evC fs n = C
  have q : compAll [2] (itemF C gI (.name 2)) (cs.map cm) [0] [.own (cs.map cm) .lockL, .val (cm w), .no, .no, .no] = .ok (.tmp (cs.map fun c => .int (mn ((w.zip c).map fun q => q.1 - q.2)))) [.own (cs.map cm) .lent, .val (cm w), .no, .no, .no] :=
    (compAll_ofL (by omega) fun c hc => g_item C m1 o1 hw (o4 c hc) _).trans rfl
  unfold b__law_greatest
  unfold gI at q
  have e : cm (gr cs w) = .tuple ((gr cs w).map .int) := rfl
  rw [e, gr_eq]
  exists q
end
section
variable {m : Nat} {cs : List (List Int)} {sh : List Int} (ok : Rect m cs) (hs : sh.length = cs.length)
include ok hs
theorem f_inner (C : Nat → List Wk.Arg → RC) (s0 s0' : Sl) (lk : List Nat) (p : Nat) (hp : p < m) (hk : unlock [s0, .val (cm sh), .val (.int p), .no, .no] lk = [s0', .val (cm sh), .val (.int p), .no, .no]) :
    compAll [3, 4] (itemF C (.bin .add (.idx (.var 3) (.var 2)) (.var 4)) (.tup (.cons (.name 3) (.cons (.name 4) .nil)))) (zipD (cs.map cm) (sh.map .int)) lk [s0, .val (cm sh), .val (.int p), .no, .no] =
      .ok (.tmp (((cs.zip sh).map fun q => q.1.getD p 0 + q.2).map .int)) [s0', .val (cm sh), .val (.int p), .no, .no] := by
  obtain ⟨o1, o2, o3, o4⟩ := ok
  rw [zipD_map2 cm PyData.int cs sh, mm_int, compAll_ofL (k := fun q : List Int × Int => .int (q.1.getD p 0 + q.2)) (by rw [List.length_zip]; omega), hk]
  rintro ⟨c, v⟩ hq
  have lc := o4 c (List.of_mem_zip hq).1
  have e : L2.atI (c.map PyData.int) (p : Int) = some (.int (c.getD p 0)) := at_int (by omega)
  unfold cm
  exists e
theorem zn_ne (p : Nat) : ((cs.zip sh).map fun q => q.1.getD p 0 + q.2) ≠ [] := by
  obtain ⟨o1, o2, o3, o4⟩ := ok
  intro h
  have := congrArg List.length h
  rw [List.length_map, List.length_zip, hs] at this
  simp at this
  exact o3 this
theorem fol_eq : (fol m cs sh).map PyData.int = (List.range m).map fun p => .int (mx ((cs.zip sh).map fun q => q.1.getD p 0 + q.2)) := by
  unfold fol
  rw [mm_int]
theorem t_lfollows (n : Nat) : evC fs (n + 1) 34 [.val (cms cs), .val (cm sh)] = .ok (.val (cm (fol m cs sh))) [] := by
  have fi := fun C => f_inner ok hs C (.val (cms cs)) (.val (cms cs)) []
  have zn := zn_ne ok hs
  have fe := fol_eq ok hs
  obtain ⟨o1, o2, o3, o4⟩ := ok
  rw [u__law_follows]
  generalize evC fs n = C
  have q : compAll [2] (itemF C fI (.name 2)) ((List.range m).map fun p : Nat => PyData.int (p : Int)) [] [.val (cms cs), .val (cm sh), .no, .no, .no] = .ok (.tmp ((List.range m).map fun p => .int (mx ((cs.zip sh).map fun q => q.1.getD p 0 + q.2)))) [.val (cms cs), .val (cm sh), .no, .no, .no] := by
    refine compAll_of0 (by rw [List.length_range]; omega) fun p hp => ?_
    have e1 := fi C p (List.mem_range.mp hp) rfl
    have e2 := max_map (zn p)
    unfold fI
    unfold cms cm at *
    exists e1, e2
  obtain ⟨c0, cr, rfl⟩ := List.exists_cons_of_ne_nil o3
  have l0 := o4 c0 (List.mem_cons_self ..)
  have a0 := at0 cm c0 cr
  have k0 : ((c0.map PyData.int).length : Int) = (m : Int) := by rw [List.length_map, l0]
  have r0 : ∀ ρ, rg1 (m : Int) ρ = .ok ((List.range m).map fun p : Nat => PyData.int (p : Int), []) ρ := rg1_at m (by omega)
  have e : cm (fol m (c0 :: cr) sh) = .tuple ((fol m (c0 :: cr) sh).map .int) := rfl
  rw [e, fe]
  unfold b__law_follows
  unfold fI at q
  clear fe e fi
  unfold cms cm at *
  exists a0, k0, r0, q
theorem t_lfollows_own (n : Nat) : evC fs (n + 1) 34 [.own (cs.map cm) .lent, .val (cm sh)] = .ok (.val (cm (fol m cs sh))) [cs.map cm] := by
  have fi := fun C p hp => f_inner ok hs C (.own (cs.map cm) .lockL) (.own (cs.map cm) .lent) [0] p hp rfl
  have zn := zn_ne ok hs
  have fe := fol_eq ok hs
  obtain ⟨o1, o2, o3, o4⟩ := ok
  rw [u__law_follows]
  generalize evC fs n = C
  have q : compAll [2] (itemF C fI (.name 2)) ((List.range m).map fun p : Nat => PyData.int (p : Int)) [] [.own (cs.map cm) .lent, .val (cm sh), .no, .no, .no] = .ok (.tmp ((List.range m).map fun p => .int (mx ((cs.zip sh).map fun q => q.1.getD p 0 + q.2)))) [.own (cs.map cm) .lent, .val (cm sh), .no, .no, .no] := by
    refine compAll_of0 (by rw [List.length_range]; omega) fun p hp => ?_
    have e1 := fi C p (List.mem_range.mp hp)
    have e2 := max_map (zn p)
    unfold fI
    unfold cm at *
    exists e1, e2
  obtain ⟨c0, cr, rfl⟩ := List.exists_cons_of_ne_nil o3
  have l0 := o4 c0 (List.mem_cons_self ..)
  have a0 := at0 cm c0 cr
  have k0 : ((c0.map PyData.int).length : Int) = (m : Int) := by rw [List.length_map, l0]
  have r0 : ∀ ρ, rg1 (m : Int) ρ = .ok ((List.range m).map fun p : Nat => PyData.int (p : Int), []) ρ := rg1_at m (by omega)
  have e : cm (fol m (c0 :: cr) sh) = .tuple ((fol m (c0 :: cr) sh).map .int) := rfl
  rw [e, fe]
  unfold b__law_follows
  unfold fI at q
  clear fe e fi
  unfold cm at *
  exists a0, k0, r0, q
end
/-! judges of values of any shape -/
theorem map_id' (xs : List D) : xs.map (fun x => x) = xs := List.map_id'' (fun _ => rfl) xs
/-- the sign of those that are none -/
def oneIf (p : D → Bool) (x : D) : Option D := if p x = true then none else some (.int 1)
theorem oneIf_t {p : D → Bool} {x : D} (h : p x = true) : oneIf p x = none := if_pos h
theorem oneIf_f {p : D → Bool} {x : D} (h : p x = false) : oneIf p x = some (.int 1) := if_neg (by rw [h]; exact Bool.false_ne_true)
theorem bad_list (p : D → Bool) (xs : List D) (hl : xs.length ≤ 1000) : cmpD .ne (.list (xs.filterMap (oneIf p))) (.list []) = some (!xs.all p) := by
  have hx : ∀ x ∈ xs.filterMap (oneIf p), gsh 1000 0 x = true := fun x hx => by
    obtain ⟨y, _, h⟩ := List.mem_filterMap.mp hx
    unfold oneIf at h
    split at h
    · cases h
    · cases h
      rfl
  rw [neS_nil hx (Nat.le_trans (List.length_filterMap_le ..) hl) (by omega)]
  congr 2
  clear hx hl
  induction xs with
  | nil => rfl
  | cons x xs ih =>
    by_cases q : p x = true
    · rw [List.filterMap_cons_none (show oneIf p x = none from if_pos q), List.all_cons, q, Bool.true_and]
      exact ih
    · rw [List.filterMap_cons_some (show oneIf p x = some (.int 1) from if_neg q), List.all_cons, (show p x = false by simpa using q), Bool.false_and]
      rfl
theorem compAll_x {own : List Nat} {f : D → Fm → R (Option D)} {xs : List D} (k : D → Option D) {ρ : Fm} (hf : xs.length ≤ 16777216) (h : ∀ a ∈ xs, backR ρ own (f a (wipeF ρ own)) = .ok (k a) ρ) : compAll own f xs [] ρ = .ok (.tmp (xs.filterMap k)) ρ := by
  have c := compAll_of (own := own) (f := f) (hs := xs) (c := fun x => x) (k := k) (ρ := ρ) hf h
  rw [map_id'] at c
  exact c
def wsB : D → Int → Int → Int → Bool
  | .tuple xs, many, lo, hi => decide ((xs.length : Int) = many) && xs.all fun x => isW x lo hi
  | _, _, _, _ => false
theorem t_are_wholes (n : Nat) {L m : Nat} (d : D) (many lo hi : Int) (h : gsh L m d = true) (hL : L ≤ 16777216) : evC fs (n + 2) 4 [.val d, .val (.int many), .val (.int lo), .val (.int hi)] = .ok (.val (.bool (wsB d many lo hi))) [] := by
  have e1 : evC fs (n + 1) 1 _ = _ := t_isT n d many many (gs_nd h)
  rw [u_are_wholes]
  unfold b_are_wholes
  cases d with
  | tuple xs =>
    obtain ⟨k, rfl, hl, hx⟩ := gs_tup h
    have e1 : evC fs (n + 1) 1 _ = .ok (.val (.bool (decide (many ≤ (xs.length : Int)) && decide ((xs.length : Int) ≤ many)))) [] := e1
    have e2 : ∀ x ∈ xs, evC fs (n + 1) 0 [.val x, .val (.int lo), .val (.int hi)] = _ := fun x hx0 => t_isW n x lo hi (gs_nd (hx x hx0))
    by_cases q : (xs.length : Int) = many
    · rw [decide_eq_true (by omega), decide_eq_true (by omega)] at e1
      have e3 : wsB (.tuple xs) many lo hi = xs.all fun x => isW x lo hi := by
        show (decide _ && _) = _
        rw [decide_eq_true q, Bool.true_and]
      have e4 := all_map (fun x => isW x lo hi) xs
      have c1 := compAll_x (own := [4]) (f := itemF (evC fs (n + 1)) (.call 0 (.cons (.var 4) (.cons (.var 2) (.cons (.var 3) .nil)))) (.name 4)) (xs := xs) (fun x => some (.bool (isW x lo hi))) (ρ := [.val (.tuple xs), .val (.int many), .val (.int lo), .val (.int hi), .no]) (by omega) (fun x hx0 => by
        have e2 := e2 x hx0
        generalize evC fs (n + 1) = C at *
        exists e2)
      rw [fm_some] at c1
      generalize evC fs (n + 1) = C at *
      exists e1, c1, e4, e3
    · have e0 : (decide (many ≤ (xs.length : Int)) && decide ((xs.length : Int) ≤ many)) = false := by
        by_cases z : many ≤ (xs.length : Int)
        · rw [decide_eq_false (show ¬ (xs.length : Int) ≤ many by omega), Bool.and_false]
        · rw [decide_eq_false z, Bool.false_and]
      rw [e0] at e1
      have e3 : wsB (.tuple xs) many lo hi = false := by
        show (decide _ && _) = _
        rw [decide_eq_false q, Bool.false_and]
      generalize evC fs (n + 1) = C at *
      exists e1, e3
  | dict x => exact absurd rfl (gs_nd h x)
  | _ =>
    have e1 : evC fs (n + 1) 1 _ = .ok (.val (.bool false)) [] := e1
    generalize evC fs (n + 1) = C at *
    exists e1, wsB
def ringB : D → Int → Int → Bool
  | .tuple xs, most, hgt => (decide (1 ≤ (xs.length : Int)) && decide ((xs.length : Int) ≤ most)) && xs.all fun x => isW x (-hgt) hgt
  | _, _, _ => false
theorem t_is_ring (n : Nat) {L m : Nat} (d : D) (most hgt : Int) (h : gsh L m d = true) (hL : L ≤ 16777216) : evC fs (n + 2) 5 [.val d, .val (.int most), .val (.int hgt)] = .ok (.val (.bool (ringB d most hgt))) [] := by
  have e1 : evC fs (n + 1) 1 _ = _ := t_isT n d 1 most (gs_nd h)
  rw [u_is_ring]
  unfold b_is_ring
  cases d with
  | tuple xs =>
    obtain ⟨k, rfl, hl, hx⟩ := gs_tup h
    have e1 : evC fs (n + 1) 1 _ = .ok (.val (.bool (decide (1 ≤ (xs.length : Int)) && decide ((xs.length : Int) ≤ most)))) [] := e1
    have e2 : ∀ x ∈ xs, evC fs (n + 1) 0 [.val x, .val (.int (-hgt)), .val (.int hgt)] = _ := fun x hx0 => t_isW n x (-hgt) hgt (gs_nd (hx x hx0))
    have e3 : ringB (.tuple xs) most hgt = ((decide (1 ≤ (xs.length : Int)) && decide ((xs.length : Int) ≤ most)) && xs.all fun x => isW x (-hgt) hgt) := rfl
    have e4 := all_map (fun x => isW x (-hgt) hgt) xs
    have c1 := compAll_x (own := [3]) (f := itemF (evC fs (n + 1)) (.call 0 (.cons (.var 3) (.cons (.neg (.var 2)) (.cons (.var 2) .nil)))) (.name 3)) (xs := xs) (fun x => some (.bool (isW x (-hgt) hgt))) (ρ := [.val (.tuple xs), .val (.int most), .val (.int hgt), .no]) (by omega) (fun x hx0 => by
        have e2 := e2 x hx0
        generalize evC fs (n + 1) = C at *
        exists e2)
    rw [fm_some] at c1
    generalize (decide (1 ≤ (xs.length : Int)) && decide ((xs.length : Int) ≤ most)) = b at *
    generalize evC fs (n + 1) = C at *
    cases b with
    | true => exists e1, c1, e4, e3
    | false => exists e1, e3
  | dict x => exact absurd rfl (gs_nd h x)
  | _ =>
    have e1 : evC fs (n + 1) 1 _ = .ok (.val (.bool false)) [] := e1
    generalize evC fs (n + 1) = C at *
    exists e1, ringB
def camB (d : D) : Bool := ringB d 60 1000000
theorem t_is_cam (n : Nat) {L m : Nat} (d : D) (h : gsh L m d = true) (hL : L ≤ 16777216) : evC fs (n + 3) 7 [.val d] = .ok (.val (.bool (camB d))) [] := by
  have e1 := t_is_ring n d 60 1000000 h hL
  rw [u_is_cam]
  unfold b_is_cam camB
  generalize evC fs (n + 2) = C at *
  exists e1
theorem t_need_cam (n : Nat) {L m : Nat} (d : D) (h : gsh L m d = true) (hL : L ≤ 16777216) (hc : camB d = true) : evC fs (n + 3) 6 [.val d] = .ok (.val .none) [] := by
  have e1 := t_is_ring n d 60 1000000 h hL
  have hc : ringB d 60 1000000 = true := hc
  rw [hc] at e1
  rw [u_need_cam]
  unfold b_need_cam
  generalize evC fs (n + 2) = C at *
  exists e1
def lenT : D → Int
  | .tuple ys => ys.length
  | _ => 0
def csB : D → Bool
  | .tuple [] => false
  | .tuple (x :: xs) => (decide (((x :: xs).length : Int) ≤ 12) && (x :: xs).all camB) && (x :: xs).all fun y => decide (lenT y = lenT x)
  | _ => false
theorem camB_tup {d : D} (h : camB d = true) : ∃ ys, d = .tuple ys := by
  cases d with
  | tuple ys => exact ⟨ys, rfl⟩
  | _ => cases h
theorem t_together (n : Nat) {L m : Nat} (d : D) (h : gsh L m d = true) (hL : L ≤ 16777216) : evC fs (n + 4) 8 [.val d] = .ok (.val (.bool (csB d))) [] := by
  have e1 : evC fs (n + 3) 1 _ = _ := t_isT (n + 2) d 1 12 (gs_nd h)
  rw [u_are_together]
  unfold b_are_together
  cases d with
  | tuple xs =>
    obtain ⟨k, rfl, hl, hx⟩ := gs_tup h
    have e1 : evC fs (n + 3) 1 _ = .ok (.val (.bool (decide (1 ≤ (xs.length : Int)) && decide ((xs.length : Int) ≤ 12)))) [] := e1
    have e2 : ∀ x ∈ xs, evC fs (n + 3) 7 [.val x] = _ := fun x hx0 => t_is_cam n x (hx x hx0) hL
    cases xs with
    | nil =>
      have e3 : csB (.tuple []) = false := rfl
      have e1 : evC fs (n + 3) 1 _ = .ok (.val (.bool false)) [] := e1
      generalize evC fs (n + 3) = C at *
      exists e1, e3
    | cons x0 xr =>
      generalize hxs : x0 :: xr = xs at *
      have p1 : decide (1 ≤ (xs.length : Int)) = true := decide_eq_true (by rw [← hxs, List.length_cons]; omega)
      rw [p1, Bool.true_and] at e1
      have e3 : csB (.tuple xs) = ((decide ((xs.length : Int) ≤ 12) && xs.all camB) && xs.all fun y => decide (lenT y = lenT x0)) := by
        rw [← hxs]
        rfl
      have e4 := all_map camB xs
      have c1 := compAll_x (own := [1]) (f := itemF (evC fs (n + 3)) (.call 7 (.cons (.var 1) .nil)) (.name 1)) (xs := xs) (fun x => some (.bool (camB x))) (ρ := [.val (.tuple xs), .no]) (by omega) (fun x hx0 => by
        have e2 := e2 x hx0
        generalize evC fs (n + 3) = C at *
        exists e2)
      rw [fm_some] at c1
      generalize decide ((xs.length : Int) ≤ 12) = b at *
      cases b with
      | false =>
        generalize evC fs (n + 3) = C at *
        exists e1, e3
      | true =>
        cases hb : xs.all camB with
        | false =>
          rw [hb] at e3 e4
          generalize evC fs (n + 3) = C at *
          exists e1, c1, e4, e3
        | true =>
          rw [hb] at e3 e4
          have at0 : L2.atI xs 0 = some x0 := by
            rw [← hxs]
            exact (at0 (fun x : D => x) x0 xr) ▸ (by rw [map_id'])
          have hall := List.all_eq_true.mp hb
          obtain ⟨y0, hy0⟩ := camB_tup (hall x0 (by rw [← hxs]; exact List.mem_cons_self ..))
          subst hy0
          have c2 : ∀ C : Nat → List Wk.Arg → RC, compAll [1] (itemF C (.cmp .eq (.b1 .len (.var 1)) (.b1 .len (.idx (.var 0) (.lit (.int 0))))) (.name 1)) xs [] [.val (.tuple xs), .no] = .ok (.tmp (xs.map fun y => .bool (decide (lenT y = lenT (.tuple y0))))) [.val (.tuple xs), .no] := fun C => by
            rw [compAll_x (fun y => some (.bool (decide (lenT y = lenT (.tuple y0))))) (by omega), fm_some]
            intro y hy
            obtain ⟨ys, rfl⟩ := camB_tup (hall y hy)
            have z : cmpD .eq (.int (ys.length : Int)) (.int (y0.length : Int)) = some (decide ((ys.length : Int) = (y0.length : Int))) := by
              rw [eqS (L := 0) (m := 0) rfl rfl (by omega)]
              rfl
            exists at0, z, lenT
            rfl
          have e5 := all_map (fun y => decide (lenT y = lenT (.tuple y0))) xs
          generalize evC fs (n + 3) = C at *
          exists e1, c1, e4, c2, e5, e3
  | dict x => exact absurd rfl (gs_nd h x)
  | _ =>
    have e1 : evC fs (n + 3) 1 _ = .ok (.val (.bool false)) [] := e1
    generalize evC fs (n + 3) = C at *
    exists e1, csB
/-! need_cams, need_wish; follower, shims, bare places -/
structure CsOk (m : Nat) (cs : List (List Int)) : Prop where
  m1 : 1 ≤ m
  rect : Rect m cs
  l12 : cs.length ≤ 12
  bd : ∀ c ∈ cs, ∀ h ∈ c, -1000000 ≤ h ∧ h ≤ 1000000
structure WOk (m : Nat) (w : List Int) : Prop where
  len : w.length = m
  bd : ∀ h ∈ w, -1000000 ≤ h ∧ h ≤ 1000000
theorem cm_gs {L m : Nat} {c : List Int} (h : c.length ≤ L) : gsh L (m + 1) (cm c) = true := gs_mk (by rw [List.length_map]; exact h) fun x hx => by
  obtain ⟨v, _, rfl⟩ := List.mem_map.mp hx
  cases m <;> rfl
theorem cms_gs {L m k : Nat} {cs : List (List Int)} (h : Rect m cs) (hL : 60 ≤ L) (hl : cs.length ≤ L) : gsh L (k + 2) (cms cs) = true := gs_mk (by rw [List.length_map]; exact hl) fun x hx => by
  obtain ⟨c, hc, rfl⟩ := List.mem_map.mp hx
  exact cm_gs (by have := h.2.2.2 c hc; have := h.1; omega)
theorem isW_int {v lo hi : Int} (h : lo ≤ v ∧ v ≤ hi) : isW (.int v) lo hi = true := by
  show (decide _ && decide _) = true
  rw [decide_eq_true h.1, decide_eq_true h.2]
  rfl
theorem cm_camB {m : Nat} {c : List Int} (m1 : 1 ≤ m) (m2 : m ≤ 60) (h : WOk m c) : camB (cm c) = true := by
  show ((decide _ && decide _) && _) = true
  rw [decide_eq_true (by rw [List.length_map, h.len]; omega), decide_eq_true (by rw [List.length_map, h.len]; omega), List.all_eq_true.mpr]
  · rfl
  · intro x hx
    obtain ⟨v, hv, rfl⟩ := List.mem_map.mp hx
    exact isW_int (h.bd v hv)
theorem cms_csB {m : Nat} {cs : List (List Int)} (h : CsOk m cs) : csB (cms cs) = true := by
  obtain ⟨m1, ⟨m2, _, ne, ln⟩, l2, bd⟩ := h
  obtain ⟨c0, cr, rfl⟩ := List.exists_cons_of_ne_nil ne
  show ((decide _ && _) && _) = true
  have a1 : (cm c0 :: cr.map cm).all camB = true := List.all_eq_true.mpr fun x hx => by
    obtain ⟨c, hc, rfl⟩ := List.mem_map.mp (show x ∈ (c0 :: cr).map cm from hx)
    exact cm_camB m1 m2 ⟨ln c hc, bd c hc⟩
  have a2 : ((cm c0 :: cr.map cm).all fun y => decide (lenT y = lenT (cm c0))) = true := List.all_eq_true.mpr fun x hx => by
    obtain ⟨c, hc, rfl⟩ := List.mem_map.mp (show x ∈ (c0 :: cr).map cm from hx)
    refine decide_eq_true ?_
    show (((c.map PyData.int).length : Nat) : Int) = (((c0.map PyData.int).length : Nat) : Int)
    rw [List.length_map, List.length_map, ln c hc, ln c0 (List.mem_cons_self ..)]
  rw [decide_eq_true (by simp only [List.length_cons, List.length_map] at l2 ⊢; omega), a1]
  exact a2
theorem eqvAll_ints : ∀ a b : List Int, PyData.eqvAll (a.map .int) (b.map .int) = decide (a = b)
  | [], [] => by simp [PyData.eqvAll]
  | [], _ :: _ => by simp [PyData.eqvAll]
  | _ :: _, [] => by simp [PyData.eqvAll]
  | x :: a, y :: b => by
    rw [List.map_cons, List.map_cons, PyData.eqvAll, eqvAll_ints a b, PyData.eqv]
    by_cases q : x = y
    · subst q
      simp
    · simp [q]
theorem eqv_cm (a b : List Int) : PyData.eqv (cm a) (cm b) = decide (a = b) := by
  unfold cm
  rw [PyData.eqv, eqvAll_ints]
theorem eq_cm {a b : List Int} (h1 : a.length ≤ 1000) (h2 : b.length ≤ 1000) : cmpD .eq (cm a) (cm b) = some (decide (a = b)) := by
  rw [eqS (L := 1000) (m := 1) (cm_gs h1) (cm_gs h2) (by omega), eqv_cm]
theorem ne_ii (i j : Int) : cmpD .ne (.int i) (.int j) = some (!decide (i = j)) := by
  rw [neS (L := 0) (m := 0) rfl rfl (by omega)]
  rfl
theorem enumD_map : ∀ (l : List Int) (n : Nat), enumD n (l.map .int) = (List.range l.length).map fun p : Nat => .tuple [.int ((n + p : Nat) : Int), .int (l.getD p 0)]
  | [], _ => rfl
  | a :: l, n => by
    show _ :: enumD (n + 1) (l.map .int) = _
    rw [enumD_map l (n + 1), List.length_cons, List.range_succ_eq_map, List.map_cons, List.map_map]
    congr 1
    refine List.map_congr_left fun p _ => ?_
    show PyData.tuple [.int ((n + 1 + p : Nat) : Int), .int (l.getD p 0)] = .tuple [.int ((n + (p + 1) : Nat) : Int), .int ((a :: l).getD (p + 1) 0)]
    have : n + 1 + p = n + (p + 1) := by omega
    rw [this]
    rfl
def pls (m : Nat) (hi w : List Int) : List Nat := (List.range m).filter fun p => decide (hi.getD p 0 < w.getD p 0)
theorem fol_len (m : Nat) (cs : List (List Int)) (sh : List Int) : (fol m cs sh).length = m := by
  unfold fol
  rw [List.length_map, List.length_range]
theorem gr_len (cs : List (List Int)) (w : List Int) : (gr cs w).length = cs.length := by
  unfold gr
  rw [List.length_map]
section
variable {m : Nat} {cs : List (List Int)} (ok : CsOk m cs)
include ok
theorem t_need_cams (n : Nat) : evC fs (n + 5) 9 [.val (cms cs)] = .ok (.val .none) [] := by
  have e1 := t_together n (cms cs) (cms_gs (k := 0) ok.rect (Nat.le_refl 60) (by have := ok.l12; omega)) (by omega)
  rw [cms_csB ok] at e1
  rw [u_need_cams]
  unfold b_need_cams
  generalize evC fs (n + 4) = C at *
  exists e1
variable {w : List Int} (hw : WOk m w)
include hw
theorem t_need_wish (n : Nat) : evC fs (n + 6) 10 [.val (cms cs), .val (cm w)] = .ok (.val .none) [] := by
  have e1 := t_need_cams ok n
  have e2 : evC fs (n + 5) 6 _ = _ := t_need_cam (n + 2) (cm w) (cm_gs (L := 60) (m := 0) (by rw [hw.len]; exact ok.rect.1)) (by omega) (cm_camB ok.m1 ok.rect.1 hw)
  obtain ⟨c0, cr, hc⟩ := List.exists_cons_of_ne_nil ok.rect.2.2.1
  have l0 := ok.rect.2.2.2 c0 (by rw [hc]; exact List.mem_cons_self ..)
  have a0 := at0 cm c0 cr
  rw [← hc] at a0
  have k0 : ((c0.map PyData.int).length : Int) = (m : Int) := by rw [List.length_map, l0]
  have k1 : ((w.map PyData.int).length : Int) = (m : Int) := by rw [List.length_map, hw.len]
  have z := ne_ii m m
  rw [decide_eq_true rfl] at z
  rw [u_need_wish]
  unfold b_need_wish
  generalize evC fs (n + 5) = C at *
  unfold cms cm at *
  exists e1, e2, k1, a0, k0, z
theorem t_greatest_shims (n : Nat) : evC fs (n + 7) 17 [.val (cms cs), .val (cm w)] = .ok (.val (cm (gr cs w))) [] := by
  have e1 := t_need_wish ok hw n
  have e2 : evC fs (n + 6) 12 _ = _ := t_greatest ok.rect ok.m1 hw.len (n + 5)
  rw [u_greatest_shims]
  unfold b_greatest_shims
  generalize evC fs (n + 6) = C at *
  exists e1, e2
theorem t_shims_for (n : Nat) : evC fs (n + 7) 18 [.val (cms cs), .val (cm w)] = .ok (.val (if fol m cs (gr cs w) = w then cm (gr cs w) else .none)) [] := by
  have e1 := t_need_wish ok hw n
  have e2 : evC fs (n + 6) 12 _ = _ := t_greatest ok.rect ok.m1 hw.len (n + 5)
  have e3 : evC fs (n + 6) 11 _ = _ := t_follows (n + 5) ok.rect (gr_len cs w)
  have z := eq_cm (a := fol m cs (gr cs w)) (b := w) (by rw [fol_len]; have := ok.rect.1; omega) (by rw [hw.len]; have := ok.rect.1; omega)
  rw [u_shims_for]
  unfold b_shims_for
  generalize evC fs (n + 6) = C at *
  generalize hS : gr cs w = sh at *
  by_cases q : fol m cs sh = w
  · rw [decide_eq_true q] at z
    rw [if_pos q]
    unfold cm at *
    exists e1, e2, e3, z
  · rw [decide_eq_false q] at z
    rw [if_neg q]
    unfold cm at *
    exists e1, e2, e3, z
theorem t_bare_place (n : Nat) : evC fs (n + 7) 19 [.val (cms cs), .val (cm w)] = .ok (.val (match pls m (fol m cs (gr cs w)) w with | [] => .none | p :: _ => .int (p : Int))) [] := by
  have e1 := t_need_wish ok hw n
  have e2 : evC fs (n + 6) 12 _ = _ := t_greatest ok.rect ok.m1 hw.len (n + 5)
  have e3 : evC fs (n + 6) 11 _ = _ := t_follows (n + 5) ok.rect (gr_len cs w)
  have m2 := ok.rect.1
  rw [u_bare_place]
  unfold b_bare_place
  generalize evC fs (n + 6) = C at *
  have lf := fol_len m cs (gr cs w)
  generalize hS : gr cs w = sh at *
  generalize hF : fol m cs sh = hi at *
  have lw := hw.len
  have c1 : ∀ (s0 s3 : Sl), compAll [4, 5] (itemIfF C (.var 4) (.tup (.cons (.name 4) (.cons (.name 5) .nil))) (.cmp .lt (.idx (.var 2) (.var 4)) (.var 5))) (enumD 0 (w.map .int)) [] [s0, .val (cm w), .val (cm hi), s3, .no, .no] =
      .ok (.tmp ((pls m hi w).map fun p : Nat => PyData.int (p : Int))) [s0, .val (cm w), .val (cm hi), s3, .no, .no] := by
    intro s0 s3
    rw [enumD_map, compAll_of (k := fun p : Nat => if hi.getD p 0 < w.getD p 0 then some (.int (p : Int)) else none) (by rw [List.length_range]; omega)]
    · congr 2
      unfold pls
      rw [lw]
      generalize List.range m = l
      induction l with
      | nil => rfl
      | cons p l ih =>
        rw [List.filterMap_cons, List.filter_cons]
        by_cases q : hi.getD p 0 < w.getD p 0
        · rw [if_pos q, if_pos (decide_eq_true q)]
          show _ :: _ = _ :: _
          rw [ih]
        · rw [if_neg q, if_neg (by rw [decide_eq_false q]; exact Bool.false_ne_true)]
          exact ih
    · intro p hp
      have hp := List.mem_range.mp hp
      have z0 : 0 + p = p := Nat.zero_add p
      have a1 : L2.atI (hi.map PyData.int) (p : Int) = some (.int (hi.getD p 0)) := at_int (by omega)
      unfold cm
      by_cases q : hi.getD p 0 < w.getD p 0
      · rw [if_pos q]
        have d := decide_eq_true q
        exists z0, a1, d
      · rw [if_neg q]
        have d := decide_eq_false q
        exists z0, a1, d
  have bl : ((pls m hi w).map fun p : Nat => PyData.int (p : Int)).length ≤ 1000 := by
    rw [List.length_map]
    unfold pls
    have := List.length_filter_le (fun p => decide (hi.getD p 0 < w.getD p 0)) (List.range m)
    rw [List.length_range] at this
    omega
  have z := neS_nil (L := 1000) (m := 0) (xs := (pls m hi w).map fun p : Nat => PyData.int (p : Int)) (fun x hx => by
    obtain ⟨v, _, rfl⟩ := List.mem_map.mp hx
    rfl) bl (by omega)
  cases hp : pls m hi w with
  | nil =>
    rw [hp] at z c1
    have z : cmpD .ne (.list (([] : List Nat).map fun p : Nat => PyData.int (p : Int))) (.list []) = some false := z
    unfold cm at *
    exists e1, e2, e3, c1, z
  | cons p0 pr =>
    rw [hp] at z c1
    have a0 := at0 (fun p : Nat => PyData.int (p : Int)) p0 pr
    have z : cmpD .ne (.list ((p0 :: pr).map fun p : Nat => PyData.int (p : Int))) (.list []) = some true := z
    unfold cm at *
    generalize ((p0 :: pr).map fun p : Nat => PyData.int (p : Int)) = ps at *
    exists e1, e2, e3, c1, z, a0
end
/-! are_shims, is_bare_place -/
theorem so_0 : cmpD .ne (.int 0) (.int 4) = some true := rfl
theorem so_1 : cmpD .ne (.int 1) (.int 4) = some true := rfl
theorem so_2 : cmpD .ne (.int 2) (.int 4) = some true := rfl
theorem so_3 : cmpD .ne (.int 3) (.int 4) = some true := rfl
theorem so_4 : cmpD .ne (.int 4) (.int 4) = some false := rfl
theorem so_5 : cmpD .ne (.int 5) (.int 4) = some true := rfl
theorem ws_cases (d : D) (many lo hi : Int) : wsB d many lo hi = false ∨ ∃ ns : List Int, d = cm ns ∧ (ns.length : Int) = many ∧ (∀ v ∈ ns, lo ≤ v ∧ v ≤ hi) ∧ wsB d many lo hi = true := by
  cases h : wsB d many lo hi with
  | false => exact .inl rfl
  | true =>
    cases d with
    | tuple xs =>
      obtain ⟨h1, h2⟩ := Bool.and_eq_true_iff.mp (show (decide ((xs.length : Int) = many) && xs.all fun x => isW x lo hi) = true from h)
      obtain ⟨ns, e, _, hn⟩ := ints_of (P := fun v => lo ≤ v ∧ v ≤ hi) (xs := xs) fun x hx => by
        have := List.all_eq_true.mp h2 x hx
        cases x with
        | int v =>
          obtain ⟨a, b⟩ := Bool.and_eq_true_iff.mp (show (decide (lo ≤ v) && decide (v ≤ hi)) = true from this)
          exact ⟨v, rfl, of_decide_eq_true a, of_decide_eq_true b⟩
        | _ => cases this
      subst e
      have := of_decide_eq_true h1
      rw [List.length_map] at this
      exact .inr ⟨ns, rfl, this, hn, rfl⟩
    | _ => cases h
def shB (m : Nat) (cs : List (List Int)) (w : List Int) (d : D) : Bool := wsB d cs.length (-10000000) 10000000 && match d with
  | .tuple xs => (match intsD xs with
    | some ns => decide (fol m cs ns = w)
    | none => false)
  | _ => false
theorem shB_cm {m : Nat} {cs : List (List Int)} {w ns : List Int} : shB m cs w (cm ns) = (wsB (cm ns) cs.length (-10000000) 10000000 && decide (fol m cs ns = w)) := by
  unfold shB cm
  dsimp only
  rw [intsD_map]
theorem wsB_all (xs : List D) (many lo hi : Int) : wsB (.tuple xs) many lo hi = (decide ((xs.length : Int) = many) && xs.all fun x => isW x lo hi) := rfl
theorem t_whole (n : Nat) (d : D) (lo hi : Int) (h : ∀ x, d ≠ .dict x) : evC fs (n + 2) 32 [.val d, .val (.int lo), .val (.int hi)] = .ok (.val (.bool (isW d lo hi))) [] := by
  have e1 := t_sort n d h
  rw [u__law_whole]
  unfold b__law_whole
  generalize evC fs (n + 1) = C at *
  cases d with
  | int v =>
    by_cases q : lo ≤ v
    · exists e1, sortOf, decide_eq_true q, isW
    · exists e1, sortOf, decide_eq_false q, isW
  | dict x => exact absurd rfl (h x)
  | _ => exists e1, sortOf, isW
section
variable {m : Nat} {cs : List (List Int)} (ok : CsOk m cs) {w : List Int} (hw : WOk m w)
include ok hw
theorem t_are_shims (n : Nat) {L k : Nat} (d : D) (h : gsh L k d = true) (hL : L ≤ 1000) : evC fs (n + 7) 20 [.val (cms cs), .val (cm w), .val d] = .ok (.val (.bool (shB m cs w d))) [] := by
  have e1 := t_need_wish ok hw n
  have e2 : evC fs (n + 6) 4 _ = _ := t_are_wholes (n + 4) d cs.length (-10000000) 10000000 h (by omega)
  have k0 : ((cs.map cm).length : Int) = (cs.length : Int) := by rw [List.length_map]
  rw [u_are_shims]
  unfold b_are_shims
  rcases ws_cases d cs.length (-10000000) 10000000 with hf | ⟨ns, rfl, hl, hn, ht⟩
  · have e3 : shB m cs w d = false := by
      unfold shB
      rw [hf, Bool.false_and]
    rw [hf] at e2
    generalize evC fs (n + 6) = C at *
    unfold cms at *
    exists e1, k0, e2, e3
  · have e4 : evC fs (n + 6) 11 _ = _ := t_follows (n + 5) ok.rect (sh := ns) (by omega)
    have z := eq_cm (a := fol m cs ns) (b := w) (by rw [fol_len]; have := ok.rect.1; omega) (by rw [hw.len]; have := ok.rect.1; omega)
    have e3 := shB_cm (m := m) (cs := cs) (w := w) (ns := ns)
    rw [ht, Bool.true_and] at e3
    rw [ht] at e2
    generalize evC fs (n + 6) = C at *
    unfold cms cm at *
    exists e1, k0, e2, e4, z, e3
theorem t_lare_shims (n : Nat) {L k : Nat} (d : D) (h : gsh L k d = true) (hL : L ≤ 1000) : evC fs (n + 3) 36 [.val (cms cs), .val (cm w), .val d] = .ok (.val (.bool (shB m cs w d))) [] := by
  have e0 : evC fs (n + 2) 28 _ = _ := t_sort (n + 1) d (gs_nd h)
  have k0 : ((cs.map cm).length : Int) = (cs.length : Int) := by rw [List.length_map]
  rw [u__law_are_shims]
  unfold b__law_are_shims
  cases d with
  | tuple xs =>
    obtain ⟨k', rfl, hl, hx⟩ := gs_tup h
    have e0 : evC fs (n + 2) 28 _ = .ok (.val (.int 4)) [] := e0
    have z0 := ne_ii 4 4
    rw [decide_eq_true rfl] at z0
    have z1 := ne_ii (xs.length : Int) (cs.length : Int)
    have eB := wsB_all xs cs.length (-10000000) 10000000
    by_cases q : (xs.length : Int) = cs.length
    · rw [decide_eq_true q] at z1 eB
      rw [Bool.true_and] at eB
      have e2 : ∀ x ∈ xs, evC fs (n + 2) 32 [.val x, .val (.int (-10000000)), .val (.int 10000000)] = _ := fun x hx0 => t_whole n x (-10000000) 10000000 (gs_nd (hx x hx0))
      have c1 := compAll_x (own := [3]) (f := itemIfF (evC fs (n + 2)) (.lit (.int 1)) (.name 3) (.not (.call 32 (.cons (.var 3) (.cons (.neg (.lit (.int 10000000))) (.cons (.lit (.int 10000000)) .nil)))))) (xs := xs) (oneIf fun x => isW x (-10000000) 10000000) (ρ := [.val (cms cs), .val (cm w), .val (.tuple xs), .no]) (by omega) (fun x hx0 => by
        have e2 := e2 x hx0
        generalize evC fs (n + 2) = C at *
        unfold cms cm
        cases hb : isW x (-10000000) 10000000 with
        | true =>
          rw [hb] at e2
          rw [oneIf_t hb]
          exists e2
        | false =>
          rw [hb] at e2
          rw [oneIf_f hb]
          exists e2)
      have z2 := bad_list (fun x => isW x (-10000000) 10000000) xs (by omega)
      rcases ws_cases (.tuple xs) cs.length (-10000000) 10000000 with hf | ⟨ns, e, hl2, hn, ht⟩
      · have e3 : shB m cs w (.tuple xs) = false := by
          unfold shB
          rw [hf, Bool.false_and]
        rw [hf] at eB
        rw [← eB] at z2
        generalize evC fs (n + 2) = C at *
        unfold cms cm at *
        exists e0, z0, k0, z1, c1, z2, e3
      · have e4 : evC fs (n + 2) 34 _ = _ := t_lfollows ok.rect (sh := ns) (by omega) (n + 1)
        have z := eq_cm (a := fol m cs ns) (b := w) (by rw [fol_len]; have := ok.rect.1; omega) (by rw [hw.len]; have := ok.rect.1; omega)
        have e3 := shB_cm (m := m) (cs := cs) (w := w) (ns := ns)
        rw [← e, ht, Bool.true_and] at e3
        rw [ht] at eB
        rw [← eB] at z2
        rw [← e] at e4
        generalize evC fs (n + 2) = C at *
        unfold cms cm at *
        exists e0, z0, k0, z1, c1, z2, e4, z, e3
    · rw [decide_eq_false q] at z1 eB
      rw [Bool.false_and] at eB
      have e3 : shB m cs w (.tuple xs) = false := by
        unfold shB
        rw [eB, Bool.false_and]
      generalize evC fs (n + 2) = C at *
      unfold cms cm at *
      exists e0, z0, k0, z1, e3
  | dict x => exact absurd rfl (gs_nd h x)
  | _ =>
    generalize evC fs (n + 2) = C at *
    unfold cms cm at *
    exists e0, sortOf, so_0, so_1, so_2, so_3, so_5, shB, wsB, Bool.false_and
end
/-! follower, is_bare_place, sets of cams -/
def bpB (m : Nat) (hi w : List Int) : D → Bool
  | .int v => (decide (0 ≤ v) && decide (v ≤ (m : Int) - 1)) && decide (hi.getD v.toNat 0 < w.getD v.toNat 0)
  | _ => false
def ascB (ns : List Int) : Bool := (ns.zip (ns.drop 1)).all fun p => decide (p.1 < p.2)
theorem asc_cc (a b : Int) (r : List Int) : ascB (a :: b :: r) = (decide (a < b) && ascB (b :: r)) := rfl
theorem asc_pw : ∀ l : List Int, ascB l = true ↔ l.Pairwise (· < ·)
  | [] => by simp [ascB]
  | [a] => by simp [ascB]
  | a :: b :: r => by
    rw [asc_cc, Bool.and_eq_true, asc_pw (b :: r), decide_eq_true_iff]
    constructor
    · rintro ⟨h1, h2⟩
      refine List.pairwise_cons.mpr ⟨fun y hy => ?_, h2⟩
      rcases List.mem_cons.mp hy with rfl | hy
      · exact h1
      · have := (List.pairwise_cons.mp h2).1 y hy
        omega
    · intro h
      obtain ⟨h1, h2⟩ := List.pairwise_cons.mp h
      exact ⟨h1 b (List.mem_cons_self ..), h2⟩
theorem asc_set (l : List Int) : decide (l = ssetI l) = ascB l := by
  cases h : ascB l with
  | true => exact decide_eq_true (lt_uniq ((asc_pw l).mp h) (ssetI_lt l) fun k => (ssetI_mem k l).symm)
  | false =>
    refine decide_eq_false fun e => ?_
    have := ssetI_lt l
    rw [← e] at this
    rw [(asc_pw l).mpr this] at h
    cases h
theorem slo1_any (xs : List D) : slV 1 (.tuple xs) = some (.val (.tuple (xs.drop 1))) := by
  show some (RV.val (.tuple (cutL xs (some 1) none))) = _
  unfold cutL HT.sIx
  simp only [if_neg (show ¬ (1 : Int) < 0 by omega)]
  cases xs with
  | nil => rfl
  | cons x r => simp
theorem t_asc (n : Nat) (ns : List Int) (hl : ns.length ≤ 16777216) : evC fs (n + 1) 2 [.val (.tuple (ns.map .int))] = .ok (.val (.bool (ascB ns))) [] := by
  rw [u_is_ascending]
  unfold b_is_ascending
  have e1 := slo1_any (ns.map .int)
  rw [← List.map_drop] at e1
  have e2 := all_map (fun p : Int × Int => decide (p.1 < p.2)) (ns.zip (ns.drop 1))
  generalize evC fs n = C at *
  exists e1, zipD_map2
  rw [compAll_of (k := fun p : Int × Int => some (.bool (decide (p.1 < p.2)))) (by rw [List.length_zip]; omega)]
  · rw [fm_some]
    exists e2, ascB
  · intro p hp
    trivial
/-- a tuple of places below many -/
def inB (many : Int) : D → Bool
  | .tuple xs => xs.all fun x => isW x 0 (many - 1)
  | _ => false
theorem in_cases (d : D) (many : Int) : inB many d = false ∨ ∃ ns : List Int, d = cm ns ∧ (∀ v ∈ ns, 0 ≤ v ∧ v ≤ many - 1) ∧ inB many d = true := by
  cases h : inB many d with
  | false => exact .inl rfl
  | true =>
    cases d with
    | tuple xs =>
      have h2 : (xs.all fun x => isW x 0 (many - 1)) = true := h
      obtain ⟨ns, e, _, hn⟩ := ints_of (P := fun v => 0 ≤ v ∧ v ≤ many - 1) (xs := xs) fun x hx => by
        have := List.all_eq_true.mp h2 x hx
        cases x with
        | int v =>
          obtain ⟨a, b⟩ := Bool.and_eq_true_iff.mp (show (decide (0 ≤ v) && decide (v ≤ many - 1)) = true from this)
          exact ⟨v, rfl, of_decide_eq_true a, of_decide_eq_true b⟩
        | _ => cases this
      subst e
      exact .inr ⟨ns, rfl, hn, rfl⟩
    | _ => cases h
/-- the cams of a set -/
def pick (cs : List (List Int)) (ns : List Int) : List (List Int) := ns.map fun a => cs.getD a.toNat []
def good (m : Nat) (cs : List (List Int)) (w : List Int) (ns : List Int) : Bool := decide (fol m (pick cs ns) (gr (pick cs ns) w) = w)
def doB (m : Nat) (cs : List (List Int)) (w : List Int) (d : D) : Bool := inB cs.length d && match d with
  | .tuple xs => (match intsD xs with
    | some ns => ascB ns && (decide (ns ≠ []) && good m cs w ns)
    | none => false)
  | _ => false
theorem doB_cm {m : Nat} {cs : List (List Int)} {w ns : List Int} : doB m cs w (cm ns) = (inB cs.length (cm ns) && (ascB ns && (decide (ns ≠ []) && good m cs w ns))) := by
  unfold doB cm
  dsimp only
  rw [intsD_map]
theorem pick_map {cs : List (List Int)} {ns : List Int} : (pick cs ns).map cm = ns.map fun a => cm (cs.getD a.toNat []) := by
  unfold pick
  rw [List.map_map]
  rfl
theorem pick_at {cs : List (List Int)} {a : Int} (h : 0 ≤ a ∧ a ≤ (cs.length : Int) - 1) : L2.atI (cs.map cm) a = some (cm (cs.getD a.toNat [])) ∧ cs.getD a.toNat [] ∈ cs := by
  obtain ⟨c, hc, h1, h2⟩ := atI_map cm (hs := cs) (i := a) h.1 (by omega)
  have : cs.getD a.toNat [] = c := by
    rw [List.getD_eq_getElem?_getD, h1]
    rfl
  rw [this]
  exact ⟨h2, hc⟩
theorem pick_rect {m : Nat} {cs : List (List Int)} {ns : List Int} (ok : Rect m cs) (hn : ∀ v ∈ ns, 0 ≤ v ∧ v ≤ (cs.length : Int) - 1) (ne : ns ≠ []) (hl : ns.length ≤ 1000) : Rect m (pick cs ns) := by
  refine ⟨ok.1, by unfold pick; rw [List.length_map]; exact hl, fun h => ne (by unfold pick at h; simpa using h), fun c hc => ?_⟩
  obtain ⟨a, ha, rfl⟩ := List.mem_map.mp hc
  exact ok.2.2.2 _ (pick_at (hn a ha)).2
theorem pick_comp (C : Nat → List Wk.Arg → RC) {cs : List (List Int)} {ns : List Int} (s1 s2 s3 : Sl) (hn : ∀ v ∈ ns, 0 ≤ v ∧ v ≤ (cs.length : Int) - 1) (hl : ns.length ≤ 1000) :
    compAll [4] (itemF C (.idx (.var 0) (.var 4)) (.name 4)) (ns.map .int) [] [.val (.tuple (cs.map cm)), s1, s2, s3, .no] = .ok (.tmp ((pick cs ns).map cm)) [.val (.tuple (cs.map cm)), s1, s2, s3, .no] := by
  rw [pick_map, compAll_of0 (c := PyData.int) (k := fun a => cm (cs.getD a.toNat [])) (by omega)]
  intro a ha
  have e := (pick_at (hn a ha)).1
  exists e
section
variable {m : Nat} {cs : List (List Int)} (ok : CsOk m cs)
include ok
theorem t_follower (n : Nat) {ns : List Int} (hl : ns.length = cs.length) (hn : ∀ v ∈ ns, -10000000 ≤ v ∧ v ≤ 10000000) : evC fs (n + 6) 16 [.val (cms cs), .val (cm ns)] = .ok (.val (cm (fol m cs ns))) [] := by
  have e1 := t_need_cams ok n
  have e2 : evC fs (n + 5) 4 _ = _ := t_are_wholes (n + 3) (cm ns) cs.length (-10000000) 10000000 (cm_gs (L := 1000) (m := 0) (by have := ok.l12; omega)) (by omega)
  have ht : wsB (cm ns) cs.length (-10000000) 10000000 = true := by
    rw [show wsB (cm ns) cs.length (-10000000) 10000000 = (decide (((ns.map PyData.int).length : Int) = cs.length) && (ns.map PyData.int).all fun x => isW x (-10000000) 10000000) from rfl]
    rw [decide_eq_true (by rw [List.length_map, hl]), List.all_eq_true.mpr]
    · rfl
    · intro x hx
      obtain ⟨v, hv, rfl⟩ := List.mem_map.mp hx
      exact isW_int (hn v hv)
  rw [ht] at e2
  have k0 : ((cs.map cm).length : Int) = (cs.length : Int) := by rw [List.length_map]
  have e4 : evC fs (n + 5) 11 _ = _ := t_follows (n + 4) ok.rect (sh := ns) hl
  rw [u_follower]
  unfold b_follower
  generalize evC fs (n + 5) = C at *
  unfold cms cm at *
  exists e1, k0, e2, e4
variable {w : List Int} (hw : WOk m w)
include hw
theorem t_is_bare (n : Nat) (d : D) (hd : ∀ x, d ≠ .dict x) : evC fs (n + 7) 21 [.val (cms cs), .val (cm w), .val d] = .ok (.val (.bool (bpB m (fol m cs (gr cs w)) w d))) [] := by
  have e1 := t_need_wish ok hw n
  have e5 : evC fs (n + 6) 0 _ = _ := t_isW (n + 5) d 0 ((m : Int) - 1) hd
  have e2 : evC fs (n + 6) 12 _ = _ := t_greatest ok.rect ok.m1 hw.len (n + 5)
  have e3 : evC fs (n + 6) 11 _ = _ := t_follows (n + 5) ok.rect (gr_len cs w)
  have k1 : ((w.map PyData.int).length : Int) = (m : Int) := by rw [List.length_map, hw.len]
  have lf := fol_len m cs (gr cs w)
  rw [u_is_bare_place]
  unfold b_is_bare_place
  generalize evC fs (n + 6) = C at *
  generalize hS : gr cs w = sh at *
  generalize hF : fol m cs sh = hi at *
  have lw := hw.len
  cases d with
  | int v =>
    have e5 : C 0 [.val (.int v), .val (.int 0), .val (.int ((m : Int) - 1))] = .ok (.val (.bool (decide (0 ≤ v) && decide (v ≤ (m : Int) - 1)))) [] := e5
    by_cases q : 0 ≤ v ∧ v ≤ (m : Int) - 1
    · rw [decide_eq_true q.1, decide_eq_true q.2] at e5
      have ev : ((v.toNat : Nat) : Int) = v := by omega
      have a1 : L2.atI (hi.map PyData.int) v = some (.int (hi.getD v.toNat 0)) := by
        have := at_int (l := hi) (p := v.toNat) (by omega)
        rwa [ev] at this
      have a2 : L2.atI (w.map PyData.int) v = some (.int (w.getD v.toNat 0)) := by
        have := at_int (l := w) (p := v.toNat) (by omega)
        rwa [ev] at this
      have eB : bpB m hi w (.int v) = decide (hi.getD v.toNat 0 < w.getD v.toNat 0) := by
        show ((_ && _) && _) = _
        rw [decide_eq_true q.1, decide_eq_true q.2]
        rfl
      unfold cm at *
      exists e1, k1, e5, e2, e3, a1, a2, eB
    · have z : (decide (0 ≤ v) && decide (v ≤ (m : Int) - 1)) = false := by
        by_cases q1 : 0 ≤ v
        · rw [decide_eq_false (show ¬ v ≤ (m : Int) - 1 from fun h => q ⟨q1, h⟩), Bool.and_false]
        · rw [decide_eq_false q1, Bool.false_and]
      rw [z] at e5
      have eB : bpB m hi w (.int v) = false := by
        show ((_ && _) && _) = _
        rw [z, Bool.false_and]
      unfold cm at *
      exists e1, k1, e5, eB
  | dict x => exact absurd rfl (hd x)
  | _ =>
    have e5 : C 0 _ = .ok (.val (.bool false)) [] := e5
    unfold cm at *
    exists e1, k1, e5, bpB
end
/-! does_set and the law's look at it -/
def setB (many : Int) (d : D) : Bool := inB many d && match d with
  | .tuple xs => (match intsD xs with
    | some ns => ascB ns
    | none => false)
  | _ => false
theorem setB_cm {many : Int} {ns : List Int} : setB many (cm ns) = (inB many (cm ns) && ascB ns) := by
  unfold setB cm
  dsimp only
  rw [intsD_map]
theorem t_set_below (n : Nat) {L k : Nat} (d : D) (many : Int) (h : gsh L k d = true) (hL : L ≤ 1000) : evC fs (n + 2) 3 [.val d, .val (.int many)] = .ok (.val (.bool (setB many d))) [] := by
  rw [u_is_set_below]
  unfold b_is_set_below
  cases d with
  | tuple xs =>
    obtain ⟨k', rfl, hl, hx⟩ := gs_tup h
    have e1 : ∀ x ∈ xs, evC fs (n + 1) 0 [.val x, .val (.int 0), .val (.int (many - 1))] = _ := fun x hx0 => t_isW n x 0 (many - 1) (gs_nd (hx x hx0))
    have c1 := compAll_x (own := [2]) (f := itemF (evC fs (n + 1)) (.call 0 (.cons (.var 2) (.cons (.lit (.int 0)) (.cons (.bin .sub (.var 1) (.lit (.int 1))) .nil)))) (.name 2)) (xs := xs) (fun x => some (.bool (isW x 0 (many - 1)))) (ρ := [.val (.tuple xs), .val (.int many), .no]) (by omega) (fun x hx0 => by
      have e1 := e1 x hx0
      generalize evC fs (n + 1) = C at *
      exists e1)
    rw [fm_some] at c1
    have e2 := all_map (fun x : D => isW x 0 (many - 1)) xs
    rcases in_cases (.tuple xs) many with hf | ⟨ns, e, hn, ht⟩
    · have hf' : (xs.all fun x => isW x 0 (many - 1)) = false := hf
      rw [hf'] at e2
      have e3 : setB many (.tuple xs) = false := by
        unfold setB
        rw [hf, Bool.false_and]
      generalize evC fs (n + 1) = C at *
      exists c1, e2, e3
    · have ht' : (xs.all fun x => isW x 0 (many - 1)) = true := ht
      rw [ht'] at e2
      have e3 := setB_cm (many := many) (ns := ns)
      rw [← e, ht, Bool.true_and] at e3
      have e4 := t_asc n ns (by
        have : xs = ns.map .int := by injection e
        rw [this, List.length_map] at hl
        omega)
      have e4 : evC fs (n + 1) 2 [.val (.tuple xs)] = .ok (.val (.bool (ascB ns))) [] := by
        rw [e]
        exact e4
      generalize evC fs (n + 1) = C at *
      exists c1, e2, e4, e3
  | dict x => exact absurd rfl (gs_nd h x)
  | _ =>
    generalize evC fs (n + 1) = C at *
    exists setB, Bool.and_false
theorem nil_cm (ns : List Int) (h : ns.length ≤ 1000) : cmpD .eq (cm ns) (.tuple []) = some (decide (ns = [])) := eq_cm (b := []) h (by simp)
section
variable {m : Nat} {cs : List (List Int)} (ok : CsOk m cs) {w : List Int} (hw : WOk m w)
include ok hw
theorem t_does_set (n : Nat) {L k : Nat} (d : D) (h : gsh L k d = true) (hL : L ≤ 1000) : evC fs (n + 7) 24 [.val (cms cs), .val (cm w), .val d] = .ok (.val (.bool (doB m cs w d))) [] := by
  have e1 := t_need_wish ok hw n
  have e2 : evC fs (n + 6) 3 _ = _ := t_set_below (n + 4) d cs.length h hL
  have k0 : ((cs.map cm).length : Int) = (cs.length : Int) := by rw [List.length_map]
  rw [u_does_set]
  unfold b_does_set
  rcases in_cases d cs.length with hf | ⟨ns, rfl, hn, ht⟩
  · have e3 : setB cs.length d = false := by
      unfold setB
      rw [hf, Bool.false_and]
    have e4 : doB m cs w d = false := by
      unfold doB
      rw [hf, Bool.false_and]
    rw [e3] at e2
    generalize evC fs (n + 6) = C at *
    unfold cms cm at *
    exists e1, k0, e2, e4
  · have hl : ns.length ≤ 1000 := by
      obtain ⟨_, _, hl, _⟩ := gs_tup h
      rw [List.length_map] at hl
      omega
    have e3 := setB_cm (many := cs.length) (ns := ns)
    have e4 := doB_cm (m := m) (cs := cs) (w := w) (ns := ns)
    rw [ht, Bool.true_and] at e3 e4
    rw [e3] at e2
    have z0 := nil_cm ns hl
    cases ha : ascB ns with
    | false =>
      rw [ha] at e2 e4
      rw [Bool.false_and] at e4
      generalize evC fs (n + 6) = C at *
      unfold cms cm at *
      exists e1, k0, e2, e4
    | true =>
      rw [ha] at e2 e4
      by_cases q : ns = []
      · rw [decide_eq_true q] at z0
        rw [decide_eq_false (fun h => h q)] at e4
        generalize evC fs (n + 6) = C at *
        unfold cms cm at *
        exists e1, k0, e2, z0, e4
      · rw [decide_eq_false q] at z0
        rw [decide_eq_true q, Bool.true_and, Bool.true_and] at e4
        have rc := pick_rect ok.rect hn q hl
        have e5 : evC fs (n + 6) 12 _ = _ := t_greatest rc ok.m1 hw.len (n + 5)
        have e6 : evC fs (n + 6) 11 _ = _ := t_follows (n + 5) rc (gr_len (pick cs ns) w)
        have z := eq_cm (a := fol m (pick cs ns) (gr (pick cs ns) w)) (b := w) (by rw [fol_len]; have := ok.rect.1; omega) (by rw [hw.len]; have := ok.rect.1; omega)
        rw [show decide (fol m (pick cs ns) (gr (pick cs ns) w) = w) = good m cs w ns from rfl, ← e4] at z
        have pc := fun C s1 s2 s3 => pick_comp C (cs := cs) (ns := ns) s1 s2 s3 hn hl
        generalize evC fs (n + 6) = C at *
        generalize pick cs ns = ps at *
        unfold cms cm at *
        exists e1, k0, e2, z0, pc, e5, e6, z
theorem t_ldoes (n : Nat) {L k : Nat} (d : D) (h : gsh L k d = true) (hL : L ≤ 60) (hk : k ≤ 20) : evC fs (n + 3) 37 [.val (cms cs), .val (cm w), .val d] = .ok (.val (.bool (doB m cs w d))) [] := by
  have e0 : evC fs (n + 2) 28 _ = _ := t_sort (n + 1) d (gs_nd h)
  have k0 : ((cs.map cm).length : Int) = (cs.length : Int) := by rw [List.length_map]
  rw [u__law_does]
  unfold b__law_does
  cases d with
  | tuple xs =>
    have zt := eqv_t0 h (by omega)
    obtain ⟨k', rfl, hl, hx⟩ := gs_tup h
    have e0 : evC fs (n + 2) 28 _ = .ok (.val (.int 4)) [] := e0
    have e2 : ∀ x ∈ xs, evC fs (n + 2) 32 [.val x, .val (.int 0), .val (.int ((cs.length : Int) - 1))] = _ := fun x hx0 => t_whole n x 0 ((cs.length : Int) - 1) (gs_nd (hx x hx0))
    have c1 := compAll_x (own := [4]) (f := itemIfF (evC fs (n + 2)) (.lit (.int 1)) (.name 4) (.not (.call 32 (.cons (.var 4) (.cons (.lit (.int 0)) (.cons (.bin .sub (.b1 .len (.var 0)) (.lit (.int 1))) .nil)))))) (xs := xs) (oneIf fun x => isW x 0 ((cs.length : Int) - 1)) (ρ := [.val (.tuple (cs.map cm)), .val (cm w), .val (.tuple xs), .no, .no]) (by omega) (fun x hx0 => by
      have e2 := e2 x hx0
      generalize evC fs (n + 2) = C at *
      unfold cm at *
      cases hb : isW x 0 ((cs.length : Int) - 1) with
      | true =>
        rw [hb] at e2
        rw [oneIf_t (p := fun x => isW x 0 ((cs.length : Int) - 1)) hb]
        exists k0, e2
      | false =>
        rw [hb] at e2
        rw [oneIf_f (p := fun x => isW x 0 ((cs.length : Int) - 1)) hb]
        exists k0, e2)
    have z2 := bad_list (fun x => isW x 0 ((cs.length : Int) - 1)) xs (by omega)
    have emp : xs = [] → doB m cs w (.tuple xs) = false := by
      rintro rfl
      rfl
    by_cases qx : xs = []
    · have e4 := emp qx
      have zt : cmpD .eq (.tuple xs) (.tuple []) = some true := by
        rw [zt, qx]
        simp [PyData.eqv, PyData.eqvAll]
      generalize evC fs (n + 2) = C at *
      unfold cms cm at *
      exists e0, so_4, zt, e4
    · have zt : cmpD .eq (.tuple xs) (.tuple []) = some false := by
        rw [zt]
        cases xs with
        | nil => exact absurd rfl qx
        | cons x r => simp [PyData.eqv, PyData.eqvAll]
      rcases in_cases (.tuple xs) cs.length with hf | ⟨ns, e, hn, ht⟩
      · have hf' : (xs.all fun x => isW x 0 ((cs.length : Int) - 1)) = false := hf
        rw [hf'] at z2
        have e4 : doB m cs w (.tuple xs) = false := by
          unfold doB
          rw [hf, Bool.false_and]
        generalize evC fs (n + 2) = C at *
        unfold cms cm at *
        exists e0, so_4, zt, c1, z2, e4
      · have ht' : (xs.all fun x => isW x 0 ((cs.length : Int) - 1)) = true := ht
        rw [ht'] at z2
        have ex : xs = ns.map .int := by injection e
        have hl2 : ns.length ≤ 60 := by
          rw [ex, List.length_map] at hl
          omega
        have ss : ssetD (.tuple xs) = some (.tmp ((ssetI ns).map .int)) := by
          show (intsD xs).bind (fun ns => guardO (decide (ns.length < 64)) (RV.tmp ((ssetI ns).map PyData.int))) = _
          rw [ex, intsD_map, Option.bind_some, decide_eq_true (by omega)]
          rfl
        have zs : cmpD .ne (.list xs) (.list ((ssetI ns).map .int)) = some (!ascB ns) := by
          have g : ∀ l : List Int, l.length ≤ 60 → gsh 60 1 (.list (l.map .int)) = true := fun l hl => gs_mkL (by rw [List.length_map]; exact hl) fun x hx => by
            obtain ⟨v, _, rfl⟩ := List.mem_map.mp hx
            rfl
          rw [ex, neS (g ns hl2) (g _ (Nat.le_trans (ssetI_len ns) hl2)) (by omega), PyData.eqv, eqvAll_ints, asc_set]
        have e4 := doB_cm (m := m) (cs := cs) (w := w) (ns := ns)
        have q : ns ≠ [] := fun h => qx (by rw [ex, h]; rfl)
        rw [← e, ht, Bool.true_and, decide_eq_true q, Bool.true_and] at e4
        cases ha : ascB ns with
        | false =>
          rw [ha] at e4 zs
          rw [Bool.false_and] at e4
          generalize evC fs (n + 2) = C at *
          unfold cms cm at *
          exists e0, so_4, zt, c1, z2, ss, zs, e4
        | true =>
          rw [ha] at e4 zs
          rw [Bool.true_and] at e4
          have rc := pick_rect ok.rect hn q (by omega)
          have e5 : evC fs (n + 2) 35 _ = _ := t_lgreatest_own rc ok.m1 hw.len (n + 1)
          have e6 : evC fs (n + 2) 34 _ = _ := t_lfollows_own rc (gr_len (pick cs ns) w) (n + 1)
          have z := eq_cm (a := fol m (pick cs ns) (gr (pick cs ns) w)) (b := w) (by rw [fol_len]; have := ok.rect.1; omega) (by rw [hw.len]; have := ok.rect.1; omega)
          rw [show decide (fol m (pick cs ns) (gr (pick cs ns) w) = w) = good m cs w ns from rfl, ← e4] at z
          have pc := fun C s1 s2 s3 => pick_comp C (cs := cs) (ns := ns) s1 s2 s3 hn (by omega)
          rw [← ex] at pc
          generalize evC fs (n + 2) = C at *
          generalize pick cs ns = ps at *
          generalize (ssetI ns).map PyData.int = ssn at *
          unfold cms cm at *
          exists e0, so_4, zt, c1, z2, ss, zs, pc, e5, e6, z
  | dict x => exact absurd rfl (gs_nd h x)
  | _ =>
    generalize evC fs (n + 2) = C at *
    unfold cms cm at *
    exists e0, sortOf, so_0, so_1, so_2, so_3, so_5, doB, Bool.and_false
end
/-! sets of places as numbers -/
def num (f : Nat → Bool) : Nat → Nat
  | 0 => 0
  | m + 1 => num f m + if f m = true then 2 ^ m else 0
theorem num_lt (f : Nat → Bool) : ∀ m, num f m < 2 ^ m
  | 0 => by simp [num]
  | m + 1 => by
    have := num_lt f m
    unfold num
    rw [Nat.pow_succ]
    split <;> omega
theorem num_bit (f : Nat → Bool) (q : Nat) : ∀ m, (num f m).testBit q = (decide (q < m) && f q)
  | 0 => by simp [num]
  | m + 1 => by
    have ih := num_bit f q m
    have lt := num_lt f m
    unfold num
    by_cases h : f m = true
    · rw [if_pos h, Nat.add_comm]
      by_cases e : q = m
      · subst e
        rw [Nat.testBit_two_pow_add_eq, Nat.testBit_lt_two_pow lt]
        simp [h]
      · by_cases l : q < m
        · rw [Nat.testBit_two_pow_add_gt l, ih]
          rw [decide_eq_true l, decide_eq_true (show q < m + 1 by omega)]
        · have : 2 ^ m + num f m < 2 ^ q := by
            have : 2 ^ (m + 1) ≤ 2 ^ q := Nat.pow_le_pow_right (by decide) (by omega)
            rw [Nat.pow_succ] at this
            omega
          rw [Nat.testBit_lt_two_pow this, decide_eq_false (show ¬ q < m + 1 by omega), Bool.false_and]
    · rw [if_neg h, Nat.add_zero, ih]
      by_cases e : q = m
      · subst e
        simp [h]
      · by_cases l : q < m
        · rw [decide_eq_true l, decide_eq_true (show q < m + 1 by omega)]
        · rw [decide_eq_false l, decide_eq_false (show ¬ q < m + 1 by omega)]
theorem num_or (f g : Nat → Bool) (m : Nat) : num f m ||| num g m = num (fun p => f p || g p) m := by
  refine Nat.eq_of_testBit_eq fun q => ?_
  rw [Nat.testBit_or, num_bit, num_bit, num_bit, Bool.and_or_distrib_left]
theorem num_full (f : Nat → Bool) (m : Nat) : num f m = 2 ^ m - 1 ↔ ∀ p, p < m → f p = true := by
  constructor
  · intro h p hp
    have := congrArg (fun x => x.testBit p) h
    simp only [num_bit, Nat.testBit_two_pow_sub_one, decide_eq_true hp, Bool.true_and] at this
    exact this
  · intro h
    refine Nat.eq_of_testBit_eq fun q => ?_
    rw [num_bit, Nat.testBit_two_pow_sub_one]
    by_cases l : q < m
    · rw [h q l, Bool.and_true]
    · rw [decide_eq_false l, Bool.false_and]
theorem num_congr {f g : Nat → Bool} : ∀ m, (∀ p, p < m → f p = g p) → num f m = num g m
  | 0, _ => rfl
  | m + 1, h => by
    unfold num
    rw [num_congr m fun p hp => h p (by omega), h m (by omega)]
theorem bor_nat (a b : Nat) : binD .bor (.int (a : Int)) (.int (b : Int)) = some (.val (.int ((a ||| b : Nat) : Int))) := by
  show some (RV.val (.int (Builtin.bitOr (a : Int) (b : Int)))) = _
  rw [L2.bitOr_nn (Int.natCast_nonneg _) (Int.natCast_nonneg _), Int.toNat_natCast, Int.toNat_natCast]
theorem shl1 (p : Nat) (h : p ≤ 1000) : binD .shl (.int 1) (.int (p : Int)) = some (.val (.int ((2 ^ p : Nat) : Int))) := by
  show guardO (powOk 1 (p : Int)) (RV.val (.int (1 * 2 ^ ((p : Int)).toNat))) = _
  have : powOk 1 (p : Int) = true := by
    unfold powOk
    rw [decide_eq_true (by omega), decide_eq_true (by omega)]
    rfl
  rw [this]
  show some (RV.val (.int _)) = _
  have e : ((p : Int)).toNat = p := by omega
  rw [e, Int.one_mul]
  congr 3
/-- the sum of the powers told -/
theorem sum_num (f : Nat → Bool) : ∀ m, ((List.range m).filterMap fun p => if f p = true then some (((2 ^ p : Nat) : Int)) else none).sum = ((num f m : Nat) : Int)
  | 0 => rfl
  | m + 1 => by
    rw [List.range_succ, List.filterMap_append, List.sum_append, sum_num f m]
    have e : num f (m + 1) = num f m + if f m = true then 2 ^ m else 0 := rfl
    rw [e]
    clear e
    by_cases h : f m = true
    · rw [if_pos h, List.filterMap_cons_some (b := ((2 ^ m : Nat) : Int)) (by rw [if_pos h])]
      simp
    · rw [if_neg h, List.filterMap_cons_none (by rw [if_neg h])]
      simp
/-! all sets of places below k -/
def subs : Nat → List (List Int)
  | 0 => [[]]
  | k + 1 => subs k ++ (subs k).map fun s => s ++ [(k : Int)]
theorem subs_len : ∀ k, (subs k).length = 2 ^ k
  | 0 => rfl
  | k + 1 => by
    unfold subs
    rw [List.length_append, List.length_map, subs_len k, Nat.pow_succ]
    omega
theorem subs_ok : ∀ k, ∀ s ∈ subs k, (∀ v ∈ s, 0 ≤ v ∧ v < (k : Int)) ∧ s.Pairwise (· < ·) ∧ s.length ≤ k
  | 0, s, h => by
    have : s = [] := by simpa [subs] using h
    subst this
    refine ⟨fun v hv => ?_, List.Pairwise.nil, Nat.le_refl _⟩
    cases hv
  | k + 1, s, h => by
    unfold subs at h
    rcases List.mem_append.mp h with h | h
    · obtain ⟨h1, h2, h3⟩ := subs_ok k s h
      exact ⟨fun v hv => by have := h1 v hv; omega, h2, by omega⟩
    · obtain ⟨t, ht, rfl⟩ := List.mem_map.mp h
      obtain ⟨h1, h2, h3⟩ := subs_ok k t ht
      refine ⟨fun v hv => ?_, ?_, by rw [List.length_append, List.length_singleton]; omega⟩
      · rcases List.mem_append.mp hv with hv | hv
        · have := h1 v hv
          omega
        · rw [List.mem_singleton] at hv
          omega
      · refine List.pairwise_append.mpr ⟨h2, List.pairwise_singleton _ _, fun a ha b hb => ?_⟩
        rw [List.mem_singleton] at hb
        have := h1 a ha
        omega
theorem subs_all : ∀ (k : Nat) (s : List Int), (∀ v ∈ s, 0 ≤ v ∧ v < (k : Int)) → s.Pairwise (· < ·) → s ∈ subs k
  | 0, s, h, _ => by
    cases s with
    | nil => exact List.mem_singleton.mpr rfl
    | cons a r =>
      have := h a (List.mem_cons_self ..)
      omega
  | k + 1, s, h, hp => by
    unfold subs
    by_cases q : ∃ t, s = t ++ [(k : Int)]
    · obtain ⟨t, rfl⟩ := q
      obtain ⟨p1, _, p3⟩ := List.pairwise_append.mp hp
      refine List.mem_append.mpr (.inr (List.mem_map.mpr ⟨t, subs_all k t (fun v hv => ?_) p1, rfl⟩))
      have a := h v (List.mem_append_left _ hv)
      have b := p3 v hv k (List.mem_singleton.mpr rfl)
      omega
    · refine List.mem_append.mpr (.inl (subs_all k s (fun v hv => ?_) hp))
      have a := h v hv
      refine ⟨a.1, ?_⟩
      rcases Nat.lt_or_ge v.toNat k with z | z
      · omega
      · exfalso
        have ev : v = (k : Int) := by omega
        subst ev
        obtain ⟨t, u, rfl⟩ := List.append_of_mem hv
        cases u with
        | nil => exact q ⟨t, rfl⟩
        | cons b u =>
          obtain ⟨_, p2, _⟩ := List.pairwise_append.mp hp
          have := (List.pairwise_cons.mp p2).1 b (List.mem_cons_self ..)
          have := h b (by simp)
          omega
theorem subs_head : ∀ k, ∃ r, subs k = [] :: r
  | 0 => ⟨[], rfl⟩
  | k + 1 => by
    obtain ⟨r, h⟩ := subs_head k
    refine ⟨r ++ (subs k).map fun s => s ++ [(k : Int)], ?_⟩
    show subs k ++ _ = _
    conv => lhs; rw [h]
    rw [List.cons_append, ← h]
theorem subs_tail (k : Nat) : ∀ s ∈ (subs k).drop 1, s ≠ [] := by
  induction k with
  | zero => intro s h; cases h
  | succ k ih =>
    obtain ⟨r, h⟩ := subs_head k
    intro s hs
    have e : subs (k + 1) = subs k ++ (subs k).map fun s => s ++ [(k : Int)] := rfl
    rw [e, h, List.cons_append, List.drop_succ_cons, List.drop_zero] at hs
    rcases List.mem_append.mp hs with hs | hs
    · rw [h] at ih
      exact ih s hs
    · obtain ⟨t, _, rfl⟩ := List.mem_map.mp hs
      simp
/-! reached -/
theorem forL_at {α : Type} {f : D → Fm → R Fl} (c : α → D) (hs : List α) (P : Nat → Fm → Prop) (ρ0 : Fm) (h0 : P 0 ρ0) (t : ∀ i a ρ, hs[i]? = some a → P i ρ → ∃ ρ', f (c a) ρ = .ok .nx ρ' ∧ P (i + 1) ρ') : ∃ ρ', forL f (hs.map c) ρ0 = .ok .nx ρ' ∧ P hs.length ρ' := by
  have z := forL_inv (f := f) P (hs.map c) ρ0 h0 fun i ρ hi hp => by
    have hi' : i < hs.length := by rwa [List.length_map] at hi
    rw [List.getElem_map]
    exact t i _ ρ (List.getElem?_eq_getElem hi') hp
  rwa [List.length_map] at z
theorem take_at {α : Type} {l : List α} {i : Nat} {a : α} (h : l[i]? = some a) : l.take (i + 1) = l.take i ++ [a] := by
  rw [List.take_add_one, h]
  rfl
def sc (w c : List Int) : Int := mn ((w.zip c).map fun q => q.1 - q.2)
def rch (w c : List Int) (p : Nat) : Bool := decide (c.getD p 0 + sc w c = w.getD p 0)
def mark (m : Nat) (w c : List Int) : Nat := num (rch w c) m
def rdB : IS := (.seq (.expr (.app 2 (.b1 .sum (.compIf (.bin .shl (.lit (.int 1)) (.var 5)) (.tup (.cons (.name 5) (.cons (.name 6) .nil))) (.enum (.var 3)) (.cmp .eq (.bin .add (.var 6) (.var 4)) (.idx (.var 1) (.var 5)))))))
   .skip)
theorem eq_ii (i j : Int) : cmpD .eq (.int i) (.int j) = some (decide (i = j)) := by
  rw [eqS (L := 0) (m := 0) rfl rfl (by omega)]
  rfl
theorem rd_turn (C : Nat → List Wk.Arg → RC) {m : Nat} (m2 : m ≤ 60) {w c : List Int} (hw : w.length = m) (hc : c.length = m) (s0 s3 s4 : Sl) (f3 : free? (some s3) = true) (f4 : free? (some s4) = true) (acc : List Int) (ha : acc.length ≤ 1000) :
    turnF C (.tup (.cons (.name 3) (.cons (.name 4) .nil))) rdB (.tuple [cm c, .int (sc w c)]) [s0, .val (cm w), .own (acc.map .int) .mine, s3, s4, .no, .no] =
      .ok .nx [s0, .val (cm w), .own ((acc ++ [((mark m w c : Nat) : Int)]).map .int) .mine, .val (cm c), .val (.int (sc w c)), .no, .no] := by
  have q : compAll [5, 6] (itemIfF C (.bin .shl (.lit (.int 1)) (.var 5)) (.tup (.cons (.name 5) (.cons (.name 6) .nil))) (.cmp .eq (.bin .add (.var 6) (.var 4)) (.idx (.var 1) (.var 5)))) (enumD 0 (c.map .int)) [] [s0, .val (cm w), .own (acc.map .int) .mine, .val (cm c), .val (.int (sc w c)), .no, .no] =
      .ok (.tmp (((List.range m).filterMap fun p => if rch w c p = true then some (((2 ^ p : Nat) : Int)) else none).map .int)) [s0, .val (cm w), .own (acc.map .int) .mine, .val (cm c), .val (.int (sc w c)), .no, .no] := by
    rw [enumD_map, compAll_of (k := fun p : Nat => if rch w c p = true then some (.int ((2 ^ p : Nat) : Int)) else none) (by rw [List.length_range]; omega)]
    · rw [hc, List.map_filterMap]
      congr 3
      funext p
      split <;> rfl
    · intro p hp
      have hp := List.mem_range.mp hp
      have z0 : 0 + p = p := Nat.zero_add p
      have a1 : L2.atI (w.map PyData.int) (p : Int) = some (.int (w.getD p 0)) := at_int (by omega)
      have z1 := eq_ii (c.getD p 0 + sc w c) (w.getD p 0)
      rw [show decide (c.getD p 0 + sc w c = w.getD p 0) = rch w c p from rfl] at z1
      have s1 := shl1 p (by omega)
      unfold cm
      generalize rch w c p = b at *
      cases b with
      | true =>
        rw [if_pos rfl]
        exists z0, a1, z1, s1
      | false =>
        rw [if_neg Bool.false_ne_true]
        exists z0, a1, z1
  have sm : b1D .sum (.list (((List.range m).filterMap fun p => if rch w c p = true then some (((2 ^ p : Nat) : Int)) else none).map .int)) = some (.val (.int ((mark m w c : Nat) : Int))) := by
    show (intsD _).map (fun ns => RV.val (.int ns.sum)) = _
    rw [intsD_map, Option.map_some, sum_num]
    rfl
  have ft : fits ((acc.map PyData.int).length + 1) = true := decide_eq_true (by rw [List.length_map]; omega)
  have ap : acc.map PyData.int ++ [.int ((mark m w c : Nat) : Int)] = (acc ++ [((mark m w c : Nat) : Int)]).map .int := by
    rw [List.map_append]
    rfl
  generalize ((List.range m).filterMap fun p => if rch w c p = true then some (((2 ^ p : Nat) : Int)) else none).map PyData.int = bs at *
  generalize (acc ++ [((mark m w c : Nat) : Int)]).map PyData.int = acc2 at *
  unfold rdB
  unfold cm at *
  exists f3, f4, q, sm, ft, ap
theorem zip_map_self {α β : Type} (f : α → β) : ∀ l : List α, l.zip (l.map f) = l.map fun a => (a, f a)
  | [] => rfl
  | a :: l => by
    rw [List.map_cons, List.zip_cons_cons, zip_map_self f l]
    rfl
theorem eo_mine (as : List Wk.Arg) (i : Nat) (ρ : Fm) (xs : List D) (h : ρ[i]? = some (.own xs .mine)) : endOf as (.ok (.ret (.sl i)) ρ) = .ok (.tmp xs) (finOf ρ 0 as) := by
  simp only [endOf, retOf, h]
theorem eo_m2 (as : List Wk.Arg) (s0 s1 : Sl) (xs : List D) (r : Fm) : endOf as (.ok (.ret (.sl 2)) (s0 :: s1 :: .own xs .mine :: r)) = .ok (.tmp xs) (finOf (s0 :: s1 :: .own xs .mine :: r) 0 as) := eo_mine as 2 _ xs rfl
theorem t_reached (n : Nat) {m : Nat} {cs : List (List Int)} {w : List Int} (ok : Rect m cs) (m1 : 1 ≤ m) (hw : w.length = m) : evC fs (n + 2) 13 [.val (cms cs), .val (cm w)] = .ok (.tmp ((cs.map fun c => ((mark m w c : Nat) : Int)).map .int)) [] := by
  have e1 := t_greatest ok m1 hw n
  obtain ⟨o1, o2, o3, o4⟩ := ok
  have zz : zipD (cs.map cm) ((gr cs w).map .int) = cs.map fun c => .tuple [cm c, .int (sc w c)] := by
    rw [zipD_map2 cm PyData.int cs (gr cs w), show gr cs w = cs.map (sc w) from rfl, zip_map_self, List.map_map]
    rfl
  rw [u_reached]
  unfold b_reached
  have e1 : evC fs (n + 1) 12 _ = _ := e1
  generalize evC fs (n + 1) = C at *
  obtain ⟨ρ', z, s3, s4, f3, f4, rfl⟩ := forL_at (f := turnF C (.tup (.cons (.name 3) (.cons (.name 4) .nil))) rdB) (fun c => .tuple [cm c, .int (sc w c)]) cs (fun i ρ => ∃ s3 s4, free? (some s3) = true ∧ free? (some s4) = true ∧ ρ = [.val (cms cs), .val (cm w), .own (((cs.take i).map fun c => ((mark m w c : Nat) : Int)).map .int) .mine, s3, s4, .no, .no])
    [.val (cms cs), .val (cm w), .own [] .mine, .no, .no, .no, .no] ⟨.no, .no, rfl, rfl, rfl⟩ (by
    rintro i c ρ hi ⟨s3, s4, f3, f4, rfl⟩
    refine ⟨_, rd_turn C o1 hw (o4 c (List.mem_of_getElem? hi)) _ s3 s4 f3 f4 _ (by rw [List.length_map, List.length_take]; omega), .val (cm c), .val (.int (sc w c)), rfl, rfl, ?_⟩
    rw [take_at hi, List.map_append (l₁ := cs.take i)]
    rfl)
  rw [← zz, List.take_length] at z
  unfold rdB at z
  unfold cms cm at *
  generalize hms : (cs.map fun c => ((mark m w c : Nat) : Int)).map PyData.int = ms at *
  generalize (gr cs w).map PyData.int = gs0 at *
  exists e1, z, eo_m2
/-! few_in -/
section
variable (m : Nat) (cs : List (List Int)) (w : List Int)
def mkS (s : List Int) : Nat := num (fun p => s.any fun a => rch w (cs.getD a.toNat []) p) m
def prD (s : List Int) : D := .tuple [cm s, .int ((mkS m cs w s : Nat) : Int)]
def fuB (s : List Int) : Bool := decide (mkS m cs w s = 2 ^ m - 1)
def prG (s : List Int) : D := .tuple [.int (s.length : Int), cm s]
end
def fwB : IS := (.seq (.asg 2 (.bin .add (.var 2) (.comp (.tup (.cons (.bin .add (.var 8) (.tup (.cons (.var 6) .nil))) (.cons (.bin .bor (.var 9) (.var 7)) .nil))) (.tup (.cons (.name 8) (.cons (.name 9) .nil))) (.seq (.var 2)))))
   .skip)
theorem mkS_snoc {m : Nat} {cs : List (List Int)} {w : List Int} (s : List Int) {i : Nat} {c : List Int} (h : cs[i]? = some c) : mkS m cs w s ||| mark m w c = mkS m cs w (s ++ [(i : Int)]) := by
  unfold mkS mark
  rw [num_or]
  refine num_congr m fun p _ => ?_
  rw [List.any_append]
  congr 1
  have e : cs.getD ((i : Int)).toNat [] = c := by
    rw [Int.toNat_natCast, List.getD_eq_getElem?_getD, h]
    rfl
  rw [List.any_cons, List.any_nil, Bool.or_false, e]
theorem fw_turn (C : Nat → List Wk.Arg → RC) {m : Nat} {cs : List (List Int)} {w : List Int} {i : Nat} {c : List Int} (h : cs[i]? = some c) (hi : i < 12) (s0 s1 s3 s4 s5 s6 s7 : Sl) (f6 : free? (some s6) = true) (f7 : free? (some s7) = true) :
    turnF C (.tup (.cons (.name 6) (.cons (.name 7) .nil))) fwB (.tuple [.int (i : Int), .int ((mark m w c : Nat) : Int)]) [s0, s1, .own ((subs i).map (prD m cs w)) .mine, s3, s4, s5, s6, s7, .no, .no] =
      .ok .nx [s0, s1, .own ((subs (i + 1)).map (prD m cs w)) .mine, s3, s4, s5, .val (.int (i : Int)), .val (.int ((mark m w c : Nat) : Int)), .no, .no] := by
  have ls : (subs i).length ≤ 4096 := by
    rw [subs_len]
    exact Nat.pow_le_pow_right (n := 2) (by decide) (show i ≤ 12 by omega)
  have q : compAll [8, 9] (itemF C (.tup (.cons (.bin .add (.var 8) (.tup (.cons (.var 6) .nil))) (.cons (.bin .bor (.var 9) (.var 7)) .nil))) (.tup (.cons (.name 8) (.cons (.name 9) .nil)))) ((subs i).map (prD m cs w)) [2] [s0, s1, .own ((subs i).map (prD m cs w)) .lockM, s3, s4, s5, .val (.int (i : Int)), .val (.int ((mark m w c : Nat) : Int)), .no, .no] =
      .ok (.tmp ((subs i).map fun s => prD m cs w (s ++ [(i : Int)]))) [s0, s1, .own ((subs i).map (prD m cs w)) .mine, s3, s4, s5, .val (.int (i : Int)), .val (.int ((mark m w c : Nat) : Int)), .no, .no] := by
    rw [compAll_ofL (k := fun s => prD m cs w (s ++ [(i : Int)])) (by omega)]
    · rfl
    · intro s hs
      have l := (subs_ok i s hs).2.2
      have ft : fits (s.length + 1) = true := decide_eq_true (by omega)
      have ft2 : fits ((s.map PyData.int).length + (0 + 1)) = true := decide_eq_true (by rw [List.length_map]; omega)
      have ap : s.map PyData.int ++ [.int (i : Int)] = (s ++ [(i : Int)]).map .int := by
        rw [List.map_append]
        rfl
      have bo := bor_nat (mkS m cs w s) (mark m w c)
      rw [mkS_snoc s h] at bo
      unfold prD cm
      generalize (s ++ [(i : Int)]).map PyData.int = s2 at *
      exists ft2, ap, bo
  have ft : fits (((subs i).map (prD m cs w)).length + ((subs i).map fun s => prD m cs w (s ++ [(i : Int)])).length) = true := decide_eq_true (by rw [List.length_map, List.length_map]; omega)
  have ap : (subs i).map (prD m cs w) ++ (subs i).map (fun s => prD m cs w (s ++ [(i : Int)])) = (subs (i + 1)).map (prD m cs w) := by
    show _ = (subs i ++ (subs i).map fun s => s ++ [(i : Int)]).map (prD m cs w)
    rw [List.map_append, List.map_map]
    rfl
  generalize (subs i).map (prD m cs w) = A at *
  generalize ((subs i).map fun s => prD m cs w (s ++ [(i : Int)])) = B at *
  generalize (subs (i + 1)).map (prD m cs w) = A2 at *
  unfold fwB
  exists f6, f7, q, ft, ap
/-- the least of pairs of a length and a set -/
theorem lt_len {s t : List Int} (h : s.length ≠ t.length) : W.dataLt (prG s) (prG t) = decide (s.length < t.length) := by
  unfold prG
  rw [W.dataLt_tuple, W.dataLt_all_no (by simp [W.alike]) (by
    rw [PyData.eqv]
    exact beq_eq_false_iff_ne.mpr (by omega)), W.dataLt_int]
  by_cases q : s.length < t.length
  · rw [decide_eq_true q, decide_eq_true (by omega)]
  · rw [decide_eq_false q, decide_eq_false (by omega)]
theorem alike_ints : ∀ a b : List Int, W.alikeAll (a.map .int) (b.map .int) = true
  | [], _ => by simp [W.alikeAll]
  | _ :: _, [] => by simp [W.alikeAll]
  | x :: a, y :: b => by
    rw [List.map_cons, List.map_cons, W.alikeAll, alike_ints a b]
    rfl
theorem depth_ints : ∀ a : List Int, PyData.depthAll (a.map .int) = 0
  | [] => by simp [PyData.depthAll]
  | x :: a => by
    rw [List.map_cons, PyData.depthAll, depth_ints a]
    rfl
theorem less_ok (s t : List Int) : lessOk (prG s) (prG t) = true := by
  have a : W.alike (prG s) (prG t) = true := by
    unfold prG cm
    simp [W.alike, W.alikeAll, alike_ints]
  have d : (prG s).depth ≤ 60 := by
    unfold prG cm
    simp [PyData.depth, PyData.depthAll, depth_ints]
  unfold lessOk
  rw [a, decide_eq_true d]
  rfl
theorem min_sets : ∀ (r : List (List Int)) (b : List Int), ∃ s, minD (prG b) (r.map prG) = some (prG s) ∧ s ∈ b :: r ∧ ∀ t ∈ b :: r, s.length ≤ t.length
  | [], b => ⟨b, rfl, List.mem_cons_self .., fun t ht => by
    rw [List.mem_singleton] at ht
    rw [ht]
    exact Nat.le_refl _⟩
  | x :: r, b => by
    have e : minD (prG b) ((x :: r).map prG) = minD (if W.dataLt (prG x) (prG b) = true then prG x else prG b) (r.map prG) := by
      show (if lessOk (prG x) (prG b) = true then _ else none) = _
      rw [if_pos (less_ok x b)]
    by_cases q : W.dataLt (prG x) (prG b) = true
    · obtain ⟨s, h1, h2, h3⟩ := min_sets r x
      have lx : x.length ≤ b.length := by
        by_cases z : x.length = b.length
        · omega
        · rw [lt_len z] at q
          have := of_decide_eq_true q
          omega
      refine ⟨s, by rw [e, if_pos q, h1], ?_, fun t ht => ?_⟩
      · rcases List.mem_cons.mp h2 with h | h
        · rw [h]
          exact List.mem_cons_of_mem _ (List.mem_cons_self ..)
        · exact List.mem_cons_of_mem _ (List.mem_cons_of_mem _ h)
      · rcases List.mem_cons.mp ht with rfl | ht
        · have := h3 x (List.mem_cons_self ..)
          omega
        · exact h3 t ht
    · obtain ⟨s, h1, h2, h3⟩ := min_sets r b
      have lx : b.length ≤ x.length := by
        by_cases z : x.length = b.length
        · omega
        · rw [lt_len z] at q
          have : ¬ x.length < b.length := fun h => q (decide_eq_true h)
          omega
      refine ⟨s, by rw [e, if_neg q, h1], ?_, fun t ht => ?_⟩
      · rcases List.mem_cons.mp h2 with h | h
        · rw [h]
          exact List.mem_cons_self ..
        · exact List.mem_cons_of_mem _ (List.mem_cons_of_mem _ h)
      · rcases List.mem_cons.mp ht with rfl | ht
        · exact h3 _ (List.mem_cons_self ..)
        · rcases List.mem_cons.mp ht with rfl | ht
          · have := h3 b (List.mem_cons_self ..)
            omega
          · exact h3 t (List.mem_cons_of_mem _ ht)
theorem min_prG (b : List Int) (r : List (List Int)) : ∃ s, b1D .min (.list ((b :: r).map prG)) = some (.val (prG s)) ∧ s ∈ b :: r ∧ ∀ t ∈ b :: r, s.length ≤ t.length := by
  obtain ⟨s, h1, h2, h3⟩ := min_sets r b
  refine ⟨s, ?_, h2, h3⟩
  show minV (prG b :: r.map prG) = _
  unfold minV
  have : (intsD (prG b :: r.map prG)) = none := rfl
  rw [this]
  show (minD (prG b) (r.map prG)).map RV.val = _
  rw [h1]
  rfl
/-- what few_in tells -/
inductive Few (m : Nat) (cs : List (List Int)) (w : List Int) : Option (List Int) → Prop where
  | none : (∀ s ∈ subs cs.length, fuB m cs w s = false) → Few m cs w .none
  | some {s : List Int} : s ∈ subs cs.length → fuB m cs w s = true → (∀ t ∈ subs cs.length, fuB m cs w t = true → s.length ≤ t.length) → Few m cs w (.some s)
def fewD : Option (List Int) → D
  | .none => .none
  | .some s => cm s
theorem num_zero : ∀ m, num (fun _ => false) m = 0
  | 0 => rfl
  | m + 1 => by
    unfold num
    rw [num_zero m]
    rfl
theorem fm_filter {α : Type} (p : α → Bool) (k : α → D) : ∀ l : List α, (l.filterMap fun a => if p a = true then some (k a) else none) = (l.filter p).map k
  | [] => rfl
  | a :: l => by
    cases h : p a with
    | true => rw [List.filterMap_cons_some (b := k a) (by rw [if_pos h]), List.filter_cons_of_pos h, List.map_cons, fm_filter p k l]
    | false => rw [List.filterMap_cons_none (by rw [if_neg (by rw [h]; exact Bool.false_ne_true)]), List.filter_cons_of_neg (by rw [h]; exact Bool.false_ne_true), fm_filter p k l]
theorem prG_gs {s : List Int} {L m : Nat} (hs : s.length ≤ L) (hL : 2 ≤ L) : gsh L (m + 2) (prG s) = true := gs_mk (by simpa using hL) fun x hx => by
  rcases List.mem_cons.mp hx with rfl | hx
  · rfl
  · rw [List.mem_singleton] at hx
    subst hx
    exact cm_gs hs
theorem t_few_in (n : Nat) {m : Nat} {cs : List (List Int)} {w : List Int} (ok : CsOk m cs) (hw : WOk m w) : ∃ r, Few m cs w r ∧ evC fs (n + 3) 14 [.val (cms cs), .val (cm w)] = .ok (.val (fewD r)) [] := by
  have e1 := t_reached n ok.rect ok.m1 hw.len
  have m2 := ok.rect.1
  have e1 : evC fs (n + 2) 13 _ = _ := e1
  rw [u_few_in]
  generalize evC fs (n + 2) = C at *
  generalize hms : (cs.map fun c => ((mark m w c : Nat) : Int)) = ms at *
  have lm : ms.length = cs.length := by rw [← hms, List.length_map]
  have k1 : ((w.map PyData.int).length : Int) = (m : Int) := by rw [List.length_map, hw.len]
  have s1 := shl1 m (by omega)
  obtain ⟨ρ', z, s6, s7, f6, f7, rfl⟩ := forL_at (f := turnF C (.tup (.cons (.name 6) (.cons (.name 7) .nil))) fwB) (fun p : Nat => .tuple [.int ((0 + p : Nat) : Int), .int (ms.getD p 0)]) (List.range ms.length)
    (fun i ρ => ∃ s6 s7, free? (some s6) = true ∧ free? (some s7) = true ∧ ρ = [.val (cms cs), .val (cm w), .own ((subs i).map (prD m cs w)) .mine, .no, .val (.list (ms.map .int)), .val (.int (((2 ^ m : Nat) : Int) - 1)), s6, s7, .no, .no])
    [.val (cms cs), .val (cm w), .own [.tuple [.tuple [], .int 0]] .mine, .no, .val (.list (ms.map .int)), .val (.int (((2 ^ m : Nat) : Int) - 1)), .no, .no, .no, .no] ⟨.no, .no, rfl, rfl, by
      have e : mkS m cs w [] = 0 := num_zero m
      show _ = [_, _, Sl.own [.tuple [.tuple [], .int ((mkS m cs w [] : Nat) : Int)]] .mine, _, _, _, _, _, _, _]
      rw [e]
      rfl⟩ (by
    rintro i p ρ hp ⟨s6, s7, f6, f7, rfl⟩
    have hi : i < ms.length := by
      have := (List.getElem?_eq_some_iff.mp hp).1
      rwa [List.length_range] at this
    have ep : p = i := by
      rw [List.getElem?_range hi] at hp
      exact (Option.some.inj hp).symm
    subst ep
    have hc : cs[p]? = some cs[p] := List.getElem?_eq_getElem (by omega)
    have hm : ms.getD p 0 = ((mark m w cs[p] : Nat) : Int) := by
      have : ms[p]? = some ((mark m w cs[p] : Nat) : Int) := by
        simp only [← hms, List.getElem?_map, hc]
        rfl
      rw [List.getD_eq_getElem?_getD, this]
      rfl
    have hl := ok.l12
    rw [hm, Nat.zero_add]
    exact ⟨_, fw_turn C hc (by omega) _ _ _ _ _ s6 s7 f6 f7, .val (.int (p : Int)), .val (.int ((mark m w cs[p] : Nat) : Int)), rfl, rfl, rfl⟩)
  rw [← enumD_map, List.length_range, lm] at z
  have ls : (subs cs.length).length ≤ 4096 := by
    rw [subs_len]
    exact Nat.pow_le_pow_right (n := 2) (by decide) ok.l12
  have q : compAll [8, 9] (itemIfF C (.tup (.cons (.b1 .len (.var 8)) (.cons (.var 8) .nil))) (.tup (.cons (.name 8) (.cons (.name 9) .nil))) (.cmp .eq (.var 9) (.var 5))) ((subs cs.length).map (prD m cs w)) [2] [.val (cms cs), .val (cm w), .own ((subs cs.length).map (prD m cs w)) .lockM, .no, .val (.list (ms.map .int)), .val (.int (((2 ^ m : Nat) : Int) - 1)), s6, s7, .no, .no] =
      .ok (.tmp (((subs cs.length).filter (fuB m cs w)).map prG)) [.val (cms cs), .val (cm w), .own ((subs cs.length).map (prD m cs w)) .mine, .no, .val (.list (ms.map .int)), .val (.int (((2 ^ m : Nat) : Int) - 1)), s6, s7, .no, .no] := by
    rw [← fm_filter]
    unfold compAll
    rw [if_pos (show fits ((subs cs.length).map (prD m cs w)).length = true from decide_eq_true (by rw [List.length_map]; omega)), compL_of (c := prD m cs w) (k := fun s => if fuB m cs w s = true then some (prG s) else none)]
    · rfl
    · intro s hs
      have pw : (((2 ^ m : Nat) : Int) - 1) = (((2 ^ m - 1 : Nat)) : Int) := by
        have : 1 ≤ 2 ^ m := Nat.one_le_two_pow
        omega
      have z1 := eq_ii ((mkS m cs w s : Nat) : Int) (((2 ^ m : Nat) : Int) - 1)
      have z2 : decide (((mkS m cs w s : Nat) : Int) = ((2 ^ m : Nat) : Int) - 1) = fuB m cs w s := by
        unfold fuB
        rw [pw]
        by_cases q : mkS m cs w s = 2 ^ m - 1
        · rw [decide_eq_true q, decide_eq_true (by rw [q])]
        · rw [decide_eq_false q, decide_eq_false (show ¬ ((mkS m cs w s : Nat) : Int) = ((2 ^ m - 1 : Nat) : Int) from fun h => q (Int.ofNat.inj h))]
      rw [z2] at z1
      have k2 : ((s.map PyData.int).length : Int) = (s.length : Int) := by rw [List.length_map]
      unfold prD prG cm
      cases hb : fuB m cs w s with
      | true =>
        rw [hb] at z1
        rw [if_pos rfl]
        exists z1, k2
      | false =>
        rw [hb] at z1
        rw [if_neg Bool.false_ne_true]
        exists z1
  have gl := neS_nil (L := 4096) (m := 2) (xs := ((subs cs.length).filter (fuB m cs w)).map prG) (fun x hx => by
    obtain ⟨s, hs, rfl⟩ := List.mem_map.mp hx
    have := (subs_ok _ s (List.mem_filter.mp hs).1).2.2
    have := ok.l12
    exact prG_gs (by omega) (by omega)) (by
      rw [List.length_map]
      exact Nat.le_trans (List.length_filter_le ..) ls) (by omega)
  unfold fwB at z
  unfold b_few_in
  cases hg : (subs cs.length).filter (fuB m cs w) with
  | nil =>
    refine ⟨.none, .none fun s hs => ?_, ?_⟩
    · cases hb : fuB m cs w s with
      | false => rfl
      | true =>
        have : s ∈ (subs cs.length).filter (fuB m cs w) := List.mem_filter.mpr ⟨hs, hb⟩
        rw [hg] at this
        cases this
    · rw [hg] at q gl
      have gl : cmpD .ne (.list (([] : List (List Int)).map prG)) (.list []) = some false := gl
      generalize (subs cs.length).map (prD m cs w) = ss at *
      unfold cms cm at *
      exists e1, k1, s1, z, q, gl, fewD
  | cons b r =>
    obtain ⟨s, h1, h2, h3⟩ := min_prG b r
    rw [hg] at q gl
    have gl : cmpD .ne (.list ((b :: r).map prG)) (.list []) = some true := gl
    have hin : ∀ t, t ∈ b :: r ↔ t ∈ subs cs.length ∧ fuB m cs w t = true := fun t => by rw [← hg, List.mem_filter]
    refine ⟨.some s, .some ((hin s).mp h2).1 ((hin s).mp h2).2 fun t ht hb => h3 t ((hin t).mpr ⟨ht, hb⟩), ?_⟩
    have i1 : idxD (prG s) (.int 1) = some (cm s) := rfl
    generalize (subs cs.length).map (prD m cs w) = ss at *
    generalize (b :: r).map prG = gg at *
    unfold cms at *
    unfold cm at *
    exists e1, k1, s1, z, q, gl, h1, i1, fewD, cm
/-! the plain law of followers -/
theorem mn_spec {l : List Int} (h : l ≠ []) : mn l ∈ l ∧ ∀ y ∈ l, mn l ≤ y := minL_spec (mn_min l h)
theorem mx_spec {l : List Int} (h : l ≠ []) : mx l ∈ l ∧ ∀ y ∈ l, y ≤ mx l := maxL_spec (mx_max l h)
theorem sc_le {w c : List Int} {p : Nat} (h1 : p < w.length) (h2 : p < c.length) : c.getD p 0 + sc w c ≤ w.getD p 0 := by
  have hm : w.getD p 0 - c.getD p 0 ∈ (w.zip c).map fun q => q.1 - q.2 := by
    refine List.mem_map.mpr ⟨(w[p], c[p]), ?_, ?_⟩
    · rw [List.mem_iff_getElem?]
      exact ⟨p, by rw [List.getElem?_zip_eq_some]; exact ⟨List.getElem?_eq_getElem h1, List.getElem?_eq_getElem h2⟩⟩
    · simp only [List.getD_eq_getElem?_getD, List.getElem?_eq_getElem h1, List.getElem?_eq_getElem h2, Option.getD_some]
  have := (mn_spec (l := (w.zip c).map fun q => q.1 - q.2) (fun h => by rw [h] at hm; cases hm)).2 _ hm
  unfold sc
  omega
/-- each place is reached -/
def Cov (m : Nat) (w : List Int) (P : List (List Int)) : Prop := ∀ p, p < m → ∃ c ∈ P, rch w c p = true
theorem fol_gr (m : Nat) (P : List (List Int)) (w : List Int) : fol m P (gr P w) = (List.range m).map fun p => mx (P.map fun c => c.getD p 0 + sc w c) := by
  unfold fol
  rw [show gr P w = P.map (sc w) from rfl, zip_map_self]
  refine List.map_congr_left fun p _ => ?_
  rw [List.map_map]
  rfl
theorem fol_at {m : Nat} {P : List (List Int)} {w : List Int} {p : Nat} (hp : p < m) : (fol m P (gr P w)).getD p 0 = mx (P.map fun c => c.getD p 0 + sc w c) := by
  rw [fol_gr, List.getD_eq_getElem?_getD, List.getElem?_map, List.getElem?_range hp]
  rfl
section
variable {m : Nat} {P : List (List Int)} {w : List Int} (hw : w.length = m) (ne : P ≠ []) (ln : ∀ c ∈ P, c.length = m)
include hw ne ln
theorem fol_le {p : Nat} (hp : p < m) : (fol m P (gr P w)).getD p 0 ≤ w.getD p 0 ∧ ((fol m P (gr P w)).getD p 0 = w.getD p 0 ↔ ∃ c ∈ P, rch w c p = true) := by
  rw [fol_at hp]
  have hn : (P.map fun c => c.getD p 0 + sc w c) ≠ [] := by simpa using ne
  obtain ⟨h1, h2⟩ := mx_spec hn
  obtain ⟨c, hc, e⟩ := List.mem_map.mp h1
  have l := sc_le (w := w) (c := c) (p := p) (by omega) (by rw [ln c hc]; exact hp)
  refine ⟨by omega, fun h => ⟨c, hc, decide_eq_true (by omega)⟩, fun ⟨d, hd, q⟩ => ?_⟩
  have q := of_decide_eq_true q
  have := h2 _ (List.mem_map.mpr ⟨d, hd, rfl⟩)
  omega
theorem fol_iff : fol m P (gr P w) = w ↔ Cov m w P := by
  constructor
  · intro h p hp
    refine (fol_le hw ne ln hp).2.mp ?_
    rw [h]
  · intro h
    refine List.ext_getElem? fun p => ?_
    by_cases hp : p < m
    · have e := (fol_le hw ne ln hp).2.mpr (h p hp)
      have l1 : p < (fol m P (gr P w)).length := by rw [fol_len]; exact hp
      have l2 : p < w.length := by omega
      simp only [List.getD_eq_getElem?_getD, List.getElem?_eq_getElem l1, List.getElem?_eq_getElem l2, Option.getD_some] at e
      rw [List.getElem?_eq_getElem l1, List.getElem?_eq_getElem l2, e]
    · rw [List.getElem?_eq_none (by rw [fol_len]; omega), List.getElem?_eq_none (by omega)]
theorem pls_iff : pls m (fol m P (gr P w)) w = [] ↔ fol m P (gr P w) = w := by
  rw [fol_iff hw ne ln]
  unfold pls
  rw [List.filter_eq_nil_iff]
  constructor
  · intro h p hp
    have a := h p (List.mem_range.mpr hp)
    obtain ⟨b, c⟩ := fol_le hw ne ln hp
    refine c.mp ?_
    have : ¬ (fol m P (gr P w)).getD p 0 < w.getD p 0 := fun z => a (decide_eq_true z)
    omega
  · intro h p hp z
    have z := of_decide_eq_true z
    have hp := List.mem_range.mp hp
    have := (fol_le hw ne ln hp).2.mpr (h p hp)
    omega
end
section
variable {m : Nat} {cs : List (List Int)} (ok : CsOk m cs) {w : List Int} (hw : WOk m w)
include ok hw
theorem fu_cov {s : List Int} : fuB m cs w s = true ↔ Cov m w (pick cs s) := by
  unfold fuB
  rw [decide_eq_true_iff]
  unfold mkS
  rw [num_full]
  unfold Cov pick
  refine forall_congr' fun p => forall_congr' fun hp => ?_
  rw [List.any_eq_true]
  constructor
  · rintro ⟨a, ha, h⟩
    exact ⟨_, List.mem_map.mpr ⟨a, ha, rfl⟩, h⟩
  · rintro ⟨c, hc, h⟩
    obtain ⟨a, ha, rfl⟩ := List.mem_map.mp hc
    exact ⟨a, ha, h⟩
theorem do_fu {s : List Int} (hs : s ∈ subs cs.length) : doB m cs w (cm s) = fuB m cs w s := by
  obtain ⟨h1, h2, h3⟩ := subs_ok _ s hs
  have hin : inB cs.length (cm s) = true := List.all_eq_true.mpr fun x hx => by
    obtain ⟨v, hv, rfl⟩ := List.mem_map.mp hx
    have := h1 v hv
    exact isW_int (by omega)
  rw [doB_cm, hin, (asc_pw s).mpr h2, Bool.true_and, Bool.true_and]
  by_cases q : s = []
  · subst q
    have : fuB m cs w [] = false := by
      cases h : fuB m cs w [] with
      | false => rfl
      | true =>
        obtain ⟨c, hc, _⟩ := (fu_cov ok hw).mp h 0 ok.m1
        cases hc
    rw [this]
    rfl
  · rw [decide_eq_true q, Bool.true_and]
    have rc := pick_rect ok.rect (ns := s) (fun v hv => by have := h1 v hv; omega) q (by have := ok.l12; omega)
    have f := fol_iff hw.len rc.2.2.1 rc.2.2.2
    unfold good
    cases h : fuB m cs w s with
    | true => exact decide_eq_true (f.mpr ((fu_cov ok hw).mp h))
    | false =>
      refine decide_eq_false fun z => ?_
      rw [(fu_cov ok hw).mpr (f.mp z)] at h
      cases h
def allS (n : Nat) : List Int := (List.range n).map fun i : Nat => (i : Int)
omit ok hw in
theorem allS_mem (n : Nat) : allS n ∈ subs n := by
  refine subs_all n _ (fun v hv => ?_) ?_
  · obtain ⟨i, hi, rfl⟩ := List.mem_map.mp hv
    have := List.mem_range.mp hi
    omega
  · unfold allS
    rw [List.pairwise_map]
    exact List.Pairwise.imp (fun h => by omega) List.pairwise_lt_range
omit ok hw in
theorem pick_all : pick cs (allS cs.length) = cs := by
  unfold pick allS
  rw [List.map_map]
  refine List.ext_getElem? fun i => ?_
  rw [List.getElem?_map]
  by_cases h : i < cs.length
  · rw [List.getElem?_range h, List.getElem?_eq_getElem h]
    show some (cs.getD ((i : Int)).toNat []) = _
    rw [Int.toNat_natCast, List.getD_eq_getElem?_getD, List.getElem?_eq_getElem h]
    rfl
  · rw [List.getElem?_eq_none (by rw [List.length_range]; omega), List.getElem?_eq_none (by omega)]
    rfl
omit hw in
theorem pick_sub {s : List Int} (hs : s ∈ subs cs.length) : ∀ c ∈ pick cs s, c ∈ cs := fun c hc => by
  obtain ⟨a, ha, rfl⟩ := List.mem_map.mp hc
  have := (subs_ok _ s hs).1 a ha
  exact (pick_at (cs := cs) (by omega)).2
theorem few_iff {r : Option (List Int)} (f : Few m cs w r) : r = none ↔ ¬ fol m cs (gr cs w) = w := by
  have ci := fol_iff hw.len ok.rect.2.2.1 ok.rect.2.2.2
  cases f with
  | none h =>
    refine ⟨fun _ z => ?_, fun _ => rfl⟩
    have := h _ (allS_mem cs.length)
    rw [(fu_cov ok hw).mpr (by rw [pick_all]; exact ci.mp z)] at this
    cases this
  | some hs hb _ =>
    refine ⟨fun h => (nomatch h), fun z => absurd (ci.mpr fun p hp => ?_) z⟩
    obtain ⟨c, hc, h⟩ := (fu_cov ok hw).mp hb p hp
    exact ⟨c, pick_sub ok hs c hc, h⟩
end
/-! fewest_cams, few_set, the law's fewest -/
def lenD : Option (List Int) → D
  | .none => .none
  | .some s => .int (s.length : Int)
theorem isnn_cm (s : List Int) : cmpD .isnN (cm s) .none = some true := id rfl
theorem isnn_none : cmpD .isnN .none .none = some false := id rfl
section
variable {m : Nat} {cs : List (List Int)} (ok : CsOk m cs) {w : List Int} (hw : WOk m w)
include ok hw
theorem t_fewest (n : Nat) : ∃ r, Few m cs w r ∧ evC fs (n + 7) 22 [.val (cms cs), .val (cm w)] = .ok (.val (lenD r)) [] ∧ evC fs (n + 7) 23 [.val (cms cs), .val (cm w)] = .ok (.val (fewD r)) [] := by
  have e1 := t_need_wish ok hw n
  obtain ⟨r, hr, e2⟩ := t_few_in (n + 3) ok hw
  have e2 : evC fs (n + 6) 14 _ = _ := e2
  refine ⟨r, hr, ?_, ?_⟩
  · rw [u_fewest_cams]
    unfold b_fewest_cams
    generalize evC fs (n + 6) = C at *
    cases r with
    | none => exists e1, e2, fewD, isnn_none, lenD
    | some s =>
      have z := isnn_cm s
      have k0 : ((s.map PyData.int).length : Int) = (s.length : Int) := by rw [List.length_map]
      have e2 : C 14 [.val (cms cs), .val (cm w)] = .ok (.val (cm s)) [] := e2
      unfold cm at *
      exists e1, e2, z, k0, lenD
  · rw [u_few_set]
    unfold b_few_set
    generalize evC fs (n + 6) = C at *
    exists e1, e2
def lo (l : List Int) : D := if l = [] then .none else .int (mn l)
omit ok hw in
theorem mn_snoc (x : Int) : ∀ l : List Int, l ≠ [] → mn (l ++ [x]) = if x < mn l then x else mn l
  | [], h => absurd rfl h
  | [a], _ => by
    show (if a ≤ x then a else x) = if x < a then x else a
    split <;> split <;> omega
  | a :: b :: r, _ => by
    have ih := mn_snoc x (b :: r) (by simp)
    have e1 : mn (a :: b :: r ++ [x]) = if a ≤ mn (b :: r ++ [x]) then a else mn (b :: r ++ [x]) := by
      unfold mn
      show ((minL (b :: r ++ [x])).map _).getD 0 = _
      rw [mn_min (b :: r ++ [x]) (by simp)]
      rfl
    have e2 : mn (a :: b :: r) = if a ≤ mn (b :: r) then a else mn (b :: r) := by
      unfold mn
      show ((minL (b :: r)).map _).getD 0 = _
      rw [mn_min (b :: r) (by simp)]
      rfl
    rw [e1, e2, ih]
    generalize mn (b :: r) = k
    repeat' split
    all_goals omega
omit ok hw in
theorem b2min (i j : Int) : b2D .min (.int i) (.int j) = some (.int (if j < i then j else i)) := id rfl
def bl (m : Nat) (cs : List (List Int)) (w : List Int) (l : List (List Int)) : List Int := (l.filter (fuB m cs w)).map fun s => (s.length : Int)
def lfA : IS := (.seq (.asg 4 (.bin .add (.var 4) (.comp (.bin .add (.var 3) (.tup (.cons (.var 2) .nil))) (.name 3) (.seq (.var 4)))))
   .skip)
def lfB : IS := (.seq (.ite (.call 37 (.cons (.var 0) (.cons (.var 1) (.cons (.var 3) .nil))))
     (.seq (.asg 5 (.ite (.cmp .isN (.var 5) (.lit .none)) (.b1 .len (.var 3)) (.b2 .min (.var 5) (.b1 .len (.var 3)))))
     .skip)
     .skip)
   .skip)
omit ok hw in
theorem lfA_turn (C : Nat → List Wk.Arg → RC) (i : Nat) (hi : i < 12) (s0 s1 s2 s5 : Sl) (f2 : free? (some s2) = true) :
    turnF C (.name 2) lfA (.int (i : Int)) [s0, s1, s2, .no, .own ((subs i).map cm) .mine, s5] = .ok .nx [s0, s1, .val (.int (i : Int)), .no, .own ((subs (i + 1)).map cm) .mine, s5] := by
  have ls : (subs i).length ≤ 4096 := by
    rw [subs_len]
    exact Nat.pow_le_pow_right (n := 2) (by decide) (show i ≤ 12 by omega)
  have q : compAll [3] (itemF C (.bin .add (.var 3) (.tup (.cons (.var 2) .nil))) (.name 3)) ((subs i).map cm) [4] [s0, s1, .val (.int (i : Int)), .no, .own ((subs i).map cm) .lockM, s5] =
      .ok (.tmp ((subs i).map fun s => cm (s ++ [(i : Int)]))) [s0, s1, .val (.int (i : Int)), .no, .own ((subs i).map cm) .mine, s5] := by
    rw [compAll_ofL (k := fun s => cm (s ++ [(i : Int)])) (by omega)]
    · rfl
    · intro s hs
      have l := (subs_ok i s hs).2.2
      have ft2 : fits ((s.map PyData.int).length + (0 + 1)) = true := decide_eq_true (by rw [List.length_map]; omega)
      have ft : fits (s.length + 1) = true := decide_eq_true (by omega)
      have ap : s.map PyData.int ++ [.int (i : Int)] = (s ++ [(i : Int)]).map .int := by
        rw [List.map_append]
        rfl
      unfold cm
      generalize (s ++ [(i : Int)]).map PyData.int = s2 at *
      exists ft2, ft, ap
  have ft : fits (((subs i).map cm).length + ((subs i).map fun s => cm (s ++ [(i : Int)])).length) = true := decide_eq_true (by rw [List.length_map, List.length_map]; omega)
  have ap : (subs i).map cm ++ (subs i).map (fun s => cm (s ++ [(i : Int)])) = (subs (i + 1)).map cm := by
    show _ = (subs i ++ (subs i).map fun s => s ++ [(i : Int)]).map cm
    rw [List.map_append, List.map_map]
    rfl
  generalize (subs i).map cm = A at *
  generalize ((subs i).map fun s => cm (s ++ [(i : Int)])) = B at *
  generalize (subs (i + 1)).map cm = A2 at *
  unfold lfA
  exists f2, q, ft, ap
omit ok hw in
theorem lfA_first (C : Nat → List Wk.Arg → RC) (s0 s1 s2 s5 : Sl) (f2 : free? (some s2) = true) :
    turnF C (.name 2) lfA (.int 0) [s0, s1, s2, .no, .val (.list [.tuple []]), s5] = .ok .nx [s0, s1, .val (.int 0), .no, .own ((subs 1).map cm) .mine, s5] := by
  have q : compAll [3] (itemF C (.bin .add (.var 3) (.tup (.cons (.var 2) .nil))) (.name 3)) [.tuple []] [] [s0, s1, .val (.int 0), .no, .val (.list [.tuple []]), s5] =
      .ok (.tmp [.tuple [.int 0]]) [s0, s1, .val (.int 0), .no, .val (.list [.tuple []]), s5] := rfl
  have ft : fits (0 + 1 + (0 + 1)) = true := decide_eq_true (by omega)
  have ap : (subs 1).map cm = [.tuple [], .tuple [.int 0]] := rfl
  rw [ap]
  unfold lfA
  exists f2, q, ft
theorem lfB_turn (n : Nat) {s : List Int} (hs : s ∈ subs cs.length) (pre : List (List Int)) (s2 s3 s4 : Sl) (f3 : free? (some s3) = true) :
    turnF (evC fs (n + 3)) (.name 3) lfB (cm s) [.val (cms cs), .val (cm w), s2, s3, s4, .val (lo (bl m cs w pre))] = .ok .nx [.val (cms cs), .val (cm w), s2, .val (cm s), s4, .val (lo (bl m cs w (pre ++ [s])))] := by
  have l := (subs_ok _ s hs).2.2
  have e1 := t_ldoes ok hw n (cm s) (cm_gs (L := 60) (m := 0) (by have := ok.l12; omega)) (Nat.le_refl _) (by omega)
  rw [do_fu ok hw hs] at e1
  have k0 : ((s.map PyData.int).length : Int) = (s.length : Int) := by rw [List.length_map]
  have hb : bl m cs w (pre ++ [s]) = if fuB m cs w s = true then bl m cs w pre ++ [(s.length : Int)] else bl m cs w pre := by
    unfold bl
    rw [List.filter_append, List.map_append]
    cases h : fuB m cs w s with
    | true => rw [List.filter_cons_of_pos h, if_pos rfl]; rfl
    | false =>
      rw [List.filter_cons_of_neg (by rw [h]; exact Bool.false_ne_true), if_neg Bool.false_ne_true, List.filter_nil, List.map_nil, List.append_nil]
  rw [hb]
  generalize bl m cs w pre = B at *
  generalize evC fs (n + 3) = C at *
  unfold lfB
  cases h : fuB m cs w s with
  | false =>
    rw [h] at e1
    rw [if_neg Bool.false_ne_true]
    generalize lo B = L at *
    unfold cms cm at *
    exists f3, e1
  | true =>
    rw [h] at e1
    rw [if_pos rfl]
    by_cases q : B = []
    · have e2 : lo B = .none := if_pos q
      have e3 : lo (B ++ [(s.length : Int)]) = .int (s.length : Int) := by
        rw [q]
        exact if_neg (by simp)
      rw [e2, e3]
      unfold cms cm at *
      exists f3, e1, k0
    · have e2 : lo B = .int (mn B) := if_neg q
      have e3 : lo (B ++ [(s.length : Int)]) = .int (if (s.length : Int) < mn B then (s.length : Int) else mn B) := by
        rw [show lo (B ++ [(s.length : Int)]) = .int (mn (B ++ [(s.length : Int)])) from if_neg (by simp), mn_snoc _ B q]
      rw [e2, e3]
      generalize mn B = k at *
      unfold cms cm at *
      exists f3, e1, k0, b2min
theorem t_lfew (n : Nat) {r : Option (List Int)} (f : Few m cs w r) : evC fs (n + 4) 40 [.val (cms cs), .val (cm w)] = .ok (.val (lenD r)) [] := by
  have l12 := ok.l12
  have hlen : (cs.map cm).length = cs.length := List.length_map ..
  obtain ⟨ρ1, z1, s2, f2, rfl⟩ := forL_at (f := turnF (evC fs (n + 3)) (.name 2) lfA) (fun p : Nat => PyData.int (p : Int)) (List.range cs.length)
    (fun i ρ => ∃ s2, free? (some s2) = true ∧ ρ = [.val (cms cs), .val (cm w), s2, .no, (if i = 0 then .val (.list [.tuple []]) else .own ((subs i).map cm) .mine), .val .none])
    [.val (cms cs), .val (cm w), .no, .no, .val (.list [.tuple []]), .val .none] ⟨.no, rfl, rfl⟩ (by
    rintro i p ρ hp ⟨s2, f2, rfl⟩
    have hi : i < cs.length := by
      have := (List.getElem?_eq_some_iff.mp hp).1
      rwa [List.length_range] at this
    have ep : p = i := by
      rw [List.getElem?_range hi] at hp
      exact (Option.some.inj hp).symm
    subst ep
    rw [if_neg (Nat.succ_ne_zero p)]
    by_cases h0 : p = 0
    · subst h0
      rw [if_pos rfl]
      exact ⟨_, lfA_first _ _ _ s2 _ f2, .val (.int 0), rfl, rfl⟩
    · rw [if_neg h0]
      exact ⟨_, lfA_turn _ p (by omega) _ _ s2 _ f2, .val (.int (p : Int)), rfl, rfl⟩)
  have ncs : cs.length ≠ 0 := fun h => ok.rect.2.2.1 (List.eq_nil_of_length_eq_zero h)
  rw [List.length_range, if_neg ncs] at z1
  obtain ⟨ρ2, z2, s3, f3, rfl⟩ := forL_at (f := turnF (evC fs (n + 3)) (.name 3) lfB) cm ((subs cs.length).drop 1)
    (fun i ρ => ∃ s3, free? (some s3) = true ∧ ρ = [.val (cms cs), .val (cm w), s2, s3, .own ((subs cs.length).map cm) .mine, .val (lo (bl m cs w (((subs cs.length).drop 1).take i)))])
    [.val (cms cs), .val (cm w), s2, .no, .own ((subs cs.length).map cm) .mine, .val .none] ⟨.no, rfl, rfl⟩ (by
    rintro i s ρ hi ⟨s3, f3, rfl⟩
    have hs : s ∈ subs cs.length := List.mem_of_mem_drop (List.mem_of_getElem? hi)
    refine ⟨_, lfB_turn ok hw n hs _ s2 s3 _ f3, .val (cm s), rfl, ?_⟩
    rw [take_at hi])
  rw [List.take_length] at z2
  have rg : ∀ ρ, rg1 (cs.length : Int) ρ = .ok ((List.range cs.length).map fun p : Nat => PyData.int (p : Int), []) ρ := rg1_at cs.length (by omega)
  have sd : slV 1 (.list ((subs cs.length).map cm)) = some (.tmp (((subs cs.length).drop 1).map cm)) := by
    show some (RV.tmp (cutL _ (some 1) none)) = _
    unfold cutL HT.sIx
    have l1 : 1 ≤ ((subs cs.length).map cm).length := by
      rw [List.length_map, subs_len]
      exact Nat.one_le_two_pow
    simp only [if_neg (show ¬ (1 : Int) < 0 by omega)]
    rw [Nat.min_eq_left (show (1 : Int).toNat ≤ _ from l1), List.take_of_length_le (by rw [List.length_drop]; exact Nat.le_refl _), List.map_drop]
    rfl
  -- the least
  have same : lo (bl m cs w ((subs cs.length).drop 1)) = lenD r := by
    have mem : ∀ s, s ∈ subs cs.length → fuB m cs w s = true → s ∈ (subs cs.length).drop 1 := fun s hs hb => by
      obtain ⟨t, ht⟩ := subs_head cs.length
      rw [ht] at hs ⊢
      rcases List.mem_cons.mp hs with h | h
      · subst h
        obtain ⟨c, hc, _⟩ := (fu_cov ok hw).mp hb 0 ok.m1
        cases hc
      · exact h
    have inb : ∀ x, x ∈ bl m cs w ((subs cs.length).drop 1) ↔ ∃ s, s ∈ subs cs.length ∧ fuB m cs w s = true ∧ x = (s.length : Int) := fun x => by
      unfold bl
      rw [List.mem_map]
      constructor
      · rintro ⟨s, hs, rfl⟩
        obtain ⟨h1, h2⟩ := List.mem_filter.mp hs
        exact ⟨s, List.mem_of_mem_drop h1, h2, rfl⟩
      · rintro ⟨s, h1, h2, rfl⟩
        exact ⟨s, List.mem_filter.mpr ⟨mem s h1 h2, h2⟩, rfl⟩
    cases f with
    | none h =>
      refine if_pos ?_
      cases hB : bl m cs w ((subs cs.length).drop 1) with
      | nil => rfl
      | cons x l =>
        obtain ⟨s, h1, h2, _⟩ := (inb x).mp (by rw [hB]; exact List.mem_cons_self ..)
        rw [h s h1] at h2
        cases h2
    | some hs hb hm =>
      rename_i s
      have hx := (inb (s.length : Int)).mpr ⟨s, hs, hb, rfl⟩
      have ne : bl m cs w ((subs cs.length).drop 1) ≠ [] := fun h => by rw [h] at hx; cases hx
      obtain ⟨g1, g2⟩ := mn_spec ne
      obtain ⟨t, t1, t2, t3⟩ := (inb _).mp g1
      have a := g2 _ hx
      have b := hm t t1 t2
      show (if _ then _ else _) = PyData.int (s.length : Int)
      rw [if_neg ne]
      congr 1
      omega
  rw [same] at z2
  have hcl : ((cs.map cm).length : Int) = (cs.length : Int) := by rw [List.length_map]
  unfold lfA at z1
  unfold lfB at z2
  rw [u__law_few]
  unfold b__law_few
  generalize evC fs (n + 3) = C at *
  generalize (subs cs.length).map cm = S1 at *
  generalize ((subs cs.length).drop 1).map cm = S2 at *
  unfold cms at *
  cases r with
  | none => exists hcl, rg, z1, sd, z2, lenD
  | some s => exists hcl, rg, z1, sd, z2, lenD
end
/-! are_cams -/
theorem t_are_cams (n : Nat) {L m : Nat} (d : D) (h : gsh L m d = true) (hL : L ≤ 16777216) : evC fs (n + 5) 15 [.val d] = .ok (.val (.bool (csB d))) [] := by
  have e1 := t_together n d h hL
  rw [u_are_cams]
  unfold b_are_cams
  generalize evC fs (n + 4) = C at *
  exists e1
theorem forL_all {f : D → Fm → R Fl} (P : Fm → Prop) (p : D → Bool) (v : RV) : ∀ (xs : List D) (ρ : Fm), P ρ → (∀ x ∈ xs, ∀ ρ, P ρ → (p x = true → ∃ ρ', f x ρ = .ok .nx ρ' ∧ P ρ') ∧ (p x = false → ∃ ρ', f x ρ = .ok (.ret v) ρ' ∧ P ρ')) →
    (xs.all p = true → ∃ ρ', forL f xs ρ = .ok .nx ρ' ∧ P ρ') ∧ (xs.all p = false → ∃ ρ', forL f xs ρ = .ok (.ret v) ρ' ∧ P ρ')
  | [], ρ, h, _ => ⟨fun _ => ⟨ρ, rfl, h⟩, fun h => nomatch h⟩
  | x :: xs, ρ, h, t => by
    have t0 := t x (List.mem_cons_self ..) ρ h
    cases hp : p x with
    | true =>
      obtain ⟨ρ1, e1, h1⟩ := t0.1 hp
      have ih := forL_all P p v xs ρ1 h1 fun y hy => t y (List.mem_cons_of_mem _ hy)
      rw [List.all_cons, hp, Bool.true_and]
      rw [fl_cons, e1, k_fl_nx]
      exact ih
    | false =>
      obtain ⟨ρ1, e1, h1⟩ := t0.2 hp
      rw [List.all_cons, hp, Bool.false_and]
      rw [fl_cons, e1, k_fl_ret]
      exact ⟨(fun h => nomatch h), fun _ => ⟨ρ1, rfl, h1⟩⟩
def tbB : D → Bool
  | .tuple ys => decide (1 ≤ (ys.length : Int)) && decide ((ys.length : Int) ≤ 60)
  | _ => false
def wsA (d : D) : Bool := match d with
  | .tuple ys => ys.all fun x => isW x (-1000000) 1000000
  | _ => false
theorem camB_split (d : D) : camB d = (tbB d && wsA d) := by
  cases d <;> rfl
def lcI : IE := .or (.cons (.cmp .ne (.call 28 (.cons (.var 1) .nil)) (.lit (.int 4))) (.cons (.not (.cmp2 .le .le (.lit (.int 1)) (.b1 .len (.var 1)) (.lit (.int 60)))) .nil))
theorem le2 (a b c : Int) : (decide (a ≤ b) && decide (b ≤ c)) = true ∨ (decide (a ≤ b) = true ∧ decide (b ≤ c) = false) ∨ decide (a ≤ b) = false := by
  cases h : decide (a ≤ b) <;> cases h2 : decide (b ≤ c) <;> simp
theorem lc_first (n : Nat) (d x : D) (hx : ∀ z, x ≠ .dict z) : backR [.val d, .no, .no] [1] (itemIfF (evC fs (n + 2)) (.lit (.int 1)) (.name 1) lcI x (wipeF [.val d, .no, .no] [1])) = .ok (oneIf tbB x) [.val d, .no, .no] := by
  have e0 : evC fs (n + 2) 28 _ = _ := t_sort (n + 1) x hx
  generalize evC fs (n + 2) = C at *
  unfold lcI
  cases x with
  | tuple ys =>
    have e0 : C 28 [.val (.tuple ys)] = .ok (.val (.int 4)) [] := e0
    have eB : tbB (.tuple ys) = (decide (1 ≤ (ys.length : Int)) && decide ((ys.length : Int) ≤ 60)) := rfl
    rcases le2 1 (ys.length : Int) 60 with h | ⟨h1, h2⟩ | h1
    · rw [h] at eB
      obtain ⟨h1, h2⟩ := Bool.and_eq_true_iff.mp h
      rw [oneIf_t eB]
      exists e0, so_4, h1, h2
    · rw [h1, h2] at eB
      rw [oneIf_f eB]
      exists e0, so_4, h1, h2
    · rw [h1, Bool.false_and] at eB
      rw [oneIf_f eB]
      exists e0, so_4, h1
  | dict z => exact absurd rfl (hx z)
  | _ =>
    rw [oneIf_f (p := tbB) rfl]
    exists e0, sortOf, so_0, so_1, so_2, so_3, so_5
def lcB : IS := (.seq (.ite (.or (.cons (.cmp .ne (.b1 .len (.var 1)) (.b1 .len (.idx (.var 0) (.lit (.int 0))))) (.cons (.cmp .ne (.compIf (.lit (.int 1)) (.name 2) (.seq (.var 1)) (.not (.call 32 (.cons (.var 2) (.cons (.neg (.lit (.int 1000000))) (.cons (.lit (.int 1000000)) .nil)))))) (.lst .nil)) .nil)))
     (.seq (.ret (.lit (.bool false)))
     .skip)
     .skip)
   .skip)
theorem lc_turn (n : Nat) {L k : Nat} (hL : L ≤ 1000) (xs : List D) (ys y0 : List D) (hy : gsh L k (.tuple ys) = true) (a0 : L2.atI xs 0 = some (.tuple y0)) (s1 : Sl) (f1 : free? (some s1) = true) :
    turnF (evC fs (n + 2)) (.name 1) lcB (.tuple ys) [.val (.tuple xs), s1, .no] = .ok (if (decide (lenT (.tuple ys) = lenT (.tuple y0)) && wsA (.tuple ys)) = true then .nx else .ret (.val (.bool false))) [.val (.tuple xs), .val (.tuple ys), .no] := by
  obtain ⟨k', rfl, hl, hx⟩ := gs_tup hy
  have e2 : ∀ x ∈ ys, evC fs (n + 2) 32 [.val x, .val (.int (-1000000)), .val (.int 1000000)] = _ := fun x hx0 => t_whole n x (-1000000) 1000000 (gs_nd (hx x hx0))
  have c1 := compAll_x (own := [2]) (f := itemIfF (evC fs (n + 2)) (.lit (.int 1)) (.name 2) (.not (.call 32 (.cons (.var 2) (.cons (.neg (.lit (.int 1000000))) (.cons (.lit (.int 1000000)) .nil)))))) (xs := ys) (oneIf fun x => isW x (-1000000) 1000000) (ρ := [.val (.tuple xs), .val (.tuple ys), .no]) (by omega) (fun x hx0 => by
    have e2 := e2 x hx0
    generalize evC fs (n + 2) = C at *
    cases hb : isW x (-1000000) 1000000 with
    | true =>
      rw [hb] at e2
      rw [oneIf_t (p := fun x => isW x (-1000000) 1000000) hb]
      exists e2
    | false =>
      rw [hb] at e2
      rw [oneIf_f (p := fun x => isW x (-1000000) 1000000) hb]
      exists e2)
  have z2 := bad_list (fun x => isW x (-1000000) 1000000) ys (by omega)
  have z1 := ne_ii (ys.length : Int) (y0.length : Int)
  have eW : wsA (.tuple ys) = ys.all fun x => isW x (-1000000) 1000000 := rfl
  have eL : decide (lenT (.tuple ys) = lenT (.tuple y0)) = decide ((ys.length : Int) = (y0.length : Int)) := rfl
  rw [eL, eW]
  generalize decide ((ys.length : Int) = (y0.length : Int)) = b1 at *
  generalize (ys.all fun x => isW x (-1000000) 1000000) = b2 at *
  generalize evC fs (n + 2) = C at *
  unfold lcB
  cases b1 with
  | false =>
    rw [Bool.false_and, if_neg Bool.false_ne_true]
    exists f1, a0, z1
  | true =>
    rw [Bool.true_and]
    cases b2 with
    | false =>
      rw [if_neg Bool.false_ne_true]
      exists f1, a0, z1, c1, z2
    | true =>
      rw [if_pos rfl]
      exists f1, a0, z1, c1, z2
theorem all_and {α : Type} (p q : α → Bool) : ∀ l : List α, (l.all fun x => p x && q x) = (l.all p && l.all q)
  | [] => rfl
  | a :: l => by
    rw [List.all_cons, List.all_cons, List.all_cons, all_and p q l]
    cases p a <;> cases q a <;> simp
theorem t_lare_cams (n : Nat) {L k : Nat} (d : D) (h : gsh L k d = true) (hL : L ≤ 1000) (hk : k ≤ 20) : evC fs (n + 3) 38 [.val d] = .ok (.val (.bool (csB d))) [] := by
  have e0 : evC fs (n + 2) 28 _ = _ := t_sort (n + 1) d (gs_nd h)
  rw [u__law_are_cams]
  unfold b__law_are_cams
  cases d with
  | tuple xs =>
    obtain ⟨k', rfl, hl, hx⟩ := gs_tup h
    have e0 : evC fs (n + 2) 28 [.val (.tuple xs)] = .ok (.val (.int 4)) [] := e0
    have c1 := compAll_x (own := [1]) (f := itemIfF (evC fs (n + 2)) (.lit (.int 1)) (.name 1) lcI) (xs := xs) (oneIf tbB) (ρ := [.val (.tuple xs), .no, .no]) (by omega) (fun x hx0 => lc_first n (.tuple xs) x (gs_nd (hx x hx0)))
    have z2 := bad_list tbB xs (by omega)
    unfold lcI at c1
    cases xs with
    | nil =>
      have e3 : csB (.tuple []) = false := rfl
      have d1 : decide ((1 : Int) ≤ ((0 : Nat) : Int)) = false := rfl
      generalize evC fs (n + 2) = C at *
      exists e0, so_4, d1, e3
    | cons x0 xr =>
      generalize hxs : x0 :: xr = xs at *
      have e3 : csB (.tuple xs) = ((decide ((xs.length : Int) ≤ 12) && xs.all camB) && xs.all fun y => decide (lenT y = lenT x0)) := by
        rw [← hxs]
        rfl
      have d1 : decide ((1 : Int) ≤ (xs.length : Int)) = true := decide_eq_true (by rw [← hxs, List.length_cons]; omega)
      have ec : xs.all camB = (xs.all tbB && xs.all wsA) := by
        rw [← all_and]
        congr 1
        funext y
        exact camB_split y
      rw [ec] at e3
      cases d2 : decide ((xs.length : Int) ≤ 12) with
      | false =>
        rw [d2, Bool.false_and, Bool.false_and] at e3
        generalize evC fs (n + 2) = C at *
        exists e0, so_4, d1, d2, e3
      | true =>
        rw [d2] at e3
        cases hb : xs.all tbB with
        | false =>
          rw [hb] at z2 e3
          have e3 : csB (.tuple xs) = false := by
            rw [e3]
            simp
          generalize evC fs (n + 2) = C at *
          exists e0, so_4, d1, d2, c1, z2, e3
        | true =>
          rw [hb] at z2 e3
          have tup : ∀ x ∈ xs, ∃ ys, x = .tuple ys := fun x hx0 => by
            have := List.all_eq_true.mp hb x hx0
            cases x with
            | tuple ys => exact ⟨ys, rfl⟩
            | _ => cases this
          obtain ⟨y0, hy0⟩ := tup x0 (by rw [← hxs]; exact List.mem_cons_self ..)
          subst hy0
          have a0 : L2.atI xs 0 = some (.tuple y0) := by
            rw [← hxs]
            have := at0 (fun x : D => x) (.tuple y0) xr
            rwa [map_id'] at this
          have lp := forL_all (f := turnF (evC fs (n + 2)) (.name 1) lcB) (fun ρ => ∃ s1, free? (some s1) = true ∧ ρ = [.val (.tuple xs), s1, .no]) (fun y => decide (lenT y = lenT (.tuple y0)) && wsA y) (.val (.bool false)) xs [.val (.tuple xs), .no, .no] ⟨.no, rfl, rfl⟩ (by
            rintro x hx0 ρ ⟨s1, f1, rfl⟩
            obtain ⟨ys, rfl⟩ := tup x hx0
            have t := lc_turn n hL xs ys y0 (hx _ hx0) a0 s1 f1
            refine ⟨fun hp => ?_, fun hp => ?_⟩
            · rw [if_pos hp] at t
              exact ⟨_, t, .val (.tuple ys), rfl, rfl⟩
            · rw [if_neg (by rw [hp]; exact Bool.false_ne_true)] at t
              exact ⟨_, t, .val (.tuple ys), rfl, rfl⟩)
          have e4 : csB (.tuple xs) = xs.all fun y => decide (lenT y = lenT (.tuple y0)) && wsA y := by
            rw [e3, all_and]
            cases xs.all wsA <;> cases (xs.all fun y => decide (lenT y = lenT (.tuple y0))) <;> rfl
          unfold lcB at lp
          cases hq : (xs.all fun y => decide (lenT y = lenT (.tuple y0)) && wsA y) with
          | true =>
            obtain ⟨ρ', z, s1, f1, rfl⟩ := lp.1 hq
            rw [hq] at e4
            generalize evC fs (n + 2) = C at *
            exists e0, so_4, d1, d2, c1, z2, z, e4
          | false =>
            obtain ⟨ρ', z, s1, f1, rfl⟩ := lp.2 hq
            rw [hq] at e4
            generalize evC fs (n + 2) = C at *
            exists e0, so_4, d1, d2, c1, z2, z, e4
  | dict x => exact absurd rfl (gs_nd h x)
  | _ =>
    generalize evC fs (n + 2) = C at *
    exists e0, sortOf, so_0, so_1, so_2, so_3, so_5, csB
/-! the parts of _law_right -/
def bA : IS := (.seq (.ite (.not (.call 29 (.cons (.call 20 (.cons (.var 1) (.cons (.var 2) (.cons (.var 5) .nil)))) (.cons (.call 36 (.cons (.var 1) (.cons (.var 2) (.cons (.var 5) .nil)))) .nil))))
     (.seq (.ret (.lit (.bool false)))
     .skip)
     .skip)
   .skip)
def bB : IS := (.seq (.ite (.not (.call 29 (.cons (.call 24 (.cons (.var 1) (.cons (.var 2) (.cons (.var 5) .nil)))) (.cons (.call 37 (.cons (.var 1) (.cons (.var 2) (.cons (.var 5) .nil)))) .nil))))
     (.seq (.ret (.lit (.bool false)))
     .skip)
     .skip)
   .skip)
theorem like_b (n : Nat) (b : Bool) : evC fs (n + 2) 29 [.val (.bool b), .val (.bool b)] = .ok (.val (.bool true)) [] := like_flat n (.bool b) rfl
theorem loop5 (C : Nat → List Wk.Arg → RC) (B : IS) (l : List D) (a1 a2 a3 a4 a6 a7 a8 a9 a10 a11 a12 a13 a14 a15 : Sl) (ds : List D)
    (t : ∀ d ∈ ds, ∀ s5 : Sl, free? (some s5) = true → turnF C (.name 5) B d [.own l .lent, a1, a2, a3, a4, s5, a6, a7, a8, a9, a10, a11, a12, a13, a14, a15] = .ok .nx [.own l .lent, a1, a2, a3, a4, .val d, a6, a7, a8, a9, a10, a11, a12, a13, a14, a15])
    (s5 : Sl) (f5 : free? (some s5) = true) : ∃ s5', free? (some s5') = true ∧ forL (turnF C (.name 5) B) ds [.own l .lent, a1, a2, a3, a4, s5, a6, a7, a8, a9, a10, a11, a12, a13, a14, a15] = .ok .nx [.own l .lent, a1, a2, a3, a4, s5', a6, a7, a8, a9, a10, a11, a12, a13, a14, a15] := by
  obtain ⟨ρ', z, s5', f5', rfl⟩ := forL_inv (f := turnF C (.name 5) B) (fun _ ρ => ∃ s5, free? (some s5) = true ∧ ρ = [.own l .lent, a1, a2, a3, a4, s5, a6, a7, a8, a9, a10, a11, a12, a13, a14, a15]) ds _ ⟨s5, f5, rfl⟩ (by
    rintro i ρ hi ⟨s5, f5, rfl⟩
    exact ⟨_, t _ (List.getElem_mem hi) s5 f5, .val ds[i], rfl, rfl⟩)
  exact ⟨s5', f5', z⟩
section
variable {m : Nat} {cs : List (List Int)} (ok : CsOk m cs) {w : List Int} (hw : WOk m w)
include ok hw
theorem bA_turn (n : Nat) (d : D) (h : gsh 60 10 d = true) (l : List D) (a3 a4 s5 a6 a7 a8 a9 a10 a11 a12 a13 a14 a15 : Sl) (f5 : free? (some s5) = true) :
    turnF (evC fs (n + 9)) (.name 5) bA d [.own l .lent, .val (cms cs), .val (cm w), a3, a4, s5, a6, a7, a8, a9, a10, a11, a12, a13, a14, a15] = .ok .nx [.own l .lent, .val (cms cs), .val (cm w), a3, a4, .val d, a6, a7, a8, a9, a10, a11, a12, a13, a14, a15] := by
  have e1 := t_are_shims ok hw (n + 2) d h (by omega)
  have e2 := t_lare_shims ok hw (n + 6) d h (by omega)
  have e3 := like_b (n + 7) (shB m cs w d)
  have e1 : evC fs (n + 9) 20 _ = _ := e1
  have e2 : evC fs (n + 9) 36 _ = _ := e2
  have e3 : evC fs (n + 9) 29 _ = _ := e3
  generalize evC fs (n + 9) = C at *
  unfold bA
  unfold cms cm at *
  exists f5, e1, e2, e3
theorem bB_turn (n : Nat) (d : D) (h : gsh 60 10 d = true) (l : List D) (a3 a4 s5 a6 a7 a8 a9 a10 a11 a12 a13 a14 a15 : Sl) (f5 : free? (some s5) = true) :
    turnF (evC fs (n + 9)) (.name 5) bB d [.own l .lent, .val (cms cs), .val (cm w), a3, a4, s5, a6, a7, a8, a9, a10, a11, a12, a13, a14, a15] = .ok .nx [.own l .lent, .val (cms cs), .val (cm w), a3, a4, .val d, a6, a7, a8, a9, a10, a11, a12, a13, a14, a15] := by
  have e1 := t_does_set ok hw (n + 2) d h (by omega)
  have e2 := t_ldoes ok hw (n + 6) d h (Nat.le_refl _) (by omega)
  have e3 := like_b (n + 7) (doB m cs w d)
  have e1 : evC fs (n + 9) 24 _ = _ := e1
  have e2 : evC fs (n + 9) 37 _ = _ := e2
  have e3 : evC fs (n + 9) 29 _ = _ := e3
  generalize evC fs (n + 9) = C at *
  unfold bB
  unfold cms cm at *
  exists f5, e1, e2, e3
end
def plD (m : Nat) (hi w : List Int) : List D := (pls m hi w).map fun p : Nat => PyData.int (p : Int)
theorem pls_comp (C : Nat → List Wk.Arg → RC) {m : Nat} (m2 : m ≤ 60) {hi w : List Int} (lh : hi.length = m) (lw : w.length = m) (a0 a1 a4 a5 a6 a7 a8 a9 a10 a11 a12 a14 a15 : Sl) :
    compAll [13] (itemIfF C (.var 13) (.name 13) (.cmp .lt (.idx (.var 3) (.var 13)) (.idx (.var 2) (.var 13)))) ((List.range m).map fun p : Nat => PyData.int (p : Int)) [] [a0, a1, .val (cm w), .val (cm hi), a4, a5, a6, a7, a8, a9, a10, a11, a12, .no, a14, a15] =
      .ok (.tmp (plD m hi w)) [a0, a1, .val (cm w), .val (cm hi), a4, a5, a6, a7, a8, a9, a10, a11, a12, .no, a14, a15] := by
  rw [compAll_of (k := fun p : Nat => if decide (hi.getD p 0 < w.getD p 0) = true then some (.int (p : Int)) else none) (by rw [List.length_range]; omega), fm_filter]
  · rfl
  · intro p hp
    have hp := List.mem_range.mp hp
    have a1 : L2.atI (hi.map PyData.int) (p : Int) = some (.int (hi.getD p 0)) := at_int (by omega)
    have a2 : L2.atI (w.map PyData.int) (p : Int) = some (.int (w.getD p 0)) := at_int (by omega)
    unfold cm
    cases d : decide (hi.getD p 0 < w.getD p 0) with
    | true =>
      rw [if_pos rfl]
      exists a1, a2, d
    | false =>
      rw [if_neg Bool.false_ne_true]
      exists a1, a2, d
theorem pl_in {m : Nat} {hi w : List Int} (v : Int) : inAny (.int v) (plD m hi w) = bpB m hi w (.int v) := by
  have e : bpB m hi w (.int v) = ((decide (0 ≤ v) && decide (v ≤ (m : Int) - 1)) && decide (hi.getD v.toNat 0 < w.getD v.toNat 0)) := rfl
  rw [e]
  cases h : inAny (.int v) (plD m hi w) with
  | true =>
    obtain ⟨x, hx, hv⟩ := List.any_eq_true.mp h
    obtain ⟨p, hp, rfl⟩ := List.mem_map.mp hx
    have hv : ((p : Int) == v) = true := hv
    have hv : (p : Int) = v := eq_of_beq hv
    subst hv
    obtain ⟨h1, h2⟩ := List.mem_filter.mp hp
    have h1 := List.mem_range.mp h1
    rw [decide_eq_true (by omega), decide_eq_true (by omega), Int.toNat_natCast, h2]
    rfl
  | false =>
    symm
    rw [Bool.eq_false_iff]
    intro z
    obtain ⟨z1, z2⟩ := Bool.and_eq_true_iff.mp z
    obtain ⟨z3, z4⟩ := Bool.and_eq_true_iff.mp z1
    have z3 := of_decide_eq_true z3
    have z4 := of_decide_eq_true z4
    have : inAny (.int v) (plD m hi w) = true := List.any_eq_true.mpr ⟨.int v, List.mem_map.mpr ⟨v.toNat, List.mem_filter.mpr ⟨List.mem_range.mpr (by omega), z2⟩, by
      show PyData.int ((v.toNat : Nat) : Int) = _
      congr 1
      omega⟩, by
      show (v == v) = true
      exact beq_self_eq_true v⟩
    rw [this] at h
    cases h
theorem pl_all {m : Nat} {hi w : List Int} : ∀ x ∈ plD m hi w, ∃ v : Int, x = .int v := fun x hx => by
  obtain ⟨p, _, rfl⟩ := List.mem_map.mp hx
  exact ⟨_, rfl⟩
theorem pl_cin {m : Nat} {hi w : List Int} (v : Int) : cmpD .in_ (.int v) (.list (plD m hi w)) = some (bpB m hi w (.int v)) := by
  rw [← pl_in]
  have : (plD m hi w).all flatD = true := List.all_eq_true.mpr fun x hx => by
    obtain ⟨v, rfl⟩ := pl_all x hx
    rfl
  show guardO (flatD (.int v) && (plD m hi w).all flatD || _) _ = _
  rw [this]
  rfl
theorem pl_len (m : Nat) (hi w : List Int) : (plD m hi w).length ≤ m := by
  unfold plD
  rw [List.length_map]
  unfold pls
  have := List.length_filter_le (fun p => decide (hi.getD p 0 < w.getD p 0)) (List.range m)
  rw [List.length_range] at this
  exact this
theorem pl_nil {m : Nat} (m2 : m ≤ 60) (hi w : List Int) : cmpD .eq (.list (plD m hi w)) (.list []) = some (plD m hi w).isEmpty ∧ cmpD .ne (.list (plD m hi w)) (.list []) = some (!(plD m hi w).isEmpty) := by
  have g : ∀ x ∈ plD m hi w, gsh 60 0 x = true := fun x hx => by
    obtain ⟨v, rfl⟩ := pl_all x hx
    rfl
  have := pl_len m hi w
  exact ⟨eqS_nil g (by omega) (by omega), neS_nil g (by omega) (by omega)⟩
/-- values that bare places may be asked for -/
def bpV : D → Bool
  | .none => true
  | .bool _ => true
  | .int _ => true
  | _ => false
section
variable {m : Nat} {cs : List (List Int)} (ok : CsOk m cs) {w : List Int} (hw : WOk m w)
include ok hw
theorem bp_comp1 (n : Nat) (vs : List D) (hv : ∀ d ∈ vs, bpV d = true) (hl : vs.length ≤ 100) (a0 a3 a4 a5 a7 a8 a9 a10 a11 a12 a13 a14 a15 : Sl) :
    compAll [5] (itemF (evC fs (n + 9)) (.call 21 (.cons (.var 1) (.cons (.var 2) (.cons (.var 5) .nil)))) (.name 5)) vs [6] [a0, .val (cms cs), .val (cm w), a3, a4, a5, .own vs .lockM, a7, a8, a9, a10, a11, a12, a13, a14, a15] =
      .ok (.tmp (vs.map fun d => .bool (bpB m (fol m cs (gr cs w)) w d))) [a0, .val (cms cs), .val (cm w), a3, a4, a5, .own vs .mine, a7, a8, a9, a10, a11, a12, a13, a14, a15] := by
  have z := compAll_ofL (own := [5]) (lk := [6]) (f := itemF (evC fs (n + 9)) (.call 21 (.cons (.var 1) (.cons (.var 2) (.cons (.var 5) .nil)))) (.name 5)) (hs := vs) (c := fun d => d) (k := fun d => .bool (bpB m (fol m cs (gr cs w)) w d)) (ρ := [a0, .val (cms cs), .val (cm w), a3, a4, a5, .own vs .lockM, a7, a8, a9, a10, a11, a12, a13, a14, a15]) (by omega) (fun d hd => by
    have e := t_is_bare ok hw (n + 2) d (by
      have := hv d hd
      rintro x rfl
      cases this)
    have e : evC fs (n + 9) 21 _ = _ := e
    generalize evC fs (n + 9) = C at *
    unfold cms cm at *
    exists e)
  rw [map_id'] at z
  exact z
omit ok hw in
theorem bp_comp2 (n : Nat) (hi : List Int) (vs : List D) (hv : ∀ d ∈ vs, bpV d = true) (hl : vs.length ≤ 100) (a0 a1 a2 a3 a5 a7 a8 a9 a10 a11 a12 a13 a14 a15 : Sl) :
    compAll [5] (itemF (evC fs (n + 9)) (.and (.cons (.cmp .eq (.call 28 (.cons (.var 5) .nil)) (.lit (.int 2))) (.cons (.cmp .in_ (.var 5) (.var 4)) .nil))) (.name 5)) vs [6] [a0, a1, a2, a3, .own (plD m hi w) .mine, a5, .own vs .lockM, a7, a8, a9, a10, a11, a12, a13, a14, a15] =
      .ok (.tmp (vs.map fun d => .bool (bpB m hi w d))) [a0, a1, a2, a3, .own (plD m hi w) .mine, a5, .own vs .mine, a7, a8, a9, a10, a11, a12, a13, a14, a15] := by
  have z := compAll_ofL (own := [5]) (lk := [6]) (f := itemF (evC fs (n + 9)) (.and (.cons (.cmp .eq (.call 28 (.cons (.var 5) .nil)) (.lit (.int 2))) (.cons (.cmp .in_ (.var 5) (.var 4)) .nil))) (.name 5)) (hs := vs) (c := fun d => d) (k := fun d => .bool (bpB m hi w d)) (ρ := [a0, a1, a2, a3, .own (plD m hi w) .mine, a5, .own vs .lockM, a7, a8, a9, a10, a11, a12, a13, a14, a15]) (by omega) (fun d hd => by
    have h := hv d hd
    have e : evC fs (n + 9) 28 _ = _ := t_sort (n + 8) d (by
      rintro x rfl
      cases h)
    generalize evC fs (n + 9) = C at *
    have q0 := eq_ii 0 2
    have q1 := eq_ii 1 2
    have q2 := eq_ii 2 2
    rw [show decide ((0 : Int) = 2) = false from rfl] at q0
    rw [show decide ((1 : Int) = 2) = false from rfl] at q1
    rw [show decide ((2 : Int) = 2) = true from rfl] at q2
    cases d with
    | none => exists e, sortOf, q0, bpB
    | bool b => exists e, sortOf, q1, bpB
    | int v =>
      have c := pl_cin (m := m) (hi := hi) (w := w) v
      generalize plD m hi w = PL at *
      generalize bpB m hi w (.int v) = b at *
      exists e, sortOf, q2, c
    | _ => cases h)
  rw [map_id'] at z
  exact z
end
/-! _law_right -/
theorem gr_bd {m : Nat} {cs : List (List Int)} (ok : CsOk m cs) {w : List Int} (hw : WOk m w) : ∀ v ∈ gr cs w, -2000000 ≤ v ∧ v ≤ 2000000 := by
  intro v hv
  obtain ⟨c, hc, rfl⟩ := List.mem_map.mp hv
  have lc := ok.rect.2.2.2 c hc
  have ne : ((w.zip c).map fun q => q.1 - q.2) ≠ [] := by
    intro h
    have := congrArg List.length h
    rw [List.length_map, List.length_zip, hw.len, lc] at this
    simp at this
    have := ok.m1
    omega
  obtain ⟨q, hq, e⟩ := List.mem_map.mp (mn_spec ne).1
  have h1 := hw.bd q.1 (List.of_mem_zip hq).1
  have h2 := ok.bd c hc q.2 (List.of_mem_zip hq).2
  omega
theorem inn_cm {L : Nat} {c : List Int} (h : c.length ≤ L) (hb : ∀ v ∈ c, v.natAbs < 2 ^ 100) : inn L 1 (cm c) = true := by
  show (decide _ && _) = true
  rw [decide_eq_true (by rw [List.length_map]; exact h), List.all_eq_true.mpr]
  · rfl
  · intro x hx
    obtain ⟨v, hv, rfl⟩ := List.mem_map.mp hx
    exact decide_eq_true (hb v hv)
theorem gd_cm {m : Nat} {c : List Int} (h : c.length ≤ 1000) : gd (m + 1) (cm c) = true := by
  show (decide _ && _) = true
  rw [decide_eq_true (by rw [List.length_map]; omega), List.all_eq_true.mpr]
  · rfl
  · intro x hx
    obtain ⟨v, _, rfl⟩ := List.mem_map.mp hx
    exact gd_int m v
theorem plus_comp (C : Nat → List Wk.Arg → RC) (sh : List Int) (hl : sh.length ≤ 1000) (a0 a1 a2 a3 a4 a5 a6 a7 a8 a9 a10 a11 a12 a13 a15 : Sl) :
    compAll [14] (itemF C (.bin .add (.var 14) (.lit (.int 1))) (.name 14)) (sh.map .int) [] [a0, a1, a2, a3, a4, a5, a6, a7, a8, a9, a10, a11, a12, a13, .no, a15] = .ok (.tmp ((sh.map fun v => v + 1).map .int)) [a0, a1, a2, a3, a4, a5, a6, a7, a8, a9, a10, a11, a12, a13, .no, a15] := by
  rw [mm_int, compAll_of0 (c := PyData.int) (k := fun v => .int (v + 1)) (by omega)]
  intro v _
  trivial
theorem gt_comp (C : Nat → List Wk.Arg → RC) (sh : List Int) (hl : sh.length ≤ 1000) (a0 a1 a2 a3 a4 a5 a6 a7 a8 a9 a10 a11 a12 a13 : Sl) :
    compAll [14, 15] (itemIfF C (.lit (.int 1)) (.tup (.cons (.name 14) (.cons (.name 15) .nil))) (.cmp .gt (.var 14) (.var 15))) (zipD (sh.map .int) (sh.map .int)) [] [a0, a1, a2, a3, a4, a5, a6, a7, a8, a9, a10, a11, a12, a13, .no, .no] = .ok (.tmp []) [a0, a1, a2, a3, a4, a5, a6, a7, a8, a9, a10, a11, a12, a13, .no, .no] := by
  have z := zip_map_self (fun v : Int => v) sh
  rw [List.map_id'' (fun _ => rfl)] at z
  rw [zipD_map2 PyData.int PyData.int, z, List.map_map, compAll_of (k := fun _ : Int => none) (by omega)]
  · congr 2
    induction sh with
    | nil => rfl
    | cons a r ih => exact ih (by simp at hl; omega) (by simpa using z)
  · intro v _
    have d : decide (v < v) = false := decide_eq_false (by omega)
    have e : ((fun p : Int × Int => PyData.tuple [.int p.1, .int p.2]) ∘ fun a : Int => (a, a)) v = .tuple [.int v, .int v] := rfl
    exists e, d
theorem allS_map (k : Nat) : ((List.range k).map fun p : Nat => PyData.int (p : Int)) = (allS k).map .int := by
  unfold allS
  rw [List.map_map]
  rfl
theorem fz_out {L m : Nat} {r : RV} (h : Out L m r) : ∃ d, gsh L m d = true ∧ ∀ ρ, fzR r ρ = .ok d ρ := by
  obtain ⟨d, h1, rfl | ⟨xs, rfl, rfl⟩⟩ := h
  · exact ⟨d, h1, fun _ => rfl⟩
  · exact ⟨_, h1, fun _ => rfl⟩
theorem gs10 {L m : Nat} {d : D} (h : gsh L m d = true) (hL : L ≤ 60) (hm : m ≤ 10) : gsh 60 10 d = true := by
  have := gs_up hL m h (10 - m)
  rwa [show m + (10 - m) = 10 by omega] at this
section
variable {m : Nat} {cs : List (List Int)} (ok : CsOk m cs) {w : List Int} (hw : WOk m w)
include ok hw
theorem t_right (n : Nat) (l : List D) (hc : CupOk l) : ∃ l', CupOk l' ∧ evC fs (n + 10) 39 [.own l .lent, .val (cms cs), .val (cm w)] = .ok (.val (.bool true)) [l'] := by
  have m1 := ok.m1
  have m2 := ok.rect.1
  have l12 := ok.l12
  have lw := hw.len
  have gb := gr_bd ok hw
  have lg := gr_len cs w
  have lf := fol_len m cs (gr cs w)
  have pI := pls_iff hw.len ok.rect.2.2.1 ok.rect.2.2.2
  obtain ⟨r, hf, eF, eS⟩ := t_fewest ok hw (n + 2)
  have fI := few_iff ok hw hf
  have x1 : evC fs (n + 9) 35 _ = _ := t_lgreatest ok.rect ok.m1 hw.len (n + 8)
  have x2 : evC fs (n + 9) 19 _ = _ := t_bare_place ok hw (n + 2)
  have x3 : evC fs (n + 9) 18 _ = _ := t_shims_for ok hw (n + 2)
  have x4 : evC fs (n + 9) 34 _ = _ := t_lfollows ok.rect (gr_len cs w) (n + 8)
  have x5 : evC fs (n + 9) 17 _ = _ := t_greatest_shims ok hw (n + 2)
  have x6 : evC fs (n + 9) 22 _ = _ := eF
  have x7 : evC fs (n + 9) 23 _ = _ := eS
  have tA := fun d h l a3 a4 a6 a7 a8 a9 a10 a11 a12 a13 a14 a15 s5 f5 => bA_turn ok hw n d h l a3 a4 s5 a6 a7 a8 a9 a10 a11 a12 a13 a14 a15 f5
  have tB := fun d h l a3 a4 a6 a7 a8 a9 a10 a11 a12 a13 a14 a15 s5 f5 => bB_turn ok hw n d h l a3 a4 s5 a6 a7 a8 a9 a10 a11 a12 a13 a14 a15 f5
  -- the draws
  obtain ⟨r1, l1, c1, o1, y1⟩ := t_bent 1 (n + 5) (L := 12) l (cm (gr cs w)) (inn_cm (by omega) fun v hv => by
    have := gb v hv
    exact Nat.lt_of_lt_of_le (show v.natAbs < 2 ^ 30 by omega) (Nat.pow_le_pow_right (by decide) (by decide))) (by omega) (by omega) (by omega) hc
  obtain ⟨d1, g1, z1⟩ := fz_out o1
  obtain ⟨p2, l2, c2, b0, b1, y2⟩ := t_roll (n + 8) l1 m c1 (by omega) (by omega)
  obtain ⟨p3, l3, c3, b2, b3, y3⟩ := t_roll (n + 8) l2 cs.length c2 (by have := List.length_pos_iff.mpr ok.rect.2.2.1; omega) (by omega)
  have sb : ∀ v ∈ allS cs.length, 0 ≤ v ∧ v < (cs.length : Int) := (subs_ok _ _ (allS_mem cs.length)).1
  have la : (allS cs.length).length = cs.length := by
    unfold allS
    rw [List.length_map, List.length_range]
  obtain ⟨r4, l4, c4, o4, y4⟩ := t_bent 1 (n + 5) (L := 12) l3 (cm (allS cs.length)) (inn_cm (by omega) fun v hv => by
    have := sb v hv
    exact Nat.lt_of_lt_of_le (show v.natAbs < 2 ^ 30 by omega) (Nat.pow_le_pow_right (by decide) (by decide))) (by omega) (by omega) (by omega) c3
  obtain ⟨d4, g4, z4⟩ := fz_out o4
  have y1 : evC fs (n + 9) 30 _ = _ := y1
  have y2 : evC fs (n + 9) 26 _ = _ := y2
  have y3 : evC fs (n + 9) 26 _ = _ := y3
  have y4 : evC fs (n + 9) 30 _ = _ := y4
  have k1 : ((w.map PyData.int).length : Int) = (m : Int) := by rw [List.length_map, lw]
  have k2 : ((cs.map cm).length : Int) = (cs.length : Int) := by rw [List.length_map]
  have rgm : ∀ ρ, rg1 (m : Int) ρ = .ok ((List.range m).map fun p : Nat => PyData.int (p : Int), []) ρ := rg1_at m (by omega)
  have rgc : ∀ ρ, rg1 (cs.length : Int) ρ = .ok ((allS cs.length).map .int, []) ρ := fun ρ => by rw [rg1_at _ (by omega), allS_map]
  have fE : ∀ ρ, mkT ((allS cs.length).map PyData.int) ρ = .ok (.val (.tuple ((allS cs.length).map PyData.int))) ρ := mkT_ok (by rw [List.length_map]; omega)
  have pc := fun C a0 a1 a4 a5 a6 a7 a8 a9 a10 a11 a12 a14 a15 => pls_comp C m2 lf lw a0 a1 a4 a5 a6 a7 a8 a9 a10 a11 a12 a14 a15
  have ip := fun a0 a3 a4 a5 a7 a8 a9 a10 a11 a12 a13 a14 a15 vs hv hl => bp_comp1 ok hw n vs hv hl a0 a3 a4 a5 a7 a8 a9 a10 a11 a12 a13 a14 a15
  have ip2 := fun a0 a1 a2 a3 a5 a7 a8 a9 a10 a11 a12 a13 a14 a15 vs hv hl => bp_comp2 (m := m) (w := w) n (fol m cs (gr cs w)) vs hv hl a0 a1 a2 a3 a5 a7 a8 a9 a10 a11 a12 a13 a14 a15
  have pp := fun C a0 a1 a2 a3 a4 a5 a6 a7 a8 a9 a10 a11 a12 a13 a15 => plus_comp C (gr cs w) (by omega) a0 a1 a2 a3 a4 a5 a6 a7 a8 a9 a10 a11 a12 a13 a15
  have nl := pl_nil m2 (fol m cs (gr cs w)) w
  have gM : gsh 60 10 (cm (gr cs w)) = true := cm_gs (by omega)
  have gP : gsh 60 10 (cm ((gr cs w).map fun v => v + 1)) = true := cm_gs (by rw [List.length_map]; omega)
  have gL : gsh 60 10 (.list ((gr cs w).map .int)) = true := gs_mkL (by rw [List.length_map]; omega) fun x hx => by
    obtain ⟨v, _, rfl⟩ := List.mem_map.mp hx
    rfl
  have gd1 := gs10 g1 (by omega) (by omega)
  have gd4 := gs10 g4 (by omega) (by omega)
  have gE : gsh 60 10 (cm (allS cs.length)) = true := cm_gs (by omega)
  have gR : gsh 60 10 (.tuple ((allS cs.length).map PyData.int).reverse) = true := by
    rw [← List.map_reverse]
    exact cm_gs (by rw [List.length_reverse]; omega)
  have gT : gsh 60 10 (.tuple (((allS cs.length).map PyData.int).take (1 : Int).toNat)) = true := by
    rw [← List.map_take]
    exact cm_gs (by rw [List.length_take]; omega)
  have sT := sh_t (xs := (allS cs.length).map PyData.int) (i := 1) (by omega) (by
    rw [List.length_map, la]
    have := List.length_pos_iff.mpr ok.rect.2.2.1
    omega)
  have mo : ∀ (vs : List D) (hv : vs.length ≤ 100) ρ, mkL vs ρ = .ok (.tmp vs) ρ := fun vs hv => mkL_ok (by omega)
  have lk := fun d h => t_like 2 (n + 5) d h
  by_cases q : fol m cs (gr cs w) = w
  · -- all places are reached
    have pn := pI.mpr q
    have r1n : ¬ r = none := fun h => fI.mp h q
    obtain ⟨s, rfl⟩ : ∃ s, r = some s := by
      cases r with
      | none => exact absurd rfl r1n
      | some s => exact ⟨s, rfl⟩
    obtain ⟨hs, hb⟩ : s ∈ subs cs.length ∧ fuB m cs w s = true := by
      cases hf with
      | some hs hb _ => exact ⟨hs, hb⟩
    have hX : shB m cs w (cm (gr cs w)) = true := by
      rw [shB_cm, decide_eq_true q, Bool.and_true]
      show (decide _ && _) = true
      rw [decide_eq_true (by rw [List.length_map, lg]), List.all_eq_true.mpr]
      · rfl
      · intro x hx
        obtain ⟨v, hv, rfl⟩ := List.mem_map.mp hx
        have := gb v hv
        exact isW_int (by omega)
    have x8 : evC fs (n + 9) 36 _ = _ := t_lare_shims ok hw (n + 6) (cm (gr cs w)) gM (by omega)
    rw [hX] at x8
    have sl := (subs_ok _ s hs).2.2
    have gS : gsh 60 10 (cm s) = true := cm_gs (by omega)
    have x9 : evC fs (n + 9) 37 _ = _ := t_ldoes ok hw (n + 6) (cm s) gS (Nat.le_refl _) (by omega)
    rw [do_fu ok hw hs, hb] at x9
    have pl : plD m (fol m cs (gr cs w)) w = [] := by
      unfold plD
      rw [pn]
      rfl
    rw [pn] at x2
    rw [if_pos q] at x3
    rw [pl] at nl
    have gtc := fun C a0 a1 a2 a3 a4 a5 a6 a7 a8 a9 a10 a11 a12 a13 => gt_comp C (gr cs w) (by omega) a0 a1 a2 a3 a4 a5 a6 a7 a8 a9 a10 a11 a12 a13
    have L1 : evC fs (n + 9) 29 _ = _ := lk (.list [cm (gr cs w), .bool true, .bool true]) (gd_list 1 _ (by simp) fun x hx => by
      simp only [List.mem_cons, List.not_mem_nil, or_false] at hx
      rcases hx with rfl | rfl | rfl
      · exact gd_cm (by omega)
      · rfl
      · rfl)
    have L3 : evC fs (n + 9) 29 _ = _ := lk (.list [.bool false, .bool false]) rfl
    have vsB : ∀ d ∈ [PyData.none, .none, .bool true, .int (-1), .int (m : Int), .int p2], bpV d = true := fun d hd => by
      simp only [List.mem_cons, List.not_mem_nil, or_false] at hd
      rcases hd with rfl | rfl | rfl | rfl | rfl | rfl <;> rfl
    have i1 := fun a0 a3 a4 a5 a7 a8 a9 a10 a11 a12 a13 a14 a15 => ip a0 a3 a4 a5 a7 a8 a9 a10 a11 a12 a13 a14 a15 _ vsB (by simp)
    have i2 := fun a0 a1 a2 a3 a5 a7 a8 a9 a10 a11 a12 a13 a14 a15 => ip2 a0 a1 a2 a3 a5 a7 a8 a9 a10 a11 a12 a13 a14 a15 _ vsB (by simp)
    have L2 : evC fs (n + 9) 29 _ = _ := lk (.list ([PyData.none, .none, .bool true, .int (-1), .int (m : Int), .int p2].map fun d => .bool (bpB m (fol m cs (gr cs w)) w d))) (gd_list 1 _ (by simp) fun x hx => by
      obtain ⟨d, _, rfl⟩ := List.mem_map.mp hx
      rfl)
    have mv := mo [PyData.none, .none, .bool true, .int (-1), .int (m : Int), .int p2] (by simp)
    obtain ⟨sA, fA, zA⟩ := loop5 (evC fs (n + 9)) bA l1 (.val (cms cs)) (.val (cm w)) (.val (cm (fol m cs (gr cs w)))) (.own [] .mine) .no (.val (cm (gr cs w))) (.val .none) (.val (cm (gr cs w))) .no .no .no .no .no .no [cm (gr cs w), cm (gr cs w), d1, cm ((gr cs w).map fun v => v + 1), .list ((gr cs w).map .int), .none] (fun d hd s5 f5 => by
      simp only [List.mem_cons, List.not_mem_nil, or_false] at hd
      refine tA d ?_ _ _ _ _ _ _ _ _ _ _ _ _ _ s5 f5
      rcases hd with rfl | rfl | rfl | rfl | rfl | rfl
      · exact gM
      · exact gM
      · exact gd1
      · exact gP
      · exact gL
      · rfl) .no rfl
    obtain ⟨sB, fB, zB⟩ := loop5 (evC fs (n + 9)) bB l4 (.val (cms cs)) (.val (cm w)) (.val (cm (fol m cs (gr cs w)))) (.own [] .mine) (.own [PyData.none, .none, .bool true, .int (-1), .int (m : Int), .int p2] .mine) (.val (cm (gr cs w))) (.val .none) (.val (cm (gr cs w))) (.val (cm (allS cs.length))) (.val (.int (s.length : Int))) (.val (cm s)) .no .no .no
      [cm s, cm (allS cs.length), .tuple ((allS cs.length).map PyData.int).reverse, .tuple (((allS cs.length).map PyData.int).take (1 : Int).toNat), .tuple [.int p3], .tuple [], .none, d4] (fun d hd s5 f5 => by
      simp only [List.mem_cons, List.not_mem_nil, or_false] at hd
      refine tB d ?_ _ _ _ _ _ _ _ _ _ _ _ _ _ s5 f5
      rcases hd with rfl | rfl | rfl | rfl | rfl | rfl | rfl | rfl
      · exact gS
      · exact gE
      · exact gR
      · exact gT
      · rfl
      · rfl
      · rfl
      · exact gd4) sA fA
    rw [pl] at i2
    rw [pl] at pc
    have x6 : evC fs (n + 9) 22 [.val (cms cs), .val (cm w)] = .ok (.val (.int (s.length : Int))) [] := x6
    have x7 : evC fs (n + 9) 23 [.val (cms cs), .val (cm w)] = .ok (.val (cm s)) [] := x7
    refine ⟨l4, c4, ?_⟩
    have e0n : cmpD .ne (.list []) (.list []) = some false := rfl
    have e0e : cmpD .eq (.list []) (.list []) = some true := rfl
    have nI := ne_ii (s.length : Int) (s.length : Int)
    rw [decide_eq_true rfl] at nI
    have ks : ((s.map PyData.int).length : Int) = (s.length : Int) := by rw [List.length_map]
    have isn1 := isnn_cm (gr cs w)
    have isn2 := isnn_cm s
    have isN2 : cmpD .isN (cm s) .none = some false := rfl
    have isN3 : cmpD .isN (.int (s.length : Int)) .none = some false := rfl
    rw [u__law_right]
    unfold bA at zA
    unfold bB at zB
    generalize evC fs (n + 9) = C at *
    clear tA tB ip ip2 hX gb lg pI fI hf eF eS q hs hb vsB lk mo
    generalize gr cs w = sh at *
    generalize fol m cs sh = hi at *
    generalize bpB m hi w = bp at *
    generalize hV : [PyData.none, .none, .bool true, .int (-1), .int (m : Int), .int p2] = V at *
    unfold b__law_right
    unfold cms cm at *
    generalize (allS cs.length).map PyData.int = E at *
    exists x1, x2, x3, x4, k1, rgm, pc, x5, isn1, e0e, L1, x8, gtc, e0n, y1, z1, pp, zA, hV, mv, y2, i1, i2, L2, k2, rgc, fE, x6, x7, isN3, isN2, L3, isn2, ks, nI, x9, sT, y3, y4, z4, zB
  · -- some place is bare
    obtain ⟨p0, ps, hp⟩ : ∃ p0 ps, pls m (fol m cs (gr cs w)) w = p0 :: ps := by
      cases h : pls m (fol m cs (gr cs w)) w with
      | nil => exact absurd (pI.mp h) q
      | cons a b => exact ⟨a, b, rfl⟩
    have rn := fI.mpr q
    subst rn
    have pl : plD m (fol m cs (gr cs w)) w = .int (p0 : Int) :: ps.map fun p : Nat => PyData.int (p : Int) := by
      unfold plD
      rw [hp]
      rfl
    have b0p : bpB m (fol m cs (gr cs w)) w (.int (p0 : Int)) = true := by
      rw [← pl_in, pl]
      show (((p0 : Int) == (p0 : Int)) || _) = true
      rw [beq_self_eq_true]
      rfl
    have cin := pl_cin (m := m) (hi := fol m cs (gr cs w)) (w := w) (p0 : Int)
    rw [b0p] at cin
    have nl1 := nl.1
    have nl2 := nl.2
    rw [show (plD m (fol m cs (gr cs w)) w).isEmpty = false by rw [pl]; rfl] at nl1 nl2
    rw [hp] at x2
    have x2 : evC fs (n + 9) 19 [.val (cms cs), .val (cm w)] = .ok (.val (.int (p0 : Int))) [] := x2
    rw [if_neg q] at x3
    have x10 : evC fs (n + 9) 28 _ = .ok (.val (.int 2)) [] := t_sort (n + 8) (.int (p0 : Int)) (fun x h => nomatch h)
    have e22 := eq_ii 2 2
    rw [decide_eq_true rfl] at e22
    have L1 : evC fs (n + 9) 29 _ = _ := lk (.list [cm (gr cs w), .bool false, .bool false]) (gd_list 1 _ (by simp) fun x hx => by
      simp only [List.mem_cons, List.not_mem_nil, or_false] at hx
      rcases hx with rfl | rfl | rfl
      · exact gd_cm (by omega)
      · rfl
      · rfl)
    have L3 : evC fs (n + 9) 29 _ = _ := lk (.list [.bool true, .bool true]) rfl
    have vsB : ∀ d ∈ [PyData.int (p0 : Int), .none, .bool true, .int (-1), .int (m : Int), .int p2], bpV d = true := fun d hd => by
      simp only [List.mem_cons, List.not_mem_nil, or_false] at hd
      rcases hd with rfl | rfl | rfl | rfl | rfl | rfl <;> rfl
    have i1 := fun a0 a3 a4 a5 a7 a8 a9 a10 a11 a12 a13 a14 a15 => ip a0 a3 a4 a5 a7 a8 a9 a10 a11 a12 a13 a14 a15 _ vsB (by simp)
    have i2 := fun a0 a1 a2 a3 a5 a7 a8 a9 a10 a11 a12 a13 a14 a15 => ip2 a0 a1 a2 a3 a5 a7 a8 a9 a10 a11 a12 a13 a14 a15 _ vsB (by simp)
    have L2 : evC fs (n + 9) 29 _ = _ := lk (.list ([PyData.int (p0 : Int), .none, .bool true, .int (-1), .int (m : Int), .int p2].map fun d => .bool (bpB m (fol m cs (gr cs w)) w d))) (gd_list 1 _ (by simp) fun x hx => by
      obtain ⟨d, _, rfl⟩ := List.mem_map.mp hx
      rfl)
    have mv := mo [PyData.int (p0 : Int), .none, .bool true, .int (-1), .int (m : Int), .int p2] (by simp)
    obtain ⟨sA, fA, zA⟩ := loop5 (evC fs (n + 9)) bA l1 (.val (cms cs)) (.val (cm w)) (.val (cm (fol m cs (gr cs w)))) (.own (plD m (fol m cs (gr cs w)) w) .mine) .no (.val (cm (gr cs w))) (.val (.int (p0 : Int))) (.val .none) .no .no .no .no .no .no [cm (gr cs w), .none, d1, cm ((gr cs w).map fun v => v + 1), .list ((gr cs w).map .int), .none] (fun d hd s5 f5 => by
      simp only [List.mem_cons, List.not_mem_nil, or_false] at hd
      refine tA d ?_ _ _ _ _ _ _ _ _ _ _ _ _ _ s5 f5
      rcases hd with rfl | rfl | rfl | rfl | rfl | rfl
      · exact gM
      · rfl
      · exact gd1
      · exact gP
      · exact gL
      · rfl) .no rfl
    obtain ⟨sB, fB, zB⟩ := loop5 (evC fs (n + 9)) bB l4 (.val (cms cs)) (.val (cm w)) (.val (cm (fol m cs (gr cs w)))) (.own (plD m (fol m cs (gr cs w)) w) .mine) (.own [PyData.int (p0 : Int), .none, .bool true, .int (-1), .int (m : Int), .int p2] .mine) (.val (cm (gr cs w))) (.val (.int (p0 : Int))) (.val .none) (.val (cm (allS cs.length))) (.val .none) (.val .none) .no .no .no
      [.none, cm (allS cs.length), .tuple ((allS cs.length).map PyData.int).reverse, .tuple (((allS cs.length).map PyData.int).take (1 : Int).toNat), .tuple [.int p3], .tuple [], .none, d4] (fun d hd s5 f5 => by
      simp only [List.mem_cons, List.not_mem_nil, or_false] at hd
      refine tB d ?_ _ _ _ _ _ _ _ _ _ _ _ _ _ s5 f5
      rcases hd with rfl | rfl | rfl | rfl | rfl | rfl | rfl | rfl
      · rfl
      · exact gE
      · exact gR
      · exact gT
      · rfl
      · rfl
      · rfl
      · exact gd4) sA fA
    have x6 : evC fs (n + 9) 22 [.val (cms cs), .val (cm w)] = .ok (.val .none) [] := x6
    have x7 : evC fs (n + 9) 23 [.val (cms cs), .val (cm w)] = .ok (.val .none) [] := x7
    refine ⟨l4, c4, ?_⟩
    have isn0 : cmpD .isN (.int (p0 : Int)) .none = some false := rfl
    have isn1 : cmpD .isnN (.int (p0 : Int)) .none = some true := rfl
    have isN2 : cmpD .isN .none .none = some true := rfl
    have isN3 : cmpD .isnN .none .none = some false := rfl
    rw [u__law_right]
    unfold bA at zA
    unfold bB at zB
    generalize evC fs (n + 9) = C at *
    clear tA tB ip ip2 gb lg pI fI hf eF eS q vsB lk mo pl hp b0p nl
    generalize plD m (fol m cs (gr cs w)) w = PL at *
    generalize gr cs w = sh at *
    generalize fol m cs sh = hi at *
    generalize bpB m hi w = bp at *
    generalize hV : [PyData.int (p0 : Int), .none, .bool true, .int (-1), .int (m : Int), .int p2] = V at *
    unfold b__law_right
    unfold cms cm at *
    generalize (allS cs.length).map PyData.int = E at *
    exists x1, x2, x3, x4, k1, rgm, pc, x5, isn0, isN3, nl1, nl2, L1, isn1, x10, e22, cin, y1, z1, pp, zA, hV, mv, y2, i1, i2, L2, k2, rgc, fE, x6, x7, isN2, L3, sT, y3, y4, z4, zB
end
/-! random cams, _law_small_right -/
theorem list_ex {α : Type} (c : α → D) : ∀ {xs : List D} {P : α → Prop}, (∀ x ∈ xs, ∃ a, x = c a ∧ P a) → ∃ as : List α, xs = as.map c ∧ as.length = xs.length ∧ ∀ a ∈ as, P a
  | [], _, _ => ⟨[], rfl, rfl, fun a h => by cases h⟩
  | x :: xs, P, h => by
    obtain ⟨a, e, ha⟩ := h x (List.mem_cons_self ..)
    obtain ⟨as, e2, l, hs⟩ := list_ex c (P := P) fun y hy => h y (List.mem_cons_of_mem _ hy)
    refine ⟨a :: as, by rw [e, e2]; rfl, by simp [l], fun b hb => ?_⟩
    rcases List.mem_cons.mp hb with rfl | hb
    · exact ha
    · exact hs b hb
def lcE : IE := .call 27 (.cons (.var 0) (.cons (.lst (.cons (.lit (.int 0)) (.cons (.var 2) (.cons (.bin .sub (.call 26 (.cons (.var 0) (.cons (.bin .add (.bin .mul (.lit (.int 2)) (.var 2)) (.lit (.int 1))) .nil))) (.var 2)) (.cons (.bin .sub (.call 26 (.cons (.var 0) (.cons (.bin .add (.bin .mul (.lit (.int 2)) (.var 2)) (.lit (.int 1))) .nil))) (.var 2)) .nil))))) .nil))
theorem t_lcam (n : Nat) (l : List D) (hc : CupOk l) (many : Nat) (top : Int) (h2 : many ≤ 60) (h3 : 1 ≤ top) (h4 : top ≤ 1000000) :
    ∃ (l' : List D) (c : List Int), CupOk l' ∧ c.length = many ∧ (∀ h ∈ c, -top ≤ h ∧ h ≤ top) ∧ evC fs (n + 3) 33 [.own l .lent, .val (.int (many : Int)), .val (.int top)] = .ok (.val (cm c)) [l'] := by
  obtain ⟨xs, ρ', ec, lx, hx, l2, c2, rfl⟩ := compAll_st (own := [3]) (f := itemF (evC fs (n + 2)) lcE (.name 3)) (fun ρ => ∃ l, CupOk l ∧ ρ = [.own l .lent, .val (.int (many : Int)), .val (.int top), .no]) (fun d => ∃ h : Int, d = .int h ∧ (-top ≤ h ∧ h ≤ top))
    (ds := (List.range many).map fun p : Nat => PyData.int (p : Int)) (ρ := [.own l .lent, .val (.int (many : Int)), .val (.int top), .no]) (by rw [List.length_map, List.length_range]; omega) ⟨l, hc, rfl⟩ (by
    rintro d ρ _ ⟨l, hc, rfl⟩
    obtain ⟨r1, l1, c1, a0, a1, e1⟩ := t_roll (n + 1) l (2 * top + 1) hc (by omega) (by omega)
    obtain ⟨r2, l2, c2, b0, b1, e2⟩ := t_roll (n + 1) l1 (2 * top + 1) c1 (by omega) (by omega)
    obtain ⟨v, l3, c3, hv, e3⟩ := t_some n l2 [.int 0, .int top, .int (r1 - top), .int (r2 - top)] c2 (by simp) (by simp)
    have mm : mulOk 2 top = true := mulOk_of (by omega) (by omega)
    have e1 : evC fs (n + 2) 26 _ = _ := e1
    have e2 : evC fs (n + 2) 26 _ = _ := e2
    have ml : ∀ ρ, mkL [PyData.int 0, .int top, .int (r1 - top), .int (r2 - top)] ρ = .ok (.tmp [PyData.int 0, .int top, .int (r1 - top), .int (r2 - top)]) ρ := mkL_ok (by simp)
    generalize evC fs (n + 2) = C at *
    refine ⟨v, [.own l3 .lent, .val (.int (many : Int)), .val (.int top), .no], ?_, ?_, l3, c3, rfl⟩
    · unfold lcE
      exists mm, e1, e2, ml, e3
    · simp only [List.mem_cons, List.not_mem_nil, or_false] at hv
      rcases hv with rfl | rfl | rfl | rfl
      · exact ⟨_, rfl, by omega⟩
      · exact ⟨_, rfl, by omega⟩
      · exact ⟨_, rfl, by omega⟩
      · exact ⟨_, rfl, by omega⟩)
  obtain ⟨c, rfl, lc, hb⟩ := list_ex PyData.int hx
  rw [List.length_map, List.length_map, List.length_range] at lx
  refine ⟨l2, c, c2, lx, hb, ?_⟩
  have rg := rg1_at many (by omega)
  rw [u__law_cam]
  unfold b__law_cam
  unfold lcE at ec
  generalize evC fs (n + 2) = C at *
  unfold cm
  exists rg, ec
/-! wishes made by shims are reached -/
theorem fol_at0 {m : Nat} {cs : List (List Int)} {sh : List Int} {p : Nat} (hp : p < m) : (fol m cs sh).getD p 0 = mx ((cs.zip sh).map fun q => q.1.getD p 0 + q.2) := by
  unfold fol
  rw [List.getD_eq_getElem?_getD, List.getElem?_map, List.getElem?_range hp]
  rfl
theorem made_cov {m : Nat} {cs : List (List Int)} {sh : List Int} (ok : Rect m cs) (hs : sh.length = cs.length) : Cov m (fol m cs sh) cs := by
  intro p hp
  have zn : (cs.zip sh) ≠ [] := by
    intro h
    have := congrArg List.length h
    rw [List.length_zip, hs, Nat.min_self] at this
    exact ok.2.2.1 (List.eq_nil_of_length_eq_zero this)
  have hm := mx_spec (l := (cs.zip sh).map fun q => q.1.getD p 0 + q.2) (by simpa using zn)
  obtain ⟨q, hq, e⟩ := List.mem_map.mp hm.1
  have hc := (List.of_mem_zip hq).1
  have lc := ok.2.2.2 q.1 hc
  refine ⟨q.1, hc, decide_eq_true ?_⟩
  have l1 := sc_le (w := fol m cs sh) (c := q.1) (p := p) (by rw [fol_len]; exact hp) (by omega)
  rw [fol_at0 hp] at l1 ⊢
  have l2 : q.2 ≤ sc (fol m cs sh) q.1 := by
    have ne : (((fol m cs sh).zip q.1).map fun q => q.1 - q.2) ≠ [] := by
      intro h
      have := congrArg List.length h
      rw [List.length_map, List.length_zip, fol_len, lc, Nat.min_self] at this
      simp at this
      omega
    obtain ⟨z, hz, ez⟩ := List.mem_map.mp (mn_spec ne).1
    obtain ⟨i, hi⟩ := List.mem_iff_getElem?.mp hz
    rw [List.getElem?_zip_eq_some] at hi
    have im : i < m := by
      have := (List.getElem?_eq_some_iff.mp hi.2).1
      omega
    have z1 : z.1 = (fol m cs sh).getD i 0 := by
      rw [List.getD_eq_getElem?_getD, hi.1]
      rfl
    have z2 : z.2 = q.1.getD i 0 := by
      rw [List.getD_eq_getElem?_getD, hi.2]
      rfl
    rw [fol_at0 im] at z1
    have zm : ((cs.zip sh).map fun q => q.1.getD i 0 + q.2) ≠ [] := by simpa using zn
    have := (mx_spec zm).2 _ (List.mem_map.mpr ⟨q, hq, rfl⟩)
    unfold sc
    omega
  omega
theorem fol_bd {m : Nat} {cs : List (List Int)} {sh : List Int} {a b : Int} (ok : Rect m cs) (hs : sh.length = cs.length) (h1 : ∀ c ∈ cs, ∀ h ∈ c, -a ≤ h ∧ h ≤ a) (h2 : ∀ v ∈ sh, -b ≤ v ∧ v ≤ b) : ∀ v ∈ fol m cs sh, -(a + b) ≤ v ∧ v ≤ a + b := by
  intro v hv
  obtain ⟨p, hp, rfl⟩ := List.mem_map.mp hv
  have hp := List.mem_range.mp hp
  have zn := zn_ne ok hs p
  obtain ⟨q, hq, e⟩ := List.mem_map.mp (mx_spec zn).1
  have hc := (List.of_mem_zip hq).1
  have lc := ok.2.2.2 q.1 hc
  have g : q.1.getD p 0 ∈ q.1 := by
    rw [List.getD_eq_getElem?_getD, List.getElem?_eq_getElem (by omega)]
    exact List.getElem_mem _
  have := h1 q.1 hc _ g
  have := h2 q.2 (List.of_mem_zip hq).2
  omega
/-! _law_small_right -/
def bR : IS := (.seq (.ite (.or (.cons (.not (.call 39 (.cons (.var 0) (.cons (.var 1) (.cons (.var 6) .nil))))) (.cons (.not (.call 29 (.cons (.call 22 (.cons (.var 1) (.cons (.var 6) .nil))) (.cons (.call 40 (.cons (.var 1) (.cons (.var 6) .nil))) .nil)))) .nil)))
     (.seq (.ret (.lit (.bool false)))
     .skip)
     .skip)
   .skip)
def bC : IS := (.seq (.ite (.not (.call 29 (.cons (.call 15 (.cons (.var 7) .nil)) (.cons (.call 38 (.cons (.var 7) .nil)) .nil))))
     (.seq (.ret (.lit (.bool false)))
     .skip)
     .skip)
   .skip)
theorem bR_turn (n : Nat) {m : Nat} {cs : List (List Int)} (ok : CsOk m cs) {w : List Int} (hw : WOk m w) (l : List D) (hc : CupOk l) (a2 a3 a4 a5 s6 a7 a8 a9 a10 a11 a12 : Sl) (f6 : free? (some s6) = true) :
    ∃ l', CupOk l' ∧ turnF (evC fs (n + 10)) (.name 6) bR (cm w) [.own l .lent, .val (cms cs), a2, a3, a4, a5, s6, a7, a8, a9, a10, a11, a12] = .ok .nx [.own l' .lent, .val (cms cs), a2, a3, a4, a5, .val (cm w), a7, a8, a9, a10, a11, a12] := by
  obtain ⟨l', c', e1⟩ := t_right ok hw n l hc
  obtain ⟨r, hf, eF, _⟩ := t_fewest ok hw (n + 3)
  have e2 : evC fs (n + 10) 22 _ = _ := eF
  have e3 : evC fs (n + 10) 40 _ = _ := t_lfew ok hw (n + 6) hf
  have e4 : evC fs (n + 10) 29 _ = _ := like_flat (n + 8) (lenD r) (by cases r <;> rfl)
  refine ⟨l', c', ?_⟩
  generalize evC fs (n + 10) = C at *
  unfold bR
  unfold cms cm at *
  exists f6, e1, e2, e3, e4
theorem bC_turn (n : Nat) (d : D) (h : gsh 60 10 d = true) (l : List D) (a1 a2 a3 a4 a5 a6 s7 a8 a9 a10 a11 a12 : Sl) (f7 : free? (some s7) = true) :
    turnF (evC fs (n + 10)) (.name 7) bC d [.own l .lent, a1, a2, a3, a4, a5, a6, s7, a8, a9, a10, a11, a12] = .ok .nx [.own l .lent, a1, a2, a3, a4, a5, a6, .val d, a8, a9, a10, a11, a12] := by
  have e1 : evC fs (n + 10) 15 _ = _ := t_are_cams (n + 5) d h (by omega)
  have e2 : evC fs (n + 10) 38 _ = _ := t_lare_cams (n + 7) d h (by omega) (by omega)
  have e3 : evC fs (n + 10) 29 _ = _ := like_b (n + 8) (csB d)
  generalize evC fs (n + 10) = C at *
  unfold bC
  exists f7, e1, e2, e3
theorem t_small (n : Nat) (l : List D) (hc : CupOk l) : ∃ l', CupOk l' ∧ evC fs (n + 11) 41 [.own l .lent] = .ok (.val (.bool true)) [l'] := by
  obtain ⟨k0, l1, c1, a0, a1, y1⟩ := t_roll (n + 9) l 4 hc (by omega) (by omega)
  obtain ⟨h0, l2, c2, b0, b1, y2⟩ := t_roll (n + 9) l1 6 c1 (by omega) (by omega)
  obtain ⟨tv, l3, c3, ht, y3⟩ := t_some (n + 8) l2 [.int 1, .int 3, .int 9] c2 (by simp) (by simp)
  obtain ⟨top, rfl, t1, t2⟩ : ∃ top : Int, tv = .int top ∧ 1 ≤ top ∧ top ≤ 9 := by
    simp only [List.mem_cons, List.not_mem_nil, or_false] at ht
    rcases ht with rfl | rfl | rfl
    · exact ⟨1, rfl, by omega, by omega⟩
    · exact ⟨3, rfl, by omega, by omega⟩
    · exact ⟨9, rfl, by omega, by omega⟩
  obtain ⟨k, hk⟩ : ∃ k : Nat, 1 + k0 = (k : Int) := ⟨(1 + k0).toNat, by omega⟩
  obtain ⟨m, hm⟩ : ∃ m : Nat, 1 + h0 = (m : Int) := ⟨(1 + h0).toNat, by omega⟩
  have y1 : evC fs (n + 10) 26 _ = _ := y1
  have y2 : evC fs (n + 10) 26 _ = _ := y2
  have y3 : evC fs (n + 10) 27 _ = _ := y3
  -- the cams
  obtain ⟨xs, ρ1, z1, lx, hx, l4, c4, rfl⟩ := compAll_st (own := [11]) (f := itemF (evC fs (n + 10)) (.call 33 (.cons (.var 0) (.cons (.var 9) (.cons (.var 10) .nil)))) (.name 11))
    (fun ρ => ∃ l, CupOk l ∧ ρ = [.own l .lent, .no, .no, .no, .no, .no, .no, .no, .val (.int (k : Int)), .val (.int (m : Int)), .val (.int top), .no, .no]) (fun d => ∃ c : List Int, d = cm c ∧ (c.length = m ∧ ∀ h ∈ c, -top ≤ h ∧ h ≤ top))
    (ds := (List.range k).map fun p : Nat => PyData.int (p : Int)) (ρ := [.own l3 .lent, .no, .no, .no, .no, .no, .no, .no, .val (.int (k : Int)), .val (.int (m : Int)), .val (.int top), .no, .no]) (by rw [List.length_map, List.length_range]; omega) ⟨l3, c3, rfl⟩ (by
    rintro d ρ _ ⟨l, hc, rfl⟩
    obtain ⟨l', c, c', lc, hb, e⟩ := t_lcam (n + 7) l hc m top (by omega) t1 (by omega)
    have e : evC fs (n + 10) 33 _ = _ := e
    generalize evC fs (n + 10) = C at *
    exact ⟨cm c, [.own l' .lent, .no, .no, .no, .no, .no, .no, .no, .val (.int (k : Int)), .val (.int (m : Int)), .val (.int top), .no, .no], (by exists e), ⟨c, rfl, lc, hb⟩, l', c', rfl⟩)
  obtain ⟨cs, rfl, lc, hcs⟩ := list_ex cm hx
  rw [List.length_map, List.length_map, List.length_range] at lx
  -- the shims
  obtain ⟨xs, ρ2, z2, ls, hs, l5, c5, rfl⟩ := compAll_st (own := [11]) (f := itemF (evC fs (n + 10)) (.bin .sub (.call 26 (.cons (.var 0) (.cons (.bin .add (.bin .mul (.lit (.int 2)) (.var 10)) (.lit (.int 1))) .nil))) (.var 10)) (.name 11))
    (fun ρ => ∃ l, CupOk l ∧ ρ = [.own l .lent, .val (cms cs), .no, .no, .no, .no, .no, .no, .val (.int (k : Int)), .val (.int (m : Int)), .val (.int top), .no, .no]) (fun d => ∃ v : Int, d = .int v ∧ (-top ≤ v ∧ v ≤ top))
    (ds := (List.range k).map fun p : Nat => PyData.int (p : Int)) (ρ := [.own l4 .lent, .val (cms cs), .no, .no, .no, .no, .no, .no, .val (.int (k : Int)), .val (.int (m : Int)), .val (.int top), .no, .no]) (by rw [List.length_map, List.length_range]; omega) ⟨l4, c4, rfl⟩ (by
    rintro d ρ _ ⟨l, hc, rfl⟩
    obtain ⟨r1, l1, c1, a0, a1, e1⟩ := t_roll (n + 9) l (2 * top + 1) hc (by omega) (by omega)
    have mm : mulOk 2 top = true := mulOk_of (by omega) (by omega)
    have e1 : evC fs (n + 10) 26 _ = _ := e1
    generalize evC fs (n + 10) = C at *
    exact ⟨.int (r1 - top), [.own l1 .lent, .val (cms cs), .no, .no, .no, .no, .no, .no, .val (.int (k : Int)), .val (.int (m : Int)), .val (.int top), .no, .no], (by exists mm, e1), ⟨_, rfl, by omega⟩, l1, c1, rfl⟩)
  obtain ⟨sh, rfl, lsh, hsh⟩ := list_ex PyData.int hs
  rw [List.length_map, List.length_map, List.length_range] at ls
  have nz : cs ≠ [] := fun h => by
    rw [h] at lx
    simp at lx
    omega
  have ok : CsOk m cs := ⟨by omega, ⟨by omega, by omega, nz, fun c hc => (hcs c hc).1⟩, by omega, fun c hc h hh => by
    have := (hcs c hc).2 h hh
    omega⟩
  have hlen : sh.length = cs.length := by omega
  have wb := fol_bd ok.rect hlen (a := 9) (b := 9) (fun c hc h hh => by
    have := (hcs c hc).2 h hh
    omega) (fun v hv => by
    have := hsh v hv
    omega)
  have fl := fol_len m cs sh
  have cov := made_cov ok.rect hlen
  have x1 : evC fs (n + 10) 34 _ = _ := t_lfollows ok.rect hlen (n + 9)
  have x2 : evC fs (n + 10) 15 _ = _ := t_are_cams (n + 5) (cms cs) (cms_gs (L := 60) (k := 0) ok.rect (Nat.le_refl _) (by omega)) (by omega)
  rw [cms_csB ok] at x2
  have x3 : evC fs (n + 10) 16 _ = _ := t_follower ok (n + 4) (ns := sh) hlen (fun v hv => by
    have := hsh v hv
    omega)
  generalize hw0 : fol m cs sh = w0 at *
  have hw : WOk m w0 := ⟨fl, fun h hh => by
    have := wb h hh
    omega⟩
  have x4 : evC fs (n + 10) 18 _ = _ := t_shims_for ok hw (n + 3)
  rw [if_pos ((fol_iff hw.len ok.rect.2.2.1 ok.rect.2.2.2).mpr cov)] at x4
  have L1 : evC fs (n + 10) 29 _ = _ := t_like 2 (n + 6) (.list [.bool true, cm w0]) (gd_list 1 _ (by simp) fun x hx => by
    simp only [List.mem_cons, List.not_mem_nil, or_false] at hx
    rcases hx with rfl | rfl
    · rfl
    · exact gd_cm (by omega))
  -- one height moved
  obtain ⟨p, l6, c6, p0, p1, y6⟩ := t_roll (n + 9) l5 m c5 (by omega) (by omega)
  obtain ⟨xv, l7, c7, hxv, y7⟩ := t_some (n + 8) l6 [.int 1, .int (-1), .int 2] c6 (by simp) (by simp)
  obtain ⟨dx, rfl, d1, d2⟩ : ∃ dx : Int, xv = .int dx ∧ -1 ≤ dx ∧ dx ≤ 2 := by
    simp only [List.mem_cons, List.not_mem_nil, or_false] at hxv
    rcases hxv with rfl | rfl | rfl
    · exact ⟨1, rfl, by omega, by omega⟩
    · exact ⟨-1, rfl, by omega, by omega⟩
    · exact ⟨2, rfl, by omega, by omega⟩
  have y6 : evC fs (n + 10) 26 _ = _ := y6
  have y7 : evC fs (n + 10) 27 _ = _ := y7
  have ep : ((p.toNat : Nat) : Int) = p := by omega
  have a1' := at_int (l := w0) (p := p.toNat) (by omega)
  rw [ep] at a1'
  have s1 := sh_t (xs := w0.map PyData.int) (i := p) p0 (by rw [List.length_map]; omega)
  have s2 := sl_t (xs := w0.map PyData.int) (i := p + 1) (by omega) (by rw [List.length_map]; omega)
  have em : (w0.map PyData.int).take p.toNat ++ [.int (w0.getD p.toNat 0 + dx)] ++ (w0.map PyData.int).drop (p + 1).toNat = (w0.take p.toNat ++ [w0.getD p.toNat 0 + dx] ++ w0.drop (p + 1).toNat).map PyData.int := by
    rw [List.map_append, List.map_append, List.map_take, List.map_drop]
    rfl
  have f1 : fits (((w0.map PyData.int).take p.toNat).length + (0 + 1)) = true := decide_eq_true (by rw [List.length_take, List.length_map]; omega)
  have f2 : fits (((w0.map PyData.int).take p.toNat ++ [PyData.int (w0.getD p.toNat 0 + dx)]).length + ((w0.map PyData.int).drop (p + 1).toNat).length) = true := decide_eq_true (by rw [List.length_append, List.length_take, List.length_drop, List.length_map, List.length_singleton]; omega)
  have hw1 : WOk m (w0.take p.toNat ++ [w0.getD p.toNat 0 + dx] ++ w0.drop (p + 1).toNat) := by
    refine ⟨by rw [List.length_append, List.length_append, List.length_take, List.length_drop, List.length_singleton]; omega, fun h hh => ?_⟩
    rcases List.mem_append.mp hh with hh | hh
    · rcases List.mem_append.mp hh with hh | hh
      · have := wb h (List.mem_of_mem_take hh)
        omega
      · rw [List.mem_singleton] at hh
        have g : w0.getD p.toNat 0 ∈ w0 := by
          rw [List.getD_eq_getElem?_getD, List.getElem?_eq_getElem (by omega)]
          exact List.getElem_mem _
        have := wb _ g
        omega
    · have := wb h (List.mem_of_mem_drop hh)
      omega
  generalize hA : (w0.map PyData.int).take p.toNat ++ [PyData.int (w0.getD p.toNat 0 + dx)] = A at *
  generalize hw1' : w0.take p.toNat ++ [w0.getD p.toNat 0 + dx] ++ w0.drop (p + 1).toNat = w1 at *
  -- both wishes
  obtain ⟨l8, c8, t8⟩ := bR_turn n ok hw l7 c7 (.val (cm sh)) (.val (cm w0)) (.val (.int p)) (.val (cm w1)) .no .no (.val (.int (k : Int))) (.val (.int (m : Int))) (.val (.int top)) .no .no rfl
  obtain ⟨l9, c9, t9⟩ := bR_turn n ok hw1 l8 c8 (.val (cm sh)) (.val (cm w0)) (.val (.int p)) (.val (cm w1)) (.val (cm w0)) .no (.val (.int (k : Int))) (.val (.int (m : Int))) (.val (.int top)) .no .no rfl
  have zR : forL (turnF (evC fs (n + 10)) (.name 6) bR) [cm w0, cm w1] [.own l7 .lent, .val (cms cs), .val (cm sh), .val (cm w0), .val (.int p), .val (cm w1), .no, .no, .val (.int (k : Int)), .val (.int (m : Int)), .val (.int top), .no, .no] = .ok .nx [.own l9 .lent, .val (cms cs), .val (cm sh), .val (cm w0), .val (.int p), .val (cm w1), .val (cm w1), .no, .val (.int (k : Int)), .val (.int (m : Int)), .val (.int top), .no, .no] := by
    rw [fl_cons, t8, k_fl_nx, fl_cons, t9, k_fl_nx, fl_nil]
  -- values near the cams
  have innC : inn 12 2 (cms cs) = true := by
    show (decide _ && _) = true
    rw [decide_eq_true (by rw [List.length_map]; omega), List.all_eq_true.mpr]
    · rfl
    · intro x hx
      obtain ⟨c, hc, rfl⟩ := List.mem_map.mp hx
      exact inn_cm (by have := (hcs c hc).1; omega) fun v hv => by
        have := (hcs c hc).2 v hv
        exact Nat.lt_of_lt_of_le (show v.natAbs < 2 ^ 30 by omega) (Nat.pow_le_pow_right (by decide) (by decide))
  obtain ⟨xs, ρ3, z3, lv, hv, l10, c10, rfl⟩ := compAll_st (own := [12]) (f := itemF (evC fs (n + 10)) (.call 30 (.cons (.var 0) (.cons (.var 1) .nil))) (.name 12))
    (fun ρ => ∃ l, CupOk l ∧ ρ = [.own l .lent, .val (cms cs), .val (cm sh), .val (cm w0), .val (.int p), .val (cm w1), .val (cm w1), .no, .val (.int (k : Int)), .val (.int (m : Int)), .val (.int top), .no, .no]) (fun d => gsh 60 10 d = true)
    (ds := (List.range 3).map fun p : Nat => PyData.int (p : Int)) (ρ := [.own l9 .lent, .val (cms cs), .val (cm sh), .val (cm w0), .val (.int p), .val (cm w1), .val (cm w1), .no, .val (.int (k : Int)), .val (.int (m : Int)), .val (.int top), .no, .no]) (by simp) ⟨l9, c9, rfl⟩ (by
    rintro d ρ _ ⟨l, hc, rfl⟩
    obtain ⟨r1, l1, c1, o1, e1⟩ := t_bent 2 (n + 5) (L := 12) l (cms cs) innC (by omega) (by omega) (by omega) hc
    obtain ⟨d1, g1, zz⟩ := fz_out o1
    have e1 : evC fs (n + 10) 30 _ = _ := e1
    generalize evC fs (n + 10) = C at *
    exact ⟨d1, [.own l1 .lent, .val (cms cs), .val (cm sh), .val (cm w0), .val (.int p), .val (cm w1), .val (cm w1), .no, .val (.int (k : Int)), .val (.int (m : Int)), .val (.int top), .no, .no], (by exists e1, zz), gs10 g1 (by omega) (by omega), l1, c1, rfl⟩)
  obtain ⟨c0, cr, hcc⟩ := List.exists_cons_of_ne_nil nz
  have a0c : L2.atI (cs.map cm) 0 = some (cm c0) := by
    rw [hcc]
    exact at0 cm c0 cr
  have lc0 := (hcs c0 (by rw [hcc]; exact List.mem_cons_self ..)).1
  have ec1 : slV 1 (.tuple (c0.map PyData.int)) = some (.val (.tuple ((c0.drop 1).map PyData.int))) := by
    have := sl_t (xs := c0.map PyData.int) (i := 1) (by omega) (by rw [List.length_map]; omega)
    rw [this, List.map_drop]
    rfl
  have f3 : fits ((cs.map cm).length + (0 + 1)) = true := decide_eq_true (by rw [List.length_map]; omega)
  have f4 : fits (xs.length + (0 + 1 + 1 + 1)) = true := decide_eq_true (by rw [lv]; simp)
  obtain ⟨ρ4, z4, s7, f7, rfl⟩ := forL_inv (f := turnF (evC fs (n + 10)) (.name 7) bC) (fun _ ρ => ∃ s7, free? (some s7) = true ∧ ρ = [.own l10 .lent, .val (cms cs), .val (cm sh), .val (cm w0), .val (.int p), .val (cm w1), .val (cm w1), s7, .val (.int (k : Int)), .val (.int (m : Int)), .val (.int top), .no, .no]) (xs ++ [cm c0, .list (cs.map cm), .tuple (cs.map cm ++ [.tuple ((c0.drop 1).map PyData.int)])])
    [.own l10 .lent, .val (cms cs), .val (cm sh), .val (cm w0), .val (.int p), .val (cm w1), .val (cm w1), .no, .val (.int (k : Int)), .val (.int (m : Int)), .val (.int top), .no, .no] ⟨.no, rfl, rfl⟩ (by
    rintro i ρ hi ⟨s7, f7, rfl⟩
    have hg : gsh 60 10 (xs ++ [cm c0, .list (cs.map cm), .tuple (cs.map cm ++ [.tuple ((c0.drop 1).map PyData.int)])])[i] = true := by
      have gc : ∀ x ∈ cs.map cm, gsh 60 9 x = true := fun x hx => by
        obtain ⟨c, hc, rfl⟩ := List.mem_map.mp hx
        exact cm_gs (by have := (hcs c hc).1; omega)
      rcases List.mem_append.mp (List.getElem_mem hi) with h | h
      · exact hv _ h
      · simp only [List.mem_cons, List.not_mem_nil, or_false] at h
        rcases h with h | h | h
        · rw [h]
          exact cm_gs (by omega)
        · rw [h]
          exact gs_mkL (by rw [List.length_map]; omega) gc
        · rw [h]
          refine gs_mk (by rw [List.length_append, List.length_map]; simp; omega) (app_gs gc fun x hx => ?_)
          rw [List.mem_singleton] at hx
          subst hx
          exact cm_gs (by rw [List.length_drop]; omega)
    exact ⟨_, bC_turn n _ hg _ _ _ _ _ _ _ s7 _ _ _ _ _ f7, _, rfl, rfl⟩)
  refine ⟨l10, c10, ?_⟩
  have isn : cmpD .isN (cm (gr cs w0)) .none = some false := rfl
  have rgk : ∀ ρ, rg1 (k : Int) ρ = .ok ((List.range k).map fun p : Nat => PyData.int (p : Int), []) ρ := rg1_at k (by omega)
  have rg3 : ∀ ρ, rg1 3 ρ = .ok ((List.range 3).map fun p : Nat => PyData.int (p : Int), []) ρ := rg1_at 3 (by omega)
  have ml : ∀ ρ, mkL [PyData.bool true, cm w0] ρ = .ok (.tmp [PyData.bool true, cm w0]) ρ := mkL_ok (by simp)
  have mt : ∀ ρ, mkT [cm w0, cm w1] ρ = .ok (.val (.tuple [cm w0, cm w1])) ρ := mkT_ok (by simp)
  rw [u__law_small_right]
  unfold bR at zR
  unfold bC at z4
  generalize evC fs (n + 10) = C at *
  clear t8 t9 hcs hsh wb hw hw1 cov ok
  generalize gr cs w0 = gs0 at *
  unfold b__law_small_right
  unfold cms cm at *
  exists y1, hk, y2, hm, y3, rgk, z1, z2, x1, x2, x3, L1, x4, isn, y6, y7, a1', s1, s2, f1, hA, f2, em, zR, rg3, z3, a0c, ec1, f3, f4, z4
set_option maxHeartbeats 300000
/-! twelve cams, each with a stretch of its own -/
structure CamK (w : List Int) (k : Nat) (c : List Int) : Prop where
  len : c.length = 60
  at_ : ∀ p, p < 60 → (p / 5 = k → c.getD p 0 = w.getD p 0 + k) ∧ (p / 5 ≠ k → w.getD p 0 + k - 9 ≤ c.getD p 0 ∧ c.getD p 0 ≤ w.getD p 0 + k - 1)
theorem sc_eq {w c : List Int} {v : Int} (hl : w.length = c.length) (h1 : ∀ p, p < c.length → v ≤ w.getD p 0 - c.getD p 0) (p0 : Nat) (h2 : p0 < c.length) (h3 : w.getD p0 0 - c.getD p0 0 = v) : sc w c = v := by
  have l1 := sc_le (w := w) (c := c) (p := p0) (by omega) h2
  have ne : ((w.zip c).map fun q => q.1 - q.2) ≠ [] := by
    intro h
    have := congrArg List.length h
    rw [List.length_map, List.length_zip, hl, Nat.min_self] at this
    have t : c.length = 0 := this
    omega
  obtain ⟨z, hz, ez⟩ := List.mem_map.mp (mn_spec ne).1
  obtain ⟨i, hi⟩ := List.mem_iff_getElem?.mp hz
  rw [List.getElem?_zip_eq_some] at hi
  have ic := (List.getElem?_eq_some_iff.mp hi.2).1
  have z1 : z.1 = w.getD i 0 := by
    rw [List.getD_eq_getElem?_getD, hi.1]
    rfl
  have z2 : z.2 = c.getD i 0 := by
    rw [List.getD_eq_getElem?_getD, hi.2]
    rfl
  have := h1 i ic
  have e : sc w c = z.1 - z.2 := ez.symm
  omega
theorem sc_k {w c : List Int} {k : Nat} (hw : w.length = 60) (hk : k < 12) (h : CamK w k c) : sc w c = -(k : Int) := by
  refine sc_eq (by rw [hw, h.len]) (fun p hp => ?_) (5 * k) (by rw [h.len]; omega) ?_
  · rw [h.len] at hp
    obtain ⟨a, b⟩ := h.at_ p hp
    by_cases q : p / 5 = k
    · have := a q
      omega
    · have := b q
      omega
  · have := (h.at_ (5 * k) (by omega)).1 (by omega)
    omega
theorem rch_k {w c : List Int} {k : Nat} (hw : w.length = 60) (hk : k < 12) (h : CamK w k c) {p : Nat} (hp : p < 60) : rch w c p = true ↔ p / 5 = k := by
  unfold rch
  rw [sc_k hw hk h, decide_eq_true_iff]
  obtain ⟨a, b⟩ := h.at_ p hp
  constructor
  · intro q
    by_cases z : p / 5 = k
    · exact z
    · have := b z
      omega
  · intro q
    have := a q
    omega
theorem nd_inj {l : List Int} (h : l.Nodup) {i j : Nat} (hi : i < l.length) (hj : j < l.length) (e : l[i] = l[j]) : i = j := by
  have p := List.pairwise_iff_getElem.mp h
  rcases Nat.lt_trichotomy i j with q | q | q
  · exact absurd e (p i j hi hj q)
  · exact q
  · exact absurd e.symm (p j i hj hi q)
theorem fu_covG {m : Nat} {cs : List (List Int)} {w s : List Int} : fuB m cs w s = true ↔ Cov m w (pick cs s) := by
  unfold fuB
  rw [decide_eq_true_iff]
  unfold mkS
  rw [num_full]
  unfold Cov pick
  refine forall_congr' fun p => forall_congr' fun hp => ?_
  rw [List.any_eq_true]
  constructor
  · rintro ⟨a, ha, h⟩
    exact ⟨_, List.mem_map.mpr ⟨a, ha, rfl⟩, h⟩
  · rintro ⟨c, hc, h⟩
    obtain ⟨a, ha, rfl⟩ := List.mem_map.mp hc
    exact ⟨a, ha, h⟩
section
variable {w : List Int} (hw : w.length = 60) {Cs : List (List Int)} (lC : Cs.length = 12) (hC : ∀ k c, Cs[k]? = some c → CamK w k c) {ord : List Int} (hp : ord.Perm (allS 12))
include hw lC hC hp
theorem ord_len : ord.length = 12 := by
  rw [hp.length_eq]
  rfl
theorem ord_mem {a : Int} (h : a ∈ ord) : 0 ≤ a ∧ a < 12 := (subs_ok _ _ (allS_mem 12)).1 a (hp.mem_iff.mp h)
theorem ord_nd : ord.Nodup := by
  rw [hp.nodup_iff]
  exact ((subs_ok _ _ (allS_mem 12)).2.1).imp fun h => by omega
theorem pick_k {a : Int} (h : a ∈ ord) : CamK w a.toNat (Cs.getD a.toNat []) := by
  have := ord_mem hw lC hC hp h
  have l : a.toNat < Cs.length := by omega
  refine hC a.toNat _ ?_
  rw [List.getElem?_eq_getElem l, List.getD_eq_getElem?_getD, List.getElem?_eq_getElem l]
  rfl
theorem pick_gr : gr (pick Cs ord) w = ord.map fun a => -a := by
  unfold pick
  rw [show gr (ord.map fun a => Cs.getD a.toNat []) w = (ord.map fun a => Cs.getD a.toNat []).map (sc w) from rfl, List.map_map]
  refine List.map_congr_left fun a ha => ?_
  have := ord_mem hw lC hC hp ha
  show sc w (Cs.getD a.toNat []) = -a
  rw [sc_k hw (by omega) (pick_k hw lC hC hp ha)]
  omega
theorem pick_cov : Cov 60 w (pick Cs ord) := fun p hp' => by
  have ha : ((p / 5 : Nat) : Int) ∈ ord := hp.mem_iff.mpr (List.mem_map.mpr ⟨p / 5, List.mem_range.mpr (by omega), rfl⟩)
  refine ⟨_, List.mem_map.mpr ⟨_, ha, rfl⟩, (rch_k hw ?_ (pick_k hw lC hC hp ha) hp').mpr ?_⟩
  · omega
  · omega
/-- each cam is needed -/
theorem pick_all12 {s : List Int} (hs : s ∈ subs 12) (hb : fuB 60 (pick Cs ord) w s = true) : s = allS 12 := by
  have lo := ord_len hw lC hC hp
  obtain ⟨h1, h2, _⟩ := subs_ok _ s hs
  have cv : Cov 60 w (pick (pick Cs ord) s) := fu_covG.mp hb
  refine lt_uniq h2 (subs_ok _ _ (allS_mem 12)).2.1 fun v => ⟨fun hv => ?_, fun hv => ?_⟩
  · have := h1 v hv
    exact List.mem_map.mpr ⟨v.toNat, List.mem_range.mpr (by omega), by omega⟩
  · obtain ⟨i, hi, rfl⟩ := List.mem_map.mp hv
    have hi := List.mem_range.mp hi
    have li : i < ord.length := by omega
    -- the cam at place i is number ord[i]; its first place
    have bi := ord_mem hw lC hC hp (List.getElem_mem li)
    obtain ⟨c, hc, hr⟩ := cv (5 * (ord[i]).toNat) (by omega)
    obtain ⟨v, hv, rfl⟩ := List.mem_map.mp hc
    have bv := h1 v hv
    have lv : v.toNat < ord.length := by omega
    have e1 : (pick Cs ord).getD v.toNat [] = Cs.getD (ord[v.toNat]).toNat [] := by
      unfold pick
      rw [List.getD_eq_getElem?_getD, List.getElem?_map, List.getElem?_eq_getElem lv]
      rfl
    rw [e1] at hr
    have bv2 := ord_mem hw lC hC hp (List.getElem_mem lv)
    have q := (rch_k hw (by omega) (pick_k hw lC hC hp (List.getElem_mem lv)) (by omega)).mp hr
    have e2 : ord[v.toNat] = ord[i] := by omega
    have e3 : v.toNat = i := nd_inj (ord_nd hw lC hC hp) _ _ e2
    have : v = (i : Int) := by omega
    rw [← this]
    exact hv
/-- without the first one a place is bare -/
theorem first_bare : ∃ a0 : Int, a0 ∈ ord ∧ ord[0]? = some a0 ∧ ∀ c ∈ (pick Cs ord).drop 1, rch w c (5 * a0.toNat) = false := by
  have lo := ord_len hw lC hC hp
  have l0 : 0 < ord.length := by omega
  refine ⟨ord[0], List.getElem_mem l0, List.getElem?_eq_getElem l0, fun c hc => ?_⟩
  have b0 := ord_mem hw lC hC hp (List.getElem_mem l0)
  unfold pick at hc
  rw [← List.map_drop] at hc
  obtain ⟨a, ha, rfl⟩ := List.mem_map.mp hc
  have ha' : a ∈ ord := List.mem_of_mem_drop ha
  have ba := ord_mem hw lC hC hp ha'
  cases h : rch w (Cs.getD a.toNat []) (5 * (ord[0]).toNat) with
  | false => rfl
  | true =>
    have q := (rch_k hw (by omega) (pick_k hw lC hC hp ha') (by omega)).mp h
    have e : a = ord[0] := by omega
    obtain ⟨i, hi⟩ := List.mem_iff_getElem?.mp ha
    rw [List.getElem?_drop] at hi
    have li := (List.getElem?_eq_some_iff.mp hi).1
    have e2 : ord[1 + i] = ord[0] := by
      rw [List.getElem?_eq_getElem li] at hi
      rw [Option.some.inj hi]
      exact e
    have e3 := nd_inj (ord_nd hw lC hC hp) _ _ e2
    omega
theorem pick_bd (hb : ∀ v ∈ w, 0 ≤ v ∧ v ≤ 999) : ∀ c ∈ pick Cs ord, c.length = 60 ∧ ∀ h ∈ c, -10 ≤ h ∧ h ≤ 1100 := fun c hc => by
  obtain ⟨a, ha, rfl⟩ := List.mem_map.mp hc
  have ba := ord_mem hw lC hC hp ha
  have ck := pick_k hw lC hC hp ha
  refine ⟨ck.len, fun h hh => ?_⟩
  obtain ⟨p, hp'⟩ := List.mem_iff_getElem?.mp hh
  have lp := (List.getElem?_eq_some_iff.mp hp').1
  rw [ck.len] at lp
  have eh : h = (Cs.getD a.toNat []).getD p 0 := by
    rw [List.getD_eq_getElem?_getD, hp']
    rfl
  have wp : 0 ≤ w.getD p 0 ∧ w.getD p 0 ≤ 999 := by
    refine hb _ ?_
    rw [List.getD_eq_getElem?_getD, List.getElem?_eq_getElem (by omega)]
    exact List.getElem_mem _
  obtain ⟨x, y⟩ := ck.at_ p lp
  by_cases q : p / 5 = a.toNat
  · have := x q
    omega
  · have := y q
    omega
/-- one that does alone -/
theorem alone_set (more : Int) {s : List Int} (hs : s ∈ subs 12) (hb : fuB 60 ((pick Cs ord).take 11 ++ [w.map fun v => v - more]) w s = true) (hm : s.length ≤ 1) : s = [11] := by
  have lo := ord_len hw lC hC hp
  obtain ⟨h1, h2, _⟩ := subs_ok _ s hs
  have cv : Cov 60 w (pick ((pick Cs ord).take 11 ++ [w.map fun v => v - more]) s) := fu_covG.mp hb
  clear hs hb h2
  cases s with
  | nil =>
    obtain ⟨c, hc, _⟩ := cv 0 (by omega)
    cases hc
  | cons v r =>
    have hr0 : r = [] := by
      cases r with
      | nil => rfl
      | cons a b =>
        simp only [List.length_cons] at hm
        omega
    subst hr0
    have bv := h1 v (List.mem_cons_self ..)
    by_cases q : v = 11
    · rw [q]
    · exfalso
      have lv : v.toNat < ord.length := by omega
      have l11 : v.toNat < ((pick Cs ord).take 11).length := by
        unfold pick
        rw [List.length_take, List.length_map]
        omega
      have e1 : ((pick Cs ord).take 11 ++ [w.map fun v => v - more]).getD v.toNat [] = Cs.getD (ord[v.toNat]).toNat [] := by
        rw [List.getD_eq_getElem?_getD, List.getElem?_append_left l11, List.getElem?_take_of_lt (by omega)]
        unfold pick
        rw [List.getElem?_map, List.getElem?_eq_getElem lv]
        rfl
      have bv2 := ord_mem hw lC hC hp (List.getElem_mem lv)
      have only : ∀ p, p < 60 → p / 5 = (ord[v.toNat]).toNat := fun p hp' => by
        obtain ⟨c, hc, hr⟩ := cv p hp'
        obtain ⟨u, hu, rfl⟩ := List.mem_map.mp hc
        rw [List.mem_singleton] at hu
        subst hu
        rw [e1] at hr
        exact (rch_k hw (by omega) (pick_k hw lC hC hp (List.getElem_mem lv)) hp').mp hr
      have a := only 0 (by omega)
      have b := only 5 (by omega)
      omega
end
theorem alone_sc {w : List Int} (hw : w.length = 60) (more : Int) : sc w (w.map fun v => v - more) = more ∧ ∀ p, p < 60 → rch w (w.map fun v => v - more) p = true := by
  have g : ∀ p, p < 60 → (w.map fun v => v - more).getD p 0 = w.getD p 0 - more := fun p hp => by
    simp only [List.getD_eq_getElem?_getD, List.getElem?_map]
    rw [List.getElem?_eq_getElem (by omega)]
    rfl
  have e : sc w (w.map fun v => v - more) = more := sc_eq (by rw [List.length_map]) (fun p hp => by
    rw [List.length_map] at hp
    rw [g p (by omega)]
    omega) 0 (by rw [List.length_map]; omega) (by
    rw [g 0 (by omega)]
    omega)
  refine ⟨e, fun p hp => decide_eq_true ?_⟩
  rw [e, g p hp]
  omega
set_option maxHeartbeats 1000000
/-! _law_mixed, the draws of _law_great_right -/
theorem er_map {α β : Type} (f : α → β) : ∀ (l : List α) (i : Nat), (l.map f).eraseIdx i = (l.eraseIdx i).map f
  | [], _ => rfl
  | _ :: _, 0 => rfl
  | a :: l, i + 1 => by
    show f a :: (l.map f).eraseIdx i = f a :: (l.eraseIdx i).map f
    rw [er_map f l i]
theorem er_perm {α : Type} : ∀ (l : List α) (i : Nat) (a : α), l[i]? = some a → (a :: l.eraseIdx i).Perm l
  | [], _, _, h => by simp at h
  | b :: l, 0, a, h => by
    have : b = a := by simpa using h
    rw [this]
    exact List.Perm.refl _
  | b :: l, i + 1, a, h => by
    have ih := er_perm l i a (by simpa using h)
    show (a :: b :: l.eraseIdx i).Perm (b :: l)
    exact (List.Perm.swap b a _).trans (ih.cons b)
theorem pk_int (j : Int) (ρ : Fm) : pk (.val (.int j)) ρ asInt = .ok j ρ := id rfl
theorem popI_map {l : List Int} {j : Int} (h0 : 0 ≤ j) (h1 : j < l.length) (h2 : l.length ≤ 1000) : popI (l.map .int) j = some (.int (l.getD j.toNat 0), (l.eraseIdx j.toNat).map .int) := by
  have hl : j.toNat < l.length := by omega
  unfold popI
  rw [decide_eq_true (by omega), decide_eq_true (by omega)]
  have e : L2.ixN (l.map PyData.int).length j = some j.toNat := by
    unfold L2.ixN
    rw [List.length_map, if_pos h0, if_pos h1]
  rw [e]
  show ((l.map PyData.int)[j.toNat]?).map _ = _
  rw [List.getElem?_map, List.getElem?_eq_getElem hl]
  show some (PyData.int l[j.toNat], (l.map PyData.int).eraseIdx j.toNat) = _
  rw [List.getD_eq_getElem?_getD, List.getElem?_eq_getElem hl]
  congr 2
  exact er_map ..
def mxB : IS := (.seq (.expr (.app 4 (.popAt 3 (.call 26 (.cons (.var 0) (.cons (.b1 .len (.var 3)) .nil))))))
   .skip)
theorem t_mixed (n : Nat) (l : List D) (hc : CupOk l) : ∃ (l' : List D) (ord : List Int), CupOk l' ∧ ord.Perm (allS 12) ∧ evC fs (n + 2) 31 [.own l .lent, .val (.list ((allS 12).map .int))] = .ok (.val (cm ord)) [l'] := by
  have l12 : (allS 12).length = 12 := rfl
  generalize allS 12 = th at *
  obtain ⟨ρ', z, l2, lf, fd, s2, c2, ll, hp, f2, rfl⟩ := forL_at (f := turnF (evC fs (n + 1)) (.name 2) mxB) (fun p : Nat => PyData.int (p : Int)) (List.range 12)
    (fun i ρ => ∃ (l : List D) (lf fd : List Int) (s2 : Sl), CupOk l ∧ lf.length + i = 12 ∧ (fd ++ lf).Perm th ∧ free? (some s2) = true ∧ ρ = [.own l .lent, .val (.list (th.map .int)), s2, .own (lf.map .int) .mine, .own (fd.map .int) .mine])
    [.own l .lent, .val (.list (th.map .int)), .no, .own (th.map .int) .mine, .own [] .mine] ⟨l, th, [], .no, hc, by omega, List.Perm.refl _, rfl, rfl⟩ (by
    rintro i p ρ hi ⟨l, lf, fd, s2, c1, ll, hp, f2, rfl⟩
    have hi' : i < 12 := by
      have := (List.getElem?_eq_some_iff.mp hi).1
      rwa [List.length_range] at this
    obtain ⟨j, l3, c3, j0, j1, e1⟩ := t_roll n l lf.length c1 (by omega) (by omega)
    have pj := popI_map (l := lf) j0 (by omega) (by omega)
    have hl : j.toNat < lf.length := by omega
    have lfd : fd.length ≤ 12 := by
      have := hp.length_eq
      rw [List.length_append] at this
      omega
    have ft : fits ((fd.map PyData.int).length + 1) = true := decide_eq_true (by rw [List.length_map]; omega)
    have k0 : ((lf.map PyData.int).length : Int) = (lf.length : Int) := by rw [List.length_map]
    have ap : fd.map PyData.int ++ [.int (lf.getD j.toNat 0)] = (fd ++ [lf.getD j.toNat 0]).map .int := by
      rw [List.map_append]
      rfl
    refine ⟨[.own l3 .lent, .val (.list (th.map .int)), .val (.int (p : Int)), .own ((lf.eraseIdx j.toNat).map .int) .mine, .own ((fd ++ [lf.getD j.toNat 0]).map .int) .mine], ?_, l3, lf.eraseIdx j.toNat, fd ++ [lf.getD j.toNat 0], .val (.int (p : Int)), c3, ?_, ?_, rfl, rfl⟩
    · generalize evC fs (n + 1) = C at *
      unfold mxB
      exists f2, k0, e1, pk_int, pj, ft, ap
    · rw [List.length_eraseIdx, if_pos hl]
      omega
    · refine List.Perm.trans ?_ hp
      rw [List.append_assoc]
      refine List.Perm.append_left _ ?_
      rw [List.getD_eq_getElem?_getD, List.getElem?_eq_getElem hl]
      exact er_perm lf j.toNat _ (List.getElem?_eq_getElem hl))
  rw [List.length_range] at ll
  have el : lf = [] := List.eq_nil_of_length_eq_zero (by omega)
  subst el
  rw [List.append_nil] at hp
  refine ⟨l2, fd, c2, hp, ?_⟩
  have kt : ((th.map PyData.int).length : Int) = 12 := by
    rw [List.length_map, l12]
    rfl
  have rg : ∀ ρ, rg1 12 ρ = .ok ((List.range 12).map fun p : Nat => PyData.int (p : Int), []) ρ := rg1_at 12 (by omega)
  rw [u__law_mixed]
  unfold mxB at z
  unfold b__law_mixed
  generalize (List.range 12).map (fun p : Nat => PyData.int (p : Int)) = R12 at *
  generalize evC fs (n + 1) = C at *
  unfold cm
  exists kt, rg, z
theorem compL_ix {f : D → Fm → R (Option D)} (P : Fm → Prop) (Q : Nat → D → Prop) : ∀ (ds : List D) (k : Nat) (ρ : Fm), P ρ → (∀ i d ρ, ds[i]? = some d → P ρ → ∃ x ρ', f d ρ = .ok (some x) ρ' ∧ Q (k + i) x ∧ P ρ') → ∃ xs ρ', compL f ds ρ = .ok xs ρ' ∧ xs.length = ds.length ∧ (∀ i x, xs[i]? = some x → Q (k + i) x) ∧ P ρ'
  | [], k, ρ, h, _ => ⟨[], ρ, rfl, rfl, (fun i x h => by simp at h), h⟩
  | d :: ds, k, ρ, h, t => by
    obtain ⟨x, ρ1, e1, q1, p1⟩ := t 0 d ρ rfl h
    obtain ⟨xs, ρ2, e2, l2, q2, p2⟩ := compL_ix P Q ds (k + 1) ρ1 p1 fun i d ρ hd hp => by
      have := t (i + 1) d ρ (by simpa using hd) hp
      rwa [show k + (i + 1) = k + 1 + i by omega] at this
    refine ⟨x :: xs, ρ2, ?_, by simp [l2], fun i y hy => ?_, p2⟩
    · show (f d ρ).bind _ = _
      rw [e1, rb_ok, e2, rb_ok]
    · cases i with
      | zero =>
        have : x = y := by simpa using hy
        rw [← this]
        exact q1
      | succ i =>
        have := q2 i y (by simpa using hy)
        rwa [show k + (i + 1) = k + 1 + i by omega]
theorem compAll_ix {own : List Nat} {f : D → Fm → R (Option D)} (P : Fm → Prop) (Q : Nat → D → Prop) {ds : List D} {ρ : Fm} (hl : ds.length ≤ 16777216) (h : P ρ) (t : ∀ i d ρ, ds[i]? = some d → P ρ → ∃ x ρ', backR ρ own (f d (wipeF ρ own)) = .ok (some x) ρ' ∧ Q i x ∧ P ρ') :
    ∃ xs ρ', compAll own f ds [] ρ = .ok (.tmp xs) ρ' ∧ xs.length = ds.length ∧ (∀ i x, xs[i]? = some x → Q i x) ∧ P ρ' := by
  obtain ⟨xs, ρ', e, r1, r2, r3⟩ := compL_ix P Q ds 0 ρ h fun i d ρ hd hp => by
    have := t i d ρ hd hp
    rwa [show 0 + i = i by omega]
  refine ⟨xs, ρ', ?_, r1, fun i x hx => by have := r2 i x hx; rwa [Nat.zero_add] at this, r3⟩
  unfold compAll
  rw [if_pos (show fits ds.length = true from decide_eq_true hl), e]
  rfl
set_option maxHeartbeats 4000000
/-! _law_great_right -/
def cmE : IE := .ite (.cmp .eq (.bin .fdiv (.var 10) (.lit (.int 5))) (.var 1)) (.bin .add (.idx (.var 8) (.var 10)) (.var 1)) (.bin .sub (.bin .sub (.bin .add (.idx (.var 8) (.var 10)) (.var 1)) (.lit (.int 1))) (.call 26 (.cons (.var 0) (.cons (.lit (.int 9)) .nil))))
def cmB : IS := (.seq (.expr (.app 3 (.b1 .tuple (.comp cmE (.name 10) (.rng1 (.lit (.int 60)))))))
   .skip)
theorem cam_turn (n : Nat) {w : List Int} (hw : w.length = 60) (i : Nat) (hi : i < 12) (l : List D) (hc : CupOk l) (Cs : List (List Int)) (hl : Cs.length = i) (s1 : Sl) (f1 : free? (some s1) = true) :
    ∃ l' c, CupOk l' ∧ CamK w i c ∧ turnF (evC fs (n + 10)) (.name 1) cmB (.int (i : Int)) [.own l .lent, s1, .no, .own (Cs.map cm) .mine, .no, .no, .no, .no, .val (cm w), .no, .no, .no] = .ok .nx [.own l' .lent, .val (.int (i : Int)), .no, .own ((Cs ++ [c]).map cm) .mine, .no, .no, .no, .no, .val (cm w), .no, .no, .no] := by
  obtain ⟨xs, ρ', ec, lx, hx, l2, c2, rfl⟩ := compAll_ix (own := [10]) (f := itemF (evC fs (n + 10)) cmE (.name 10)) (fun ρ => ∃ l, CupOk l ∧ ρ = [.own l .lent, .val (.int (i : Int)), .no, .own (Cs.map cm) .mine, .no, .no, .no, .no, .val (cm w), .no, .no, .no])
    (fun p d => ∃ v : Int, d = .int v ∧ (p / 5 = i → v = w.getD p 0 + i) ∧ (p / 5 ≠ i → w.getD p 0 + i - 9 ≤ v ∧ v ≤ w.getD p 0 + i - 1)) (ds := (List.range 60).map fun p : Nat => PyData.int (p : Int)) (ρ := [.own l .lent, .val (.int (i : Int)), .no, .own (Cs.map cm) .mine, .no, .no, .no, .no, .val (cm w), .no, .no, .no]) (by rw [List.length_map, List.length_range]; omega) ⟨l, hc, rfl⟩ (by
    rintro p d ρ hd ⟨l, hc, rfl⟩
    have hp : p < 60 := by
      have := (List.getElem?_eq_some_iff.mp hd).1
      rwa [List.length_map, List.length_range] at this
    have ed : d = .int (p : Int) := by
      rw [List.getElem?_map, List.getElem?_range hp] at hd
      exact (Option.some.inj hd).symm
    subst ed
    obtain ⟨r, l3, c3, r0, r1, e1⟩ := t_roll (n + 9) l 9 hc (by omega) (by omega)
    have e1 : evC fs (n + 10) 26 _ = _ := e1
    have a1 : L2.atI (w.map PyData.int) (p : Int) = some (.int (w.getD p 0)) := at_int (by omega)
    have dv : divOk 5 = true := by decide +kernel
    have fv : ((p : Int)).fdiv 5 = ((p / 5 : Nat) : Int) := by
      rw [fdiv_pos (by omega)]
      omega
    have z := eq_ii ((p / 5 : Nat) : Int) (i : Int)
    generalize evC fs (n + 10) = C at *
    by_cases q : p / 5 = i
    · rw [decide_eq_true (by omega)] at z
      refine ⟨.int (w.getD p 0 + i), [.own l .lent, .val (.int (i : Int)), .no, .own (Cs.map cm) .mine, .no, .no, .no, .no, .val (cm w), .no, .no, .no], ?_, ⟨_, rfl, fun _ => rfl, fun h => absurd q h⟩, l, hc, rfl⟩
      generalize Cs.map cm = CC
      unfold cmE cm
      exists dv, fv, z, a1
    · rw [decide_eq_false (by omega)] at z
      refine ⟨.int (w.getD p 0 + i - 1 - r), [.own l3 .lent, .val (.int (i : Int)), .no, .own (Cs.map cm) .mine, .no, .no, .no, .no, .val (cm w), .no, .no, .no], ?_, ⟨_, rfl, fun h => absurd h q, fun _ => by omega⟩, l3, c3, rfl⟩
      generalize Cs.map cm = CC
      unfold cmE cm
      exists dv, fv, z, a1, e1)
  rw [List.length_map, List.length_range] at lx
  obtain ⟨c, rfl, lc, _⟩ := list_ex (xs := xs) PyData.int (P := fun _ => True) (fun x hx0 => by
    obtain ⟨k, hk⟩ := List.mem_iff_getElem?.mp hx0
    obtain ⟨v, e, _⟩ := hx k x hk
    exact ⟨v, e, trivial⟩)
  rw [List.length_map] at lx
  refine ⟨l2, c, c2, ⟨lx, fun p hp => ?_⟩, ?_⟩
  · have hg : (c.map PyData.int)[p]? = some (.int (c.getD p 0)) := by
      rw [List.getElem?_map, List.getElem?_eq_getElem (by omega), List.getD_eq_getElem?_getD, List.getElem?_eq_getElem (by omega)]
      rfl
    obtain ⟨v, e, h1, h2⟩ := hx p _ hg
    cases e
    exact ⟨h1, h2⟩
  · have rg : ∀ ρ, rg1 60 ρ = .ok ((List.range 60).map fun p : Nat => PyData.int (p : Int), []) ρ := rg1_at 60 (by omega)
    have ft : fits ((Cs.map cm).length + 1) = true := decide_eq_true (by rw [List.length_map]; omega)
    have ap : Cs.map cm ++ [.tuple (c.map .int)] = (Cs ++ [c]).map cm := by
      rw [List.map_append]
      rfl
    generalize (List.range 60).map (fun p : Nat => PyData.int (p : Int)) = R60 at *
    generalize evC fs (n + 10) = C at *
    generalize (Cs ++ [c]).map cm = CC2 at *
    generalize Cs.map cm = CC at *
    unfold cmB
    exists f1, rg, ec, ft, ap
theorem slo1_cms (cs : List (List Int)) : slV 1 (.tuple (cs.map cm)) = some (.val (.tuple ((cs.drop 1).map cm))) := by
  rw [slo1_any, List.map_drop]
theorem neg_comp (C : Nat → List Wk.Arg → RC) (ord : List Int) (hl : ord.length ≤ 1000) (a0 a1 a2 a3 a4 a5 a6 a7 a8 a10 a11 : Sl) :
    compAll [9] (itemF C (.neg (.var 9)) (.name 9)) (ord.map .int) [] [a0, a1, a2, a3, a4, a5, a6, a7, a8, .no, a10, a11] = .ok (.tmp ((ord.map fun a => -a).map .int)) [a0, a1, a2, a3, a4, a5, a6, a7, a8, .no, a10, a11] := by
  rw [mm_int, compAll_of0 (c := PyData.int) (k := fun a => .int (-a)) (by omega)]
  intro a _
  trivial
theorem less_comp (C : Nat → List Wk.Arg → RC) (w : List Int) (more : Int) (hl : w.length ≤ 1000) (a0 a1 a2 a3 a4 a5 a7 a8 a9 a10 : Sl) :
    compAll [11] (itemF C (.bin .sub (.var 11) (.var 6)) (.name 11)) (w.map .int) [] [a0, a1, a2, a3, a4, a5, .val (.int more), a7, a8, a9, a10, .no] = .ok (.tmp ((w.map fun v => v - more).map .int)) [a0, a1, a2, a3, a4, a5, .val (.int more), a7, a8, a9, a10, .no] := by
  rw [mm_int, compAll_of0 (c := PyData.int) (k := fun v => .int (v - more)) (by omega)]
  intro a _
  trivial
theorem own_comp (C : Nat → List Wk.Arg → RC) {cs : List (List Int)} {ns : List Int} (a0 a1 a2 a4 a5 a6 a7 a8 a10 a11 : Sl) (hn : ∀ v ∈ ns, 0 ≤ v ∧ v ≤ (cs.length : Int) - 1) (hl : ns.length ≤ 1000) :
    compAll [9] (itemF C (.idx (.var 3) (.var 9)) (.name 9)) (ns.map .int) [] [a0, a1, a2, .own (cs.map cm) .mine, a4, a5, a6, a7, a8, .no, a10, a11] = .ok (.tmp ((pick cs ns).map cm)) [a0, a1, a2, .own (cs.map cm) .mine, a4, a5, a6, a7, a8, .no, a10, a11] := by
  rw [pick_map, compAll_of0 (c := PyData.int) (k := fun a => cm (cs.getD a.toNat [])) (by omega)]
  intro a ha
  have e := (pick_at (hn a ha)).1
  generalize cs.map cm = CC at *
  exists e
set_option maxHeartbeats 8000000
/-! _law_great_right, the whole -/
theorem t_great (n : Nat) (l : List D) (hc : CupOk l) : ∃ l', CupOk l' ∧ evC fs (n + 11) 42 [.own l .lent] = .ok (.val (.bool true)) [l'] := by
  -- the wish
  obtain ⟨xs, ρ1, z1, lx, hx, l1, c1, rfl⟩ := compAll_st (own := [10]) (f := itemF (evC fs (n + 10)) (.call 26 (.cons (.var 0) (.cons (.lit (.int 1000)) .nil))) (.name 10))
    (fun ρ => ∃ l, CupOk l ∧ ρ = [.own l .lent, .no, .no, .no, .no, .no, .no, .no, .no, .no, .no, .no]) (fun d => ∃ v : Int, d = .int v ∧ (0 ≤ v ∧ v ≤ 999)) (ds := (List.range 60).map fun p : Nat => PyData.int (p : Int)) (ρ := [.own l .lent, .no, .no, .no, .no, .no, .no, .no, .no, .no, .no, .no]) (by rw [List.length_map, List.length_range]; omega) ⟨l, hc, rfl⟩ (by
    rintro d ρ _ ⟨l, hc, rfl⟩
    obtain ⟨r, l3, c3, r0, r1, e1⟩ := t_roll (n + 9) l 1000 hc (by omega) (by omega)
    have e1 : evC fs (n + 10) 26 _ = _ := e1
    generalize evC fs (n + 10) = C at *
    exact ⟨.int r, [.own l3 .lent, .no, .no, .no, .no, .no, .no, .no, .no, .no, .no, .no], (by exists e1), ⟨_, rfl, by omega⟩, l3, c3, rfl⟩)
  obtain ⟨w, rfl, lw, hwb⟩ := list_ex PyData.int hx
  rw [List.length_map, List.length_map, List.length_range] at lx
  -- the cams
  obtain ⟨ρ2, z2, l2, Cs, s1, c2, lC, hC, f1, rfl⟩ := forL_at (f := turnF (evC fs (n + 10)) (.name 1) cmB) (fun p : Nat => PyData.int (p : Int)) (List.range 12)
    (fun i ρ => ∃ l Cs s1, CupOk l ∧ Cs.length = i ∧ (∀ k c, Cs[k]? = some c → CamK w k c) ∧ free? (some s1) = true ∧ ρ = [.own l .lent, s1, .no, .own (Cs.map cm) .mine, .no, .no, .no, .no, .val (cm w), .no, .no, .no])
    [.own l1 .lent, .no, .no, .own [] .mine, .no, .no, .no, .no, .val (cm w), .no, .no, .no] ⟨l1, [], .no, c1, rfl, fun k c h => by simp at h, rfl, rfl⟩ (by
    rintro i p ρ hi ⟨l, Cs, s1, hc, lC, hC, f1, rfl⟩
    have hi' : i < 12 := by
      have := (List.getElem?_eq_some_iff.mp hi).1
      rwa [List.length_range] at this
    have ep : p = i := by
      rw [List.getElem?_range hi'] at hi
      exact (Option.some.inj hi).symm
    subst ep
    obtain ⟨l', c, c', ck, e⟩ := cam_turn n lx p hi' l hc Cs lC s1 f1
    refine ⟨_, e, l', Cs ++ [c], .val (.int (p : Int)), c', by rw [List.length_append, lC]; rfl, fun k d hk => ?_, rfl, rfl⟩
    by_cases q : k < Cs.length
    · rw [List.getElem?_append_left q] at hk
      exact hC k d hk
    · rw [List.getElem?_append_right (by omega)] at hk
      have hk2 : k - Cs.length = 0 := by
        have := (List.getElem?_eq_some_iff.mp hk).1
        simp at this
        omega
      rw [hk2] at hk
      have : c = d := by simpa using hk
      subst this
      have ek : k = p := by omega
      rw [ek]
      exact ck)
  rw [List.length_range] at lC
  -- their order
  obtain ⟨l3, ord, c3, hp, y3⟩ := t_mixed (n + 8) l2 c2
  have y3 : evC fs (n + 10) 31 _ = _ := y3
  have lo := ord_len lx lC hC hp
  have om := fun a h => ord_mem lx lC hC hp (a := a) h
  have oc := fun C a0 a1 a2 a4 a5 a6 a7 a8 a10 a11 => own_comp C (cs := Cs) (ns := ord) a0 a1 a2 a4 a5 a6 a7 a8 a10 a11 (fun v hv => by have := om v hv; omega) (by omega)
  have pb := pick_bd lx lC hC hp hwb
  have pg := pick_gr lx lC hC hp
  have pcv := pick_cov lx lC hC hp
  have pall := fun s hs hb => pick_all12 lx lC hC hp (s := s) hs hb
  obtain ⟨a0, ha0, hat0, hfb⟩ := first_bare lx lC hC hp
  have ba0 := om a0 ha0
  have pal := fun more s hs hb hm => alone_set lx lC hC hp more (s := s) hs hb hm
  have lpk : (pick Cs ord).length = 12 := by
    unfold pick
    rw [List.length_map, lo]
  generalize hcs : pick Cs ord = cs at *
  have hw : WOk 60 w := ⟨lx, fun h hh => by have := hwb h hh; omega⟩
  have ne0 : cs ≠ [] := fun h => by
    rw [h] at lpk
    cases lpk
  have ne1 : cs.drop 1 ≠ [] := fun h => by
    have := congrArg List.length h
    rw [List.length_drop, lpk] at this
    cases this
  have ok : CsOk 60 cs := ⟨by omega, ⟨by omega, by omega, ne0, fun c hc => (pb c hc).1⟩, by omega, fun c hc h hh => by have := (pb c hc).2 h hh; omega⟩
  have ok1 : CsOk 60 (cs.drop 1) := ⟨by omega, ⟨by omega, by rw [List.length_drop]; omega, ne1, fun c hc => (pb c (List.mem_of_mem_drop hc)).1⟩, by rw [List.length_drop]; omega, fun c hc h hh => by have := (pb c (List.mem_of_mem_drop hc)).2 h hh; omega⟩
  -- what the program tells of them
  have x17 : evC fs (n + 10) 17 _ = _ := t_greatest_shims ok hw (n + 3)
  have x18 : evC fs (n + 10) 18 _ = _ := t_shims_for ok hw (n + 3)
  rw [if_pos ((fol_iff hw.len ok.rect.2.2.1 ok.rect.2.2.2).mpr pcv)] at x18
  obtain ⟨r, hf, eF, eS⟩ := t_fewest ok hw (n + 3)
  have er : r = some (allS 12) := by
    have fI := few_iff ok hw hf
    cases hf with
    | none h => exact absurd ((fol_iff hw.len ok.rect.2.2.1 ok.rect.2.2.2).mpr pcv) (fI.mp rfl)
    | some hs hb _ =>
      rw [lpk] at hs
      rw [pall _ hs hb]
  subst er
  have x22 : evC fs (n + 10) 22 [.val (cms cs), .val (cm w)] = .ok (.val (.int 12)) [] := eF
  have x23 : evC fs (n + 10) 23 [.val (cms cs), .val (cm w)] = .ok (.val (cm (allS 12))) [] := eS
  have x19 : evC fs (n + 10) 19 _ = _ := t_bare_place ok1 hw (n + 3)
  have ncov : ¬ Cov 60 w (cs.drop 1) := fun h => by
    obtain ⟨c, hc, e⟩ := h (5 * a0.toNat) (by omega)
    rw [hfb c hc] at e
    cases e
  obtain ⟨p0, ps, hpl⟩ : ∃ p0 ps, pls 60 (fol 60 (cs.drop 1) (gr (cs.drop 1) w)) w = p0 :: ps := by
    cases h : pls 60 (fol 60 (cs.drop 1) (gr (cs.drop 1) w)) w with
    | nil => exact absurd ((fol_iff hw.len ok1.rect.2.2.1 ok1.rect.2.2.2).mp ((pls_iff hw.len ok1.rect.2.2.1 ok1.rect.2.2.2).mp h)) ncov
    | cons a b => exact ⟨a, b, rfl⟩
  rw [hpl] at x19
  have x19 : evC fs (n + 10) 19 [.val (cms (cs.drop 1)), .val (cm w)] = .ok (.val (.int (p0 : Int))) [] := x19
  have x21 : evC fs (n + 10) 21 _ = _ := t_is_bare ok1 hw (n + 3) (.int (5 * a0)) (fun x h => nomatch h)
  have hbp : bpB 60 (fol 60 (cs.drop 1) (gr (cs.drop 1) w)) w (.int (5 * a0)) = true := by
    obtain ⟨e1, e2⟩ := fol_le hw.len ok1.rect.2.2.1 ok1.rect.2.2.2 (p := (5 * a0).toNat) (by omega)
    have en : ¬ ∃ c ∈ cs.drop 1, rch w c (5 * a0).toNat = true := by
      rintro ⟨c, hc, e⟩
      rw [show (5 * a0).toNat = 5 * a0.toNat by omega, hfb c hc] at e
      cases e
    have : ¬ (fol 60 (cs.drop 1) (gr (cs.drop 1) w)).getD (5 * a0).toNat 0 = w.getD (5 * a0).toNat 0 := fun h => en (e2.mp h)
    show ((decide _ && decide _) && decide _) = true
    rw [decide_eq_true (by omega), decide_eq_true (by omega), decide_eq_true (by omega)]
    rfl
  rw [hbp] at x21
  -- the one that does alone
  obtain ⟨mr, l4, c4, m0, m1, y4⟩ := t_roll (n + 9) l3 2001 c3 (by omega) (by omega)
  have y4 : evC fs (n + 10) 26 _ = _ := y4
  generalize hmore : mr - 1000 = more at *
  have asc := alone_sc lx more
  have okA : CsOk 60 (cs.take 11 ++ [w.map fun v => v - more]) := by
    have memb : ∀ c ∈ cs.take 11 ++ [w.map fun v => v - more], c.length = 60 ∧ ∀ h ∈ c, -1000000 ≤ h ∧ h ≤ 1000000 := fun c hc => by
      rcases List.mem_append.mp hc with hc | hc
      · have := pb c (List.mem_of_mem_take hc)
        exact ⟨this.1, fun h hh => by have := this.2 h hh; omega⟩
      · rw [List.mem_singleton] at hc
        subst hc
        refine ⟨by rw [List.length_map, lx], fun h hh => ?_⟩
        obtain ⟨v, hv, rfl⟩ := List.mem_map.mp hh
        have := hwb v hv
        omega
    have ll : (cs.take 11 ++ [w.map fun v => v - more]).length = 12 := by
      rw [List.length_append, List.length_take, lpk]
      rfl
    have ne2 : cs.take 11 ++ [w.map fun v => v - more] ≠ [] := by simp
    exact ⟨by omega, ⟨by omega, by omega, ne2, fun c hc => (memb c hc).1⟩, by omega, fun c hc => (memb c hc).2⟩
  have lal : (cs.take 11 ++ [w.map fun v => v - more]).length = 12 := by
    rw [List.length_append, List.length_take, lpk]
    rfl
  obtain ⟨r2, hf2, eF2, eS2⟩ := t_fewest okA hw (n + 3)
  have g11 : (cs.take 11 ++ [w.map fun v => v - more]).getD 11 [] = w.map fun v => v - more := by
    rw [List.getD_eq_getElem?_getD, List.getElem?_append_right (by rw [List.length_take]; omega), List.length_take, lpk]
    rfl
  have in11 : ([11] : List Int) ∈ subs 12 := subs_all 12 _ (fun v hv => by
    rw [List.mem_singleton] at hv
    omega) (List.pairwise_singleton _ _)
  have fu11 : fuB 60 (cs.take 11 ++ [w.map fun v => v - more]) w [11] = true := fu_covG.mpr fun p hp => ⟨w.map fun v => v - more, by
    show w.map (fun v => v - more) ∈ [(cs.take 11 ++ [w.map fun v => v - more]).getD (11 : Int).toNat []]
    rw [show (11 : Int).toNat = 11 from rfl, g11]
    exact List.mem_singleton.mpr rfl, asc.2 p hp⟩
  have er2 : r2 = some [11] := by
    cases hf2 with
    | none h =>
      rw [lal] at h
      have := h _ in11
      rw [fu11] at this
      cases this
    | some hs hb hm =>
      rw [lal] at hs hm
      rw [pal more _ hs hb (hm _ in11 fu11)]
  subst er2
  have x22a : evC fs (n + 10) 22 [.val (cms (cs.take 11 ++ [w.map fun v => v - more])), .val (cm w)] = .ok (.val (.int 1)) [] := eF2
  have x23a : evC fs (n + 10) 23 [.val (cms (cs.take 11 ++ [w.map fun v => v - more])), .val (cm w)] = .ok (.val (.tuple [.int 11])) [] := eS2
  have x17a : evC fs (n + 10) 17 _ = _ := t_greatest_shims okA hw (n + 3)
  have at11 : L2.atI ((gr (cs.take 11 ++ [w.map fun v => v - more]) w).map PyData.int) 11 = some (.int more) := by
    have := at_int (l := gr (cs.take 11 ++ [w.map fun v => v - more]) w) (p := 11) (by rw [gr_len, lal]; omega)
    rw [show ((11 : Nat) : Int) = 11 from rfl] at this
    rw [this]
    congr 2
    rw [List.getD_eq_getElem?_getD, show gr (cs.take 11 ++ [w.map fun v => v - more]) w = (cs.take 11 ++ [w.map fun v => v - more]).map (sc w) from rfl, List.getElem?_map]
    have : (cs.take 11 ++ [w.map fun v => v - more])[11]? = some (w.map fun v => v - more) := by
      rw [List.getElem?_append_right (by rw [List.length_take]; omega), List.length_take, lpk]
      rfl
    rw [this]
    exact asc.1
  obtain ⟨l5, c5, y5⟩ := t_right ok hw n l4 c4
  refine ⟨l5, c5, ?_⟩
  have rg60 : ∀ ρ, rg1 60 ρ = .ok ((List.range 60).map fun p : Nat => PyData.int (p : Int), []) ρ := rg1_at 60 (by omega)
  have rg12 : ∀ ρ, rg1 12 ρ = .ok ((allS 12).map PyData.int, []) ρ := fun ρ => by
    rw [← allS_map]
    exact rg1_at 12 (by omega) ρ
  have l12 : ((allS 12).map PyData.int).length = 12 := rfl
  have mL12 : ∀ ρ, mkL ((allS 12).map PyData.int) ρ = .ok (.tmp ((allS 12).map PyData.int)) ρ := mkL_ok (by omega)
  have mT12 : ∀ ρ, mkT ((allS 12).map PyData.int) ρ = .ok (.val (.tuple ((allS 12).map PyData.int))) ρ := mkT_ok (by omega)
  rw [allS_map] at z2
  rw [pg] at x17 x18
  have sl := slo1_cms cs
  have isn : cmpD .isN (.int (p0 : Int)) .none = some false := rfl
  have nc := fun C a0 a1 a2 a3 a4 a5 a6 a7 a8 a10 a11 => neg_comp C ord (by omega) a0 a1 a2 a3 a4 a5 a6 a7 a8 a10 a11
  have lc := fun C a0 a1 a2 a3 a4 a5 a7 a8 a9 a10 => less_comp C w more (by omega) a0 a1 a2 a3 a4 a5 a7 a8 a9 a10
  have mm : mulOk 5 a0 = true := mulOk_of (by omega) (by omega)
  have hat : L2.atI (ord.map PyData.int) 0 = some (.int a0) := by
    have := at_int (l := ord) (p := 0) (by omega)
    rw [show ((0 : Nat) : Int) = 0 from rfl, List.getD_eq_getElem?_getD, hat0] at this
    exact this
  have s11 : shV 11 (.tuple (cs.map cm)) = some (.val (.tuple ((cs.take 11).map cm))) := by
    rw [sh_t (by omega) (by rw [List.length_map, lpk]; decide), List.map_take]
    rfl
  have f11 : fits (((cs.take 11).map cm).length + (0 + 1)) = true := decide_eq_true (by rw [List.length_map, List.length_take]; omega)
  have ap : (cs.take 11).map cm ++ [.tuple ((w.map fun v => v - more).map PyData.int)] = (cs.take 11 ++ [w.map fun v => v - more]).map cm := by
    rw [List.map_append]
    rfl
  have gNG : gd 1 (cm (ord.map fun a => -a)) = true := gd_cm (by rw [List.length_map]; omega)
  have LO : evC fs (n + 10) 29 _ = _ := like_ov (n + 8) [cm (ord.map fun a => -a), cm (ord.map fun a => -a), .int 12, cm (allS 12), .bool false] (by simp) (fun x hx => t_like 1 (n + 6) x (by
    simp only [List.mem_cons, List.not_mem_nil, or_false] at hx
    rcases hx with rfl | rfl | rfl | rfl | rfl
    · exact gNG
    · exact gNG
    · rfl
    · exact gd_cm (by decide)
    · rfl))
  have LO2 : evC fs (n + 10) 29 _ = _ := like_ov (n + 8) [.int 1, .tuple [.int 11], .int more] (by simp) (fun x hx => t_like 1 (n + 6) x (by
    simp only [List.mem_cons, List.not_mem_nil, or_false] at hx
    rcases hx with rfl | rfl | rfl
    · rfl
    · exact gd_cm (c := [11]) (by decide)
    · rfl))
  have mTL : ∀ ρ, mkL [cm (ord.map fun a => -a), cm (ord.map fun a => -a), .int 12, cm (allS 12), .bool false] ρ = .ok (.tmp [cm (ord.map fun a => -a), cm (ord.map fun a => -a), .int 12, cm (allS 12), .bool false]) ρ := mkL_ok (by simp)
  have mTL2 : ∀ ρ, mkL [.int 1, .tuple [.int 11], .int more] ρ = .ok (.tmp [.int 1, .tuple [.int 11], .int more]) ρ := mkL_ok (by simp)
  clear hx hwb hC hp om pb pcv pall hfb pal ok ok1 okA hf hf2 eF eS eF2 eS2 asc hw ncov hpl hbp lal g11 in11 fu11 lo ha0 hat0 pg gNG
  generalize gr (cs.take 11 ++ [w.map fun v => v - more]) w = gA at *
  rw [u__law_great_right]
  unfold cmB cmE at z2
  generalize evC fs (n + 10) = C at *
  generalize ord.map (fun a => -a) = NG at *
  generalize (List.range 60).map (fun p : Nat => PyData.int (p : Int)) = R60 at *
  generalize cs.take 11 ++ [w.map fun v => v - more] = al at *
  generalize (w.map fun v => v - more) = wm at *
  unfold b__law_great_right
  unfold cms at *
  generalize Cs.map cm = CC at *
  generalize cs.map cm = cc at *
  generalize (cs.drop 1).map cm = cd at *
  generalize (cs.take 11).map cm = ct at *
  generalize al.map cm = ca at *
  unfold cm at *
  generalize (allS 12).map PyData.int = R12 at *
  exists rg60, z1, rg12, z2, mL12, y3, oc, x17, x18, x22, x23, sl, x19, isn, mTL, nc, mT12, LO, mm, hat, x21, y4, hmore, s11, lc, f11, ap, x22a, x23a, x17a, at11, mTL2, LO2, y5
set_option maxHeartbeats 0
theorem t_written : evC fs 59 43 [] = .ok (.val (.bool true)) [] := by kernel_rfl
def lwB : IS := (.seq (.ite (.not (.call 41 (.cons (.var 1) .nil)))
     (.seq (.ret (.lit (.bool false)))
     .skip)
     .skip)
   .skip)
theorem lw_turn (s d : D) (l : List D) (s2 : Sl) (hl : CupOk l) (f2 : free? (some s2) = true) : ∃ l', CupOk l' ∧ turnF (evC fs 59) (.name 2) lwB d [.val s, .own l .mine, s2] = .ok .nx [.val s, .own l' .mine, .val d] := by
  obtain ⟨l', c', e⟩ := t_small 48 l hl
  have e : evC fs 59 41 _ = _ := e
  refine ⟨l', c', ?_⟩
  generalize evC fs 59 = C at *
  unfold lwB
  exists f2, e
theorem math : ∀ ns : List Int, ns.length ≤ 63 → (∀ i ∈ ns, PySem.Builtin.Int.intBits i ≤ 1048576) → evC fs 60 44 (scriptA ns) = .ok (.val (.bool true)) [] := by
  intro ns h1 h2
  unfold scriptA
  obtain ⟨l, c, e0⟩ := t_cup 58 ns h1 h2
  have e0 : evC fs 59 25 _ = _ := e0
  have ew := t_written
  generalize PyData.list (ns.map PyData.int) = s at e0 ⊢
  have g5 : ∀ ρ, rg1 5 ρ = .ok (rangeL 0 1 (5 : Int).toNat, []) ρ := fun ρ => rg1_ok (by decide) (by decide) ρ
  obtain ⟨ρ1, la, l1, s2, f2, c1, rfl⟩ := forL_inv (f := turnF (evC fs 59) (.name 2) lwB) (fun _ ρ => ∃ l s2, free? (some s2) = true ∧ CupOk l ∧ ρ = [.val s, .own l .mine, s2]) (rangeL 0 1 (5 : Int).toNat) [.val s, .own l .mine, .no] ⟨l, .no, rfl, c, rfl⟩ (by
    rintro i ρ hi ⟨l, s2, f2, c, rfl⟩
    obtain ⟨l', c', e⟩ := lw_turn s (rangeL 0 1 (5 : Int).toNat)[i] l s2 c f2
    exact ⟨_, e, _, _, rfl, c', rfl⟩)
  obtain ⟨l2, c2, eg⟩ := t_great 48 l1 c1
  have eg : evC fs 59 42 _ = _ := eg
  unfold lwB at la
  rw [u_law]
  unfold b_law
  generalize evC fs 59 = C at *
  exists e0, eg, ew, g5, la
end Wk48
namespace Wk48
open PySem PySem.Spec L2 Wk
def top (i : Nat) : Stmt := PySem.Challenge.pw_wheelmark_k48_whole_shims.main.body.getD i (.Pass ⟨0, 0, 0, 0⟩)
def dD (i : Nat) (x : Str) : He.DefD := ⟨(x, none), x, x, defArgs (top i), defBody (top i), defScope (top i), [], []⟩
def dfs : List Df := [⟨dD 5 "is_whole", (["value", "low", "high"] : List Str), (["value", "low", "high"] : List Str)⟩,
  ⟨dD 6 "is_tuple_of", (["value", "low", "high"] : List Str), (["value", "low", "high"] : List Str)⟩,
  ⟨dD 7 "is_ascending", (["values", "one", "other"] : List Str), (["values"] : List Str)⟩,
  ⟨dD 8 "is_set_below", (["value", "many", "one"] : List Str), (["value", "many"] : List Str)⟩,
  ⟨dD 9 "are_wholes", (["value", "many", "low", "high", "one"] : List Str), (["value", "many", "low", "high"] : List Str)⟩,
  ⟨dD 13 "is_ring", (["value", "most", "height", "one"] : List Str), (["value", "most", "height"] : List Str)⟩,
  ⟨dD 14 "need_cam", (["value"] : List Str), (["value"] : List Str)⟩,
  ⟨dD 15 "is_cam", (["value"] : List Str), (["value"] : List Str)⟩,
  ⟨dD 19 "are_together", (["value", "cam"] : List Str), (["value"] : List Str)⟩,
  ⟨dD 20 "need_cams", (["value"] : List Str), (["value"] : List Str)⟩,
  ⟨dD 21 "need_wish", (["cams", "wish"] : List Str), (["cams", "wish"] : List Str)⟩,
  ⟨dD 22 "follows", (["cams", "shims", "rows", "height", "cam", "shim", "place", "row"] : List Str), (["cams", "shims"] : List Str)⟩,
  ⟨dD 23 "greatest_in", (["cams", "wish", "cam", "high", "own"] : List Str), (["cams", "wish"] : List Str)⟩,
  ⟨dD 24 "reached", (["cams", "wish", "found", "cam", "shim", "place", "height"] : List Str), (["cams", "wish"] : List Str)⟩,
  ⟨dD 25 "few_in", (["cams", "wish", "sets", "good", "marks", "full", "at", "own", "some", "mark"] : List Str), (["cams", "wish"] : List Str)⟩,
  ⟨dD 26 "are_cams", (["value"] : List Str), (["value"] : List Str)⟩,
  ⟨dD 27 "follower", (["cams", "shims"] : List Str), (["cams", "shims"] : List Str)⟩,
  ⟨dD 28 "greatest_shims", (["cams", "wish"] : List Str), (["cams", "wish"] : List Str)⟩,
  ⟨dD 29 "shims_for", (["cams", "wish", "shims"] : List Str), (["cams", "wish"] : List Str)⟩,
  ⟨dD 30 "bare_place", (["cams", "wish", "high", "some", "place", "height"] : List Str), (["cams", "wish"] : List Str)⟩,
  ⟨dD 31 "are_shims", (["cams", "wish", "value"] : List Str), (["cams", "wish", "value"] : List Str)⟩,
  ⟨dD 32 "is_bare_place", (["cams", "wish", "value"] : List Str), (["cams", "wish", "value"] : List Str)⟩,
  ⟨dD 33 "fewest_cams", (["cams", "wish", "some"] : List Str), (["cams", "wish"] : List Str)⟩,
  ⟨dD 34 "few_set", (["cams", "wish"] : List Str), (["cams", "wish"] : List Str)⟩,
  ⟨dD 35 "does_set", (["cams", "wish", "value", "some", "at"] : List Str), (["cams", "wish", "value"] : List Str)⟩,
  ⟨dD 37 "_law_cup", (["script", "cell"] : List Str), (["script"] : List Str)⟩,
  ⟨dD 38 "_law_roll", (["cup", "many", "deep", "found"] : List Str), (["cup", "many"] : List Str)⟩,
  ⟨dD 39 "_law_some", (["cup", "things"] : List Str), (["cup", "things"] : List Str)⟩,
  ⟨dD 40 "_law_sort", (["value"] : List Str), (["value"] : List Str)⟩,
  ⟨dD 41 "_law_like", (["one", "other", "sort", "first", "second"] : List Str), (["one", "other"] : List Str)⟩,
  ⟨dD 42 "_law_bent", (["cup", "value", "way", "at"] : List Str), (["cup", "value"] : List Str)⟩,
  ⟨dD 43 "_law_mixed", (["cup", "things", "turn", "left", "found"] : List Str), (["cup", "things"] : List Str)⟩,
  ⟨dD 44 "_law_whole", (["value", "low", "high"] : List Str), (["value", "low", "high"] : List Str)⟩,
  ⟨dD 45 "_law_cam", (["cup", "many", "top", "place"] : List Str), (["cup", "many", "top"] : List Str)⟩,
  ⟨dD 46 "_law_follows", (["cams", "shims", "place", "cam", "shim"] : List Str), (["cams", "shims"] : List Str)⟩,
  ⟨dD 47 "_law_greatest", (["cams", "wish", "cam", "high", "own"] : List Str), (["cams", "wish"] : List Str)⟩,
  ⟨dD 48 "_law_are_shims", (["cams", "wish", "value", "one"] : List Str), (["cams", "wish", "value"] : List Str)⟩,
  ⟨dD 49 "_law_does", (["cams", "wish", "value", "some", "at"] : List Str), (["cams", "wish", "value"] : List Str)⟩,
  ⟨dD 50 "_law_are_cams", (["value", "cam", "one"] : List Str), (["value"] : List Str)⟩,
  ⟨dD 51 "_law_right", (["cup", "cams", "wish", "high", "places", "value", "values", "most", "bare", "told"] : List Str) ++ (["every", "few", "some", "place", "one", "other"] : List Str), (["cup", "cams", "wish"] : List Str)⟩,
  ⟨dD 52 "_law_few", (["cams", "wish", "at", "some", "sets", "best"] : List Str), (["cams", "wish"] : List Str)⟩,
  ⟨dD 53 "_law_small_right", (["cup", "cams", "shims", "wish", "at", "moved", "one", "value", "many", "heights"] : List Str) ++ (["top", "cam", "turn"] : List Str), (["cup"] : List Str)⟩,
  ⟨dD 54 "_law_great_right", (["cup", "cam", "order", "cams", "told", "shims", "more", "alone", "wish", "at"] : List Str) ++ (["place", "height"] : List Str), (["cup"] : List Str)⟩,
  ⟨dD 55 "_law_written_right", (["some", "told"] : List Str), ([] : List Str)⟩,
  ⟨dD 56 "law", (["script", "cup", "turn"] : List Str), (["script"] : List Str)⟩]
def gs : List (Str × GK) := ([("is_whole", .fn 0), ("is_tuple_of", .fn 1), ("is_ascending", .fn 2), ("is_set_below", .fn 3), ("are_wholes", .fn 4), ("is_ring", .fn 5), ("need_cam", .fn 6), ("is_cam", .fn 7), ("are_together", .fn 8), ("need_cams", .fn 9), ("need_wish", .fn 10), ("follows", .fn 11), ("greatest_in", .fn 12), ("reached", .fn 13), ("few_in", .fn 14), ("are_cams", .fn 15), ("follower", .fn 16), ("greatest_shims", .fn 17), ("shims_for", .fn 18), ("bare_place", .fn 19)] : List (Str × GK)) ++
  ([("are_shims", .fn 20), ("is_bare_place", .fn 21), ("fewest_cams", .fn 22), ("few_set", .fn 23), ("does_set", .fn 24), ("_law_cup", .fn 25), ("_law_roll", .fn 26), ("_law_some", .fn 27), ("_law_sort", .fn 28), ("_law_like", .fn 29), ("_law_bent", .fn 30), ("_law_mixed", .fn 31), ("_law_whole", .fn 32), ("_law_cam", .fn 33), ("_law_follows", .fn 34), ("_law_greatest", .fn 35), ("_law_are_shims", .fn 36), ("_law_does", .fn 37), ("_law_are_cams", .fn 38), ("_law_right", .fn 39)] : List (Str × GK)) ++
  ([("_law_few", .fn 40), ("_law_small_right", .fn 41), ("_law_great_right", .fn 42), ("_law_written_right", .fn 43), ("law", .fn 44), ("abs", .free), ("all", .free), ("bool", .free), ("enumerate", .free), ("int", .free), ("isinstance", .free), ("len", .free), ("list", .free), ("max", .free), ("min", .free), ("range", .free), ("set", .free), ("sorted", .free), ("str", .free), ("sum", .free)] : List (Str × GK)) ++
  ([("tuple", .free), ("zip", .free), ("CAMS", .int 12), ("HEIGHT", .int 1000000), ("PLACES", .int 60), ("SHIM", .int 10000000)] : List (Str × GK))
def loose : List Str := (["__name__", "ClockError", "InvalidCam", "InvalidShims", "is_whole", "is_tuple_of", "is_ascending", "is_set_below", "are_wholes", "PLACES"] : List Str) ++ (["HEIGHT", "is_ring", "need_cam", "is_cam", "CAMS", "SHIM", "are_together", "need_cams", "need_wish", "follows"] : List Str) ++ (["greatest_in", "reached", "few_in", "are_cams", "follower", "greatest_shims", "shims_for", "bare_place", "are_shims", "is_bare_place"] : List Str) ++ (["fewest_cams", "few_set", "does_set", "_law_cup", "_law_roll", "_law_some", "_law_sort", "_law_like", "_law_bent", "_law_mixed"] : List Str) ++ (["_law_whole", "_law_cam", "_law_follows", "_law_greatest", "_law_are_shims", "_law_does", "_law_are_cams", "_law_right", "_law_few", "_law_small_right"] : List Str) ++ (["_law_great_right", "_law_written_right"] : List Str)
abbrev R : PySem.W.OpenRow := PySem.W.OpenLaw.row PySem.Challenge.rw_wheelmark_k48_whole_shims
theorem chk : allOk gs dfs fs = true := by kernel_rfl
theorem gsk : gsB dfs gs = true := by kernel_rfl
theorem bd_is_whole : BindD ⟨dD 5 "is_whole", (["value", "low", "high"] : List Str), (["value", "low", "high"] : List Str)⟩ := fun _ _ _ _ _ _ us hl => match us, hl with | [_, _, _], _ => rfl
theorem bd_is_tuple_of : BindD ⟨dD 6 "is_tuple_of", (["value", "low", "high"] : List Str), (["value", "low", "high"] : List Str)⟩ := fun _ _ _ _ _ _ us hl => match us, hl with | [_, _, _], _ => rfl
theorem bd_is_ascending : BindD ⟨dD 7 "is_ascending", (["values", "one", "other"] : List Str), (["values"] : List Str)⟩ := fun _ _ _ _ _ _ us hl => match us, hl with | [_], _ => rfl
theorem bd_is_set_below : BindD ⟨dD 8 "is_set_below", (["value", "many", "one"] : List Str), (["value", "many"] : List Str)⟩ := fun _ _ _ _ _ _ us hl => match us, hl with | [_, _], _ => rfl
theorem bd_are_wholes : BindD ⟨dD 9 "are_wholes", (["value", "many", "low", "high", "one"] : List Str), (["value", "many", "low", "high"] : List Str)⟩ := fun _ _ _ _ _ _ us hl => match us, hl with | [_, _, _, _], _ => rfl
theorem bd_is_ring : BindD ⟨dD 13 "is_ring", (["value", "most", "height", "one"] : List Str), (["value", "most", "height"] : List Str)⟩ := fun _ _ _ _ _ _ us hl => match us, hl with | [_, _, _], _ => rfl
theorem bd_need_cam : BindD ⟨dD 14 "need_cam", (["value"] : List Str), (["value"] : List Str)⟩ := fun _ _ _ _ _ _ us hl => match us, hl with | [_], _ => rfl
theorem bd_is_cam : BindD ⟨dD 15 "is_cam", (["value"] : List Str), (["value"] : List Str)⟩ := fun _ _ _ _ _ _ us hl => match us, hl with | [_], _ => rfl
theorem bd_are_together : BindD ⟨dD 19 "are_together", (["value", "cam"] : List Str), (["value"] : List Str)⟩ := fun _ _ _ _ _ _ us hl => match us, hl with | [_], _ => rfl
theorem bd_need_cams : BindD ⟨dD 20 "need_cams", (["value"] : List Str), (["value"] : List Str)⟩ := fun _ _ _ _ _ _ us hl => match us, hl with | [_], _ => rfl
theorem bd_need_wish : BindD ⟨dD 21 "need_wish", (["cams", "wish"] : List Str), (["cams", "wish"] : List Str)⟩ := fun _ _ _ _ _ _ us hl => match us, hl with | [_, _], _ => rfl
theorem bd_follows : BindD ⟨dD 22 "follows", (["cams", "shims", "rows", "height", "cam", "shim", "place", "row"] : List Str), (["cams", "shims"] : List Str)⟩ := fun _ _ _ _ _ _ us hl => match us, hl with | [_, _], _ => rfl
theorem bd_greatest_in : BindD ⟨dD 23 "greatest_in", (["cams", "wish", "cam", "high", "own"] : List Str), (["cams", "wish"] : List Str)⟩ := fun _ _ _ _ _ _ us hl => match us, hl with | [_, _], _ => rfl
theorem bd_reached : BindD ⟨dD 24 "reached", (["cams", "wish", "found", "cam", "shim", "place", "height"] : List Str), (["cams", "wish"] : List Str)⟩ := fun _ _ _ _ _ _ us hl => match us, hl with | [_, _], _ => rfl
theorem bd_few_in : BindD ⟨dD 25 "few_in", (["cams", "wish", "sets", "good", "marks", "full", "at", "own", "some", "mark"] : List Str), (["cams", "wish"] : List Str)⟩ := fun _ _ _ _ _ _ us hl => match us, hl with | [_, _], _ => rfl
theorem bd_are_cams : BindD ⟨dD 26 "are_cams", (["value"] : List Str), (["value"] : List Str)⟩ := fun _ _ _ _ _ _ us hl => match us, hl with | [_], _ => rfl
theorem bd_follower : BindD ⟨dD 27 "follower", (["cams", "shims"] : List Str), (["cams", "shims"] : List Str)⟩ := fun _ _ _ _ _ _ us hl => match us, hl with | [_, _], _ => rfl
theorem bd_greatest_shims : BindD ⟨dD 28 "greatest_shims", (["cams", "wish"] : List Str), (["cams", "wish"] : List Str)⟩ := fun _ _ _ _ _ _ us hl => match us, hl with | [_, _], _ => rfl
theorem bd_shims_for : BindD ⟨dD 29 "shims_for", (["cams", "wish", "shims"] : List Str), (["cams", "wish"] : List Str)⟩ := fun _ _ _ _ _ _ us hl => match us, hl with | [_, _], _ => rfl
theorem bd_bare_place : BindD ⟨dD 30 "bare_place", (["cams", "wish", "high", "some", "place", "height"] : List Str), (["cams", "wish"] : List Str)⟩ := fun _ _ _ _ _ _ us hl => match us, hl with | [_, _], _ => rfl
theorem bd_are_shims : BindD ⟨dD 31 "are_shims", (["cams", "wish", "value"] : List Str), (["cams", "wish", "value"] : List Str)⟩ := fun _ _ _ _ _ _ us hl => match us, hl with | [_, _, _], _ => rfl
theorem bd_is_bare_place : BindD ⟨dD 32 "is_bare_place", (["cams", "wish", "value"] : List Str), (["cams", "wish", "value"] : List Str)⟩ := fun _ _ _ _ _ _ us hl => match us, hl with | [_, _, _], _ => rfl
theorem bd_fewest_cams : BindD ⟨dD 33 "fewest_cams", (["cams", "wish", "some"] : List Str), (["cams", "wish"] : List Str)⟩ := fun _ _ _ _ _ _ us hl => match us, hl with | [_, _], _ => rfl
theorem bd_few_set : BindD ⟨dD 34 "few_set", (["cams", "wish"] : List Str), (["cams", "wish"] : List Str)⟩ := fun _ _ _ _ _ _ us hl => match us, hl with | [_, _], _ => rfl
theorem bd_does_set : BindD ⟨dD 35 "does_set", (["cams", "wish", "value", "some", "at"] : List Str), (["cams", "wish", "value"] : List Str)⟩ := fun _ _ _ _ _ _ us hl => match us, hl with | [_, _, _], _ => rfl
theorem bd__law_cup : BindD ⟨dD 37 "_law_cup", (["script", "cell"] : List Str), (["script"] : List Str)⟩ := fun _ _ _ _ _ _ us hl => match us, hl with | [_], _ => rfl
theorem bd__law_roll : BindD ⟨dD 38 "_law_roll", (["cup", "many", "deep", "found"] : List Str), (["cup", "many"] : List Str)⟩ := fun _ _ _ _ _ _ us hl => match us, hl with | [_, _], _ => rfl
theorem bd__law_some : BindD ⟨dD 39 "_law_some", (["cup", "things"] : List Str), (["cup", "things"] : List Str)⟩ := fun _ _ _ _ _ _ us hl => match us, hl with | [_, _], _ => rfl
theorem bd__law_sort : BindD ⟨dD 40 "_law_sort", (["value"] : List Str), (["value"] : List Str)⟩ := fun _ _ _ _ _ _ us hl => match us, hl with | [_], _ => rfl
theorem bd__law_like : BindD ⟨dD 41 "_law_like", (["one", "other", "sort", "first", "second"] : List Str), (["one", "other"] : List Str)⟩ := fun _ _ _ _ _ _ us hl => match us, hl with | [_, _], _ => rfl
theorem bd__law_bent : BindD ⟨dD 42 "_law_bent", (["cup", "value", "way", "at"] : List Str), (["cup", "value"] : List Str)⟩ := fun _ _ _ _ _ _ us hl => match us, hl with | [_, _], _ => rfl
theorem bd__law_mixed : BindD ⟨dD 43 "_law_mixed", (["cup", "things", "turn", "left", "found"] : List Str), (["cup", "things"] : List Str)⟩ := fun _ _ _ _ _ _ us hl => match us, hl with | [_, _], _ => rfl
theorem bd__law_whole : BindD ⟨dD 44 "_law_whole", (["value", "low", "high"] : List Str), (["value", "low", "high"] : List Str)⟩ := fun _ _ _ _ _ _ us hl => match us, hl with | [_, _, _], _ => rfl
theorem bd__law_cam : BindD ⟨dD 45 "_law_cam", (["cup", "many", "top", "place"] : List Str), (["cup", "many", "top"] : List Str)⟩ := fun _ _ _ _ _ _ us hl => match us, hl with | [_, _, _], _ => rfl
theorem bd__law_follows : BindD ⟨dD 46 "_law_follows", (["cams", "shims", "place", "cam", "shim"] : List Str), (["cams", "shims"] : List Str)⟩ := fun _ _ _ _ _ _ us hl => match us, hl with | [_, _], _ => rfl
theorem bd__law_greatest : BindD ⟨dD 47 "_law_greatest", (["cams", "wish", "cam", "high", "own"] : List Str), (["cams", "wish"] : List Str)⟩ := fun _ _ _ _ _ _ us hl => match us, hl with | [_, _], _ => rfl
theorem bd__law_are_shims : BindD ⟨dD 48 "_law_are_shims", (["cams", "wish", "value", "one"] : List Str), (["cams", "wish", "value"] : List Str)⟩ := fun _ _ _ _ _ _ us hl => match us, hl with | [_, _, _], _ => rfl
theorem bd__law_does : BindD ⟨dD 49 "_law_does", (["cams", "wish", "value", "some", "at"] : List Str), (["cams", "wish", "value"] : List Str)⟩ := fun _ _ _ _ _ _ us hl => match us, hl with | [_, _, _], _ => rfl
theorem bd__law_are_cams : BindD ⟨dD 50 "_law_are_cams", (["value", "cam", "one"] : List Str), (["value"] : List Str)⟩ := fun _ _ _ _ _ _ us hl => match us, hl with | [_], _ => rfl
theorem bd__law_right : BindD ⟨dD 51 "_law_right", (["cup", "cams", "wish", "high", "places", "value", "values", "most", "bare", "told"] : List Str) ++ (["every", "few", "some", "place", "one", "other"] : List Str), (["cup", "cams", "wish"] : List Str)⟩ := fun _ _ _ _ _ _ us hl => match us, hl with | [_, _, _], _ => rfl
theorem bd__law_few : BindD ⟨dD 52 "_law_few", (["cams", "wish", "at", "some", "sets", "best"] : List Str), (["cams", "wish"] : List Str)⟩ := fun _ _ _ _ _ _ us hl => match us, hl with | [_, _], _ => rfl
theorem bd__law_small_right : BindD ⟨dD 53 "_law_small_right", (["cup", "cams", "shims", "wish", "at", "moved", "one", "value", "many", "heights"] : List Str) ++ (["top", "cam", "turn"] : List Str), (["cup"] : List Str)⟩ := fun _ _ _ _ _ _ us hl => match us, hl with | [_], _ => rfl
theorem bd__law_great_right : BindD ⟨dD 54 "_law_great_right", (["cup", "cam", "order", "cams", "told", "shims", "more", "alone", "wish", "at"] : List Str) ++ (["place", "height"] : List Str), (["cup"] : List Str)⟩ := fun _ _ _ _ _ _ us hl => match us, hl with | [_], _ => rfl
theorem bd__law_written_right : BindD ⟨dD 55 "_law_written_right", (["some", "told"] : List Str), ([] : List Str)⟩ := fun _ _ _ _ _ _ us hl => match us, hl with | [], _ => rfl
theorem bd_law : BindD ⟨dD 56 "law", (["script", "cup", "turn"] : List Str), (["script"] : List Str)⟩ := fun _ _ _ _ _ _ us hl => match us, hl with | [_], _ => rfl
theorem bds : AllB dfs := ⟨bd_is_whole, bd_is_tuple_of, bd_is_ascending, bd_is_set_below, bd_are_wholes, bd_is_ring, bd_need_cam, bd_is_cam, bd_are_together, bd_need_cams, bd_need_wish, bd_follows, bd_greatest_in, bd_reached, bd_few_in, bd_are_cams, bd_follower, bd_greatest_shims, bd_shims_for, bd_bare_place, bd_are_shims, bd_is_bare_place, bd_fewest_cams, bd_few_set, bd_does_set, bd__law_cup, bd__law_roll, bd__law_some, bd__law_sort, bd__law_like, bd__law_bent, bd__law_mixed, bd__law_whole, bd__law_cam, bd__law_follows, bd__law_greatest, bd__law_are_shims, bd__law_does, bd__law_are_cams, bd__law_right, bd__law_few, bd__law_small_right, bd__law_great_right, bd__law_written_right, bd_law, trivial⟩
abbrev hk : PySem.W.Hook := hookW dfs gs
def ob (s : PySem.W.SharedT) : He.AlX := obW dfs gs s
theorem run (w : World) : HandSHeadRun.RunEq R (PySem.W.view R.prog [56]) hk ob 4000 loose w := by
  intro os
  kernel_rfl
end Wk48
open PySem PySem.W PySem.Calls
theorem PySem.Challenge.cw_wheelmark_k48_whole_shims_holds : PySem.Challenge.rw_wheelmark_k48_whole_shims.Holds := by
  w_on; o_law
  refine HandSHeadRun.head_any (r := OpenLaw.row PySem.Challenge.rw_wheelmark_k48_whole_shims) (q := view (OpenLaw.row PySem.Challenge.rw_wheelmark_k48_whole_shims).prog [56]) (H := Wk48.hk) (ob := Wk48.ob) (M := 4000) (loose := Wk48.loose) (d := HandSHeadRun.topDef (OpenLaw.row PySem.Challenge.rw_wheelmark_k48_whole_shims).prog 56) (kwd := []) (Wk.obW_eq _ _)
    (by kernel_rfl) (fun s => by kernel_rfl) Wk48.run (by kernel_rfl) (by kernel_rfl) (by kernel_rfl) (by rfl) (by first | assumption | decide +kernel) (by decide +kernel) ⟨rfl, rfl, rfl, rfl, rfl, by decide +kernel⟩ ?hw ?hc
  case hw => w_witness2
  case hc =>
    refine Wk.law_end (l := PySem.Challenge.rw_wheelmark_k48_whole_shims) (dfs := Wk48.dfs) (gs := Wk48.gs) (fs := Wk48.fs) (j := 44) (m := 60) (n := 63) rfl (by decide) (by kernel_rfl) (by exact ⟨rfl, by decide, by decide⟩) Wk48.chk Wk48.gsk Wk48.bds rfl (by kernel_rfl) rfl Wk48.math
