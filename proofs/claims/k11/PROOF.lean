import PyProof.Rows.All
import PySem.Syntax
import PyProof.P3Statements
import PyProof.Lay0
import PyProof.EqLayable
import HandS.List
import HandS.WordsExc
import HandS.HeadHook3
import HandS.HeadEnd
import HandS.Head2
import Wide.All
import OpenK.AllK
import Wide.FinOn
import HandS.ForMost
import HandS.Exc
import HandS.TryOnly
import HandS.IsInst
import HandS.TupAny
import HandS.CallLocal
import HandS.Style
import HandS.SortInts
import HandS.Walk
import HandS.CallSlots
import HandS.ExcOwn
import HandS.More
import PyProof.AutoSeq1
import HandS.HeadWalk
import KE.GoesNew
import KE.GoesEnum
import KE.GoesMore
import KE.GoesEnumKw
import HandS.DictSubView0
import PyProof.Rows.CallKwBuiltin
import KE.KUnpackStar
import Wide.Once
import PySem.Challenge.RW_wardwide_k11_whole_walks_by_rooms
set_option Elab.async false
set_option linter.all false
set_option maxRecDepth 100000
set_option maxHeartbeats 4000000
namespace Lt
open PySem
inductive Val where
  | non | bl (b : Bool) | int (i : Int) | str (x : Str)
  | tup (xs : List Val) | lst (xs : List Val)
  | flst (xs : List Val)
  | loc (l : Nat)
  | fn (j : Nat)
/-- what a mutable object holds -/
inductive Ob where
  | lst (xs : List Val)
  | inst (c : Str) (fs : List (Str × Val))
abbrev Store := List Ob
abbrev Env := List (Option Val)
structure Exc where
  cls : Str
  fs : List (Str × Val)
inductive R (α : Type) where
  | ok (a : α) (S : Store)
  | exc (x : Exc) (S : Store)
  | stuck
def R.bind {α β : Type} (r : R α) (f : α → Store → R β) : R β := match r with
  | .ok a S => f a S
  | .exc x S => .exc x S
  | .stuck => .stuck
@[simp] theorem R.bind_ok {α β : Type} (a : α) (S : Store) (f : α → Store → R β) : (R.ok a S).bind f = f a S := (rfl)
@[simp] theorem R.bind_exc {α β : Type} (x : Exc) (S : Store) (f : α → Store → R β) : (R.exc x S).bind f = .exc x S := (rfl)
@[simp] theorem R.bind_stuck {α β : Type} (f : α → Store → R β) : (R.stuck).bind f = .stuck := (rfl)
def R.post {α : Type} (r : R α) (P : α → Store → Prop) (E : Exc → Store → Prop) : Prop := match r with
  | .ok a S => P a S
  | .exc x S => E x S
  | .stuck => False
theorem R.post_bind {α β : Type} {r : R α} {f : α → Store → R β} {P : β → Store → Prop} {E : Exc → Store → Prop} (h : (r.bind f).post P E) : r.post (fun a S => (f a S).post P E) E := by
  cases r <;> exact h
theorem R.post_mono {α : Type} {r : R α} {P P' : α → Store → Prop} {E E' : Exc → Store → Prop} (h : r.post P E) (hp : ∀ a S, P a S → P' a S) (he : ∀ x S, E x S → E' x S) : r.post P' E' := by
  cases r with
  | ok a S => exact hp _ _ h
  | exc x S => exact he _ _ h
  | stuck => exact h
/-- no exception is let out -/
def R.noexc {α : Type} (r : R α) : R α := match r with
  | .exc _ _ => .stuck
  | r => r
@[simp] theorem R.noexc_ok {α : Type} (a : α) (S : Store) : (R.ok a S).noexc = .ok a S := (rfl)
def R.of {α : Type} (o : Option α) (S : Store) : R α := match o with
  | some a => .ok a S
  | none => .stuck
@[simp] theorem R.of_some {α : Type} (a : α) (S : Store) : R.of (some a) S = .ok a S := (rfl)
@[simp] theorem R.of_none {α : Type} (S : Store) : (R.of none S : R α) = .stuck := (rfl)
mutual
def Val.pd : Val → PyData
  | .non => .none
  | .bl b => .bool b
  | .int i => .int i
  | .str x => .str x
  | .tup xs => .tuple (Val.pdAll xs)
  | .lst xs => .list (Val.pdAll xs)
  | .flst _ => .dict []
  | .loc _ => .dict []
  | .fn _ => .dict []
def Val.pdAll : List Val → List PyData
  | [] => []
  | x :: xs => Val.pd x :: Val.pdAll xs
end
mutual
def Val.shp : Nat → Val → Bool
  | _, .non => true
  | _, .bl _ => true
  | _, .int _ => true
  | _, .str x => PyData.canLay0 (.str x)
  | 0, .tup _ => false
  | n + 1, .tup xs => Val.shpAll n xs
  | 0, .lst _ => false
  | n + 1, .lst xs => Val.shpAll n xs
  | _, .flst _ => false
  | _, .loc _ => false
  | _, .fn _ => false
def Val.shpAll : Nat → List Val → Bool
  | _, [] => true
  | n, x :: xs => Val.shp n x && Val.shpAll n xs
end
mutual
def Val.eqv : Val → Val → Bool
  | .non, .non => true
  | .bl a, .bl b => a == b
  | .bl a, .int j => (if a then 1 else 0) == j
  | .int i, .bl b => i == (if b then 1 else 0)
  | .int i, .int j => i == j
  | .str x, .str y => x == y
  | .lst xs, .lst ys => Val.eqvAll xs ys
  | .tup xs, .tup ys => Val.eqvAll xs ys
  | _, _ => false
def Val.eqvAll : List Val → List Val → Bool
  | [], [] => true
  | x :: xs, y :: ys => Val.eqv x y && Val.eqvAll xs ys
  | _, _ => false
end
/-- a flat value -/
def Val.flat : Val → Bool
  | .non => true
  | .bl _ => true
  | .int _ => true
  | .str _ => true
  | _ => false
inductive Ty where
  | int | bool | str | tuple | list | dict
  deriving DecidableEq
def Ty.name : Ty → Str
  | .int => "int" | .bool => "bool" | .str => "str" | .tuple => "tuple" | .list => "list" | .dict => "dict"
/-- built-in functions of values -/
inductive Blt where
  | len | abs | int | max2 | min2 | sum | all | any | tuple | list (m : Bool) | sorted
  deriving DecidableEq
def Blt.name : Blt → Str
  | .len => "len" | .abs => "abs" | .int => "int" | .max2 => "max" | .min2 => "min" | .sum => "sum" | .all => "all" | .any => "any" | .tuple => "tuple" | .list _ => "list" | .sorted => "sorted"
/-- methods of lists -/
inductive Mth where
  | append | extend | pop
  deriving DecidableEq
def Mth.name : Mth → Str
  | .append => "append" | .extend => "extend" | .pop => "pop"
/-- what is walked: a sequence, a range, enumerate, zip -/
inductive IK where
  | plain | range1 | range2 | enum | zip | zips | zip3s
  deriving DecidableEq
/-- targets of names -/
inductive Tg where
  | v (i : Nat)
  | tup (ts : Tg)
  | nil | cons (t ts : Tg)
  | star (i j : Nat)
  deriving DecidableEq
inductive IE where
  | var (i : Nat)
  | con (v : Val)
  | glob (x : Str) (i : Int)
  | bin (o : Operator) (a b : IE)
  | catl (m : Bool) (a b : IE)
  | neg (a : IE)
  | not (a : IE)
  | cmp (o : CmpOp) (a b : IE)
  | chain (o o' : CmpOp) (a b c : IE)
  | and (a b : IE) | or (a b : IE) | last (a : IE)
  | ite (c a b : IE)
  | tup (es : IE) | lst (m : Bool) (es : IE)
  | nil | cons (e es : IE)
  | call (j : Nat) (es : IE)
  | callv (i : Nat) (es : IE)
  | blt (b : Blt) (es : IE)
  | isi (t : Ty) (e : IE)
  | mth (m : Mth) (o : IE) (es : IE)
  | ix (a i : IE)
  | omit
  | slc (a lo hi : IE)
  | fld (o : IE) (f : Str)
  | mk (c : Str) (j : Nat) (es : IE)
  | mcall (c m : Str) (j : Nat) (o es : IE)
  | gin (neg : Bool) (x : Str) (tb : List (Str × Nat)) (k : IE)
  | gget (x : Str) (tb : List (Str × Nat)) (k : IE)
  | lc (m : Bool) (own : List (Str × Nat)) (ik : IK) (src : IE) (tg : Tg) (cond : IE) (elt : IE)
  | lc2 (m : Bool) (own : List (Str × Nat)) (own2 : List Nat) (ik : IK) (src : IE) (tg : Tg) (ik2 : IK) (src2 : IE) (tg2 : Tg) (elt : IE)
  | yes
def rd (S : Store) : Val → Val
  | .loc l => match S[l]? with
    | some (.lst xs) => .lst xs
    | _ => .loc l
  | .flst xs => .lst xs
  | v => v
def alloc (m : Bool) (xs : List Val) (S : Store) : R Val := match m with
  | true => .ok (.loc S.length) (S ++ [.lst xs])
  | false => .ok (.lst xs) S
def mulOk (i j : Int) : Bool := (decide (-(2 ^ 64) < i) && decide (i < 2 ^ 64)) || (decide (-(2 ^ 64) < j) && decide (j < 2 ^ 64))
def powOk (i j : Int) : Bool := decide (0 ≤ j) && ((decide (j ≤ 1000000) && decide (i.natAbs < 2 ^ 64)) || (decide (j ≤ 100000) && decide (i.natAbs < 2 ^ 1024)))
def binV (o : Operator) (a b : Val) : Option Val := match o, a, b with
  | .Add, .int i, .int j => some (.int (i + j))
  | .Sub, .int i, .int j => some (.int (i - j))
  | .Mult, .int i, .int j => if mulOk i j then some (.int (i * j)) else none
  | .Mod, .int i, .int j => if 0 < j then some (.int (i % j)) else none
  | .FloorDiv, .int i, .int j => if 0 < j ∧ j < 1073741824 then some (.int (i / j)) else none
  | .Pow, .int i, .int j => if powOk i j then some (.int (i ^ j.toNat)) else none
  | .Add, .tup xs, .tup ys => if xs.length + ys.length ≤ sizeLine then some (.tup (xs ++ ys)) else none
  | _, _, _ => none
def memV (x : Val) (ys : List Val) : Option Bool := if x.flat && ys.all Val.flat then some (ys.any fun y => Val.eqv y x) else none
def isNon : Val → Bool
  | .non => true
  | _ => false
def cmpV (o : CmpOp) (a b : Val) : Option Bool := match o with
  | .Eq => if a.shp 40 && b.shp 40 then some (Val.eqv a b) else none
  | .NotEq => if a.shp 40 && b.shp 40 then some (!Val.eqv a b) else none
  | .Lt => match a, b with
    | .int i, .int j => some (decide (i < j))
    | _, _ => none
  | .LtE => match a, b with
    | .int i, .int j => some (decide (i ≤ j))
    | _, _ => none
  | .Gt => match a, b with
    | .int i, .int j => some (decide (j < i))
    | _, _ => none
  | .GtE => match a, b with
    | .int i, .int j => some (decide (j ≤ i))
    | _, _ => none
  | .In => match b with
    | .tup ys => memV a ys
    | .lst ys => memV a ys
    | _ => none
  | .NotIn => match b with
    | .tup ys => (memV a ys).map (!·)
    | .lst ys => (memV a ys).map (!·)
    | _ => none
  | .Is => match b with
    | .non => some (isNon a)
    | _ => none
  | .IsNot => match b with
    | .non => some (!isNon a)
    | _ => none
def intsOf : List Val → Option (List Int)
  | [] => some []
  | .int i :: r => (intsOf r).map (i :: ·)
  | _ => none
def blsOf : List Val → Option (List Bool)
  | [] => some []
  | .bl i :: r => (blsOf r).map (i :: ·)
  | _ => none
def insI (i : Int) : List Int → List Int
  | [] => [i]
  | j :: r => if i ≤ j then i :: j :: r else j :: insI i r
def sortI : List Int → List Int
  | [] => []
  | i :: r => insI i (sortI r)
def bltV (b : Blt) (vs : List Val) (S : Store) : R Val := match b, vs with
  | .len, [v] => match rd S v with
    | .tup xs => .ok (.int xs.length) S
    | .lst xs => .ok (.int xs.length) S
    | _ => .stuck
  | .abs, [.int i] => .ok (.int (if i < 0 then -i else i)) S
  | .int, [.int i] => .ok (.int i) S
  | .int, [.bl k] => .ok (.int (if k then 1 else 0)) S
  | .max2, [.int i, .int j] => .ok (.int (if j > i then j else i)) S
  | .min2, [.int i, .int j] => .ok (.int (if j < i then j else i)) S
  | .sum, [v] => match rd S v with
    | .lst xs => R.of ((intsOf xs).map fun ns => .int ns.sum) S
    | _ => .stuck
  | .all, [v] => match rd S v with
    | .lst xs => R.of ((blsOf xs).map fun ns => .bl (ns.all id)) S
    | _ => .stuck
  | .any, [v] => match rd S v with
    | .lst xs => R.of ((blsOf xs).map fun ns => .bl (ns.any id)) S
    | _ => .stuck
  | .tuple, [v] => match rd S v with
    | .tup xs => .ok (.tup xs) S
    | .lst xs => .ok (.tup xs) S
    | _ => .stuck
  | .list m, [v] => match rd S v with
    | .tup xs => alloc m xs S
    | .lst xs => alloc m xs S
    | _ => .stuck
  | .sorted, [v] => match rd S v with
    | .lst xs => R.of ((intsOf xs).map fun ns => .lst ((sortI ns).map .int)) S
    | _ => .stuck
  | _, _ => .stuck
def isTy (S : Store) (t : Ty) (v : Val) : Option Bool := match rd S v with
  | .non => some false
  | .bl _ => some (decide (t = .bool) || decide (t = .int))
  | .int _ => some (decide (t = .int))
  | .str _ => some (decide (t = .str))
  | .tup _ => some (decide (t = .tuple))
  | .lst _ => some (decide (t = .list))
  | .flst _ => none
  | .loc _ => none
  | .fn _ => none
def isLst (S : Store) : Val → Bool
  | .loc l => match S[l]? with
    | some (.lst _) => true
    | _ => false
  | _ => false
def isDir (S : Store) : Val → Bool
  | .lst _ => true
  | .loc l => match S[l]? with
    | some (.lst _) => true
    | _ => false
  | _ => false
def mthV (m : Mth) (o : Val) (vs : List Val) (S : Store) : R Val := match o with
  | .loc l => match S[l]?, m, vs with
    | some (.lst xs), .append, [y] => if xs.length < sizeLine then .ok .non (S.set l (.lst (xs ++ [y]))) else .stuck
    | some (.lst xs), .extend, [v] => match rd S v with
      | .tup ys => if xs.length + ys.length ≤ sizeLine then .ok .non (S.set l (.lst (xs ++ ys))) else .stuck
      | _ => .stuck
    | some (.lst xs), .pop, [] => match xs[xs.length - 1]? with
      | some y => .ok y (S.set l (.lst xs.dropLast))
      | none => .stuck
    | _, _, _ => .stuck
  | _ => .stuck
def ixV (S : Store) (a i : Val) : Option Val := match rd S a, i with
  | .tup xs, .int k => L2.atI xs k
  | .lst xs, .int k => L2.atI xs k
  | _, _ => none
def cut {α : Type} (xs : List α) (lo hi : Option Int) : List α := (xs.drop (HT.sIx xs.length 0 lo)).take (HT.sIx xs.length xs.length hi - HT.sIx xs.length 0 lo)
def partV (i : IE) (v : Val) : Option (Option Int) := match i, v with
  | .omit, _ => some none
  | _, .int i => some (some i)
  | _, _ => none
def slcV (S : Store) (a : Val) (lo hi : Option Int) : Option Val := match rd S a with
  | .tup xs => some (.tup (cut xs lo hi))
  | .lst xs => some (.lst (cut xs lo hi))
  | _ => none
def fldV (S : Store) (o : Val) (f : Str) : Option Val := match o with
  | .loc l => match S[l]? with
    | some (.inst _ fs) => fs.lookup f
    | _ => none
  | _ => none
def ggetV (tb : List (Str × Nat)) (k : Val) : Option Val := match k with
  | .str x => (tb.lookup x).map .fn
  | _ => none
def ginV (neg : Bool) (tb : List (Str × Nat)) (k : Val) : Option Val := match k with
  | .str x => some (.bl (if neg then !(tb.lookup x).isSome else (tb.lookup x).isSome))
  | _ => none
/-- the items that are walked -/
def seqV : Val → Option (List Val)
  | .tup xs => some xs
  | .lst xs => some xs
  | .flst xs => some xs
  | _ => none
def rangeV (lo hi : Int) : Option (List Val) :=
  if -1000000 ≤ lo ∧ lo ≤ 1000000 ∧ -1000000 ≤ hi ∧ hi ≤ 1000000 then some ((List.range (hi - lo).toNat).map fun i : Nat => .int (lo + i)) else none
def enumV (i : Nat) : List Val → List Val
  | [] => []
  | x :: xs => .tup [.int i, x] :: enumV (i + 1) xs
def zipV : List Val → List Val → List Val
  | x :: xs, y :: ys => .tup [x, y] :: zipV xs ys
  | _, _ => []
def zip3V : List Val → List Val → List Val → List Val
  | x :: xs, y :: ys, z :: zs => .tup [x, y, z] :: zip3V xs ys zs
  | _, _, _ => []
def itemsV (ik : IK) (vs : List Val) : Option (List Val) := match ik, vs with
  | .plain, [a] => seqV a
  | .range1, [.int n] => rangeV 0 n
  | .range2, [.int a, .int b] => rangeV a b
  | .enum, [a] => (seqV a).map (enumV 0)
  | .zip, [a, b] => match seqV a, seqV b with
    | some xs, some ys => some (zipV xs ys)
    | _, _ => none
  | .zips, [a, b] => match seqV a, seqV b with
    | some xs, some ys => if xs.length = ys.length then some (zipV xs ys) else none
    | _, _ => none
  | .zip3s, [a, b, c] => match seqV a, seqV b, seqV c with
    | some xs, some ys, some zs => if xs.length = ys.length ∧ ys.length = zs.length then some (zip3V xs ys zs) else none
    | _, _, _ => none
  | _, _ => none
mutual
def asg : Tg → Val → Env → Option Env
  | .v i, x, env => some (env.set i (some x))
  | .tup ts, x, env => match seqV x with
    | some xs => asgs ts xs env
    | none => none
  | .star i j, x, env => match x with
    | .tup (y :: ys) => some ((env.set i (some y)).set j (some (.lst ys)))
    | _ => none
  | _, _, _ => none
def asgs : Tg → List Val → Env → Option Env
  | .nil, [], env => some env
  | .cons t ts, x :: xs, env => match asg t x env with
    | some env' => asgs ts xs env'
    | none => none
  | _, _, _ => none
end
def wipeE (env : Env) : List Nat → Env
  | [] => env
  | v :: vs => (wipeE env vs).set v none
abbrev Calls := Nat → List Val → Store → R Val
/-- a comprehension's turns -/
def lcGo (f : Val → Store → R (Option Val)) : List Val → Store → R (List Val)
  | [], S => .ok [] S
  | x :: xs, S => (f x S).bind fun o S1 => (lcGo f xs S1).bind fun r S2 => match o with
    | some v => .ok (v :: r) S2
    | none => .ok r S2
def lc2Go (f : Val → Store → R (List Val)) : List Val → Store → R (List Val)
  | [], S => .ok [] S
  | x :: xs, S => (f x S).bind fun o S1 => (lc2Go f xs S1).bind fun r S2 => .ok (o ++ r) S2
mutual
def evE (C : Calls) : IE → Env → Store → R Val
  | .var i, env, S => match env[i]? with
    | some (some v) => .ok v S
    | _ => .stuck
  | .con v, _, S => .ok v S
  | .glob _ i, _, S => .ok (.int i) S
  | .bin o a b, env, S => (evE C a env S).bind fun x S1 => (evE C b env S1).bind fun y S2 => R.of (binV o x y) S2
  | .catl m a b, env, S => (evE C a env S).bind fun x S1 => (evE C b env S1).bind fun y S2 => match rd S2 x, rd S2 y with
    | .lst xs, .lst ys => if isDir S2 x && isDir S2 y && decide (xs.length + ys.length ≤ sizeLine) then alloc m (xs ++ ys) S2 else .stuck
    | _, _ => .stuck
  | .neg a, env, S => (evE C a env S).bind fun x S1 => match x with
    | .int i => .ok (.int (-i)) S1
    | _ => .stuck
  | .not a, env, S => (evE C a env S).bind fun x S1 => match x with
    | .bl c => .ok (.bl (!c)) S1
    | _ => .stuck
  | .cmp o a b, env, S => (evE C a env S).bind fun x S1 => (evE C b env S1).bind fun y S2 => R.of ((cmpV o (rd S2 x) (rd S2 y)).map .bl) S2
  | .chain o o' a b c, env, S => (evE C a env S).bind fun x S1 => (evE C b env S1).bind fun y S2 => match cmpV o (rd S2 x) (rd S2 y) with
    | some true => (evE C c env S2).bind fun z S3 => R.of ((cmpV o' (rd S3 y) (rd S3 z)).map .bl) S3
    | some false => .ok (.bl false) S2
    | none => .stuck
  | .and a b, env, S => (evE C a env S).bind fun x S1 => match x with
    | .bl true => evE C b env S1
    | .bl false => .ok (.bl false) S1
    | _ => .stuck
  | .or a b, env, S => (evE C a env S).bind fun x S1 => match x with
    | .bl true => .ok (.bl true) S1
    | .bl false => evE C b env S1
    | _ => .stuck
  | .last a, env, S => evE C a env S
  | .ite c a b, env, S => (evE C c env S).bind fun x S1 => match x with
    | .bl true => evE C a env S1
    | .bl false => evE C b env S1
    | _ => .stuck
  | .tup es, env, S => (evAs C es env S).bind fun vs S1 => .ok (.tup vs) S1
  | .lst m es, env, S => (evAs C es env S).bind fun vs S1 => alloc m vs S1
  | .call j es, env, S => (evAs C es env S).bind fun vs S1 => C j vs S1
  | .callv i es, env, S => match env[i]? with
    | some (some (.fn j)) => (evAs C es env S).bind fun vs S1 => C j vs S1
    | _ => .stuck
  | .blt b es, env, S => (evAs C es env S).bind fun vs S1 => bltV b vs S1
  | .isi t e, env, S => (evE C e env S).bind fun x S1 => R.of ((isTy S1 t x).map .bl) S1
  | .mth m o es, env, S => (evE C o env S).bind fun x S1 => if isLst S1 x then (evAs C es env S1).bind fun vs S2 => mthV m x vs S2 else .stuck
  | .ix a i, env, S => (evE C a env S).bind fun x S1 => (evE C i env S1).bind fun y S2 => R.of (ixV S2 x y) S2
  | .omit, _, S => .ok .non S
  | .slc a lo hi, env, S => (evE C a env S).bind fun x S1 => (evE C lo env S1).bind fun l S2 => match partV lo l with
    | some p => (evE C hi env S2).bind fun h S3 => match partV hi h with
      | some q => R.of (slcV S3 x p q) S3
      | none => .stuck
    | none => .stuck
  | .fld o f, env, S => (evE C o env S).bind fun x S1 => R.of (fldV S1 x f) S1
  | .mk c j es, env, S => (evAs C es env S).bind fun vs S1 => (C j (.loc S1.length :: vs) (S1 ++ [.inst c []])).bind fun z S2 => match z with
    | .non => .ok (.loc S1.length) S2
    | _ => .stuck
  | .mcall c m j o es, env, S => (evE C o env S).bind fun x S1 => match x with
    | .loc l => match S1[l]? with
      | some (.inst c' fs) => if c' = c ∧ fs.lookup m = none then (evAs C es env S1).bind fun vs S2 => C j (.loc l :: vs) S2 else .stuck
      | _ => .stuck
    | _ => .stuck
  | .gin neg _ tb k, env, S => (evE C k env S).bind fun x S1 => R.of (ginV neg tb x) S1
  | .gget _ tb k, env, S => (evE C k env S).bind fun x S1 => R.of (ggetV tb x) S1
  | .lc m own ik src tg cond elt, env, S => (evAs C src env S).bind fun vs S1 => match itemsV ik vs with
    | some items => (lcGo (fun x S => match asg tg x (wipeE env (own.map (·.2))) with
        | some env1 => ((evE C cond env1 S).bind fun c S2 => match c with
          | .bl true => (evE C elt env1 S2).bind fun v S3 => .ok (some v) S3
          | .bl false => .ok none S2
          | _ => .stuck).noexc
        | none => .stuck) items S1).bind fun r S2 => alloc m r S2
    | none => .stuck
  | .lc2 m own own2 ik src tg ik2 src2 tg2 elt, env, S => (evAs C src env S).bind fun vs S1 => match itemsV ik vs with
    | some items => (lc2Go (fun x S => match asg tg x (wipeE env (own.map (·.2))) with
        | some env1 => ((evAs C src2 env1 S).bind fun us S2 => match itemsV ik2 us with
          | some items2 => lcGo (fun y S => match asg tg2 y (wipeE env1 own2) with
            | some env2 => ((evE C elt env2 S).bind fun v S3 => .ok (some v) S3)
            | none => .stuck) items2 S2
          | none => .stuck).noexc
        | none => .stuck) items S1).bind fun r S2 => if r.length ≤ 1000000 then alloc m r S2 else .stuck
    | none => .stuck
  | .yes, _, S => .ok (.bl true) S
  | .nil, _, _ => .stuck
  | .cons _ _, _, _ => .stuck
def evAs (C : Calls) : IE → Env → Store → R (List Val)
  | .nil, _, S => .ok [] S
  | .cons e es, env, S => (evE C e env S).bind fun x S1 => (evAs C es env S1).bind fun xs S2 => .ok (x :: xs) S2
  | _, _, _ => .stuck
end
inductive LT where
  | p (t : Tg)
  | sub (o i : IE)
  | fld (o : IE) (f : Str)
  | pair (a b : LT)
inductive IS where
  | done | seq (s r : IS)
  | set (t : LT) (e : IE)
  | setLc (i : Nat) (e : IE)
  | par2 (i j : Nat) (a b : IE)
  | par3 (i j k : Nat) (a b c : IE)
  | exp (e : IE)
  | ret (e : IE) | retN
  | ifs (c : IE) (a b : IS)
  | for (tg : Tg) (ik : IK) (src : IE) (body : IS)
  | while (c : IE) (body : IS)
  | brk | cont | pass
  | never
inductive SR where
  | next (env : Env) (S : Store)
  | brk (env : Env) (S : Store)
  | cont (env : Env) (S : Store)
  | ret (v : Val) (S : Store)
  | exc (x : Exc) (env : Env) (S : Store)
  | stuck
/-- a value's way on -/
def R.then {α : Type} (r : R α) (env : Env) (f : α → Store → SR) : SR := match r with
  | .ok a S => f a S
  | .exc x S => .exc x env S
  | .stuck => .stuck
@[simp] theorem R.then_ok {α : Type} (a : α) (S : Store) (env : Env) (f : α → Store → SR) : (R.ok a S).then env f = f a S := (rfl)
def SR.bind (r : SR) (f : Env → Store → SR) : SR := match r with
  | .next env S => f env S
  | r => r
@[simp] theorem SR.bind_next (env : Env) (S : Store) (f : Env → Store → SR) : (SR.next env S).bind f = f env S := (rfl)
@[simp] theorem SR.bind_ret (v : Val) (S : Store) (f : Env → Store → SR) : (SR.ret v S).bind f = .ret v S := (rfl)
def setF (f : Str) (v : Val) : List (Str × Val) → List (Str × Val)
  | [] => [(f, v)]
  | (g, u) :: r => if g = f then (f, v) :: r else (g, u) :: setF f v r
def asgL (C : Calls) : LT → Val → Env → Store → SR
  | .p t, x, env, S => match asg t x env with
    | some env' => .next env' S
    | none => .stuck
  | .sub o i, x, env, S => (evE C o env S).then env fun ov S1 => (evE C i env S1).then env fun iv S2 => match ov, iv with
    | .loc l, .int k => match S2[l]? with
      | some (.lst xs) => match L2.ixN xs.length k with
        | some j => .next env (S2.set l (.lst (xs.set j x)))
        | none => .stuck
      | _ => .stuck
    | _, _ => .stuck
  | .fld o f, x, env, S => (evE C o env S).then env fun ov S1 => match ov with
    | .loc l => match S1[l]? with
      | some (.inst c fs) => if fs.length < 900 then .next env (S1.set l (.inst c (setF f x fs))) else .stuck
      | _ => .stuck
    | _ => .stuck
  | .pair a b, x, env, S => match x with
    | .tup [u, v] => (asgL C a u env S).bind fun env1 S1 => asgL C b v env1 S1
    | _ => .stuck
def forGo (f : Val → Env → Store → SR) : List Val → Env → Store → SR
  | [], env, S => .next env S
  | x :: xs, env, S => match f x env S with
    | .next e S' => forGo f xs e S'
    | .cont e S' => forGo f xs e S'
    | .brk e S' => .next e S'
    | r => r
def whileGo (c : Env → Store → R Val) (b : Env → Store → SR) : Nat → Env → Store → SR
  | 0, _, _ => .stuck
  | n + 1, env, S => (c env S).then env fun v S1 => match v with
    | .bl true => match b env S1 with
      | .next e S' => whileGo c b n e S'
      | .cont e S' => whileGo c b n e S'
      | .brk e S' => .next e S'
      | r => r
    | .bl false => .next env S1
    | _ => .stuck
def evS (C : Calls) (F : Nat) : IS → Env → Store → SR
  | .done, env, S => .next env S
  | .seq s r, env, S => (evS C F s env S).bind fun env1 S1 => evS C F r env1 S1
  | .set t e, env, S => (evE C e env S).then env fun v S1 => asgL C t v env S1
  | .setLc i e, env, S => (evE C e env S).then env fun v S1 => .next (env.set i (some v)) S1
  | .par2 i j a b, env, S => (evE C a env S).then env fun u S1 => (evE C b env S1).then env fun v S2 => .next ((env.set i (some u)).set j (some v)) S2
  | .par3 i j k a b c, env, S => (evE C a env S).then env fun u S1 => (evE C b env S1).then env fun v S2 => (evE C c env S2).then env fun w S3 => .next (((env.set i (some u)).set j (some v)).set k (some w)) S3
  | .exp e, env, S => (evE C e env S).then env fun _ S1 => .next env S1
  | .ret e, env, S => (evE C e env S).then env fun v S1 => .ret v S1
  | .retN, _, S => .ret .non S
  | .ifs c a b, env, S => (evE C c env S).then env fun v S1 => match v with
    | .bl true => evS C F a env S1
    | .bl false => evS C F b env S1
    | _ => .stuck
  | .for tg ik src body, env, S => (evAs C src env S).then env fun vs S1 => match itemsV ik vs with
    | some items => forGo (fun x env S => match asg tg x env with
      | some env' => evS C F body env' S
      | none => .stuck) items env S1
    | none => .stuck
  | .while c body, env, S => whileGo (evE C c) (evS C F body) F env S
  | .brk, env, S => .brk env S
  | .cont, env, S => .cont env S
  | .pass, env, S => .next env S
  | .never, _, _ => .stuck
inductive Mode where
  | pure | fresh | keep
  deriving DecidableEq
structure FI where
  name : Str
  cls : Option Str
  ps : List Str
  N : List Str
  body : IS
  mode : Mode
def FI.qual (fi : FI) : Str := match fi.cls with
  | none => fi.name
  | some c => c ++ "." ++ fi.name
mutual
def Val.blw (n : Nat) : Val → Bool
  | .loc l => decide (l < n)
  | .tup xs => Val.blwAll n xs
  | .lst xs => Val.blwAll n xs
  | .flst xs => Val.blwAll n xs
  | .non => true
  | .bl _ => true
  | .int _ => true
  | .str _ => true
  | .fn _ => true
def Val.blwAll (n : Nat) : List Val → Bool
  | [] => true
  | x :: xs => Val.blw n x && Val.blwAll n xs
end
def Ob.blw (n : Nat) : Ob → Bool
  | .lst xs => Val.blwAll n xs
  | .inst _ fs => fs.all fun p => p.2.blw n
def frzV (n : Nat) (S : Store) : Val → Val
  | .loc l => if n ≤ l then (match S[l]? with
    | some (.lst xs) => .lst xs
    | _ => .loc l) else .loc l
  | v => v
def leave (m : Mode) (n : Nat) (r : R Val) : R Val := match m, r with
  | .pure, .ok v S => if S.length ≤ n then .ok v S else if (frzV n S v).blw n && (S.take n).all (Ob.blw n) then .ok (frzV n S v) (S.take n) else .stuck
  | .pure, .exc x S => if S.length ≤ n then .exc x S else if (x.fs.all fun p => p.2.blw n) && (S.take n).all (Ob.blw n) then .exc x (S.take n) else .stuck
  | .fresh, .ok (.loc l) S => if n ≤ l then (match S[l]? with
    | some o => if o.blw n && (S.take n).all (Ob.blw n) then .ok (.loc n) (S.take n ++ [o]) else .stuck
    | none => .stuck) else .stuck
  | .fresh, _ => .stuck
  | .keep, r => r
  | .pure, .stuck => .stuck
def SR.toR : SR → R Val
  | .next _ S => .ok .non S
  | .ret v S => .ok v S
  | .exc x _ S => .exc x S
  | _ => .stuck
def startE (fi : FI) (args : List Val) : Env := args.map some ++ List.replicate (fi.N.length - args.length) none
/-- the j-th def, called n deep at most, each while of fewer than F turns -/
def run (T : List FI) (F : Nat) : Nat → Calls
  | 0, _, _, _ => .stuck
  | n + 1, j, args, S => match T[j]? with
    | some fi => if args.length = fi.ps.length then leave fi.mode S.length (evS (run T F n) F fi.body (startE fi args) S).toR else .stuck
    | none => .stuck
end Lt
set_option maxHeartbeats 4000000
namespace Lt
open PySem PySem.Spec PyProof.Rows L2
/-- a program's tables -/
structure Px where
  T : List FI
  gi : List (Str × Int)
  bf : List Str
  tb : List (Str × List (Str × Nat))
  fs : List Str
def FI.at_ (fi : FI) : Str × Option Str := match fi.cls with
  | none => (fi.name, none)
  | some c => (c, some fi.name)
def dd (fi : FI) (st : Stmt) : He.DefD := ⟨fi.at_, fi.name, fi.qual, defArgs st, defBody st, defScope st, [], []⟩
/-- the tables' values -/
def exB (T : List FI) (TB : List (Str × List (Str × Nat))) (K : PySem.W.Frag) : Bool := TB.all fun q => He.eqO (PySem.W.nsIn K mainGlobals q.1) (some (some (.ref (He.ga K q.1)))) && q.2.all fun e => match T[e.2]? with
  | some fi => He.eqO (PySem.W.nsIn K (He.ga K q.1) e.1) (some (some (.ref (He.fAd K fi.at_))))
  | none => false
/-- what is looked at: the module's names' objects, functions' codes, classes' names -/
def codeR (o : Obj) : List Addr := match o.data with
  | .func fd => He.refV fd.code
  | _ => []
def underR (g : Addr → Option Obj) (o : Obj) : List Addr := match o.data with
  | .func fd => He.refV fd.code
  | .cls cd => cd.ns :: match g cd.ns with
    | some n => (match n.data with
      | .dict es _ => es.toList.flatMap fun e => match e.val with
        | .ref b => b :: match g b with
          | some ob => codeR ob
          | none => []
        | _ => []
      | _ => [])
    | none => []
  | _ => []
def asP (g : Addr → Option Obj) : List Addr := mainGlobals :: match g mainGlobals with
  | some o => (match o.data with
    | .dict es _ => es.toList.flatMap fun e => match e.val with
      | .ref a => a :: match g a with
        | some oa => underR g oa
        | none => []
      | _ => []
    | _ => [])
  | none => []
def obY (n : Nat) (fa : List He.Fa) (fn : List He.DefD) (ts : List He.Tab) (ex : PySem.W.Frag → Bool) (g : Addr → Option Obj) : He.AlT × Bool := (He.obsT fa fn ts (He.frG g (asP g)), ex (He.frG g (asP g)))
def hookY (n : Nat) (fa : List He.Fa) (fn : List He.DefD) (ts : List He.Tab) (ex : PySem.W.Frag → Bool) : PySem.W.Hook where
  α := He.AlT × Bool
  obs := fun s => obY n fa fn ts ex s.heap.get?
  val := fun w => (He.valT fn ts w, true)
  says := fun w h => ∃ K : PySem.W.Frag, K.In h ∧ He.SaysT fa fn ts w K ∧ ex K = true
  of := fun _ _ e => ⟨_, He.frG_in, congrArg (fun z : He.AlT × Bool => z.1) e, congrArg (fun z : He.AlT × Bool => z.2) e⟩
  keeps := fun _ _ _ ⟨K, hK, c⟩ k => ⟨K, PySem.W.Frag.In.keeps hK k, c⟩
theorem obY_eq {n : Nat} {fa : List He.Fa} {fn : List He.DefD} {ts : List He.Tab} {ex : PySem.W.Frag → Bool} {g : Addr → Option Obj} {s : Shared} (h : ∀ a, g a = s.heap.get? a) : obY n fa fn ts ex g = (hookY n fa fn ts ex).obs s := by
  have e : g = s.heap.get? := funext h
  rw [e] <;> rfl
def faG (fi : FI) : Option He.Fa := match fi.cls with
  | none => some (.glo fi.name)
  | some _ => none
def faM (c : Str) (fi : FI) : Option He.Fa := if fi.cls = some c then some (.meth c fi.name) else none
def faOf (p : Px) (CL : List Str) : List He.Fa := p.T.filterMap faG ++ (p.bf.map He.Fa.free ++ (p.gi.map (fun q => He.Fa.int q.1 q.2) ++ CL.flatMap fun c => [.glo c, .cls c, .mkr c] ++ (p.fs.map (He.Fa.noat c) ++ p.T.filterMap (faM c))))
def fnOfT (T : List FI) (ST : List Stmt) : List He.DefD := (T.zip ST).map fun q => dd q.1 q.2
def tsOf (p : Px) : List He.Tab := p.tb.map fun q => (fun K => He.ga K q.1, q.2.map (·.1))
end Lt
namespace Lt
open PySem
def t_PAIRS : List (Str × Nat) := [("came", 2), ("round", 3), ("since", 4)]
def t_COMES : List (Str × Nat) := [("came", 8), ("round", 9), ("last", 10), ("first", 11), ("since", 12), ("here", 8)]
def t_FITS : List (Str × Nat) := [("free", 17), ("who", 18), ("note", 19), ("mine", 20), ("not", 21), ("both", 22), ("either", 22)]
def b_is_between : IS :=
 (.seq (.ret (.and (.isi .int (.var 0)) (.and (.not (.isi .bool (.var 0))) (.last (.chain .LtE .LtE (.var 1) (.var 0) (.var 2))))))
 .done)
def f_is_between : FI := ⟨"is_between", none, ["thing", "low", "high"], ["thing", "low", "high"], b_is_between, .pure⟩
abbrev j_is_between : Nat := 0
def b_is_who : IS :=
 (.seq (.ret (.or (.cmp .Is (.var 1) (.con .non)) (.last (.call 0 (.cons (.var 1) (.cons (.con (.int 0)) (.cons (.bin .Sub (.var 0) (.con (.int 1))) .nil)))))))
 .done)
def f_is_who : FI := ⟨"is_who", none, ["walkers", "thing"], ["walkers", "thing"], b_is_who, .pure⟩
abbrev j_is_who : Nat := 1
def b_fits_came : IS :=
 (.seq (.ret (.and (.call 1 (.cons (.var 0) (.cons (.var 1) .nil))) (.last (.call 0 (.cons (.var 2) (.cons (.con (.int 1)) (.cons (.glob "MOST_TOP" 4) .nil)))))))
 .done)
def f_fits_came : FI := ⟨"fits_came", none, ["walkers", "who", "top"], ["walkers", "who", "top"], b_fits_came, .pure⟩
abbrev j_fits_came : Nat := 2
def b_fits_round : IS :=
 (.seq (.ret (.and (.call 1 (.cons (.var 0) (.cons (.var 1) .nil))) (.last (.call 0 (.cons (.var 2) (.cons (.glob "LEAST_BY" 2) (.cons (.glob "MOST_TOP" 4) .nil)))))))
 .done)
def f_fits_round : FI := ⟨"fits_round", none, ["walkers", "who", "by"], ["walkers", "who", "by"], b_fits_round, .pure⟩
abbrev j_fits_round : Nat := 3
def b_fits_since : IS :=
 (.seq (.ret (.and (.call 0 (.cons (.var 1) (.cons (.con (.int 0)) (.cons (.bin .Sub (.var 0) (.con (.int 1))) .nil)))) (.and (.call 0 (.cons (.var 2) (.cons (.con (.int 0)) (.cons (.bin .Sub (.var 0) (.con (.int 1))) .nil)))) (.last (.cmp .NotEq (.var 1) (.var 2))))))
 .done)
def f_fits_since : FI := ⟨"fits_since", none, ["walkers", "one", "other"], ["walkers", "one", "other"], b_fits_since, .pure⟩
abbrev j_fits_since : Nat := 4
def b_is_note_of : IS :=
 (.seq (.ifs (.or (.not (.isi .tuple (.var 1))) (.or (.cmp .Eq (.var 1) (.tup .nil)) (.last (.not (.isi .str (.ix (.var 1) (.con (.int 0)))))))) (.seq (.ret (.con (.bl false)))
 .done) .done)
 (.seq (.set (.p (.star 3 4)) (.var 1))
 (.seq (.ifs (.cmp .In (.var 3) (.tup (.cons (.con (.str "last")) (.cons (.con (.str "first")) .nil)))) (.seq (.ret (.cmp .Eq (.var 4) (.lst false .nil)))
 .done) .done)
 (.seq (.ifs (.cmp .Eq (.var 3) (.con (.str "here"))) (.seq (.ret (.and (.cmp .Eq (.blt .len (.cons (.var 4) .nil)) (.con (.int 1))) (.last (.call 1 (.cons (.var 0) (.cons (.ix (.var 4) (.con (.int 0))) .nil))))))
 .done) .done)
 (.seq (.ifs (.or (.gin true "PAIRS" t_PAIRS (.var 3)) (.last (.cmp .NotEq (.blt .len (.cons (.var 4) .nil)) (.con (.int 2))))) (.seq (.ret (.con (.bl false)))
 .done) .done)
 (.seq (.set (.p (.v 2)) (.gget "PAIRS" t_PAIRS (.var 3)))
 (.seq (.ret (.callv 2 (.cons (.var 0) (.cons (.ix (.var 4) (.con (.int 0))) (.cons (.ix (.var 4) (.con (.int 1))) .nil)))))
 .done)))))))
def f_is_note_of : FI := ⟨"is_note_of", none, ["walkers", "thing"], ["walkers", "thing", "fits", "word", "parts"], b_is_note_of, .pure⟩
abbrev j_is_note_of : Nat := 5
def b_most_in : IS :=
 (.seq (.ifs (.cmp .Eq (.ix (.var 1) (.con (.int 0))) (.con (.str "came"))) (.seq (.ret (.ix (.var 1) (.con (.int 2))))
 .done) .done)
 (.seq (.ifs (.cmp .Eq (.ix (.var 1) (.con (.int 0))) (.con (.str "round"))) (.seq (.ret (.bin .Sub (.ix (.var 1) (.con (.int 2))) (.con (.int 1))))
 .done) .done)
 (.seq (.ifs (.or (.cmp .Eq (.ix (.var 1) (.con (.int 0))) (.con (.str "since"))) (.last (.and (.cmp .Eq (.ix (.var 1) (.con (.int 0))) (.con (.str "here"))) (.last (.cmp .IsNot (.ix (.var 1) (.con (.int 1))) (.con .non)))))) (.seq (.ret (.con (.int 1)))
 .done) .done)
 (.seq (.ret (.var 0))
 .done))))
def f_most_in : FI := ⟨"most_in", none, ["walkers", "note"], ["walkers", "note"], b_most_in, .pure⟩
abbrev j_most_in : Nat := 6
def b_is_of : IS :=
 (.seq (.ret (.or (.cmp .Is (.ix (.var 0) (.con (.int 1))) (.con .non)) (.last (.cmp .Eq (.ix (.var 0) (.con (.int 1))) (.var 1)))))
 .done)
def f_is_of : FI := ⟨"is_of", none, ["note", "walker"], ["note", "walker"], b_is_of, .pure⟩
abbrev j_is_of : Nat := 7
def b_more_by : IS :=
 (.seq (.ret (.bin .Add (.var 1) (.blt .int (.cons (.call 7 (.cons (.var 0) (.cons (.var 2) .nil))) .nil))))
 .done)
def f_more_by : FI := ⟨"more_by", none, ["note", "value", "walker"], ["note", "value", "walker"], b_more_by, .pure⟩
abbrev j_more_by : Nat := 8
def b_round_by : IS :=
 (.seq (.ret (.bin .Mod (.bin .Add (.var 1) (.blt .int (.cons (.call 7 (.cons (.var 0) (.cons (.var 2) .nil))) .nil))) (.ix (.var 0) (.con (.int 2)))))
 .done)
def f_round_by : FI := ⟨"round_by", none, ["note", "value", "walker"], ["note", "value", "walker"], b_round_by, .pure⟩
abbrev j_round_by : Nat := 9
def b_last_by : IS :=
 (.seq (.ret (.bin .Add (.con (.int 1)) (.var 2)))
 .done)
def f_last_by : FI := ⟨"last_by", none, ["note", "value", "walker"], ["note", "value", "walker"], b_last_by, .pure⟩
abbrev j_last_by : Nat := 10
def b_first_by : IS :=
 (.seq (.ret (.ite (.cmp .Eq (.var 1) (.con (.int 0))) (.bin .Add (.con (.int 1)) (.var 2)) (.var 1)))
 .done)
def f_first_by : FI := ⟨"first_by", none, ["note", "value", "walker"], ["note", "value", "walker"], b_first_by, .pure⟩
abbrev j_first_by : Nat := 11
def b_since_by : IS :=
 (.seq (.ifs (.cmp .Eq (.var 2) (.ix (.var 0) (.con (.int 1)))) (.seq (.ret (.con (.int 1)))
 .done) .done)
 (.seq (.ret (.ite (.cmp .Eq (.var 2) (.ix (.var 0) (.con (.int 2)))) (.con (.int 0)) (.var 1)))
 .done))
def f_since_by : FI := ⟨"since_by", none, ["note", "value", "walker"], ["note", "value", "walker"], b_since_by, .pure⟩
abbrev j_since_by : Nat := 12
def b_value_after : IS :=
 (.seq (.set (.p (.tup (.cons (.v 5) (.cons (.v 6) (.cons (.v 7) .nil))))) (.var 3))
 (.seq (.ifs (.cmp .Eq (.var 5) (.con (.str "out"))) (.seq (.ret (.ite (.and (.cmp .Eq (.ix (.var 1) (.con (.int 0))) (.con (.str "here"))) (.last (.call 7 (.cons (.var 1) (.cons (.var 6) .nil))))) (.blt .max2 (.cons (.con (.int 0)) (.cons (.bin .Sub (.var 2) (.con (.int 1))) .nil))) (.var 2)))
 .done) .done)
 (.seq (.set (.p (.v 4)) (.gget "COMES" t_COMES (.ix (.var 1) (.con (.int 0)))))
 (.seq (.ret (.blt .min2 (.cons (.call 6 (.cons (.var 0) (.cons (.var 1) .nil))) (.cons (.callv 4 (.cons (.var 1) (.cons (.var 2) (.cons (.var 6) .nil)))) .nil))))
 .done))))
def f_value_after : FI := ⟨"value_after", none, ["walkers", "note", "value", "touch"], ["walkers", "note", "value", "touch", "comes", "word", "walker", "number"], b_value_after, .pure⟩
abbrev j_value_after : Nat := 13
def b_are_notes : IS :=
 (.seq (.ret (.and (.isi .tuple (.var 1)) (.and (.cmp .LtE (.blt .len (.cons (.var 1) .nil)) (.glob "MOST_NOTES" 4)) (.last (.blt .all (.cons (.lc false [("note", 2)] .plain (.cons (.var 1) .nil) (.v 2) .yes (.call 5 (.cons (.var 0) (.cons (.var 2) .nil)))) .nil))))))
 .done)
def f_are_notes : FI := ⟨"are_notes", none, ["walkers", "thing"], ["walkers", "thing", "note"], b_are_notes, .pure⟩
abbrev j_are_notes : Nat := 14
def b_are_walkers : IS :=
 (.seq (.ifs (.or (.not (.isi .tuple (.var 1))) (.or (.cmp .Eq (.var 1) (.tup .nil)) (.last (.not (.blt .all (.cons (.lc false [("one", 2)] .plain (.cons (.var 1) .nil) (.v 2) .yes (.call 0 (.cons (.var 2) (.cons (.con (.int 0)) (.cons (.bin .Sub (.var 0) (.con (.int 1))) .nil))))) .nil)))))) (.seq (.ret (.con (.bl false)))
 .done) .done)
 (.seq (.ret (.blt .all (.cons (.lc false [("one", 2), ("other", 3)] .zip (.cons (.var 1) (.cons (.slc (.var 1) (.con (.int 1)) .omit) .nil)) (.tup (.cons (.v 2) (.cons (.v 3) .nil))) .yes (.cmp .Lt (.var 2) (.var 3))) .nil)))
 .done))
def f_are_walkers : FI := ⟨"are_walkers", none, ["walkers", "thing"], ["walkers", "thing", "one", "other"], b_are_walkers, .pure⟩
abbrev j_are_walkers : Nat := 15
def b_is_span : IS :=
 (.seq (.ifs (.not (.call 0 (.cons (.var 2) (.cons (.con (.int 0)) (.cons (.bin .Sub (.blt .len (.cons (.var 1) .nil)) (.con (.int 1))) .nil))))) (.seq (.ret (.con (.bl false)))
 .done) .done)
 (.seq (.set (.p (.v 5)) (.call 6 (.cons (.var 0) (.cons (.ix (.var 1) (.var 2)) .nil))))
 (.seq (.ret (.and (.call 0 (.cons (.var 3) (.cons (.con (.int 0)) (.cons (.var 5) .nil)))) (.last (.call 0 (.cons (.var 4) (.cons (.var 3) (.cons (.var 5) .nil)))))))
 .done)))
def f_is_span : FI := ⟨"is_span", none, ["walkers", "notes", "k", "low", "high"], ["walkers", "notes", "k", "low", "high", "most"], b_is_span, .pure⟩
abbrev j_is_span : Nat := 16
def b_fits_free : IS :=
 (.seq (.ret (.cmp .Eq (.var 2) (.lst false .nil)))
 .done)
def f_fits_free : FI := ⟨"fits_free", none, ["walkers", "notes", "parts", "deep"], ["walkers", "notes", "parts", "deep"], b_fits_free, .pure⟩
abbrev j_fits_free : Nat := 17
def b_fits_who : IS :=
 (.seq (.ret (.and (.cmp .Eq (.blt .len (.cons (.var 2) .nil)) (.con (.int 1))) (.last (.call 15 (.cons (.var 0) (.cons (.ix (.var 2) (.con (.int 0))) .nil))))))
 .done)
def f_fits_who : FI := ⟨"fits_who", none, ["walkers", "notes", "parts", "deep"], ["walkers", "notes", "parts", "deep"], b_fits_who, .pure⟩
abbrev j_fits_who : Nat := 18
def b_fits_note : IS :=
 (.seq (.ret (.and (.cmp .Eq (.blt .len (.cons (.var 2) .nil)) (.con (.int 3))) (.last (.call 16 (.cons (.var 0) (.cons (.var 1) (.cons (.ix (.var 2) (.con (.int 0))) (.cons (.ix (.var 2) (.con (.int 1))) (.cons (.ix (.var 2) (.con (.int 2))) .nil)))))))))
 .done)
def f_fits_note : FI := ⟨"fits_note", none, ["walkers", "notes", "parts", "deep"], ["walkers", "notes", "parts", "deep"], b_fits_note, .pure⟩
abbrev j_fits_note : Nat := 19
def b_fits_mine : IS :=
 (.seq (.ifs (.or (.cmp .NotEq (.blt .len (.cons (.var 2) .nil)) (.con (.int 1))) (.last (.not (.call 0 (.cons (.ix (.var 2) (.con (.int 0))) (.cons (.con (.int 0)) (.cons (.bin .Sub (.blt .len (.cons (.var 1) .nil)) (.con (.int 1))) .nil))))))) (.seq (.ret (.con (.bl false)))
 .done) .done)
 (.seq (.ret (.cmp .In (.ix (.ix (.var 1) (.ix (.var 2) (.con (.int 0)))) (.con (.int 0))) (.tup (.cons (.con (.str "last")) (.cons (.con (.str "first")) .nil)))))
 .done))
def f_fits_mine : FI := ⟨"fits_mine", none, ["walkers", "notes", "parts", "deep"], ["walkers", "notes", "parts", "deep"], b_fits_mine, .pure⟩
abbrev j_fits_mine : Nat := 20
def b_fits_one : IS :=
 (.seq (.ret (.and (.cmp .Eq (.blt .len (.cons (.var 2) .nil)) (.con (.int 1))) (.last (.call 23 (.cons (.var 0) (.cons (.var 1) (.cons (.ix (.var 2) (.con (.int 0))) (.cons (.bin .Sub (.var 3) (.con (.int 1))) .nil))))))))
 .done)
def f_fits_one : FI := ⟨"fits_one", none, ["walkers", "notes", "parts", "deep"], ["walkers", "notes", "parts", "deep"], b_fits_one, .pure⟩
abbrev j_fits_one : Nat := 21
def b_fits_two : IS :=
 (.seq (.ret (.and (.cmp .Eq (.blt .len (.cons (.var 2) .nil)) (.con (.int 2))) (.last (.blt .all (.cons (.lc false [("part", 4)] .plain (.cons (.var 2) .nil) (.v 4) .yes (.call 23 (.cons (.var 0) (.cons (.var 1) (.cons (.var 4) (.cons (.bin .Sub (.var 3) (.con (.int 1))) .nil)))))) .nil)))))
 .done)
def f_fits_two : FI := ⟨"fits_two", none, ["walkers", "notes", "parts", "deep"], ["walkers", "notes", "parts", "deep", "part"], b_fits_two, .pure⟩
abbrev j_fits_two : Nat := 22
def b_is_rule_of : IS :=
 (.seq (.ifs (.or (.cmp .Eq (.var 3) (.con (.int 0))) (.or (.not (.isi .tuple (.var 2))) (.or (.cmp .Eq (.var 2) (.tup .nil)) (.last (.not (.isi .str (.ix (.var 2) (.con (.int 0))))))))) (.seq (.ret (.con (.bl false)))
 .done) .done)
 (.seq (.set (.p (.star 5 6)) (.var 2))
 (.seq (.ifs (.gin true "FITS" t_FITS (.var 5)) (.seq (.ret (.con (.bl false)))
 .done) .done)
 (.seq (.set (.p (.v 4)) (.gget "FITS" t_FITS (.var 5)))
 (.seq (.ret (.callv 4 (.cons (.var 0) (.cons (.var 1) (.cons (.var 6) (.cons (.var 3) .nil))))))
 .done)))))
def f_is_rule_of : FI := ⟨"is_rule_of", none, ["walkers", "notes", "thing", "deep"], ["walkers", "notes", "thing", "deep", "fits", "word", "parts"], b_is_rule_of, .pure⟩
abbrev j_is_rule_of : Nat := 23
def b_lets : IS :=
 (.seq (.set (.p (.star 4 5)) (.var 0))
 (.seq (.ifs (.cmp .Eq (.var 4) (.con (.str "free"))) (.seq (.ret (.con (.bl true)))
 .done) .done)
 (.seq (.ifs (.cmp .Eq (.var 4) (.con (.str "who"))) (.seq (.ret (.cmp .In (.var 2) (.ix (.var 5) (.con (.int 0)))))
 .done) .done)
 (.seq (.ifs (.cmp .Eq (.var 4) (.con (.str "note"))) (.seq (.set (.p (.tup (.cons (.v 6) (.cons (.v 7) (.cons (.v 8) .nil))))) (.var 5))
 (.seq (.ret (.chain .LtE .LtE (.var 7) (.ix (.var 1) (.var 6)) (.var 8)))
 .done)) .done)
 (.seq (.ifs (.cmp .Eq (.var 4) (.con (.str "mine"))) (.seq (.ret (.cmp .Eq (.ix (.var 1) (.ix (.var 5) (.con (.int 0)))) (.bin .Add (.con (.int 1)) (.var 2))))
 .done) .done)
 (.seq (.ifs (.cmp .Eq (.var 4) (.con (.str "not"))) (.seq (.ret (.not (.call 24 (.cons (.ix (.var 5) (.con (.int 0))) (.cons (.var 1) (.cons (.var 2) .nil))))))
 .done) .done)
 (.seq (.set (.p (.v 3)) (.lc false [("part", 9)] .plain (.cons (.var 5) .nil) (.v 9) .yes (.call 24 (.cons (.var 9) (.cons (.var 1) (.cons (.var 2) .nil))))))
 (.seq (.ret (.ite (.cmp .Eq (.var 4) (.con (.str "both"))) (.blt .all (.cons (.var 3) .nil)) (.blt .any (.cons (.var 3) .nil))))
 .done))))))))
def f_lets : FI := ⟨"lets", none, ["rule", "memory", "walker"], ["rule", "memory", "walker", "some", "word", "parts", "k", "low", "high", "part"], b_lets, .pure⟩
abbrev j_lets : Nat := 24
def b_is_memory_of : IS :=
 (.seq (.ifs (.or (.not (.isi .tuple (.var 2))) (.last (.cmp .NotEq (.blt .len (.cons (.var 2) .nil)) (.blt .len (.cons (.var 1) .nil))))) (.seq (.ret (.con (.bl false)))
 .done) .done)
 (.seq (.ret (.blt .all (.cons (.lc false [("note", 3), ("value", 4)] .zip (.cons (.var 1) (.cons (.var 2) .nil)) (.tup (.cons (.v 3) (.cons (.v 4) .nil))) .yes (.call 0 (.cons (.var 4) (.cons (.con (.int 0)) (.cons (.call 6 (.cons (.var 0) (.cons (.var 3) .nil))) .nil))))) .nil)))
 .done))
def f_is_memory_of : FI := ⟨"is_memory_of", none, ["walkers", "notes", "thing"], ["walkers", "notes", "thing", "note", "value"], b_is_memory_of, .pure⟩
abbrev j_is_memory_of : Nat := 25
def b_is_door_of : IS :=
 (.seq (.ifs (.or (.not (.isi .tuple (.var 4))) (.or (.cmp .NotEq (.blt .len (.cons (.var 4) .nil)) (.con (.int 2))) (.or (.not (.call 0 (.cons (.ix (.var 4) (.con (.int 0))) (.cons (.con (.int 0)) (.cons (.bin .Sub (.var 1) (.con (.int 1))) .nil))))) (.last (.cmp .Eq (.ix (.var 4) (.con (.int 0))) (.var 2)))))) (.seq (.ret (.con (.bl false)))
 .done) .done)
 (.seq (.ret (.call 23 (.cons (.var 0) (.cons (.var 3) (.cons (.ix (.var 4) (.con (.int 1))) (.cons (.glob "MOST_DEEP" 4) .nil))))))
 .done))
def f_is_door_of : FI := ⟨"is_door_of", none, ["walkers", "many", "room", "notes", "thing"], ["walkers", "many", "room", "notes", "thing"], b_is_door_of, .pure⟩
abbrev j_is_door_of : Nat := 26
def b_is_room_of : IS :=
 (.seq (.ifs (.or (.not (.isi .tuple (.var 3))) (.last (.cmp .NotEq (.blt .len (.cons (.var 3) .nil)) (.con (.int 2))))) (.seq (.ret (.con (.bl false)))
 .done) .done)
 (.seq (.set (.p (.tup (.cons (.v 4) (.cons (.v 5) .nil)))) (.var 3))
 (.seq (.ifs (.or (.not (.call 14 (.cons (.var 0) (.cons (.var 4) .nil)))) (.or (.not (.isi .tuple (.var 5))) (.last (.cmp .Gt (.blt .len (.cons (.var 5) .nil)) (.glob "MOST_DOORS" 4))))) (.seq (.ret (.con (.bl false)))
 .done) .done)
 (.seq (.ret (.blt .all (.cons (.lc false [("door", 6)] .plain (.cons (.var 5) .nil) (.v 6) .yes (.call 26 (.cons (.var 0) (.cons (.var 1) (.cons (.var 2) (.cons (.var 4) (.cons (.var 6) .nil))))))) .nil)))
 .done))))
def f_is_room_of : FI := ⟨"is_room_of", none, ["walkers", "many", "room", "thing"], ["walkers", "many", "room", "thing", "notes", "doors", "door"], b_is_room_of, .pure⟩
abbrev j_is_room_of : Nat := 27
def b_is_house : IS :=
 (.seq (.ifs (.or (.not (.isi .tuple (.var 0))) (.last (.cmp .NotEq (.blt .len (.cons (.var 0) .nil)) (.con (.int 2))))) (.seq (.ret (.con (.bl false)))
 .done) .done)
 (.seq (.set (.p (.tup (.cons (.v 2) (.cons (.v 3) .nil)))) (.var 0))
 (.seq (.ifs (.or (.not (.isi .tuple (.var 2))) (.last (.not (.chain .LtE .LtE (.glob "FEWEST_ROOMS" 2) (.blt .len (.cons (.var 2) .nil)) (.glob "MOST_ROOMS" 6))))) (.seq (.ret (.con (.bl false)))
 .done) .done)
 (.seq (.ifs (.or (.not (.isi .tuple (.var 3))) (.last (.not (.chain .LtE .LtE (.con (.int 1)) (.blt .len (.cons (.var 3) .nil)) (.glob "MOST_WALKERS" 3))))) (.seq (.ret (.con (.bl false)))
 .done) .done)
 (.seq (.set (.p (.v 1)) (.blt .len (.cons (.var 2) .nil)))
 (.seq (.ifs (.not (.blt .all (.cons (.lc false [("room", 4)] .plain (.cons (.var 3) .nil) (.v 4) .yes (.call 0 (.cons (.var 4) (.cons (.con (.int 0)) (.cons (.bin .Sub (.var 1) (.con (.int 1))) .nil))))) .nil))) (.seq (.ret (.con (.bl false)))
 .done) .done)
 (.seq (.ifs (.not (.blt .all (.cons (.lc false [("number", 5), ("room", 4)] .enum (.cons (.var 2) .nil) (.tup (.cons (.v 5) (.cons (.v 4) .nil))) .yes (.call 27 (.cons (.blt .len (.cons (.var 3) .nil)) (.cons (.var 1) (.cons (.var 5) (.cons (.var 4) .nil)))))) .nil))) (.seq (.ret (.con (.bl false)))
 .done) .done)
 (.seq (.ret (.cmp .LtE (.blt .sum (.cons (.lc false [("notes", 6), ("doors", 7)] .plain (.cons (.var 2) .nil) (.tup (.cons (.v 6) (.cons (.v 7) .nil))) .yes (.blt .len (.cons (.var 6) .nil))) .nil)) (.glob "MOST_IN_ALL" 8)))
 .done))))))))
def f_is_house : FI := ⟨"is_house", none, ["thing"], ["thing", "many", "rooms", "stands", "room", "number", "notes", "doors"], b_is_house, .pure⟩
abbrev j_is_house : Nat := 28
def b_need_house : IS :=
 (.seq (.ifs (.not (.call 28 (.cons (.var 0) .nil))) .never .done)
 .done)
def f_need_house : FI := ⟨"need_house", none, ["house"], ["house"], b_need_house, .pure⟩
abbrev j_need_house : Nat := 29
def b_need_room : IS :=
 (.seq (.ifs (.not (.call 0 (.cons (.var 1) (.cons (.con (.int 0)) (.cons (.bin .Sub (.blt .len (.cons (.ix (.var 0) (.con (.int 0))) .nil)) (.con (.int 1))) .nil))))) .never .done)
 .done)
def f_need_room : FI := ⟨"need_room", none, ["house", "room"], ["house", "room"], b_need_room, .pure⟩
abbrev j_need_room : Nat := 30
def b_need_walker : IS :=
 (.seq (.ifs (.not (.call 0 (.cons (.var 1) (.cons (.con (.int 0)) (.cons (.bin .Sub (.blt .len (.cons (.ix (.var 0) (.con (.int 1))) .nil)) (.con (.int 1))) .nil))))) .never .done)
 .done)
def f_need_walker : FI := ⟨"need_walker", none, ["house", "walker"], ["house", "walker"], b_need_walker, .pure⟩
abbrev j_need_walker : Nat := 31
def b_need_memory : IS :=
 (.seq (.ifs (.not (.call 25 (.cons (.blt .len (.cons (.ix (.var 0) (.con (.int 1))) .nil)) (.cons (.ix (.ix (.ix (.var 0) (.con (.int 0))) (.var 1)) (.con (.int 0))) (.cons (.var 2) .nil))))) .never .done)
 .done)
def f_need_memory : FI := ⟨"need_memory", none, ["house", "room", "memory"], ["house", "room", "memory"], b_need_memory, .pure⟩
abbrev j_need_memory : Nat := 32
def b_is_touch_of : IS :=
 (.seq (.ifs (.or (.not (.isi .tuple (.var 2))) (.or (.cmp .NotEq (.blt .len (.cons (.var 2) .nil)) (.con (.int 3))) (.last (.not (.isi .str (.ix (.var 2) (.con (.int 0)))))))) (.seq (.ret (.con (.bl false)))
 .done) .done)
 (.seq (.set (.p (.tup (.cons (.v 3) (.cons (.v 4) (.cons (.v 5) .nil))))) (.var 2))
 (.seq (.ifs (.not (.call 0 (.cons (.var 4) (.cons (.con (.int 0)) (.cons (.bin .Sub (.blt .len (.cons (.ix (.var 0) (.con (.int 1))) .nil)) (.con (.int 1))) .nil))))) (.seq (.ret (.con (.bl false)))
 .done) .done)
 (.seq (.ifs (.cmp .Eq (.var 3) (.con (.str "out"))) (.seq (.ret (.call 0 (.cons (.var 5) (.cons (.con (.int 0)) (.cons (.bin .Sub (.blt .len (.cons (.ix (.ix (.ix (.var 0) (.con (.int 0))) (.var 1)) (.con (.int 1))) .nil)) (.con (.int 1))) .nil)))))
 .done) .done)
 (.seq (.ifs (.or (.cmp .NotEq (.var 3) (.con (.str "in"))) (.last (.not (.call 0 (.cons (.var 5) (.cons (.con (.int 0)) (.cons (.bin .Sub (.blt .len (.cons (.ix (.var 0) (.con (.int 0))) .nil)) (.con (.int 1))) .nil))))))) (.seq (.ret (.con (.bl false)))
 .done) .done)
 (.seq (.ret (.cmp .In (.var 1) (.lc false [("to", 6), ("rule", 7)] .plain (.cons (.ix (.ix (.ix (.var 0) (.con (.int 0))) (.var 5)) (.con (.int 1))) .nil) (.tup (.cons (.v 6) (.cons (.v 7) .nil))) .yes (.var 6))))
 .done))))))
def f_is_touch_of : FI := ⟨"is_touch_of", none, ["house", "room", "thing"], ["house", "room", "thing", "word", "walker", "number", "to", "rule"], b_is_touch_of, .pure⟩
abbrev j_is_touch_of : Nat := 33
def b_memory_at_first : IS :=
 (.seq (.set (.p (.v 2)) (.lc false [("walker", 5), ("at", 6)] .enum (.cons (.ix (.var 0) (.con (.int 1))) .nil) (.tup (.cons (.v 5) (.cons (.v 6) .nil))) (.cmp .Eq (.var 6) (.var 1)) (.var 5)))
 (.seq (.set (.p (.v 3)) (.lst true .nil))
 (.seq (.for (.v 4) .plain (.cons (.ix (.ix (.ix (.var 0) (.con (.int 0))) (.var 1)) (.con (.int 0))) .nil) (.seq (.exp (.mth .append (.var 3) (.cons (.blt .len (.cons (.lc false [("walker", 5)] .plain (.cons (.var 2) .nil) (.v 5) (.and (.cmp .Eq (.ix (.var 4) (.con (.int 0))) (.con (.str "here"))) (.last (.call 7 (.cons (.var 4) (.cons (.var 5) .nil))))) (.var 5)) .nil)) .nil)))
 .done))
 (.seq (.ret (.blt .tuple (.cons (.var 3) .nil)))
 .done))))
def f_memory_at_first : FI := ⟨"memory_at_first", none, ["house", "room"], ["house", "room", "there", "found", "note", "walker", "at"], b_memory_at_first, .pure⟩
abbrev j_memory_at_first : Nat := 34
def b_first_memory : IS :=
 (.seq (.exp (.call 29 (.cons (.var 0) .nil)))
 (.seq (.exp (.call 30 (.cons (.var 0) (.cons (.var 1) .nil))))
 (.seq (.ret (.call 34 (.cons (.var 0) (.cons (.var 1) .nil))))
 .done)))
def f_first_memory : FI := ⟨"first_memory", none, ["house", "room"], ["house", "room"], b_first_memory, .pure⟩
abbrev j_first_memory : Nat := 35
def b_first_values : IS :=
 (.seq (.ret (.blt .tuple (.cons (.lc2 false [("room", 1), ("value", 2)] [2] .range1 (.cons (.blt .len (.cons (.ix (.var 0) (.con (.int 0))) .nil)) .nil) (.v 1) .plain (.cons (.call 34 (.cons (.var 0) (.cons (.var 1) .nil))) .nil) (.v 2) (.var 2)) .nil)))
 .done)
def f_first_values : FI := ⟨"first_values", none, ["house"], ["house", "room", "value"], b_first_values, .pure⟩
abbrev j_first_values : Nat := 36
def b_memory_in : IS :=
 (.seq (.set (.p (.v 3)) (.blt .sum (.cons (.lc false [("notes", 4), ("doors", 5)] .plain (.cons (.slc (.ix (.var 0) (.con (.int 0))) .omit (.var 2)) .nil) (.tup (.cons (.v 4) (.cons (.v 5) .nil))) .yes (.blt .len (.cons (.var 4) .nil))) .nil)))
 (.seq (.ret (.slc (.var 1) (.var 3) (.bin .Add (.var 3) (.blt .len (.cons (.ix (.ix (.ix (.var 0) (.con (.int 0))) (.var 2)) (.con (.int 0))) .nil)))))
 .done))
def f_memory_in : FI := ⟨"memory_in", none, ["house", "values", "room"], ["house", "values", "room", "ahead", "notes", "doors"], b_memory_in, .pure⟩
abbrev j_memory_in : Nat := 37
def b_memory_after : IS :=
 (.seq (.set (.p (.v 4)) (.blt .len (.cons (.ix (.var 0) (.con (.int 1))) .nil)))
 (.seq (.ret (.blt .tuple (.cons (.lc false [("note", 5), ("value", 6)] .zip (.cons (.ix (.ix (.ix (.var 0) (.con (.int 0))) (.var 1)) (.con (.int 0))) (.cons (.var 2) .nil)) (.tup (.cons (.v 5) (.cons (.v 6) .nil))) .yes (.call 13 (.cons (.var 4) (.cons (.var 5) (.cons (.var 6) (.cons (.var 3) .nil)))))) .nil)))
 .done))
def f_memory_after : FI := ⟨"memory_after", none, ["house", "room", "memory", "touch"], ["house", "room", "memory", "touch", "walkers", "note", "value"], b_memory_after, .pure⟩
abbrev j_memory_after : Nat := 38
def b_memory_behind : IS :=
 (.seq (.exp (.call 29 (.cons (.var 0) .nil)))
 (.seq (.exp (.call 30 (.cons (.var 0) (.cons (.var 1) .nil))))
 (.seq (.exp (.call 32 (.cons (.var 0) (.cons (.var 1) (.cons (.var 2) .nil)))))
 (.seq (.ifs (.not (.call 33 (.cons (.var 0) (.cons (.var 1) (.cons (.var 3) .nil))))) .never .done)
 (.seq (.ret (.call 38 (.cons (.var 0) (.cons (.var 1) (.cons (.var 2) (.cons (.var 3) .nil))))))
 .done)))))
def f_memory_behind : FI := ⟨"memory_behind", none, ["house", "room", "memory", "touch"], ["house", "room", "memory", "touch"], b_memory_behind, .pure⟩
abbrev j_memory_behind : Nat := 39
def b_door_in : IS :=
 (.seq (.for (.tup (.cons (.v 4) (.cons (.tup (.cons (.v 5) (.cons (.v 6) .nil))) .nil))) .enum (.cons (.ix (.ix (.ix (.var 0) (.con (.int 0))) (.var 1)) (.con (.int 1))) .nil) (.seq (.ifs (.call 24 (.cons (.var 6) (.cons (.var 2) (.cons (.var 3) .nil)))) (.seq (.ret (.var 4))
 .done) .done)
 .done))
 (.seq (.ret (.con .non))
 .done))
def f_door_in : FI := ⟨"door_in", none, ["house", "room", "memory", "walker"], ["house", "room", "memory", "walker", "number", "to", "rule"], b_door_in, .pure⟩
abbrev j_door_in : Nat := 40
def b_door_by : IS :=
 (.seq (.exp (.call 29 (.cons (.var 0) .nil)))
 (.seq (.exp (.call 30 (.cons (.var 0) (.cons (.var 1) .nil))))
 (.seq (.exp (.call 32 (.cons (.var 0) (.cons (.var 1) (.cons (.var 2) .nil)))))
 (.seq (.exp (.call 31 (.cons (.var 0) (.cons (.var 3) .nil))))
 (.seq (.ret (.call 40 (.cons (.var 0) (.cons (.var 1) (.cons (.var 2) (.cons (.var 3) .nil))))))
 .done)))))
def f_door_by : FI := ⟨"door_by", none, ["house", "room", "memory", "walker"], ["house", "room", "memory", "walker"], b_door_by, .pure⟩
abbrev j_door_by : Nat := 41
def b_first_of : IS :=
 (.seq (.set (.p (.tup (.cons (.v 1) (.cons (.v 2) .nil)))) (.var 0))
 (.seq (.ret (.tup (.cons (.var 2) (.cons (.call 36 (.cons (.var 0) .nil)) .nil))))
 .done))
def f_first_of : FI := ⟨"first_of", none, ["house"], ["house", "rooms", "stands"], b_first_of, .pure⟩
abbrev j_first_of : Nat := 42
def b_heres_of : IS :=
 (.seq (.set (.p (.tup (.cons (.v 3) (.cons (.v 4) .nil)))) (.var 0))
 (.seq (.set (.p (.v 2)) (.lst true .nil))
 (.seq (.for (.tup (.cons (.v 5) (.cons (.tup (.cons (.v 8) (.cons (.v 9) .nil))) .nil))) .enum (.cons (.var 3) .nil) (.seq (.set (.p (.v 6)) (.lc false [("walker", 10), ("place", 11)] .enum (.cons (.var 1) .nil) (.tup (.cons (.v 10) (.cons (.v 11) .nil))) (.cmp .Eq (.var 11) (.var 5)) (.var 10)))
 (.seq (.for (.v 7) .plain (.cons (.var 8) .nil) (.seq (.ifs (.cmp .NotEq (.ix (.var 7) (.con (.int 0))) (.con (.str "here"))) (.seq (.exp (.mth .append (.var 2) (.cons (.con .non) .nil)))
 .done) (.seq (.exp (.mth .append (.var 2) (.cons (.blt .len (.cons (.lc false [("walker", 10)] .plain (.cons (.var 6) .nil) (.v 10) (.cmp .In (.ix (.var 7) (.con (.int 1))) (.tup (.cons (.con .non) (.cons (.var 10) .nil)))) (.var 10)) .nil)) .nil)))
 .done))
 .done))
 .done)))
 (.seq (.ret (.var 2))
 .done))))
def f_heres_of : FI := ⟨"heres_of", none, ["house", "places"], ["house", "places", "found", "rooms", "stands", "room", "there", "note", "notes", "doors", "walker", "place"], b_heres_of, .pure⟩
abbrev j_heres_of : Nat := 43
def b_are_places : IS :=
 (.seq (.set (.p (.tup (.cons (.v 2) (.cons (.v 3) .nil)))) (.var 0))
 (.seq (.ifs (.or (.not (.isi .tuple (.var 1))) (.last (.cmp .NotEq (.blt .len (.cons (.var 1) .nil)) (.blt .len (.cons (.var 3) .nil))))) (.seq (.ret (.con (.bl false)))
 .done) .done)
 (.seq (.ret (.blt .all (.cons (.lc false [("one", 4)] .plain (.cons (.var 1) .nil) (.v 4) .yes (.and (.isi .int (.var 4)) (.and (.not (.isi .bool (.var 4))) (.last (.chain .LtE .Lt (.con (.int 0)) (.var 4) (.blt .len (.cons (.var 2) .nil))))))) .nil)))
 .done)))
def f_are_places : FI := ⟨"are_places", none, ["house", "thing"], ["house", "thing", "rooms", "stands", "one"], b_are_places, .pure⟩
abbrev j_are_places : Nat := 44
def b_are_values : IS :=
 (.seq (.set (.p (.tup (.cons (.v 4) (.cons (.v 5) .nil)))) (.var 0))
 (.seq (.set (.p (.v 3)) (.lc2 false [("notes", 10), ("doors", 11), ("note", 9)] [9] .plain (.cons (.var 4) .nil) (.tup (.cons (.v 10) (.cons (.v 11) .nil))) .plain (.cons (.var 10) .nil) (.v 9) (.call 6 (.cons (.blt .len (.cons (.var 5) .nil)) (.cons (.var 9) .nil)))))
 (.seq (.ifs (.or (.not (.isi .tuple (.var 2))) (.last (.cmp .NotEq (.blt .len (.cons (.var 2) .nil)) (.blt .len (.cons (.var 3) .nil))))) (.seq (.ret (.con (.bl false)))
 .done) .done)
 (.seq (.for (.tup (.cons (.v 6) (.cons (.v 7) (.cons (.v 8) .nil)))) .zip3s (.cons (.var 2) (.cons (.var 3) (.cons (.call 43 (.cons (.var 0) (.cons (.var 1) .nil))) .nil))) (.seq (.ifs (.or (.not (.isi .int (.var 6))) (.or (.isi .bool (.var 6)) (.last (.not (.chain .LtE .LtE (.con (.int 0)) (.var 6) (.var 7)))))) (.seq (.ret (.con (.bl false)))
 .done) .done)
 (.seq (.ifs (.and (.cmp .IsNot (.var 8) (.con .non)) (.last (.cmp .NotEq (.var 6) (.var 8)))) (.seq (.ret (.con (.bl false)))
 .done) .done)
 .done)))
 (.seq (.ret (.con (.bl true)))
 .done)))))
def f_are_values : FI := ⟨"are_values", none, ["house", "places", "thing"], ["house", "places", "thing", "mosts", "rooms", "stands", "value", "most", "here", "note", "notes", "doors"], b_are_values, .pure⟩
abbrev j_are_values : Nat := 45
def b_is_situation_of : IS :=
 (.seq (.ifs (.or (.not (.isi .tuple (.var 1))) (.or (.cmp .NotEq (.blt .len (.cons (.var 1) .nil)) (.con (.int 2))) (.last (.not (.call 44 (.cons (.var 0) (.cons (.ix (.var 1) (.con (.int 0))) .nil))))))) (.seq (.ret (.con (.bl false)))
 .done) .done)
 (.seq (.ret (.call 45 (.cons (.var 0) (.cons (.ix (.var 1) (.con (.int 0))) (.cons (.ix (.var 1) (.con (.int 1))) .nil)))))
 .done))
def f_is_situation_of : FI := ⟨"is_situation_of", none, ["house", "thing"], ["house", "thing"], b_is_situation_of, .pure⟩
abbrev j_is_situation_of : Nat := 46
def b_need_situation : IS :=
 (.seq (.ifs (.not (.call 46 (.cons (.var 0) (.cons (.var 1) .nil)))) .never .done)
 .done)
def f_need_situation : FI := ⟨"need_situation", none, ["house", "situation"], ["house", "situation"], b_need_situation, .pure⟩
abbrev j_need_situation : Nat := 47
def b_step_in : IS :=
 (.seq (.set (.p (.tup (.cons (.v 5) (.cons (.v 6) .nil)))) (.var 1))
 (.seq (.set (.p (.v 3)) (.ix (.var 5) (.var 2)))
 (.seq (.set (.p (.v 4)) (.call 40 (.cons (.var 0) (.cons (.var 3) (.cons (.call 37 (.cons (.var 0) (.cons (.var 6) (.cons (.var 3) .nil)))) (.cons (.var 2) .nil))))))
 (.seq (.ifs (.cmp .Is (.var 4) (.con .non)) (.seq (.ret (.con .non))
 .done) .done)
 (.seq (.set (.p (.tup (.cons (.v 7) (.cons (.v 8) .nil)))) (.var 0))
 (.seq (.set (.p (.tup (.cons (.v 9) (.cons (.v 10) .nil)))) (.ix (.var 7) (.var 3)))
 (.seq (.set (.p (.tup (.cons (.v 11) (.cons (.v 12) .nil)))) (.ix (.var 10) (.var 4)))
 (.seq (.ret (.tup (.cons (.var 2) (.cons (.var 3) (.cons (.var 4) (.cons (.var 11) .nil))))))
 .done))))))))
def f_step_in : FI := ⟨"step_in", none, ["house", "situation", "walker"], ["house", "situation", "walker", "room", "door", "places", "values", "rooms", "stands", "notes", "doors", "to", "rule"], b_step_in, .pure⟩
abbrev j_step_in : Nat := 48
def b_situation_after : IS :=
 (.seq (.set (.p (.tup (.cons (.v 5) (.cons (.v 6) .nil)))) (.var 1))
 (.seq (.set (.p (.tup (.cons (.v 7) (.cons (.v 8) (.cons (.v 9) (.cons (.v 10) .nil)))))) (.var 2))
 (.seq (.set (.p (.tup (.cons (.v 11) (.cons (.v 12) .nil)))) (.var 0))
 (.seq (.set (.p (.v 3)) (.lst true .nil))
 (.seq (.for (.v 4) .range1 (.cons (.blt .len (.cons (.var 11) .nil)) .nil) (.seq (.set (.p (.v 13)) (.call 37 (.cons (.var 0) (.cons (.var 6) (.cons (.var 4) .nil)))))
 (.seq (.ifs (.cmp .Eq (.var 4) (.var 8)) (.seq (.set (.p (.v 13)) (.call 38 (.cons (.var 0) (.cons (.var 8) (.cons (.var 13) (.cons (.tup (.cons (.con (.str "out")) (.cons (.var 7) (.cons (.var 9) .nil)))) .nil))))))
 .done) .done)
 (.seq (.ifs (.cmp .Eq (.var 4) (.var 10)) (.seq (.set (.p (.v 13)) (.call 38 (.cons (.var 0) (.cons (.var 10) (.cons (.var 13) (.cons (.tup (.cons (.con (.str "in")) (.cons (.var 7) (.cons (.var 8) .nil)))) .nil))))))
 .done) .done)
 (.seq (.exp (.mth .extend (.var 3) (.cons (.var 13) .nil)))
 .done)))))
 (.seq (.ret (.tup (.cons (.bin .Add (.bin .Add (.slc (.var 5) .omit (.var 7)) (.tup (.cons (.var 10) .nil))) (.slc (.var 5) (.bin .Add (.var 7) (.con (.int 1))) .omit)) (.cons (.blt .tuple (.cons (.var 3) .nil)) .nil))))
 .done))))))
def f_situation_after : FI := ⟨"situation_after", none, ["house", "situation", "step"], ["house", "situation", "step", "found", "number", "places", "values", "walker", "room", "door", "to", "rooms", "stands", "memory"], b_situation_after, .pure⟩
abbrev j_situation_after : Nat := 49
def b_steps_in : IS :=
 (.seq (.set (.p (.tup (.cons (.v 3) (.cons (.v 4) .nil)))) (.var 0))
 (.seq (.set (.p (.v 2)) (.lc false [("walker", 5)] .range1 (.cons (.blt .len (.cons (.var 4) .nil)) .nil) (.v 5) .yes (.call 48 (.cons (.var 0) (.cons (.var 1) (.cons (.var 5) .nil))))))
 (.seq (.ret (.lc false [("step", 6)] .plain (.cons (.var 2) .nil) (.v 6) (.cmp .IsNot (.var 6) (.con .non)) (.var 6)))
 .done)))
def f_steps_in : FI := ⟨"steps_in", none, ["house", "situation"], ["house", "situation", "found", "rooms", "stands", "walker", "step"], b_steps_in, .pure⟩
abbrev j_steps_in : Nat := 50
def b_step_by : IS :=
 (.seq (.exp (.call 29 (.cons (.var 0) .nil)))
 (.seq (.exp (.call 47 (.cons (.var 0) (.cons (.var 1) .nil))))
 (.seq (.exp (.call 31 (.cons (.var 0) (.cons (.var 2) .nil))))
 (.seq (.ret (.call 48 (.cons (.var 0) (.cons (.var 1) (.cons (.var 2) .nil)))))
 .done))))
def f_step_by : FI := ⟨"step_by", none, ["house", "situation", "walker"], ["house", "situation", "walker"], b_step_by, .pure⟩
abbrev j_step_by : Nat := 51
def b_going : IS :=
 (.seq (.exp (.call 29 (.cons (.var 0) .nil)))
 (.seq (.exp (.call 47 (.cons (.var 0) (.cons (.var 1) .nil))))
 (.seq (.ret (.blt .tuple (.cons (.lc false [("step", 2)] .plain (.cons (.call 50 (.cons (.var 0) (.cons (.var 1) .nil))) .nil) (.v 2) .yes (.ix (.var 2) (.con (.int 0)))) .nil)))
 .done)))
def f_going : FI := ⟨"going", none, ["house", "situation"], ["house", "situation", "step"], b_going, .pure⟩
abbrev j_going : Nat := 52
def b_behind : IS :=
 (.seq (.set (.p (.v 3)) (.call 51 (.cons (.var 0) (.cons (.var 1) (.cons (.var 2) .nil)))))
 (.seq (.ifs (.cmp .Is (.var 3) (.con .non)) .never .done)
 (.seq (.ret (.call 49 (.cons (.var 0) (.cons (.var 1) (.cons (.var 3) .nil)))))
 .done)))
def f_behind : FI := ⟨"behind", none, ["house", "situation", "walker"], ["house", "situation", "walker", "step"], b_behind, .pure⟩
abbrev j_behind : Nat := 53
def b_Gone___init__ : IS :=
 (.seq (.set (.fld (.var 0) "steps") (.lst true .nil))
 (.seq (.set (.fld (.var 0) "here") (.call 42 (.cons (.var 1) .nil)))
 (.seq (.set (.fld (.var 0) "wrong") (.con .non))
 (.seq (.ifs (.or (.not (.isi .tuple (.var 2))) (.last (.cmp .Gt (.blt .len (.cons (.var 2) .nil)) (.glob "MOST_TURNS" 400)))) (.seq (.set (.fld (.var 0) "wrong") (.con (.int 0)))
 .done) (.seq (.exp (.mcall "Gone" "go_on" 55 (.var 0) (.cons (.var 1) (.cons (.var 2) .nil))))
 .done))
 .done))))
def f_Gone___init__ : FI := ⟨"__init__", (some "Gone"), ["self", "house", "thing"], ["self", "house", "thing"], b_Gone___init__, .keep⟩
abbrev j_Gone___init__ : Nat := 54
def b_Gone_go_on : IS :=
 (.seq (.set (.p (.tup (.cons (.v 3) (.cons (.v 4) .nil)))) (.var 1))
 (.seq (.for (.tup (.cons (.v 5) (.cons (.v 6) .nil))) .enum (.cons (.var 2) .nil) (.seq (.set (.p (.v 7)) (.con .non))
 (.seq (.ifs (.and (.isi .int (.var 6)) (.and (.not (.isi .bool (.var 6))) (.last (.chain .LtE .Lt (.con (.int 0)) (.var 6) (.blt .len (.cons (.var 4) .nil)))))) (.seq (.set (.p (.v 7)) (.call 48 (.cons (.var 1) (.cons (.fld (.var 0) "here") (.cons (.var 6) .nil)))))
 .done) .done)
 (.seq (.ifs (.cmp .Is (.var 7) (.con .non)) (.seq (.set (.fld (.var 0) "wrong") (.var 5))
 (.seq .retN
 .done)) .done)
 (.seq (.exp (.mth .append (.fld (.var 0) "steps") (.cons (.var 7) .nil)))
 (.seq (.set (.fld (.var 0) "here") (.call 49 (.cons (.var 1) (.cons (.fld (.var 0) "here") (.cons (.var 7) .nil)))))
 .done))))))
 .done))
def f_Gone_go_on : FI := ⟨"go_on", (some "Gone"), ["self", "house", "turns"], ["self", "house", "turns", "rooms", "stands", "number", "walker", "step"], b_Gone_go_on, .keep⟩
abbrev j_Gone_go_on : Nat := 55
def b_is_walk : IS :=
 (.seq (.exp (.call 29 (.cons (.var 0) .nil)))
 (.seq (.ret (.cmp .Is (.fld (.mk "Gone" 54 (.cons (.var 0) (.cons (.var 1) .nil))) "wrong") (.con .non)))
 .done))
def f_is_walk : FI := ⟨"is_walk", none, ["house", "thing"], ["house", "thing"], b_is_walk, .pure⟩
abbrev j_is_walk : Nat := 56
def b_gone_by : IS :=
 (.seq (.exp (.call 29 (.cons (.var 0) .nil)))
 (.seq (.set (.p (.v 2)) (.mk "Gone" 54 (.cons (.var 0) (.cons (.var 1) .nil))))
 (.seq (.ifs (.cmp .IsNot (.fld (.var 2) "wrong") (.con .non)) .never .done)
 (.seq (.ret (.var 2))
 .done))))
def f_gone_by : FI := ⟨"gone_by", none, ["house", "walk"], ["house", "walk", "gone"], b_gone_by, .keep⟩
abbrev j_gone_by : Nat := 57
def b_steps_of : IS :=
 (.seq (.ret (.blt .tuple (.cons (.fld (.call 57 (.cons (.var 0) (.cons (.var 1) .nil))) "steps") .nil)))
 .done)
def f_steps_of : FI := ⟨"steps_of", none, ["house", "walk"], ["house", "walk"], b_steps_of, .pure⟩
abbrev j_steps_of : Nat := 58
def b_situation_by : IS :=
 (.seq (.ret (.fld (.call 57 (.cons (.var 0) (.cons (.var 1) .nil))) "here"))
 .done)
def f_situation_by : FI := ⟨"situation_by", none, ["house", "walk"], ["house", "walk"], b_situation_by, .pure⟩
abbrev j_situation_by : Nat := 59
def b__law_pot : IS :=
 (.seq (.set (.p (.v 2)) (.con (.int 0)))
 (.seq (.ifs (.cmp .Lt (.var 1) (.blt .len (.cons (.var 0) .nil))) (.seq (.set (.p (.v 2)) (.bin .Mod (.blt .abs (.cons (.ix (.var 0) (.var 1)) .nil)) (.bin .Pow (.bin .Pow (.con (.int 10)) (.con (.int 60))) (.con (.int 14)))))
 .done) .done)
 (.seq (.set (.p (.v 3)) (.bin .Mod (.bin .Pow (.bin .Add (.bin .Add (.bin .Mod (.var 2) (.con (.int 2147483629))) (.bin .Mult (.con (.int 7919)) (.var 1))) (.con (.int 1))) (.con (.int 5))) (.con (.int 2305843009213693951))))
 (.seq (.ret (.lst true (.cons (.bin .Mult (.var 2) (.blt .int (.cons (.cmp .GtE (.var 2) (.bin .Pow (.con (.int 10)) (.con (.int 18)))) .nil))) (.cons (.var 3) (.cons (.con (.int 0)) .nil)))))
 .done))))
def f__law_pot : FI := ⟨"_law_pot", none, ["script", "k"], ["script", "k", "cell", "mixed"], b__law_pot, .fresh⟩
abbrev j__law_pot : Nat := 60
def b__law_take : IS :=
 (.seq (.ifs (.cmp .Gt (.ix (.var 0) (.con (.int 0))) (.con (.int 0))) (.seq (.set (.p (.v 4)) (.bin .Mod (.ix (.var 0) (.con (.int 0))) (.var 1)))
 (.seq (.set (.sub (.var 0) (.con (.int 0))) (.bin .FloorDiv (.ix (.var 0) (.con (.int 0))) (.var 1)))
 (.seq (.ret (.var 4))
 .done))) .done)
 (.seq (.set (.sub (.var 0) (.con (.int 2))) (.bin .Add (.ix (.var 0) (.con (.int 2))) (.con (.int 1))))
 (.seq (.set (.p (.v 2)) (.bin .Mod (.bin .Pow (.bin .Add (.ix (.var 0) (.con (.int 1))) (.bin .Mult (.con (.int 104729)) (.ix (.var 0) (.con (.int 2))))) (.con (.int 3))) (.con (.int 2305843009213693921))))
 (.seq (.set (.p (.v 3)) (.bin .Mod (.bin .Pow (.bin .Add (.bin .Add (.var 2) (.bin .Mod (.ix (.var 0) (.con (.int 1))) (.con (.int 65537)))) (.bin .Mult (.con (.int 31)) (.ix (.var 0) (.con (.int 2))))) (.con (.int 5))) (.con (.int 2305843009213693907))))
 (.seq (.ret (.bin .Mod (.bin .FloorDiv (.var 3) (.con (.int 1024))) (.var 1)))
 .done)))))
def f__law_take : FI := ⟨"_law_take", none, ["pot", "many"], ["pot", "many", "one", "other", "found"], b__law_take, .pure⟩
abbrev j__law_take : Nat := 61
def bf__law_folded_1 : IS :=
 (.seq (.set (.sub (.var 2) (.bin .Mod (.var 3) (.var 1))) (.bin .Add (.bin .Mult (.ix (.var 2) (.bin .Mod (.var 3) (.var 1))) (.con (.int 31))) (.ix (.var 0) (.var 3))))
 .done)
def b__law_folded : IS :=
 (.seq (.set (.p (.v 2)) (.blt (.list true) (.cons (.slc (.var 0) .omit (.var 1)) .nil)))
 (.seq (.for (.v 3) .range2 (.cons (.var 1) (.cons (.blt .min2 (.cons (.con (.int 63)) (.cons (.blt .len (.cons (.var 0) .nil)) .nil))) .nil)) bf__law_folded_1)
 (.seq (.ret (.var 2))
 .done)))
def f__law_folded : FI := ⟨"_law_folded", none, ["script", "most"], ["script", "most", "found", "k"], b__law_folded, .pure⟩
abbrev j__law_folded : Nat := 62
def b__law_note : IS :=
 (.seq (.set (.p (.v 2)) (.ix (.lst false (.cons (.con .non) (.cons (.call 61 (.cons (.var 0) (.cons (.var 1) .nil))) (.cons (.call 61 (.cons (.var 0) (.cons (.var 1) .nil))) .nil)))) (.call 61 (.cons (.var 0) (.cons (.con (.int 3)) .nil)))))
 (.seq (.set (.p (.v 3)) (.call 61 (.cons (.var 0) (.cons (.con (.int 9)) .nil))))
 (.seq (.ifs (.and (.cmp .Gt (.var 3) (.con (.int 6))) (.last (.cmp .Gt (.var 1) (.con (.int 1))))) (.seq (.set (.p (.v 4)) (.call 61 (.cons (.var 0) (.cons (.var 1) .nil))))
 (.seq (.ret (.tup (.cons (.con (.str "since")) (.cons (.var 4) (.cons (.bin .Mod (.bin .Add (.bin .Add (.var 4) (.con (.int 1))) (.call 61 (.cons (.var 0) (.cons (.bin .Sub (.var 1) (.con (.int 1))) .nil)))) (.var 1)) .nil)))))
 .done)) .done)
 (.seq (.ifs (.cmp .In (.var 3) (.tup (.cons (.con (.int 3)) (.cons (.con (.int 4)) .nil)))) (.seq (.ret (.tup (.cons (.con (.str "round")) (.cons (.var 2) (.cons (.bin .Add (.con (.int 2)) (.call 61 (.cons (.var 0) (.cons (.con (.int 3)) .nil)))) .nil)))))
 .done) .done)
 (.seq (.ifs (.cmp .Eq (.var 3) (.con (.int 5))) (.seq (.ret (.tup (.cons (.con (.str "here")) (.cons (.var 2) .nil))))
 .done) .done)
 (.seq (.ret (.ite (.cmp .In (.var 3) (.tup (.cons (.con (.int 1)) (.cons (.con (.int 2)) .nil)))) (.ix (.lst false (.cons (.tup (.cons (.con (.str "last")) .nil)) (.cons (.tup (.cons (.con (.str "first")) .nil)) .nil))) (.bin .Sub (.var 3) (.con (.int 1)))) (.tup (.cons (.con (.str "came")) (.cons (.var 2) (.cons (.bin .Add (.con (.int 1)) (.call 61 (.cons (.var 0) (.cons (.con (.int 4)) .nil)))) .nil))))))
 .done))))))
def f__law_note : FI := ⟨"_law_note", none, ["pot", "walkers"], ["pot", "walkers", "who", "way", "one"], b__law_note, .pure⟩
abbrev j__law_note : Nat := 63
def b__law_most : IS :=
 (.seq (.ifs (.cmp .In (.ix (.var 1) (.con (.int 0))) (.tup (.cons (.con (.str "came")) (.cons (.con (.str "round")) .nil)))) (.seq (.ret (.bin .Sub (.ix (.var 1) (.con (.int 2))) (.blt .int (.cons (.cmp .Eq (.ix (.var 1) (.con (.int 0))) (.con (.str "round"))) .nil))))
 .done) .done)
 (.seq (.ifs (.or (.cmp .Eq (.ix (.var 1) (.con (.int 0))) (.con (.str "since"))) (.last (.and (.cmp .Eq (.ix (.var 1) (.con (.int 0))) (.con (.str "here"))) (.last (.cmp .IsNot (.ix (.var 1) (.con (.int 1))) (.con .non)))))) (.seq (.ret (.con (.int 1)))
 .done) .done)
 (.seq (.ret (.var 0))
 .done)))
def f__law_most : FI := ⟨"_law_most", none, ["walkers", "note"], ["walkers", "note"], b__law_most, .pure⟩
abbrev j__law_most : Nat := 64
def b__law_rule : IS :=
 (.seq (.set (.p (.v 4)) (.call 61 (.cons (.var 0) (.cons (.con (.int 12)) .nil))))
 (.seq (.ifs (.and (.cmp .Gt (.var 3) (.con (.int 1))) (.last (.cmp .Lt (.var 4) (.con (.int 3))))) (.seq (.set (.p (.v 7)) (.call 65 (.cons (.var 0) (.cons (.var 1) (.cons (.var 2) (.cons (.bin .Sub (.var 3) (.con (.int 1))) .nil))))))
 (.seq (.ifs (.cmp .Eq (.var 4) (.con (.int 0))) (.seq (.ret (.tup (.cons (.con (.str "not")) (.cons (.var 7) .nil))))
 .done) .done)
 (.seq (.ret (.tup (.cons (.ix (.lst false (.cons (.con (.str "both")) (.cons (.con (.str "either")) .nil))) (.bin .Sub (.var 4) (.con (.int 1)))) (.cons (.var 7) (.cons (.call 65 (.cons (.var 0) (.cons (.var 1) (.cons (.var 2) (.cons (.bin .Sub (.var 3) (.con (.int 1))) .nil))))) .nil)))))
 .done))) .done)
 (.seq (.set (.p (.v 5)) (.lc false [("k", 8), ("note", 10)] .enum (.cons (.var 2) .nil) (.tup (.cons (.v 8) (.cons (.v 10) .nil))) (.cmp .In (.ix (.var 10) (.con (.int 0))) (.tup (.cons (.con (.str "last")) (.cons (.con (.str "first")) .nil)))) (.var 8)))
 (.seq (.ifs (.and (.cmp .Gt (.var 4) (.con (.int 9))) (.last (.cmp .NotEq (.var 5) (.lst false .nil)))) (.seq (.ret (.tup (.cons (.con (.str "mine")) (.cons (.ix (.var 5) (.call 61 (.cons (.var 0) (.cons (.blt .len (.cons (.var 5) .nil)) .nil)))) .nil))))
 .done) .done)
 (.seq (.ifs (.and (.cmp .Lt (.var 4) (.con (.int 8))) (.last (.cmp .NotEq (.var 2) (.tup .nil)))) (.seq (.set (.p (.v 8)) (.call 61 (.cons (.var 0) (.cons (.blt .len (.cons (.var 2) .nil)) .nil))))
 (.seq (.set (.p (.v 9)) (.call 61 (.cons (.var 0) (.cons (.bin .Add (.call 64 (.cons (.var 1) (.cons (.ix (.var 2) (.var 8)) .nil))) (.con (.int 1))) .nil))))
 (.seq (.ret (.tup (.cons (.con (.str "note")) (.cons (.var 8) (.cons (.var 9) (.cons (.bin .Add (.var 9) (.call 61 (.cons (.var 0) (.cons (.bin .Sub (.bin .Add (.call 64 (.cons (.var 1) (.cons (.ix (.var 2) (.var 8)) .nil))) (.con (.int 1))) (.var 9)) .nil)))) .nil))))))
 .done))) .done)
 (.seq (.set (.p (.v 6)) (.blt .tuple (.cons (.lc false [("walker", 11)] .range1 (.cons (.var 1) .nil) (.v 11) (.cmp .Eq (.call 61 (.cons (.var 0) (.cons (.con (.int 2)) .nil))) (.con (.int 0))) (.var 11)) .nil)))
 (.seq (.ret (.ite (.or (.cmp .Eq (.var 6) (.tup .nil)) (.last (.cmp .Gt (.var 4) (.con (.int 9))))) (.tup (.cons (.con (.str "free")) .nil)) (.tup (.cons (.con (.str "who")) (.cons (.var 6) .nil)))))
 .done)))))))
def f__law_rule : FI := ⟨"_law_rule", none, ["pot", "walkers", "notes", "deep"], ["pot", "walkers", "notes", "deep", "way", "marks", "some", "one", "k", "low", "note", "walker"], b__law_rule, .pure⟩
abbrev j__law_rule : Nat := 65
def bf__law_house_1 : IS :=
 (.seq (.set (.p (.v 8)) (.blt .tuple (.cons (.lc false [("turn", 13)] .range1 (.cons (.blt .min2 (.cons (.var 7) (.cons (.ix (.lst false (.cons (.con (.int 1)) (.cons (.con (.int 2)) (.cons (.con (.int 0)) (.cons (.con (.int 3)) (.cons (.con (.int 1)) (.cons (.con (.int 4)) .nil))))))) (.call 61 (.cons (.var 0) (.cons (.con (.int 6)) .nil)))) .nil))) .nil) (.v 13) .yes (.call 63 (.cons (.var 0) (.cons (.var 6) .nil)))) .nil)))
 (.seq (.set (.p (.v 7)) (.bin .Sub (.var 7) (.blt .len (.cons (.var 8) .nil))))
 (.seq (.set (.p (.v 9)) (.lc false [("one", 12)] .range1 (.cons (.var 5) .nil) (.v 12) (.cmp .NotEq (.var 12) (.var 4)) (.var 12)))
 (.seq (.set (.p (.v 10)) (.lc false [("turn", 13)] .range1 (.cons (.ix (.lst false (.cons (.con (.int 1)) (.cons (.con (.int 2)) (.cons (.con (.int 3)) (.cons (.con (.int 2)) (.cons (.con (.int 4)) (.cons (.con (.int 1)) (.cons (.con (.int 2)) (.cons (.con (.int 0)) .nil))))))))) (.call 61 (.cons (.var 0) (.cons (.con (.int 8)) .nil)))) .nil) (.v 13) .yes (.ix (.var 9) (.call 61 (.cons (.var 0) (.cons (.blt .len (.cons (.var 9) .nil)) .nil))))))
 (.seq (.set (.p (.v 11)) (.lc true [("to", 14)] .plain (.cons (.var 10) .nil) (.v 14) .yes (.tup (.cons (.var 14) (.cons (.call 65 (.cons (.var 0) (.cons (.var 6) (.cons (.var 8) (.cons (.con (.int 3)) .nil))))) .nil)))))
 (.seq (.ifs (.and (.cmp .NotEq (.var 11) (.lst false .nil)) (.last (.cmp .Eq (.call 61 (.cons (.var 0) (.cons (.con (.int 2)) .nil))) (.con (.int 0))))) (.seq (.set (.sub (.var 11) (.neg (.con (.int 1)))) (.tup (.cons (.ix (.ix (.var 11) (.neg (.con (.int 1)))) (.con (.int 0))) (.cons (.tup (.cons (.con (.str "free")) .nil)) .nil))))
 .done) .done)
 (.seq (.exp (.mth .append (.var 3) (.cons (.tup (.cons (.var 8) (.cons (.blt .tuple (.cons (.var 11) .nil)) .nil))) .nil)))
 .done)))))))
def b__law_house : IS :=
 (.seq (.set (.p (.tup (.cons (.v 5) (.cons (.v 6) (.cons (.v 7) .nil))))) (.tup (.cons (.bin .Add (.con (.int 2)) (.call 61 (.cons (.var 0) (.cons (.bin .Sub (.var 1) (.con (.int 1))) .nil)))) (.cons (.bin .Add (.con (.int 1)) (.call 61 (.cons (.var 0) (.cons (.con (.int 3)) .nil)))) (.cons (.var 2) .nil)))))
 (.seq (.set (.p (.v 3)) (.lst true .nil))
 (.seq (.for (.v 4) .range1 (.cons (.var 5) .nil) bf__law_house_1)
 (.seq (.ret (.tup (.cons (.blt .tuple (.cons (.var 3) .nil)) (.cons (.blt .tuple (.cons (.lc false [("walker", 15)] .range1 (.cons (.var 6) .nil) (.v 15) .yes (.call 61 (.cons (.var 0) (.cons (.var 5) .nil)))) .nil)) .nil))))
 .done))))
def f__law_house : FI := ⟨"_law_house", none, ["pot", "rooms", "notes"], ["pot", "rooms", "notes", "found", "room", "many", "walkers", "left", "some", "others", "tos", "doors", "one", "turn", "to", "walker"], b__law_house, .pure⟩
abbrev j__law_house : Nat := 66
def b__law_touched : IS :=
 (.seq (.set (.p (.tup (.cons (.v 4) (.cons (.v 5) (.cons (.v 6) (.cons (.v 7) .nil)))))) (.var 2))
 (.seq (.set (.p (.v 3)) (.blt (.list true) (.cons (.var 1) .nil)))
 (.seq (.set (.sub (.var 3) (.var 5)) (.call 39 (.cons (.var 0) (.cons (.var 5) (.cons (.ix (.var 3) (.var 5)) (.cons (.tup (.cons (.con (.str "out")) (.cons (.var 4) (.cons (.var 6) .nil)))) .nil))))))
 (.seq (.set (.sub (.var 3) (.var 7)) (.call 39 (.cons (.var 0) (.cons (.var 7) (.cons (.ix (.var 3) (.var 7)) (.cons (.tup (.cons (.con (.str "in")) (.cons (.var 4) (.cons (.var 5) .nil)))) .nil))))))
 (.seq (.ret (.var 3))
 .done)))))
def f__law_touched : FI := ⟨"_law_touched", none, ["house", "memories", "step"], ["house", "memories", "step", "found", "walker", "room", "door", "to"], b__law_touched, .pure⟩
abbrev j__law_touched : Nat := 67
def bf__law_stands_1 : IS :=
 (.seq (.set (.p (.v 4)) (.bin .Add (.var 4) (.var 5)))
 .done)
def b__law_stands : IS :=
 (.seq (.set (.p (.v 4)) (.tup .nil))
 (.seq (.for (.v 5) .plain (.cons (.var 3) .nil) bf__law_stands_1)
 (.seq (.ret (.cmp .Eq (.var 1) (.tup (.cons (.blt .tuple (.cons (.var 2) .nil)) (.cons (.var 4) .nil)))))
 .done)))
def f__law_stands : FI := ⟨"_law_stands", none, ["house", "here", "places", "memories"], ["house", "here", "places", "memories", "values", "memory"], b__law_stands, .pure⟩
abbrev j__law_stands : Nat := 68
def bf__law_walk_right_1 : IS :=
 (.seq (.set (.p (.v 7)) (.call 59 (.cons (.var 0) (.cons (.slc (.var 1) .omit (.var 5)) .nil))))
 (.seq (.set (.p (.tup (.cons (.v 9) (.cons (.v 8) (.cons (.v 10) (.cons (.v 11) .nil)))))) (.var 6))
 (.seq (.ifs (.or (.not (.call 68 (.cons (.var 0) (.cons (.var 7) (.cons (.var 3) (.cons (.var 4) .nil)))))) (.last (.cmp .NotEq (.ix (.var 3) (.var 9)) (.var 8)))) (.seq (.ret (.con (.bl false)))
 .done) .done)
 (.seq (.ifs (.or (.cmp .NotIn (.var 9) (.call 52 (.cons (.var 0) (.cons (.var 7) .nil)))) (.last (.cmp .NotEq (.call 51 (.cons (.var 0) (.cons (.var 7) (.cons (.var 9) .nil)))) (.var 6)))) (.seq (.ret (.con (.bl false)))
 .done) .done)
 (.seq (.ifs (.or (.cmp .NotEq (.call 41 (.cons (.var 0) (.cons (.var 8) (.cons (.ix (.var 4) (.var 8)) (.cons (.var 9) .nil))))) (.var 10)) (.last (.cmp .NotEq (.ix (.ix (.ix (.ix (.ix (.var 0) (.con (.int 0))) (.var 8)) (.con (.int 1))) (.var 10)) (.con (.int 0))) (.var 11)))) (.seq (.ret (.con (.bl false)))
 .done) .done)
 (.seq (.ifs (.cmp .NotEq (.call 53 (.cons (.var 0) (.cons (.var 7) (.cons (.var 9) .nil)))) (.call 59 (.cons (.var 0) (.cons (.slc (.var 1) .omit (.bin .Add (.var 5) (.con (.int 1)))) .nil)))) (.seq (.ret (.con (.bl false)))
 .done) .done)
 (.seq (.set (.pair (.p (.v 4)) (.sub (.var 3) (.var 9))) (.tup (.cons (.call 67 (.cons (.var 0) (.cons (.var 4) (.cons (.var 6) .nil)))) (.cons (.var 11) .nil))))
 .done)))))))
def b__law_walk_right : IS :=
 (.seq (.set (.p (.v 2)) (.call 58 (.cons (.var 0) (.cons (.var 1) .nil))))
 (.seq (.ifs (.or (.cmp .NotEq (.blt .len (.cons (.var 2) .nil)) (.blt .len (.cons (.var 1) .nil))) (.last (.cmp .NotEq (.lc false [("step", 6)] .plain (.cons (.var 2) .nil) (.v 6) .yes (.ix (.var 6) (.con (.int 0)))) (.blt (.list false) (.cons (.var 1) .nil))))) (.seq (.ret (.con (.bl false)))
 .done) .done)
 (.seq (.set (.p (.v 3)) (.blt (.list true) (.cons (.ix (.var 0) (.con (.int 1))) .nil)))
 (.seq (.set (.p (.v 4)) (.lc false [("room", 8)] .range1 (.cons (.blt .len (.cons (.ix (.var 0) (.con (.int 0))) .nil)) .nil) (.v 8) .yes (.call 35 (.cons (.var 0) (.cons (.var 8) .nil)))))
 (.seq (.for (.tup (.cons (.v 5) (.cons (.v 6) .nil))) .enum (.cons (.var 2) .nil) bf__law_walk_right_1)
 (.seq (.ret (.call 68 (.cons (.var 0) (.cons (.call 59 (.cons (.var 0) (.cons (.var 1) .nil))) (.cons (.var 3) (.cons (.var 4) .nil))))))
 .done))))))
def f__law_walk_right : FI := ⟨"_law_walk_right", none, ["house", "walk"], ["house", "walk", "steps", "places", "memories", "number", "step", "here", "room", "walker", "door", "to"], b__law_walk_right, .pure⟩
abbrev j__law_walk_right : Nat := 69
def bf__law_beginnings_right_1 : IS :=
 (.seq (.ifs (.cmp .NotEq (.call 56 (.cons (.var 1) (.cons (.bin .Add (.var 3) (.tup (.cons (.var 5) .nil))) .nil))) (.cmp .In (.var 5) (.var 4))) (.seq (.ret (.con (.bl false)))
 .done) .done)
 .done)
def b__law_beginnings_right : IS :=
 (.seq (.set (.p (.v 3)) (.slc (.var 2) .omit (.call 61 (.cons (.var 0) (.cons (.bin .Add (.blt .len (.cons (.var 2) .nil)) (.con (.int 1))) .nil)))))
 (.seq (.ifs (.or (.not (.call 56 (.cons (.var 1) (.cons (.var 3) .nil)))) (.last (.cmp .NotEq (.slc (.call 58 (.cons (.var 1) (.cons (.var 2) .nil))) .omit (.blt .len (.cons (.var 3) .nil))) (.call 58 (.cons (.var 1) (.cons (.var 3) .nil)))))) (.seq (.ret (.con (.bl false)))
 .done) .done)
 (.seq (.set (.p (.v 4)) (.call 52 (.cons (.var 1) (.cons (.call 59 (.cons (.var 1) (.cons (.var 3) .nil))) .nil))))
 (.seq (.for (.v 5) .range1 (.cons (.blt .len (.cons (.ix (.var 1) (.con (.int 1))) .nil)) .nil) bf__law_beginnings_right_1)
 (.seq (.ret (.con (.bl true)))
 .done)))))
def f__law_beginnings_right : FI := ⟨"_law_beginnings_right", none, ["pot", "house", "walk"], ["pot", "house", "walk", "part", "some", "walker"], b__law_beginnings_right, .pure⟩
abbrev j__law_beginnings_right : Nat := 70
def b__law_unasked_right : IS :=
 (.seq (.set (.p (.v 3)) (.call 61 (.cons (.var 0) (.cons (.blt .len (.cons (.ix (.var 1) (.con (.int 0))) .nil)) .nil))))
 (.seq (.set (.p (.tup (.cons (.v 6) (.cons (.v 7) .nil)))) (.ix (.ix (.var 1) (.con (.int 0))) (.var 3)))
 (.seq (.ifs (.or (.cmp .Eq (.blt .len (.cons (.var 7) .nil)) (.con (.int 4))) (.or (.cmp .Eq (.var 7) (.tup .nil)) (.last (.cmp .NotEq (.ix (.ix (.var 7) (.neg (.con (.int 1)))) (.con (.int 1))) (.tup (.cons (.con (.str "free")) .nil)))))) (.seq (.ret (.con (.bl true)))
 .done) .done)
 (.seq (.set (.p (.v 4)) (.bin .Add (.var 7) (.tup (.cons (.tup (.cons (.bin .Mod (.bin .Add (.var 3) (.con (.int 1))) (.blt .len (.cons (.ix (.var 1) (.con (.int 0))) .nil))) (.cons (.tup (.cons (.con (.str "free")) .nil)) .nil))) .nil))))
 (.seq (.set (.p (.v 5)) (.tup (.cons (.bin .Add (.bin .Add (.slc (.ix (.var 1) (.con (.int 0))) .omit (.var 3)) (.tup (.cons (.tup (.cons (.var 6) (.cons (.var 4) .nil))) .nil))) (.slc (.ix (.var 1) (.con (.int 0))) (.bin .Add (.var 3) (.con (.int 1))) .omit)) (.cons (.ix (.var 1) (.con (.int 1))) .nil))))
 (.seq (.ret (.and (.cmp .Eq (.call 58 (.cons (.var 5) (.cons (.var 2) .nil))) (.call 58 (.cons (.var 1) (.cons (.var 2) .nil)))) (.last (.cmp .Eq (.call 59 (.cons (.var 5) (.cons (.var 2) .nil))) (.call 59 (.cons (.var 1) (.cons (.var 2) .nil)))))))
 .done))))))
def f__law_unasked_right : FI := ⟨"_law_unasked_right", none, ["pot", "house", "walk"], ["pot", "house", "walk", "room", "more", "other", "notes", "doors"], b__law_unasked_right, .pure⟩
abbrev j__law_unasked_right : Nat := 71
def bf_law_1 : IS :=
 (.seq (.set (.p (.v 7)) (.call 52 (.cons (.var 4) (.cons (.call 59 (.cons (.var 4) (.cons (.var 5) .nil))) .nil))))
 (.seq (.ifs (.cmp .NotEq (.var 7) (.tup .nil)) (.seq (.set (.p (.v 5)) (.bin .Add (.var 5) (.tup (.cons (.ix (.var 7) (.call 61 (.cons (.var 3) (.cons (.blt .len (.cons (.var 7) .nil)) .nil)))) .nil))))
 .done) .done)
 .done))
def bf_law_2 : IS :=
 (.seq (.set (.p (.v 3)) (.call 60 (.cons (.var 1) (.cons (.var 2) .nil))))
 (.seq (.set (.p (.v 4)) (.call 66 (.cons (.var 3) (.cons (.con (.int 5)) (.cons (.con (.int 8)) .nil)))))
 (.seq (.set (.p (.v 5)) (.tup .nil))
 (.seq (.for (.v 6) .range1 (.cons (.con (.int 10)) .nil) bf_law_1)
 (.seq (.ifs (.or (.not (.call 69 (.cons (.var 4) (.cons (.var 5) .nil)))) (.last (.not (.call 70 (.cons (.var 3) (.cons (.var 4) (.cons (.var 5) .nil))))))) (.seq (.ret (.con (.bl false)))
 .done) .done)
 (.seq (.ifs (.not (.call 71 (.cons (.var 3) (.cons (.var 4) (.cons (.var 5) .nil))))) (.seq (.ret (.con (.bl false)))
 .done) .done)
 .done))))))
def b_law : IS :=
 (.seq (.set (.p (.v 1)) (.call 62 (.cons (.var 0) (.cons (.con (.int 4)) .nil))))
 (.seq (.for (.v 2) .range1 (.cons (.blt .max2 (.cons (.con (.int 1)) (.cons (.blt .len (.cons (.var 1) .nil)) .nil))) .nil) bf_law_2)
 (.seq (.ret (.con (.bl true)))
 .done)))
def f_law : FI := ⟨"law", none, ["script"], ["script", "cells", "k", "pot", "house", "walk", "turn", "some"], b_law, .pure⟩
abbrev j_law : Nat := 72
def TBL : List FI := [f_is_between, f_is_who, f_fits_came, f_fits_round, f_fits_since, f_is_note_of, f_most_in, f_is_of, f_more_by, f_round_by, f_last_by, f_first_by, f_since_by, f_value_after, f_are_notes, f_are_walkers, f_is_span, f_fits_free, f_fits_who, f_fits_note, f_fits_mine, f_fits_one, f_fits_two, f_is_rule_of, f_lets, f_is_memory_of, f_is_door_of, f_is_room_of, f_is_house, f_need_house, f_need_room, f_need_walker, f_need_memory, f_is_touch_of, f_memory_at_first, f_first_memory, f_first_values, f_memory_in, f_memory_after, f_memory_behind, f_door_in, f_door_by, f_first_of, f_heres_of, f_are_places, f_are_values, f_is_situation_of, f_need_situation, f_step_in, f_situation_after, f_steps_in, f_step_by, f_going, f_behind, f_Gone___init__, f_Gone_go_on, f_is_walk, f_gone_by, f_steps_of, f_situation_by, f__law_pot, f__law_take, f__law_folded, f__law_note, f__law_most, f__law_rule, f__law_house, f__law_touched, f__law_stands, f__law_walk_right, f__law_beginnings_right, f__law_unasked_right, f_law]
def GI : List (Str × Int) := [("MOST_WALKERS", 3), ("MOST_ROOMS", 6), ("MOST_TOP", 4), ("LEAST_BY", 2), ("MOST_NOTES", 4), ("MOST_DEEP", 4), ("FEWEST_ROOMS", 2), ("MOST_DOORS", 4), ("MOST_IN_ALL", 8), ("MOST_TURNS", 400)]
def TB : List (Str × List (Str × Nat)) := [("PAIRS", t_PAIRS), ("COMES", t_COMES), ("FITS", t_FITS)]
theorem run_is_between (F n : Nat) (a0 a1 a2 : Val) (S : Store) : run TBL F (n + 1) 0 [a0, a1, a2] S = leave .pure S.length (evS (run TBL F n) F b_is_between [some a0, some a1, some a2] S).toR := (rfl)
theorem run_is_who (F n : Nat) (a0 a1 : Val) (S : Store) : run TBL F (n + 1) 1 [a0, a1] S = leave .pure S.length (evS (run TBL F n) F b_is_who [some a0, some a1] S).toR := (rfl)
theorem run_fits_came (F n : Nat) (a0 a1 a2 : Val) (S : Store) : run TBL F (n + 1) 2 [a0, a1, a2] S = leave .pure S.length (evS (run TBL F n) F b_fits_came [some a0, some a1, some a2] S).toR := (rfl)
theorem run_fits_round (F n : Nat) (a0 a1 a2 : Val) (S : Store) : run TBL F (n + 1) 3 [a0, a1, a2] S = leave .pure S.length (evS (run TBL F n) F b_fits_round [some a0, some a1, some a2] S).toR := (rfl)
theorem run_fits_since (F n : Nat) (a0 a1 a2 : Val) (S : Store) : run TBL F (n + 1) 4 [a0, a1, a2] S = leave .pure S.length (evS (run TBL F n) F b_fits_since [some a0, some a1, some a2] S).toR := (rfl)
theorem run_is_note_of (F n : Nat) (a0 a1 : Val) (S : Store) : run TBL F (n + 1) 5 [a0, a1] S = leave .pure S.length (evS (run TBL F n) F b_is_note_of [some a0, some a1, none, none, none] S).toR := (rfl)
theorem run_most_in (F n : Nat) (a0 a1 : Val) (S : Store) : run TBL F (n + 1) 6 [a0, a1] S = leave .pure S.length (evS (run TBL F n) F b_most_in [some a0, some a1] S).toR := (rfl)
theorem run_is_of (F n : Nat) (a0 a1 : Val) (S : Store) : run TBL F (n + 1) 7 [a0, a1] S = leave .pure S.length (evS (run TBL F n) F b_is_of [some a0, some a1] S).toR := (rfl)
theorem run_more_by (F n : Nat) (a0 a1 a2 : Val) (S : Store) : run TBL F (n + 1) 8 [a0, a1, a2] S = leave .pure S.length (evS (run TBL F n) F b_more_by [some a0, some a1, some a2] S).toR := (rfl)
theorem run_round_by (F n : Nat) (a0 a1 a2 : Val) (S : Store) : run TBL F (n + 1) 9 [a0, a1, a2] S = leave .pure S.length (evS (run TBL F n) F b_round_by [some a0, some a1, some a2] S).toR := (rfl)
theorem run_last_by (F n : Nat) (a0 a1 a2 : Val) (S : Store) : run TBL F (n + 1) 10 [a0, a1, a2] S = leave .pure S.length (evS (run TBL F n) F b_last_by [some a0, some a1, some a2] S).toR := (rfl)
theorem run_first_by (F n : Nat) (a0 a1 a2 : Val) (S : Store) : run TBL F (n + 1) 11 [a0, a1, a2] S = leave .pure S.length (evS (run TBL F n) F b_first_by [some a0, some a1, some a2] S).toR := (rfl)
theorem run_since_by (F n : Nat) (a0 a1 a2 : Val) (S : Store) : run TBL F (n + 1) 12 [a0, a1, a2] S = leave .pure S.length (evS (run TBL F n) F b_since_by [some a0, some a1, some a2] S).toR := (rfl)
theorem run_value_after (F n : Nat) (a0 a1 a2 a3 : Val) (S : Store) : run TBL F (n + 1) 13 [a0, a1, a2, a3] S = leave .pure S.length (evS (run TBL F n) F b_value_after [some a0, some a1, some a2, some a3, none, none, none, none] S).toR := (rfl)
theorem run_are_notes (F n : Nat) (a0 a1 : Val) (S : Store) : run TBL F (n + 1) 14 [a0, a1] S = leave .pure S.length (evS (run TBL F n) F b_are_notes [some a0, some a1, none] S).toR := (rfl)
theorem run_are_walkers (F n : Nat) (a0 a1 : Val) (S : Store) : run TBL F (n + 1) 15 [a0, a1] S = leave .pure S.length (evS (run TBL F n) F b_are_walkers [some a0, some a1, none, none] S).toR := (rfl)
theorem run_is_span (F n : Nat) (a0 a1 a2 a3 a4 : Val) (S : Store) : run TBL F (n + 1) 16 [a0, a1, a2, a3, a4] S = leave .pure S.length (evS (run TBL F n) F b_is_span [some a0, some a1, some a2, some a3, some a4, none] S).toR := (rfl)
theorem run_fits_free (F n : Nat) (a0 a1 a2 a3 : Val) (S : Store) : run TBL F (n + 1) 17 [a0, a1, a2, a3] S = leave .pure S.length (evS (run TBL F n) F b_fits_free [some a0, some a1, some a2, some a3] S).toR := (rfl)
theorem run_fits_who (F n : Nat) (a0 a1 a2 a3 : Val) (S : Store) : run TBL F (n + 1) 18 [a0, a1, a2, a3] S = leave .pure S.length (evS (run TBL F n) F b_fits_who [some a0, some a1, some a2, some a3] S).toR := (rfl)
theorem run_fits_note (F n : Nat) (a0 a1 a2 a3 : Val) (S : Store) : run TBL F (n + 1) 19 [a0, a1, a2, a3] S = leave .pure S.length (evS (run TBL F n) F b_fits_note [some a0, some a1, some a2, some a3] S).toR := (rfl)
theorem run_fits_mine (F n : Nat) (a0 a1 a2 a3 : Val) (S : Store) : run TBL F (n + 1) 20 [a0, a1, a2, a3] S = leave .pure S.length (evS (run TBL F n) F b_fits_mine [some a0, some a1, some a2, some a3] S).toR := (rfl)
theorem run_fits_one (F n : Nat) (a0 a1 a2 a3 : Val) (S : Store) : run TBL F (n + 1) 21 [a0, a1, a2, a3] S = leave .pure S.length (evS (run TBL F n) F b_fits_one [some a0, some a1, some a2, some a3] S).toR := (rfl)
theorem run_fits_two (F n : Nat) (a0 a1 a2 a3 : Val) (S : Store) : run TBL F (n + 1) 22 [a0, a1, a2, a3] S = leave .pure S.length (evS (run TBL F n) F b_fits_two [some a0, some a1, some a2, some a3, none] S).toR := (rfl)
theorem run_is_rule_of (F n : Nat) (a0 a1 a2 a3 : Val) (S : Store) : run TBL F (n + 1) 23 [a0, a1, a2, a3] S = leave .pure S.length (evS (run TBL F n) F b_is_rule_of [some a0, some a1, some a2, some a3, none, none, none] S).toR := (rfl)
theorem run_lets (F n : Nat) (a0 a1 a2 : Val) (S : Store) : run TBL F (n + 1) 24 [a0, a1, a2] S = leave .pure S.length (evS (run TBL F n) F b_lets [some a0, some a1, some a2, none, none, none, none, none, none, none] S).toR := (rfl)
theorem run_is_memory_of (F n : Nat) (a0 a1 a2 : Val) (S : Store) : run TBL F (n + 1) 25 [a0, a1, a2] S = leave .pure S.length (evS (run TBL F n) F b_is_memory_of [some a0, some a1, some a2, none, none] S).toR := (rfl)
theorem run_is_door_of (F n : Nat) (a0 a1 a2 a3 a4 : Val) (S : Store) : run TBL F (n + 1) 26 [a0, a1, a2, a3, a4] S = leave .pure S.length (evS (run TBL F n) F b_is_door_of [some a0, some a1, some a2, some a3, some a4] S).toR := (rfl)
theorem run_is_room_of (F n : Nat) (a0 a1 a2 a3 : Val) (S : Store) : run TBL F (n + 1) 27 [a0, a1, a2, a3] S = leave .pure S.length (evS (run TBL F n) F b_is_room_of [some a0, some a1, some a2, some a3, none, none, none] S).toR := (rfl)
theorem run_is_house (F n : Nat) (a0 : Val) (S : Store) : run TBL F (n + 1) 28 [a0] S = leave .pure S.length (evS (run TBL F n) F b_is_house [some a0, none, none, none, none, none, none, none] S).toR := (rfl)
theorem run_need_house (F n : Nat) (a0 : Val) (S : Store) : run TBL F (n + 1) 29 [a0] S = leave .pure S.length (evS (run TBL F n) F b_need_house [some a0] S).toR := (rfl)
theorem run_need_room (F n : Nat) (a0 a1 : Val) (S : Store) : run TBL F (n + 1) 30 [a0, a1] S = leave .pure S.length (evS (run TBL F n) F b_need_room [some a0, some a1] S).toR := (rfl)
theorem run_need_walker (F n : Nat) (a0 a1 : Val) (S : Store) : run TBL F (n + 1) 31 [a0, a1] S = leave .pure S.length (evS (run TBL F n) F b_need_walker [some a0, some a1] S).toR := (rfl)
theorem run_need_memory (F n : Nat) (a0 a1 a2 : Val) (S : Store) : run TBL F (n + 1) 32 [a0, a1, a2] S = leave .pure S.length (evS (run TBL F n) F b_need_memory [some a0, some a1, some a2] S).toR := (rfl)
theorem run_is_touch_of (F n : Nat) (a0 a1 a2 : Val) (S : Store) : run TBL F (n + 1) 33 [a0, a1, a2] S = leave .pure S.length (evS (run TBL F n) F b_is_touch_of [some a0, some a1, some a2, none, none, none, none, none] S).toR := (rfl)
theorem run_memory_at_first (F n : Nat) (a0 a1 : Val) (S : Store) : run TBL F (n + 1) 34 [a0, a1] S = leave .pure S.length (evS (run TBL F n) F b_memory_at_first [some a0, some a1, none, none, none, none, none] S).toR := (rfl)
theorem run_first_memory (F n : Nat) (a0 a1 : Val) (S : Store) : run TBL F (n + 1) 35 [a0, a1] S = leave .pure S.length (evS (run TBL F n) F b_first_memory [some a0, some a1] S).toR := (rfl)
theorem run_first_values (F n : Nat) (a0 : Val) (S : Store) : run TBL F (n + 1) 36 [a0] S = leave .pure S.length (evS (run TBL F n) F b_first_values [some a0, none, none] S).toR := (rfl)
theorem run_memory_in (F n : Nat) (a0 a1 a2 : Val) (S : Store) : run TBL F (n + 1) 37 [a0, a1, a2] S = leave .pure S.length (evS (run TBL F n) F b_memory_in [some a0, some a1, some a2, none, none, none] S).toR := (rfl)
theorem run_memory_after (F n : Nat) (a0 a1 a2 a3 : Val) (S : Store) : run TBL F (n + 1) 38 [a0, a1, a2, a3] S = leave .pure S.length (evS (run TBL F n) F b_memory_after [some a0, some a1, some a2, some a3, none, none, none] S).toR := (rfl)
theorem run_memory_behind (F n : Nat) (a0 a1 a2 a3 : Val) (S : Store) : run TBL F (n + 1) 39 [a0, a1, a2, a3] S = leave .pure S.length (evS (run TBL F n) F b_memory_behind [some a0, some a1, some a2, some a3] S).toR := (rfl)
theorem run_door_in (F n : Nat) (a0 a1 a2 a3 : Val) (S : Store) : run TBL F (n + 1) 40 [a0, a1, a2, a3] S = leave .pure S.length (evS (run TBL F n) F b_door_in [some a0, some a1, some a2, some a3, none, none, none] S).toR := (rfl)
theorem run_door_by (F n : Nat) (a0 a1 a2 a3 : Val) (S : Store) : run TBL F (n + 1) 41 [a0, a1, a2, a3] S = leave .pure S.length (evS (run TBL F n) F b_door_by [some a0, some a1, some a2, some a3] S).toR := (rfl)
theorem run_first_of (F n : Nat) (a0 : Val) (S : Store) : run TBL F (n + 1) 42 [a0] S = leave .pure S.length (evS (run TBL F n) F b_first_of [some a0, none, none] S).toR := (rfl)
theorem run_heres_of (F n : Nat) (a0 a1 : Val) (S : Store) : run TBL F (n + 1) 43 [a0, a1] S = leave .pure S.length (evS (run TBL F n) F b_heres_of [some a0, some a1, none, none, none, none, none, none, none, none, none, none] S).toR := (rfl)
theorem run_are_places (F n : Nat) (a0 a1 : Val) (S : Store) : run TBL F (n + 1) 44 [a0, a1] S = leave .pure S.length (evS (run TBL F n) F b_are_places [some a0, some a1, none, none, none] S).toR := (rfl)
theorem run_are_values (F n : Nat) (a0 a1 a2 : Val) (S : Store) : run TBL F (n + 1) 45 [a0, a1, a2] S = leave .pure S.length (evS (run TBL F n) F b_are_values [some a0, some a1, some a2, none, none, none, none, none, none, none, none, none] S).toR := (rfl)
theorem run_is_situation_of (F n : Nat) (a0 a1 : Val) (S : Store) : run TBL F (n + 1) 46 [a0, a1] S = leave .pure S.length (evS (run TBL F n) F b_is_situation_of [some a0, some a1] S).toR := (rfl)
theorem run_need_situation (F n : Nat) (a0 a1 : Val) (S : Store) : run TBL F (n + 1) 47 [a0, a1] S = leave .pure S.length (evS (run TBL F n) F b_need_situation [some a0, some a1] S).toR := (rfl)
theorem run_step_in (F n : Nat) (a0 a1 a2 : Val) (S : Store) : run TBL F (n + 1) 48 [a0, a1, a2] S = leave .pure S.length (evS (run TBL F n) F b_step_in [some a0, some a1, some a2, none, none, none, none, none, none, none, none, none, none] S).toR := (rfl)
theorem run_situation_after (F n : Nat) (a0 a1 a2 : Val) (S : Store) : run TBL F (n + 1) 49 [a0, a1, a2] S = leave .pure S.length (evS (run TBL F n) F b_situation_after [some a0, some a1, some a2, none, none, none, none, none, none, none, none, none, none, none] S).toR := (rfl)
theorem run_steps_in (F n : Nat) (a0 a1 : Val) (S : Store) : run TBL F (n + 1) 50 [a0, a1] S = leave .pure S.length (evS (run TBL F n) F b_steps_in [some a0, some a1, none, none, none, none, none] S).toR := (rfl)
theorem run_step_by (F n : Nat) (a0 a1 a2 : Val) (S : Store) : run TBL F (n + 1) 51 [a0, a1, a2] S = leave .pure S.length (evS (run TBL F n) F b_step_by [some a0, some a1, some a2] S).toR := (rfl)
theorem run_going (F n : Nat) (a0 a1 : Val) (S : Store) : run TBL F (n + 1) 52 [a0, a1] S = leave .pure S.length (evS (run TBL F n) F b_going [some a0, some a1, none] S).toR := (rfl)
theorem run_behind (F n : Nat) (a0 a1 a2 : Val) (S : Store) : run TBL F (n + 1) 53 [a0, a1, a2] S = leave .pure S.length (evS (run TBL F n) F b_behind [some a0, some a1, some a2, none] S).toR := (rfl)
theorem run_Gone___init__ (F n : Nat) (a0 a1 a2 : Val) (S : Store) : run TBL F (n + 1) 54 [a0, a1, a2] S = leave .keep S.length (evS (run TBL F n) F b_Gone___init__ [some a0, some a1, some a2] S).toR := (rfl)
theorem run_Gone_go_on (F n : Nat) (a0 a1 a2 : Val) (S : Store) : run TBL F (n + 1) 55 [a0, a1, a2] S = leave .keep S.length (evS (run TBL F n) F b_Gone_go_on [some a0, some a1, some a2, none, none, none, none, none] S).toR := (rfl)
theorem run_is_walk (F n : Nat) (a0 a1 : Val) (S : Store) : run TBL F (n + 1) 56 [a0, a1] S = leave .pure S.length (evS (run TBL F n) F b_is_walk [some a0, some a1] S).toR := (rfl)
theorem run_gone_by (F n : Nat) (a0 a1 : Val) (S : Store) : run TBL F (n + 1) 57 [a0, a1] S = leave .keep S.length (evS (run TBL F n) F b_gone_by [some a0, some a1, none] S).toR := (rfl)
theorem run_steps_of (F n : Nat) (a0 a1 : Val) (S : Store) : run TBL F (n + 1) 58 [a0, a1] S = leave .pure S.length (evS (run TBL F n) F b_steps_of [some a0, some a1] S).toR := (rfl)
theorem run_situation_by (F n : Nat) (a0 a1 : Val) (S : Store) : run TBL F (n + 1) 59 [a0, a1] S = leave .pure S.length (evS (run TBL F n) F b_situation_by [some a0, some a1] S).toR := (rfl)
theorem run__law_pot (F n : Nat) (a0 a1 : Val) (S : Store) : run TBL F (n + 1) 60 [a0, a1] S = leave .fresh S.length (evS (run TBL F n) F b__law_pot [some a0, some a1, none, none] S).toR := (rfl)
theorem run__law_take (F n : Nat) (a0 a1 : Val) (S : Store) : run TBL F (n + 1) 61 [a0, a1] S = leave .pure S.length (evS (run TBL F n) F b__law_take [some a0, some a1, none, none, none] S).toR := (rfl)
theorem run__law_folded (F n : Nat) (a0 a1 : Val) (S : Store) : run TBL F (n + 1) 62 [a0, a1] S = leave .pure S.length (evS (run TBL F n) F b__law_folded [some a0, some a1, none, none] S).toR := (rfl)
theorem run__law_note (F n : Nat) (a0 a1 : Val) (S : Store) : run TBL F (n + 1) 63 [a0, a1] S = leave .pure S.length (evS (run TBL F n) F b__law_note [some a0, some a1, none, none, none] S).toR := (rfl)
theorem run__law_most (F n : Nat) (a0 a1 : Val) (S : Store) : run TBL F (n + 1) 64 [a0, a1] S = leave .pure S.length (evS (run TBL F n) F b__law_most [some a0, some a1] S).toR := (rfl)
theorem run__law_rule (F n : Nat) (a0 a1 a2 a3 : Val) (S : Store) : run TBL F (n + 1) 65 [a0, a1, a2, a3] S = leave .pure S.length (evS (run TBL F n) F b__law_rule [some a0, some a1, some a2, some a3, none, none, none, none, none, none, none, none] S).toR := (rfl)
theorem run__law_house (F n : Nat) (a0 a1 a2 : Val) (S : Store) : run TBL F (n + 1) 66 [a0, a1, a2] S = leave .pure S.length (evS (run TBL F n) F b__law_house [some a0, some a1, some a2, none, none, none, none, none, none, none, none, none, none, none, none, none] S).toR := (rfl)
theorem run__law_touched (F n : Nat) (a0 a1 a2 : Val) (S : Store) : run TBL F (n + 1) 67 [a0, a1, a2] S = leave .pure S.length (evS (run TBL F n) F b__law_touched [some a0, some a1, some a2, none, none, none, none, none] S).toR := (rfl)
theorem run__law_stands (F n : Nat) (a0 a1 a2 a3 : Val) (S : Store) : run TBL F (n + 1) 68 [a0, a1, a2, a3] S = leave .pure S.length (evS (run TBL F n) F b__law_stands [some a0, some a1, some a2, some a3, none, none] S).toR := (rfl)
theorem run__law_walk_right (F n : Nat) (a0 a1 : Val) (S : Store) : run TBL F (n + 1) 69 [a0, a1] S = leave .pure S.length (evS (run TBL F n) F b__law_walk_right [some a0, some a1, none, none, none, none, none, none, none, none, none, none] S).toR := (rfl)
theorem run__law_beginnings_right (F n : Nat) (a0 a1 a2 : Val) (S : Store) : run TBL F (n + 1) 70 [a0, a1, a2] S = leave .pure S.length (evS (run TBL F n) F b__law_beginnings_right [some a0, some a1, some a2, none, none, none] S).toR := (rfl)
theorem run__law_unasked_right (F n : Nat) (a0 a1 a2 : Val) (S : Store) : run TBL F (n + 1) 71 [a0, a1, a2] S = leave .pure S.length (evS (run TBL F n) F b__law_unasked_right [some a0, some a1, some a2, none, none, none, none, none] S).toR := (rfl)
theorem run_law (F n : Nat) (a0 : Val) (S : Store) : run TBL F (n + 1) 72 [a0] S = leave .pure S.length (evS (run TBL F n) F b_law [some a0, none, none, none, none, none, none, none] S).toR := (rfl)
end Lt
set_option maxHeartbeats 0
namespace Lt
open PySem PySem.Spec PyProof.Rows L2
def top (i : Nat) : Stmt := PySem.Challenge.pw_wardwide_k11_whole_walks_by_rooms.main.body.getD i (.Pass ⟨0, 0, 0, 0⟩)
def kid (st : Stmt) (i : Nat) : Stmt := match st with
  | .ClassDef _ _ _ body _ _ _ _ _ _ _ => body.getD i (.Pass ⟨0, 0, 0, 0⟩)
  | s => s
def ST : List Stmt := [top 16, top 17, top 18, top 19, top 20, top 22, top 23, top 24, top 25, top 26, top 27, top 28, top 29, top 31, top 35, top 36, top 37, top 38, top 39, top 40, top 41, top 42, top 43, top 45, top 46, top 47, top 52, top 53, top 54, top 55, top 56, top 57, top 58, top 59, top 60, top 61, top 62, top 63, top 64, top 65, top 66, top 67, top 70, top 71, top 72, top 73, top 74, top 75, top 76, top 77, top 78, top 79, top 80, top 81, kid (top 82) 0, kid (top 82) 1, top 83, top 84, top 85, top 86, top 88, top 89, top 90, top 91, top 92, top 93, top 94, top 95, top 96, top 97, top 98, top 99, top 100]
def PXX : Px := ⟨TBL, GI, ["len", "abs", "int", "max", "min", "sum", "all", "any", "tuple", "list", "sorted", "range", "enumerate", "zip", "isinstance", "bool", "str", "dict"], TB, ["here", "number", "steps", "walker", "wrong"]⟩
def CLS : List Str := ["Gone"]
def loose0 : List PySem.Str := ["RoomError", "NoHouse", "NoMemory", "NoTouch", "NoWalker", "NoSituation", "NoWalk", "CantGo", "LackError", "NoRoom", "MOST_WALKERS", "MOST_ROOMS", "MOST_TOP", "LEAST_BY", "is_between", "is_who"]
def loose1 : List PySem.Str := ["fits_came", "fits_round", "fits_since", "PAIRS", "is_note_of", "most_in", "is_of", "more_by", "round_by", "last_by", "first_by", "since_by", "COMES", "value_after", "MOST_NOTES", "MOST_DEEP"]
def loose2 : List PySem.Str := ["are_notes", "are_walkers", "is_span", "fits_free", "fits_who", "fits_note", "fits_mine", "fits_one", "fits_two", "FITS", "is_rule_of", "lets", "is_memory_of", "FEWEST_ROOMS", "MOST_DOORS", "MOST_IN_ALL"]
def loose3 : List PySem.Str := ["is_door_of", "is_room_of", "is_house", "need_house", "need_room", "need_walker", "need_memory", "is_touch_of", "memory_at_first", "first_memory", "first_values", "memory_in", "memory_after", "memory_behind", "door_in", "door_by"]
def loose4 : List PySem.Str := ["MOST_TURNS", "first_of", "heres_of", "are_places", "are_values", "is_situation_of", "need_situation", "step_in", "situation_after", "steps_in", "step_by", "going", "behind", "Gone", "is_walk", "gone_by"]
def loose5 : List PySem.Str := ["steps_of", "situation_by", "_law_pot", "_law_take", "_law_folded", "_law_note", "_law_most", "_law_rule", "_law_house", "_law_touched", "_law_stands", "_law_walk_right", "_law_beginnings_right", "_law_unasked_right"]
def loose : List PySem.Str := loose0 ++ (loose1 ++ (loose2 ++ (loose3 ++ (loose4 ++ (loose5)))))
abbrev RR : PySem.W.OpenRow := PySem.W.OpenLaw.row PySem.Challenge.rw_wardwide_k11_whole_walks_by_rooms
abbrev hk : PySem.W.Hook := hookY 5 (faOf PXX CLS) (fnOfT TBL ST) (tsOf PXX) (exB TBL TB)
def ob (s : PySem.W.SharedT) : He.AlT × Bool := obY 5 (faOf PXX CLS) (fnOfT TBL ST) (tsOf PXX) (exB TBL TB) (HandSHeadRun.getT s)
theorem ob_eq (s : PySem.W.SharedT) : ob s = hk.obs s.abs := obY_eq (HandSHeadRun.getT_eq s)
theorem runF (w : World) : HandSHeadRun.RunEq RR (PySem.W.view RR.prog [100]) hk ob 6000 loose (w.withFollow "special-get-raises" false) := by
  intro os
  kernel_rfl
theorem runT (w : World) : HandSHeadRun.RunEq RR (PySem.W.view RR.prog [100]) hk ob 6000 loose (w.withFollow "special-get-raises" true) := by
  intro os
  kernel_rfl
theorem runW (w : World) : HandSHeadRun.RunEq RR (PySem.W.view RR.prog [100]) hk ob 6000 loose w :=
  PySem.W.byRow2 "special-get-raises" (P := fun w => HandSHeadRun.RunEq RR (PySem.W.view RR.prog [100]) hk ob 6000 loose w) runF runT w
end Lt
set_option maxHeartbeats 4000000
set_option maxHeartbeats 4000000
namespace Lt
open PySem PySem.Spec PyProof.Rows L2
/-- where the program's things stand -/
structure Gx where
  K : PySem.W.Frag
  cl : Str → Option Addr
  xl : Str → Option Addr
  fa : Nat → Option Addr
  hid : List Addr
/-- not among the mutable things, nor under construction -/
def Out (G : Gx) (ρ : List Addr) (a : Addr) : Prop := a ∉ ρ ∧ a ∉ G.hid
/-- a list of the written part -/
def KL (K : PySem.W.Frag) (a : Addr) (xs : List V) : Prop :=
  ∃ (o : Obj) (its : Array Value) (n : Nat), K.lookup a = some o ∧ o.cls = .type "list" ∧ o.dict = none ∧ o.data = .seq its n ∧ its.size ≤ sizeLine ∧ Vals xs its.toList
mutual
def Rep (G : Gx) (ρ : List Addr) (H : Hp) : Val → V → Prop
  | .non, v => v = .non
  | .bl b, v => v = .bl b
  | .int i, v => v = .int i
  | .str x, v => v = .str x
  | .tup xs, v => ∃ a vs, v = .ref a ∧ SqT G.K H a vs ∧ vs.length ≤ sizeLine ∧ RepAll G ρ H xs vs
  | .lst xs, v => ∃ a vs, v = .ref a ∧ H a = some (.lst vs) ∧ Out G ρ a ∧ vs.length ≤ sizeLine ∧ RepAll G ρ H xs vs
  | .flst xs, v => ∃ a vs, v = .ref a ∧ ((Rd H a (.lst vs) ∧ Out G ρ a) ∨ KL G.K a vs) ∧ vs.length ≤ sizeLine ∧ RepAll G ρ H xs vs
  | .loc l, v => ∃ a, ρ[l]? = some a ∧ v = .ref a
  | .fn j, v => ∃ a, G.fa j = some a ∧ v = .ref a
def RepAll (G : Gx) (ρ : List Addr) (H : Hp) : List Val → List V → Prop
  | [], vs => vs = []
  | x :: xs, vs => ∃ v r, vs = v :: r ∧ Rep G ρ H x v ∧ RepAll G ρ H xs r
end
def FsRep (G : Gx) (ρ : List Addr) (H : Hp) : List (Str × Val) → List (Str × V) → Prop
  | [], vs => vs = []
  | (f, x) :: xs, vs => ∃ v r, vs = (f, v) :: r ∧ Rep G ρ H x v ∧ FsRep G ρ H xs r
def ObRep (G : Gx) (ρ : List Addr) (H : Hp) : Ob → Addr → Prop
  | .lst xs, a => ∃ vs, H a = some (.lst vs) ∧ vs.length ≤ sizeLine ∧ RepAll G ρ H xs vs
  | .inst c fs, a => ∃ C dx fv, G.cl c = some C ∧ H a = some (.ins C dx fv) ∧ FsRep G ρ H fs fv
structure Wd where
  ρ : List Addr
  H : Hp
  S : Store
structure Wd.Ok (G : Gx) (w : Wd) : Prop where
  len : w.ρ.length = w.S.length
  nd : w.ρ.Nodup
  ob : ∀ (l : Nat) a o, w.ρ[l]? = some a → w.S[l]? = some o → ObRep G w.ρ w.H o a
  hd : ∀ a ∈ G.hid, ∃ ys, w.H a = some (.lst ys)
  hr : ∀ a ∈ G.hid, a ∉ w.ρ
structure Ext (w w' : Wd) : Prop where
  pre : ∃ more, w'.ρ = w.ρ ++ more ∧ ∀ a ∈ more, w.H a = none ∧ a ∉ w.ρ
  keep : ∀ b o, w.H b = some o → b ∉ w.ρ → w'.H b = some o
theorem Ext.refl (w : Wd) : Ext w w := ⟨⟨[], by simp, by simp⟩, fun _ _ h _ => h⟩
theorem Ext.new {w w' : Wd} (e : Ext w w') {a : Addr} (ha : a ∈ w'.ρ) (hn : a ∉ w.ρ) : w.H a = none := by
  obtain ⟨more, e1, e2⟩ := e.pre
  rw [e1] at ha
  rcases List.mem_append.mp ha with h | h
  · exact absurd h hn
  · exact (e2 a h).1
theorem Ext.sub {w w' : Wd} (e : Ext w w') {a : Addr} (ha : a ∈ w.ρ) : a ∈ w'.ρ := by
  obtain ⟨more, e1, e2⟩ := e.pre
  rw [e1]
  exact List.mem_append_left _ ha
theorem Ext.out {w w' : Wd} (e : Ext w w') {a : Addr} {o : HO} (h : w.H a = some o) (hn : a ∉ w.ρ) : a ∉ w'.ρ := fun q => by
  rw [e.new q hn] at h
  cases h
theorem Ext.at {w w' : Wd} (e : Ext w w') {l : Nat} {a : Addr} (h : w.ρ[l]? = some a) : w'.ρ[l]? = some a := by
  obtain ⟨more, e1, e2⟩ := e.pre
  rw [e1, List.getElem?_append_left (List.getElem?_eq_some_iff.mp h).1]
  exact h
theorem Ext.trans {w w1 w2 : Wd} (e : Ext w w1) (f : Ext w1 w2) : Ext w w2 := by
  obtain ⟨m1, a1, b1⟩ := e.pre
  obtain ⟨m2, a2, b2⟩ := f.pre
  refine ⟨⟨m1 ++ m2, by rw [a2, a1, List.append_assoc], fun a ha => ?_⟩, fun b o h hn => f.keep b o (e.keep b o h hn) (e.out h hn)⟩
  rcases List.mem_append.mp ha with h | h
  · exact b1 a h
  · obtain ⟨hn, hr⟩ := b2 a h
    have hr0 : a ∉ w.ρ := fun q => hr (e.sub q)
    refine ⟨?_, hr0⟩
    cases q : w.H a with
    | none => rfl
    | some o =>
      rw [e.keep a o q hr0] at hn
      cases hn
theorem Ext.rd {w w' : Wd} (e : Ext w w') {a : Addr} {u : HO} (h : Rd w.H a u) (hn : a ∉ w.ρ) : Rd w'.H a u ∧ a ∉ w'.ρ := by
  rcases h with h | ⟨o, h⟩
  · exact ⟨.inl (e.keep _ _ h hn), e.out h hn⟩
  · exact ⟨.inr ⟨o, e.keep _ _ h hn⟩, e.out h hn⟩
theorem RepAll.length {G : Gx} {ρ : List Addr} {H : Hp} : ∀ {xs : List Val} {vs : List V}, RepAll G ρ H xs vs → vs.length = xs.length
  | [], vs, h => by
    have e : vs = [] := h
    rw [e]
    rfl
  | x :: xs, vs, h => by
    obtain ⟨v, r, e, _, hr⟩ := h
    rw [e, List.length_cons, List.length_cons, RepAll.length hr]
theorem RepAll.get {G : Gx} {ρ : List Addr} {H : Hp} : ∀ {xs : List Val} {vs : List V} {i : Nat} {x : Val}, RepAll G ρ H xs vs → xs[i]? = some x → ∃ v, vs[i]? = some v ∧ Rep G ρ H x v
  | [], vs, i, x, h, e => by simp at e
  | y :: xs, vs, 0, x, h, e => by
    obtain ⟨v, r, rfl, hv, hr⟩ := h
    have e' : y = x := by simpa using e
    rw [← e']
    exact ⟨v, rfl, hv⟩
  | y :: xs, vs, i + 1, x, h, e => by
    obtain ⟨v, r, rfl, hv, hr⟩ := h
    obtain ⟨u, e1, e2⟩ := RepAll.get (i := i) (x := x) hr (by simpa using e)
    exact ⟨u, by simpa using e1, e2⟩
theorem RepAll.get' {G : Gx} {ρ : List Addr} {H : Hp} : ∀ {xs : List Val} {vs : List V} {i : Nat} {v : V}, RepAll G ρ H xs vs → vs[i]? = some v → ∃ x, xs[i]? = some x ∧ Rep G ρ H x v
  | [], vs, i, x, h, e => by
    have q : vs = [] := h
    rw [q] at e
    simp at e
  | y :: xs, vs, 0, x, h, e => by
    obtain ⟨v, r, rfl, hv, hr⟩ := h
    have e' : v = x := by simpa using e
    rw [← e']
    exact ⟨y, rfl, hv⟩
  | y :: xs, vs, i + 1, x, h, e => by
    obtain ⟨v, r, rfl, hv, hr⟩ := h
    obtain ⟨u, e1, e2⟩ := RepAll.get' (i := i) (v := x) hr (by simpa using e)
    exact ⟨u, by simpa using e1, e2⟩
theorem RepAll.append {G : Gx} {ρ : List Addr} {H : Hp} : ∀ {xs ys : List Val} {vs us : List V}, RepAll G ρ H xs vs → RepAll G ρ H ys us → RepAll G ρ H (xs ++ ys) (vs ++ us)
  | [], ys, vs, us, h, k => by
    have e : vs = [] := h
    rw [e]
    exact k
  | x :: xs, ys, vs, us, h, k => by
    obtain ⟨v, r, rfl, hv, hr⟩ := h
    exact ⟨v, r ++ us, rfl, hv, RepAll.append hr k⟩
theorem RepAll.take {G : Gx} {ρ : List Addr} {H : Hp} : ∀ {xs : List Val} {vs : List V} (n : Nat), RepAll G ρ H xs vs → RepAll G ρ H (xs.take n) (vs.take n)
  | [], vs, n, h => by
    have e : vs = [] := h
    rw [e, List.take_nil, List.take_nil]
    rfl
  | x :: xs, vs, 0, h => rfl
  | x :: xs, vs, n + 1, h => by
    obtain ⟨v, r, rfl, hv, hr⟩ := h
    exact ⟨v, r.take n, rfl, hv, RepAll.take n hr⟩
theorem RepAll.drop {G : Gx} {ρ : List Addr} {H : Hp} : ∀ {xs : List Val} {vs : List V} (n : Nat), RepAll G ρ H xs vs → RepAll G ρ H (xs.drop n) (vs.drop n)
  | [], vs, n, h => by
    have e : vs = [] := h
    rw [e, List.drop_nil, List.drop_nil]
    rfl
  | x :: xs, vs, 0, h => h
  | x :: xs, vs, n + 1, h => by
    obtain ⟨v, r, rfl, hv, hr⟩ := h
    exact RepAll.drop n hr
theorem RepAll.set {G : Gx} {ρ : List Addr} {H : Hp} {y : Val} {u : V} (hy : Rep G ρ H y u) : ∀ {xs : List Val} {vs : List V} (n : Nat), RepAll G ρ H xs vs → RepAll G ρ H (xs.set n y) (vs.set n u)
  | [], vs, n, h => by
    have e : vs = [] := h
    rw [e]
    rfl
  | x :: xs, vs, 0, h => by
    obtain ⟨v, r, rfl, hv, hr⟩ := h
    exact ⟨u, r, rfl, hy, hr⟩
  | x :: xs, vs, n + 1, h => by
    obtain ⟨v, r, rfl, hv, hr⟩ := h
    exact ⟨v, r.set n u, rfl, hv, RepAll.set hy n hr⟩
theorem RepAll.dropLast {G : Gx} {ρ : List Addr} {H : Hp} {xs : List Val} {vs : List V} (h : RepAll G ρ H xs vs) : RepAll G ρ H xs.dropLast vs.dropLast := by
  rw [List.dropLast_eq_take, List.dropLast_eq_take, h.length]
  exact h.take _
section
variable {G : Gx}
mutual
theorem Rep.mono {w w' : Wd} (e : Ext w w') (nt : ∀ a xs, Rd w.H a (.tup xs) → a ∉ w.ρ) : ∀ (x : Val) {v : V}, Rep G w.ρ w.H x v → Rep G w'.ρ w'.H x v
  | .non, _, h => h
  | .bl _, _, h => h
  | .int _, _, h => h
  | .str _, _, h => h
  | .tup xs, v, h => by
    obtain ⟨a, vs, rfl, h1, hz, h2⟩ := h
    refine ⟨a, vs, rfl, ?_, hz, RepAll.mono e nt xs h2⟩
    rcases h1 with h1 | h1
    · exact .inl (e.rd h1 (nt a _ h1)).1
    · exact .inr h1
  | .lst xs, v, h => by
    obtain ⟨a, vs, rfl, h1, hn, hz, h2⟩ := h
    exact ⟨a, vs, rfl, e.keep _ _ h1 hn.1, ⟨e.out h1 hn.1, hn.2⟩, hz, RepAll.mono e nt xs h2⟩
  | .flst xs, v, h => by
    obtain ⟨a, vs, rfl, h1, hz, h2⟩ := h
    refine ⟨a, vs, rfl, ?_, hz, RepAll.mono e nt xs h2⟩
    rcases h1 with ⟨h1, hn⟩ | h1
    · exact .inl ⟨(e.rd h1 hn.1).1, (e.rd h1 hn.1).2, hn.2⟩
    · exact .inr h1
  | .loc l, v, h => by
    obtain ⟨a, h1, h2⟩ := h
    exact ⟨a, e.at h1, h2⟩
  | .fn _, _, h => h
theorem RepAll.mono {w w' : Wd} (e : Ext w w') (nt : ∀ a xs, Rd w.H a (.tup xs) → a ∉ w.ρ) : ∀ (xs : List Val) {vs : List V}, RepAll G w.ρ w.H xs vs → RepAll G w'.ρ w'.H xs vs
  | [], _, h => h
  | x :: xs, _, h => by
    obtain ⟨v, r, e1, hv, hr⟩ := h
    exact ⟨v, r, e1, Rep.mono e nt x hv, RepAll.mono e nt xs hr⟩
end
theorem Wd.Ok.nt {w : Wd} (o : w.Ok G) : ∀ a xs, Rd w.H a (.tup xs) → a ∉ w.ρ := fun a xs h hm => by
  obtain ⟨l, hl⟩ := List.mem_iff_getElem?.mp hm
  have hlt : l < w.S.length := by rw [← o.len]; exact (List.getElem?_eq_some_iff.mp hl).1
  have q := o.ob l a _ hl (List.getElem?_eq_getElem hlt)
  have hx : (∃ ys, w.H a = some (.lst ys)) ∨ ∃ C dx fv, w.H a = some (.ins C dx fv) := by
    cases hs : w.S[l] with
    | lst ys =>
      rw [hs] at q
      obtain ⟨vs, h1, _⟩ := q
      exact .inl ⟨_, h1⟩
    | inst c fs =>
      rw [hs] at q
      obtain ⟨C, dx, fv, _, h1, _⟩ := q
      exact .inr ⟨_, _, _, h1⟩
  rcases h with h | ⟨ob, h⟩ <;> rcases hx with ⟨_, q⟩ | ⟨_, _, _, q⟩ <;> (rw [h] at q; cases q)
theorem Wd.Ok.rep {w w' : Wd} (o : w.Ok G) (e : Ext w w') {x : Val} {v : V} (h : Rep G w.ρ w.H x v) : Rep G w'.ρ w'.H x v := Rep.mono e o.nt x h
theorem Wd.Ok.reps {w w' : Wd} (o : w.Ok G) (e : Ext w w') {x : List Val} {v : List V} (h : RepAll G w.ρ w.H x v) : RepAll G w'.ρ w'.H x v := RepAll.mono e o.nt x h
theorem FsRep.mono {w w' : Wd} (o : w.Ok G) (e : Ext w w') : ∀ {fs : List (Str × Val)} {fv : List (Str × V)}, FsRep G w.ρ w.H fs fv → FsRep G w'.ρ w'.H fs fv
  | [], _, h => h
  | (f, x) :: fs, _, h => by
    obtain ⟨v, r, e1, hv, hr⟩ := h
    exact ⟨v, r, e1, o.rep e hv, FsRep.mono o e hr⟩
theorem FsRep.look {ρ : List Addr} {H : Hp} {f : Str} : ∀ {fs : List (Str × Val)} {fv : List (Str × V)}, FsRep G ρ H fs fv → (∀ x, fs.lookup f = some x → ∃ v, fv.lookup f = some v ∧ Rep G ρ H x v) ∧ (fs.lookup f = none → fv.lookup f = none)
  | [], fv, h => by
    have e : fv = [] := h
    subst e
    exact ⟨fun x q => (nomatch q), fun _ => rfl⟩
  | (g, y) :: fs, fv, h => by
    obtain ⟨v, r, rfl, hv, hr⟩ := h
    obtain ⟨i1, i2⟩ := FsRep.look (f := f) hr
    rw [List.lookup_cons, List.lookup_cons]
    cases hb : (f == g) with
    | true =>
      refine ⟨fun x q => ?_, fun q => (nomatch q)⟩
      have q' : y = x := Option.some.inj q
      rw [← q']
      exact ⟨v, rfl, hv⟩
    | false => exact ⟨i1, i2⟩
theorem FsRep.len {ρ : List Addr} {H : Hp} : ∀ {fs : List (Str × Val)} {fv : List (Str × V)}, FsRep G ρ H fs fv → fv.length = fs.length
  | [], fv, h => by
    have e : fv = [] := h
    rw [e]
    rfl
  | (g, y) :: fs, fv, h => by
    obtain ⟨v, r, rfl, hv, hr⟩ := h
    rw [List.length_cons, List.length_cons, FsRep.len hr]
theorem FsRep.put {ρ : List Addr} {H : Hp} {f : Str} {x : Val} {u : V} (hx : Rep G ρ H x u) : ∀ {fs : List (Str × Val)} {fv : List (Str × V)}, FsRep G ρ H fs fv → FsRep G ρ H (Lt.setF f x fs) (putF f u fv)
  | [], fv, h => by
    have e : fv = [] := h
    subst e
    exact ⟨u, [], rfl, hx, rfl⟩
  | (g, y) :: fs, fv, h => by
    obtain ⟨v, r, rfl, hv, hr⟩ := h
    show FsRep G ρ H (if g = f then (f, x) :: fs else (g, y) :: Lt.setF f x fs) (putF f u ((g, v) :: r))
    by_cases c : g = f
    · subst c
      rw [if_pos rfl]
      have e : putF g u ((g, v) :: r) = (g, u) :: r := by
        unfold putF
        first | rw [if_pos rfl] | simp
      rw [e]
      exact ⟨u, r, rfl, hx, hr⟩
    · rw [if_neg c]
      have e : putF f u ((g, v) :: r) = (g, v) :: putF f u r := by
        first
          | (rw [putF, if_neg c])
          | (rw [putF, if_neg (fun q => c q.symm)])
          | (conv => lhs; unfold putF; simp [c])
      rw [e]
      exact ⟨v, _, rfl, hv, FsRep.put hx hr⟩
end
def EnvR (G : Gx) (w : Wd) (env : Env) (σ : L2.St) : Prop := σ.length = env.length ∧ ∀ (i : Nat) x, env[i]? = some (some x) → ∃ v, σ[i]? = some (some v) ∧ Rep G w.ρ w.H x v
section
variable {G : Gx} {w w' : Wd} {env : Env} {σ : L2.St}
theorem EnvR.mono (o : w.Ok G) (e : Ext w w') (h : EnvR G w env σ) : EnvR G w' env σ := ⟨h.1, fun i x q => by
  obtain ⟨v, h1, h2⟩ := h.2 i x q
  exact ⟨v, h1, o.rep e h2⟩⟩
theorem EnvR.set {i : Nat} {x : Val} {v : V} (h : EnvR G w env σ) (r : Rep G w.ρ w.H x v) : EnvR G w (env.set i (some x)) (σ.set i (some v)) := by
  refine ⟨by rw [List.length_set, List.length_set, h.1], fun j y q => ?_⟩
  by_cases hj : i = j
  · subst hj
    have hl : i < env.length := by
      have := (List.getElem?_eq_some_iff.mp q).1
      rwa [List.length_set] at this
    rw [List.getElem?_set_self hl] at q
    have q' : x = y := by simpa using q
    rw [← q']
    exact ⟨v, by rw [List.getElem?_set_self (by rw [h.1]; exact hl)], r⟩
  · rw [List.getElem?_set_ne hj] at q
    rw [List.getElem?_set_ne hj]
    exact h.2 j y q
theorem EnvR.unset {i : Nat} (h : EnvR G w env σ) : EnvR G w (env.set i none) (σ.set i none) := by
  refine ⟨by rw [List.length_set, List.length_set, h.1], fun j y q => ?_⟩
  by_cases hj : i = j
  · subst hj
    have hl : i < env.length := by
      have := (List.getElem?_eq_some_iff.mp q).1
      rwa [List.length_set] at this
    rw [List.getElem?_set_self hl] at q
    cases q
  · rw [List.getElem?_set_ne hj] at q
    rw [List.getElem?_set_ne hj]
    exact h.2 j y q
theorem EnvR.wipe (h : EnvR G w env σ) : ∀ vs : List Nat, EnvR G w (wipeE env vs) (L2.wipe σ vs)
  | [] => h
  | v :: vs => (EnvR.wipe h vs).unset
end
section
variable {G : Gx} {w : Wd}
/-- a new object that nobody changes -/
theorem ext_new {p : Addr} {o : HO} (hp : w.H p = none) : Ext w ⟨w.ρ, upd w.H p o, w.S⟩ :=
  ⟨⟨[], by simp, by simp⟩, fun b u h _ => by
    show upd w.H p o b = some u
    rw [upd_ne (ne_of_none h hp)]
    exact h⟩
theorem Wd.Ok.out (ok : w.Ok G) {p : Addr} (hp : w.H p = none) : p ∉ w.ρ := fun hm => by
  obtain ⟨l, hl⟩ := List.mem_iff_getElem?.mp hm
  have hlt : l < w.S.length := by rw [← ok.len]; exact (List.getElem?_eq_some_iff.mp hl).1
  have q := ok.ob l p _ hl (List.getElem?_eq_getElem hlt)
  cases hs : w.S[l] with
  | lst ys =>
    rw [hs] at q
    obtain ⟨vs, h1, _⟩ := q
    rw [hp] at h1
    cases h1
  | inst c fs =>
    rw [hs] at q
    obtain ⟨C, dx, fv, _, h1, _⟩ := q
    rw [hp] at h1
    cases h1
theorem Wd.Ok.nhid (ok : w.Ok G) {p : Addr} (hp : w.H p = none) : p ∉ G.hid := fun hm => by
  obtain ⟨ys, h⟩ := ok.hd p hm
  rw [hp] at h
  cases h
theorem Wd.Ok.outs (ok : w.Ok G) {p : Addr} (hp : w.H p = none) : Out G w.ρ p := ⟨ok.out hp, ok.nhid hp⟩
theorem Wd.Ok.hd' (ok : w.Ok G) {p : Addr} {o : HO} (hp : p ∉ G.hid) : ∀ a ∈ G.hid, ∃ ys, upd w.H p o a = some (.lst ys) := fun a ha => by
  have e : a ≠ p := fun e => hp (e ▸ ha)
  rw [upd_ne e]
  exact ok.hd a ha
theorem Wd.Ok.ob' (ok : w.Ok G) {w' : Wd} (e : Ext w w') {o : Ob} {a : Addr} (h : ObRep G w.ρ w.H o a) (ha : w'.H a = w.H a) : ObRep G w'.ρ w'.H o a := by
  cases o with
  | lst xs =>
    obtain ⟨vs, h1, h2, h3⟩ := h
    exact ⟨vs, by rw [ha]; exact h1, h2, ok.reps e h3⟩
  | inst c fs =>
    obtain ⟨C, dx, fv, h0, h1, h2⟩ := h
    exact ⟨C, dx, fv, h0, by rw [ha]; exact h1, FsRep.mono ok e h2⟩
theorem ok_new (ok : w.Ok G) {p : Addr} {o : HO} (hp : w.H p = none) : Wd.Ok G ⟨w.ρ, upd w.H p o, w.S⟩ :=
  ⟨ok.len, ok.nd, fun l a ob h1 h2 => ok.ob' (ext_new hp) (ok.ob l a ob h1 h2) (by
    show upd w.H p o a = w.H a
    refine upd_ne fun z => ok.out hp ?_
    rw [← z]
    exact List.mem_of_getElem? h1), ok.hd' (ok.nhid hp), ok.hr⟩
/-- a new object that may be changed -/
theorem ext_loc {p : Addr} {o : HO} {b : Ob} (ok : w.Ok G) (hp : w.H p = none) : Ext w ⟨w.ρ ++ [p], upd w.H p o, w.S ++ [b]⟩ :=
  ⟨⟨[p], rfl, fun a ha => by
    have e : a = p := by simpa using ha
    rw [e]
    exact ⟨hp, ok.out hp⟩⟩, fun b u h _ => by
    show upd w.H p o b = some u
    rw [upd_ne (ne_of_none h hp)]
    exact h⟩
theorem ok_loc (ok : w.Ok G) {p : Addr} {o : HO} {b : Ob} (hp : w.H p = none) (hb : ObRep G (w.ρ ++ [p]) (upd w.H p o) b p) : Wd.Ok G ⟨w.ρ ++ [p], upd w.H p o, w.S ++ [b]⟩ := by
  have e := ext_loc (o := o) (b := b) ok hp
  refine ⟨by simp [ok.len], ?_, fun l a ob h1 h2 => ?_, ok.hd' (ok.nhid hp), fun a ha hm => (List.mem_append.mp hm).elim (ok.hr a ha) fun z => ok.nhid hp (List.mem_singleton.mp z ▸ ha)⟩
  · show (w.ρ ++ [p]).Nodup
    rw [List.nodup_append]
    refine ⟨ok.nd, by simp, fun x hx y hy => ?_⟩
    have ey : y = p := by simpa using hy
    rw [ey]
    exact fun z => ok.out hp (z ▸ hx)
  · have h1' : (w.ρ ++ [p])[l]? = some a := h1
    have h2' : (w.S ++ [b])[l]? = some ob := h2
    by_cases hl : l < w.ρ.length
    · rw [List.getElem?_append_left hl] at h1'
      rw [List.getElem?_append_left (by rw [← ok.len]; exact hl)] at h2'
      refine ok.ob' e (ok.ob l a ob h1' h2') ?_
      show upd w.H p o a = w.H a
      exact upd_ne fun z => ok.out hp (z ▸ List.mem_of_getElem? h1')
    · have hl2 : l = w.ρ.length := by
        have := (List.getElem?_eq_some_iff.mp h1').1
        simp at this
        omega
      rw [hl2, List.getElem?_append_right (Nat.le_refl _), Nat.sub_self] at h1'
      rw [hl2, ok.len, List.getElem?_append_right (Nat.le_refl _), Nat.sub_self] at h2'
      have ea : p = a := by simpa using h1'
      have eb : b = ob := by simpa using h2'
      rw [← ea, ← eb]
      exact hb
/-- a mutable object is changed -/
theorem ext_set {l : Nat} {p : Addr} {o : HO} {b : Ob} (hl : w.ρ[l]? = some p) : Ext w ⟨w.ρ, upd w.H p o, w.S.set l b⟩ :=
  ⟨⟨[], by simp, by simp⟩, fun c u h hn => by
    show upd w.H p o c = some u
    have hne : c ≠ p := fun z => hn (by rw [z]; exact List.mem_of_getElem? hl)
    rw [upd_ne hne]
    exact h⟩
theorem ok_set (ok : w.Ok G) {l : Nat} {p : Addr} {o : HO} {b : Ob} (hl : w.ρ[l]? = some p) (hb : ObRep G w.ρ (upd w.H p o) b p) : Wd.Ok G ⟨w.ρ, upd w.H p o, w.S.set l b⟩ := by
  have e := ext_set (w := w) (o := o) (b := b) hl
  refine ⟨by simp [ok.len], ok.nd, fun m a ob h1 h2 => ?_, ok.hd' (fun hm => ok.hr p hm (List.mem_of_getElem? hl)), ok.hr⟩
  have h2' : (w.S.set l b)[m]? = some ob := h2
  have hml : m < w.S.length := by rw [← ok.len]; exact (List.getElem?_eq_some_iff.mp h1).1
  by_cases hm : l = m
  · subst hm
    rw [List.getElem?_set_self hml] at h2'
    have eb : b = ob := by simpa using h2'
    have ea : p = a := Option.some.inj (hl.symm.trans h1)
    rw [← eb, ← ea]
    exact hb
  · rw [List.getElem?_set_ne hm] at h2'
    refine ok.ob' e (ok.ob m a ob h1 h2') ?_
    show upd w.H p o a = w.H a
    refine upd_ne fun z => hm ?_
    subst z
    exact nd_ix ok.nd hl h1
end
def Gx.hide (G : Gx) (h : List Addr) : Gx := { G with hid := h }
section
variable {G : Gx} {ρ : List Addr} {H : Hp} {D : Addr}
mutual
theorem Rep.hide (hD : H D = none) : ∀ (x : Val) {v : V}, Rep G ρ H x v → Rep (G.hide (D :: G.hid)) ρ H x v
  | .non, _, h => h
  | .bl _, _, h => h
  | .int _, _, h => h
  | .str _, _, h => h
  | .tup xs, v, h => by
    obtain ⟨a, vs, rfl, h1, hz, h2⟩ := h
    exact ⟨a, vs, rfl, h1, hz, RepAll.hide hD xs h2⟩
  | .lst xs, v, h => by
    obtain ⟨a, vs, rfl, h1, hn, hz, h2⟩ := h
    refine ⟨a, vs, rfl, h1, ⟨hn.1, fun hm => ?_⟩, hz, RepAll.hide hD xs h2⟩
    rcases List.mem_cons.mp hm with e | e
    · rw [e, hD] at h1
      cases h1
    · exact hn.2 e
  | .flst xs, v, h => by
    obtain ⟨a, vs, rfl, h1, hz, h2⟩ := h
    refine ⟨a, vs, rfl, ?_, hz, RepAll.hide hD xs h2⟩
    rcases h1 with ⟨h1, hn⟩ | h1
    · refine .inl ⟨h1, hn.1, fun hm => ?_⟩
      rcases List.mem_cons.mp hm with e | e
      · rw [e] at h1
        rcases h1 with h1 | ⟨o, h1⟩ <;> (rw [hD] at h1; cases h1)
      · exact hn.2 e
    · exact .inr h1
  | .loc l, v, h => h
  | .fn _, _, h => h
theorem RepAll.hide (hD : H D = none) : ∀ (xs : List Val) {v : List V}, RepAll G ρ H xs v → RepAll (G.hide (D :: G.hid)) ρ H xs v
  | [], _, h => h
  | x :: xs, _, h => by
    obtain ⟨v, r, e1, hv, hr⟩ := h
    exact ⟨v, r, e1, Rep.hide hD x hv, RepAll.hide hD xs hr⟩
end
mutual
theorem Rep.unhide : ∀ (x : Val) {v : V}, Rep (G.hide (D :: G.hid)) ρ H x v → Rep G ρ H x v
  | .non, _, h => h
  | .bl _, _, h => h
  | .int _, _, h => h
  | .str _, _, h => h
  | .tup xs, v, h => by
    obtain ⟨a, vs, rfl, h1, hz, h2⟩ := h
    exact ⟨a, vs, rfl, h1, hz, RepAll.unhide xs h2⟩
  | .lst xs, v, h => by
    obtain ⟨a, vs, rfl, h1, hn, hz, h2⟩ := h
    exact ⟨a, vs, rfl, h1, ⟨hn.1, fun hm => hn.2 (List.mem_cons_of_mem _ hm)⟩, hz, RepAll.unhide xs h2⟩
  | .flst xs, v, h => by
    obtain ⟨a, vs, rfl, h1, hz, h2⟩ := h
    refine ⟨a, vs, rfl, ?_, hz, RepAll.unhide xs h2⟩
    rcases h1 with ⟨h1, hn⟩ | h1
    · exact .inl ⟨h1, hn.1, fun hm => hn.2 (List.mem_cons_of_mem _ hm)⟩
    · exact .inr h1
  | .loc l, v, h => h
  | .fn _, _, h => h
theorem RepAll.unhide : ∀ (xs : List Val) {v : List V}, RepAll (G.hide (D :: G.hid)) ρ H xs v → RepAll G ρ H xs v
  | [], _, h => h
  | x :: xs, _, h => by
    obtain ⟨v, r, e1, hv, hr⟩ := h
    exact ⟨v, r, e1, Rep.unhide x hv, RepAll.unhide xs hr⟩
end
theorem ne_rd {a : Addr} {xs ys : List V} (hD : H D = some (.lst ys)) (h : Rd H a (.tup xs)) : a ≠ D := fun e => by
  rw [e] at h
  rcases h with h | ⟨o, h⟩ <;> (rw [hD] at h; cases h)
theorem rd_upd {a : Addr} {o u : HO} (hn : a ≠ D) (h : Rd H a u) : Rd (upd H D o) a u := by
  rcases h with h | ⟨b, h⟩
  · exact .inl (by rw [upd_ne hn]; exact h)
  · exact .inr ⟨b, by rw [upd_ne hn]; exact h⟩
mutual
theorem Rep.dset {ys : List V} {o : HO} (hD : H D = some (.lst ys)) (hm : D ∈ G.hid) : ∀ (x : Val) {v : V}, Rep G ρ H x v → Rep G ρ (upd H D o) x v
  | .non, _, h => h
  | .bl _, _, h => h
  | .int _, _, h => h
  | .str _, _, h => h
  | .tup xs, v, h => by
    obtain ⟨a, vs, rfl, h1, hz, h2⟩ := h
    refine ⟨a, vs, rfl, ?_, hz, RepAll.dset hD hm xs h2⟩
    rcases h1 with h1 | h1
    · exact .inl (rd_upd (ne_rd hD h1) h1)
    · exact .inr h1
  | .lst xs, v, h => by
    obtain ⟨a, vs, rfl, h1, hn, hz, h2⟩ := h
    have hne : a ≠ D := fun e => hn.2 (e ▸ hm)
    exact ⟨a, vs, rfl, by rw [upd_ne hne]; exact h1, hn, hz, RepAll.dset hD hm xs h2⟩
  | .flst xs, v, h => by
    obtain ⟨a, vs, rfl, h1, hz, h2⟩ := h
    refine ⟨a, vs, rfl, ?_, hz, RepAll.dset hD hm xs h2⟩
    rcases h1 with ⟨h1, hn⟩ | h1
    · exact .inl ⟨rd_upd (fun e => hn.2 (e ▸ hm)) h1, hn⟩
    · exact .inr h1
  | .loc l, v, h => h
  | .fn _, _, h => h
theorem RepAll.dset {ys : List V} {o : HO} (hD : H D = some (.lst ys)) (hm : D ∈ G.hid) : ∀ (xs : List Val) {v : List V}, RepAll G ρ H xs v → RepAll G ρ (upd H D o) xs v
  | [], _, h => h
  | x :: xs, _, h => by
    obtain ⟨v, r, e1, hv, hr⟩ := h
    exact ⟨v, r, e1, Rep.dset hD hm x hv, RepAll.dset hD hm xs hr⟩
end
theorem FsRep.imp {G' : Gx} {ρ' : List Addr} {H' : Hp} (i : ∀ x v, Rep G ρ H x v → Rep G' ρ' H' x v) : ∀ {fs : List (Str × Val)} {fv : List (Str × V)}, FsRep G ρ H fs fv → FsRep G' ρ' H' fs fv
  | [], _, h => h
  | (f, x) :: fs, _, h => by
    obtain ⟨v, r, e1, hv, hr⟩ := h
    exact ⟨v, r, e1, i _ _ hv, FsRep.imp i hr⟩
theorem ObRep.imp {G' : Gx} {ρ' : List Addr} {H' : Hp} (hc : G'.cl = G.cl) (i : ∀ x v, Rep G ρ H x v → Rep G' ρ' H' x v) (j : ∀ x v, RepAll G ρ H x v → RepAll G' ρ' H' x v) {o : Ob} {a : Addr} (ha : H' a = H a) (h : ObRep G ρ H o a) : ObRep G' ρ' H' o a := by
  cases o with
  | lst xs =>
    obtain ⟨vs, h1, h2, h3⟩ := h
    exact ⟨vs, by rw [ha]; exact h1, h2, j _ _ h3⟩
  | inst c fs =>
    obtain ⟨C, dx, fv, h0, h1, h2⟩ := h
    exact ⟨C, dx, fv, by rw [hc]; exact h0, by rw [ha]; exact h1, FsRep.imp i h2⟩
end
section
variable {G : Gx} {w : Wd} {D : Addr}
/-- the new list is begun -/
theorem ok_hide (ok : w.Ok G) (hD : w.H D = none) {us : List V} : Wd.Ok (G.hide (D :: G.hid)) ⟨w.ρ, upd w.H D (.lst us), w.S⟩ := by
  have ok1 : Wd.Ok G ⟨w.ρ, upd w.H D (.lst us), w.S⟩ := ok_new ok hD
  have e : Ext w ⟨w.ρ, upd w.H D (.lst us), w.S⟩ := ext_new hD
  refine ⟨ok.len, ok.nd, fun l a ob h1 h2 => ?_, fun a ha => ?_, fun a ha => (List.mem_cons.mp ha).elim (fun z => by rw [z]; exact ok.out hD) (ok.hr a)⟩
  · have hne : a ≠ D := fun z => ok.out hD (z ▸ List.mem_of_getElem? h1)
    refine ObRep.imp (G := G) (G' := G.hide (D :: G.hid)) rfl (fun x v r => ?_) (fun x v r => ?_) (upd_ne hne) (ok.ob l a ob h1 h2)
    · exact Rep.mono (w := w) (w' := ⟨w.ρ, upd w.H D (.lst us), w.S⟩) e ok.nt x (Rep.hide hD x r)
    · exact RepAll.mono (w := w) (w' := ⟨w.ρ, upd w.H D (.lst us), w.S⟩) e ok.nt x (RepAll.hide hD x r)
  · rcases List.mem_cons.mp ha with z | z
    · subst z
      exact ⟨us, upd_same⟩
    · exact ok1.hd a z
/-- .. grows -/
theorem ok_dset {ys us : List V} (ok : w.Ok G) (hD : w.H D = some (.lst ys)) (hm : D ∈ G.hid) (hn : D ∉ w.ρ) : Wd.Ok G ⟨w.ρ, upd w.H D (.lst us), w.S⟩ := by
  refine ⟨ok.len, ok.nd, fun l a ob h1 h2 => ?_, fun a ha => ?_, ok.hr⟩
  · have hne : a ≠ D := fun z => hn (z ▸ List.mem_of_getElem? h1)
    exact ObRep.imp (G := G) (G' := G) rfl (fun x v r => Rep.dset hD hm x r) (fun x v r => RepAll.dset hD hm x r) (upd_ne hne) (ok.ob l a ob h1 h2)
  · by_cases e : a = D
    · subst e
      exact ⟨us, upd_same⟩
    · show ∃ ys, upd w.H D (.lst us) a = some (.lst ys)
      rw [upd_ne e]
      exact ok.hd a ha
/-- .. is done -/
theorem ok_unhide (ok : w.Ok (G.hide (D :: G.hid))) : w.Ok G :=
  ⟨ok.len, ok.nd, fun l a ob h1 h2 => ObRep.imp (G := G.hide (D :: G.hid)) (G' := G) rfl (fun x v r => Rep.unhide x r) (fun x v r => RepAll.unhide x r) rfl (ok.ob l a ob h1 h2), fun a ha => ok.hd a (List.mem_cons_of_mem _ ha), fun a ha => ok.hr a (List.mem_cons_of_mem _ ha)⟩
theorem EnvR.hide {env : Env} {σ : L2.St} (h : EnvR G w env σ) (hD : w.H D = none) : EnvR (G.hide (D :: G.hid)) w env σ := ⟨h.1, fun i x q => by
  obtain ⟨v, h1, h2⟩ := h.2 i x q
  exact ⟨v, h1, Rep.hide hD x h2⟩⟩
theorem EnvR.unhide {env : Env} {σ : L2.St} (h : EnvR (G.hide (D :: G.hid)) w env σ) : EnvR G w env σ := ⟨h.1, fun i x q => by
  obtain ⟨v, h1, h2⟩ := h.2 i x q
  exact ⟨v, h1, Rep.unhide x h2⟩⟩
end
/-- what may be hidden from w on -/
def Hid (G : Gx) (w : Wd) (h : List Addr) : Prop := h = G.hid ∨ ∃ D, h = D :: G.hid ∧ w.H D = none
/-- .. but for what is hidden -/
structure ExtH (h : List Addr) (w w' : Wd) : Prop where
  pre : ∃ more, w'.ρ = w.ρ ++ more ∧ ∀ a ∈ more, w.H a = none ∧ a ∉ w.ρ
  keep : ∀ b o, w.H b = some o → b ∉ w.ρ → b ∉ h → w'.H b = some o
theorem Ext.toH {h : List Addr} {w w' : Wd} (e : Ext w w') : ExtH h w w' := ⟨e.pre, fun b o q n _ => e.keep b o q n⟩
section
variable {h : List Addr} {w w1 w' : Wd}
theorem ExtH.sub (e : ExtH h w w') {a : Addr} (ha : a ∈ w.ρ) : a ∈ w'.ρ := by
  obtain ⟨more, e1, e2⟩ := e.pre
  rw [e1]
  exact List.mem_append_left _ ha
theorem ExtH.out (e : ExtH h w w') {a : Addr} {o : HO} (q : w.H a = some o) (hn : a ∉ w.ρ) : a ∉ w'.ρ := fun hm => by
  obtain ⟨more, e1, e2⟩ := e.pre
  rw [e1] at hm
  rcases List.mem_append.mp hm with z | z
  · exact hn z
  · rw [(e2 a z).1] at q
    cases q
theorem ExtH.at (e : ExtH h w w') {l : Nat} {a : Addr} (q : w.ρ[l]? = some a) : w'.ρ[l]? = some a := by
  obtain ⟨more, e1, e2⟩ := e.pre
  rw [e1, List.getElem?_append_left (List.getElem?_eq_some_iff.mp q).1]
  exact q
theorem ExtH.trans (e : ExtH h w w1) (f : Ext w1 w') (hh : ∀ a ∈ h, w1.H a ≠ none) : ExtH h w w' := by
  obtain ⟨m1, a1, b1⟩ := e.pre
  obtain ⟨m2, a2, b2⟩ := f.pre
  refine ⟨⟨m1 ++ m2, by rw [a2, a1, List.append_assoc], fun a ha => ?_⟩, fun b o q hn hx => f.keep b o (e.keep b o q hn hx) (e.out q hn)⟩
  rcases List.mem_append.mp ha with z | z
  · exact b1 a z
  · obtain ⟨hn, hr⟩ := b2 a z
    have hr0 : a ∉ w.ρ := fun q => hr (e.sub q)
    refine ⟨?_, hr0⟩
    cases q : w.H a with
    | none => rfl
    | some o =>
      have hx : a ∉ h := fun m => hh a m hn
      rw [e.keep a o q hr0 hx] at hn
      cases hn
theorem ExtH.dset {D : Addr} {o : HO} (e : ExtH h w w1) (hD : D ∈ h) : ExtH h w ⟨w1.ρ, upd w1.H D o, w1.S⟩ := ⟨e.pre, fun b u q hn hx => by
  have hne : b ≠ D := fun z => hx (z ▸ hD)
  show upd w1.H D o b = some u
  rw [upd_ne hne]
  exact e.keep b u q hn hx⟩
theorem ExtH.rd (e : ExtH h w w') {a : Addr} {u : HO} (q : Rd w.H a u) (hn : a ∉ w.ρ) (hx : a ∉ h) : Rd w'.H a u ∧ a ∉ w'.ρ := by
  rcases q with q | ⟨o, q⟩
  · exact ⟨.inl (e.keep _ _ q hn hx), e.out q hn⟩
  · exact ⟨.inr ⟨o, e.keep _ _ q hn hx⟩, e.out q hn⟩
variable {G : Gx}
mutual
theorem Rep.monoH (e : ExtH h w w') (hs : ∀ a ∈ h, a ∈ G.hid) (nt : ∀ a xs, Rd w.H a (.tup xs) → a ∉ w.ρ ∧ a ∉ h) : ∀ (x : Val) {v : V}, Rep G w.ρ w.H x v → Rep G w'.ρ w'.H x v
  | .non, _, q => q
  | .bl _, _, q => q
  | .int _, _, q => q
  | .str _, _, q => q
  | .tup xs, v, q => by
    obtain ⟨a, vs, rfl, h1, hz, h2⟩ := q
    refine ⟨a, vs, rfl, ?_, hz, RepAll.monoH e hs nt xs h2⟩
    rcases h1 with h1 | h1
    · exact .inl (e.rd h1 (nt a _ h1).1 (nt a _ h1).2).1
    · exact .inr h1
  | .lst xs, v, q => by
    obtain ⟨a, vs, rfl, h1, hn, hz, h2⟩ := q
    exact ⟨a, vs, rfl, e.keep _ _ h1 hn.1 (fun m => hn.2 (hs a m)), ⟨e.out h1 hn.1, hn.2⟩, hz, RepAll.monoH e hs nt xs h2⟩
  | .flst xs, v, q => by
    obtain ⟨a, vs, rfl, h1, hz, h2⟩ := q
    refine ⟨a, vs, rfl, ?_, hz, RepAll.monoH e hs nt xs h2⟩
    rcases h1 with ⟨h1, hn⟩ | h1
    · have z := e.rd h1 hn.1 (fun m => hn.2 (hs a m))
      exact .inl ⟨z.1, z.2, hn.2⟩
    · exact .inr h1
  | .loc l, v, q => by
    obtain ⟨a, h1, h2⟩ := q
    exact ⟨a, e.at h1, h2⟩
  | .fn _, _, q => q
theorem RepAll.monoH (e : ExtH h w w') (hs : ∀ a ∈ h, a ∈ G.hid) (nt : ∀ a xs, Rd w.H a (.tup xs) → a ∉ w.ρ ∧ a ∉ h) : ∀ (xs : List Val) {vs : List V}, RepAll G w.ρ w.H xs vs → RepAll G w'.ρ w'.H xs vs
  | [], _, q => q
  | x :: xs, _, q => by
    obtain ⟨v, r, e1, hv, hr⟩ := q
    exact ⟨v, r, e1, Rep.monoH e hs nt x hv, RepAll.monoH e hs nt xs hr⟩
end
theorem Wd.Ok.ntH (ok : w.Ok G) : ∀ a xs, Rd w.H a (.tup xs) → a ∉ w.ρ ∧ a ∉ G.hid := fun a xs q => ⟨ok.nt a xs q, fun hm => by
  obtain ⟨ys, hy⟩ := ok.hd a hm
  rcases q with q | ⟨o, q⟩ <;> (rw [hy] at q; cases q)⟩
theorem rep_hid (ok : w.Ok G) (hh : Hid G w h) (e : ExtH G.hid w w') {x : Val} {v : V} (r : Rep G w.ρ w.H x v) : Rep (G.hide h) w'.ρ w'.H x v := by
  rcases hh with rfl | ⟨D, rfl, hD⟩
  · exact Rep.monoH e (fun _ m => m) ok.ntH x r
  · exact Rep.monoH e (fun _ m => List.mem_cons_of_mem _ m) ok.ntH x (Rep.hide hD x r)
end
section
variable {G : Gx} {ρ : List Addr} {H : Hp} {D : Addr}
mutual
theorem Rep.adopt : ∀ (x : Val) {v : V}, Rep (G.hide (D :: G.hid)) ρ H x v → ρ.length ≤ (ρ ++ [D]).length → Rep G (ρ ++ [D]) H x v
  | .non, _, h, _ => h
  | .bl _, _, h, _ => h
  | .int _, _, h, _ => h
  | .str _, _, h, _ => h
  | .tup xs, v, h, z => by
    obtain ⟨a, vs, rfl, h1, hz, h2⟩ := h
    exact ⟨a, vs, rfl, h1, hz, RepAll.adopt xs h2 z⟩
  | .lst xs, v, h, z => by
    obtain ⟨a, vs, rfl, h1, hn, hz, h2⟩ := h
    exact ⟨a, vs, rfl, h1, ⟨fun hm => (List.mem_append.mp hm).elim hn.1 fun e => hn.2 (by rw [List.mem_singleton.mp e]; exact List.mem_cons_self), fun hm => hn.2 (List.mem_cons_of_mem _ hm)⟩, hz, RepAll.adopt xs h2 z⟩
  | .flst xs, v, h, z => by
    obtain ⟨a, vs, rfl, h1, hz, h2⟩ := h
    refine ⟨a, vs, rfl, ?_, hz, RepAll.adopt xs h2 z⟩
    rcases h1 with ⟨h1, hn⟩ | h1
    · exact .inl ⟨h1, fun hm => (List.mem_append.mp hm).elim hn.1 fun e => hn.2 (by rw [List.mem_singleton.mp e]; exact List.mem_cons_self), fun hm => hn.2 (List.mem_cons_of_mem _ hm)⟩
    · exact .inr h1
  | .loc l, v, h, _ => by
    obtain ⟨a, h1, rfl⟩ := h
    exact ⟨a, by rw [List.getElem?_append_left (List.getElem?_eq_some_iff.mp h1).1]; exact h1, rfl⟩
  | .fn _, _, h, _ => h
theorem RepAll.adopt : ∀ (xs : List Val) {v : List V}, RepAll (G.hide (D :: G.hid)) ρ H xs v → ρ.length ≤ (ρ ++ [D]).length → RepAll G (ρ ++ [D]) H xs v
  | [], _, h, _ => h
  | x :: xs, _, h, z => by
    obtain ⟨v, r, e1, hv, hr⟩ := h
    exact ⟨v, r, e1, Rep.adopt x hv z, RepAll.adopt xs hr z⟩
end
end
/-- .. becomes a mutable thing -/
theorem ok_adopt {G : Gx} {w : Wd} {D : Addr} {xs : List Val} {vs : List V} (ok : w.Ok (G.hide (D :: G.hid))) (hD : w.H D = some (.lst vs)) (hn : D ∉ w.ρ) (hDh : D ∉ G.hid) (hz : vs.length ≤ sizeLine) (r : RepAll (G.hide (D :: G.hid)) w.ρ w.H xs vs) : Wd.Ok G ⟨w.ρ ++ [D], w.H, w.S ++ [.lst xs]⟩ := by
  refine ⟨by simp [ok.len], ?_, fun l a ob h1 h2 => ?_, fun a ha => ok.hd a (List.mem_cons_of_mem _ ha), fun a ha hm => (List.mem_append.mp hm).elim (ok.hr a (List.mem_cons_of_mem _ ha)) fun z => hDh (List.mem_singleton.mp z ▸ ha)⟩
  · show (w.ρ ++ [D]).Nodup
    rw [List.nodup_append]
    refine ⟨ok.nd, by simp, fun x hx y hy => ?_⟩
    have ey : y = D := by simpa using hy
    rw [ey]
    exact fun z => hn (z ▸ hx)
  · have h1' : (w.ρ ++ [D])[l]? = some a := h1
    have h2' : (w.S ++ [.lst xs])[l]? = some ob := h2
    by_cases hl : l < w.ρ.length
    · rw [List.getElem?_append_left hl] at h1'
      rw [List.getElem?_append_left (by rw [← ok.len]; exact hl)] at h2'
      exact ObRep.imp (G := G.hide (D :: G.hid)) (G' := G) rfl (fun x v r => Rep.adopt x r (by simp)) (fun x v r => RepAll.adopt x r (by simp)) rfl (ok.ob l a ob h1' h2')
    · have hl2 : l = w.ρ.length := by
        have := (List.getElem?_eq_some_iff.mp h1').1
        simp at this
        omega
      rw [hl2, List.getElem?_append_right (Nat.le_refl _), Nat.sub_self] at h1'
      rw [hl2, ok.len, List.getElem?_append_right (Nat.le_refl _), Nat.sub_self] at h2'
      have ea : D = a := by simpa using h1'
      have eb : Ob.lst xs = ob := by simpa using h2'
      rw [← ea, ← eb]
      exact ⟨vs, hD, hz, RepAll.adopt xs r (by simp)⟩
theorem er_hid {G : Gx} {w w' : Wd} {h : List Addr} {env : Env} {σ : L2.St} (ok : w.Ok G) (hh : Hid G w h) (e : ExtH G.hid w w') (er : EnvR G w env σ) : EnvR (G.hide h) w' env σ := ⟨er.1, fun i x q => by
  obtain ⟨v, h1, h2⟩ := er.2 i x q
  exact ⟨v, h1, rep_hid ok hh e h2⟩⟩
end Lt
set_option maxHeartbeats 4000000
namespace Lt
open PySem PySem.Spec PyProof.Rows L2
/-- the program's tables, where its things stand, how many turns a while may take, how deep calls may go -/
structure Kx where
  T : List FI
  gi : List (Str × Int)
  bf : List Str
  tb : List (Str × List (Str × Nat))
  fs : List Str
  G : Gx
  F : Nat
  n : Nat
def Kx.hide (k : Kx) (h : List Addr) : Kx := { k with G := k.G.hide h }
def Kx.C (k : Kx) : Calls := run k.T k.F k.n
def ExR (G : Gx) (w : Wd) (x : Exc) (cls : Value) (d : Option Addr) : Prop :=
  ∃ C, G.xl x.cls = some C ∧ cls = .ref C ∧ ((x.fs = [] ∧ d = none) ∨ ∃ dx fv, d = some dx ∧ w.H dx = some (.xd fv) ∧ FsRep G w.ρ w.H x.fs fv)
def XW (G : Gx) (w : Wd) (W : WX) (σ : L2.St) (x : Exc) (S : Store) : Prop := ∀ w' cls d, Ext w w' → w'.S = S → w'.Ok G → ExR G w' x cls d → W cls d σ w'.H
theorem XW.mono {G : Gx} {w w1 : Wd} {W : WX} {σ : L2.St} {x : Exc} {S : Store} (e : Ext w w1) (h : XW G w W σ x S) : XW G w1 W σ x S := fun w' cls d e1 => h w' cls d (e.trans e1)
/-- what follows a value -/
def PV (G : Gx) (w : Wd) (Q : VK) (v : Val) (S : Store) : Prop := ∀ w' x, Ext w w' → w'.S = S → w'.Ok G → Rep G w'.ρ w'.H v x → Q x w'.H
def PVs (G : Gx) (w : Wd) (Q : List V → Hp → Prop) (v : List Val) (S : Store) : Prop := ∀ w' x, Ext w w' → w'.S = S → w'.Ok G → RepAll G w'.ρ w'.H v x → Q x w'.H
def PB (G : Gx) (w : Wd) (Q : Bool → Hp → Prop) (v : Val) (S : Store) : Prop := ∃ b, v = .bl b ∧ ∀ w', Ext w w' → w'.S = S → w'.Ok G → Q b w'.H
def tE (k : Kx) (W : WX) (e : IE) : TE := fun σ H Q => ∃ w env, w.H = H ∧ w.Ok k.G ∧ EnvR k.G w env σ ∧ (evE k.C e env w.S).post (PV k.G w Q) (XW k.G w W σ)
def tAs (k : Kx) (W : WX) (e : IE) : TA := fun σ H Q => ∃ w env, w.H = H ∧ w.Ok k.G ∧ EnvR k.G w env σ ∧ (evAs k.C e env w.S).post (PVs k.G w Q) (XW k.G w W σ)
def tT (k : Kx) (W : WX) (e : IE) : TT := fun σ H Q => ∃ w env, w.H = H ∧ w.Ok k.G ∧ EnvR k.G w env σ ∧ (evE k.C e env w.S).post (PB k.G w Q) (XW k.G w W σ)
theorem _root_.L2.PE.imp {X : Cx} {e : Expr} {t t' : TE} (h : PE X e t) (i : ∀ σ H Q, t' σ H Q → t σ H Q) : PE X e t' := ⟨fun pins s σ H Q I q => h.run pins s σ H Q I (i σ H Q q)⟩
theorem _root_.L2.PT.imp {X : Cx} {e : Expr} {t t' : TT} (h : PT X e t) (i : ∀ σ H Q, t' σ H Q → t σ H Q) : PT X e t' := ⟨fun pins s σ H Q I q => h.run pins s σ H Q I (i σ H Q q)⟩
theorem _root_.L2.PW.imp {X : Cx} {e : Expr} {t t' : TT} (h : PW X e t) (i : ∀ σ H Q, t' σ H Q → t σ H Q) : PW X e t' := ⟨fun wh pins s σ H Q I q => h.run wh pins s σ H Q I (i σ H Q q)⟩
theorem _root_.L2.PA.imp {X : Cx} {e : List Expr} {t t' : TA} (h : PA X e t) (i : ∀ σ H Q, t' σ H Q → t σ H Q) : PA X e t' := ⟨fun pos pins s σ H Q I q => h.run pos pins s σ H Q I (i σ H Q q)⟩
section
variable {k : Kx} {W : WX} {e : IE} {env : Env} {σ : L2.St} {w : Wd} {β : Type} {P : β → Store → Prop} {E0 : Exc → Store → Prop}
/-- one part is evaluated, then the rest -/
theorem stepE (ok : w.Ok k.G) (he : EnvR k.G w env σ) {f : Val → Store → R β} (h : ((evE k.C e env w.S).bind f).post P E0) (hx : ∀ x S, E0 x S → XW k.G w W σ x S) {Q : VK}
    (q : ∀ v w1 x, Ext w w1 → w1.Ok k.G → Rep k.G w1.ρ w1.H v x → EnvR k.G w1 env σ → (∀ x S, E0 x S → XW k.G w1 W σ x S) → (f v w1.S).post P E0 → Q x w1.H) : tE k W e σ w.H Q := by
  refine ⟨w, env, rfl, ok, he, R.post_mono (R.post_bind h) (fun v S z w1 x e1 eS o1 r1 => ?_) hx⟩
  subst eS
  exact q v w1 x e1 o1 r1 (he.mono ok e1) (fun y S hy => (hx y S hy).mono e1) z
theorem stepAs (ok : w.Ok k.G) (he : EnvR k.G w env σ) {f : List Val → Store → R β} (h : ((evAs k.C e env w.S).bind f).post P E0) (hx : ∀ x S, E0 x S → XW k.G w W σ x S) {Q : List V → Hp → Prop}
    (q : ∀ v w1 x, Ext w w1 → w1.Ok k.G → RepAll k.G w1.ρ w1.H v x → EnvR k.G w1 env σ → (∀ x S, E0 x S → XW k.G w1 W σ x S) → (f v w1.S).post P E0 → Q x w1.H) : tAs k W e σ w.H Q := by
  refine ⟨w, env, rfl, ok, he, R.post_mono (R.post_bind h) (fun v S z w1 x e1 eS o1 r1 => ?_) hx⟩
  subst eS
  exact q v w1 x e1 o1 r1 (he.mono ok e1) (fun y S hy => (hx y S hy).mono e1) z
/-- .. as a test -/
theorem stepT (ok : w.Ok k.G) (he : EnvR k.G w env σ) {f : Val → Store → R β} (h : ((evE k.C e env w.S).bind f).post P E0) (hx : ∀ x S, E0 x S → XW k.G w W σ x S) (hb : ∀ v S, (f v S).post P E0 → ∃ b, v = .bl b) {Q : Bool → Hp → Prop}
    (q : ∀ b w1, Ext w w1 → w1.Ok k.G → EnvR k.G w1 env σ → (∀ x S, E0 x S → XW k.G w1 W σ x S) → (f (.bl b) w1.S).post P E0 → Q b w1.H) : tT k W e σ w.H Q := by
  refine ⟨w, env, rfl, ok, he, R.post_mono (R.post_bind h) (fun v S z => ?_) hx⟩
  obtain ⟨b, rfl⟩ := hb v S z
  refine ⟨b, rfl, fun w1 e1 eS o1 => ?_⟩
  subst eS
  exact q b w1 e1 o1 (he.mono ok e1) (fun y S hy => (hx y S hy).mono e1) z
end
/-- a part that is all -/
theorem R.bind_ok' {α : Type} (r : R α) : r.bind R.ok = r := by cases r <;> rfl
section
variable {k : Kx} {w : Wd} {v : Val} {x : V} {xs : List Val}
theorem rd_loc {S : Store} {l : Nat} : rd S (.loc l) = match S[l]? with
    | some (.lst xs) => .lst xs
    | _ => .loc l := rfl
/-- a list, frozen or not, as it stands -/
theorem rd_lst (ok : w.Ok k.G) (r : Rep k.G w.ρ w.H v x) (h : rd w.S v = .lst xs) : ∃ a vs, x = .ref a ∧ SqL k.G.K w.H a vs ∧ vs.length ≤ sizeLine ∧ RepAll k.G w.ρ w.H xs vs := by
  cases v with
  | lst ys =>
    have e : ys = xs := by
      have h' : Val.lst ys = .lst xs := h
      injection h'
    subst e
    obtain ⟨a, vs, rfl, h1, _, hz, h2⟩ := r
    exact ⟨a, vs, rfl, .of h1, hz, h2⟩
  | flst ys =>
    have e : ys = xs := by
      have h' : Val.lst ys = .lst xs := h
      injection h'
    subst e
    obtain ⟨a, vs, rfl, h1, hz, h2⟩ := r
    refine ⟨a, vs, rfl, ?_, hz, h2⟩
    rcases h1 with ⟨h1, _⟩ | h1
    · exact .inl h1
    · exact .inr h1
  | loc l =>
    obtain ⟨a, h1, rfl⟩ := r
    rw [rd_loc] at h
    cases hs : w.S[l]? with
    | none =>
      rw [hs] at h
      cases h
    | some o =>
      rw [hs] at h
      cases o with
      | lst ys =>
        have e : ys = xs := by
          have h' : Val.lst ys = .lst xs := h
          injection h'
        subst e
        obtain ⟨vs, h2, hz, h3⟩ := ok.ob l a _ h1 hs
        exact ⟨a, vs, rfl, .of h2, hz, h3⟩
      | inst c fs => cases h
  | _ => cases h
theorem rd_tup (h : rd w.S v = .tup xs) : v = .tup xs := by
  cases v with
  | tup ys => exact h
  | loc l =>
    rw [rd_loc] at h
    cases hs : w.S[l]? with
    | none =>
      rw [hs] at h
      cases h
    | some o =>
      rw [hs] at h
      cases o <;> cases h
  | _ => cases h
theorem rd_data {u : Val} (h : rd w.S v = u) (hu : u.flat = true) : v = u := by
  cases v with
  | loc l =>
    rw [rd_loc] at h
    cases hs : w.S[l]? with
    | none =>
      rw [hs] at h
      subst h
      cases hu
    | some o =>
      rw [hs] at h
      cases o <;> (subst h; cases hu)
  | flst xs =>
    have h' : Val.lst xs = u := h
    subst h'
    cases hu
  | _ => exact h
theorem Rd.sqL {K : PySem.W.Frag} {H : Hp} {a : Addr} {vs : List V} (h : Rd H a (.lst vs)) : SqL K H a vs := .inl h
end
def testable : Expr → Bool
  | .Call _ _ _ _ => true
  | .Name _ _ => true
  | .Constant _ _ _ => true
  | .Attribute _ _ _ => true
  | .Subscript _ _ _ => true
  | .Compare _ _ _ _ => true
  | .BoolOp _ _ _ => true
  | .UnaryOp .Not _ _ => true
  | _ => false
/-- an expression's test by its value -/
theorem pt_of {X : Cx} {e : Expr} {k : Kx} {W : WX} {i : IE} (h : PE X e (tE k W i)) (he : ∀ whole, isTrue e X.env whole = (do let v ← whole; standAt e.pos; holding [v] (truthy v))) : PT X e (tT k W i) :=
  (pt_val h he).imp fun σ H Q ⟨w, env, e1, ok, er, q⟩ => ⟨w, env, e1, ok, er, R.post_mono q (fun v S ⟨b, e2, q2⟩ w' x e3 eS o r => by
    subst e2
    exact ⟨b, r, q2 w' e3 eS o⟩) fun _ _ z => z⟩
end Lt
set_option maxHeartbeats 4000000
namespace Lt
open PySem PySem.Spec PyProof.Rows L2
/-- a def's promise by the evaluator -/
def spR (k : Kx) (j : Nat) : Sp := fun vs H Q E => ∃ w args, w.H = H ∧ w.Ok k.G ∧ RepAll k.G w.ρ w.H args vs ∧ (k.C j args w.S).post (PV k.G w Q) (XW k.G w (fun cls d _ H' => E cls d H') [])
/-- what a context must have, whatever is wished of exceptions -/
structure Sx (k : Kx) (X : Cx) : Prop where
  calm : X.calm = true
  nd : X.N.Nodup
  hK : X.K = k.G.K
  room : Room (3 * k.n + 2) X.A
  bf : ∀ x, k.bf.contains x = true → X.mg x = none
  gi : ∀ x i, k.gi.lookup x = some i → ∃ t, X.mg x = some (.int i t)
  fn : ∀ j fi, k.T[j]? = some fi → ∃ f fd, k.G.fa j = some f ∧ PySem.W.keepIn X.K (.ref f) = true ∧ Binds X.K fd fi.ps [] ∧ (∀ h, FnOk X.prog X.w X.K X.mg X.base (L2.CX X.prog X.w) (3 * k.n) f fd fi.ps (spR (k.hide h) j)) ∧
    (fi.cls = none → X.mg fi.name = some (.ref f)) ∧ (∀ c, fi.cls = some c → ∃ C, k.G.cl c = some C ∧ Meth X.K C fi.name f ∧ (fi.name = "__init__" → Mk X.K C f))
  fa : ∀ j a, k.G.fa j = some a → ∃ fi, k.T[j]? = some fi
  cl : ∀ c C, k.G.cl c = some C → Cls X.K C ∧ X.mg c = some (.ref C)
  na : ∀ c C f, k.G.cl c = some C → k.fs.contains f = true → NoAttr X.K C f
  tb : ∀ x t, k.tb.lookup x = some t → ∃ d es m, X.mg x = some (.ref d) ∧ KDict X.K X.w d es m ∧ ∀ z, (t.lookup z = none → PySem.W.nsIn X.K d z = some none) ∧ ∀ j, t.lookup z = some j → ∃ f, k.G.fa j = some f ∧ PySem.W.nsIn X.K d z = some (some (.ref f))
/-- a wish that doesn't hang on the slots -/
def Wc (W : WX) : Prop := ∀ cls d σ σ' H, W cls d σ H → W cls d σ' H
section
variable {k : Kx} {X : Cx} {W : WX} {a b c e : Expr} {ia ib ic ie : IE} {pos : Pos} {es : List Expr}
theorem s_var {i : Nat} {x : Str} (hN : X.N[i]? = some x) (hv : Vis X.env.scope x) (hd : (x == ("__debug__" : Str)) = false) (hcd : (x == ("__classdict__" : Str)) = false) : PE X (.Name x pos) (tE k W (.var i)) := by
  refine (pe_var hN hv hd hcd).imp fun σ H Q ⟨w, env, e1, ok, er, q⟩ => ?_
  subst e1
  have q' : (match env[i]? with
    | some (some v) => R.ok v w.S
    | _ => .stuck).post (PV k.G w Q) (XW k.G w W σ) := q
  cases h : env[i]? with
  | none =>
    rw [h] at q'
    exact q'.elim
  | some o =>
    cases o with
    | none =>
      rw [h] at q'
      exact q'.elim
    | some v =>
      rw [h] at q'
      obtain ⟨x, h1, h2⟩ := er.2 i v h
      exact ⟨x, h1, q' w x (Ext.refl w) rfl ok h2⟩
def conV : Const → Option Val
  | .none => some .non
  | .bool b => some (.bl b)
  | .int i => some (.int i)
  | .str x => some (.str x)
  | _ => none
theorem s_con {v : Val} {cn : Const} {j : Nat} (h : conV cn = some v) : PE X (.Constant cn j pos) (tE k W (.con v)) := by
  cases cn with
  | none =>
    obtain rfl : Val.non = v := Option.some.inj h
    exact pe_non.imp fun σ H Q ⟨w, env, e1, ok, er, q⟩ => by subst e1; exact q w _ (Ext.refl w) rfl ok rfl
  | bool b =>
    obtain rfl : Val.bl b = v := Option.some.inj h
    exact pe_bl.imp fun σ H Q ⟨w, env, e1, ok, er, q⟩ => by subst e1; exact q w _ (Ext.refl w) rfl ok rfl
  | int i =>
    obtain rfl : Val.int i = v := Option.some.inj h
    exact pe_int.imp fun σ H Q ⟨w, env, e1, ok, er, q⟩ => by subst e1; exact q w _ (Ext.refl w) rfl ok rfl
  | str x =>
    obtain rfl : Val.str x = v := Option.some.inj h
    exact pe_str.imp fun σ H Q ⟨w, env, e1, ok, er, q⟩ => by subst e1; exact q w _ (Ext.refl w) rfl ok rfl
  | _ => cases h
theorem s_glob (S : Sx k X) {x : Str} {i : Int} (hl : k.gi.lookup x = some i) (hg : Gl X x) (hd : (x == ("__debug__" : Str)) = false) : PE X (.Name x pos) (tE k W (.glob x i)) := by
  obtain ⟨t, hm⟩ := S.gi x i hl
  exact (pe_glob (v := .int i) hg hm ⟨t, rfl⟩ hd).imp fun σ H Q ⟨w, env, e1, ok, er, q⟩ => by subst e1; exact q w _ (Ext.refl w) rfl ok rfl
/-- the end of a two-part operation -/
theorem of_post {w : Wd} {Q : VK} {o : Option Val} {E0 : Exc → Store → Prop} {w0 : Wd} (h : (R.of o w.S).post (PV k.G w0 Q) E0) : ∃ v, o = some v ∧ PV k.G w0 Q v w.S := by
  cases o with
  | none => exact h.elim
  | some v => exact ⟨v, rfl, h⟩
theorem of_post' {α : Type} {S : Store} {P : α → Store → Prop} {o : Option α} {E0 : Exc → Store → Prop} (h : (R.of o S).post P E0) : ∃ v, o = some v ∧ P v S := by
  cases o with
  | none => exact h.elim
  | some v => exact ⟨v, rfl, h⟩
/-- operators by values -/
def BinOk (k : Kx) (X : Cx) (o : Operator) : Prop := ∃ r : R2, OpR X (binaryOp o) r ∧ ∀ (w : Wd) (u v z : Val) (x y : V) (Q : VK), w.Ok k.G → Rep k.G w.ρ w.H u x → Rep k.G w.ρ w.H v y → binV o u v = some z →
  (∀ w' q, Ext w w' → w'.S = w.S → w'.Ok k.G → Rep k.G w'.ρ w'.H z q → Q q w'.H) → r x y w.H Q
theorem new_tup {w : Wd} {xs : List Val} {vs : List V} {p : Addr} (ok : w.Ok k.G) (hp : w.H p = none) (r : RepAll k.G w.ρ w.H xs vs) (hz : vs.length ≤ sizeLine) :
    Ext w ⟨w.ρ, upd w.H p (.tup vs), w.S⟩ ∧ Wd.Ok k.G ⟨w.ρ, upd w.H p (.tup vs), w.S⟩ ∧ Rep k.G w.ρ (upd w.H p (.tup vs)) (.tup xs) (.ref p) := by
  have e1 := ext_new (w := w) (o := .tup vs) hp
  exact ⟨e1, ok_new ok hp, p, vs, rfl, .inl (.inl upd_same), hz, ok.reps e1 r⟩
theorem new_lst {w : Wd} {xs : List Val} {vs : List V} {p : Addr} (ok : w.Ok k.G) (hp : w.H p = none) (r : RepAll k.G w.ρ w.H xs vs) (hz : vs.length ≤ sizeLine) :
    Ext w ⟨w.ρ, upd w.H p (.lst vs), w.S⟩ ∧ Wd.Ok k.G ⟨w.ρ, upd w.H p (.lst vs), w.S⟩ ∧ Rep k.G w.ρ (upd w.H p (.lst vs)) (.lst xs) (.ref p) := by
  have e1 := ext_new (w := w) (o := .lst vs) hp
  exact ⟨e1, ok_new ok hp, p, vs, rfl, upd_same, ok.outs hp, hz, ok.reps e1 r⟩
/-- a new list, frozen or not -/
theorem new_any {w : Wd} {m : Bool} {xs : List Val} {vs : List V} {p : Addr} {Q : VK} {E0 : Exc → Store → Prop} {w0 : Wd} (ok : w.Ok k.G) (e0 : Ext w0 w) (hp : w.H p = none) (r : RepAll k.G w.ρ w.H xs vs) (hz : vs.length ≤ sizeLine)
    (h : (alloc m xs w.S).post (PV k.G w0 Q) E0) : Q (.ref p) (upd w.H p (.lst vs)) := by
  cases m with
  | false =>
    obtain ⟨e1, o1, r1⟩ := new_lst ok hp r hz
    exact h ⟨w.ρ, upd w.H p (.lst vs), w.S⟩ (.ref p) (e0.trans e1) rfl o1 r1
  | true =>
    have e1 := ext_loc (w := w) (o := .lst vs) (b := .lst xs) ok hp
    have o1 : Wd.Ok k.G ⟨w.ρ ++ [p], upd w.H p (.lst vs), w.S ++ [.lst xs]⟩ := ok_loc ok hp ⟨vs, upd_same, hz, ok.reps e1 r⟩
    refine h ⟨w.ρ ++ [p], upd w.H p (.lst vs), w.S ++ [.lst xs]⟩ (.ref p) (e0.trans e1) rfl o1 ⟨p, ?_, rfl⟩
    show (w.ρ ++ [p])[w.S.length]? = some p
    rw [← ok.len, List.getElem?_append_right (Nat.le_refl _), Nat.sub_self]
    rfl
theorem cat_rep {w : Wd} {K : PySem.W.Frag} (hK : K = k.G.K) {xs ys : List Val} {x y : V} {Q : VK} (ok : w.Ok k.G) (rx : Rep k.G w.ρ w.H (.tup xs) x) (ry : Rep k.G w.ρ w.H (.tup ys) y) (hz : xs.length + ys.length ≤ sizeLine)
    (q : ∀ w' q, Ext w w' → w'.S = w.S → w'.Ok k.G → Rep k.G w'.ρ w'.H (.tup (xs ++ ys)) q → Q q w'.H) : rCatA K x y w.H Q := by
  subst hK
  obtain ⟨a, vs, rfl, h1, hz1, r1⟩ := rx
  obtain ⟨b, us, rfl, h2, hz2, r2⟩ := ry
  have hz' : vs.length + us.length ≤ sizeLine := by rw [r1.length, r2.length]; exact hz
  refine ⟨a, b, vs, us, rfl, rfl, h1, h2, hz', fun e0 => ?_, fun _ e0 => ?_, fun _ _ p hp => ?_⟩
  · have ex : xs = [] := List.length_eq_zero_iff.mp (by rw [← r1.length, e0]; rfl)
    refine q w _ (Ext.refl w) rfl ok ?_
    rw [ex, List.nil_append]
    exact ⟨b, us, rfl, h2, hz2, r2⟩
  · have ey : ys = [] := List.length_eq_zero_iff.mp (by rw [← r2.length, e0]; rfl)
    refine q w _ (Ext.refl w) rfl ok ?_
    rw [ey, List.append_nil]
    exact ⟨a, vs, rfl, h1, hz1, r1⟩
  · obtain ⟨e1, o1, rr⟩ := new_tup ok hp (r1.append r2) (by rw [List.length_append]; exact hz')
    exact q ⟨w.ρ, _, w.S⟩ _ e1 rfl o1 rr
def CPow2 (i j : Int) : Prop := 0 ≤ j ∧ ((j ≤ 1000000 ∧ i.natAbs < 2 ^ 64) ∨ (j ≤ 100000 ∧ i.natAbs < 2 ^ 1024))
theorem op_pow2 : OpR X (binaryOp .Pow) (rI CPow2 fun i j => .int (i ^ j.toNat)) := opI fun i j t u s Q E hc q => by
  refine PyProof.Rows.pow_int hc.1 ?_ q
  rcases hc.2 with ⟨h1, h2⟩ | ⟨h1, h2⟩
  · exact PyProof.Rows.bits_mul_le h2 hc.1 h1
  · have hb : Builtin.Int.intBits i ≤ 1024 := PyProof.Rows.intBits_le h2
    have h3 : (Builtin.Int.intBits i : Int) * j ≤ 1024 * j := Int.mul_le_mul_of_nonneg_right (by omega) hc.1
    omega
theorem binOk (S : Sx k X) (o : Operator) (ho : o = .Add ∨ o = .Sub ∨ o = .Mult ∨ o = .Mod ∨ o = .FloorDiv ∨ o = .Pow) : BinOk k X o := by
  rcases ho with rfl | rfl | rfl | rfl | rfl | rfl
  · refine ⟨_, op_add.or op_catA, fun w u v z x y Q ok ru rv h q => ?_⟩
    cases u <;> cases v <;> first
      | (have h' : (none : Option Val) = some z := h; cases h'; done)
      | skip
    · rename_i i j
      have h' : some (Val.int (i + j)) = some z := h
      injection h' with h'
      subst h'
      exact .inl ⟨i, j, ru, rv, q w _ (Ext.refl w) rfl ok rfl⟩
    · rename_i xs ys
      have h' : (if xs.length + ys.length ≤ sizeLine then some (Val.tup (xs ++ ys)) else none) = some z := h
      by_cases hz : xs.length + ys.length ≤ sizeLine
      · rw [if_pos hz] at h'
        injection h' with h'
        subst h'
        exact .inr (cat_rep S.hK ok ru rv hz q)
      · rw [if_neg hz] at h'
        cases h'
  · refine ⟨_, op_sub, fun w u v z x y Q ok ru rv h q => ?_⟩
    cases u <;> cases v <;> first
      | (have h' : (none : Option Val) = some z := h; cases h'; done)
      | skip
    rename_i i j
    have h' : some (Val.int (i - j)) = some z := h
    injection h' with h'
    subst h'
    exact ⟨i, j, ru, rv, q w _ (Ext.refl w) rfl ok rfl⟩
  · refine ⟨_, op_mul, fun w u v z x y Q ok ru rv h q => ?_⟩
    cases u <;> cases v <;> first
      | (have h' : (none : Option Val) = some z := h; cases h'; done)
      | skip
    rename_i i j
    have h' : (if mulOk i j then some (Val.int (i * j)) else none) = some z := h
    by_cases hz : mulOk i j = true
    · rw [if_pos hz] at h'
      injection h' with h'
      subst h'
      refine ⟨i, j, ru, rv, ?_, q w _ (Ext.refl w) rfl ok rfl⟩
      unfold mulOk at hz
      simpa [CMul] using hz
    · rw [if_neg hz] at h'
      cases h'
  · refine ⟨_, op_mod, fun w u v z x y Q ok ru rv h q => ?_⟩
    cases u <;> cases v <;> first
      | (have h' : (none : Option Val) = some z := h; cases h'; done)
      | skip
    rename_i i j
    have h' : (if 0 < j then some (Val.int (i % j)) else none) = some z := h
    by_cases hz : 0 < j
    · rw [if_pos hz] at h'
      injection h' with h'
      subst h'
      exact ⟨i, j, ru, rv, hz, q w _ (Ext.refl w) rfl ok rfl⟩
    · rw [if_neg hz] at h'
      cases h'
  · refine ⟨_, op_fdiv, fun w u v z x y Q ok ru rv h q => ?_⟩
    cases u <;> cases v <;> first
      | (have h' : (none : Option Val) = some z := h; cases h'; done)
      | skip
    rename_i i j
    have h' : (if 0 < j ∧ j < 1073741824 then some (Val.int (i / j)) else none) = some z := h
    by_cases hz : 0 < j ∧ j < 1073741824
    · rw [if_pos hz] at h'
      injection h' with h'
      subst h'
      exact ⟨i, j, ru, rv, hz, q w _ (Ext.refl w) rfl ok rfl⟩
    · rw [if_neg hz] at h'
      cases h'
  · refine ⟨_, op_pow2, fun w u v z x y Q ok ru rv h q => ?_⟩
    cases u <;> cases v <;> first
      | (have h' : (none : Option Val) = some z := h; cases h'; done)
      | skip
    rename_i i j
    have h' : (if powOk i j then some (Val.int (i ^ j.toNat)) else none) = some z := h
    by_cases hz : powOk i j = true
    · rw [if_pos hz] at h'
      injection h' with h'
      subst h'
      refine ⟨i, j, ru, rv, ?_, q w _ (Ext.refl w) rfl ok rfl⟩
      unfold powOk at hz
      simp only [Bool.and_eq_true, Bool.or_eq_true, decide_eq_true_eq] at hz
      exact hz
    · rw [if_neg hz] at h'
      cases h'
theorem s_bin (S : Sx k X) {o : Operator} (ho : o = .Add ∨ o = .Sub ∨ o = .Mult ∨ o = .Mod ∨ o = .FloorDiv ∨ o = .Pow) (ha : PE X a (tE k W ia)) (hb : PE X b (tE k W ib)) : PE X (.BinOp a o b pos) (tE k W (.bin o ia ib)) := by
  obtain ⟨r, hr, hq⟩ := binOk S o ho
  refine (pe_op hr ha hb).imp fun σ H Q ⟨w, env, e0, ok, er, h⟩ => ?_
  subst e0
  refine stepE ok er h (fun _ _ z => z) fun u w1 x e1 o1 r1 er1 hx1 h1 => ?_
  refine stepE o1 er1 h1 hx1 fun v w2 y e2 o2 r2 er2 hx2 h2 => ?_
  obtain ⟨z, hz, q⟩ := of_post h2
  exact hq w2 u v z x y Q o2 (o1.rep e2 r1) r2 hz fun w' z' e3 eS o3 r3 => q w' z' ((e1.trans e2).trans e3) eS o3 r3
theorem s_neg (ha : PE X a (tE k W ia)) : PE X (.UnaryOp .USub a pos) (tE k W (.neg ia)) := by
  refine (pe_un un_neg ha).imp fun σ H Q ⟨w, env, e0, ok, er, h⟩ => ?_
  subst e0
  refine stepE ok er h (fun _ _ z => z) fun u w1 x e1 o1 r1 er1 hx1 h1 => ?_
  cases u <;> first
    | exact False.elim h1
    | skip
  rename_i i
  exact ⟨i, r1, h1 w1 _ e1 rfl o1 rfl⟩
theorem s_not (ha : PE X a (tE k W ia)) : PE X (.UnaryOp .Not a pos) (tE k W (.not ia)) := by
  refine (pe_not ha).imp fun σ H Q ⟨w, env, e0, ok, er, h⟩ => ?_
  subst e0
  refine stepE ok er h (fun _ _ z => z) fun u w1 x e1 o1 r1 er1 hx1 h1 => ?_
  cases u <;> first
    | exact False.elim h1
    | skip
  rename_i i
  exact ⟨i, r1, h1 w1 _ e1 rfl o1 rfl⟩
theorem bl_of_not {v : Val} {S : Store} {P : Val → Store → Prop} {E0 : Exc → Store → Prop} (h : (match v with
    | .bl c => R.ok (Val.bl (!c)) S
    | _ => .stuck).post P E0) : ∃ b, v = .bl b := by
  cases v <;> first
    | exact False.elim h
    | exact ⟨_, rfl⟩
theorem st_not (ha : PT X a (tT k W ia)) : PT X (.UnaryOp .Not a pos) (tT k W (.not ia)) := by
  refine (pt_not ha).imp fun σ H Q ⟨w, env, e0, ok, er, h⟩ => ?_
  subst e0
  refine stepT ok er h (fun _ _ z => z) (fun v S z => bl_of_not z) fun b w1 e1 o1 er1 hx1 h1 => ?_
  obtain ⟨c, e2, q⟩ := h1
  injection e2 with e2
  subst e2
  exact q w1 e1 rfl o1
theorem s_and (ha : PE X a (tE k W ia)) (hb : PE X (.BoolOp .And (b :: es) pos) (tE k W ib)) : PE X (.BoolOp .And (a :: b :: es) pos) (tE k W (.and ia ib)) := by
  refine (pe_and ha hb).imp fun σ H Q ⟨w, env, e0, ok, er, h⟩ => ?_
  subst e0
  refine stepE ok er h (fun _ _ z => z) fun u w1 x e1 o1 r1 er1 hx1 h1 => ?_
  cases u <;> first
    | exact False.elim h1
    | skip
  rename_i c
  refine ⟨c, r1, ?_⟩
  cases c with
  | true => exact iteT ⟨w1, env, rfl, o1, er1, R.post_mono h1 (fun v S q w' x e2 => q w' x (e1.trans e2)) hx1⟩
  | false => exact iteF (h1 w1 _ e1 rfl o1 rfl)
theorem s_or (ha : PE X a (tE k W ia)) (hb : PE X (.BoolOp .Or (b :: es) pos) (tE k W ib)) : PE X (.BoolOp .Or (a :: b :: es) pos) (tE k W (.or ia ib)) := by
  refine (pe_or ha hb).imp fun σ H Q ⟨w, env, e0, ok, er, h⟩ => ?_
  subst e0
  refine stepE ok er h (fun _ _ z => z) fun u w1 x e1 o1 r1 er1 hx1 h1 => ?_
  cases u <;> first
    | exact False.elim h1
    | skip
  rename_i c
  refine ⟨c, r1, ?_⟩
  cases c with
  | false => exact iteF ⟨w1, env, rfl, o1, er1, R.post_mono h1 (fun v S q w' x e2 => q w' x (e1.trans e2)) hx1⟩
  | true => exact iteT (h1 w1 _ e1 rfl o1 rfl)
theorem s_last {op : BoolOp} (ha : PE X a (tE k W ia)) : PE X (.BoolOp op [a] pos) (tE k W (.last ia)) := (pe_one ha).imp fun σ H Q h => h
theorem bl_of_and {v : Val} {r : R Val} {S : Store} {P : Val → Store → Prop} {E0 : Exc → Store → Prop} (h : (match v with
    | .bl true => r
    | .bl false => R.ok (Val.bl false) S
    | _ => .stuck).post P E0) : ∃ b, v = .bl b := by
  cases v <;> first
    | exact False.elim h
    | exact ⟨_, rfl⟩
theorem bl_of_or {v : Val} {r : R Val} {S : Store} {P : Val → Store → Prop} {E0 : Exc → Store → Prop} (h : (match v with
    | .bl true => R.ok (Val.bl true) S
    | .bl false => r
    | _ => .stuck).post P E0) : ∃ b, v = .bl b := by
  cases v <;> first
    | exact False.elim h
    | exact ⟨_, rfl⟩
theorem bl_of_ite {v : Val} {r r' : R Val} {P : Val → Store → Prop} {E0 : Exc → Store → Prop} (h : (match v with
    | .bl true => r
    | .bl false => r'
    | _ => .stuck).post P E0) : ∃ b, v = .bl b := by
  cases v <;> first
    | exact False.elim h
    | exact ⟨_, rfl⟩
theorem PB.ext {G : Gx} {w w1 : Wd} {Q : Bool → Hp → Prop} {v : Val} {S : Store} (e : Ext w w1) (h : PB G w Q v S) : PB G w1 Q v S := by
  obtain ⟨b, e1, q⟩ := h
  exact ⟨b, e1, fun w' e2 => q w' (e.trans e2)⟩
theorem PV.ext {G : Gx} {w w1 : Wd} {Q : VK} {v : Val} {S : Store} (e : Ext w w1) (h : PV G w Q v S) : PV G w1 Q v S := fun w' x e2 => h w' x (e.trans e2)
theorem PVs.ext {G : Gx} {w w1 : Wd} {Q : List V → Hp → Prop} {v : List Val} {S : Store} (e : Ext w w1) (h : PVs G w Q v S) : PVs G w1 Q v S := fun w' x e2 => h w' x (e.trans e2)
theorem sw_and (ha : PT X a (tT k W ia)) (hb : PW X (.BoolOp .And (b :: es) pos) (tT k W ib)) : PW X (.BoolOp .And (a :: b :: es) pos) (tT k W (.and ia ib)) := by
  refine (pw_and ha hb).imp fun σ H Q ⟨w, env, e0, ok, er, h⟩ => ?_
  subst e0
  refine stepT ok er h (fun _ _ z => z) (fun v S z => bl_of_and z) fun c w1 e1 o1 er1 hx1 h1 => ?_
  cases c with
  | true => exact iteT ⟨w1, env, rfl, o1, er1, R.post_mono h1 (fun v S q => q.ext e1) hx1⟩
  | false =>
    obtain ⟨d, e2, q⟩ := h1
    injection e2 with e2
    subst e2
    exact iteF (q w1 e1 rfl o1)
theorem sw_or (ha : PT X a (tT k W ia)) (hb : PW X (.BoolOp .Or (b :: es) pos) (tT k W ib)) : PW X (.BoolOp .Or (a :: b :: es) pos) (tT k W (.or ia ib)) := by
  refine (pw_or ha hb).imp fun σ H Q ⟨w, env, e0, ok, er, h⟩ => ?_
  subst e0
  refine stepT ok er h (fun _ _ z => z) (fun v S z => bl_of_or z) fun c w1 e1 o1 er1 hx1 h1 => ?_
  cases c with
  | false => exact iteF ⟨w1, env, rfl, o1, er1, R.post_mono h1 (fun v S q => q.ext e1) hx1⟩
  | true =>
    obtain ⟨d, e2, q⟩ := h1
    injection e2 with e2
    subst e2
    exact iteT (q w1 e1 rfl o1)
theorem sw_last1 (ha : PT X a (tT k W ia)) : PW X (.BoolOp .And [a] pos) (tT k W (.last ia)) := (pw_and1 ha).imp fun σ H Q h => h
theorem sw_last2 (ha : PT X a (tT k W ia)) : PW X (.BoolOp .Or [a] pos) (tT k W (.last ia)) := (pw_or1 ha).imp fun σ H Q h => h
theorem s_ite (hc : PT X c (tT k W ic)) (ha : PE X a (tE k W ia)) (hb : PE X b (tE k W ib)) : PE X (.IfExp c a b pos) (tE k W (.ite ic ia ib)) := by
  refine (pe_ifExp hc ha hb).imp fun σ H Q ⟨w, env, e0, ok, er, h⟩ => ?_
  subst e0
  refine stepT ok er h (fun _ _ z => z) (fun v S z => bl_of_ite z) fun d w1 e1 o1 er1 hx1 h1 => ?_
  cases d with
  | true => exact iteT ⟨w1, env, rfl, o1, er1, R.post_mono h1 (fun v S q => q.ext e1) hx1⟩
  | false => exact iteF ⟨w1, env, rfl, o1, er1, R.post_mono h1 (fun v S q => q.ext e1) hx1⟩
theorem s_nil : PA X [] (tAs k W .nil) := pa_nil.imp fun σ H Q ⟨w, env, e0, ok, er, h⟩ => by
  subst e0
  exact h w [] (Ext.refl w) rfl ok rfl
theorem s_cons (ha : PE X a (tE k W ia)) (hb : PA X es (tAs k W ib)) (hs : starEach (a :: es) X.env = (false, eval a X.env) :: starEach es X.env) : PA X (a :: es) (tAs k W (.cons ia ib)) := by
  refine (pa_cons ha hb hs).imp fun σ H Q ⟨w, env, e0, ok, er, h⟩ => ?_
  subst e0
  refine stepE ok er h (fun _ _ z => z) fun u w1 x e1 o1 r1 er1 hx1 h1 => ?_
  refine stepAs o1 er1 h1 hx1 fun v w2 y e2 o2 r2 er2 hx2 h2 => ?_
  exact h2 w2 (x :: y) (e1.trans e2) rfl o2 ⟨x, y, rfl, o1.rep e2 r1, r2⟩
theorem s_tup {x1 : Nat} (hl : es.length ≤ sizeLine) (hn : ∀ C env S vs S', evAs C ia env S = .ok vs S' → vs.length = es.length) (ha : PA X es (tAs k W ia)) : PE X (.Tuple es x1 pos) (tE k W (.tup ia)) := by
  refine (pe_tup ha).imp fun σ H Q ⟨w, env, e0, ok, er, h⟩ => ?_
  subst e0
  have h' : ((evAs k.C ia env w.S).bind fun vs S1 => R.ok (Val.tup vs) S1).post (PV k.G w Q) (XW k.G w W σ) := h
  refine ⟨w, env, rfl, ok, er, ?_⟩
  cases hq : evAs k.C ia env w.S with
  | stuck =>
    rw [hq] at h'
    exact h'.elim
  | exc x S =>
    rw [hq] at h'
    exact h'
  | ok vs S =>
    rw [hq] at h'
    intro w1 xs e1 eS o1 r1
    subst eS
    have hlen : xs.length ≤ sizeLine := by rw [r1.length, hn _ _ _ _ _ hq]; exact hl
    refine ⟨hlen, fun p hp => ?_⟩
    obtain ⟨e2, o2, r2⟩ := new_tup o1 hp r1 hlen
    exact h' ⟨w1.ρ, _, w1.S⟩ _ (e1.trans e2) rfl o2 r2
theorem s_lst {m : Bool} (hl : es.length ≤ sizeLine) (hn : ∀ C env S vs S', evAs C ia env S = .ok vs S' → vs.length = es.length) (ha : PA X es (tAs k W ia)) : PE X (.List es pos) (tE k W (.lst m ia)) := by
  refine (pe_lst ha).imp fun σ H Q ⟨w, env, e0, ok, er, h⟩ => ?_
  subst e0
  have h' : ((evAs k.C ia env w.S).bind fun vs S1 => alloc m vs S1).post (PV k.G w Q) (XW k.G w W σ) := h
  refine ⟨w, env, rfl, ok, er, ?_⟩
  cases hq : evAs k.C ia env w.S with
  | stuck =>
    rw [hq] at h'
    exact h'.elim
  | exc x S =>
    rw [hq] at h'
    exact h'
  | ok vs S =>
    rw [hq] at h'
    intro w1 xs e1 eS o1 r1
    subst eS
    have hlen : xs.length ≤ sizeLine := by rw [r1.length, hn _ _ _ _ _ hq]; exact hl
    exact ⟨hlen, fun p hp => new_any o1 e1 hp r1 hlen h'⟩
end
end Lt
set_option maxHeartbeats 4000000
namespace Lt
open PySem PySem.Spec PyProof.Rows L2
mutual
theorem shp_depth : ∀ (n : Nat) (v : Val), v.shp n = true → v.pd.canLay0 = true ∧ v.pd.depth ≤ n
  | n, .non, _ => ⟨by simp [Val.pd, PyData.canLay0], by simp [Val.pd, PyData.depth]⟩
  | n, .bl b, _ => ⟨by simp [Val.pd, PyData.canLay0], by simp [Val.pd, PyData.depth]⟩
  | n, .int i, _ => ⟨by simp [Val.pd, PyData.canLay0], by simp [Val.pd, PyData.depth]⟩
  | n, .str x, h => ⟨by cases n <;> exact h, by simp [Val.pd, PyData.depth]⟩
  | 0, .tup xs, h => by cases h
  | n + 1, .tup xs, h => by
    obtain ⟨h1, h2⟩ := shpAll_depth n xs h
    exact ⟨by simpa [Val.pd, PyData.canLay0] using h1, by simpa [Val.pd, PyData.depth] using h2⟩
  | 0, .lst xs, h => by cases h
  | n + 1, .lst xs, h => by
    obtain ⟨h1, h2⟩ := shpAll_depth n xs h
    exact ⟨by simpa [Val.pd, PyData.canLay0] using h1, by simpa [Val.pd, PyData.depth] using h2⟩
  | n, .flst l, h => by cases n <;> cases h
  | n, .loc l, h => by cases n <;> cases h
  | n, .fn l, h => by cases n <;> cases h
theorem shpAll_depth : ∀ (n : Nat) (v : List Val), Val.shpAll n v = true → PyData.canLayAll0 (Val.pdAll v) = true ∧ PyData.depthAll (Val.pdAll v) ≤ n
  | n, [], _ => ⟨by simp [Val.pdAll, PyData.canLayAll0], by simp [Val.pdAll, PyData.depthAll]⟩
  | n, x :: xs, h => by
    have h' : (x.shp n && Val.shpAll n xs) = true := by cases n <;> exact h
    rw [Bool.and_eq_true] at h'
    obtain ⟨h1, h2⟩ := shp_depth n x h'.1
    obtain ⟨h3, h4⟩ := shpAll_depth n xs h'.2
    refine ⟨by simp [Val.pdAll, PyData.canLayAll0, h1, h3], ?_⟩
    simp only [Val.pdAll, PyData.depthAll]
    omega
end
theorem shaped_of {n : Nat} {v : Val} (h : v.shp n = true) (hn : n ≤ 64) : SeqAt.shaped v.pd = true := by
  obtain ⟨h1, h2⟩ := shp_depth n v h
  unfold SeqAt.shaped
  rw [h1, Bool.true_and]
  exact decide_eq_true (Nat.le_trans h2 hn)
mutual
theorem eqv_pd : ∀ a b : Val, Val.eqv a b = PyData.eqv a.pd b.pd
  | .non, b => by cases b <;> simp [Val.eqv, Val.pd, PyData.eqv]
  | .bl x, b => by cases b <;> simp [Val.eqv, Val.pd, PyData.eqv]
  | .int x, b => by cases b <;> simp [Val.eqv, Val.pd, PyData.eqv]
  | .str x, b => by cases b <;> simp [Val.eqv, Val.pd, PyData.eqv]
  | .tup xs, .tup ys => by
    simp only [Val.eqv, Val.pd, PyData.eqv]
    exact eqv_pdAll xs ys
  | .tup xs, .non => by simp [Val.eqv, Val.pd, PyData.eqv]
  | .tup xs, .bl _ => by simp [Val.eqv, Val.pd, PyData.eqv]
  | .tup xs, .int _ => by simp [Val.eqv, Val.pd, PyData.eqv]
  | .tup xs, .str _ => by simp [Val.eqv, Val.pd, PyData.eqv]
  | .tup xs, .lst _ => by simp [Val.eqv, Val.pd, PyData.eqv]
  | .tup xs, .flst _ => by simp [Val.eqv, Val.pd, PyData.eqv]
  | .tup xs, .loc _ => by simp [Val.eqv, Val.pd, PyData.eqv]
  | .tup xs, .fn _ => by simp [Val.eqv, Val.pd, PyData.eqv]
  | .lst xs, .lst ys => by
    simp only [Val.eqv, Val.pd, PyData.eqv]
    exact eqv_pdAll xs ys
  | .lst xs, .non => by simp [Val.eqv, Val.pd, PyData.eqv]
  | .lst xs, .bl _ => by simp [Val.eqv, Val.pd, PyData.eqv]
  | .lst xs, .int _ => by simp [Val.eqv, Val.pd, PyData.eqv]
  | .lst xs, .str _ => by simp [Val.eqv, Val.pd, PyData.eqv]
  | .lst xs, .tup _ => by simp [Val.eqv, Val.pd, PyData.eqv]
  | .lst xs, .flst _ => by simp [Val.eqv, Val.pd, PyData.eqv]
  | .lst xs, .loc _ => by simp [Val.eqv, Val.pd, PyData.eqv]
  | .lst xs, .fn _ => by simp [Val.eqv, Val.pd, PyData.eqv]
  | .flst _, b => by cases b <;> simp [Val.eqv, Val.pd, PyData.eqv]
  | .loc _, b => by cases b <;> simp [Val.eqv, Val.pd, PyData.eqv]
  | .fn _, b => by cases b <;> simp [Val.eqv, Val.pd, PyData.eqv]
theorem eqv_pdAll : ∀ a b : List Val, Val.eqvAll a b = PyData.eqvAll (Val.pdAll a) (Val.pdAll b)
  | [], [] => by simp [Val.eqvAll, Val.pdAll, PyData.eqvAll]
  | [], _ :: _ => by simp [Val.eqvAll, Val.pdAll, PyData.eqvAll]
  | _ :: _, [] => by simp [Val.eqvAll, Val.pdAll, PyData.eqvAll]
  | x :: xs, y :: ys => by
    simp only [Val.eqvAll, Val.pdAll, PyData.eqvAll]
    rw [eqv_pd x y, eqv_pdAll xs ys]
end
mutual
theorem dp_of {G : Gx} {ρ : List Addr} {H : Hp} : ∀ (n : Nat) (v : Val) {x : V}, v.shp n = true → Rep G ρ H v x → Dp G.K H x v.pd
  | n, .non, x, _, r => by
    have e : x = .non := r
    rw [e]; exact .non
  | n, .bl b, x, _, r => by
    have e : x = .bl b := r
    rw [e]; exact .bl b
  | n, .int b, x, _, r => by
    have e : x = .int b := r
    rw [e]; exact .int b
  | n, .str b, x, _, r => by
    have e : x = .str b := r
    rw [e]; exact .str b
  | 0, .tup xs, x, h, r => by cases h
  | n + 1, .tup xs, x, h, r => by
    obtain ⟨a, vs, rfl, h1, _, h2⟩ := r
    exact .tup h1 (dpAll_of n xs h h2)
  | 0, .lst xs, x, h, r => by cases h
  | n + 1, .lst xs, x, h, r => by
    obtain ⟨a, vs, rfl, h1, _, _, h2⟩ := r
    exact .lst (.of h1) (dpAll_of n xs h h2)
  | n, .flst l, x, h, r => by cases n <;> cases h
  | n, .loc l, x, h, r => by cases n <;> cases h
  | n, .fn l, x, h, r => by cases n <;> cases h
theorem dpAll_of {G : Gx} {ρ : List Addr} {H : Hp} : ∀ (n : Nat) (v : List Val) {x : List V}, Val.shpAll n v = true → RepAll G ρ H v x → DpAll G.K H x (Val.pdAll v)
  | n, [], x, _, r => by
    have e : x = [] := r
    rw [e]; exact .nil
  | n, y :: ys, x, h, r => by
    have h' : (y.shp n && Val.shpAll n ys) = true := by cases n <;> exact h
    rw [Bool.and_eq_true] at h'
    obtain ⟨v, u, rfl, rv, ru⟩ := r
    exact .cons (dp_of n y h'.1 rv) (dpAll_of n ys h'.2 ru)
end
section
variable {k : Kx} {X : Cx} {W : WX} {a b c e : Expr} {ia ib ic ie : IE} {pos : Pos} {es : List Expr} {w : Wd}
theorem dp_rd {n : Nat} {v : Val} {x : V} (ok : w.Ok k.G) (r : Rep k.G w.ρ w.H v x) (h : (rd w.S v).shp n = true) : Dp k.G.K w.H x (rd w.S v).pd := by
  cases hr : rd w.S v with
  | lst xs =>
    rw [hr] at h
    obtain ⟨a, vs, rfl, h1, _, h2⟩ := rd_lst ok r hr
    cases n with
    | zero => cases h
    | succ n => exact .lst h1 (dpAll_of n xs h h2)
  | tup xs =>
    have e := rd_tup hr
    subst e
    rw [hr] at h
    exact dp_of n _ h r
  | flst l => rw [hr] at h; cases n <;> cases h
  | loc l => rw [hr] at h; cases n <;> cases h
  | fn l => rw [hr] at h; cases n <;> cases h
  | non =>
    have e := rd_data hr rfl
    subst e
    exact dp_of n _ (by rw [hr] at h; exact h) r
  | bl b =>
    have e := rd_data hr rfl
    subst e
    exact dp_of n _ (by rw [hr] at h; exact h) r
  | int i =>
    have e := rd_data hr rfl
    subst e
    exact dp_of n _ (by rw [hr] at h; exact h) r
  | str z =>
    have e := rd_data hr rfl
    subst e
    exact dp_of n _ (by rw [hr] at h; exact h) r
def vOf : Val → V
  | .non => .non
  | .bl b => .bl b
  | .int i => .int i
  | .str x => .str x
  | _ => .non
theorem flat_v {ρ : List Addr} {H : Hp} {v : Val} {x : V} (h : v.flat = true) (r : Rep k.G ρ H v x) : x = vOf v ∧ flatV x = true := by
  cases v <;> first
    | (cases h; done)
    | (have e : x = _ := r; subst e; exact ⟨rfl, rfl⟩)
theorem flat_all {ρ : List Addr} {H : Hp} : ∀ {vs : List Val} {xs : List V}, vs.all Val.flat = true → RepAll k.G ρ H vs xs → xs = vs.map vOf ∧ xs.all flatV = true
  | [], xs, _, r => by
    have e : xs = [] := r
    rw [e]; exact ⟨rfl, rfl⟩
  | v :: vs, xs, h, r => by
    obtain ⟨x, u, rfl, rx, ru⟩ := r
    rw [List.all_cons, Bool.and_eq_true] at h
    obtain ⟨e1, f1⟩ := flat_v h.1 rx
    obtain ⟨e2, f2⟩ := flat_all h.2 ru
    exact ⟨by rw [List.map_cons, ← e1, ← e2], by rw [List.all_cons, f1, f2]; rfl⟩
theorem eqV_of {u v : Val} (hu : u.flat = true) (hv : v.flat = true) : eqV (vOf u) (vOf v) = Val.eqv u v := by
  cases u <;> first
    | (cases hu; done)
    | (cases v <;> first
        | (cases hv; done)
        | simp [vOf, eqV, Val.eqv])
theorem inV_of {v : Val} (hv : v.flat = true) : ∀ {ys : List Val}, ys.all Val.flat = true → inV (vOf v) (ys.map vOf) = ys.any fun y => Val.eqv y v
  | [], _ => rfl
  | y :: ys, h => by
    rw [List.all_cons, Bool.and_eq_true] at h
    show (eqV (vOf y) (vOf v) || inV (vOf v) (ys.map vOf)) = (Val.eqv y v || ys.any fun y => Val.eqv y v)
    rw [eqV_of h.1 hv, inV_of hv h.2]
/-- comparisons by values -/
def CmpOk (k : Kx) (X : Cx) (o : CmpOp) : Prop := ∃ r : R2, OpR X (compareOp o) r ∧ ∀ (w : Wd) (u v : Val) (b : Bool) (x y : V) (Q : VK), w.Ok k.G → Rep k.G w.ρ w.H u x → Rep k.G w.ρ w.H v y → cmpV o (rd w.S u) (rd w.S v) = some b →
  Q (.bl b) w.H → r x y w.H Q
theorem mem_rep (S : Sx k X) {neg : Bool} {w : Wd} {u v : Val} {ys : List Val} {b : Bool} {x y : V} {Q : VK} (ok : w.Ok k.G) (ru : Rep k.G w.ρ w.H u x) (rv : Rep k.G w.ρ w.H v y) (hv : rd w.S v = .tup ys ∨ rd w.S v = .lst ys)
    (h : memV (rd w.S u) ys = some b) (q : Q (.bl (if neg then !b else b)) w.H) : rIn X.K neg x y w.H Q := by
  unfold memV at h
  by_cases hf : ((rd w.S u).flat && ys.all Val.flat) = true
  · rw [if_pos hf] at h
    rw [Bool.and_eq_true] at hf
    injection h with h
    have e := rd_data (w := w) rfl hf.1
    rw [← e] at hf h
    obtain ⟨ex, fx⟩ := flat_v hf.1 ru
    have main : ∀ (p : Addr) (vs : List V), y = .ref p → (SqL X.K w.H p vs ∨ SqT X.K w.H p vs) → RepAll k.G w.ρ w.H ys vs → rIn X.K neg x y w.H Q := fun p vs ey hs ra => by
      obtain ⟨e2, f2⟩ := flat_all hf.2 ra
      refine ⟨p, vs, ey, hs, fx, f2, ?_⟩
      rw [ex, e2, inV_of hf.1 hf.2, h]
      exact q
    rcases hv with hv | hv
    · have e2 := rd_tup hv
      subst e2
      obtain ⟨p, vs, ey, h1, _, h2⟩ := rv
      exact main p vs ey (.inr (by rw [S.hK]; exact h1)) h2
    · obtain ⟨p, vs, ey, h1, _, h2⟩ := rd_lst ok rv hv
      exact main p vs ey (.inl (by rw [S.hK]; exact h1)) h2
  · rw [if_neg hf] at h
    cases h
theorem int_rd {u : Val} {x : V} {i : Int} (ru : Rep k.G w.ρ w.H u x) (h : rd w.S u = .int i) : x = .int i := by
  have e := rd_data h rfl
  subst e
  exact ru
theorem isNon_rep {u : Val} {x : V} (ru : Rep k.G w.ρ w.H u x) : decide (x = V.non) = isNon (rd w.S u) := by
  cases u with
  | non => rw [show x = V.non from ru]; rfl
  | bl z => rw [show x = V.bl z from ru]; rfl
  | int z => rw [show x = V.int z from ru]; rfl
  | str z => rw [show x = V.str z from ru]; rfl
  | tup xs => obtain ⟨p, _, rfl, _⟩ := ru; rfl
  | lst xs => obtain ⟨p, _, rfl, _⟩ := ru; rfl
  | flst xs => obtain ⟨p, _, rfl, _⟩ := ru; rfl
  | fn xs => obtain ⟨p, _, rfl⟩ := ru; rfl
  | loc l =>
    obtain ⟨p, _, rfl⟩ := ru
    rw [rd_loc]
    cases w.S[l]? with
    | none => rfl
    | some o => cases o <;> rfl
def cmpGood (o : CmpOp) : Bool := match o with
  | .Eq => true | .NotEq => true | .Lt => true | .LtE => true | .Gt => true | .GtE => true | .In => true | .NotIn => true | .Is => true | .IsNot => true
theorem cmpOk (S : Sx k X) (o : CmpOp) : CmpOk k X o := by
  cases o with
  | Eq =>
    refine ⟨_, op_eqD S.room.units, fun w u v b x y Q ok ru rv h q => ?_⟩
    have h' : (if (rd w.S u).shp 40 && (rd w.S v).shp 40 then some (Val.eqv (rd w.S u) (rd w.S v)) else none) = some b := h
    by_cases hs : ((rd w.S u).shp 40 && (rd w.S v).shp 40) = true
    · rw [if_pos hs] at h'
      rw [Bool.and_eq_true] at hs
      injection h' with h'
      refine ⟨_, _, by rw [S.hK]; exact dp_rd ok ru hs.1, by rw [S.hK]; exact dp_rd ok rv hs.2, shaped_of hs.1 (by decide), shaped_of hs.2 (by decide), ?_⟩
      rw [← eqv_pd, h']
      exact q
    · rw [if_neg hs] at h'
      cases h'
  | NotEq =>
    refine ⟨_, op_neD S.room.units, fun w u v b x y Q ok ru rv h q => ?_⟩
    have h' : (if (rd w.S u).shp 40 && (rd w.S v).shp 40 then some (!Val.eqv (rd w.S u) (rd w.S v)) else none) = some b := h
    by_cases hs : ((rd w.S u).shp 40 && (rd w.S v).shp 40) = true
    · rw [if_pos hs] at h'
      rw [Bool.and_eq_true] at hs
      injection h' with h'
      refine ⟨_, _, by rw [S.hK]; exact dp_rd ok ru hs.1, by rw [S.hK]; exact dp_rd ok rv hs.2, shaped_of hs.1 (by decide), shaped_of hs.2 (by decide), ?_⟩
      rw [← eqv_pd, h']
      exact q
    · rw [if_neg hs] at h'
      cases h'
  | Lt =>
    refine ⟨_, op_lt, fun w u v b x y Q ok ru rv h q => ?_⟩
    cases hu : rd w.S u <;> cases hv : rd w.S v <;> (rw [hu, hv] at h) <;> first
      | (cases (show (none : Option Bool) = some b from h); done)
      | (rename_i i j
         have h' : some (decide (i < j)) = some b := h
         injection h' with h'
         exact ⟨i, j, int_rd ru hu, int_rd rv hv, by subst h'; exact q⟩)
  | LtE =>
    refine ⟨_, op_le, fun w u v b x y Q ok ru rv h q => ?_⟩
    cases hu : rd w.S u <;> cases hv : rd w.S v <;> (rw [hu, hv] at h) <;> first
      | (cases (show (none : Option Bool) = some b from h); done)
      | (rename_i i j
         have h' : some (decide (i ≤ j)) = some b := h
         injection h' with h'
         exact ⟨i, j, int_rd ru hu, int_rd rv hv, by subst h'; exact q⟩)
  | Gt =>
    refine ⟨_, op_gt, fun w u v b x y Q ok ru rv h q => ?_⟩
    cases hu : rd w.S u <;> cases hv : rd w.S v <;> (rw [hu, hv] at h) <;> first
      | (cases (show (none : Option Bool) = some b from h); done)
      | (rename_i i j
         have h' : some (decide (j < i)) = some b := h
         injection h' with h'
         exact ⟨i, j, int_rd ru hu, int_rd rv hv, by subst h'; exact q⟩)
  | GtE =>
    refine ⟨_, op_ge, fun w u v b x y Q ok ru rv h q => ?_⟩
    cases hu : rd w.S u <;> cases hv : rd w.S v <;> (rw [hu, hv] at h) <;> first
      | (cases (show (none : Option Bool) = some b from h); done)
      | (rename_i i j
         have h' : some (decide (j ≤ i)) = some b := h
         injection h' with h'
         exact ⟨i, j, int_rd ru hu, int_rd rv hv, by subst h'; exact q⟩)
  | In =>
    refine ⟨_, op_in_seq, fun w u v b x y Q ok ru rv h q => ?_⟩
    cases hv : rd w.S v <;> (rw [hv] at h) <;> first
      | (cases (show (none : Option Bool) = some b from h); done)
      | skip
    · exact mem_rep S ok ru rv (.inl hv) h q
    · exact mem_rep S ok ru rv (.inr hv) h q
  | NotIn =>
    refine ⟨_, op_notIn_seq, fun w u v b x y Q ok ru rv h q => ?_⟩
    cases hv : rd w.S v <;> (rw [hv] at h) <;> first
      | (cases (show (none : Option Bool) = some b from h); done)
      | skip
    · rename_i ys
      have h' : (memV (rd w.S u) ys).map (!·) = some b := h
      cases hm : memV (rd w.S u) ys with
      | none => rw [hm] at h'; cases h'
      | some d =>
        rw [hm] at h'
        have e : (!d) = b := by simpa using h'
        exact mem_rep S ok ru rv (.inl hv) hm (by rw [if_pos rfl, e]; exact q)
    · rename_i ys
      have h' : (memV (rd w.S u) ys).map (!·) = some b := h
      cases hm : memV (rd w.S u) ys with
      | none => rw [hm] at h'; cases h'
      | some d =>
        rw [hm] at h'
        have e : (!d) = b := by simpa using h'
        exact mem_rep S ok ru rv (.inr hv) hm (by rw [if_pos rfl, e]; exact q)
  | Is =>
    refine ⟨_, op_isN, fun w u v b x y Q ok ru rv h q => ?_⟩
    cases hv : rd w.S v <;> (rw [hv] at h) <;> first
      | (cases (show (none : Option Bool) = some b from h); done)
      | skip
    have e := rd_data hv rfl
    subst e
    have h' : some (isNon (rd w.S u)) = some b := h
    injection h' with h'
    refine ⟨rv, ?_⟩
    rw [isNon_rep ru, h']
    exact q
  | IsNot =>
    refine ⟨_, op_notN, fun w u v b x y Q ok ru rv h q => ?_⟩
    cases hv : rd w.S v <;> (rw [hv] at h) <;> first
      | (cases (show (none : Option Bool) = some b from h); done)
      | skip
    have e := rd_data hv rfl
    subst e
    have h' : some (!isNon (rd w.S u)) = some b := h
    injection h' with h'
    refine ⟨rv, ?_⟩
    rw [isNon_rep ru, h']
    exact q
theorem s_cmp (S : Sx k X) {o : CmpOp} (hm : behindInMarks o b = false) (ha : PE X a (tE k W ia)) (hb : PE X b (tE k W ib)) : PE X (.Compare a [o] [b] pos) (tE k W (.cmp o ia ib)) := by
  obtain ⟨r, hr, hq⟩ := cmpOk S o
  refine (pe_cmpR hr ha hb hm).imp fun σ H Q ⟨w, env, e0, ok, er, h⟩ => ?_
  subst e0
  refine stepE ok er h (fun _ _ z => z) fun u w1 x e1 o1 r1 er1 hx1 h1 => ?_
  refine stepE o1 er1 h1 hx1 fun v w2 y e2 o2 r2 er2 hx2 h2 => ?_
  obtain ⟨z, hz, q⟩ := of_post h2
  cases hc : cmpV o (rd w2.S u) (rd w2.S v) with
  | none => rw [hc] at hz; cases hz
  | some d =>
    rw [hc] at hz
    injection hz with hz
    subst hz
    exact hq w2 u v d x y Q o2 (o1.rep e2 r1) r2 hc (q w2 _ (e1.trans e2) rfl o2 rfl)
theorem st_cmp (S : Sx k X) {o : CmpOp} (hm : behindInMarks o b = false) (ha : PE X a (tE k W ia)) (hb : PE X b (tE k W ib)) : PT X (.Compare a [o] [b] pos) (tT k W (.cmp o ia ib)) := by
  obtain ⟨r, hr, hq⟩ := cmpOk S o
  refine (pt_cmpR hr ha hb hm).imp fun σ H Q ⟨w, env, e0, ok, er, h⟩ => ?_
  subst e0
  refine stepE ok er h (fun _ _ z => z) fun u w1 x e1 o1 r1 er1 hx1 h1 => ?_
  refine stepE o1 er1 h1 hx1 fun v w2 y e2 o2 r2 er2 hx2 h2 => ?_
  obtain ⟨z, hz, d', ed, q⟩ := of_post' h2
  subst ed
  cases hc : cmpV o (rd w2.S u) (rd w2.S v) with
  | none => rw [hc] at hz; cases hz
  | some d =>
    rw [hc] at hz
    have e : d = d' := by simpa using hz
    subst e
    exact hq w2 u v d x y _ o2 (o1.rep e2 r1) r2 hc ⟨d, rfl, q w2 (e1.trans e2) rfl o2⟩
theorem chain_read (S : Sx k X) {o o' : CmpOp} {r r' : R2} (hq : ∀ (w : Wd) (u v : Val) (b : Bool) (x y : V) (Q : VK), w.Ok k.G → Rep k.G w.ρ w.H u x → Rep k.G w.ρ w.H v y → cmpV o (rd w.S u) (rd w.S v) = some b → Q (.bl b) w.H → r x y w.H Q)
    (hq' : ∀ (w : Wd) (u v : Val) (b : Bool) (x y : V) (Q : VK), w.Ok k.G → Rep k.G w.ρ w.H u x → Rep k.G w.ρ w.H v y → cmpV o' (rd w.S u) (rd w.S v) = some b → Q (.bl b) w.H → r' x y w.H Q)
    {σ : L2.St} {env : Env} {w : Wd} {Q : VK} {P : Val → Store → Prop} (ok : w.Ok k.G) (er : EnvR k.G w env σ) (h : (evE k.C (.chain o o' ia ib ic) env w.S).post P (XW k.G w W σ))
    (hP : ∀ b w', Ext w w' → w'.Ok k.G → P (.bl b) w'.S → Q (.bl b) w'.H) : tChain r r' (tE k W ia) (tE k W ib) (tE k W ic) σ w.H Q := by
  refine stepE ok er h (fun _ _ z => z) fun u w1 x e1 o1 r1 er1 hx1 h1 => ?_
  refine stepE o1 er1 h1 hx1 fun v w2 y e2 o2 r2 er2 hx2 h2 => ?_
  cases hc : cmpV o (rd w2.S u) (rd w2.S v) with
  | none => rw [hc] at h2; exact h2.elim
  | some d =>
    rw [hc] at h2
    refine hq w2 u v d x y _ o2 (o1.rep e2 r1) r2 hc ⟨d, rfl, ?_⟩
    cases d with
    | false => exact iteF (hP false w2 (e1.trans e2) o2 h2)
    | true =>
      refine iteT (stepE o2 er2 h2 hx2 fun v' w3 z e3 o3 r3 er3 hx3 h3 => ?_)
      obtain ⟨z', hz, q⟩ := of_post' h3
      cases hc' : cmpV o' (rd w3.S v) (rd w3.S v') with
      | none => rw [hc'] at hz; cases hz
      | some d' =>
        rw [hc'] at hz
        injection hz with hz
        subst hz
        exact hq' w3 v v' d' y z Q o3 (o2.rep e3 r2) r3 hc' (hP d' w3 ((e1.trans e2).trans e3) o3 q)
theorem s_chain (S : Sx k X) {o o' : CmpOp} (hm : lastMarks [o, o'] [b, c] = false) (ha : PE X a (tE k W ia)) (hb : PE X b (tE k W ib)) (hc : PE X c (tE k W ic)) : PE X (.Compare a [o, o'] [b, c] pos) (tE k W (.chain o o' ia ib ic)) := by
  obtain ⟨r, hr, hq⟩ := cmpOk S o
  obtain ⟨r', hr', hq'⟩ := cmpOk S o'
  refine (pe_chain hr hr' ha hb hc hm).imp fun σ H Q ⟨w, env, e0, ok, er, h⟩ => ?_
  subst e0
  exact chain_read S hq hq' ok er h fun d w' e1 o1 q => q w' _ e1 rfl o1 rfl
theorem st_chain (S : Sx k X) {o o' : CmpOp} (hm : lastMarks [o, o'] [b, c] = false) (ha : PE X a (tE k W ia)) (hb : PE X b (tE k W ib)) (hc : PE X c (tE k W ic)) : PT X (.Compare a [o, o'] [b, c] pos) (tT k W (.chain o o' ia ib ic)) := by
  obtain ⟨r, hr, hq⟩ := cmpOk S o
  obtain ⟨r', hr', hq'⟩ := cmpOk S o'
  refine (pt_chain hr hr' ha hb hc hm).imp fun σ H Q ⟨w, env, e0, ok, er, h⟩ => ?_
  subst e0
  refine chain_read S hq hq' ok er h fun d w' e1 o1 q => ?_
  obtain ⟨d', ed, q⟩ := q
  injection ed with ed
  subst ed
  exact ⟨d, rfl, q w' e1 rfl o1⟩
end
end Lt
set_option maxHeartbeats 4000000
namespace Lt
open PySem PySem.Spec PyProof.Rows L2
section
variable {k : Kx} {X : Cx} {W : WX} {a b c e o : Expr} {ia ib ic ie io : IE} {pos p apos : Pos} {es : List Expr} {w : Wd} {x m : Str}
theorem atI_rep {ρ : List Addr} {H : Hp} {xs : List Val} {vs : List V} {i : Int} {z : Val} (r : RepAll k.G ρ H xs vs) (h : atI xs i = some z) : ∃ v, atI vs i = some v ∧ Rep k.G ρ H z v := by
  unfold atI at h ⊢
  rw [r.length]
  cases hj : ixN xs.length i with
  | none => rw [hj] at h; cases h
  | some j =>
    rw [hj] at h
    obtain ⟨v, h1, h2⟩ := r.get (i := j) (x := z) h
    exact ⟨v, h1, h2⟩
theorem s_ix (S : Sx k X) (hs : PlainIx b) (ha : PE X a (tE k W ia)) (hb : PE X b (tE k W ib)) : PE X (.Subscript a b pos) (tE k W (.ix ia ib)) := by
  refine (pe_ix (ix_list.or ix_tup) ha hb hs).imp fun σ H Q ⟨w, env, e0, ok, er, h⟩ => ?_
  subst e0
  refine stepE ok er h (fun _ _ z => z) fun u w1 x e1 o1 r1 er1 hx1 h1 => ?_
  refine stepE o1 er1 h1 hx1 fun v w2 y e2 o2 r2 er2 hx2 h2 => ?_
  obtain ⟨z, hz, q⟩ := of_post h2
  have r1' := o1.rep e2 r1
  unfold ixV at hz
  cases hr : rd w2.S u <;> (rw [hr] at hz) <;> first
    | (cases v <;> cases hz; done)
    | skip
  · cases v <;> first
      | (cases hz; done)
      | skip
    rename_i xs i
    have e := rd_tup hr
    subst e
    obtain ⟨p, vs, rfl, h3, _, h4⟩ := r1'
    obtain ⟨t, h5, h6⟩ := atI_rep h4 hz
    exact .inr ⟨p, vs, i, t, rfl, r2, by rw [S.hK]; exact h3, h5, q w2 t (e1.trans e2) rfl o2 h6⟩
  · cases v <;> first
      | (cases hz; done)
      | skip
    rename_i xs i
    obtain ⟨p, vs, rfl, h3, _, h4⟩ := rd_lst o2 r1' hr
    obtain ⟨t, h5, h6⟩ := atI_rep h4 hz
    exact .inl ⟨p, vs, i, t, rfl, r2, by rw [S.hK]; exact h3, h5, q w2 t (e1.trans e2) rfl o2 h6⟩
def tP (k : Kx) (W : WX) (i : IE) : TO := fun σ H Q => ∃ w env, w.H = H ∧ w.Ok k.G ∧ EnvR k.G w env σ ∧ (evE k.C i env w.S).post (fun v S => ∃ o, partV i v = some o ∧ ∀ w', Ext w w' → w'.S = S → w'.Ok k.G → Q o w'.H) (XW k.G w W σ)
theorem _root_.L2.PO.imp {X : Cx} {e : Option Expr} {t t' : TO} (h : PO X e t) (i : ∀ σ H Q, t' σ H Q → t σ H Q) : PO X e t' := ⟨fun pins s σ H Q I q => h.run pins s σ H Q I (i σ H Q q)⟩
theorem sp_none : PO X none (tP k W .omit) := po_none.imp fun σ H Q ⟨w, env, e0, ok, er, h⟩ => by
  subst e0
  obtain ⟨o, ho, q⟩ := h
  have e : none = o := Option.some.inj ho
  subst e
  exact q w (Ext.refl w) rfl ok
theorem sp_some (hi : ∀ v o, partV ia v = some o → ∃ i, v = .int i ∧ o = some i) (ha : PE X a (tE k W ia)) : PO X (some a) (tP k W ia) := by
  refine (po_some ha).imp fun σ H Q ⟨w, env, e0, ok, er, h⟩ => ?_
  subst e0
  refine ⟨w, env, rfl, ok, er, R.post_mono h (fun v S ⟨o, ho, q⟩ w' x e1 eS o1 r1 => ?_) fun _ _ z => z⟩
  obtain ⟨i, rfl, rfl⟩ := hi v o ho
  exact ⟨i, r1, q w' e1 eS o1⟩
theorem cut_rep {ρ : List Addr} {H : Hp} {xs : List Val} {vs : List V} {lo hi : Option Int} (r : RepAll k.G ρ H xs vs) : RepAll k.G ρ H (cut xs lo hi) (cutV vs lo hi) := by
  unfold cut cutV
  rw [r.length]
  exact (r.drop _).take _
theorem stepP {β : Type} {P : β → Store → Prop} {E0 : Exc → Store → Prop} {env : Env} {σ : L2.St} (ok : w.Ok k.G) (he : EnvR k.G w env σ) {f : Val → Store → R β} (h : ((evE k.C ia env w.S).bind f).post P E0) (hx : ∀ x S, E0 x S → XW k.G w W σ x S)
    (hf : ∀ v S, (f v S).post P E0 → ∃ o, partV ia v = some o) {Q : Option Int → Hp → Prop}
    (q : ∀ v o w1, partV ia v = some o → Ext w w1 → w1.Ok k.G → EnvR k.G w1 env σ → (∀ x S, E0 x S → XW k.G w1 W σ x S) → (f v w1.S).post P E0 → Q o w1.H) : tP k W ia σ w.H Q := by
  refine ⟨w, env, rfl, ok, he, R.post_mono (R.post_bind h) (fun v S z => ?_) hx⟩
  obtain ⟨o, ho⟩ := hf v S z
  refine ⟨o, ho, fun w1 e1 eS o1 => ?_⟩
  subst eS
  exact q v o w1 ho e1 o1 (he.mono ok e1) (fun y S hy => (hx y S hy).mono e1) z
theorem post_of_bind {α β : Type} {r : R α} {f : α → Store → R β} {P : β → Store → Prop} {E0 : Exc → Store → Prop} (h : (r.bind f).post P E0) : (∃ a S, r = .ok a S ∧ (f a S).post P E0) ∨ ∃ x S, r = .exc x S := by
  cases r with
  | ok a S => exact .inl ⟨a, S, rfl, h⟩
  | exc x S => exact .inr ⟨x, S, rfl⟩
  | stuck => exact h.elim
theorem slc_rep (S : Sx k X) {u z : Val} {x : V} {lo hi : Option Int} {Q : VK} (ok : w.Ok k.G) (r1 : Rep k.G w.ρ w.H u x) (hz : slcV w.S u lo hi = some z) (q : ∀ w' v, Ext w w' → w'.S = w.S → w'.Ok k.G → Rep k.G w'.ρ w'.H z v → Q v w'.H) :
    rSlL X.K x lo hi w.H Q ∨ rSlA X.K x lo hi w.H Q := by
  unfold slcV at hz
  cases hr : rd w.S u <;> (rw [hr] at hz) <;> first
    | (cases hz; done)
    | skip
  · rename_i xs
    injection hz with hz
    subst hz
    have e := rd_tup hr
    subst e
    obtain ⟨p, vs, rfl, h3, hl, h4⟩ := r1
    refine .inr ⟨p, vs, rfl, by rw [S.hK]; exact h3, fun hw => ?_, fun _ t ht => ?_⟩
    · refine q w _ (Ext.refl w) rfl ok ⟨p, vs, rfl, h3, hl, ?_⟩
      have e : cut xs lo hi = xs := by
        unfold cut
        rw [← h4.length, hw.1, hw.2, List.drop_zero, Nat.sub_zero, h4.length, List.take_length]
      rw [e]
      exact h4
    · obtain ⟨e1, o1, rr⟩ := new_tup ok ht (cut_rep (lo := lo) (hi := hi) h4) (Nat.le_trans (cutV_length _ _ _) hl)
      exact q ⟨w.ρ, _, w.S⟩ _ e1 rfl o1 rr
  · rename_i xs
    injection hz with hz
    subst hz
    obtain ⟨p, vs, rfl, h3, hl, h4⟩ := rd_lst ok r1 hr
    refine .inl ⟨p, vs, rfl, by rw [S.hK]; exact h3, fun t ht => ?_⟩
    obtain ⟨e1, o1, rr⟩ := new_lst ok ht (cut_rep (lo := lo) (hi := hi) h4) (Nat.le_trans (cutV_length _ _ _) hl)
    exact q ⟨w.ρ, _, w.S⟩ _ e1 rfl o1 rr
theorem s_slc (S : Sx k X) {lo hi : Option Expr} {p2 : Pos} (ha : PE X a (tE k W ia)) (hb : PO X lo (tP k W ib)) (hc : PO X hi (tP k W ic)) : PE X (.Subscript a (.Slice lo hi none p2) pos) (tE k W (.slc ia ib ic)) := by
  refine (pe_slice (sl_list.or sl_tupA) ha hb hc).imp fun σ H Q ⟨w, env, e0, ok, er, h⟩ => ?_
  subst e0
  refine stepE ok er h (fun _ _ z => z) fun u w1 x e1 o1 r1 er1 hx1 h1 => ?_
  refine stepP o1 er1 h1 hx1 (fun v S z => ?_) fun v o w2 ho e2 o2 er2 hx2 h2 => ?_
  · cases hp : partV ib v with
    | some o => exact ⟨o, rfl⟩
    | none => rw [hp] at z; exact z.elim
  · rw [ho] at h2
    refine stepP o2 er2 h2 hx2 (fun v S z => ?_) fun v' o' w3 ho' e3 o3 er3 hx3 h3 => ?_
    · cases hp : partV ic v with
      | some o => exact ⟨o, rfl⟩
      | none => rw [hp] at z; exact z.elim
    · rw [ho'] at h3
      obtain ⟨z, hz, q⟩ := of_post h3
      exact slc_rep S o3 (o2.rep e3 (o1.rep e2 r1)) hz fun w' v e4 eS o4 r4 => q w' v (((e1.trans e2).trans e3).trans e4) eS o4 r4
theorem XW.of_E {G : Gx} {w : Wd} {W : WX} {σ : L2.St} {ex : Exc} {S : Store} (h : XW G w W σ ex S) : XW G w (fun cls d _ H' => WE W σ cls d H') [] ex S := fun w' cls d e1 eS o1 r => h w' cls d e1 eS o1 r
theorem s_call (S : Sx k X) (tk : Takes X W) {j : Nat} {fi : FI} (hT : k.T[j]? = some fi) (hn : fi.name = x) (hcl : fi.cls = none) (hg : Gl X x) (hd : (x == ("__debug__" : Str)) = false) (ha : PA X (e :: es) (tAs k W ia))
    (he : starEach (e :: es) X.env = (false, eval e X.env) :: starEach es X.env) (hpl : (backTo pos (starEach es X.env)).any (·.1) = false) : PE X (.Call (.Name x p) (e :: es) [] pos) (tE k W (.call j ia)) := by
  obtain ⟨f, fd, hf, hk, hb, F, hm, _⟩ := S.fn j fi hT
  have F := F k.G.hid
  refine (pe_callSD F (S.room.mono (by omega)) hg (by rw [← hn]; exact hm hcl) hk hb .nil (fun σ => passAt tk σ) ha hd he hpl).imp fun σ H Q ⟨w, env, e0, ok, er, h⟩ => ?_
  subst e0
  refine stepAs ok er h (fun _ _ z => z) fun vs w1 xs e1 o1 r1 er1 hx1 h1 => ?_
  refine ⟨w1, vs, rfl, o1, by rw [List.append_nil]; exact r1, R.post_mono h1 (fun v S q => q.ext e1) fun y S z => (hx1 y S z).of_E⟩
theorem s_call0 (S : Sx k X) (tk : Takes X W) (wc : Wc W) {j : Nat} {fi : FI} (hT : k.T[j]? = some fi) (hn : fi.name = x) (hcl : fi.cls = none) (hg : Gl X x) (hd : (x == ("__debug__" : Str)) = false) : PE X (.Call (.Name x p) [] [] pos) (tE k W (.call j .nil)) := by
  obtain ⟨f, fd, hf, hk, hb, F, hm, _⟩ := S.fn j fi hT
  have F := F k.G.hid
  refine (pe_call0 (E := fun cls d H => W cls d [] H) F (S.room.mono (by omega)) hg (by rw [← hn]; exact hm hcl) hk hb .nil (passes_call tk fun cls d σ H z => wc cls d [] σ H z) hd).imp fun σ H Q ⟨w, env, e0, ok, er, h⟩ => ?_
  subst e0
  exact ⟨w, [], rfl, ok, rfl, R.post_mono h (fun v S q => q) fun y S z w' cls d e1 eS o1 r => wc cls d σ [] _ (z w' cls d e1 eS o1 r)⟩
theorem s_callv (S : Sx k X) (tk : Takes X W) (wc : Wc W) {i : Nat} (hN : X.N[i]? = some x) (hv : Vis X.env.scope x) (hd : (x == ("__debug__" : Str)) = false) (hcd : (x == ("__classdict__" : Str)) = false) (ha : PA X (e :: es) (tAs k W ia))
    (he : starEach (e :: es) X.env = (false, eval e X.env) :: starEach es X.env) (hpl : (backTo pos (starEach es X.env)).any (·.1) = false) : PE X (.Call (.Name x p) (e :: es) [] pos) (tE k W (.callv i ia)) := by
  refine ⟨fun pins s σ H Q I ⟨w, env, e0, ok, er, h⟩ => ?_⟩
  subst e0
  have h' : (match env[i]? with
    | some (some (.fn j)) => (evAs k.C ia env w.S).bind fun vs S1 => k.C j vs S1
    | _ => .stuck).post (PV k.G w Q) (XW k.G w W σ) := h
  cases hq : env[i]? with
  | none => rw [hq] at h'; exact h'.elim
  | some oo =>
    cases oo with
    | none => rw [hq] at h'; exact h'.elim
    | some v =>
      rw [hq] at h'
      cases v <;> first
        | exact False.elim h'
        | skip
      rename_i j
      obtain ⟨xv, hs, f, hf, rfl⟩ := er.2 i _ hq
      have h2 : ((evAs k.C ia env w.S).bind fun vs S1 => k.C j vs S1).post (PV k.G w Q) (XW k.G w W σ) := h'
      cases hT : k.T[j]? with
      | none =>
        obtain ⟨fi, hfi⟩ := S.fa j f hf
        rw [hfi] at hT
        cases hT
      | some fi =>
        obtain ⟨f', fd, hf', hk, hb, F, hm, _⟩ := S.fn j fi hT
        have F := F k.G.hid
        obtain rfl : f' = f := Option.some.inj (hf'.symm.trans hf)
        refine (pe_callL (E := fun cls d H => W cls d [] H) (i := i) (f := f') F (S.room.mono (by omega)) hN hv hk hb .nil (passes_call tk fun cls d σ H z => wc cls d [] σ H z) ha hd hcd he hpl).run pins s σ w.H Q I ⟨hs, ?_⟩
        refine stepAs ok er h2 (fun _ _ z => z) fun vs w1 xs e1 o1 r1 er1 hx1 h1 => ?_
        exact ⟨w1, vs, rfl, o1, by rw [List.append_nil]; exact r1, R.post_mono h1 (fun v S q => q.ext e1) fun y S z w' cls d e2 eS o2 r => wc cls d σ [] _ (hx1 y S z w' cls d e2 eS o2 r)⟩
end
end Lt
set_option maxHeartbeats 4000000
namespace Lt
open PySem PySem.Spec PyProof.Rows L2
section
variable {k : Kx} {X : Cx} {W : WX} {a b c e o : Expr} {ia ib ic ie io : IE} {pos p apos : Pos} {es : List Expr} {w : Wd} {x m : Str}
theorem intsOf_rep {ρ : List Addr} {H : Hp} : ∀ {xs : List Val} {vs : List V} {ns : List Int}, intsOf xs = some ns → RepAll k.G ρ H xs vs → vs = ns.map V.int
  | [], vs, ns, h, r => by
    have e : vs = [] := r
    have e2 : [] = ns := Option.some.inj h
    rw [e, ← e2]; rfl
  | y :: xs, vs, ns, h, r => by
    obtain ⟨v, u, rfl, rv, ru⟩ := r
    cases y <;> first
      | (cases h; done)
      | skip
    rename_i i
    have h' : (intsOf xs).map (i :: ·) = some ns := h
    cases hx : intsOf xs with
    | none => rw [hx] at h'; cases h'
    | some ms =>
      rw [hx] at h'
      have e : i :: ms = ns := Option.some.inj h'
      rw [← e, List.map_cons, intsOf_rep hx ru, show v = V.int i from rv]
theorem blsOf_rep {ρ : List Addr} {H : Hp} : ∀ {xs : List Val} {vs : List V} {ns : List Bool}, blsOf xs = some ns → RepAll k.G ρ H xs vs → vs = ns.map V.bl
  | [], vs, ns, h, r => by
    have e : vs = [] := r
    have e2 : [] = ns := Option.some.inj h
    rw [e, ← e2]; rfl
  | y :: xs, vs, ns, h, r => by
    obtain ⟨v, u, rfl, rv, ru⟩ := r
    cases y <;> first
      | (cases h; done)
      | skip
    rename_i i
    have h' : (blsOf xs).map (i :: ·) = some ns := h
    cases hx : blsOf xs with
    | none => rw [hx] at h'; cases h'
    | some ms =>
      rw [hx] at h'
      have e : i :: ms = ns := Option.some.inj h'
      rw [← e, List.map_cons, blsOf_rep hx ru, show v = V.bl i from rv]
theorem ints_rep {ρ : List Addr} {H : Hp} : ∀ {ns : List Int}, RepAll k.G ρ H (ns.map Val.int) (ns.map V.int)
  | [] => rfl
  | i :: ns => ⟨.int i, ns.map V.int, rfl, rfl, ints_rep⟩
theorem insI_perm (i : Int) : ∀ l : List Int, (insI i l).Perm (i :: l)
  | [] => .refl _
  | j :: r => by
    unfold insI
    split
    · exact .refl _
    · exact ((insI_perm i r).cons j).trans (.swap i j r)
theorem sortI_perm : ∀ l : List Int, (sortI l).Perm l
  | [] => .refl _
  | i :: r => (insI_perm i _).trans ((sortI_perm r).cons i)
theorem insI_up (i : Int) : ∀ l : List Int, l.Pairwise (· ≤ ·) → (insI i l).Pairwise (· ≤ ·)
  | [], _ => List.pairwise_singleton _ _
  | j :: r, h => by
    unfold insI
    obtain ⟨h1, h2⟩ := List.pairwise_cons.mp h
    split
    · rename_i c
      refine List.pairwise_cons.mpr ⟨fun y hy => ?_, h⟩
      rcases List.mem_cons.mp hy with rfl | hy
      · exact c
      · exact Int.le_trans c (h1 y hy)
    · rename_i c
      refine List.pairwise_cons.mpr ⟨fun y hy => ?_, insI_up i r h2⟩
      rcases List.mem_cons.mp ((insI_perm i r).mem_iff.mp hy) with rfl | hy
      · omega
      · exact h1 y hy
theorem sortI_up : ∀ l : List Int, (sortI l).Pairwise (· ≤ ·)
  | [] => List.Pairwise.nil
  | i :: r => insI_up i _ (sortI_up r)
theorem sorted_one : ∀ {l m : List Int}, l.Perm m → l.Pairwise (· ≤ ·) → m.Pairwise (· ≤ ·) → l = m
  | [], m, p, _, _ => (List.nil_perm.mp p).symm
  | a :: l, [], p, _, _ => absurd p.symm (fun q => by cases (List.nil_perm.mp q))
  | a :: l, b :: m, p, h1, h2 => by
    obtain ⟨a1, a2⟩ := List.pairwise_cons.mp h1
    obtain ⟨b1, b2⟩ := List.pairwise_cons.mp h2
    have e : a = b := by
      have hb : b ∈ a :: l := p.symm.mem_iff.mp List.mem_cons_self
      have ha : a ∈ b :: m := p.mem_iff.mp List.mem_cons_self
      have l1 : a ≤ b := by
        rcases List.mem_cons.mp hb with rfl | hb
        · exact Int.le_refl _
        · exact a1 b hb
      have l2 : b ≤ a := by
        rcases List.mem_cons.mp ha with rfl | ha
        · exact Int.le_refl _
        · exact b1 a ha
      omega
    subst e
    rw [sorted_one (List.Perm.cons_inv p) a2 b2]
theorem one_of {xs : List V} {v : Val} {ρ : List Addr} {H : Hp} (r : RepAll k.G ρ H [v] xs) : ∃ x, xs = [x] ∧ Rep k.G ρ H v x := by
  obtain ⟨x, u, rfl, rx, ru⟩ := r
  have e : u = [] := ru
  rw [e]
  exact ⟨x, rfl, rx⟩
theorem two_of {xs : List V} {v v' : Val} {ρ : List Addr} {H : Hp} (r : RepAll k.G ρ H [v, v'] xs) : ∃ x y, xs = [x, y] ∧ Rep k.G ρ H v x ∧ Rep k.G ρ H v' y := by
  obtain ⟨x, u, rfl, rx, ru⟩ := r
  obtain ⟨y, rfl, ry⟩ := one_of ru
  exact ⟨x, y, rfl, rx, ry⟩
/-- a built-in by values -/
def BltOk (k : Kx) (w0 w : Wd) (r : List V → Hp → VK → Prop) (bb : Blt) : Prop := ∀ (vs : List Val) (xs : List V) (Q : VK) (E0 : Exc → Store → Prop), Ext w0 w → w.Ok k.G → RepAll k.G w.ρ w.H vs xs → (bltV bb vs w.S).post (PV k.G w0 Q) E0 → r xs w.H Q
theorem s_bltB (bb : Blt) {id : String} {r : List V → Hp → VK → Prop} (hc : CallR X (.builtin id) r) (hr : ∀ w0 w, BltOk k w0 w r bb) (hg : Gl X x) (hm : X.mg x = none) (hv : bootBuiltins x = some (.builtin id)) (hn : x ≠ "__name__") (hd : (x == ("__debug__" : Str)) = false)
    (ha : PA X (e :: es) (tAs k W ia)) (he : starEach (e :: es) X.env = (false, eval e X.env) :: starEach es X.env) (hpl : (backTo pos (starEach es X.env)).any (·.1) = false) : PE X (.Call (.Name x p) (e :: es) [] pos) (tE k W (.blt bb ia)) := by
  refine (pe_callB hc hg hm hv ha hn hd he hpl).imp fun σ H Q ⟨w, env, e0, ok, er, h⟩ => ?_
  subst e0
  exact stepAs ok er h (fun _ _ z => z) fun vs w1 xs e1 o1 r1 er1 hx1 h1 => hr w w1 vs xs Q _ e1 o1 r1 h1
theorem s_bltT (bb : Blt) {id : String} {r : List V → Hp → VK → Prop} (hc : CallR X (.type id) r) (hr : ∀ w0 w, BltOk k w0 w r bb) (hg : Gl X x) (hm : X.mg x = none) (hv : bootBuiltins x = some (.type id)) (hn : x ≠ "__name__") (hd : (x == ("__debug__" : Str)) = false)
    (ha : PA X (e :: es) (tAs k W ia)) (he : starEach (e :: es) X.env = (false, eval e X.env) :: starEach es X.env) (hpl : (backTo pos (starEach es X.env)).any (·.1) = false) : PE X (.Call (.Name x p) (e :: es) [] pos) (tE k W (.blt bb ia)) := by
  refine (pe_callTy hc hg hm hv ha hn hd he hpl).imp fun σ H Q ⟨w, env, e0, ok, er, h⟩ => ?_
  subst e0
  exact stepAs ok er h (fun _ _ z => z) fun vs w1 xs e1 o1 r1 er1 hx1 h1 => hr w w1 vs xs Q _ e1 o1 r1 h1
theorem s_blt (S : Sx k X) (bb : Blt) (hx : bb.name = x) (hg : Gl X x) (hf : k.bf.contains x = true) (ha : PA X (e :: es) (tAs k W ia)) (he : starEach (e :: es) X.env = (false, eval e X.env) :: starEach es X.env)
    (hpl : (backTo pos (starEach es X.env)).any (·.1) = false) : PE X (.Call (.Name x p) (e :: es) [] pos) (tE k W (.blt bb ia)) := by
  have hm := S.bf x hf
  subst hx
  cases bb with
  | len =>
    refine s_bltB .len call_len_seq (fun w0 w vs xs Q E0 e1 o1 r1 h1 => ?_) hg hm (by decide +kernel) (by decide +kernel) (by decide +kernel) ha he hpl
    rcases vs with _ | ⟨v, _ | ⟨v2, vs⟩⟩ <;> first
      | exact False.elim h1
      | skip
    obtain ⟨x, rfl, rx⟩ := one_of r1
    have h2 : (match rd w.S v with
      | .tup xs => R.ok (Val.int xs.length) w.S
      | .lst xs => R.ok (Val.int xs.length) w.S
      | _ => .stuck).post (PV k.G w0 Q) E0 := h1
    cases hr : rd w.S v <;> (rw [hr] at h2) <;> first
      | exact False.elim h2
      | skip
    · rename_i xs
      have e := rd_tup hr
      subst e
      obtain ⟨p, ys, rfl, h3, _, h4⟩ := rx
      refine ⟨p, ys, rfl, .inr (by rw [S.hK]; exact h3), ?_⟩
      rw [h4.length]
      exact h2 w _ e1 rfl o1 rfl
    · rename_i xs
      obtain ⟨p, ys, rfl, h3, _, h4⟩ := rd_lst o1 rx hr
      refine ⟨p, ys, rfl, .inl (by rw [S.hK]; exact h3), ?_⟩
      rw [h4.length]
      exact h2 w _ e1 rfl o1 rfl
  | abs =>
    refine s_bltB .abs call_abs (fun w0 w vs xs Q E0 e1 o1 r1 h1 => ?_) hg hm (by decide +kernel) (by decide +kernel) (by decide +kernel) ha he hpl
    rcases vs with _ | ⟨v, _ | ⟨v2, vs⟩⟩ <;> (first | exact False.elim h1 | skip) <;> (cases v <;> first | exact False.elim h1 | skip)
    obtain ⟨x, rfl, rx⟩ := one_of r1
    rename_i i
    exact ⟨i, by rw [show x = V.int i from rx], h1 w _ e1 rfl o1 rfl⟩
  | int =>
    refine s_bltT .int call_int1 (fun w0 w vs xs Q E0 e1 o1 r1 h1 => ?_) hg hm (by decide +kernel) (by decide +kernel) (by decide +kernel) ha he hpl
    rcases vs with _ | ⟨v, _ | ⟨v2, vs⟩⟩ <;> (first | exact False.elim h1 | skip) <;> (cases v <;> first | exact False.elim h1 | skip)
    · obtain ⟨x, rfl, rx⟩ := one_of r1
      rename_i i
      exact .inr ⟨i, by rw [show x = V.bl i from rx], h1 w _ e1 rfl o1 rfl⟩
    · obtain ⟨x, rfl, rx⟩ := one_of r1
      rename_i i
      exact .inl ⟨i, by rw [show x = V.int i from rx], h1 w _ e1 rfl o1 rfl⟩
  | max2 =>
    refine s_bltB .max2 (call_max2 S.calm) (fun w0 w vs xs Q E0 e1 o1 r1 h1 => ?_) hg hm (by decide +kernel) (by decide +kernel) (by decide +kernel) ha he hpl
    rcases vs with _ | ⟨v, _ | ⟨v2, _ | ⟨v3, vs⟩⟩⟩ <;> (first | exact False.elim h1 | (cases v <;> first | exact False.elim h1 | skip)) <;> (first | (cases v2 <;> first | exact False.elim h1 | skip))
    obtain ⟨x, y, rfl, rx, ry⟩ := two_of r1
    rename_i i j
    exact ⟨i, j, by rw [show x = V.int i from rx, show y = V.int j from ry], h1 w _ e1 rfl o1 rfl⟩
  | min2 =>
    refine s_bltB .min2 (call_min2 S.calm) (fun w0 w vs xs Q E0 e1 o1 r1 h1 => ?_) hg hm (by decide +kernel) (by decide +kernel) (by decide +kernel) ha he hpl
    rcases vs with _ | ⟨v, _ | ⟨v2, _ | ⟨v3, vs⟩⟩⟩ <;> (first | exact False.elim h1 | (cases v <;> first | exact False.elim h1 | skip)) <;> (first | (cases v2 <;> first | exact False.elim h1 | skip))
    obtain ⟨x, y, rfl, rx, ry⟩ := two_of r1
    rename_i i j
    exact ⟨i, j, by rw [show x = V.int i from rx, show y = V.int j from ry], h1 w _ e1 rfl o1 rfl⟩
  | sum =>
    refine s_bltB .sum (cr_sum S.calm) (fun w0 w vs xs Q E0 e1 o1 r1 h1 => ?_) hg hm (by decide +kernel) (by decide +kernel) (by decide +kernel) ha he hpl
    rcases vs with _ | ⟨v, _ | ⟨v2, vs⟩⟩ <;> first
      | exact False.elim h1
      | skip
    obtain ⟨x, rfl, rx⟩ := one_of r1
    have h2 : (match rd w.S v with
      | .lst xs => R.of ((intsOf xs).map fun (ns : List Int) => Val.int ns.sum) w.S
      | _ => .stuck).post (PV k.G w0 Q) E0 := h1
    cases hr : rd w.S v <;> (rw [hr] at h2) <;> first
      | exact False.elim h2
      | skip
    rename_i xs
    obtain ⟨p, ys, rfl, h3, _, h4⟩ := rd_lst o1 rx hr
    obtain ⟨z, hz, q⟩ := of_post' h2
    cases hi : intsOf xs with
    | none => rw [hi] at hz; cases hz
    | some ns =>
      rw [hi] at hz
      have e : Val.int ns.sum = z := Option.some.inj hz
      subst e
      have ey := intsOf_rep hi h4
      subst ey
      exact ⟨p, ns, rfl, by rw [S.hK]; exact h3, q w _ e1 rfl o1 rfl⟩
  | all =>
    refine s_bltB .all (cr_all S.calm) (fun w0 w vs xs Q E0 e1 o1 r1 h1 => ?_) hg hm (by decide +kernel) (by decide +kernel) (by decide +kernel) ha he hpl
    rcases vs with _ | ⟨v, _ | ⟨v2, vs⟩⟩ <;> first
      | exact False.elim h1
      | skip
    obtain ⟨x, rfl, rx⟩ := one_of r1
    have h2 : (match rd w.S v with
      | .lst xs => R.of ((blsOf xs).map fun (ns : List Bool) => Val.bl (ns.all id)) w.S
      | _ => .stuck).post (PV k.G w0 Q) E0 := h1
    cases hr : rd w.S v <;> (rw [hr] at h2) <;> first
      | exact False.elim h2
      | skip
    rename_i xs
    obtain ⟨p, ys, rfl, h3, _, h4⟩ := rd_lst o1 rx hr
    obtain ⟨z, hz, q⟩ := of_post' h2
    cases hi : blsOf xs with
    | none => rw [hi] at hz; cases hz
    | some ns =>
      rw [hi] at hz
      have e : Val.bl (ns.all id) = z := Option.some.inj hz
      subst e
      have ey := blsOf_rep hi h4
      subst ey
      exact ⟨p, ns, rfl, by rw [S.hK]; exact h3, q w _ e1 rfl o1 rfl⟩
  | any =>
    refine s_bltB .any (cr_any S.calm) (fun w0 w vs xs Q E0 e1 o1 r1 h1 => ?_) hg hm (by decide +kernel) (by decide +kernel) (by decide +kernel) ha he hpl
    rcases vs with _ | ⟨v, _ | ⟨v2, vs⟩⟩ <;> first
      | exact False.elim h1
      | skip
    obtain ⟨x, rfl, rx⟩ := one_of r1
    have h2 : (match rd w.S v with
      | .lst xs => R.of ((blsOf xs).map fun (ns : List Bool) => Val.bl (ns.any id)) w.S
      | _ => .stuck).post (PV k.G w0 Q) E0 := h1
    cases hr : rd w.S v <;> (rw [hr] at h2) <;> first
      | exact False.elim h2
      | skip
    rename_i xs
    obtain ⟨p, ys, rfl, h3, _, h4⟩ := rd_lst o1 rx hr
    obtain ⟨z, hz, q⟩ := of_post' h2
    cases hi : blsOf xs with
    | none => rw [hi] at hz; cases hz
    | some ns =>
      rw [hi] at hz
      have e : Val.bl (ns.any id) = z := Option.some.inj hz
      subst e
      have ey := blsOf_rep hi h4
      subst ey
      exact ⟨p, ns, rfl, by rw [S.hK]; exact h3, q w _ e1 rfl o1 rfl⟩
  | tuple =>
    refine s_bltT .tuple call_tuple_of (fun w0 w vs xs Q E0 e1 o1 r1 h1 => ?_) hg hm (by decide +kernel) (by decide +kernel) (by decide +kernel) ha he hpl
    rcases vs with _ | ⟨v, _ | ⟨v2, vs⟩⟩ <;> first
      | exact False.elim h1
      | skip
    obtain ⟨x, rfl, rx⟩ := one_of r1
    have h2 : (match rd w.S v with
      | .tup xs => R.ok (Val.tup xs) w.S
      | .lst xs => R.ok (Val.tup xs) w.S
      | _ => .stuck).post (PV k.G w0 Q) E0 := h1
    cases hr : rd w.S v <;> (rw [hr] at h2) <;> first
      | exact False.elim h2
      | skip
    · rename_i xs
      have e := rd_tup hr
      subst e
      obtain ⟨p, ys, rfl, h3, hz, h4⟩ := rx
      exact ⟨p, ys, rfl, .inr ⟨by rw [S.hK]; exact h3, h2 w _ e1 rfl o1 ⟨p, ys, rfl, h3, hz, h4⟩⟩⟩
    · rename_i xs
      obtain ⟨p, ys, rfl, h3, hz, h4⟩ := rd_lst o1 rx hr
      refine ⟨p, ys, rfl, .inl ⟨by rw [S.hK]; exact h3, fun l hl => ?_⟩⟩
      obtain ⟨e2, o2, r2⟩ := new_tup o1 hl h4 hz
      exact h2 ⟨w.ρ, _, w.S⟩ _ (e1.trans e2) rfl o2 r2
  | list m =>
    refine s_bltT (.list m) call_list_of (fun w0 w vs xs Q E0 e1 o1 r1 h1 => ?_) hg hm (show bootBuiltins ("list" : Str) = _ by decide +kernel) (show ("list" : Str) ≠ _ by decide +kernel) (show (("list" : Str) == _) = false by decide +kernel) ha he hpl
    rcases vs with _ | ⟨v, _ | ⟨v2, vs⟩⟩ <;> first
      | exact False.elim h1
      | skip
    obtain ⟨x, rfl, rx⟩ := one_of r1
    have h2 : (match rd w.S v with
      | .tup xs => alloc m xs w.S
      | .lst xs => alloc m xs w.S
      | _ => .stuck).post (PV k.G w0 Q) E0 := h1
    cases hr : rd w.S v <;> (rw [hr] at h2) <;> first
      | exact False.elim h2
      | skip
    · rename_i xs
      have e := rd_tup hr
      subst e
      obtain ⟨p, ys, rfl, h3, hz, h4⟩ := rx
      exact ⟨p, ys, rfl, .inr (by rw [S.hK]; exact h3), fun l hl => new_any o1 e1 hl h4 hz h2⟩
    · rename_i xs
      obtain ⟨p, ys, rfl, h3, hz, h4⟩ := rd_lst o1 rx hr
      exact ⟨p, ys, rfl, .inl (by rw [S.hK]; exact h3), fun l hl => new_any o1 e1 hl h4 hz h2⟩
  | sorted =>
    refine s_bltB .sorted cr_sortedI (fun w0 w vs xs Q E0 e1 o1 r1 h1 => ?_) hg hm (by decide +kernel) (by decide +kernel) (by decide +kernel) ha he hpl
    rcases vs with _ | ⟨v, _ | ⟨v2, vs⟩⟩ <;> first
      | exact False.elim h1
      | skip
    obtain ⟨x, rfl, rx⟩ := one_of r1
    have h2 : (match rd w.S v with
      | .lst xs => R.of ((intsOf xs).map fun (ns : List Int) => Val.lst ((sortI ns).map .int)) w.S
      | _ => .stuck).post (PV k.G w0 Q) E0 := h1
    cases hr : rd w.S v <;> (rw [hr] at h2) <;> first
      | exact False.elim h2
      | skip
    rename_i xs
    obtain ⟨p, ys, rfl, h3, hzz, h4⟩ := rd_lst o1 rx hr
    obtain ⟨z, hz, q⟩ := of_post' h2
    cases hi : intsOf xs with
    | none => rw [hi] at hz; cases hz
    | some ns =>
      rw [hi] at hz
      have e : Val.lst ((sortI ns).map .int) = z := Option.some.inj hz
      subst e
      have ey := intsOf_rep hi h4
      subst ey
      refine ⟨p, ns, rfl, by rw [S.hK]; exact h3, fun ns' t hp hu ht => ?_⟩
      have e := sorted_one (hp.trans (sortI_perm ns).symm) hu (sortI_up ns)
      subst e
      obtain ⟨e2, o2, r2⟩ := new_lst (vs := (sortI ns).map V.int) o1 ht ints_rep (by rw [List.length_map] at hzz ⊢; rw [hp.length_eq]; exact hzz)
      exact q ⟨w.ρ, _, w.S⟩ _ (e1.trans e2) rfl o2 r2
def tyN : Val → String
  | .non => "NoneType" | .bl _ => "bool" | .int _ => "int" | .str _ => "str" | .tup _ => "tuple" | .lst _ => "list" | .flst _ => "list" | .loc _ => "list" | .fn _ => "function"
def Ty.s : Ty → String
  | .int => "int" | .bool => "bool" | .str => "str" | .tuple => "tuple" | .list => "list" | .dict => "dict"
theorem kt_non (t : Ty) : kitB "NoneType" t.s = some false := by cases t <;> decide +kernel
theorem kt_bool (t : Ty) : kitB "bool" t.s = some (decide (t = .bool) || decide (t = .int)) := by cases t <;> decide +kernel
theorem kt_int (t : Ty) : kitB "int" t.s = some (decide (t = .int)) := by cases t <;> decide +kernel
theorem kt_str (t : Ty) : kitB "str" t.s = some (decide (t = .str)) := by cases t <;> decide +kernel
theorem kt_tup (t : Ty) : kitB "tuple" t.s = some (decide (t = .tuple)) := by cases t <;> decide +kernel
theorem kt_lst (t : Ty) : kitB "list" t.s = some (decide (t = .list)) := by cases t <;> decide +kernel
theorem ty_rep {v : Val} {x : V} {b : Bool} {t : Ty} (ok : w.Ok k.G) (r : Rep k.G w.ρ w.H v x) (h : isTy w.S t v = some b) : TyX k.G.K w.H x (.type (tyN (rd w.S v))) ∧ kitB (tyN (rd w.S v)) t.s = some b := by
  unfold isTy at h
  cases hr : rd w.S v with
  | non =>
    have e := rd_data hr rfl
    subst e
    rw [hr] at h
    injection h with h
    subst h
    rw [show x = V.non from r]
    exact ⟨.base .non, kt_non t⟩
  | bl z =>
    have e := rd_data hr rfl
    subst e
    rw [hr] at h
    injection h with h
    subst h
    rw [show x = V.bl z from r]
    exact ⟨.base (.bl z), kt_bool t⟩
  | int z =>
    have e := rd_data hr rfl
    subst e
    rw [hr] at h
    injection h with h
    subst h
    rw [show x = V.int z from r]
    exact ⟨.base (.int z), kt_int t⟩
  | str z =>
    have e := rd_data hr rfl
    subst e
    rw [hr] at h
    injection h with h
    subst h
    rw [show x = V.str z from r]
    exact ⟨.base (.str z), kt_str t⟩
  | tup xs =>
    have e := rd_tup hr
    subst e
    rw [hr] at h
    injection h with h
    subst h
    obtain ⟨p, ys, rfl, h3, _, _⟩ := r
    refine ⟨?_, kt_tup t⟩
    rcases h3 with (h3 | ⟨ob, h3⟩) | ⟨ob, its, n, h3, h4, _⟩
    · exact .base (.tup h3)
    · exact .fTuple h3
    · exact .kTuple h3 h4
  | lst xs =>
    rw [hr] at h
    injection h with h
    subst h
    obtain ⟨p, ys, rfl, h3, _, _⟩ := rd_lst ok r hr
    refine ⟨?_, kt_lst t⟩
    rcases h3 with (h3 | ⟨ob, h3⟩) | ⟨ob, its, n, h3, h4, _⟩
    · exact .base (.lst h3)
    · exact .base (.frz h3)
    · exact .kList h3 h4
  | flst l =>
    rw [hr] at h
    cases h
  | loc l =>
    rw [hr] at h
    cases h
  | fn l =>
    rw [hr] at h
    cases h
theorem ty_boot (t : Ty) : bootBuiltins t.name = some (.type t.s) := by cases t <;> decide +kernel
theorem s_isi (S : Sx k X) {t : Ty} {p' : Pos} (hg : Gl X "isinstance") (hf : k.bf.contains "isinstance" = true) (hg2 : Gl X t.name) (hf2 : k.bf.contains t.name = true) (ha : PE X a (tE k W ia))
    (hs : starEach [a, .Name t.name p'] X.env = (false, eval a X.env) :: starEach [.Name t.name p'] X.env) : PE X (.Call (.Name "isinstance" p) [a, .Name t.name p'] [] pos) (tE k W (.isi t ia)) := by
  have hn : t.name ≠ "__name__" := by cases t <;> decide +kernel
  have hd : (t.name == ("__debug__" : Str)) = false := by cases t <;> decide +kernel
  refine (pe_callB call_isi hg (S.bf _ hf) (by decide +kernel) (pa_cons ha (pa_cons (pe_bltn (v := .ty t.s) hg2 (S.bf _ hf2) (ty_boot t) rfl hn hd) pa_nil rfl) hs) (by decide +kernel) (by decide +kernel) hs rfl).imp fun σ H Q ⟨w, env, e0, ok, er, h⟩ => ?_
  subst e0
  refine stepE ok er h (fun _ _ z => z) fun u w1 x e1 o1 r1 er1 hx1 h1 => ?_
  obtain ⟨z, hz, q⟩ := of_post' h1
  cases hi : isTy w1.S t u with
  | none => rw [hi] at hz; cases hz
  | some b =>
    rw [hi] at hz
    have e : Val.bl b = z := Option.some.inj hz
    subst e
    obtain ⟨h1, h2⟩ := ty_rep o1 r1 hi
    exact ⟨x, .ty t.s, _, _, b, rfl, .ty _, by rw [S.hK]; exact h1, kit_ty h2, q w1 _ e1 rfl o1 rfl⟩
end
end Lt
set_option maxHeartbeats 4000000
namespace Lt
open PySem PySem.Spec PyProof.Rows L2
section
theorem extend_tup (l : Addr) (items : Array Value) (n : Nat) (b : Addr) (items2 : Array Value) (n2 : Nat) (dd : Option Addr) (sl : Array (Option Value)) (hs0 : ¬(!items.isEmpty && Builtin.List.listTooLong (items.size + items2.size)) = true) (hs1 : items.size ≤ sizeLine) (hs2 : items.size + items2.size ≤ sizeLine + 1) :
    Meets (Builtin.«list.extend» ⟨[.ref l, .ref b], []⟩) (fun _ R s => s.heap.get? l = some { cls := .type "list", dict := none, data := .seq items n, slots := #[] } ∧ s.heap.get? b = some { cls := .type "tuple", dict := dd, data := .seq items2 n2, slots := sl } ∧ R (.ok (.ret Value.none)) { s with heap := s.heap.update l (Obj.mapSeq fun x => x ++ items2), toks := s.toks }) :=
  .of_wp fun prog w A R s h => by
    obtain ⟨hp, g, d, tk, os⟩ := s; obtain ⟨hl, hb, h⟩ := h; have f1 := PySem.AutoSeq1.idx_int; have f2 := PySem.AutoSeq1.sub_tuple_tuple; have f3 := PySem.AutoSeq1.sub_list_list; have f4 := PySem.AutoSeq1.sub_tuple_list; have f5 := PySem.AutoSeq1.sub_list_tuple;
    have hz' : (items ++ items2).size ≤ sizeLine + 1 := by rw [Array.size_append]; exact hs2
    wp_walk using (wpAny_updateSeq hl rfl (hz := hs1) (_hz' := hz')), PySem.AutoSeq1.wpAny_loadPart' hl, PySem.AutoSeq1.wpAny_loadPart' hb; exact ⟨_, rfl, h⟩
variable {k : Kx} {X : Cx} {W : WX} {a b c e o : Expr} {ia ib ic ie io : IE} {pos p apos cpos : Pos} {es : List Expr} {w : Wd} {x m f : Str}
def rExtT (K : PySem.W.Frag) : V → List V → Hp → VK → Prop := fun x vs H Q => ∃ l b xs zs, x = .ref l ∧ vs = [.ref b] ∧ H l = some (.lst xs) ∧ SqT K H b zs ∧ xs.length + zs.length ≤ sizeLine ∧ Q .non (upd H l (.lst (xs ++ zs)))
theorem mt_extT : MtM X "list.extend" (rExtT X.K) := by
  intro pins s σ H x vs v us Q I rx rv h
  obtain ⟨l, b, xs, zs, rfl, rfl, hH, hB, hz, q⟩ := h
  cases rx
  obtain ⟨u, rfl, ru⟩ := rv.one
  cases ru
  obtain ⟨z, its, n, r, hl, e⟩ := I.lstM hH
  obtain ⟨its2, r2, ⟨⟨oc, od, odt, osl⟩, e2, hc2, n2, hd2⟩, z2⟩ := I.tuple hB
  have hl2 := r2.length
  have hc2' : oc = .type "tuple" := hc2
  have hd2' : odt = .seq its2.toArray n2 := hd2
  subst hc2'
  subst hd2'
  have hsz : its.toArray.size + its2.toArray.size ≤ sizeLine := by rw [List.size_toArray, List.size_toArray]; omega
  have hlong : ¬ (!its.toArray.isEmpty && Builtin.List.listTooLong (its.toArray.size + its2.toArray.size)) = true := by
    rw [notLongL hsz, Bool.and_false]
    exact Bool.false_ne_true
  refine call_meets F.slot_list_extend ⟨_, e, rfl⟩ F.entry_list_extend (F.args_list_extend_2 _ _)
    (extend_tup l its.toArray n b its2.toArray n2 od osl hlong (by rw [List.size_toArray]; omega) (by omega)) ⟨e, e2, ?_⟩
  refine ⟨.non, _, I.lset (its' := its ++ its2) hH e (by simp) (r.append r2) ?_, rfl, q⟩
  rw [List.length_append]
  omega
theorem isLst_rep {u : Val} {x : V} (ok : w.Ok k.G) (r : Rep k.G w.ρ w.H u x) (h : isLst w.S u = true) : ∃ l p, u = .loc l ∧ x = .ref p ∧ w.ρ[l]? = some p ∧ ∃ xs, w.S[l]? = some (.lst xs) := by
  cases u <;> first
    | (cases h; done)
    | skip
  rename_i l
  obtain ⟨p, h1, rfl⟩ := r
  refine ⟨l, p, rfl, rfl, h1, ?_⟩
  have h' : (match w.S[l]? with
    | some (.lst _) => true
    | _ => false) = true := h
  cases hs : w.S[l]? with
  | none => rw [hs] at h'; cases h'
  | some o =>
    rw [hs] at h'
    cases o with
    | lst xs => exact ⟨xs, rfl⟩
    | inst c fs => cases h'
theorem lst_ty (ok : w.Ok k.G) {l : Nat} {p : Addr} {xs : List Val} (h1 : w.ρ[l]? = some p) (h2 : w.S[l]? = some (.lst xs)) : tyV X.K "list" (.ref p) w.H := by
  obtain ⟨vs, h3, _, _⟩ := ok.ob l p _ h1 h2
  exact Or.inl ⟨rfl, vs, .inl (.inl h3)⟩
/-- a list is changed -/
theorem set_lst (ok : w.Ok k.G) {l : Nat} {p : Addr} {ys : List Val} {us : List V} (h1 : w.ρ[l]? = some p) (hz : us.length ≤ sizeLine) (r : RepAll k.G w.ρ w.H ys us) :
    Ext w ⟨w.ρ, upd w.H p (.lst us), w.S.set l (.lst ys)⟩ ∧ Wd.Ok k.G ⟨w.ρ, upd w.H p (.lst us), w.S.set l (.lst ys)⟩ := by
  have e := ext_set (w := w) (o := .lst us) (b := .lst ys) h1
  exact ⟨e, ok_set ok h1 ⟨us, upd_same, hz, ok.reps e r⟩⟩
theorem bool_if {α : Type} {β : Type} {c : Bool} {r : R α} {P : α → Store → Prop} {E0 : Exc → Store → Prop} (h : (if c = true then r else .stuck).post P E0) : c = true ∧ r.post P E0 := by
  cases c with
  | true => exact ⟨rfl, h⟩
  | false => exact h.elim
theorem s_append (S : Sx k X) (hbase : attributeBase o "append" X.env (eval o X.env) = eval o X.env) (hline : (apos.endLine == cpos.line) = true) (hs : starEach [e] X.env = (false, eval e X.env) :: starEach [] X.env)
    (ho : PE X o (tE k W io)) (ha : PA X [e] (tAs k W ie)) : PE X (.Call (.Attribute o "append" apos) [e] [] cpos) (tE k W (.mth .append io ie)) := by
  refine (pe_bm PySem.F.plainAttrs_list PySem.F.slot_list_append PySem.F.type_list_append mt_append ho ha hbase (by rw [hs]; rfl) hline hs rfl).imp fun σ H Q ⟨w, env, e0, ok, er, h⟩ => ?_
  subst e0
  refine stepE ok er h (fun _ _ z => z) fun u w1 x e1 o1 r1 er1 hx1 h1 => ?_
  obtain ⟨hl, h2⟩ := bool_if (β := Unit) h1
  obtain ⟨l, p, rfl, rfl, hp, xs0, hs0⟩ := isLst_rep o1 r1 hl
  refine ⟨lst_ty o1 hp hs0, stepAs o1 er1 h2 hx1 fun vs w2 ys e2 o2 r2 er2 hx2 h3 => ?_⟩
  have h4 : (match w2.S[l]?, Mth.append, vs with
    | some (.lst xs), .append, [y] => if xs.length < sizeLine then R.ok Val.non (w2.S.set l (.lst (xs ++ [y]))) else .stuck
    | some (.lst xs), .extend, [v] => match rd w2.S v with
      | .tup ys => if xs.length + ys.length ≤ sizeLine then .ok .non (w2.S.set l (.lst (xs ++ ys))) else .stuck
      | _ => .stuck
    | some (.lst xs), .pop, [] => match xs[xs.length - 1]? with
      | some y => .ok y (w2.S.set l (.lst xs.dropLast))
      | none => .stuck
    | _, _, _ => .stuck).post (PV k.G w Q) _ := h3
  cases hq : w2.S[l]? with
  | none => rw [hq] at h4; exact h4.elim
  | some ob =>
    rw [hq] at h4
    cases ob with
    | inst c fs => exact h4.elim
    | lst xs =>
      rcases vs with _ | ⟨v, _ | ⟨v2, vs⟩⟩ <;> first
        | exact False.elim h4
        | skip
      have h5 : (if xs.length < sizeLine then R.ok Val.non (w2.S.set l (.lst (xs ++ [v]))) else .stuck).post (PV k.G w Q) (XW k.G w W σ) := h4
      by_cases hz : xs.length < sizeLine
      · rw [if_pos hz] at h5
        obtain ⟨y, rfl, ry⟩ := one_of r2
        have hp2 := e2.at hp
        obtain ⟨us, h6, hzz, h7⟩ := o2.ob l p _ hp2 hq
        have hlen := h7.length
        obtain ⟨e3, o3⟩ := set_lst o2 hp2 (ys := xs ++ [v]) (us := us ++ [y]) (by rw [List.length_append, List.length_singleton]; omega) (h7.append ⟨y, [], rfl, ry, rfl⟩)
        exact ⟨p, us, y, rfl, rfl, h6, by omega, h5 _ _ ((e1.trans e2).trans e3) rfl o3 rfl⟩
      · rw [if_neg hz] at h5
        exact h5.elim
theorem s_extend (S : Sx k X) (hbase : attributeBase o "extend" X.env (eval o X.env) = eval o X.env) (hline : (apos.endLine == cpos.line) = true) (hs : starEach [e] X.env = (false, eval e X.env) :: starEach [] X.env)
    (ho : PE X o (tE k W io)) (ha : PA X [e] (tAs k W ie)) : PE X (.Call (.Attribute o "extend" apos) [e] [] cpos) (tE k W (.mth .extend io ie)) := by
  refine (pe_bm PySem.F.plainAttrs_list PySem.F.slot_list_extend PySem.F.type_list_extend mt_extT ho ha hbase (by rw [hs]; rfl) hline hs rfl).imp fun σ H Q ⟨w, env, e0, ok, er, h⟩ => ?_
  subst e0
  refine stepE ok er h (fun _ _ z => z) fun u w1 x e1 o1 r1 er1 hx1 h1 => ?_
  obtain ⟨hl, h2⟩ := bool_if (β := Unit) h1
  obtain ⟨l, p, rfl, rfl, hp, xs0, hs0⟩ := isLst_rep o1 r1 hl
  refine ⟨lst_ty o1 hp hs0, stepAs o1 er1 h2 hx1 fun vs w2 ys e2 o2 r2 er2 hx2 h3 => ?_⟩
  have h4 : (match w2.S[l]?, Mth.extend, vs with
    | some (.lst xs), .append, [y] => if xs.length < sizeLine then R.ok Val.non (w2.S.set l (.lst (xs ++ [y]))) else .stuck
    | some (.lst xs), .extend, [v] => match rd w2.S v with
      | .tup ys => if xs.length + ys.length ≤ sizeLine then .ok .non (w2.S.set l (.lst (xs ++ ys))) else .stuck
      | _ => .stuck
    | some (.lst xs), .pop, [] => match xs[xs.length - 1]? with
      | some y => .ok y (w2.S.set l (.lst xs.dropLast))
      | none => .stuck
    | _, _, _ => .stuck).post (PV k.G w Q) _ := h3
  cases hq : w2.S[l]? with
  | none => rw [hq] at h4; exact h4.elim
  | some ob =>
    rw [hq] at h4
    cases ob with
    | inst c fs => exact h4.elim
    | lst xs =>
      rcases vs with _ | ⟨v, _ | ⟨v2, vs⟩⟩ <;> first
        | exact False.elim h4
        | skip
      have h5 : (match rd w2.S v with
        | .tup ys => if xs.length + ys.length ≤ sizeLine then R.ok Val.non (w2.S.set l (.lst (xs ++ ys))) else .stuck
        | _ => .stuck).post (PV k.G w Q) (XW k.G w W σ) := h4
      cases hr : rd w2.S v <;> (rw [hr] at h5) <;> first
        | exact False.elim h5
        | skip
      rename_i zs
      have h6 : (if xs.length + zs.length ≤ sizeLine then R.ok Val.non (w2.S.set l (.lst (xs ++ zs))) else .stuck).post (PV k.G w Q) (XW k.G w W σ) := h5
      have ev := rd_tup hr
      subst ev
      by_cases hz : xs.length + zs.length ≤ sizeLine
      · rw [if_pos hz] at h6
        obtain ⟨y, rfl, b, ws, rfl, hb, hzb, rb⟩ := one_of r2
        have hp2 := e2.at hp
        obtain ⟨us, h7, hzz, h8⟩ := o2.ob l p _ hp2 hq
        have hlen := h8.length
        have hlen2 := rb.length
        obtain ⟨e3, o3⟩ := set_lst o2 hp2 (ys := xs ++ zs) (us := us ++ ws) (by rw [List.length_append]; omega) (h8.append rb)
        exact ⟨p, b, us, ws, rfl, rfl, h7, by rw [S.hK]; exact hb, by omega, h6 _ _ ((e1.trans e2).trans e3) rfl o3 rfl⟩
      · rw [if_neg hz] at h6
        exact h6.elim
theorem s_pop (S : Sx k X) (hbase : attributeBase o "pop" X.env (eval o X.env) = eval o X.env) (hline : (apos.endLine == cpos.line) = true) (ho : PE X o (tE k W io)) : PE X (.Call (.Attribute o "pop" apos) [] [] cpos) (tE k W (.mth .pop io .nil)) := by
  refine (pe_bm0 PySem.F.plainAttrs_list PySem.F.slot_list_pop PySem.F.type_list_pop mt_pop ho hbase hline).imp fun σ H Q ⟨w, env, e0, ok, er, h⟩ => ?_
  subst e0
  refine stepE ok er h (fun _ _ z => z) fun u w1 x e1 o1 r1 er1 hx1 h1 => ?_
  obtain ⟨hl, h2⟩ := bool_if (β := Unit) h1
  obtain ⟨l, p, rfl, rfl, hp, xs, hq⟩ := isLst_rep o1 r1 hl
  refine ⟨lst_ty o1 hp hq, ?_⟩
  have h4 : (match w1.S[l]?, Mth.pop, ([] : List Val) with
    | some (.lst xs), .append, [y] => if xs.length < sizeLine then R.ok Val.non (w1.S.set l (.lst (xs ++ [y]))) else .stuck
    | some (.lst xs), .extend, [v] => match rd w1.S v with
      | .tup ys => if xs.length + ys.length ≤ sizeLine then .ok .non (w1.S.set l (.lst (xs ++ ys))) else .stuck
      | _ => .stuck
    | some (.lst xs), .pop, [] => match xs[xs.length - 1]? with
      | some y => .ok y (w1.S.set l (.lst xs.dropLast))
      | none => .stuck
    | _, _, _ => .stuck).post (PV k.G w Q) (XW k.G w W σ) := h2
  rw [hq] at h4
  have h5 : (match xs[xs.length - 1]? with
      | some y => R.ok y (w1.S.set l (.lst xs.dropLast))
      | none => .stuck).post (PV k.G w Q) (XW k.G w W σ) := h4
  cases hy : xs[xs.length - 1]? with
  | none => rw [hy] at h5; exact h5.elim
  | some y =>
    rw [hy] at h5
    obtain ⟨us, h7, hzz, h8⟩ := o1.ob l p _ hp hq
    obtain ⟨v, hv, rv⟩ := h8.get hy
    obtain ⟨e3, o3⟩ := set_lst o1 hp (ys := xs.dropLast) (us := us.dropLast) (by rw [List.length_dropLast]; omega) h8.dropLast
    exact ⟨p, us, v, rfl, rfl, h7, by rw [h8.length]; exact hv, h5 _ _ (e1.trans e3) rfl o3 (o1.rep e3 rv)⟩
theorem dir_rep {u : Val} {x : V} {xs : List Val} (ok : w.Ok k.G) (r : Rep k.G w.ρ w.H u x) (h : isDir w.S u = true) (hr : rd w.S u = .lst xs) : ∃ p vs, x = .ref p ∧ w.H p = some (.lst vs) ∧ vs.length ≤ sizeLine ∧ RepAll k.G w.ρ w.H xs vs := by
  cases u <;> first
    | (cases h; done)
    | skip
  · rename_i ys
    have e : ys = xs := by
      have h' : Val.lst ys = .lst xs := hr
      injection h'
    subst e
    obtain ⟨a, vs, rfl, h1, _, hz, h2⟩ := r
    exact ⟨a, vs, rfl, h1, hz, h2⟩
  · rename_i l
    obtain ⟨a, h1, rfl⟩ := r
    rw [rd_loc] at hr
    cases hs : w.S[l]? with
    | none =>
      rw [hs] at hr
      cases hr
    | some o =>
      rw [hs] at hr
      cases o with
      | lst ys =>
        have e : ys = xs := by
          have h' : Val.lst ys = .lst xs := hr
          injection h'
        subst e
        obtain ⟨vs, h2, hz, h3⟩ := ok.ob l a _ h1 hs
        exact ⟨a, vs, rfl, h2, hz, h3⟩
      | inst c fs => cases hr
theorem s_catl (S : Sx k X) {m : Bool} (ha : PE X a (tE k W ia)) (hb : PE X b (tE k W ib)) : PE X (.BinOp a .Add b pos) (tE k W (.catl m ia ib)) := by
  refine (pe_op op_cat ha hb).imp fun σ H Q ⟨w, env, e0, ok, er, h⟩ => ?_
  subst e0
  refine stepE ok er h (fun _ _ z => z) fun u w1 x e1 o1 r1 er1 hx1 h1 => ?_
  refine stepE o1 er1 h1 hx1 fun v w2 y e2 o2 r2 er2 hx2 h2 => ?_
  have r1' := o1.rep e2 r1
  have h3 : (match rd w2.S u, rd w2.S v with
    | .lst xs, .lst ys => if isDir w2.S u && isDir w2.S v && decide (xs.length + ys.length ≤ sizeLine) then alloc m (xs ++ ys) w2.S else .stuck
    | _, _ => .stuck).post (PV k.G w Q) (XW k.G w W σ) := h2
  cases hu : rd w2.S u <;> (rw [hu] at h3) <;> first
    | exact False.elim h3
    | skip
  cases hv : rd w2.S v <;> (rw [hv] at h3) <;> first
    | exact False.elim h3
    | skip
  rename_i xs ys
  obtain ⟨hc, h4⟩ := bool_if (β := Unit) (show (if (isDir w2.S u && isDir w2.S v && decide (xs.length + ys.length ≤ sizeLine)) = true then alloc m (xs ++ ys) w2.S else .stuck).post (PV k.G w Q) (XW k.G w W σ) from h3)
  simp only [Bool.and_eq_true, decide_eq_true_eq] at hc
  obtain ⟨p, vs, rfl, ha1, hz1, ra⟩ := dir_rep o2 r1' hc.1.1 hu
  obtain ⟨q, us, rfl, hb1, hz2, rb⟩ := dir_rep o2 r2 hc.1.2 hv
  have hl : vs.length + us.length ≤ sizeLine := by rw [ra.length, rb.length]; exact hc.2
  exact ⟨p, q, vs, us, rfl, rfl, ha1, hb1, hl, fun t ht => new_any o2 (e1.trans e2) ht (ra.append rb) (by rw [List.length_append]; exact hl) h4⟩
end
end Lt
set_option maxHeartbeats 4000000
namespace Lt
open PySem PySem.Spec PyProof.Rows L2
section
variable {k : Kx} {X : Cx} {W : WX} {a b c e o : Expr} {ia ib ic ie io : IE} {pos p apos cpos : Pos} {es : List Expr} {w : Wd} {x m f cn : Str}
theorem inst_at (ok : w.Ok k.G) {l : Nat} {p : Addr} {c : Str} {fs : List (Str × Val)} (h1 : w.ρ[l]? = some p) (h2 : w.S[l]? = some (.inst c fs)) : ∃ C dx fv, k.G.cl c = some C ∧ w.H p = some (.ins C dx fv) ∧ FsRep k.G w.ρ w.H fs fv := ok.ob l p _ h1 h2
theorem s_fld (S : Sx k X) (hf : ∀ c C, k.G.cl c = some C → NoAttr X.K C f) (hb : attributeBase o f X.env (eval o X.env) = eval o X.env) (ho : PE X o (tE k W io)) : PE X (.Attribute o f pos) (tE k W (.fld io f)) := by
  refine (pe_fld ho hb).imp fun σ H Q ⟨w, env, e0, ok, er, h⟩ => ?_
  subst e0
  refine stepE ok er h (fun _ _ z => z) fun u w1 x e1 o1 r1 er1 hx1 h1 => ?_
  obtain ⟨z, hz, q⟩ := of_post' h1
  cases u <;> first
    | (cases hz; done)
    | skip
  rename_i l
  obtain ⟨p, hp, rfl⟩ := r1
  have hz' : (match w1.S[l]? with
    | some (.inst _ fs) => fs.lookup f
    | _ => none) = some z := hz
  cases hs : w1.S[l]? with
  | none => rw [hs] at hz'; cases hz'
  | some ob =>
    rw [hs] at hz'
    cases ob with
    | lst xs => cases hz'
    | inst c fs =>
      obtain ⟨C, dx, fv, hC, hH, hF⟩ := inst_at o1 hp hs
      obtain ⟨v, hv, rv⟩ := (hF.look (f := f)).1 z hz'
      exact ⟨p, C, dx, fv, v, rfl, hH, (S.cl c C hC).1, hf c C hC, hv, q w1 v e1 rfl o1 rv⟩
/-- a table of defs, asked -/
theorem gin_read (S : Sx k X) {neg : Bool} {t : List (Str × Nat)} {d : Addr} (ht : ∀ z, (t.lookup z = none → PySem.W.nsIn X.K d z = some none) ∧ ∀ j, t.lookup z = some j → ∃ f, k.G.fa j = some f ∧ PySem.W.nsIn X.K d z = some (some (.ref f)))
    {u z : Val} {y : V} {H : Hp} {ρ : List Addr} (ru : Rep k.G ρ H u y) (hz : ginV neg t u = some z) : ∃ (s : Str) (r : Option Value), y = .str s ∧ PySem.W.nsIn X.K d s = some r ∧ z = .bl (if neg then !r.isSome else r.isSome) := by
  cases u <;> first
    | (cases hz; done)
    | skip
  rename_i s
  have e : Val.bl (if neg then !(t.lookup s).isSome else (t.lookup s).isSome) = z := Option.some.inj hz
  subst e
  cases hl : t.lookup s with
  | none => exact ⟨s, none, ru, (ht s).1 hl, rfl⟩
  | some j =>
    obtain ⟨f, _, h2⟩ := (ht s).2 j hl
    exact ⟨s, some (.ref f), ru, h2, rfl⟩
theorem s_gin (S : Sx k X) {neg : Bool} {t : List (Str × Nat)} {p' : Pos} (hl : k.tb.lookup x = some t) (hg : Gl X x) (hd : (x == ("__debug__" : Str)) = false) (ha : PE X a (tE k W ia)) :
    PE X (.Compare a [if neg then .NotIn else .In] [.Name x p'] pos) (tE k W (.gin neg x t ia)) := by
  obtain ⟨d, es, m, hm, D, ht⟩ := S.tb x t hl
  cases neg with
  | false =>
    refine (pe_cmpR (op_in_kd D) ha (pe_glob (v := .ref d) hg hm rfl hd) rfl).imp fun σ H Q ⟨w, env, e0, ok, er, h⟩ => ?_
    subst e0
    refine stepE ok er h (fun _ _ z => z) fun u w1 x e1 o1 r1 er1 hx1 h1 => ?_
    obtain ⟨z, hz, q⟩ := of_post' h1
    obtain ⟨s, r, rfl, h2, rfl⟩ := gin_read S ht r1 hz
    exact ⟨s, r, rfl, rfl, h2, q w1 _ e1 rfl o1 rfl⟩
  | true =>
    refine (pe_cmpR (op_notIn_kd D) ha (pe_glob (v := .ref d) hg hm rfl hd) rfl).imp fun σ H Q ⟨w, env, e0, ok, er, h⟩ => ?_
    subst e0
    refine stepE ok er h (fun _ _ z => z) fun u w1 x e1 o1 r1 er1 hx1 h1 => ?_
    obtain ⟨z, hz, q⟩ := of_post' h1
    obtain ⟨s, r, rfl, h2, rfl⟩ := gin_read S ht r1 hz
    exact ⟨s, r, rfl, rfl, h2, q w1 _ e1 rfl o1 rfl⟩
theorem st_gin (S : Sx k X) {neg : Bool} {t : List (Str × Nat)} {p' : Pos} (hl : k.tb.lookup x = some t) (hg : Gl X x) (hd : (x == ("__debug__" : Str)) = false) (ha : PE X a (tE k W ia)) :
    PT X (.Compare a [if neg then .NotIn else .In] [.Name x p'] pos) (tT k W (.gin neg x t ia)) := by
  obtain ⟨d, es, m, hm, D, ht⟩ := S.tb x t hl
  cases neg with
  | false =>
    refine (pt_cmpR (op_in_kd D) ha (pe_glob (v := .ref d) hg hm rfl hd) rfl).imp fun σ H Q ⟨w, env, e0, ok, er, h⟩ => ?_
    subst e0
    refine stepE ok er h (fun _ _ z => z) fun u w1 x e1 o1 r1 er1 hx1 h1 => ?_
    obtain ⟨z, hz, b, eb, q⟩ := of_post' h1
    obtain ⟨s, r, rfl, h2, ez⟩ := gin_read S ht r1 hz
    subst eb
    injection ez with ez
    exact ⟨s, r, rfl, rfl, h2, r.isSome, rfl, by rw [← show b = r.isSome from ez]; exact q w1 e1 rfl o1⟩
  | true =>
    refine (pt_cmpR (op_notIn_kd D) ha (pe_glob (v := .ref d) hg hm rfl hd) rfl).imp fun σ H Q ⟨w, env, e0, ok, er, h⟩ => ?_
    subst e0
    refine stepE ok er h (fun _ _ z => z) fun u w1 x e1 o1 r1 er1 hx1 h1 => ?_
    obtain ⟨z, hz, b, eb, q⟩ := of_post' h1
    obtain ⟨s, r, rfl, h2, ez⟩ := gin_read S ht r1 hz
    subst eb
    injection ez with ez
    exact ⟨s, r, rfl, rfl, h2, !r.isSome, rfl, by rw [← show b = !r.isSome from ez]; exact q w1 e1 rfl o1⟩
theorem s_gget (S : Sx k X) {t : List (Str × Nat)} {p' : Pos} (hl : k.tb.lookup x = some t) (hg : Gl X x) (hd : (x == ("__debug__" : Str)) = false) (hs : PlainIx a) (ha : PE X a (tE k W ia)) :
    PE X (.Subscript (.Name x p') a pos) (tE k W (.gget x t ia)) := by
  obtain ⟨d, es, m, hm, D, ht⟩ := S.tb x t hl
  refine (pe_ix ix_kdict (pe_glob (v := .ref d) hg hm rfl hd) ha hs).imp fun σ H Q ⟨w, env, e0, ok, er, h⟩ => ?_
  subst e0
  refine stepE ok er h (fun _ _ z => z) fun u w1 x e1 o1 r1 er1 hx1 h1 => ?_
  obtain ⟨z, hz, q⟩ := of_post' h1
  cases u <;> first
    | (cases hz; done)
    | skip
  rename_i s
  have hz' : (t.lookup s).map Val.fn = some z := hz
  cases hj : t.lookup s with
  | none => rw [hj] at hz'; cases hz'
  | some j =>
    rw [hj] at hz'
    have e : Val.fn j = z := Option.some.inj hz'
    subst e
    obtain ⟨f, h2, h3⟩ := (ht s).2 j hj
    exact ⟨d, s, .ref f, rfl, r1, ⟨es, m, _, D.at_, D.lit, h3, rfl⟩, q w1 (.ref f) e1 rfl o1 ⟨f, h2, rfl⟩⟩
theorem s_mk (S : Sx k X) (tk : Takes X W) (wc : Wc W) {j : Nat} {fi : FI} (hT : k.T[j]? = some fi) (hn : fi.name = "__init__") (hcl : fi.cls = some x) (hg : Gl X x) (hd : (x == ("__debug__" : Str)) = false) (ha : PA X (e :: es) (tAs k W ia))
    (he : starEach (e :: es) X.env = (false, eval e X.env) :: starEach es X.env) (hpl : (backTo pos (starEach es X.env)).any (·.1) = false) : PE X (.Call (.Name x p) (e :: es) [] pos) (tE k W (.mk x j ia)) := by
  obtain ⟨f, fd, hf, hk, hb, F, _, hc⟩ := S.fn j fi hT
  have F : FnOk X.prog X.w X.K X.mg X.base (L2.CX X.prog X.w) (3 * k.n) f fd fi.ps (spR k j) := F k.G.hid
  obtain ⟨C, hC, _, hM⟩ := hc x hcl
  refine (pe_make (E := fun cls d H => W cls d [] H) (hM hn) F (S.room.mono (by omega)) hg (S.cl x C hC).2 hb .nil (passes_call tk fun cls d σ H z => wc cls d [] σ H z) ha hd he hpl).imp fun σ H Q ⟨w, env, e0, ok, er, h⟩ => ?_
  subst e0
  refine stepAs ok er h (fun _ _ z => z) fun vs w1 xs e1 o1 r1 er1 hx1 h1 => ?_
  intro q dx hq hdx hne
  have e2 := ext_new (w := w1) (o := .own q) hdx
  have o2 : Wd.Ok k.G ⟨w1.ρ, upd w1.H dx (.own q), w1.S⟩ := ok_new o1 hdx
  have hq2 : upd w1.H dx (.own q) q = none := by rw [upd_ne hne.symm]; exact hq
  have e3 := ext_loc (w := ⟨w1.ρ, upd w1.H dx (.own q), w1.S⟩) (o := .ins C dx []) (b := .inst x []) o2 hq2
  have o3 : Wd.Ok k.G ⟨w1.ρ ++ [q], upd (upd w1.H dx (.own q)) q (.ins C dx []), w1.S ++ [.inst x []]⟩ := ok_loc o2 hq2 ⟨C, dx, [], hC, upd_same, rfl⟩
  have hat : (w1.ρ ++ [q])[w1.S.length]? = some q := by
    rw [← o1.len, List.getElem?_append_right (Nat.le_refl _), Nat.sub_self]
    rfl
  refine ⟨⟨w1.ρ ++ [q], upd (upd w1.H dx (.own q)) q (.ins C dx []), w1.S ++ [.inst x []]⟩, .loc w1.S.length :: vs, rfl, o3, ?_, ?_⟩
  · refine ⟨.ref q, xs, by rw [List.append_nil], ⟨q, hat, rfl⟩, ?_⟩
    exact o2.reps e3 (o1.reps e2 r1)
  · refine R.post_mono (R.post_bind h1) (fun v S' z w' y e4 eS o4 r4 => ?_) fun y S' z w' cls d e4 eS o4 r => wc cls d σ [] _ (hx1 y S' z w' cls d ((e2.trans e3).trans e4) eS o4 r)
    cases v <;> first
      | exact False.elim z
      | skip
    refine ⟨r4, ?_⟩
    exact z w' (.ref q) (((e1.trans e2).trans e3).trans e4) eS o4 ⟨q, e4.at hat, rfl⟩
theorem call_attr {args : List Expr} {env : PySem.Env} : eval (.Call (.Attribute o m apos) args [] pos) env = (do
    let ov ← attributeBase o m env (eval o env)
    standAt apos.atName
    methodCall o m apos pos env ov (args.length + 0) (backTo pos (starEach args env)) (backToKw pos (keywordEach [] env))) := by rfl
theorem s_mcall (S : Sx k X) (tk : Takes X W) (wc : Wc W) {j : Nat} {fi : FI} (hT : k.T[j]? = some fi) (hn : fi.name = m) (hcl : fi.cls = some cn) (hb0 : attributeBase o m X.env (eval o X.env) = eval o X.env)
    (hline : (apos.endLine == pos.line) = true) (hfew : ((backTo pos (starEach (e :: es) X.env)).all (fun x => !x.1) && decide ((e :: es).length < 30)) = true) (ho : PE X o (tE k W io)) (ha : PA X (e :: es) (tAs k W ia))
    (he : starEach (e :: es) X.env = (false, eval e X.env) :: starEach es X.env) (hpl : (backTo pos (starEach es X.env)).any (·.1) = false) : PE X (.Call (.Attribute o m apos) (e :: es) [] pos) (tE k W (.mcall cn m j io ia)) := by
  obtain ⟨f, fd, hf, hk, hb, F, _, hc⟩ := S.fn j fi hT
  have F : FnOk X.prog X.w X.K X.mg X.base (L2.CX X.prog X.w) (3 * k.n) f fd fi.ps (spR k j) := F k.G.hid
  obtain ⟨C, hC, hM, _⟩ := hc cn hcl
  rw [hn] at hM
  have ht : eval (.Call (.Attribute o m apos) (e :: es) [] pos) X.env = (do
      let ov ← eval o X.env
      standAt apos.atName
      let (f, first) ← holding [ov] (getMethod ov m (plainOf o X.env))
      callWith pos f first (backTo pos (starEach (e :: es) X.env)) (backToKw pos (keywordEach [] X.env))) := by
    rw [call_attr, hb0]
    have hm : ∀ ov, methodCall o m apos pos X.env ov ((e :: es).length + 0) (backTo pos (starEach (e :: es) X.env)) (backToKw pos (keywordEach [] X.env)) = _ := fun ov => mcall_line (by
      rw [Bool.and_eq_true] at hfew
      unfold methodCallForm
      rw [hfew.1]
      have h2 := of_decide_eq_true hfew.2
      simp only [backToKw, keywordEach, List.map_nil, List.all_nil, List.isEmpty_nil]
      simpa using h2) hline
    simp only [hm]
  refine (pe_meth (pl := plainOf o X.env) (E := fun cls d H => W cls d [] H) ho (S.cl cn C hC).1 hM F (S.room.mono (by omega)) hb .nil (passes_call tk fun cls d σ H z => wc cls d [] σ H z) ha he hpl ht).imp fun σ H Q ⟨w, env, e0, ok, er, h⟩ => ?_
  subst e0
  refine stepE ok er h (fun _ _ z => z) fun u w1 x e1 o1 r1 er1 hx1 h1 => ?_
  cases u <;> first
    | exact False.elim h1
    | skip
  rename_i l
  obtain ⟨q, hq, rfl⟩ := r1
  have h2 : (match w1.S[l]? with
    | some (.inst c' fs) => if c' = cn ∧ fs.lookup m = none then (evAs k.C ia env w1.S).bind fun vs S2 => k.C j (.loc l :: vs) S2 else .stuck
    | _ => .stuck).post (PV k.G w Q) (XW k.G w W σ) := h1
  cases hs : w1.S[l]? with
  | none => rw [hs] at h2; exact h2.elim
  | some ob =>
    rw [hs] at h2
    cases ob with
    | lst xs => exact h2.elim
    | inst c' fs =>
      have h3 : (if c' = cn ∧ fs.lookup m = none then (evAs k.C ia env w1.S).bind fun vs S2 => k.C j (.loc l :: vs) S2 else .stuck).post (PV k.G w Q) (XW k.G w W σ) := h2
      by_cases hcc : c' = cn ∧ fs.lookup m = none
      · rw [if_pos hcc] at h3
        obtain ⟨rfl, hlk⟩ := hcc
        obtain ⟨C', dx, fv, hC', hH, hF⟩ := inst_at o1 hq hs
        obtain rfl : C' = C := Option.some.inj (hC'.symm.trans hC)
        refine ⟨q, dx, fv, rfl, hH, (hF.look (f := m)).2 hlk, stepAs o1 er1 h3 hx1 fun vs w2 xs e2 o2 r2 er2 hx2 h4 => ?_⟩
        refine ⟨w2, .loc l :: vs, rfl, o2, ⟨.ref q, xs, by rw [List.append_nil], ⟨q, e2.at hq, rfl⟩, r2⟩, ?_⟩
        exact R.post_mono h4 (fun v S' z => z.ext (e1.trans e2)) fun y S' z w' cls d e4 eS o4 r => wc cls d σ [] _ (hx2 y S' z w' cls d e4 eS o4 r)
      · rw [if_neg hcc] at h3
        exact h3.elim
end
end Lt
set_option maxHeartbeats 4000000
namespace Lt
open PySem PySem.Spec PyProof.Rows L2
def SqK (t : Bool) (K : PySem.W.Frag) (H : Hp) (a : Addr) (xs : List V) : Prop := match t with
  | true => SqT K H a xs
  | false => SqL K H a xs
def ItSt (t : Bool) (h : Heap) (it a : Addr) (i : Nat) : Prop := match t with
  | true => h.IsTupleIter it a i
  | false => h.IsListIter it a i
def SrcAt (t : Bool) (h : Heap) (a : Addr) (items : Array Value) : Prop := match t with
  | true => h.IsTuple a items
  | false => h.IsList a items
def itObj (t : Bool) (a : Addr) : Obj := match t with
  | true => { cls := .type "tuple_iterator", data := .fields #[.ref a, .int 0 0] }
  | false => { cls := .type "list_iterator", data := .fields #[.ref a, .int 0 0] }
theorem drawsK {prog : Program} {w : World} {A : Around} (t : Bool) (hh : A.handled = none) (it a : Addr) (hne : a ≠ it) (items : Array Value) : Draws prog w A it [it, a] items.size (fun i v => items[i]? = some v) (fun i h => ItSt t h it a i ∧ SrcAt t h a items) := by
  cases t with
  | true => exact Draws.tuple hh it a hne items
  | false => exact Draws.list hh it a hne items
theorem beginsK (t : Bool) (a : Addr) (items : Array Value) : Begins (.ref a) (itObj t a) (fun h => SrcAt t h a items) := by
  cases t with
  | true => exact begins_tuple a items
  | false => exact begins_list a items
section
variable {X : Cx} {pins : List (Addr × Obj)} {σ : L2.St} {H : Hp} {s : Shared} {a : Addr} {xs ys : List V} {t : Bool}
theorem inv_sq (I : Inv X pins σ H s) (h : SqK t X.K H a xs) : ∃ its : List Value, Vals xs its ∧ SrcAt t s.heap a its.toArray ∧ xs.length ≤ sizeLine ∧ a < s.heap.objs.size := by
  cases t with
  | true =>
    obtain ⟨its, r, p, z⟩ := I.tuple h
    exact ⟨its, r, p, z, p.lt⟩
  | false =>
    obtain ⟨its, r, p, z⟩ := I.list h
    exact ⟨its, r, p.isList, z, p.lt⟩
theorem inv_sq_inj (I : Inv X pins σ H s) (h : SqK t X.K H a xs) (h' : SqK t X.K H a ys) : xs = ys := by
  cases t with
  | true => exact I.tuple_inj h h'
  | false => exact I.list_inj h h'
theorem itSt_at {h h' : Heap} {it : Addr} {i : Nat} (x : ItSt t h it a i) (k : ∀ o, h.get? it = some o → h'.get? it = some o) : ItSt t h' it a i := by
  cases t with
  | true => exact Heap.IsTupleIter.at x k
  | false => exact Heap.IsListIter.at x k
theorem itSt_obj {h : Heap} {it : Addr} {i : Nat} (x : ItSt t h it a i) : ∃ o, h.get? it = some o ∧ ∀ v, o.data ≠ .cell v := by
  cases t with
  | true =>
    obtain ⟨o, e, c, d⟩ := x
    exact ⟨o, e, fun v z => by rw [d] at z; cases z⟩
  | false =>
    obtain ⟨o, e, c, d⟩ := x
    exact ⟨o, e, fun v z => by rw [d] at z; cases z⟩
theorem itSt_new {h : Heap} {it : Addr} (x : h.get? it = some (itObj t a)) : ItSt t h it a 0 := by
  cases t with
  | true => exact ⟨_, x, rfl, rfl⟩
  | false => exact ⟨_, x, rfl, rfl⟩
end
def IteK (t : Bool) (K : PySem.W.Frag) (a : Addr) : It :=
  ⟨fun i H => ∃ (xs : List V) (x : V), SqK t K H a xs ∧ xs[i]? = some x, fun i H v H' => ∃ T x, v = .ref T ∧ H T = none ∧ H' = upd H T (.tup [.int (i : Nat), x]) ∧ ∀ xs, SqK t K H a xs → xs[i]? = some x, fun i H => ∃ xs : List V, SqK t K H a xs ∧ xs.length = i⟩
theorem turn_enumK {P : Program} {w : World} {K : PySem.W.Frag} {elts : List Expr} {kk : Nat} {tpos : Pos} {t : Bool} (a e it : Addr) (hei : e ≠ it) (hea : e ≠ a) (hia : a ≠ it) :
    Turn P w K (.Tuple elts kk tpos) (IteK t K a) [e, it] e (fun i h => (∃ old, IsEnum h e it ((0 : Int) + (i : Int)) old) ∧ ItSt t h it a i) where
  mem := by simp
  obj := fun i h st b hb => by
    obtain ⟨⟨old, he⟩, hi⟩ := st
    have e' : b = e ∨ b = it := by simpa using hb
    rcases e' with z | z
    · rw [z]; exact ⟨_, he, fun v q => nomatch q⟩
    · rw [z]; exact itSt_obj hi
  keep := fun i h h' st k => let ⟨⟨old, he⟩, hi⟩ := st; ⟨⟨old, k e (by simp) _ he⟩, itSt_at hi fun o q => k it (by simp) o q⟩
  item := by
    intro X hP hw hK hc i pins s σ H E I hf st hg
    subst hP hw hK
    obtain ⟨xs, x, hq, hx⟩ := hg
    obtain ⟨its, rv, p, hz, hal⟩ := inv_sq I hq
    obtain ⟨u, hu, ru⟩ := rv.get hx
    have hi : i < its.toArray.size := by
      have := (List.getElem?_eq_some_iff.mp hu).1
      simpa using this
    have W := GoesN.enumFrom (prog := X.prog) (w := X.w) (A := X.A) (elts := elts) (x1 := kk) (pos := tpos) 0 (drawsK t (A := X.A.in1) (I.ok.hd hc) it a hia its.toArray) e hei (by simp [hei, hea]) (by simp)
    refine W.goes i s _ E hi ⟨st.1, st.2, p⟩ fun v h' tk hY st' hk htk => ?_
    obtain ⟨T, t1, y, rfl, hT, hy, o, ho, hcl, n, hd⟩ := hY
    have ey : y = u := by
      have hy' : its.toArray[i]? = some y := hy
      rw [List.getElem?_toArray, hu] at hy'
      exact (Option.some.inj hy').symm
    subst ey
    have hfl : ∀ b ∈ [e, it], b < s.heap.objs.size := fun b hb => by
      have e' : b = e ∨ b = it := by simpa using hb
      rcases e' with z | z
      · rw [z]; obtain ⟨⟨_, he⟩, _⟩ := st; exact Heap.lt_size he
      · rw [z]; obtain ⟨_, he, _⟩ := itSt_obj st.2; exact Heap.lt_size he
    have new : ObjOk X.prog X.w (upd H T (.tup [.int (i : Nat), x])) h' T (.tup [.int (i : Nat), x]) :=
      ⟨by show 2 ≤ sizeLine; decide, [.int ((0 : Int) + (i : Int)) t1, y], .cons ⟨t1, by rw [Int.zero_add]⟩ (.cons ru .nil), ⟨o, ho, hcl, n, hd⟩⟩
    have I1 := I.turnedNew (t' := tk) (ch := [e, it]) hk hf hT new
    refine ⟨.ref T, _, I1, rfl, ⟨T, x, rfl, I.hok.fresh hT, rfl, fun ys hy2 => by rw [inv_sq_inj I hy2 hq]; exact hx⟩, ⟨st'.1, st'.2.1⟩, fun b hb => ?_⟩
    rw [upd_ne (Nat.ne_of_lt (Nat.lt_of_lt_of_le (hfl b hb) hT))]
    exact (hf b hb).1
  done := by
    intro X hP hw hK hc i pins s σ H E I hf st hg
    subst hP hw hK
    obtain ⟨xs, hq, hx⟩ := hg
    obtain ⟨its, rv, p, hz, hal⟩ := inv_sq I hq
    have hl := rv.length
    have W := GoesN.enumFrom (prog := X.prog) (w := X.w) (A := X.A) (elts := elts) (x1 := kk) (pos := tpos) 0 (drawsK t (A := X.A.in1) (I.ok.hd hc) it a hia its.toArray) e hei (by simp [hei, hea]) (by simp)
    have hn : its.toArray.size = i := by rw [List.size_toArray]; omega
    rw [hn] at W
    exact W.stops s (fun s1 => Inv X pins σ H s1) E ⟨st.1, st.2, p⟩ fun h' tk hk htk => I.turnedL (t' := tk) (ch := [e, it]) hk hf
  self := fun A i s Q E st h => let ⟨⟨_, he⟩, _⟩ := st; wpAny_pyIter_enum he h
set_option maxHeartbeats 8000000 in
theorem meets_enum0 {v : Value} {o : Obj} {H : Heap → Prop} (B : Begins v o H) :
    Meets (Builtin.«enumerate.__new__» ⟨[.type "enumerate", v], []⟩) (fun _ R s => H s.heap ∧
      R (.ok (.ret (.ref (s.heap.push o).objs.size))) { s with heap := (s.heap.push o).push { cls := .type "enumerate", data := .fields #[.none, .bool false, .ref s.heap.objs.size, rawInt 0, .none, .none] } }) :=
  .of_wp fun prog w A R s h => by
    obtain ⟨hp, g, d, tk, os⟩ := s; obtain ⟨h1, h⟩ := h
    have hsub := sub_enumerate
    have q1 : ∀ {A' : Around} {E : Value → Shared → Prop} {Q : Value → Shared → Prop}, Q (.ref hp.objs.size) ⟨hp.push o, g, d, tk, os⟩ → wpAny (model prog w) A' (pyIter v) Q E ⟨hp, g, d, tk, os⟩ :=
      fun q => B.iter prog w _ _ ⟨hp, g, d, tk, os⟩ _ h1 q
    wp_walk using q1
    refine wpAny_stack_any fun st => wpAny_pure ?_
    split
    · rename_i c _ _ _ _ _
      cases (c == Value.type "enumerate")
      · wp_walk using q1
        exact ⟨_, rfl, h⟩
      · wp_walk using q1
        exact ⟨_, rfl, h⟩
    · wp_walk using q1
      exact ⟨_, rfl, h⟩
theorem call_enum0 {prog : Program} {w : World} {A : Around} {E : Value → Shared → Prop} {s : Shared} {v : Value} {o : Obj} {H : Heap → Prop} {Q : Value → Shared → Prop} (B : Begins v o H) (h1 : H s.heap)
    (h : ∀ h', IsEnum h' (s.heap.objs.size + 1) s.heap.objs.size 0 .none → h'.get? s.heap.objs.size = some o → h'.objs.size = s.heap.objs.size + 2 →
      (∀ b o, s.heap.get? b = some o → h'.get? b = some o) → Q (.ref (s.heap.objs.size + 1)) { s with heap := h' }) :
    wpAny (model prog w) A (call (.type "enumerate") [v]) Q E s := by
  refine callType_new F.called_enumerate (by decide) (F.typeCall_enumerate_1 _) (F.newCall_enumerate_1 _) (fun obj => F.args_object_init_2 obj _) F.entry_enumerate_new
    (meets_enum0 B) ⟨h1, ?_⟩
  have hz : (s.heap.push o).objs.size = s.heap.objs.size + 1 := Heap.size_push ..
  show _ ∧ _
  rw [hz]
  have he : IsEnum ((s.heap.push o).push { cls := .type "enumerate", data := .fields #[.none, .bool false, .ref s.heap.objs.size, rawInt 0, .none, .none] }) (s.heap.objs.size + 1) s.heap.objs.size 0 .none := by
    have := Heap.get?_push_size (s.heap.push o) (o := { cls := .type "enumerate", data := .fields #[.none, .bool false, .ref s.heap.objs.size, rawInt 0, .none, .none] }) rfl
    rw [hz] at this; exact this
  refine ⟨⟨_, he, rfl⟩, h _ he (Heap.get?_push_of_some _ (Heap.get?_push_size _ B.free)) (by rw [Heap.size_push, hz]) fun b o x => Heap.get?_push_of_some _ (Heap.get?_push_of_some _ x)⟩
def iEnumK (K : PySem.W.Frag) (ta : TA) : TI := fun σ H R => ta σ H fun vs H1 => ∃ a t xs, vs = [.ref a] ∧ SqK t K H1 a xs ∧ R (IteK t K a) H1
theorem pi_enumK {X : Cx} {e : Expr} {ta : TA} {p pos tpos : Pos} {elts : List Expr} {kk : Nat} (hg : Gl X "enumerate") (hm : X.mg "enumerate" = none) (ha : PA X [e] ta) (hs : starEach [e] X.env = [(false, eval e X.env)]) :
    PI X (.Tuple elts kk tpos) (.Call (.Name "enumerate" p) [e] [] pos) (iEnumK X.K ta) := by
  refine ⟨fun pins s σ H R I h => ?_⟩
  refine Call_ (ld_blt I hg hm boot_enumerate (PyProof.Rows.callWith_type1 (thn (ha.run pos pins s σ H _ I h) fun us s1 ⟨vs, H1, I1, r1, q1⟩ => ?_) hs rfl))
  obtain ⟨a, t, xs, ex, hq, q⟩ := q1
  subst ex
  cases r1 with
  | cons r rr =>
    cases rr
    cases r
    obtain ⟨its, rv, p', hz, hal⟩ := inv_sq I1 hq
    refine call_enum0 (beginsK t a its.toArray) p' fun h' he hit hsz hk => wpAny_pyIter_enum he ?_
    have I2 : Inv X pins σ H1 { s1 with heap := h' } := I1.kept (t' := s1.toks) hk
    refine ⟨s1.heap.objs.size + 1, [s1.heap.objs.size + 1, s1.heap.objs.size], _, _, H1, rfl, I2, turn_enumK a (s1.heap.objs.size + 1) s1.heap.objs.size (Nat.succ_ne_self _) (Nat.ne_of_gt (Nat.lt_succ_of_lt hal)) (Nat.ne_of_lt hal), ⟨⟨.none, he⟩, itSt_new hit⟩, fun b hb => ?_, q⟩
    have e' : b = s1.heap.objs.size + 1 ∨ b = s1.heap.objs.size := by simpa using hb
    have hle : s1.heap.objs.size ≤ b := by
      rcases e' with z | z
      · rw [z]; exact Nat.le_add_right _ _
      · rw [z]; exact Nat.le_refl _
    exact I1.fpOk hle (I1.hok.fresh hle)
theorem sub5 {z TI TO i1 i2 c : Addr} (h : c ∈ [z, TO, i1, i2]) : c ∈ [z, TI, TO, i1, i2] := by
  rcases List.mem_cons.mp h with h | h
  · rw [h]; exact List.mem_cons_self
  · exact List.mem_cons_of_mem _ (List.mem_cons_of_mem _ h)
def ItzK (t t' : Bool) (K : PySem.W.Frag) (a b : Addr) : It :=
  ⟨fun i H => ∃ (xs ys : List V) (x y : V), SqK t K H a xs ∧ SqK t' K H b ys ∧ xs[i]? = some x ∧ ys[i]? = some y,
    fun i H v H' => ∃ T x y, v = .ref T ∧ H T = none ∧ H' = upd H T (.tup [x, y]) ∧ (∀ xs, SqK t K H a xs → xs[i]? = some x) ∧ ∀ ys, SqK t' K H b ys → ys[i]? = some y,
    fun i H => ∃ xs ys : List V, SqK t K H a xs ∧ SqK t' K H b ys ∧ i = min xs.length ys.length⟩
theorem turn_zipK {P : Program} {w : World} {K : PySem.W.Frag} {elts : List Expr} {kk : Nat} {tpos : Pos} {t t' : Bool} {a b z TI TO i1 i2 : Addr} (D : ZipSep2 z TI TO i1 i2 [i1, a] [i2, b]) (ha1 : a ≠ i1) (hb2 : b ≠ i2) :
    Turn P w K (.Tuple elts kk tpos) (ItzK t t' K a b) [z, TI, TO, i1, i2] z (fun i h => IsZip h z TI TO .none ∧ IsTupOf2 h TI (.ref i1) (.ref i2) ∧ (∃ x y, IsTupOf2 h TO x y) ∧ ItSt t h i1 a i ∧ ItSt t' h i2 b i) where
  mem := by simp
  obj := fun i h st c hc => by
    obtain ⟨hz, hTI, ⟨x, y, hTO⟩, h1, h2⟩ := st
    have e' : c = z ∨ c = TI ∨ c = TO ∨ c = i1 ∨ c = i2 := by simpa using hc
    rcases e' with q | q | q | q | q
    · rw [q]; exact ⟨_, hz, fun v q => nomatch q⟩
    · rw [q]; exact ⟨_, hTI, fun v q => nomatch q⟩
    · rw [q]; exact ⟨_, hTO, fun v q => nomatch q⟩
    · rw [q]; exact itSt_obj h1
    · rw [q]; exact itSt_obj h2
  keep := fun i h h' st k => by
    obtain ⟨hz, hTI, ⟨x, y, hTO⟩, h1, h2⟩ := st
    exact ⟨k z (by simp) _ hz, k TI (by simp) _ hTI, ⟨x, y, k TO (by simp) _ hTO⟩, itSt_at h1 fun o q => k i1 (by simp) o q, itSt_at h2 fun o q => k i2 (by simp) o q⟩
  item := by
    intro X hP hw hK hc i pins s σ H E I hf st hg
    subst hP hw hK
    obtain ⟨xs, ys, x, y, hqx, hqy, hx, hy⟩ := hg
    obtain ⟨its, rv, p, _, hal⟩ := inv_sq I hqx
    obtain ⟨its2, rv2, p2, _, hbl⟩ := inv_sq I hqy
    obtain ⟨u, hu, ru⟩ := rv.get hx
    obtain ⟨u2, hu2, ru2⟩ := rv2.get hy
    have hi1 : i < its.toArray.size := by
      have := (List.getElem?_eq_some_iff.mp hu).1
      simpa using this
    have hi2 : i < its2.toArray.size := by
      have := (List.getElem?_eq_some_iff.mp hu2).1
      simpa using this
    have W := GoesN.zip2 (prog := X.prog) (w := X.w) (A := X.A) (elts := elts) (x1 := kk) (pos := tpos) D (drawsK t (A := X.A.in1) (I.ok.hd hc) i1 a ha1 its.toArray) (drawsK t' (A := X.A.in1) (I.ok.hd hc) i2 b hb2 its2.toArray)
    refine W.goes i s _ E (by omega) ⟨st.1, st.2.1, st.2.2.1, ⟨st.2.2.2.1, p⟩, ⟨st.2.2.2.2, p2⟩⟩ fun v h' tk hY st' hk htk => ?_
    obtain ⟨T, x1, y1, rfl, hT, hx1, hy1, o, ho, hcl, n, hd⟩ := hY
    have ex : x1 = u := by
      have h' : its.toArray[i]? = some x1 := hx1
      rw [List.getElem?_toArray, hu] at h'
      exact (Option.some.inj h').symm
    have ey : y1 = u2 := by
      have h' : its2.toArray[i]? = some y1 := hy1
      rw [List.getElem?_toArray, hu2] at h'
      exact (Option.some.inj h').symm
    subst ex
    subst ey
    have hfl : ∀ c ∈ [z, TI, TO, i1, i2], c < s.heap.objs.size := fun c hc => by
      obtain ⟨hz, hTI, ⟨x, y, hTO⟩, h1, h2⟩ := st
      have e' : c = z ∨ c = TI ∨ c = TO ∨ c = i1 ∨ c = i2 := by simpa using hc
      rcases e' with q | q | q | q | q
      · rw [q]; exact Heap.lt_size hz
      · rw [q]; exact Heap.lt_size hTI
      · rw [q]; exact Heap.lt_size hTO
      · rw [q]; obtain ⟨_, he, _⟩ := itSt_obj h1; exact Heap.lt_size he
      · rw [q]; obtain ⟨_, he, _⟩ := itSt_obj h2; exact Heap.lt_size he
    have new : ObjOk X.prog X.w (upd H T (.tup [x, y])) h' T (.tup [x, y]) :=
      ⟨by show 2 ≤ sizeLine; decide, [x1, y1], .cons ru (.cons ru2 .nil), ⟨o, ho, hcl, n, hd⟩⟩
    have I1 := I.turnedNew (t' := tk) (ch := [z, TI, TO, i1, i2]) (fun c o hb q => hk c o (fun q' => hb (sub5 q')) q) hf hT new
    refine ⟨.ref T, _, I1, rfl, ⟨T, x, y, rfl, I.hok.fresh hT, rfl, fun l hl => by rw [inv_sq_inj I hl hqx]; exact hx, fun l hl => by rw [inv_sq_inj I hl hqy]; exact hy⟩, ⟨st'.1, st'.2.1, st'.2.2.1, st'.2.2.2.1.1, st'.2.2.2.2.1⟩, fun c hcm => ?_⟩
    rw [upd_ne (Nat.ne_of_lt (Nat.lt_of_lt_of_le (hfl c hcm) hT))]
    exact (hf c hcm).1
  done := by
    intro X hP hw hK hc i pins s σ H E I hf st hg
    subst hP hw hK
    obtain ⟨xs, ys, hqx, hqy, hend⟩ := hg
    obtain ⟨its, rv, p, _, hal⟩ := inv_sq I hqx
    obtain ⟨its2, rv2, p2, _, hbl⟩ := inv_sq I hqy
    have l1 := rv.length
    have l2 := rv2.length
    have W := GoesN.zip2 (prog := X.prog) (w := X.w) (A := X.A) (elts := elts) (x1 := kk) (pos := tpos) D (drawsK t (A := X.A.in1) (I.ok.hd hc) i1 a ha1 its.toArray) (drawsK t' (A := X.A.in1) (I.ok.hd hc) i2 b hb2 its2.toArray)
    have hn : min its.toArray.size its2.toArray.size = i := by rw [List.size_toArray, List.size_toArray]; omega
    rw [hn] at W
    exact W.stops s (fun s1 => Inv X pins σ H s1) E ⟨st.1, st.2.1, st.2.2.1, ⟨st.2.2.2.1, p⟩, ⟨st.2.2.2.2, p2⟩⟩ fun h' tk hk htk => I.turnedL (t' := tk) (ch := [z, TI, TO, i1, i2]) (fun c o hb q => hk c o (fun q' => hb (sub5 q')) q) hf
  self := fun A i s Q E st h => wpAny_pyIter_zip st.1 h
def iZipK (K : PySem.W.Frag) (ta : TA) : TI := fun σ H R => ta σ H fun vs H1 => ∃ a b t t' xs ys, vs = [.ref a, .ref b] ∧ SqK t K H1 a xs ∧ SqK t' K H1 b ys ∧ R (ItzK t t' K a b) H1
theorem pi_zipK {X : Cx} {e e2 : Expr} {ta : TA} {p pos tpos : Pos} {elts : List Expr} {kk : Nat} (hg : Gl X "zip") (hm : X.mg "zip" = none) (ha : PA X [e, e2] ta)
    (hs : starEach [e, e2] X.env = (false, eval e X.env) :: starEach [e2] X.env) (hpl : (backTo pos (starEach [e2] X.env)).any (·.1) = false) :
    PI X (.Tuple elts kk tpos) (.Call (.Name "zip" p) [e, e2] [] pos) (iZipK X.K ta) := by
  refine ⟨fun pins s σ H R I h => ?_⟩
  refine Call_ (ld_blt I hg hm PyProof.Rows.boot_zip (PyProof.Rows.callWith_type1 (thn (ha.run pos pins s σ H _ I h) fun us s1 ⟨vs, H1, I1, r1, q1⟩ => ?_) hs hpl))
  obtain ⟨a, b, t, t', xs, ys, ex, hqx, hqy, q⟩ := q1
  subst ex
  cases r1 with
  | cons r rr =>
    cases rr with
    | cons r' rr =>
      cases rr
      cases r
      cases r'
      obtain ⟨its, rv, p1, _, la⟩ := inv_sq I1 hqx
      obtain ⟨its2, rv2, p2, _, lb⟩ := inv_sq I1 hqy
      refine zip_begins2 (beginsK t a its.toArray) (beginsK t' b its2.toArray) p1 p2 fun h' hz hTI hTO h1 h2 hsz hk => wpAny_pyIter_zip hz ?_
      have I2 : Inv X pins σ H1 { s1 with heap := h' } := I1.kept (t' := s1.toks) hk
      refine ⟨s1.heap.objs.size + 4, [s1.heap.objs.size + 4, s1.heap.objs.size + 2, s1.heap.objs.size + 3, s1.heap.objs.size, s1.heap.objs.size + 1], _, _, H1, rfl, I2,
        turn_zipK (zip_sep2 (fp1 := [a]) (fp2 := [b]) (by simpa using la) (by simpa using lb)) (Nat.ne_of_lt la) (Nat.ne_of_lt (Nat.lt_succ_of_lt lb)), ⟨hz, hTI, ⟨_, _, hTO⟩, itSt_new h1, itSt_new h2⟩, fun c hcm => ?_, q⟩
      have e' : c = s1.heap.objs.size + 4 ∨ c = s1.heap.objs.size + 2 ∨ c = s1.heap.objs.size + 3 ∨ c = s1.heap.objs.size ∨ c = s1.heap.objs.size + 1 := by simpa using hcm
      have hle : s1.heap.objs.size ≤ c := by
        rcases e' with z | z | z | z | z
        · rw [z]; exact Nat.le_add_right _ _
        · rw [z]; exact Nat.le_add_right _ _
        · rw [z]; exact Nat.le_add_right _ _
        · rw [z]; exact Nat.le_refl _
        · rw [z]; exact Nat.le_add_right _ _
      exact I1.fpOk hle (I1.hok.fresh hle)
def iSeqK (K : PySem.W.Frag) (tl : TE) : TI := fun σ H R => tl σ H fun x H1 => ∃ a, x = .ref a ∧ ((∃ xs, SqL K H1 a xs ∧ R (Itl K a) H1) ∨ (∃ xs, SqT K H1 a xs ∧ R (Itt K a) H1))
theorem pi_seqK {X : Cx} {tg l : Expr} {tl : TE} (hl : PE X l tl) : PI X tg l (iSeqK X.K tl) := by
  refine ⟨fun pins s σ H R I h => ?_⟩
  refine thn (hl.run pins s σ H _ I h) fun v s1 ⟨x, H1, I1, r1, q1⟩ => ?_
  obtain ⟨a, e, q⟩ := q1
  subst e
  cases r1
  rcases q with ⟨xs, hq, q⟩ | ⟨xs, hq, q⟩
  · obtain ⟨its, rv, p, hz⟩ := I1.list hq
    refine wpAny_pyIter_list p.isList ?_
    refine ⟨s1.heap.objs.size, [s1.heap.objs.size], _, _, H1, rfl, I1.kept (t' := s1.toks) fun b o e => Heap.get?_push_of_some _ e, turn_list a _, ⟨_, Heap.get?_push_size _ rfl, rfl, rfl⟩, fun b hb => ?_, q⟩
    have e : b = s1.heap.objs.size := by simpa using hb
    subst e
    exact I1.fpOk (Nat.le_refl _) (I1.hok.fresh (Nat.le_refl _))
  · obtain ⟨its, rv, p, hz⟩ := I1.tuple hq
    refine wpAny_pyIter_tuple (show s1.heap.IsTuple a its.toArray from p) ?_
    refine ⟨s1.heap.objs.size, [s1.heap.objs.size], _, _, H1, rfl, I1.kept (t' := s1.toks) fun b o e => Heap.get?_push_of_some _ e, turn_tuple a _, ⟨_, Heap.get?_push_size _ rfl, rfl, rfl⟩, fun b hb => ?_, q⟩
    have e : b = s1.heap.objs.size := by simpa using hb
    subst e
    exact I1.fpOk (Nat.le_refl _) (I1.hok.fresh (Nat.le_refl _))
end Lt
set_option maxHeartbeats 4000000
namespace Lt
open PySem PySem.Spec PyProof.Rows L2
abbrev IsZipS (h : Heap) (z TI TO : Addr) (f0 : Value) : Prop :=
  h.get? z = some { cls := .type "zip", dict := none, data := .fields #[f0, .bool false, .bool true, .ref TI, .ref TO], slots := #[] }
section
variable {prog : Program} {w : World} {A : Around} {E : Value → Shared → Prop} {s : Shared}
theorem orEnd_item {it : Addr} {fp : List Addr} {n i : Nat} {P : Nat → Value → Prop} {St : Nat → Heap → Prop} (D : Draws prog w A it fp n P St) {Q : Option Value → Shared → Prop} (hi : i < n) (st : St i s.heap)
    (hQ : ∀ x h' tk, P i x → St (i + 1) h' → Heap.SameBut it s.heap h' → Q (some x) { s with heap := h', toks := tk }) : wpAny (model prog w) A (Builtin.SmallTypes.nextOrEnd (.ref it)) Q E s := by
  unfold Builtin.SmallTypes.nextOrEnd
  exact wpAny_bind (wpAny_attempt (D.item i s _ _ hi st fun x h' tk p q r => wpAny_pure (hQ x h' tk p q r)))
theorem orEnd_done {it : Addr} {fp : List Addr} {n : Nat} {P : Nat → Value → Prop} {St : Nat → Heap → Prop} (D : Draws prog w A it fp n P St) {Q : Option Value → Shared → Prop} (st : St n s.heap)
    (hQ : ∀ h', Heap.ExtBut it s.heap h' → Q none { s with heap := h' }) : wpAny (model prog w) A (Builtin.SmallTypes.nextOrEnd (.ref it)) Q E s := by
  unfold Builtin.SmallTypes.nextOrEnd
  refine wpAny_bind (wpAny_attempt (D.done s _ _ st fun h' e hk he => ?_))
  obtain ⟨o, ho, hc⟩ := he
  exact wpAny_bind (wpAny_isInstance (T := "StopIteration") (b := true) ⟨o, ho, hc⟩ isSubtype_stop (wpAny_pure (hQ h' hk)))
variable {z TI TO i1 i2 i3 : Addr} {fp1 fp2 fp3 : List Addr} {n1 n2 n3 i : Nat} {P1 P2 P3 : Nat → Value → Prop} {St1 St2 St3 : Nat → Heap → Prop} {a1 a2 a3 : Value}
theorem zs3_item {Q : Value → Shared → Prop} (S : ZipSep3 z TI TO i1 i2 i3 fp1 fp2 fp3) (D1 : Draws prog w A i1 fp1 n1 P1 St1) (D2 : Draws prog w A i2 fp2 n2 P2 St2) (D3 : Draws prog w A i3 fp3 n3 P3 St3)
    (hz : IsZipS s.heap z TI TO .none) (hTI : IsTupOf3 s.heap TI (.ref i1) (.ref i2) (.ref i3)) (hTO : IsTupOf3 s.heap TO a1 a2 a3) (st1 : St1 i s.heap) (st2 : St2 i s.heap) (st3 : St3 i s.heap) (hlt1 : i < n1) (hlt2 : i < n2) (hlt3 : i < n3)
    (hQ : ∀ x1 x2 x3 h' tk, P1 i x1 → P2 i x2 → P3 i x3 → IsZipS h' z TI TO (rawInt s.heap.objs.size) → IsTupOf3 h' TO x1 x2 x3 → St1 (i + 1) h' → St2 (i + 1) h' → St3 (i + 1) h' → IsTupOf3 h' s.heap.objs.size x1 x2 x3 → h'.objs.size = s.heap.objs.size + 1 →
      (∀ c o, c ≠ z → c ≠ TO → c ≠ i1 → c ≠ i2 → c ≠ i3 → s.heap.get? c = some o → h'.get? c = some o) → Q (.ref s.heap.objs.size) { s with heap := h', toks := tk }) :
    wpAny (model prog w) A (Builtin.«zip.__next__» ⟨[.ref z], []⟩) (fun fin s' => ∃ v, fin = .done (.ret v) ∧ Q v s') E s := by
  obtain ⟨hp, g, d, tk0, os⟩ := s
  show wpAny _ _ (field (.ref z) 2 >>= _) _ _ _
  refine wpAny_bind (wpAny_field hz rfl (x := .bool true) rfl ?_)
  show wpAny _ _ (field (.ref z) 3 >>= _) _ _ _
  refine wpAny_bind (wpAny_field hz rfl (x := .ref TI) rfl ?_)
  refine wpAny_bind (wpAny_seqItems hTI rfl ?_)
  show wpAny _ _ (Builtin.SmallTypes.ownedTupleIsFree (.ref z) >>= _) _ _ _
  refine wpAny_bind ?_
  unfold Builtin.SmallTypes.ownedTupleIsFree
  refine wpAny_bind (wpAny_field hz rfl (x := .none) rfl (wpAny_pure ?_))
  simp only [if_true]
  refine wpAny_bind (wpAny_rule ?_)
  refine wpAny_bind (wpAny_field hz rfl (x := .ref TO) rfl ?_)
  refine wpAny_bind (wpAny_setField_rec hz (by simp) fun g0 hz0 hs0 => ?_)
  replace hz0 : IsZipS g0 z TI TO .ellipsis := hz0
  replace hs0 : Heap.SameBut z hp g0 := hs0
  refine wpAny_bind ?_
  simp only [List.zipIdx_cons, List.zipIdx_nil, List.forIn_cons, List.forIn_nil]
  refine wpAny_bind (wpAny_bind (wpAny_onRaise ?_))
  show wpAny _ _ (Builtin.SmallTypes.nextOrEnd (.ref i1)) _ _ ⟨g0, g, d, tk0, os⟩
  refine orEnd_item D1 hlt1 (D1.over st1 hs0 S.zf1) fun x1 p1 tk1 hx1 sn1 hp1 => ?_
  replace hp1 : Heap.SameBut i1 g0 p1 := hp1
  have hU1 : IsTupOf3 p1 TO a1 a2 a3 := hp1.extBut _ _ S.Ti1 (hs0.extBut _ _ S.TOz hTO)
  refine wpAny_bind (wpAny_seqItems (s := ⟨p1, g, d, tk1, os⟩) hU1 rfl ?_)
  refine wpAny_bind (updateSeq_IsTupOf3 (s := ⟨p1, g, d, tk1, os⟩) hU1 fun g1 hT1 hs1 => ?_)
  replace hT1 : IsTupOf3 g1 TO x1 a2 a3 := hT1
  replace hs1 : Heap.SameBut TO p1 g1 := hs1
  refine wpAny_bind (wpAny_letGo (wpAny_pure ?_))
  refine wpAny_bind (wpAny_bind (wpAny_onRaise ?_))
  show wpAny _ _ (Builtin.SmallTypes.nextOrEnd (.ref i2)) _ _ ⟨g1, g, d, tk1, os⟩
  refine orEnd_item D2 hlt2 (D2.over (D2.over (D2.over st2 hs0 S.zf2) hp1 S.sep1_2) hs1 S.Tf2) fun x2 p2 tk2 hx2 sn2 hp2 => ?_
  replace hp2 : Heap.SameBut i2 g1 p2 := hp2
  have hU2 : IsTupOf3 p2 TO x1 a2 a3 := hp2.extBut _ _ S.Ti2 hT1
  refine wpAny_bind (wpAny_seqItems (s := ⟨p2, g, d, tk2, os⟩) hU2 rfl ?_)
  refine wpAny_bind (updateSeq_IsTupOf3 (s := ⟨p2, g, d, tk2, os⟩) hU2 fun g2 hT2 hs2 => ?_)
  replace hT2 : IsTupOf3 g2 TO x1 x2 a3 := hT2
  replace hs2 : Heap.SameBut TO p2 g2 := hs2
  refine wpAny_bind (wpAny_letGo (wpAny_pure ?_))
  refine wpAny_bind (wpAny_bind (wpAny_onRaise ?_))
  show wpAny _ _ (Builtin.SmallTypes.nextOrEnd (.ref i3)) _ _ ⟨g2, g, d, tk2, os⟩
  refine orEnd_item D3 hlt3 (D3.over (D3.over (D3.over (D3.over (D3.over st3 hs0 S.zf3) hp1 S.sep1_3) hs1 S.Tf3) hp2 S.sep2_3) hs2 S.Tf3) fun x3 p3 tk3 hx3 sn3 hp3 => ?_
  replace hp3 : Heap.SameBut i3 g2 p3 := hp3
  have hU3 : IsTupOf3 p3 TO x1 x2 a3 := hp3.extBut _ _ S.Ti3 hT2
  refine wpAny_bind (wpAny_seqItems (s := ⟨p3, g, d, tk3, os⟩) hU3 rfl ?_)
  refine wpAny_bind (updateSeq_IsTupOf3 (s := ⟨p3, g, d, tk3, os⟩) hU3 fun g3 hT3 hs3 => ?_)
  replace hT3 : IsTupOf3 g3 TO x1 x2 x3 := hT3
  replace hs3 : Heap.SameBut TO p3 g3 := hs3
  refine wpAny_bind (wpAny_letGo (wpAny_pure (wpAny_pure ?_)))
  refine wpAny_bind (wpAny_seqItems (s := ⟨g3, g, d, tk3, os⟩) hT3 rfl ?_)
  refine wpAny_bind (wpAny_newTuple ?_)
  have hsz : g3.objs.size = hp.objs.size := by rw [hs3.1, hp3.1, hs2.1, hp2.1, hs1.1, hp1.1, hs0.1]
  have hzz : IsZipS g3 z TI TO .ellipsis := (hs3.extBut _ _ S.TOz.symm (hp3.extBut _ _ S.zi3 (hs2.extBut _ _ S.TOz.symm (hp2.extBut _ _ S.zi2 (hs1.extBut _ _ S.TOz.symm (hp1.extBut _ _ S.zi1 hz0))))))
  have hkk : ∀ c o, c ≠ z → c ≠ TO → c ≠ i1 → c ≠ i2 → c ≠ i3 → hp.get? c = some o → g3.get? c = some o := fun c o cz cT c1 c2 c3 e =>
    (hs3.extBut _ _ cT (hp3.extBut _ _ c3 (hs2.extBut _ _ cT (hp2.extBut _ _ c2 (hs1.extBut _ _ cT (hp1.extBut _ _ c1 (hs0.extBut _ _ cz e)))))))
  have hj1 : St1 (i + 1) g3 := (D1.over (D1.over (D1.over (D1.over (D1.over sn1 hs1 S.Tf1) hp2 S.sep2_1) hs2 S.Tf1) hp3 S.sep3_1) hs3 S.Tf1)
  have hj2 : St2 (i + 1) g3 := (D2.over (D2.over (D2.over sn2 hs2 S.Tf2) hp3 S.sep3_2) hs3 S.Tf2)
  have hj3 : St3 (i + 1) g3 := (D3.over sn3 hs3 S.Tf3)
  have hzlt : z < g3.objs.size := Heap.lt_size hzz
  show wpAny _ _ (Builtin.SmallTypes.ownedTupleHandOut (.ref z) (.ref g3.objs.size) >>= _) _ _ ⟨g3.push { cls := .type "tuple", data := .seq #[x1, x2, x3] }, g, d, tk3, os⟩
  refine wpAny_bind ?_
  unfold Builtin.SmallTypes.ownedTupleHandOut
  have hz₆ : IsZipS (g3.push { cls := .type "tuple", data := .seq #[x1, x2, x3] }) z TI TO .ellipsis := Heap.get?_push_of_some _ hzz
  refine wpAny_bind (wpAny_setField_rec hz₆ (by simp) fun h₇ hz₇ hs₇ => ?_)
  replace hz₇ : IsZipS h₇ z TI TO (rawInt g3.objs.size) := hz₇
  refine wpAny_setField_rec hz₇ (by simp) fun h₈ hz₈ hs₈ => ?_
  replace hz₈ : IsZipS h₈ z TI TO (rawInt g3.objs.size) := hz₈
  replace hs₇ : Heap.SameBut z (g3.push { cls := .type "tuple", data := .seq #[x1, x2, x3] }) h₇ := hs₇
  replace hs₈ : Heap.SameBut z h₇ h₈ := hs₈
  have up : ∀ c o, c ≠ z → g3.get? c = some o → h₈.get? c = some o := fun c o c1 e => hs₈.extBut _ _ c1 (hs₇.extBut _ _ c1 (Heap.get?_push_of_some _ e))
  have hT₈ : IsTupOf3 h₈ g3.objs.size x1 x2 x3 := hs₈.extBut _ _ (Nat.ne_of_gt hzlt) (hs₇.extBut _ _ (Nat.ne_of_gt hzlt) (Heap.get?_push_size _ rfl))
  have hz8 : h₈.objs.size = g3.objs.size + 1 := by rw [hs₈.1, hs₇.1, Heap.size_push]
  rw [hsz] at hz₈ hT₈ hz8
  refine wpAny_pure ⟨_, rfl, ?_⟩
  show Q (.ref g3.objs.size) ⟨h₈, g, d, tk3, os⟩
  rw [hsz]
  exact hQ x1 x2 x3 h₈ tk3 hx1 hx2 hx3 hz₈ (up _ _ S.TOz hT3) (D1.frame _ _ _ hj1 fun b hb o e => up b o (fun q => S.zf1 (q ▸ hb)) e) (D2.frame _ _ _ hj2 fun b hb o e => up b o (fun q => S.zf2 (q ▸ hb)) e) (D3.frame _ _ _ hj3 fun b hb o e => up b o (fun q => S.zf3 (q ▸ hb)) e) hT₈ hz8 fun c o cz cT c1 c2 c3 e => up c o cz (hkk c o cz cT c1 c2 c3 e)
end
end Lt
set_option maxHeartbeats 4000000
namespace Lt
open PySem PySem.Spec PyProof.Rows L2
section
variable {prog : Program} {w : World} {A : Around} {E : Value → Shared → Prop} {s : Shared}
variable {z TI TO i1 i2 i3 : Addr} {fp1 fp2 fp3 : List Addr} {n i : Nat} {P1 P2 P3 : Nat → Value → Prop} {St1 St2 St3 : Nat → Heap → Prop} {a1 a2 a3 : Value}
theorem zs3_end {Q : Fin → Shared → Prop} (hh : A.handled = none) (S : ZipSep3 z TI TO i1 i2 i3 fp1 fp2 fp3) (D1 : Draws prog w A i1 fp1 n P1 St1) (D2 : Draws prog w A i2 fp2 n P2 St2) (D3 : Draws prog w A i3 fp3 n P3 St3)
    (hz : IsZipS s.heap z TI TO .none) (hTI : IsTupOf3 s.heap TI (.ref i1) (.ref i2) (.ref i3)) (hTO : IsTupOf3 s.heap TO a1 a2 a3) (st1 : St1 n s.heap) (st2 : St2 n s.heap) (st3 : St3 n s.heap)
    (hE : ∀ h' tk e, (∀ c o, c ≠ z → c ≠ TO → c ≠ i1 → c ≠ i2 → c ≠ i3 → s.heap.get? c = some o → h'.get? c = some o) → (∃ o, h'.get? e = some o ∧ o.cls = .type "StopIteration") → E (.ref e) { s with heap := h', toks := tk }) :
    wpAny (model prog w) A (Builtin.«zip.__next__» ⟨[.ref z], []⟩) Q E s := by
  obtain ⟨hp, g, d, tk0, os⟩ := s
  show wpAny _ _ (field (.ref z) 2 >>= _) _ _ _
  refine wpAny_bind (wpAny_field hz rfl (x := .bool true) rfl ?_)
  show wpAny _ _ (field (.ref z) 3 >>= _) _ _ _
  refine wpAny_bind (wpAny_field hz rfl (x := .ref TI) rfl ?_)
  refine wpAny_bind (wpAny_seqItems hTI rfl ?_)
  show wpAny _ _ (Builtin.SmallTypes.ownedTupleIsFree (.ref z) >>= _) _ _ _
  refine wpAny_bind ?_
  unfold Builtin.SmallTypes.ownedTupleIsFree
  refine wpAny_bind (wpAny_field hz rfl (x := .none) rfl (wpAny_pure ?_))
  simp only [if_true]
  refine wpAny_bind (wpAny_rule ?_)
  refine wpAny_bind (wpAny_field hz rfl (x := .ref TO) rfl ?_)
  refine wpAny_bind (wpAny_setField_rec hz (by simp) fun g0 hz0 hs0 => ?_)
  replace hz0 : IsZipS g0 z TI TO .ellipsis := hz0
  replace hs0 : Heap.SameBut z hp g0 := hs0
  refine wpAny_bind ?_
  simp only [List.zipIdx_cons, List.zipIdx_nil, List.forIn_cons, List.forIn_nil]
  refine wpAny_bind (wpAny_bind (wpAny_onRaise ?_))
  show wpAny _ _ (Builtin.SmallTypes.nextOrEnd (.ref i1)) _ _ ⟨g0, g, d, tk0, os⟩
  refine orEnd_done D1 (D1.over st1 hs0 S.zf1) fun q1 hq1 => ?_
  replace hq1 : Heap.ExtBut i1 g0 q1 := hq1
  have hzq : IsZipS q1 z TI TO .ellipsis := hq1 _ _ S.zi1 hz0
  refine wpAny_bind (wpAny_setField_rec (s := ⟨q1, g, d, tk0, os⟩) hzq (by simp) fun g1 hz1 hs1 => ?_)
  replace hs1 : Heap.SameBut z q1 g1 := hs1
  refine wpAny_bind ?_
  refine wpAny_bind ?_
  simp only [List.drop_succ_cons, List.drop_zero, List.zipIdx_cons, List.zipIdx_nil, List.forIn_cons, List.forIn_nil]
  refine wpAny_bind (wpAny_bind ?_)
  show wpAny _ _ (Builtin.SmallTypes.nextOrEnd (.ref i2)) _ _ ⟨g1, g, d, tk0, os⟩
  have t2 : St2 n g1 := D2.frame _ _ _ st2 fun b hb o e => hs1.extBut _ _ (fun q => S.zf2 (q ▸ hb)) (hq1 _ _ (fun q => S.sep1_2 (q ▸ hb)) (hs0.extBut _ _ (fun q => S.zf2 (q ▸ hb)) e))
  refine orEnd_done (s := ⟨g1, g, d, tk0, os⟩) D2 t2 fun q2 hq2 => ?_
  replace hq2 : Heap.ExtBut i2 g1 q2 := hq2
  refine wpAny_pure ?_
  refine wpAny_bind (wpAny_bind ?_)
  show wpAny _ _ (Builtin.SmallTypes.nextOrEnd (.ref i3)) _ _ ⟨q2, g, d, tk0, os⟩
  have t3 : St3 n q2 := D3.frame _ _ _ st3 fun b hb o e => hq2 _ _ (fun q => S.sep2_3 (q ▸ hb)) (hs1.extBut _ _ (fun q => S.zf3 (q ▸ hb)) (hq1 _ _ (fun q => S.sep1_3 (q ▸ hb)) (hs0.extBut _ _ (fun q => S.zf3 (q ▸ hb)) e)))
  refine orEnd_done (s := ⟨q2, g, d, tk0, os⟩) D3 t3 fun q3 hq3 => ?_
  replace hq3 : Heap.ExtBut i3 q2 q3 := hq3
  refine wpAny_pure ?_
  refine wpAny_pure ?_
  refine wpAny_bind (wpAny_rule ?_)
  refine DVw.raise_stop (s := ⟨q3, g, d, tk0, os⟩) hh fun h' e oe kp he hc => ?_
  exact hE h' tk0 e (fun c o cz cT c1 c2 c3 x => kp _ _ (hq3 _ _ c3 (hq2 _ _ c2 (hs1.extBut _ _ cz (hq1 _ _ c1 (hs0.extBut _ _ cz x)))))) ⟨oe, he, hc⟩
theorem goZipS {elts : List Expr} {x1} {pos : Pos} {z TI TO T : Addr} {Q : Unit → Shared → Prop} (hz : IsZipS s.heap z TI TO (rawInt T))
    (hQ : ∀ h', IsZipS h' z TI TO .none → Heap.SameBut z s.heap h' → Q () { s with heap := h' }) :
    wpAny (model prog w) A (letOwnedTupleGo (.Tuple elts x1 pos) (.ref z) (.ref T)) Q E s := by
  unfold letOwnedTupleGo
  refine wpAny_bind (wpAny_load hz ?_)
  show wpAny _ _ (if (["enumerate", "zip", "dict_itemiterator", "dict_reverseitemiterator", "odict_iterator", "itertools.zip_longest", "itertools.pairwise"].contains "zip" &&
      (#[rawInt T, .bool false, .bool true, .ref TI, .ref TO] : Array Value)[0]? == some (rawInt T)) = true then _ else _) Q E s
  rw [if_pos (by simp)]
  refine wpAny_bind (wpAny_rule ?_)
  show wpAny _ _ (setField (.ref z) 0 .none) Q E s
  exact wpAny_setField_rec hz (by simp) fun h' hz' hs' => hQ h' hz' hs'
theorem iterZipS {z TI TO : Addr} {f0 : Value} {Q : Value → Shared → Prop} (hz : IsZipS s.heap z TI TO f0) (h : Q (.ref z) s) : wpAny (model prog w) A (pyIter (.ref z)) Q E s := by
  have hT : s.TypeIs (.ref z) "zip" := ⟨_, hz, rfl⟩
  refine wpAny_pyIter_slot hT F.slot_zip_iter (wpAny_call_entry F.slot_zip_iter hT F.entry_zip_iter ?_ (F.args_zip_iter_1 _))
  show wpAny _ _ (ret (.ref z)) _ _ s
  exact wpAny_pure ⟨_, rfl, "zip", _, hT, F.slot_zip_next.lookup, h⟩
theorem nextZipS_item {Q : Option Value → Shared → Prop} (S : ZipSep3 z TI TO i1 i2 i3 fp1 fp2 fp3) (D1 : Draws prog w A.in1 i1 fp1 n P1 St1) (D2 : Draws prog w A.in1 i2 fp2 n P2 St2) (D3 : Draws prog w A.in1 i3 fp3 n P3 St3)
    (hz : IsZipS s.heap z TI TO .none) (hTI : IsTupOf3 s.heap TI (.ref i1) (.ref i2) (.ref i3)) (hTO : IsTupOf3 s.heap TO a1 a2 a3) (st1 : St1 i s.heap) (st2 : St2 i s.heap) (st3 : St3 i s.heap) (hlt : i < n)
    (hQ : ∀ x1 x2 x3 h' tk, P1 i x1 → P2 i x2 → P3 i x3 → IsZipS h' z TI TO (rawInt s.heap.objs.size) → IsTupOf3 h' TO x1 x2 x3 → St1 (i + 1) h' → St2 (i + 1) h' → St3 (i + 1) h' → IsTupOf3 h' s.heap.objs.size x1 x2 x3 → h'.objs.size = s.heap.objs.size + 1 →
      (∀ c o, c ≠ z → c ≠ TO → c ≠ i1 → c ≠ i2 → c ≠ i3 → s.heap.get? c = some o → h'.get? c = some o) → Q (some (.ref s.heap.objs.size)) { s with heap := h', toks := tk }) :
    wpAny (model prog w) A (pyNext (.ref z)) Q E s := by
  have hT : s.TypeIs (.ref z) "zip" := ⟨_, hz, rfl⟩
  unfold pyNext
  refine wpAny_bind (wpAny_attempt (wpAny_callSpecial?_slot (name := Str.ofString "__next__") hT F.slot_zip_next
    (wpAny_call_entry F.slot_zip_next hT F.entry_zip_next ?_ (F.args_zip_next_1 _))))
  refine zs3_item (Q := fun v s' => wpAny (model prog w) A (pure (some v)) Q E s') S D1 D2 D3 hz hTI hTO st1 st2 st3 hlt hlt hlt fun x1 x2 x3 h' tk y1 y2 y3 b1 b2 d1 d2 d3 b5 b6 b7 => wpAny_pure (hQ x1 x2 x3 h' tk y1 y2 y3 b1 b2 d1 d2 d3 b5 b6 b7)
theorem nextZipS_end {Q : Option Value → Shared → Prop} (hh : A.in1.handled = none) (S : ZipSep3 z TI TO i1 i2 i3 fp1 fp2 fp3) (D1 : Draws prog w A.in1 i1 fp1 n P1 St1) (D2 : Draws prog w A.in1 i2 fp2 n P2 St2) (D3 : Draws prog w A.in1 i3 fp3 n P3 St3)
    (hz : IsZipS s.heap z TI TO .none) (hTI : IsTupOf3 s.heap TI (.ref i1) (.ref i2) (.ref i3)) (hTO : IsTupOf3 s.heap TO a1 a2 a3) (st1 : St1 n s.heap) (st2 : St2 n s.heap) (st3 : St3 n s.heap)
    (hQ : ∀ h' tk, (∀ c o, c ≠ z → c ≠ TO → c ≠ i1 → c ≠ i2 → c ≠ i3 → s.heap.get? c = some o → h'.get? c = some o) → Q none { s with heap := h', toks := tk }) : wpAny (model prog w) A (pyNext (.ref z)) Q E s := by
  have hT : s.TypeIs (.ref z) "zip" := ⟨_, hz, rfl⟩
  unfold pyNext
  refine wpAny_bind (wpAny_attempt (wpAny_callSpecial?_slot (name := Str.ofString "__next__") hT F.slot_zip_next
    (wpAny_call_entry F.slot_zip_next hT F.entry_zip_next (zs3_end hh S D1 D2 D3 hz hTI hTO st1 st2 st3 fun h' tk e hk he => ?_) (F.args_zip_next_1 _))))
  obtain ⟨o, ho, hc⟩ := he
  refine wpAny_bind (wpAny_isInstance (T := "StopIteration") (b := true) ⟨o, ho, hc⟩ isSubtype_stop ?_)
  exact wpAny_pure (hQ _ _ hk)
end
end Lt
set_option maxHeartbeats 4000000
namespace Lt
open PySem PySem.Spec PyProof.Rows L2
section
variable {prog : Program} {w : World} {A : Around} {E : Value → Shared → Prop} {s : Shared}
variable {z TI TO i1 i2 i3 : Addr} {fp1 fp2 fp3 : List Addr} {n i : Nat} {P1 P2 P3 : Nat → Value → Prop} {St1 St2 St3 : Nat → Heap → Prop} {a1 a2 a3 : Value}
theorem walksZipS (hh : A.in1.handled = none) (S : ZipSep3 z TI TO i1 i2 i3 fp1 fp2 fp3) (D1 : Draws prog w A.in1 i1 fp1 n P1 St1) (D2 : Draws prog w A.in1 i2 fp2 n P2 St2) (D3 : Draws prog w A.in1 i3 fp3 n P3 St3) :
    WalksT prog w A z (z :: TI :: TO :: (fp1 ++ fp2 ++ fp3)) [z, TO, i1, i2, i3] n
      (fun i vals => ∃ x1 x2 x3, P1 i x1 ∧ P2 i x2 ∧ P3 i x3 ∧ vals = #[x1, x2, x3])
      (fun i h => IsZipS h z TI TO .none ∧ IsTupOf3 h TI (.ref i1) (.ref i2) (.ref i3) ∧ (∃ a1 a2 a3, IsTupOf3 h TO a1 a2 a3) ∧ St1 i h ∧ St2 i h ∧ St3 i h)
      (fun i T h => IsZipS h z TI TO (rawInt T) ∧ IsTupOf3 h TI (.ref i1) (.ref i2) (.ref i3) ∧ (∃ a1 a2 a3, IsTupOf3 h TO a1 a2 a3) ∧ St1 (i + 1) h ∧ St2 (i + 1) h ∧ St3 (i + 1) h ∧ T ≠ z ∧ T ≠ TO ∧ T ≠ i1 ∧ T ≠ i2 ∧ T ≠ i3) where
  sub := fun c hc => by
    have hc' : c = z ∨ c = TO ∨ c = i1 ∨ c = i2 ∨ c = i3 := by simpa using hc
    rcases hc' with rfl | rfl | rfl | rfl | rfl
    · exact List.mem_cons_self ..
    · exact List.mem_cons_of_mem _ (List.mem_cons_of_mem _ (List.mem_cons_self ..))
    · exact List.mem_cons_of_mem _ (List.mem_cons_of_mem _ (List.mem_cons_of_mem _ (List.mem_append_left _ (List.mem_append_left _ S.mem1))))
    · exact List.mem_cons_of_mem _ (List.mem_cons_of_mem _ (List.mem_cons_of_mem _ (List.mem_append_left _ (List.mem_append_right _ S.mem2))))
    · exact List.mem_cons_of_mem _ (List.mem_cons_of_mem _ (List.mem_cons_of_mem _ (List.mem_append_right _ S.mem3)))
  frame := fun i h h' hst hk => by
    obtain ⟨hz, hTI, ⟨a1, a2, a3, hTO⟩, st1, st2, st3⟩ := hst
    exact ⟨hk z (List.mem_cons_self ..) _ hz, hk TI (List.mem_cons_of_mem _ (List.mem_cons_self ..)) _ hTI, ⟨a1, a2, a3, hk TO (List.mem_cons_of_mem _ (List.mem_cons_of_mem _ (List.mem_cons_self ..))) _ hTO⟩,
      D1.frame _ _ _ st1 fun b hb o e => hk b (List.mem_cons_of_mem _ (List.mem_cons_of_mem _ (List.mem_cons_of_mem _ (List.mem_append_left _ (List.mem_append_left _ hb))))) o e, D2.frame _ _ _ st2 fun b hb o e => hk b (List.mem_cons_of_mem _ (List.mem_cons_of_mem _ (List.mem_cons_of_mem _ (List.mem_append_left _ (List.mem_append_right _ hb))))) o e, D3.frame _ _ _ st3 fun b hb o e => hk b (List.mem_cons_of_mem _ (List.mem_cons_of_mem _ (List.mem_cons_of_mem _ (List.mem_append_right _ hb)))) o e⟩
  item := fun i s Q E hi hst hQ => by
    obtain ⟨hz, hTI, ⟨a1, a2, a3, hTO⟩, st1, st2, st3⟩ := hst
    refine nextZipS_item S D1 D2 D3 hz hTI hTO st1 st2 st3 hi fun x1 x2 x3 h' tk y1 y2 y3 b1 b2 d1 d2 d3 b5 b6 hk => ?_
    have lt : ∀ {c o}, s.heap.get? c = some o → s.heap.objs.size ≠ c := fun e => Nat.ne_of_gt (Heap.lt_size e)
    have l1 : s.heap.objs.size ≠ i1 := by obtain ⟨_, e⟩ := D1.live _ _ st1; exact lt e
    have l2 : s.heap.objs.size ≠ i2 := by obtain ⟨_, e⟩ := D2.live _ _ st2; exact lt e
    have l3 : s.heap.objs.size ≠ i3 := by obtain ⟨_, e⟩ := D3.live _ _ st3; exact lt e
    exact hQ s.heap.objs.size #[x1, x2, x3] h' tk ⟨x1, x2, x3, y1, y2, y3, rfl⟩ (Nat.le_refl _) ⟨_, b5, rfl, _, rfl⟩
      ⟨b1, hk _ _ S.TIz S.TITO S.TIi1 S.TIi2 S.TIi3 hTI, ⟨_, _, _, b2⟩, d1, d2, d3, lt hz, lt hTO, l1, l2, l3⟩
      fun c o hc e => hk c o (fun x => hc (by simp [x])) (fun x => hc (by simp [x])) (fun x => hc (by simp [x])) (fun x => hc (by simp [x])) (fun x => hc (by simp [x])) e
  go := fun elts k pos i T s Q E hm hQ => by
    obtain ⟨hz, hTI, ⟨a1, a2, a3, hTO⟩, st1, st2, st3, _⟩ := hm
    refine goZipS hz fun h' hz' hs' => hQ h' ⟨hz', hs'.extBut _ _ S.TIz hTI, ⟨a1, a2, a3, hs'.extBut _ _ S.TOz hTO⟩, D1.over st1 hs' S.zf1, D2.over st2 hs' S.zf2, D3.over st3 hs' S.zf3⟩ fun c o hc e => hs'.extBut _ _ (fun x => hc (by simp [x])) e
  apart := fun i T h hm hT => by
    obtain ⟨_, _, _, _, _, _, tz, tT, t1, t2, t3⟩ := hm
    have hT' : T = z ∨ T = TO ∨ T = i1 ∨ T = i2 ∨ T = i3 := by simpa using hT
    rcases hT' with e | e | e | e | e
    · exact tz e
    · exact tT e
    · exact t1 e
    · exact t2 e
    · exact t3 e
  done := fun s Q E hst hQ => by
    obtain ⟨hz, hTI, ⟨a1, a2, a3, hTO⟩, st1, st2, st3⟩ := hst
    exact nextZipS_end hh S D1 D2 D3 hz hTI hTO st1 st2 st3 fun h' tk hk => hQ h' tk fun c o hc e =>
      hk c o (fun x => hc (by simp [x])) (fun x => hc (by simp [x])) (fun x => hc (by simp [x])) (fun x => hc (by simp [x])) (fun x => hc (by simp [x])) e
  self := fun i s Q E hst hQ => iterZipS hst.1 hQ
theorem goesZipS {elts : List Expr} {x1 : Nat} {pos : Pos} (hh : A.in1.handled = none) (S : ZipSep3 z TI TO i1 i2 i3 fp1 fp2 fp3) (D1 : Draws prog w A.in1 i1 fp1 n P1 St1) (D2 : Draws prog w A.in1 i2 fp2 n P2 St2) (D3 : Draws prog w A.in1 i3 fp3 n P3 St3) :
    GoesN prog w A (.Tuple elts x1 pos) z (z :: TI :: TO :: (fp1 ++ fp2 ++ fp3)) [z, TO, i1, i2, i3] n (fun i h₀ v h => ∃ T x y u, v = .ref T ∧ h₀.objs.size ≤ T ∧ P1 i x ∧ P2 i y ∧ P3 i u ∧ h.IsTuple T #[x, y, u])
      (fun i h => IsZipS h z TI TO .none ∧ IsTupOf3 h TI (.ref i1) (.ref i2) (.ref i3) ∧ (∃ a1 a2 a3, IsTupOf3 h TO a1 a2 a3) ∧ St1 i h ∧ St2 i h ∧ St3 i h) :=
  (GoesN.ofWalksT (walksZipS hh S D1 D2 D3)).mono fun i h₀ v h _ ⟨T, vals, ev, hn, ⟨x, y, u, hx, hy, hu, evs⟩, hT⟩ => ⟨T, x, y, u, ev, hn, hx, hy, hu, evs ▸ hT⟩
end
abbrev gsZ3 (h : Heap) (o1 o2 o3 : Obj) : Heap := (gzO3 h o1 o2 o3).push { cls := .type "zip", data := .fields #[.none, .bool false, .bool true, .ref (((h.push o1).push o2).push o3).objs.size, .ref (gzT3 h o1 o2 o3).objs.size] }
theorem typeCall_zipS (a b c d : Value) : checkTypeCall "zip" ⟨[a, b, c], [(Str.ofString "strict", d)]⟩ = pure () := by kernel_rfl
theorem newCall_zipS (a b c d : Value) : checkBuiltinCall "zip.__new__" ⟨[.type "zip", a, b, c], [(Str.ofString "strict", d)]⟩ = pure () := by kernel_rfl
theorem args_initS (obj a b c d : Value) : argsOk "object.__init__" ⟨[obj, a, b, c], [(Str.ofString "strict", d)]⟩ := by unfold argsOk; kernel_rfl
theorem meets_zipS {v1 v2 v3 : Value} {o1 o2 o3 : Obj} {H1 H2 H3 : Heap → Prop} (B1 : Begins v1 o1 H1) (B2 : Begins v2 o2 H2) (B3 : Begins v3 o3 H3) :
    Meets (Builtin.«zip.__new__» ⟨[.type "zip", v1, v2, v3], [(Str.ofString "strict", .bool true)]⟩) (fun _ R s => (H1 s.heap ∧ H2 s.heap ∧ H3 s.heap) ∧
      R (.ok (.ret (.ref (gzO3 s.heap o1 o2 o3).objs.size))) { s with heap := gsZ3 s.heap o1 o2 o3 }) :=
  .of_wp fun prog w A R s h => by
    obtain ⟨hp, g, d, tk, os⟩ := s; obtain ⟨⟨h1, h2, h3⟩, h⟩ := h
    have hsub := sub_zip
    have q1 : ∀ {A' : Around} {E : Value → Shared → Prop} {Q : Value → Shared → Prop}, Q (.ref hp.objs.size) ⟨(hp.push o1), g, d, tk, os⟩ → wpAny (model prog w) A' (pyIter v1) Q E ⟨hp, g, d, tk, os⟩ :=
      fun q => B1.iter prog w _ _ ⟨hp, g, d, tk, os⟩ _ (B1.keeps _ _ h1 fun b o' e => e) q
    have q2 : ∀ {A' : Around} {E : Value → Shared → Prop} {Q : Value → Shared → Prop}, Q (.ref (hp.push o1).objs.size) ⟨((hp.push o1).push o2), g, d, tk, os⟩ → wpAny (model prog w) A' (pyIter v2) Q E ⟨(hp.push o1), g, d, tk, os⟩ :=
      fun q => B2.iter prog w _ _ ⟨(hp.push o1), g, d, tk, os⟩ _ (B2.keeps _ _ h2 fun b o' e => (Heap.get?_push_of_some _ e)) q
    have q3 : ∀ {A' : Around} {E : Value → Shared → Prop} {Q : Value → Shared → Prop}, Q (.ref ((hp.push o1).push o2).objs.size) ⟨(((hp.push o1).push o2).push o3), g, d, tk, os⟩ → wpAny (model prog w) A' (pyIter v3) Q E ⟨((hp.push o1).push o2), g, d, tk, os⟩ :=
      fun q => B3.iter prog w _ _ ⟨((hp.push o1).push o2), g, d, tk, os⟩ _ (B3.keeps _ _ h3 fun b o' e => (Heap.get?_push_of_some _ (Heap.get?_push_of_some _ e))) q
    have e1 : (Str.ofString "strict" == ("strict" : Str)) = true := by decide +kernel
    have e2 : (Str.ofString "strict" != ("strict" : Str)) = false := by decide +kernel
    wp_walk using q1, q2, q3
    exact ⟨_, rfl, h⟩
section
variable {prog : Program} {w : World} {A : Around} {E : Value → Shared → Prop} {s : Shared}
theorem zip_beginsS {v1 v2 v3 : Value} {o1 o2 o3 : Obj} {H1 H2 H3 : Heap → Prop} {Q : Value → Shared → Prop} (B1 : Begins v1 o1 H1) (B2 : Begins v2 o2 H2) (B3 : Begins v3 o3 H3) (h1 : H1 s.heap) (h2 : H2 s.heap) (h3 : H3 s.heap)
    (h : ∀ h', IsZipS h' (s.heap.objs.size + 5) (s.heap.objs.size + 3) (s.heap.objs.size + 4) .none → IsTupOf3 h' (s.heap.objs.size + 3) (.ref s.heap.objs.size) (.ref (s.heap.objs.size + 1)) (.ref (s.heap.objs.size + 2)) →
      IsTupOf3 h' (s.heap.objs.size + 4) .none .none .none → h'.get? s.heap.objs.size = some o1 → h'.get? (s.heap.objs.size + 1) = some o2 → h'.get? (s.heap.objs.size + 2) = some o3 → h'.objs.size = s.heap.objs.size + 6 →
      (∀ c o, s.heap.get? c = some o → h'.get? c = some o) → Q (.ref (s.heap.objs.size + 5)) { s with heap := h' }) :
    wpAny (model prog w) A (call (.type "zip") [v1, v2, v3] [(Str.ofString "strict", .bool true)]) Q E s := by
  refine callType_newKw F.called_zip (by decide) (typeCall_zipS _ _ _ _) (newCall_zipS _ _ _ _) (fun obj => args_initS obj _ _ _ _) F.entry_zip_new
    (meets_zipS B1 B2 B3) ⟨⟨h1, h2, h3⟩, ?_⟩
  have z1 : (s.heap.push o1).objs.size = s.heap.objs.size + 1 := by rw [Heap.size_push]
  have z2 : ((s.heap.push o1).push o2).objs.size = s.heap.objs.size + 2 := by rw [Heap.size_push, z1]
  have z3 : (((s.heap.push o1).push o2).push o3).objs.size = s.heap.objs.size + 3 := by rw [Heap.size_push, z2]
  have zT : (gzT3 s.heap o1 o2 o3).objs.size = s.heap.objs.size + 4 := by rw [Heap.size_push, z3]
  have zO : (gzO3 s.heap o1 o2 o3).objs.size = s.heap.objs.size + 5 := by rw [Heap.size_push, zT]
  have zZ : (gsZ3 s.heap o1 o2 o3).objs.size = s.heap.objs.size + 6 := by rw [Heap.size_push, zO]
  have gZ : (gsZ3 s.heap o1 o2 o3).get? (gzO3 s.heap o1 o2 o3).objs.size = some { cls := .type "zip", data := .fields #[.none, .bool false, .bool true, .ref (((s.heap.push o1).push o2).push o3).objs.size, .ref (gzT3 s.heap o1 o2 o3).objs.size] } := Heap.get?_push_size _ rfl
  have gO : (gsZ3 s.heap o1 o2 o3).get? (gzT3 s.heap o1 o2 o3).objs.size = some { cls := .type "tuple", data := .seq #[.none, .none, .none] } := Heap.get?_push_of_some _ (Heap.get?_push_size _ rfl)
  have gT : (gsZ3 s.heap o1 o2 o3).get? (((s.heap.push o1).push o2).push o3).objs.size = some { cls := .type "tuple", data := .seq #[.ref s.heap.objs.size, .ref (s.heap.push o1).objs.size, .ref ((s.heap.push o1).push o2).objs.size] } := Heap.get?_push_of_some _ (Heap.get?_push_of_some _ (Heap.get?_push_size _ rfl))
  have g1 : (gsZ3 s.heap o1 o2 o3).get? s.heap.objs.size = some o1 := Heap.get?_push_of_some _ (Heap.get?_push_of_some _ (Heap.get?_push_of_some _ (Heap.get?_push_of_some _ (Heap.get?_push_of_some _ (Heap.get?_push_size _ B1.free)))))
  have g2 : (gsZ3 s.heap o1 o2 o3).get? (s.heap.push o1).objs.size = some o2 := Heap.get?_push_of_some _ (Heap.get?_push_of_some _ (Heap.get?_push_of_some _ (Heap.get?_push_of_some _ (Heap.get?_push_size _ B2.free))))
  have g3 : (gsZ3 s.heap o1 o2 o3).get? ((s.heap.push o1).push o2).objs.size = some o3 := Heap.get?_push_of_some _ (Heap.get?_push_of_some _ (Heap.get?_push_of_some _ (Heap.get?_push_size _ B3.free)))
  rw [zO, zT, z3] at gZ
  rw [zT] at gO
  rw [z3, z2, z1] at gT
  rw [z1] at g2
  rw [z2] at g3
  show _ ∧ _
  rw [zO]
  exact ⟨⟨_, gZ, rfl⟩, h _ gZ gT gO g1 g2 g3 zZ fun c o e => Heap.get?_push_of_some _ (Heap.get?_push_of_some _ (Heap.get?_push_of_some _ (Heap.get?_push_of_some _ (Heap.get?_push_of_some _ (Heap.get?_push_of_some _ e)))))⟩
end
section
variable {M : Model} {A : Around} {E : Value → Shared → Prop} {s : Shared} {env : PySem.Env}
theorem callWith_typeKw {pos : Pos} {T : String} {e : Expr} {rest : List Expr} {kws : List Keyword} {Q : Value → Shared → Prop}
    (h : wpAny M A (spliced (backTo pos (starEach (e :: rest) env))) (fun vs s₁ => wpAny M A (evalAll ((backToKw pos (keywordEach kws env)).map (·.2)))
      (fun kvs s₂ => wpAny M A (call (.type T) vs (((backToKw pos (keywordEach kws env)).filterMap (·.1)).zip kvs)) Q E s₂) E s₁) E s)
    (he : backTo pos (starEach (e :: rest) env) = (false, eval e env) :: backTo pos (starEach rest env))
    (hplain : (backTo pos (starEach (e :: rest) env)).any (·.1) = false)
    (hall : (backToKw pos (keywordEach kws env)).all (·.1.isSome) = true)
    (hkw : (backToKw pos (keywordEach kws env)).any (·.1.isNone) = false) :
    wpAny M A (callWith pos (.type T) [] (backTo pos (starEach (e :: rest) env)) (backToKw pos (keywordEach kws env))) Q E s := by
  have h' : wpAny M A (evalArgs (.type T) true (backTo pos (starEach (e :: rest) env)) (backToKw pos (keywordEach kws env))) (fun a s₁ => wpAny M A (call (.type T) ([] ++ a.pos) a.kw) Q E s₁) E s := by
    rw [he] at h ⊢
    exact evalArgs_kwB hall h
  unfold callWith
  refine wpAny_bind (wpAny_holding (wpAny_mono h' (fun a s₁ h₁ => wpAny_bind (wpAny_standAt ?_)) fun _ _ x => x))
  simp only [hplain, hkw, Bool.or_false]
  refine wpAny_bind (wpAny_pure ?_)
  exact wpAny_bind (wpAny_mono h₁ (fun r s₂ hr => wpAny_bind (wpAny_holding (wpAny_point (wpAny_pure hr)))) fun _ _ x => x)
theorem CallKw_ {x : Str} {p : Pos} {args : List Expr} {kws : List Keyword} {pos : Pos} {Q : Value → Shared → Prop}
    (h : wpAny M A (eval (.Name x p) env) (fun f s₁ => wpAny M A (callWith pos f [] (backTo pos (starEach args env)) (backToKw pos (keywordEach kws env))) Q E s₁) E s) :
    wpAny M A (eval (.Call (.Name x p) args kws pos) env) Q E s := by
  have he : eval (.Call (.Name x p) args kws pos) env = (do callWith pos (← eval (.Name x p) env) [] (backTo pos (starEach args env)) (backToKw pos (keywordEach kws env))) := by rfl
  rw [he]; exact wpAny_bind h
end
end Lt
set_option maxHeartbeats 4000000
namespace Lt
open PySem PySem.Spec PyProof.Rows L2
def tgNames : Tg → List Nat
  | .v i => [i]
  | .tup ts => tgNames ts
  | .nil => []
  | .cons t ts => tgNames t ++ tgNames ts
  | .star i j => [i, j]
/-- the slots but those as they were -/
def SB (l : List Nat) (σ σ' : L2.St) : Prop := σ'.length = σ.length ∧ ∀ i, i ∉ l → σ'[i]? = σ[i]?
theorem SB.refl (l : List Nat) (σ : L2.St) : SB l σ σ := ⟨rfl, fun _ _ => rfl⟩
theorem SB.set {l : List Nat} {σ σ' : L2.St} {i : Nat} {v : Option V} (h : SB l σ σ') (hi : i ∈ l) : SB l σ (σ'.set i v) := ⟨by rw [List.length_set]; exact h.1, fun j hj => by
  have hne : i ≠ j := fun e => hj (e ▸ hi)
  rw [List.getElem?_set_ne hne]
  exact h.2 j hj⟩
theorem SB.trans {l l' : List Nat} {σ σ' σ'' : L2.St} (h : SB l σ σ') (h' : SB l' σ' σ'') : SB (l ++ l') σ σ'' := ⟨by rw [h'.1, h.1], fun j hj => by
  rw [List.mem_append, not_or] at hj
  rw [h'.2 j hj.2, h.2 j hj.1]⟩
theorem wipe_at (σ : L2.St) (i : Nat) : ∀ vs : List Nat, (L2.wipe σ vs)[i]? = if i ∈ vs then σ[i]?.map fun _ => none else σ[i]?
  | [] => by simp [L2.wipe]
  | v :: vs => by
    unfold L2.wipe
    by_cases hv : v = i
    · subst hv
      rw [if_pos List.mem_cons_self]
      by_cases hl : v < σ.length
      · rw [List.getElem?_set_self (by rw [wipe_length]; exact hl), List.getElem?_eq_getElem hl]
        rfl
      · rw [List.getElem?_eq_none (by rw [List.length_set, wipe_length]; omega), List.getElem?_eq_none (by omega)]
        rfl
    · rw [List.getElem?_set_ne hv, wipe_at σ i vs]
      have e : (i ∈ v :: vs) ↔ i ∈ vs := by
        rw [List.mem_cons]
        exact ⟨fun h => h.elim (fun h => absurd h.symm hv) id, .inr⟩
      by_cases h : i ∈ vs
      · rw [if_pos h, if_pos (e.mpr h)]
      · rw [if_neg h, if_neg (fun z => h (e.mp z))]
theorem SB.wipe {l vs : List Nat} {σ σ' : L2.St} (h : SB l σ σ') (hs : ∀ i ∈ l, i ∈ vs) : L2.wipe σ' vs = L2.wipe σ vs := by
  refine List.ext_getElem? fun i => ?_
  rw [wipe_at, wipe_at]
  by_cases hi : i ∈ vs
  · rw [if_pos hi, if_pos hi]
    by_cases hl : i < σ.length
    · rw [List.getElem?_eq_getElem hl, List.getElem?_eq_getElem (by rw [h.1]; exact hl)]
      rfl
    · rw [List.getElem?_eq_none (l := σ) (by omega), List.getElem?_eq_none (l := σ') (by rw [h.1]; omega)]
  · rw [if_neg hi, if_neg hi]
    exact h.2 i fun z => hi (hs i z)
theorem wipe_wipe (σ : L2.St) (vs : List Nat) : L2.wipe (L2.wipe σ vs) vs = L2.wipe σ vs := by
  refine List.ext_getElem? fun i => ?_
  rw [wipe_at, wipe_at]
  by_cases hi : i ∈ vs
  · rw [if_pos hi, if_pos hi]
    cases σ[i]? <;> rfl
  · rw [if_neg hi, if_neg hi]
def gT (k : Kx) (t : Tg) : TG := fun v σ H Q => ∃ w env x env', w.H = H ∧ w.Ok k.G ∧ EnvR k.G w env σ ∧ Rep k.G w.ρ w.H x v ∧ asg t x env = some env' ∧ ∀ σ' w', Ext w w' → w'.S = w.S → w'.Ok k.G → EnvR k.G w' env' σ' → SB (tgNames t) σ σ' → Q σ' w'.H
def gTs (k : Kx) (t : Tg) : TGs := fun vs σ H Q => ∃ w env xs env', w.H = H ∧ w.Ok k.G ∧ EnvR k.G w env σ ∧ RepAll k.G w.ρ w.H xs vs ∧ asgs t xs env = some env' ∧ ∀ σ' w', Ext w w' → w'.S = w.S → w'.Ok k.G → EnvR k.G w' env' σ' → SB (tgNames t) σ σ' → Q σ' w'.H
theorem _root_.L2.PG.imp {X : Cx} {e : Expr} {t t' : TG} (h : PG X e t) (i : ∀ v σ H Q, t' v σ H Q → t v σ H Q) : PG X e t' := ⟨fun pins s σ H v u Q I r q => h.run pins s σ H v u Q I r (i v σ H Q q)⟩
theorem _root_.L2.PGs.imp {X : Cx} {e : List Expr} {t t' : TGs} (h : PGs X e t) (i : ∀ v σ H Q, t' v σ H Q → t v σ H Q) : PGs X e t' := ⟨fun pins s σ H v u Q I r q => h.run pins s σ H v u Q I r (i v σ H Q q)⟩
theorem PG_or {X : Cx} {e : Expr} {t t' : TG} (h : PG X e t) (h' : PG X e t') : PG X e (fun v σ H Q => t v σ H Q ∨ t' v σ H Q) := ⟨fun pins s σ H v u Q I r q => by
  rcases q with q | q
  · exact h.run pins s σ H v u Q I r q
  · exact h'.run pins s σ H v u Q I r q⟩
theorem _root_.L2.PI.imp {X : Cx} {tg e : Expr} {t t' : TI} (h : PI X tg e t) (i : ∀ σ H Q, t' σ H Q → t σ H Q) : PI X tg e t' := ⟨fun pins s σ H Q I q => h.run pins s σ H Q I (i σ H Q q)⟩
section
variable {k : Kx} {X : Cx} {W : WX} {a b c e o : Expr} {ia ib ic ie io : IE} {pos p apos cpos : Pos} {es : List Expr} {w : Wd} {x m f cn : Str}
theorem g_v {i : Nat} (hN : X.N.Nodup) (hi : X.N[i]? = some x) (hx : Loc X.env.scope x) (hf : X.fn x = true ∨ X.env.scope.names.lookup x = some .local) : PG X (.Name x pos) (gT k (.v i)) :=
  (pg_name hN hi hx hf).imp fun v σ H Q ⟨w, env, y, env', e0, ok, er, r, ha, q⟩ => by
    subst e0
    have e1 : env.set i (some y) = env' := Option.some.inj ha
    subst e1
    exact q _ w (Ext.refl w) rfl ok (er.set r) ((SB.refl _ _).set List.mem_cons_self)
theorem g_nil : PGs X [] (gTs k .nil) := pgs_nil.imp fun v σ H Q ⟨w, env, xs, env', e0, ok, er, r, ha, q⟩ => by
  subst e0
  cases xs with
  | cons y ys => cases ha
  | nil =>
    have e1 : env = env' := Option.some.inj ha
    subst e1
    exact ⟨r, q _ w (Ext.refl w) rfl ok er (SB.refl _ _)⟩
theorem g_cons {t ts : Tg} (h1 : PG X e (gT k t)) (h2 : PGs X es (gTs k ts)) (hs : (assignEach (e :: es) X.env).map (·.2) = assign e X.env :: (assignEach es X.env).map (·.2)) : PGs X (e :: es) (gTs k (.cons t ts)) :=
  (pgs_cons h1 h2 hs).imp fun v σ H Q ⟨w, env, xs, env', e0, ok, er, r, ha, q⟩ => by
    subst e0
    cases xs with
    | nil => cases ha
    | cons y ys =>
      obtain ⟨u, us, rfl, ru, rus⟩ := r
      have ha' : (match asg t y env with
        | some env1 => asgs ts ys env1
        | none => none) = some env' := ha
      cases h : asg t y env with
      | none => rw [h] at ha'; cases ha'
      | some env1 =>
        rw [h] at ha'
        refine ⟨u, us, rfl, w, env, y, env1, rfl, ok, er, ru, h, fun σ1 w1 e1 eS o1 er1 sb1 => ?_⟩
        exact ⟨w1, env1, ys, env', rfl, o1, er1, ok.reps e1 rus, ha', fun σ2 w2 e2 eS2 o2 er2 sb2 => q σ2 w2 (e1.trans e2) (eS2.trans eS) o2 er2 (sb1.trans sb2)⟩
def tgLen : Tg → Nat
  | .cons _ ts => tgLen ts + 1
  | _ => 0
theorem asgs_length : ∀ {ts : Tg} {xs : List Val} {env env' : Env}, asgs ts xs env = some env' → xs.length = tgLen ts
  | .nil, [], _, _, _ => rfl
  | .nil, _ :: _, _, _, h => by cases h
  | .cons t ts, [], _, _, h => by cases h
  | .cons t ts, x :: xs, env, env', h => by
    have h' : (match asg t x env with
        | some env1 => asgs ts xs env1
        | none => none) = some env' := h
    cases q : asg t x env with
    | none => rw [q] at h'; cases h'
    | some env1 =>
      rw [q] at h'
      rw [List.length_cons, asgs_length h']
      rfl
  | .v _, xs, _, _, h => by cases xs <;> cases h
  | .tup _, xs, _, _, h => by cases xs <;> cases h
  | .star _ _, xs, _, _, h => by cases xs <;> cases h
theorem g_tup (S : Sx k X) {ts : Tg} {kk : Nat} (h : PGs X es (gTs k ts)) (hn : (assignEach es X.env).length = tgLen ts) (hst : (assignEach es X.env).findIdx? (·.1) = none) : PG X (.Tuple es kk pos) (gT k (.tup ts)) := by
  refine (PG_or (pg_tup S.calm h hn hst) (pg_lst S.calm h hn hst)).imp fun v σ H Q ⟨w, env, y, env', e0, ok, er, r, ha, q⟩ => ?_
  subst e0
  have ha' : (match seqV y with
    | some xs => asgs ts xs env
    | none => none) = some env' := ha
  cases y <;> first
    | (cases ha'; done)
    | skip
  · obtain ⟨a, vs, rfl, h1, _, h2⟩ := r
    exact .inl ⟨a, vs, rfl, by rw [S.hK]; exact h1, by rw [h2.length]; exact asgs_length ha', w, env, _, env', rfl, ok, er, h2, ha', q⟩
  · obtain ⟨a, vs, rfl, h1, _, _, h2⟩ := r
    exact .inr ⟨a, vs, rfl, .of h1, by rw [h2.length]; exact asgs_length ha', w, env, _, env', rfl, ok, er, h2, ha', q⟩
  · obtain ⟨a, vs, rfl, h1, _, h2⟩ := r
    refine .inr ⟨a, vs, rfl, ?_, by rw [h2.length]; exact asgs_length ha', w, env, _, env', rfl, ok, er, h2, ha', q⟩
    rcases h1 with ⟨h1, _⟩ | h1
    · exact .inl h1
    · rw [S.hK]; exact .inr h1
theorem star_tup {prog : Program} {w : World} {A : Around} {E : Value → Shared → Prop} {s : Shared} {t : Addr} {items : Array Value} {Q : List Value → Shared → Prop} (hh : A.handled = none) (hl : IsTup s.heap t items) (h1 : 1 ≤ items.size) (hz : items.size ≤ sizeLine)
    (h : ∀ (h₂ : Heap) (tk : Nat), (∀ b o, s.heap.get? b = some o → h₂.get? b = some o) → Q (items.toList.take 1 ++ [.ref h₂.objs.size]) { s with heap := h₂.push { cls := .type "list", data := .seq (items.toList.drop 1).toArray 0 }, toks := tk }) :
    wpAny (model prog w) A (unpackItems (.ref t) 2 (some 1)) Q E s := by
  have hlt : t ≠ s.heap.objs.size := by obtain ⟨o, ho, _⟩ := hl; exact Nat.ne_of_lt (Heap.lt_size ho)
  unfold unpackItems
  refine wpAny_bind ?_
  unfold notIterableAtAll
  refine wpAny_bind (wpAny_specialOf hl.typeIs slot_tuple_iter.lookup ?_)
  refine wpAny_pure ?_
  simp only [Bool.false_eq_true, if_false]
  refine wpAny_bind (wpAny_holding (iter_tuple hl ?_))
  refine wpAny_bind (wpAny_holding (draw_tuple hlt 1 0 _ _ ⟨_, Heap.get?_push_size _ rfl, rfl, rfl⟩ (hl.push _) (by omega) fun h₁ hit₁ hs₁ => ?_))
  have hl₁ : IsTup h₁ t items := (hl.push _).extBut hs₁.extBut hlt
  rw [Nat.zero_add] at hit₁
  have hit₁' := hit₁
  obtain ⟨oi, hoi, _⟩ := hit₁'
  have hl₁' := hl₁
  obtain ⟨ol, hol, _⟩ := hl₁'
  rw [List.drop_zero]
  have hfl : (items.toList.take 1).length = 1 := by rw [List.length_take, Array.length_toList]; omega
  rw [if_neg (show ¬ ((items.toList.take 1).length < 1) by rw [hfl]; omega)]
  refine wpAny_bind (wpAny_holding (PySem.W.kun_collect (s := { s with heap := h₁ }) (T := "tuple_iterator") (.inr (.inr (.inr rfl))) (Walks.tuple (A := A.in1) hh s.heap.objs.size t hlt items) (fun j u st => st.1.typeIs) (k := 1) (by omega) ⟨hit₁, hl₁⟩ (Heap.lt_size hoi) (Heap.lt_size hol) (fun h₂ tk hk => ?_) hz))
  have hrl : (items.toList.drop 1).length = items.size - 1 := by rw [List.length_drop, Array.length_toList]
  show wpAny _ _ (if (items.toList.drop 1).length < 0 then _ else _) _ _ _
  rw [if_neg (by omega)]
  show wpAny _ _ (newList ((items.toList.drop 1).take ((items.toList.drop 1).length - 0)) >>= fun d => pure (items.toList.take 1 ++ [d] ++ (items.toList.drop 1).drop ((items.toList.drop 1).length - 0))) _ _ _
  rw [Nat.sub_zero, List.take_length, List.drop_length]
  simp only [List.append_nil]
  have he : ∀ b o, s.heap.get? b = some o → h₂.get? b = some o := fun b o e => hk b o (Nat.ne_of_lt (Heap.lt_size e)) (hs₁.extBut b o (Nat.ne_of_lt (Heap.lt_size e)) (Heap.get?_push_of_some _ e))
  refine wpAny_bind ?_
  simp only [newList]
  refine wpAny_newObj_type ?_ (by show (items.toList.drop 1).toArray.size ≤ sizeLine; rw [List.size_toArray, hrl]; omega)
  exact wpAny_pure (h h₂ tk he)
def gStar (K : PySem.W.Frag) (i j : Nat) : TG := fun v σ H Q => ∃ a y ys, v = .ref a ∧ SqT K H a (y :: ys) ∧ ∀ D, H D = none → Q ((σ.set i (some y)).set j (some (.ref D))) (upd H D (.lst ys))
theorem pg_star {i j : Nat} {y : Str} {px py sp : Pos} {kk : Nat} (hc : X.calm = true) (hN : X.N.Nodup) (hi : X.N[i]? = some x) (hx : Loc X.env.scope x) (hf : X.fn x = true ∨ X.env.scope.names.lookup x = some .local) (hj : X.N[j]? = some y) (hy : Loc X.env.scope y) (hfy : X.fn y = true ∨ X.env.scope.names.lookup y = some .local) :
    PG X (.Tuple [.Name x px, .Starred (.Name y py) sp] kk pos) (gStar X.K i j) := by
  refine ⟨fun pins s σ H v u Q I r hw => ?_⟩
  obtain ⟨a, y0, ys, rfl, hq, hw⟩ := hw
  cases r
  obtain ⟨its, rv, ht, hz⟩ := I.tuple hq
  rw [assign_Tuple]
  refine wpAny_bind (wpAny_standAt ?_)
  unfold unpack
  have hl := rv.length
  refine wpAny_bind (wpAny_holding (star_tup (I.ok.hd hc) ht (by simp; rw [← hl]; simp) (by rw [List.size_toArray, ← hl]; exact hz) fun h₂ tk hk => ?_))
  cases rv with
  | cons r0 rs =>
    rename_i u0 us
    have I1 : Inv X pins σ H { s with heap := h₂, toks := tk } := I.kept hk
    have hf1 : H h₂.objs.size = none := I1.hok.fresh (Nat.le_refl _)
    have I2 : Inv X pins σ (upd H h₂.objs.size (.lst ys)) { s with heap := h₂.push { cls := .type "list", data := .seq us.toArray 0 }, toks := tk } := by
      refine I1.laid (t' := tk) (fun b o e => Heap.get?_push_of_some _ e) (Nat.le_refl _) ?_
      refine ⟨?_, us, 0, rs, Heap.get?_push_size _ rfl⟩
      have : (y0 :: ys).length ≤ sizeLine := hz
      simp at this
      omega
    have h2 : PGs X [.Name x px, .Name y py] (gCons (gName i) (gCons (gName j) gNil)) := pgs_cons (pg_name hN hi hx hf) (pgs_cons (pg_name hN hj hy hfy) pgs_nil)
    have := h2.run pins _ σ _ [y0, .ref h₂.objs.size] [u0, .ref h₂.objs.size] Q I2 (.cons r0 (.cons rfl .nil)) ⟨y0, _, rfl, .ref h₂.objs.size, _, rfl, rfl, hw _ hf1⟩
    exact this
theorem g_star (S : Sx k X) {i j : Nat} {y : Str} {px py sp : Pos} {kk : Nat} (hi : X.N[i]? = some x) (hx : Loc X.env.scope x) (hf : X.fn x = true ∨ X.env.scope.names.lookup x = some .local) (hj : X.N[j]? = some y) (hy : Loc X.env.scope y) (hfy : X.fn y = true ∨ X.env.scope.names.lookup y = some .local) :
    PG X (.Tuple [.Name x px, .Starred (.Name y py) sp] kk pos) (gT k (.star i j)) :=
  (pg_star S.calm S.nd hi hx hf hj hy hfy).imp fun v σ H Q ⟨w, env, z, env', e0, ok, er, r, ha, q⟩ => by
    subst e0
    cases z <;> first
      | (cases ha; done)
      | skip
    rename_i xs
    cases xs with
    | nil => cases ha
    | cons y ys =>
      have e1 : (env.set i (some y)).set j (some (.lst ys)) = env' := Option.some.inj ha
      subst e1
      obtain ⟨a, vs, rfl, h1, hz, h2⟩ := r
      obtain ⟨u, us, rfl, ru, rus⟩ := h2
      refine ⟨a, u, us, rfl, by rw [S.hK]; exact h1, fun D hD => ?_⟩
      have hl : us.length ≤ sizeLine := Nat.le_of_succ_le hz
      obtain ⟨e2, o2, r2⟩ := new_lst ok hD rus hl
      exact q _ ⟨w.ρ, _, w.S⟩ e2 rfl o2 (((er.mono ok e2).set (ok.rep e2 ru)).set r2) (((SB.refl _ _).set List.mem_cons_self).set (List.mem_cons_of_mem _ List.mem_cons_self))
def IterOk (k : Kx) (w0 : Wd) (items : List Val) (J : It) : Prop :=
  (∀ w i, ExtH k.G.hid w0 w → i < items.length → J.go i w.H) ∧ (∀ w, ExtH k.G.hid w0 w → J.stop items.length w.H) ∧
  (∀ h, Hid k.G w0 h → ∀ w i x H', ExtH k.G.hid w0 w → w.Ok (k.G.hide h) → i < items.length → J.yld i w.H x H' → ∃ w' it, Ext w w' ∧ w'.S = w.S ∧ w'.H = H' ∧ w'.Ok (k.G.hide h) ∧ items[i]? = some it ∧ Rep (k.G.hide h) w'.ρ w'.H it x)
def tI (k : Kx) (W : WX) (ik : IK) (src : IE) : TI := fun σ H R => ∃ w env, w.H = H ∧ w.Ok k.G ∧ EnvR k.G w env σ ∧ (evAs k.C src env w.S).post (fun vs S => ∃ items, itemsV ik vs = some items ∧ ∀ w', Ext w w' → w'.S = S → w'.Ok k.G → items.length ≤ sizeLine → ∀ J, IterOk k w' items J → R J w'.H) (XW k.G w W σ)
/-- a sequence's items stay -/
theorem seq_stay {v : Val} {items : List Val} {x : V} (ok : w.Ok k.G) (r : Rep k.G w.ρ w.H v x) (h : seqV v = some items) : ∃ a t vs, x = .ref a ∧ vs.length ≤ sizeLine ∧ RepAll k.G w.ρ w.H items vs ∧ (∀ w', ExtH k.G.hid w w' → SqK t k.G.K w'.H a vs) ∧ (t = true ∨ t = false) := by
  cases v <;> first
    | (cases h; done)
    | skip
  · obtain rfl : _ = items := Option.some.inj h
    obtain ⟨a, vs, rfl, h1, hz, h2⟩ := r
    refine ⟨a, true, vs, rfl, hz, h2, fun w' e => ?_, .inl rfl⟩
    rcases h1 with h1 | h1
    · exact .inl (e.rd h1 (ok.ntH a _ h1).1 (ok.ntH a _ h1).2).1
    · exact .inr h1
  · obtain rfl : _ = items := Option.some.inj h
    obtain ⟨a, vs, rfl, h1, hn, hz, h2⟩ := r
    exact ⟨a, false, vs, rfl, hz, h2, fun w' e => SqL.of (e.keep _ _ h1 hn.1 hn.2), .inr rfl⟩
  · obtain rfl : _ = items := Option.some.inj h
    obtain ⟨a, vs, rfl, h1, hz, h2⟩ := r
    refine ⟨a, false, vs, rfl, hz, h2, fun w' e => ?_, .inr rfl⟩
    rcases h1 with ⟨h1, hn⟩ | h1
    · exact .inl (e.rd h1 hn.1 hn.2).1
    · exact .inr h1
theorem enumV_get : ∀ (xs : List Val) (j i : Nat), (enumV j xs)[i]? = (xs[i]?).map fun x => Val.tup [.int ((j + i : Nat) : Int), x]
  | [], j, i => rfl
  | x :: xs, j, 0 => rfl
  | x :: xs, j, i + 1 => by
    show (enumV (j + 1) xs)[i]? = _
    rw [enumV_get xs (j + 1) i]
    have e : j + 1 + i = j + (i + 1) := by omega
    rw [e]
    rfl
theorem enumV_len : ∀ (xs : List Val) (j : Nat), (enumV j xs).length = xs.length
  | [], j => rfl
  | x :: xs, j => by
    show (enumV (j + 1) xs).length + 1 = xs.length + 1
    rw [enumV_len xs (j + 1)]
theorem zipV_get : ∀ (xs ys : List Val) (i : Nat) (x y : Val), xs[i]? = some x → ys[i]? = some y → (zipV xs ys)[i]? = some (.tup [x, y])
  | [], ys, i, x, y, h, _ => by simp at h
  | _ :: _, [], i, x, y, _, h => by simp at h
  | a :: xs, b :: ys, 0, x, y, h1, h2 => by
    have e1 : a = x := by simpa using h1
    have e2 : b = y := by simpa using h2
    rw [← e1, ← e2]
    rfl
  | a :: xs, b :: ys, i + 1, x, y, h1, h2 => by
    show (zipV xs ys)[i]? = _
    exact zipV_get xs ys i x y (by simpa using h1) (by simpa using h2)
theorem zipV_len : ∀ (xs ys : List Val), (zipV xs ys).length = min xs.length ys.length
  | [], ys => by simp [zipV]
  | _ :: _, [] => by simp [zipV]
  | a :: xs, b :: ys => by
    show (zipV xs ys).length + 1 = _
    rw [zipV_len xs ys, List.length_cons, List.length_cons]
    omega
theorem new_pair {w : Wd} {x y : Val} {u v : V} {T : Addr} (ok : w.Ok k.G) (hT : w.H T = none) (ru : Rep k.G w.ρ w.H x u) (rv : Rep k.G w.ρ w.H y v) :
    ∃ w', Ext w w' ∧ w'.S = w.S ∧ w'.H = upd w.H T (.tup [u, v]) ∧ w'.Ok k.G ∧ Rep k.G w'.ρ w'.H (.tup [x, y]) (.ref T) := by
  obtain ⟨e, o, r⟩ := new_tup (xs := [x, y]) (vs := [u, v]) ok hT ⟨u, [v], rfl, ru, v, [], rfl, rv, rfl⟩ (by show 2 ≤ sizeLine; decide)
  exact ⟨_, e, rfl, rfl, o, r⟩
theorem pi_plain (S : Sx k X) {tg l : Expr} {ie : IE} (hl : PE X l (tE k W ie)) : PI X tg l (tI k W .plain (.cons ie .nil)) := by
  refine (pi_seqK hl).imp fun σ H R ⟨w, env, e0, ok, er, h⟩ => ?_
  subst e0
  have h' : ((evE k.C ie env w.S).bind fun x S1 => (evAs k.C .nil env S1).bind fun xs S2 => Lt.R.ok (x :: xs) S2).post _ (XW k.G w W σ) := h
  refine stepE ok er h' (fun _ _ z => z) fun v w1 x e1 o1 r1 er1 hx1 h1 => ?_
  obtain ⟨items, hi, q⟩ := h1
  obtain ⟨a, t, vs, rfl, hz, ra, hs, ht⟩ := seq_stay o1 r1 hi
  have hlen := ra.length
  refine ⟨a, rfl, ?_⟩
  have main : ∀ J, (∀ w' i, ExtH k.G.hid w1 w' → i < vs.length → J.go i w'.H) → (∀ w', ExtH k.G.hid w1 w' → J.stop vs.length w'.H) → (∀ w' i x H', ExtH k.G.hid w1 w' → J.yld i w'.H x H' → H' = w'.H ∧ vs[i]? = some x) → R J w1.H := fun J j1 j2 j3 => by
    refine q w1 e1 rfl o1 (by rw [← hlen]; exact hz) J ⟨fun w' i e hi => j1 w' i e (by rw [hlen]; exact hi), fun w' e => by rw [← hlen]; exact j2 w' e, fun h hh w' i x H' e o' hi y => ?_⟩
    obtain ⟨rfl, hx⟩ := j3 w' i x H' e y
    obtain ⟨it, hit, rit⟩ := ra.get' hx
    exact ⟨w', it, Ext.refl _, rfl, rfl, o', hit, rep_hid o1 hh e rit⟩
  rcases ht with rfl | rfl
  · refine .inr ⟨vs, by rw [S.hK]; exact hs w1 (Ext.refl _).toH, main _ (fun w' i e hi => ?_) (fun w' e => ?_) fun w' i x H' e y => ?_⟩
    · exact ⟨vs, vs[i], by rw [S.hK]; exact hs w' e, List.getElem?_eq_getElem hi⟩
    · exact ⟨vs, by rw [S.hK]; exact hs w' e, Nat.le_refl _⟩
    · exact ⟨y.1, y.2 vs (by rw [S.hK]; exact hs w' e)⟩
  · refine .inl ⟨vs, by rw [S.hK]; exact hs w1 (Ext.refl _).toH, main _ (fun w' i e hi => ?_) (fun w' e => ?_) fun w' i x H' e y => ?_⟩
    · exact ⟨vs, vs[i], by rw [S.hK]; exact hs w' e, List.getElem?_eq_getElem hi⟩
    · exact ⟨vs, by rw [S.hK]; exact hs w' e, Nat.le_refl _⟩
    · exact ⟨y.1, y.2 vs (by rw [S.hK]; exact hs w' e)⟩
theorem size2M : (2000000 : Nat) ≤ sizeLine := by rw [sizeLine_eq]; decide
theorem range_ok {w : Wd} {lo hi : Int} {items : List Val} (h : rangeV lo hi = some items) : (-(2 ^ 62) ≤ lo ∧ lo < 2 ^ 62 ∧ -(2 ^ 62) ≤ hi ∧ hi < 2 ^ 62) ∧ items.length = (hi - lo).toNat ∧ items.length ≤ sizeLine ∧ IterOk k w items (Itr lo (hi - lo).toNat) := by
  unfold rangeV at h
  split at h
  · rename_i c
    have e := Option.some.inj h
    subst e
    have hl : ((List.range (hi - lo).toNat).map fun i : Nat => Val.int (lo + i)).length = (hi - lo).toNat := by rw [List.length_map, List.length_range]
    refine ⟨by omega, hl, ?_, fun w' i e hi => ?_, fun w' e => ?_, fun h hh w' i x H' e o hi y => ?_⟩
    · rw [hl]
      have := size2M
      omega
    · rw [hl] at hi
      exact hi
    · rw [hl]
      exact Nat.le_refl _
    · rw [hl] at hi
      obtain ⟨rfl, rfl⟩ := y
      refine ⟨w', .int (lo + i), Ext.refl _, rfl, rfl, o, ?_, rfl⟩
      rw [List.getElem?_map, List.getElem?_range hi]
      rfl
  · cases h
theorem pi_range1' (S : Sx k X) {tg : Expr} {ie : IE} (hg : Gl X "range") (hf : k.bf.contains "range" = true) (ha : PA X [a] (tAs k W ie)) (hs : starEach [a] X.env = [(false, eval a X.env)]) : PI X tg (.Call (.Name "range" p) [a] [] pos) (tI k W .range1 ie) := by
  refine (pi_range1 hg (S.bf _ hf) ha hs).imp fun σ H R ⟨w, env, e0, ok, er, h⟩ => ?_
  subst e0
  refine ⟨w, env, rfl, ok, er, Lt.R.post_mono h (fun vs S1 ⟨items, hi, q⟩ w1 xs e1 eS o1 r1 => ?_) fun _ _ z => z⟩
  rcases vs with _ | ⟨v, _ | ⟨v2, vs⟩⟩ <;> (first | (cases hi; done) | (cases v <;> (cases hi; done)) | (cases v <;> cases v2 <;> (cases hi; done)) | skip)
  cases v with
  | int n =>
    obtain ⟨x, rfl, rx⟩ := one_of r1
    obtain ⟨b, hl, hz, it⟩ := range_ok (k := k) (w := w1) (lo := 0) (hi := n) hi
    rw [Int.sub_zero] at it hl
    exact ⟨n, by rw [show x = V.int n from rx], b.2.2.1, b.2.2.2, q w1 e1 eS o1 hz _ it⟩
  | _ => cases hi
theorem pi_range2' (S : Sx k X) {tg : Expr} {ie : IE} (hg : Gl X "range") (hf : k.bf.contains "range" = true) (ha : PA X [a, b] (tAs k W ie)) (hs : starEach [a, b] X.env = [(false, eval a X.env), (false, eval b X.env)]) (hs2 : starEach [b] X.env = [(false, eval b X.env)]) : PI X tg (.Call (.Name "range" p) [a, b] [] pos) (tI k W .range2 ie) := by
  refine (pi_range2 hg (S.bf _ hf) ha hs hs2).imp fun σ H R ⟨w, env, e0, ok, er, h⟩ => ?_
  subst e0
  refine ⟨w, env, rfl, ok, er, Lt.R.post_mono h (fun vs S1 ⟨items, hi, q⟩ w1 xs e1 eS o1 r1 => ?_) fun _ _ z => z⟩
  rcases vs with _ | ⟨v, _ | ⟨v2, _ | ⟨v3, vs⟩⟩⟩ <;> (first | (cases hi; done) | (cases v <;> (cases hi; done)) | (cases v <;> cases v2 <;> (cases hi; done)) | skip)
  cases v with
  | int i =>
    cases v2 with
    | int j =>
      obtain ⟨x, y, rfl, rx, ry⟩ := two_of r1
      obtain ⟨b, hl, hz, it⟩ := range_ok (k := k) (w := w1) (lo := i) (hi := j) hi
      exact ⟨i, j, by rw [show x = V.int i from rx, show y = V.int j from ry], b, q w1 e1 eS o1 hz _ it⟩
    | _ => cases hi
  | _ => cases hi
theorem pi_enum' (S : Sx k X) {elts : List Expr} {kk : Nat} {tpos : Pos} {ie : IE} (hg : Gl X "enumerate") (hf : k.bf.contains "enumerate" = true) (ha : PA X [a] (tAs k W ie)) (hs : starEach [a] X.env = [(false, eval a X.env)]) :
    PI X (.Tuple elts kk tpos) (.Call (.Name "enumerate" p) [a] [] pos) (tI k W .enum ie) := by
  refine (pi_enumK hg (S.bf _ hf) ha hs).imp fun σ H R ⟨w, env, e0, ok, er, h⟩ => ?_
  subst e0
  refine ⟨w, env, rfl, ok, er, Lt.R.post_mono h (fun vs S1 ⟨items, hi, q⟩ w1 xs e1 eS o1 r1 => ?_) fun _ _ z => z⟩
  rcases vs with _ | ⟨v, _ | ⟨v2, vs⟩⟩ <;> first
    | (cases hi; done)
    | (cases v <;> (cases hi; done))
    | (cases v <;> cases v2 <;> (cases hi; done))
    | skip
  obtain ⟨x, rfl, rx⟩ := one_of r1
  have hi' : (seqV v).map (enumV 0) = some items := hi
  cases hq : seqV v with
  | none => rw [hq] at hi'; cases hi'
  | some its =>
    rw [hq] at hi'
    obtain rfl : enumV 0 its = items := Option.some.inj hi'
    obtain ⟨a', t, us, rfl, hz, ra, hst, _⟩ := seq_stay o1 rx hq
    have hlen := ra.length
    refine ⟨a', t, us, rfl, by rw [S.hK]; exact hst w1 (Ext.refl _).toH, q w1 e1 eS o1 (by rw [enumV_len, ← hlen]; exact hz) _ ⟨fun w' i e hi => ?_, fun w' e => ?_, fun h hh w' i x H' e o' hi y => ?_⟩⟩
    · rw [enumV_len, ← hlen] at hi
      exact ⟨us, us[i], by rw [S.hK]; exact hst w' e, List.getElem?_eq_getElem hi⟩
    · rw [enumV_len, ← hlen]
      exact ⟨us, by rw [S.hK]; exact hst w' e, rfl⟩
    · obtain ⟨T, u, rfl, hT, rfl, hu⟩ := y
      have hu' := hu us (by rw [S.hK]; exact hst w' e)
      obtain ⟨it, hit, rit⟩ := ra.get' hu'
      obtain ⟨w2, e2, s2, h2, o2, r2⟩ := new_pair (k := k.hide h) (x := .int (i : Nat)) (u := .int (i : Nat)) o' hT rfl (rep_hid o1 hh e rit)
      refine ⟨w2, _, e2, s2, h2, o2, ?_, r2⟩
      rw [enumV_get, hit, Nat.zero_add]
      rfl
theorem pi_zip' (S : Sx k X) {elts : List Expr} {kk : Nat} {tpos : Pos} {ie : IE} (hg : Gl X "zip") (hf : k.bf.contains "zip" = true) (ha : PA X [a, b] (tAs k W ie)) (hs : starEach [a, b] X.env = (false, eval a X.env) :: starEach [b] X.env) (hpl : (backTo pos (starEach [b] X.env)).any (·.1) = false) :
    PI X (.Tuple elts kk tpos) (.Call (.Name "zip" p) [a, b] [] pos) (tI k W .zip ie) := by
  refine (pi_zipK hg (S.bf _ hf) ha hs hpl).imp fun σ H R ⟨w, env, e0, ok, er, h⟩ => ?_
  subst e0
  refine ⟨w, env, rfl, ok, er, Lt.R.post_mono h (fun vs S1 ⟨items, hi, q⟩ w1 xs e1 eS o1 r1 => ?_) fun _ _ z => z⟩
  rcases vs with _ | ⟨v, _ | ⟨v2, _ | ⟨v3, vs⟩⟩⟩ <;> first
    | (cases hi; done)
    | (cases v <;> (cases hi; done))
    | (cases v <;> cases v2 <;> (cases hi; done))
    | skip
  obtain ⟨x, y, rfl, rx, ry⟩ := two_of r1
  have hi' : (match seqV v, seqV v2 with
    | some xs, some ys => some (zipV xs ys)
    | _, _ => none) = some items := hi
  cases hq : seqV v with
  | none => rw [hq] at hi'; cases hi'
  | some its =>
    cases hq2 : seqV v2 with
    | none => rw [hq, hq2] at hi'; cases hi'
    | some its2 =>
      rw [hq, hq2] at hi'
      obtain rfl : zipV its its2 = items := Option.some.inj hi'
      obtain ⟨a', t, us, rfl, hz, ra, hst, _⟩ := seq_stay o1 rx hq
      obtain ⟨b', t', us', rfl, hz', ra', hst', _⟩ := seq_stay o1 ry hq2
      have hlen := ra.length
      have hlen' := ra'.length
      have hm : (zipV its its2).length = min us.length us'.length := by rw [zipV_len, hlen, hlen']
      refine ⟨a', b', t, t', us, us', rfl, by rw [S.hK]; exact hst w1 (Ext.refl _).toH, by rw [S.hK]; exact hst' w1 (Ext.refl _).toH, q w1 e1 eS o1 (by rw [hm]; omega) _ ⟨fun w' i e hi => ?_, fun w' e => ?_, fun h hh w' i x H' e o' hi y => ?_⟩⟩
      · rw [hm] at hi
        exact ⟨us, us', us[i]'(by omega), us'[i]'(by omega), by rw [S.hK]; exact hst w' e, by rw [S.hK]; exact hst' w' e, List.getElem?_eq_getElem _, List.getElem?_eq_getElem _⟩
      · exact ⟨us, us', by rw [S.hK]; exact hst w' e, by rw [S.hK]; exact hst' w' e, hm⟩
      · obtain ⟨T, u, u', rfl, hT, rfl, hu, hu'⟩ := y
        obtain ⟨it, hit, rit⟩ := ra.get' (hu us (by rw [S.hK]; exact hst w' e))
        obtain ⟨it', hit', rit'⟩ := ra'.get' (hu' us' (by rw [S.hK]; exact hst' w' e))
        obtain ⟨w2, e2, s2, h2, o2, r2⟩ := new_pair (k := k.hide h) o' hT (rep_hid o1 hh e rit) (rep_hid o1 hh e rit')
        exact ⟨w2, _, e2, s2, h2, o2, zipV_get _ _ _ _ _ hit hit', r2⟩
end
end Lt
set_option maxHeartbeats 4000000
namespace Lt
open PySem PySem.Spec PyProof.Rows L2
theorem sub6 {z TI TO i1 i2 i3 c : Addr} (h : c ∈ [z, TO, i1, i2, i3]) : c ∈ [z, TI, TO, i1, i2, i3] := by
  rcases List.mem_cons.mp h with h | h
  · rw [h]; exact List.mem_cons_self
  · exact List.mem_cons_of_mem _ (List.mem_cons_of_mem _ h)
def ItS3 (n : Nat) (t t' t'' : Bool) (K : PySem.W.Frag) (a b c : Addr) : It :=
  ⟨fun i H => ∃ (xs ys us : List V) (x y u : V), SqK t K H a xs ∧ SqK t' K H b ys ∧ SqK t'' K H c us ∧ xs.length = n ∧ ys.length = n ∧ us.length = n ∧ xs[i]? = some x ∧ ys[i]? = some y ∧ us[i]? = some u,
    fun i H v H' => ∃ T x y u, v = .ref T ∧ H T = none ∧ H' = upd H T (.tup [x, y, u]) ∧ (∀ xs, SqK t K H a xs → xs[i]? = some x) ∧ (∀ ys, SqK t' K H b ys → ys[i]? = some y) ∧ ∀ us, SqK t'' K H c us → us[i]? = some u,
    fun i H => ∃ xs ys us : List V, SqK t K H a xs ∧ SqK t' K H b ys ∧ SqK t'' K H c us ∧ xs.length = n ∧ ys.length = n ∧ us.length = n ∧ i = n⟩
theorem turn_zipS {P : Program} {w : World} {K : PySem.W.Frag} {elts : List Expr} {kk : Nat} {tpos : Pos} {n : Nat} {t t' t'' : Bool} {a b c z TI TO i1 i2 i3 : Addr} (D : ZipSep3 z TI TO i1 i2 i3 [i1, a] [i2, b] [i3, c]) (ha1 : a ≠ i1) (hb2 : b ≠ i2) (hc3 : c ≠ i3) :
    Turn P w K (.Tuple elts kk tpos) (ItS3 n t t' t'' K a b c) [z, TI, TO, i1, i2, i3] z (fun i h => IsZipS h z TI TO .none ∧ IsTupOf3 h TI (.ref i1) (.ref i2) (.ref i3) ∧ (∃ x y u, IsTupOf3 h TO x y u) ∧ ItSt t h i1 a i ∧ ItSt t' h i2 b i ∧ ItSt t'' h i3 c i) where
  mem := by simp
  obj := fun i h st q hq => by
    obtain ⟨hz, hTI, ⟨x, y, u, hTO⟩, h1, h2, h3⟩ := st
    have e' : q = z ∨ q = TI ∨ q = TO ∨ q = i1 ∨ q = i2 ∨ q = i3 := by simpa using hq
    rcases e' with q | q | q | q | q | q
    · rw [q]; exact ⟨_, hz, fun v q => nomatch q⟩
    · rw [q]; exact ⟨_, hTI, fun v q => nomatch q⟩
    · rw [q]; exact ⟨_, hTO, fun v q => nomatch q⟩
    · rw [q]; exact itSt_obj h1
    · rw [q]; exact itSt_obj h2
    · rw [q]; exact itSt_obj h3
  keep := fun i h h' st k => by
    obtain ⟨hz, hTI, ⟨x, y, u, hTO⟩, h1, h2, h3⟩ := st
    exact ⟨k z (by simp) _ hz, k TI (by simp) _ hTI, ⟨x, y, u, k TO (by simp) _ hTO⟩, itSt_at h1 fun o q => k i1 (by simp) o q, itSt_at h2 fun o q => k i2 (by simp) o q, itSt_at h3 fun o q => k i3 (by simp) o q⟩
  item := by
    intro X hP hw hK hc i pins s σ H E I hf st hg
    subst hP hw hK
    obtain ⟨xs, ys, us, x, y, u, hqx, hqy, hqu, lx, ly, lu, hx, hy, hu⟩ := hg
    obtain ⟨its, rv, p, _, hal⟩ := inv_sq I hqx
    obtain ⟨its2, rv2, p2, _, hbl⟩ := inv_sq I hqy
    obtain ⟨its3, rv3, p3, _, hcl3⟩ := inv_sq I hqu
    obtain ⟨v1, hv1, ru⟩ := rv.get hx
    obtain ⟨v2, hv2, ru2⟩ := rv2.get hy
    obtain ⟨v3, hv3, ru3⟩ := rv3.get hu
    have s1 : its.toArray.size = n := by rw [List.size_toArray, ← lx, ← rv.length]
    have s2 : its2.toArray.size = n := by rw [List.size_toArray, ← ly, ← rv2.length]
    have s3 : its3.toArray.size = n := by rw [List.size_toArray, ← lu, ← rv3.length]
    have hi1 : i < n := by rw [← lx]; exact (List.getElem?_eq_some_iff.mp hx).1
    have d1 := drawsK (prog := X.prog) (w := X.w) t (A := X.A.in1) (I.ok.hd hc) i1 a ha1 its.toArray
    have d2 := drawsK (prog := X.prog) (w := X.w) t' (A := X.A.in1) (I.ok.hd hc) i2 b hb2 its2.toArray
    have d3 := drawsK (prog := X.prog) (w := X.w) t'' (A := X.A.in1) (I.ok.hd hc) i3 c hc3 its3.toArray
    rw [s1] at d1; rw [s2] at d2; rw [s3] at d3
    have W := goesZipS (prog := X.prog) (w := X.w) (A := X.A) (elts := elts) (x1 := kk) (pos := tpos) (I.ok.hd hc) D d1 d2 d3
    refine W.goes i s _ E hi1 ⟨st.1, st.2.1, st.2.2.1, ⟨st.2.2.2.1, p⟩, ⟨st.2.2.2.2.1, p2⟩, ⟨st.2.2.2.2.2, p3⟩⟩ fun v h' tk hY st' hk htk => ?_
    obtain ⟨T, x1, y1, u1, rfl, hT, hx1, hy1, hu1, o, ho, hcl, nn, hd⟩ := hY
    have ex : x1 = v1 := by
      have h' : its.toArray[i]? = some x1 := hx1
      rw [List.getElem?_toArray, hv1] at h'
      exact (Option.some.inj h').symm
    have ey : y1 = v2 := by
      have h' : its2.toArray[i]? = some y1 := hy1
      rw [List.getElem?_toArray, hv2] at h'
      exact (Option.some.inj h').symm
    have eu : u1 = v3 := by
      have h' : its3.toArray[i]? = some u1 := hu1
      rw [List.getElem?_toArray, hv3] at h'
      exact (Option.some.inj h').symm
    subst ex
    subst ey
    subst eu
    have hfl : ∀ q ∈ [z, TI, TO, i1, i2, i3], q < s.heap.objs.size := fun q hq => by
      obtain ⟨hz, hTI, ⟨x, y, u, hTO⟩, h1, h2, h3⟩ := st
      have e' : q = z ∨ q = TI ∨ q = TO ∨ q = i1 ∨ q = i2 ∨ q = i3 := by simpa using hq
      rcases e' with q | q | q | q | q | q
      · rw [q]; exact Heap.lt_size hz
      · rw [q]; exact Heap.lt_size hTI
      · rw [q]; exact Heap.lt_size hTO
      · rw [q]; obtain ⟨_, he, _⟩ := itSt_obj h1; exact Heap.lt_size he
      · rw [q]; obtain ⟨_, he, _⟩ := itSt_obj h2; exact Heap.lt_size he
      · rw [q]; obtain ⟨_, he, _⟩ := itSt_obj h3; exact Heap.lt_size he
    have new : ObjOk X.prog X.w (upd H T (.tup [x, y, u])) h' T (.tup [x, y, u]) :=
      ⟨by show 3 ≤ sizeLine; decide, [x1, y1, u1], .cons ru (.cons ru2 (.cons ru3 .nil)), ⟨o, ho, hcl, nn, hd⟩⟩
    have I1 := I.turnedNew (t' := tk) (ch := [z, TI, TO, i1, i2, i3]) (fun c o hb q => hk c o (fun q' => hb (sub6 q')) q) hf hT new
    refine ⟨.ref T, _, I1, rfl, ⟨T, x, y, u, rfl, I.hok.fresh hT, rfl, fun l hl => by rw [inv_sq_inj I hl hqx]; exact hx, fun l hl => by rw [inv_sq_inj I hl hqy]; exact hy, fun l hl => by rw [inv_sq_inj I hl hqu]; exact hu⟩, ⟨st'.1, st'.2.1, st'.2.2.1, st'.2.2.2.1.1, st'.2.2.2.2.1.1, st'.2.2.2.2.2.1⟩, fun c hcm => ?_⟩
    rw [upd_ne (Nat.ne_of_lt (Nat.lt_of_lt_of_le (hfl c hcm) hT))]
    exact (hf c hcm).1
  done := by
    intro X hP hw hK hc i pins s σ H E I hf st hg
    subst hP hw hK
    obtain ⟨xs, ys, us, hqx, hqy, hqu, lx, ly, lu, hend⟩ := hg
    obtain ⟨its, rv, p, _, hal⟩ := inv_sq I hqx
    obtain ⟨its2, rv2, p2, _, hbl⟩ := inv_sq I hqy
    obtain ⟨its3, rv3, p3, _, hcl3⟩ := inv_sq I hqu
    have s1 : its.toArray.size = n := by rw [List.size_toArray, ← lx, ← rv.length]
    have s2 : its2.toArray.size = n := by rw [List.size_toArray, ← ly, ← rv2.length]
    have s3 : its3.toArray.size = n := by rw [List.size_toArray, ← lu, ← rv3.length]
    have d1 := drawsK (prog := X.prog) (w := X.w) t (A := X.A.in1) (I.ok.hd hc) i1 a ha1 its.toArray
    have d2 := drawsK (prog := X.prog) (w := X.w) t' (A := X.A.in1) (I.ok.hd hc) i2 b hb2 its2.toArray
    have d3 := drawsK (prog := X.prog) (w := X.w) t'' (A := X.A.in1) (I.ok.hd hc) i3 c hc3 its3.toArray
    rw [s1] at d1; rw [s2] at d2; rw [s3] at d3
    have W := goesZipS (prog := X.prog) (w := X.w) (A := X.A) (elts := elts) (x1 := kk) (pos := tpos) (I.ok.hd hc) D d1 d2 d3
    rw [← hend] at W
    exact W.stops s (fun s1 => Inv X pins σ H s1) E ⟨st.1, st.2.1, st.2.2.1, ⟨st.2.2.2.1, p⟩, ⟨st.2.2.2.2.1, p2⟩, ⟨st.2.2.2.2.2, p3⟩⟩ fun h' tk hk htk => I.turnedL (t' := tk) (ch := [z, TI, TO, i1, i2, i3]) (fun c o hb q => hk c o (fun q' => hb (sub6 q')) q) hf
  self := fun A i s Q E st h => iterZipS st.1 h
def iZipS (K : PySem.W.Frag) (ta : TA) : TI := fun σ H R => ta σ H fun vs H1 => ∃ n a b c t t' t'' xs ys us, vs = [.ref a, .ref b, .ref c] ∧ SqK t K H1 a xs ∧ SqK t' K H1 b ys ∧ SqK t'' K H1 c us ∧ xs.length = n ∧ ys.length = n ∧ us.length = n ∧ R (ItS3 n t t' t'' K a b c) H1
theorem pi_zipS {X : Cx} {e e2 e3 : Expr} {ta : TA} {p pos tpos kp vp : Pos} {j : Nat} {elts : List Expr} {kk : Nat} (hg : Gl X "zip") (hm : X.mg "zip" = none) (ha : PA X [e, e2, e3] ta)
    (hs : starEach [e, e2, e3] X.env = (false, eval e X.env) :: starEach [e2, e3] X.env) (hpl : (backTo pos (starEach [e2, e3] X.env)).any (·.1) = false) :
    PI X (.Tuple elts kk tpos) (.Call (.Name "zip" p) [e, e2, e3] [⟨some "strict", .Constant (.bool true) j vp, kp⟩] pos) (iZipS X.K ta) := by
  refine ⟨fun pins s σ H R I h => ?_⟩
  refine CallKw_ (ld_blt I hg hm PyProof.Rows.boot_zip (callWith_typeKw (thn (ha.run pos pins s σ H _ I h) fun us s1 ⟨vs, H1, I1, r1, q1⟩ => ?_) (by rw [hs]; rfl) (by rw [hs]; show (false || (backTo pos (starEach [e2, e3] X.env)).any (·.1)) = false; rw [hpl]; rfl) rfl rfl))
  refine kws_cons (Constant_bool (kws_nil ?_))
  obtain ⟨n, a, b, c, t, t', t'', xs, ys, zs, ex, hqx, hqy, hqu, lx, ly, lu, q⟩ := q1
  subst ex
  cases r1 with
  | cons r rr =>
    cases rr with
    | cons r' rr =>
      cases rr with
      | cons r'' rr =>
        cases rr
        cases r
        cases r'
        cases r''
        obtain ⟨its, rv, p1, _, la⟩ := inv_sq I1 hqx
        obtain ⟨its2, rv2, p2, _, lb⟩ := inv_sq I1 hqy
        obtain ⟨its3, rv3, p3, _, lc⟩ := inv_sq I1 hqu
        refine zip_beginsS (beginsK t a its.toArray) (beginsK t' b its2.toArray) (beginsK t'' c its3.toArray) p1 p2 p3 fun h' hz hTI hTO h1 h2 h3 hsz hk => iterZipS hz ?_
        have I2 : Inv X pins σ H1 { s1 with heap := h' } := I1.kept (t' := s1.toks) hk
        refine ⟨s1.heap.objs.size + 5, [s1.heap.objs.size + 5, s1.heap.objs.size + 3, s1.heap.objs.size + 4, s1.heap.objs.size, s1.heap.objs.size + 1, s1.heap.objs.size + 2], _, _, H1, rfl, I2,
          turn_zipS (zip_sep3 (fp1 := [a]) (fp2 := [b]) (fp3 := [c]) (by simpa using la) (by simpa using lb) (by simpa using lc)) (Nat.ne_of_lt la) (Nat.ne_of_lt (Nat.lt_succ_of_lt lb)) (Nat.ne_of_lt (Nat.lt_succ_of_lt (Nat.lt_succ_of_lt lc))), ⟨hz, hTI, ⟨_, _, _, hTO⟩, itSt_new h1, itSt_new h2, itSt_new h3⟩, fun d hdm => ?_, q⟩
        have e' : d = s1.heap.objs.size + 5 ∨ d = s1.heap.objs.size + 3 ∨ d = s1.heap.objs.size + 4 ∨ d = s1.heap.objs.size ∨ d = s1.heap.objs.size + 1 ∨ d = s1.heap.objs.size + 2 := by simpa using hdm
        have hle : s1.heap.objs.size ≤ d := by
          rcases e' with z | z | z | z | z | z
          · rw [z]; exact Nat.le_add_right _ _
          · rw [z]; exact Nat.le_add_right _ _
          · rw [z]; exact Nat.le_add_right _ _
          · rw [z]; exact Nat.le_refl _
          · rw [z]; exact Nat.le_add_right _ _
          · rw [z]; exact Nat.le_add_right _ _
        exact I1.fpOk hle (I1.hok.fresh hle)
theorem zip3V_get : ∀ (xs ys zs : List Val) (i : Nat) (x y z : Val), xs[i]? = some x → ys[i]? = some y → zs[i]? = some z → (zip3V xs ys zs)[i]? = some (.tup [x, y, z])
  | [], _, _, i, x, y, z, h, _, _ => by simp at h
  | _ :: _, [], _, i, x, y, z, _, h, _ => by simp at h
  | _ :: _, _ :: _, [], i, x, y, z, _, _, h => by simp at h
  | a :: xs, b :: ys, c :: zs, 0, x, y, z, h1, h2, h3 => by
    have e1 : a = x := by simpa using h1
    have e2 : b = y := by simpa using h2
    have e3 : c = z := by simpa using h3
    rw [← e1, ← e2, ← e3]
    rfl
  | a :: xs, b :: ys, c :: zs, i + 1, x, y, z, h1, h2, h3 => by
    show (zip3V xs ys zs)[i]? = _
    exact zip3V_get xs ys zs i x y z (by simpa using h1) (by simpa using h2) (by simpa using h3)
theorem zip3V_len : ∀ (xs ys zs : List Val) (n : Nat), xs.length = n → ys.length = n → zs.length = n → (zip3V xs ys zs).length = n
  | [], _, _, n, h, _, _ => by rw [← h]; simp [zip3V]
  | a :: xs, [], _, n, h, h2, _ => by rw [← h2] at h; simp at h
  | a :: xs, b :: ys, [], n, h, _, h3 => by rw [← h3] at h; simp at h
  | a :: xs, b :: ys, c :: zs, 0, h, _, _ => by simp at h
  | a :: xs, b :: ys, c :: zs, n + 1, h, h2, h3 => by
    show (zip3V xs ys zs).length + 1 = _
    rw [zip3V_len xs ys zs n (by simpa using h) (by simpa using h2) (by simpa using h3)]
section
variable {k : Kx} {X : Cx} {W : WX} {a b c : Expr} {p pos : Pos}
theorem three_of {xs : List V} {v v' v'' : Val} {ρ : List Addr} {H : Hp} (r : RepAll k.G ρ H [v, v', v''] xs) : ∃ x y z, xs = [x, y, z] ∧ Rep k.G ρ H v x ∧ Rep k.G ρ H v' y ∧ Rep k.G ρ H v'' z := by
  obtain ⟨x, u, rfl, rx, ru⟩ := r
  obtain ⟨y, z, rfl, ry, rz⟩ := two_of ru
  exact ⟨x, y, z, rfl, rx, ry, rz⟩
theorem new_triple {w : Wd} {x y z : Val} {u v t : V} {T : Addr} (ok : w.Ok k.G) (hT : w.H T = none) (ru : Rep k.G w.ρ w.H x u) (rv : Rep k.G w.ρ w.H y v) (rt : Rep k.G w.ρ w.H z t) :
    ∃ w', Ext w w' ∧ w'.S = w.S ∧ w'.H = upd w.H T (.tup [u, v, t]) ∧ w'.Ok k.G ∧ Rep k.G w'.ρ w'.H (.tup [x, y, z]) (.ref T) := by
  obtain ⟨e, o, r⟩ := new_tup (xs := [x, y, z]) (vs := [u, v, t]) ok hT ⟨u, [v, t], rfl, ru, v, [t], rfl, rv, t, [], rfl, rt, rfl⟩ (by show 3 ≤ sizeLine; decide)
  exact ⟨_, e, rfl, rfl, o, r⟩
theorem pi_zipS' (S : Sx k X) {elts : List Expr} {kk : Nat} {tpos kp vp : Pos} {j : Nat} {ie : IE} (hg : Gl X "zip") (hf : k.bf.contains "zip" = true) (ha : PA X [a, b, c] (tAs k W ie)) (hs : starEach [a, b, c] X.env = (false, eval a X.env) :: starEach [b, c] X.env) (hpl : (backTo pos (starEach [b, c] X.env)).any (·.1) = false) :
    PI X (.Tuple elts kk tpos) (.Call (.Name "zip" p) [a, b, c] [⟨some "strict", .Constant (.bool true) j vp, kp⟩] pos) (tI k W .zip3s ie) := by
  refine (pi_zipS hg (S.bf _ hf) ha hs hpl).imp fun σ H R ⟨w, env, e0, ok, er, h⟩ => ?_
  subst e0
  refine ⟨w, env, rfl, ok, er, Lt.R.post_mono h (fun vs S1 ⟨items, hi, q⟩ w1 xs e1 eS o1 r1 => ?_) fun _ _ z => z⟩
  rcases vs with _ | ⟨v, _ | ⟨v2, _ | ⟨v3, _ | ⟨v4, vs⟩⟩⟩⟩ <;> first
    | (cases hi; done)
    | skip
  obtain ⟨x, y, z, rfl, rx, ry, rz⟩ := three_of r1
  have hi' : (match seqV v, seqV v2, seqV v3 with
    | some xs, some ys, some zs => if xs.length = ys.length ∧ ys.length = zs.length then some (zip3V xs ys zs) else none
    | _, _, _ => none) = some items := hi
  cases hq : seqV v with
  | none => rw [hq] at hi'; cases hi'
  | some its =>
    cases hq2 : seqV v2 with
    | none => rw [hq, hq2] at hi'; cases hi'
    | some its2 =>
      cases hq3 : seqV v3 with
      | none => rw [hq, hq2, hq3] at hi'; cases hi'
      | some its3 =>
        rw [hq, hq2, hq3] at hi'
        have hi' : (if its.length = its2.length ∧ its2.length = its3.length then some (zip3V its its2 its3) else none) = some items := hi'
        split at hi'
        · rename_i hcl
          obtain rfl : zip3V its its2 its3 = items := Option.some.inj hi'
          obtain ⟨a', t, us, rfl, hz, ra, hst, _⟩ := seq_stay o1 rx hq
          obtain ⟨b', t', us', rfl, hz', ra', hst', _⟩ := seq_stay o1 ry hq2
          obtain ⟨c', t'', us'', rfl, hz'', ra'', hst'', _⟩ := seq_stay o1 rz hq3
          have hlen := ra.length
          have hlen' := ra'.length
          have hlen'' := ra''.length
          have hm : (zip3V its its2 its3).length = us.length := by rw [zip3V_len its its2 its3 its.length rfl hcl.1.symm (by rw [← hcl.2, hcl.1]), hlen]
          have l2 : us'.length = us.length := by rw [hlen, hlen', hcl.1]
          have l3 : us''.length = us.length := by rw [hlen, hlen'', ← hcl.2, hcl.1]
          refine ⟨us.length, a', b', c', t, t', t'', us, us', us'', rfl, by rw [S.hK]; exact hst w1 (Ext.refl _).toH, by rw [S.hK]; exact hst' w1 (Ext.refl _).toH, by rw [S.hK]; exact hst'' w1 (Ext.refl _).toH, rfl, l2, l3, q w1 e1 eS o1 (by rw [hm]; exact hz) _ ⟨fun w' i e hi => ?_, fun w' e => ?_, fun h hh w' i x H' e o' hi y => ?_⟩⟩
          · rw [hm] at hi
            exact ⟨us, us', us'', us[i], us'[i]'(by omega), us''[i]'(by omega), by rw [S.hK]; exact hst w' e, by rw [S.hK]; exact hst' w' e, by rw [S.hK]; exact hst'' w' e, rfl, l2, l3, List.getElem?_eq_getElem _, List.getElem?_eq_getElem _, List.getElem?_eq_getElem _⟩
          · exact ⟨us, us', us'', by rw [S.hK]; exact hst w' e, by rw [S.hK]; exact hst' w' e, by rw [S.hK]; exact hst'' w' e, rfl, l2, l3, hm⟩
          · obtain ⟨T, u, u', u'', rfl, hT, rfl, hu, hu', hu''⟩ := y
            obtain ⟨it, hit, rit⟩ := ra.get' (hu us (by rw [S.hK]; exact hst w' e))
            obtain ⟨it', hit', rit'⟩ := ra'.get' (hu' us' (by rw [S.hK]; exact hst' w' e))
            obtain ⟨it'', hit'', rit''⟩ := ra''.get' (hu'' us'' (by rw [S.hK]; exact hst'' w' e))
            obtain ⟨w2, e2, s2, h2, o2, r2⟩ := new_triple (k := k.hide h) o' hT (rep_hid o1 hh e rit) (rep_hid o1 hh e rit') (rep_hid o1 hh e rit'')
            exact ⟨w2, _, e2, s2, h2, o2, zip3V_get _ _ _ _ _ _ _ hit hit' hit'', r2⟩
        · cases hi'
end
end Lt
set_option maxHeartbeats 4000000
namespace Lt
open PySem PySem.Spec PyProof.Rows L2
/-- no exception is awaited -/
def W0 : WX := fun _ _ _ _ => False
theorem noexc_post {α β : Type} {r : R α} {g : α → Store → R β} {P : β → Store → Prop} {E : Exc → Store → Prop} (h : (r.noexc.bind g).post P E) : r.post (fun a S => (g a S).post P E) (fun _ _ => False) := by
  cases r <;> exact h
theorem post_imp {α : Type} {r : R α} {P P' : α → Store → Prop} {E E' : Exc → Store → Prop} (h : r.post P E) (hp : ∀ a S, P a S → P' a S) (he : ∀ x S, E x S → E' x S) : r.post P' E' := R.post_mono h hp he
theorem Ext.hidN {w w' : Wd} (e : Ext w w') {D : Addr} (h : w'.H D = none) (hn : D ∉ w'.ρ) : w.H D = none := by
  cases q : w.H D with
  | none => rfl
  | some o =>
    have z := e.keep D o q fun m => hn (e.sub m)
    rw [h] at z
    cases z
def lcF (C : Calls) (t : Tg) (ic ie : IE) (e0 : Env) : Val → Store → R (Option Val) := fun x S => match asg t x e0 with
  | some env1 => ((evE C ic env1 S).bind fun c S2 => match c with
    | .bl true => (evE C ie env1 S2).bind fun v S3 => .ok (some v) S3
    | .bl false => .ok none S2
    | _ => .stuck).noexc
  | none => .stuck
section
variable {k : Kx} {X : Cx} {W : WX} {elt tg iter : Expr} {ifs : List Expr} {scope : Scope} {own : List (Str × Nat)} {pos : Pos} {ik : IK} {src ic ie : IE} {t : Tg} {m : Bool}
/-- the list made so far, and what is to come -/
def LcInv (k : Kx) (w1 : Wd) (D : Addr) (items : List Val) (f : Val → Store → R (Option Val)) (P : List Val → Store → Prop) (E : Exc → Store → Prop) (i : Nat) (H : Hp) : Prop :=
  ∃ w' acc rs, w'.H = H ∧ Ext w1 w' ∧ w'.Ok (k.G.hide (D :: k.G.hid)) ∧ H D = some (.lst acc) ∧ D ∉ w'.ρ ∧ acc.length ≤ i ∧ RepAll (k.G.hide (D :: k.G.hid)) w'.ρ w'.H rs acc ∧ (lcGo f (items.drop i) w'.S).post (fun r S => P (rs ++ r) S) E
def gX (k : Kx) (t : Tg) : TG := fun v σ H Q => ∃ h, gT (k.hide h) t v σ H Q
def tTX (k : Kx) (ic : IE) : TT := fun σ H Q => ∃ h, tT (k.hide h) W0 ic σ H Q
def tEX (k : Kx) (ie : IE) : TE := fun σ H Q => ∃ h, tE (k.hide h) W0 ie σ H Q
theorem g_X {X : Cx} {tg : Expr} (hg : ∀ h, PG X tg (gT (k.hide h) t)) : PG X tg (gX k t) := ⟨fun pins s' σ H' v u Q I r ⟨h, q⟩ => (hg h).run pins s' σ H' v u Q I r q⟩
theorem tT_X {X : Cx} (ht : ∀ h, PTs X ifs (tT (k.hide h) W0 ic)) : PTs X ifs (tTX k ic) := ⟨fun pins s' σ H' Q I ⟨h, q⟩ => (ht h).run pins s' σ H' Q I q⟩
theorem tE_X {X : Cx} (he : ∀ h, PE X elt (tE (k.hide h) W0 ie)) : PE X elt (tEX k ie) := ⟨fun pins s' σ H' Q I ⟨h, q⟩ => (he h).run pins s' σ H' Q I q⟩
theorem lc_read {σ : L2.St} {H : Hp} {Q : VK} (hts : ∀ i ∈ tgNames t, i ∈ own.map (·.2)) (h0 : tE k W (.lc m own ik src t ic ie) σ H Q) : tLc (tI k W ik src) (gX k t) (tTX k ic) (tEX k ie) (own.map (·.2)) σ H Q := by
  obtain ⟨w, env, e0, okw, er, h⟩ := h0
  subst e0
  refine ⟨w, env, rfl, okw, er, R.post_mono (R.post_bind h) (fun vs S1 h1 => ?_) fun _ _ z => z⟩
  cases hq : itemsV ik vs with
  | none => rw [hq] at h1; exact h1.elim
  | some items =>
  rw [hq] at h1
  refine ⟨items, rfl, fun w1 e1 eS o1 hz J it D hD => ?_⟩
  subst eS
  have h1 : (lcGo (lcF k.C t ic ie (wipeE env (own.map (·.2)))) items w1.S).post (fun a S => (alloc m a S).post (PV k.G w Q) (XW k.G w W σ)) (XW k.G w W σ) := R.post_bind h1
  have er1 := er.mono okw e1
  have hDr : D ∉ w1.ρ := o1.out hD
  have hid : Hid k.G w1 (D :: k.G.hid) := .inr ⟨D, rfl, hD⟩
  refine lc_it (g := gX k t) (tt := tTX k ic) (te := tEX k ie) (vs := own.map (·.2)) (σ := σ) (Qd := fun H => Q (.ref D) H) (n := items.length) (Y := fun i H x H' => J.yld i H x H') (G := fun H => ∃ w', Ext w1 w' ∧ w'.H = H) (J := J) ⟨fun i H hi ⟨w', e, eH⟩ => by subst eH; exact it.1 w' i e.toH hi, fun H ⟨w', e, eH⟩ => by subst eH; exact it.2.1 w' e.toH, fun i H x H' _ _ y => y⟩
    (LcInv k w1 D items (lcF k.C t ic ie (wipeE env (own.map (·.2)))) (fun a S => (alloc m a S).post (PV k.G w Q) (XW k.G w W σ)) (XW k.G w W σ)) ⟨⟨w1.ρ, upd w1.H D (.lst []), w1.S⟩, [], [], rfl, ext_new hD, ok_hide o1 hD, upd_same, hDr, Nat.zero_le _, rfl, h1⟩ (fun i H _ ⟨w', acc, rs, eH, e, _⟩ => ⟨w', e, eH⟩) (fun i x H H' hlt ⟨w', acc, rs, eH, e', o', hD', hn', hl', ra', hp⟩ y => ?_) (fun H ⟨w', acc, rs, eH, e', o', hD', hn', hl', ra', hp⟩ => ?_)
  · subst eH
    obtain ⟨w2, itm, e2, eS2, eH2, o2, hit, rit⟩ := it.2.2 _ hid w' i x H' e'.toH o' hlt y
    subst eH2
    have hdr : items.drop i = itm :: items.drop (i + 1) := by
      rw [List.drop_eq_getElem_cons hlt]
      congr 1
      rw [List.getElem?_eq_getElem hlt] at hit
      exact Option.some.inj hit
    rw [hdr] at hp
    have hp1 := hp
    unfold lcGo at hp1
    rw [← eS2] at hp1
    unfold lcF at hp1
    have er2 : EnvR (k.G.hide (D :: k.G.hid)) w2 (wipeE env (own.map (·.2))) (L2.wipe σ (own.map (·.2))) := (er_hid o1 hid (e'.trans e2).toH er1).wipe _
    cases ha : asg t itm (wipeE env (own.map (·.2))) with
    | none =>
      rw [ha] at hp1
      exact hp1.elim
    | some env1 =>
      rw [ha] at hp1
      have hp2 := R.post_bind (noexc_post hp1)
      have hD2 : w2.H D = some (.lst acc) := e2.keep D _ hD' hn'
      have hn2 : D ∉ w2.ρ := e2.out hD' hn'
      refine ⟨_, w2, _, itm, env1, rfl, o2, er2, rit, ha, fun σ2 w3 e3 eS3 o3 er3 sb => ⟨by rw [sb.wipe hts, wipe_wipe], ?_⟩⟩
      refine ⟨D :: k.G.hid, w3, env1, rfl, o3, er3, ?_⟩
      rw [← eS3] at hp2
      have hD3 : w3.H D = some (.lst acc) := e3.keep D _ hD2 hn2
      have hn3 : D ∉ w3.ρ := e3.out hD2 hn2
      refine R.post_mono hp2 (fun c S4 hc => ?_) (fun _ _ z => z.elim)
      cases c <;> first
        | exact False.elim hc
        | skip
      rename_i b
      refine ⟨b, rfl, fun w4 e4 eS4 o4 => ?_⟩
      subst eS4
      have hD4 : w4.H D = some (.lst acc) := e4.keep D _ hD3 hn3
      have hn4 : D ∉ w4.ρ := e4.out hD3 hn3
      cases b with
      | false =>
        show (if false = true then _ else _)
        rw [if_neg (by decide)]
        refine ⟨w4, acc, rs, rfl, ((e'.trans e2).trans e3).trans e4, o4, hD4, hn4, by omega, ?_, ?_⟩
        · exact o3.reps e4 (o2.reps e3 (o'.reps e2 ra'))
        · have hc' := R.post_bind hc
          exact hc'
      | true =>
        show (if true = true then _ else _)
        rw [if_pos rfl]
        refine ⟨D :: k.G.hid, w4, env1, rfl, o4, er3.mono o3 e4, R.post_mono (R.post_bind hc) (fun v S5 hv => ?_) (fun _ _ z => z.elim)⟩
        intro w5 y e5 eS5 o5 r5
        subst eS5
        have hD5 : w5.H D = some (.lst acc) := e5.keep D _ hD4 hn4
        have hn5 : D ∉ w5.ρ := e5.out hD4 hn4
        have hm : D ∈ (k.G.hide (D :: k.G.hid)).hid := List.mem_cons_self
        have eA : Ext w1 w5 := (((e'.trans e2).trans e3).trans e4).trans e5
        refine ⟨acc, hD5, by omega, ⟨w5.ρ, upd w5.H D (.lst (acc ++ [y])), w5.S⟩, acc ++ [y], rs ++ [v], rfl, ⟨eA.pre, fun b o hb hbn => ?_⟩, ok_dset o5 hD5 hm hn5, upd_same, hn5, by rw [List.length_append]; simp; omega, ?_, ?_⟩
        · show upd w5.H D _ b = some o
          rw [upd_ne (ne_of_none hb hD)]
          exact eA.keep b o hb hbn
        · refine RepAll.dset hD5 hm _ ?_
          exact (o4.reps e5 (o3.reps e4 (o2.reps e3 (o'.reps e2 ra')))).append ⟨y, [], rfl, r5, rfl⟩
        · refine R.post_mono (R.post_bind hv) (fun r S6 h6 => ?_) fun _ _ z => z
          rw [List.append_assoc]
          exact h6
  · subst eH
    rw [List.drop_length] at hp
    have hp' : (alloc m (rs ++ []) w'.S).post (PV k.G w Q) (XW k.G w W σ) := hp
    rw [List.append_nil] at hp'
    have hDh : D ∉ k.G.hid := o1.nhid hD
    have hzl : acc.length ≤ sizeLine := by omega
    cases m with
    | false => exact hp' w' (.ref D) (e1.trans e') rfl (ok_unhide o') ⟨D, acc, rfl, hD', ⟨hn', hDh⟩, hzl, RepAll.unhide _ ra'⟩
    | true =>
      refine hp' ⟨w'.ρ ++ [D], w'.H, w'.S ++ [.lst rs]⟩ (.ref D) (e1.trans ⟨?_, e'.keep⟩) rfl (ok_adopt o' hD' hn' hDh hzl ra') ⟨D, ?_, rfl⟩
      · obtain ⟨more, e5, e6⟩ := e'.pre
        refine ⟨more ++ [D], by show w'.ρ ++ [D] = _; rw [e5, List.append_assoc], fun a ha => ?_⟩
        rcases List.mem_append.mp ha with h | h
        · exact e6 a h
        · rw [List.mem_singleton.mp h]
          exact ⟨hD, hDr⟩
      · show (w'.ρ ++ [D])[w'.S.length]? = some D
        rw [← o'.len, List.getElem?_append_right (Nat.le_refl _), Nat.sub_self]
        rfl
theorem s_lc (S : Sx k X) (hi : PI X tg iter (tI k W ik src)) (ok : BlkOk X.N X.env.scope scope own) (hts : ∀ i ∈ tgNames t, i ∈ own.map (·.2))
    (hg : ∀ h (s : Shared) (H : Hp) (C : Addr) (cl : List (Str × Addr)) (fp : List Addr), PG (X.blk s H scope (compEnvC scope cl C X.env) fp) tg (gT (k.hide h) t))
    (ht : ∀ h (s : Shared) (H : Hp) (C : Addr) (cl : List (Str × Addr)) (fp : List Addr), PTs (X.blk s H scope (compEnvC scope cl C X.env) fp) ifs (tT (k.hide h) W0 ic))
    (he : ∀ h (s : Shared) (H : Hp) (C : Addr) (cl : List (Str × Addr)) (fp : List Addr), PE (X.blk s H scope (compEnvC scope cl C X.env) fp) elt (tE (k.hide h) W0 ie))
    (hs : ∀ x, foldedSetIterable iter X.env x = pure x) : PE X (.ListComp elt [⟨tg, iter, ifs, 0⟩] scope pos) (tE k W (.lc m own ik src t ic ie)) :=
  (pe_lc S.calm S.nd hi ok (fun s H C cl fp => g_X fun h => hg h s H C cl fp) (fun s H C cl fp => tT_X fun h => ht h s H C cl fp) (fun s H C cl fp => tE_X fun h => he h s H C cl fp) hs).imp fun σ H Q h => lc_read hts h
theorem st_yes (h : List Addr) {X : Cx} : PTs X [] (tT (k.hide h) W0 .yes) := ⟨fun pins s σ H Q I ⟨w, env, e0, ok, er, q⟩ => pts_nil.run pins s σ H Q I (by
  subst e0
  obtain ⟨b, e, q⟩ := q
  injection e with e
  subst e
  exact q w (Ext.refl w) rfl ok)⟩
end
end Lt
set_option maxHeartbeats 4000000
namespace Lt
open PySem PySem.Spec PyProof.Rows L2
def DK (k : Kx) (w : Wd) (W : WX) (D : Ends) : SR → Prop
  | .next env S => ∀ w' σ', Ext w w' → w'.S = S → w'.Ok k.G → EnvR k.G w' env σ' → D.nx σ' w'.H
  | .brk env S => ∀ w' σ', Ext w w' → w'.S = S → w'.Ok k.G → EnvR k.G w' env σ' → D.bk σ' w'.H
  | .cont env S => ∀ w' σ', Ext w w' → w'.S = S → w'.Ok k.G → EnvR k.G w' env σ' → D.ct σ' w'.H
  | .ret v S => ∀ w' x, Ext w w' → w'.S = S → w'.Ok k.G → Rep k.G w'.ρ w'.H v x → D.rt x w'.H
  | .exc x env S => ∀ w' σ' cls d, Ext w w' → w'.S = S → w'.Ok k.G → EnvR k.G w' env σ' → ExR k.G w' x cls d → W cls d σ' w'.H
  | .stuck => False
theorem DK.ext {k : Kx} {w w1 : Wd} {W : WX} {D : Ends} (e : Ext w w1) : ∀ {r : SR}, DK k w W D r → DK k w1 W D r
  | .next _ _, h => fun w' σ' e1 => h w' σ' (e.trans e1)
  | .brk _ _, h => fun w' σ' e1 => h w' σ' (e.trans e1)
  | .cont _ _, h => fun w' σ' e1 => h w' σ' (e.trans e1)
  | .ret _ _, h => fun w' x e1 => h w' x (e.trans e1)
  | .exc _ _ _, h => fun w' σ' cls d e1 => h w' σ' cls d (e.trans e1)
  | .stuck, h => h
theorem DK.bind {k : Kx} {w : Wd} {W : WX} {D : Ends} {f : Env → Store → SR} {nx : L2.St → Hp → Prop} (hn : ∀ env w' σ', Ext w w' → w'.Ok k.G → EnvR k.G w' env σ' → DK k w' W D (f env w'.S) → nx σ' w'.H) : ∀ {r : SR}, DK k w W D (r.bind f) → DK k w W { D with nx := nx } r
  | .next env _, h => fun w' σ' e1 eS o1 er => by
    subst eS
    exact hn env w' σ' e1 o1 er (DK.ext e1 h)
  | .brk _ _, h => h
  | .cont _ _, h => h
  | .ret _ _, h => h
  | .exc _ _ _, h => h
  | .stuck, h => h
def tS (k : Kx) (W : WX) (s : IS) : TS := fun D σ H => ∃ w env, w.H = H ∧ w.Ok k.G ∧ EnvR k.G w env σ ∧ DK k w W D (evS k.C k.F s env w.S)
def gL (k : Kx) (W : WX) (t : LT) : TG := fun v σ H Q => ∃ w env x D, w.H = H ∧ w.Ok k.G ∧ EnvR k.G w env σ ∧ Rep k.G w.ρ w.H x v ∧ (∀ σ H, D.nx σ H → Q σ H) ∧ DK k w W D (asgL k.C t x env w.S)
theorem _root_.L2.PS.imp {X : Cx} {e : Stmt} {t t' : TS} (h : PS X e t) (i : ∀ D σ H, t' D σ H → t D σ H) : PS X e t' := ⟨fun pins s σ H D I q => h.run pins s σ H D I (i D σ H q)⟩
theorem _root_.L2.PSs.imp {X : Cx} {e : List Stmt} {t t' : TS} (h : PSs X e t) (i : ∀ D σ H, t' D σ H → t D σ H) : PSs X e t' := ⟨fun pins s σ H D I q => h.run pins s σ H D I (i D σ H q)⟩
section
variable {k : Kx} {W : WX} {e : IE} {env : Env} {σ : L2.St} {w : Wd} {D : Ends}
theorem then_post {α : Type} {r : R α} {f : α → Store → SR} (h : DK k w W D (r.then env f)) : r.post (fun a S => DK k w W D (f a S)) (fun x S => DK k w W D (.exc x env S)) := by
  cases r <;> exact h
theorem exc_XW {x : Exc} {S : Store} (ok : w.Ok k.G) (er : EnvR k.G w env σ) (h : DK k w W D (.exc x env S)) : XW k.G w W σ x S := fun w' cls d e eS o r => h w' σ cls d e eS o (er.mono ok e) r
theorem stepS (ok : w.Ok k.G) (er : EnvR k.G w env σ) {f : Val → Store → SR} (h : DK k w W D ((evE k.C e env w.S).then env f)) {Q : VK}
    (q : ∀ v w1 x, Ext w w1 → w1.Ok k.G → Rep k.G w1.ρ w1.H v x → EnvR k.G w1 env σ → DK k w1 W D (f v w1.S) → Q x w1.H) : tE k W e σ w.H Q := by
  refine ⟨w, env, rfl, ok, er, R.post_mono (then_post h) (fun v S z w1 x e1 eS o1 r1 => ?_) fun x S z => exc_XW ok er z⟩
  subst eS
  exact q v w1 x e1 o1 r1 (er.mono ok e1) (DK.ext e1 z)
theorem stepSAs (ok : w.Ok k.G) (er : EnvR k.G w env σ) {f : List Val → Store → SR} (h : DK k w W D ((evAs k.C e env w.S).then env f)) {Q : List V → Hp → Prop}
    (q : ∀ v w1 x, Ext w w1 → w1.Ok k.G → RepAll k.G w1.ρ w1.H v x → EnvR k.G w1 env σ → DK k w1 W D (f v w1.S) → Q x w1.H) : tAs k W e σ w.H Q := by
  refine ⟨w, env, rfl, ok, er, R.post_mono (then_post h) (fun v S z w1 x e1 eS o1 r1 => ?_) fun x S z => exc_XW ok er z⟩
  subst eS
  exact q v w1 x e1 o1 r1 (er.mono ok e1) (DK.ext e1 z)
theorem stepST (ok : w.Ok k.G) (er : EnvR k.G w env σ) {f : Val → Store → SR} (h : DK k w W D ((evE k.C e env w.S).then env f)) (hb : ∀ v S, DK k w W D (f v S) → ∃ b, v = .bl b) {Q : Bool → Hp → Prop}
    (q : ∀ b w1, Ext w w1 → w1.Ok k.G → EnvR k.G w1 env σ → DK k w1 W D (f (.bl b) w1.S) → Q b w1.H) : tT k W e σ w.H Q := by
  refine ⟨w, env, rfl, ok, er, R.post_mono (then_post h) (fun v S z => ?_) fun x S z => exc_XW ok er z⟩
  obtain ⟨b, rfl⟩ := hb v S z
  refine ⟨b, rfl, fun w1 e1 eS o1 => ?_⟩
  subst eS
  exact q b w1 e1 o1 (er.mono ok e1) (DK.ext e1 z)
end
section
variable {k : Kx} {X : Cx} {W : WX} {a b c e o i : Expr} {ia ib ic ie io : IE} {pos p p' : Pos} {es : List Expr} {x f : Str} {st : Stmt} {rest body : List Stmt} {is ir ibd : IS}
theorem ps_done : PSs X [] (tS k W .done) := pss_nil.imp fun D σ H ⟨w, env, e0, ok, er, h⟩ => by
  subst e0
  exact h w σ (Ext.refl w) rfl ok er
theorem ps_seq (h1 : PS X st (tS k W is)) (h2 : PSs X rest (tS k W ir)) : PSs X (st :: rest) (tS k W (.seq is ir)) :=
  (pss_cons h1 h2).imp fun D σ H ⟨w, env, e0, ok, er, h⟩ => by
    subst e0
    have h' : DK k w W D ((evS k.C k.F is env w.S).bind fun env1 S1 => evS k.C k.F ir env1 S1) := h
    exact ⟨w, env, rfl, ok, er, DK.bind (fun env' w' σ' e1 o1 er1 z => ⟨w', env', rfl, o1, er1, z⟩) h'⟩
theorem ps_pass' : PS X (.Pass pos) (tS k W .pass) := ps_pass.imp fun D σ H ⟨w, env, e0, ok, er, h⟩ => by
  subst e0
  exact h w σ (Ext.refl w) rfl ok er
theorem ps_doc' {z : Str} {jj : Nat} : PS X (.Expr (.Constant (.str z) jj p) pos) (tS k W .pass) := ps_doc.imp fun D σ H ⟨w, env, e0, ok, er, h⟩ => by
  subst e0
  exact h w σ (Ext.refl w) rfl ok er
theorem ps_brk' : PS X (.Break pos) (tS k W .brk) := ps_break.imp fun D σ H ⟨w, env, e0, ok, er, h⟩ => by
  subst e0
  exact h w σ (Ext.refl w) rfl ok er
theorem ps_cont' : PS X (.Continue pos) (tS k W .cont) := ps_continue.imp fun D σ H ⟨w, env, e0, ok, er, h⟩ => by
  subst e0
  exact h w σ (Ext.refl w) rfl ok er
theorem ps_retN' : PS X (.Return none pos) (tS k W .retN) := ps_retN.imp fun D σ H ⟨w, env, e0, ok, er, h⟩ => by
  subst e0
  exact h w _ (Ext.refl w) rfl ok rfl
theorem ps_ret' (he : PE X e (tE k W ie)) : PS X (.Return (some e) pos) (tS k W (.ret ie)) := (ps_ret he).imp fun D σ H ⟨w, env, e0, ok, er, h⟩ => by
  subst e0
  have h' : DK k w W D ((evE k.C ie env w.S).then env fun v S1 => .ret v S1) := h
  exact stepS ok er h' fun v w1 x e1 o1 r1 er1 z => z w1 x (Ext.refl _) rfl o1 r1
theorem ps_exp' (he : PE X e (tE k W ie)) (hs : swapsWith e none pos.line X.env = pure false) : PS X (.Expr e pos) (tS k W (.exp ie)) := (ps_expr he hs).imp fun D σ H ⟨w, env, e0, ok, er, h⟩ => by
  subst e0
  have h' : DK k w W D ((evE k.C ie env w.S).then env fun _ S1 => .next env S1) := h
  exact stepS ok er h' fun v w1 x e1 o1 r1 er1 z => z w1 σ (Ext.refl _) rfl o1 er1
theorem ps_if' {s1 s2 : List Stmt} {i1 i2 : IS} (hc : PT X c (tT k W ic)) (h1 : PSs X s1 (tS k W i1)) (h2 : PSs X s2 (tS k W i2)) : PS X (.If c s1 s2 pos) (tS k W (.ifs ic i1 i2)) := (ps_if hc h1 h2).imp fun D σ H ⟨w, env, e0, ok, er, h⟩ => by
  subst e0
  have h' : DK k w W D ((evE k.C ic env w.S).then env fun v S1 => match v with
    | .bl true => evS k.C k.F i1 env S1
    | .bl false => evS k.C k.F i2 env S1
    | _ => .stuck) := h
  refine stepST ok er h' (fun v S z => ?_) fun b w1 e1 o1 er1 z => ?_
  · cases v <;> first
      | exact False.elim z
      | exact ⟨_, rfl⟩
  · cases b with
    | true => exact ⟨w1, env, rfl, o1, er1, z⟩
    | false => exact ⟨w1, env, rfl, o1, er1, z⟩
theorem ps_never' {sts : List Stmt} : PSs X sts (tS k W .never) := ⟨fun _ _ _ _ _ _ ⟨w, env, e0, ok, er, h⟩ => False.elim h⟩
theorem gl_p {tg : Expr} {t : Tg} (h : PG X tg (gT k t)) : PG X tg (gL k W (.p t)) := h.imp fun v σ H Q ⟨w, env, x, D, e0, ok, er, r, hq, z⟩ => by
  subst e0
  have z' : DK k w W D (match asg t x env with
    | some env' => .next env' w.S
    | none => .stuck) := z
  cases ha : asg t x env with
  | none => rw [ha] at z'; exact False.elim z'
  | some env' =>
    rw [ha] at z'
    exact ⟨w, env, x, env', rfl, ok, er, r, ha, fun σ' w' e1 eS o1 er1 _ => hq _ _ (z' w' σ' e1 eS o1 er1)⟩
theorem gl_sub (S : Sx k X) (ho : PE X o (tE k W io)) (hi : PE X i (tE k W ia))
    (ha : ∀ v, assign (.Subscript o i pos) X.env v = (do
      let ov ← holding [v] (eval o X.env)
      let iv ← holding [v, ov] (eval i X.env)
      standAt pos
      holding [v, ov, iv] (setItem ov iv v)
      release [v, ov, iv] [])) : PG X (.Subscript o i pos) (gL k W (.sub io ia)) := (pg_sub ho hi set_list ha).imp fun v σ H Q ⟨w, env, x, D, e0, ok, er, r, hq, z⟩ => by
  subst e0
  have z' : DK k w W D ((evE k.C io env w.S).then env fun ov S1 => (evE k.C ia env S1).then env fun iv S2 => match ov, iv with
    | .loc l, .int n => match S2[l]? with
      | some (.lst xs) => match L2.ixN xs.length n with
        | some j => .next env (S2.set l (.lst (xs.set j x)))
        | none => .stuck
      | _ => .stuck
    | _, _ => .stuck) := z
  refine stepS ok er z' fun ov w1 y1 e1 o1 r1 er1 z1 => ?_
  refine stepS o1 er1 z1 fun iv w2 y2 e2 o2 r2 er2 z2 => ?_
  cases ov with
  | loc l =>
    cases iv with
    | int n =>
      have z3 : DK k w2 W D (match w2.S[l]? with
        | some (.lst xs) => match L2.ixN xs.length n with
          | some j => .next env (w2.S.set l (.lst (xs.set j x)))
          | none => .stuck
        | _ => .stuck) := z2
      cases hs : w2.S[l]? with
      | none => rw [hs] at z3; exact False.elim z3
      | some ob =>
        rw [hs] at z3
        cases ob with
        | inst _ _ => exact False.elim z3
        | lst xs =>
          have z4 : DK k w2 W D (match L2.ixN xs.length n with
            | some j => .next env (w2.S.set l (.lst (xs.set j x)))
            | none => .stuck) := z3
          obtain ⟨p, hp, rfl⟩ := (o1.rep e2 r1 : Rep k.G w2.ρ w2.H (.loc l) y1)
          obtain ⟨us, h1, hz, h2⟩ := o2.ob l p _ hp hs
          cases hj : L2.ixN xs.length n with
          | none => rw [hj] at z4; exact False.elim z4
          | some j =>
            rw [hj] at z4
            obtain ⟨e3, o3⟩ := set_lst (ys := xs.set j x) (us := us.set j v) o2 hp (by rw [List.length_set]; exact hz) (h2.set (ok.rep (e1.trans e2) r) j)
            refine ⟨p, us, n, j, rfl, r2, h1, by rw [h2.length]; exact hj, hq _ _ (z4 ⟨w2.ρ, _, _⟩ σ e3 rfl o3 (er2.mono o2 e3))⟩
    | _ => exact False.elim z2
  | _ => cases iv <;> exact False.elim z2
theorem gl_pair (S : Sx k X) {t1 t2 : Expr} {l1 l2 : LT} {kk : Nat} (h1 : PG X t1 (gL k W l1)) (h2 : PG X t2 (gL k W l2)) (hs : (assignEach [t1, t2] X.env).map (·.2) = assign t1 X.env :: (assignEach [t2] X.env).map (·.2)) (hs2 : (assignEach [t2] X.env).map (·.2) = assign t2 X.env :: (assignEach [] X.env).map (·.2))
    (hn : (assignEach [t1, t2] X.env).length = 2) (hst : (assignEach [t1, t2] X.env).findIdx? (·.1) = none) : PG X (.Tuple [t1, t2] kk pos) (gL k W (.pair l1 l2)) :=
  (pg_tup S.calm (pgs_cons h1 (pgs_cons h2 pgs_nil hs2) hs) hn hst).imp fun v σ H Q ⟨w, env, x, D, e0, ok, er, r, hq, z⟩ => by
    subst e0
    cases x <;> first
      | (exact False.elim z)
      | skip
    rename_i xs
    rcases xs with _ | ⟨u, _ | ⟨u2, _ | ⟨u3, us⟩⟩⟩ <;> first
      | (exact False.elim z)
      | skip
    have z' : DK k w W D ((asgL k.C l1 u env w.S).bind fun env1 S1 => asgL k.C l2 u2 env1 S1) := z
    obtain ⟨p, vs, rfl, h3, hz, h4⟩ := r
    obtain ⟨y1, y2, rfl, r1, r2⟩ := two_of h4
    refine ⟨p, _, rfl, by rw [S.hK]; exact h3, rfl, y1, [y2], rfl, w, env, u, _, rfl, ok, er, r1, fun _ _ q => q, DK.bind (nx := fun σ1 H1 => gCons (gL k W l2) gNil [y2] σ1 H1 Q) (fun env1 w1 σ1 e1 o1 er1 z1 => ?_) z'⟩
    exact ⟨y2, [], rfl, w1, env1, u2, D, rfl, o1, er1, ok.rep e1 r2, fun σ H q => ⟨rfl, hq σ H q⟩, z1⟩
theorem ps_set' {tg : Expr} {t : LT} (he : PE X e (tE k W ie)) (hg : PG X tg (gL k W t)) (hs : swapsWithSole [tg] e pos.line X.env = pure false) (hw : swappedStores [tg] e X.env = pure none)
    (h1 : (assignEach [tg] X.env).map (·.2) = [assign tg X.env]) : PS X (.Assign [tg] e pos) (tS k W (.set t ie)) := (ps_asg he hg hs hw h1).imp fun D σ H ⟨w, env, e0, ok, er, h⟩ => by
  subst e0
  have h' : DK k w W D ((evE k.C ie env w.S).then env fun v S1 => asgL k.C t v env S1) := h
  exact stepS ok er h' fun v w1 x e1 o1 r1 er1 z => ⟨w1, env, v, D, rfl, o1, er1, r1, fun _ _ q => q, z⟩
theorem ps_setN {n : Nat} (S : Sx k X) (hi : X.N[n]? = some x) (hx : Loc X.env.scope x) (hf : X.fn x = true ∨ X.env.scope.names.lookup x = some .local) (he : PE X e (tE k W ie)) (hs : swapsWith e (some (.Name x p')) pos.line X.env = pure false) : PS X (.Assign [.Name x p'] e pos) (tS k W (.set (.p (.v n)) ie)) := (ps_set S.nd hi hx he hs hf).imp fun D σ H ⟨w, env, e0, ok, er, h⟩ => by
  subst e0
  have h' : DK k w W D ((evE k.C ie env w.S).then env fun v S1 => asgL k.C (.p (.v n)) v env S1) := h
  exact stepS ok er h' fun v w1 x e1 o1 r1 er1 z => z w1 _ (Ext.refl _) rfl o1 (er1.set r1)
theorem ps_fld' (S : Sx k X) (hf : ∀ c C, k.G.cl c = some C → NoAttr X.K C f) (he : PE X e (tE k W ie)) (ho : PE X o (tE k W io)) (hs : swapsWith e (some (.Attribute o f p')) pos.line X.env = pure false) : PS X (.Assign [.Attribute o f p'] e pos) (tS k W (.set (.fld io f) ie)) := (ps_fld ho he hs).imp fun D σ H ⟨w, env, e0, ok, er, h⟩ => by
  subst e0
  have h' : DK k w W D ((evE k.C ie env w.S).then env fun v S1 => asgL k.C (.fld io f) v env S1) := h
  refine stepS ok er h' fun v w1 y e1 o1 r1 er1 z1 => ?_
  have z1' : DK k w1 W D ((evE k.C io env w1.S).then env fun ov S1 => match ov with
    | .loc l => match S1[l]? with
      | some (.inst c fs) => if fs.length < 900 then .next env (S1.set l (.inst c (setF f v fs))) else .stuck
      | _ => .stuck
    | _ => .stuck) := z1
  refine stepS o1 er1 z1' fun ov w2 y2 e2 o2 r2 er2 z2 => ?_
  cases ov with
  | loc l =>
    have z3 : DK k w2 W D (match w2.S[l]? with
      | some (.inst c fs) => if fs.length < 900 then .next env (w2.S.set l (.inst c (setF f v fs))) else .stuck
      | _ => .stuck) := z2
    cases hs : w2.S[l]? with
    | none => rw [hs] at z3; exact False.elim z3
    | some ob =>
      rw [hs] at z3
      cases ob with
      | lst _ => exact False.elim z3
      | inst cn fs =>
        have z4 : DK k w2 W D (if fs.length < 900 then .next env (w2.S.set l (.inst cn (setF f v fs))) else .stuck) := z3
        obtain ⟨q, hq, rfl⟩ := r2
        obtain ⟨C, dx, fv, hC, hH, hF⟩ := inst_at o2 hq hs
        by_cases hl : fs.length < 900
        · rw [if_pos hl] at z4
          have e3 : Ext w2 ⟨w2.ρ, upd w2.H q (.ins C dx (putF f y fv)), w2.S.set l (.inst cn (setF f v fs))⟩ := ext_set hq
          have o3 : Wd.Ok k.G ⟨w2.ρ, upd w2.H q (.ins C dx (putF f y fv)), w2.S.set l (.inst cn (setF f v fs))⟩ := ok_set o2 hq ⟨C, dx, _, hC, upd_same, (hF.mono o2 e3).put ((o1.rep e2 r1 : Rep k.G w2.ρ w2.H v y) |> o2.rep e3)⟩
          refine ⟨q, C, dx, fv, rfl, hH, (S.cl cn C hC).1, hf cn C hC, by rw [hF.len]; omega, z4 ⟨w2.ρ, _, _⟩ σ e3 rfl o3 (er2.mono o2 e3)⟩
        · rw [if_neg hl] at z4
          exact False.elim z4
  | _ => exact False.elim z2
theorem ps_par2' (S : Sx k X) {n m : Nat} {y : Str} {px py pt : Pos} {kt k2 : Nat} {pt2 : Pos} (hi : X.N[n]? = some x) (hj : X.N[m]? = some y) (hij : n ≠ m)
    (hx : X.env.scope.names.lookup x = some .local) (hy : X.env.scope.names.lookup y = some .local) (ha : PA X [a, b] (tAs k W (.cons ia (.cons ib .nil))))
    (hw : swappedStores [.Tuple [.Name x px, .Name y py] kt pt] (.Tuple [a, b] k2 pt2) X.env = pure (some [x, y]))
    (hs : swapsWithSole [.Tuple [.Name x px, .Name y py] kt pt] (.Tuple [a, b] k2 pt2) pos.line X.env = pure false) :
    PS X (.Assign [.Tuple [.Name x px, .Name y py] kt pt] (.Tuple [a, b] k2 pt2) pos) (tS k W (.par2 n m ia ib)) := (ps_par S.calm S.nd hi hj hij hx hy ha hw hs).imp fun D σ H ⟨w, env, e0, ok, er, h⟩ => by
  subst e0
  have h' : DK k w W D ((evAs k.C (.cons ia (.cons ib .nil)) env w.S).then env fun vs S => match vs with
    | [u, v] => .next ((env.set n (some u)).set m (some v)) S
    | _ => .stuck) := by
    have h1 : DK k w W D ((evE k.C ia env w.S).then env fun u S1 => (evE k.C ib env S1).then env fun v S2 => .next ((env.set n (some u)).set m (some v)) S2) := h
    show DK k w W D (R.then ((evE k.C ia env w.S).bind fun x S1 => ((evE k.C ib env S1).bind fun y S2 => R.ok [y] S2).bind fun xs S2 => R.ok (x :: xs) S2) env _)
    cases q : evE k.C ia env w.S with
    | ok u S1 =>
      rw [q] at h1
      rw [R.bind_ok]
      rw [R.then_ok] at h1
      cases q2 : evE k.C ib env S1 with
      | ok v S2 => rw [q2] at h1; exact h1
      | exc x S2 => rw [q2] at h1; exact h1
      | stuck => rw [q2] at h1; exact h1
    | exc x S1 => rw [q] at h1; exact h1
    | stuck => rw [q] at h1; exact h1
  refine stepSAs ok er h' fun vs w1 xs e1 o1 r1 er1 z => ?_
  rcases vs with _ | ⟨u, _ | ⟨u2, _ | ⟨u3, us⟩⟩⟩ <;> first
    | (exact False.elim z)
    | skip
  obtain ⟨y1, y2, rfl, q1, q2⟩ := two_of r1
  exact ⟨y1, y2, rfl, z w1 _ (Ext.refl _) rfl o1 ((er1.set q1).set q2)⟩
end
end Lt
set_option maxHeartbeats 4000000
namespace Lt
open PySem PySem.Spec PyProof.Rows L2
section
variable {k : Kx} {X : Cx} {W : WX} {a b c e o i : Expr} {ia ib ic ie io : IE} {pos p p' : Pos} {es : List Expr} {x f : Str} {st : Stmt} {rest body : List Stmt} {is ir ibd : IS}
def forF (C : Calls) (F : Nat) (t : Tg) (body : IS) : Val → Env → Store → SR := fun x env S => match asg t x env with
  | some env' => evS C F body env' S
  | none => .stuck
theorem ps_for' (S : Sx k X) (hp : PassesOwn (model X.prog X.w) X.A X.env X.xe) {tg iter : Expr} {ik : IK} {src : IE} {t : Tg} (hi : PI X tg iter (tI k W ik src)) (hg : PG X tg (gT k t)) (hb : PSs X body (tS k W ibd))
    (hs : ∀ x, foldedSetIterable iter X.env x = pure x) : PS X (.For tg iter body [] pos) (tS k W (.for t ik src ibd)) := (ps_for hp S.calm hi hg hb hs).imp fun D σ H ⟨w, env, e0, ok, er, h⟩ => by
  subst e0
  have h' : DK k w W D ((evAs k.C src env w.S).then env fun vs S1 => match itemsV ik vs with
    | some items => forGo (forF k.C k.F t ibd) items env S1
    | none => .stuck) := h
  refine ⟨w, env, rfl, ok, er, R.post_mono (then_post h') (fun vs S1 h1 => ?_) fun x S z => exc_XW ok er z⟩
  cases hq : itemsV ik vs with
  | none => rw [hq] at h1; exact False.elim h1
  | some items =>
  rw [hq] at h1
  refine ⟨items, rfl, fun w1 e1 eS o1 hz J it => ?_⟩
  subst eS
  have er1 := er.mono ok e1
  have h1 : DK k w1 W D (forGo (forF k.C k.F t ibd) items env w1.S) := DK.ext e1 h1
  refine for_it (g := gT k t) (tb := tS k W ibd) (D := D) (σ := σ) (H := w1.H) (n := items.length) (Y := fun i H x H' => J.yld i H x H') (G := fun H => ∃ w', Ext w1 w' ∧ w'.H = H) (J := J) ⟨fun i H hi ⟨w', e, eH⟩ => by subst eH; exact it.1 w' i e.toH hi, fun H ⟨w', e, eH⟩ => by subst eH; exact it.2.1 w' e.toH, fun i H x H' _ _ y => y⟩
    (fun i σ H => ∃ w' env', w'.H = H ∧ Ext w1 w' ∧ w'.Ok k.G ∧ EnvR k.G w' env' σ ∧ DK k w' W D (forGo (forF k.C k.F t ibd) (items.drop i) env' w'.S))
    ⟨w1, env, rfl, Ext.refl _, o1, er1, h1⟩ (fun i σ H _ ⟨w', env', eH, e, _⟩ => ⟨w', e, eH⟩) (fun i x σ H H' hlt ⟨w', env', eH, e', o', er', z⟩ y => ?_) (fun σ H ⟨w', env', eH, e', o', er', z⟩ => ?_)
  · subst eH
    obtain ⟨w2, itm, e2, eS2, eH2, o2, hit, rit⟩ := it.2.2 k.G.hid (.inl rfl) w' i x H' e'.toH o' hlt y
    subst eH2
    have o2 : w2.Ok k.G := o2
    have rit : Rep k.G w2.ρ w2.H itm x := rit
    have hdr : items.drop i = itm :: items.drop (i + 1) := by
      rw [List.drop_eq_getElem_cons hlt]
      congr 1
      rw [List.getElem?_eq_getElem hlt] at hit
      exact Option.some.inj hit
    rw [hdr, ← eS2] at z
    have z1 : DK k w2 W D (match forF k.C k.F t ibd itm env' w2.S with
      | .next e S' => forGo (forF k.C k.F t ibd) (items.drop (i + 1)) e S'
      | .cont e S' => forGo (forF k.C k.F t ibd) (items.drop (i + 1)) e S'
      | .brk e S' => .next e S'
      | r => r) := DK.ext e2 z
    have er2 := er'.mono o' e2
    cases ha : asg t itm env' with
    | none =>
      have hf : forF k.C k.F t ibd itm env' w2.S = .stuck := by
        unfold forF
        rw [ha]
      rw [hf] at z1
      exact False.elim z1
    | some env1 =>
      have hf : forF k.C k.F t ibd itm env' w2.S = evS k.C k.F ibd env1 w2.S := by
        unfold forF
        rw [ha]
      rw [hf] at z1
      refine ⟨w2, env', itm, env1, rfl, o2, er2, rit, ha, fun σ2 w3 e3 eS3 o3 er3 sb => ?_⟩
      refine ⟨w3, env1, rfl, o3, er3, ?_⟩
      rw [← eS3] at z1
      have z2 := DK.ext e3 z1
      have eA : Ext w1 w3 := (e'.trans e2).trans e3
      cases hr : evS k.C k.F ibd env1 w3.S with
      | next e S' =>
        rw [hr] at z2
        intro w4 σ4 e4 eS4 o4 er4
        subst eS4
        exact ⟨w4, e, rfl, eA.trans e4, o4, er4, DK.ext e4 z2⟩
      | cont e S' =>
        rw [hr] at z2
        intro w4 σ4 e4 eS4 o4 er4
        subst eS4
        exact ⟨w4, e, rfl, eA.trans e4, o4, er4, DK.ext e4 z2⟩
      | brk e S' =>
        rw [hr] at z2
        exact z2
      | ret v S' =>
        rw [hr] at z2
        exact z2
      | exc y e S' =>
        rw [hr] at z2
        exact z2
      | stuck =>
        rw [hr] at z2
        exact z2
  · subst eH
    rw [List.drop_length] at z
    exact z w' σ (Ext.refl _) rfl o' er'
theorem ps_while' (S : Sx k X) (hp : PassesOwn (model X.prog X.w) X.A X.env X.xe) (hc : PT X c (tT k W ic)) (hb : PSs X body (tS k W ibd)) : PS X (.While c body [] pos) (tS k W (.while ic ibd)) := (ps_while hp hc hb).imp fun D σ H ⟨w, env, e0, ok, er, h⟩ => by
  subst e0
  have h' : DK k w W D (whileGo (evE k.C ic) (evS k.C k.F ibd) k.F env w.S) := h
  refine ⟨fun m σ H => ∃ w' env', w'.H = H ∧ w'.Ok k.G ∧ EnvR k.G w' env' σ ∧ DK k w' W D (whileGo (evE k.C ic) (evS k.C k.F ibd) m env' w'.S), ⟨k.F, w, env, rfl, ok, er, h'⟩, fun m σ H ⟨w', env', eH, o', er', z⟩ => ?_⟩
  subst eH
  cases m with
  | zero => exact False.elim z
  | succ m =>
    have z' : DK k w' W D ((evE k.C ic env' w'.S).then env' fun v S1 => match v with
      | .bl true => match evS k.C k.F ibd env' S1 with
        | .next e S' => whileGo (evE k.C ic) (evS k.C k.F ibd) m e S'
        | .cont e S' => whileGo (evE k.C ic) (evS k.C k.F ibd) m e S'
        | .brk e S' => .next e S'
        | r => r
      | .bl false => .next env' S1
      | _ => .stuck) := z
    refine stepST o' er' z' (fun v S z => ?_) fun b w1 e1 o1 er1 z1 => ?_
    · cases v <;> first
        | exact False.elim z
        | exact ⟨_, rfl⟩
    · cases b with
      | false =>
        show (if false = true then _ else _)
        rw [if_neg (by decide)]
        exact z1 w1 σ (Ext.refl _) rfl o1 er1
      | true =>
        show (if true = true then _ else _)
        rw [if_pos rfl]
        refine ⟨fun σ' H' => ∃ w' env', w'.H = H' ∧ w'.Ok k.G ∧ EnvR k.G w' env' σ' ∧ DK k w' W D (whileGo (evE k.C ic) (evS k.C k.F ibd) m env' w'.S), fun σ' H' n => ⟨m, Nat.lt_succ_self m, n⟩, w1, env', rfl, o1, er1, ?_⟩
        have z2 : DK k w1 W D (match evS k.C k.F ibd env' w1.S with
          | .next e S' => whileGo (evE k.C ic) (evS k.C k.F ibd) m e S'
          | .cont e S' => whileGo (evE k.C ic) (evS k.C k.F ibd) m e S'
          | .brk e S' => .next e S'
          | r => r) := z1
        cases hr : evS k.C k.F ibd env' w1.S with
        | next e S' =>
          rw [hr] at z2
          intro w4 σ4 e4 eS4 o4 er4
          subst eS4
          exact ⟨w4, e, rfl, o4, er4, DK.ext e4 z2⟩
        | cont e S' =>
          rw [hr] at z2
          intro w4 σ4 e4 eS4 o4 er4
          subst eS4
          exact ⟨w4, e, rfl, o4, er4, DK.ext e4 z2⟩
        | brk e S' =>
          rw [hr] at z2
          exact z2
        | ret v S' =>
          rw [hr] at z2
          exact z2
        | exc y e S' =>
          rw [hr] at z2
          exact z2
        | stuck =>
          rw [hr] at z2
          exact z2
theorem ps_setLc' {elt tg iter : Expr} {ifs : List Expr} {scope : Scope} {own : List (Str × Nat)} {spos : Pos} {ik : IK} {src : IE} {t : Tg} {m : Bool} {n : Nat} (S : Sx k X) (hy : X.N[n]? = some x) (hyl : X.env.scope.names.lookup x = some .local)
    (hsw : swapsWith (.ListComp elt [⟨tg, iter, ifs, 0⟩] scope pos) (some (.Name x p)) spos.line X.env = pure true)
    (hi : PI X tg iter (tI k W ik src)) (ok : BlkOk X.N X.env.scope scope own) (hts : ∀ i ∈ tgNames t, i ∈ own.map (·.2))
    (hg : ∀ h (s : Shared) (H : Hp) (C : Addr) (cl : List (Str × Addr)) (fp : List Addr), PG (X.blk s H scope (compEnvC scope cl C X.env) fp) tg (gT (k.hide h) t))
    (ht : ∀ h (s : Shared) (H : Hp) (C : Addr) (cl : List (Str × Addr)) (fp : List Addr), PTs (X.blk s H scope (compEnvC scope cl C X.env) fp) ifs (tT (k.hide h) W0 ic))
    (he : ∀ h (s : Shared) (H : Hp) (C : Addr) (cl : List (Str × Addr)) (fp : List Addr), PE (X.blk s H scope (compEnvC scope cl C X.env) fp) elt (tE (k.hide h) W0 ie))
    (hs : ∀ x, foldedSetIterable iter X.env x = pure x) : PS X (.Assign [.Name x p] (.ListComp elt [⟨tg, iter, ifs, 0⟩] scope pos) spos) (tS k W (.set (.p (.v n)) (.lc m own ik src t ic ie))) :=
  (ps_setLc S.calm S.nd hy hyl hsw hi ok (fun s H C cl fp => g_X fun h => hg h s H C cl fp) (fun s H C cl fp => tT_X fun h => ht h s H C cl fp) (fun s H C cl fp => tE_X fun h => he h s H C cl fp) hs).imp fun D σ H ⟨w, env, e0, ok, er, h⟩ => by
    subst e0
    have h' : DK k w W D ((evE k.C (.lc m own ik src t ic ie) env w.S).then env fun v S1 => asgL k.C (.p (.v n)) v env S1) := h
    exact lc_read hts (stepS ok er h' fun v w1 x e1 o1 r1 er1 z => z w1 _ (Ext.refl _) rfl o1 (er1.set r1))
theorem ps_par3' (S : Sx k X) {n m l : Nat} {y z : Str} {px py pz pt : Pos} {kt k2 : Nat} {pt2 : Pos} (hi : X.N[n]? = some x) (hj : X.N[m]? = some y) (hl : X.N[l]? = some z) (hij : n ≠ m) (hil : n ≠ l) (hjl : m ≠ l)
    (hx : X.env.scope.names.lookup x = some .local) (hy : X.env.scope.names.lookup y = some .local) (hzz : X.env.scope.names.lookup z = some .local) (ha : PA X [a, b, c] (tAs k W (.cons ia (.cons ib (.cons ic .nil)))))
    (hw : swappedStores [.Tuple [.Name x px, .Name y py, .Name z pz] kt pt] (.Tuple [a, b, c] k2 pt2) X.env = pure (some [x, y, z]))
    (hs : swapsWithSole [.Tuple [.Name x px, .Name y py, .Name z pz] kt pt] (.Tuple [a, b, c] k2 pt2) pos.line X.env = pure false) :
    PS X (.Assign [.Tuple [.Name x px, .Name y py, .Name z pz] kt pt] (.Tuple [a, b, c] k2 pt2) pos) (tS k W (.par3 n m l ia ib ic)) := (ps_par3 S.calm S.nd hi hj hl hij hil hjl hx hy hzz ha hw hs).imp fun D σ H ⟨w, env, e0, ok, er, h⟩ => by
  subst e0
  have h' : DK k w W D ((evAs k.C (.cons ia (.cons ib (.cons ic .nil))) env w.S).then env fun vs S => match vs with
    | [u, v, r] => .next (((env.set n (some u)).set m (some v)).set l (some r)) S
    | _ => .stuck) := by
    have h1 : DK k w W D ((evE k.C ia env w.S).then env fun u S1 => (evE k.C ib env S1).then env fun v S2 => (evE k.C ic env S2).then env fun r S3 => .next (((env.set n (some u)).set m (some v)).set l (some r)) S3) := h
    show DK k w W D (R.then ((evE k.C ia env w.S).bind fun x S1 => ((evE k.C ib env S1).bind fun y S2 => ((evE k.C ic env S2).bind fun z S3 => R.ok [z] S3).bind fun xs S3 => R.ok (y :: xs) S3).bind fun xs S2 => R.ok (x :: xs) S2) env _)
    cases q : evE k.C ia env w.S with
    | ok u S1 =>
      rw [q] at h1
      rw [R.bind_ok]
      rw [R.then_ok] at h1
      cases q2 : evE k.C ib env S1 with
      | ok v S2 =>
        rw [q2] at h1
        rw [R.bind_ok]
        rw [R.then_ok] at h1
        cases q3 : evE k.C ic env S2 with
        | ok r S3 => rw [q3] at h1; exact h1
        | exc x S3 => rw [q3] at h1; exact h1
        | stuck => rw [q3] at h1; exact h1
      | exc x S2 => rw [q2] at h1; exact h1
      | stuck => rw [q2] at h1; exact h1
    | exc x S1 => rw [q] at h1; exact h1
    | stuck => rw [q] at h1; exact h1
  refine stepSAs ok er h' fun vs w1 xs e1 o1 r1 er1 z => ?_
  rcases vs with _ | ⟨u, _ | ⟨u2, _ | ⟨u3, _ | ⟨u4, us⟩⟩⟩⟩ <;> first
    | (exact False.elim z)
    | skip
  obtain ⟨y1, r, rfl, q1, hr⟩ := r1
  obtain ⟨y2, r, rfl, q2, hr⟩ := hr
  obtain ⟨y3, r, rfl, q3, hr⟩ := hr
  obtain rfl : r = [] := hr
  exact ⟨y1, y2, y3, rfl, z w1 _ (Ext.refl _) rfl o1 (((er1.set q1).set q2).set q3)⟩
end
end Lt
set_option maxHeartbeats 4000000
namespace Lt
open PySem PySem.Spec PyProof.Rows L2
/-- never an exception -/
def R.nx {α : Type} (r : R α) : Prop := ∀ x S, r ≠ .exc x S
theorem R.nx_noexc {α : Type} (r : R α) : r.noexc.nx := fun x S h => by cases r <;> cases h
theorem R.nx_bind {α β : Type} {r : R α} {f : α → Store → R β} (h : r.nx) (hf : ∀ a S, (f a S).nx) : (r.bind f).nx := by
  cases r with
  | ok a S => exact hf a S
  | exc x S => exact absurd rfl (h x S)
  | stuck => intro x S e; cases e
theorem lc2_nx {f : Val → Store → R (List Val)} (hf : ∀ x S, (f x S).nx) : ∀ (items : List Val) (S : Store), (lc2Go f items S).nx
  | [], S => fun x S' h => by cases h
  | y :: ys, S => by
    show ((f y S).bind fun o S1 => (lc2Go f ys S1).bind fun r S2 => R.ok (o ++ r) S2).nx
    exact R.nx_bind (hf y S) fun o S1 => R.nx_bind (lc2_nx hf ys S1) fun r S2 x S' h => by cases h
theorem post_nx {α : Type} {r : R α} {P : α → Store → Prop} {E E' : Exc → Store → Prop} (h : r.post P E) (hn : r.nx) : r.post P E' := by
  cases r with
  | ok a S => exact h
  | exc x S => exact absurd rfl (hn x S)
  | stuck => exact h
def lc2In (C : Calls) (own2 : List Nat) (t2 : Tg) (ie : IE) (env1 : Env) : Val → Store → R (Option Val) := fun y S => match asg t2 y (wipeE env1 own2) with
  | some env2 => ((evE C ie env2 S).bind fun v S3 => .ok (some v) S3)
  | none => .stuck
def lc2F (C : Calls) (own2 : List Nat) (t : Tg) (ik2 : IK) (src2 : IE) (t2 : Tg) (ie : IE) (e0 : Env) : Val → Store → R (List Val) := fun x S => match asg t x e0 with
  | some env1 => ((evAs C src2 env1 S).bind fun us S2 => match itemsV ik2 us with
    | some items2 => lcGo (lc2In C own2 t2 ie env1) items2 S2
    | none => .stuck).noexc
  | none => .stuck
theorem lc2F_nx {C : Calls} {own2 : List Nat} {t : Tg} {ik2 : IK} {src2 : IE} {t2 : Tg} {ie : IE} {e0 : Env} (x : Val) (S : Store) : (lc2F C own2 t ik2 src2 t2 ie e0 x S).nx := by
  unfold lc2F
  cases asg t x e0 with
  | none => intro y S' h; cases h
  | some env1 => exact R.nx_noexc _
theorem EnvR.dset {G : Gx} {w : Wd} {D : Addr} {env : Env} {σ : L2.St} {ys : List V} {o : HO} (h : EnvR G w env σ) (hD : w.H D = some (.lst ys)) (hm : D ∈ G.hid) : EnvR G ⟨w.ρ, upd w.H D o, w.S⟩ env σ := ⟨h.1, fun i x q => by
  obtain ⟨v, h1, h2⟩ := h.2 i x q
  exact ⟨v, h1, Rep.dset hD hm x h2⟩⟩
theorem hid_ne {G : Gx} {w : Wd} (ok : w.Ok G) : ∀ a ∈ G.hid, w.H a ≠ none := fun a ha h => by
  obtain ⟨ys, e⟩ := ok.hd a ha
  rw [h] at e
  cases e
section
variable {k : Kx} {X : Cx} {W : WX} {elt tg iter tg1 iter1 : Expr} {scope : Scope} {own : List (Str × Nat)} {own2 : List Nat} {pos : Pos} {ik ik2 : IK} {src src2 ie : IE} {t t2 : Tg} {m : Bool}
def tIX (k : Kx) (ik : IK) (src : IE) : TI := fun σ H R => ∃ h, tI (k.hide h) W0 ik src σ H R
theorem tI_X {X : Cx} (hi : ∀ h, PI X tg1 iter1 (tI (k.hide h) W0 ik2 src2)) : PI X tg1 iter1 (tIX k ik2 src2) := ⟨fun pins s σ H R I ⟨h, q⟩ => (hi h).run pins s σ H R I q⟩
def lc2P (k : Kx) (w : Wd) (Q : VK) (W : WX) (σ : L2.St) (m : Bool) : List Val → Store → Prop := fun r S2 => (if r.length ≤ 1000000 then alloc m r S2 else .stuck).post (PV k.G w Q) (XW k.G w W σ)
theorem lc2P_len {w : Wd} {Q : VK} {σ : L2.St} {r : List Val} {S2 : Store} (h : lc2P k w Q W σ m r S2) : r.length ≤ 1000000 := by
  unfold lc2P at h
  by_cases c : r.length ≤ 1000000
  · exact c
  · rw [if_neg c] at h
    exact False.elim h
/-- the state of the list under construction -/
def Lc2 (k : Kx) (w1 : Wd) (D : Addr) (rs : List Val) (w' : Wd) : Prop := Ext w1 w' ∧ w'.Ok (k.G.hide (D :: k.G.hid)) ∧ D ∉ w'.ρ ∧ ∃ acc, w'.H D = some (.lst acc) ∧ RepAll (k.G.hide (D :: k.G.hid)) w'.ρ w'.H rs acc
theorem Lc2.step {w1 w' w2 : Wd} {D : Addr} {rs : List Val} (h : Lc2 k w1 D rs w') (e : Ext w' w2) (o2 : w2.Ok (k.G.hide (D :: k.G.hid))) : Lc2 k w1 D rs w2 := by
  obtain ⟨e1, o1, hn, acc, hD, hr⟩ := h
  exact ⟨e1.trans e, o2, e.out hD hn, acc, e.keep D _ hD hn, o1.reps e hr⟩
theorem lc2_read {σ : L2.St} {H : Hp} {Q : VK} (hts : ∀ i ∈ tgNames t, i ∈ own.map (·.2)) (hts2 : ∀ i ∈ tgNames t2, i ∈ own2) (h0 : tE k W (.lc2 m own own2 ik src t ik2 src2 t2 ie) σ H Q) : tLc2 (tI k W ik src) (gX k t) (tTX k .yes) (tIX k ik2 src2) (gX k t2) (tTX k .yes) (tEX k ie) (own.map (·.2)) own2 σ H Q := by
  obtain ⟨w, env, e0, okw, er, h⟩ := h0
  subst e0
  refine ⟨w, env, rfl, okw, er, R.post_mono (R.post_bind h) (fun vs S1 h1 => ?_) fun _ _ z => z⟩
  cases hq : itemsV ik vs with
  | none => rw [hq] at h1; exact h1.elim
  | some items =>
  rw [hq] at h1
  refine ⟨items, rfl, fun w1 e1 eS o1 hz J it D hD => ?_⟩
  subst eS
  have h1 : (lc2Go (lc2F k.C own2 t ik2 src2 t2 ie (wipeE env (own.map (·.2)))) items w1.S).post (lc2P k w Q W σ m) (fun _ _ => False) := post_nx (R.post_bind h1) (lc2_nx lc2F_nx _ _)
  have er1 := er.mono okw e1
  have hDr : D ∉ w1.ρ := o1.out hD
  have hid : Hid k.G w1 (D :: k.G.hid) := .inr ⟨D, rfl, hD⟩
  have hmD : D ∈ (k.G.hide (D :: k.G.hid)).hid := List.mem_cons_self
  generalize hf : lc2F k.C own2 t ik2 src2 t2 ie (wipeE env (own.map (·.2))) = f at h1
  refine ⟨fun i n H => n = items.length - i ∧ i ≤ items.length ∧ ∃ w' rs, w'.H = H ∧ Lc2 k w1 D rs w' ∧ (lc2Go f (items.drop i) w'.S).post (fun r S => lc2P k w Q W σ m (rs ++ r) S) (fun _ _ => False),
    ⟨items.length, by simp, Nat.zero_le _, ⟨w1.ρ, upd w1.H D (.lst []), w1.S⟩, [], rfl, ⟨ext_new hD, ok_hide o1 hD, hDr, [], upd_same, rfl⟩, h1⟩, ?_⟩
  rintro i n H ⟨rfl, hi, w', rs, rfl, L, hp⟩
  by_cases hlt : i < items.length
  · refine .inr ⟨it.1 w' i L.1.toH hlt, fun H => ∃ w' rs, w'.H = H ∧ Lc2 k w1 D rs w' ∧ (lc2Go f (items.drop (i + 1)) w'.S).post (fun r S => lc2P k w Q W σ m (rs ++ r) S) (fun _ _ => False), fun H' nx => ⟨_, by omega, rfl, hlt, nx⟩, fun x H' y => ?_⟩
    obtain ⟨w2, itm, e2, eS2, eH2, o2, hit, rit⟩ := it.2.2 _ hid w' i x H' L.1.toH L.2.1 hlt y
    subst eH2
    have Lb := L.step e2 o2
    have hdr : items.drop i = itm :: items.drop (i + 1) := by
      rw [List.drop_eq_getElem_cons hlt]
      congr 1
      rw [List.getElem?_eq_getElem hlt] at hit
      exact Option.some.inj hit
    rw [hdr] at hp
    have hp1 : ((f itm w'.S).bind fun o S1 => (lc2Go f (items.drop (i + 1)) S1).bind fun r S2 => R.ok (o ++ r) S2).post (fun r S => lc2P k w Q W σ m (rs ++ r) S) (fun _ _ => False) := hp
    rw [← eS2, ← hf] at hp1
    have er2 : EnvR (k.G.hide (D :: k.G.hid)) w2 (wipeE env (own.map (·.2))) (L2.wipe σ (own.map (·.2))) := (er_hid o1 hid Lb.1.toH er1).wipe _
    have hp2 := hp1
    unfold lc2F at hp2
    cases ha : asg t itm (wipeE env (own.map (·.2))) with
    | none =>
      rw [ha] at hp2
      exact hp2.elim
    | some env1 =>
      rw [ha] at hp2
      have hp3 := R.post_bind (noexc_post hp2)
      refine ⟨_, w2, _, itm, env1, rfl, o2, er2, rit, ha, fun σ2 w3 e3 eS3 o3 er3 sb => ⟨by rw [sb.wipe hts, wipe_wipe], ?_⟩⟩
      have L3 := Lb.step e3 o3
      rw [← eS3] at hp3
      refine ⟨D :: k.G.hid, w3, env1, rfl, o3, er3, true, rfl, fun w4 e4 eS4 o4 => ?_⟩
      show (if true = true then _ else _)
      rw [if_pos rfl]
      have L4 := L3.step e4 o4
      rw [← eS4] at hp3
      refine ⟨D :: k.G.hid, w4, env1, rfl, o4, er3.mono o3 e4, R.post_mono hp3 (fun us S5 h5 => ?_) fun _ _ z => z.elim⟩
      cases hq2 : itemsV ik2 us with
      | none => rw [hq2] at h5; exact h5.elim
      | some items2 =>
      rw [hq2] at h5
      refine ⟨items2, rfl, fun w5 e5 eS5 o5 hz2 J1 it1 => ?_⟩
      subst eS5
      have L5 := L4.step e5 o5
      have er5 : EnvR (k.G.hide (D :: k.G.hid)) w5 env1 σ2 := (er3.mono o3 e4).mono o4 e5
      have h5 : (lcGo (lc2In k.C own2 t2 ie env1) items2 w5.S).post (fun o S1 => ((lc2Go (lc2F k.C own2 t ik2 src2 t2 ie (wipeE env (own.map (·.2)))) (items.drop (i + 1)) S1).bind fun r S2 => R.ok (o ++ r) S2).post (fun r S => lc2P k w Q W σ m (rs ++ r) S) (fun _ _ => False)) (fun _ _ => False) := h5
      rw [hf] at h5
      have h5 : (lcGo (lc2In k.C own2 t2 ie env1) items2 w5.S).post (fun o S1 => (lc2Go f (items.drop (i + 1)) S1).post (fun r S => lc2P k w Q W σ m (rs ++ (o ++ r)) S) (fun _ _ => False)) (fun _ _ => False) := R.post_mono h5 (fun o S1 q => R.post_bind q) fun _ _ z => z
      refine ⟨fun j n H => n = items2.length - j ∧ j ≤ items2.length ∧ ∃ w6 qs, w6.H = H ∧ Lc2 k w1 D (rs ++ qs) w6 ∧ ExtH (k.G.hide (D :: k.G.hid)).hid w5 w6 ∧ EnvR (k.G.hide (D :: k.G.hid)) w6 env1 σ2 ∧
          (lcGo (lc2In k.C own2 t2 ie env1) (items2.drop j) w6.S).post (fun o S1 => (lc2Go f (items.drop (i + 1)) S1).post (fun r S => lc2P k w Q W σ m ((rs ++ qs) ++ (o ++ r)) S) (fun _ _ => False)) (fun _ _ => False),
        ⟨items2.length, by simp, Nat.zero_le _, w5, [], rfl, by rw [List.append_nil]; exact L5, (Ext.refl _).toH, er5, by simpa using h5⟩, ?_⟩
      rintro j n2 H2 ⟨rfl, hj, w6, qs, rfl, L6, x6, er6, h6⟩
      by_cases hlt2 : j < items2.length
      · refine .inr ⟨it1.1 w6 j x6 hlt2, fun H => ∃ w6 qs, w6.H = H ∧ Lc2 k w1 D (rs ++ qs) w6 ∧ ExtH (k.G.hide (D :: k.G.hid)).hid w5 w6 ∧ EnvR (k.G.hide (D :: k.G.hid)) w6 env1 σ2 ∧
          (lcGo (lc2In k.C own2 t2 ie env1) (items2.drop (j + 1)) w6.S).post (fun o S1 => (lc2Go f (items.drop (i + 1)) S1).post (fun r S => lc2P k w Q W σ m ((rs ++ qs) ++ (o ++ r)) S) (fun _ _ => False)) (fun _ _ => False), fun H' nx => ⟨_, by omega, rfl, hlt2, nx⟩, fun x2 H3 y2 => ?_⟩
        obtain ⟨w7, it7, e7, eS7, eH7, o7, hit7, rit7⟩ := it1.2.2 _ (.inl rfl) w6 j x2 H3 x6 L6.2.1 hlt2 y2
        subst eH7
        have L7 := L6.step e7 o7
        have x7 := x6.trans e7 (hid_ne L6.2.1)
        have er7 := er6.mono L6.2.1 e7
        have hdr2 : items2.drop j = it7 :: items2.drop (j + 1) := by
          rw [List.drop_eq_getElem_cons hlt2]
          congr 1
          rw [List.getElem?_eq_getElem hlt2] at hit7
          exact Option.some.inj hit7
        rw [hdr2] at h6
        have h7 : ((lc2In k.C own2 t2 ie env1 it7 w6.S).bind fun o S1 => (lcGo (lc2In k.C own2 t2 ie env1) (items2.drop (j + 1)) S1).bind fun r S2 => match o with
          | some v => R.ok (v :: r) S2
          | none => R.ok r S2).post _ (fun _ _ => False) := h6
        rw [← eS7] at h7
        unfold lc2In at h7
        have er7w := er7.wipe own2
        cases ha2 : asg t2 it7 (wipeE env1 own2) with
        | none =>
          rw [ha2] at h7
          exact h7.elim
        | some env2 =>
          rw [ha2] at h7
          refine ⟨_, w7, _, it7, env2, rfl, o7, er7w, rit7, ha2, fun σ3 w8 e8 eS8 o8 er8 sb8 => ⟨by rw [sb8.wipe hts2, wipe_wipe], ?_⟩⟩
          have L8 := L7.step e8 o8
          rw [← eS8] at h7
          refine ⟨D :: k.G.hid, w8, env2, rfl, o8, er8, true, rfl, fun w9 e9 eS9 o9 => ?_⟩
          show (if true = true then _ else _)
          rw [if_pos rfl]
          have L9 := L8.step e9 o9
          rw [← eS9] at h7
          refine ⟨D :: k.G.hid, w9, env2, rfl, o9, er8.mono o8 e9, R.post_mono (R.post_bind (R.post_bind h7)) (fun v S10 hv => ?_) (fun _ _ z => z.elim)⟩
          intro wa y ea eSa oa ra
          subst eSa
          have LA := L9.step ea oa
          obtain ⟨eA, _, hnA, acc, hDA, hrA⟩ := LA
          have xA := ((x7.trans e8 (hid_ne o7)).trans e9 (hid_ne o8)).trans ea (hid_ne o9)
          have erA : EnvR (k.G.hide (D :: k.G.hid)) wa env1 σ2 := ((er7.mono o7 e8).mono o8 e9).mono o9 ea
          have hv' := R.post_bind hv
          have hlen : acc.length + 1 ≤ 1000000 := by
            have hl := hrA.length
            rcases hg : lcGo (lc2In k.C own2 t2 ie env1) (items2.drop (j + 1)) wa.S with ⟨o, So⟩ | ⟨x, So⟩ | _
            · have hv2 := hv'
              unfold lc2In at hg
              rw [hg] at hv2
              have hv3 : (lc2Go f (items.drop (i + 1)) So).post (fun r S => lc2P k w Q W σ m ((rs ++ qs) ++ ((v :: o) ++ r)) S) (fun _ _ => False) := hv2
              rcases hg2 : lc2Go f (items.drop (i + 1)) So with ⟨r, Sr⟩ | ⟨x, Sr⟩ | _
              · rw [hg2] at hv3
                have := lc2P_len hv3
                simp only [List.length_append, List.length_cons] at this hl
                omega
              · rw [hg2] at hv3; exact hv3.elim
              · rw [hg2] at hv3; exact hv3.elim
            · have hv2 := hv'
              unfold lc2In at hg
              rw [hg] at hv2; exact hv2.elim
            · have hv2 := hv'
              unfold lc2In at hg
              rw [hg] at hv2; exact hv2.elim
          have hsz := size2M
          refine ⟨acc, hDA, by omega, ⟨wa.ρ, upd wa.H D (.lst (acc ++ [y])), wa.S⟩, qs ++ [v], rfl, ⟨⟨eA.pre, fun b o hb hbn => ?_⟩, ok_dset oa hDA hmD hnA, hnA, acc ++ [y], upd_same, ?_⟩, xA.dset hmD, erA.dset hDA hmD, ?_⟩
          · show upd wa.H D _ b = some o
            rw [upd_ne (ne_of_none hb hD)]
            exact eA.keep b o hb hbn
          · rw [← List.append_assoc]
            exact RepAll.dset hDA hmD _ (hrA.append ⟨y, [], rfl, ra, rfl⟩)
          · refine R.post_mono hv' (fun o S6 q => ?_) fun _ _ z => z
            have q' : (lc2Go f (items.drop (i + 1)) S6).post (fun r S => lc2P k w Q W σ m ((rs ++ qs) ++ ((v :: o) ++ r)) S) (fun _ _ => False) := q
            simpa using q'
      · have ej : j = items2.length := by omega
        subst ej
        refine .inl ⟨it1.2.1 w6 x6, w6, rs ++ qs, rfl, L6, ?_⟩
        rw [List.drop_length] at h6
        have h6' : (lc2Go f (items.drop (i + 1)) w6.S).post (fun r S => lc2P k w Q W σ m ((rs ++ qs) ++ ([] ++ r)) S) (fun _ _ => False) := h6
        simpa using h6'
  · have ei : i = items.length := by omega
    subst ei
    obtain ⟨e', o', hn', acc, hD', ra'⟩ := L
    refine .inl ⟨it.2.1 w' e'.toH, ?_⟩
    rw [List.drop_length] at hp
    have hp0 : lc2P k w Q W σ m (rs ++ []) w'.S := hp
    rw [List.append_nil] at hp0
    have hle := lc2P_len hp0
    unfold lc2P at hp0
    rw [if_pos hle] at hp0
    have hDh : D ∉ k.G.hid := o1.nhid hD
    have hsz := size2M
    have hzl : acc.length ≤ sizeLine := by rw [ra'.length]; omega
    cases m with
    | false => exact hp0 w' (.ref D) (e1.trans e') rfl (ok_unhide o') ⟨D, acc, rfl, hD', ⟨hn', hDh⟩, hzl, RepAll.unhide _ ra'⟩
    | true =>
      refine hp0 ⟨w'.ρ ++ [D], w'.H, w'.S ++ [.lst rs]⟩ (.ref D) (e1.trans ⟨?_, e'.keep⟩) rfl (ok_adopt o' hD' hn' hDh hzl ra') ⟨D, ?_, rfl⟩
      · obtain ⟨more, e5, e6⟩ := e'.pre
        refine ⟨more ++ [D], by show w'.ρ ++ [D] = _; rw [e5, List.append_assoc], fun a ha => ?_⟩
        rcases List.mem_append.mp ha with h | h
        · exact e6 a h
        · rw [List.mem_singleton.mp h]
          exact ⟨hD, hDr⟩
      · show (w'.ρ ++ [D])[w'.S.length]? = some D
        rw [← o'.len, List.getElem?_append_right (Nat.le_refl _), Nat.sub_self]
        rfl
theorem s_lc2 (S : Sx k X) (hi : PI X tg iter (tI k W ik src)) (ok : BlkOk X.N X.env.scope scope own) (hv : ∀ i ∈ own2, i ∈ own.map (·.2)) (hts : ∀ i ∈ tgNames t, i ∈ own.map (·.2)) (hts2 : ∀ i ∈ tgNames t2, i ∈ own2)
    (hg : ∀ h (s : Shared) (H : Hp) (C : Addr) (cl : List (Str × Addr)) (fp : List Addr), PG (X.blk s H scope (compEnvC scope cl C X.env) fp) tg (gT (k.hide h) t))
    (hi1 : ∀ h (s : Shared) (H : Hp) (C : Addr) (cl : List (Str × Addr)) (fp : List Addr), PI (X.blk s H scope (compEnvC scope cl C X.env) fp) tg1 iter1 (tI (k.hide h) W0 ik2 src2))
    (hg1 : ∀ h (s : Shared) (H : Hp) (C : Addr) (cl : List (Str × Addr)) (fp : List Addr), PG (X.blk s H scope (compEnvC scope cl C X.env) fp) tg1 (gT (k.hide h) t2))
    (he : ∀ h (s : Shared) (H : Hp) (C : Addr) (cl : List (Str × Addr)) (fp : List Addr), PE (X.blk s H scope (compEnvC scope cl C X.env) fp) elt (tE (k.hide h) W0 ie))
    (hs : ∀ x, foldedSetIterable iter X.env x = pure x) (hs1 : ∀ env x, foldedSetIterable iter1 env x = pure x) : PE X (.ListComp elt [⟨tg, iter, [], 0⟩, ⟨tg1, iter1, [], 0⟩] scope pos) (tE k W (.lc2 m own own2 ik src t ik2 src2 t2 ie)) :=
  (pe_lc2 S.calm S.nd hi ok hv (fun s H C cl fp => g_X fun h => hg h s H C cl fp) (fun s H C cl fp => tT_X fun h => st_yes h) (fun s H C cl fp => tI_X fun h => hi1 h s H C cl fp) (fun s H C cl fp => g_X fun h => hg1 h s H C cl fp) (fun s H C cl fp => tT_X fun h => st_yes h) (fun s H C cl fp => tE_X fun h => he h s H C cl fp) hs hs1).imp fun σ H Q h => lc2_read hts hts2 h
theorem ps_setLc2' {x : Str} {p spos : Pos} {n : Nat} (S : Sx k X) (hy : X.N[n]? = some x) (hyl : X.env.scope.names.lookup x = some .local)
    (hsw : swapsWith (.ListComp elt [⟨tg, iter, [], 0⟩, ⟨tg1, iter1, [], 0⟩] scope pos) (some (.Name x p)) spos.line X.env = pure true)
    (hi : PI X tg iter (tI k W ik src)) (ok : BlkOk X.N X.env.scope scope own) (hv : ∀ i ∈ own2, i ∈ own.map (·.2)) (hts : ∀ i ∈ tgNames t, i ∈ own.map (·.2)) (hts2 : ∀ i ∈ tgNames t2, i ∈ own2)
    (hg : ∀ h (s : Shared) (H : Hp) (C : Addr) (cl : List (Str × Addr)) (fp : List Addr), PG (X.blk s H scope (compEnvC scope cl C X.env) fp) tg (gT (k.hide h) t))
    (hi1 : ∀ h (s : Shared) (H : Hp) (C : Addr) (cl : List (Str × Addr)) (fp : List Addr), PI (X.blk s H scope (compEnvC scope cl C X.env) fp) tg1 iter1 (tI (k.hide h) W0 ik2 src2))
    (hg1 : ∀ h (s : Shared) (H : Hp) (C : Addr) (cl : List (Str × Addr)) (fp : List Addr), PG (X.blk s H scope (compEnvC scope cl C X.env) fp) tg1 (gT (k.hide h) t2))
    (he : ∀ h (s : Shared) (H : Hp) (C : Addr) (cl : List (Str × Addr)) (fp : List Addr), PE (X.blk s H scope (compEnvC scope cl C X.env) fp) elt (tE (k.hide h) W0 ie))
    (hs : ∀ x, foldedSetIterable iter X.env x = pure x) (hs1 : ∀ env x, foldedSetIterable iter1 env x = pure x) : PS X (.Assign [.Name x p] (.ListComp elt [⟨tg, iter, [], 0⟩, ⟨tg1, iter1, [], 0⟩] scope pos) spos) (tS k W (.set (.p (.v n)) (.lc2 m own own2 ik src t ik2 src2 t2 ie))) :=
  (ps_setLc2 S.calm S.nd hy hyl hsw hi ok hv (fun s H C cl fp => g_X fun h => hg h s H C cl fp) (fun s H C cl fp => tT_X fun h => st_yes h) (fun s H C cl fp => tI_X fun h => hi1 h s H C cl fp) (fun s H C cl fp => g_X fun h => hg1 h s H C cl fp) (fun s H C cl fp => tT_X fun h => st_yes h) (fun s H C cl fp => tE_X fun h => he h s H C cl fp) hs hs1).imp fun D σ H ⟨w, env, e0, ok, er, h⟩ => by
    subst e0
    have h' : DK k w W D ((evE k.C (.lc2 m own own2 ik src t ik2 src2 t2 ie) env w.S).then env fun v S1 => asgL k.C (.p (.v n)) v env S1) := h
    exact lc2_read hts hts2 (stepS ok er h' fun v w1 x e1 o1 r1 er1 z => z w1 _ (Ext.refl _) rfl o1 (er1.set r1))
end
end Lt
set_option maxHeartbeats 4000000
namespace Lt
open PySem PySem.Spec PyProof.Rows L2
def Kx.px (k : Kx) : Px := ⟨k.T, k.gi, k.bf, k.tb, k.fs⟩
structure Qx where
  sc : Scope
  N : List Str
  fn : Str → Bool
  wc : Bool
def Qx.blk (q : Qx) (scope : Scope) : Qx := ⟨relS scope q.sc, q.N, fun x => scope.names.lookup x == some .cell, true⟩
structure Good (k : Kx) (X : Cx) (W : WX) (q : Qx) : Prop where
  S : Sx k X
  sc : X.env.scope = q.sc
  N : X.N = q.N
  fn : ∀ x, q.fn x = true → X.fn x = true
  tk : Takes X W
  wc : q.wc = true → Wc W
def dName : Expr → Option Str
  | .Name x _ => some x
  | _ => none
theorem dName_eq {e : Expr} {x : Str} (h : dName e = some x) : ∃ p, e = .Name x p := by
  cases e <;> cases h <;> exact ⟨_, rfl⟩
def dCon : Expr → Option Const
  | .Constant c _ _ => some c
  | _ => none
theorem dCon_eq {e : Expr} {x : Const} (h : dCon e = some x) : ∃ j p, e = .Constant x j p := by
  cases e <;> cases h <;> exact ⟨_, _, rfl⟩
def dBin : Expr → Option (Expr × Operator × Expr)
  | .BinOp a o b _ => some (a, o, b)
  | _ => none
theorem dBin_eq {e a b : Expr} {o : Operator} (h : dBin e = some (a, o, b)) : ∃ p, e = .BinOp a o b p := by
  cases e <;> cases h <;> exact ⟨_, rfl⟩
def dUn : Expr → Option (UnaryOp × Expr)
  | .UnaryOp o a _ => some (o, a)
  | _ => none
theorem dUn_eq {e a : Expr} {o : UnaryOp} (h : dUn e = some (o, a)) : ∃ p, e = .UnaryOp o a p := by
  cases e <;> cases h <;> exact ⟨_, rfl⟩
def dBool : Expr → Option (BoolOp × List Expr)
  | .BoolOp o a _ => some (o, a)
  | _ => none
theorem dBool_eq {e : Expr} {a : List Expr} {o : BoolOp} (h : dBool e = some (o, a)) : ∃ p, e = .BoolOp o a p := by
  cases e <;> cases h <;> exact ⟨_, rfl⟩
def dCmp : Expr → Option (Expr × List CmpOp × List Expr)
  | .Compare a o b _ => some (a, o, b)
  | _ => none
theorem dCmp_eq {e a : Expr} {o : List CmpOp} {b : List Expr} (h : dCmp e = some (a, o, b)) : ∃ p, e = .Compare a o b p := by
  cases e <;> cases h <;> exact ⟨_, rfl⟩
def dIf : Expr → Option (Expr × Expr × Expr)
  | .IfExp c a b _ => some (c, a, b)
  | _ => none
theorem dIf_eq {e a b c : Expr} (h : dIf e = some (c, a, b)) : ∃ p, e = .IfExp c a b p := by
  cases e <;> cases h <;> exact ⟨_, rfl⟩
def dTuple : Expr → Option (List Expr)
  | .Tuple es _ _ => some es
  | _ => none
theorem dTuple_eq {e : Expr} {es : List Expr} (h : dTuple e = some es) : ∃ j p, e = .Tuple es j p := by
  cases e <;> cases h <;> exact ⟨_, _, rfl⟩
def dList : Expr → Option (List Expr)
  | .List es _ => some es
  | _ => none
theorem dList_eq {e : Expr} {es : List Expr} (h : dList e = some es) : ∃ p, e = .List es p := by
  cases e <;> cases h <;> exact ⟨_, rfl⟩
def dCall : Expr → Option (Expr × List Expr × Pos)
  | .Call f args [] p => some (f, args, p)
  | _ => none
theorem dCall_eq {e f : Expr} {es : List Expr} {p : Pos} (h : dCall e = some (f, es, p)) : e = .Call f es [] p := by
  cases e with
  | Call f args ks p => cases ks <;> cases h; rfl
  | _ => cases h
def dAttr : Expr → Option (Expr × Str × Pos)
  | .Attribute o a p => some (o, a, p)
  | _ => none
theorem dAttr_eq {e o : Expr} {a : Str} {p : Pos} (h : dAttr e = some (o, a, p)) : e = .Attribute o a p := by
  cases e <;> cases h; rfl
def dSub : Expr → Option (Expr × Expr)
  | .Subscript a b _ => some (a, b)
  | _ => none
theorem dSub_eq {e a b : Expr} (h : dSub e = some (a, b)) : ∃ p, e = .Subscript a b p := by
  cases e <;> cases h <;> exact ⟨_, rfl⟩
def dSlice : Expr → Option (Option Expr × Option Expr)
  | .Slice a b none _ => some (a, b)
  | _ => none
theorem dSlice_eq {e : Expr} {a b : Option Expr} (h : dSlice e = some (a, b)) : ∃ p, e = .Slice a b none p := by
  cases e with
  | Slice a b c p => cases c <;> cases h; exact ⟨_, rfl⟩
  | _ => cases h
def dLC : Expr → Option (Expr × Expr × Expr × List Expr × Scope)
  | .ListComp elt [⟨tg, iter, ifs, 0⟩] scope _ => some (elt, tg, iter, ifs, scope)
  | _ => none
theorem dLC_eq {e elt tg iter : Expr} {ifs : List Expr} {scope : Scope} (h : dLC e = some (elt, tg, iter, ifs, scope)) : ∃ p, e = .ListComp elt [⟨tg, iter, ifs, 0⟩] scope p := by
  unfold dLC at h
  split at h
  · cases h
    exact ⟨_, rfl⟩
  · cases h
def dLC2 : Expr → Option (Expr × Expr × Expr × Expr × Expr × Scope)
  | .ListComp elt [⟨tg, iter, [], 0⟩, ⟨tg1, iter1, [], 0⟩] scope _ => some (elt, tg, iter, tg1, iter1, scope)
  | _ => none
theorem dLC2_eq {e elt tg iter tg1 iter1 : Expr} {scope : Scope} (h : dLC2 e = some (elt, tg, iter, tg1, iter1, scope)) : ∃ p, e = .ListComp elt [⟨tg, iter, [], 0⟩, ⟨tg1, iter1, [], 0⟩] scope p := by
  unfold dLC2 at h
  split at h
  · cases h
    exact ⟨_, rfl⟩
  · cases h
def nst : Expr → Bool
  | .Starred _ _ => false
  | _ => true
def nsl : Expr → Bool
  | .Slice _ _ _ _ => false
  | _ => true
def nset : Expr → Bool
  | .Set _ _ _ => false
  | _ => true
def baseOk : Expr → Bool
  | .Name _ _ => true
  | .Attribute _ _ _ => true
  | .Subscript _ _ _ => true
  | .Call _ (_ :: _) _ _ => true
  | _ => false
def testG : Expr → Bool
  | .Call _ _ _ _ => true
  | .Name _ _ => true
  | .Constant _ _ _ => true
  | .Attribute _ _ _ => true
  | .Subscript _ _ _ => true
  | _ => false
theorem star_nst {e : Expr} {es : List Expr} {env : PySem.Env} (h : nst e = true) : starEach (e :: es) env = (false, eval e env) :: starEach es env := by
  cases e <;> first
    | rfl
    | cases h
theorem assign_nst {e : Expr} {es : List Expr} {env : PySem.Env} (h : nst e = true) : assignEach (e :: es) env = (false, assign e env) :: assignEach es env := by
  cases e <;> first
    | rfl
    | cases h
theorem back_nst {pos : Pos} {env : PySem.Env} : ∀ {es : List Expr}, es.all nst = true → (backTo pos (starEach es env)).any (·.1) = false
  | [], _ => rfl
  | e :: es, h => by
    rw [List.all_cons, Bool.and_eq_true] at h
    rw [star_nst h.1]
    show (false || (backTo pos (starEach es env)).any (·.1)) = false
    rw [Bool.false_or]
    exact back_nst h.2
theorem back_all {pos : Pos} {env : PySem.Env} : ∀ {es : List Expr}, es.all nst = true → (backTo pos (starEach es env)).all (fun x => !x.1) = true
  | [], _ => rfl
  | e :: es, h => by
    rw [List.all_cons, Bool.and_eq_true] at h
    rw [star_nst h.1]
    show (true && (backTo pos (starEach es env)).all (fun x => !x.1)) = true
    rw [Bool.true_and]
    exact back_all h.2
theorem base_ok {o : Expr} {f : Str} {env : PySem.Env} (h : baseOk o = true) : attributeBase o f env (eval o env) = eval o env := by
  cases o with
  | Call g args ks p =>
    cases args with
    | nil => cases h
    | cons a as => cases g <;> rfl
  | _ => first
    | rfl
    | cases h
theorem set_ok {e : Expr} {env : PySem.Env} (h : nset e = true) : ∀ x, foldedSetIterable e env x = pure x := by
  intro x
  cases e <;> first
    | rfl
    | cases h
theorem plain_ix {b : Expr} (h : nsl b = true) : PlainIx b := by
  intro o i
  cases b <;> first
    | rfl
    | cases h
theorem test_ok {e : Expr} {env : PySem.Env} (h : testG e = true) : ∀ whole, isTrue e env whole = (do let v ← whole; standAt e.pos; holding [v] (truthy v)) := by
  intro whole
  cases e <;> first
    | rfl
    | cases h
def Qx.vis (q : Qx) (x : Str) : Bool := q.sc.names.lookup x == some .local || q.sc.names.lookup x == some .cell || q.sc.names.lookup x == some .free
def Qx.loc (q : Qx) (x : Str) : Bool := (q.sc.names.lookup x == some .local || (q.sc.names.lookup x == some .cell && q.fn x))
def Qx.gl (q : Qx) (x : Str) : Bool := q.sc.names.lookup x == some .globalImplicit && !(x == ("__debug__" : Str))
def Qx.at_ (q : Qx) (i : Nat) (x : Str) : Bool := q.N[i]? == some x
def plainN (x : Str) : Bool := !(x == ("__debug__" : Str)) && !(x == ("__classdict__" : Str))
section
variable {k : Kx} {X : Cx} {W : WX} {q : Qx} {x : Str}
theorem Good.vis (g : Good k X W q) (h : q.vis x = true) : Vis X.env.scope x := by
  unfold Qx.vis at h
  rw [g.sc]
  simpa [Vis, or_assoc] using h
theorem Good.loc (g : Good k X W q) (h : q.loc x = true) : Loc X.env.scope x ∧ (X.fn x = true ∨ X.env.scope.names.lookup x = some .local) := by
  unfold Qx.loc at h
  rw [g.sc]
  rw [Bool.or_eq_true, Bool.and_eq_true] at h
  rcases h with h | ⟨h, h'⟩
  · have h := eq_of_beq h
    exact ⟨.inl h, .inr h⟩
  · exact ⟨.inr (eq_of_beq h), .inl (g.fn x h')⟩
theorem Good.gl (g : Good k X W q) (h : q.gl x = true) : Gl X x ∧ (x == ("__debug__" : Str)) = false := by
  unfold Qx.gl at h
  rw [Bool.and_eq_true, Bool.not_eq_true'] at h
  refine ⟨?_, h.2⟩
  show X.env.scope.names.lookup x = _
  rw [g.sc]
  exact eq_of_beq h.1
theorem Good.at_ (g : Good k X W q) {i : Nat} (h : q.at_ i x = true) : X.N[i]? = some x := by
  unfold Qx.at_ at h
  rw [g.N]
  exact eq_of_beq h
theorem plainN_ok (h : plainN x = true) : (x == ("__debug__" : Str)) = false ∧ (x == ("__classdict__" : Str)) = false := by
  unfold plainN at h
  rw [Bool.and_eq_true, Bool.not_eq_true', Bool.not_eq_true'] at h
  exact h
/-- in a block -/
theorem Sx.hide (S : Sx k X) (h : List Addr) : Sx (k.hide h) X := ⟨S.calm, S.nd, S.hK, S.room, S.bf, S.gi, fun j fi hj => by
  obtain ⟨f, fd, h1, h2, h3, h4, h5⟩ := S.fn j fi hj
  exact ⟨f, fd, h1, h2, h3, fun h' => h4 h', h5⟩, S.fa, S.cl, S.na, S.tb⟩
theorem Sx.blk (S : Sx k X) (s : Shared) (H : Hp) (scope : Scope) (ce : PySem.Env) (fp : List Addr) : Sx k (X.blk s H scope ce fp) := ⟨S.calm, S.nd, S.hK, S.room, S.bf, S.gi, S.fn, S.fa, S.cl, S.na, S.tb⟩
theorem takes_W0 : Takes X W0 := fun u s' ⟨a, B, sI, pins, σ, H, cls, d, e, I, nb, up, sky, na, os, ag, w⟩ => False.elim w
theorem wc_W0 : Wc W0 := fun _ _ _ _ _ h => False.elim h
theorem Good.blk (g : Good k X W q) (h : List Addr) (s : Shared) (H : Hp) (scope : Scope) (C : Addr) (cl : List (Str × Addr)) (fp : List Addr) : Good (k.hide h) (X.blk s H scope (compEnvC scope cl C X.env) fp) W0 (q.blk scope) :=
  ⟨(g.S.hide h).blk s H scope _ fp, by
    show relS scope X.env.scope = relS scope q.sc
    rw [g.sc], g.N, fun x hx => hx, takes_W0, fun _ => wc_W0⟩
end
def blkC (N : List Str) (sc scope : Scope) (own : List (Str × Nat)) : Bool :=
  decide (scope.kind = .function) && scope.names.all (fun y => scope.names.lookup y.1 == some y.2) && own.all (fun p => N[p.2]? == some p.1) &&
  scope.names.all (fun y => !(y.2 == .free) || sc.names.lookup y.1 == some .cell || sc.names.lookup y.1 == some .free) &&
  scope.names.all (fun y => !(y.2 == .local || y.2 == .cell) || (own.map (·.1)).contains y.1 || !N.contains y.1)
theorem blk_ok {N : List Str} {sc scope : Scope} {own : List (Str × Nat)} (h : blkC N sc scope own = true) : BlkOk N sc scope own := by
  unfold blkC at h
  simp only [Bool.and_eq_true, decide_eq_true_eq, List.all_eq_true, Bool.or_eq_true, Bool.not_eq_true'] at h
  obtain ⟨⟨⟨⟨h1, h2⟩, h3⟩, h4⟩, h5⟩ := h
  refine ⟨h1, fun y hy => eq_of_beq (h2 y hy), fun p hp => eq_of_beq (h3 p hp), fun y hy e => ?_, fun y hy e => ?_⟩
  · rcases h4 y hy with (h | h) | h
    · rw [e] at h
      cases h
    · exact .inl (eq_of_beq h)
    · exact .inr (eq_of_beq h)
  · rcases h5 y hy with (h | h) | h
    · rcases e with e | e <;> (rw [e] at h; cases h)
    · exact .inl (List.contains_iff_mem.mp h)
    · refine .inr fun hm => ?_
      rw [List.contains_iff_mem.mpr hm] at h
      cases h
mutual
def mG (q : Qx) : Tg → Expr → Bool
  | .v i, e => match dName e with
    | some x => q.at_ i x && q.loc x
    | none => false
  | .tup ts, e => match dTuple e with
    | some es => mGs q ts es
    | none => false
  | .star i j, e => match dTuple e with
    | some [a, .Starred b _] => match dName a, dName b with
      | some x, some y => q.at_ i x && q.loc x && q.at_ j y && q.loc y
      | _, _ => false
    | _ => false
  | _, _ => false
def mGs (q : Qx) : Tg → List Expr → Bool
  | .nil, [] => true
  | .cons t ts, e :: es => nst e && mG q t e && mGs q ts es
  | _, _ => false
end
theorem mGs_nst {q : Qx} : ∀ {t : Tg} {es : List Expr}, mGs q t es = true → es.all nst = true ∧ es.length = tgLen t
  | .nil, [], _ => ⟨rfl, rfl⟩
  | .nil, _ :: _, h => by cases h
  | .cons t ts, [], h => by cases h
  | .cons t ts, e :: es, h => by
    unfold mGs at h
    rw [Bool.and_eq_true, Bool.and_eq_true] at h
    obtain ⟨h1, h2⟩ := mGs_nst h.2
    exact ⟨by rw [List.all_cons, h.1.1, h1]; rfl, by rw [List.length_cons, h2]; rfl⟩
  | .v _, [], h => by cases h
  | .v _, _ :: _, h => by cases h
  | .tup _, [], h => by cases h
  | .tup _, _ :: _, h => by cases h
  | .star _ _, [], h => by cases h
  | .star _ _, _ :: _, h => by cases h
theorem assign_len {env : PySem.Env} : ∀ {es : List Expr}, es.all nst = true → (assignEach es env).length = es.length
  | [], _ => rfl
  | e :: es, h => by
    rw [List.all_cons, Bool.and_eq_true] at h
    rw [assign_nst h.1, List.length_cons, assign_len h.2, List.length_cons]
theorem assign_find {env : PySem.Env} : ∀ {es : List Expr}, es.all nst = true → (assignEach es env).findIdx? (·.1) = none
  | [], _ => rfl
  | e :: es, h => by
    rw [List.all_cons, Bool.and_eq_true] at h
    rw [assign_nst h.1, List.findIdx?_cons, assign_find h.2]
    rfl
section
variable {k : Kx} {X : Cx} {W : WX} {q : Qx}
mutual
theorem snd_G (g : Good k X W q) : ∀ (t : Tg) (e : Expr), mG q t e = true → PG X e (gT k t)
  | .v i, e, h => by
    unfold mG at h
    cases hd : dName e with
    | none => rw [hd] at h; cases h
    | some x =>
      rw [hd] at h
      obtain ⟨p, rfl⟩ := dName_eq hd
      have h : (q.at_ i x && q.loc x) = true := h
      rw [Bool.and_eq_true] at h
      exact g_v g.S.nd (g.at_ h.1) (g.loc h.2).1 (g.loc h.2).2
  | .tup ts, e, h => by
    unfold mG at h
    cases hd : dTuple e with
    | none => rw [hd] at h; cases h
    | some es =>
      rw [hd] at h
      obtain ⟨j, p, rfl⟩ := dTuple_eq hd
      have h : mGs q ts es = true := h
      obtain ⟨h1, h2⟩ := mGs_nst h
      exact g_tup g.S (snd_Gs g ts es h) (by rw [assign_len h1, h2]) (assign_find h1)
  | .star i j, e, h => by
    unfold mG at h
    cases hd : dTuple e with
    | none => rw [hd] at h; cases h
    | some es =>
      rw [hd] at h
      obtain ⟨jj, p, rfl⟩ := dTuple_eq hd
      split at h
      · rename_i a b sp heq
        obtain rfl := Option.some.inj heq
        split at h
        · rename_i x y hx hy
          obtain ⟨px, rfl⟩ := dName_eq hx
          obtain ⟨py, rfl⟩ := dName_eq hy
          rw [Bool.and_eq_true, Bool.and_eq_true, Bool.and_eq_true] at h
          exact g_star g.S (g.at_ h.1.1.1) (g.loc h.1.1.2).1 (g.loc h.1.1.2).2 (g.at_ h.1.2) (g.loc h.2).1 (g.loc h.2).2
        · cases h
      · cases h
  | .nil, e, h => by unfold mG at h; cases h
  | .cons _ _, e, h => by unfold mG at h; cases h
theorem snd_Gs (g : Good k X W q) : ∀ (t : Tg) (es : List Expr), mGs q t es = true → PGs X es (gTs k t)
  | .nil, [], _ => g_nil
  | .nil, _ :: _, h => by unfold mGs at h; cases h
  | .cons t ts, [], h => by unfold mGs at h; cases h
  | .cons t ts, e :: es, h => by
    unfold mGs at h
    rw [Bool.and_eq_true, Bool.and_eq_true] at h
    refine g_cons (snd_G g t e h.1.2) (snd_Gs g ts es h.2) ?_
    rw [assign_nst h.1.1]
    rfl
  | .v _, [], h => by unfold mGs at h; cases h
  | .v _, _ :: _, h => by unfold mGs at h; cases h
  | .tup _, [], h => by unfold mGs at h; cases h
  | .tup _, _ :: _, h => by unfold mGs at h; cases h
  | .star _ _, [], h => by unfold mGs at h; cases h
  | .star _ _, _ :: _, h => by unfold mGs at h; cases h
end
end
end Lt
set_option maxHeartbeats 4000000
namespace Lt
open PySem PySem.Spec PyProof.Rows L2
def cEq : Const → Val → Bool
  | .none, .non => true
  | .bool a, .bl b => decide (a = b)
  | .int a, .int b => decide (a = b)
  | .str a, .str b => decide (a = b)
  | _, _ => false
theorem cEq_ok {c : Const} {v : Val} (h : cEq c v = true) : conV c = some v := by
  cases c <;> cases v <;> first
    | (cases h; done)
    | rfl
    | (rw [of_decide_eq_true h]; rfl)
def okOp : Operator → Bool
  | .Add => true
  | .Sub => true
  | .Mult => true
  | .Mod => true
  | .FloorDiv => true
  | .Pow => true
  | _ => false
theorem okOp_ok {o : Operator} (h : okOp o = true) : o = .Add ∨ o = .Sub ∨ o = .Mult ∨ o = .Mod ∨ o = .FloorDiv ∨ o = .Pow := by
  cases o <;> first
    | (cases h; done)
    | simp
def isYes : IE → Bool
  | .yes => true
  | _ => false
theorem isYes_ok {e : IE} (h : isYes e = true) : e = .yes := by cases e <;> first | rfl | cases h
def isOmit : IE → Bool
  | .omit => true
  | _ => false
theorem isOmit_ok {e : IE} (h : isOmit e = true) : e = .omit := by cases e <;> first | rfl | cases h
def isNil : IE → Bool
  | .nil => true
  | _ => false
theorem isNil_ok {e : IE} (h : isNil e = true) : e = .nil := by cases e <;> first | rfl | cases h
def IK.nm : IK → Str
  | .range1 => "range" | .range2 => "range" | .enum => "enumerate" | _ => "zip"
def IK.ar : IK → Nat
  | .plain => 1 | .range1 => 1 | .range2 => 2 | .enum => 1 | .zip => 2 | .zips => 1000 | .zip3s => 1000
def IK.tgOk (ik : IK) (t : Bool) : Bool := match ik with
  | .enum => t
  | .zip => t
  | .zips => false
  | .zip3s => false
  | _ => true
def dCallK : Expr → Option (Expr × List Expr × List Keyword × Pos)
  | .Call f args ks p => some (f, args, ks, p)
  | _ => none
theorem dCallK_eq {e f : Expr} {es : List Expr} {ks : List Keyword} {p : Pos} (h : dCallK e = some (f, es, ks, p)) : e = .Call f es ks p := by
  cases e <;> cases h; rfl
def isStrict : List Keyword → Bool
  | [⟨some nm, v, _⟩] => decide (nm = "strict") && (match dCon v with
    | some (.bool true) => true
    | _ => false)
  | _ => false
theorem isStrict_eq {ks : List Keyword} (h : isStrict ks = true) : ∃ j vp kp, ks = [⟨some "strict", .Constant (.bool true) j vp, kp⟩] := by
  rcases ks with _ | ⟨⟨arg, v, kp⟩, _ | ⟨k2, r⟩⟩
  · cases h
  · cases arg with
    | none => cases h
    | some nm =>
      have h : (decide (nm = "strict") && (match dCon v with
        | some (.bool true) => true
        | _ => false)) = true := h
      rw [Bool.and_eq_true] at h
      obtain ⟨h1, h2⟩ := h
      have h1 := of_decide_eq_true h1
      subst h1
      cases hd : dCon v with
      | none => rw [hd] at h2; cases h2
      | some c =>
        rw [hd] at h2
        obtain ⟨j, vp, rfl⟩ := dCon_eq hd
        cases c with
        | bool b => cases b with
          | true => exact ⟨j, vp, kp, rfl⟩
          | false => cases h2
        | _ => cases h2
  · cases arg <;> cases h
def mIter (p : Px) (q : Qx) (ik : IK) (tg e : Expr) : Option (List Expr) := match ik with
  | .plain => if nset e then some [e] else none
  | .zip3s => match dCallK e with
    | some (f, args, ks, _) => match dName f with
      | some x => if decide (x = "zip") && q.gl x && p.bf.contains x && args.all nst && decide (args.length = 3) && (dTuple tg).isSome && isStrict ks then some args else none
      | none => none
    | none => none
  | ik => match dCall e with
    | some (f, args, _) => match dName f with
      | some x => if decide (x = ik.nm) && q.gl x && p.bf.contains x && args.all nst && decide (args.length = ik.ar) && ik.tgOk (dTuple tg).isSome then some args else none
      | none => none
    | none => none
def asLen : IE → Nat
  | .cons _ es => asLen es + 1
  | _ => 0
theorem evAs_len (C : Calls) (env : Env) : ∀ (e : IE) (S : Store) (vs : List Val) (S' : Store), evAs C e env S = .ok vs S' → vs.length = asLen e
  | .nil, S, vs, S', h => by
    have h' : R.ok [] S = R.ok vs S' := h
    injection h' with h1
    rw [← h1]
    rfl
  | .cons a es, S, vs, S', h => by
    have h' : ((evE C a env S).bind fun x S1 => (evAs C es env S1).bind fun xs S2 => R.ok (x :: xs) S2) = .ok vs S' := h
    cases q : evE C a env S with
    | stuck => rw [q] at h'; cases h'
    | exc x S1 => rw [q] at h'; cases h'
    | ok v S1 =>
      rw [q, R.bind_ok] at h'
      cases q2 : evAs C es env S1 with
      | stuck => rw [q2] at h'; cases h'
      | exc x S1 => rw [q2] at h'; cases h'
      | ok us S2 =>
        rw [q2, R.bind_ok] at h'
        injection h' with h1
        rw [← h1, List.length_cons, evAs_len C env es _ _ _ q2]
        rfl
  | .var _, _, _, _, h => by cases h
  | .con _, _, _, _, h => by cases h
  | .glob _ _, _, _, _, h => by cases h
  | .bin _ _ _, _, _, _, h => by cases h
  | .catl _ _ _, _, _, _, h => by cases h
  | .neg _, _, _, _, h => by cases h
  | .not _, _, _, _, h => by cases h
  | .cmp _ _ _, _, _, _, h => by cases h
  | .chain _ _ _ _ _, _, _, _, h => by cases h
  | .and _ _, _, _, _, h => by cases h
  | .or _ _, _, _, _, h => by cases h
  | .last _, _, _, _, h => by cases h
  | .ite _ _ _, _, _, _, h => by cases h
  | .tup _, _, _, _, h => by cases h
  | .lst _ _, _, _, _, h => by cases h
  | .call _ _, _, _, _, h => by cases h
  | .callv _ _, _, _, _, h => by cases h
  | .blt _ _, _, _, _, h => by cases h
  | .isi _ _, _, _, _, h => by cases h
  | .mth _ _ _, _, _, _, h => by cases h
  | .ix _ _, _, _, _, h => by cases h
  | .omit, _, _, _, h => by cases h
  | .slc _ _ _, _, _, _, h => by cases h
  | .fld _ _, _, _, _, h => by cases h
  | .mk _ _ _, _, _, _, h => by cases h
  | .mcall _ _ _ _ _, _, _, _, h => by cases h
  | .gin _ _ _ _, _, _, _, h => by cases h
  | .gget _ _ _, _, _, _, h => by cases h
  | .lc _ _ _ _ _ _ _, _, _, _, h => by cases h
  | .lc2 _ _ _ _ _ _ _ _ _ _, _, _, _, h => by cases h
  | .yes, _, _, _, h => by cases h
def tbEq (a b : List (Str × Nat)) : Bool := decide (a = b)
mutual
def mE (p : Px) : IE → Qx → Bool → Expr → Bool
  | .var i, q, t, e => (!t || testG e) && match dName e with
    | some x => q.at_ i x && q.vis x && plainN x
    | none => false
  | .con v, q, t, e => (!t || testG e) && match dCon e with
    | some c => cEq c v
    | none => false
  | .glob y i, q, t, e => (!t || testG e) && match dName e with
    | some x => decide (x = y) && decide (p.gi.lookup x = some i) && q.gl x
    | none => false
  | .bin o a b, q, t, e => (!t || testG e) && match dBin e with
    | some (l, o', r) => decide (o = o') && okOp o && mE p a q false l && mE p b q false r
    | none => false
  | .catl _ a b, q, t, e => (!t || testG e) && match dBin e with
    | some (l, o', r) => decide (o' = .Add) && mE p a q false l && mE p b q false r
    | none => false
  | .neg a, q, t, e => (!t || testG e) && match dUn e with
    | some (o, l) => decide (o = .USub) && mE p a q false l
    | none => false
  | .not a, q, t, e => match dUn e with
    | some (o, l) => decide (o = .Not) && mE p a q t l
    | none => false
  | .cmp o a b, q, t, e => match dCmp e with
    | some (l, [o'], [r]) => decide (o = o') && !behindInMarks o r && mE p a q false l && mE p b q false r
    | _ => false
  | .chain o o' a b c, q, t, e => match dCmp e with
    | some (l, [o1, o2], [r, s]) => decide (o = o1) && decide (o' = o2) && !lastMarks [o, o'] [r, s] && mE p a q false l && mE p b q false r && mE p c q false s
    | _ => false
  | .and a b, q, t, e => match dBool e with
    | some (.And, x :: y :: es) => mE p a q t x && mB p b q t .And (y :: es)
    | _ => false
  | .or a b, q, t, e => match dBool e with
    | some (.Or, x :: y :: es) => mE p a q t x && mB p b q t .Or (y :: es)
    | _ => false
  | .last _, _, _, _ => false
  | .ite c a b, q, t, e => !t && match dIf e with
    | some (z, x, y) => mE p c q true z && mE p a q false x && mE p b q false y
    | none => false
  | .tup es, q, t, e => (!t || testG e) && match dTuple e with
    | some xs => decide (xs.length < 1000) && mAs p es q xs
    | none => false
  | .lst _ es, q, t, e => (!t || testG e) && match dList e with
    | some xs => decide (xs.length < 1000) && mAs p es q xs
    | none => false
  | .nil, _, _, _ => false
  | .cons _ _, _, _, _ => false
  | .call j es, q, t, e => (!t || testG e) && match dCall e with
    | some (f, args, _) => match dName f, p.T[j]? with
      | some x, some fi => decide (fi.name = x) && decide (fi.cls = none) && q.gl x && mAs p es q args && (!args.isEmpty || (isNil es && q.wc))
      | _, _ => false
    | none => false
  | .callv i es, q, t, e => (!t || testG e) && match dCall e with
    | some (f, args, _) => match dName f with
      | some x => q.at_ i x && q.vis x && plainN x && q.wc && mAs p es q args && !args.isEmpty
      | _ => false
    | none => false
  | .blt b es, q, t, e => (!t || testG e) && match dCall e with
    | some (f, args, _) => match dName f with
      | some x => decide (b.name = x) && q.gl x && p.bf.contains x && mAs p es q args && !args.isEmpty
      | _ => false
    | none => false
  | .isi y a, q, t, e => (!t || testG e) && match dCall e with
    | some (f, [l, r], _) => match dName f, dName r with
      | some x, some z => decide (x = "isinstance") && decide (z = y.name) && q.gl x && q.gl z && p.bf.contains x && p.bf.contains z && nst l && mE p a q false l
      | _, _ => false
    | _ => false
  | .mth m o es, q, t, e => (!t || testG e) && match dCall e with
    | some (f, args, cp) => match dAttr f with
      | some (l, x, ap) => decide (x = m.name) && baseOk l && (ap.endLine == cp.line) && mE p o q false l && mAs p es q args && (match m with
        | .pop => isNil es && args.isEmpty
        | _ => decide (args.length = 1))
      | _ => false
    | none => false
  | .ix a i, q, t, e => (!t || testG e) && match dSub e with
    | some (l, r) => nsl r && mE p a q false l && mE p i q false r
    | none => false
  | .omit, _, _, _ => false
  | .slc a lo hi, q, t, e => (!t || testG e) && match dSub e with
    | some (l, r) => match dSlice r with
      | some (x, y) => mE p a q false l && (match x with
          | none => isOmit lo
          | some x => mE p lo q false x) && (match y with
          | none => isOmit hi
          | some y => mE p hi q false y)
      | none => false
    | none => false
  | .fld o f, q, t, e => (!t || testG e) && match dAttr e with
    | some (l, x, _) => decide (x = f) && p.fs.contains f && baseOk l && mE p o q false l
    | none => false
  | .mk c j es, q, t, e => (!t || testG e) && match dCall e with
    | some (f, args, _) => match dName f, p.T[j]? with
      | some x, some fi => decide (x = c) && decide (fi.name = "__init__") && decide (fi.cls = some c) && q.gl x && q.wc && mAs p es q args && !args.isEmpty
      | _, _ => false
    | none => false
  | .mcall c m j o es, q, t, e => (!t || testG e) && match dCall e with
    | some (f, args, cp) => match dAttr f, p.T[j]? with
      | some (l, x, ap), some fi => decide (x = m) && decide (fi.name = m) && decide (fi.cls = some c) && baseOk l && (ap.endLine == cp.line) && q.wc && mE p o q false l && mAs p es q args && !args.isEmpty && decide (args.length < 30)
      | _, _ => false
    | none => false
  | .gin neg y tb a, q, t, e => match dCmp e with
    | some (l, [o], [r]) => match dName r with
      | some x => decide (o = (if neg then CmpOp.NotIn else CmpOp.In)) && decide (x = y) && decide (p.tb.lookup y = some tb) && q.gl y && mE p a q false l
      | none => false
    | _ => false
  | .gget y tb a, q, t, e => (!t || testG e) && match dSub e with
    | some (l, r) => match dName l with
      | some x => decide (x = y) && decide (p.tb.lookup y = some tb) && q.gl y && nsl r && mE p a q false r
      | none => false
    | none => false
  | .lc _ own ik src tg c a, q, t, e => !t && match dLC e with
    | some (elt, tx, iter, ifs, scope) => match mIter p q ik tx iter with
      | some args => nset iter && blkC q.N q.sc scope own && (tgNames tg).all (fun i => (own.map (·.2)).contains i) && mAs p src q args && mG (q.blk scope) tg tx && (match ifs with
          | [] => isYes c
          | [x] => mE p c (q.blk scope) true x
          | _ => false) && mE p a (q.blk scope) false elt
      | none => false
    | none => false
  | .lc2 _ own own2 ik src tg ik2 src2 tg2 a, q, t, e => !t && match dLC2 e with
    | some (elt, tx, iter, ty, iter1, scope) => match mIter p q ik tx iter, mIter p (q.blk scope) ik2 ty iter1 with
      | some args, some args2 => nset iter && nset iter1 && blkC q.N q.sc scope own && (tgNames tg).all (fun i => (own.map (·.2)).contains i) && (tgNames tg2).all (fun i => own2.contains i) && own2.all (fun i => (own.map (·.2)).contains i) && mAs p src q args && mG (q.blk scope) tg tx && mAs p src2 (q.blk scope) args2 && mG (q.blk scope) tg2 ty && mE p a (q.blk scope) false elt
      | _, _ => false
    | none => false
  | .yes, _, _, _ => false
def mB (p : Px) : IE → Qx → Bool → BoolOp → List Expr → Bool
  | .last a, q, t, _, [x] => mE p a q t x
  | .and a b, q, t, .And, x :: y :: es => mE p a q t x && mB p b q t .And (y :: es)
  | .or a b, q, t, .Or, x :: y :: es => mE p a q t x && mB p b q t .Or (y :: es)
  | _, _, _, _, _ => false
def mAs (p : Px) : IE → Qx → List Expr → Bool
  | .nil, _, [] => true
  | .cons a as, q, e :: es => nst e && mE p a q false e && mAs p as q es
  | _, _, _ => false
end
theorem mAs_nst {p : Px} {q : Qx} : ∀ {es : List Expr} {a : IE}, mAs p a q es = true → es.all nst = true ∧ es.length = asLen a
  | [], a, h => by
    cases a <;> first
      | exact ⟨rfl, rfl⟩
      | cases h
  | e :: es, a, h => by
    cases a <;> first
      | (cases h; done)
      | skip
    unfold mAs at h
    rw [Bool.and_eq_true, Bool.and_eq_true] at h
    obtain ⟨h1, h2⟩ := mAs_nst h.2
    exact ⟨by rw [List.all_cons, h.1.1, h1]; rfl, by rw [List.length_cons, h2]; rfl⟩
def Snd (k : Kx) (X : Cx) (W : WX) (t : Bool) (ie : IE) (e : Expr) : Prop := match t with
  | false => PE X e (tE k W ie)
  | true => PT X e (tT k W ie)
theorem Snd.of {k : Kx} {X : Cx} {W : WX} {t : Bool} {ie : IE} {e : Expr} (h : PE X e (tE k W ie)) (ht : (!t || testG e) = true) : Snd k X W t ie e := by
  cases t with
  | false => exact h
  | true => exact pt_of h (test_ok ht)
def SndB (k : Kx) (X : Cx) (W : WX) (t : Bool) (ie : IE) (op : BoolOp) (es : List Expr) : Prop := match t with
  | false => ∀ pos, PE X (.BoolOp op es pos) (tE k W ie)
  | true => ∀ pos, PW X (.BoolOp op es pos) (tT k W ie)
theorem snd_iter {k : Kx} {X : Cx} {W : WX} {q : Qx} (g : Good k X W q) {ik : IK} {tg e : Expr} {args : List Expr} {src : IE} (h : mIter k.px q ik tg e = some args) (hA : PA X args (tAs k W src)) (h1 : ∀ e, args = [e] → ∃ ie, src = .cons ie .nil ∧ PE X e (tE k W ie)) : PI X tg e (tI k W ik src) := by
  have key : (match dCall e with
    | some (f, args, _) => match dName f with
      | some x => if decide (x = ik.nm) && q.gl x && k.bf.contains x && args.all nst && decide (args.length = ik.ar) && ik.tgOk (dTuple tg).isSome then some args else none
      | none => none
    | none => none) = some args → ∃ p p', e = .Call (.Name ik.nm p) args [] p' ∧ Gl X ik.nm ∧ k.bf.contains ik.nm = true ∧ args.all nst = true ∧ args.length = ik.ar ∧ ik.tgOk (dTuple tg).isSome = true := by
    intro k0
    cases hd : dCall e with
    | none => rw [hd] at k0; cases k0
    | some z =>
      obtain ⟨f, as, p'⟩ := z
      rw [hd] at k0
      obtain rfl := dCall_eq hd
      have k0 : (match dName f with
        | some x => if decide (x = ik.nm) && q.gl x && k.bf.contains x && as.all nst && decide (as.length = ik.ar) && ik.tgOk (dTuple tg).isSome then some as else none
        | none => none) = some args := k0
      cases hf : dName f with
      | none => rw [hf] at k0; cases k0
      | some x =>
        obtain ⟨p, rfl⟩ := dName_eq hf
        rw [hf] at k0
        have k0 : (if decide (x = ik.nm) && q.gl x && k.bf.contains x && as.all nst && decide (as.length = ik.ar) && ik.tgOk (dTuple tg).isSome then some as else none) = some args := k0
        split at k0
        · rename_i hc
          obtain rfl := Option.some.inj k0
          simp only [Bool.and_eq_true, decide_eq_true_eq] at hc
          obtain ⟨⟨⟨⟨⟨c1, c2⟩, c3⟩, c4⟩, c5⟩, c6⟩ := hc
          subst c1
          exact ⟨p, p', rfl, (g.gl c2).1, c3, c4, c5, c6⟩
        · cases k0
  cases ik with
  | plain =>
    have h' : (if nset e then some [e] else none) = some args := h
    split at h'
    · obtain rfl := Option.some.inj h'
      obtain ⟨ie, rfl, hp⟩ := h1 e rfl
      exact pi_plain g.S hp
    · cases h'
  | range1 =>
    obtain ⟨p, p', rfl, h2, h3, h4, h5, h6⟩ := key h
    rcases args with _ | ⟨a, _ | ⟨b, r⟩⟩ <;> first
      | (cases h5; done)
      | skip
    exact pi_range1' g.S h2 h3 hA (by rw [List.all_cons, Bool.and_eq_true] at h4; rw [star_nst h4.1]; rfl)
  | range2 =>
    obtain ⟨p, p', rfl, h2, h3, h4, h5, h6⟩ := key h
    rcases args with _ | ⟨a, _ | ⟨b, _ | ⟨c, r⟩⟩⟩ <;> first
      | (cases h5; done)
      | skip
    rw [List.all_cons, Bool.and_eq_true, List.all_cons, Bool.and_eq_true] at h4
    exact pi_range2' g.S h2 h3 hA (by rw [star_nst h4.1, star_nst h4.2.1]; rfl) (by rw [star_nst h4.2.1]; rfl)
  | enum =>
    obtain ⟨p, p', rfl, h2, h3, h4, h5, h6⟩ := key h
    rcases args with _ | ⟨a, _ | ⟨b, r⟩⟩ <;> first
      | (cases h5; done)
      | skip
    have h6 : (dTuple tg).isSome = true := h6
    obtain ⟨es, he⟩ := Option.isSome_iff_exists.mp h6
    obtain ⟨j, pp, rfl⟩ := dTuple_eq he
    exact pi_enum' g.S h2 h3 hA (by rw [List.all_cons, Bool.and_eq_true] at h4; rw [star_nst h4.1]; rfl)
  | zip =>
    obtain ⟨p, p', rfl, h2, h3, h4, h5, h6⟩ := key h
    rcases args with _ | ⟨a, _ | ⟨b, _ | ⟨c, r⟩⟩⟩ <;> first
      | (cases h5; done)
      | skip
    have h6 : (dTuple tg).isSome = true := h6
    obtain ⟨es, he⟩ := Option.isSome_iff_exists.mp h6
    obtain ⟨j, pp, rfl⟩ := dTuple_eq he
    rw [List.all_cons, Bool.and_eq_true, List.all_cons, Bool.and_eq_true] at h4
    exact pi_zip' g.S h2 h3 hA (by rw [star_nst h4.1]) (by rw [star_nst h4.2.1]; rfl)
  | zips =>
    obtain ⟨p, p', rfl, h2, h3, h4, h5, h6⟩ := key h
    cases h6
  | zip3s =>
    have h : (match dCallK e with
      | some (f, args, ks, _) => match dName f with
        | some x => if decide (x = "zip") && q.gl x && k.px.bf.contains x && args.all nst && decide (args.length = 3) && (dTuple tg).isSome && isStrict ks then some args else none
        | none => none
      | none => none) = some args := h
    cases hd : dCallK e with
    | none => rw [hd] at h; cases h
    | some z =>
      obtain ⟨f, as, ks, p'⟩ := z
      rw [hd] at h
      obtain rfl := dCallK_eq hd
      have h : (match dName f with
        | some x => if decide (x = "zip") && q.gl x && k.px.bf.contains x && as.all nst && decide (as.length = 3) && (dTuple tg).isSome && isStrict ks then some as else none
        | none => none) = some args := h
      cases hf : dName f with
      | none => rw [hf] at h; cases h
      | some x =>
        obtain ⟨p, rfl⟩ := dName_eq hf
        rw [hf] at h
        have h : (if decide (x = "zip") && q.gl x && k.px.bf.contains x && as.all nst && decide (as.length = 3) && (dTuple tg).isSome && isStrict ks then some as else none) = some args := h
        split at h
        · rename_i hc
          obtain rfl := Option.some.inj h
          simp only [Bool.and_eq_true, decide_eq_true_eq] at hc
          obtain ⟨⟨⟨⟨⟨⟨c1, c2⟩, c3⟩, c4⟩, c5⟩, c6⟩, c7⟩ := hc
          subst c1
          rcases as with _ | ⟨a, _ | ⟨b, _ | ⟨c, _ | ⟨d, r⟩⟩⟩⟩ <;> first
            | (cases c5; done)
            | skip
          obtain ⟨es, he⟩ := Option.isSome_iff_exists.mp c6
          obtain ⟨j, pp, rfl⟩ := dTuple_eq he
          obtain ⟨j2, vp, kp, rfl⟩ := isStrict_eq c7
          rw [List.all_cons, Bool.and_eq_true, List.all_cons, Bool.and_eq_true, List.all_cons, Bool.and_eq_true] at c4
          exact pi_zipS' g.S (g.gl c2).1 c3 hA (by rw [star_nst c4.1]) (by rw [star_nst c4.2.1, star_nst c4.2.2.1]; rfl)
        · cases h
end Lt
set_option maxHeartbeats 4000000
namespace Lt
open PySem PySem.Spec PyProof.Rows L2
theorem ne_cons {args : List Expr} (h : (!args.isEmpty) = true) : ∃ e es, args = e :: es := by
  cases args with
  | nil => cases h
  | cons e es => exact ⟨e, es, rfl⟩
theorem gin_op {neg : Bool} {o : CmpOp} (h : o = (if neg then CmpOp.NotIn else CmpOp.In)) : o = (if neg = true then CmpOp.NotIn else CmpOp.In) := h
theorem sl_some {lo : IE} {p : Px} {q : Qx} {x : Expr} (h : mE p lo q false x = true) : ∀ v o, partV lo v = some o → ∃ i, v = .int i ∧ o = some i := by
  intro v o ho
  cases lo <;> first
    | (unfold mE at h; cases h; done)
    | (cases v <;> first
        | (cases ho; done)
        | (obtain rfl := Option.some.inj ho; exact ⟨_, rfl, rfl⟩))
mutual
theorem snd_E : ∀ (ie : IE) {k : Kx} {X : Cx} {W : WX} {q : Qx} (g : Good k X W q) (t : Bool) (e : Expr), mE k.px ie q t e = true → Snd k X W t ie e
  | .var i, k, X, W, q, g, t, e, h => by
    unfold mE at h
    rw [Bool.and_eq_true] at h
    obtain ⟨ht, h⟩ := h
    refine Snd.of ?_ ht
    split at h
    case h_2 => cases h
    rename_i x hd
    obtain ⟨p, rfl⟩ := dName_eq hd
    simp only [Bool.and_eq_true] at h
    exact s_var (g.at_ h.1.1) (g.vis h.1.2) (plainN_ok h.2).1 (plainN_ok h.2).2
  | .con v, k, X, W, q, g, t, e, h => by
    unfold mE at h
    rw [Bool.and_eq_true] at h
    obtain ⟨ht, h⟩ := h
    refine Snd.of ?_ ht
    split at h
    case h_2 => cases h
    rename_i x hd
    obtain ⟨j, p, rfl⟩ := dCon_eq hd
    exact s_con (cEq_ok h)
  | .glob y i, k, X, W, q, g, t, e, h => by
    unfold mE at h
    rw [Bool.and_eq_true] at h
    obtain ⟨ht, h⟩ := h
    refine Snd.of ?_ ht
    split at h
    case h_2 => cases h
    rename_i x hd
    obtain ⟨p, rfl⟩ := dName_eq hd
    simp only [Bool.and_eq_true, decide_eq_true_eq] at h
    obtain ⟨⟨rfl, h2⟩, h3⟩ := h
    exact s_glob g.S h2 (g.gl h3).1 (g.gl h3).2
  | .bin o a b, k, X, W, q, g, t, e, h => by
    unfold mE at h
    rw [Bool.and_eq_true] at h
    obtain ⟨ht, h⟩ := h
    refine Snd.of ?_ ht
    split at h
    case h_2 => cases h
    rename_i l o' r hd
    obtain ⟨p, rfl⟩ := dBin_eq hd
    simp only [Bool.and_eq_true, decide_eq_true_eq] at h
    obtain ⟨⟨⟨rfl, h2⟩, h3⟩, h4⟩ := h
    exact s_bin g.S (okOp_ok h2) (snd_E a g false l h3) (snd_E b g false r h4)
  | .catl m a b, k, X, W, q, g, t, e, h => by
    unfold mE at h
    rw [Bool.and_eq_true] at h
    obtain ⟨ht, h⟩ := h
    refine Snd.of ?_ ht
    split at h
    case h_2 => cases h
    rename_i l o' r hd
    obtain ⟨p, rfl⟩ := dBin_eq hd
    simp only [Bool.and_eq_true, decide_eq_true_eq] at h
    obtain ⟨⟨rfl, h3⟩, h4⟩ := h
    exact s_catl g.S (snd_E a g false l h3) (snd_E b g false r h4)
  | .neg a, k, X, W, q, g, t, e, h => by
    unfold mE at h
    rw [Bool.and_eq_true] at h
    obtain ⟨ht, h⟩ := h
    refine Snd.of ?_ ht
    split at h
    case h_2 => cases h
    rename_i o' l hd
    obtain ⟨p, rfl⟩ := dUn_eq hd
    simp only [Bool.and_eq_true, decide_eq_true_eq] at h
    obtain ⟨rfl, h3⟩ := h
    exact s_neg (snd_E a g false l h3)
  | .not a, k, X, W, q, g, t, e, h => by
    unfold mE at h
    split at h
    case h_2 => cases h
    rename_i o' l hd
    obtain ⟨p, rfl⟩ := dUn_eq hd
    simp only [Bool.and_eq_true, decide_eq_true_eq] at h
    obtain ⟨rfl, h3⟩ := h
    have i := snd_E a g t l h3
    cases t with
    | false => exact s_not i
    | true => exact st_not i
  | .cmp o a b, k, X, W, q, g, t, e, h => by
    unfold mE at h
    split at h
    · rename_i l o' r hd
      obtain ⟨p, rfl⟩ := dCmp_eq hd
      simp only [Bool.and_eq_true, decide_eq_true_eq, Bool.not_eq_true'] at h
      obtain ⟨⟨⟨rfl, h2⟩, h3⟩, h4⟩ := h
      have i1 := snd_E a g false l h3
      have i2 := snd_E b g false r h4
      cases t with
      | false => exact s_cmp g.S h2 i1 i2
      | true => exact st_cmp g.S h2 i1 i2
    · cases h
  | .chain o o' a b c, k, X, W, q, g, t, e, h => by
    unfold mE at h
    split at h
    · rename_i l o1 o2 r s hd
      obtain ⟨p, rfl⟩ := dCmp_eq hd
      simp only [Bool.and_eq_true, decide_eq_true_eq, Bool.not_eq_true'] at h
      obtain ⟨⟨⟨⟨⟨rfl, rfl⟩, h2⟩, h3⟩, h4⟩, h5⟩ := h
      have i1 := snd_E a g false l h3
      have i2 := snd_E b g false r h4
      have i3 := snd_E c g false s h5
      cases t with
      | false => exact s_chain g.S h2 i1 i2 i3
      | true => exact st_chain g.S h2 i1 i2 i3
    · cases h
  | .and a b, k, X, W, q, g, t, e, h => by
    unfold mE at h
    split at h
    · rename_i x y es hd
      obtain ⟨p, rfl⟩ := dBool_eq hd
      rw [Bool.and_eq_true] at h
      have i1 := snd_E a g t x h.1
      have i2 := snd_B b g t .And (y :: es) h.2
      cases t with
      | false => exact s_and i1 (i2 p)
      | true => exact (sw_and i1 (i2 p)).pt
    · cases h
  | .or a b, k, X, W, q, g, t, e, h => by
    unfold mE at h
    split at h
    · rename_i x y es hd
      obtain ⟨p, rfl⟩ := dBool_eq hd
      rw [Bool.and_eq_true] at h
      have i1 := snd_E a g t x h.1
      have i2 := snd_B b g t .Or (y :: es) h.2
      cases t with
      | false => exact s_or i1 (i2 p)
      | true => exact (sw_or i1 (i2 p)).pt
    · cases h
  | .last _, k, X, W, q, g, t, e, h => by unfold mE at h; cases h
  | .ite c a b, k, X, W, q, g, t, e, h => by
    unfold mE at h
    rw [Bool.and_eq_true, Bool.not_eq_true'] at h
    obtain ⟨rfl, h⟩ := h
    split at h
    case h_2 => cases h
    rename_i z x y hd
    obtain ⟨p, rfl⟩ := dIf_eq hd
    simp only [Bool.and_eq_true] at h
    exact s_ite (snd_E c g true z h.1.1) (snd_E a g false x h.1.2) (snd_E b g false y h.2)
  | .tup es, k, X, W, q, g, t, e, h => by
    unfold mE at h
    rw [Bool.and_eq_true] at h
    obtain ⟨ht, h⟩ := h
    refine Snd.of ?_ ht
    split at h
    case h_2 => cases h
    rename_i xs hd
    obtain ⟨j, p, rfl⟩ := dTuple_eq hd
    simp only [Bool.and_eq_true, decide_eq_true_eq] at h
    have hl := (mAs_nst h.2).2
    exact s_tup (Nat.le_trans (Nat.le_of_lt h.1) (by decide)) (fun C env S vs S' he => by rw [hl]; exact evAs_len C env es S vs S' he) (snd_As es g xs h.2).1
  | .lst m es, k, X, W, q, g, t, e, h => by
    unfold mE at h
    rw [Bool.and_eq_true] at h
    obtain ⟨ht, h⟩ := h
    refine Snd.of ?_ ht
    split at h
    case h_2 => cases h
    rename_i xs hd
    obtain ⟨p, rfl⟩ := dList_eq hd
    simp only [Bool.and_eq_true, decide_eq_true_eq] at h
    have hl := (mAs_nst h.2).2
    exact s_lst (Nat.le_trans (Nat.le_of_lt h.1) (by decide)) (fun C env S vs S' he => by rw [hl]; exact evAs_len C env es S vs S' he) (snd_As es g xs h.2).1
  | .nil, k, X, W, q, g, t, e, h => by unfold mE at h; cases h
  | .cons _ _, k, X, W, q, g, t, e, h => by unfold mE at h; cases h
  | .call j es, k, X, W, q, g, t, e, h => by
    unfold mE at h
    rw [Bool.and_eq_true] at h
    obtain ⟨ht, h⟩ := h
    refine Snd.of ?_ ht
    split at h
    case h_2 => cases h
    rename_i f args cp hd
    obtain rfl := dCall_eq hd
    split at h
    · rename_i x fi hx hT
      obtain ⟨p, rfl⟩ := dName_eq hx
      simp only [Bool.and_eq_true, decide_eq_true_eq, Bool.or_eq_true] at h
      obtain ⟨⟨⟨⟨h1, h2⟩, h3⟩, h4⟩, h5⟩ := h
      rcases h5 with h5 | ⟨h5, h6⟩
      · obtain ⟨a, as, rfl⟩ := ne_cons h5
        have hn := (mAs_nst h4).1
        rw [List.all_cons, Bool.and_eq_true] at hn
        exact s_call g.S g.tk hT h1 h2 (g.gl h3).1 (g.gl h3).2 (snd_As es g _ h4).1 (star_nst hn.1) (back_nst hn.2)
      · obtain rfl := isNil_ok h5
        cases args with
        | nil => exact s_call0 g.S g.tk (g.wc h6) hT h1 h2 (g.gl h3).1 (g.gl h3).2
        | cons a as => unfold mAs at h4; cases h4
    · cases h
  | .callv i es, k, X, W, q, g, t, e, h => by
    unfold mE at h
    rw [Bool.and_eq_true] at h
    obtain ⟨ht, h⟩ := h
    refine Snd.of ?_ ht
    split at h
    case h_2 => cases h
    rename_i f args cp hd
    obtain rfl := dCall_eq hd
    split at h
    case h_2 => cases h
    rename_i x hx
    obtain ⟨p, rfl⟩ := dName_eq hx
    simp only [Bool.and_eq_true] at h
    obtain ⟨⟨⟨⟨⟨h1, h2⟩, h3⟩, h6⟩, h4⟩, h5⟩ := h
    obtain ⟨a, as, rfl⟩ := ne_cons h5
    have hn := (mAs_nst h4).1
    rw [List.all_cons, Bool.and_eq_true] at hn
    exact s_callv g.S g.tk (g.wc h6) (g.at_ h1) (g.vis h2) (plainN_ok h3).1 (plainN_ok h3).2 (snd_As es g _ h4).1 (star_nst hn.1) (back_nst hn.2)
  | .blt b es, k, X, W, q, g, t, e, h => by
    unfold mE at h
    rw [Bool.and_eq_true] at h
    obtain ⟨ht, h⟩ := h
    refine Snd.of ?_ ht
    split at h
    case h_2 => cases h
    rename_i f args cp hd
    obtain rfl := dCall_eq hd
    split at h
    case h_2 => cases h
    rename_i x hx
    obtain ⟨p, rfl⟩ := dName_eq hx
    simp only [Bool.and_eq_true, decide_eq_true_eq] at h
    obtain ⟨⟨⟨⟨h1, h2⟩, h3⟩, h4⟩, h5⟩ := h
    obtain ⟨a, as, rfl⟩ := ne_cons h5
    have hn := (mAs_nst h4).1
    rw [List.all_cons, Bool.and_eq_true] at hn
    exact s_blt g.S b h1 (g.gl h2).1 h3 (snd_As es g _ h4).1 (star_nst hn.1) (back_nst hn.2)
  | .isi y a, k, X, W, q, g, t, e, h => by
    unfold mE at h
    rw [Bool.and_eq_true] at h
    obtain ⟨ht, h⟩ := h
    refine Snd.of ?_ ht
    split at h
    · rename_i f l r cp hd
      obtain rfl := dCall_eq hd
      split at h
      · rename_i x z hx hz
        obtain ⟨p, rfl⟩ := dName_eq hx
        obtain ⟨p', rfl⟩ := dName_eq hz
        simp only [Bool.and_eq_true, decide_eq_true_eq] at h
        obtain ⟨⟨⟨⟨⟨⟨⟨rfl, rfl⟩, h1⟩, h2⟩, h3⟩, h4⟩, h5⟩, h6⟩ := h
        exact s_isi g.S (g.gl h1).1 h3 (g.gl h2).1 h4 (snd_E a g false l h6) (star_nst h5)
      · cases h
    · cases h
  | .mth m o es, k, X, W, q, g, t, e, h => by
    unfold mE at h
    rw [Bool.and_eq_true] at h
    obtain ⟨ht, h⟩ := h
    refine Snd.of ?_ ht
    split at h
    case h_2 => cases h
    rename_i f args cp hd
    obtain rfl := dCall_eq hd
    split at h
    · rename_i l x ap hx
      obtain rfl := dAttr_eq hx
      simp only [Bool.and_eq_true, decide_eq_true_eq] at h
      obtain ⟨⟨⟨⟨⟨rfl, h1⟩, h2⟩, h3⟩, h4⟩, h5⟩ := h
      have hn := (mAs_nst h4).1
      have i1 := snd_E o g false l h3
      have i2 := (snd_As es g _ h4).1
      cases m with
      | append =>
        have h5 : args.length = 1 := of_decide_eq_true h5
        obtain ⟨a, rfl⟩ := List.length_eq_one_iff.mp h5
        rw [List.all_cons, Bool.and_eq_true] at hn
        exact s_append g.S (base_ok h1) h2 (star_nst hn.1) i1 i2
      | extend =>
        have h5 : args.length = 1 := of_decide_eq_true h5
        obtain ⟨a, rfl⟩ := List.length_eq_one_iff.mp h5
        rw [List.all_cons, Bool.and_eq_true] at hn
        exact s_extend g.S (base_ok h1) h2 (star_nst hn.1) i1 i2
      | pop =>
        have h5 : (isNil es && args.isEmpty) = true := h5
        rw [Bool.and_eq_true] at h5
        obtain rfl := isNil_ok h5.1
        cases args with
        | nil => exact s_pop g.S (base_ok h1) h2 i1
        | cons a as => cases h5.2
    · cases h
  | .ix a i, k, X, W, q, g, t, e, h => by
    unfold mE at h
    rw [Bool.and_eq_true] at h
    obtain ⟨ht, h⟩ := h
    refine Snd.of ?_ ht
    split at h
    case h_2 => cases h
    rename_i l r hd
    obtain ⟨p, rfl⟩ := dSub_eq hd
    simp only [Bool.and_eq_true] at h
    exact s_ix g.S (plain_ix h.1.1) (snd_E a g false l h.1.2) (snd_E i g false r h.2)
  | .omit, k, X, W, q, g, t, e, h => by unfold mE at h; cases h
  | .slc a lo hi, k, X, W, q, g, t, e, h => by
    unfold mE at h
    rw [Bool.and_eq_true] at h
    obtain ⟨ht, h⟩ := h
    refine Snd.of ?_ ht
    split at h
    case h_2 => cases h
    rename_i l r hd
    obtain ⟨p, rfl⟩ := dSub_eq hd
    split at h
    case h_2 => cases h
    rename_i x y hs
    obtain ⟨p2, rfl⟩ := dSlice_eq hs
    rw [Bool.and_eq_true, Bool.and_eq_true] at h
    obtain ⟨⟨h1, h2⟩, h3⟩ := h
    refine s_slc g.S (snd_E a g false l h1) ?_ ?_
    · cases x with
      | none =>
        obtain rfl := isOmit_ok h2
        exact sp_none
      | some x => exact sp_some (sl_some h2) (snd_E lo g false x h2)
    · cases y with
      | none =>
        obtain rfl := isOmit_ok h3
        exact sp_none
      | some y => exact sp_some (sl_some h3) (snd_E hi g false y h3)
  | .fld o f, k, X, W, q, g, t, e, h => by
    unfold mE at h
    rw [Bool.and_eq_true] at h
    obtain ⟨ht, h⟩ := h
    refine Snd.of ?_ ht
    split at h
    case h_2 => cases h
    rename_i l x ap hd
    obtain rfl := dAttr_eq hd
    simp only [Bool.and_eq_true, decide_eq_true_eq] at h
    obtain ⟨⟨⟨rfl, h1⟩, h2⟩, h3⟩ := h
    exact s_fld g.S (fun c C hc => g.S.na c C _ hc h1) (base_ok h2) (snd_E o g false l h3)
  | .mk c j es, k, X, W, q, g, t, e, h => by
    unfold mE at h
    rw [Bool.and_eq_true] at h
    obtain ⟨ht, h⟩ := h
    refine Snd.of ?_ ht
    split at h
    case h_2 => cases h
    rename_i f args cp hd
    obtain rfl := dCall_eq hd
    split at h
    · rename_i x fi hx hT
      obtain ⟨p, rfl⟩ := dName_eq hx
      simp only [Bool.and_eq_true, decide_eq_true_eq] at h
      obtain ⟨⟨⟨⟨⟨⟨rfl, h1⟩, h2⟩, h3⟩, h6⟩, h4⟩, h5⟩ := h
      obtain ⟨a, as, rfl⟩ := ne_cons h5
      have hn := (mAs_nst h4).1
      rw [List.all_cons, Bool.and_eq_true] at hn
      exact s_mk g.S g.tk (g.wc h6) hT h1 h2 (g.gl h3).1 (g.gl h3).2 (snd_As es g _ h4).1 (star_nst hn.1) (back_nst hn.2)
    · cases h
  | .mcall c m j o es, k, X, W, q, g, t, e, h => by
    unfold mE at h
    rw [Bool.and_eq_true] at h
    obtain ⟨ht, h⟩ := h
    refine Snd.of ?_ ht
    split at h
    case h_2 => cases h
    rename_i f args cp hd
    obtain rfl := dCall_eq hd
    split at h
    · rename_i l x ap fi hx hT
      obtain rfl := dAttr_eq hx
      simp only [Bool.and_eq_true, decide_eq_true_eq] at h
      obtain ⟨⟨⟨⟨⟨⟨⟨⟨⟨rfl, h1⟩, h2⟩, h3⟩, h7⟩, h6⟩, h8⟩, h4⟩, h5⟩, h9⟩ := h
      obtain ⟨a, as, rfl⟩ := ne_cons h5
      have hn0 := (mAs_nst h4).1
      have hn := hn0
      rw [List.all_cons, Bool.and_eq_true] at hn
      refine s_mcall g.S g.tk (g.wc h6) hT h1 h2 (base_ok h3) h7 ?_ (snd_E o g false l h8) (snd_As es g _ h4).1 (star_nst hn.1) (back_nst hn.2)
      rw [Bool.and_eq_true]
      exact ⟨back_all hn0, decide_eq_true h9⟩
    · cases h
  | .gin neg y tb a, k, X, W, q, g, t, e, h => by
    unfold mE at h
    split at h
    · rename_i l o r hd
      obtain ⟨p, rfl⟩ := dCmp_eq hd
      split at h
      case h_2 => cases h
      rename_i x hx
      obtain ⟨p', rfl⟩ := dName_eq hx
      simp only [Bool.and_eq_true, decide_eq_true_eq] at h
      obtain ⟨⟨⟨⟨h1, rfl⟩, h2⟩, h3⟩, h4⟩ := h
      subst h1
      have i1 := snd_E a g false l h4
      cases t with
      | false => exact s_gin g.S h2 (g.gl h3).1 (g.gl h3).2 i1
      | true => exact st_gin g.S h2 (g.gl h3).1 (g.gl h3).2 i1
    · cases h
  | .gget y tb a, k, X, W, q, g, t, e, h => by
    unfold mE at h
    rw [Bool.and_eq_true] at h
    obtain ⟨ht, h⟩ := h
    refine Snd.of ?_ ht
    split at h
    case h_2 => cases h
    rename_i l r hd
    obtain ⟨p, rfl⟩ := dSub_eq hd
    split at h
    case h_2 => cases h
    rename_i x hx
    obtain ⟨p', rfl⟩ := dName_eq hx
    simp only [Bool.and_eq_true, decide_eq_true_eq] at h
    obtain ⟨⟨⟨⟨rfl, h2⟩, h3⟩, h4⟩, h5⟩ := h
    exact s_gget g.S h2 (g.gl h3).1 (g.gl h3).2 (plain_ix h4) (snd_E a g false r h5)
  | .lc m own ik src tg c a, k, X, W, q, g, t, e, h => by
    unfold mE at h
    rw [Bool.and_eq_true, Bool.not_eq_true'] at h
    obtain ⟨rfl, h⟩ := h
    split at h
    case h_2 => cases h
    rename_i elt tx iter ifs scope hd
    obtain ⟨p, rfl⟩ := dLC_eq hd
    split at h
    case h_2 => cases h
    rename_i args hI
    simp only [Bool.and_eq_true] at h
    obtain ⟨⟨⟨⟨⟨⟨h1, h2⟩, h3⟩, h4⟩, h5⟩, h6⟩, h7⟩ := h
    have iA := snd_As src g args h4
    refine s_lc g.S (snd_iter g hI iA.1 iA.2) (by rw [g.sc, g.N]; exact blk_ok h2) (fun i hi => List.contains_iff_mem.mp (List.all_eq_true.mp h3 i hi)) (fun hh s H C cl fp => snd_G (g.blk hh s H scope C cl fp) tg tx h5) (fun hh s H C cl fp => ?_)
      (fun hh s H C cl fp => snd_E a (g.blk hh s H scope C cl fp) false elt h7) (set_ok h1)
    rcases ifs with _ | ⟨x, _ | ⟨y, r⟩⟩
    · obtain rfl := isYes_ok h6
      exact st_yes hh
    · exact pts_one (snd_E c (g.blk hh s H scope C cl fp) true x h6)
    · cases h6
  | .lc2 m own own2 ik src tg ik2 src2 tg2 a, k, X, W, q, g, t, e, h => by
    unfold mE at h
    rw [Bool.and_eq_true, Bool.not_eq_true'] at h
    obtain ⟨rfl, h⟩ := h
    split at h
    case h_2 => cases h
    rename_i elt tx iter ty iter1 scope hd
    obtain ⟨p, rfl⟩ := dLC2_eq hd
    split at h
    case h_2 => cases h
    rename_i args args2 hI hI2
    simp only [Bool.and_eq_true] at h
    obtain ⟨⟨⟨⟨⟨⟨⟨⟨⟨⟨h1, h1'⟩, h2⟩, h3⟩, h3'⟩, h3''⟩, h4⟩, h5⟩, h6⟩, h7⟩, h8⟩ := h
    have iA := snd_As src g args h4
    refine s_lc2 g.S (snd_iter g hI iA.1 iA.2) (by rw [g.sc, g.N]; exact blk_ok h2) (fun i hi => List.contains_iff_mem.mp (List.all_eq_true.mp h3'' i hi)) (fun i hi => List.contains_iff_mem.mp (List.all_eq_true.mp h3 i hi)) (fun i hi => List.contains_iff_mem.mp (List.all_eq_true.mp h3' i hi))
      (fun hh s H C cl fp => snd_G (g.blk hh s H scope C cl fp) tg tx h5) (fun hh s H C cl fp => ?_) (fun hh s H C cl fp => snd_G (g.blk hh s H scope C cl fp) tg2 ty h7) (fun hh s H C cl fp => snd_E a (g.blk hh s H scope C cl fp) false elt h8) (set_ok h1) (fun env => set_ok h1')
    have iB := snd_As src2 (g.blk hh s H scope C cl fp) args2 h6
    exact snd_iter (g.blk hh s H scope C cl fp) hI2 iB.1 iB.2
  | .yes, k, X, W, q, g, t, e, h => by unfold mE at h; cases h
theorem snd_B : ∀ (ie : IE) {k : Kx} {X : Cx} {W : WX} {q : Qx} (g : Good k X W q) (t : Bool) (op : BoolOp) (es : List Expr), mB k.px ie q t op es = true → SndB k X W t ie op es
  | .last a, k, X, W, q, g, t, op, [], h => by unfold mB at h; cases h
  | .last a, k, X, W, q, g, t, op, [x], h => by
    unfold mB at h
    have i := snd_E a g t x h
    cases t with
    | false => exact fun pos => s_last i
    | true =>
      cases op with
      | And => exact fun pos => sw_last1 i
      | Or => exact fun pos => sw_last2 i
  | .last a, k, X, W, q, g, t, op, _ :: _ :: _, h => by unfold mB at h; cases h
  | .and a b, k, X, W, q, g, t, .And, x :: y :: es, h => by
    unfold mB at h
    rw [Bool.and_eq_true] at h
    have i1 := snd_E a g t x h.1
    have i2 := snd_B b g t .And (y :: es) h.2
    cases t with
    | false => exact fun pos => s_and i1 (i2 pos)
    | true => exact fun pos => sw_and i1 (i2 pos)
  | .or a b, k, X, W, q, g, t, .Or, x :: y :: es, h => by
    unfold mB at h
    rw [Bool.and_eq_true] at h
    have i1 := snd_E a g t x h.1
    have i2 := snd_B b g t .Or (y :: es) h.2
    cases t with
    | false => exact fun pos => s_or i1 (i2 pos)
    | true => exact fun pos => sw_or i1 (i2 pos)
  | .and a b, k, X, W, q, g, t, .And, [], h => by unfold mB at h; cases h
  | .and a b, k, X, W, q, g, t, .And, [_], h => by unfold mB at h; cases h
  | .and a b, k, X, W, q, g, t, .Or, _, h => by unfold mB at h; cases h
  | .or a b, k, X, W, q, g, t, .Or, [], h => by unfold mB at h; cases h
  | .or a b, k, X, W, q, g, t, .Or, [_], h => by unfold mB at h; cases h
  | .or a b, k, X, W, q, g, t, .And, _, h => by unfold mB at h; cases h
  | .var _, _, _, _, _, _, _, _, _, h => by unfold mB at h; cases h
  | .con _, _, _, _, _, _, _, _, _, h => by unfold mB at h; cases h
  | .glob _ _, _, _, _, _, _, _, _, _, h => by unfold mB at h; cases h
  | .bin _ _ _, _, _, _, _, _, _, _, _, h => by unfold mB at h; cases h
  | .catl _ _ _, _, _, _, _, _, _, _, _, h => by unfold mB at h; cases h
  | .neg _, _, _, _, _, _, _, _, _, h => by unfold mB at h; cases h
  | .not _, _, _, _, _, _, _, _, _, h => by unfold mB at h; cases h
  | .cmp _ _ _, _, _, _, _, _, _, _, _, h => by unfold mB at h; cases h
  | .chain _ _ _ _ _, _, _, _, _, _, _, _, _, h => by unfold mB at h; cases h
  | .ite _ _ _, _, _, _, _, _, _, _, _, h => by unfold mB at h; cases h
  | .tup _, _, _, _, _, _, _, _, _, h => by unfold mB at h; cases h
  | .lst _ _, _, _, _, _, _, _, _, _, h => by unfold mB at h; cases h
  | .nil, _, _, _, _, _, _, _, _, h => by unfold mB at h; cases h
  | .cons _ _, _, _, _, _, _, _, _, _, h => by unfold mB at h; cases h
  | .call _ _, _, _, _, _, _, _, _, _, h => by unfold mB at h; cases h
  | .callv _ _, _, _, _, _, _, _, _, _, h => by unfold mB at h; cases h
  | .blt _ _, _, _, _, _, _, _, _, _, h => by unfold mB at h; cases h
  | .isi _ _, _, _, _, _, _, _, _, _, h => by unfold mB at h; cases h
  | .mth _ _ _, _, _, _, _, _, _, _, _, h => by unfold mB at h; cases h
  | .ix _ _, _, _, _, _, _, _, _, _, h => by unfold mB at h; cases h
  | .omit, _, _, _, _, _, _, _, _, h => by unfold mB at h; cases h
  | .slc _ _ _, _, _, _, _, _, _, _, _, h => by unfold mB at h; cases h
  | .fld _ _, _, _, _, _, _, _, _, _, h => by unfold mB at h; cases h
  | .mk _ _ _, _, _, _, _, _, _, _, _, h => by unfold mB at h; cases h
  | .mcall _ _ _ _ _, _, _, _, _, _, _, _, _, h => by unfold mB at h; cases h
  | .gin _ _ _ _, _, _, _, _, _, _, _, _, h => by unfold mB at h; cases h
  | .gget _ _ _, _, _, _, _, _, _, _, _, h => by unfold mB at h; cases h
  | .lc _ _ _ _ _ _ _, _, _, _, _, _, _, _, _, h => by unfold mB at h; cases h
  | .lc2 _ _ _ _ _ _ _ _ _ _, _, _, _, _, _, _, _, _, h => by unfold mB at h; cases h
  | .yes, _, _, _, _, _, _, _, _, h => by unfold mB at h; cases h
theorem snd_As : ∀ (ie : IE) {k : Kx} {X : Cx} {W : WX} {q : Qx} (g : Good k X W q) (es : List Expr), mAs k.px ie q es = true → PA X es (tAs k W ie) ∧ ∀ e, es = [e] → ∃ i, ie = .cons i .nil ∧ PE X e (tE k W i)
  | .nil, k, X, W, q, g, [], h => ⟨s_nil, fun e he => by cases he⟩
  | .nil, k, X, W, q, g, _ :: _, h => by unfold mAs at h; cases h
  | .cons a as, k, X, W, q, g, [], h => by unfold mAs at h; cases h
  | .cons a as, k, X, W, q, g, e :: es, h => by
    unfold mAs at h
    rw [Bool.and_eq_true, Bool.and_eq_true] at h
    have i1 : PE X e (tE k W a) := snd_E a g false e h.1.2
    have i2 := snd_As as g es h.2
    refine ⟨s_cons i1 i2.1 (star_nst h.1.1), fun e' he => ?_⟩
    cases he
    have hl := (mAs_nst h.2).2
    cases as <;> first
      | exact ⟨a, rfl, i1⟩
      | (have h2 := h.2; unfold mAs at h2; cases h2)
  | .var _, _, _, _, _, _, _, h => by unfold mAs at h; cases h
  | .con _, _, _, _, _, _, _, h => by unfold mAs at h; cases h
  | .glob _ _, _, _, _, _, _, _, h => by unfold mAs at h; cases h
  | .bin _ _ _, _, _, _, _, _, _, h => by unfold mAs at h; cases h
  | .catl _ _ _, _, _, _, _, _, _, h => by unfold mAs at h; cases h
  | .neg _, _, _, _, _, _, _, h => by unfold mAs at h; cases h
  | .not _, _, _, _, _, _, _, h => by unfold mAs at h; cases h
  | .cmp _ _ _, _, _, _, _, _, _, h => by unfold mAs at h; cases h
  | .chain _ _ _ _ _, _, _, _, _, _, _, h => by unfold mAs at h; cases h
  | .and _ _, _, _, _, _, _, _, h => by unfold mAs at h; cases h
  | .or _ _, _, _, _, _, _, _, h => by unfold mAs at h; cases h
  | .last _, _, _, _, _, _, _, h => by unfold mAs at h; cases h
  | .ite _ _ _, _, _, _, _, _, _, h => by unfold mAs at h; cases h
  | .tup _, _, _, _, _, _, _, h => by unfold mAs at h; cases h
  | .lst _ _, _, _, _, _, _, _, h => by unfold mAs at h; cases h
  | .call _ _, _, _, _, _, _, _, h => by unfold mAs at h; cases h
  | .callv _ _, _, _, _, _, _, _, h => by unfold mAs at h; cases h
  | .blt _ _, _, _, _, _, _, _, h => by unfold mAs at h; cases h
  | .isi _ _, _, _, _, _, _, _, h => by unfold mAs at h; cases h
  | .mth _ _ _, _, _, _, _, _, _, h => by unfold mAs at h; cases h
  | .ix _ _, _, _, _, _, _, _, h => by unfold mAs at h; cases h
  | .omit, _, _, _, _, _, _, h => by unfold mAs at h; cases h
  | .slc _ _ _, _, _, _, _, _, _, h => by unfold mAs at h; cases h
  | .fld _ _, _, _, _, _, _, _, h => by unfold mAs at h; cases h
  | .mk _ _ _, _, _, _, _, _, _, h => by unfold mAs at h; cases h
  | .mcall _ _ _ _ _, _, _, _, _, _, _, h => by unfold mAs at h; cases h
  | .gin _ _ _ _, _, _, _, _, _, _, h => by unfold mAs at h; cases h
  | .gget _ _ _, _, _, _, _, _, _, h => by unfold mAs at h; cases h
  | .lc _ _ _ _ _ _ _, _, _, _, _, _, _, h => by unfold mAs at h; cases h
  | .lc2 _ _ _ _ _ _ _ _ _ _, _, _, _, _, _, _, h => by unfold mAs at h; cases h
  | .yes, _, _, _, _, _, _, h => by unfold mAs at h; cases h
end
end Lt
set_option maxHeartbeats 4000000
namespace Lt
open PySem PySem.Spec PyProof.Rows L2
def swapV : Expr → Bool
  | .ListComp _ _ _ _ => false
  | .SetComp _ _ _ _ => false
  | .DictComp _ _ _ _ _ => false
  | _ => true
theorem swap_plain {e : Expr} {t : Option Expr} {l : Nat} {env : PySem.Env} (h : swapV e = true) : swapsWith e t l env = pure false := by
  cases e <;> first
    | rfl
    | cases h
def ntup : Expr → Bool
  | .Tuple _ _ _ => false
  | _ => true
theorem stores_none {tg e : Expr} {env : PySem.Env} (h : ntup e = true) : swappedStores [tg] e env = pure none := by
  unfold swappedStores
  cases e <;> first
    | (cases h; done)
    | (cases tg <;> rfl)
def nseq : Expr → Bool
  | .Tuple _ _ _ => false
  | .List _ _ => false
  | _ => true
theorem stores_none2 {tg e : Expr} {env : PySem.Env} (h : nseq tg = true) : swappedStores [tg] e env = pure none := by
  unfold swappedStores
  cases tg <;> first
    | (cases h; done)
    | rfl
    | (cases e <;> rfl)
def lcSw (q : Qx) (x : Str) (p : Pos) (scope : Scope) (lpos : Pos) : Bool := (if q.sc.kind.isAnnotationScope then ScopeKind.function else q.sc.kind) == .function && q.sc.names.lookup x == some .local && p.line == lpos.line && !(scope.names.any fun (n, k) => n == x && (k == .local || k == .cell))
theorem lcSw_eq {k : Kx} {X : Cx} {W : WX} {q : Qx} (g : Good k X W q) {x : Str} {p lpos : Pos} {scope : Scope} {elt : Expr} {gens : List Comprehension} {l : Nat} : swapsWith (.ListComp elt gens scope lpos) (some (.Name x p)) l X.env = pure (lcSw q x p scope lpos) := by
  unfold swapsWith lcSw Env.blockKind Env.kindOf
  rw [g.sc]
  rfl
def mL (p : Px) (q : Qx) : LT → Expr → Bool
  | .p t, e => mG q t e
  | .sub o i, e => match dSub e with
    | some (a, b) => nsl b && mE p o q false a && mE p i q false b
    | none => false
  | .fld _ _, _ => false
  | .pair a b, e => match dTuple e with
    | some [x, y] => nst x && nst y && mL p q a x && mL p q b y
    | _ => false
theorem snd_L {k : Kx} {X : Cx} {W : WX} {q : Qx} (g : Good k X W q) : ∀ (t : LT) (e : Expr), mL k.px q t e = true → PG X e (gL k W t)
  | .p t, e, h => gl_p (snd_G g t e h)
  | .sub o i, e, h => by
    unfold mL at h
    split at h
    case h_2 => cases h
    rename_i a b hd
    obtain ⟨p, rfl⟩ := dSub_eq hd
    rw [Bool.and_eq_true, Bool.and_eq_true] at h
    refine gl_sub g.S (snd_E o g false a h.1.2) (snd_E i g false b h.2) (fun v => ?_)
    have hb := h.1.1
    cases b <;> first
      | rfl
      | cases hb
  | .fld _ _, e, h => by unfold mL at h; cases h
  | .pair a b, e, h => by
    unfold mL at h
    split at h
    case h_2 => cases h
    rename_i x y hd
    obtain ⟨j, p, rfl⟩ := dTuple_eq hd
    simp only [Bool.and_eq_true] at h
    obtain ⟨⟨⟨h1, h2⟩, h3⟩, h4⟩ := h
    refine gl_pair g.S (snd_L g a x h3) (snd_L g b y h4) ?_ ?_ ?_ ?_
    · rw [assign_nst h1]; rfl
    · rw [assign_nst h2]; rfl
    · rw [assign_nst h1, assign_nst h2]; rfl
    · rw [assign_nst h1, assign_nst h2]; rfl
def isLC : Expr → Bool
  | .ListComp _ _ _ _ => true
  | _ => false
def nmL (q : Qx) (l : Nat) : Expr → Bool
  | .Name x p => q.sc.names.lookup x == some .local && p.line == l
  | _ => false
def someOut (q : Qx) : Expr → Bool
  | .Tuple ts _ _ => !(ts.all (nmL q ((ts.head?.map (·.pos.line)).getD 0)))
  | _ => false
theorem filterMap_lt {f : Expr → Option Str} : ∀ {ts : List Expr} {a : Expr}, a ∈ ts → f a = none → (ts.filterMap f).length < ts.length
  | [], _, h, _ => by cases h
  | t :: ts, a, h, e => by
    rcases List.mem_cons.mp h with rfl | h
    · rw [List.filterMap_cons_none e]
      exact Nat.lt_succ_of_le (List.length_filterMap_le f ts)
    · have i := filterMap_lt h e
      cases hf : f t with
      | none =>
        rw [List.filterMap_cons_none hf]
        exact Nat.lt_succ_of_lt i
      | some z =>
        rw [List.filterMap_cons_some hf]
        exact Nat.succ_lt_succ i
theorem someOut_none {k : Kx} {X : Cx} {W : WX} {q : Qx} (g : Good k X W q) {tg e : Expr} (h : someOut q tg = true) : swappedStores [tg] e X.env = pure none := by
  unfold someOut at h
  split at h
  case h_2 => cases h
  rename_i ts kk pp
  unfold swappedStores
  cases e <;> first
    | rfl
    | skip
  rename_i vs k2 p2
  rw [Bool.not_eq_true', ← Bool.not_eq_true, List.all_eq_true] at h
  have h : ∃ a ∈ ts, nmL q ((ts.head?.map (·.pos.line)).getD 0) a = false := by
    refine Classical.byContradiction fun c => h fun a ha => ?_
    cases hq : nmL q ((ts.head?.map (·.pos.line)).getD 0) a with
    | true => rfl
    | false => exact absurd ⟨a, ha, hq⟩ c
  obtain ⟨a, ha, hq⟩ := h
  dsimp only
  split
  · rfl
  split
  · rfl
  rw [if_pos]
  rw [Bool.or_eq_true]
  left
  rw [bne_iff_ne]
  refine Nat.ne_of_lt (filterMap_lt ha ?_)
  cases a <;> first
    | rfl
    | skip
  rename_i x p
  have hq : (q.sc.names.lookup x == some .local && p.line == (ts.head?.map (·.pos.line)).getD 0) = false := hq
  dsimp only
  rw [if_neg]
  unfold Env.kindOf
  rw [g.sc, hq]
  decide
def mSet (p : Px) (q : Qx) (t : LT) (e : IE) (tg ev : Expr) : Bool := match t with
  | .fld o f => match dAttr tg with
    | some (l, x, _) => decide (x = f) && p.fs.contains f && mE p o q false l && swapV ev && mE p e q false ev
    | none => false
  | .p (.v n) => match dName tg with
    | some x => q.at_ n x && q.loc x && mE p e q false ev && (swapV ev || isLC ev)
    | none => false
  | t => nst tg && ((ntup ev || nseq tg) || someOut q tg) && swapV ev && mL p q t tg && mE p e q false ev
def blkF (q : Qx) : Bool := (if q.sc.kind.isAnnotationScope then ScopeKind.function else q.sc.kind) == .function
def parC (q : Qx) (xs : List (Str × Pos)) (l0 : Nat) : Bool := xs.all fun p => q.sc.names.lookup p.1 == some .local && p.2.line == l0
def dNameP : Expr → Option (Str × Pos)
  | .Name x p => some (x, p)
  | _ => none
theorem dNameP_eq {e : Expr} {x : Str} {p : Pos} (h : dNameP e = some (x, p)) : e = .Name x p := by
  cases e <;> cases h; rfl
mutual
def mS (p : Px) : IS → Qx → Stmt → Bool
  | .set t e, q, s => match s with
    | .Assign [tg] ev _ => mSet p q t e tg ev
    | _ => false
  | .exp e, q, s => match s with
    | .Expr ev _ => swapV ev && mE p e q false ev
    | _ => false
  | .ret e, q, s => match s with
    | .Return (some ev) _ => mE p e q false ev
    | _ => false
  | .retN, q, s => match s with
    | .Return none _ => true
    | _ => false
  | .ifs c a b, q, s => match s with
    | .If ec sa sb _ => mE p c q true ec && mSs p a q sa && mSs p b q sb
    | _ => false
  | .for tg ik src body, q, s => match s with
    | .For tx iter bd [] _ => match mIter p q ik tx iter with
      | some args => nset iter && mAs p src q args && mG q tg tx && mSs p body q bd
      | none => false
    | _ => false
  | .while c body, q, s => match s with
    | .While ec bd [] _ => mE p c q true ec && mSs p body q bd
    | _ => false
  | .par2 i j a b, q, s => match s with
    | .Assign [.Tuple [tx, ty] _ _] (.Tuple [ea, eb] _ _) _ => match dNameP tx, dNameP ty with
      | some (x, px), some (y, py) => blkF q && q.at_ i x && q.at_ j y && decide (i ≠ j) && decide (x ≠ y) && parC q [(x, px), (y, py)] px.line && nst ea && nst eb && !(foldedForSure 8 ea && foldedForSure 8 eb) && !(constantsAlone 8 ea && constantsAlone 8 eb) && mE p a q false ea && mE p b q false eb
      | _, _ => false
    | _ => false
  | .par3 i j l a b c, q, s => match s with
    | .Assign [.Tuple [tx, ty, tz] _ _] (.Tuple [ea, eb, ec] _ _) _ => match dNameP tx, dNameP ty, dNameP tz with
      | some (x, px), some (y, py), some (z, pz) => blkF q && q.at_ i x && q.at_ j y && q.at_ l z && decide (i ≠ j) && decide (i ≠ l) && decide (j ≠ l) && decide (x ≠ y) && decide (x ≠ z) && decide (y ≠ z) && parC q [(x, px), (y, py), (z, pz)] px.line && nst ea && nst eb && nst ec && !([ea, eb, ec].all (foldedForSure 8)) && !([ea, eb, ec].all (constantsAlone 8)) && mE p a q false ea && mE p b q false eb && mE p c q false ec
      | _, _, _ => false
    | _ => false
  | .brk, _, s => match s with
    | .Break _ => true
    | _ => false
  | .cont, _, s => match s with
    | .Continue _ => true
    | _ => false
  | .pass, _, s => match s with
    | .Pass _ => true
    | .Expr (.Constant (.str _) _ _) _ => true
    | _ => false
  | _, _, _ => false
def mSs (p : Px) : IS → Qx → List Stmt → Bool
  | .done, _, [] => true
  | .seq a b, q, s :: r => mS p a q s && mSs p b q r
  | .never, _, _ => true
  | _, _, _ => false
end
theorem par2_sw {k : Kx} {X : Cx} {W : WX} {q : Qx} (g : Good k X W q) {x y : Str} {px py pt : Pos} {kt k2 : Nat} {pt2 : Pos} {a b : Expr} (h0 : blkF q = true) (hx : X.env.scope.names.lookup x = some .local) (hy : X.env.scope.names.lookup y = some .local) (hl : py.line = px.line) (hne : x ≠ y) (ha : nst a = true) (hb : nst b = true)
    (hf : (foldedForSure 8 a && foldedForSure 8 b) = false) (hc : (constantsAlone 8 a && constantsAlone 8 b) = false) : swappedStores [.Tuple [.Name x px, .Name y py] kt pt] (.Tuple [a, b] k2 pt2) X.env = pure (some [x, y]) := by
  have hk : X.env.blockKind = .function := by
    unfold Env.blockKind
    rw [g.sc]
    exact eq_of_beq h0
  have hs : ([a, b].any fun | .Starred .. => true | _ => false) = false := by
    cases a <;> first
      | (cases ha; done)
      | (cases b <;> first
          | (cases hb; done)
          | rfl)
  have hkx : X.env.kindOf x = some .local := hx
  have hky : X.env.kindOf y = some .local := hy
  have hn : ([x, y].eraseDups).length = 2 := by
    have : (y == x) = false := by simpa using fun e => hne e.symm
    simp [List.eraseDups_cons, this]
  unfold swappedStores
  refine (if_neg ?_).trans ((if_neg ?_).trans ((if_neg ?_).trans ((if_neg ?_).trans ((if_neg ?_).trans ?_))))
  · simp [hk]
  · rw [Bool.not_eq_true]
    exact hs
  · simp [hkx, hky, hl, Expr.pos, hn]
  · rw [Bool.not_eq_true]
    simpa using hf
  · rw [Bool.not_eq_true]
    simpa using hc
  · simp [hkx, hky, hl, Expr.pos]
theorem par3_sw {k : Kx} {X : Cx} {W : WX} {q : Qx} (g : Good k X W q) {x y z : Str} {px py pz pt : Pos} {kt k2 : Nat} {pt2 : Pos} {a b c : Expr} (h0 : blkF q = true) (hx : X.env.scope.names.lookup x = some .local) (hy : X.env.scope.names.lookup y = some .local) (hz : X.env.scope.names.lookup z = some .local) (hl : py.line = px.line) (hl2 : pz.line = px.line) (hne : x ≠ y) (hne2 : x ≠ z) (hne3 : y ≠ z) (ha : nst a = true) (hb : nst b = true) (hcc : nst c = true)
    (hf : ([a, b, c].all (foldedForSure 8)) = false) (hc : ([a, b, c].all (constantsAlone 8)) = false) : swappedStores [.Tuple [.Name x px, .Name y py, .Name z pz] kt pt] (.Tuple [a, b, c] k2 pt2) X.env = pure (some [x, y, z]) := by
  have hk : X.env.blockKind = .function := by
    unfold Env.blockKind
    rw [g.sc]
    exact eq_of_beq h0
  have hs : ∀ (f : Expr → Bool), (∀ e, nst e = true → f e = false) → [a, b, c].any f = false := fun f h => by
    simp [h a ha, h b hb, h c hcc]
  have hkx : X.env.kindOf x = some .local := hx
  have hky : X.env.kindOf y = some .local := hy
  have hkz : X.env.kindOf z = some .local := hz
  have hn : ([x, y, z].eraseDups).length = 3 := by
    have h1 : (y == x) = false := by simpa using fun e => hne e.symm
    have h2 : (z == x) = false := by simpa using fun e => hne2 e.symm
    have h3 : (z == y) = false := by simpa using fun e => hne3 e.symm
    simp [List.eraseDups_cons, h1, h2, h3]
  unfold swappedStores
  refine (if_neg ?_).trans ((if_neg ?_).trans ((if_neg ?_).trans ((if_neg ?_).trans ((if_neg ?_).trans ?_))))
  · simp [hk]
  · rw [Bool.not_eq_true]
    exact hs _ fun e he => by
      cases e <;> first
        | rfl
        | cases he
  · simp [hkx, hky, hkz, hl, hl2, Expr.pos, hn]
  · rw [Bool.not_eq_true]
    exact hf
  · rw [Bool.not_eq_true]
    exact hc
  · simp [hkx, hky, hkz, hl, hl2, Expr.pos]
section
variable {k : Kx} {X : Cx} {W : WX} {q : Qx}
theorem snd_set (g : Good k X W q) {t : LT} {e : IE} {tg ev : Expr} {pos : Pos} (h : mSet k.px q t e tg ev = true) : PS X (.Assign [tg] ev pos) (tS k W (.set t e)) := by
  have gen : (nst tg && ((ntup ev || nseq tg) || someOut q tg) && swapV ev && mL k.px q t tg && mE k.px e q false ev) = true → PS X (.Assign [tg] ev pos) (tS k W (.set t e)) := by
    intro h
    simp only [Bool.and_eq_true, Bool.or_eq_true] at h
    obtain ⟨⟨⟨⟨h1, h2⟩, h3⟩, h4⟩, h5⟩ := h
    refine ps_set' (snd_E e g false ev h5) (snd_L g t tg h4) (swap_plain h3) (h2.elim (fun h => h.elim stores_none stores_none2) (someOut_none g)) ?_
    rw [assign_nst h1]
    rfl
  unfold mSet at h
  split at h
  · split at h
    case h_2 => cases h
    rename_i l x ap hd
    obtain rfl := dAttr_eq hd
    simp only [Bool.and_eq_true, decide_eq_true_eq] at h
    obtain ⟨⟨⟨⟨rfl, h1⟩, h2⟩, h3⟩, h4⟩ := h
    exact ps_fld' g.S (fun c C hc => g.S.na c C _ hc h1) (snd_E e g false ev h4) (snd_E _ g false l h2) (swap_plain h3)
  · rename_i n
    split at h
    case h_2 => cases h
    rename_i x hd
    obtain ⟨p, rfl⟩ := dName_eq hd
    simp only [Bool.and_eq_true, Bool.or_eq_true] at h
    obtain ⟨⟨⟨h1, h2⟩, h3⟩, h4⟩ := h
    rcases h4 with h4 | h4
    · exact ps_setN g.S (g.at_ h1) (g.loc h2).1 (g.loc h2).2 (snd_E e g false ev h3) (swap_plain h4)
    · cases ev <;> first
        | (cases h4; done)
        | skip
      rename_i elt gens scope lpos
      cases hsw : lcSw q x p scope lpos with
      | false => exact ps_setN g.S (g.at_ h1) (g.loc h2).1 (g.loc h2).2 (snd_E e g false _ h3) (by rw [lcSw_eq g, hsw])
      | true =>
        have hloc : X.env.scope.names.lookup x = some .local := by
          rw [g.sc]
          unfold lcSw at hsw
          simp only [Bool.and_eq_true] at hsw
          exact eq_of_beq hsw.1.1.2
        cases e <;> first
          | (unfold mE at h3; simp [dName, dCon, dBin, dUn, dCmp, dBool, dIf, dTuple, dList, dCall, dSub, dAttr, testG] at h3; done)
          | skip
        case lc2 m own own2 ik src tgt ik2 src2 tg2 a =>
          unfold mE at h3
          rw [Bool.and_eq_true, Bool.not_eq_true'] at h3
          obtain ⟨_, h3⟩ := h3
          split at h3
          case h_2 => cases h3
          rename_i elt' tx iter ty iter1 scope' hd2
          obtain ⟨pp, he⟩ := dLC2_eq hd2
          injection he with e1 e2 e3 e4
          subst e1; subst e2; subst e3; subst e4
          split at h3
          case h_2 => cases h3
          rename_i args args2 hI hI2
          simp only [Bool.and_eq_true] at h3
          obtain ⟨⟨⟨⟨⟨⟨⟨⟨⟨⟨k1, k1'⟩, k2⟩, k3⟩, k3'⟩, k3''⟩, k4⟩, k5⟩, k6⟩, k7⟩, k8⟩ := h3
          have iA := snd_As src g args k4
          refine ps_setLc2' g.S (g.at_ h1) hloc (by rw [lcSw_eq g, hsw]) (snd_iter g hI iA.1 iA.2) (by rw [g.sc, g.N]; exact blk_ok k2) (fun i hi => List.contains_iff_mem.mp (List.all_eq_true.mp k3'' i hi)) (fun i hi => List.contains_iff_mem.mp (List.all_eq_true.mp k3 i hi)) (fun i hi => List.contains_iff_mem.mp (List.all_eq_true.mp k3' i hi))
            (fun hh s H C cl fp => snd_G (g.blk hh s H scope C cl fp) tgt tx k5) (fun hh s H C cl fp => ?_) (fun hh s H C cl fp => snd_G (g.blk hh s H scope C cl fp) tg2 ty k7) (fun hh s H C cl fp => snd_E a (g.blk hh s H scope C cl fp) false elt k8) (set_ok k1) (fun env => set_ok k1')
          have iB := snd_As src2 (g.blk hh s H scope C cl fp) args2 k6
          exact snd_iter (g.blk hh s H scope C cl fp) hI2 iB.1 iB.2
        rename_i m own ik src tgt c a
        unfold mE at h3
        rw [Bool.and_eq_true, Bool.not_eq_true'] at h3
        obtain ⟨_, h3⟩ := h3
        split at h3
        case h_2 => cases h3
        rename_i elt' tx iter ifs scope' hd2
        obtain ⟨pp, he⟩ := dLC_eq hd2
        injection he with e1 e2 e3 e4
        subst e1; subst e2; subst e3; subst e4
        split at h3
        case h_2 => cases h3
        rename_i args hI
        simp only [Bool.and_eq_true] at h3
        obtain ⟨⟨⟨⟨⟨⟨k1, k2⟩, k3⟩, k4⟩, k5⟩, k6⟩, k7⟩ := h3
        have iA := snd_As src g args k4
        refine ps_setLc' g.S (g.at_ h1) hloc (by rw [lcSw_eq g, hsw]) (snd_iter g hI iA.1 iA.2) (by rw [g.sc, g.N]; exact blk_ok k2) (fun i hi => List.contains_iff_mem.mp (List.all_eq_true.mp k3 i hi)) (fun hh s H C cl fp => snd_G (g.blk hh s H scope C cl fp) tgt tx k5) (fun hh s H C cl fp => ?_)
          (fun hh s H C cl fp => snd_E a (g.blk hh s H scope C cl fp) false elt k7) (set_ok k1)
        rcases ifs with _ | ⟨z, _ | ⟨y, r⟩⟩
        · obtain rfl := isYes_ok k6
          exact st_yes hh
        · exact pts_one (snd_E c (g.blk hh s H scope C cl fp) true z k6)
        · cases k6
  · exact gen h
mutual
theorem snd_S (g : Good k X W q) (hp : PassesOwn (model X.prog X.w) X.A X.env X.xe) : ∀ (i : IS) (s : Stmt), mS k.px i q s = true → PS X s (tS k W i)
  | .set t e, s, h => by
    unfold mS at h
    split at h
    case h_2 => cases h
    exact snd_set g h
  | .exp e, s, h => by
    unfold mS at h
    split at h
    case h_2 => cases h
    rw [Bool.and_eq_true] at h
    exact ps_exp' (snd_E e g false _ h.2) (swap_plain h.1)
  | .ret e, s, h => by
    unfold mS at h
    split at h
    case h_2 => cases h
    exact ps_ret' (snd_E e g false _ h)
  | .retN, s, h => by
    unfold mS at h
    split at h
    case h_2 => cases h
    exact ps_retN'
  | .ifs c a b, s, h => by
    unfold mS at h
    split at h
    case h_2 => cases h
    rw [Bool.and_eq_true, Bool.and_eq_true] at h
    exact ps_if' (snd_E c g true _ h.1.1) (snd_Ss g hp a _ h.1.2) (snd_Ss g hp b _ h.2)
  | .for tg ik src body, s, h => by
    unfold mS at h
    split at h
    case h_2 => cases h
    split at h
    case h_2 => cases h
    rename_i args hI
    simp only [Bool.and_eq_true] at h
    obtain ⟨⟨⟨h1, h2⟩, h3⟩, h4⟩ := h
    have iA := snd_As src g args h2
    exact ps_for' g.S hp (snd_iter g hI iA.1 iA.2) (snd_G g tg _ h3) (snd_Ss g hp body _ h4) (set_ok h1)
  | .while c body, s, h => by
    unfold mS at h
    split at h
    case h_2 => cases h
    rw [Bool.and_eq_true] at h
    exact ps_while' g.S hp (snd_E c g true _ h.1) (snd_Ss g hp body _ h.2)
  | .par2 i j a b, s, h => by
    unfold mS at h
    split at h
    case h_2 => cases h
    split at h
    case h_2 => cases h
    rename_i x px y py hx hy
    obtain rfl := dNameP_eq hx
    obtain rfl := dNameP_eq hy
    simp only [Bool.and_eq_true, decide_eq_true_eq, Bool.not_eq_true'] at h
    obtain ⟨⟨⟨⟨⟨⟨⟨⟨⟨⟨⟨h0, h1⟩, h2⟩, h3⟩, h4⟩, h5⟩, h6⟩, h7⟩, h8⟩, h9⟩, ha⟩, hb⟩ := h
    unfold parC at h5
    simp only [List.all_cons, List.all_nil, Bool.and_eq_true, Bool.and_true] at h5
    have lx : X.env.scope.names.lookup x = some .local := by rw [g.sc]; exact eq_of_beq h5.1.1
    have ly : X.env.scope.names.lookup y = some .local := by rw [g.sc]; exact eq_of_beq h5.2.1
    exact ps_par2' g.S (g.at_ h1) (g.at_ h2) h3 lx ly (s_cons (snd_E a g false _ ha) (s_cons (snd_E b g false _ hb) s_nil (star_nst h7)) (star_nst h6)) (par2_sw g h0 lx ly (eq_of_beq h5.2.2) h4 h6 h7 h8 h9) rfl
  | .brk, s, h => by
    unfold mS at h
    split at h
    case h_2 => cases h
    exact ps_brk'
  | .cont, s, h => by
    unfold mS at h
    split at h
    case h_2 => cases h
    exact ps_cont'
  | .pass, s, h => by
    unfold mS at h
    split at h
    · exact ps_pass'
    · exact ps_doc'
    · cases h
  | .done, s, h => by unfold mS at h; cases h
  | .seq _ _, s, h => by unfold mS at h; cases h
  | .setLc _ _, s, h => by unfold mS at h; cases h
  | .par3 i j l a b c, s, h => by
    unfold mS at h
    split at h
    case h_2 => cases h
    split at h
    case h_2 => cases h
    rename_i x px y py z pz hx hy hz
    obtain rfl := dNameP_eq hx
    obtain rfl := dNameP_eq hy
    obtain rfl := dNameP_eq hz
    simp only [Bool.and_eq_true, decide_eq_true_eq, Bool.not_eq_true'] at h
    obtain ⟨⟨⟨⟨⟨⟨⟨⟨⟨⟨⟨⟨⟨⟨⟨⟨⟨⟨h0, h1⟩, h2⟩, h3⟩, n1⟩, n2⟩, n3⟩, m1⟩, m2⟩, m3⟩, h5⟩, s1⟩, s2⟩, s3⟩, h8⟩, h9⟩, ha⟩, hb⟩, hc⟩ := h
    unfold parC at h5
    simp only [List.all_cons, List.all_nil, Bool.and_eq_true, Bool.and_true] at h5
    have lx : X.env.scope.names.lookup x = some .local := by rw [g.sc]; exact eq_of_beq h5.1.1
    have ly : X.env.scope.names.lookup y = some .local := by rw [g.sc]; exact eq_of_beq h5.2.1.1
    have lz : X.env.scope.names.lookup z = some .local := by rw [g.sc]; exact eq_of_beq h5.2.2.1
    exact ps_par3' g.S (g.at_ h1) (g.at_ h2) (g.at_ h3) n1 n2 n3 lx ly lz (s_cons (snd_E a g false _ ha) (s_cons (snd_E b g false _ hb) (s_cons (snd_E c g false _ hc) s_nil (star_nst s3)) (star_nst s2)) (star_nst s1)) (par3_sw g h0 lx ly lz (eq_of_beq h5.2.1.2) (eq_of_beq h5.2.2.2) m1 m2 m3 s1 s2 s3 h8 h9) rfl
  | .never, s, h => by unfold mS at h; cases h
theorem snd_Ss (g : Good k X W q) (hp : PassesOwn (model X.prog X.w) X.A X.env X.xe) : ∀ (i : IS) (ss : List Stmt), mSs k.px i q ss = true → PSs X ss (tS k W i)
  | .done, [], h => ps_done
  | .done, _ :: _, h => by unfold mSs at h; cases h
  | .seq a b, [], h => by unfold mSs at h; cases h
  | .seq a b, s :: r, h => by
    unfold mSs at h
    rw [Bool.and_eq_true] at h
    exact ps_seq (snd_S g hp a s h.1) (snd_Ss g hp b r h.2)
  | .never, ss, h => ps_never'
  | .set _ _, ss, h => by unfold mSs at h; cases h
  | .exp _, ss, h => by unfold mSs at h; cases h
  | .ret _, ss, h => by unfold mSs at h; cases h
  | .retN, ss, h => by unfold mSs at h; cases h
  | .ifs _ _ _, ss, h => by unfold mSs at h; cases h
  | .for _ _ _ _, ss, h => by unfold mSs at h; cases h
  | .while _ _, ss, h => by unfold mSs at h; cases h
  | .par2 _ _ _ _, ss, h => by unfold mSs at h; cases h
  | .par3 _ _ _ _ _ _, ss, h => by unfold mSs at h; cases h
  | .brk, ss, h => by unfold mSs at h; cases h
  | .cont, ss, h => by unfold mSs at h; cases h
  | .pass, ss, h => by unfold mSs at h; cases h
  | .setLc _ _, ss, h => by unfold mSs at h; cases h
end
end
end Lt
set_option maxHeartbeats 4000000
namespace Lt
open PySem PySem.Spec PyProof.Rows L2
section
variable {G : Gx} {w w' : Wd} {n : Nat}
mutual
theorem rep_blw {ρ ρ2 : List Addr} {H : Hp} (hs : ∀ b ∈ ρ2, b ∈ ρ) (hi : ∀ l, l < n → ∀ a, ρ[l]? = some a → ρ2[l]? = some a) : ∀ (x : Val) {v : V}, Rep G ρ H x v → x.blw n = true → Rep G ρ2 H x v
  | .non, _, h, _ => h
  | .bl _, _, h, _ => h
  | .int _, _, h, _ => h
  | .str _, _, h, _ => h
  | .tup xs, v, h, b => by
    obtain ⟨a, vs, rfl, h1, hz, h2⟩ := h
    exact ⟨a, vs, rfl, h1, hz, reps_blw hs hi xs h2 b⟩
  | .lst xs, v, h, b => by
    obtain ⟨a, vs, rfl, h1, hn, hz, h2⟩ := h
    exact ⟨a, vs, rfl, h1, ⟨fun hm => hn.1 (hs _ hm), hn.2⟩, hz, reps_blw hs hi xs h2 b⟩
  | .flst xs, v, h, b => by
    obtain ⟨a, vs, rfl, h1, hz, h2⟩ := h
    refine ⟨a, vs, rfl, ?_, hz, reps_blw hs hi xs h2 b⟩
    rcases h1 with ⟨h1, hn⟩ | h1
    · exact .inl ⟨h1, fun hm => hn.1 (hs _ hm), hn.2⟩
    · exact .inr h1
  | .loc l, v, h, b => by
    obtain ⟨a, h1, rfl⟩ := h
    have hb : l < n := of_decide_eq_true b
    exact ⟨a, hi l hb a h1, rfl⟩
  | .fn _, _, h, _ => h
theorem reps_blw {ρ ρ2 : List Addr} {H : Hp} (hs : ∀ b ∈ ρ2, b ∈ ρ) (hi : ∀ l, l < n → ∀ a, ρ[l]? = some a → ρ2[l]? = some a) : ∀ (x : List Val) {v : List V}, RepAll G ρ H x v → Val.blwAll n x = true → RepAll G ρ2 H x v
  | [], _, h, _ => h
  | x :: xs, _, h, b => by
    obtain ⟨v, r, e1, hv, hr⟩ := h
    have b' : (Val.blw n x && Val.blwAll n xs) = true := b
    rw [Bool.and_eq_true] at b'
    exact ⟨v, r, e1, rep_blw hs hi x hv b'.1, reps_blw hs hi xs hr b'.2⟩
end
theorem fs_blw {ρ ρ2 : List Addr} {H : Hp} (hs : ∀ b ∈ ρ2, b ∈ ρ) (hi : ∀ l, l < n → ∀ a, ρ[l]? = some a → ρ2[l]? = some a) : ∀ {fs : List (Str × Val)} {fv : List (Str × V)}, FsRep G ρ H fs fv → (fs.all fun p => p.2.blw n) = true → FsRep G ρ2 H fs fv
  | [], _, h, _ => h
  | (f, x) :: fs, _, h, b => by
    obtain ⟨v, r, e1, hv, hr⟩ := h
    rw [List.all_cons, Bool.and_eq_true] at b
    exact ⟨v, r, e1, rep_blw hs hi x hv b.1, fs_blw hs hi hr b.2⟩
theorem ob_blw {ρ ρ2 : List Addr} {H : Hp} (hs : ∀ b ∈ ρ2, b ∈ ρ) (hi : ∀ l, l < n → ∀ a, ρ[l]? = some a → ρ2[l]? = some a) {o : Ob} {a : Addr} (h : ObRep G ρ H o a) (b : o.blw n = true) : ObRep G ρ2 H o a := by
  cases o with
  | lst xs =>
    obtain ⟨vs, h1, h2, h3⟩ := h
    exact ⟨vs, h1, h2, reps_blw hs hi xs h3 b⟩
  | inst c fs =>
    obtain ⟨C, dx, fv, h0, h1, h2⟩ := h
    exact ⟨C, dx, fv, h0, h1, fs_blw hs hi h2 b⟩
theorem ext_hs (e : Ext w w') : ∀ b ∈ w.ρ, b ∈ w'.ρ := fun b hb => e.sub hb
theorem ext_hi (ok : w.Ok G) (e : Ext w w') : ∀ l, l < w.S.length → ∀ a, w'.ρ[l]? = some a → w.ρ[l]? = some a := fun l hl a h => by
  obtain ⟨more, e1, _⟩ := e.pre
  rw [e1, List.getElem?_append_left (by rw [ok.len]; exact hl)] at h
  exact h
theorem ext_take (ok : w.Ok G) (e : Ext w w') : w'.ρ.take w.S.length = w.ρ := by
  obtain ⟨more, e1, _⟩ := e.pre
  rw [e1, ← ok.len, List.take_left]
/-- all that came into being is forgotten -/
theorem cut_ok (ok : w.Ok G) (e : Ext w w') (ok' : w'.Ok G) (b : (w'.S.take w.S.length).all (Ob.blw w.S.length) = true) : Ext w ⟨w.ρ, w'.H, w'.S.take w.S.length⟩ ∧ Wd.Ok G ⟨w.ρ, w'.H, w'.S.take w.S.length⟩ := by
  have ht := ext_take ok e
  have hle : w.S.length ≤ w'.S.length := by
    obtain ⟨more, e1, _⟩ := e.pre
    rw [← ok.len, ← ok'.len, e1, List.length_append]
    omega
  refine ⟨⟨⟨[], by simp, by simp⟩, e.keep⟩, by show w.ρ.length = (w'.S.take w.S.length).length; rw [List.length_take, ok.len]; omega, ok.nd, fun l a o h1 h2 => ?_, ok'.hd, ok.hr⟩
  have h1 : w.ρ[l]? = some a := h1
  have h2 : (w'.S.take w.S.length)[l]? = some o := h2
  have hl : l < w.S.length := by
    have := (List.getElem?_eq_some_iff.mp h2).1
    rw [List.length_take] at this
    omega
  have hb := List.all_eq_true.mp b o (List.mem_of_getElem? h2)
  rw [List.getElem?_take_of_lt hl] at h2
  exact ob_blw (ext_hs e) (ext_hi ok e) (ok'.ob l a o (e.at h1) h2) hb
theorem new_of (ok : w.Ok G) (e : Ext w w') {l : Nat} {a : Addr} (hl : w.S.length ≤ l) (h : w'.ρ[l]? = some a) : w.H a = none ∧ a ∉ w.ρ := by
  obtain ⟨more, e1, e2⟩ := e.pre
  rw [e1, List.getElem?_append_right (by rw [ok.len]; exact hl)] at h
  exact e2 a (List.mem_of_getElem? h)
theorem frz_rep (ok : w.Ok G) (e : Ext w w') (ok' : w'.Ok G) {v : Val} {x : V} (r : Rep G w'.ρ w'.H v x) (b : (frzV w.S.length w'.S v).blw w.S.length = true) : Rep G w.ρ w'.H (frzV w.S.length w'.S v) x := by
  have ht := ext_take ok e
  have key : ∀ u, Rep G w'.ρ w'.H u x → u.blw w.S.length = true → Rep G w.ρ w'.H u x := fun u h hb => by
    exact rep_blw (n := w.S.length) (ext_hs e) (ext_hi ok e) u h hb
  cases v with
  | loc l =>
    have ev : frzV w.S.length w'.S (.loc l) = if w.S.length ≤ l then (match w'.S[l]? with
      | some (.lst xs) => .lst xs
      | _ => .loc l) else .loc l := rfl
    rw [ev] at b ⊢
    by_cases hl : w.S.length ≤ l
    · rw [if_pos hl] at b ⊢
      cases hs : w'.S[l]? with
      | none => rw [hs] at b; exact key _ r b
      | some o =>
        rw [hs] at b
        cases o with
        | inst c fs => exact key _ r b
        | lst xs =>
          obtain ⟨a, ha, rfl⟩ := r
          obtain ⟨vs, h1, hz, h2⟩ := ok'.ob l a _ ha hs
          obtain ⟨n1, n2⟩ := new_of ok e hl ha
          have b' : Val.blwAll w.S.length xs = true := b
          have := reps_blw (n := w.S.length) (ext_hs e) (ext_hi ok e) xs h2 b'
          exact ⟨a, vs, rfl, h1, ⟨n2, ok.nhid n1⟩, hz, this⟩
    · rw [if_neg hl] at b ⊢
      exact key _ r b
  | _ => exact key _ r b
end
section
variable {k : Kx} {w : Wd} {W : WX} {E : XK} {Q : VK} {fi : FI} {env : Env} {σ : L2.St}
theorem leave_ok (ok : w.Ok k.G) {m : Mode} : ∀ {r : SR}, (leave m w.S.length r.toR).post (PV k.G w Q) (XW k.G w (fun cls d _ H' => E cls d H') []) → (∀ w' : Wd, Ext w w' → True) → DK k w (fun cls d _ H => E cls d H) { nx := fun _ H' => Q .non H', rt := Q } r := by
  have main : ∀ {v : Val} {S : Store}, (leave m w.S.length (.ok v S)).post (PV k.G w Q) (XW k.G w (fun cls d _ H' => E cls d H') []) → ∀ w' x, Ext w w' → w'.S = S → w'.Ok k.G → Rep k.G w'.ρ w'.H v x → Q x w'.H := by
    intro v S h w' x e eS ok' r
    subst eS
    cases m with
    | keep => exact h w' x e rfl ok' r
    | pure =>
      have h' : (if w'.S.length ≤ w.S.length then R.ok v w'.S else if (frzV w.S.length w'.S v).blw w.S.length && (w'.S.take w.S.length).all (Ob.blw w.S.length) then .ok (frzV w.S.length w'.S v) (w'.S.take w.S.length) else .stuck).post (PV k.G w Q) (XW k.G w (fun cls d _ H' => E cls d H') []) := h
      by_cases c : w'.S.length ≤ w.S.length
      · rw [if_pos c] at h'
        exact h' w' x e rfl ok' r
      · rw [if_neg c] at h'
        split at h'
        · rename_i hb
          rw [Bool.and_eq_true] at hb
          obtain ⟨e2, o2⟩ := cut_ok ok e ok' hb.2
          exact h' ⟨w.ρ, w'.H, w'.S.take w.S.length⟩ x e2 rfl o2 (frz_rep ok e ok' r hb.1)
        · exact False.elim h'
    | fresh =>
      cases v <;> first
        | exact False.elim h
        | skip
      rename_i l
      have h' : (if w.S.length ≤ l then (match w'.S[l]? with
        | some o => if o.blw w.S.length && (w'.S.take w.S.length).all (Ob.blw w.S.length) then R.ok (Val.loc w.S.length) (w'.S.take w.S.length ++ [o]) else .stuck
        | none => .stuck) else .stuck).post (PV k.G w Q) (XW k.G w (fun cls d _ H' => E cls d H') []) := h
      by_cases hl : w.S.length ≤ l
      · rw [if_pos hl] at h'
        cases hs : w'.S[l]? with
        | none => rw [hs] at h'; exact False.elim h'
        | some o =>
          rw [hs] at h'
          have h' : (if o.blw w.S.length && (w'.S.take w.S.length).all (Ob.blw w.S.length) then R.ok (Val.loc w.S.length) (w'.S.take w.S.length ++ [o]) else .stuck).post (PV k.G w Q) (XW k.G w (fun cls d _ H' => E cls d H') []) := h'
          split at h'
          · rename_i hb
            rw [Bool.and_eq_true] at hb
            obtain ⟨a, ha, rfl⟩ := r
            obtain ⟨n1, n2⟩ := new_of ok e hl ha
            obtain ⟨e2, o2⟩ := cut_ok ok e ok' hb.2
            have hlen : (w'.S.take w.S.length).length = w.ρ.length := o2.len.symm
            have hs2 : ∀ b ∈ w.ρ ++ [a], b ∈ w'.ρ := fun b hb => (List.mem_append.mp hb).elim (ext_hs e b) fun z => by rw [List.mem_singleton.mp z]; exact List.mem_of_getElem? ha
            have hi2 : ∀ l, l < w.S.length → ∀ b, w'.ρ[l]? = some b → (w.ρ ++ [a])[l]? = some b := fun l hl b hb => by
              rw [List.getElem?_append_left (by rw [ok.len]; exact hl)]
              exact ext_hi ok e l hl b hb
            have e3 : Ext w ⟨w.ρ ++ [a], w'.H, w'.S.take w.S.length ++ [o]⟩ := ⟨⟨[a], rfl, fun b hb => by rw [List.mem_singleton.mp hb]; exact ⟨n1, n2⟩⟩, e.keep⟩
            refine h' ⟨w.ρ ++ [a], w'.H, w'.S.take w.S.length ++ [o]⟩ (.ref a) e3 rfl ⟨?_, ?_, fun i b ob q1 q2 => ?_, ok'.hd, fun b hb hm => (List.mem_append.mp hm).elim (ok.hr b hb) fun z => ok.nhid n1 (List.mem_singleton.mp z ▸ hb)⟩ ⟨a, ?_, rfl⟩
            · show (w.ρ ++ [a]).length = (w'.S.take w.S.length ++ [o]).length
              rw [List.length_append, List.length_append, hlen]
              rfl
            · show (w.ρ ++ [a]).Nodup
              rw [List.nodup_append]
              refine ⟨ok.nd, by simp, fun x hx y hy => ?_⟩
              rw [List.mem_singleton.mp hy]
              exact fun z => n2 (z ▸ hx)
            · have q1 : (w.ρ ++ [a])[i]? = some b := q1
              have q2 : (w'.S.take w.S.length ++ [o])[i]? = some ob := q2
              by_cases hi : i < w.ρ.length
              · rw [List.getElem?_append_left hi] at q1
                rw [List.getElem?_append_left (by rw [hlen]; exact hi)] at q2
                have hbb := List.all_eq_true.mp hb.2 ob (List.mem_of_getElem? q2)
                rw [List.getElem?_take_of_lt (by rw [← ok.len]; exact hi)] at q2
                exact ob_blw hs2 hi2 (ok'.ob i b ob (e.at q1) q2) hbb
              · have hi2' : i = w.ρ.length := by
                  have := (List.getElem?_eq_some_iff.mp q1).1
                  simp at this
                  omega
                rw [hi2', List.getElem?_append_right (Nat.le_refl _), Nat.sub_self] at q1
                rw [hi2', ← hlen, List.getElem?_append_right (Nat.le_refl _), Nat.sub_self] at q2
                have ea : a = b := by simpa using q1
                have eb : o = ob := by simpa using q2
                subst ea; subst eb
                exact ob_blw hs2 hi2 (ok'.ob l a o ha hs) hb.1
            · show (w.ρ ++ [a])[w.S.length]? = some a
              rw [← ok.len, List.getElem?_append_right (Nat.le_refl _), Nat.sub_self]
              rfl
          · exact False.elim h'
      · rw [if_neg hl] at h'
        exact False.elim h'
  intro r h _
  cases r with
  | next env S => exact fun w' σ' e eS ok' er => main (v := .non) h w' .non e eS ok' rfl
  | ret v S => exact fun w' x e eS ok' r => main h w' x e eS ok' r
  | brk env S =>
    cases m <;> exact False.elim h
  | cont env S =>
    cases m <;> exact False.elim h
  | stuck =>
    cases m <;> exact False.elim h
  | exc x env S =>
    intro w' σ' cls d e eS ok' er ex
    subst eS
    cases m with
    | keep => exact h w' cls d e rfl ok' ex
    | fresh => exact False.elim h
    | pure =>
      have h' : (if w'.S.length ≤ w.S.length then R.exc x w'.S else if (x.fs.all fun p => p.2.blw w.S.length) && (w'.S.take w.S.length).all (Ob.blw w.S.length) then .exc x (w'.S.take w.S.length) else .stuck : R Val).post (PV k.G w Q) (XW k.G w (fun cls d _ H' => E cls d H') []) := h
      by_cases c : w'.S.length ≤ w.S.length
      · rw [if_pos c] at h'
        exact h' w' cls d e rfl ok' ex
      · rw [if_neg c] at h'
        split at h'
        · rename_i hb
          rw [Bool.and_eq_true] at hb
          obtain ⟨e2, o2⟩ := cut_ok ok e ok' hb.2
          refine h' ⟨w.ρ, w'.H, w'.S.take w.S.length⟩ cls d e2 rfl o2 ?_
          obtain ⟨C, h1, h2, h3⟩ := ex
          refine ⟨C, h1, h2, h3.imp id ?_⟩
          rintro ⟨dx, fv, h4, h5, h6⟩
          exact ⟨dx, fv, h4, h5, fs_blw (n := w.S.length) (ext_hs e) (ext_hi ok e) h6 hb.1⟩
        · exact False.elim h'
end
end Lt
set_option maxHeartbeats 4000000
namespace Lt
open PySem PySem.Spec PyProof.Rows L2
/-- the program's tables as they stand behind the top -/
structure Tab (p : Px) (P : Program) (w : World) (K : PySem.W.Frag) (mg : Str → Option Value) (base : Heap) (G : Gx) : Prop where
  hK : K = G.K
  bf : ∀ x, p.bf.contains x = true → mg x = none
  gi : ∀ x i, p.gi.lookup x = some i → ∃ t, mg x = some (.int i t)
  df : ∀ (j : Nat) (fi : FI), p.T[j]? = some fi → ∃ f fd st, G.fa j = some f ∧ PySem.W.keepIn K (.ref f) = true ∧ Binds K fd fi.ps [] ∧ Fun K fi.name fi.qual st f fd ∧ FnScope fi.N fi.ps (defScope st) ∧ mSs p fi.body ⟨defScope st, fi.N, fun _ => true, true⟩ (defBody st) = true ∧
    (fi.cls = none → mg fi.name = some (.ref f)) ∧ (∀ c, fi.cls = some c → ∃ C, G.cl c = some C ∧ Meth K C fi.name f ∧ (fi.name = ("__init__" : Str) → Mk K C f))
  fa : ∀ j a, G.fa j = some a → ∃ fi, p.T[j]? = some fi
  cl : ∀ c C, G.cl c = some C → Cls K C ∧ mg c = some (.ref C)
  na : ∀ c C f, G.cl c = some C → p.fs.contains f = true → NoAttr K C f
  tb : ∀ x t, p.tb.lookup x = some t → ∃ d es m, mg x = some (.ref d) ∧ KDict K w d es m ∧ ∀ z, (t.lookup z = none → PySem.W.nsIn K d z = some none) ∧ ∀ j, t.lookup z = some j → ∃ f, G.fa j = some f ∧ PySem.W.nsIn K d z = some (some (.ref f))
def kOf (p : Px) (G : Gx) (F n : Nat) : Kx := ⟨p.T, p.gi, p.bf, p.tb, p.fs, G, F, n⟩
section
variable {p : Px} {P : Program} {w : World} {K : PySem.W.Frag} {mg : Str → Option Value} {base : Heap} {G : Gx} {F : Nat}
def FnAll (p : Px) (P : Program) (w : World) (K : PySem.W.Frag) (mg : Str → Option Value) (base : Heap) (G : Gx) (F n : Nat) : Prop := ∀ (j : Nat) (fi : FI), p.T[j]? = some fi → ∃ f fd, G.fa j = some f ∧ PySem.W.keepIn K (.ref f) = true ∧ Binds K fd fi.ps [] ∧
  (∀ h, FnOk P w K mg base (L2.CX P w) (3 * n) f fd fi.ps (spR ((kOf p G F n).hide h) j)) ∧ (fi.cls = none → mg fi.name = some (.ref f)) ∧ (∀ c, fi.cls = some c → ∃ C, G.cl c = some C ∧ Meth K C fi.name f ∧ (fi.name = ("__init__" : Str) → Mk K C f))
/-- a context in which the tables stand -/
theorem Tab.sx (t : Tab p P w K mg base G) {n : Nat} (fn : FnAll p P w K mg base G F n) {X : Cx} (e1 : X.prog = P) (e2 : X.w = w) (e3 : X.K = K) (e4 : X.mg = mg) (e5 : X.base = base) (hc : X.calm = true) (hN : X.N.Nodup) (hr : Room (3 * n + 2) X.A) (h : List Addr) : Sx ((kOf p G F n).hide h) X := by
  subst e1; subst e2; subst e3; subst e4; subst e5
  exact ⟨hc, hN, t.hK, hr, t.bf, t.gi, fn, t.fa, t.cl, t.na, t.tb⟩
theorem sp_len {k : Kx} {j : Nat} {fi : FI} (hT : k.T[j]? = some fi) {vs : List V} {H : Hp} {Q : VK} {E : XK} (h : spR k j vs H Q E) : vs.length = fi.ps.length := by
  obtain ⟨w0, args, e0, ok, r, h⟩ := h
  rw [r.length]
  unfold Kx.C at h
  cases hn : k.n with
  | zero => rw [hn] at h; exact False.elim h
  | succ n =>
    rw [hn] at h
    unfold run at h
    rw [hT] at h
    by_cases c : args.length = fi.ps.length
    · exact c
    · have h : (if args.length = fi.ps.length then leave fi.mode w0.S.length (evS (run k.T k.F n) k.F fi.body (startE fi args) w0.S).toR else .stuck).post (PV k.G w0 Q) (XW k.G w0 (fun cls d _ H' => E cls d H') []) := h
      rw [if_neg c] at h
      exact False.elim h
theorem start_ok {G : Gx} {w0 : Wd} {fi : FI} {args : List Val} {vs : List V} (r : RepAll G w0.ρ w0.H args vs) : EnvR G w0 (startE fi args) (L2.start fi.N vs) := by
  have hl := r.length
  unfold startE L2.start
  refine ⟨by simp [hl], fun i x hx => ?_⟩
  by_cases hi : i < args.length
  · rw [List.getElem?_append_left (by rw [List.length_map]; exact hi), List.getElem?_map] at hx
    cases ha : args[i]? with
    | none => rw [ha] at hx; cases hx
    | some y =>
      rw [ha] at hx
      have e : y = x := Option.some.inj (Option.some.inj hx)
      subst e
      obtain ⟨v, h1, h2⟩ := r.get ha
      exact ⟨v, by rw [List.getElem?_append_left (by rw [List.length_map, hl]; exact hi), List.getElem?_map, h1]; rfl, h2⟩
  · rw [List.getElem?_append_right (by rw [List.length_map]; omega)] at hx
    have := (List.getElem?_eq_some_iff.mp hx).2
    simp at this
theorem Tab.all (t : Tab p P w K mg base G) : ∀ n, FnAll p P w K mg base G F n
  | 0, j, fi, hT => by
    obtain ⟨f, fd, st, h1, h2, h3, h4, h5, h6, h7, h8⟩ := t.df j fi hT
    refine ⟨f, fd, h1, h2, h3, fun h => ⟨fun vs H Q E hs => sp_len (k := (kOf p G F 0).hide h) hT hs, fun A outer s H args us vs Q E _ _ _ _ hs => ?_⟩, h7, h8⟩
    obtain ⟨w0, as, e0, ok, r, hs⟩ := hs
    exact False.elim hs
  | n + 1, j, fi, hT => by
    obtain ⟨f, fd, st, h1, h2, h3, h4, h5, h6, h7, h8⟩ := t.df j fi hT
    refine ⟨f, fd, h1, h2, h3, fun h => ?_, h7, h8⟩
    refine Fun.okX (k := 3 * n + 2) h4 h5 (fun vs H Q E hs => sp_len (k := (kOf p G F (n + 1)).hide h) hT hs) fun cdv A outer s H vs Q E hr hs => ?_
    have fn := Tab.all t n
    have S : Sx ((kOf p G F n).hide h) (cxOf (L2.CX P w) P w K mg base fi.N fi.qual (defScope st) f cdv A outer s H E) := t.sx fn rfl rfl rfl rfl rfl rfl h5.nd hr h
    have g : Good ((kOf p G F n).hide h) (cxOf (L2.CX P w) P w K mg base fi.N fi.qual (defScope st) f cdv A outer s H E) (fun cls d _ H => E cls d H) ⟨defScope st, fi.N, fun _ => true, true⟩ :=
      ⟨S, rfl, rfl, fun _ _ => rfl, takes_of rfl rfl rfl rfl, fun _ _ _ _ _ _ z => z⟩
    refine ⟨_, snd_Ss g (passes_of rfl) fi.body (defBody st) h6, ?_⟩
    obtain ⟨w0, args, e0, ok, r, hs⟩ := hs
    subst e0
    refine ⟨w0, startE fi args, rfl, ok, start_ok r, ?_⟩
    refine leave_ok (k := (kOf p G F n).hide h) (m := fi.mode) ok ?_ fun _ _ => trivial
    have hs' : (run p.T F (n + 1) j args w0.S).post (PV (G.hide h) w0 Q) (XW (G.hide h) w0 (fun cls d _ H' => E cls d H') []) := hs
    unfold run at hs'
    rw [hT] at hs'
    have hs' : (if args.length = fi.ps.length then leave fi.mode w0.S.length (evS (run p.T F n) F fi.body (startE fi args) w0.S).toR else .stuck).post (PV (G.hide h) w0 Q) (XW (G.hide h) w0 (fun cls d _ H' => E cls d H') []) := hs'
    by_cases c : args.length = fi.ps.length
    · rw [if_pos c] at hs'
      exact hs'
    · rw [if_neg c] at hs'
      exact False.elim hs'
end
end Lt
set_option maxHeartbeats 4000000
namespace Lt
open PySem PySem.Spec PyProof.Rows L2
def BndOk (fi : FI) (st : Stmt) : Prop := ∀ (kV doc pm : Value) (an : Option Addr) (cdv ct : Value) (us : List Value), us.length = fi.ps.length → bindArgs (PySem.W.fnOf fi.name fi.qual (defArgs st) (defBody st) (defScope st) .none kV doc pm an cdv ct) ⟨us, []⟩ = pure (fi.ps.zip us)
/-- a def's scope as it is asked -/
def scB (fi : FI) (sc : Scope) : Bool := (match sc.kind with
  | .function => true
  | _ => false) && (!sc.isCoroutine && (!sc.isGenerator && (decide fi.N.Nodup && (decide (fi.N.take fi.ps.length = fi.ps) && ((fi.ps.all fun x => match sc.names.lookup x with
  | some .local => true
  | some .cell => true
  | _ => false) && sc.names.all fun y => match y.2 with
  | .free => false
  | _ => true)))))
theorem scB_ok {fi : FI} {sc : Scope} (h : scB fi sc = true) : FnScope fi.N fi.ps sc := by
  unfold scB at h
  simp only [Bool.and_eq_true, Bool.not_eq_true', decide_eq_true_eq] at h
  obtain ⟨h1, h2, h3, h4, h5, h6, h7⟩ := h
  refine ⟨?_, h2, h3, h4, h5, fun x hx => ?_, fun y hy hf => ?_⟩
  · cases hk : sc.kind <;> rw [hk] at h1 <;> first
      | rfl
      | cases h1
  · have := List.all_eq_true.mp h6 x hx
    cases hq : sc.names.lookup x with
    | none => rw [hq] at this; cases this
    | some k =>
      rw [hq] at this
      cases k <;> first
        | exact .inl rfl
        | exact .inr rfl
        | cases this
  · have := List.all_eq_true.mp h7 y hy
    rw [hf] at this
    cases this
/-- a def matches its term -/
def mD (p : Px) (fi : FI) (st : Stmt) : Bool := mSs p fi.body ⟨defScope st, fi.N, fun _ => true, true⟩ (defBody st) && scB fi (defScope st)
def mDs (p : Px) : List FI → List Stmt → Bool
  | [], [] => true
  | fi :: r, st :: r' => mD p fi st && mDs p r r'
  | _, _ => false
theorem mDs_at {p : Px} : ∀ {T : List FI} {S : List Stmt}, mDs p T S = true → ∀ (j : Nat) (fi : FI) (st : Stmt), T[j]? = some fi → S[j]? = some st → mD p fi st = true
  | [], [], _, j, fi, st, h1, _ => by simp at h1
  | f :: T, s :: S, h, 0, fi, st, h1, h2 => by
    have h : (mD p f s && mDs p T S) = true := h
    rw [Bool.and_eq_true] at h
    cases h1; cases h2
    exact h.1
  | f :: T, s :: S, h, j + 1, fi, st, h1, h2 => by
    have h : (mD p f s && mDs p T S) = true := h
    rw [Bool.and_eq_true] at h
    exact mDs_at h.2 j fi st h1 h2
theorem fun_of {K : PySem.W.Frag} {fi : FI} {st : Stmt} {f : Addr} {fd : FuncData} (F : FunD K fi.name fi.qual (defArgs st) (defBody st) (defScope st) [] [] f fd) : Fun K fi.name fi.qual st f fd := by
  obtain ⟨oc, od, dV, kV, doc, pm, an, cdv, ct, osl, rfl, lk, hcd, hD, hK⟩ := F.ex
  rcases hD with ⟨_, rfl⟩ | ⟨e, _⟩
  · exact ⟨⟨oc, od, kV, doc, pm, an, cdv, ct, osl, rfl, lk, hcd⟩, F.kp⟩
  · exact absurd rfl e
theorem find_out {P : Params} {z : Str} : ∀ {l : List DictEntry} {ks : List Str}, l.map He.keyOf = He.keysIn P ks → z ∉ ks → l.find? (·.key.isStr z) = none ∧ l.any (·.refKey) = false
  | [], ks, _, _ => ⟨rfl, rfl⟩
  | e :: l, [], h, _ => by cases h
  | e :: l, k :: ks, h, hz => by
    have h1 : He.keyOf e :: l.map He.keyOf = some (k, PyData.keyHash P k) :: He.keysIn P ks := h
    injection h1 with h2 h3
    obtain ⟨q1, q2⟩ := find_out h3 fun hm => hz (List.mem_cons_of_mem _ hm)
    unfold He.keyOf at h2
    split at h2
    · rename_i x t q
      have h4 := Option.some.inj h2
      obtain ⟨h5, h6⟩ := Prod.mk.inj h4
      have hkz : ¬ k = z := fun hh => hz (by rw [hh]; exact List.mem_cons_self)
      refine ⟨?_, ?_⟩
      · rw [List.find?_cons, q1]
        have : e.key.isStr z = false := by
          rw [q, h5]
          simp [Value.isStr, hkz]
        rw [this]
      · rw [List.any_cons, q2, Bool.or_false]
        unfold DictEntry.refKey
        rw [q]
    · cases h2
theorem dic_ok {K : PySem.W.Frag} {w : World} {a : Addr} {ks : List Str} (h : He.dicW K a = some (He.keysIn w.params ks)) : ∃ es n, KDict K w a es n ∧ ∀ z, z ∉ ks → PySem.W.nsIn K a z = some none := by
  obtain ⟨es, n, hk⟩ := He.dicW_ok h
  refine ⟨es, n, hk, fun z hz => ?_⟩
  have h2 : es.toList.map He.keyOf = He.keysIn w.params ks := by
    unfold He.dicW at h
    rw [hk.at_] at h
    simp only at h
    split at h
    · exact Option.some.inj h
    · cases h
  obtain ⟨q1, q2⟩ := find_out h2 hz
  unfold PySem.W.nsIn
  rw [hk.at_]
  simp only [q1, q2]
  rfl
end Lt
set_option maxHeartbeats 4000000
namespace Lt
open PySem PySem.Spec PyProof.Rows L2
def gOf (p : Px) (CL : List Str) (K : PySem.W.Frag) : Gx := ⟨K, fun c => if CL.contains c then some (He.ga K c) else none, fun _ => none, fun j => (p.T[j]?).map fun fi => He.fAd K fi.at_, []⟩
def clB (p : Px) (CL : List Str) : Bool := p.T.all fun fi => match fi.cls with
  | none => true
  | some c => CL.contains c
theorem lookup_memS {β : Type} {x : Str} {y : β} : ∀ {l : List (Str × β)}, l.lookup x = some y → (x, y) ∈ l
  | [], h => by cases h
  | (b, u) :: r, h => by
    have h2 : (match x == b with | true => some u | false => r.lookup x) = some y := h
    cases q : (x == b) with
    | true =>
      rw [q] at h2
      have e : u = y := Option.some.inj h2
      rw [beq_iff_eq.mp q, e]
      exact List.mem_cons_self
    | false =>
      rw [q] at h2
      exact List.mem_cons_of_mem _ (lookup_memS h2)
theorem lookup_noneS {β : Type} {x : Str} : ∀ {l : List (Str × β)}, l.lookup x = none → x ∉ l.map (·.1)
  | [], _ => by simp
  | (b, u) :: r, h => by
    have h2 : (match x == b with | true => some u | false => r.lookup x) = none := h
    cases q : (x == b) with
    | true => rw [q] at h2; cases h2
    | false =>
      rw [q] at h2
      have := lookup_noneS h2
      rw [List.map_cons, List.mem_cons, not_or]
      exact ⟨fun h => by rw [h] at q; simp at q, this⟩
section
variable {p : Px} {P : Program} {w : World} {K : PySem.W.Frag} {mg : Str → Option Value} {base h : Heap} {CL : List Str} {ST : List Stmt}
theorem facts_of {fa : List He.Fa} {fn : List He.DefD} (c : He.SaysD fa fn K) {f : He.Fa} (h : f ∈ fa) : f.ok K = true := by
  obtain ⟨i, hi, e⟩ := List.mem_iff_getElem.mp h
  exact c.fact i (f := f) (by rw [List.getElem?_eq_getElem hi, e])
theorem Tab.of (X : K.In h) (G : h.Ns mainGlobals mg) (c : He.SaysT (faOf p CL) (fnOfT p.T ST) (tsOf p) w K) (ex : exB p.T p.tb K = true) (hm : mDs p p.T ST = true) (hb : ∀ (j : Nat) (fi : FI), p.T[j]? = some fi → ∃ st, ST[j]? = some st ∧ BndOk fi st) (hc : clB p CL = true) : Tab p P w K mg base (gOf p CL K) := by
  have cd := c.d
  have glo : ∀ (j : Nat) (fi : FI), p.T[j]? = some fi → fi.cls = none → mg fi.name = some (.ref (He.ga K fi.name)) := fun j fi hj hn => by
    refine He.glo_ok X G (facts_of cd (f := .glo fi.name) ?_)
    unfold faOf
    refine List.mem_append_left _ (List.mem_filterMap.mpr ⟨fi, List.mem_of_getElem? hj, ?_⟩)
    unfold faG
    rw [hn]
  have clm : ∀ (c : Str) (C : Addr), (gOf p CL K).cl c = some C → c ∈ CL ∧ C = He.ga K c := fun c C h => by
    have h : (if CL.contains c then some (He.ga K c) else none) = some C := h
    split at h
    · rename_i hcc
      exact ⟨List.contains_iff_mem.mp hcc, (Option.some.inj h).symm⟩
    · cases h
  have inC : ∀ (c : Str) (f : He.Fa), c ∈ CL → f ∈ ([.glo c, .cls c, .mkr c] ++ (p.fs.map (He.Fa.noat c) ++ p.T.filterMap (faM c)) : List He.Fa) → f ∈ faOf p CL := fun c f h1 h2 => by
    unfold faOf
    exact List.mem_append_right _ (List.mem_append_right _ (List.mem_append_right _ (List.mem_flatMap.mpr ⟨c, h1, h2⟩)))
  refine ⟨rfl, fun x hx => ?_, fun x i hx => ?_, fun j fi hj => ?_, fun j a hj => ?_, fun c C hC => ?_, fun c C f hC hf => ?_, fun x t hx => ?_⟩
  · refine He.free_ok X G (facts_of cd (f := .free x) ?_)
    unfold faOf
    exact List.mem_append_right _ (List.mem_append_left _ (List.mem_map.mpr ⟨x, List.contains_iff_mem.mp hx, rfl⟩))
  · refine He.int_ok X G (facts_of cd (f := .int x i) ?_)
    unfold faOf
    exact List.mem_append_right _ (List.mem_append_right _ (List.mem_append_left _ (List.mem_map.mpr ⟨(x, i), lookup_memS hx, rfl⟩)))
  · obtain ⟨st, hst, hbd⟩ := hb j fi hj
    have hfn : (fnOfT p.T ST)[j]? = some (dd fi st) := by
      unfold fnOfT
      rw [List.getElem?_map, show (p.T.zip ST)[j]? = some (fi, st) from List.getElem?_zip_eq_some.mpr ⟨hj, hst⟩]; rfl
    obtain ⟨fd, F⟩ := cd.def_ j (d := dd fi st) hfn
    have F : FunD K fi.name fi.qual (defArgs st) (defBody st) (defScope st) [] [] (He.fAd K fi.at_) fd := F
    have hmd := mDs_at hm j fi st hj hst
    unfold mD at hmd
    rw [Bool.and_eq_true] at hmd
    refine ⟨He.fAd K fi.at_, fd, st, ?_, F.kp, F.bindsN hbd, fun_of F, scB_ok hmd.2, hmd.1, fun hn => ?_, fun c hcc => ?_⟩
    · show ((p.T[j]?).map fun fi => He.fAd K fi.at_) = _
      rw [hj]; rfl
    · have := glo j fi hj hn
      rw [this]
      unfold FI.at_
      rw [hn]; rfl
    · have hcl : CL.contains c = true := by
        have := List.all_eq_true.mp hc fi (List.mem_of_getElem? hj)
        rw [hcc] at this
        exact this
      have hmem := List.contains_iff_mem.mp hcl
      have hat : He.fAd K fi.at_ = He.ma K (He.ga K c) fi.name := by
        unfold FI.at_
        rw [hcc]; rfl
      refine ⟨He.ga K c, ?_, ?_, fun hi => ?_⟩
      · show (if CL.contains c then some (He.ga K c) else none) = _
        rw [if_pos hcl]
      · rw [hat]
        refine He.meth_ok (facts_of cd (f := .meth c fi.name) (inC c _ hmem (List.mem_append_right _ (List.mem_append_right _ (List.mem_filterMap.mpr ⟨fi, List.mem_of_getElem? hj, ?_⟩)))))
        unfold faM
        rw [if_pos hcc]
      · rw [hat, hi]
        exact He.mkr_ok (facts_of cd (f := .mkr c) (inC c _ hmem (List.mem_append_left _ (by simp))))
  · have hj : ((p.T[j]?).map fun fi => He.fAd K fi.at_) = some a := hj
    cases hq : p.T[j]? with
    | none => rw [hq] at hj; cases hj
    | some fi => exact ⟨fi, rfl⟩
  · obtain ⟨h1, rfl⟩ := clm c C hC
    exact ⟨He.cls_ok (facts_of cd (f := .cls c) (inC c _ h1 (List.mem_append_left _ (by simp)))), He.glo_ok X G (facts_of cd (f := .glo c) (inC c _ h1 (List.mem_append_left _ (by simp))))⟩
  · obtain ⟨h1, rfl⟩ := clm c C hC
    exact He.noat_ok (facts_of cd (f := .noat c f) (inC c _ h1 (List.mem_append_right _ (List.mem_append_left _ (List.mem_map.mpr ⟨f, List.contains_iff_mem.mp hf, rfl⟩)))))
  · have hmem := lookup_memS hx
    obtain ⟨i, hi, he⟩ := List.mem_iff_getElem.mp hmem
    have hq := List.all_eq_true.mp ex (x, t) hmem
    rw [Bool.and_eq_true] at hq
    have hat : p.tb[i]? = some (x, t) := by rw [List.getElem?_eq_getElem hi, he]
    have e : (tsOf p).map (fun t => He.dicW K (t.1 K)) = (tsOf p).map fun t => some (He.keysIn w.params t.2) := congrArg (fun z : He.AlT => z.2) c
    have e2 : ((tsOf p).map (fun t => He.dicW K (t.1 K)))[i]? = ((tsOf p).map fun t => some (He.keysIn w.params t.2))[i]? := by rw [e]
    unfold tsOf at e2
    simp only [List.getElem?_map, hat, Option.map_some] at e2
    obtain ⟨es, n, hkd, hout⟩ := dic_ok (Option.some.inj e2)
    refine ⟨He.ga K x, es, n, PySem.W.mg_of X G (He.eqO_ok hq.1), hkd, fun z => ⟨fun hz => hout z (lookup_noneS hz), fun j hj => ?_⟩⟩
    have hv := List.all_eq_true.mp hq.2 (z, j) (lookup_memS hj)
    cases hT : p.T[j]? with
    | none => rw [show p.T[(z, j).2]? = none from hT] at hv; cases hv
    | some fi =>
      rw [show p.T[(z, j).2]? = some fi from hT] at hv
      refine ⟨He.fAd K fi.at_, ?_, He.eqO_ok hv⟩
      show ((p.T[j]?).map fun fi => He.fAd K fi.at_) = _
      rw [hT]; rfl
end
end Lt
set_option maxHeartbeats 4000000
namespace Lt
open PySem PySem.Spec PyProof.Rows L2
section
variable {p : Px} {P : Program} {w : World} {K : PySem.W.Frag} {mg : Str → Option Value} {base : Heap} {G : Gx} {F : Nat}
/-- one def, its function object given -/
theorem Tab.one (t : Tab p P w K mg base G) (n : Nat) {j : Nat} {fi : FI} {f : Addr} {fd : FuncData} {st : Stmt} (hj : p.T[j]? = some fi) (h4 : Fun K fi.name fi.qual st f fd) (h5 : FnScope fi.N fi.ps (defScope st)) (h6 : mSs p fi.body ⟨defScope st, fi.N, fun _ => true, true⟩ (defBody st) = true) (h : List Addr) : FnOk P w K mg base (L2.CX P w) (3 * (n + 1)) f fd fi.ps (spR ((kOf p G F (n + 1)).hide h) j) := by
  refine Fun.okX (k := 3 * n + 2) h4 h5 (fun vs H Q E hs => sp_len (k := (kOf p G F (n + 1)).hide h) hj hs) fun cdv A outer s H vs Q E hr hs => ?_
  have fn := Tab.all (F := F) t n
  have S : Sx ((kOf p G F n).hide h) (cxOf (L2.CX P w) P w K mg base fi.N fi.qual (defScope st) f cdv A outer s H E) := t.sx fn rfl rfl rfl rfl rfl rfl h5.nd hr h
  have g : Good ((kOf p G F n).hide h) (cxOf (L2.CX P w) P w K mg base fi.N fi.qual (defScope st) f cdv A outer s H E) (fun cls d _ H => E cls d H) ⟨defScope st, fi.N, fun _ => true, true⟩ :=
    ⟨S, rfl, rfl, fun _ _ => rfl, takes_of rfl rfl rfl rfl, fun _ _ _ _ _ _ z => z⟩
  refine ⟨_, snd_Ss g (passes_of rfl) fi.body (defBody st) h6, ?_⟩
  obtain ⟨w0, args, e0, ok, r, hs⟩ := hs
  subst e0
  refine ⟨w0, startE fi args, rfl, ok, start_ok r, ?_⟩
  refine leave_ok (k := (kOf p G F n).hide h) (m := fi.mode) ok ?_ fun _ _ => trivial
  have hs' : (run p.T F (n + 1) j args w0.S).post (PV (G.hide h) w0 Q) (XW (G.hide h) w0 (fun cls d _ H' => E cls d H') []) := hs
  unfold run at hs'
  rw [hj] at hs'
  have hs' : (if args.length = fi.ps.length then leave fi.mode w0.S.length (evS (run p.T F n) F fi.body (startE fi args) w0.S).toR else .stuck).post (PV (G.hide h) w0 Q) (XW (G.hide h) w0 (fun cls d _ H' => E cls d H') []) := hs'
  by_cases c : args.length = fi.ps.length
  · rw [if_pos c] at hs'
    exact hs'
  · rw [if_neg c] at hs'
    exact False.elim hs'
theorem rep_ints {ρ : List Addr} {H : Hp} : ∀ (ns : List Int), RepAll G ρ H (ns.map Val.int) (ns.map V.int)
  | [] => rfl
  | n :: ns => ⟨.int n, ns.map V.int, rfl, rfl, rep_ints ns⟩
/-- what the law's value tells -/
theorem law_sp {k : Kx} {j : Nat} (hh : k.G.hid = []) (hr : ∀ xs : List Int, k.C j [.flst (xs.map .int)] [] = .ok (.bl true) []) (H : Hp) (a : Addr) (ns : List Int) (hl : ns.length ≤ 1000) (hS : SqL k.G.K H a (ns.map V.int)) : spR k j [.ref a] H (fun v _ => v = .bl true) fun _ _ _ => False := by
  refine ⟨⟨[], H, []⟩, [.flst (ns.map .int)], rfl, ⟨rfl, List.nodup_nil, (fun l a o h => by simp at h), (fun a ha => by rw [hh] at ha; cases ha), (fun a ha => by rw [hh] at ha; cases ha)⟩, ⟨.ref a, [], rfl, ⟨a, ns.map V.int, rfl, ?_, ?_, rep_ints ns⟩, rfl⟩, ?_⟩
  · rcases hS with h | h
    · exact .inl ⟨h, by simp, by rw [hh]; simp⟩
    · exact .inr h
  · rw [List.length_map]
    exact Nat.le_trans hl (by decide)
  · show (k.C j [.flst (ns.map .int)] []).post _ _
    rw [hr ns]
    intro w' x _ _ _ hx
    exact hx
end
end Lt
namespace Lt
open PySem L2
theorem walk_ofW {l : PySem.W.OpenLaw} {n k : Nat} {q : Program} {loose : List Str} {XP : (Str → Option Value) → Heap → Prop} {YP : World → Heap → Prop} {d : DefRec} {CX : World → CXT} {x : Str}
    (hn : l.most = some n) (hn2 : n ≤ sizeLine) (hdf : d.params.defaults = []) (hr : Room k callerA)
    (F : ∀ (w : World) (mg : Str → Option Value) (fa : Addr) (h : Heap), YP w h → h.Ns mainGlobals mg → mg d.name = some (.ref fa) →
      ∃ (K : PySem.W.Frag) (fd : FuncData) (sp : Sp), K.In h ∧ (∀ (s : Shared) (u : Value), BindsTo s fd ⟨[u], []⟩ [(x, u)]) ∧
        (∀ (H : Hp) (a : Addr) (ns : List Int), ns.length ≤ n → Only H → SqL K H a (ns.map V.int) → sp [.ref a] H (fun v _ => v = .bl true) fun _ _ _ => False) ∧
        ∀ base : Heap, K.In base → base.Ns mainGlobals mg → FnOk l.prog w K mg base (CX w) k fa fd [x] sp)
    (hCX : ∀ (w : World) (H : Hp) (s : Shared) (e : Value) (s' : Shared), CX w [] H s (fun _ _ _ => False) e s' → False) :
    PySem.W.WalkO q loose XP YP l.row.toRowW d [] (fun f vs => PySem.call f vs) := by
  refine Att.attach_call hn hdf fun w s₀ s₁ mg mb fa o pm cd doc a vs ns G Y ho hd hcd hmg hobj hints hlen hg => ?_
  obtain ⟨K, fd, sp, KX, hb, hsp, hF⟩ := F w mg fa _ Y G.T.g hmg
  exact law_call (CX := CX w) KX G.T.g G.T.b G.T.builtins G.T.nolimit hg hobj hints (Nat.le_trans hlen hn2) hr hF hb (fun H hO hS => hsp H a ns hlen hO hS) fun H e s' => hCX w H s₁ e s'
theorem noCX {P : Program} {w : World} {H : Hp} {s : Shared} {e : Value} {s' : Shared} (h : L2.CX P w [] H s (fun _ _ _ => False) e s') : False := by
  obtain ⟨a, B, H', cls, d, _, _, _, _, _, _, _, hE⟩ := h
  exact hE
end Lt
set_option maxHeartbeats 4000000
namespace Lt
open PySem
inductive Note where
  | came (who : Option Nat) (top : Nat) | round (who : Option Nat) (m : Nat) | since (a b : Nat) | here (who : Option Nat) | last | first
  deriving DecidableEq
inductive Rule where
  | free | who (ws : List Nat) | note (k lo hi : Nat) | mine (k : Nat) | not (r : Rule) | both (a b : Rule) | either (a b : Rule)
  deriving DecidableEq
abbrev Room := List Note × List (Nat × Rule)
abbrev House := List Room × List Nat
abbrev Mem := List Nat
abbrev Sit := List Nat × List Mem
inductive Touch where
  | out (walker door : Nat) | in_ (walker frm : Nat)
  deriving DecidableEq
abbrev iN (n : Nat) : Val := .int (n : Int)
def eW : Option Nat → Val
  | none => .non
  | some i => iN i
def eNs (l : List Nat) : Val := .tup (l.map iN)
def Note.e : Note → Val
  | .came w t => .tup [.str "came", eW w, iN t]
  | .round w m => .tup [.str "round", eW w, iN m]
  | .since a b => .tup [.str "since", iN a, iN b]
  | .here w => .tup [.str "here", eW w]
  | .last => .tup [.str "last"]
  | .first => .tup [.str "first"]
def Rule.e : Rule → Val
  | .free => .tup [.str "free"]
  | .who ws => .tup [.str "who", eNs ws]
  | .note k lo hi => .tup [.str "note", iN k, iN lo, iN hi]
  | .mine k => .tup [.str "mine", iN k]
  | .not r => .tup [.str "not", r.e]
  | .both a b => .tup [.str "both", a.e, b.e]
  | .either a b => .tup [.str "either", a.e, b.e]
def eNotes (l : List Note) : Val := .tup (l.map Note.e)
def eDoor (d : Nat × Rule) : Val := .tup [iN d.1, d.2.e]
def eDoors (l : List (Nat × Rule)) : Val := .tup (l.map eDoor)
def eRoom (r : Room) : Val := .tup [eNotes r.1, eDoors r.2]
def eHouse (h : House) : Val := .tup [.tup (h.1.map eRoom), eNs h.2]
def Touch.e : Touch → Val
  | .out w d => .tup [.str "out", iN w, iN d]
  | .in_ w f => .tup [.str "in", iN w, iN f]
def eSit (s : Sit) : Val := .tup [eNs s.1, eNs s.2.flatten]
def isOf (who : Option Nat) (w : Nat) : Bool := match who with
  | none => true
  | some x => x == w
def mostIn (w : Nat) : Note → Nat
  | .came _ t => t
  | .round _ m => m - 1
  | .since _ _ => 1
  | .here (some _) => 1
  | _ => w
def Note.who : Note → Option Nat
  | .came w _ => w
  | .round w _ => w
  | .since a _ => some a
  | .here w => w
  | _ => none
def comes (n : Note) (v w : Nat) : Nat := match n with
  | .came who _ => v + (isOf who w).toNat
  | .round who m => (v + (isOf who w).toNat) % m
  | .last => 1 + w
  | .first => if v = 0 then 1 + w else v
  | .since a b => if w = a then 1 else if w = b then 0 else v
  | .here who => v + (isOf who w).toNat
def Note.isHere : Note → Bool
  | .here _ => true
  | _ => false
def valueAfter (W : Nat) (n : Note) (v : Nat) : Touch → Nat
  | .out w _ => if n.isHere && isOf n.who w then v - 1 else v
  | .in_ w _ => min (mostIn W n) (comes n v w)
def lets : Rule → Mem → Nat → Bool
  | .free, _, _ => true
  | .who ws, _, w => ws.contains w
  | .note k lo hi, m, _ => decide (lo ≤ m.getD k 0) && decide (m.getD k 0 ≤ hi)
  | .mine k, m, w => m.getD k 0 == 1 + w
  | .not r, m, w => !lets r m w
  | .both a b, m, w => lets a m w && lets b m w
  | .either a b, m, w => lets a m w || lets b m w
def Note.ok (W : Nat) : Note → Prop
  | .came who t => (∀ x, who = some x → x < W) ∧ 1 ≤ t ∧ t ≤ 4
  | .round who m => (∀ x, who = some x → x < W) ∧ 2 ≤ m ∧ m ≤ 4
  | .since a b => a < W ∧ b < W ∧ a ≠ b
  | .here who => ∀ x, who = some x → x < W
  | _ => True
def Rule.ok (W : Nat) (ns : List Note) : Nat → Rule → Prop
  | 0, _ => False
  | _ + 1, .free => True
  | _ + 1, .who ws => ws ≠ [] ∧ (∀ x ∈ ws, x < W) ∧ ws.Pairwise (· < ·)
  | _ + 1, .note k lo hi => ∃ n, ns[k]? = some n ∧ lo ≤ hi ∧ hi ≤ mostIn W n
  | _ + 1, .mine k => ns[k]? = some .last ∨ ns[k]? = some .first
  | d + 1, .not r => r.ok W ns d
  | d + 1, .both a b => a.ok W ns d ∧ b.ok W ns d
  | d + 1, .either a b => a.ok W ns d ∧ b.ok W ns d
structure RoomOk (W many number : Nat) (r : Room) : Prop where
  nl : r.1.length ≤ 4
  ns : ∀ n ∈ r.1, n.ok W
  dl : r.2.length ≤ 4
  ds : ∀ d ∈ r.2, d.1 < many ∧ d.1 ≠ number ∧ d.2.ok W r.1 4
structure HouseOk (h : House) : Prop where
  r2 : 2 ≤ h.1.length
  r6 : h.1.length ≤ 6
  s1 : 1 ≤ h.2.length
  s3 : h.2.length ≤ 3
  st : ∀ x ∈ h.2, x < h.1.length
  rs : ∀ (i : Nat) (r : Room), h.1[i]? = some r → RoomOk h.2.length h.1.length i r
  nn : (h.1.map fun r => r.1.length).sum ≤ 8
/-- how many stand in a room, of whom a note is -/
def hereN (places : List Nat) (room : Nat) (who : Option Nat) : Nat := places.zipIdx.countP fun p => p.1 == room && isOf who p.2
def memFirst (h : House) (room : Nat) : Mem := ((h.1.getD room ([], [])).1).map fun n => match n with
  | .here who => hereN h.2 room who
  | _ => 0
def firstSit (h : House) : Sit := (h.2, (List.range h.1.length).map (memFirst h))
def memAfter (h : House) (room : Nat) (m : Mem) (t : Touch) : Mem := ((h.1.getD room ([], [])).1.zip m).map fun p => valueAfter h.2.length p.1 p.2 t
def doorIn (h : House) (room : Nat) (m : Mem) (w : Nat) : Option Nat := (h.1.getD room ([], [])).2.findIdx? fun d => lets d.2 m w
structure Step where
  walker : Nat
  room : Nat
  door : Nat
  to : Nat
  deriving DecidableEq
def Step.e (s : Step) : Val := .tup [iN s.walker, iN s.room, iN s.door, iN s.to]
def stepIn (h : House) (s : Sit) (w : Nat) : Option Step :=
  let room := s.1.getD w 0
  match doorIn h room (s.2.getD room []) w with
  | none => none
  | some d => some ⟨w, room, d, ((h.1.getD room ([], [])).2.getD d (0, .free)).1⟩
def sitAfter (h : House) (s : Sit) (st : Step) : Sit :=
  (s.1.set st.walker st.to, (List.range h.1.length).map fun i =>
    let m := s.2.getD i []
    let m := if i = st.room then memAfter h st.room m (.out st.walker st.door) else m
    if i = st.to then memAfter h st.to m (.in_ st.walker st.room) else m)
/-- a walk as far as it goes -/
def gone (h : House) : Sit → List Nat → List Step × Sit × Option Nat
  | s, [] => ([], s, none)
  | s, w :: ws => if w < h.2.length then match stepIn h s w with
      | none => ([], s, some 0)
      | some st => let r := gone h (sitAfter h s st) ws; (st :: r.1, r.2.1, r.2.2.map (· + 1))
    else ([], s, some 0)
def goings (h : House) (s : Sit) : List Nat := ((List.range h.2.length).filterMap (stepIn h s)).map Step.walker
/-- memories of a house's rooms -/
def Fits (h : House) (ms : List Mem) : Prop := ms.map List.length = h.1.map fun r => r.1.length
structure SitOk (h : House) (s : Sit) : Prop where
  pl : s.1.length = h.2.length
  pr : ∀ x ∈ s.1, x < h.1.length
  ft : Fits h s.2
  vm : ∀ (i : Nat) (r : Room) (m : Mem) (k : Nat) (n : Note) (v : Nat), h.1[i]? = some r → s.2[i]? = some m → r.1[k]? = some n → m[k]? = some v → v ≤ mostIn h.2.length n ∧ ∀ who, n = .here who → v = hereN s.1 i who
end Lt
set_option maxHeartbeats 4000000
namespace Lt
open PySem
@[simp] theorem cl_came : PyData.strOk "came" = true := by decide +kernel
@[simp] theorem cl_round : PyData.strOk "round" = true := by decide +kernel
@[simp] theorem cl_since : PyData.strOk "since" = true := by decide +kernel
@[simp] theorem cl_last : PyData.strOk "last" = true := by decide +kernel
@[simp] theorem cl_first : PyData.strOk "first" = true := by decide +kernel
@[simp] theorem cl_here : PyData.strOk "here" = true := by decide +kernel
@[simp] theorem cl_free : PyData.strOk "free" = true := by decide +kernel
@[simp] theorem cl_who : PyData.strOk "who" = true := by decide +kernel
@[simp] theorem cl_note : PyData.strOk "note" = true := by decide +kernel
@[simp] theorem cl_mine : PyData.strOk "mine" = true := by decide +kernel
@[simp] theorem cl_not : PyData.strOk "not" = true := by decide +kernel
@[simp] theorem cl_both : PyData.strOk "both" = true := by decide +kernel
@[simp] theorem cl_either : PyData.strOk "either" = true := by decide +kernel
@[simp] theorem cl_in : PyData.strOk "in" = true := by decide +kernel
@[simp] theorem cl_out : PyData.strOk "out" = true := by decide +kernel
@[simp] theorem cl_steps : PyData.strOk "steps" = true := by decide +kernel
@[simp] theorem cl_wrong : PyData.strOk "wrong" = true := by decide +kernel
@[simp] theorem cl_go_on : PyData.strOk "go_on" = true := by decide +kernel
@[simp] theorem cl_Gone : PyData.strOk "Gone" = true := by decide +kernel
@[simp] theorem ne_came_round : ((("came" : Str) == "round") = false) := by decide +kernel
@[simp] theorem nq_came_round : ((("came" : Str) = "round") = False) := eq_false (by decide +kernel)
@[simp] theorem ne_came_since : ((("came" : Str) == "since") = false) := by decide +kernel
@[simp] theorem nq_came_since : ((("came" : Str) = "since") = False) := eq_false (by decide +kernel)
@[simp] theorem ne_came_last : ((("came" : Str) == "last") = false) := by decide +kernel
@[simp] theorem nq_came_last : ((("came" : Str) = "last") = False) := eq_false (by decide +kernel)
@[simp] theorem ne_came_first : ((("came" : Str) == "first") = false) := by decide +kernel
@[simp] theorem nq_came_first : ((("came" : Str) = "first") = False) := eq_false (by decide +kernel)
@[simp] theorem ne_came_here : ((("came" : Str) == "here") = false) := by decide +kernel
@[simp] theorem nq_came_here : ((("came" : Str) = "here") = False) := eq_false (by decide +kernel)
@[simp] theorem ne_came_free : ((("came" : Str) == "free") = false) := by decide +kernel
@[simp] theorem nq_came_free : ((("came" : Str) = "free") = False) := eq_false (by decide +kernel)
@[simp] theorem ne_came_who : ((("came" : Str) == "who") = false) := by decide +kernel
@[simp] theorem nq_came_who : ((("came" : Str) = "who") = False) := eq_false (by decide +kernel)
@[simp] theorem ne_came_note : ((("came" : Str) == "note") = false) := by decide +kernel
@[simp] theorem nq_came_note : ((("came" : Str) = "note") = False) := eq_false (by decide +kernel)
@[simp] theorem ne_came_mine : ((("came" : Str) == "mine") = false) := by decide +kernel
@[simp] theorem nq_came_mine : ((("came" : Str) = "mine") = False) := eq_false (by decide +kernel)
@[simp] theorem ne_came_not : ((("came" : Str) == "not") = false) := by decide +kernel
@[simp] theorem nq_came_not : ((("came" : Str) = "not") = False) := eq_false (by decide +kernel)
@[simp] theorem ne_came_both : ((("came" : Str) == "both") = false) := by decide +kernel
@[simp] theorem nq_came_both : ((("came" : Str) = "both") = False) := eq_false (by decide +kernel)
@[simp] theorem ne_came_either : ((("came" : Str) == "either") = false) := by decide +kernel
@[simp] theorem nq_came_either : ((("came" : Str) = "either") = False) := eq_false (by decide +kernel)
@[simp] theorem ne_came_in : ((("came" : Str) == "in") = false) := by decide +kernel
@[simp] theorem nq_came_in : ((("came" : Str) = "in") = False) := eq_false (by decide +kernel)
@[simp] theorem ne_came_out : ((("came" : Str) == "out") = false) := by decide +kernel
@[simp] theorem nq_came_out : ((("came" : Str) = "out") = False) := eq_false (by decide +kernel)
@[simp] theorem ne_came_steps : ((("came" : Str) == "steps") = false) := by decide +kernel
@[simp] theorem nq_came_steps : ((("came" : Str) = "steps") = False) := eq_false (by decide +kernel)
@[simp] theorem ne_came_wrong : ((("came" : Str) == "wrong") = false) := by decide +kernel
@[simp] theorem nq_came_wrong : ((("came" : Str) = "wrong") = False) := eq_false (by decide +kernel)
@[simp] theorem ne_came_go_on : ((("came" : Str) == "go_on") = false) := by decide +kernel
@[simp] theorem nq_came_go_on : ((("came" : Str) = "go_on") = False) := eq_false (by decide +kernel)
@[simp] theorem ne_came_Gone : ((("came" : Str) == "Gone") = false) := by decide +kernel
@[simp] theorem nq_came_Gone : ((("came" : Str) = "Gone") = False) := eq_false (by decide +kernel)
@[simp] theorem ne_round_came : ((("round" : Str) == "came") = false) := by decide +kernel
@[simp] theorem nq_round_came : ((("round" : Str) = "came") = False) := eq_false (by decide +kernel)
@[simp] theorem ne_round_since : ((("round" : Str) == "since") = false) := by decide +kernel
@[simp] theorem nq_round_since : ((("round" : Str) = "since") = False) := eq_false (by decide +kernel)
@[simp] theorem ne_round_last : ((("round" : Str) == "last") = false) := by decide +kernel
@[simp] theorem nq_round_last : ((("round" : Str) = "last") = False) := eq_false (by decide +kernel)
@[simp] theorem ne_round_first : ((("round" : Str) == "first") = false) := by decide +kernel
@[simp] theorem nq_round_first : ((("round" : Str) = "first") = False) := eq_false (by decide +kernel)
@[simp] theorem ne_round_here : ((("round" : Str) == "here") = false) := by decide +kernel
@[simp] theorem nq_round_here : ((("round" : Str) = "here") = False) := eq_false (by decide +kernel)
@[simp] theorem ne_round_free : ((("round" : Str) == "free") = false) := by decide +kernel
@[simp] theorem nq_round_free : ((("round" : Str) = "free") = False) := eq_false (by decide +kernel)
@[simp] theorem ne_round_who : ((("round" : Str) == "who") = false) := by decide +kernel
@[simp] theorem nq_round_who : ((("round" : Str) = "who") = False) := eq_false (by decide +kernel)
@[simp] theorem ne_round_note : ((("round" : Str) == "note") = false) := by decide +kernel
@[simp] theorem nq_round_note : ((("round" : Str) = "note") = False) := eq_false (by decide +kernel)
@[simp] theorem ne_round_mine : ((("round" : Str) == "mine") = false) := by decide +kernel
@[simp] theorem nq_round_mine : ((("round" : Str) = "mine") = False) := eq_false (by decide +kernel)
@[simp] theorem ne_round_not : ((("round" : Str) == "not") = false) := by decide +kernel
@[simp] theorem nq_round_not : ((("round" : Str) = "not") = False) := eq_false (by decide +kernel)
@[simp] theorem ne_round_both : ((("round" : Str) == "both") = false) := by decide +kernel
@[simp] theorem nq_round_both : ((("round" : Str) = "both") = False) := eq_false (by decide +kernel)
@[simp] theorem ne_round_either : ((("round" : Str) == "either") = false) := by decide +kernel
@[simp] theorem nq_round_either : ((("round" : Str) = "either") = False) := eq_false (by decide +kernel)
@[simp] theorem ne_round_in : ((("round" : Str) == "in") = false) := by decide +kernel
@[simp] theorem nq_round_in : ((("round" : Str) = "in") = False) := eq_false (by decide +kernel)
@[simp] theorem ne_round_out : ((("round" : Str) == "out") = false) := by decide +kernel
@[simp] theorem nq_round_out : ((("round" : Str) = "out") = False) := eq_false (by decide +kernel)
@[simp] theorem ne_round_steps : ((("round" : Str) == "steps") = false) := by decide +kernel
@[simp] theorem nq_round_steps : ((("round" : Str) = "steps") = False) := eq_false (by decide +kernel)
@[simp] theorem ne_round_wrong : ((("round" : Str) == "wrong") = false) := by decide +kernel
@[simp] theorem nq_round_wrong : ((("round" : Str) = "wrong") = False) := eq_false (by decide +kernel)
@[simp] theorem ne_round_go_on : ((("round" : Str) == "go_on") = false) := by decide +kernel
@[simp] theorem nq_round_go_on : ((("round" : Str) = "go_on") = False) := eq_false (by decide +kernel)
@[simp] theorem ne_round_Gone : ((("round" : Str) == "Gone") = false) := by decide +kernel
@[simp] theorem nq_round_Gone : ((("round" : Str) = "Gone") = False) := eq_false (by decide +kernel)
@[simp] theorem ne_since_came : ((("since" : Str) == "came") = false) := by decide +kernel
@[simp] theorem nq_since_came : ((("since" : Str) = "came") = False) := eq_false (by decide +kernel)
@[simp] theorem ne_since_round : ((("since" : Str) == "round") = false) := by decide +kernel
@[simp] theorem nq_since_round : ((("since" : Str) = "round") = False) := eq_false (by decide +kernel)
@[simp] theorem ne_since_last : ((("since" : Str) == "last") = false) := by decide +kernel
@[simp] theorem nq_since_last : ((("since" : Str) = "last") = False) := eq_false (by decide +kernel)
@[simp] theorem ne_since_first : ((("since" : Str) == "first") = false) := by decide +kernel
@[simp] theorem nq_since_first : ((("since" : Str) = "first") = False) := eq_false (by decide +kernel)
@[simp] theorem ne_since_here : ((("since" : Str) == "here") = false) := by decide +kernel
@[simp] theorem nq_since_here : ((("since" : Str) = "here") = False) := eq_false (by decide +kernel)
@[simp] theorem ne_since_free : ((("since" : Str) == "free") = false) := by decide +kernel
@[simp] theorem nq_since_free : ((("since" : Str) = "free") = False) := eq_false (by decide +kernel)
@[simp] theorem ne_since_who : ((("since" : Str) == "who") = false) := by decide +kernel
@[simp] theorem nq_since_who : ((("since" : Str) = "who") = False) := eq_false (by decide +kernel)
@[simp] theorem ne_since_note : ((("since" : Str) == "note") = false) := by decide +kernel
@[simp] theorem nq_since_note : ((("since" : Str) = "note") = False) := eq_false (by decide +kernel)
@[simp] theorem ne_since_mine : ((("since" : Str) == "mine") = false) := by decide +kernel
@[simp] theorem nq_since_mine : ((("since" : Str) = "mine") = False) := eq_false (by decide +kernel)
@[simp] theorem ne_since_not : ((("since" : Str) == "not") = false) := by decide +kernel
@[simp] theorem nq_since_not : ((("since" : Str) = "not") = False) := eq_false (by decide +kernel)
@[simp] theorem ne_since_both : ((("since" : Str) == "both") = false) := by decide +kernel
@[simp] theorem nq_since_both : ((("since" : Str) = "both") = False) := eq_false (by decide +kernel)
@[simp] theorem ne_since_either : ((("since" : Str) == "either") = false) := by decide +kernel
@[simp] theorem nq_since_either : ((("since" : Str) = "either") = False) := eq_false (by decide +kernel)
@[simp] theorem ne_since_in : ((("since" : Str) == "in") = false) := by decide +kernel
@[simp] theorem nq_since_in : ((("since" : Str) = "in") = False) := eq_false (by decide +kernel)
@[simp] theorem ne_since_out : ((("since" : Str) == "out") = false) := by decide +kernel
@[simp] theorem nq_since_out : ((("since" : Str) = "out") = False) := eq_false (by decide +kernel)
@[simp] theorem ne_since_steps : ((("since" : Str) == "steps") = false) := by decide +kernel
@[simp] theorem nq_since_steps : ((("since" : Str) = "steps") = False) := eq_false (by decide +kernel)
@[simp] theorem ne_since_wrong : ((("since" : Str) == "wrong") = false) := by decide +kernel
@[simp] theorem nq_since_wrong : ((("since" : Str) = "wrong") = False) := eq_false (by decide +kernel)
@[simp] theorem ne_since_go_on : ((("since" : Str) == "go_on") = false) := by decide +kernel
@[simp] theorem nq_since_go_on : ((("since" : Str) = "go_on") = False) := eq_false (by decide +kernel)
@[simp] theorem ne_since_Gone : ((("since" : Str) == "Gone") = false) := by decide +kernel
@[simp] theorem nq_since_Gone : ((("since" : Str) = "Gone") = False) := eq_false (by decide +kernel)
@[simp] theorem ne_last_came : ((("last" : Str) == "came") = false) := by decide +kernel
@[simp] theorem nq_last_came : ((("last" : Str) = "came") = False) := eq_false (by decide +kernel)
@[simp] theorem ne_last_round : ((("last" : Str) == "round") = false) := by decide +kernel
@[simp] theorem nq_last_round : ((("last" : Str) = "round") = False) := eq_false (by decide +kernel)
@[simp] theorem ne_last_since : ((("last" : Str) == "since") = false) := by decide +kernel
@[simp] theorem nq_last_since : ((("last" : Str) = "since") = False) := eq_false (by decide +kernel)
@[simp] theorem ne_last_first : ((("last" : Str) == "first") = false) := by decide +kernel
@[simp] theorem nq_last_first : ((("last" : Str) = "first") = False) := eq_false (by decide +kernel)
@[simp] theorem ne_last_here : ((("last" : Str) == "here") = false) := by decide +kernel
@[simp] theorem nq_last_here : ((("last" : Str) = "here") = False) := eq_false (by decide +kernel)
@[simp] theorem ne_last_free : ((("last" : Str) == "free") = false) := by decide +kernel
@[simp] theorem nq_last_free : ((("last" : Str) = "free") = False) := eq_false (by decide +kernel)
@[simp] theorem ne_last_who : ((("last" : Str) == "who") = false) := by decide +kernel
@[simp] theorem nq_last_who : ((("last" : Str) = "who") = False) := eq_false (by decide +kernel)
@[simp] theorem ne_last_note : ((("last" : Str) == "note") = false) := by decide +kernel
@[simp] theorem nq_last_note : ((("last" : Str) = "note") = False) := eq_false (by decide +kernel)
@[simp] theorem ne_last_mine : ((("last" : Str) == "mine") = false) := by decide +kernel
@[simp] theorem nq_last_mine : ((("last" : Str) = "mine") = False) := eq_false (by decide +kernel)
@[simp] theorem ne_last_not : ((("last" : Str) == "not") = false) := by decide +kernel
@[simp] theorem nq_last_not : ((("last" : Str) = "not") = False) := eq_false (by decide +kernel)
@[simp] theorem ne_last_both : ((("last" : Str) == "both") = false) := by decide +kernel
@[simp] theorem nq_last_both : ((("last" : Str) = "both") = False) := eq_false (by decide +kernel)
@[simp] theorem ne_last_either : ((("last" : Str) == "either") = false) := by decide +kernel
@[simp] theorem nq_last_either : ((("last" : Str) = "either") = False) := eq_false (by decide +kernel)
@[simp] theorem ne_last_in : ((("last" : Str) == "in") = false) := by decide +kernel
@[simp] theorem nq_last_in : ((("last" : Str) = "in") = False) := eq_false (by decide +kernel)
@[simp] theorem ne_last_out : ((("last" : Str) == "out") = false) := by decide +kernel
@[simp] theorem nq_last_out : ((("last" : Str) = "out") = False) := eq_false (by decide +kernel)
@[simp] theorem ne_last_steps : ((("last" : Str) == "steps") = false) := by decide +kernel
@[simp] theorem nq_last_steps : ((("last" : Str) = "steps") = False) := eq_false (by decide +kernel)
@[simp] theorem ne_last_wrong : ((("last" : Str) == "wrong") = false) := by decide +kernel
@[simp] theorem nq_last_wrong : ((("last" : Str) = "wrong") = False) := eq_false (by decide +kernel)
@[simp] theorem ne_last_go_on : ((("last" : Str) == "go_on") = false) := by decide +kernel
@[simp] theorem nq_last_go_on : ((("last" : Str) = "go_on") = False) := eq_false (by decide +kernel)
@[simp] theorem ne_last_Gone : ((("last" : Str) == "Gone") = false) := by decide +kernel
@[simp] theorem nq_last_Gone : ((("last" : Str) = "Gone") = False) := eq_false (by decide +kernel)
@[simp] theorem ne_first_came : ((("first" : Str) == "came") = false) := by decide +kernel
@[simp] theorem nq_first_came : ((("first" : Str) = "came") = False) := eq_false (by decide +kernel)
@[simp] theorem ne_first_round : ((("first" : Str) == "round") = false) := by decide +kernel
@[simp] theorem nq_first_round : ((("first" : Str) = "round") = False) := eq_false (by decide +kernel)
@[simp] theorem ne_first_since : ((("first" : Str) == "since") = false) := by decide +kernel
@[simp] theorem nq_first_since : ((("first" : Str) = "since") = False) := eq_false (by decide +kernel)
@[simp] theorem ne_first_last : ((("first" : Str) == "last") = false) := by decide +kernel
@[simp] theorem nq_first_last : ((("first" : Str) = "last") = False) := eq_false (by decide +kernel)
@[simp] theorem ne_first_here : ((("first" : Str) == "here") = false) := by decide +kernel
@[simp] theorem nq_first_here : ((("first" : Str) = "here") = False) := eq_false (by decide +kernel)
@[simp] theorem ne_first_free : ((("first" : Str) == "free") = false) := by decide +kernel
@[simp] theorem nq_first_free : ((("first" : Str) = "free") = False) := eq_false (by decide +kernel)
@[simp] theorem ne_first_who : ((("first" : Str) == "who") = false) := by decide +kernel
@[simp] theorem nq_first_who : ((("first" : Str) = "who") = False) := eq_false (by decide +kernel)
@[simp] theorem ne_first_note : ((("first" : Str) == "note") = false) := by decide +kernel
@[simp] theorem nq_first_note : ((("first" : Str) = "note") = False) := eq_false (by decide +kernel)
@[simp] theorem ne_first_mine : ((("first" : Str) == "mine") = false) := by decide +kernel
@[simp] theorem nq_first_mine : ((("first" : Str) = "mine") = False) := eq_false (by decide +kernel)
@[simp] theorem ne_first_not : ((("first" : Str) == "not") = false) := by decide +kernel
@[simp] theorem nq_first_not : ((("first" : Str) = "not") = False) := eq_false (by decide +kernel)
@[simp] theorem ne_first_both : ((("first" : Str) == "both") = false) := by decide +kernel
@[simp] theorem nq_first_both : ((("first" : Str) = "both") = False) := eq_false (by decide +kernel)
@[simp] theorem ne_first_either : ((("first" : Str) == "either") = false) := by decide +kernel
@[simp] theorem nq_first_either : ((("first" : Str) = "either") = False) := eq_false (by decide +kernel)
@[simp] theorem ne_first_in : ((("first" : Str) == "in") = false) := by decide +kernel
@[simp] theorem nq_first_in : ((("first" : Str) = "in") = False) := eq_false (by decide +kernel)
@[simp] theorem ne_first_out : ((("first" : Str) == "out") = false) := by decide +kernel
@[simp] theorem nq_first_out : ((("first" : Str) = "out") = False) := eq_false (by decide +kernel)
@[simp] theorem ne_first_steps : ((("first" : Str) == "steps") = false) := by decide +kernel
@[simp] theorem nq_first_steps : ((("first" : Str) = "steps") = False) := eq_false (by decide +kernel)
@[simp] theorem ne_first_wrong : ((("first" : Str) == "wrong") = false) := by decide +kernel
@[simp] theorem nq_first_wrong : ((("first" : Str) = "wrong") = False) := eq_false (by decide +kernel)
@[simp] theorem ne_first_go_on : ((("first" : Str) == "go_on") = false) := by decide +kernel
@[simp] theorem nq_first_go_on : ((("first" : Str) = "go_on") = False) := eq_false (by decide +kernel)
@[simp] theorem ne_first_Gone : ((("first" : Str) == "Gone") = false) := by decide +kernel
@[simp] theorem nq_first_Gone : ((("first" : Str) = "Gone") = False) := eq_false (by decide +kernel)
@[simp] theorem ne_here_came : ((("here" : Str) == "came") = false) := by decide +kernel
@[simp] theorem nq_here_came : ((("here" : Str) = "came") = False) := eq_false (by decide +kernel)
@[simp] theorem ne_here_round : ((("here" : Str) == "round") = false) := by decide +kernel
@[simp] theorem nq_here_round : ((("here" : Str) = "round") = False) := eq_false (by decide +kernel)
@[simp] theorem ne_here_since : ((("here" : Str) == "since") = false) := by decide +kernel
@[simp] theorem nq_here_since : ((("here" : Str) = "since") = False) := eq_false (by decide +kernel)
@[simp] theorem ne_here_last : ((("here" : Str) == "last") = false) := by decide +kernel
@[simp] theorem nq_here_last : ((("here" : Str) = "last") = False) := eq_false (by decide +kernel)
@[simp] theorem ne_here_first : ((("here" : Str) == "first") = false) := by decide +kernel
@[simp] theorem nq_here_first : ((("here" : Str) = "first") = False) := eq_false (by decide +kernel)
@[simp] theorem ne_here_free : ((("here" : Str) == "free") = false) := by decide +kernel
@[simp] theorem nq_here_free : ((("here" : Str) = "free") = False) := eq_false (by decide +kernel)
@[simp] theorem ne_here_who : ((("here" : Str) == "who") = false) := by decide +kernel
@[simp] theorem nq_here_who : ((("here" : Str) = "who") = False) := eq_false (by decide +kernel)
@[simp] theorem ne_here_note : ((("here" : Str) == "note") = false) := by decide +kernel
@[simp] theorem nq_here_note : ((("here" : Str) = "note") = False) := eq_false (by decide +kernel)
@[simp] theorem ne_here_mine : ((("here" : Str) == "mine") = false) := by decide +kernel
@[simp] theorem nq_here_mine : ((("here" : Str) = "mine") = False) := eq_false (by decide +kernel)
@[simp] theorem ne_here_not : ((("here" : Str) == "not") = false) := by decide +kernel
@[simp] theorem nq_here_not : ((("here" : Str) = "not") = False) := eq_false (by decide +kernel)
@[simp] theorem ne_here_both : ((("here" : Str) == "both") = false) := by decide +kernel
@[simp] theorem nq_here_both : ((("here" : Str) = "both") = False) := eq_false (by decide +kernel)
@[simp] theorem ne_here_either : ((("here" : Str) == "either") = false) := by decide +kernel
@[simp] theorem nq_here_either : ((("here" : Str) = "either") = False) := eq_false (by decide +kernel)
@[simp] theorem ne_here_in : ((("here" : Str) == "in") = false) := by decide +kernel
@[simp] theorem nq_here_in : ((("here" : Str) = "in") = False) := eq_false (by decide +kernel)
@[simp] theorem ne_here_out : ((("here" : Str) == "out") = false) := by decide +kernel
@[simp] theorem nq_here_out : ((("here" : Str) = "out") = False) := eq_false (by decide +kernel)
@[simp] theorem ne_here_steps : ((("here" : Str) == "steps") = false) := by decide +kernel
@[simp] theorem nq_here_steps : ((("here" : Str) = "steps") = False) := eq_false (by decide +kernel)
@[simp] theorem ne_here_wrong : ((("here" : Str) == "wrong") = false) := by decide +kernel
@[simp] theorem nq_here_wrong : ((("here" : Str) = "wrong") = False) := eq_false (by decide +kernel)
@[simp] theorem ne_here_go_on : ((("here" : Str) == "go_on") = false) := by decide +kernel
@[simp] theorem nq_here_go_on : ((("here" : Str) = "go_on") = False) := eq_false (by decide +kernel)
@[simp] theorem ne_here_Gone : ((("here" : Str) == "Gone") = false) := by decide +kernel
@[simp] theorem nq_here_Gone : ((("here" : Str) = "Gone") = False) := eq_false (by decide +kernel)
@[simp] theorem ne_free_came : ((("free" : Str) == "came") = false) := by decide +kernel
@[simp] theorem nq_free_came : ((("free" : Str) = "came") = False) := eq_false (by decide +kernel)
@[simp] theorem ne_free_round : ((("free" : Str) == "round") = false) := by decide +kernel
@[simp] theorem nq_free_round : ((("free" : Str) = "round") = False) := eq_false (by decide +kernel)
@[simp] theorem ne_free_since : ((("free" : Str) == "since") = false) := by decide +kernel
@[simp] theorem nq_free_since : ((("free" : Str) = "since") = False) := eq_false (by decide +kernel)
@[simp] theorem ne_free_last : ((("free" : Str) == "last") = false) := by decide +kernel
@[simp] theorem nq_free_last : ((("free" : Str) = "last") = False) := eq_false (by decide +kernel)
@[simp] theorem ne_free_first : ((("free" : Str) == "first") = false) := by decide +kernel
@[simp] theorem nq_free_first : ((("free" : Str) = "first") = False) := eq_false (by decide +kernel)
@[simp] theorem ne_free_here : ((("free" : Str) == "here") = false) := by decide +kernel
@[simp] theorem nq_free_here : ((("free" : Str) = "here") = False) := eq_false (by decide +kernel)
@[simp] theorem ne_free_who : ((("free" : Str) == "who") = false) := by decide +kernel
@[simp] theorem nq_free_who : ((("free" : Str) = "who") = False) := eq_false (by decide +kernel)
@[simp] theorem ne_free_note : ((("free" : Str) == "note") = false) := by decide +kernel
@[simp] theorem nq_free_note : ((("free" : Str) = "note") = False) := eq_false (by decide +kernel)
@[simp] theorem ne_free_mine : ((("free" : Str) == "mine") = false) := by decide +kernel
@[simp] theorem nq_free_mine : ((("free" : Str) = "mine") = False) := eq_false (by decide +kernel)
@[simp] theorem ne_free_not : ((("free" : Str) == "not") = false) := by decide +kernel
@[simp] theorem nq_free_not : ((("free" : Str) = "not") = False) := eq_false (by decide +kernel)
@[simp] theorem ne_free_both : ((("free" : Str) == "both") = false) := by decide +kernel
@[simp] theorem nq_free_both : ((("free" : Str) = "both") = False) := eq_false (by decide +kernel)
@[simp] theorem ne_free_either : ((("free" : Str) == "either") = false) := by decide +kernel
@[simp] theorem nq_free_either : ((("free" : Str) = "either") = False) := eq_false (by decide +kernel)
@[simp] theorem ne_free_in : ((("free" : Str) == "in") = false) := by decide +kernel
@[simp] theorem nq_free_in : ((("free" : Str) = "in") = False) := eq_false (by decide +kernel)
@[simp] theorem ne_free_out : ((("free" : Str) == "out") = false) := by decide +kernel
@[simp] theorem nq_free_out : ((("free" : Str) = "out") = False) := eq_false (by decide +kernel)
@[simp] theorem ne_free_steps : ((("free" : Str) == "steps") = false) := by decide +kernel
@[simp] theorem nq_free_steps : ((("free" : Str) = "steps") = False) := eq_false (by decide +kernel)
@[simp] theorem ne_free_wrong : ((("free" : Str) == "wrong") = false) := by decide +kernel
@[simp] theorem nq_free_wrong : ((("free" : Str) = "wrong") = False) := eq_false (by decide +kernel)
@[simp] theorem ne_free_go_on : ((("free" : Str) == "go_on") = false) := by decide +kernel
@[simp] theorem nq_free_go_on : ((("free" : Str) = "go_on") = False) := eq_false (by decide +kernel)
@[simp] theorem ne_free_Gone : ((("free" : Str) == "Gone") = false) := by decide +kernel
@[simp] theorem nq_free_Gone : ((("free" : Str) = "Gone") = False) := eq_false (by decide +kernel)
@[simp] theorem ne_who_came : ((("who" : Str) == "came") = false) := by decide +kernel
@[simp] theorem nq_who_came : ((("who" : Str) = "came") = False) := eq_false (by decide +kernel)
@[simp] theorem ne_who_round : ((("who" : Str) == "round") = false) := by decide +kernel
@[simp] theorem nq_who_round : ((("who" : Str) = "round") = False) := eq_false (by decide +kernel)
@[simp] theorem ne_who_since : ((("who" : Str) == "since") = false) := by decide +kernel
@[simp] theorem nq_who_since : ((("who" : Str) = "since") = False) := eq_false (by decide +kernel)
@[simp] theorem ne_who_last : ((("who" : Str) == "last") = false) := by decide +kernel
@[simp] theorem nq_who_last : ((("who" : Str) = "last") = False) := eq_false (by decide +kernel)
@[simp] theorem ne_who_first : ((("who" : Str) == "first") = false) := by decide +kernel
@[simp] theorem nq_who_first : ((("who" : Str) = "first") = False) := eq_false (by decide +kernel)
@[simp] theorem ne_who_here : ((("who" : Str) == "here") = false) := by decide +kernel
@[simp] theorem nq_who_here : ((("who" : Str) = "here") = False) := eq_false (by decide +kernel)
@[simp] theorem ne_who_free : ((("who" : Str) == "free") = false) := by decide +kernel
@[simp] theorem nq_who_free : ((("who" : Str) = "free") = False) := eq_false (by decide +kernel)
@[simp] theorem ne_who_note : ((("who" : Str) == "note") = false) := by decide +kernel
@[simp] theorem nq_who_note : ((("who" : Str) = "note") = False) := eq_false (by decide +kernel)
@[simp] theorem ne_who_mine : ((("who" : Str) == "mine") = false) := by decide +kernel
@[simp] theorem nq_who_mine : ((("who" : Str) = "mine") = False) := eq_false (by decide +kernel)
@[simp] theorem ne_who_not : ((("who" : Str) == "not") = false) := by decide +kernel
@[simp] theorem nq_who_not : ((("who" : Str) = "not") = False) := eq_false (by decide +kernel)
@[simp] theorem ne_who_both : ((("who" : Str) == "both") = false) := by decide +kernel
@[simp] theorem nq_who_both : ((("who" : Str) = "both") = False) := eq_false (by decide +kernel)
@[simp] theorem ne_who_either : ((("who" : Str) == "either") = false) := by decide +kernel
@[simp] theorem nq_who_either : ((("who" : Str) = "either") = False) := eq_false (by decide +kernel)
@[simp] theorem ne_who_in : ((("who" : Str) == "in") = false) := by decide +kernel
@[simp] theorem nq_who_in : ((("who" : Str) = "in") = False) := eq_false (by decide +kernel)
@[simp] theorem ne_who_out : ((("who" : Str) == "out") = false) := by decide +kernel
@[simp] theorem nq_who_out : ((("who" : Str) = "out") = False) := eq_false (by decide +kernel)
@[simp] theorem ne_who_steps : ((("who" : Str) == "steps") = false) := by decide +kernel
@[simp] theorem nq_who_steps : ((("who" : Str) = "steps") = False) := eq_false (by decide +kernel)
@[simp] theorem ne_who_wrong : ((("who" : Str) == "wrong") = false) := by decide +kernel
@[simp] theorem nq_who_wrong : ((("who" : Str) = "wrong") = False) := eq_false (by decide +kernel)
@[simp] theorem ne_who_go_on : ((("who" : Str) == "go_on") = false) := by decide +kernel
@[simp] theorem nq_who_go_on : ((("who" : Str) = "go_on") = False) := eq_false (by decide +kernel)
@[simp] theorem ne_who_Gone : ((("who" : Str) == "Gone") = false) := by decide +kernel
@[simp] theorem nq_who_Gone : ((("who" : Str) = "Gone") = False) := eq_false (by decide +kernel)
@[simp] theorem ne_note_came : ((("note" : Str) == "came") = false) := by decide +kernel
@[simp] theorem nq_note_came : ((("note" : Str) = "came") = False) := eq_false (by decide +kernel)
@[simp] theorem ne_note_round : ((("note" : Str) == "round") = false) := by decide +kernel
@[simp] theorem nq_note_round : ((("note" : Str) = "round") = False) := eq_false (by decide +kernel)
@[simp] theorem ne_note_since : ((("note" : Str) == "since") = false) := by decide +kernel
@[simp] theorem nq_note_since : ((("note" : Str) = "since") = False) := eq_false (by decide +kernel)
@[simp] theorem ne_note_last : ((("note" : Str) == "last") = false) := by decide +kernel
@[simp] theorem nq_note_last : ((("note" : Str) = "last") = False) := eq_false (by decide +kernel)
@[simp] theorem ne_note_first : ((("note" : Str) == "first") = false) := by decide +kernel
@[simp] theorem nq_note_first : ((("note" : Str) = "first") = False) := eq_false (by decide +kernel)
@[simp] theorem ne_note_here : ((("note" : Str) == "here") = false) := by decide +kernel
@[simp] theorem nq_note_here : ((("note" : Str) = "here") = False) := eq_false (by decide +kernel)
@[simp] theorem ne_note_free : ((("note" : Str) == "free") = false) := by decide +kernel
@[simp] theorem nq_note_free : ((("note" : Str) = "free") = False) := eq_false (by decide +kernel)
@[simp] theorem ne_note_who : ((("note" : Str) == "who") = false) := by decide +kernel
@[simp] theorem nq_note_who : ((("note" : Str) = "who") = False) := eq_false (by decide +kernel)
@[simp] theorem ne_note_mine : ((("note" : Str) == "mine") = false) := by decide +kernel
@[simp] theorem nq_note_mine : ((("note" : Str) = "mine") = False) := eq_false (by decide +kernel)
@[simp] theorem ne_note_not : ((("note" : Str) == "not") = false) := by decide +kernel
@[simp] theorem nq_note_not : ((("note" : Str) = "not") = False) := eq_false (by decide +kernel)
@[simp] theorem ne_note_both : ((("note" : Str) == "both") = false) := by decide +kernel
@[simp] theorem nq_note_both : ((("note" : Str) = "both") = False) := eq_false (by decide +kernel)
@[simp] theorem ne_note_either : ((("note" : Str) == "either") = false) := by decide +kernel
@[simp] theorem nq_note_either : ((("note" : Str) = "either") = False) := eq_false (by decide +kernel)
@[simp] theorem ne_note_in : ((("note" : Str) == "in") = false) := by decide +kernel
@[simp] theorem nq_note_in : ((("note" : Str) = "in") = False) := eq_false (by decide +kernel)
@[simp] theorem ne_note_out : ((("note" : Str) == "out") = false) := by decide +kernel
@[simp] theorem nq_note_out : ((("note" : Str) = "out") = False) := eq_false (by decide +kernel)
@[simp] theorem ne_note_steps : ((("note" : Str) == "steps") = false) := by decide +kernel
@[simp] theorem nq_note_steps : ((("note" : Str) = "steps") = False) := eq_false (by decide +kernel)
@[simp] theorem ne_note_wrong : ((("note" : Str) == "wrong") = false) := by decide +kernel
@[simp] theorem nq_note_wrong : ((("note" : Str) = "wrong") = False) := eq_false (by decide +kernel)
@[simp] theorem ne_note_go_on : ((("note" : Str) == "go_on") = false) := by decide +kernel
@[simp] theorem nq_note_go_on : ((("note" : Str) = "go_on") = False) := eq_false (by decide +kernel)
@[simp] theorem ne_note_Gone : ((("note" : Str) == "Gone") = false) := by decide +kernel
@[simp] theorem nq_note_Gone : ((("note" : Str) = "Gone") = False) := eq_false (by decide +kernel)
@[simp] theorem ne_mine_came : ((("mine" : Str) == "came") = false) := by decide +kernel
@[simp] theorem nq_mine_came : ((("mine" : Str) = "came") = False) := eq_false (by decide +kernel)
@[simp] theorem ne_mine_round : ((("mine" : Str) == "round") = false) := by decide +kernel
@[simp] theorem nq_mine_round : ((("mine" : Str) = "round") = False) := eq_false (by decide +kernel)
@[simp] theorem ne_mine_since : ((("mine" : Str) == "since") = false) := by decide +kernel
@[simp] theorem nq_mine_since : ((("mine" : Str) = "since") = False) := eq_false (by decide +kernel)
@[simp] theorem ne_mine_last : ((("mine" : Str) == "last") = false) := by decide +kernel
@[simp] theorem nq_mine_last : ((("mine" : Str) = "last") = False) := eq_false (by decide +kernel)
@[simp] theorem ne_mine_first : ((("mine" : Str) == "first") = false) := by decide +kernel
@[simp] theorem nq_mine_first : ((("mine" : Str) = "first") = False) := eq_false (by decide +kernel)
@[simp] theorem ne_mine_here : ((("mine" : Str) == "here") = false) := by decide +kernel
@[simp] theorem nq_mine_here : ((("mine" : Str) = "here") = False) := eq_false (by decide +kernel)
@[simp] theorem ne_mine_free : ((("mine" : Str) == "free") = false) := by decide +kernel
@[simp] theorem nq_mine_free : ((("mine" : Str) = "free") = False) := eq_false (by decide +kernel)
@[simp] theorem ne_mine_who : ((("mine" : Str) == "who") = false) := by decide +kernel
@[simp] theorem nq_mine_who : ((("mine" : Str) = "who") = False) := eq_false (by decide +kernel)
@[simp] theorem ne_mine_note : ((("mine" : Str) == "note") = false) := by decide +kernel
@[simp] theorem nq_mine_note : ((("mine" : Str) = "note") = False) := eq_false (by decide +kernel)
@[simp] theorem ne_mine_not : ((("mine" : Str) == "not") = false) := by decide +kernel
@[simp] theorem nq_mine_not : ((("mine" : Str) = "not") = False) := eq_false (by decide +kernel)
@[simp] theorem ne_mine_both : ((("mine" : Str) == "both") = false) := by decide +kernel
@[simp] theorem nq_mine_both : ((("mine" : Str) = "both") = False) := eq_false (by decide +kernel)
@[simp] theorem ne_mine_either : ((("mine" : Str) == "either") = false) := by decide +kernel
@[simp] theorem nq_mine_either : ((("mine" : Str) = "either") = False) := eq_false (by decide +kernel)
@[simp] theorem ne_mine_in : ((("mine" : Str) == "in") = false) := by decide +kernel
@[simp] theorem nq_mine_in : ((("mine" : Str) = "in") = False) := eq_false (by decide +kernel)
@[simp] theorem ne_mine_out : ((("mine" : Str) == "out") = false) := by decide +kernel
@[simp] theorem nq_mine_out : ((("mine" : Str) = "out") = False) := eq_false (by decide +kernel)
@[simp] theorem ne_mine_steps : ((("mine" : Str) == "steps") = false) := by decide +kernel
@[simp] theorem nq_mine_steps : ((("mine" : Str) = "steps") = False) := eq_false (by decide +kernel)
@[simp] theorem ne_mine_wrong : ((("mine" : Str) == "wrong") = false) := by decide +kernel
@[simp] theorem nq_mine_wrong : ((("mine" : Str) = "wrong") = False) := eq_false (by decide +kernel)
@[simp] theorem ne_mine_go_on : ((("mine" : Str) == "go_on") = false) := by decide +kernel
@[simp] theorem nq_mine_go_on : ((("mine" : Str) = "go_on") = False) := eq_false (by decide +kernel)
@[simp] theorem ne_mine_Gone : ((("mine" : Str) == "Gone") = false) := by decide +kernel
@[simp] theorem nq_mine_Gone : ((("mine" : Str) = "Gone") = False) := eq_false (by decide +kernel)
@[simp] theorem ne_not_came : ((("not" : Str) == "came") = false) := by decide +kernel
@[simp] theorem nq_not_came : ((("not" : Str) = "came") = False) := eq_false (by decide +kernel)
@[simp] theorem ne_not_round : ((("not" : Str) == "round") = false) := by decide +kernel
@[simp] theorem nq_not_round : ((("not" : Str) = "round") = False) := eq_false (by decide +kernel)
@[simp] theorem ne_not_since : ((("not" : Str) == "since") = false) := by decide +kernel
@[simp] theorem nq_not_since : ((("not" : Str) = "since") = False) := eq_false (by decide +kernel)
@[simp] theorem ne_not_last : ((("not" : Str) == "last") = false) := by decide +kernel
@[simp] theorem nq_not_last : ((("not" : Str) = "last") = False) := eq_false (by decide +kernel)
@[simp] theorem ne_not_first : ((("not" : Str) == "first") = false) := by decide +kernel
@[simp] theorem nq_not_first : ((("not" : Str) = "first") = False) := eq_false (by decide +kernel)
@[simp] theorem ne_not_here : ((("not" : Str) == "here") = false) := by decide +kernel
@[simp] theorem nq_not_here : ((("not" : Str) = "here") = False) := eq_false (by decide +kernel)
@[simp] theorem ne_not_free : ((("not" : Str) == "free") = false) := by decide +kernel
@[simp] theorem nq_not_free : ((("not" : Str) = "free") = False) := eq_false (by decide +kernel)
@[simp] theorem ne_not_who : ((("not" : Str) == "who") = false) := by decide +kernel
@[simp] theorem nq_not_who : ((("not" : Str) = "who") = False) := eq_false (by decide +kernel)
@[simp] theorem ne_not_note : ((("not" : Str) == "note") = false) := by decide +kernel
@[simp] theorem nq_not_note : ((("not" : Str) = "note") = False) := eq_false (by decide +kernel)
@[simp] theorem ne_not_mine : ((("not" : Str) == "mine") = false) := by decide +kernel
@[simp] theorem nq_not_mine : ((("not" : Str) = "mine") = False) := eq_false (by decide +kernel)
@[simp] theorem ne_not_both : ((("not" : Str) == "both") = false) := by decide +kernel
@[simp] theorem nq_not_both : ((("not" : Str) = "both") = False) := eq_false (by decide +kernel)
@[simp] theorem ne_not_either : ((("not" : Str) == "either") = false) := by decide +kernel
@[simp] theorem nq_not_either : ((("not" : Str) = "either") = False) := eq_false (by decide +kernel)
@[simp] theorem ne_not_in : ((("not" : Str) == "in") = false) := by decide +kernel
@[simp] theorem nq_not_in : ((("not" : Str) = "in") = False) := eq_false (by decide +kernel)
@[simp] theorem ne_not_out : ((("not" : Str) == "out") = false) := by decide +kernel
@[simp] theorem nq_not_out : ((("not" : Str) = "out") = False) := eq_false (by decide +kernel)
@[simp] theorem ne_not_steps : ((("not" : Str) == "steps") = false) := by decide +kernel
@[simp] theorem nq_not_steps : ((("not" : Str) = "steps") = False) := eq_false (by decide +kernel)
@[simp] theorem ne_not_wrong : ((("not" : Str) == "wrong") = false) := by decide +kernel
@[simp] theorem nq_not_wrong : ((("not" : Str) = "wrong") = False) := eq_false (by decide +kernel)
@[simp] theorem ne_not_go_on : ((("not" : Str) == "go_on") = false) := by decide +kernel
@[simp] theorem nq_not_go_on : ((("not" : Str) = "go_on") = False) := eq_false (by decide +kernel)
@[simp] theorem ne_not_Gone : ((("not" : Str) == "Gone") = false) := by decide +kernel
@[simp] theorem nq_not_Gone : ((("not" : Str) = "Gone") = False) := eq_false (by decide +kernel)
@[simp] theorem ne_both_came : ((("both" : Str) == "came") = false) := by decide +kernel
@[simp] theorem nq_both_came : ((("both" : Str) = "came") = False) := eq_false (by decide +kernel)
@[simp] theorem ne_both_round : ((("both" : Str) == "round") = false) := by decide +kernel
@[simp] theorem nq_both_round : ((("both" : Str) = "round") = False) := eq_false (by decide +kernel)
@[simp] theorem ne_both_since : ((("both" : Str) == "since") = false) := by decide +kernel
@[simp] theorem nq_both_since : ((("both" : Str) = "since") = False) := eq_false (by decide +kernel)
@[simp] theorem ne_both_last : ((("both" : Str) == "last") = false) := by decide +kernel
@[simp] theorem nq_both_last : ((("both" : Str) = "last") = False) := eq_false (by decide +kernel)
@[simp] theorem ne_both_first : ((("both" : Str) == "first") = false) := by decide +kernel
@[simp] theorem nq_both_first : ((("both" : Str) = "first") = False) := eq_false (by decide +kernel)
@[simp] theorem ne_both_here : ((("both" : Str) == "here") = false) := by decide +kernel
@[simp] theorem nq_both_here : ((("both" : Str) = "here") = False) := eq_false (by decide +kernel)
@[simp] theorem ne_both_free : ((("both" : Str) == "free") = false) := by decide +kernel
@[simp] theorem nq_both_free : ((("both" : Str) = "free") = False) := eq_false (by decide +kernel)
@[simp] theorem ne_both_who : ((("both" : Str) == "who") = false) := by decide +kernel
@[simp] theorem nq_both_who : ((("both" : Str) = "who") = False) := eq_false (by decide +kernel)
@[simp] theorem ne_both_note : ((("both" : Str) == "note") = false) := by decide +kernel
@[simp] theorem nq_both_note : ((("both" : Str) = "note") = False) := eq_false (by decide +kernel)
@[simp] theorem ne_both_mine : ((("both" : Str) == "mine") = false) := by decide +kernel
@[simp] theorem nq_both_mine : ((("both" : Str) = "mine") = False) := eq_false (by decide +kernel)
@[simp] theorem ne_both_not : ((("both" : Str) == "not") = false) := by decide +kernel
@[simp] theorem nq_both_not : ((("both" : Str) = "not") = False) := eq_false (by decide +kernel)
@[simp] theorem ne_both_either : ((("both" : Str) == "either") = false) := by decide +kernel
@[simp] theorem nq_both_either : ((("both" : Str) = "either") = False) := eq_false (by decide +kernel)
@[simp] theorem ne_both_in : ((("both" : Str) == "in") = false) := by decide +kernel
@[simp] theorem nq_both_in : ((("both" : Str) = "in") = False) := eq_false (by decide +kernel)
@[simp] theorem ne_both_out : ((("both" : Str) == "out") = false) := by decide +kernel
@[simp] theorem nq_both_out : ((("both" : Str) = "out") = False) := eq_false (by decide +kernel)
@[simp] theorem ne_both_steps : ((("both" : Str) == "steps") = false) := by decide +kernel
@[simp] theorem nq_both_steps : ((("both" : Str) = "steps") = False) := eq_false (by decide +kernel)
@[simp] theorem ne_both_wrong : ((("both" : Str) == "wrong") = false) := by decide +kernel
@[simp] theorem nq_both_wrong : ((("both" : Str) = "wrong") = False) := eq_false (by decide +kernel)
@[simp] theorem ne_both_go_on : ((("both" : Str) == "go_on") = false) := by decide +kernel
@[simp] theorem nq_both_go_on : ((("both" : Str) = "go_on") = False) := eq_false (by decide +kernel)
@[simp] theorem ne_both_Gone : ((("both" : Str) == "Gone") = false) := by decide +kernel
@[simp] theorem nq_both_Gone : ((("both" : Str) = "Gone") = False) := eq_false (by decide +kernel)
@[simp] theorem ne_either_came : ((("either" : Str) == "came") = false) := by decide +kernel
@[simp] theorem nq_either_came : ((("either" : Str) = "came") = False) := eq_false (by decide +kernel)
@[simp] theorem ne_either_round : ((("either" : Str) == "round") = false) := by decide +kernel
@[simp] theorem nq_either_round : ((("either" : Str) = "round") = False) := eq_false (by decide +kernel)
@[simp] theorem ne_either_since : ((("either" : Str) == "since") = false) := by decide +kernel
@[simp] theorem nq_either_since : ((("either" : Str) = "since") = False) := eq_false (by decide +kernel)
@[simp] theorem ne_either_last : ((("either" : Str) == "last") = false) := by decide +kernel
@[simp] theorem nq_either_last : ((("either" : Str) = "last") = False) := eq_false (by decide +kernel)
@[simp] theorem ne_either_first : ((("either" : Str) == "first") = false) := by decide +kernel
@[simp] theorem nq_either_first : ((("either" : Str) = "first") = False) := eq_false (by decide +kernel)
@[simp] theorem ne_either_here : ((("either" : Str) == "here") = false) := by decide +kernel
@[simp] theorem nq_either_here : ((("either" : Str) = "here") = False) := eq_false (by decide +kernel)
@[simp] theorem ne_either_free : ((("either" : Str) == "free") = false) := by decide +kernel
@[simp] theorem nq_either_free : ((("either" : Str) = "free") = False) := eq_false (by decide +kernel)
@[simp] theorem ne_either_who : ((("either" : Str) == "who") = false) := by decide +kernel
@[simp] theorem nq_either_who : ((("either" : Str) = "who") = False) := eq_false (by decide +kernel)
@[simp] theorem ne_either_note : ((("either" : Str) == "note") = false) := by decide +kernel
@[simp] theorem nq_either_note : ((("either" : Str) = "note") = False) := eq_false (by decide +kernel)
@[simp] theorem ne_either_mine : ((("either" : Str) == "mine") = false) := by decide +kernel
@[simp] theorem nq_either_mine : ((("either" : Str) = "mine") = False) := eq_false (by decide +kernel)
@[simp] theorem ne_either_not : ((("either" : Str) == "not") = false) := by decide +kernel
@[simp] theorem nq_either_not : ((("either" : Str) = "not") = False) := eq_false (by decide +kernel)
@[simp] theorem ne_either_both : ((("either" : Str) == "both") = false) := by decide +kernel
@[simp] theorem nq_either_both : ((("either" : Str) = "both") = False) := eq_false (by decide +kernel)
@[simp] theorem ne_either_in : ((("either" : Str) == "in") = false) := by decide +kernel
@[simp] theorem nq_either_in : ((("either" : Str) = "in") = False) := eq_false (by decide +kernel)
@[simp] theorem ne_either_out : ((("either" : Str) == "out") = false) := by decide +kernel
@[simp] theorem nq_either_out : ((("either" : Str) = "out") = False) := eq_false (by decide +kernel)
@[simp] theorem ne_either_steps : ((("either" : Str) == "steps") = false) := by decide +kernel
@[simp] theorem nq_either_steps : ((("either" : Str) = "steps") = False) := eq_false (by decide +kernel)
@[simp] theorem ne_either_wrong : ((("either" : Str) == "wrong") = false) := by decide +kernel
@[simp] theorem nq_either_wrong : ((("either" : Str) = "wrong") = False) := eq_false (by decide +kernel)
@[simp] theorem ne_either_go_on : ((("either" : Str) == "go_on") = false) := by decide +kernel
@[simp] theorem nq_either_go_on : ((("either" : Str) = "go_on") = False) := eq_false (by decide +kernel)
@[simp] theorem ne_either_Gone : ((("either" : Str) == "Gone") = false) := by decide +kernel
@[simp] theorem nq_either_Gone : ((("either" : Str) = "Gone") = False) := eq_false (by decide +kernel)
@[simp] theorem ne_in_came : ((("in" : Str) == "came") = false) := by decide +kernel
@[simp] theorem nq_in_came : ((("in" : Str) = "came") = False) := eq_false (by decide +kernel)
@[simp] theorem ne_in_round : ((("in" : Str) == "round") = false) := by decide +kernel
@[simp] theorem nq_in_round : ((("in" : Str) = "round") = False) := eq_false (by decide +kernel)
@[simp] theorem ne_in_since : ((("in" : Str) == "since") = false) := by decide +kernel
@[simp] theorem nq_in_since : ((("in" : Str) = "since") = False) := eq_false (by decide +kernel)
@[simp] theorem ne_in_last : ((("in" : Str) == "last") = false) := by decide +kernel
@[simp] theorem nq_in_last : ((("in" : Str) = "last") = False) := eq_false (by decide +kernel)
@[simp] theorem ne_in_first : ((("in" : Str) == "first") = false) := by decide +kernel
@[simp] theorem nq_in_first : ((("in" : Str) = "first") = False) := eq_false (by decide +kernel)
@[simp] theorem ne_in_here : ((("in" : Str) == "here") = false) := by decide +kernel
@[simp] theorem nq_in_here : ((("in" : Str) = "here") = False) := eq_false (by decide +kernel)
@[simp] theorem ne_in_free : ((("in" : Str) == "free") = false) := by decide +kernel
@[simp] theorem nq_in_free : ((("in" : Str) = "free") = False) := eq_false (by decide +kernel)
@[simp] theorem ne_in_who : ((("in" : Str) == "who") = false) := by decide +kernel
@[simp] theorem nq_in_who : ((("in" : Str) = "who") = False) := eq_false (by decide +kernel)
@[simp] theorem ne_in_note : ((("in" : Str) == "note") = false) := by decide +kernel
@[simp] theorem nq_in_note : ((("in" : Str) = "note") = False) := eq_false (by decide +kernel)
@[simp] theorem ne_in_mine : ((("in" : Str) == "mine") = false) := by decide +kernel
@[simp] theorem nq_in_mine : ((("in" : Str) = "mine") = False) := eq_false (by decide +kernel)
@[simp] theorem ne_in_not : ((("in" : Str) == "not") = false) := by decide +kernel
@[simp] theorem nq_in_not : ((("in" : Str) = "not") = False) := eq_false (by decide +kernel)
@[simp] theorem ne_in_both : ((("in" : Str) == "both") = false) := by decide +kernel
@[simp] theorem nq_in_both : ((("in" : Str) = "both") = False) := eq_false (by decide +kernel)
@[simp] theorem ne_in_either : ((("in" : Str) == "either") = false) := by decide +kernel
@[simp] theorem nq_in_either : ((("in" : Str) = "either") = False) := eq_false (by decide +kernel)
@[simp] theorem ne_in_out : ((("in" : Str) == "out") = false) := by decide +kernel
@[simp] theorem nq_in_out : ((("in" : Str) = "out") = False) := eq_false (by decide +kernel)
@[simp] theorem ne_in_steps : ((("in" : Str) == "steps") = false) := by decide +kernel
@[simp] theorem nq_in_steps : ((("in" : Str) = "steps") = False) := eq_false (by decide +kernel)
@[simp] theorem ne_in_wrong : ((("in" : Str) == "wrong") = false) := by decide +kernel
@[simp] theorem nq_in_wrong : ((("in" : Str) = "wrong") = False) := eq_false (by decide +kernel)
@[simp] theorem ne_in_go_on : ((("in" : Str) == "go_on") = false) := by decide +kernel
@[simp] theorem nq_in_go_on : ((("in" : Str) = "go_on") = False) := eq_false (by decide +kernel)
@[simp] theorem ne_in_Gone : ((("in" : Str) == "Gone") = false) := by decide +kernel
@[simp] theorem nq_in_Gone : ((("in" : Str) = "Gone") = False) := eq_false (by decide +kernel)
@[simp] theorem ne_out_came : ((("out" : Str) == "came") = false) := by decide +kernel
@[simp] theorem nq_out_came : ((("out" : Str) = "came") = False) := eq_false (by decide +kernel)
@[simp] theorem ne_out_round : ((("out" : Str) == "round") = false) := by decide +kernel
@[simp] theorem nq_out_round : ((("out" : Str) = "round") = False) := eq_false (by decide +kernel)
@[simp] theorem ne_out_since : ((("out" : Str) == "since") = false) := by decide +kernel
@[simp] theorem nq_out_since : ((("out" : Str) = "since") = False) := eq_false (by decide +kernel)
@[simp] theorem ne_out_last : ((("out" : Str) == "last") = false) := by decide +kernel
@[simp] theorem nq_out_last : ((("out" : Str) = "last") = False) := eq_false (by decide +kernel)
@[simp] theorem ne_out_first : ((("out" : Str) == "first") = false) := by decide +kernel
@[simp] theorem nq_out_first : ((("out" : Str) = "first") = False) := eq_false (by decide +kernel)
@[simp] theorem ne_out_here : ((("out" : Str) == "here") = false) := by decide +kernel
@[simp] theorem nq_out_here : ((("out" : Str) = "here") = False) := eq_false (by decide +kernel)
@[simp] theorem ne_out_free : ((("out" : Str) == "free") = false) := by decide +kernel
@[simp] theorem nq_out_free : ((("out" : Str) = "free") = False) := eq_false (by decide +kernel)
@[simp] theorem ne_out_who : ((("out" : Str) == "who") = false) := by decide +kernel
@[simp] theorem nq_out_who : ((("out" : Str) = "who") = False) := eq_false (by decide +kernel)
@[simp] theorem ne_out_note : ((("out" : Str) == "note") = false) := by decide +kernel
@[simp] theorem nq_out_note : ((("out" : Str) = "note") = False) := eq_false (by decide +kernel)
@[simp] theorem ne_out_mine : ((("out" : Str) == "mine") = false) := by decide +kernel
@[simp] theorem nq_out_mine : ((("out" : Str) = "mine") = False) := eq_false (by decide +kernel)
@[simp] theorem ne_out_not : ((("out" : Str) == "not") = false) := by decide +kernel
@[simp] theorem nq_out_not : ((("out" : Str) = "not") = False) := eq_false (by decide +kernel)
@[simp] theorem ne_out_both : ((("out" : Str) == "both") = false) := by decide +kernel
@[simp] theorem nq_out_both : ((("out" : Str) = "both") = False) := eq_false (by decide +kernel)
@[simp] theorem ne_out_either : ((("out" : Str) == "either") = false) := by decide +kernel
@[simp] theorem nq_out_either : ((("out" : Str) = "either") = False) := eq_false (by decide +kernel)
@[simp] theorem ne_out_in : ((("out" : Str) == "in") = false) := by decide +kernel
@[simp] theorem nq_out_in : ((("out" : Str) = "in") = False) := eq_false (by decide +kernel)
@[simp] theorem ne_out_steps : ((("out" : Str) == "steps") = false) := by decide +kernel
@[simp] theorem nq_out_steps : ((("out" : Str) = "steps") = False) := eq_false (by decide +kernel)
@[simp] theorem ne_out_wrong : ((("out" : Str) == "wrong") = false) := by decide +kernel
@[simp] theorem nq_out_wrong : ((("out" : Str) = "wrong") = False) := eq_false (by decide +kernel)
@[simp] theorem ne_out_go_on : ((("out" : Str) == "go_on") = false) := by decide +kernel
@[simp] theorem nq_out_go_on : ((("out" : Str) = "go_on") = False) := eq_false (by decide +kernel)
@[simp] theorem ne_out_Gone : ((("out" : Str) == "Gone") = false) := by decide +kernel
@[simp] theorem nq_out_Gone : ((("out" : Str) = "Gone") = False) := eq_false (by decide +kernel)
@[simp] theorem ne_steps_came : ((("steps" : Str) == "came") = false) := by decide +kernel
@[simp] theorem nq_steps_came : ((("steps" : Str) = "came") = False) := eq_false (by decide +kernel)
@[simp] theorem ne_steps_round : ((("steps" : Str) == "round") = false) := by decide +kernel
@[simp] theorem nq_steps_round : ((("steps" : Str) = "round") = False) := eq_false (by decide +kernel)
@[simp] theorem ne_steps_since : ((("steps" : Str) == "since") = false) := by decide +kernel
@[simp] theorem nq_steps_since : ((("steps" : Str) = "since") = False) := eq_false (by decide +kernel)
@[simp] theorem ne_steps_last : ((("steps" : Str) == "last") = false) := by decide +kernel
@[simp] theorem nq_steps_last : ((("steps" : Str) = "last") = False) := eq_false (by decide +kernel)
@[simp] theorem ne_steps_first : ((("steps" : Str) == "first") = false) := by decide +kernel
@[simp] theorem nq_steps_first : ((("steps" : Str) = "first") = False) := eq_false (by decide +kernel)
@[simp] theorem ne_steps_here : ((("steps" : Str) == "here") = false) := by decide +kernel
@[simp] theorem nq_steps_here : ((("steps" : Str) = "here") = False) := eq_false (by decide +kernel)
@[simp] theorem ne_steps_free : ((("steps" : Str) == "free") = false) := by decide +kernel
@[simp] theorem nq_steps_free : ((("steps" : Str) = "free") = False) := eq_false (by decide +kernel)
@[simp] theorem ne_steps_who : ((("steps" : Str) == "who") = false) := by decide +kernel
@[simp] theorem nq_steps_who : ((("steps" : Str) = "who") = False) := eq_false (by decide +kernel)
@[simp] theorem ne_steps_note : ((("steps" : Str) == "note") = false) := by decide +kernel
@[simp] theorem nq_steps_note : ((("steps" : Str) = "note") = False) := eq_false (by decide +kernel)
@[simp] theorem ne_steps_mine : ((("steps" : Str) == "mine") = false) := by decide +kernel
@[simp] theorem nq_steps_mine : ((("steps" : Str) = "mine") = False) := eq_false (by decide +kernel)
@[simp] theorem ne_steps_not : ((("steps" : Str) == "not") = false) := by decide +kernel
@[simp] theorem nq_steps_not : ((("steps" : Str) = "not") = False) := eq_false (by decide +kernel)
@[simp] theorem ne_steps_both : ((("steps" : Str) == "both") = false) := by decide +kernel
@[simp] theorem nq_steps_both : ((("steps" : Str) = "both") = False) := eq_false (by decide +kernel)
@[simp] theorem ne_steps_either : ((("steps" : Str) == "either") = false) := by decide +kernel
@[simp] theorem nq_steps_either : ((("steps" : Str) = "either") = False) := eq_false (by decide +kernel)
@[simp] theorem ne_steps_in : ((("steps" : Str) == "in") = false) := by decide +kernel
@[simp] theorem nq_steps_in : ((("steps" : Str) = "in") = False) := eq_false (by decide +kernel)
@[simp] theorem ne_steps_out : ((("steps" : Str) == "out") = false) := by decide +kernel
@[simp] theorem nq_steps_out : ((("steps" : Str) = "out") = False) := eq_false (by decide +kernel)
@[simp] theorem ne_steps_wrong : ((("steps" : Str) == "wrong") = false) := by decide +kernel
@[simp] theorem nq_steps_wrong : ((("steps" : Str) = "wrong") = False) := eq_false (by decide +kernel)
@[simp] theorem ne_steps_go_on : ((("steps" : Str) == "go_on") = false) := by decide +kernel
@[simp] theorem nq_steps_go_on : ((("steps" : Str) = "go_on") = False) := eq_false (by decide +kernel)
@[simp] theorem ne_steps_Gone : ((("steps" : Str) == "Gone") = false) := by decide +kernel
@[simp] theorem nq_steps_Gone : ((("steps" : Str) = "Gone") = False) := eq_false (by decide +kernel)
@[simp] theorem ne_wrong_came : ((("wrong" : Str) == "came") = false) := by decide +kernel
@[simp] theorem nq_wrong_came : ((("wrong" : Str) = "came") = False) := eq_false (by decide +kernel)
@[simp] theorem ne_wrong_round : ((("wrong" : Str) == "round") = false) := by decide +kernel
@[simp] theorem nq_wrong_round : ((("wrong" : Str) = "round") = False) := eq_false (by decide +kernel)
@[simp] theorem ne_wrong_since : ((("wrong" : Str) == "since") = false) := by decide +kernel
@[simp] theorem nq_wrong_since : ((("wrong" : Str) = "since") = False) := eq_false (by decide +kernel)
@[simp] theorem ne_wrong_last : ((("wrong" : Str) == "last") = false) := by decide +kernel
@[simp] theorem nq_wrong_last : ((("wrong" : Str) = "last") = False) := eq_false (by decide +kernel)
@[simp] theorem ne_wrong_first : ((("wrong" : Str) == "first") = false) := by decide +kernel
@[simp] theorem nq_wrong_first : ((("wrong" : Str) = "first") = False) := eq_false (by decide +kernel)
@[simp] theorem ne_wrong_here : ((("wrong" : Str) == "here") = false) := by decide +kernel
@[simp] theorem nq_wrong_here : ((("wrong" : Str) = "here") = False) := eq_false (by decide +kernel)
@[simp] theorem ne_wrong_free : ((("wrong" : Str) == "free") = false) := by decide +kernel
@[simp] theorem nq_wrong_free : ((("wrong" : Str) = "free") = False) := eq_false (by decide +kernel)
@[simp] theorem ne_wrong_who : ((("wrong" : Str) == "who") = false) := by decide +kernel
@[simp] theorem nq_wrong_who : ((("wrong" : Str) = "who") = False) := eq_false (by decide +kernel)
@[simp] theorem ne_wrong_note : ((("wrong" : Str) == "note") = false) := by decide +kernel
@[simp] theorem nq_wrong_note : ((("wrong" : Str) = "note") = False) := eq_false (by decide +kernel)
@[simp] theorem ne_wrong_mine : ((("wrong" : Str) == "mine") = false) := by decide +kernel
@[simp] theorem nq_wrong_mine : ((("wrong" : Str) = "mine") = False) := eq_false (by decide +kernel)
@[simp] theorem ne_wrong_not : ((("wrong" : Str) == "not") = false) := by decide +kernel
@[simp] theorem nq_wrong_not : ((("wrong" : Str) = "not") = False) := eq_false (by decide +kernel)
@[simp] theorem ne_wrong_both : ((("wrong" : Str) == "both") = false) := by decide +kernel
@[simp] theorem nq_wrong_both : ((("wrong" : Str) = "both") = False) := eq_false (by decide +kernel)
@[simp] theorem ne_wrong_either : ((("wrong" : Str) == "either") = false) := by decide +kernel
@[simp] theorem nq_wrong_either : ((("wrong" : Str) = "either") = False) := eq_false (by decide +kernel)
@[simp] theorem ne_wrong_in : ((("wrong" : Str) == "in") = false) := by decide +kernel
@[simp] theorem nq_wrong_in : ((("wrong" : Str) = "in") = False) := eq_false (by decide +kernel)
@[simp] theorem ne_wrong_out : ((("wrong" : Str) == "out") = false) := by decide +kernel
@[simp] theorem nq_wrong_out : ((("wrong" : Str) = "out") = False) := eq_false (by decide +kernel)
@[simp] theorem ne_wrong_steps : ((("wrong" : Str) == "steps") = false) := by decide +kernel
@[simp] theorem nq_wrong_steps : ((("wrong" : Str) = "steps") = False) := eq_false (by decide +kernel)
@[simp] theorem ne_wrong_go_on : ((("wrong" : Str) == "go_on") = false) := by decide +kernel
@[simp] theorem nq_wrong_go_on : ((("wrong" : Str) = "go_on") = False) := eq_false (by decide +kernel)
@[simp] theorem ne_wrong_Gone : ((("wrong" : Str) == "Gone") = false) := by decide +kernel
@[simp] theorem nq_wrong_Gone : ((("wrong" : Str) = "Gone") = False) := eq_false (by decide +kernel)
@[simp] theorem ne_go_on_came : ((("go_on" : Str) == "came") = false) := by decide +kernel
@[simp] theorem nq_go_on_came : ((("go_on" : Str) = "came") = False) := eq_false (by decide +kernel)
@[simp] theorem ne_go_on_round : ((("go_on" : Str) == "round") = false) := by decide +kernel
@[simp] theorem nq_go_on_round : ((("go_on" : Str) = "round") = False) := eq_false (by decide +kernel)
@[simp] theorem ne_go_on_since : ((("go_on" : Str) == "since") = false) := by decide +kernel
@[simp] theorem nq_go_on_since : ((("go_on" : Str) = "since") = False) := eq_false (by decide +kernel)
@[simp] theorem ne_go_on_last : ((("go_on" : Str) == "last") = false) := by decide +kernel
@[simp] theorem nq_go_on_last : ((("go_on" : Str) = "last") = False) := eq_false (by decide +kernel)
@[simp] theorem ne_go_on_first : ((("go_on" : Str) == "first") = false) := by decide +kernel
@[simp] theorem nq_go_on_first : ((("go_on" : Str) = "first") = False) := eq_false (by decide +kernel)
@[simp] theorem ne_go_on_here : ((("go_on" : Str) == "here") = false) := by decide +kernel
@[simp] theorem nq_go_on_here : ((("go_on" : Str) = "here") = False) := eq_false (by decide +kernel)
@[simp] theorem ne_go_on_free : ((("go_on" : Str) == "free") = false) := by decide +kernel
@[simp] theorem nq_go_on_free : ((("go_on" : Str) = "free") = False) := eq_false (by decide +kernel)
@[simp] theorem ne_go_on_who : ((("go_on" : Str) == "who") = false) := by decide +kernel
@[simp] theorem nq_go_on_who : ((("go_on" : Str) = "who") = False) := eq_false (by decide +kernel)
@[simp] theorem ne_go_on_note : ((("go_on" : Str) == "note") = false) := by decide +kernel
@[simp] theorem nq_go_on_note : ((("go_on" : Str) = "note") = False) := eq_false (by decide +kernel)
@[simp] theorem ne_go_on_mine : ((("go_on" : Str) == "mine") = false) := by decide +kernel
@[simp] theorem nq_go_on_mine : ((("go_on" : Str) = "mine") = False) := eq_false (by decide +kernel)
@[simp] theorem ne_go_on_not : ((("go_on" : Str) == "not") = false) := by decide +kernel
@[simp] theorem nq_go_on_not : ((("go_on" : Str) = "not") = False) := eq_false (by decide +kernel)
@[simp] theorem ne_go_on_both : ((("go_on" : Str) == "both") = false) := by decide +kernel
@[simp] theorem nq_go_on_both : ((("go_on" : Str) = "both") = False) := eq_false (by decide +kernel)
@[simp] theorem ne_go_on_either : ((("go_on" : Str) == "either") = false) := by decide +kernel
@[simp] theorem nq_go_on_either : ((("go_on" : Str) = "either") = False) := eq_false (by decide +kernel)
@[simp] theorem ne_go_on_in : ((("go_on" : Str) == "in") = false) := by decide +kernel
@[simp] theorem nq_go_on_in : ((("go_on" : Str) = "in") = False) := eq_false (by decide +kernel)
@[simp] theorem ne_go_on_out : ((("go_on" : Str) == "out") = false) := by decide +kernel
@[simp] theorem nq_go_on_out : ((("go_on" : Str) = "out") = False) := eq_false (by decide +kernel)
@[simp] theorem ne_go_on_steps : ((("go_on" : Str) == "steps") = false) := by decide +kernel
@[simp] theorem nq_go_on_steps : ((("go_on" : Str) = "steps") = False) := eq_false (by decide +kernel)
@[simp] theorem ne_go_on_wrong : ((("go_on" : Str) == "wrong") = false) := by decide +kernel
@[simp] theorem nq_go_on_wrong : ((("go_on" : Str) = "wrong") = False) := eq_false (by decide +kernel)
@[simp] theorem ne_go_on_Gone : ((("go_on" : Str) == "Gone") = false) := by decide +kernel
@[simp] theorem nq_go_on_Gone : ((("go_on" : Str) = "Gone") = False) := eq_false (by decide +kernel)
@[simp] theorem ne_Gone_came : ((("Gone" : Str) == "came") = false) := by decide +kernel
@[simp] theorem nq_Gone_came : ((("Gone" : Str) = "came") = False) := eq_false (by decide +kernel)
@[simp] theorem ne_Gone_round : ((("Gone" : Str) == "round") = false) := by decide +kernel
@[simp] theorem nq_Gone_round : ((("Gone" : Str) = "round") = False) := eq_false (by decide +kernel)
@[simp] theorem ne_Gone_since : ((("Gone" : Str) == "since") = false) := by decide +kernel
@[simp] theorem nq_Gone_since : ((("Gone" : Str) = "since") = False) := eq_false (by decide +kernel)
@[simp] theorem ne_Gone_last : ((("Gone" : Str) == "last") = false) := by decide +kernel
@[simp] theorem nq_Gone_last : ((("Gone" : Str) = "last") = False) := eq_false (by decide +kernel)
@[simp] theorem ne_Gone_first : ((("Gone" : Str) == "first") = false) := by decide +kernel
@[simp] theorem nq_Gone_first : ((("Gone" : Str) = "first") = False) := eq_false (by decide +kernel)
@[simp] theorem ne_Gone_here : ((("Gone" : Str) == "here") = false) := by decide +kernel
@[simp] theorem nq_Gone_here : ((("Gone" : Str) = "here") = False) := eq_false (by decide +kernel)
@[simp] theorem ne_Gone_free : ((("Gone" : Str) == "free") = false) := by decide +kernel
@[simp] theorem nq_Gone_free : ((("Gone" : Str) = "free") = False) := eq_false (by decide +kernel)
@[simp] theorem ne_Gone_who : ((("Gone" : Str) == "who") = false) := by decide +kernel
@[simp] theorem nq_Gone_who : ((("Gone" : Str) = "who") = False) := eq_false (by decide +kernel)
@[simp] theorem ne_Gone_note : ((("Gone" : Str) == "note") = false) := by decide +kernel
@[simp] theorem nq_Gone_note : ((("Gone" : Str) = "note") = False) := eq_false (by decide +kernel)
@[simp] theorem ne_Gone_mine : ((("Gone" : Str) == "mine") = false) := by decide +kernel
@[simp] theorem nq_Gone_mine : ((("Gone" : Str) = "mine") = False) := eq_false (by decide +kernel)
@[simp] theorem ne_Gone_not : ((("Gone" : Str) == "not") = false) := by decide +kernel
@[simp] theorem nq_Gone_not : ((("Gone" : Str) = "not") = False) := eq_false (by decide +kernel)
@[simp] theorem ne_Gone_both : ((("Gone" : Str) == "both") = false) := by decide +kernel
@[simp] theorem nq_Gone_both : ((("Gone" : Str) = "both") = False) := eq_false (by decide +kernel)
@[simp] theorem ne_Gone_either : ((("Gone" : Str) == "either") = false) := by decide +kernel
@[simp] theorem nq_Gone_either : ((("Gone" : Str) = "either") = False) := eq_false (by decide +kernel)
@[simp] theorem ne_Gone_in : ((("Gone" : Str) == "in") = false) := by decide +kernel
@[simp] theorem nq_Gone_in : ((("Gone" : Str) = "in") = False) := eq_false (by decide +kernel)
@[simp] theorem ne_Gone_out : ((("Gone" : Str) == "out") = false) := by decide +kernel
@[simp] theorem nq_Gone_out : ((("Gone" : Str) = "out") = False) := eq_false (by decide +kernel)
@[simp] theorem ne_Gone_steps : ((("Gone" : Str) == "steps") = false) := by decide +kernel
@[simp] theorem nq_Gone_steps : ((("Gone" : Str) = "steps") = False) := eq_false (by decide +kernel)
@[simp] theorem ne_Gone_wrong : ((("Gone" : Str) == "wrong") = false) := by decide +kernel
@[simp] theorem nq_Gone_wrong : ((("Gone" : Str) = "wrong") = False) := eq_false (by decide +kernel)
@[simp] theorem ne_Gone_go_on : ((("Gone" : Str) == "go_on") = false) := by decide +kernel
@[simp] theorem nq_Gone_go_on : ((("Gone" : Str) = "go_on") = False) := eq_false (by decide +kernel)
theorem R.bind_cg {α β : Type} {r r' : R α} (h : r = r') (f : α → Store → R β) : r.bind f = r'.bind f := by rw [h]
theorem R.then_cg {α : Type} {r r' : R α} (h : r = r') (env : Env) (f : α → Store → SR) : r.then env f = r'.then env f := by rw [h]
theorem SR.bind_cg {r r' : SR} (h : r = r') (f : Env → Store → SR) : r.bind f = r'.bind f := by rw [h]
@[simp] theorem xb_ok {α β : Type} (a : α) (S : Store) (f : α → Store → R β) : (R.ok a S).bind f = f a S := (rfl)
@[simp] theorem xt_ok {α : Type} (a : α) (S : Store) (env : Env) (f : α → Store → SR) : (R.ok a S).then env f = f a S := (rfl)
@[simp] theorem xs_nx (env : Env) (S : Store) (f : Env → Store → SR) : (SR.next env S).bind f = f env S := (rfl)
@[simp] theorem xs_rt (v : Val) (S : Store) (f : Env → Store → SR) : (SR.ret v S).bind f = .ret v S := (rfl)
@[simp] theorem xs_brk (env : Env) (S : Store) (f : Env → Store → SR) : (SR.brk env S).bind f = .brk env S := (rfl)
@[simp] theorem xs_cont (env : Env) (S : Store) (f : Env → Store → SR) : (SR.cont env S).bind f = .cont env S := (rfl)
@[simp] theorem xR_rt (v : Val) (S : Store) : (SR.ret v S).toR = .ok v S := (rfl)
@[simp] theorem xR_nx (env : Env) (S : Store) : (SR.next env S).toR = .ok .non S := (rfl)
@[simp] theorem xno (a : α) (S : Store) : (R.ok a S).noexc = .ok a S := (rfl)
@[simp] theorem xof (a : α) (S : Store) : R.of (some a) S = .ok a S := (rfl)
def cR (v : Val) (a b : R Val) : R Val := match v with
  | .bl true => a
  | .bl false => b
  | _ => .stuck
def cS (v : Val) (a b : SR) : SR := match v with
  | .bl true => a
  | .bl false => b
  | _ => .stuck
theorem cR_cg {v v' : Val} (h : v = v') (a b : R Val) : cR v a b = cR v' a b := by rw [h]
theorem cS_cg {v v' : Val} (h : v = v') (a b : SR) : cS v a b = cS v' a b := by rw [h]
@[simp ↓] theorem cR_t (a b : R Val) : cR (.bl true) a b = a := (rfl)
@[simp ↓] theorem cR_f (a b : R Val) : cR (.bl false) a b = b := (rfl)
@[simp ↓] theorem cS_t (a b : SR) : cS (.bl true) a b = a := (rfl)
@[simp ↓] theorem cS_f (a b : SR) : cS (.bl false) a b = b := (rfl)
def vE : Env → Nat → Store → R Val
  | [], _, _ => .stuck
  | some v :: _, 0, S => .ok v S
  | none :: _, 0, _ => .stuck
  | _ :: r, i + 1, S => vE r i S
@[simp ↓] theorem vE_0 (v : Val) (r : Env) (S : Store) : vE (some v :: r) 0 S = .ok v S := (rfl)
@[simp ↓] theorem vE_s (x : Option Val) (r : Env) (i : Nat) (S : Store) : vE (x :: r) (i + 1) S = vE r i S := by cases x <;> rfl
theorem vE_eq : ∀ (env : Env) (i : Nat) (S : Store), (match env[i]? with
    | some (some v) => R.ok v S
    | _ => .stuck) = vE env i S
  | [], i, S => by simp [vE]
  | some v :: r, 0, S => rfl
  | none :: r, 0, S => rfl
  | x :: r, i + 1, S => by
    rw [vE_s, ← vE_eq r i S]; rfl
def fnE : Env → Nat → (Nat → R Val) → R Val
  | [], _, _ => .stuck
  | some (.fn j) :: _, 0, k => k j
  | _ :: _, 0, _ => .stuck
  | _ :: r, i + 1, k => fnE r i k
@[simp ↓] theorem fnE_0 (j : Nat) (r : Env) (k : Nat → R Val) : fnE (some (.fn j) :: r) 0 k = k j := (rfl)
@[simp ↓] theorem fnE_s (x : Option Val) (r : Env) (i : Nat) (k : Nat → R Val) : fnE (x :: r) (i + 1) k = fnE r i k := by
  cases x with
  | none => rfl
  | some v => cases v <;> rfl
section
variable (C : Calls) (env : Env) (S : Store)
@[simp] theorem x_var (i : Nat) : evE C (.var i) env S = vE env i S := vE_eq env i S
@[simp] theorem x_con (v : Val) : evE C (.con v) env S = .ok v S := (rfl)
@[simp] theorem x_glob (x : Str) (i : Int) : evE C (.glob x i) env S = .ok (.int i) S := (rfl)
@[simp] theorem x_bin (o : Operator) (a b : IE) : evE C (.bin o a b) env S = (evE C a env S).bind fun x S1 => (evE C b env S1).bind fun y S2 => R.of (binV o x y) S2 := (rfl)
@[simp] theorem x_neg (a : IE) : evE C (.neg a) env S = (evE C a env S).bind fun x S1 => match x with
    | .int i => .ok (.int (-i)) S1
    | _ => .stuck := (rfl)
@[simp] theorem x_not (a : IE) : evE C (.not a) env S = (evE C a env S).bind fun x S1 => match x with
    | .bl c => .ok (.bl (!c)) S1
    | _ => .stuck := (rfl)
@[simp] theorem x_cmp (o : CmpOp) (a b : IE) : evE C (.cmp o a b) env S = (evE C a env S).bind fun x S1 => (evE C b env S1).bind fun y S2 => R.of ((cmpV o (rd S2 x) (rd S2 y)).map .bl) S2 := (rfl)
def oB (o : Option Bool) (a b : R Val) : R Val := match o with
  | some true => a
  | some false => b
  | none => .stuck
theorem oB_cg {v v' : Option Bool} (h : v = v') (a b : R Val) : oB v a b = oB v' a b := by rw [h]
@[simp ↓] theorem oB_t (a b : R Val) : oB (some true) a b = a := (rfl)
@[simp ↓] theorem oB_f (a b : R Val) : oB (some false) a b = b := (rfl)
/-- a condition of a chain, undecided -/
@[simp] theorem oB_b (c d : Bool) (S : Store) : oB (some c) (.ok (.bl d) S) (.ok (.bl false) S) = .ok (.bl (c && d)) S := by cases c <;> rfl
@[simp] theorem x_chain (o o' : CmpOp) (a b c : IE) : evE C (.chain o o' a b c) env S = (evE C a env S).bind fun x S1 => (evE C b env S1).bind fun y S2 => oB (cmpV o (rd S2 x) (rd S2 y)) ((evE C c env S2).bind fun z S3 => R.of ((cmpV o' (rd S3 y) (rd S3 z)).map .bl) S3) (.ok (.bl false) S2) := (rfl)
@[simp] theorem x_and (a b : IE) : evE C (.and a b) env S = (evE C a env S).bind fun x S1 => cR x (evE C b env S1) (.ok (.bl false) S1) := (rfl)
@[simp] theorem x_or (a b : IE) : evE C (.or a b) env S = (evE C a env S).bind fun x S1 => cR x (.ok (.bl true) S1) (evE C b env S1) := (rfl)
@[simp] theorem x_last (a : IE) : evE C (.last a) env S = evE C a env S := (rfl)
@[simp] theorem x_ite (c a b : IE) : evE C (.ite c a b) env S = (evE C c env S).bind fun x S1 => cR x (evE C a env S1) (evE C b env S1) := (rfl)
@[simp] theorem x_tup (es : IE) : evE C (.tup es) env S = (evAs C es env S).bind fun vs S1 => .ok (.tup vs) S1 := (rfl)
@[simp] theorem x_lst (m : Bool) (es : IE) : evE C (.lst m es) env S = (evAs C es env S).bind fun vs S1 => alloc m vs S1 := (rfl)
@[simp] theorem x_call (j : Nat) (es : IE) : evE C (.call j es) env S = (evAs C es env S).bind fun vs S1 => C j vs S1 := (rfl)
@[simp] theorem x_callv (i : Nat) (es : IE) : evE C (.callv i es) env S = fnE env i fun j => (evAs C es env S).bind fun vs S1 => C j vs S1 := by
  have : ∀ (e : Env) (i : Nat) (k : Nat → R Val), (match e[i]? with
    | some (some (.fn j)) => k j
    | _ => .stuck) = fnE e i k := by
    intro e
    induction e with
    | nil => intro i k; simp [fnE]
    | cons x r ih =>
      intro i k
      cases i with
      | zero => cases x with
        | none => rfl
        | some v => cases v <;> rfl
      | succ i => rw [fnE_s, ← ih]; rfl
  exact this env i _
@[simp] theorem x_blt (b : Blt) (es : IE) : evE C (.blt b es) env S = (evAs C es env S).bind fun vs S1 => bltV b vs S1 := (rfl)
@[simp] theorem x_isi (t : Ty) (e : IE) : evE C (.isi t e) env S = (evE C e env S).bind fun x S1 => R.of ((isTy S1 t x).map .bl) S1 := (rfl)
@[simp] theorem x_mth (m : Mth) (o es : IE) : evE C (.mth m o es) env S = (evE C o env S).bind fun x S1 => if isLst S1 x then (evAs C es env S1).bind fun vs S2 => mthV m x vs S2 else .stuck := (rfl)
@[simp] theorem x_ix (a i : IE) : evE C (.ix a i) env S = (evE C a env S).bind fun x S1 => (evE C i env S1).bind fun y S2 => R.of (ixV S2 x y) S2 := (rfl)
def oP {α β : Type} (o : Option α) (k : α → R β) : R β := match o with
  | some p => k p
  | none => .stuck
theorem oP_cg {α β : Type} {o o' : Option α} (h : o = o') (k : α → R β) : oP o k = oP o' k := by rw [h]
@[simp] theorem oP_some {α β : Type} (p : α) (k : α → R β) : oP (some p) k = k p := (rfl)
@[simp] theorem x_omit : evE C .omit env S = .ok .non S := (rfl)
@[simp] theorem x_slc (a lo hi : IE) : evE C (.slc a lo hi) env S = (evE C a env S).bind fun x S1 => (evE C lo env S1).bind fun l S2 => oP (partV lo l) fun p => (evE C hi env S2).bind fun h S3 => oP (partV hi h) fun q => R.of (slcV S3 x p q) S3 := by
  rw [show evE C (.slc a lo hi) env S = (evE C a env S).bind fun x S1 => (evE C lo env S1).bind fun l S2 => match partV lo l with
    | some p => (evE C hi env S2).bind fun h S3 => match partV hi h with
      | some q => R.of (slcV S3 x p q) S3
      | none => .stuck
    | none => .stuck from rfl]
  congr 1; funext x S1; congr 1; funext l S2
  cases partV lo l with
  | none => rfl
  | some p =>
    simp only [oP_some]
    congr 1; funext h S3
    cases partV hi h <;> rfl
@[simp] theorem x_fld (o : IE) (f : Str) : evE C (.fld o f) env S = (evE C o env S).bind fun x S1 => R.of (fldV S1 x f) S1 := (rfl)
@[simp] theorem x_gin (neg : Bool) (x : Str) (tb : List (Str × Nat)) (k : IE) : evE C (.gin neg x tb k) env S = (evE C k env S).bind fun x S1 => R.of (ginV neg tb x) S1 := (rfl)
@[simp] theorem x_gget (x : Str) (tb : List (Str × Nat)) (k : IE) : evE C (.gget x tb k) env S = (evE C k env S).bind fun x S1 => R.of (ggetV tb x) S1 := (rfl)
/-- an element's turn -/
def lcB (C : Calls) (own : List (Str × Nat)) (tg : Tg) (cond elt : IE) (env : Env) : Val → Store → R (Option Val) := fun x S => match asg tg x (wipeE env (own.map (·.2))) with
  | some env1 => ((evE C cond env1 S).bind fun c S2 => match c with
    | .bl true => (evE C elt env1 S2).bind fun v S3 => .ok (some v) S3
    | .bl false => .ok none S2
    | _ => .stuck).noexc
  | none => .stuck
def lcB2 (C : Calls) (own2 : List Nat) (tg2 : Tg) (elt : IE) (env1 : Env) : Val → Store → R (Option Val) := fun y S => match asg tg2 y (wipeE env1 own2) with
  | some env2 => ((evE C elt env2 S).bind fun v S3 => .ok (some v) S3)
  | none => .stuck
def lc2B (C : Calls) (own : List (Str × Nat)) (own2 : List Nat) (tg : Tg) (ik2 : IK) (src2 : IE) (tg2 : Tg) (elt : IE) (env : Env) : Val → Store → R (List Val) := fun x S => match asg tg x (wipeE env (own.map (·.2))) with
  | some env1 => ((evAs C src2 env1 S).bind fun us S2 => match itemsV ik2 us with
    | some items2 => lcGo (lcB2 C own2 tg2 elt env1) items2 S2
    | none => .stuck).noexc
  | none => .stuck
@[simp] theorem x_lc (m : Bool) (own : List (Str × Nat)) (ik : IK) (src : IE) (tg : Tg) (cond elt : IE) : evE C (.lc m own ik src tg cond elt) env S = (evAs C src env S).bind fun vs S1 => oP (itemsV ik vs) fun items => (lcGo (lcB C own tg cond elt env) items S1).bind fun r S2 => alloc m r S2 := by
  rw [show evE C (.lc m own ik src tg cond elt) env S = (evAs C src env S).bind fun vs S1 => match itemsV ik vs with
    | some items => (lcGo (lcB C own tg cond elt env) items S1).bind fun r S2 => alloc m r S2
    | none => .stuck from rfl]
  congr 1; funext vs S1
  cases itemsV ik vs <;> rfl
@[simp] theorem x_lc2 (m : Bool) (own : List (Str × Nat)) (own2 : List Nat) (ik : IK) (src : IE) (tg : Tg) (ik2 : IK) (src2 : IE) (tg2 : Tg) (elt : IE) : evE C (.lc2 m own own2 ik src tg ik2 src2 tg2 elt) env S = (evAs C src env S).bind fun vs S1 => oP (itemsV ik vs) fun items => (lc2Go (lc2B C own own2 tg ik2 src2 tg2 elt env) items S1).bind fun r S2 => if r.length ≤ 1000000 then alloc m r S2 else .stuck := by
  rw [show evE C (.lc2 m own own2 ik src tg ik2 src2 tg2 elt) env S = (evAs C src env S).bind fun vs S1 => match itemsV ik vs with
    | some items => (lc2Go (lc2B C own own2 tg ik2 src2 tg2 elt env) items S1).bind fun r S2 => if r.length ≤ 1000000 then alloc m r S2 else .stuck
    | none => .stuck from rfl]
  congr 1; funext vs S1
  cases itemsV ik vs <;> rfl
@[simp] theorem x_yes : evE C .yes env S = .ok (.bl true) S := (rfl)
@[simp] theorem x_mk (c : Str) (j : Nat) (es : IE) : evE C (.mk c j es) env S = (evAs C es env S).bind fun vs S1 => (C j (.loc S1.length :: vs) (S1 ++ [.inst c []])).bind fun z S2 => match z with
    | .non => .ok (.loc S1.length) S2
    | _ => .stuck := (rfl)
def mcV (c m : Str) (x : Val) (S1 : Store) (k : R Val) : R Val := match x with
  | .loc l => match S1[l]? with
    | some (.inst c' fs) => if c' = c ∧ fs.lookup m = none then k else .stuck
    | _ => .stuck
  | _ => .stuck
@[simp] theorem x_mcall (c m : Str) (j : Nat) (o es : IE) : evE C (.mcall c m j o es) env S = (evE C o env S).bind fun x S1 => mcV c m x S1 ((evAs C es env S1).bind fun vs S2 => C j (x :: vs) S2) := by
  rw [show evE C (.mcall c m j o es) env S = (evE C o env S).bind fun x S1 => match x with
    | .loc l => match S1[l]? with
      | some (.inst c' fs) => if c' = c ∧ fs.lookup m = none then (evAs C es env S1).bind fun vs S2 => C j (.loc l :: vs) S2 else .stuck
      | _ => .stuck
    | _ => .stuck from rfl]
  congr 1; funext x S1
  cases x <;> rfl
theorem mcV_of {c m : Str} {l : Nat} {S1 : Store} {fs : List (Str × Val)} (h : S1[l]? = some (.inst c fs)) (h2 : fs.lookup m = none) (k : R Val) : mcV c m (.loc l) S1 k = k := by
  unfold mcV
  simp only [h, h2, and_self, if_true]
@[simp] theorem x_nil : evAs C .nil env S = .ok [] S := (rfl)
@[simp] theorem x_cons (e es : IE) : evAs C (.cons e es) env S = (evE C e env S).bind fun x S1 => (evAs C es env S1).bind fun xs S2 => .ok (x :: xs) S2 := (rfl)
end
section
variable (C : Calls) (F : Nat) (env : Env) (S : Store)
def oS {α : Type} (o : Option α) (k : α → SR) : SR := match o with
  | some p => k p
  | none => .stuck
theorem oS_cg {α : Type} {o o' : Option α} (h : o = o') (k : α → SR) : oS o k = oS o' k := by rw [h]
@[simp] theorem oS_some {α : Type} (p : α) (k : α → SR) : oS (some p) k = k p := (rfl)
@[simp] theorem z_done : evS C F .done env S = .next env S := (rfl)
@[simp] theorem z_pass : evS C F .pass env S = .next env S := (rfl)
@[simp] theorem z_brk : evS C F .brk env S = .brk env S := (rfl)
@[simp] theorem z_cont : evS C F .cont env S = .cont env S := (rfl)
@[simp] theorem z_retN : evS C F .retN env S = .ret .non S := (rfl)
@[simp] theorem z_seq (s r : IS) : evS C F (.seq s r) env S = (evS C F s env S).bind fun env1 S1 => evS C F r env1 S1 := (rfl)
@[simp] theorem z_set (t : LT) (e : IE) : evS C F (.set t e) env S = (evE C e env S).then env fun v S1 => asgL C t v env S1 := (rfl)
@[simp] theorem z_par2 (i j : Nat) (a b : IE) : evS C F (.par2 i j a b) env S = (evE C a env S).then env fun u S1 => (evE C b env S1).then env fun v S2 => .next ((env.set i (some u)).set j (some v)) S2 := (rfl)
@[simp] theorem z_exp (e : IE) : evS C F (.exp e) env S = (evE C e env S).then env fun _ S1 => .next env S1 := (rfl)
@[simp] theorem z_ret (e : IE) : evS C F (.ret e) env S = (evE C e env S).then env fun v S1 => .ret v S1 := (rfl)
@[simp] theorem z_ifs (c : IE) (a b : IS) : evS C F (.ifs c a b) env S = (evE C c env S).then env fun v S1 => cS v (evS C F a env S1) (evS C F b env S1) := (rfl)
def forB (C : Calls) (F : Nat) (tg : Tg) (body : IS) : Val → Env → Store → SR := fun x env S => match asg tg x env with
  | some env' => evS C F body env' S
  | none => .stuck
@[simp] theorem z_for (tg : Tg) (ik : IK) (src : IE) (body : IS) : evS C F (.for tg ik src body) env S = (evAs C src env S).then env fun vs S1 => oS (itemsV ik vs) fun items => forGo (forB C F tg body) items env S1 := by
  rw [show evS C F (.for tg ik src body) env S = (evAs C src env S).then env fun vs S1 => match itemsV ik vs with
    | some items => forGo (forB C F tg body) items env S1
    | none => .stuck from rfl]
  congr 1; funext vs S1
  cases itemsV ik vs <;> rfl
@[simp] theorem l_p (t : Tg) (x : Val) : asgL C (.p t) x env S = oS (asg t x env) fun env' => .next env' S := by
  rw [show asgL C (.p t) x env S = match asg t x env with
    | some env' => .next env' S
    | none => .stuck from rfl]
  cases asg t x env <;> rfl
def subL (ov iv x : Val) (env : Env) (S2 : Store) : SR := match ov, iv with
    | .loc l, .int k => match S2[l]? with
      | some (.lst xs) => match L2.ixN xs.length k with
        | some j => .next env (S2.set l (.lst (xs.set j x)))
        | none => .stuck
      | _ => .stuck
    | _, _ => .stuck
def fldL (ov : Val) (f : Str) (x : Val) (env : Env) (S1 : Store) : SR := match ov with
    | .loc l => match S1[l]? with
      | some (.inst c fs) => if fs.length < 900 then .next env (S1.set l (.inst c (setF f x fs))) else .stuck
      | _ => .stuck
    | _ => .stuck
@[simp] theorem l_sub (o i : IE) (x : Val) : asgL C (.sub o i) x env S = (evE C o env S).then env fun ov S1 => (evE C i env S1).then env fun iv S2 => subL ov iv x env S2 := (rfl)
@[simp] theorem l_fld (o : IE) (f : Str) (x : Val) : asgL C (.fld o f) x env S = (evE C o env S).then env fun ov S1 => fldL ov f x env S1 := (rfl)
@[simp] theorem l_pair (a b : LT) (u v : Val) : asgL C (.pair a b) (.tup [u, v]) env S = (asgL C a u env S).bind fun env1 S1 => asgL C b v env1 S1 := (rfl)
theorem subL_nat (l k : Nat) (xs : List Val) (x : Val) (h : S[l]? = some (.lst xs)) (hk : k < xs.length) : subL (.loc l) (.int (k : Int)) x env S = .next env (S.set l (.lst (xs.set k x))) := by
  have e : L2.ixN xs.length (k : Int) = some k := by
    unfold L2.ixN
    rw [if_pos (by omega), if_pos (by omega)]; simp
  unfold subL
  simp only [h, e]
theorem subL_m1 (l : Nat) (xs : List Val) (x : Val) (h : S[l]? = some (.lst xs)) (hk : 0 < xs.length) : subL (.loc l) (.int (-1)) x env S = .next env (S.set l (.lst (xs.set (xs.length - 1) x))) := by
  have e : L2.ixN xs.length (-1) = some (xs.length - 1) := by
    unfold L2.ixN
    rw [if_neg (by omega), if_pos (by omega)]
    congr 1; omega
  unfold subL
  simp only [h, e]
theorem fldL_of (l : Nat) (c f : Str) (fs : List (Str × Val)) (x : Val) (h : S[l]? = some (.inst c fs)) (hk : fs.length < 900) : fldL (.loc l) f x env S = .next env (S.set l (.inst c (setF f x fs))) := by
  unfold fldL
  simp only [h, if_pos hk]
end
def oE (o : Option Env) (k : Env → Option Env) : Option Env := match o with
  | some p => k p
  | none => none
theorem oE_cg {o o' : Option Env} (h : o = o') (k : Env → Option Env) : oE o k = oE o' k := by rw [h]
@[simp] theorem oE_some (p : Env) (k : Env → Option Env) : oE (some p) k = k p := (rfl)
@[simp] theorem a_v (i : Nat) (x : Val) (env : Env) : asg (.v i) x env = some (env.set i (some x)) := (rfl)
@[simp] theorem a_tupT (ts : Tg) (xs : List Val) (env : Env) : asg (.tup ts) (.tup xs) env = asgs ts xs env := (rfl)
@[simp] theorem a_tupL (ts : Tg) (xs : List Val) (env : Env) : asg (.tup ts) (.lst xs) env = asgs ts xs env := (rfl)
@[simp] theorem a_star (i j : Nat) (y : Val) (ys : List Val) (env : Env) : asg (.star i j) (.tup (y :: ys)) env = some ((env.set i (some y)).set j (some (.lst ys))) := (rfl)
@[simp] theorem a_nil (env : Env) : asgs .nil [] env = some env := (rfl)
@[simp] theorem a_cons (t ts : Tg) (x : Val) (xs : List Val) (env : Env) : asgs (.cons t ts) (x :: xs) env = oE (asg t x env) fun env' => asgs ts xs env' := (rfl)
@[simp ↓] theorem e_set0 (x y : Option Val) (r : Env) : (x :: r).set 0 y = y :: r := (rfl)
@[simp ↓] theorem e_setS (x y : Option Val) (r : Env) (i : Nat) : (x :: r).set (i + 1) y = x :: r.set i y := (rfl)
@[simp] theorem w_nil (env : Env) : wipeE env [] = env := (rfl)
@[simp] theorem w_cons (env : Env) (v : Nat) (vs : List Nat) : wipeE env (v :: vs) = (wipeE env vs).set v none := (rfl)
section
variable (S : Store)
@[simp] theorem d_non : rd S .non = .non := (rfl)
@[simp] theorem d_bl (b : Bool) : rd S (.bl b) = .bl b := (rfl)
@[simp] theorem d_int (b : Int) : rd S (.int b) = .int b := (rfl)
@[simp] theorem d_str (b : Str) : rd S (.str b) = .str b := (rfl)
@[simp] theorem d_tup (b : List Val) : rd S (.tup b) = .tup b := (rfl)
@[simp] theorem d_lst (b : List Val) : rd S (.lst b) = .lst b := (rfl)
@[simp] theorem d_flst (b : List Val) : rd S (.flst b) = .lst b := (rfl)
theorem d_loc {l : Nat} {xs : List Val} (h : S[l]? = some (.lst xs)) : rd S (.loc l) = .lst xs := by unfold rd; simp only [h]
@[simp] theorem d_locN (xs : List Val) : rd (S ++ [.lst xs]) (.loc S.length) = .lst xs := d_loc (xs := xs) _ (by simp)
theorem i_loc {l : Nat} {xs : List Val} (h : S[l]? = some (.lst xs)) : isLst S (.loc l) = true := by unfold isLst; simp only [h]
@[simp] theorem i_locN (xs : List Val) : isLst (S ++ [.lst xs]) (.loc S.length) = true := i_loc (xs := xs) _ (by simp)
@[simp] theorem y_int (t : Ty) (i : Int) : isTy S t (.int i) = some (decide (t = .int)) := (rfl)
@[simp] theorem y_bl (t : Ty) (i : Bool) : isTy S t (.bl i) = some (decide (t = .bool) || decide (t = .int)) := (rfl)
@[simp] theorem y_non (t : Ty) : isTy S t .non = some false := (rfl)
@[simp] theorem y_str (t : Ty) (i : Str) : isTy S t (.str i) = some (decide (t = .str)) := (rfl)
@[simp] theorem y_tup (t : Ty) (i : List Val) : isTy S t (.tup i) = some (decide (t = .tuple)) := (rfl)
@[simp] theorem y_lst (t : Ty) (i : List Val) : isTy S t (.lst i) = some (decide (t = .list)) := (rfl)
@[simp] theorem b_add (i j : Int) : binV .Add (.int i) (.int j) = some (.int (i + j)) := (rfl)
@[simp] theorem b_sub (i j : Int) : binV .Sub (.int i) (.int j) = some (.int (i - j)) := (rfl)
theorem b_addT (xs ys : List Val) (h : xs.length + ys.length ≤ sizeLine) : binV .Add (.tup xs) (.tup ys) = some (.tup (xs ++ ys)) := by simp [binV, h]
theorem b_mod (i j : Int) (h : 0 < j) : binV .Mod (.int i) (.int j) = some (.int (i % j)) := by simp [binV, h]
theorem b_div (i j : Int) (h : 0 < j) (h2 : j < 1073741824) : binV .FloorDiv (.int i) (.int j) = some (.int (i / j)) := by simp [binV, h, h2]
theorem b_mul (i j : Int) (h : mulOk i j = true) : binV .Mult (.int i) (.int j) = some (.int (i * j)) := by simp [binV, h]
theorem b_pow (i j : Int) (h : powOk i j = true) : binV .Pow (.int i) (.int j) = some (.int (i ^ j.toNat)) := by simp [binV, h]
@[simp] theorem c_eq (a b : Val) (h : (a.shp 40 && b.shp 40) = true) : cmpV .Eq a b = some (Val.eqv a b) := by simp [cmpV, Bool.and_eq_true_iff.mp h]
@[simp] theorem c_ne (a b : Val) (h : (a.shp 40 && b.shp 40) = true) : cmpV .NotEq a b = some (!Val.eqv a b) := by simp [cmpV, Bool.and_eq_true_iff.mp h]
@[simp] theorem c_lt (i j : Int) : cmpV .Lt (.int i) (.int j) = some (decide (i < j)) := (rfl)
@[simp] theorem c_le (i j : Int) : cmpV .LtE (.int i) (.int j) = some (decide (i ≤ j)) := (rfl)
@[simp] theorem c_gt (i j : Int) : cmpV .Gt (.int i) (.int j) = some (decide (j < i)) := (rfl)
@[simp] theorem c_ge (i j : Int) : cmpV .GtE (.int i) (.int j) = some (decide (j ≤ i)) := (rfl)
@[simp] theorem c_is (a : Val) : cmpV .Is a .non = some (isNon a) := (rfl)
@[simp] theorem c_isn (a : Val) : cmpV .IsNot a .non = some (!isNon a) := (rfl)
@[simp] theorem c_inT (a : Val) (ys : List Val) : cmpV .In a (.tup ys) = memV a ys := (rfl)
@[simp] theorem c_inL (a : Val) (ys : List Val) : cmpV .In a (.lst ys) = memV a ys := (rfl)
@[simp] theorem c_ninT (a : Val) (ys : List Val) : cmpV .NotIn a (.tup ys) = (memV a ys).map (!·) := (rfl)
@[simp] theorem c_ninL (a : Val) (ys : List Val) : cmpV .NotIn a (.lst ys) = (memV a ys).map (!·) := (rfl)
@[simp] theorem n_non : isNon .non = true := (rfl)
@[simp] theorem n_int (i : Int) : isNon (.int i) = false := (rfl)
@[simp] theorem n_tup (i : List Val) : isNon (.tup i) = false := (rfl)
@[simp] theorem m_any (x : Val) (ys : List Val) (h : (x.flat && ys.all Val.flat) = true) : memV x ys = some (ys.any fun y => Val.eqv y x) := by unfold memV; rw [if_pos h]
@[simp] theorem f_non : Val.flat .non = true := (rfl)
@[simp] theorem f_int (i : Int) : Val.flat (.int i) = true := (rfl)
@[simp] theorem f_str (i : Str) : Val.flat (.str i) = true := (rfl)
@[simp] theorem s_non (n : Nat) : Val.shp n .non = true := by cases n <;> rfl
@[simp] theorem s_bl (n : Nat) (b : Bool) : Val.shp n (.bl b) = true := by cases n <;> rfl
@[simp] theorem s_int (n : Nat) (b : Int) : Val.shp n (.int b) = true := by cases n <;> rfl
@[simp] theorem s_str (n : Nat) (b : Str) : Val.shp n (.str b) = PyData.strOk b := by cases n <;> rfl
@[simp] theorem s_tupP (n : Nat) (b : List Val) : Val.shp (n + 1) (.tup b) = Val.shpAll n b := (rfl)
@[simp] theorem s_lstP (n : Nat) (b : List Val) : Val.shp (n + 1) (.lst b) = Val.shpAll n b := (rfl)
@[simp] theorem s_nilP (n : Nat) : Val.shpAll n [] = true := by cases n <;> rfl
@[simp] theorem s_consP (n : Nat) (x : Val) (xs : List Val) : Val.shpAll n (x :: xs) = (Val.shp n x && Val.shpAll n xs) := by cases n <;> rfl
@[simp] theorem q_nn : Val.eqv .non .non = true := (rfl)
@[simp] theorem q_bb (a b : Bool) : Val.eqv (.bl a) (.bl b) = (a == b) := (rfl)
@[simp] theorem q_ii (a b : Int) : Val.eqv (.int a) (.int b) = (a == b) := (rfl)
@[simp] theorem q_ss (a b : Str) : Val.eqv (.str a) (.str b) = (a == b) := (rfl)
@[simp] theorem q_tt (a b : List Val) : Val.eqv (.tup a) (.tup b) = Val.eqvAll a b := (rfl)
@[simp] theorem q_ll (a b : List Val) : Val.eqv (.lst a) (.lst b) = Val.eqvAll a b := (rfl)
@[simp] theorem q_ni (b : Int) : Val.eqv .non (.int b) = false := (rfl)
@[simp] theorem q_in (b : Int) : Val.eqv (.int b) .non = false := (rfl)
@[simp] theorem q_00 : Val.eqvAll [] [] = true := (rfl)
@[simp] theorem q_10 (x : Val) (xs : List Val) : Val.eqvAll (x :: xs) [] = false := (rfl)
@[simp] theorem q_01 (x : Val) (xs : List Val) : Val.eqvAll [] (x :: xs) = false := (rfl)
@[simp] theorem q_11 (x : Val) (xs : List Val) (y : Val) (ys : List Val) : Val.eqvAll (x :: xs) (y :: ys) = (Val.eqv x y && Val.eqvAll xs ys) := (rfl)
@[simp] theorem k_lenT (xs : List Val) : bltV .len [.tup xs] S = .ok (.int xs.length) S := (rfl)
@[simp] theorem k_lenL (xs : List Val) : bltV .len [.lst xs] S = .ok (.int xs.length) S := (rfl)
theorem k_len (l : Nat) (xs : List Val) (h : S[l]? = some (.lst xs)) : bltV .len [.loc l] S = .ok (.int xs.length) S := by unfold bltV; simp only [d_loc S h]
@[simp] theorem k_abs (i : Int) : bltV .abs [.int i] S = .ok (.int (if i < 0 then -i else i)) S := (rfl)
@[simp] theorem k_intI (i : Int) : bltV .int [.int i] S = .ok (.int i) S := (rfl)
@[simp] theorem k_intB (k : Bool) : bltV .int [.bl k] S = .ok (.int (if k then 1 else 0)) S := (rfl)
@[simp] theorem k_max (i j : Int) : bltV .max2 [.int i, .int j] S = .ok (.int (if j > i then j else i)) S := (rfl)
@[simp] theorem k_min (i j : Int) : bltV .min2 [.int i, .int j] S = .ok (.int (if j < i then j else i)) S := (rfl)
@[simp] theorem k_sum (xs : List Val) : bltV .sum [.lst xs] S = R.of ((intsOf xs).map fun ns => .int ns.sum) S := (rfl)
@[simp] theorem k_all (xs : List Val) : bltV .all [.lst xs] S = R.of ((blsOf xs).map fun ns => .bl (ns.all id)) S := (rfl)
@[simp] theorem k_any (xs : List Val) : bltV .any [.lst xs] S = R.of ((blsOf xs).map fun ns => .bl (ns.any id)) S := (rfl)
@[simp] theorem k_tupT (xs : List Val) : bltV .tuple [.tup xs] S = .ok (.tup xs) S := (rfl)
@[simp] theorem k_tupL (xs : List Val) : bltV .tuple [.lst xs] S = .ok (.tup xs) S := (rfl)
theorem k_tupl (l : Nat) (xs : List Val) (h : S[l]? = some (.lst xs)) : bltV .tuple [.loc l] S = .ok (.tup xs) S := by unfold bltV; simp only [d_loc S h]
@[simp] theorem k_tupN (xs : List Val) : bltV .tuple [.loc S.length] (S ++ [.lst xs]) = .ok (.tup xs) (S ++ [.lst xs]) := k_tupl _ _ _ (by simp)
@[simp] theorem k_lstT (m : Bool) (xs : List Val) : bltV (.list m) [.tup xs] S = alloc m xs S := (rfl)
@[simp] theorem k_lstL (m : Bool) (xs : List Val) : bltV (.list m) [.lst xs] S = alloc m xs S := (rfl)
theorem k_lstl (m : Bool) (l : Nat) (xs : List Val) (h : S[l]? = some (.lst xs)) : bltV (.list m) [.loc l] S = alloc m xs S := by unfold bltV; simp only [d_loc S h]
@[simp] theorem al_f (xs : List Val) : alloc false xs S = .ok (.lst xs) S := (rfl)
@[simp] theorem al_t (xs : List Val) : alloc true xs S = .ok (.loc S.length) (S ++ [.lst xs]) := (rfl)
@[simp] theorem x_ixT (xs : List Val) (k : Int) : ixV S (.tup xs) (.int k) = L2.atI xs k := (rfl)
@[simp] theorem x_ixL (xs : List Val) (k : Int) : ixV S (.lst xs) (.int k) = L2.atI xs k := (rfl)
theorem x_ixl (l : Nat) (xs : List Val) (k : Int) (h : S[l]? = some (.lst xs)) : ixV S (.loc l) (.int k) = L2.atI xs k := by unfold ixV; simp only [d_loc S h]
theorem mth_app (l : Nat) (xs : List Val) (y : Val) (h : S[l]? = some (.lst xs)) (hl : xs.length < sizeLine) : mthV .append (.loc l) [y] S = .ok .non (S.set l (.lst (xs ++ [y]))) := by unfold mthV; simp only [h, if_pos hl]
theorem mth_ext (l : Nat) (xs ys : List Val) (h : S[l]? = some (.lst xs)) (hl : xs.length + ys.length ≤ sizeLine) : mthV .extend (.loc l) [.tup ys] S = .ok .non (S.set l (.lst (xs ++ ys))) := by unfold mthV; simp only [h, d_tup, if_pos hl]
@[simp] theorem t_slT (xs : List Val) (p q : Option Int) : slcV S (.tup xs) p q = some (.tup (cut xs p q)) := (rfl)
@[simp] theorem t_slL (xs : List Val) (p q : Option Int) : slcV S (.lst xs) p q = some (.lst (cut xs p q)) := (rfl)
@[simp] theorem p_om (v : Val) : partV .omit v = some none := (rfl)
@[simp] theorem p_var (i : Nat) (k : Int) : partV (.var i) (.int k) = some (some k) := (rfl)
@[simp] theorem p_con (i : Val) (k : Int) : partV (.con i) (.int k) = some (some k) := (rfl)
@[simp] theorem p_bin (o : Operator) (a b : IE) (k : Int) : partV (.bin o a b) (.int k) = some (some k) := (rfl)
@[simp] theorem p_call (j : Nat) (a : IE) (k : Int) : partV (.call j a) (.int k) = some (some k) := (rfl)
@[simp] theorem p_blt (j : Blt) (a : IE) (k : Int) : partV (.blt j a) (.int k) = some (some k) := (rfl)
@[simp] theorem g_gin (neg : Bool) (tb : List (Str × Nat)) (x : Str) : ginV neg tb (.str x) = some (.bl (if neg then !(tb.lookup x).isSome else (tb.lookup x).isSome)) := (rfl)
@[simp] theorem g_gget (tb : List (Str × Nat)) (x : Str) : ggetV tb (.str x) = (tb.lookup x).map .fn := (rfl)
@[simp] theorem v_t (xs : List Val) : seqV (.tup xs) = some xs := (rfl)
@[simp] theorem v_l (xs : List Val) : seqV (.lst xs) = some xs := (rfl)
@[simp] theorem v_f (xs : List Val) : seqV (.flst xs) = some xs := (rfl)
@[simp] theorem o_plain (a : Val) : itemsV .plain [a] = seqV a := (rfl)
@[simp] theorem o_r1 (n : Int) : itemsV .range1 [.int n] = rangeV 0 n := (rfl)
@[simp] theorem o_r2 (m n : Int) : itemsV .range2 [.int m, .int n] = rangeV m n := (rfl)
@[simp] theorem o_en (a : Val) : itemsV .enum [a] = (seqV a).map (enumV 0) := (rfl)
@[simp] theorem o_zTT (xs ys : List Val) : itemsV .zip [.tup xs, .tup ys] = some (zipV xs ys) := (rfl)
@[simp] theorem o_zLL (xs ys : List Val) : itemsV .zip [.lst xs, .lst ys] = some (zipV xs ys) := (rfl)
theorem o_z3 (xs ys zs : List Val) (h : xs.length = ys.length) (h2 : ys.length = zs.length) : itemsV .zip3s [.tup xs, .lst ys, .lst zs] = some (zip3V xs ys zs) := by simp [itemsV, seqV, h, h2]
end
@[simp] theorem cR_and (c d : Bool) (S : Store) : cR (.bl c) (.ok (.bl d) S) (.ok (.bl false) S) = .ok (.bl (c && d)) S := by cases c <;> rfl
@[simp] theorem cR_or (c d : Bool) (S : Store) : cR (.bl c) (.ok (.bl true) S) (.ok (.bl d) S) = .ok (.bl (c || d)) S := by cases c <;> rfl
theorem cR_ite (c : Bool) (u v : Val) (S : Store) : cR (.bl c) (.ok u S) (.ok v S) = .ok (if c then u else v) S := by cases c <;> rfl
@[simp] theorem beq_cast (a b : Nat) : ((a : Int) == (b : Int)) = (a == b) := by
  by_cases h : a = b
  · simp [h]
  · have h2 : ¬ (a : Int) = (b : Int) := by omega
    rw [beq_eq_false_iff_ne.mpr h2, beq_eq_false_iff_ne.mpr h]
@[simp] theorem eN_ix (S : Store) (l : List Nat) (k : Nat) : ixV S (eNs l) (.int (k : Int)) = (l[k]?).map iN := by
  unfold eNs
  rw [x_ixT]
  unfold L2.atI L2.ixN
  rw [if_pos (by omega)]
  by_cases h : k < (l.map iN).length
  · rw [if_pos (by omega)]; simp
  · rw [if_neg (by omega)]
    rw [List.length_map] at h
    simp [List.getElem?_eq_none_iff.mpr (by omega : l.length ≤ k)]
@[simp] theorem eN_seq (l : List Nat) : seqV (eNs l) = some (l.map iN) := (rfl)
@[simp] theorem eN_len (S : Store) (l : List Nat) : bltV .len [eNs l] S = .ok (.int (l.length : Int)) S := by
  unfold eNs
  rw [k_lenT, List.length_map]
@[simp] theorem eN_rd (S : Store) (l : List Nat) : rd S (eNs l) = eNs l := (rfl)
@[simp] theorem eN_ty (S : Store) (t : Ty) (l : List Nat) : isTy S t (eNs l) = some (decide (t = .tuple)) := (rfl)
@[simp] theorem eN_slc (S : Store) (l : List Nat) (p q : Option Int) : slcV S (eNs l) p q = some (.tup (cut (l.map iN) p q)) := (rfl)
@[simp] theorem eN_tup (S : Store) (l : List Nat) : bltV .tuple [eNs l] S = .ok (eNs l) S := (rfl)
@[simp] theorem eN_non (l : List Nat) : isNon (eNs l) = false := (rfl)
@[simp] theorem shp_eW (n : Nat) (w : Option Nat) : Val.shp n (eW w) = true := by cases w <;> simp [eW]
@[simp] theorem atI_nat {α : Type} (xs : List α) (k : Nat) : L2.atI xs (k : Int) = xs[k]? := by
  unfold L2.atI L2.ixN
  have h0 : (0 : Int) ≤ (k : Int) := by omega
  rw [if_pos h0]
  by_cases h : k < xs.length
  · rw [if_pos (by omega)]; simp
  · rw [if_neg (by omega)]; simp [List.getElem?_eq_none_iff.mpr (by omega : xs.length ≤ k)]
@[simp] theorem atI_0 {α : Type} (xs : List α) : L2.atI xs 0 = xs[0]? := atI_nat xs 0
@[simp] theorem atI_1 {α : Type} (xs : List α) : L2.atI xs 1 = xs[1]? := atI_nat xs 1
@[simp] theorem atI_2 {α : Type} (xs : List α) : L2.atI xs 2 = xs[2]? := atI_nat xs 2
@[simp] theorem atI_m1 {α : Type} (xs : List α) : L2.atI xs (-1) = xs[xs.length - 1]? := by
  unfold L2.atI L2.ixN
  rw [if_neg (by omega)]
  by_cases h : 1 ≤ xs.length
  · rw [if_pos (by omega)]
    have : ((-1 : Int) + xs.length).toNat = xs.length - 1 := by omega
    simp [this]
  · rw [if_neg (by omega)]
    have : xs.length = 0 := by omega
    simp [List.eq_nil_of_length_eq_zero this]
theorem cut_to {α : Type} (xs : List α) (k : Nat) : cut xs none (some (k : Int)) = xs.take k := by
  unfold cut HT.sIx
  simp only [show ¬ ((k : Int) < 0) by omega, if_false, Int.toNat_natCast, Nat.sub_zero, List.drop_zero]
  by_cases h : k ≤ xs.length
  · rw [Nat.min_eq_left h]
  · rw [Nat.min_eq_right (by omega), List.take_of_length_le (by omega), List.take_of_length_le (by omega)]
theorem cut_from {α : Type} (xs : List α) (k : Nat) : cut xs (some (k : Int)) none = xs.drop k := by
  unfold cut HT.sIx
  simp only [show ¬ ((k : Int) < 0) by omega, if_false, Int.toNat_natCast]
  by_cases h : k ≤ xs.length
  · rw [Nat.min_eq_left h, List.take_of_length_le (by simp)]
  · rw [Nat.min_eq_right (by omega)]
    simp [List.drop_eq_nil_of_le (by omega : xs.length ≤ k)]
theorem cut_mid {α : Type} (xs : List α) (j k : Nat) (h : j + k ≤ xs.length) : cut xs (some (j : Int)) (some ((j : Int) + (k : Int))) = (xs.drop j).take k := by
  unfold cut HT.sIx
  simp only [show ¬ ((j : Int) < 0) by omega, show ¬ ((j : Int) + k < 0) by omega, if_false, Int.toNat_natCast]
  have : ((j : Int) + k).toNat = j + k := by omega
  rw [this, Nat.min_eq_left h, Nat.min_eq_left (by omega : j ≤ xs.length), Nat.add_sub_cancel_left]
mutual
def Val.cl : Val → Bool
  | .loc _ => false
  | .tup xs => Val.clAll xs
  | .lst xs => Val.clAll xs
  | .flst xs => Val.clAll xs
  | .non => true | .bl _ => true | .int _ => true | .str _ => true | .fn _ => true
def Val.clAll : List Val → Bool
  | [] => true
  | x :: xs => x.cl && Val.clAll xs
end
mutual
theorem Val.cl_blw (n : Nat) : ∀ (v : Val), v.cl = true → v.blw n = true
  | .non, _ => rfl
  | .bl _, _ => rfl
  | .int _, _ => rfl
  | .str _, _ => rfl
  | .fn _, _ => rfl
  | .loc _, h => by cases h
  | .tup xs, h => Val.clAll_blw n xs h
  | .lst xs, h => Val.clAll_blw n xs h
  | .flst xs, h => Val.clAll_blw n xs h
theorem Val.clAll_blw (n : Nat) : ∀ (v : List Val), Val.clAll v = true → Val.blwAll n v = true
  | [], _ => rfl
  | x :: xs, h => by
    have h : (x.cl && Val.clAll xs) = true := h
    rw [Bool.and_eq_true] at h
    show (x.blw n && Val.blwAll n xs) = true
    rw [Val.cl_blw n x h.1, Val.clAll_blw n xs h.2]; rfl
end
@[simp] theorem h_non : Val.cl .non = true := (rfl)
@[simp] theorem h_int (i : Int) : Val.cl (.int i) = true := (rfl)
@[simp] theorem h_bl (i : Bool) : Val.cl (.bl i) = true := (rfl)
@[simp] theorem h_str (i : Str) : Val.cl (.str i) = true := (rfl)
@[simp] theorem h_tup (xs : List Val) : Val.cl (.tup xs) = Val.clAll xs := (rfl)
@[simp] theorem h_lst (xs : List Val) : Val.cl (.lst xs) = Val.clAll xs := (rfl)
@[simp] theorem h_nil : Val.clAll [] = true := (rfl)
@[simp] theorem h_cons (x : Val) (xs : List Val) : Val.clAll (x :: xs) = (x.cl && Val.clAll xs) := (rfl)
@[simp] theorem h_app : ∀ (xs ys : List Val), Val.clAll (xs ++ ys) = (Val.clAll xs && Val.clAll ys)
  | [], _ => by simp
  | x :: xs, ys => by simp [h_app xs ys, Bool.and_assoc]
theorem h_map {α : Type} (e : α → Val) (l : List α) (h : ∀ x ∈ l, (e x).cl = true) : Val.clAll (l.map e) = true := by
  induction l with
  | nil => rfl
  | cons x l ih => simp [h x (by simp), ih fun y hy => h y (by simp [hy])]
def SOk (S : Store) : Prop := S.all (Ob.blw S.length) = true
@[simp] theorem leave_same (v : Val) (S : Store) : leave .pure S.length (.ok v S) = .ok v S := by simp [leave]
theorem leave_app {v : Val} {S more : Store} (hS : SOk S) (hv : v.cl = true) : leave .pure S.length (.ok v (S ++ more)) = .ok v S := by
  unfold leave
  by_cases h : (S ++ more).length ≤ S.length
  · have : more = [] := by
      rw [List.length_append] at h
      exact List.eq_nil_of_length_eq_zero (by omega)
    simp [this]
  · have e : frzV S.length (S ++ more) v = v := by cases v <;> first | rfl | cases hv
    simp only [h, if_false, e, List.take_left, Val.cl_blw _ v hv, Bool.true_and]
    exact if_pos hS
theorem leave_frz {xs : List Val} {S more : Store} (hS : SOk S) (hv : Val.clAll xs = true) : leave .pure S.length (.ok (.loc S.length) (S ++ .lst xs :: more)) = .ok (.lst xs) S := by
  unfold leave
  have e : frzV S.length (S ++ .lst xs :: more) (.loc S.length) = .lst xs := by simp [frzV]
  simp only [e, List.take_left]
  rw [if_neg (by simp)]
  have : (Val.lst xs).blw S.length = true := Val.clAll_blw _ xs hv
  rw [this, Bool.true_and]; exact if_pos hS
theorem SOk.app {S : Store} (h : SOk S) {o : Ob} (ho : o.blw (S.length + 1) = true) (hm : ∀ o ∈ S, o.blw S.length = true → o.blw (S.length + 1) = true) : SOk (S ++ [o]) := by
  unfold SOk at h ⊢
  rw [List.all_eq_true] at h ⊢
  intro x hx
  rw [List.length_append]
  rcases List.mem_append.mp hx with hx | hx
  · exact hm x hx (h x hx)
  · rw [List.mem_singleton.mp hx]; exact ho
mutual
theorem Val.blw_mono {n m : Nat} (h : n ≤ m) : ∀ (v : Val), v.blw n = true → v.blw m = true
  | .non, _ => rfl
  | .bl _, _ => rfl
  | .int _, _ => rfl
  | .str _, _ => rfl
  | .fn _, _ => rfl
  | .loc l, h2 => by
    have : l < n := of_decide_eq_true h2
    exact decide_eq_true (by omega)
  | .tup xs, h2 => Val.blwAll_mono h xs h2
  | .lst xs, h2 => Val.blwAll_mono h xs h2
  | .flst xs, h2 => Val.blwAll_mono h xs h2
theorem Val.blwAll_mono {n m : Nat} (h : n ≤ m) : ∀ (v : List Val), Val.blwAll n v = true → Val.blwAll m v = true
  | [], _ => rfl
  | x :: xs, h2 => by
    have h2 : (x.blw n && Val.blwAll n xs) = true := h2
    rw [Bool.and_eq_true] at h2
    show (x.blw m && Val.blwAll m xs) = true
    rw [Val.blw_mono h x h2.1, Val.blwAll_mono h xs h2.2]; rfl
end
theorem Ob.blw_mono {n m : Nat} (h : n ≤ m) (o : Ob) (h2 : o.blw n = true) : o.blw m = true := by
  cases o with
  | lst xs => exact Val.blwAll_mono h xs h2
  | inst c fs =>
    have h2 : (fs.all fun p => p.2.blw n) = true := h2
    show (fs.all fun p => p.2.blw m) = true
    rw [List.all_eq_true] at h2 ⊢
    exact fun p hp => Val.blw_mono h _ (h2 p hp)
theorem SOk.push {S : Store} (h : SOk S) {o : Ob} (ho : o.blw (S.length + 1) = true) : SOk (S ++ [o]) := h.app ho fun x _ hx => Ob.blw_mono (by omega) x hx
theorem SOk.pushL {S : Store} (h : SOk S) {xs : List Val} (ho : Val.clAll xs = true) : SOk (S ++ [.lst xs]) := h.push (Val.clAll_blw _ xs ho)
theorem SOk.set {S : Store} (h : SOk S) {o : Ob} (l : Nat) (ho : o.blw S.length = true) : SOk (S.set l o) := by
  unfold SOk at h ⊢
  rw [List.length_set, List.all_eq_true] at *
  intro x hx
  rcases List.mem_or_eq_of_mem_set hx with hx | hx
  · exact h x hx
  · rw [hx]; exact ho
theorem SOk.setL {S : Store} (h : SOk S) {xs : List Val} (l : Nat) (ho : Val.clAll xs = true) : SOk (S.set l (.lst xs)) := h.set l (Val.clAll_blw _ xs ho)
theorem lcGo_of {α : Type} {f : Val → Store → R (Option Val)} {S : Store} (e : α → Val) (g : α → Val) : ∀ (xs : List α), (∀ x ∈ xs, f (e x) S = .ok (some (g x)) S) → lcGo f (xs.map e) S = .ok (xs.map g) S
  | [], _ => rfl
  | x :: xs, h => by
    have h1 := h x (by simp)
    have h2 := lcGo_of e g xs fun y hy => h y (by simp [hy])
    simp only [List.map_cons, lcGo, h1, R.bind_ok, h2]
theorem lcGo_filt {α : Type} {f : Val → Store → R (Option Val)} {S : Store} (e : α → Val) (p : α → Bool) (g : α → Val) : ∀ (xs : List α), (∀ x ∈ xs, f (e x) S = .ok (if p x then some (g x) else none) S) → lcGo f (xs.map e) S = .ok ((xs.filter p).map g) S
  | [], _ => rfl
  | x :: xs, h => by
    have h1 := h x (by simp)
    have h2 := lcGo_filt e p g xs fun y hy => h y (by simp [hy])
    simp only [List.map_cons, lcGo, h1, R.bind_ok, h2, List.filter_cons]
    cases p x <;> simp
theorem lc2Go_of {α : Type} {f : Val → Store → R (List Val)} {S : Store} (e : α → Val) (g : α → List Val) : ∀ (xs : List α), (∀ x ∈ xs, f (e x) S = .ok (g x) S) → lc2Go f (xs.map e) S = .ok (xs.map g).flatten S
  | [], _ => rfl
  | x :: xs, h => by
    have h1 := h x (by simp)
    have h2 := lc2Go_of e g xs fun y hy => h y (by simp [hy])
    simp only [List.map_cons, lc2Go, h1, R.bind_ok, h2, List.flatten_cons]
/-- what a loop comes to -/
def FOk (I : Env → Store → Prop) (Q : Val → Store → Prop) : SR → Prop
  | .next e S => I e S
  | .ret v S => Q v S
  | _ => False
def BOk (I : Env → Store → Prop) (Q : Val → Store → Prop) : SR → Prop
  | .next e S => I e S
  | .cont e S => I e S
  | .ret v S => Q v S
  | _ => False
@[simp] theorem BOk_n (I : Env → Store → Prop) (Q : Val → Store → Prop) (e : Env) (S : Store) : BOk I Q (.next e S) = I e S := (rfl)
@[simp] theorem BOk_c (I : Env → Store → Prop) (Q : Val → Store → Prop) (e : Env) (S : Store) : BOk I Q (.cont e S) = I e S := (rfl)
@[simp] theorem BOk_r (I : Env → Store → Prop) (Q : Val → Store → Prop) (e : Val) (S : Store) : BOk I Q (.ret e S) = Q e S := (rfl)
theorem forGo_inv {α : Type} (e : α → Val) {f : Val → Env → Store → SR} (I : Nat → Env → Store → Prop) (Q : Val → Store → Prop) : ∀ (xs : List α) (i : Nat) {env : Env} {S : Store}, I i env S → (∀ (k : Nat) (x : α) (env : Env) (S : Store), xs[k]? = some x → I (i + k) env S → BOk (I (i + k + 1)) Q (f (e x) env S)) → FOk (I (i + xs.length)) Q (forGo f (xs.map e) env S)
  | [], i, env, S, h0, _ => h0
  | x :: xs, i, env, S, h0, hs => by
    have h1 := hs 0 x env S rfl h0
    have h2 := fun (env' : Env) (S' : Store) (h : I (i + 1) env' S') => forGo_inv e I Q xs (i + 1) h fun k y env S hk hI => by
      have := hs (k + 1) y env S hk (by rw [show i + (k + 1) = i + 1 + k by omega]; exact hI)
      rw [show i + (k + 1) + 1 = i + 1 + k + 1 by omega] at this
      exact this
    rw [List.map_cons, List.length_cons, show i + (xs.length + 1) = i + 1 + xs.length by omega]
    unfold forGo
    cases hr : f (e x) env S with
    | next e' S' => rw [hr] at h1; exact h2 e' S' h1
    | cont e' S' => rw [hr] at h1; exact h2 e' S' h1
    | ret v S' => rw [hr] at h1; exact h1
    | brk e' S' => rw [hr] at h1; exact False.elim h1
    | exc _ _ _ => rw [hr] at h1; exact False.elim h1
    | stuck => rw [hr] at h1; exact False.elim h1
theorem FOk.elim {I : Env → Store → Prop} {Q : Val → Store → Prop} {r : SR} (h : FOk I Q r) (P : SR → Prop) (h1 : ∀ e S, I e S → P (.next e S)) (h2 : ∀ v S, Q v S → P (.ret v S)) : P r := by
  cases r with
  | next e S => exact h1 e S h
  | ret v S => exact h2 v S h
  | _ => exact False.elim h
theorem FOk.toR {I : Env → Store → Prop} {Q : Val → Store → Prop} {r : SR} {k : Env → Store → SR} {m : Mode} {len : Nat} {rhs : R Val} (h : FOk I Q r) (h1 : ∀ e S, I e S → leave m len ((SR.next e S).bind k).toR = rhs) (h2 : ∀ v S, Q v S → leave m len ((SR.ret v S).bind k).toR = rhs) : leave m len (r.bind k).toR = rhs := by
  cases r with
  | next e S => exact h1 e S h
  | ret v S => exact h2 v S h
  | _ => exact False.elim h
theorem FOk.toB {I I2 : Env → Store → Prop} {Q Q2 : Val → Store → Prop} {r : SR} {k : Env → Store → SR} (h : FOk I Q r) (h1 : ∀ e S, I e S → BOk I2 Q2 ((SR.next e S).bind k)) (h2 : ∀ v S, Q v S → BOk I2 Q2 ((SR.ret v S).bind k)) : BOk I2 Q2 (r.bind k) := by
  cases r with
  | next e S => exact h1 e S h
  | ret v S => exact h2 v S h
  | _ => exact False.elim h
@[simp] theorem leave_keep (n : Nat) (r : R Val) : leave .keep n r = r := (rfl)
@[simp] theorem forB_x (C : Calls) (F : Nat) (tg : Tg) (body : IS) (x : Val) (env : Env) (S : Store) : forB C F tg body x env S = oS (asg tg x env) fun env' => evS C F body env' S := by
  unfold forB
  cases asg tg x env <;> rfl
theorem mth_appN (S : Store) (xs : List Val) (y : Val) (h : xs.length < sizeLine) : mthV .append (.loc S.length) [y] (S ++ [.lst xs]) = .ok .non (S ++ [.lst (xs ++ [y])]) := by
  rw [mth_app (xs := xs) _ _ _ (by simp) h]; simp
theorem mth_extN (S : Store) (xs ys : List Val) (h : xs.length + ys.length ≤ sizeLine) : mthV .extend (.loc S.length) [.tup ys] (S ++ [.lst xs]) = .ok .non (S ++ [.lst (xs ++ ys)]) := by
  rw [mth_ext (xs := xs) _ _ _ (by simp) h]; simp
/-- a loop of a state -/
theorem forGo_fold {α σ : Type} (e : α → Val) (E : σ → Env) (T : σ → Store) (g : σ → α → σ) {f : Val → Env → Store → SR} : ∀ (xs : List α) (s : σ), (∀ x ∈ xs, ∀ s, f (e x) (E s) (T s) = .next (E (g s x)) (T (g s x))) → forGo f (xs.map e) (E s) (T s) = .next (E (xs.foldl g s)) (T (xs.foldl g s))
  | [], s, _ => rfl
  | x :: xs, s, h => by
    have h1 := h x (by simp) s
    have h2 := forGo_fold e E T g xs (g s x) fun y hy => h y (by simp [hy])
    simp only [List.map_cons, forGo, h1, h2, List.foldl_cons]
@[simp] theorem intsOf_map (l : List Nat) : intsOf (l.map fun n : Nat => Val.int (n : Int)) = some (l.map fun n : Nat => (n : Int)) := by
  induction l with
  | nil => rfl
  | cons x l ih => simp [intsOf, ih]
@[simp] theorem blsOf_map {α : Type} (l : List α) (g : α → Bool) : blsOf (l.map fun x => Val.bl (g x)) = some (l.map g) := by
  induction l with
  | nil => rfl
  | cons x l ih => simp [blsOf, ih]
theorem sum_cast (l : List Nat) : (l.map fun n : Nat => (n : Int)).sum = ((l.sum : Nat) : Int) := by
  induction l with
  | nil => rfl
  | cons x l ih => simp [ih]
theorem rangeV_nat (n : Nat) (h : n ≤ 1000000) : rangeV 0 (n : Int) = some ((List.range n).map fun i : Nat => Val.int (i : Int)) := by
  unfold rangeV
  rw [if_pos ⟨by omega, by omega, by omega, by omega⟩]
  simp
theorem enumV_map {α : Type} (e : α → Val) (xs : List α) : ∀ i, enumV i (xs.map e) = (xs.zipIdx i).map fun p => .tup [.int (p.2 : Int), e p.1] := by
  induction xs with
  | nil => intro i; rfl
  | cons x xs ih => intro i; simp [enumV, ih, List.zipIdx_cons]
theorem zipV_map {α β : Type} (e : α → Val) (f : β → Val) : ∀ (xs : List α) (ys : List β), zipV (xs.map e) (ys.map f) = (xs.zip ys).map fun p => .tup [e p.1, f p.2]
  | [], _ => by simp [zipV]
  | _ :: _, [] => by simp [zipV]
  | x :: xs, y :: ys => by simp [zipV, zipV_map e f xs ys]
theorem shpAll_ints (n : Nat) (l : List Nat) : Val.shpAll n (l.map fun n : Nat => Val.int (n : Int)) = true := by
  induction l with
  | nil => simp
  | cons x l ih => simp [ih]
theorem eqvAll_ints : ∀ (l k : List Nat), Val.eqvAll (l.map fun n : Nat => Val.int (n : Int)) (k.map fun n : Nat => Val.int (n : Int)) = decide (l = k)
  | [], [] => by simp
  | [], _ :: _ => by simp
  | _ :: _, [] => by simp
  | x :: l, y :: k => by
    simp only [List.map_cons, q_11, q_ii, eqvAll_ints l k, beq_cast]
    by_cases h : x = y <;> simp [h]
theorem succ_of {n : Nat} (h : 1 ≤ n) : ∃ m, n = m + 1 := ⟨n - 1, by omega⟩
end Lt
set_option maxHeartbeats 4000000
namespace Lt
open PySem
section
variable {F n : Nat} {S : Store}
theorem r_is_between (hn : 1 ≤ n) (i lo hi : Int) : run TBL F n j_is_between [.int i, .int lo, .int hi] S = .ok (.bl (decide (lo ≤ i) && decide (i ≤ hi))) S := by
  obtain ⟨m, rfl⟩ := succ_of (show 1 ≤ n by omega)
  rw [run_is_between]
  simp [b_is_between]
theorem r_is_between_t (hn : 1 ≤ n) (i lo hi : Int) (h1 : lo ≤ i) (h2 : i ≤ hi) : run TBL F n j_is_between [.int i, .int lo, .int hi] S = .ok (.bl true) S := by
  rw [r_is_between hn]; simp [h1, h2]
theorem r_is_who (hn : 2 ≤ n) (W : Nat) (who : Option Nat) (h : ∀ x, who = some x → x < W) : run TBL F n j_is_who [.int (W : Int), eW who] S = .ok (.bl true) S := by
  obtain ⟨m, rfl⟩ := succ_of (show 1 ≤ n by omega)
  rw [run_is_who]
  cases who with
  | none => simp [b_is_who, eW]
  | some x =>
    have := h x rfl
    have e : run TBL F m 0 [.int (x : Int), .int 0, .int ((W : Int) - 1)] S = .ok (.bl true) S := r_is_between_t (by omega) _ _ _ (by omega) (by omega)
    simp [b_is_who, eW, e]
theorem r_fits_came (hn : 3 ≤ n) (W : Nat) (who : Option Nat) (t : Nat) (h : (Note.came who t).ok W) : run TBL F n j_fits_came [.int (W : Int), eW who, .int (t : Int)] S = .ok (.bl true) S := by
  obtain ⟨m, rfl⟩ := succ_of (show 1 ≤ n by omega)
  rw [run_fits_came]
  have e1 : run TBL F m 1 [.int (W : Int), eW who] S = .ok (.bl true) S := r_is_who (by omega) _ _ h.1
  have e2 : run TBL F m 0 [.int (t : Int), .int 1, .int 4] S = .ok (.bl true) S := r_is_between_t (by omega) _ _ _ (by have := h.2.1; omega) (by have := h.2.2; omega)
  simp [b_fits_came, e1, e2]
theorem r_fits_round (hn : 3 ≤ n) (W : Nat) (who : Option Nat) (t : Nat) (h : (Note.round who t).ok W) : run TBL F n j_fits_round [.int (W : Int), eW who, .int (t : Int)] S = .ok (.bl true) S := by
  obtain ⟨m, rfl⟩ := succ_of (show 1 ≤ n by omega)
  rw [run_fits_round]
  have e1 : run TBL F m 1 [.int (W : Int), eW who] S = .ok (.bl true) S := r_is_who (by omega) _ _ h.1
  have e2 : run TBL F m 0 [.int (t : Int), .int 2, .int 4] S = .ok (.bl true) S := r_is_between_t (by omega) _ _ _ (by have := h.2.1; omega) (by have := h.2.2; omega)
  simp [b_fits_round, e1, e2]
theorem r_fits_since (hn : 2 ≤ n) (W : Nat) (a b : Nat) (h : (Note.since a b).ok W) : run TBL F n j_fits_since [.int (W : Int), .int (a : Int), .int (b : Int)] S = .ok (.bl true) S := by
  obtain ⟨m, rfl⟩ := succ_of (show 1 ≤ n by omega)
  rw [run_fits_since]
  obtain ⟨h1, h2, h3⟩ := h
  have e1 : run TBL F m 0 [.int (a : Int), .int 0, .int ((W : Int) - 1)] S = .ok (.bl true) S := r_is_between_t (by omega) _ _ _ (by omega) (by omega)
  have e2 : run TBL F m 0 [.int (b : Int), .int 0, .int ((W : Int) - 1)] S = .ok (.bl true) S := r_is_between_t (by omega) _ _ _ (by omega) (by omega)
  simp [b_fits_since, e1, e2]
  omega
theorem r_is_note_of (hn : 4 ≤ n) (W : Nat) (nt : Note) (h : nt.ok W) : run TBL F n j_is_note_of [.int (W : Int), nt.e] S = .ok (.bl true) S := by
  obtain ⟨m, rfl⟩ := succ_of (show 1 ≤ n by omega)
  rw [run_is_note_of]
  cases nt with
  | came w t =>
    have e1 : run TBL F m 2 [.int (W : Int), eW w, .int (t : Int)] S = .ok (.bl true) S := r_fits_came (by omega) _ _ _ h
    simp [b_is_note_of, Note.e, t_PAIRS, List.lookup, e1]
  | round w t =>
    have e1 : run TBL F m 3 [.int (W : Int), eW w, .int (t : Int)] S = .ok (.bl true) S := r_fits_round (by omega) _ _ _ h
    simp [b_is_note_of, Note.e, t_PAIRS, List.lookup, e1]
  | since a b =>
    have e1 : run TBL F m 4 [.int (W : Int), .int (a : Int), .int (b : Int)] S = .ok (.bl true) S := r_fits_since (by omega) _ _ _ h
    simp [b_is_note_of, Note.e, t_PAIRS, List.lookup, e1]
  | here w =>
    have e1 : run TBL F m 1 [.int (W : Int), eW w] S = .ok (.bl true) S := r_is_who (by omega) _ _ h
    simp [b_is_note_of, Note.e, e1]
  | last => simp [b_is_note_of, Note.e]
  | first => simp [b_is_note_of, Note.e]
theorem r_most_in (hn : 1 ≤ n) (W : Nat) (nt : Note) (h : nt.ok W) : run TBL F n j_most_in [.int (W : Int), nt.e] S = .ok (.int (mostIn W nt : Nat)) S := by
  obtain ⟨m, rfl⟩ := succ_of (show 1 ≤ n by omega)
  rw [run_most_in]
  cases nt with
  | round w t =>
    have := h.2.1
    simp [b_most_in, Note.e, mostIn]; omega
  | here w => cases w <;> simp [b_most_in, Note.e, mostIn, eW]
  | _ => simp [b_most_in, Note.e, mostIn]
theorem r_is_of (hn : 1 ≤ n) (nt : Note) (w : Nat) (hk : nt ≠ .last ∧ nt ≠ .first) : run TBL F n j_is_of [nt.e, .int (w : Int)] S = .ok (.bl (isOf nt.who w)) S := by
  obtain ⟨m, rfl⟩ := succ_of (show 1 ≤ n by omega)
  rw [run_is_of]
  cases nt with
  | came who t => cases who <;> simp [b_is_of, Note.e, isOf, Note.who, eW]
  | round who t => cases who <;> simp [b_is_of, Note.e, isOf, Note.who, eW]
  | since a b => simp [b_is_of, Note.e, isOf, Note.who, eW]
  | here who => cases who <;> simp [b_is_of, Note.e, isOf, Note.who, eW]
  | last => exact absurd rfl hk.1
  | first => exact absurd rfl hk.2
end
end Lt
set_option maxHeartbeats 4000000
namespace Lt
open PySem
section
variable {F n : Nat} {S : Store}
theorem b2n (b : Bool) : (if b = true then (1 : Int) else 0) = ((b.toNat : Nat) : Int) := by cases b <;> rfl
theorem r_more_by (hn : 2 ≤ n) (nt : Note) (v w : Nat) (hk : nt ≠ .last ∧ nt ≠ .first) : run TBL F n j_more_by [nt.e, .int (v : Int), .int (w : Int)] S = .ok (.int ((v + (isOf nt.who w).toNat : Nat) : Int)) S := by
  obtain ⟨m, rfl⟩ := succ_of (show 1 ≤ n by omega)
  rw [run_more_by]
  have e1 : run TBL F m 7 [nt.e, .int (w : Int)] S = .ok (.bl (isOf nt.who w)) S := r_is_of (by omega) _ _ hk
  simp [b_more_by, e1, b2n]
theorem r_round_by (hn : 2 ≤ n) (who : Option Nat) (t v w : Nat) (ht : 2 ≤ t) : run TBL F n j_round_by [(Note.round who t).e, .int (v : Int), .int (w : Int)] S = .ok (.int (((v + (isOf who w).toNat) % t : Nat) : Int)) S := by
  obtain ⟨m, rfl⟩ := succ_of (show 1 ≤ n by omega)
  rw [run_round_by]
  have e1 : run TBL F m 7 [(Note.round who t).e, .int (w : Int)] S = .ok (.bl (isOf who w)) S := r_is_of (by omega) (Note.round who t) _ (by simp)
  have e2 : binV .Mod (.int ((v : Int) + ((isOf who w).toNat : Nat))) (.int (t : Int)) = some (.int (((v + (isOf who w).toNat) % t : Nat) : Int)) := by
    rw [b_mod _ _ (by omega)]; simp
  simp [b_round_by, e1, b2n]
  simp [Note.e, e2]
theorem r_last_by (hn : 1 ≤ n) (nt : Val) (v w : Nat) : run TBL F n j_last_by [nt, .int (v : Int), .int (w : Int)] S = .ok (.int ((1 + w : Nat) : Int)) S := by
  obtain ⟨m, rfl⟩ := succ_of (show 1 ≤ n by omega)
  rw [run_last_by]
  simp [b_last_by]
theorem r_first_by (hn : 1 ≤ n) (nt : Val) (v w : Nat) : run TBL F n j_first_by [nt, .int (v : Int), .int (w : Int)] S = .ok (.int ((if v = 0 then 1 + w else v : Nat) : Int)) S := by
  obtain ⟨m, rfl⟩ := succ_of (show 1 ≤ n by omega)
  rw [run_first_by]
  cases v with
  | zero => simp [b_first_by]
  | succ v => simp [b_first_by, show ¬ ((v : Int) + 1 = 0) by omega, show ((v : Int) + 1 == 0) = false by simp; omega]
theorem r_since_by (hn : 1 ≤ n) (a b v w : Nat) : run TBL F n j_since_by [(Note.since a b).e, .int (v : Int), .int (w : Int)] S = .ok (.int ((if w = a then 1 else if w = b then 0 else v : Nat) : Int)) S := by
  obtain ⟨m, rfl⟩ := succ_of (show 1 ≤ n by omega)
  rw [run_since_by]
  by_cases h : w = a
  · simp [b_since_by, Note.e, h]
  · by_cases h2 : w = b
    · simp [b_since_by, Note.e, h, h2, show (w == a) = false by simpa using h, show (b == a) = false by simpa using h2 ▸ h, show ¬ b = a from h2 ▸ h]
    · simp [b_since_by, Note.e, h, h2, show (w == a) = false by simpa using h, show (w == b) = false by simpa using h2]
theorem minI (a b : Nat) : (if (b : Int) < (a : Int) then (b : Int) else (a : Int)) = ((min a b : Nat) : Int) := by
  by_cases h : b < a
  · rw [if_pos (by omega), Nat.min_eq_right (by omega)]
  · rw [if_neg (by omega), Nat.min_eq_left (by omega)]
theorem r_value_after_in (hn : 3 ≤ n) (W : Nat) (nt : Note) (v w f : Nat) (h : nt.ok W) : run TBL F n j_value_after [.int (W : Int), nt.e, .int (v : Int), (Touch.in_ w f).e] S = .ok (.int (valueAfter W nt v (.in_ w f) : Nat)) S := by
  obtain ⟨m, rfl⟩ := succ_of (show 1 ≤ n by omega)
  rw [run_value_after]
  have e1 : run TBL F m 6 [.int (W : Int), nt.e] S = .ok (.int (mostIn W nt : Nat)) S := r_most_in (by omega) _ _ h
  cases nt with
  | came who t =>
    have e2 : run TBL F m 8 [(Note.came who t).e, .int (v : Int), .int (w : Int)] S = .ok (.int ((comes (Note.came who t) v w : Nat) : Int)) S := r_more_by (by omega) _ _ _ (by simp)
    simp only [Note.e] at e1 e2
    simp only [valueAfter]
    generalize comes _ v w = c at *
    generalize mostIn W _ = q at *
    simp [b_value_after, Touch.e, Note.e, t_COMES, List.lookup, e1, e2]
    simpa using minI q c
  | round who t =>
    have e2 : run TBL F m 9 [(Note.round who t).e, .int (v : Int), .int (w : Int)] S = .ok (.int ((comes (Note.round who t) v w : Nat) : Int)) S := r_round_by (by omega) _ _ _ _ h.2.1
    simp only [Note.e] at e1 e2
    simp only [valueAfter]
    generalize comes _ v w = c at *
    generalize mostIn W _ = q at *
    simp [b_value_after, Touch.e, Note.e, t_COMES, List.lookup, e1, e2]
    simpa using minI q c
  | since a b =>
    have e2 : run TBL F m 12 [(Note.since a b).e, .int (v : Int), .int (w : Int)] S = .ok (.int ((comes (Note.since a b) v w : Nat) : Int)) S := r_since_by (by omega) _ _ _ _
    simp only [Note.e] at e1 e2
    simp only [valueAfter]
    generalize comes _ v w = c at *
    generalize mostIn W _ = q at *
    simp [b_value_after, Touch.e, Note.e, t_COMES, List.lookup, e1, e2]
    simpa using minI q c
  | here who =>
    have e2 : run TBL F m 8 [(Note.here who).e, .int (v : Int), .int (w : Int)] S = .ok (.int ((comes (Note.here who) v w : Nat) : Int)) S := r_more_by (by omega) _ _ _ (by simp)
    simp only [Note.e] at e1 e2
    simp only [valueAfter]
    generalize comes _ v w = c at *
    generalize mostIn W _ = q at *
    simp [b_value_after, Touch.e, Note.e, t_COMES, List.lookup, e1, e2]
    simpa using minI q c
  | last =>
    have e2 : run TBL F m 10 [(Note.last).e, .int (v : Int), .int (w : Int)] S = .ok (.int ((comes (Note.last) v w : Nat) : Int)) S := r_last_by (by omega) _ _ _
    simp only [Note.e] at e1 e2
    simp only [valueAfter]
    generalize comes _ v w = c at *
    generalize mostIn W _ = q at *
    simp [b_value_after, Touch.e, Note.e, t_COMES, List.lookup, e1, e2]
    simpa using minI q c
  | first =>
    have e2 : run TBL F m 11 [(Note.first).e, .int (v : Int), .int (w : Int)] S = .ok (.int ((comes (Note.first) v w : Nat) : Int)) S := r_first_by (by omega) _ _ _
    simp only [Note.e] at e1 e2
    simp only [valueAfter]
    generalize comes _ v w = c at *
    generalize mostIn W _ = q at *
    simp [b_value_after, Touch.e, Note.e, t_COMES, List.lookup, e1, e2]
    simpa using minI q c
theorem r_value_after_out (hn : 3 ≤ n) (W : Nat) (nt : Note) (v w f : Nat) (h : nt.ok W) : run TBL F n j_value_after [.int (W : Int), nt.e, .int (v : Int), (Touch.out w f).e] S = .ok (.int (valueAfter W nt v (.out w f) : Nat)) S := by
  obtain ⟨m, rfl⟩ := succ_of (show 1 ≤ n by omega)
  rw [run_value_after]
  cases nt with
  | here who =>
    have e2 : run TBL F m 7 [(Note.here who).e, .int (w : Int)] S = .ok (.bl (isOf who w)) S := r_is_of (by omega) (Note.here who) _ (by simp)
    simp only [Note.e] at e2
    cases hb : isOf who w with
    | true =>
      simp [b_value_after, Touch.e, Note.e, e2, hb, valueAfter, Note.isHere, Note.who]
      split <;> omega
    | false => simp [b_value_after, Touch.e, Note.e, e2, hb, valueAfter, Note.isHere, Note.who]
  | _ => simp [b_value_after, Touch.e, Note.e, valueAfter, Note.isHere]
theorem r_value_after (hn : 3 ≤ n) (W : Nat) (nt : Note) (v : Nat) (t : Touch) (h : nt.ok W) : run TBL F n j_value_after [.int (W : Int), nt.e, .int (v : Int), t.e] S = .ok (.int (valueAfter W nt v t : Nat)) S := by
  cases t with
  | out w d => exact r_value_after_out hn W nt v w d h
  | in_ w d => exact r_value_after_in hn W nt v w d h
end
end Lt
set_option maxHeartbeats 4000000
namespace Lt
open PySem
@[simp] theorem lcB_y (C : Calls) (own : List (Str × Nat)) (tg : Tg) (elt : IE) (env : Env) (x : Val) (S : Store) : lcB C own tg .yes elt env x S = oP (asg tg x (wipeE env (own.map (·.2)))) fun env1 => ((evE C elt env1 S).bind fun v S3 => .ok (some v) S3).noexc := by
  unfold lcB
  cases asg tg x (wipeE env (own.map (·.2))) <;> simp [oP]
def oC (v : Val) (a b : R (Option Val)) : R (Option Val) := match v with
  | .bl true => a
  | .bl false => b
  | _ => .stuck
theorem oC_cg {v v' : Val} (h : v = v') (a b : R (Option Val)) : oC v a b = oC v' a b := by rw [h]
@[simp ↓] theorem oC_t (a b : R (Option Val)) : oC (.bl true) a b = a := (rfl)
@[simp ↓] theorem oC_f (a b : R (Option Val)) : oC (.bl false) a b = b := (rfl)
@[simp] theorem oC_b (c : Bool) (v : Val) (S : Store) : oC (.bl c) (.ok (some v) S) (.ok none S) = .ok (if c then some v else none) S := by cases c <;> rfl
theorem lcB_c (C : Calls) (own : List (Str × Nat)) (tg : Tg) (cond elt : IE) (env : Env) (x : Val) (S : Store) : lcB C own tg cond elt env x S = oP (asg tg x (wipeE env (own.map (·.2)))) fun env1 => ((evE C cond env1 S).bind fun c S2 => oC c ((evE C elt env1 S2).bind fun v S3 => .ok (some v) S3) (.ok none S2)).noexc := by
  unfold lcB
  cases asg tg x (wipeE env (own.map (·.2))) <;> rfl
@[simp] theorem all_t {α : Type} (l : List α) : (l.all fun _ => true) = true := by induction l <;> simp
theorem blsOf_all {α : Type} (l : List α) : blsOf (l.map fun _ => Val.bl true) = some (l.map fun _ => true) := blsOf_map l _
section
variable {F n : Nat} {S : Store}
theorem r_are_notes (hn : 5 ≤ n) (W : Nat) (l : List Note) (h : ∀ x ∈ l, x.ok W) (hl : l.length ≤ 4) : run TBL F n j_are_notes [.int (W : Int), eNotes l] S = .ok (.bl true) S := by
  obtain ⟨m, rfl⟩ := succ_of (show 1 ≤ n by omega)
  rw [run_are_notes]
  have hl' : (l.length : Int) ≤ 4 := by omega
  simp [b_are_notes, eNotes, hl']
  rw [lcGo_of Note.e (fun _ => .bl true) l]
  · simp
  · intro x hx
    have e1 : run TBL F m 5 [.int (W : Int), x.e] S = .ok (.bl true) S := r_is_note_of (by omega) _ _ (h x hx)
    simp [e1]
theorem zip_drop (l : List Nat) : ∀ p ∈ l.zip (l.drop 1), l.Pairwise (· < ·) → p.1 < p.2 := by
  intro p hp h
  obtain ⟨i, hi, e⟩ := List.getElem_of_mem hp
  rw [List.getElem_zip] at e
  rw [List.pairwise_iff_getElem] at h
  simp at hi
  have h1 : i < l.length := by omega
  have h2 : 1 + i < l.length := by omega
  have := h i (1 + i) h1 h2 (by omega)
  rw [← e]
  simpa [Nat.add_comm] using this
theorem r_are_walkers (hn : 2 ≤ n) (W : Nat) (l : List Nat) (h : l ≠ []) (h2 : ∀ x ∈ l, x < W) (h3 : l.Pairwise (· < ·)) : run TBL F n j_are_walkers [.int (W : Int), eNs l] S = .ok (.bl true) S := by
  obtain ⟨m, rfl⟩ := succ_of (show 1 ≤ n by omega)
  rw [run_are_walkers]
  have hq : Val.eqvAll (l.map fun n : Nat => Val.int (n : Int)) [] = false := by cases l with
    | nil => exact absurd rfl h
    | cons x l => rfl
  simp [b_are_walkers, eNs, hq, shpAll_ints]
  rw [lcGo_of (fun n : Nat => Val.int (n : Int)) (fun _ => .bl true) l]
  · have hz : zipV (l.map iN) (cut (l.map iN) (some 1) none) = (l.zip (l.drop 1)).map fun p => .tup [iN p.1, iN p.2] := by
      rw [show (1 : Int) = ((1 : Nat) : Int) from rfl, cut_from, ← List.map_drop, zipV_map]
    simp [hz, -List.drop_one]
    rw [lcGo_of (fun p : Nat × Nat => Val.tup [iN p.1, iN p.2]) (fun _ => .bl true)]
    · simp
    · intro p hp
      have := zip_drop l p (by simpa using hp) h3
      simp; omega
  · intro x hx
    have := h2 x hx
    have e1 : run TBL F m 0 [.int (x : Int), .int 0, .int ((W : Int) - 1)] S = .ok (.bl true) S := r_is_between_t (by omega) _ _ _ (by omega) (by omega)
    simp [e1]
theorem r_is_span (hn : 2 ≤ n) (W : Nat) (ns : List Note) (k lo hi : Nat) (nt : Note) (hk : ns[k]? = some nt) (hs : nt.ok W) (h1 : lo ≤ hi) (h2 : hi ≤ mostIn W nt) : run TBL F n j_is_span [.int (W : Int), eNotes ns, .int (k : Int), .int (lo : Int), .int (hi : Int)] S = .ok (.bl true) S := by
  obtain ⟨m, rfl⟩ := succ_of (show 1 ≤ n by omega)
  rw [run_is_span]
  have hkl := (List.getElem?_eq_some_iff.mp hk).1
  have e1 : run TBL F m 0 [.int (k : Int), .int 0, .int ((ns.length : Int) - 1)] S = .ok (.bl true) S := r_is_between_t (by omega) _ _ _ (by omega) (by omega)
  have e2 : run TBL F m 6 [.int (W : Int), nt.e] S = .ok (.int (mostIn W nt : Nat)) S := r_most_in (by omega) _ _ hs
  have e3 : run TBL F m 0 [.int (lo : Int), .int 0, .int (mostIn W nt : Nat)] S = .ok (.bl true) S := r_is_between_t (by omega) _ _ _ (by omega) (by omega)
  have e4 : run TBL F m 0 [.int (hi : Int), .int (lo : Int), .int (mostIn W nt : Nat)] S = .ok (.bl true) S := r_is_between_t (by omega) _ _ _ (by omega) (by omega)
  simp [b_is_span, eNotes, e1, hk, e2, e3, e4]
theorem Rule.shp (W : Nat) (ns : List Note) : ∀ (d : Nat) (r : Rule), r.ok W ns d → ∀ k, d + 2 ≤ k → Val.shp k r.e = true
  | 0, _, h, _, _ => False.elim h
  | d + 1, r, h, k, hk => by
    obtain ⟨k, rfl⟩ := succ_of (show 1 ≤ k by omega)
    cases r with
    | free => simp [Rule.e]
    | who ws =>
      obtain ⟨k, rfl⟩ := succ_of (show 1 ≤ k by omega)
      simp [Rule.e, eNs, shpAll_ints]
    | note k lo hi => simp [Rule.e]
    | mine k => simp [Rule.e]
    | not r => simp [Rule.e, Rule.shp W ns d r h k (by omega)]
    | both a b => simp [Rule.e, Rule.shp W ns d a h.1 k (by omega), Rule.shp W ns d b h.2 k (by omega)]
    | either a b => simp [Rule.e, Rule.shp W ns d a h.1 k (by omega), Rule.shp W ns d b h.2 k (by omega)]
theorem r_is_rule_of (W : Nat) (ns : List Note) (hns : ∀ x ∈ ns, x.ok W) : ∀ (d : Nat) (r : Rule) (n : Nat) (S : Store), d ≤ 30 → 2 * d + 3 ≤ n → r.ok W ns d → run TBL F n j_is_rule_of [.int (W : Int), eNotes ns, r.e, .int (d : Int)] S = .ok (.bl true) S
  | 0, _, _, _, _, _, h => False.elim h
  | d + 1, r, n, S, hd30, hn, h => by
    obtain ⟨m, rfl⟩ := succ_of (show 1 ≤ n by omega)
    obtain ⟨p, rfl⟩ := succ_of (show 1 ≤ m by omega)
    rw [run_is_rule_of]
    have hd : ((d : Int) + 1 == 0) = false := by simp; omega
    have hd2 : (d : Int) + 1 - 1 = d := by omega
    cases r with
    | free =>
      have e1 : ∀ x, run TBL F (p + 1) 17 [.int (W : Int), eNotes ns, .lst [], x] S = .ok (.bl true) S := fun x => by
        rw [run_fits_free]; simp [b_fits_free]
      simp [b_is_rule_of, Rule.e, t_FITS, List.lookup, hd, e1]
    | who ws =>
      have e2 : run TBL F p 15 [.int (W : Int), eNs ws] S = .ok (.bl true) S := r_are_walkers (by omega) _ _ h.1 h.2.1 h.2.2
      have e1 : ∀ x, run TBL F (p + 1) 18 [.int (W : Int), eNotes ns, .lst [eNs ws], x] S = .ok (.bl true) S := fun x => by
        rw [run_fits_who]; simp [b_fits_who, e2]
      have hs : Val.shp 39 (eNs ws) = true := by unfold eNs; simp [shpAll_ints]
      simp [b_is_rule_of, Rule.e, t_FITS, List.lookup, hd, e1, hs]
    | note k lo hi =>
      obtain ⟨nt, hk, h1, h2⟩ := h
      have e2 : run TBL F p 16 [.int (W : Int), eNotes ns, .int (k : Int), .int (lo : Int), .int (hi : Int)] S = .ok (.bl true) S := r_is_span (by omega) _ _ _ _ _ nt hk (hns nt (List.mem_of_getElem? hk)) h1 h2
      have e1 : ∀ x, run TBL F (p + 1) 19 [.int (W : Int), eNotes ns, .lst [.int (k : Int), .int (lo : Int), .int (hi : Int)], x] S = .ok (.bl true) S := fun x => by
        rw [run_fits_note]; simp [b_fits_note, e2]
      simp [b_is_rule_of, Rule.e, t_FITS, List.lookup, hd, e1]
    | mine k =>
      have hk : k < ns.length := by rcases h with h | h <;> exact (List.getElem?_eq_some_iff.mp h).1
      have e2 : run TBL F p 0 [.int (k : Int), .int 0, .int ((ns.length : Int) - 1)] S = .ok (.bl true) S := r_is_between_t (by omega) _ _ _ (by omega) (by omega)
      have e1 : ∀ x, run TBL F (p + 1) 20 [.int (W : Int), .tup (ns.map Note.e), .lst [.int (k : Int)], x] S = .ok (.bl true) S := fun x => by
        rw [run_fits_mine]
        rcases h with h | h <;> simp [b_fits_mine, e2, h, Note.e]
      simp [b_is_rule_of, Rule.e, t_FITS, List.lookup, hd, e1, eNotes]
    | not r =>
      have e2 : run TBL F p 23 [.int (W : Int), eNotes ns, r.e, .int (d : Int)] S = .ok (.bl true) S := r_is_rule_of W ns hns d r p S (by omega) (by omega) h
      have e1 : run TBL F (p + 1) 21 [.int (W : Int), eNotes ns, .lst [r.e], .int ((d : Int) + 1)] S = .ok (.bl true) S := by
        rw [run_fits_one]; simp [b_fits_one, e2, hd2]
      have hs : Val.shp 39 r.e = true := Rule.shp W ns d r h _ (by omega)
      simp [b_is_rule_of, Rule.e, t_FITS, List.lookup, hd, e1, hs]
    | both a b =>
      have e2 : run TBL F p 23 [.int (W : Int), eNotes ns, a.e, .int (d : Int)] S = .ok (.bl true) S := r_is_rule_of W ns hns d a p S (by omega) (by omega) h.1
      have e3 : run TBL F p 23 [.int (W : Int), eNotes ns, b.e, .int (d : Int)] S = .ok (.bl true) S := r_is_rule_of W ns hns d b p S (by omega) (by omega) h.2
      have e1 : run TBL F (p + 1) 22 [.int (W : Int), eNotes ns, .lst [a.e, b.e], .int ((d : Int) + 1)] S = .ok (.bl true) S := by
        rw [run_fits_two]; simp [b_fits_two, lcGo, blsOf, e2, e3, hd2]
      have hs : Val.shp 39 a.e = true := Rule.shp W ns d a h.1 _ (by omega)
      have hs2 : Val.shp 39 b.e = true := Rule.shp W ns d b h.2 _ (by omega)
      simp [b_is_rule_of, Rule.e, t_FITS, List.lookup, hd, e1, hs, hs2]
    | either a b =>
      have e2 : run TBL F p 23 [.int (W : Int), eNotes ns, a.e, .int (d : Int)] S = .ok (.bl true) S := r_is_rule_of W ns hns d a p S (by omega) (by omega) h.1
      have e3 : run TBL F p 23 [.int (W : Int), eNotes ns, b.e, .int (d : Int)] S = .ok (.bl true) S := r_is_rule_of W ns hns d b p S (by omega) (by omega) h.2
      have e1 : run TBL F (p + 1) 22 [.int (W : Int), eNotes ns, .lst [a.e, b.e], .int ((d : Int) + 1)] S = .ok (.bl true) S := by
        rw [run_fits_two]; simp [b_fits_two, lcGo, blsOf, e2, e3, hd2]
      have hs : Val.shp 39 a.e = true := Rule.shp W ns d a h.1 _ (by omega)
      have hs2 : Val.shp 39 b.e = true := Rule.shp W ns d b h.2 _ (by omega)
      simp [b_is_rule_of, Rule.e, t_FITS, List.lookup, hd, e1, hs, hs2]
end
end Lt
set_option maxHeartbeats 4000000
namespace Lt
open PySem
theorem getD_at {l : List Nat} {k : Nat} (h : k < l.length) : l[k]? = some (l.getD k 0) := by
  rw [List.getD_eq_getElem?_getD, List.getElem?_eq_getElem h]; rfl
@[simp] theorem eqv_any_nat (l : List Nat) (w : Nat) : (List.any (l.map iN) fun y => Val.eqv y (.int (w : Int))) = l.contains w := by
  induction l with
  | nil => rfl
  | cons x l ih =>
    rw [List.map_cons, List.any_cons, ih, List.contains_cons, q_ii, beq_cast]
    rw [Bool.beq_comm]
@[simp] theorem all_flat (l : List Nat) : (List.all (l.map iN) Val.flat) = true := by
  induction l with
  | nil => rfl
  | cons x l ih => simp [ih]
section
variable {F n : Nat} {S : Store}
theorem r_lets (W : Nat) (ns : List Note) (mem : Mem) (w : Nat) (hm : mem.length = ns.length) : ∀ (d : Nat) (r : Rule) (n : Nat) (S : Store), d ≤ n → r.ok W ns d → run TBL F n j_lets [r.e, eNs mem, .int (w : Int)] S = .ok (.bl (lets r mem w)) S
  | 0, _, _, _, _, h => False.elim h
  | d + 1, r, n, S, hn, h => by
    obtain ⟨m, rfl⟩ := succ_of (show 1 ≤ n by omega)
    rw [run_lets]
    cases r with
    | free => simp [b_lets, Rule.e, lets]
    | who ws =>
      have e := eqv_any_nat ws w
      simp only [List.any_map] at e
      simp [b_lets, Rule.e, lets, eNs, e]
    | note k lo hi =>
      obtain ⟨nt, hk, h1, h2⟩ := h
      have hk : mem[k]? = some (mem.getD k 0) := getD_at (by rw [hm]; exact (List.getElem?_eq_some_iff.mp hk).1)
      simp only [lets]
      generalize mem.getD k 0 = v at *
      simp [b_lets, Rule.e, eNs, hk]
    | mine k =>
      have hk : k < mem.length := by rw [hm]; rcases h with h | h <;> exact (List.getElem?_eq_some_iff.mp h).1
      have hk := getD_at hk
      simp only [lets]
      generalize mem.getD k 0 = v at *
      have e : ((v : Int) == 1 + (w : Int)) = (v == 1 + w) := by
        rw [show (1 : Int) + (w : Int) = ((1 + w : Nat) : Int) by omega, beq_cast]
      simp [b_lets, Rule.e, eNs, hk, e]
    | not r =>
      have e1 : run TBL F m 24 [r.e, .tup (mem.map iN), .int (w : Int)] S = .ok (.bl (lets r mem w)) S := r_lets W ns mem w hm d r m S (by omega) h
      simp [b_lets, Rule.e, eNs, e1, lets]
    | both a b =>
      have e1 : run TBL F m 24 [a.e, .tup (mem.map iN), .int (w : Int)] S = .ok (.bl (lets a mem w)) S := r_lets W ns mem w hm d a m S (by omega) h.1
      have e2 : run TBL F m 24 [b.e, .tup (mem.map iN), .int (w : Int)] S = .ok (.bl (lets b mem w)) S := r_lets W ns mem w hm d b m S (by omega) h.2
      simp [b_lets, Rule.e, eNs, e1, e2, lets, lcGo, blsOf]
    | either a b =>
      have e1 : run TBL F m 24 [a.e, .tup (mem.map iN), .int (w : Int)] S = .ok (.bl (lets a mem w)) S := r_lets W ns mem w hm d a m S (by omega) h.1
      have e2 : run TBL F m 24 [b.e, .tup (mem.map iN), .int (w : Int)] S = .ok (.bl (lets b mem w)) S := r_lets W ns mem w hm d b m S (by omega) h.2
      simp [b_lets, Rule.e, eNs, e1, e2, lets, lcGo, blsOf]
/-- a memory of notes -/
def MemOk (W : Nat) (ns : List Note) (m : Mem) : Prop := m.length = ns.length ∧ ∀ p ∈ ns.zip m, p.2 ≤ mostIn W p.1
theorem r_is_memory_of (hn : 2 ≤ n) (W : Nat) (ns : List Note) (hns : ∀ x ∈ ns, x.ok W) (mem : Mem) (h : MemOk W ns mem) : run TBL F n j_is_memory_of [.int (W : Int), eNotes ns, eNs mem] S = .ok (.bl true) S := by
  obtain ⟨m, rfl⟩ := succ_of (show 1 ≤ n by omega)
  rw [run_is_memory_of]
  have hl : (ns.length : Int) = mem.length := by rw [h.1]
  simp [b_is_memory_of, eNs, eNotes, h.1, zipV_map]
  rw [lcGo_of (fun p : Note × Nat => Val.tup [p.1.e, iN p.2]) (fun _ => .bl true)]
  · simp
  · intro p hp
    have hp1 : p.1.ok W := hns _ (List.of_mem_zip hp).1
    have e2 : run TBL F m 6 [.int (W : Int), p.1.e] S = .ok (.int (mostIn W p.1 : Nat)) S := r_most_in (by omega) _ _ hp1
    have e3 : run TBL F m 0 [.int (p.2 : Int), .int 0, .int (mostIn W p.1 : Nat)] S = .ok (.bl true) S := r_is_between_t (by omega) _ _ _ (by omega) (by have := h.2 p hp; omega)
    simp [e2, e3]
theorem r_is_door_of (hn : 12 ≤ n) (W many room : Nat) (ns : List Note) (hns : ∀ x ∈ ns, x.ok W) (d : Nat × Rule) (h1 : d.1 < many) (h2 : d.1 ≠ room) (h3 : d.2.ok W ns 4) : run TBL F n j_is_door_of [.int (W : Int), .int (many : Int), .int (room : Int), eNotes ns, eDoor d] S = .ok (.bl true) S := by
  obtain ⟨m, rfl⟩ := succ_of (show 1 ≤ n by omega)
  rw [run_is_door_of]
  have e1 : run TBL F m 0 [.int (d.1 : Int), .int 0, .int ((many : Int) - 1)] S = .ok (.bl true) S := r_is_between_t (by omega) _ _ _ (by omega) (by omega)
  have e2 : run TBL F m 23 [.int (W : Int), eNotes ns, d.2.e, .int 4] S = .ok (.bl true) S := r_is_rule_of W ns hns 4 d.2 m S (by omega) (by omega) h3
  have e3 : (d.1 == room) = false := by simpa using h2
  simp [b_is_door_of, eDoor, e1, e2, e3]
theorem r_is_room_of (hn : 13 ≤ n) (W many room : Nat) (r : Room) (h : RoomOk W many room r) : run TBL F n j_is_room_of [.int (W : Int), .int (many : Int), .int (room : Int), eRoom r] S = .ok (.bl true) S := by
  obtain ⟨m, rfl⟩ := succ_of (show 1 ≤ n by omega)
  rw [run_is_room_of]
  have e1 : run TBL F m 14 [.int (W : Int), eNotes r.1] S = .ok (.bl true) S := r_are_notes (by omega) _ _ h.ns h.nl
  have hd : ¬ (4 : Int) < (r.2.length : Int) := by have := h.dl; omega
  simp [b_is_room_of, eRoom, e1, eDoors, hd]
  rw [lcGo_of eDoor (fun _ => .bl true)]
  · simp
  · intro d hd
    obtain ⟨h1, h2, h3⟩ := h.ds d hd
    have e1 : run TBL F m 26 [.int (W : Int), .int (many : Int), .int (room : Int), eNotes r.1, eDoor d] S = .ok (.bl true) S := r_is_door_of (by omega) _ _ _ _ h.ns d h1 h2 h3
    simp [e1]
theorem r_is_house (hn : 14 ≤ n) (h : House) (ok : HouseOk h) : run TBL F n j_is_house [eHouse h] S = .ok (.bl true) S := by
  obtain ⟨m, rfl⟩ := succ_of (show 1 ≤ n by omega)
  rw [run_is_house]
  have q1 : (2 : Int) ≤ (h.1.length : Int) := by have := ok.r2; omega
  have q2 : (h.1.length : Int) ≤ 6 := by have := ok.r6; omega
  have q3 : (1 : Int) ≤ (h.2.length : Int) := by have := ok.s1; omega
  have q4 : (h.2.length : Int) ≤ 3 := by have := ok.s3; omega
  simp [b_is_house, eHouse, eNs, q1, q2, q3, q4]
  rw [lcGo_of iN (fun _ => .bl true)]
  · simp [enumV_map]
    rw [lcGo_of (fun p : Room × Nat => Val.tup [iN p.2, eRoom p.1]) (fun _ => .bl true)]
    · simp
      rw [lcGo_of eRoom (fun r => iN r.1.length)]
      · have hs : intsOf (h.1.map fun r => iN r.1.length) = some ((h.1.map fun r => r.1.length).map fun n : Nat => (n : Int)) := by
          rw [← intsOf_map, List.map_map]; rfl
        have := ok.nn
        simp only [xb_ok, al_f, k_sum, hs, Option.map_some, sum_cast, xof, x_con]
        simp
        omega
      · intro r hr
        simp [eRoom, eNotes]
    · intro p hp
      obtain ⟨i, hi, e⟩ := List.getElem_of_mem hp
      rw [List.getElem_zipIdx] at e
      have e1 : run TBL F m 27 [.int (h.2.length : Int), .int (h.1.length : Int), .int (p.2 : Int), eRoom p.1] S = .ok (.bl true) S := by
        subst e
        refine r_is_room_of (by omega) _ _ _ _ (ok.rs _ _ ?_)
        simp
      simp [e1]
  · intro x hx
    have := ok.st x hx
    have e1 : run TBL F m 0 [.int (x : Int), .int 0, .int ((h.1.length : Int) - 1)] S = .ok (.bl true) S := r_is_between_t (by omega) _ _ _ (by omega) (by omega)
    simp [e1]
theorem r_need_house (hn : 15 ≤ n) (h : House) (ok : HouseOk h) : run TBL F n j_need_house [eHouse h] S = .ok .non S := by
  obtain ⟨m, rfl⟩ := succ_of (show 1 ≤ n by omega)
  rw [run_need_house]
  have e1 : run TBL F m 28 [eHouse h] S = .ok (.bl true) S := r_is_house (by omega) _ ok
  simp [b_need_house, e1]
end
end Lt
set_option maxHeartbeats 4000000
namespace Lt
open PySem
@[simp] theorem cl_eW (w : Option Nat) : (eW w).cl = true := by cases w <;> rfl
@[simp] theorem cl_eNs (l : List Nat) : Val.clAll (l.map iN) = true := h_map _ _ fun _ _ => rfl
theorem clN (nt : Note) : nt.e.cl = true := by cases nt <;> simp [Note.e]
theorem clR : ∀ (r : Rule), r.e.cl = true
  | .free => by simp [Rule.e]
  | .who ws => by simp [Rule.e, eNs]
  | .note k lo hi => by simp [Rule.e]
  | .mine k => by simp [Rule.e]
  | .not r => by simp [Rule.e, clR r]
  | .both a b => by simp [Rule.e, clR a, clR b]
  | .either a b => by simp [Rule.e, clR a, clR b]
theorem clRm (r : Room) : (eRoom r).cl = true := by
  simp [eRoom, eNotes, eDoors]
  exact ⟨h_map _ _ fun _ _ => clN _, h_map _ _ fun d _ => by simp [eDoor, clR]⟩
theorem clH (h : House) : (eHouse h).cl = true := by
  simp [eHouse, eNs]
  exact h_map _ _ fun _ _ => clRm _
section
variable {F n : Nat} {S : Store}
theorem room_at {h : House} {room : Nat} (hr : room < h.1.length) : h.1[room]? = some (h.1.getD room ([], [])) := by
  rw [List.getD_eq_getElem?_getD, List.getElem?_eq_getElem hr]; rfl
theorem room_get {h : House} {room : Nat} {r : Room} (hr : h.1[room]? = some r) : h.1.getD room ([], []) = r := by
  rw [List.getD_eq_getElem?_getD, hr]; rfl
theorem r_need_room (hn : 2 ≤ n) (h : House) (room : Nat) (hr : room < h.1.length) : run TBL F n j_need_room [eHouse h, .int (room : Int)] S = .ok .non S := by
  obtain ⟨m, rfl⟩ := succ_of (show 1 ≤ n by omega)
  rw [run_need_room]
  have e1 : run TBL F m 0 [.int (room : Int), .int 0, .int ((h.1.length : Int) - 1)] S = .ok (.bl true) S := r_is_between_t (by omega) _ _ _ (by omega) (by omega)
  simp [b_need_room, eHouse, e1]
theorem r_need_walker (hn : 2 ≤ n) (h : House) (w : Nat) (hw : w < h.2.length) : run TBL F n j_need_walker [eHouse h, .int (w : Int)] S = .ok .non S := by
  obtain ⟨m, rfl⟩ := succ_of (show 1 ≤ n by omega)
  rw [run_need_walker]
  have e1 : run TBL F m 0 [.int (w : Int), .int 0, .int ((h.2.length : Int) - 1)] S = .ok (.bl true) S := r_is_between_t (by omega) _ _ _ (by omega) (by omega)
  simp [b_need_walker, eHouse, eNs, e1]
theorem r_need_memory (hn : 3 ≤ n) (h : House) (ok : HouseOk h) (room : Nat) (r : Room) (hr : h.1[room]? = some r) (mem : Mem) (hm : MemOk h.2.length r.1 mem) : run TBL F n j_need_memory [eHouse h, .int (room : Int), eNs mem] S = .ok .non S := by
  obtain ⟨m, rfl⟩ := succ_of (show 1 ≤ n by omega)
  rw [run_need_memory]
  have e1 : run TBL F m 25 [.int (h.2.length : Int), eNotes r.1, eNs mem] S = .ok (.bl true) S := r_is_memory_of (by omega) _ _ (ok.rs _ _ hr).ns _ hm
  unfold eNs at *
  simp [b_need_memory, eHouse, eNs, hr, eRoom, e1]
theorem count_filter (l : List Nat) (p : Nat → Bool) : ((l.filter p).map iN).length = (l.filter p).length := by simp
def firstV (h : House) (room : Nat) : Note → Nat
  | .here who => hereN h.2 room who
  | _ => 0
theorem memFirst_eq {h : House} {room : Nat} {r : Room} (hr : h.1[room]? = some r) : memFirst h room = r.1.map (firstV h room) := by
  unfold memFirst
  rw [room_get hr]
  exact List.map_congr_left fun n _ => by cases n <;> rfl
theorem there_here (places : List Nat) (room : Nat) (who : Option Nat) : ((((places.zipIdx.filter fun p => p.1 == room).map (·.2)).filter fun w => isOf who w)).length = hereN places room who := by
  unfold hereN
  rw [List.filter_map, List.length_map, List.filter_filter, List.countP_eq_length_filter]
  congr 1
  exact List.filter_congr fun x _ => by simp [Bool.and_comm]
theorem sz : sizeLine = 16777216 := by decide +kernel
theorem r_memory_at_first (hn : 2 ≤ n) (hS : SOk S) (h : House) (room : Nat) (r : Room) (hr : h.1[room]? = some r) (hl : r.1.length ≤ 4) : run TBL F n j_memory_at_first [eHouse h, .int (room : Int)] S = .ok (eNs (memFirst h room)) S := by
  obtain ⟨m, rfl⟩ := succ_of (show 1 ≤ n by omega)
  rw [run_memory_at_first, memFirst_eq hr]
  simp [b_memory_at_first, eHouse, eNs, hr, eRoom, enumV_map, eNotes]
  rw [lcGo_filt (fun p : Nat × Nat => Val.tup [.int (p.2 : Int), iN p.1]) (fun p => p.1 == room) (fun p => iN p.2)]
  · simp [hr, eRoom, eNotes]
    rw [show List.map (fun p : Nat × Nat => Val.int (p.2 : Int)) (List.filter (fun p => p.1 == room) h.2.zipIdx) = ((h.2.zipIdx.filter fun p => p.1 == room).map (·.2)).map iN by rw [List.map_map]; rfl]
    have hth := there_here h.2 room
    generalize (h.2.zipIdx.filter fun p => p.1 == room).map (·.2) = th at *
    refine FOk.toR (forGo_inv Note.e (fun k env S' => ∃ x y z, env = [some (Val.tup [Val.tup (h.1.map eRoom), Val.tup (h.2.map iN)]), some (Val.int (room : Int)), some (Val.lst (th.map iN)), some (Val.loc S.length), x, y, z] ∧ S' = S ++ [.lst ((r.1.map fun n => iN (firstV h room n)).take k)]) (fun _ _ => False) r.1 0 ?_ ?_) ?_ ?_
    · exact ⟨none, none, none, rfl, by simp⟩
    · rintro k x env S' hk ⟨a, b, c, rfl, rfl⟩
      simp
      rw [lcGo_filt iN (fun w => x.isHere && isOf x.who w) iN]
      · have hlen : ((r.1.map fun n => iN (firstV h room n)).take k).length < sizeLine := by
          rw [List.length_take, List.length_map, sz]
          omega
        have he : (th.filter fun w => x.isHere && isOf x.who w).length = firstV h room x := by
          cases x with
          | here who => simp only [Note.isHere, Bool.true_and]; exact hth who
          | _ => simp [Note.isHere, firstV]
        simp [mth_appN _ _ _ hlen, he, List.take_add_one, hk]
      · intro w hw
        rw [lcB_c]
        cases x with
        | here who =>
          have e1 : ∀ S, run TBL F m 7 [(Note.here who).e, .int (w : Int)] S = .ok (.bl (isOf who w)) S := fun S => r_is_of (by omega) (Note.here who) _ (by simp)
          simp only [Note.e] at e1
          simp [Note.e, e1, Note.isHere, Note.who]
        | _ => simp [Note.e, Note.isHere]
    · rintro env S' ⟨a, b, c, rfl, rfl⟩
      have ht : ∀ (l : List Val), l.length = r.1.length → l.take (0 + r.1.length) = l := fun l hl => by rw [← hl]; simp
      rw [ht _ (by simp)]
      simp
      refine leave_app hS ?_
      rw [h_tup]
      exact h_map _ _ fun _ _ => rfl
    · intro v S' hf
      exact False.elim hf
  · intro p hp
    rw [lcB_c]
    simp
theorem r_first_memory (hn : 16 ≤ n) (hS : SOk S) (h : House) (ok : HouseOk h) (room : Nat) (r : Room) (hr : h.1[room]? = some r) : run TBL F n j_first_memory [eHouse h, .int (room : Int)] S = .ok (eNs (memFirst h room)) S := by
  obtain ⟨m, rfl⟩ := succ_of (show 1 ≤ n by omega)
  rw [run_first_memory]
  have e1 : run TBL F m 29 [eHouse h] S = .ok .non S := r_need_house (by omega) h ok
  have e2 : run TBL F m 30 [eHouse h, .int (room : Int)] S = .ok .non S := r_need_room (by omega) h room (List.getElem?_eq_some_iff.mp hr).1
  have e3 : run TBL F m 34 [eHouse h, .int (room : Int)] S = .ok (eNs (memFirst h room)) S := r_memory_at_first (by omega) hS h room r hr (ok.rs _ _ hr).nl
  simp [b_first_memory, e1, e2, e3]
theorem lc2B_x (C : Calls) (own : List (Str × Nat)) (own2 : List Nat) (tg : Tg) (ik2 : IK) (src2 : IE) (tg2 : Tg) (elt : IE) (env : Env) (x : Val) (S : Store) : lc2B C own own2 tg ik2 src2 tg2 elt env x S = oP (asg tg x (wipeE env (own.map (·.2)))) fun env1 => ((evAs C src2 env1 S).bind fun us S2 => oP (itemsV ik2 us) fun items2 => lcGo (lcB2 C own2 tg2 elt env1) items2 S2).noexc := by
  unfold lc2B
  cases asg tg x (wipeE env (own.map (·.2))) with
  | none => rfl
  | some e =>
    simp only [oP_some]
    congr 2; funext us S2
    cases itemsV ik2 us <;> rfl
theorem lcB2_x (C : Calls) (own2 : List Nat) (tg2 : Tg) (elt : IE) (env1 : Env) (y : Val) (S : Store) : lcB2 C own2 tg2 elt env1 y S = oP (asg tg2 y (wipeE env1 own2)) fun env2 => (evE C elt env2 S).bind fun v S3 => .ok (some v) S3 := by
  unfold lcB2
  cases asg tg2 y (wipeE env1 own2) <;> rfl
theorem mem_len (h : House) (ok : HouseOk h) (room : Nat) : (memFirst h room).length ≤ 4 := by
  cases hr : h.1[room]? with
  | none =>
    have : h.1.getD room ([], []) = ([], []) := by rw [List.getD_eq_getElem?_getD, hr]; rfl
    simp [memFirst, this, hr]
  | some r => rw [memFirst_eq hr, List.length_map]; exact (ok.rs _ _ hr).nl
theorem flat_len {α β : Type} (f : α → List β) (c : Nat) : ∀ (l : List α), (∀ x ∈ l, (f x).length ≤ c) → (l.map f).flatten.length ≤ l.length * c
  | [], _ => by simp
  | x :: l, h => by
    have h1 := h x (by simp)
    have h2 := flat_len f c l fun y hy => h y (by simp [hy])
    rw [List.map_cons, List.flatten_cons, List.length_append, List.length_cons, Nat.succ_mul]
    omega
theorem r_first_values (hn : 3 ≤ n) (hS : SOk S) (h : House) (ok : HouseOk h) : run TBL F n j_first_values [eHouse h] S = .ok (eNs (firstSit h).2.flatten) S := by
  obtain ⟨m, rfl⟩ := succ_of (show 1 ≤ n by omega)
  rw [run_first_values]
  have hr6 := ok.r6
  simp [b_first_values, eHouse, rangeV_nat _ (show h.1.length ≤ 1000000 by omega)]
  rw [lc2Go_of iN (fun i => (memFirst h i).map iN)]
  · have hl : (List.map (fun i => (memFirst h i).map iN) (List.range h.1.length)).flatten.length ≤ 1000000 := by
      refine Nat.le_trans (flat_len _ 4 _ fun i _ => ?_) ?_
      · rw [List.length_map]; exact mem_len h ok i
      · rw [List.length_range]; omega
    simp only [xb_ok, if_pos hl, al_f]
    simp [firstSit, eNs, List.map_flatten, List.map_map, Function.comp_def]
  · intro i hi
    have hi : i < h.1.length := List.mem_range.mp hi
    have hr := room_at hi
    have e3 : run TBL F m 34 [eHouse h, .int (i : Int)] S = .ok (eNs (memFirst h i)) S := r_memory_at_first (by omega) hS h i _ hr (ok.rs _ _ hr).nl
    unfold eHouse eNs at e3
    rw [lc2B_x]
    simp [e3, eNs]
    rw [lcGo_of iN iN]
    · simp
    · intro v hv
      rw [lcB2_x]
      simp
/-- a row cut out of rows -/
theorem slice : ∀ (ms : List Mem) (i : Nat), ((ms.flatten.drop ((ms.take i).map List.length).sum).take (ms.getD i []).length) = ms.getD i []
  | [], i => by simp
  | m :: ms, 0 => by simp
  | m :: ms, i + 1 => by
    have := slice ms i
    simp only [List.flatten_cons, List.take_succ_cons, List.map_cons, List.sum_cons, List.getD_cons_succ]
    rw [← List.drop_drop, List.drop_left]
    exact this
theorem slice_le : ∀ (ms : List Mem) (i : Nat), i < ms.length → ((ms.take i).map List.length).sum + (ms.getD i []).length ≤ ms.flatten.length
  | [], i, h => by simp at h
  | m :: ms, 0, h => by simp
  | m :: ms, i + 1, h => by
    have := slice_le ms i (by simpa using h)
    simp only [List.flatten_cons, List.take_succ_cons, List.map_cons, List.sum_cons, List.getD_cons_succ, List.length_append]
    omega
theorem r_memory_in (hn : 1 ≤ n) (h : House) (ms : List Mem) (hf : Fits h ms) (room : Nat) (hr : room < h.1.length) : run TBL F n j_memory_in [eHouse h, eNs ms.flatten, .int (room : Int)] S = .ok (eNs (ms.getD room [])) S := by
  obtain ⟨m, rfl⟩ := succ_of (show 1 ≤ n by omega)
  rw [run_memory_in]
  have hlen : ms.length = h.1.length := by have := congrArg List.length hf; simpa using this
  have hat := room_at hr
  have hl : (ms.getD room []).length = (h.1.getD room ([], [])).1.length := by
    have := congrArg (fun l => l[room]?) hf
    simp only [List.getElem?_map, hat] at this
    rw [List.getD_eq_getElem?_getD]
    cases hm : ms[room]? with
    | none => rw [hm] at this; cases this
    | some x => rw [hm] at this; exact Option.some.inj this
  have hs : (((h.1.take room).map fun r => r.1.length)) = (ms.take room).map List.length := by
    rw [List.map_take, List.map_take, hf]
  simp [b_memory_in, eHouse, cut_to, ← List.map_take]
  rw [lcGo_of eRoom (fun r => iN r.1.length)]
  · have e1 : intsOf ((h.1.take room).map fun r => iN r.1.length) = some (((ms.take room).map List.length).map fun n : Nat => (n : Int)) := by
      rw [← intsOf_map, ← hs, List.map_map]; rfl
    simp only [xb_ok, al_f, k_sum, e1, Option.map_some, sum_cast, xof]
    have e2 := cut_mid (ms.flatten.map iN) ((ms.take room).map List.length).sum (ms.getD room []).length (by rw [List.length_map]; exact slice_le ms room (by omega))
    rw [← List.map_drop, ← List.map_take, slice, hl] at e2
    generalize h.1.getD room ([], []) = rr at *
    simp [hat, eRoom, eNotes, eNs, e2, -List.map_flatten, -List.map_take]
  · intro r _
    simp [eRoom, eNotes]
theorem r_memory_after (hn : 4 ≤ n) (h : House) (ok : HouseOk h) (room : Nat) (r : Room) (hr : h.1[room]? = some r) (mem : Mem) (t : Touch) : run TBL F n j_memory_after [eHouse h, .int (room : Int), eNs mem, t.e] S = .ok (eNs (memAfter h room mem t)) S := by
  obtain ⟨m, rfl⟩ := succ_of (show 1 ≤ n by omega)
  rw [run_memory_after]
  unfold memAfter
  rw [room_get hr]
  simp [b_memory_after, eHouse, eNs, hr, eRoom, eNotes, zipV_map]
  rw [lcGo_of (fun p : Note × Nat => Val.tup [p.1.e, iN p.2]) (fun p => iN (valueAfter h.2.length p.1 p.2 t))]
  · simp [eNs, List.map_map, Function.comp_def]
  · intro p hp
    have e1 : run TBL F m 13 [.int (h.2.length : Int), p.1.e, .int (p.2 : Int), t.e] S = .ok (.int (valueAfter h.2.length p.1 p.2 t : Nat)) S := r_value_after (by omega) _ _ _ _ ((ok.rs _ _ hr).ns _ (List.of_mem_zip hp).1)
    simp [e1]
/-- a touch of a room -/
def TouchOk (h : House) (room : Nat) : Touch → Prop
  | .out w d => w < h.2.length ∧ d < (h.1.getD room ([], [])).2.length
  | .in_ w f => w < h.2.length ∧ f < h.1.length ∧ ∃ d ∈ (h.1.getD f ([], [])).2, d.1 = room
theorem r_is_touch_of (hn : 2 ≤ n) (h : House) (room : Nat) (r : Room) (hr : h.1[room]? = some r) (t : Touch) (ht : TouchOk h room t) : run TBL F n j_is_touch_of [eHouse h, .int (room : Int), t.e] S = .ok (.bl true) S := by
  obtain ⟨m, rfl⟩ := succ_of (show 1 ≤ n by omega)
  rw [run_is_touch_of]
  cases t with
  | out w d =>
    obtain ⟨h1, h2⟩ := ht
    rw [room_get hr] at h2
    have e1 : run TBL F m 0 [.int (w : Int), .int 0, .int ((h.2.length : Int) - 1)] S = .ok (.bl true) S := r_is_between_t (by omega) _ _ _ (by omega) (by omega)
    have e2 : run TBL F m 0 [.int (d : Int), .int 0, .int ((r.2.length : Int) - 1)] S = .ok (.bl true) S := r_is_between_t (by omega) _ _ _ (by omega) (by omega)
    simp [b_is_touch_of, Touch.e, eHouse, eNs, e1, hr, eRoom, eDoors, e2]
  | in_ w f =>
    obtain ⟨h1, h2, d, hd, he⟩ := ht
    have hf := room_at h2
    generalize h.1.getD f ([], []) = rf at *
    have e1 : run TBL F m 0 [.int (w : Int), .int 0, .int ((h.2.length : Int) - 1)] S = .ok (.bl true) S := r_is_between_t (by omega) _ _ _ (by omega) (by omega)
    have e2 : run TBL F m 0 [.int (f : Int), .int 0, .int ((h.1.length : Int) - 1)] S = .ok (.bl true) S := r_is_between_t (by omega) _ _ _ (by omega) (by omega)
    simp [b_is_touch_of, Touch.e, eHouse, eNs, e1, hf, eRoom, eDoors, e2]
    rw [lcGo_of eDoor (fun d => iN d.1)]
    · have : (rf.2.map fun d => iN d.1) = (rf.2.map (·.1)).map iN := by rw [List.map_map]; rfl
      rw [this]
      have hm : room ∈ rf.2.map (·.1) := List.mem_map.mpr ⟨d, hd, he⟩
      have e3 := eqv_any_nat (rf.2.map (·.1)) room
      generalize rf.2.map (·.1) = tos at *
      simp only [List.any_map] at e3
      simp [m_any, e3, hm]
    · intro d hd
      simp [eDoor]
theorem r_memory_behind (hn : 16 ≤ n) (h : House) (ok : HouseOk h) (room : Nat) (r : Room) (hr : h.1[room]? = some r) (mem : Mem) (hm : MemOk h.2.length r.1 mem) (t : Touch) (ht : TouchOk h room t) : run TBL F n j_memory_behind [eHouse h, .int (room : Int), eNs mem, t.e] S = .ok (eNs (memAfter h room mem t)) S := by
  obtain ⟨m, rfl⟩ := succ_of (show 1 ≤ n by omega)
  rw [run_memory_behind]
  have e1 : run TBL F m 29 [eHouse h] S = .ok .non S := r_need_house (by omega) h ok
  have e2 : run TBL F m 30 [eHouse h, .int (room : Int)] S = .ok .non S := r_need_room (by omega) h room (List.getElem?_eq_some_iff.mp hr).1
  have e3 : run TBL F m 32 [eHouse h, .int (room : Int), eNs mem] S = .ok .non S := r_need_memory (by omega) h ok room r hr mem hm
  have e4 : run TBL F m 33 [eHouse h, .int (room : Int), t.e] S = .ok (.bl true) S := r_is_touch_of (by omega) h room r hr t ht
  have e5 : run TBL F m 38 [eHouse h, .int (room : Int), eNs mem, t.e] S = .ok (eNs (memAfter h room mem t)) S := r_memory_after (by omega) h ok room r hr mem t
  simp [b_memory_behind, e1, e2, e3, e4, e5]
def eO : Option Nat → Val
  | none => .non
  | some i => iN i
theorem eO_W (o : Option Nat) : eO o = eW o := by cases o <;> rfl
theorem r_door_in (hn : 5 ≤ n) (h : House) (ok : HouseOk h) (room : Nat) (r : Room) (hr : h.1[room]? = some r) (mem : Mem) (hm : mem.length = r.1.length) (w : Nat) : run TBL F n j_door_in [eHouse h, .int (room : Int), eNs mem, .int (w : Int)] S = .ok (eO (doorIn h room mem w)) S := by
  obtain ⟨m, rfl⟩ := succ_of (show 1 ≤ n by omega)
  rw [run_door_in]
  unfold doorIn
  rw [room_get hr]
  simp [b_door_in, eHouse, hr, eRoom, eDoors, enumV_map]
  refine FOk.toR (forGo_inv (fun p : (Nat × Rule) × Nat => Val.tup [.int (p.2 : Int), eDoor p.1]) (fun k env S' => (∃ x y z, env = [some (Val.tup [Val.tup (h.1.map eRoom), eNs h.2]), some (Val.int (room : Int)), some (eNs mem), some (Val.int (w : Int)), x, y, z] ∧ S' = S) ∧ ∀ i d, i < k → r.2[i]? = some d → lets d.2 mem w = false) (fun v S' => v = eO (r.2.findIdx? fun d => lets d.2 mem w) ∧ S' = S) r.2.zipIdx 0 ?_ ?_) ?_ ?_
  · exact ⟨⟨none, none, none, rfl, rfl⟩, fun i d hi => by omega⟩
  · rintro k p env S' hk ⟨⟨a, b, c, rfl, rfl⟩, hl⟩
    obtain ⟨d, i⟩ := p
    have hd : r.2[k]? = some d ∧ i = k := by
      rw [List.getElem?_zipIdx] at hk
      cases hq : r.2[k]? with
      | none => rw [hq] at hk; cases hk
      | some d' =>
        rw [hq] at hk
        have hk := Option.some.inj hk
        exact ⟨congrArg some (congrArg Prod.fst hk), by have := congrArg Prod.snd hk; simp at this; omega⟩
    obtain ⟨hd, rfl⟩ := hd
    have hdo : d.2.ok h.2.length r.1 4 := ((ok.rs _ _ hr).ds d (List.mem_of_getElem? hd)).2.2
    have e1 : run TBL F m 24 [d.2.e, eNs mem, .int (w : Int)] S' = .ok (.bl (lets d.2 mem w)) S' := r_lets h.2.length r.1 mem w hm 4 d.2 m S' (by omega) hdo
    cases hb : lets d.2 mem w with
    | true =>
      have : (r.2.findIdx? fun d => lets d.2 mem w) = some i := by
        rw [List.findIdx?_eq_some_iff_getElem]
        obtain ⟨hi, hg⟩ := List.getElem?_eq_some_iff.mp hd
        refine ⟨hi, by rw [hg]; exact hb, fun j hj => ?_⟩
        have := hl j r.2[j] (by omega) (List.getElem?_eq_getElem (by omega))
        simp [this]
      simp [eDoor, e1, hb, this, eO]
    | false =>
      simp [eDoor, e1, hb]
      intro j d1 d2 hj hd'
      rcases Nat.lt_or_ge j i with hlt | hge
      · exact hl j (d1, d2) (by omega) hd'
      · have : j = i := by omega
        subst this
        rw [hd] at hd'
        cases hd'
        exact hb
  · rintro env S' ⟨⟨a, b, c, rfl, rfl⟩, hl⟩
    have : (r.2.findIdx? fun d => lets d.2 mem w) = none := by
      rw [List.findIdx?_eq_none_iff]
      intro d hd
      obtain ⟨i, hi, e⟩ := List.getElem_of_mem hd
      exact hl i d (by simp; omega) (by rw [← e]; exact List.getElem?_eq_getElem hi)
    simp [this, eO]
  · rintro v S' ⟨rfl, rfl⟩
    simp
theorem r_door_by (hn : 16 ≤ n) (h : House) (ok : HouseOk h) (room : Nat) (r : Room) (hr : h.1[room]? = some r) (mem : Mem) (hm : MemOk h.2.length r.1 mem) (w : Nat) (hw : w < h.2.length) : run TBL F n j_door_by [eHouse h, .int (room : Int), eNs mem, .int (w : Int)] S = .ok (eO (doorIn h room mem w)) S := by
  obtain ⟨m, rfl⟩ := succ_of (show 1 ≤ n by omega)
  rw [run_door_by]
  have e1 : run TBL F m 29 [eHouse h] S = .ok .non S := r_need_house (by omega) h ok
  have e2 : run TBL F m 30 [eHouse h, .int (room : Int)] S = .ok .non S := r_need_room (by omega) h room (List.getElem?_eq_some_iff.mp hr).1
  have e3 : run TBL F m 32 [eHouse h, .int (room : Int), eNs mem] S = .ok .non S := r_need_memory (by omega) h ok room r hr mem hm
  have e4 : run TBL F m 31 [eHouse h, .int (w : Int)] S = .ok .non S := r_need_walker (by omega) h w hw
  have e5 : run TBL F m 40 [eHouse h, .int (room : Int), eNs mem, .int (w : Int)] S = .ok (eO (doorIn h room mem w)) S := r_door_in (by omega) h ok room r hr mem hm.1 w
  simp [b_door_by, e1, e2, e3, e4, e5]
end
end Lt
set_option maxHeartbeats 4000000
namespace Lt
open PySem
def rows : List Room → List Mem → Nat → List (Note × Nat × Nat)
  | r :: rs, m :: ms, i => (r.1.zip m).map (fun p => (p.1, p.2, i)) ++ rows rs ms (i + 1)
  | _, _, _ => []
theorem zip_fst {α β : Type} : ∀ (l : List α) (m : List β), l.length = m.length → (l.zip m).map Prod.fst = l
  | [], [], _ => rfl
  | x :: l, y :: m, h => by simp [zip_fst l m (by simpa using h)]
theorem zip_snd {α β : Type} : ∀ (l : List α) (m : List β), l.length = m.length → (l.zip m).map Prod.snd = m
  | [], [], _ => rfl
  | x :: l, y :: m, h => by simp [zip_snd l m (by simpa using h)]
theorem rows_v : ∀ (rs : List Room) (ms : List Mem) (i : Nat), ms.map List.length = (rs.map fun r => r.1.length) → (rows rs ms i).map (·.2.1) = ms.flatten
  | [], [], _, _ => rfl
  | r :: rs, m :: ms, i, h => by
    simp only [List.map_cons, List.cons.injEq] at h
    have := zip_snd r.1 m h.1.symm
    simp only [rows, List.map_append, List.map_map, List.flatten_cons, rows_v rs ms (i + 1) h.2]
    congr 1
theorem rows_n {β : Type} (f : Note → β) : ∀ (rs : List Room) (ms : List Mem) (i : Nat), ms.map List.length = (rs.map fun r => r.1.length) → (rows rs ms i).map (fun p => f p.1) = (rs.map fun r => r.1.map f).flatten
  | [], [], _, _ => rfl
  | r :: rs, m :: ms, i, h => by
    simp only [List.map_cons, List.cons.injEq] at h
    have := zip_fst r.1 m h.1.symm
    simp only [rows, List.map_append, List.map_map, List.map_cons, List.flatten_cons, rows_n f rs ms (i + 1) h.2]
    congr 1
    conv => rhs; rw [← this, List.map_map]
    rfl
def hereO (places : List Nat) (i : Nat) : Note → Option Nat
  | .here who => some (hereN places i who)
  | _ => none
theorem rows_h {β : Type} (f : Nat → Note → β) : ∀ (rs : List Room) (ms : List Mem) (i : Nat), ms.map List.length = (rs.map fun r => r.1.length) → (rows rs ms i).map (fun p => f p.2.2 p.1) = ((rs.zipIdx i).map fun q => q.1.1.map (f q.2)).flatten
  | [], [], _, _ => rfl
  | r :: rs, m :: ms, i, h => by
    simp only [List.map_cons, List.cons.injEq] at h
    have := zip_fst r.1 m h.1.symm
    simp only [rows, List.map_append, List.map_map, List.zipIdx_cons, List.map_cons, List.flatten_cons, rows_h f rs ms (i + 1) h.2]
    congr 1
    conv => rhs; rw [← this, List.map_map]
    rfl
theorem rows_mem : ∀ (rs : List Room) (ms : List Mem) (i : Nat) (p : Note × Nat × Nat), p ∈ rows rs ms i → ∃ (k : Nat) (r : Room) (m : Mem) (j : Nat), rs[k]? = some r ∧ ms[k]? = some m ∧ p.2.2 = i + k ∧ r.1[j]? = some p.1 ∧ m[j]? = some p.2.1
  | r :: rs, m :: ms, i, p, h => by
    simp only [rows, List.mem_append] at h
    rcases h with h | h
    · obtain ⟨q, hq, rfl⟩ := List.mem_map.mp h
      obtain ⟨j, hj, e⟩ := List.getElem_of_mem hq
      rw [List.getElem_zip] at e
      subst e
      exact ⟨0, r, m, j, rfl, rfl, rfl, List.getElem?_eq_getElem _, List.getElem?_eq_getElem _⟩
    · obtain ⟨k, r', m', j, h1, h2, h3, h4⟩ := rows_mem rs ms (i + 1) p h
      exact ⟨k + 1, r', m', j, h1, h2, by omega, h4⟩
theorem zip3_map {α : Type} (f g k : α → Val) : ∀ (l : List α), zip3V (l.map f) (l.map g) (l.map k) = l.map fun x => .tup [f x, g x, k x]
  | [] => rfl
  | x :: l => by simp [zip3V, zip3_map f g k l]
theorem SitOk.row {h : House} {s : Sit} (ok : SitOk h s) {p : Note × Nat × Nat} (hp : p ∈ rows h.1 s.2 0) : p.2.1 ≤ mostIn h.2.length p.1 ∧ ∀ v, hereO s.1 p.2.2 p.1 = some v → p.2.1 = v := by
  obtain ⟨k, r, m, j, h1, h2, h3, h4, h5⟩ := rows_mem _ _ _ _ hp
  obtain ⟨q1, q2⟩ := ok.vm k r m j p.1 p.2.1 h1 h2 h4 h5
  refine ⟨q1, fun v hv => ?_⟩
  cases hn : p.1 with
  | here who =>
    rw [hn] at hv
    have := q2 who hn
    rw [this]
    rw [h3, Nat.zero_add] at hv
    exact Option.some.inj hv
  | _ => rw [hn] at hv; cases hv
theorem Fits.len {h : House} {ms : List Mem} (hf : Fits h ms) : ms.length = h.1.length := by have := congrArg List.length hf; simpa using this
theorem Fits.at {h : House} {ms : List Mem} (hf : Fits h ms) {i : Nat} {r : Room} (hr : h.1[i]? = some r) : (ms.getD i []).length = r.1.length := by
  have := congrArg (fun l => l[i]?) hf
  simp only [List.getElem?_map, hr] at this
  rw [List.getD_eq_getElem?_getD]
  cases hm : ms[i]? with
  | none => rw [hm] at this; cases this
  | some x => rw [hm] at this; exact Option.some.inj this
theorem SitOk.mem {h : House} {s : Sit} (ok : SitOk h s) {i : Nat} {r : Room} (hr : h.1[i]? = some r) : MemOk h.2.length r.1 (s.2.getD i []) := by
  refine ⟨ok.ft.at hr, fun p hp => ?_⟩
  obtain ⟨j, hj, e⟩ := List.getElem_of_mem hp
  rw [List.getElem_zip] at e
  subst e
  have hi : i < s.2.length := by rw [ok.ft.len]; exact (List.getElem?_eq_some_iff.mp hr).1
  have hm : s.2[i]? = some (s.2.getD i []) := by rw [List.getD_eq_getElem?_getD, List.getElem?_eq_getElem hi]; rfl
  rw [List.length_zip] at hj
  exact (ok.vm i r _ j _ _ hr hm (List.getElem?_eq_getElem (by omega)) (List.getElem?_eq_getElem (by omega))).1
theorem SitOk.place {h : House} {s : Sit} (ok : SitOk h s) {w : Nat} (hw : w < h.2.length) : s.1[w]? = some (s.1.getD w 0) ∧ s.1.getD w 0 < h.1.length := by
  have hl : w < s.1.length := by rw [ok.pl]; exact hw
  have := getD_at hl
  exact ⟨this, ok.pr _ (List.mem_of_getElem? this)⟩
def eS : Option Step → Val
  | none => .non
  | some s => s.e
section
variable {F n : Nat} {S : Store}
theorem r_first_of (hn : 4 ≤ n) (hS : SOk S) (h : House) (ok : HouseOk h) : run TBL F n j_first_of [eHouse h] S = .ok (eSit (firstSit h)) S := by
  obtain ⟨m, rfl⟩ := succ_of (show 1 ≤ n by omega)
  rw [run_first_of]
  have e1 : run TBL F m 36 [eHouse h] S = .ok (eNs (firstSit h).2.flatten) S := r_first_values (by omega) hS h ok
  unfold eHouse at *
  simp [b_first_of, e1, eSit]
  rfl
def eOs (l : List (Option Nat)) : List Val := l.map eO
theorem cl_eOs (l : List (Option Nat)) : Val.clAll (eOs l) = true := h_map _ _ fun o _ => by cases o <;> rfl
def heres (h : House) (places : List Nat) (k : Nat) : List (Option Nat) := ((h.1.take k).zipIdx.map fun q => q.1.1.map (hereO places q.2)).flatten
theorem heres_snoc {h : House} {places : List Nat} {k : Nat} {r : Room} (hr : h.1[k]? = some r) : heres h places (k + 1) = heres h places k ++ r.1.map (hereO places k) := by
  have hk := (List.getElem?_eq_some_iff.mp hr).1
  unfold heres
  rw [List.take_add_one, hr]
  simp [List.zipIdx_append, Nat.min_eq_left (Nat.le_of_lt hk)]
theorem heres_len (h : House) (ok : HouseOk h) (places : List Nat) (k : Nat) : (heres h places k).length ≤ 24 := by
  unfold heres
  refine Nat.le_trans (flat_len _ 4 _ fun q hq => ?_) ?_
  · rw [List.length_map]
    obtain ⟨i, hi, e⟩ := List.getElem_of_mem hq
    rw [List.getElem_zipIdx] at e
    subst e
    simp at hi
    have : h.1[i]? = some ((List.take k h.1)[i]'(by simp; omega)) := by rw [List.getElem_take]; exact List.getElem?_eq_getElem _
    exact (ok.rs i _ this).nl
  · have := ok.r6
    simp
    omega
theorem isOf_mem (who : Option Nat) (w : Nat) : ((eW who).flat && (List.all [Val.non, iN w] Val.flat)) = true ∧ (List.any [Val.non, iN w] fun y => Val.eqv y (eW who)) = isOf who w := by
  cases who with
  | none => exact ⟨rfl, rfl⟩
  | some x =>
    refine ⟨rfl, ?_⟩
    simp [eW, isOf]
    exact Bool.beq_comm
theorem d_eW (S : Store) (who : Option Nat) : rd S (eW who) = eW who := by cases who <;> rfl
theorem r_heres_of (hn : 2 ≤ n) (hS : SOk S) (h : House) (ok : HouseOk h) (places : List Nat) : run TBL F n j_heres_of [eHouse h, eNs places] S = .ok (.lst (eOs (heres h places h.1.length))) S := by
  obtain ⟨m, rfl⟩ := succ_of (show 1 ≤ n by omega)
  rw [run_heres_of]
  simp [b_heres_of, eHouse, enumV_map]
  refine FOk.toR (forGo_inv (fun p : Room × Nat => Val.tup [.int (p.2 : Int), eRoom p.1]) (fun k env S' => ∃ a b c d e f g, env = [some (Val.tup [Val.tup (h.1.map eRoom), eNs h.2]), some (eNs places), some (Val.loc S.length), some (Val.tup (h.1.map eRoom)), some (eNs h.2), a, b, c, d, e, f, g] ∧ S' = S ++ [.lst (eOs (heres h places k))]) (fun _ _ => False) h.1.zipIdx 0 ?_ ?_) ?_ ?_
  · exact ⟨none, none, none, none, none, none, none, rfl, rfl⟩
  · rintro k p env S' hk ⟨a, b, c, d, e, f, g, rfl, rfl⟩
    obtain ⟨r, i⟩ := p
    have hd : h.1[k]? = some r ∧ i = k := by
      rw [List.getElem?_zipIdx] at hk
      cases hq : h.1[k]? with
      | none => rw [hq] at hk; cases hk
      | some d' =>
        rw [hq] at hk
        have hk := Option.some.inj hk
        exact ⟨congrArg some (congrArg Prod.fst hk), by have := congrArg Prod.snd hk; simp at this; omega⟩
    obtain ⟨hr, rfl⟩ := hd
    simp [eRoom, eNs, enumV_map]
    rw [lcGo_filt (fun p : Nat × Nat => Val.tup [.int (p.2 : Int), iN p.1]) (fun p => p.1 == i) (fun p => iN p.2)]
    · rw [show List.map (fun p : Nat × Nat => iN p.2) (List.filter (fun p => p.1 == i) places.zipIdx) = ((places.zipIdx.filter fun p => p.1 == i).map (·.2)).map iN by rw [List.map_map]; rfl]
      have hth := there_here places i
      generalize (places.zipIdx.filter fun p => p.1 == i).map (·.2) = th at *
      simp [eNotes]
      refine FOk.toB (forGo_inv Note.e (fun k2 env S' => ∃ a b c d, env = [some (Val.tup [Val.tup (h.1.map eRoom), Val.tup (h.2.map iN)]), some (Val.tup (places.map iN)), some (Val.loc S.length), some (Val.tup (h.1.map eRoom)), some (Val.tup (h.2.map iN)), some (iN i), some (Val.lst (th.map iN)), a, b, c, d, g] ∧ S' = S ++ [.lst (eOs (heres h places i ++ (r.1.take k2).map (hereO places i)))]) (fun _ _ => False) r.1 0 ?_ ?_) ?_ ?_
      · exact ⟨_, _, _, _, rfl, by simp⟩
      · rintro k2 x env S' hk2 ⟨a, b, c, d, rfl, rfl⟩
        have hlen : (eOs (heres h places i ++ (r.1.take (0 + k2)).map (hereO places i))).length < sizeLine := by
          have h1 := heres_len h ok places i
          have h2 := (ok.rs _ _ hr).nl
          unfold eOs
          rw [sz, List.length_map, List.length_append, List.length_map, List.length_take]
          omega
        have hnext : eOs (heres h places i ++ (r.1.take (0 + k2)).map (hereO places i)) ++ [eO (hereO places i x)] = eOs (heres h places i ++ (r.1.take (0 + k2 + 1)).map (hereO places i)) := by
          unfold eOs
          rw [List.take_add_one, Nat.zero_add, hk2]
          simp
        generalize eOs (heres h places i ++ (r.1.take (0 + k2)).map (hereO places i)) = cur at *
        cases x with
        | here who =>
          simp [Note.e]
          rw [lcGo_filt iN (fun w => isOf who w) iN]
          · have hnx : cur ++ [Val.int (hereN places i who : Nat)] = eOs (heres h places i ++ (r.1.take (0 + k2 + 1)).map (hereO places i)) := hnext
            simp [mth_appN _ _ _ hlen, hth]
            simpa using hnx
          · intro w hw
            rw [lcB_c]
            obtain ⟨q1, q2⟩ := isOf_mem who w
            simp [d_eW, m_any _ _ q1, q2]
        | _ =>
          have hnx : cur ++ [Val.non] = eOs (heres h places i ++ (r.1.take (0 + k2 + 1)).map (hereO places i)) := hnext
          simp [Note.e, mth_appN _ _ _ hlen, hnx]
      · rintro env S' ⟨a, b, c, d, rfl, rfl⟩
        have : (r.1.take (0 + r.1.length)) = r.1 := by simp
        rw [this, ← heres_snoc hr]
        simp
      · intro v S' hf
        exact False.elim hf
    · intro p hp
      rw [lcB_c]
      simp
  · rintro env S' ⟨a, b, c, d, e, f, g, rfl, rfl⟩
    simp
    exact leave_frz hS (cl_eOs _)
  · intro v S' hf
    exact False.elim hf
theorem r_are_places (hn : 1 ≤ n) (h : House) (s : Sit) (so : SitOk h s) : run TBL F n j_are_places [eHouse h, eNs s.1] S = .ok (.bl true) S := by
  obtain ⟨m, rfl⟩ := succ_of (show 1 ≤ n by omega)
  rw [run_are_places]
  simp [b_are_places, eHouse, eNs, so.pl]
  rw [lcGo_of iN (fun _ => .bl true)]
  · simp
  · intro x hx
    have := so.pr x hx
    simp [this]
theorem r_are_values (hn : 3 ≤ n) (hS : SOk S) (h : House) (ok : HouseOk h) (s : Sit) (so : SitOk h s) : run TBL F n j_are_values [eHouse h, eNs s.1, eNs s.2.flatten] S = .ok (.bl true) S := by
  obtain ⟨m, rfl⟩ := succ_of (show 1 ≤ n by omega)
  rw [run_are_values]
  have e1 : run TBL F m 43 [eHouse h, eNs s.1] S = .ok (.lst (eOs (heres h s.1 h.1.length))) S := r_heres_of (by omega) hS h ok s.1
  have v1 : s.2.flatten.map iN = (rows h.1 s.2 0).map fun p => iN p.2.1 := by rw [← rows_v h.1 s.2 0 so.ft, List.map_map]; rfl
  have v2 := rows_n (fun nt => iN (mostIn h.2.length nt)) h.1 s.2 0 so.ft
  have v3 : eOs (heres h s.1 h.1.length) = (rows h.1 s.2 0).map fun p => eO (hereO s.1 p.2.2 p.1) := by
    rw [rows_h (fun i nt => eO (hereO s.1 i nt)) h.1 s.2 0 so.ft]
    unfold eOs heres
    rw [List.take_length, List.map_flatten, List.map_map]
    congr 1
    exact List.map_congr_left fun q _ => by simp [List.map_map, Function.comp_def]
  rw [v3] at e1
  have hl : ((h.1.map fun r => r.1.map fun nt => iN (mostIn h.2.length nt)).flatten).length ≤ 1000000 := by
    refine Nat.le_trans (flat_len _ 4 _ fun r hr => ?_) ?_
    · obtain ⟨i, hi, e⟩ := List.getElem_of_mem hr
      rw [List.length_map]
      exact (ok.rs i r (by rw [← e]; exact List.getElem?_eq_getElem hi)).nl
    · have := ok.r6; omega
  rw [show (eNs s.2.flatten) = .tup ((rows h.1 s.2 0).map fun p => iN p.2.1) from congrArg Val.tup v1]
  have e0 : ∀ S, lc2Go (lc2B (run TBL F m) [("notes", 10), ("doors", 11), ("note", 9)] [9] (.tup (.cons (.v 10) (.cons (.v 11) .nil))) .plain (.cons (.var 10) .nil) (.v 9) (.call 6 (.cons (.blt .len (.cons (.var 5) .nil)) (.cons (.var 9) .nil))) [some (eHouse h), some (eNs s.1), some (.tup ((rows h.1 s.2 0).map fun p => iN p.2.1)), none, some (.tup (h.1.map eRoom)), some (eNs h.2), none, none, none, none, none, none]) (h.1.map eRoom) S = .ok ((rows h.1 s.2 0).map fun p => iN (mostIn h.2.length p.1)) S := by
    intro S
    rw [v2, lc2Go_of eRoom (fun r => r.1.map fun nt => iN (mostIn h.2.length nt))]
    intro r hr
    obtain ⟨i, hi, e⟩ := List.getElem_of_mem hr
    have hns := (ok.rs i r (by rw [← e]; exact List.getElem?_eq_getElem hi)).ns
    rw [lc2B_x]
    simp [eRoom, eNotes]
    rw [lcGo_of Note.e (fun nt => iN (mostIn h.2.length nt))]
    · simp
    · intro x hx
      have e2 : run TBL F m 6 [.int (h.2.length : Int), x.e] S = .ok (.int (mostIn h.2.length x : Nat)) S := r_most_in (by omega) _ _ (hns x hx)
      rw [lcB2_x]
      simp [eNs, e2]
  rw [← v2] at hl
  rw [List.length_map] at hl
  simp only [eHouse] at e0 e1 ⊢
  have hrow := fun p hp => so.row (p := p) hp
  generalize rows h.1 s.2 0 = L at *
  simp [b_are_values, e0, hl, e1]
  rw [o_z3 _ _ _ (by simp) (by simp), zip3_map]
  simp
  refine FOk.toR (forGo_inv (fun p : Note × Nat × Nat => Val.tup [iN p.2.1, iN (mostIn h.2.length p.1), eO (hereO s.1 p.2.2 p.1)]) (fun k env S' => ∃ x y z, env = [some (Val.tup [Val.tup (h.1.map eRoom), eNs h.2]), some (eNs s.1), some (.tup (L.map fun p => iN p.2.1)), some (.lst (L.map fun p => iN (mostIn h.2.length p.1))), some (.tup (h.1.map eRoom)), some (eNs h.2), x, y, z, none, none, none] ∧ S' = S) (fun _ _ => False) L 0 ?_ ?_) ?_ ?_
  · exact ⟨_, _, _, rfl, rfl⟩
  · rintro k p env S' hk ⟨a, b, c, rfl, rfl⟩
    obtain ⟨q1, q2⟩ := hrow p (List.mem_of_getElem? hk)
    cases ho : hereO s.1 p.2.2 p.1 with
    | none => simp [q1, eO]
    | some v =>
      have := q2 v ho
      rw [this] at q1
      simp [q1, eO, this]
  · rintro env S' ⟨a, b, c, rfl, rfl⟩
    simp
  · intro v S' hf
    exact False.elim hf
theorem r_need_situation (hn : 6 ≤ n) (hS : SOk S) (h : House) (ok : HouseOk h) (s : Sit) (so : SitOk h s) : run TBL F n j_need_situation [eHouse h, eSit s] S = .ok .non S := by
  obtain ⟨m, rfl⟩ := succ_of (show 1 ≤ n by omega)
  obtain ⟨p, rfl⟩ := succ_of (show 1 ≤ m by omega)
  have e1 : run TBL F p 44 [eHouse h, eNs s.1] S = .ok (.bl true) S := r_are_places (by omega) h s so
  have e2 : run TBL F p 45 [eHouse h, eNs s.1, eNs s.2.flatten] S = .ok (.bl true) S := r_are_values (by omega) hS h ok s so
  have e3 : run TBL F (p + 1) 46 [eHouse h, eSit s] S = .ok (.bl true) S := by
    rw [run_is_situation_of]
    simp [b_is_situation_of, eSit, e1, e2]
  rw [run_need_situation]
  simp [b_need_situation, e3]
theorem stepIn_eq (h : House) (s : Sit) (w : Nat) : stepIn h s w = (doorIn h (s.1.getD w 0) (s.2.getD (s.1.getD w 0) []) w).map fun d => ⟨w, s.1.getD w 0, d, ((h.1.getD (s.1.getD w 0) ([], [])).2.getD d (0, .free)).1⟩ := by
  unfold stepIn
  simp only
  cases doorIn h (s.1.getD w 0) (s.2.getD (s.1.getD w 0) []) w <;> rfl
theorem r_step_in (hn : 6 ≤ n) (h : House) (ok : HouseOk h) (s : Sit) (so : SitOk h s) (w : Nat) (hw : w < h.2.length) : run TBL F n j_step_in [eHouse h, eSit s, .int (w : Int)] S = .ok (eS (stepIn h s w)) S := by
  obtain ⟨m, rfl⟩ := succ_of (show 1 ≤ n by omega)
  rw [run_step_in]
  obtain ⟨h1, h2⟩ := so.place hw
  have hr := room_at h2
  rw [stepIn_eq]
  generalize s.1.getD w 0 = room at *
  generalize h.1.getD room ([], []) = r at *
  have hm := so.ft.at hr
  have e1 : run TBL F m 37 [eHouse h, eNs s.2.flatten, .int (room : Int)] S = .ok (eNs (s.2.getD room [])) S := r_memory_in (by omega) h s.2 so.ft room h2
  have e2 : run TBL F m 40 [eHouse h, .int (room : Int), eNs (s.2.getD room []), .int (w : Int)] S = .ok (eO (doorIn h room (s.2.getD room []) w)) S := r_door_in (by omega) h ok room r hr _ hm w
  have hd : ∀ d, doorIn h room (s.2.getD room []) w = some d → r.2[d]? = some (r.2.getD d (0, .free)) := by
    intro d hd
    unfold doorIn at hd
    rw [room_get hr] at hd
    have := (List.findIdx?_eq_some_iff_getElem.mp hd).1
    rw [List.getD_eq_getElem?_getD, List.getElem?_eq_getElem this]; rfl
  generalize s.2.getD room [] = mem at *
  generalize doorIn h room mem w = o at *
  unfold eSit
  generalize eNs s.2.flatten = vv at *
  cases o with
  | none =>
    unfold eNs at *
    simp [b_step_in, h1, e1, e2, eO, eS]
  | some d =>
    have hd := hd d rfl
    generalize r.2.getD d (0, .free) = dd at *
    simp only [eHouse] at e1 e2 ⊢
    unfold eNs at *
    simp [b_step_in, h1, e1, e2, eO, eS, hr, eRoom, eDoors, hd, eDoor, Step.e]
theorem mth_extE (S : Store) (xs : List Val) (l : List Nat) (h : xs.length + (l.map iN).length ≤ sizeLine) : mthV .extend (.loc S.length) [eNs l] (S ++ [.lst xs]) = .ok .non (S ++ [.lst (xs ++ l.map iN)]) := mth_extN S xs _ h
theorem sitAfter_mem {h : House} {s : Sit} {st : Step} {i : Nat} (hi : i < h.1.length) : (sitAfter h s st).2.getD i [] = (let m := s.2.getD i []
    let m := if i = st.room then memAfter h st.room m (.out st.walker st.door) else m
    if i = st.to then memAfter h st.to m (.in_ st.walker st.room) else m) := by
  unfold sitAfter
  rw [List.getD_eq_getElem?_getD, List.getElem?_map, List.getElem?_range hi]
  rfl
theorem memAfter_len {h : House} {room : Nat} {r : Room} (hr : h.1[room]? = some r) (m : Mem) (t : Touch) (hm : m.length = r.1.length) : (memAfter h room m t).length = r.1.length := by
  unfold memAfter
  rw [room_get hr]
  simp [hm]
theorem set_split (l : List Nat) (w x : Nat) (hw : w < l.length) : l.set w x = l.take w ++ [x] ++ l.drop (w + 1) := by
  rw [List.set_eq_take_append_cons_drop, if_pos hw]
  simp
structure StepOk (h : House) (s : Sit) (st : Step) : Prop where
  w : st.walker < h.2.length
  r : st.room < h.1.length
  t : st.to < h.1.length
theorem r_situation_after (hn : 5 ≤ n) (hS : SOk S) (h : House) (ok : HouseOk h) (s : Sit) (so : SitOk h s) (st : Step) (hst : StepOk h s st) : run TBL F n j_situation_after [eHouse h, eSit s, st.e] S = .ok (eSit (sitAfter h s st)) S := by
  obtain ⟨m, rfl⟩ := succ_of (show 1 ≤ n by omega)
  rw [run_situation_after]
  have hr6 := ok.r6
  have e1 : ∀ i S, i < h.1.length → run TBL F m 37 [eHouse h, eNs s.2.flatten, .int (i : Int)] S = .ok (eNs (s.2.getD i [])) S := fun i S hi => r_memory_in (by omega) h s.2 so.ft i hi
  have e2 : ∀ i mem t S, i < h.1.length → run TBL F m 38 [eHouse h, .int (i : Int), eNs mem, Touch.e t] S = .ok (eNs (memAfter h i mem t)) S := fun i mem t S hi => r_memory_after (by omega) h ok i _ (room_at hi) mem t
  have hlw : st.walker < s.1.length := by rw [so.pl]; exact hst.w
  have c1 : cut (s.1.map iN) none (some (st.walker : Int)) = (s.1.take st.walker).map iN := by rw [cut_to, List.map_take]
  have c2 : cut (s.1.map iN) (some ((st.walker : Int) + 1)) none = (s.1.drop (st.walker + 1)).map iN := by
    rw [show (st.walker : Int) + 1 = ((st.walker + 1 : Nat) : Int) by omega, cut_from, List.map_drop]
  have hpl : s.1.length ≤ 3 := by rw [so.pl]; exact ok.s3
  have b1 : ∀ x : Nat, binV .Add (.tup ((s.1.take st.walker).map iN)) (.tup [.int (x : Int)]) = some (.tup ((s.1.take st.walker).map iN ++ [.int (x : Int)])) := fun x => b_addT _ _ (by rw [sz]; simp; omega)
  have b2 : ∀ x : Nat, binV .Add (.tup ((s.1.take st.walker).map iN ++ [.int (x : Int)])) (.tup ((s.1.drop (st.walker + 1)).map iN)) = some (.tup ((s.1.set st.walker x).map iN)) := fun x => by
    rw [b_addT _ _ (by rw [sz]; simp; omega), set_split _ _ _ hlw]
    simp
  have hflat : ∀ i, ((sitAfter h s st).2.take i).flatten.length ≤ 24 := fun i => by
    have h1 := flat_len (fun m : Mem => m) 4 ((sitAfter h s st).2.take i) fun m hm => by
      obtain ⟨j, hj, e⟩ := List.getElem_of_mem (List.mem_of_mem_take hm)
      have hj' : j < h.1.length := by simpa [sitAfter] using hj
      have hr := room_at hj'
      have q := sitAfter_mem (h := h) (s := s) (st := st) hj'
      have e' : (sitAfter h s st).2.getD j [] = m := by rw [List.getD_eq_getElem?_getD, List.getElem?_eq_getElem hj, e]; rfl
      rw [e'] at q
      have hl := so.ft.at hr
      have hle := (ok.rs j _ hr).nl
      rw [q]
      show (if j = st.to then memAfter h st.to (if j = st.room then memAfter h st.room (s.2.getD j []) (.out st.walker st.door) else s.2.getD j []) (.in_ st.walker st.room) else if j = st.room then memAfter h st.room (s.2.getD j []) (.out st.walker st.door) else s.2.getD j []).length ≤ 4
      by_cases c1 : j = st.room
      · by_cases c2 : j = st.to
        · rw [if_pos c2, if_pos c1, ← c1, ← c2, memAfter_len hr _ _ (memAfter_len hr _ _ hl)]; exact hle
        · rw [if_neg c2, if_pos c1, ← c1, memAfter_len hr _ _ hl]; exact hle
      · by_cases c2 : j = st.to
        · rw [if_pos c2, if_neg c1, ← c2, memAfter_len hr _ _ hl]; exact hle
        · rw [if_neg c2, if_neg c1, hl]; exact hle
    rw [List.map_id'] at h1
    refine Nat.le_trans h1 ?_
    have : ((sitAfter h s st).2.take i).length ≤ 6 := by simp [sitAfter]; omega
    omega
  have hmem : ∀ i, (sitAfter h s st).2.getD i [] = (sitAfter h s st).2.getD i [] := fun _ => rfl
  have hsm := fun i hi => sitAfter_mem (h := h) (s := s) (st := st) (i := i) hi
  have hpl1 : (sitAfter h s st).1 = s.1.set st.walker st.to := rfl
  have hml : (sitAfter h s st).2.length = h.1.length := by simp [sitAfter]
  generalize sitAfter h s st = s2 at *
  obtain ⟨w, room, door, to⟩ := st
  simp only at *
  unfold eSit
  rw [hpl1]
  generalize eNs s.2.flatten = vv at *
  simp [b_situation_after, eHouse, Step.e, rangeV_nat _ (show h.1.length ≤ 1000000 by omega)]
  refine FOk.toR (forGo_inv iN (fun k env S' => ∃ a b, env = [some (Val.tup [Val.tup (h.1.map eRoom), eNs h.2]), some (Val.tup [eNs s.1, vv]), some (Val.tup [iN w, iN room, iN door, iN to]), some (Val.loc S.length), a, some (eNs s.1), some vv, some (iN w), some (iN room), some (iN door), some (iN to), some (Val.tup (h.1.map eRoom)), some (eNs h.2), b] ∧ S' = S ++ [.lst ((s2.2.take k).flatten.map iN)]) (fun _ _ => False) (List.range h.1.length) 0 ?_ ?_) ?_ ?_
  · exact ⟨_, _, rfl, by simp⟩
  · rintro k i env S' hk ⟨a, b, rfl, rfl⟩
    have hk' := List.getElem?_eq_some_iff.mp hk
    obtain ⟨hk1, hk2⟩ := hk'
    simp at hk1 hk2
    subst hk2
    have hlen : ((s2.2.take (0 + k)).flatten.map iN).length + (((s2.2.getD k []).map iN)).length ≤ sizeLine := by
      have h1 := hflat (0 + k)
      have h2 := hflat (k + 1)
      rw [List.take_add_one, List.flatten_append, List.length_append, List.getElem?_eq_getElem (by omega)] at h2
      rw [List.getD_eq_getElem?_getD, List.getElem?_eq_getElem (by omega)]
      rw [sz, List.length_map, List.length_map]
      simp at h2 ⊢
      omega
    have hnext : (s2.2.take (0 + k)).flatten.map iN ++ (s2.2.getD k []).map iN = (s2.2.take (0 + k + 1)).flatten.map iN := by
      rw [List.take_add_one, List.flatten_append, Nat.zero_add, List.getElem?_eq_getElem (by omega), List.getD_eq_getElem?_getD, List.getElem?_eq_getElem (by omega)]
      simp
    rw [hsm k hk1] at hlen hnext
    rw [← hnext]
    generalize (s2.2.take (0 + k)).flatten.map iN = cur at *
    have e1k := fun S => e1 k S hk1
    generalize s.2.getD k [] = mem at *
    simp only [eHouse] at e1k e2
    by_cases c1 : k = room
    · by_cases c2 : k = to
      · subst c1; subst c2
        simp only [if_true] at hlen hnext ⊢
        have q1 := fun S => e2 k mem (.out w door) S hk1
        have q2 := fun S => e2 k (memAfter h k mem (.out w door)) (.in_ w k) S hk1
        simp only [Touch.e] at q1 q2
        simp [e1k, q1, q2, mth_extE _ _ _ hlen]
      · subst c1
        simp only [if_true, if_neg c2] at hlen hnext ⊢
        have q1 := fun S => e2 k mem (.out w door) S hk1
        simp only [Touch.e] at q1
        have k2 : (k == to) = false := by simpa using c2
        simp [e1k, q1, k2, mth_extE _ _ _ hlen]
    · by_cases c2 : k = to
      · subst c2
        simp only [if_true, if_neg c1] at hlen hnext ⊢
        have q2 := fun S => e2 k mem (.in_ w room) S hk1
        simp only [Touch.e] at q2
        have k1 : (k == room) = false := by simpa using c1
        simp [e1k, q2, k1, mth_extE _ _ _ hlen]
      · simp only [if_neg c1, if_neg c2] at hlen hnext ⊢
        have k1 : (k == room) = false := by simpa using c1
        have k2 : (k == to) = false := by simpa using c2
        simp [e1k, k1, k2, mth_extE _ _ _ hlen]
  · rintro env S' ⟨a, b, rfl, rfl⟩
    have : s2.2.take (0 + (List.range h.1.length).length) = s2.2 := by
      rw [List.length_range, Nat.zero_add, ← hml, List.take_length]
    rw [this]
    unfold eNs
    simp only [hpl1] at *
    simp [c1, c2, b1, b2, -List.map_flatten, -List.map_take, -List.map_drop, -List.map_set]
    refine leave_app hS ?_
    rw [h_tup, h_cons, h_cons, h_tup, h_tup, cl_eNs, cl_eNs]
    rfl
  · intro v S' hf
    exact False.elim hf
end
end Lt
set_option maxHeartbeats 4000000
namespace Lt
open PySem
theorem getD_some {α : Type} {l : List α} {k : Nat} {d : α} (h : k < l.length) : l[k]? = some (l.getD k d) := by
  rw [List.getD_eq_getElem?_getD, List.getElem?_eq_getElem h]; rfl
theorem stepIn_ok {h : House} (ok : HouseOk h) {s : Sit} (so : SitOk h s) {w : Nat} (hw : w < h.2.length) {st : Step} (e : stepIn h s w = some st) : StepOk h s st ∧ st.walker = w ∧ st.room = s.1.getD w 0 ∧ doorIn h st.room (s.2.getD st.room []) w = some st.door ∧ (h.1.getD st.room ([], [])).2[st.door]? = some ((h.1.getD st.room ([], [])).2.getD st.door (0, .free)) ∧ st.to = ((h.1.getD st.room ([], [])).2.getD st.door (0, .free)).1 ∧ st.to ≠ st.room := by
  rw [stepIn_eq] at e
  obtain ⟨d, hd, he⟩ := Option.map_eq_some_iff.mp e
  obtain ⟨h1, h2⟩ := so.place hw
  have hr := room_at h2
  subst he
  have hdi : d < (h.1.getD (s.1.getD w 0) ([], [])).2.length := by
    unfold doorIn at hd
    exact (List.findIdx?_eq_some_iff_getElem.mp hd).1
  have hdd : (h.1.getD (s.1.getD w 0) ([], [])).2[d]? = some ((h.1.getD (s.1.getD w 0) ([], [])).2.getD d (0, .free)) := getD_some hdi
  have := (ok.rs _ _ hr).ds _ (List.mem_of_getElem? hdd)
  exact ⟨⟨hw, h2, this.1⟩, rfl, rfl, hd, hdd, rfl, this.2.1⟩
theorem set_zipIdx (l : List Nat) (w x : Nat) : (l.set w x).zipIdx = l.zipIdx.set w (x, w) := by
  apply List.ext_getElem?
  intro i
  rw [List.getElem?_zipIdx, List.getElem?_set, List.getElem?_set, List.getElem?_zipIdx, List.length_zipIdx]
  by_cases h : w = i
  · subst h
    by_cases h2 : w < l.length
    · simp [h2]
    · simp [h2]
  · simp [h]
theorem hereN_set (l : List Nat) (w x room : Nat) (who : Option Nat) (hw : w < l.length) : hereN (l.set w x) room who = hereN l room who - (if l.getD w 0 == room && isOf who w then 1 else 0) + (if x == room && isOf who w then 1 else 0) := by
  unfold hereN
  rw [set_zipIdx, List.countP_set (by simpa using hw)]
  simp [List.getElem?_eq_getElem hw]
theorem hereN_pos (l : List Nat) (w room : Nat) (who : Option Nat) (hw : w < l.length) (h : (l.getD w 0 == room && isOf who w) = true) : 1 ≤ hereN l room who := by
  unfold hereN
  refine List.countP_pos_iff.mpr ⟨(l.getD w 0, w), ?_, h⟩
  rw [List.mem_zipIdx_iff_getElem?]
  exact getD_at hw
theorem hereN_le (l : List Nat) (room : Nat) (who : Option Nat) : hereN l room who ≤ l.length := by
  have := List.countP_le_length (p := fun p : Nat × Nat => p.1 == room && isOf who p.2) (l := l.zipIdx)
  rw [List.length_zipIdx] at this
  exact this
theorem count_one (p : Nat × Nat → Bool) (x : Nat) : ∀ (l : List Nat) (k : Nat), (∀ q, p q = true → q.2 = x) → (l.zipIdx k).countP p ≤ 1
  | [], k, _ => by simp
  | y :: l, k, h => by
    have ih := count_one p x l (k + 1) h
    rw [List.zipIdx_cons, List.countP_cons]
    by_cases c : p (y, k) = true
    · have : (l.zipIdx (k + 1)).countP p = 0 := by
        rw [List.countP_eq_zero]
        intro q hq hp
        have h1 := h _ c
        have h2 := h _ hp
        have := (List.mem_zipIdx hq).1
        omega
      rw [this, if_pos c]; exact Nat.le_refl _
    · rw [if_neg c]; omega
theorem hereN_one (l : List Nat) (room x : Nat) : hereN l room (some x) ≤ 1 := by
  unfold hereN
  refine count_one _ x l 0 fun q hq => ?_
  rw [Bool.and_eq_true] at hq
  have := hq.2
  simp [isOf] at this
  exact this.symm
theorem hereN_most (h : House) (l : List Nat) (hl : l.length = h.2.length) (room : Nat) (who : Option Nat) : hereN l room who ≤ mostIn h.2.length (.here who) := by
  cases who with
  | none => have := hereN_le l room none; simpa [mostIn, ← hl] using this
  | some x => exact hereN_one l room x
theorem memAfter_at {h : House} {room : Nat} {r : Room} (hr : h.1[room]? = some r) (m : Mem) (t : Touch) {k : Nat} {v : Nat} (hv : (memAfter h room m t)[k]? = some v) : ∃ nt u, r.1[k]? = some nt ∧ m[k]? = some u ∧ v = valueAfter h.2.length nt u t := by
  unfold memAfter at hv
  rw [room_get hr, List.getElem?_map] at hv
  obtain ⟨p, hp, e⟩ := Option.map_eq_some_iff.mp hv
  obtain ⟨h1, h2⟩ := List.getElem?_zip_eq_some.mp hp
  exact ⟨p.1, p.2, h1, h2, e.symm⟩
theorem out_le (W : Nat) (nt : Note) (v w d : Nat) : valueAfter W nt v (.out w d) ≤ v := by
  simp only [valueAfter]
  split <;> omega
theorem in_le (W : Nat) (nt : Note) (v w d : Nat) : valueAfter W nt v (.in_ w d) ≤ mostIn W nt := by
  unfold valueAfter
  exact Nat.min_le_left _ _
theorem sitAfter_ok {h : House} (ok : HouseOk h) {s : Sit} (so : SitOk h s) {st : Step} (hs : StepOk h s st) (hroom : st.room = s.1.getD st.walker 0) (hne : st.to ≠ st.room) : SitOk h (sitAfter h s st) := by
  have hl : (sitAfter h s st).2.length = h.1.length := by simp [sitAfter]
  have hsw : st.walker < s.1.length := by rw [so.pl]; exact hs.w
  have hmem : ∀ (i : Nat) (r : Room), h.1[i]? = some r → (sitAfter h s st).2[i]? = some ((sitAfter h s st).2.getD i []) := fun i r hr => by
    have hi := (List.getElem?_eq_some_iff.mp hr).1
    rw [List.getD_eq_getElem?_getD, List.getElem?_eq_getElem (by omega)]; rfl
  have hold : ∀ (i : Nat) (r : Room), h.1[i]? = some r → s.2[i]? = some (s.2.getD i []) := fun i r hr => by
    have hi := (List.getElem?_eq_some_iff.mp hr).1
    rw [List.getD_eq_getElem?_getD, List.getElem?_eq_getElem (by rw [so.ft.len]; exact hi)]; rfl
  refine ⟨by simp [sitAfter, so.pl], fun x hx => ?_, ?_, fun i r m k nt v hr hm hn hv => ?_⟩
  · have hx : x ∈ s.1.set st.walker st.to := hx
    rcases List.mem_or_eq_of_mem_set hx with hx | hx
    · exact so.pr x hx
    · rw [hx]; exact hs.t
  · unfold Fits
    apply List.ext_getElem?
    intro i
    rw [List.getElem?_map, List.getElem?_map]
    cases hr : h.1[i]? with
    | none => rw [List.getElem?_eq_none_iff] at hr; rw [List.getElem?_eq_none_iff.mpr (by omega)]; rfl
    | some r =>
      rw [hmem i r hr]
      have q := sitAfter_mem (h := h) (s := s) (st := st) (List.getElem?_eq_some_iff.mp hr).1
      have hlm := so.ft.at hr
      rw [q]
      show some (if i = st.to then memAfter h st.to (if i = st.room then memAfter h st.room (s.2.getD i []) (.out st.walker st.door) else s.2.getD i []) (.in_ st.walker st.room) else if i = st.room then memAfter h st.room (s.2.getD i []) (.out st.walker st.door) else s.2.getD i []).length = some r.1.length
      by_cases c1 : i = st.room
      · by_cases c2 : i = st.to
        · rw [if_pos c2, if_pos c1, ← c1, ← c2, memAfter_len hr _ _ (memAfter_len hr _ _ hlm)]
        · rw [if_neg c2, if_pos c1, ← c1, memAfter_len hr _ _ hlm]
      · by_cases c2 : i = st.to
        · rw [if_pos c2, if_neg c1, ← c2, memAfter_len hr _ _ hlm]
        · rw [if_neg c2, if_neg c1, hlm]
  · rw [hmem i r hr] at hm
    have hm := (Option.some.inj hm).symm
    have q := sitAfter_mem (h := h) (s := s) (st := st) (List.getElem?_eq_some_iff.mp hr).1
    rw [q] at hm
    have hm : m = (if i = st.to then memAfter h st.to (if i = st.room then memAfter h st.room (s.2.getD i []) (.out st.walker st.door) else s.2.getD i []) (.in_ st.walker st.room) else if i = st.room then memAfter h st.room (s.2.getD i []) (.out st.walker st.door) else s.2.getD i []) := hm
    have hpl : (sitAfter h s st).1 = s.1.set st.walker st.to := rfl
    have old := fun u (hu : (s.2.getD i [])[k]? = some u) => so.vm i r _ k nt u hr (hold i r hr) hn hu
    have key := fun who => hereN_set s.1 st.walker st.to i who hsw
    by_cases c1 : i = st.room
    · have c2 : ¬ i = st.to := fun c2 => hne (c2 ▸ c1)
      rw [if_neg c2, if_pos c1, ← c1] at hm
      subst hm
      obtain ⟨nt', u, e1, e2, e3⟩ := memAfter_at hr _ _ hv
      rw [hn] at e1
      cases e1
      obtain ⟨o1, o2⟩ := old u e2
      refine ⟨by rw [e3]; exact Nat.le_trans (out_le _ _ _ _ _) o1, fun who hw => ?_⟩
      have o2 := o2 who hw
      rw [hpl, key who, e3, hw, o2]
      simp only [valueAfter, Note.isHere, Note.who, Bool.true_and]
      rw [← hroom, ← c1]
      have : (st.to == i) = false := by simpa using fun h => c2 h.symm
      simp [this]
      split <;> omega
    · rw [if_neg c1] at hm
      have hroom' : (s.1.getD st.walker 0 == i) = false := by rw [← hroom]; simpa using fun h => c1 h.symm
      by_cases c2 : i = st.to
      · rw [if_pos c2, ← c2] at hm
        subst hm
        obtain ⟨nt', u, e1, e2, e3⟩ := memAfter_at hr _ _ hv
        rw [hn] at e1
        cases e1
        obtain ⟨o1, o2⟩ := old u e2
        refine ⟨by rw [e3]; exact in_le _ _ _ _ _, fun who hw => ?_⟩
        have o2 := o2 who hw
        have hmost := hereN_most h (s.1.set st.walker st.to) (by simp [so.pl]) i who
        rw [hpl]
        rw [key who, hroom'] at hmost ⊢
        rw [e3, hw, o2]
        simp only [valueAfter, comes]
        have : (st.to == i) = true := by simpa using c2.symm
        rw [this] at hmost ⊢
        simp only [Bool.false_and, Bool.true_and, Nat.sub_zero, Bool.false_eq_true, if_false] at hmost ⊢
        have e : (isOf who st.walker).toNat = if isOf who st.walker = true then 1 else 0 := by cases isOf who st.walker <;> rfl
        rw [e]
        exact Nat.min_eq_right hmost
      · rw [if_neg c2] at hm
        subst hm
        obtain ⟨o1, o2⟩ := old v hv
        refine ⟨o1, fun who hw => ?_⟩
        rw [hpl, key who, hroom', o2 who hw]
        have : (st.to == i) = false := by simpa using fun h => c2 h.symm
        simp [this]
theorem firstSit_ok {h : House} (ok : HouseOk h) : SitOk h (firstSit h) := by
  have hmem : ∀ (i : Nat) (r : Room), h.1[i]? = some r → (firstSit h).2[i]? = some (memFirst h i) := fun i r hr => by
    have hi := (List.getElem?_eq_some_iff.mp hr).1
    simp [firstSit, hi]
  refine ⟨rfl, ok.st, ?_, fun i r m k nt v hr hm hn hv => ?_⟩
  · unfold Fits
    apply List.ext_getElem?
    intro i
    rw [List.getElem?_map, List.getElem?_map]
    cases hr : h.1[i]? with
    | none => rw [List.getElem?_eq_none_iff] at hr; rw [List.getElem?_eq_none_iff.mpr (by simp [firstSit]; omega)]; rfl
    | some r =>
      rw [hmem i r hr, memFirst_eq hr]
      simp
  · rw [hmem i r hr, memFirst_eq hr] at hm
    cases hm
    rw [List.getElem?_map, hn] at hv
    have hv := (Option.some.inj hv).symm
    subst hv
    cases nt with
    | here who => exact ⟨hereN_most h h.2 rfl i who, fun who' hw => by cases hw; rfl⟩
    | _ => exact ⟨Nat.zero_le _, fun who' hw => by cases hw⟩
theorem after_ok {h : House} (ok : HouseOk h) {s : Sit} (so : SitOk h s) {w : Nat} (hw : w < h.2.length) {st : Step} (e : stepIn h s w = some st) : SitOk h (sitAfter h s st) := by
  obtain ⟨h1, h2, h3, h4, h5, h6, h7⟩ := stepIn_ok ok so hw e
  exact sitAfter_ok ok so h1 (by rw [h2]; exact h3) h7
end Lt
set_option maxHeartbeats 4000000
namespace Lt
open PySem
section
variable {F n : Nat} {S : Store}
def eSteps (l : List Step) : List Val := l.map Step.e
theorem steps_filter (g : Nat → Option Step) : ∀ (l : List Nat), ((l.filter fun w => !isNon (eS (g w))).map fun w => eS (g w)) = eSteps (l.filterMap g)
  | [] => rfl
  | w :: l => by
    have := steps_filter g l
    rw [List.filter_cons, List.filterMap_cons]
    cases hg : g w with
    | none => simpa [eS, hg] using this
    | some st => simpa [eS, hg, Step.e, eSteps] using this
theorem r_steps_in (hn : 7 ≤ n) (h : House) (ok : HouseOk h) (s : Sit) (so : SitOk h s) : run TBL F n j_steps_in [eHouse h, eSit s] S = .ok (.lst (eSteps ((List.range h.2.length).filterMap (stepIn h s)))) S := by
  obtain ⟨m, rfl⟩ := succ_of (show 1 ≤ n by omega)
  rw [run_steps_in]
  have h3 := ok.s3
  have e1 : ∀ w, w < h.2.length → run TBL F m 48 [eHouse h, eSit s, .int (w : Int)] S = .ok (eS (stepIn h s w)) S := fun w hw => r_step_in (by omega) h ok s so w hw
  simp only [eHouse] at e1 ⊢
  simp [b_steps_in, rangeV_nat _ (show h.2.length ≤ 1000000 by omega)]
  rw [lcGo_of iN (fun w => eS (stepIn h s w))]
  · simp
    rw [lcGo_filt (fun w => eS (stepIn h s w)) (fun w => !isNon (eS (stepIn h s w))) (fun w => eS (stepIn h s w))]
    · simp [steps_filter]
    · intro w hw
      rw [lcB_c]
      have : ∀ o, rd S (eS o) = eS o := fun o => by cases o <;> rfl
      simp [this]
  · intro w hw
    have hw := List.mem_range.mp hw
    simp [e1 w hw]
theorem cl_eS (o : Option Step) : (eS o).cl = true := by cases o <;> rfl
theorem r_step_by (hn : 16 ≤ n) (hS : SOk S) (h : House) (ok : HouseOk h) (s : Sit) (so : SitOk h s) (w : Nat) (hw : w < h.2.length) : run TBL F n j_step_by [eHouse h, eSit s, .int (w : Int)] S = .ok (eS (stepIn h s w)) S := by
  obtain ⟨m, rfl⟩ := succ_of (show 1 ≤ n by omega)
  rw [run_step_by]
  have e1 : run TBL F m 29 [eHouse h] S = .ok .non S := r_need_house (by omega) h ok
  have e2 : run TBL F m 47 [eHouse h, eSit s] S = .ok .non S := r_need_situation (by omega) hS h ok s so
  have e3 : run TBL F m 31 [eHouse h, .int (w : Int)] S = .ok .non S := r_need_walker (by omega) h w hw
  have e4 : run TBL F m 48 [eHouse h, eSit s, .int (w : Int)] S = .ok (eS (stepIn h s w)) S := r_step_in (by omega) h ok s so w hw
  simp [b_step_by, e1, e2, e3, e4]
theorem r_going (hn : 16 ≤ n) (hS : SOk S) (h : House) (ok : HouseOk h) (s : Sit) (so : SitOk h s) : run TBL F n j_going [eHouse h, eSit s] S = .ok (eNs (goings h s)) S := by
  obtain ⟨m, rfl⟩ := succ_of (show 1 ≤ n by omega)
  rw [run_going]
  have e1 : run TBL F m 29 [eHouse h] S = .ok .non S := r_need_house (by omega) h ok
  have e2 : run TBL F m 47 [eHouse h, eSit s] S = .ok .non S := r_need_situation (by omega) hS h ok s so
  have e3 : run TBL F m 50 [eHouse h, eSit s] S = .ok (.lst (eSteps ((List.range h.2.length).filterMap (stepIn h s)))) S := r_steps_in (by omega) h ok s so
  unfold goings
  generalize (List.range h.2.length).filterMap (stepIn h s) = l at *
  unfold eSteps at e3
  simp [b_going, e1, e2, e3]
  rw [lcGo_of Step.e (fun st => iN st.walker)]
  · simp [eNs, List.map_map, Function.comp_def]
  · intro st _
    simp [Step.e]
theorem r_behind (hn : 17 ≤ n) (hS : SOk S) (h : House) (ok : HouseOk h) (s : Sit) (so : SitOk h s) (w : Nat) (hw : w < h.2.length) (st : Step) (hst : stepIn h s w = some st) : run TBL F n j_behind [eHouse h, eSit s, .int (w : Int)] S = .ok (eSit (sitAfter h s st)) S := by
  obtain ⟨m, rfl⟩ := succ_of (show 1 ≤ n by omega)
  rw [run_behind]
  have e1 : run TBL F m 51 [eHouse h, eSit s, .int (w : Int)] S = .ok (eS (stepIn h s w)) S := r_step_by (by omega) hS h ok s so w hw
  have e2 : run TBL F m 49 [eHouse h, eSit s, st.e] S = .ok (eSit (sitAfter h s st)) S := r_situation_after (by omega) hS h ok s so st (stepIn_ok ok so hw hst).1
  rw [hst] at e1
  have hn : isNon st.e = false := rfl
  have hr : rd S st.e = st.e := rfl
  simp [b_behind, e1, eS, hn, hr, e2]
theorem gone_ok {h : House} : ∀ (ws : List Nat) (s : Sit) {a : List Step} {s' : Sit} {w : Nat} {st : Step}, gone h s ws = (a, s', none) → w < h.2.length → stepIn h s' w = some st → gone h s (ws ++ [w]) = (a ++ [st], sitAfter h s' st, none)
  | [], s, a, s', w, st, h1, hw, h2 => by
    simp only [gone, Prod.mk.injEq] at h1
    obtain ⟨rfl, rfl, _⟩ := h1
    simp [gone, hw, h2]
  | x :: ws, s, a, s', w, st, h1, hw, h2 => by
    rw [List.cons_append]
    unfold gone at h1 ⊢
    by_cases c : x < h.2.length
    · rw [if_pos c] at h1 ⊢
      cases hx : stepIn h s x with
      | none => rw [hx] at h1; simp at h1
      | some y =>
        rw [hx] at h1
        simp only [Prod.mk.injEq, Option.map_eq_none_iff] at h1 ⊢
        obtain ⟨rfl, rfl, h4⟩ := h1
        have := gone_ok ws (sitAfter h s y) (a := (gone h (sitAfter h s y) ws).1) (s' := (gone h (sitAfter h s y) ws).2.1) (by rw [← h4]) hw h2
        rw [this]
        simp
    · rw [if_neg c] at h1; simp at h1
theorem gone_no {h : House} : ∀ (ws : List Nat) (s : Sit) {a : List Step} {s' : Sit} {w : Nat} (rest : List Nat), gone h s ws = (a, s', none) → (w < h.2.length → stepIn h s' w = none) → gone h s (ws ++ w :: rest) = (a, s', some ws.length)
  | [], s, a, s', w, rest, h1, h2 => by
    simp only [gone, Prod.mk.injEq] at h1
    obtain ⟨rfl, rfl, _⟩ := h1
    by_cases c : w < h.2.length
    · simp [gone, c, h2 c]
    · simp [gone, c]
  | x :: ws, s, a, s', w, rest, h1, h2 => by
    rw [List.cons_append]
    unfold gone at h1 ⊢
    by_cases c : x < h.2.length
    · rw [if_pos c] at h1 ⊢
      cases hx : stepIn h s x with
      | none => rw [hx] at h1; simp at h1
      | some y =>
        rw [hx] at h1
        simp only [Prod.mk.injEq, Option.map_eq_none_iff] at h1 ⊢
        obtain ⟨rfl, rfl, h4⟩ := h1
        have := gone_no ws (sitAfter h s y) (a := (gone h (sitAfter h s y) ws).1) (s' := (gone h (sitAfter h s y) ws).2.1) rest (by rw [← h4]) h2
        rw [this]
        simp
    · rw [if_neg c] at h1; simp at h1
theorem gone_sit {h : House} (ok : HouseOk h) : ∀ (ws : List Nat) (s : Sit), SitOk h s → SitOk h (gone h s ws).2.1
  | [], s, so => so
  | x :: ws, s, so => by
    unfold gone
    by_cases c : x < h.2.length
    · rw [if_pos c]
      cases hx : stepIn h s x with
      | none => exact so
      | some y => exact gone_sit ok ws _ (after_ok ok so c hx)
    · rw [if_neg c]; exact so
theorem FOk.toK {I : Env → Store → Prop} {Q : Val → Store → Prop} {r : SR} {k : Env → Store → SR} {rhs : R Val} (h : FOk I Q r) (h1 : ∀ e S, I e S → ((SR.next e S).bind k).toR = rhs) (h2 : ∀ v S, Q v S → ((SR.ret v S).bind k).toR = rhs) : (r.bind k).toR = rhs := by
  cases r with
  | next e S => exact h1 e S h
  | ret v S => exact h2 v S h
  | _ => exact False.elim h
/-- a Gone in the store -/
def GS (S : Store) (a : List Step) (s : Sit) (w : Option Nat) : Store := S ++ [.inst "Gone" [("steps", .loc (S.length + 1)), ("here", eSit s), ("wrong", eO w)], .lst (eSteps a)]
section
variable (S : Store) (a : List Step) (s : Sit) (w : Option Nat)
theorem GS_at : (GS S a s w)[S.length]? = some (.inst "Gone" [("steps", .loc (S.length + 1)), ("here", eSit s), ("wrong", eO w)]) := by
  unfold GS
  rw [List.getElem?_append_right (Nat.le_refl _), Nat.sub_self]; rfl
theorem GS_at1 : (GS S a s w)[S.length + 1]? = some (.lst (eSteps a)) := by
  unfold GS
  rw [List.getElem?_append_right (by omega), show S.length + 1 - S.length = 1 by omega]; rfl
@[simp] theorem GS_steps : fldV (GS S a s w) (.loc S.length) "steps" = some (.loc (S.length + 1)) := by
  unfold fldV
  simp only [GS_at]
  simp [List.lookup]
@[simp] theorem GS_here : fldV (GS S a s w) (.loc S.length) "here" = some (eSit s) := by
  unfold fldV
  simp only [GS_at]
  simp [List.lookup]
@[simp] theorem GS_wrong : fldV (GS S a s w) (.loc S.length) "wrong" = some (eO w) := by
  unfold fldV
  simp only [GS_at]
  simp [List.lookup]
theorem GS_set (o : Ob) : (GS S a s w).set S.length o = S ++ [o, .lst (eSteps a)] := by
  unfold GS
  rw [List.set_append_right _ _ (Nat.le_refl _), Nat.sub_self]; rfl
@[simp] theorem GS_shere (env : Env) (s2 : Sit) : fldL (.loc S.length) "here" (eSit s2) env (GS S a s w) = .next env (GS S a s2 w) := by
  rw [fldL_of _ _ _ _ _ _ _ (GS_at S a s w) (by simp), GS_set]
  simp [setF, GS]
@[simp] theorem GS_swrong (env : Env) (k : Nat) : fldL (.loc S.length) "wrong" (.int (k : Int)) env (GS S a s w) = .next env (GS S a s (some k)) := by
  rw [fldL_of _ _ _ _ _ _ _ (GS_at S a s w) (by simp), GS_set]
  simp [setF, GS, eO]
@[simp] theorem GS_isl : isLst (GS S a s w) (.loc (S.length + 1)) = true := i_loc _ (GS_at1 S a s w)
theorem GS_app (st : Step) (hl : a.length < 1000) : mthV .append (.loc (S.length + 1)) [st.e] (GS S a s w) = .ok .non (GS S (a ++ [st]) s w) := by
  rw [mth_app _ _ _ _ (GS_at1 S a s w) (by rw [sz]; simp [eSteps]; omega)]
  unfold GS
  rw [List.set_append_right _ _ (by omega), show S.length + 1 - S.length = 1 by omega]
  simp [eSteps]
@[simp] theorem GS_tup : bltV .tuple [.loc (S.length + 1)] (GS S a s w) = .ok (.tup (eSteps a)) (GS S a s w) := k_tupl _ _ _ (GS_at1 S a s w)
@[simp] theorem GS_mc (k : R Val) : mcV "Gone" "go_on" (.loc S.length) (GS S a s w) k = k := mcV_of (GS_at S a s w) (by simp [List.lookup]) k
end
theorem cl_eSit (s : Sit) : (eSit s).cl = true := by simp [eSit, eNs, -List.map_flatten]
theorem cl_eSteps (a : List Step) : Val.clAll (eSteps a) = true := h_map _ _ fun _ _ => rfl
theorem blw_cl {v : Val} (n : Nat) (h : v.cl = true) : v.blw n = true := Val.cl_blw n v h
theorem SOk.GS {S : Store} (hS : SOk S) (a : List Step) (s : Sit) (w : Option Nat) : SOk (GS S a s w) := by
  unfold SOk Lt.GS
  rw [List.all_append, Bool.and_eq_true, List.length_append]
  refine ⟨?_, ?_⟩
  · unfold SOk at hS
    rw [List.all_eq_true] at hS ⊢
    exact fun o ho => Ob.blw_mono (by omega) o (hS o ho)
  · simp [Ob.blw, blw_cl _ (cl_eSit s), Val.clAll_blw _ _ (cl_eSteps a)]
    exact ⟨by simp [Val.blw], blw_cl _ (by cases w <;> rfl)⟩
theorem r_go_on (hn : 7 ≤ n) (hS : SOk S) (h : House) (ok : HouseOk h) (ws : List Nat) (hl : ws.length ≤ 400) : run TBL F n j_Gone_go_on [.loc S.length, eHouse h, eNs ws] (GS S [] (firstSit h) none) = .ok .non (GS S (gone h (firstSit h) ws).1 (gone h (firstSit h) ws).2.1 (gone h (firstSit h) ws).2.2) := by
  obtain ⟨m, rfl⟩ := succ_of (show 1 ≤ n by omega)
  rw [run_Gone_go_on]
  have e1 : ∀ s w S, SitOk h s → w < h.2.length → run TBL F m 48 [eHouse h, eSit s, .int (w : Int)] S = .ok (eS (stepIn h s w)) S := fun s w S so hw => r_step_in (by omega) h ok s so w hw
  have e2 : ∀ s st S, SOk S → SitOk h s → StepOk h s st → run TBL F m 49 [eHouse h, eSit s, st.e] S = .ok (eSit (sitAfter h s st)) S := fun s st S hS so hst => r_situation_after (by omega) hS h ok s so st hst
  simp only [eHouse] at e1 e2 ⊢
  simp [b_Gone_go_on, enumV_map, -List.map_map]
  refine FOk.toK (forGo_inv (fun p : Nat × Nat => Val.tup [.int (p.2 : Int), iN p.1]) (fun k env S' => (∃ x y z, env = [some (.loc S.length), some (Val.tup [Val.tup (h.1.map eRoom), eNs h.2]), some (eNs ws), some (Val.tup (h.1.map eRoom)), some (eNs h.2), x, y, z]) ∧ ∃ a s, gone h (firstSit h) (ws.take k) = (a, s, none) ∧ SitOk h s ∧ a.length ≤ k ∧ S' = GS S a s none) (fun v S' => v = .non ∧ S' = GS S (gone h (firstSit h) ws).1 (gone h (firstSit h) ws).2.1 (gone h (firstSit h) ws).2.2) ws.zipIdx 0 ?_ ?_) ?_ ?_
  · exact ⟨⟨_, _, _, rfl⟩, [], firstSit h, rfl, firstSit_ok ok, Nat.le_refl _, rfl⟩
  · rintro k p env S' hk ⟨⟨x, y, z, rfl⟩, a, s, hg, so, hal, rfl⟩
    obtain ⟨w, i⟩ := p
    have hd : ws[k]? = some w ∧ i = k := by
      rw [List.getElem?_zipIdx] at hk
      cases hq : ws[k]? with
      | none => rw [hq] at hk; cases hk
      | some d' =>
        rw [hq] at hk
        have hk := Option.some.inj hk
        exact ⟨congrArg some (congrArg Prod.fst hk), by have := congrArg Prod.snd hk; simp at this; omega⟩
    obtain ⟨hwk, rfl⟩ := hd
    have hkl := (List.getElem?_eq_some_iff.mp hwk).1
    rw [Nat.zero_add] at hg hal
    have hsplit : ws = ws.take i ++ w :: ws.drop (i + 1) := by
      have := List.take_append_drop i ws
      rw [List.drop_eq_getElem_cons hkl, (List.getElem?_eq_some_iff.mp hwk).2] at this
      exact this.symm
    have hno : (w < h.2.length → stepIn h s w = none) → gone h (firstSit h) ws = (a, s, some i) := fun hh => by
      have := gone_no (ws.take i) (firstSit h) (ws.drop (i + 1)) hg hh
      rw [← hsplit, List.length_take, Nat.min_eq_left (by omega)] at this
      exact this
    by_cases c : w < h.2.length
    · have e1w := fun S => e1 s w S so c
      cases hst : stepIn h s w with
      | none =>
        rw [hst] at e1w
        have := hno fun _ => hst
        simp [c, e1w, eS, this]
      | some st =>
        rw [hst] at e1w
        have hso := (stepIn_ok ok so c hst).1
        have e2w := fun S hS => e2 s st S hS so hso
        have hgo := gone_ok (ws.take i) (firstSit h) hg c hst
        have e2g := e2w (GS S (a ++ [st]) s none) (hS.GS _ _ _)
        have hn : isNon st.e = false := rfl
        have hrd : ∀ S, rd S st.e = st.e := fun _ => rfl
        simp [c, e1w, eS, hn, hrd, GS_app S a s none st (by omega), e2g]
        refine ⟨a ++ [st], (sitAfter h s st).1, (sitAfter h s st).2, ?_, after_ok ok so c hst, ?_, rfl⟩
        · rw [List.take_add_one, hwk]; exact hgo
        · simp; omega
    · have := hno fun hh => absurd hh c
      simp [c, this]
  · rintro env S' ⟨⟨x, y, z, rfl⟩, a, s, hg, so, hal, rfl⟩
    have : ws.take (0 + ws.zipIdx.length) = ws := by simp
    rw [this] at hg
    simp [hg]
  · rintro v S' ⟨rfl, rfl⟩
    simp
theorem fldL_new (S : Store) (f : Str) (c : Str) (fs : List (Str × Val)) (more : Store) (x : Val) (env : Env) (h : fs.length < 900) : fldL (.loc S.length) f x env (S ++ .inst c fs :: more) = .next env (S ++ .inst c (setF f x fs) :: more) := by
  rw [fldL_of env _ _ c f fs x (by simp) h]
  rw [List.set_append_right _ _ (Nat.le_refl _), Nat.sub_self]; rfl
theorem r_init (hn : 8 ≤ n) (hS : SOk S) (h : House) (ok : HouseOk h) (ws : List Nat) (hl : ws.length ≤ 400) : run TBL F n j_Gone___init__ [.loc S.length, eHouse h, eNs ws] (S ++ [.inst "Gone" []]) = .ok .non (GS S (gone h (firstSit h) ws).1 (gone h (firstSit h) ws).2.1 (gone h (firstSit h) ws).2.2) := by
  obtain ⟨m, rfl⟩ := succ_of (show 1 ≤ n by omega)
  rw [run_Gone___init__]
  have hSx : ∀ fs : List (Str × Val), (fs.all fun p => p.2.blw (S.length + 2)) = true → SOk (S ++ [.inst "Gone" fs, .lst []]) := fun fs hf => by
    unfold SOk
    rw [List.all_append, Bool.and_eq_true, List.length_append]
    refine ⟨?_, ?_⟩
    · unfold SOk at hS
      rw [List.all_eq_true] at hS ⊢
      exact fun o ho => Ob.blw_mono (by omega) o (hS o ho)
    · simp [Ob.blw, Val.blwAll]
      simpa using hf
  have e1 : run TBL F m 42 [eHouse h] (S ++ [.inst "Gone" [("steps", .loc (S.length + 1))], .lst []]) = .ok (eSit (firstSit h)) (S ++ [.inst "Gone" [("steps", .loc (S.length + 1))], .lst []]) := r_first_of (by omega) (hSx _ (by simp [Val.blw])) h ok
  have e2 : run TBL F m 55 [.loc S.length, eHouse h, eNs ws] (GS S [] (firstSit h) none) = .ok .non (GS S (gone h (firstSit h) ws).1 (gone h (firstSit h) ws).2.1 (gone h (firstSit h) ws).2.2) := r_go_on (by omega) hS h ok ws hl
  have hw : ¬ (400 : Int) < (ws.length : Int) := by omega
  have hg : S ++ [Ob.inst "Gone" [("steps", .loc (S.length + 1)), ("here", eSit (firstSit h)), ("wrong", .non)], .lst []] = GS S [] (firstSit h) none := rfl
  simp [b_Gone___init__, fldL_new, setF, e1, hg, hw, e2]
theorem r_is_walk (hn : 16 ≤ n) (hS : SOk S) (h : House) (ok : HouseOk h) (ws : List Nat) (hl : ws.length ≤ 400) : run TBL F n j_is_walk [eHouse h, eNs ws] S = .ok (.bl (gone h (firstSit h) ws).2.2.isNone) S := by
  obtain ⟨m, rfl⟩ := succ_of (show 1 ≤ n by omega)
  rw [run_is_walk]
  have e1 : run TBL F m 29 [eHouse h] S = .ok .non S := r_need_house (by omega) h ok
  have e2 : run TBL F m 54 [.loc S.length, eHouse h, eNs ws] (S ++ [.inst "Gone" []]) = .ok .non (GS S (gone h (firstSit h) ws).1 (gone h (firstSit h) ws).2.1 (gone h (firstSit h) ws).2.2) := r_init (by omega) hS h ok ws hl
  have hr : ∀ S o, isNon (rd S (eO o)) = o.isNone := fun S o => by cases o <;> rfl
  simp [b_is_walk, e1, e2, hr]
  exact leave_app hS rfl
theorem r_gone_by (hn : 16 ≤ n) (hS : SOk S) (h : House) (ok : HouseOk h) (ws : List Nat) (hl : ws.length ≤ 400) {a : List Step} {s : Sit} (hg : gone h (firstSit h) ws = (a, s, none)) : run TBL F n j_gone_by [eHouse h, eNs ws] S = .ok (.loc S.length) (GS S a s none) := by
  obtain ⟨m, rfl⟩ := succ_of (show 1 ≤ n by omega)
  rw [run_gone_by]
  have e1 : run TBL F m 29 [eHouse h] S = .ok .non S := r_need_house (by omega) h ok
  have e2 : run TBL F m 54 [.loc S.length, eHouse h, eNs ws] (S ++ [.inst "Gone" []]) = .ok .non (GS S (gone h (firstSit h) ws).1 (gone h (firstSit h) ws).2.1 (gone h (firstSit h) ws).2.2) := r_init (by omega) hS h ok ws hl
  rw [hg] at e2
  simp [b_gone_by, e1, e2, eO]
theorem r_steps_of (hn : 17 ≤ n) (hS : SOk S) (h : House) (ok : HouseOk h) (ws : List Nat) (hl : ws.length ≤ 400) {a : List Step} {s : Sit} (hg : gone h (firstSit h) ws = (a, s, none)) : run TBL F n j_steps_of [eHouse h, eNs ws] S = .ok (.tup (eSteps a)) S := by
  obtain ⟨m, rfl⟩ := succ_of (show 1 ≤ n by omega)
  rw [run_steps_of]
  have e1 : run TBL F m 57 [eHouse h, eNs ws] S = .ok (.loc S.length) (GS S a s none) := r_gone_by (by omega) hS h ok ws hl hg
  simp [b_steps_of, e1]
  exact leave_app hS (cl_eSteps a)
theorem r_situation_by (hn : 17 ≤ n) (hS : SOk S) (h : House) (ok : HouseOk h) (ws : List Nat) (hl : ws.length ≤ 400) {a : List Step} {s : Sit} (hg : gone h (firstSit h) ws = (a, s, none)) : run TBL F n j_situation_by [eHouse h, eNs ws] S = .ok (eSit s) S := by
  obtain ⟨m, rfl⟩ := succ_of (show 1 ≤ n by omega)
  rw [run_situation_by]
  have e1 : run TBL F m 57 [eHouse h, eNs ws] S = .ok (.loc S.length) (GS S a s none) := r_gone_by (by omega) hS h ok ws hl hg
  simp [b_situation_by, e1]
  exact leave_app hS (cl_eSit s)
end
end Lt
set_option maxHeartbeats 4000000
namespace Lt
open PySem
/-- a pot at a place -/
def Pot (S : Store) (l K : Nat) : Prop := ∃ a b k : Nat, S[l]? = some (.lst [iN a, iN b, iN k]) ∧ b < 2305843009213693952 ∧ k ≤ K
def Sm (l : Nat) (S S' : Store) : Prop := S'.length = S.length ∧ ∀ i, i ≠ l → S'[i]? = S[i]?
theorem Sm.rfl {l : Nat} {S : Store} : Sm l S S := ⟨Eq.refl _, fun _ _ => Eq.refl _⟩
theorem Sm.trans {l : Nat} {S S1 S2 : Store} (h : Sm l S S1) (h2 : Sm l S1 S2) : Sm l S S2 := ⟨by rw [h2.1, h.1], fun i hi => by rw [h2.2 i hi, h.2 i hi]⟩
theorem Pot.mono {S : Store} {l K K' : Nat} (h : Pot S l K) (hk : K ≤ K') : Pot S l K' := by
  obtain ⟨a, b, k, h1, h2, h3⟩ := h
  exact ⟨a, b, k, h1, h2, by omega⟩
theorem leave_le {v : Val} {S S' : Store} (h : S'.length = S.length) : leave .pure S.length (.ok v S') = .ok v S' := by
  unfold leave
  simp only
  rw [if_pos (by omega)]
theorem powOk_nat (b : Nat) (e : Int) (h : b < 18446744073709551616) (h0 : 0 ≤ e) (he : e ≤ 1000000) : powOk (b : Int) e = true := by
  unfold powOk
  rw [decide_eq_true h0, decide_eq_true he, Int.natAbs_natCast, decide_eq_true (show b < 2 ^ 64 by omega)]
  simp only [Bool.true_and, Bool.true_or]
def lim : Nat := 1099511627776
section
variable {F n : Nat} {S : Store}
theorem r_take (hn : 1 ≤ n) (l K many : Nat) (hp : Pot S l K) (hK : K + 1 ≤ lim) (hm : 0 < many) (hm2 : many < 1073741824) : ∃ (r : Nat) (S' : Store), run TBL F n j__law_take [.loc l, .int (many : Int)] S = .ok (.int (r : Int)) S' ∧ r < many ∧ Pot S' l (K + 1) ∧ Sm l S S' := by
  obtain ⟨m, rfl⟩ := succ_of (show 1 ≤ n by omega)
  rw [run__law_take]
  obtain ⟨a, b, k, hl, hb, hk⟩ := hp
  have hll := (List.getElem?_eq_some_iff.mp hl).1
  have hset : ∀ o, (S.set l o)[l]? = some o := fun o => by simp [List.getElem?_set, hll]
  have hsm : ∀ o, Sm l S (S.set l o) := fun o => ⟨by simp, fun i hi => by simp [List.getElem?_set, Ne.symm hi]⟩
  have i0 : ∀ j : Int, ixV S (.loc l) (.int j) = L2.atI [iN a, iN b, iN k] j := fun j => x_ixl S l _ j hl
  have s0 : ∀ (x : Val) env, subL (.loc l) (.int 0) x env S = .next env (S.set l (.lst [x, iN b, iN k])) := fun x env => subL_nat env S l 0 [iN a, iN b, iN k] x hl (by simp)
  have s2 : ∀ (x : Val) env, subL (.loc l) (.int 2) x env S = .next env (S.set l (.lst [iN a, iN b, x])) := fun x env => subL_nat env S l 2 [iN a, iN b, iN k] x hl (by simp)
  by_cases ha : 0 < a
  · have m1 : binV .Mod (.int (a : Int)) (.int (many : Int)) = some (iN (a % many)) := by rw [b_mod _ _ (by omega)]; simp
    have m2 : binV .FloorDiv (.int (a : Int)) (.int (many : Int)) = some (iN (a / many)) := by rw [b_div _ _ (by omega) (by omega)]; simp
    have ha' : (0 : Int) < (a : Int) := by omega
    refine ⟨a % many, S.set l (.lst [iN (a / many), iN b, iN k]), ?_, Nat.mod_lt _ hm, ⟨a / many, b, k, hset _, hb, by omega⟩, hsm _⟩
    simp [b__law_take, i0, ha, m1, m2, s0, -Int.natCast_ediv, -Int.natCast_emod]
    exact leave_le (hsm _).1
  · have hl2 : lim = 1099511627776 := rfl
    have ha' : ¬ (0 : Int) < (a : Int) := by omega
    have i2 : ∀ j : Int, ixV (S.set l (.lst [iN a, iN b, .int ((k : Int) + 1)])) (.loc l) (.int j) = L2.atI [iN a, iN b, .int ((k : Int) + 1)] j := fun j => x_ixl _ l _ j (hset _)
    have u1 : binV .Mult (.int 104729) (.int ((k : Int) + 1)) = some (.int (104729 * ((k : Int) + 1))) := b_mul _ _ (by unfold mulOk; simp)
    have u2 : binV .Mult (.int 31) (.int ((k : Int) + 1)) = some (.int (31 * ((k : Int) + 1))) := b_mul _ _ (by unfold mulOk; simp)
    have p1 : ∃ one : Nat, binV .Pow (.int ((b : Int) + 104729 * ((k : Int) + 1))) (.int 3) = some (iN one) := by
      refine ⟨(b + 104729 * (k + 1)) ^ 3, ?_⟩
      rw [show (b : Int) + 104729 * ((k : Int) + 1) = ((b + 104729 * (k + 1) : Nat) : Int) by omega, b_pow _ _ (powOk_nat _ _ (by omega) (by omega) (by omega))]
      simp
    obtain ⟨one, p1⟩ := p1
    have q1 : ∃ o1 : Nat, o1 < 2305843009213693921 ∧ binV .Mod (.int (one : Int)) (.int 2305843009213693921) = some (iN o1) := ⟨one % 2305843009213693921, Nat.mod_lt _ (by omega), by rw [b_mod _ _ (by omega)]; simp⟩
    obtain ⟨o1, hq, q1⟩ := q1
    have q2 : ∃ o2 : Nat, o2 < 65537 ∧ binV .Mod (.int (b : Int)) (.int 65537) = some (iN o2) := ⟨b % 65537, Nat.mod_lt _ (by omega), by rw [b_mod _ _ (by omega)]; simp⟩
    obtain ⟨o2, hq2, q2⟩ := q2
    have p2 : ∃ o3 : Nat, binV .Pow (.int ((o1 : Int) + (o2 : Int) + 31 * ((k : Int) + 1))) (.int 5) = some (iN o3) := by
      refine ⟨(o1 + o2 + 31 * (k + 1)) ^ 5, ?_⟩
      rw [show (o1 : Int) + (o2 : Int) + 31 * ((k : Int) + 1) = ((o1 + o2 + 31 * (k + 1) : Nat) : Int) by omega, b_pow _ _ (powOk_nat _ _ (by omega) (by omega) (by omega))]
      simp
    obtain ⟨o3, p2⟩ := p2
    have q3 : ∃ o4 : Nat, binV .Mod (.int (o3 : Int)) (.int 2305843009213693907) = some (iN o4) := ⟨o3 % 2305843009213693907, by rw [b_mod _ _ (by omega)]; simp⟩
    obtain ⟨o4, q3⟩ := q3
    have q4 : ∃ o5 : Nat, binV .FloorDiv (.int (o4 : Int)) (.int 1024) = some (iN o5) := ⟨o4 / 1024, by rw [b_div _ _ (by omega) (by omega)]; simp⟩
    obtain ⟨o5, q4⟩ := q4
    have q5 : ∃ r : Nat, r < many ∧ binV .Mod (.int (o5 : Int)) (.int (many : Int)) = some (iN r) := ⟨o5 % many, Nat.mod_lt _ hm, by rw [b_mod _ _ (by omega)]; simp⟩
    obtain ⟨r, hr, q5⟩ := q5
    refine ⟨r, S.set l (.lst [iN a, iN b, .int ((k : Int) + 1)]), ?_, hr, ⟨a, b, k + 1, by rw [hset]; rfl, hb, by omega⟩, hsm _⟩
    have s2' := s2 (.int ((k : Int) + 1))
    simp [b__law_take, i0, ha, s2', i2, u1, u2, p1, q1, q2, p2, q3, q4, q5]
    exact leave_le (hsm _).1
end
end Lt
set_option maxHeartbeats 4000000
namespace Lt
open PySem
section
variable {F n : Nat} {S : Store}
theorem r_law_most (hn : 1 ≤ n) (W : Nat) (nt : Note) (h : nt.ok W) : run TBL F n j__law_most [.int (W : Int), nt.e] S = .ok (.int (mostIn W nt : Nat)) S := by
  obtain ⟨m, rfl⟩ := succ_of (show 1 ≤ n by omega)
  rw [run__law_most]
  cases nt with
  | round w t =>
    have := h.2.1
    simp [b__law_most, Note.e, mostIn]; omega
  | here w => cases w <;> simp [b__law_most, Note.e, mostIn, eW]
  | _ => simp [b__law_most, Note.e, mostIn]
theorem r_law_note (hn : 2 ≤ n) (l K W : Nat) (hp : Pot S l K) (hK : K + 8 ≤ lim) (hW : 1 ≤ W) (hW3 : W ≤ 3) : ∃ (nt : Note) (S' : Store), run TBL F n j__law_note [.loc l, .int (W : Int)] S = .ok nt.e S' ∧ nt.ok W ∧ Pot S' l (K + 8) ∧ Sm l S S' := by
  obtain ⟨m, rfl⟩ := succ_of (show 1 ≤ n by omega)
  rw [run__law_note]
  obtain ⟨r1, S1, e1, h1, p1, m1⟩ := r_take (F := F) (n := m) (by omega) l K W hp (by omega) (by omega) (by omega)
  obtain ⟨r2, S2, e2, h2, p2, m2⟩ := r_take (F := F) (n := m) (by omega) l (K + 1) W p1 (by omega) (by omega) (by omega)
  obtain ⟨r3, S3, e3, h3, p3, m3⟩ := r_take (F := F) (n := m) (by omega) l (K + 2) 3 p2 (by omega) (by omega) (by omega)
  obtain ⟨r4, S4, e4, h4, p4, m4⟩ := r_take (F := F) (n := m) (by omega) l (K + 3) 9 p3 (by omega) (by omega) (by omega)
  have sm4 : Sm l S S4 := ((m1.trans m2).trans m3).trans m4
  obtain ⟨who, hwho, hok⟩ : ∃ who : Option Nat, L2.atI [Val.non, .int (r1 : Int), .int (r2 : Int)] (r3 : Int) = some (eW who) ∧ ∀ x, who = some x → x < W := by
    rw [atI_nat]
    rcases (by omega : r3 = 0 ∨ r3 = 1 ∨ r3 = 2) with rfl | rfl | rfl
    · exact ⟨none, rfl, fun x hx => by cases hx⟩
    · exact ⟨some r1, rfl, fun x hx => by cases hx; exact h1⟩
    · exact ⟨some r2, rfl, fun x hx => by cases hx; exact h2⟩
  have c3 : ((3 : Nat) : Int) = 3 := rfl
  have c9 : ((9 : Nat) : Int) = 9 := rfl
  rw [c3] at e3; rw [c9] at e4
  have c4 : ((4 : Nat) : Int) = 4 := rfl
  have cW : 1 < W → ((W - 1 : Nat) : Int) = (W : Int) - 1 := fun h => by omega
  rcases (by omega : r4 = 0 ∨ r4 = 1 ∨ r4 = 2 ∨ r4 = 3 ∨ r4 = 4 ∨ r4 = 5 ∨ r4 = 6 ∨ r4 = 7 ∨ r4 = 8) with rfl | rfl | rfl | rfl | rfl | rfl | rfl | rfl | rfl
  · obtain ⟨r5, S5, e5, h5, p5, m5⟩ := r_take (F := F) (n := m) (by omega) l (K + 4) 4 p4 (by omega) (by omega) (by omega)
    rw [c4] at e5
    refine ⟨.came who (1 + r5), S5, ?_, ⟨hok, by omega, by omega⟩, p5.mono (by omega), sm4.trans m5⟩
    simp [b__law_note, e1, e2, e3, e4, e5, hwho, Note.e]
    exact leave_le (sm4.trans m5).1
  · refine ⟨.last, S4, ?_, trivial, p4.mono (by omega), sm4⟩
    simp [b__law_note, e1, e2, e3, e4, hwho, Note.e]
    exact leave_le sm4.1
  · refine ⟨.first, S4, ?_, trivial, p4.mono (by omega), sm4⟩
    simp [b__law_note, e1, e2, e3, e4, hwho, Note.e]
    exact leave_le sm4.1
  · obtain ⟨r5, S5, e5, h5, p5, m5⟩ := r_take (F := F) (n := m) (by omega) l (K + 4) 3 p4 (by omega) (by omega) (by omega)
    rw [c3] at e5
    refine ⟨.round who (2 + r5), S5, ?_, ⟨hok, by omega, by omega⟩, p5.mono (by omega), sm4.trans m5⟩
    simp [b__law_note, e1, e2, e3, e4, e5, hwho, Note.e]
    exact leave_le (sm4.trans m5).1
  · obtain ⟨r5, S5, e5, h5, p5, m5⟩ := r_take (F := F) (n := m) (by omega) l (K + 4) 3 p4 (by omega) (by omega) (by omega)
    rw [c3] at e5
    refine ⟨.round who (2 + r5), S5, ?_, ⟨hok, by omega, by omega⟩, p5.mono (by omega), sm4.trans m5⟩
    simp [b__law_note, e1, e2, e3, e4, e5, hwho, Note.e]
    exact leave_le (sm4.trans m5).1
  · refine ⟨.here who, S4, ?_, hok, p4.mono (by omega), sm4⟩
    simp [b__law_note, e1, e2, e3, e4, hwho, Note.e]
    exact leave_le sm4.1
  · obtain ⟨r5, S5, e5, h5, p5, m5⟩ := r_take (F := F) (n := m) (by omega) l (K + 4) 4 p4 (by omega) (by omega) (by omega)
    rw [c4] at e5
    refine ⟨.came who (1 + r5), S5, ?_, ⟨hok, by omega, by omega⟩, p5.mono (by omega), sm4.trans m5⟩
    simp [b__law_note, e1, e2, e3, e4, e5, hwho, Note.e]
    exact leave_le (sm4.trans m5).1
  · by_cases hw : 1 < W
    · obtain ⟨r5, S5, e5, h5, p5, m5⟩ := r_take (F := F) (n := m) (by omega) l (K + 4) W p4 (by omega) (by omega) (by omega)
      obtain ⟨r6, S6, e6, h6, p6, m6⟩ := r_take (F := F) (n := m) (by omega) l (K + 5) (W - 1) p5 (by omega) (by omega) (by omega)
      rw [cW hw] at e6
      have q : binV .Mod (.int ((r5 : Int) + 1 + (r6 : Int))) (.int (W : Int)) = some (iN ((r5 + 1 + r6) % W)) := by rw [b_mod _ _ (by omega)]; simp
      have hne : r5 ≠ (r5 + 1 + r6) % W := by
        rcases (by omega : W = 2 ∨ W = 3) with rfl | rfl <;> omega
      refine ⟨.since r5 ((r5 + 1 + r6) % W), S6, ?_, ⟨h5, Nat.mod_lt _ (by omega), hne⟩, p6.mono (by omega), (sm4.trans m5).trans m6⟩
      generalize (r5 + 1 + r6) % W = r7 at *
      simp [b__law_note, e1, e2, e3, e4, e5, e6, hwho, Note.e, show (1 : Int) < (W : Int) by omega, q]
      exact leave_le ((sm4.trans m5).trans m6).1
    · obtain ⟨r5, S5, e5, h5, p5, m5⟩ := r_take (F := F) (n := m) (by omega) l (K + 4) 4 p4 (by omega) (by omega) (by omega)
      rw [c4] at e5
      refine ⟨.came who (1 + r5), S5, ?_, ⟨hok, by omega, by omega⟩, p5.mono (by omega), sm4.trans m5⟩
      simp [b__law_note, e1, e2, e3, e4, e5, hwho, Note.e, show ¬ (1 : Int) < (W : Int) by omega]
      exact leave_le (sm4.trans m5).1
  · by_cases hw : 1 < W
    · obtain ⟨r5, S5, e5, h5, p5, m5⟩ := r_take (F := F) (n := m) (by omega) l (K + 4) W p4 (by omega) (by omega) (by omega)
      obtain ⟨r6, S6, e6, h6, p6, m6⟩ := r_take (F := F) (n := m) (by omega) l (K + 5) (W - 1) p5 (by omega) (by omega) (by omega)
      rw [cW hw] at e6
      have q : binV .Mod (.int ((r5 : Int) + 1 + (r6 : Int))) (.int (W : Int)) = some (iN ((r5 + 1 + r6) % W)) := by rw [b_mod _ _ (by omega)]; simp
      have hne : r5 ≠ (r5 + 1 + r6) % W := by
        rcases (by omega : W = 2 ∨ W = 3) with rfl | rfl <;> omega
      refine ⟨.since r5 ((r5 + 1 + r6) % W), S6, ?_, ⟨h5, Nat.mod_lt _ (by omega), hne⟩, p6.mono (by omega), (sm4.trans m5).trans m6⟩
      generalize (r5 + 1 + r6) % W = r7 at *
      simp [b__law_note, e1, e2, e3, e4, e5, e6, hwho, Note.e, show (1 : Int) < (W : Int) by omega, q]
      exact leave_le ((sm4.trans m5).trans m6).1
    · obtain ⟨r5, S5, e5, h5, p5, m5⟩ := r_take (F := F) (n := m) (by omega) l (K + 4) 4 p4 (by omega) (by omega) (by omega)
      rw [c4] at e5
      refine ⟨.came who (1 + r5), S5, ?_, ⟨hok, by omega, by omega⟩, p5.mono (by omega), sm4.trans m5⟩
      simp [b__law_note, e1, e2, e3, e4, e5, hwho, Note.e, show ¬ (1 : Int) < (W : Int) by omega]
      exact leave_le (sm4.trans m5).1
theorem Rule.mono {W : Nat} {ns : List Note} : ∀ {d : Nat} {r : Rule}, r.ok W ns d → r.ok W ns (d + 1)
  | 0, _, h => False.elim h
  | d + 1, .free, h => h
  | d + 1, .who ws, h => h
  | d + 1, .note k lo hi, h => h
  | d + 1, .mine k, h => h
  | d + 1, .not r, h => Rule.mono (d := d) h
  | d + 1, .both a b, h => ⟨Rule.mono (d := d) h.1, Rule.mono (d := d) h.2⟩
  | d + 1, .either a b, h => ⟨Rule.mono (d := d) h.1, Rule.mono (d := d) h.2⟩
/-- turns of which each draws -/
theorem lcGo_st {α β : Type} {f : Val → Store → R (Option Val)} (e : α → Val) (g : β → Val) (P : α → β → Prop) (J : Nat → Store → Prop) (N : Nat) : ∀ (xs : List α) (k : Nat) (S : Store), k + xs.length ≤ N → J k S → (∀ x ∈ xs, ∀ k S, k < N → J k S → ∃ b S', f (e x) S = .ok (some (g b)) S' ∧ P x b ∧ J (k + 1) S') → ∃ (bs : List β) (S' : Store), lcGo f (xs.map e) S = .ok (bs.map g) S' ∧ (∀ b ∈ bs, ∃ x ∈ xs, P x b) ∧ bs.length = xs.length ∧ J (k + xs.length) S'
  | [], k, S, _, h0, _ => ⟨[], S, rfl, (fun b hb => absurd hb (by simp)), rfl, h0⟩
  | x :: xs, k, S, hN, h0, h => by
    rw [List.length_cons] at hN
    obtain ⟨b, S1, e1, p1, j1⟩ := h x (by simp) k S (by omega) h0
    obtain ⟨bs, S2, e2, p2, l2, j2⟩ := lcGo_st e g P J N xs (k + 1) S1 (by omega) j1 fun y hy => h y (by simp [hy])
    refine ⟨b :: bs, S2, ?_, fun c hc => ?_, by simp [l2], by rw [List.length_cons, show k + (xs.length + 1) = k + 1 + xs.length by omega]; exact j2⟩
    · simp only [List.map_cons, lcGo, e1, R.bind_ok, e2]
    · rcases List.mem_cons.mp hc with rfl | hc
      · exact ⟨x, by simp, p1⟩
      · obtain ⟨y, hy, hp⟩ := p2 c hc
        exact ⟨y, by simp [hy], hp⟩
/-- turns of which each draws whether -/
theorem lcGo_sub {α : Type} {f : Val → Store → R (Option Val)} (e g : α → Val) (J : Nat → Store → Prop) (N : Nat) : ∀ (xs : List α) (k : Nat) (S : Store), k + xs.length ≤ N → J k S → (∀ x ∈ xs, ∀ k S, k < N → J k S → ∃ (c : Bool) (S' : Store), f (e x) S = .ok (if c then some (g x) else none) S' ∧ J (k + 1) S') → ∃ (bs : List α) (S' : Store), lcGo f (xs.map e) S = .ok (bs.map g) S' ∧ bs.Sublist xs ∧ J (k + xs.length) S'
  | [], k, S, _, h0, _ => ⟨[], S, rfl, List.Sublist.refl _, h0⟩
  | x :: xs, k, S, hN, h0, h => by
    rw [List.length_cons] at hN
    obtain ⟨c, S1, e1, j1⟩ := h x (by simp) k S (by omega) h0
    obtain ⟨bs, S2, e2, p2, j2⟩ := lcGo_sub e g J N xs (k + 1) S1 (by omega) j1 fun y hy => h y (by simp [hy])
    have hj : J (k + (x :: xs).length) S2 := by rw [List.length_cons, show k + (xs.length + 1) = k + 1 + xs.length by omega]; exact j2
    cases c with
    | true => exact ⟨x :: bs, S2, by simp only [List.map_cons, lcGo, e1, R.bind_ok, e2]; rfl, p2.cons₂ x, hj⟩
    | false => exact ⟨bs, S2, by simp only [List.map_cons, lcGo, e1, R.bind_ok, e2]; rfl, p2.cons x, hj⟩
def isMark : Note → Bool
  | .last => true
  | .first => true
  | _ => false
/-- what draws of a rule cost -/
def costR : Nat → Nat
  | 0 => 0
  | d + 1 => 2 * costR d + 8
theorem note_shp (n : Nat) (nt : Note) : Val.shp (n + 1) nt.e = true := by cases nt <;> simp [Note.e]
theorem shp_notes (n : Nat) (ns : List Note) : Val.shpAll (n + 1) (ns.map Note.e) = true := by
  induction ns with
  | nil => simp
  | cons x l ih => simp [ih, note_shp]
theorem eqvAll_nil {α : Type} (e : α → Val) (l : List α) : Val.eqvAll (l.map e) [] = l.isEmpty := by cases l <;> rfl
theorem r_law_rule (W : Nat) (ns : List Note) (hns : ∀ x ∈ ns, x.ok W) (hl : ns.length ≤ 4) (l : Nat) (hW : 1 ≤ W) (hW3 : W ≤ 3) (d n K : Nat) (S : Store) (hn : d + 3 ≤ n) (hp : Pot S l K) (hK : K + costR (d + 1) ≤ lim) : ∃ (r : Rule) (S' : Store), run TBL F n j__law_rule [.loc l, .int (W : Int), eNotes ns, .int ((d : Int) + 1)] S = .ok r.e S' ∧ r.ok W ns (d + 1) ∧ Pot S' l (K + costR (d + 1)) ∧ Sm l S S' := by
  obtain ⟨m, rfl⟩ := succ_of (show 1 ≤ n by omega)
  rw [run__law_rule]
  have hcost : costR (d + 1) = 2 * costR d + 8 := rfl
  obtain ⟨way, S1, e1, h1, p1, m1⟩ := r_take (F := F) (n := m) (by omega) l K 12 hp (by omega) (by omega) (by omega)
  rw [show ((12 : Nat) : Int) = 12 from rfl] at e1
  by_cases hc : 1 ≤ d ∧ way < 3
  · obtain ⟨d, rfl⟩ := succ_of hc.1
    have hcost2 : costR (d + 1) = 2 * costR d + 8 := rfl
    obtain ⟨ra, S2, e2, h2, p2, m2⟩ := r_law_rule W ns hns hl l hW hW3 d m (K + 1) S1 (by omega) p1 (by omega)
    have g1 : (1 : Int) < ((d + 1 : Nat) : Int) + 1 := by omega
    have g2 : ((d + 1 : Nat) : Int) + 1 - 1 = (d : Int) + 1 := by omega
    have g3 : (way : Int) < 3 := by omega
    by_cases hw : way = 0
    · subst hw
      refine ⟨.not ra, S2, ?_, h2, p2.mono (by omega), m1.trans m2⟩
      simp only [Int.natCast_add, Int.natCast_one] at g1 g2
      simp [b__law_rule, e1, g1, g2, e2, Rule.e]
      exact leave_le (m1.trans m2).1
    · obtain ⟨rb, S3, e3, h3, p3, m3⟩ := r_law_rule W ns hns hl l hW hW3 d m (K + 1 + costR (d + 1)) S2 (by omega) p2 (by omega)
      simp only [Int.natCast_add, Int.natCast_one] at g1 g2
      rcases (by omega : way = 1 ∨ way = 2) with rfl | rfl
      · refine ⟨.both ra rb, S3, ?_, ⟨h2, h3⟩, p3.mono (by omega), (m1.trans m2).trans m3⟩
        simp [b__law_rule, e1, g1, g2, e2, e3, Rule.e]
        exact leave_le ((m1.trans m2).trans m3).1
      · refine ⟨.either ra rb, S3, ?_, ⟨h2, h3⟩, p3.mono (by omega), (m1.trans m2).trans m3⟩
        simp [b__law_rule, e1, g1, g2, e2, e3, Rule.e]
        exact leave_le ((m1.trans m2).trans m3).1
  · have hcond : (decide ((1 : Int) < (d : Int) + 1) && decide ((way : Int) < 3)) = false := by
      rw [Bool.and_eq_false_iff, decide_eq_false_iff_not, decide_eq_false_iff_not]
      omega
    have hmk : ∀ S, lcGo (lcB (run TBL F m) [("k", 8), ("note", 10)] (.tup (.cons (.v 8) (.cons (.v 10) .nil))) (.cmp .In (.ix (.var 10) (.con (.int 0))) (.tup (.cons (.con (.str "last")) (.cons (.con (.str "first")) .nil)))) (.var 8) [some (.loc l), some (.int (W : Int)), some (eNotes ns), some (.int ((d : Int) + 1)), some (.int (way : Int)), none, none, none, none, none, none, none]) (ns.zipIdx.map fun p => .tup [.int (p.2 : Int), p.1.e]) S = .ok (((ns.zipIdx.filter fun p => isMark p.1).map (·.2)).map iN) S := by
      intro S
      rw [lcGo_filt (fun p : Note × Nat => Val.tup [.int (p.2 : Int), p.1.e]) (fun p => isMark p.1) (fun p => iN p.2), List.map_map]
      · rfl
      · intro p _
        rw [lcB_c]
        cases hq : p.1 <;> simp [Note.e, isMark]
    have hmm : ∀ k ∈ (ns.zipIdx.filter fun p => isMark p.1).map (·.2), ns[k]? = some .last ∨ ns[k]? = some .first := by
      intro k hk
      obtain ⟨p, hp, rfl⟩ := List.mem_map.mp hk
      obtain ⟨hp1, hp2⟩ := List.mem_filter.mp hp
      have := List.mem_zipIdx_iff_getElem?.mp hp1
      cases hq : p.1 with
      | last => rw [this, hq]; exact .inl (Eq.refl _)
      | first => rw [this, hq]; exact .inr (Eq.refl _)
      | _ => rw [hq] at hp2; cases hp2
    have hml : ((ns.zipIdx.filter fun p => isMark p.1).map (·.2)).length ≤ 4 := by
      rw [List.length_map]
      exact Nat.le_trans (List.length_filter_le _ _) (by simpa using hl)
    simp only [eNotes] at hmk ⊢
    generalize (ns.zipIdx.filter fun p => isMark p.1).map (·.2) = ms at *
    have hnil : Val.eqvAll (ms.map iN) [] = ms.isEmpty := eqvAll_nil _ _
    have hnil2 : Val.eqvAll (ns.map Note.e) [] = ns.isEmpty := eqvAll_nil _ _
    have hshp : Val.shpAll 39 (ns.map Note.e) = true := shp_notes 38 ns
    by_cases hA : 9 < way ∧ ms ≠ []
    · have hlen : 0 < ms.length := List.length_pos_iff.mpr hA.2
      obtain ⟨i, S2, e2, h2, p2, m2⟩ := r_take (F := F) (n := m) (by omega) l (K + 1) ms.length p1 (by omega) hlen (by omega)
      have hne : ms.isEmpty = false := by cases ms with
        | nil => exact absurd (Eq.refl _) hA.2
        | cons _ _ => rfl
      have hi : ms[i]? = some (ms.getD i 0) := getD_at h2
      have hmem := hmm _ (List.mem_of_getElem? hi)
      generalize ms.getD i 0 = k at *
      refine ⟨.mine k, S2, ?_, hmem, p2.mono (by omega), m1.trans m2⟩
      have g1 : (9 : Int) < (way : Int) := by omega
      simp [b__law_rule, e1, hcond, enumV_map, hmk, shpAll_ints, hnil, hne, g1, e2, hi, Rule.e]
      exact leave_le (m1.trans m2).1
    · have hA' : (decide ((9 : Int) < (way : Int)) && !ms.isEmpty) = false := by
        rw [Bool.and_eq_false_iff, decide_eq_false_iff_not]
        cases hms : ms with
        | nil => right; rfl
        | cons a b => left; intro h9; exact hA ⟨by omega, by rw [hms]; simp⟩
      by_cases hB : way < 8 ∧ ns ≠ []
      · have hlen : 0 < ns.length := List.length_pos_iff.mpr hB.2
        have hne : ns.isEmpty = false := by cases ns with
          | nil => exact absurd (Eq.refl _) hB.2
          | cons _ _ => rfl
        obtain ⟨k, S2, e2, h2, p2, m2⟩ := r_take (F := F) (n := m) (by omega) l (K + 1) ns.length p1 (by omega) hlen (by omega)
        have hk : ns[k]? = some ns[k] := List.getElem?_eq_getElem h2
        have hok := hns _ (List.mem_of_getElem? hk)
        generalize ns[k] = nt at *
        have hmost : mostIn W nt ≤ 4 := by
          cases nt with
          | came who t => exact hok.2.2
          | round who t => have := hok.2.2; show t - 1 ≤ 4; omega
          | since a b => show 1 ≤ 4; omega
          | here who => cases who with
            | none => show W ≤ 4; omega
            | some x => show 1 ≤ 4; omega
          | last => show W ≤ 4; omega
          | first => show W ≤ 4; omega
        have em : ∀ S, run TBL F m 64 [.int (W : Int), nt.e] S = .ok (.int (mostIn W nt : Nat)) S := fun S => r_law_most (by omega) W nt hok
        obtain ⟨lo, S3, e3, h3, p3, m3⟩ := r_take (F := F) (n := m) (by omega) l (K + 2) (mostIn W nt + 1) p2 (by omega) (by omega) (by omega)
        obtain ⟨hi, S4, e4, h4, p4, m4⟩ := r_take (F := F) (n := m) (by omega) l (K + 3) (mostIn W nt + 1 - lo) p3 (by omega) (by omega) (by omega)
        rw [show ((mostIn W nt + 1 - lo : Nat) : Int) = (mostIn W nt : Int) + 1 - lo by omega] at e4
        rw [Int.natCast_add, Int.natCast_one] at e3
        refine ⟨.note k lo (lo + hi), S4, ?_, ⟨nt, hk, by omega, by omega⟩, p4.mono (by omega), ((m1.trans m2).trans m3).trans m4⟩
        have g1 : (way : Int) < 8 := by omega
        simp [b__law_rule, e1, hcond, enumV_map, hmk, shpAll_ints, hnil, hA', hnil2, hshp, hne, g1, e2, hk, em, e3, e4, Rule.e]
        exact leave_le (((m1.trans m2).trans m3).trans m4).1
      · have hB' : (decide ((way : Int) < 8) && !ns.isEmpty) = false := by
          rw [Bool.and_eq_false_iff, decide_eq_false_iff_not]
          cases hms : ns with
          | nil => right; rfl
          | cons a b => left; intro h9; exact hB ⟨by omega, by rw [hms]; simp⟩
        have hst := lcGo_sub (f := lcB (run TBL F m) [("walker", 11)] (.v 11) (.cmp .Eq (.call 61 (.cons (.var 0) (.cons (.con (.int 2)) .nil))) (.con (.int 0))) (.var 11) [some (.loc l), some (.int (W : Int)), some (.tup (ns.map Note.e)), some (.int ((d : Int) + 1)), some (.int (way : Int)), some (.lst (ms.map iN)), none, none, none, none, none, none]) iN iN (fun k S' => Pot S' l (K + 1 + k) ∧ Sm l S S') W (List.range W) 0 S1 (by simp) ⟨p1, m1⟩ fun x _ k S' hk hJ => by
          obtain ⟨r, S2, e2, h2, p2, m2⟩ := r_take (F := F) (n := m) (by omega) l (K + 1 + k) 2 hJ.1 (by omega) (by omega) (by omega)
          rw [show ((2 : Nat) : Int) = 2 from rfl] at e2
          refine ⟨r == 0, S2, ?_, p2, hJ.2.trans m2⟩
          rw [lcB_c]
          have : ((r : Int) == 0) = (r == 0) := by rw [show (0 : Int) = ((0 : Nat) : Int) from rfl, beq_cast]
          simp [e2, this]
        obtain ⟨ws, S2, e2, hsub, p2, m2⟩ := hst
        have hlt : ∀ x ∈ ws, x < W := fun x hx => List.mem_range.mp (hsub.subset hx)
        have hpw : ws.Pairwise (· < ·) := List.Pairwise.sublist hsub List.pairwise_lt_range
        rw [List.length_range] at p2
        have hnw : Val.eqvAll (ws.map iN) [] = ws.isEmpty := eqvAll_nil _ _
        by_cases hD : ws = [] ∨ 9 < way
        · refine ⟨.free, S2, ?_, trivial, p2.mono (by omega), m2⟩
          have hD' : (ws.isEmpty || decide ((9 : Int) < (way : Int))) = true := by
            rcases hD with h | h
            · rw [h]; rfl
            · rw [decide_eq_true (by omega : (9 : Int) < (way : Int)), Bool.or_true]
          simp [b__law_rule, e1, hcond, enumV_map, hmk, shpAll_ints, hnil, hA', hnil2, hshp, hB', rangeV_nat _ (show W ≤ 1000000 by omega), e2, hnw, hD', Rule.e]
          exact leave_le m2.1
        · have hD' : (ws.isEmpty || decide ((9 : Int) < (way : Int))) = false := by
            rw [decide_eq_false (by omega : ¬ (9 : Int) < (way : Int)), Bool.or_false]
            cases hws : ws with
            | nil => exact absurd (.inl hws) hD
            | cons _ _ => rfl
          refine ⟨.who ws, S2, ?_, ⟨fun h => hD (.inl h), hlt, hpw⟩, p2.mono (by omega), m2⟩
          simp [b__law_rule, e1, hcond, enumV_map, hmk, shpAll_ints, hnil, hA', hnil2, hshp, hB', rangeV_nat _ (show W ≤ 1000000 by omega), e2, hnw, hD', Rule.e, eNs]
          exact leave_le m2.1
termination_by d
end
end Lt
set_option maxHeartbeats 4000000
namespace Lt
open PySem
/-- all but the pot below a length stays -/
def Sxp (l n : Nat) (S S' : Store) : Prop := n ≤ S'.length ∧ ∀ i, i ≠ l → i < n → S'[i]? = S[i]?
theorem Sxp.sm {l n : Nat} {S S1 S2 : Store} (h : Sxp l n S S1) (h2 : Sm l S1 S2) : Sxp l n S S2 := ⟨by rw [h2.1]; exact h.1, fun i hi hn => by rw [h2.2 i hi, h.2 i hi hn]⟩
theorem Sxp.push {l n : Nat} {S S1 : Store} (h : Sxp l n S S1) (o : Ob) : Sxp l n S (S1 ++ [o]) := ⟨by have := h.1; simp; omega, fun i hi hn => by rw [List.getElem?_append_left (by have := h.1; omega), h.2 i hi hn]⟩
theorem Sxp.set {l n : Nat} {S S1 : Store} (h : Sxp l n S S1) (k : Nat) (o : Ob) (hk : n ≤ k) : Sxp l n S (S1.set k o) := ⟨by have := h.1; simpa using this, fun i hi hn => by rw [List.getElem?_set_ne (by omega), h.2 i hi hn]⟩
theorem Pot.push {S : Store} {l K : Nat} (h : Pot S l K) (o : Ob) : Pot (S ++ [o]) l K := by
  obtain ⟨a, b, k, h1, h2, h3⟩ := h
  exact ⟨a, b, k, by rw [List.getElem?_append_left (List.getElem?_eq_some_iff.mp h1).1]; exact h1, h2, h3⟩
theorem Pot.set {S : Store} {l K : Nat} (h : Pot S l K) (k : Nat) (o : Ob) (hk : l ≠ k) : Pot (S.set k o) l K := by
  obtain ⟨a, b, c, h1, h2, h3⟩ := h
  exact ⟨a, b, c, by rw [List.getElem?_set_ne (Ne.symm hk)]; exact h1, h2, h3⟩
theorem Pot.take {S : Store} {l K : Nat} (h : Pot S l K) (n : Nat) (hn : l < n) : Pot (S.take n) l K := by
  obtain ⟨a, b, c, h1, h2, h3⟩ := h
  exact ⟨a, b, c, by rw [List.getElem?_take_of_lt hn]; exact h1, h2, h3⟩
theorem Sxp.take {l : Nat} {S S1 : Store} (h : Sxp l S.length S S1) : Sm l S (S1.take S.length) := by
  refine ⟨by rw [List.length_take]; exact Nat.min_eq_left h.1, fun i hi => ?_⟩
  by_cases c : i < S.length
  · rw [List.getElem?_take_of_lt c, h.2 i hi c]
  · rw [List.getElem?_eq_none_iff.mpr (by rw [List.length_take]; omega), List.getElem?_eq_none_iff.mpr (by omega)]
theorem Sm.ok {l K : Nat} {S S' : Store} (h : Sm l S S') (hS : SOk S) (hp : Pot S' l K) : SOk S' := by
  unfold SOk at hS ⊢
  rw [List.all_eq_true] at hS ⊢
  intro o ho
  obtain ⟨i, hi, e⟩ := List.getElem_of_mem ho
  have e : S'[i]? = some o := by rw [← e]; exact List.getElem?_eq_getElem hi
  rw [h.1]
  by_cases c : i = l
  · subst c
    obtain ⟨a, b, k, h1, _⟩ := hp
    rw [h1] at e
    have e := Option.some.inj e
    subst e
    rfl
  · rw [h.2 i c] at e
    exact hS o (List.mem_of_getElem? e)
theorem leave_cut {l K : Nat} {v : Val} {S S1 : Store} (hS : SOk S) (h : Sxp l S.length S S1) (hl : l < S.length) (hp : Pot S1 l K) (hv : v.cl = true) : leave .pure S.length (.ok v S1) = .ok v (S1.take S.length) := by
  have h1 := h.take
  have h2 := h1.ok hS (hp.take _ hl)
  unfold leave
  by_cases c : S1.length ≤ S.length
  · simp only [if_pos c]
    rw [List.take_of_length_le c]
  · have e : frzV S.length S1 v = v := by cases v <;> first | rfl | cases hv
    simp only [if_neg c, e, Val.cl_blw _ v hv, Bool.true_and]
    refine if_pos ?_
    unfold SOk at h2
    rw [h1.1] at h2
    exact h2
section
variable {F n : Nat} {S : Store}
theorem minI' (a b : Nat) : (if b < a then (b : Int) else (a : Int)) = ((min a b : Nat) : Int) := by
  by_cases h : b < a
  · rw [if_pos h, Nat.min_eq_right (by omega)]
  · rw [if_neg h, Nat.min_eq_left (by omega)]
theorem free_ok (W : Nat) (ns : List Note) (d : Nat) : (Rule.free).ok W ns (d + 1) := trivial
theorem door_shp (W : Nat) (ns : List Note) (ds : List (Nat × Rule)) (h : ∀ d ∈ ds, d.2.ok W ns 4) : Val.shpAll 39 (ds.map eDoor) = true := by
  induction ds with
  | nil => simp
  | cons x l ih =>
    have h1 := Rule.shp W ns 4 x.2 (h x (by simp)) 38 (by omega)
    simp [eDoor, h1, ih fun d hd => h d (by simp [hd])]
theorem r_room (hn : 8 ≤ n) (l K W many room R N left : Nat) (n0 : Nat) (S S' : Store) (hl : l < n0) (hx : Sxp l n0 S S') (hn0 : n0 < S'.length) (rs : List Room) (hrs : S'[n0]? = some (.lst (rs.map eRoom))) (hrl : rs.length ≤ 10) (hp : Pot S' l K) (hK : K + 300 ≤ lim) (hW : 1 ≤ W) (hW3 : W ≤ 3) (hm : 2 ≤ many) (hm6 : many ≤ 6) (hroom : room < many) (hleft : left ≤ 8) (x4 x8 x9 x10 x11 x12 x13 x14 x15 : Option Val) (Q : SR → Prop)
    (h : ∀ (r : Room) (S2 : Store) (x8 x9 x10 x11 x12 x13 x14 x15 : Option Val), RoomOk W many room r → r.1.length ≤ left → Sxp l n0 S S2 → n0 < S2.length → S2[n0]? = some (.lst ((rs ++ [r]).map eRoom)) → Pot S2 l (K + 300) → Q (.next [some (.loc l), some (iN R), some (iN N), some (.loc n0), some (iN room), some (iN many), some (iN W), some (.int ((left : Int) - (r.1.length : Int))), x8, x9, x10, x11, x12, x13, x14, x15] S2)) :
    Q (forB (run TBL F n) F (.v 4) bf__law_house_1 (iN room) [some (.loc l), some (iN R), some (iN N), some (.loc n0), x4, some (iN many), some (iN W), some (iN left), x8, x9, x10, x11, x12, x13, x14, x15] S') := by
  -- how many notes
  obtain ⟨r1, S1, e1, h1, p1, m1⟩ := r_take (F := F) (n := n) (by omega) l K 6 hp (by omega) (by omega) (by omega)
  rw [show ((6 : Nat) : Int) = 6 from rfl] at e1
  obtain ⟨t1, ht1, ht1b⟩ : ∃ t : Nat, L2.atI [Val.int 1, .int 2, .int 0, .int 3, .int 1, .int 4] (r1 : Int) = some (iN t) ∧ t ≤ 4 := by
    rw [atI_nat]
    rcases (by omega : r1 = 0 ∨ r1 = 1 ∨ r1 = 2 ∨ r1 = 3 ∨ r1 = 4 ∨ r1 = 5) with rfl | rfl | rfl | rfl | rfl | rfl
    · exact ⟨1, rfl, by omega⟩
    · exact ⟨2, rfl, by omega⟩
    · exact ⟨0, rfl, by omega⟩
    · exact ⟨3, rfl, by omega⟩
    · exact ⟨1, rfl, by omega⟩
    · exact ⟨4, rfl, by omega⟩
  have hmin := minI' left t1
  have hmin1 : min left t1 ≤ left := Nat.min_le_left _ _
  have hmin2 : min left t1 ≤ 4 := Nat.le_trans (Nat.min_le_right _ _) ht1b
  generalize min left t1 = t at *
  obtain ⟨ns, S2, e2, hns, hnl, p2, m2⟩ := lcGo_st (f := lcB (run TBL F n) [("turn", 13)] (.v 13) .yes (.call 63 (.cons (.var 0) (.cons (.var 6) .nil))) [some (.loc l), some (iN R), some (iN N), some (.loc n0), some (iN room), some (iN many), some (iN W), some (iN left), x8, x9, x10, x11, x12, x13, x14, x15]) iN Note.e (fun _ nt => nt.ok W) (fun k S' => Pot S' l (K + 1 + 8 * k) ∧ Sm l S1 S') t (List.range t) 0 S1 (by simp) ⟨p1, Sm.rfl⟩ fun x _ k S' hk hJ => by
    obtain ⟨nt, S2, e2, h2, p2, m2⟩ := r_law_note (F := F) (n := n) (by omega) l (K + 1 + 8 * k) W hJ.1 (by omega) hW hW3
    exact ⟨nt, S2, by simp [e2], h2, p2.mono (by omega), hJ.2.trans m2⟩
  have hns : ∀ x ∈ ns, x.ok W := fun x hx => by obtain ⟨_, _, h⟩ := hns x hx; exact h
  rw [List.length_range] at hnl
  rw [List.length_range, Nat.zero_add] at p2
  -- others
  have hoth : ∀ (x : Val) S, lcGo (lcB (run TBL F n) [("one", 12)] (.v 12) (.cmp .NotEq (.var 12) (.var 4)) (.var 12) [some (.loc l), some (iN R), some (iN N), some (.loc n0), some (iN room), some (iN many), some (iN W), some x, some (.tup (ns.map Note.e)), x9, x10, x11, x12, x13, x14, x15]) ((List.range many).map iN) S = .ok (((List.range many).filter fun i => i != room).map iN) S := fun x S => by
    rw [lcGo_filt iN (fun i => i != room) iN]
    intro i _
    rw [lcB_c]
    simp
  have hol : 0 < ((List.range many).filter fun i => i != room).length := by
    refine List.length_pos_iff.mpr fun he => ?_
    have hmem : ∀ i < many, i = room := fun i hi => by
      by_cases c : i = room
      · exact c
      · have : i ∈ (List.range many).filter fun i => i != room := List.mem_filter.mpr ⟨List.mem_range.mpr hi, by simpa using c⟩
        rw [he] at this
        cases this
    have := hmem 0 (by omega)
    have := hmem 1 (by omega)
    omega
  have hol2 : ((List.range many).filter fun i => i != room).length ≤ 6 := Nat.le_trans (List.length_filter_le _ _) (by simp; omega)
  have hom : ∀ i ∈ (List.range many).filter (fun i => i != room), i < many ∧ i ≠ room := fun i hi => by
    obtain ⟨q1, q2⟩ := List.mem_filter.mp hi
    exact ⟨List.mem_range.mp q1, by simpa using q2⟩
  generalize (List.range many).filter (fun i => i != room) = others at *
  -- how many doors
  obtain ⟨r3, S3, e3, h3, p3, m3⟩ := r_take (F := F) (n := n) (by omega) l (K + 1 + 8 * t) 8 p2 (by omega) (by omega) (by omega)
  rw [show ((8 : Nat) : Int) = 8 from rfl] at e3
  obtain ⟨t3, ht3, ht3b⟩ : ∃ t : Nat, L2.atI [Val.int 1, .int 2, .int 3, .int 2, .int 4, .int 1, .int 2, .int 0] (r3 : Int) = some (iN t) ∧ t ≤ 4 := by
    rw [atI_nat]
    rcases (by omega : r3 = 0 ∨ r3 = 1 ∨ r3 = 2 ∨ r3 = 3 ∨ r3 = 4 ∨ r3 = 5 ∨ r3 = 6 ∨ r3 = 7) with rfl | rfl | rfl | rfl | rfl | rfl | rfl | rfl
    · exact ⟨1, rfl, by omega⟩
    · exact ⟨2, rfl, by omega⟩
    · exact ⟨3, rfl, by omega⟩
    · exact ⟨2, rfl, by omega⟩
    · exact ⟨4, rfl, by omega⟩
    · exact ⟨1, rfl, by omega⟩
    · exact ⟨2, rfl, by omega⟩
    · exact ⟨0, rfl, by omega⟩
  have hcost : costR 3 = 56 := rfl
  obtain ⟨tos, S4, e4, htos, htl, p4, m4⟩ := lcGo_st (f := lcB (run TBL F n) [("turn", 13)] (.v 13) .yes (.ix (.var 9) (.call 61 (.cons (.var 0) (.cons (.blt .len (.cons (.var 9) .nil)) .nil)))) [some (.loc l), some (iN R), some (iN N), some (.loc n0), some (iN room), some (iN many), some (iN W), some (.int ((left : Int) - (ns.length : Int))), some (.tup (ns.map Note.e)), some (.lst (others.map iN)), x10, x11, x12, x13, x14, x15]) iN iN (fun _ to => to < many ∧ to ≠ room) (fun k S' => Pot S' l (K + 1 + 8 * t + 1 + k) ∧ Sm l S3 S') t3 (List.range t3) 0 S3 (by simp) ⟨p3, Sm.rfl⟩ fun x _ k S' hk hJ => by
    obtain ⟨r, S2, e2, h2, p2, m2⟩ := r_take (F := F) (n := n) (by omega) l (K + 1 + 8 * t + 1 + k) others.length hJ.1 (by omega) hol (by omega)
    have hg : others[r]? = some (others.getD r 0) := getD_at h2
    have hmem := hom _ (List.mem_of_getElem? hg)
    generalize others.getD r 0 = to at *
    exact ⟨to, S2, by simp [e2, hg], hmem, p2.mono (by omega), hJ.2.trans m2⟩
  have htos : ∀ x ∈ tos, x < many ∧ x ≠ room := fun x hx => by obtain ⟨_, _, h⟩ := htos x hx; exact h
  rw [List.length_range] at htl
  rw [List.length_range, Nat.zero_add] at p4
  -- doors
  obtain ⟨ds, S5, e5, hds, hdl, p5, m5⟩ := lcGo_st (f := lcB (run TBL F n) [("to", 14)] (.v 14) .yes (.tup (.cons (.var 14) (.cons (.call 65 (.cons (.var 0) (.cons (.var 6) (.cons (.var 8) (.cons (.con (.int 3)) .nil))))) .nil))) [some (.loc l), some (iN R), some (iN N), some (.loc n0), some (iN room), some (iN many), some (iN W), some (.int ((left : Int) - (ns.length : Int))), some (.tup (ns.map Note.e)), some (.lst (others.map iN)), some (.lst (tos.map iN)), x11, x12, x13, x14, x15]) iN eDoor (fun to d => d.1 = to ∧ d.2.ok W ns 4) (fun k S' => Pot S' l (K + 1 + 8 * t + 1 + t3 + 56 * k) ∧ Sm l S4 S') t3 tos 0 S4 (by omega) ⟨p4, Sm.rfl⟩ fun x _ k S' hk hJ => by
    obtain ⟨ru, S2, e2, h2, p2, m2⟩ := r_law_rule (F := F) W ns hns (by omega) l hW hW3 2 n (K + 1 + 8 * t + 1 + t3 + 56 * k) S' (by omega) hJ.1 (by rw [hcost]; omega)
    rw [hcost] at p2
    have c3 : ((2 : Nat) : Int) + 1 = 3 := rfl
    rw [c3] at e2
    unfold eNotes at e2
    exact ⟨(x, ru), S2, by simp [e2, eDoor], ⟨Eq.refl _, Rule.mono h2⟩, p2.mono (by omega), hJ.2.trans m2⟩
  have hds : ∀ d ∈ ds, d.1 < many ∧ d.1 ≠ room ∧ d.2.ok W ns 4 := fun d hd => by
    obtain ⟨x, hx, h1, h2⟩ := hds d hd
    rw [h1]
    exact ⟨(htos x hx).1, (htos x hx).2, h2⟩
  rw [Nat.zero_add] at p5
  have hx5 : Sxp l n0 S S5 := hx.sm ((((m1.trans m2).trans m3).trans m4).trans m5)
  have hln : l ≠ n0 := by omega
  have hrs5 : S5[n0]? = some (.lst (rs.map eRoom)) := by
    have := ((((m1.trans m2).trans m3).trans m4).trans m5).2 n0 (Ne.symm hln)
    rw [this, hrs]
  have hl5 : n0 < S5.length := (List.getElem?_eq_some_iff.mp hrs5).1
  have hshp : Val.shpAll 39 (ds.map eDoor) = true := door_shp W ns ds fun d hd => (hds d hd).2.2
  have hdnil : Val.eqvAll (ds.map eDoor) [] = ds.isEmpty := eqvAll_nil _ _
  have hdl4 : ds.length ≤ 4 := by omega
  have hx6 := hx5.push (.lst (ds.map eDoor))
  have p6 := p5.push (.lst (ds.map eDoor))
  have hrs6 : (S5 ++ [Ob.lst (ds.map eDoor)])[n0]? = some (.lst (rs.map eRoom)) := by rw [List.getElem?_append_left hl5]; exact hrs5
  have hd6 : (S5 ++ [Ob.lst (ds.map eDoor)])[S5.length]? = some (.lst (ds.map eDoor)) := by simp
  have hl6 : (S5 ++ [Ob.lst (ds.map eDoor)]).length = S5.length + 1 := by simp
  have hn05 := hx5.1
  have fin : ∀ (S7 : Store) (ds' : List (Nat × Rule)), (∀ d ∈ ds', d.1 < many ∧ d.1 ≠ room ∧ d.2.ok W ns 4) → ds'.length ≤ 4 → Sxp l n0 S S7 → S7[n0]? = some (.lst (rs.map eRoom)) → Pot S7 l (K + 299) →
      RoomOk W many room (ns, ds') ∧ Sxp l n0 S (S7.set n0 (.lst (rs.map eRoom ++ [eRoom (ns, ds')]))) ∧ n0 < (S7.set n0 (.lst (rs.map eRoom ++ [eRoom (ns, ds')]))).length ∧ (S7.set n0 (.lst (rs.map eRoom ++ [eRoom (ns, ds')])))[n0]? = some (.lst ((rs ++ [(ns, ds')]).map eRoom)) ∧ Pot (S7.set n0 (.lst (rs.map eRoom ++ [eRoom (ns, ds')]))) l (K + 300) := by
    intro S7 ds' q1 q2 q3 q4 q5
    have hlt := (List.getElem?_eq_some_iff.mp q4).1
    exact ⟨⟨by show ns.length ≤ 4; omega, hns, q2, q1⟩, q3.set n0 _ (Nat.le_refl _), by rw [List.length_set]; exact hlt, by rw [List.getElem?_set_self hlt]; simp, (q5.set n0 _ hln).mono (by omega)⟩
  have app : ∀ (S7 : Store) (v : Val), S7[n0]? = some (.lst (rs.map eRoom)) → mthV .append (.loc n0) [v] S7 = .ok .non (S7.set n0 (.lst (rs.map eRoom ++ [v]))) := fun S7 v q => mth_app _ _ _ _ q (by rw [sz, List.length_map]; omega)
  have rg1 := rangeV_nat t (by omega)
  have rg2 := rangeV_nat many (by omega)
  have rg3 := rangeV_nat t3 (by omega)
  by_cases hemp : ds = []
  · obtain ⟨f1, f2, f3, f4, f5⟩ := fin _ ds hds hdl4 hx6 hrs6 (p6.mono (by omega))
    have hE : ds.isEmpty = true := by rw [hemp]; rfl
    have e : forB (run TBL F n) F (.v 4) bf__law_house_1 (iN room) [some (.loc l), some (iN R), some (iN N), some (.loc n0), x4, some (iN many), some (iN W), some (iN left), x8, x9, x10, x11, x12, x13, x14, x15] S' = .next [some (.loc l), some (iN R), some (iN N), some (.loc n0), some (iN room), some (iN many), some (iN W), some (.int ((left : Int) - (ns.length : Int))), some (.tup (ns.map Note.e)), some (.lst (others.map iN)), some (.lst (tos.map iN)), some (.loc S5.length), x12, x13, x14, x15] ((S5 ++ [Ob.lst (ds.map eDoor)]).set n0 (.lst (rs.map eRoom ++ [eRoom (ns, ds)]))) := by
      simp only [iN] at *
      simp [bf__law_house_1, e1, ht1, hmin, rg1, e2, rg2, hoth, e3, ht3, rg3, e4, e5, hshp, hdnil, hE, i_loc _ hrs6, app _ _ hrs6, eRoom, eNotes, eDoors]
    rw [e]
    exact h (ns, ds) _ _ _ _ _ _ _ _ _ f1 (by show ns.length ≤ left; omega) f2 f3 f4 f5
  · have hE : ds.isEmpty = false := by cases hds' : ds with
      | nil => exact absurd hds' hemp
      | cons _ _ => rfl
    have hpos : 0 < ds.length := List.length_pos_iff.mpr hemp
    obtain ⟨r7, S7, e7, h7, p7, m7⟩ := r_take (F := F) (n := n) (by omega) l (K + 1 + 8 * t + 1 + t3 + 56 * tos.length) 2 p6 (by omega) (by omega) (by omega)
    rw [show ((2 : Nat) : Int) = 2 from rfl] at e7
    have hrs7 : S7[n0]? = some (.lst (rs.map eRoom)) := by rw [m7.2 n0 (Ne.symm hln), hrs6]
    have hld : S5.length ≠ l := by omega
    have hd7 : S7[S5.length]? = some (.lst (ds.map eDoor)) := by rw [m7.2 _ hld, hd6]
    have hx7 := hx6.sm m7
    rcases (by omega : r7 = 0 ∨ r7 = 1) with rfl | rfl
    · have hlast : ds[ds.length - 1]? = some (ds.getD (ds.length - 1) (0, .free)) := by
        rw [List.getD_eq_getElem?_getD, List.getElem?_eq_getElem (by omega)]; rfl
      have hdl := hds _ (List.mem_of_getElem? hlast)
      generalize ds.getD (ds.length - 1) (0, .free) = dl at *
      have hset : S7.set S5.length (.lst ((ds.map eDoor).set (ds.length - 1) (eDoor (dl.1, .free)))) = S7.set S5.length (.lst ((ds.set (ds.length - 1) (dl.1, .free)).map eDoor)) := by rw [List.map_set]
      have hsub : ∀ env, subL (.loc S5.length) (.int (-1)) (eDoor (dl.1, .free)) env S7 = .next env (S7.set S5.length (.lst ((ds.set (ds.length - 1) (dl.1, .free)).map eDoor))) := fun env => by
        rw [subL_m1 env S7 _ _ _ hd7 (by rw [List.length_map]; exact hpos), List.length_map, hset]
      have hix : ixV S7 (.loc S5.length) (.int (-1)) = some (eDoor dl) := by
        rw [x_ixl _ _ _ _ hd7, atI_m1, List.length_map, List.getElem?_map, hlast]; rfl
      have hds2 : ∀ d ∈ ds.set (ds.length - 1) (dl.1, .free), d.1 < many ∧ d.1 ≠ room ∧ d.2.ok W ns 4 := fun d hd => by
        rcases List.mem_or_eq_of_mem_set hd with hd | rfl
        · exact hds d hd
        · exact ⟨hdl.1, hdl.2.1, trivial⟩
      have hdl2 : (ds.set (ds.length - 1) (dl.1, Rule.free)).length ≤ 4 := by rw [List.length_set]; exact hdl4
      generalize ds.set (ds.length - 1) (dl.1, .free) = ds2 at *
      have hl7 : S5.length < S7.length := (List.getElem?_eq_some_iff.mp hd7).1
      have hd8 : (S7.set S5.length (.lst (ds2.map eDoor)))[S5.length]? = some (.lst (ds2.map eDoor)) := List.getElem?_set_self hl7
      have hrs8 : (S7.set S5.length (.lst (ds2.map eDoor)))[n0]? = some (.lst (rs.map eRoom)) := by rw [List.getElem?_set_ne (by omega)]; exact hrs7
      obtain ⟨f1, f2, f3, f4, f5⟩ := fin _ ds2 hds2 hdl2 (hx7.set S5.length (.lst (ds2.map eDoor)) hn05) hrs8 ((p7.set S5.length _ (Ne.symm hld)).mono (by omega))
      have e : forB (run TBL F n) F (.v 4) bf__law_house_1 (iN room) [some (.loc l), some (iN R), some (iN N), some (.loc n0), x4, some (iN many), some (iN W), some (iN left), x8, x9, x10, x11, x12, x13, x14, x15] S' = .next [some (.loc l), some (iN R), some (iN N), some (.loc n0), some (iN room), some (iN many), some (iN W), some (.int ((left : Int) - (ns.length : Int))), some (.tup (ns.map Note.e)), some (.lst (others.map iN)), some (.lst (tos.map iN)), some (.loc S5.length), x12, x13, x14, x15] ((S7.set S5.length (.lst (ds2.map eDoor))).set n0 (.lst (rs.map eRoom ++ [eRoom (ns, ds2)]))) := by
        simp only [iN] at *
        have hsub' := hsub
        simp only [eDoor, Rule.e] at hsub'
        simp [bf__law_house_1, e1, ht1, hmin, rg1, e2, rg2, hoth, e3, ht3, rg3, e4, e5, hshp, hdnil, hE, e7, hix, eDoor, hsub', i_loc _ hrs8, app _ _ hrs8, k_tupl _ _ _ hd8, eRoom, eNotes, eDoors]
      rw [e]
      exact h (ns, ds2) _ _ _ _ _ _ _ _ _ f1 (by show ns.length ≤ left; omega) f2 f3 f4 f5
    · obtain ⟨f1, f2, f3, f4, f5⟩ := fin _ ds hds hdl4 hx7 hrs7 (p7.mono (by omega))
      have e : forB (run TBL F n) F (.v 4) bf__law_house_1 (iN room) [some (.loc l), some (iN R), some (iN N), some (.loc n0), x4, some (iN many), some (iN W), some (iN left), x8, x9, x10, x11, x12, x13, x14, x15] S' = .next [some (.loc l), some (iN R), some (iN N), some (.loc n0), some (iN room), some (iN many), some (iN W), some (.int ((left : Int) - (ns.length : Int))), some (.tup (ns.map Note.e)), some (.lst (others.map iN)), some (.lst (tos.map iN)), some (.loc S5.length), x12, x13, x14, x15] (S7.set n0 (.lst (rs.map eRoom ++ [eRoom (ns, ds)]))) := by
        simp only [iN] at *
        simp [bf__law_house_1, e1, ht1, hmin, rg1, e2, rg2, hoth, e3, ht3, rg3, e4, e5, hshp, hdnil, hE, e7, i_loc _ hrs7, app _ _ hrs7, k_tupl _ _ _ hd7, eRoom, eNotes, eDoors]
      rw [e]
      exact h (ns, ds) _ _ _ _ _ _ _ _ _ f1 (by show ns.length ≤ left; omega) f2 f3 f4 f5
end
end Lt
set_option maxHeartbeats 4000000
namespace Lt
open PySem
section
variable {F n : Nat} {S : Store}
theorem r_law_house (hn : 9 ≤ n) (hS : SOk S) (l K R N : Nat) (hl : l < S.length) (hp : Pot S l K) (hK : K + 2000 ≤ lim) (hR : 2 ≤ R) (hR6 : R ≤ 6) (hN : N ≤ 8) : ∃ (h : House) (S' : Store), run TBL F n j__law_house [.loc l, .int (R : Int), .int (N : Int)] S = .ok (eHouse h) S' ∧ HouseOk h ∧ h.1.length ≤ R ∧ Pot S' l (K + 2000) ∧ Sm l S S' := by
  obtain ⟨m, rfl⟩ := succ_of (show 1 ≤ n by omega)
  rw [run__law_house]
  obtain ⟨r1, S1, e1, h1, p1, m1⟩ := r_take (F := F) (n := m) (by omega) l K (R - 1) hp (by omega) (by omega) (by omega)
  obtain ⟨r2, S2, e2, h2, p2, m2⟩ := r_take (F := F) (n := m) (by omega) l (K + 1) 3 p1 (by omega) (by omega) (by omega)
  rw [show ((R - 1 : Nat) : Int) = (R : Int) - 1 by omega] at e1
  rw [show ((3 : Nat) : Int) = 3 from rfl] at e2
  have sm2 := m1.trans m2
  have hl2 : S2.length = S.length := sm2.1
  obtain ⟨many, hmany⟩ : ∃ many, many = 2 + r1 := ⟨_, rfl⟩
  obtain ⟨W, hW⟩ : ∃ W, W = 1 + r2 := ⟨_, rfl⟩
  have q1 : (2 : Int) + (r1 : Int) = (many : Int) := by omega
  have q2 : (1 : Int) + (r2 : Int) = (W : Int) := by omega
  have hx0 : Sxp l S.length S (S2 ++ [.lst []]) := by
    have : Sxp l S.length S S2 := ⟨by omega, fun i hi _ => sm2.2 i hi⟩
    exact this.push _
  have key := forGo_inv (f := forB (run TBL F m) F (.v 4) bf__law_house_1) iN (fun k env S' => ∃ (left : Nat) (rs : List Room) (x4 x8 x9 x10 x11 x12 x13 x14 x15 : Option Val), env = [some (.loc l), some (iN R), some (iN N), some (.loc S.length), x4, some (iN many), some (iN W), some (iN left), x8, x9, x10, x11, x12, x13, x14, x15] ∧ Sxp l S.length S S' ∧ S.length < S'.length ∧ S'[S.length]? = some (.lst (rs.map eRoom)) ∧ rs.length = k ∧ Pot S' l (K + 2 + 300 * k) ∧ (∀ (i : Nat) (r : Room), rs[i]? = some r → RoomOk W many i r) ∧ left + (rs.map fun r => r.1.length).sum = N) (fun _ _ => False) (List.range many) 0 (env := [some (.loc l), some (iN R), some (iN N), some (.loc S.length), none, some (iN many), some (iN W), some (iN N), none, none, none, none, none, none, none, none]) (S := S2 ++ [.lst []]) ⟨N, [], none, none, none, none, none, none, none, none, none, rfl, hx0, by simp; omega, by rw [← hl2]; simp, rfl, p2.push _, fun i r hi => by simp at hi, by simp⟩ (by
    rintro k x env S' hk ⟨left, rs, x4, x8, x9, x10, x11, x12, x13, x14, x15, rfl, hx, hlt, hrs, hrl, hp', hok, hsum⟩
    have hk' := List.getElem?_eq_some_iff.mp hk
    obtain ⟨hk1, hk2⟩ := hk'
    simp at hk1 hk2
    subst hk2
    rw [Nat.zero_add] at hrl hp'
    refine r_room (F := F) (n := m) (by omega) l (K + 2 + 300 * k) W many k R N left S.length S S' hl hx hlt rs hrs (by omega) hp' (by omega) (by omega) (by omega) (by omega) (by omega) hk1 (by omega) x4 x8 x9 x10 x11 x12 x13 x14 x15 _ ?_
    intro r S3 y8 y9 y10 y11 y12 y13 y14 y15 ho hle hx3 hlt3 hrs3 hp3
    refine ⟨left - r.1.length, rs ++ [r], some (iN k), y8, y9, y10, y11, y12, y13, y14, y15, ?_, hx3, hlt3, hrs3, by simp; omega, hp3.mono (by omega), ?_, ?_⟩
    · rw [show ((left : Int) - (r.1.length : Int)) = ((left - r.1.length : Nat) : Int) by omega]
    · intro i r' hi
      by_cases c : i < rs.length
      · rw [List.getElem?_append_left c] at hi
        exact hok i r' hi
      · rw [List.getElem?_append_right (by omega)] at hi
        have hi0 : i - rs.length = 0 := by
          have := (List.getElem?_eq_some_iff.mp hi).1
          simp at this
          omega
        rw [hi0] at hi
        have : r = r' := Option.some.inj hi
        rw [← this, show i = k by omega]
        exact ho
    · rw [List.map_append, List.sum_append]
      simp
      omega)
  rw [List.length_range, Nat.zero_add] at key
  refine FOk.elim key (fun r => (forGo (forB (run TBL F m) F (.v 4) bf__law_house_1) ((List.range many).map iN) [some (.loc l), some (iN R), some (iN N), some (.loc S.length), none, some (iN many), some (iN W), some (iN N), none, none, none, none, none, none, none, none] (S2 ++ [.lst []])) = r → _) ?_ ?_ rfl
  · rintro env S3 ⟨left, rs, x4, x8, x9, x10, x11, x12, x13, x14, x15, rfl, hx, hlt, hrs, hrl, hp', hok, hsum⟩ hfor
    obtain ⟨st, S4, e4, hst, hstl, p4, m4⟩ := lcGo_st (f := lcB (run TBL F m) [("walker", 15)] (.v 15) .yes (.call 61 (.cons (.var 0) (.cons (.var 5) .nil))) [some (.loc l), some (iN R), some (iN N), some (.loc S.length), x4, some (iN many), some (iN W), some (iN left), x8, x9, x10, x11, x12, x13, x14, x15]) iN iN (fun _ to => to < many) (fun k S' => Pot S' l (K + 2 + 300 * many + k) ∧ Sm l S3 S') W (List.range W) 0 S3 (by simp) ⟨hp', Sm.rfl⟩ fun x _ k S' hk hJ => by
      obtain ⟨r, S2, e2, h2, p2, m2⟩ := r_take (F := F) (n := m) (by omega) l (K + 2 + 300 * many + k) many hJ.1 (by omega) (by omega) (by omega)
      exact ⟨r, S2, by simp [e2], h2, p2, hJ.2.trans m2⟩
    have hst : ∀ x ∈ st, x < many := fun x hx => by obtain ⟨_, _, h⟩ := hst x hx; exact h
    rw [List.length_range] at hstl
    rw [List.length_range, Nat.zero_add] at p4
    have hx4 := hx.sm m4
    refine ⟨(rs, st), S4.take S.length, ?_, ⟨by show 2 ≤ rs.length; omega, by show rs.length ≤ 6; omega, by show 1 ≤ st.length; omega, by show st.length ≤ 3; omega, fun x hx => by show x < rs.length; rw [hrl]; exact hst x hx, fun i r hi => by show RoomOk st.length rs.length i r; rw [hstl, hrl]; exact hok i r hi, by show (rs.map fun r => r.1.length).sum ≤ 8; omega⟩, by show rs.length ≤ R; omega, (p4.take _ hl).mono (by omega), hx4.take⟩
    have rg1 := rangeV_nat many (by omega)
    have rg2 := rangeV_nat W (by omega)
    simp only [iN] at *
    simp [b__law_house, e1, q1, e2, q2, hl2, rg1, hfor, rg2, e4, k_tupl _ _ _ hrs]
    exact leave_cut (v := eHouse (rs, st)) hS hx4 hl p4 (clH _)
  · intro v S' hf
    exact False.elim hf
end
end Lt
set_option maxHeartbeats 4000000
namespace Lt
open PySem
@[simp] theorem k_lenF (S : Store) (xs : List Val) : bltV .len [.flst xs] S = .ok (.int xs.length) S := (rfl)
@[simp] theorem t_slF (S : Store) (xs : List Val) (p q : Option Int) : slcV S (.flst xs) p q = some (.lst (cut xs p q)) := (rfl)
@[simp] theorem x_ixF (S : Store) (xs : List Val) (k : Int) : ixV S (.flst xs) (.int k) = L2.atI xs k := (rfl)
theorem rangeV_from (a b : Nat) (ha : a ≤ 1000000) (hb : b ≤ 1000000) : rangeV (a : Int) (b : Int) = some ((List.range (b - a)).map fun i : Nat => iN (a + i)) := by
  unfold rangeV
  rw [if_pos ⟨by omega, by omega, by omega, by omega⟩]
  have : ((b : Int) - (a : Int)).toNat = b - a := by omega
  rw [this]
  congr 1
section
variable {F n : Nat} {S : Store}
theorem cl_ints (l : List Int) : Val.clAll (l.map Val.int) = true := h_map _ _ fun _ _ => rfl
theorem r_law_folded (hn : 1 ≤ n) (hS : SOk S) (xs : List Int) (M : Nat) (hM : 1 ≤ M) (hM2 : M ≤ 1000) : ∃ cells : List Int, run TBL F n j__law_folded [.flst (xs.map .int), .int (M : Int)] S = .ok (.lst (cells.map .int)) S ∧ cells.length ≤ M := by
  obtain ⟨m, rfl⟩ := succ_of (show 1 ≤ n by omega)
  rw [run__law_folded]
  have hmin := minI' 63 xs.length
  have hmle : min 63 xs.length ≤ 63 := Nat.min_le_left _ _
  have hmle2 : min 63 xs.length ≤ xs.length := Nat.min_le_right _ _
  generalize min 63 xs.length = e at *
  have key := forGo_inv (f := forB (run TBL F m) F (.v 3) bf__law_folded_1) (fun i => iN (M + i)) (fun k env S' => ∃ (cells : List Int) (x : Option Val), env = [some (.flst (xs.map .int)), some (iN M), some (.loc S.length), x] ∧ S' = S ++ [.lst (cells.map .int)] ∧ cells.length = min M xs.length) (fun _ _ => False) (List.range (e - M)) 0 (env := [some (.flst (xs.map .int)), some (iN M), some (.loc S.length), none]) (S := S ++ [.lst ((xs.take M).map .int)]) ⟨xs.take M, none, rfl, rfl, by simp⟩ (by
    rintro k x env S' hk ⟨cells, y, rfl, rfl, hlen⟩
    have hk' := List.getElem?_eq_some_iff.mp hk
    obtain ⟨hk1, hk2⟩ := hk'
    simp at hk1 hk2
    subst hk2
    have hMl : min M xs.length = M := Nat.min_eq_left (by omega)
    rw [hMl] at hlen
    have hmod : (M + k) % M < M := Nat.mod_lt _ (by omega)
    have q1 : binV .Mod (.int ((M + k : Nat) : Int)) (.int (M : Int)) = some (iN ((M + k) % M)) := by rw [b_mod _ _ (by omega)]; simp
    generalize (M + k) % M = j at *
    have hc : (S ++ [Ob.lst (cells.map Val.int)])[S.length]? = some (.lst (cells.map .int)) := by simp
    have q2 : ixV (S ++ [Ob.lst (cells.map Val.int)]) (.loc S.length) (.int (j : Int)) = some (.int (cells.getD j 0)) := by
      rw [x_ixl _ _ _ _ hc, atI_nat, List.getElem?_map, getD_some (d := (0 : Int)) (by omega)]; rfl
    have q3 : L2.atI (xs.map Val.int) ((M + k : Nat) : Int) = some (.int (xs.getD (M + k) 0)) := by
      rw [atI_nat, List.getElem?_map, getD_some (d := (0 : Int)) (by omega)]; rfl
    generalize cells.getD j 0 = c at *
    generalize xs.getD (M + k) 0 = c2 at *
    have q4 : binV .Mult (.int c) (.int 31) = some (.int (c * 31)) := b_mul _ _ (by unfold mulOk; simp)
    have q5 : ∀ v env, subL (.loc S.length) (.int (j : Int)) v env (S ++ [Ob.lst (cells.map Val.int)]) = .next env (S ++ [Ob.lst ((cells.map Val.int).set j v)]) := fun v env => by
      rw [subL_nat _ _ _ _ _ _ hc (by simp; omega)]
      simp
    simp [bf__law_folded_1, q1, q2, q3, q4, q5, -atI_nat, -Int.natCast_add]
    exact ⟨cells.set j (c * 31 + c2), by rw [List.map_set], by rw [List.length_set, hlen, hMl]⟩)
  refine FOk.elim key (fun r => (forGo (forB (run TBL F m) F (.v 3) bf__law_folded_1) ((List.range (e - M)).map fun i => iN (M + i)) [some (.flst (xs.map .int)), some (iN M), some (.loc S.length), none] (S ++ [.lst ((xs.take M).map .int)])) = r → _) ?_ ?_ rfl
  · rintro env S' ⟨cells, x, rfl, rfl, hlen⟩ hfor
    refine ⟨cells, ?_, by rw [hlen]; exact Nat.min_le_left _ _⟩
    have rg := rangeV_from M e (by omega) (by omega)
    have q1 : cut (xs.map Val.int) none (some (M : Int)) = (xs.take M).map .int := by rw [cut_to, List.map_take]
    have c63 : ((63 : Nat) : Int) = 63 := rfl
    simp only [c63] at hmin
    have hmin2 : (if (xs.length : Int) < 63 then (xs.length : Int) else 63) = (e : Int) := by
      rw [← hmin]
      by_cases c : xs.length < 63
      · rw [if_pos c, if_pos (by omega)]
      · rw [if_neg c, if_neg (by omega)]
    simp only [iN] at *
    simp [b__law_folded, q1, hmin2, rg, hfor, -List.map_take, -Int.natCast_add]
    exact leave_frz hS (cl_ints _)
  · intro v S' hf
    exact False.elim hf
theorem leave_fresh {S : Store} (hS : SOk S) (o : Ob) (ho : o.blw S.length = true) : leave .fresh S.length (.ok (.loc S.length) (S ++ [o])) = .ok (.loc S.length) (S ++ [o]) := by
  unfold leave
  simp only [Nat.le_refl, if_true]
  have : (S ++ [o])[S.length]? = some o := by simp
  rw [this]
  simp only [ho, List.take_left, Bool.true_and]
  exact if_pos hS
theorem r_law_pot (hn : 1 ≤ n) (hS : SOk S) (cells : List Int) (k : Nat) (hk : k ≤ 1000) : ∃ a b : Nat, run TBL F n j__law_pot [.lst (cells.map .int), .int (k : Int)] S = .ok (.loc S.length) (S ++ [.lst [iN a, iN b, iN 0]]) ∧ b < 2305843009213693952 := by
  obtain ⟨m, rfl⟩ := succ_of (show 1 ≤ n by omega)
  rw [run__law_pot]
  have pw1 : binV .Pow (.int 10) (.int 60) = some (.int (10 ^ 60)) := b_pow _ _ (by decide +kernel)
  have pw2 : binV .Pow (.int (10 ^ 60)) (.int 14) = some (.int ((10 ^ 60) ^ 14)) := b_pow _ _ (by decide +kernel)
  have pw3 : binV .Pow (.int 10) (.int 18) = some (.int (10 ^ 18)) := b_pow _ _ (by decide +kernel)
  have hpos : (0 : Int) < (10 ^ 60) ^ 14 := by decide +kernel
  generalize (10 : Int) ^ 60 = p60 at *
  generalize p60 ^ 14 = big at *
  generalize (10 : Int) ^ 18 = p18 at *
  have cellN : ∃ c : Nat, (∀ h : k < cells.length, binV .Mod (.int (if cells[k] < 0 then -cells[k] else cells[k])) (.int big) = some (iN c)) ∧ (¬ k < cells.length → c = 0) := by
    by_cases c : k < cells.length
    · refine ⟨((if cells[k] < 0 then -cells[k] else cells[k]) % big).toNat, fun _ => ?_, fun h => absurd c h⟩
      rw [b_mod _ _ hpos, iN, Int.toNat_of_nonneg (Int.emod_nonneg _ (by omega))]
    · exact ⟨0, fun h => absurd h c, fun _ => rfl⟩
  obtain ⟨c, hc1, hc2⟩ := cellN
  have m1 : ∃ u : Nat, u < 2147483629 ∧ binV .Mod (.int (c : Int)) (.int 2147483629) = some (iN u) := ⟨c % 2147483629, Nat.mod_lt _ (by omega), by rw [b_mod _ _ (by omega)]; simp⟩
  obtain ⟨u, hu, m1⟩ := m1
  have m2 : binV .Mult (.int 7919) (.int (k : Int)) = some (.int (7919 * (k : Int))) := b_mul _ _ (by unfold mulOk; simp)
  have m3 : ∃ w : Nat, binV .Pow (.int ((u : Int) + 7919 * (k : Int) + 1)) (.int 5) = some (iN w) := by
    refine ⟨(u + 7919 * k + 1) ^ 5, ?_⟩
    rw [show (u : Int) + 7919 * (k : Int) + 1 = ((u + 7919 * k + 1 : Nat) : Int) by omega, b_pow _ _ (powOk_nat _ _ (by omega) (by omega) (by omega))]
    simp
  obtain ⟨w, m3⟩ := m3
  have m4 : ∃ b : Nat, b < 2305843009213693952 ∧ binV .Mod (.int (w : Int)) (.int 2305843009213693951) = some (iN b) := ⟨w % 2305843009213693951, Nat.lt_of_lt_of_le (Nat.mod_lt _ (by omega)) (by omega), by rw [b_mod _ _ (by omega)]; simp⟩
  obtain ⟨b, hb, m4⟩ := m4
  have m5 : ∃ a : Nat, binV .Mult (.int (c : Int)) (.int (if decide (p18 ≤ (c : Int)) = true then 1 else 0)) = some (iN a) := by
    refine ⟨c * (if decide (p18 ≤ (c : Int)) = true then 1 else 0), ?_⟩
    rw [b_mul _ _ (by unfold mulOk; split <;> simp)]
    split <;> simp
  obtain ⟨a, m5⟩ := m5
  refine ⟨a, b, ?_, hb⟩
  have hlv := leave_fresh hS (.lst [iN a, iN b, iN 0]) rfl
  by_cases hk2 : k < cells.length
  · have hv2 := hc1 hk2
    simp only [decide_eq_true_eq] at m5
    simp [b__law_pot, pw1, pw2, pw3, hk2, hv2, m1, m2, m3, m4, m5]
    exact hlv
  · have hc0 := hc2 hk2
    subst hc0
    simp only [decide_eq_true_eq] at m5
    simp at m5 m1
    simp [b__law_pot, pw1, pw2, pw3, hk2, m1, m2, m3, m4, m5]
    exact hlv
end
end Lt
set_option maxHeartbeats 4000000
namespace Lt
open PySem
theorem shp_eNs (n : Nat) (l : List Nat) : Val.shp (n + 1) (eNs l) = true := by unfold eNs; rw [s_tupP]; exact shpAll_ints n l
@[simp] theorem shp_eN (l : List Nat) : Val.shp 39 (eNs l) = true := shp_eNs 38 l
@[simp] theorem shp_eN40 (l : List Nat) : Val.shp 40 (eNs l) = true := shp_eNs 39 l
theorem eqv_eNs (l k : List Nat) : Val.eqv (eNs l) (eNs k) = decide (l = k) := eqvAll_ints l k
@[simp] theorem eqv_eNs_r (l : List Nat) : Val.eqv (eNs l) (eNs l) = true := by rw [eqv_eNs]; simp
@[simp] theorem shp_step (s : Step) : Val.shp 39 s.e = true := by simp [Step.e]
@[simp] theorem shp_step40 (s : Step) : Val.shp 40 s.e = true := by simp [Step.e]
@[simp] theorem eqv_step (s : Step) : Val.eqv s.e s.e = true := by simp [Step.e]
@[simp] theorem shp_sit (s : Sit) : Val.shp 40 (eSit s) = true := by simp [eSit, -List.map_flatten]
@[simp] theorem eqv_sit (s : Sit) : Val.eqv (eSit s) (eSit s) = true := by simp [eSit, -List.map_flatten]
theorem shp_steps (l : List Step) : Val.shpAll 39 (eSteps l) = true := by
  unfold eSteps
  induction l with
  | nil => simp
  | cons x l ih => simp [ih]
theorem eqv_steps (l : List Step) : Val.eqvAll (eSteps l) (eSteps l) = true := by
  unfold eSteps
  induction l with
  | nil => simp
  | cons x l ih => simp [ih]
theorem gone_cons {h : House} {s : Sit} {x : Nat} {ws : List Nat} {y : Step} (c : x < h.2.length) (hx : stepIn h s x = some y) : gone h s (x :: ws) = (y :: (gone h (sitAfter h s y) ws).1, (gone h (sitAfter h s y) ws).2.1, (gone h (sitAfter h s y) ws).2.2.map (· + 1)) := by
  rw [gone]
  simp only [if_pos c, hx]
theorem gone_take {h : House} : ∀ (ws : List Nat) (s : Sit) {a : List Step} {s' : Sit}, gone h s ws = (a, s', none) → a.map Step.walker = ws ∧ ∀ k, k ≤ ws.length → ∃ sk, gone h s (ws.take k) = (a.take k, sk, none) ∧ (∀ w, ws[k]? = some w → ∃ st, a[k]? = some st ∧ w < h.2.length ∧ stepIn h sk w = some st ∧ gone h s (ws.take (k + 1)) = (a.take (k + 1), sitAfter h sk st, none)) ∧ (k = ws.length → sk = s')
  | [], s, a, s', hg => by
    simp only [gone, Prod.mk.injEq] at hg
    obtain ⟨rfl, rfl, _⟩ := hg
    exact ⟨rfl, fun k hk => ⟨s, by simp [gone], fun w hw => by simp at hw, fun _ => rfl⟩⟩
  | x :: ws, s, a, s', hg => by
    unfold gone at hg
    by_cases c : x < h.2.length
    · rw [if_pos c] at hg
      cases hx : stepIn h s x with
      | none => rw [hx] at hg; simp at hg
      | some y =>
        rw [hx] at hg
        simp only [Prod.mk.injEq, Option.map_eq_none_iff] at hg
        obtain ⟨rfl, rfl, h4⟩ := hg
        have hy : y.walker = x := by
          rw [stepIn_eq] at hx
          obtain ⟨d, _, e⟩ := Option.map_eq_some_iff.mp hx
          rw [← e]
        have ih := gone_take ws (sitAfter h s y) (a := (gone h (sitAfter h s y) ws).1) (s' := (gone h (sitAfter h s y) ws).2.1) (by rw [← h4])
        refine ⟨by rw [List.map_cons, ih.1, hy], fun k hk => ?_⟩
        cases k with
        | zero =>
          refine ⟨s, by simp [gone], fun w hw => ⟨y, rfl, ?_, ?_, ?_⟩, fun h => by simp at h⟩
          · cases hw; exact c
          · cases hw; exact hx
          · simp [gone, c, hx]
        | succ k =>
          obtain ⟨sk, q1, q2, q3⟩ := ih.2 k (by simpa using hk)
          refine ⟨sk, ?_, fun w hw => ?_, fun h => q3 (by simpa using h)⟩
          · rw [List.take_succ_cons, List.take_succ_cons]
            rw [gone_cons c hx, q1]; rfl
          · obtain ⟨st, r1, r2, r3, r4⟩ := q2 w hw
            refine ⟨st, r1, r2, r3, ?_⟩
            rw [List.take_succ_cons, List.take_succ_cons]
            rw [gone_cons c hx, r4]; rfl
    · rw [if_neg c] at hg; simp at hg
theorem touched_eq {h : House} (ok : HouseOk h) {s : Sit} (so : SitOk h s) {st : Step} (hs : StepOk h s st) (hne : st.to ≠ st.room) : ((s.2.set st.room (memAfter h st.room (s.2.getD st.room []) (.out st.walker st.door))).set st.to (memAfter h st.to (s.2.getD st.to []) (.in_ st.walker st.room))) = (sitAfter h s st).2 := by
  apply List.ext_getElem?
  intro i
  have hl : (sitAfter h s st).2.length = h.1.length := by simp [sitAfter]
  have hlen := so.ft.len
  by_cases c : i < h.1.length
  · rw [getD_some (d := ([] : Mem)) (by omega : i < (sitAfter h s st).2.length), sitAfter_mem c]
    simp only
    by_cases c2 : i = st.to
    · subst c2
      rw [List.getElem?_set_self (by rw [List.length_set]; omega), if_pos rfl, if_neg hne]
    · rw [List.getElem?_set_ne (fun h => c2 h.symm), if_neg c2]
      by_cases c1 : i = st.room
      · subst c1
        rw [List.getElem?_set_self (by omega), if_pos rfl]
      · rw [List.getElem?_set_ne (fun h => c1 h.symm), if_neg c1, getD_some (by omega)]
  · rw [List.getElem?_eq_none_iff.mpr (by simp; omega), List.getElem?_eq_none_iff.mpr (by omega)]
section
variable {F n : Nat} {S : Store}
theorem cl_mems (ms : List Mem) : Val.clAll (ms.map eNs) = true := h_map _ _ fun _ _ => by simp [eNs]
theorem r_touched (hn : 17 ≤ n) (hS : SOk S) (h : House) (ok : HouseOk h) (s : Sit) (so : SitOk h s) (w : Nat) (hw : w < h.2.length) (st : Step) (hst : stepIn h s w = some st) : run TBL F n j__law_touched [eHouse h, .lst (s.2.map eNs), st.e] S = .ok (.lst ((sitAfter h s st).2.map eNs)) S := by
  obtain ⟨m, rfl⟩ := succ_of (show 1 ≤ n by omega)
  rw [run__law_touched]
  obtain ⟨hs, h2, h3, h4, h5, h6, h7⟩ := stepIn_ok ok so hw hst
  have hr1 := room_at hs.r
  have hr2 := room_at hs.t
  have hlen := so.ft.len
  have hdl := (List.getElem?_eq_some_iff.mp h5).1
  have ms1 : SOk (S ++ [.lst (s.2.map eNs)]) := hS.pushL (cl_mems _)
  have e1 : ∀ S, run TBL F m 39 [eHouse h, .int (st.room : Int), eNs (s.2.getD st.room []), (Touch.out st.walker st.door).e] S = .ok (eNs (memAfter h st.room (s.2.getD st.room []) (.out st.walker st.door))) S := fun S => r_memory_behind (by omega) h ok st.room _ hr1 _ (so.mem hr1) _ ⟨hs.w, hdl⟩
  have e2 : ∀ S, run TBL F m 39 [eHouse h, .int (st.to : Int), eNs (s.2.getD st.to []), (Touch.in_ st.walker st.room).e] S = .ok (eNs (memAfter h st.to (s.2.getD st.to []) (.in_ st.walker st.room))) S := fun S => r_memory_behind (by omega) h ok st.to _ hr2 _ (so.mem hr2) _ ⟨hs.w, hs.r, _, List.mem_of_getElem? h5, h6.symm⟩
  have teq := touched_eq ok so hs h7
  rw [← teq]
  have hget : ∀ i, i < h.1.length → s.2[i]? = some (s.2.getD i []) := fun i hi => getD_some (by omega)
  have g1 := hget _ hs.r
  have g2 := hget _ hs.t
  have hsr := hs.r
  have hstt := hs.t
  obtain ⟨w', room, door, to⟩ := st
  simp only [Touch.e] at *
  generalize memAfter h room (s.2.getD room []) (.out w' door) = mo at *
  generalize memAfter h to (s.2.getD to []) (.in_ w' room) = mi at *
  generalize s.2.getD room [] = m1 at *
  generalize s.2.getD to [] = m2 at *
  have i1 : ixV (S ++ [Ob.lst (s.2.map eNs)]) (.loc S.length) (.int (room : Int)) = some (eNs m1) := by
    rw [x_ixl (xs := s.2.map eNs) _ _ _ (by simp), atI_nat, List.getElem?_map, g1]; rfl
  have s1 : ∀ env v, subL (.loc S.length) (.int (room : Int)) v env (S ++ [Ob.lst (s.2.map eNs)]) = .next env (S ++ [Ob.lst ((s.2.map eNs).set room v)]) := fun env v => by
    rw [subL_nat (xs := s.2.map eNs) _ _ _ _ _ (by simp) (by simp; omega)]; simp
  have i2 : ixV (S ++ [Ob.lst ((s.2.set room mo).map eNs)]) (.loc S.length) (.int (to : Int)) = some (eNs m2) := by
    rw [x_ixl (xs := (s.2.set room mo).map eNs) _ _ _ (by simp), atI_nat, List.getElem?_map, List.getElem?_set_ne (fun h => h7 h.symm), g2]; rfl
  have s2 : ∀ env v, subL (.loc S.length) (.int (to : Int)) v env (S ++ [Ob.lst ((s.2.set room mo).map eNs)]) = .next env (S ++ [Ob.lst (((s.2.set room mo).map eNs).set to v)]) := fun env v => by
    rw [subL_nat (xs := (s.2.set room mo).map eNs) _ _ _ _ _ (by simp) (by simp; omega)]; simp
  have q1 : (s.2.map eNs).set room (eNs mo) = (s.2.set room mo).map eNs := by rw [← List.map_set]
  have q2 : ((s.2.set room mo).map eNs).set to (eNs mi) = ((s.2.set room mo).set to mi).map eNs := by rw [← List.map_set]
  simp only [iN] at *
  simp [b__law_touched, Step.e, i1, e1, s1, q1, i2, e2, s2, q2, -List.map_set]
  exact leave_frz hS (cl_mems _)
theorem r_stands (hn : 1 ≤ n) (h : House) (s : Sit) (places : Val) (hpl : ∀ S', S' = S → bltV .tuple [places] S' = .ok (eNs s.1) S') (hlen : s.2.flatten.length ≤ 1000) : run TBL F n j__law_stands [eHouse h, eSit s, places, .lst (s.2.map eNs)] S = .ok (.bl true) S := by
  obtain ⟨m, rfl⟩ := succ_of (show 1 ≤ n by omega)
  rw [run__law_stands]
  have hp := hpl S rfl
  have key := forGo_inv (f := forB (run TBL F m) F (.v 5) bf__law_stands_1) eNs (fun k env S' => ∃ x, env = [some (eHouse h), some (eSit s), some places, some (.lst (s.2.map eNs)), some (eNs (s.2.take k).flatten), x] ∧ S' = S) (fun _ _ => False) s.2 0 (env := [some (eHouse h), some (eSit s), some places, some (.lst (s.2.map eNs)), some (.tup []), none]) (S := S) ⟨none, rfl, rfl⟩ (by
    rintro k x env S' hk ⟨y, rfl, rfl⟩
    have hl2 : (s.2.take k).flatten.length + x.length ≤ 1000 := by
      have : (s.2.take (k + 1)).flatten.length ≤ s.2.flatten.length := by
        conv => rhs; rw [← List.take_append_drop (k + 1) s.2]
        rw [List.flatten_append, List.length_append]; omega
      rw [List.take_add_one, hk, List.flatten_append, List.length_append] at this
      have hx : (Option.toList (some x)).flatten.length = x.length := by simp
      rw [hx] at this
      omega
    have q1 : binV .Add (eNs (s.2.take (0 + k)).flatten) (eNs x) = some (eNs (s.2.take (0 + k + 1)).flatten) := by
      unfold eNs
      rw [b_addT _ _ (by rw [sz, List.length_map, List.length_map, Nat.zero_add]; omega), List.take_add_one, Nat.zero_add, hk, List.flatten_append]
      simp
    simp only [Nat.zero_add] at q1
    simp [bf__law_stands_1, q1, -List.map_flatten])
  rw [Nat.zero_add, List.take_length] at key
  refine FOk.elim key (fun r => (forGo (forB (run TBL F m) F (.v 5) bf__law_stands_1) (s.2.map eNs) [some (eHouse h), some (eSit s), some places, some (.lst (s.2.map eNs)), some (.tup []), none] S) = r → _) ?_ ?_ rfl
  · rintro env S' ⟨x, rfl, rfl⟩ hfor
    have : Val.tup [eNs s.1, eNs s.2.flatten] = eSit s := rfl
    have hrd : rd S' (eSit s) = eSit s := rfl
    simp [b__law_stands, hfor, hp, this, hrd]
  · intro v S' hf
    exact False.elim hf
end
end Lt
set_option maxHeartbeats 4000000
namespace Lt
open PySem
/-- walks that are -/
def Walks (h : House) (ws : List Nat) (a : List Step) (s : Sit) : Prop := gone h (firstSit h) ws = (a, s, none)
section
variable {F n : Nat} {S : Store}
theorem sit_len {h : House} (ok : HouseOk h) {s : Sit} (so : SitOk h s) : s.2.flatten.length ≤ 1000 := by
  rw [List.length_flatten, so.ft]
  have := ok.nn
  omega
theorem goings_mem {h : House} {s : Sit} {w : Nat} : w ∈ goings h s ↔ w < h.2.length ∧ (stepIn h s w).isSome = true := by
  unfold goings
  rw [List.mem_map]
  have hw : ∀ {w st}, stepIn h s w = some st → st.walker = w := fun {w st} e => by
    rw [stepIn_eq] at e
    obtain ⟨d, _, e⟩ := Option.map_eq_some_iff.mp e
    rw [← e]
  constructor
  · rintro ⟨st, hst, rfl⟩
    obtain ⟨x, hx, e⟩ := List.mem_filterMap.mp hst
    rw [hw e]
    exact ⟨List.mem_range.mp hx, by rw [e]; rfl⟩
  · rintro ⟨h1, h2⟩
    obtain ⟨st, e⟩ := Option.isSome_iff_exists.mp h2
    exact ⟨st, List.mem_filterMap.mpr ⟨w, List.mem_range.mpr h1, e⟩, hw e⟩
theorem eqv_any_mem (l : List Nat) (w : Nat) : (List.any (l.map iN) fun y => Val.eqv y (.int (w : Int))) = decide (w ∈ l) := by
  rw [eqv_any_nat]; exact List.contains_eq_mem w l
theorem memV_nat (l : List Nat) (w : Nat) : memV (.int (w : Int)) (l.map iN) = some (decide (w ∈ l)) := by
  rw [m_any _ _ (by simp), eqv_any_mem]
theorem c_inN (l : List Nat) (w : Nat) : cmpV .In (.int (w : Int)) (eNs l) = some (decide (w ∈ l)) := memV_nat l w
theorem c_ninN (l : List Nat) (w : Nat) : cmpV .NotIn (.int (w : Int)) (eNs l) = some (!decide (w ∈ l)) := by
  show (memV (.int (w : Int)) (l.map iN)).map (!·) = _
  rw [memV_nat]; rfl
theorem r_walk_right (hn : 18 ≤ n) (hS : SOk S) (h : House) (ok : HouseOk h) (ws : List Nat) (hl : ws.length ≤ 400) (a : List Step) (s : Sit) (hg : Walks h ws a s) : run TBL F n j__law_walk_right [eHouse h, eNs ws] S = .ok (.bl true) S := by
  obtain ⟨m, rfl⟩ := succ_of (show 1 ≤ n by omega)
  rw [run__law_walk_right]
  have hr6 := ok.r6
  obtain ⟨hwk, htk⟩ := gone_take ws (firstSit h) hg
  have hal : a.length = ws.length := by rw [← hwk, List.length_map]
  have e1 : run TBL F m 58 [eHouse h, eNs ws] S = .ok (.tup (eSteps a)) S := r_steps_of (by omega) hS h ok ws hl hg
  have e2 : ∀ (i : Nat), i < h.1.length → ∀ S, SOk S → run TBL F m 35 [eHouse h, .int (i : Int)] S = .ok (eNs (memFirst h i)) S := fun i hi S hS => r_first_memory (by omega) hS h ok i _ (room_at hi)
  have hmf : (List.range h.1.length).map (memFirst h) = (firstSit h).2 := rfl
  have hS1 : ∀ l : List Nat, SOk (S ++ [.lst (l.map iN)]) := fun l => hS.pushL (cl_eNs l)
  have hlc1 : ∀ env : Env, env.length = 12 → lcGo (lcB (run TBL F m) [("step", 6)] (.v 6) .yes (.ix (.var 6) (.con (.int 0))) env) (eSteps a) S = .ok (ws.map iN) S := fun env he => by
    obtain ⟨b0, b1, b2, b3, b4, b5, b6, b7, b8, b9, b10, b11, rfl⟩ : ∃ b0 b1 b2 b3 b4 b5 b6 b7 b8 b9 b10 b11, env = [b0, b1, b2, b3, b4, b5, b6, b7, b8, b9, b10, b11] := by
      match env, he with
      | [b0, b1, b2, b3, b4, b5, b6, b7, b8, b9, b10, b11], _ => exact ⟨_, _, _, _, _, _, _, _, _, _, _, _, rfl⟩
    unfold eSteps
    rw [lcGo_of Step.e (fun st => iN st.walker)]
    · rw [← hwk, List.map_map]; rfl
    · intro st _
      simp [Step.e]
  have hc0 := fun k : Nat => show cut (ws.map iN) none (some (k : Int)) = (ws.take k).map iN by rw [cut_to, List.map_take]
  have key := forGo_inv (f := forB (run TBL F m) F (.tup (.cons (.v 5) (.cons (.v 6) .nil))) bf__law_walk_right_1) (fun p : Step × Nat => Val.tup [.int (p.2 : Int), p.1.e]) (fun k env S' => ∃ (sk : Sit) (x5 x6 x7 x8 x9 x10 x11 : Option Val), env = [some (eHouse h), some (eNs ws), some (.tup (eSteps a)), some (.loc S.length), some (.lst (sk.2.map eNs)), x5, x6, x7, x8, x9, x10, x11] ∧ S' = S ++ [.lst (sk.1.map iN)] ∧ gone h (firstSit h) (ws.take k) = (a.take k, sk, none)) (fun _ _ => False) a.zipIdx 0 (env := [some (eHouse h), some (eNs ws), some (.tup (eSteps a)), some (.loc S.length), some (.lst ((firstSit h).2.map eNs)), none, none, none, none, none, none, none]) (S := S ++ [.lst (h.2.map iN)]) ⟨firstSit h, none, none, none, none, none, none, none, rfl, rfl, by simp [gone]⟩ (by
    rintro k p env S' hk ⟨sk, x5, x6, x7, x8, x9, x10, x11, rfl, rfl, hgk⟩
    obtain ⟨st, i⟩ := p
    have hd : a[k]? = some st ∧ i = k := by
      rw [List.getElem?_zipIdx] at hk
      cases hq : a[k]? with
      | none => rw [hq] at hk; cases hk
      | some d' =>
        rw [hq] at hk
        have hk := Option.some.inj hk
        exact ⟨congrArg some (congrArg Prod.fst hk), by have := congrArg Prod.snd hk; simp at this; omega⟩
    obtain ⟨hak, rfl⟩ := hd
    have hkl : i < ws.length := by rw [← hal]; exact (List.getElem?_eq_some_iff.mp hak).1
    rw [Nat.zero_add] at hgk
    obtain ⟨sk', q1, q2, _⟩ := htk i (by omega)
    rw [hgk] at q1
    have hsk : sk = sk' := congrArg (fun p => p.2.1) q1
    subst hsk
    obtain ⟨st', r1, r2, r3, r4⟩ := q2 ws[i] (List.getElem?_eq_getElem hkl)
    rw [hak] at r1
    have r1 := Option.some.inj r1
    subst r1
    generalize ws[i] = w at *
    have so : SitOk h sk := by have := gone_sit ok (ws.take i) _ (firstSit_ok ok); rw [hgk] at this; exact this
    have hST := hS1 sk.1
    obtain ⟨hs, hw, hroom, hdoor, hdd, hto, hne⟩ := stepIn_ok ok so r2 r3
    obtain ⟨hp1, hp2⟩ := so.place r2
    rw [← hroom] at hp1
    have hlk : (ws.take i).length ≤ 400 := by rw [List.length_take]; omega
    have hlk2 : (ws.take (i + 1)).length ≤ 400 := by rw [List.length_take]; omega
    have f59 : run TBL F m 59 [eHouse h, .tup ((ws.take i).map iN)] (S ++ [.lst (sk.1.map iN)]) = .ok (eSit sk) (S ++ [.lst (sk.1.map iN)]) := r_situation_by (by omega) hST h ok (ws.take i) hlk hgk
    have f59' : run TBL F m 59 [eHouse h, .tup ((ws.take (i + 1)).map iN)] (S ++ [.lst (sk.1.map iN)]) = .ok (eSit (sitAfter h sk st)) (S ++ [.lst (sk.1.map iN)]) := r_situation_by (by omega) hST h ok (ws.take (i + 1)) hlk2 r4
    have f68 : run TBL F m 68 [eHouse h, eSit sk, .loc S.length, .lst (sk.2.map eNs)] (S ++ [.lst (sk.1.map iN)]) = .ok (.bl true) (S ++ [.lst (sk.1.map iN)]) := r_stands (by omega) h sk (.loc S.length) (fun S' hS' => by rw [hS']; exact k_tupN S _) (sit_len ok so)
    have f52 : run TBL F m 52 [eHouse h, eSit sk] (S ++ [.lst (sk.1.map iN)]) = .ok (eNs (goings h sk)) (S ++ [.lst (sk.1.map iN)]) := r_going (by omega) hST h ok sk so
    have f51 : run TBL F m 51 [eHouse h, eSit sk, .int (w : Int)] (S ++ [.lst (sk.1.map iN)]) = .ok st.e (S ++ [.lst (sk.1.map iN)]) := by
      have : run TBL F m 51 [eHouse h, eSit sk, .int (w : Int)] (S ++ [.lst (sk.1.map iN)]) = .ok (eS (stepIn h sk w)) (S ++ [.lst (sk.1.map iN)]) := r_step_by (by omega) hST h ok sk so w r2
      rw [r3] at this
      exact this
    have f41 : run TBL F m 41 [eHouse h, .int (st.room : Int), eNs (sk.2.getD st.room []), .int (w : Int)] (S ++ [.lst (sk.1.map iN)]) = .ok (iN st.door) (S ++ [.lst (sk.1.map iN)]) := by
      have : run TBL F m 41 [eHouse h, .int (st.room : Int), eNs (sk.2.getD st.room []), .int (w : Int)] (S ++ [.lst (sk.1.map iN)]) = .ok (eO (doorIn h st.room (sk.2.getD st.room []) w)) (S ++ [.lst (sk.1.map iN)]) := r_door_by (by omega) h ok st.room _ (room_at hs.r) _ (so.mem (room_at hs.r)) w r2
      rw [hdoor] at this
      exact this
    have f53 : run TBL F m 53 [eHouse h, eSit sk, .int (w : Int)] (S ++ [.lst (sk.1.map iN)]) = .ok (eSit (sitAfter h sk st)) (S ++ [.lst (sk.1.map iN)]) := r_behind (by omega) hST h ok sk so w r2 st r3
    have f67 : run TBL F m 67 [eHouse h, .lst (sk.2.map eNs), st.e] (S ++ [.lst (sk.1.map iN)]) = .ok (.lst ((sitAfter h sk st).2.map eNs)) (S ++ [.lst (sk.1.map iN)]) := r_touched (by omega) hST h ok sk so w r2 st r3
    have hgo : w ∈ goings h sk := goings_mem.mpr ⟨r2, by rw [r3]; rfl⟩
    have hi1 : ixV (S ++ [Ob.lst (sk.1.map iN)]) (.loc S.length) (.int (w : Int)) = some (iN st.room) := by
      rw [x_ixl (xs := sk.1.map iN) _ _ _ (by simp), atI_nat, List.getElem?_map, hp1]; rfl
    have hi2 : (sk.2.map eNs)[st.room]? = some (eNs (sk.2.getD st.room [])) := by
      rw [List.getElem?_map, getD_some (d := ([] : Mem)) (by rw [so.ft.len]; exact hs.r)]; rfl
    have hi3 : (h.1.map eRoom)[st.room]? = some (eRoom (h.1.getD st.room ([], []))) := by
      rw [List.getElem?_map, room_at hs.r]; rfl
    have hi4 : ((h.1.getD st.room ([], [])).2.map eDoor)[st.door]? = some (eDoor ((h.1.getD st.room ([], [])).2.getD st.door (0, .free))) := by
      rw [List.getElem?_map, hdd]; rfl
    have hset : ∀ env, subL (.loc S.length) (.int (w : Int)) (iN st.to) env (S ++ [Ob.lst (sk.1.map iN)]) = .next env (S ++ [Ob.lst ((sitAfter h sk st).1.map iN)]) := fun env => by
      rw [subL_nat (xs := sk.1.map iN) _ _ _ _ _ (by simp) (by rw [List.length_map, so.pl]; exact r2)]
      have : (sitAfter h sk st).1 = sk.1.set w st.to := by rw [← hw]; rfl
      rw [this, List.map_set]
      simp
    have hrds : ∀ s : Sit, ∀ T, rd T (eSit s) = eSit s := fun _ _ => rfl
    have hrdt : ∀ s : Step, ∀ T, rd T s.e = s.e := fun _ _ => rfl
    have hc2 : cut (ws.map iN) none (some ((i : Int) + 1)) = (ws.take (i + 1)).map iN := hc0 (i + 1)
    have hc1 := hc0 i
    have hsteq : st.e = .tup [iN w, iN st.room, iN st.door, iN st.to] := by rw [← hw]; rfl
    generalize sk.2.getD st.room [] = mem at *
    generalize (h.1.getD st.room ([], [])).2.getD st.door (0, .free) = dd at *
    generalize h.1.getD st.room ([], []) = rr at *
    have hasg : ∀ env, asg (.tup (.cons (.v 9) (.cons (.v 8) (.cons (.v 10) (.cons (.v 11) .nil))))) st.e env = asgs (.cons (.v 9) (.cons (.v 8) (.cons (.v 10) (.cons (.v 11) .nil)))) [iN w, iN st.room, iN st.door, iN st.to] env := fun env => by rw [hsteq]; rfl
    generalize hs2 : sitAfter h sk st = s2 at *
    have h59e : eHouse h = .tup [.tup (h.1.map eRoom), eNs h.2] := rfl
    have hixh : ∀ T, ixV T (eHouse h) (.int 0) = some (.tup (h.1.map eRoom)) := fun T => rfl
    simp only [iN] at *
    simp [bf__law_walk_right_1, hc1, f59, hasg, f68, hi1, f52, c_ninN, hgo, f51, hrds, hrdt, hi2, f41, hixh, hi3, eRoom, eDoors, hi4, eDoor, hto.symm, hc2, f53, f59', f67, hset, -List.map_take]
    exact ⟨s2.1, s2.2, rfl, rfl, r4⟩)
  rw [Nat.zero_add, List.length_zipIdx, hal] at key
  refine FOk.elim key (fun r => (forGo (forB (run TBL F m) F (.tup (.cons (.v 5) (.cons (.v 6) .nil))) bf__law_walk_right_1) (a.zipIdx.map fun p : Step × Nat => Val.tup [.int (p.2 : Int), p.1.e]) [some (eHouse h), some (eNs ws), some (.tup (eSteps a)), some (.loc S.length), some (.lst ((firstSit h).2.map eNs)), none, none, none, none, none, none, none] (S ++ [.lst (h.2.map iN)])) = r → _) ?_ ?_ rfl
  · rintro env S' ⟨sk, x5, x6, x7, x8, x9, x10, x11, rfl, rfl, hgk⟩ hfor
    rw [List.take_length, hg] at hgk
    have hsk : s = sk := congrArg (fun p => p.2.1) hgk
    subst hsk
    have so : SitOk h s := by have := gone_sit ok ws _ (firstSit_ok ok); rw [hg] at this; exact this
    have hST := hS1 s.1
    have f59 : run TBL F m 59 [eHouse h, eNs ws] (S ++ [.lst (s.1.map iN)]) = .ok (eSit s) (S ++ [.lst (s.1.map iN)]) := r_situation_by (by omega) hST h ok ws hl hg
    have f68 : run TBL F m 68 [eHouse h, eSit s, .loc S.length, .lst (s.2.map eNs)] (S ++ [.lst (s.1.map iN)]) = .ok (.bl true) (S ++ [.lst (s.1.map iN)]) := r_stands (by omega) h s (.loc S.length) (fun S' hS' => by rw [hS']; exact k_tupN S _) (sit_len ok so)
    have hlen : ((eSteps a).length : Int) = (ws.length : Int) := by unfold eSteps; rw [List.length_map, hal]
    have hlenN : (eSteps a).length = ws.length := by unfold eSteps; rw [List.length_map, hal]
    have hms : (List.range h.1.length).map (fun i => eNs (memFirst h i)) = (firstSit h).2.map eNs := by rw [← hmf, List.map_map]; rfl
    have hixh0 : ∀ T, ixV T (eHouse h) (.int 0) = some (.tup (h.1.map eRoom)) := fun T => rfl
    have hixh1 : ∀ T, ixV T (eHouse h) (.int 1) = some (eNs h.2) := fun T => rfl
    have hlst : ∀ (b : Bool) (l : List Nat) T, bltV (.list b) [eNs l] T = alloc b (l.map iN) T := fun b l T => rfl
    have hen := enumV_map Step.e a 0
    have hse : eSteps a = a.map Step.e := rfl
    have hlc2 : ∀ x5 x6 x7 x9 x10 x11, lcGo (lcB (run TBL F m) [("room", 8)] (.v 8) .yes (.call 35 (.cons (.var 0) (.cons (.var 8) .nil))) [some (eHouse h), some (eNs ws), some (.tup (eSteps a)), some (.loc S.length), none, x5, x6, x7, none, x9, x10, x11]) ((List.range h.1.length).map iN) (S ++ [.lst (h.2.map iN)]) = .ok ((firstSit h).2.map eNs) (S ++ [.lst (h.2.map iN)]) := fun x5 x6 x7 x9 x10 x11 => by
      rw [lcGo_of iN (fun i => eNs (memFirst h i)), hms]
      intro i hi
      have := e2 i (List.mem_range.mp hi) _ (hS1 h.2)
      simp [this]
    have rg := rangeV_nat h.1.length (by omega)
    have hl1 := hlc1 [some (eHouse h), some (eNs ws), some (.tup (eSteps a)), none, none, none, none, none, none, none, none, none] rfl
    have heq : Val.eqvAll (ws.map iN) (ws.map iN) = true := by have := eqv_eNs_r ws; exact this
    have hsh : Val.shpAll 39 (ws.map iN) = true := shpAll_ints 39 ws
    rw [hse] at hl1 hlen hlenN hfor hlc2
    simp [b__law_walk_right, e1, hse, hl1, heq, hsh, hixh0, hixh1, hlst, rg, hlc2, hen, hfor, f59, f68, -List.map_take, hal]
    exact leave_app hS rfl
  · intro v S' hf
    exact False.elim hf
end
end Lt
set_option maxHeartbeats 4000000
namespace Lt
open PySem
section
variable {F n : Nat} {S : Store}
theorem hixh0 (T : Store) (h : House) : ixV T (eHouse h) (.int 0) = some (.tup (h.1.map eRoom)) := rfl
theorem hixh1 (T : Store) (h : House) : ixV T (eHouse h) (.int 1) = some (eNs h.2) := rfl
theorem r_beginnings (hn : 18 ≤ n) (hS : SOk S) (l K : Nat) (hp : Pot S l K) (hK : K + 1 ≤ lim) (h : House) (ok : HouseOk h) (ws : List Nat) (hl : ws.length ≤ 300) (a : List Step) (s : Sit) (hg : Walks h ws a s) : ∃ S', run TBL F n j__law_beginnings_right [.loc l, eHouse h, eNs ws] S = .ok (.bl true) S' ∧ Pot S' l (K + 1) ∧ Sm l S S' := by
  obtain ⟨m, rfl⟩ := succ_of (show 1 ≤ n by omega)
  rw [run__law_beginnings_right]
  obtain ⟨t, S1, e1, ht, p1, m1⟩ := r_take (F := F) (n := m) (by omega) l K (ws.length + 1) hp (by omega) (by omega) (by omega)
  rw [Int.natCast_add, Int.natCast_one] at e1
  have hS1 := m1.ok hS p1
  obtain ⟨hwk, htk⟩ := gone_take ws (firstSit h) hg
  have hal : a.length = ws.length := by rw [← hwk, List.length_map]
  obtain ⟨sk, q1, _, _⟩ := htk t (by omega)
  have so : SitOk h sk := by have := gone_sit ok (ws.take t) _ (firstSit_ok ok); rw [q1] at this; exact this
  have hlk : (ws.take t).length ≤ 300 := by rw [List.length_take]; omega
  have hc : cut (ws.map iN) none (some (t : Int)) = (ws.take t).map iN := by rw [cut_to, List.map_take]
  have htl : (ws.take t).length = t := by rw [List.length_take, Nat.min_eq_left (by omega)]
  have f56 : run TBL F m 56 [eHouse h, eNs (ws.take t)] S1 = .ok (.bl true) S1 := by
    have : run TBL F m 56 [eHouse h, eNs (ws.take t)] S1 = .ok (.bl (gone h (firstSit h) (ws.take t)).2.2.isNone) S1 := r_is_walk (by omega) hS1 h ok _ (by omega)
    rw [q1] at this
    exact this
  have f58 : run TBL F m 58 [eHouse h, eNs ws] S1 = .ok (.tup (eSteps a)) S1 := r_steps_of (by omega) hS1 h ok ws (by omega) hg
  have f58' : run TBL F m 58 [eHouse h, eNs (ws.take t)] S1 = .ok (.tup (eSteps (a.take t))) S1 := r_steps_of (by omega) hS1 h ok _ (by omega) q1
  have f59 : run TBL F m 59 [eHouse h, eNs (ws.take t)] S1 = .ok (eSit sk) S1 := r_situation_by (by omega) hS1 h ok _ (by omega) q1
  have f52 : run TBL F m 52 [eHouse h, eSit sk] S1 = .ok (eNs (goings h sk)) S1 := r_going (by omega) hS1 h ok sk so
  have hc2 : cut (eSteps a) none (some (t : Int)) = eSteps (a.take t) := by rw [cut_to]; unfold eSteps; rw [List.map_take]
  have hE : Val.tup ((ws.take t).map iN) = eNs (ws.take t) := rfl
  have s3 := ok.s3
  have rg := rangeV_nat h.2.length (by omega)
  have key := forGo_inv (f := forB (run TBL F m) F (.v 5) bf__law_beginnings_right_1) iN (fun k env S' => ∃ x, env = [some (.loc l), some (eHouse h), some (eNs ws), some (eNs (ws.take t)), some (eNs (goings h sk)), x] ∧ S' = S1) (fun _ _ => False) (List.range h.2.length) 0 (env := [some (.loc l), some (eHouse h), some (eNs ws), some (eNs (ws.take t)), some (eNs (goings h sk)), none]) (S := S1) ⟨none, rfl, rfl⟩ (by
    rintro k w env S' hk ⟨x, rfl, rfl⟩
    have hk' := List.getElem?_eq_some_iff.mp hk
    obtain ⟨hk1, hk2⟩ := hk'
    simp at hk1 hk2
    subst hk2
    have g56 : run TBL F m 56 [eHouse h, .tup ((ws.take t).map iN ++ [iN k])] S' = .ok (.bl (decide (k ∈ goings h sk))) S' := by
      have h1 : run TBL F m 56 [eHouse h, eNs (ws.take t ++ [k])] S' = .ok (.bl (gone h (firstSit h) (ws.take t ++ [k])).2.2.isNone) S' := r_is_walk (by omega) hS1 h ok _ (by simp; omega)
      have h2 : eNs (ws.take t ++ [k]) = .tup ((ws.take t).map iN ++ [iN k]) := by unfold eNs; rw [List.map_append]; rfl
      rw [h2] at h1
      rw [h1]
      congr 2
      cases hst : stepIn h sk k with
      | some st =>
        rw [gone_ok (ws.take t) (firstSit h) q1 hk1 hst]
        have : k ∈ goings h sk := goings_mem.mpr ⟨hk1, by rw [hst]; rfl⟩
        simp [this]
      | none =>
        rw [gone_no (ws.take t) (firstSit h) [] q1 fun _ => hst]
        have : ¬ k ∈ goings h sk := fun hh => by
          have := (goings_mem.mp hh).2
          rw [hst] at this
          cases this
        simp [this]
    have b1 : binV .Add (eNs (ws.take t)) (.tup [iN k]) = some (.tup ((ws.take t).map iN ++ [iN k])) := b_addT _ _ (by rw [sz, List.length_map]; simp; omega)
    simp only [iN] at *
    simp [bf__law_beginnings_right_1, b1, g56, c_inN, -List.map_take])
  refine FOk.elim key (fun r => (forGo (forB (run TBL F m) F (.v 5) bf__law_beginnings_right_1) ((List.range h.2.length).map iN) [some (.loc l), some (eHouse h), some (eNs ws), some (eNs (ws.take t)), some (eNs (goings h sk)), none] S1) = r → _) ?_ ?_ rfl
  · rintro env S' ⟨x, rfl, rfl⟩ hfor
    refine ⟨S', ?_, p1, m1⟩
    have hq1 := eqv_steps (a.take t)
    have hq2 := shp_steps (a.take t)
    simp [b__law_beginnings_right, e1, hc, hE, f56, f58, hc2, f58', hq1, hq2, f59, f52, hixh1, rg, hfor, htl, -List.map_take, -List.length_take]
    exact leave_le m1.1
  · intro v S' hf
    exact False.elim hf
/-- a house with a door more in a room -/
def moreDoor (h : House) (room : Nat) (d : Nat × Rule) : House := (h.1.set room ((h.1.getD room ([], [])).1, (h.1.getD room ([], [])).2 ++ [d]), h.2)
theorem more_at {h : House} {room : Nat} {d : Nat × Rule} (hr : room < h.1.length) (i : Nat) : (moreDoor h room d).1[i]? = if i = room then some ((h.1.getD room ([], [])).1, (h.1.getD room ([], [])).2 ++ [d]) else h.1[i]? := by
  unfold moreDoor
  by_cases c : i = room
  · subst c
    rw [List.getElem?_set_self hr, if_pos rfl]
  · rw [List.getElem?_set_ne (fun h => c h.symm), if_neg c]
theorem more_getD {h : House} {room : Nat} {d : Nat × Rule} (hr : room < h.1.length) (i : Nat) : (moreDoor h room d).1.getD i ([], []) = if i = room then ((h.1.getD room ([], [])).1, (h.1.getD room ([], [])).2 ++ [d]) else h.1.getD i ([], []) := by
  rw [List.getD_eq_getElem?_getD, more_at hr]
  by_cases c : i = room
  · rw [if_pos c, if_pos c]; rfl
  · rw [if_neg c, if_neg c, List.getD_eq_getElem?_getD]
theorem more_notes {h : House} {room : Nat} {d : Nat × Rule} (hr : room < h.1.length) (i : Nat) : ((moreDoor h room d).1.getD i ([], [])).1 = (h.1.getD i ([], [])).1 := by
  rw [more_getD hr]
  by_cases c : i = room
  · rw [if_pos c, c]
  · rw [if_neg c]
theorem more_len {h : House} {room : Nat} {d : Nat × Rule} : (moreDoor h room d).1.length = h.1.length := by
  unfold moreDoor
  rw [List.length_set]
theorem more_ok {h : House} (ok : HouseOk h) {room : Nat} {d : Nat × Rule} (hr : room < h.1.length) (hl : (h.1.getD room ([], [])).2.length < 4) (h1 : d.1 < h.1.length) (h2 : d.1 ≠ room) (h3 : d.2 = .free) : HouseOk (moreDoor h room d) := by
  refine ⟨by rw [more_len]; exact ok.r2, by rw [more_len]; exact ok.r6, ok.s1, ok.s3, fun x hx => by rw [more_len]; exact ok.st x hx, fun i r hi => ?_, ?_⟩
  · rw [more_at hr] at hi
    rw [more_len]
    by_cases c : i = room
    · rw [if_pos c] at hi
      have hi := Option.some.inj hi
      subst hi
      subst c
      have o := ok.rs i _ (room_at hr)
      refine ⟨o.nl, o.ns, by rw [List.length_append, List.length_singleton]; omega, fun d' hd' => ?_⟩
      rcases List.mem_append.mp hd' with hd' | hd'
      · exact o.ds d' hd'
      · rw [List.mem_singleton.mp hd']
        exact ⟨h1, h2, by rw [h3]; trivial⟩
    · rw [if_neg c] at hi
      exact ok.rs i r hi
  · have : ((moreDoor h room d).1.map fun r => r.1.length) = h.1.map fun r => r.1.length := by
      unfold moreDoor
      rw [List.map_set]
      apply List.ext_getElem?
      intro i
      by_cases c : i = room
      · subst c
        rw [List.getElem?_set_self (by rw [List.length_map]; exact hr), List.getElem?_map, room_at hr]; rfl
      · rw [List.getElem?_set_ne (fun h => c h.symm)]
    rw [this]
    exact ok.nn
theorem more_first {h : House} {room : Nat} {d : Nat × Rule} (hr : room < h.1.length) : firstSit (moreDoor h room d) = firstSit h := by
  unfold firstSit
  rw [more_len]
  have : ∀ i, memFirst (moreDoor h room d) i = memFirst h i := fun i => by
    unfold memFirst
    rw [more_notes hr]
    rfl
  congr 1
  exact List.map_congr_left fun i _ => this i
theorem more_memAfter {h : House} {room : Nat} {d : Nat × Rule} (hr : room < h.1.length) (i : Nat) (m : Mem) (t : Touch) : memAfter (moreDoor h room d) i m t = memAfter h i m t := by
  unfold memAfter
  rw [more_notes hr]
  rfl
theorem more_after {h : House} {room : Nat} {d : Nat × Rule} (hr : room < h.1.length) (s : Sit) (st : Step) : sitAfter (moreDoor h room d) s st = sitAfter h s st := by
  unfold sitAfter
  rw [more_len]
  simp only [more_memAfter hr]
theorem more_door {h : House} {room : Nat} {d : Nat × Rule} (hr : room < h.1.length) (hlast : ∃ x ∈ (h.1.getD room ([], [])).2, x.2 = .free) (i : Nat) (m : Mem) (w : Nat) : doorIn (moreDoor h room d) i m w = doorIn h i m w := by
  unfold doorIn
  rw [more_getD hr]
  by_cases c : i = room
  · rw [if_pos c, c]
    simp only
    rw [List.findIdx?_append]
    obtain ⟨x, hx, hf⟩ := hlast
    have : ((h.1.getD room ([], [])).2.findIdx? fun d => lets d.2 m w).isSome = true := by
      rw [List.findIdx?_isSome, List.any_eq_true]
      exact ⟨x, hx, by rw [hf]; rfl⟩
    obtain ⟨j, hj⟩ := Option.isSome_iff_exists.mp this
    rw [hj]; rfl
  · rw [if_neg c]
theorem more_step {h : House} (ok : HouseOk h) {room : Nat} {d : Nat × Rule} (hr : room < h.1.length) (hlast : ∃ x ∈ (h.1.getD room ([], [])).2, x.2 = .free) (s : Sit) (w : Nat) : stepIn (moreDoor h room d) s w = stepIn h s w := by
  rw [stepIn_eq, stepIn_eq, more_door hr hlast]
  cases hd : doorIn h (s.1.getD w 0) (s.2.getD (s.1.getD w 0) []) w with
  | none => rfl
  | some j =>
    have hj : j < (h.1.getD (s.1.getD w 0) ([], [])).2.length := by
      unfold doorIn at hd
      exact (List.findIdx?_eq_some_iff_getElem.mp hd).1
    simp only [Option.map_some]
    rw [more_getD hr]
    by_cases c : s.1.getD w 0 = room
    · rw [if_pos c, c]
      rw [c] at hj
      have : ((h.1.getD room ([], [])).2 ++ [d]).getD j (0, .free) = (h.1.getD room ([], [])).2.getD j (0, .free) := by
        rw [List.getD_eq_getElem?_getD, List.getElem?_append_left hj, ← List.getD_eq_getElem?_getD]
      simp only [this]
    · rw [if_neg c]
theorem more_gone {h : House} (ok : HouseOk h) {room : Nat} {d : Nat × Rule} (hr : room < h.1.length) (hlast : ∃ x ∈ (h.1.getD room ([], [])).2, x.2 = .free) : ∀ (ws : List Nat) (s : Sit), gone (moreDoor h room d) s ws = gone h s ws
  | [], s => rfl
  | x :: ws, s => by
    rw [gone, gone, more_step ok hr hlast]
    show (if x < h.2.length then _ else _) = _
    by_cases c : x < h.2.length
    · rw [if_pos c, if_pos c]
      cases stepIn h s x with
      | none => rfl
      | some st =>
        simp only [more_after hr, more_gone ok hr hlast ws (sitAfter h s st)]
    · rw [if_neg c, if_neg c]
theorem eqv_free (r : Rule) : Val.eqv r.e (.tup [.str "free"]) = decide (r = .free) := by cases r <;> simp [Rule.e]
theorem set_splitG {α : Type} (l : List α) (w : Nat) (x : α) (hw : w < l.length) : l.set w x = l.take w ++ [x] ++ l.drop (w + 1) := by
  rw [List.set_eq_take_append_cons_drop, if_pos hw]
  simp
theorem r_unasked (hn : 18 ≤ n) (hS : SOk S) (l K : Nat) (hp : Pot S l K) (hK : K + 1 ≤ lim) (h : House) (ok : HouseOk h) (ws : List Nat) (hl : ws.length ≤ 300) (a : List Step) (s : Sit) (hg : Walks h ws a s) : ∃ S', run TBL F n j__law_unasked_right [.loc l, eHouse h, eNs ws] S = .ok (.bl true) S' ∧ Pot S' l (K + 1) ∧ Sm l S S' := by
  obtain ⟨m, rfl⟩ := succ_of (show 1 ≤ n by omega)
  rw [run__law_unasked_right]
  have hr2 := ok.r2
  have hr6 := ok.r6
  obtain ⟨room, S1, e1, ht, p1, m1⟩ := r_take (F := F) (n := m) (by omega) l K h.1.length hp (by omega) (by omega) (by omega)
  have hS1 := m1.ok hS p1
  refine ⟨S1, ?_, p1, m1⟩
  have hra := room_at ht
  have hro := ok.rs _ _ hra
  have hmo := fun d => more_ok (d := d) ok ht
  have hmg := fun (d : Nat × Rule) hlast => more_gone (d := d) ok ht hlast ws
  have hmf := fun d : Nat × Rule => more_first (d := d) ht
  have hme : ∀ d : Nat × Rule, (moreDoor h room d).1 = h.1.take room ++ [((h.1.getD room ([], [])).1, (h.1.getD room ([], [])).2 ++ [d])] ++ h.1.drop (room + 1) := fun d => set_splitG _ _ _ ht
  generalize h.1.getD room ([], []) = r at *
  have hi3 : (h.1.map eRoom)[room]? = some (.tup [eNotes r.1, .tup (r.2.map eDoor)]) := by
    rw [List.getElem?_map, hra]; rfl
  have hdsh : Val.shpAll 39 (r.2.map eDoor) = true := door_shp h.2.length r.1 r.2 fun d hd => (hro.ds d hd).2.2
  have hdnil : Val.eqvAll (r.2.map eDoor) [] = r.2.isEmpty := eqvAll_nil _ _
  have hlv := leave_le (v := .bl true) m1.1
  by_cases c4 : r.2.length = 4
  · have : ((r.2.length : Int) == 4) = true := by rw [c4]; rfl
    simp [b__law_unasked_right, hixh0, e1, hi3, this]
    exact hlv
  · have k4 : ((r.2.length : Int) == 4) = false := by
      rw [beq_eq_false_iff_ne]; omega
    by_cases ce : r.2 = []
    · have hE : r.2.isEmpty = true := by rw [ce]; rfl
      simp [b__law_unasked_right, hixh0, e1, hi3, k4, hdsh, hdnil, hE]
      exact hlv
    · have hE : r.2.isEmpty = false := by cases hq : r.2 with
        | nil => exact absurd hq ce
        | cons _ _ => rfl
      have hpos : 0 < r.2.length := List.length_pos_iff.mpr ce
      have hlast : r.2[r.2.length - 1]? = some (r.2.getD (r.2.length - 1) (0, .free)) := getD_some (by omega)
      have hmem := List.mem_of_getElem? hlast
      generalize r.2.getD (r.2.length - 1) (0, .free) = dl at *
      have hdo := hro.ds dl hmem
      have hrs : Val.shp 40 dl.2.e = true := Rule.shp h.2.length r.1 4 dl.2 hdo.2.2 40 (by omega)
      have hrd : rd S1 dl.2.e = dl.2.e := by cases dl.2 <;> rfl
      have hix : ∀ S1, ixV S1 (.tup (r.2.map eDoor)) (.int (-1)) = some (eDoor dl) := by
        intro S1; rw [x_ixT, atI_m1, List.length_map, List.getElem?_map, hlast]; rfl
      by_cases cf : dl.2 = .free
      · have qf := eqv_free dl.2
        rw [decide_eq_true cf] at qf
        have hmod : (room + 1) % h.1.length < h.1.length := Nat.mod_lt _ (by omega)
        have hmne : (room + 1) % h.1.length ≠ room := by
          by_cases c : room + 1 = h.1.length
          · rw [c, Nat.mod_self]; omega
          · rw [Nat.mod_eq_of_lt (by omega)]; omega
        have qm : binV .Mod (.int ((room : Int) + 1)) (.int (h.1.length : Int)) = some (iN ((room + 1) % h.1.length)) := by rw [b_mod _ _ (by omega)]; simp
        have ok2 := hmo ((room + 1) % h.1.length, .free) (by have := hro.dl; omega) hmod hmne rfl
        have hg2 := hmg ((room + 1) % h.1.length, .free) ⟨dl, hmem, cf⟩ (firstSit h)
        have hf2 := hmf ((room + 1) % h.1.length, .free)
        have he2 := hme ((room + 1) % h.1.length, .free)
        have hst2 : (moreDoor h room ((room + 1) % h.1.length, .free)).2 = h.2 := rfl
        have hw2 : gone (moreDoor h room ((room + 1) % h.1.length, .free)) (firstSit (moreDoor h room ((room + 1) % h.1.length, .free))) ws = (a, s, none) := by rw [hf2, hg2]; exact hg
        have f58 : run TBL F m 58 [eHouse h, eNs ws] S1 = .ok (.tup (eSteps a)) S1 := r_steps_of (by omega) hS1 h ok ws (by omega) hg
        have f59 : run TBL F m 59 [eHouse h, eNs ws] S1 = .ok (eSit s) S1 := r_situation_by (by omega) hS1 h ok ws (by omega) hg
        have g58 : run TBL F m 58 [eHouse (moreDoor h room ((room + 1) % h.1.length, .free)), eNs ws] S1 = .ok (.tup (eSteps a)) S1 := r_steps_of (by omega) hS1 _ ok2 ws (by omega) hw2
        have g59 : run TBL F m 59 [eHouse (moreDoor h room ((room + 1) % h.1.length, .free)), eNs ws] S1 = .ok (eSit s) S1 := r_situation_by (by omega) hS1 _ ok2 ws (by omega) hw2
        generalize (room + 1) % h.1.length = to at *
        have heq : eHouse (moreDoor h room (to, .free)) = .tup [.tup (((h.1.take room).map eRoom ++ [.tup [eNotes r.1, .tup (r.2.map eDoor ++ [.tup [iN to, .tup [.str "free"]]])]]) ++ (h.1.drop (room + 1)).map eRoom), eNs h.2] := by
          unfold eHouse
          rw [hst2, he2]
          simp [eRoom, eDoors, eDoor, Rule.e, -List.map_take, -List.map_drop]
        rw [heq] at g58 g59
        have a1 : binV .Add (.tup (r.2.map eDoor)) (.tup [.tup [iN to, .tup [.str "free"]]]) = some (.tup (r.2.map eDoor ++ [.tup [iN to, .tup [.str "free"]]])) := b_addT _ _ (by rw [sz, List.length_map]; simp; have := hro.dl; omega)
        generalize Val.tup (r.2.map eDoor ++ [.tup [iN to, .tup [.str "free"]]]) = nd at *
        have a2 : binV .Add (.tup ((h.1.take room).map eRoom)) (.tup [.tup [eNotes r.1, nd]]) = some (.tup ((h.1.take room).map eRoom ++ [.tup [eNotes r.1, nd]])) := b_addT _ _ (by rw [sz]; simp; omega)
        have a3 : binV .Add (.tup ((h.1.take room).map eRoom ++ [.tup [eNotes r.1, nd]])) (.tup ((h.1.drop (room + 1)).map eRoom)) = some (.tup (((h.1.take room).map eRoom ++ [.tup [eNotes r.1, nd]]) ++ (h.1.drop (room + 1)).map eRoom)) := b_addT _ _ (by rw [sz]; simp; omega)
        have c1 : cut (h.1.map eRoom) none (some (room : Int)) = (h.1.take room).map eRoom := by rw [cut_to, List.map_take]
        have c2 : cut (h.1.map eRoom) (some ((room : Int) + 1)) none = (h.1.drop (room + 1)).map eRoom := by
          rw [show (room : Int) + 1 = ((room + 1 : Nat) : Int) by omega, cut_from, List.map_drop]
        generalize Val.tup (((h.1.take room).map eRoom ++ [.tup [eNotes r.1, nd]]) ++ (h.1.drop (room + 1)).map eRoom) = nr at *
        have hq1 := eqv_steps a
        have hq2 := shp_steps a
        have hrds : rd S1 (eSit s) = eSit s := rfl
        have hgh : Val.eqv (.tup (eSteps a)) (.tup (eSteps a)) = true := hq1
        simp only [iN] at *
        simp [b__law_unasked_right, hixh0, hixh1, e1, hi3, k4, hdsh, hdnil, hE, hix, eDoor, hrs, hrd, qf, qm, a1, a2, a3, c1, c2, g58, f58, hq1, hq2, g59, f59, hrds, -List.map_take, -List.map_drop]
        exact hlv
      · have qf := eqv_free dl.2
        rw [decide_eq_false cf] at qf
        simp [b__law_unasked_right, hixh0, e1, hi3, k4, hdsh, hdnil, hE, hix, eDoor, hrs, hrd, qf]
        exact hlv
end
end Lt
set_option maxHeartbeats 4000000
namespace Lt
open PySem
def Pre (S S' : Store) : Prop := ∃ more, S' = S ++ more
theorem Pre.sm {S S' S2 : Store} {l : Nat} (h : Pre S S') (hl : S.length ≤ l) (h2 : Sm l S' S2) : Pre S S2 := by
  obtain ⟨more, rfl⟩ := h
  refine ⟨S2.drop S.length, ?_⟩
  have : S2.take S.length = S := by
    apply List.ext_getElem?
    intro i
    by_cases c : i < S.length
    · rw [List.getElem?_take_of_lt c, h2.2 i (by omega), List.getElem?_append_left c]
    · rw [List.getElem?_eq_none_iff.mpr (by rw [List.length_take]; omega), List.getElem?_eq_none_iff.mpr (by omega)]
  conv => lhs; rw [← List.take_append_drop S.length S2, this]
section
variable {F n : Nat} {S : Store}
theorem goings_at {h : House} (ok : HouseOk h) {ws : List Nat} {a : List Step} {s : Sit} (hg : Walks h ws a s) {w : Nat} (hw : w ∈ goings h s) : ∃ a' s', Walks h (ws ++ [w]) a' s' := by
  obtain ⟨h1, h2⟩ := goings_mem.mp hw
  obtain ⟨st, e⟩ := Option.isSome_iff_exists.mp h2
  exact ⟨_, _, gone_ok ws _ hg h1 e⟩
theorem r_law_walk (hn : 18 ≤ n) (hS : SOk S) (l K : Nat) (hp : Pot S l K) (hK : K + 10 ≤ lim) (h : House) (ok : HouseOk h) (v0 v1 v2 x6 x7 : Option Val) : FOk (fun env S' => ∃ (ws : List Nat) (a : List Step) (s : Sit) (x6 x7 : Option Val), env = [v0, v1, v2, some (.loc l), some (eHouse h), some (eNs ws), x6, x7] ∧ Walks h ws a s ∧ ws.length ≤ 10 ∧ Sm l S S' ∧ Pot S' l (K + 10)) (fun _ _ => False) (forGo (forB (run TBL F n) F (.v 6) bf_law_1) ((List.range 10).map iN) [v0, v1, v2, some (.loc l), some (eHouse h), some (eNs []), x6, x7] S) := by
  have key := forGo_inv (f := forB (run TBL F n) F (.v 6) bf_law_1) iN (fun k env S' => ∃ (ws : List Nat) (a : List Step) (s : Sit) (x6 x7 : Option Val), env = [v0, v1, v2, some (.loc l), some (eHouse h), some (eNs ws), x6, x7] ∧ Walks h ws a s ∧ ws.length ≤ k ∧ Sm l S S' ∧ Pot S' l (K + k)) (fun _ _ => False) (List.range 10) 0 (env := [v0, v1, v2, some (.loc l), some (eHouse h), some (eNs []), x6, x7]) (S := S) ⟨[], [], firstSit h, x6, x7, rfl, rfl, Nat.le_refl _, Sm.rfl, hp⟩ (by
    rintro k x env S' hk ⟨ws, a, s, y6, y7, rfl, hg, hl, hm, hp'⟩
    have hk1 := (List.getElem?_eq_some_iff.mp hk).1
    rw [List.length_range] at hk1
    rw [Nat.zero_add] at hl hp' ⊢
    have hS' := hm.ok hS hp'
    have so : SitOk h s := by have := gone_sit ok ws _ (firstSit_ok ok); rw [hg] at this; exact this
    have f59 : run TBL F n 59 [eHouse h, eNs ws] S' = .ok (eSit s) S' := r_situation_by (by omega) hS' h ok ws (by omega) hg
    have f52 : run TBL F n 52 [eHouse h, eSit s] S' = .ok (eNs (goings h s)) S' := r_going (by omega) hS' h ok s so
    have hgo := fun w hw => goings_at (w := w) ok hg hw
    have hgl : (goings h s).length ≤ 3 := by
      unfold goings
      rw [List.length_map]
      exact Nat.le_trans (List.length_filterMap_le _ _) (by rw [List.length_range]; exact ok.s3)
    generalize goings h s = g at *
    have hnil : Val.eqv (eNs g) (.tup []) = g.isEmpty := eqvAll_nil _ _
    by_cases ce : g = []
    · have hE : g.isEmpty = true := by rw [ce]; rfl
      simp [bf_law_1, f59, f52, hnil, hE]
      exact ⟨ws, rfl, ⟨a, s.1, s.2, hg⟩, by omega, hm, hp'.mono (by omega)⟩
    · have hE : g.isEmpty = false := by cases hq : g with
        | nil => exact absurd hq ce
        | cons _ _ => rfl
      obtain ⟨r, S2, e2, h2, p2, m2⟩ := r_take (F := F) (n := n) (by omega) l (K + k) g.length hp' (by omega) (List.length_pos_iff.mpr ce) (by omega)
      have hgr : g[r]? = some (g.getD r 0) := getD_at h2
      have hmem := List.mem_of_getElem? hgr
      generalize g.getD r 0 = w at *
      obtain ⟨a', s', hg'⟩ := hgo w hmem
      have b1 : binV .Add (eNs ws) (.tup [iN w]) = some (eNs (ws ++ [w])) := by
        unfold eNs
        rw [b_addT _ _ (by rw [sz, List.length_map]; simp; omega), List.map_append]; rfl
      simp [bf_law_1, f59, f52, hnil, hE, e2, hgr, b1]
      exact ⟨ws ++ [w], rfl, ⟨a', s'.1, s'.2, hg'⟩, by simp; omega, hm.trans m2, p2.mono (by omega)⟩)
  rw [List.length_range, Nat.zero_add] at key
  exact key
theorem r_law (hn : 19 ≤ n) (hS : SOk S) (xs : List Int) : run TBL F n j_law [.flst (xs.map .int)] S = .ok (.bl true) S := by
  obtain ⟨m, rfl⟩ := succ_of (show 1 ≤ n by omega)
  rw [run_law]
  obtain ⟨cells, e1, hc⟩ := r_law_folded (F := F) (n := m) (by omega) hS xs 4 (by omega) (by omega)
  rw [show ((4 : Nat) : Int) = 4 from rfl] at e1
  obtain ⟨M, hM, hM4⟩ : ∃ M : Nat, (if (cells.length : Int) > 1 then (cells.length : Int) else 1) = (M : Int) ∧ M ≤ 4 := by
    by_cases c : (cells.length : Int) > 1
    · exact ⟨cells.length, if_pos c, hc⟩
    · exact ⟨1, if_neg c, by omega⟩
  have hlim : lim = 1099511627776 := rfl
  have key := forGo_inv (f := forB (run TBL F m) F (.v 2) bf_law_2) iN (fun k env S' => ∃ (x2 x3 x4 x5 x6 x7 : Option Val), env = [some (.flst (xs.map .int)), some (.lst (cells.map .int)), x2, x3, x4, x5, x6, x7] ∧ SOk S' ∧ Pre S S') (fun _ _ => False) (List.range M) 0 (env := [some (.flst (xs.map .int)), some (.lst (cells.map .int)), none, none, none, none, none, none]) (S := S) ⟨_, _, _, _, _, _, rfl, hS, [], by simp⟩ (by
    rintro k x env S' hk ⟨x2, x3, x4, x5, x6, x7, rfl, hS', hpre⟩
    have hk' := List.getElem?_eq_some_iff.mp hk
    obtain ⟨hk1, hk2⟩ := hk'
    simp at hk1 hk2
    subst hk2
    obtain ⟨a, b, e2, hb⟩ := r_law_pot (F := F) (n := m) (by omega) hS' cells k (by omega)
    have p0 : Pot (S' ++ [.lst [iN a, iN b, iN 0]]) S'.length 0 := ⟨a, b, 0, by simp, hb, Nat.le_refl _⟩
    have hS0 : SOk (S' ++ [.lst [iN a, iN b, iN 0]]) := hS'.pushL rfl
    have hpre0 : Pre S (S' ++ [.lst [iN a, iN b, iN 0]]) := by obtain ⟨more, rfl⟩ := hpre; exact ⟨more ++ [.lst [iN a, iN b, iN 0]], by simp⟩
    have hle : S.length ≤ S'.length := by obtain ⟨more, rfl⟩ := hpre; simp
    obtain ⟨h, S1, e3, ok, _, p1, m1⟩ := r_law_house (F := F) (n := m) (by omega) hS0 S'.length 0 5 8 (by simp) p0 (by omega) (by omega) (by omega) (by omega)
    rw [show ((5 : Nat) : Int) = 5 from rfl, show ((8 : Nat) : Int) = 8 from rfl] at e3
    generalize hl : S'.length = l at *
    have hS1 := m1.ok hS0 p1
    have kw := r_law_walk (F := F) (n := m) (by omega) hS1 l (0 + 2000) p1 (by omega) h ok (some (.flst (xs.map .int))) (some (.lst (cells.map .int))) (some (iN k)) x6 x7
    refine FOk.elim kw (fun r => (forGo (forB (run TBL F m) F (.v 6) bf_law_1) ((List.range 10).map iN) [some (.flst (xs.map .int)), some (.lst (cells.map .int)), some (iN k), some (.loc l), some (eHouse h), some (eNs []), x6, x7] S1) = r → _) ?_ ?_ rfl
    · rintro env S2 ⟨ws, wa, s, y6, y7, rfl, hg, hwl, m2, p2⟩ hfor
      have hS2 := m2.ok hS1 p2
      have f69 : run TBL F m 69 [eHouse h, eNs ws] S2 = .ok (.bl true) S2 := r_walk_right (by omega) hS2 h ok ws (by omega) wa s hg
      obtain ⟨S3, f70, p3, m3⟩ := r_beginnings (F := F) (n := m) (by omega) hS2 l _ p2 (by omega) h ok ws (by omega) wa s hg
      have hS3 := m3.ok hS2 p3
      obtain ⟨S4, f71, p4, m4⟩ := r_unasked (F := F) (n := m) (by omega) hS3 l _ p3 (by omega) h ok ws (by omega) wa s hg
      have hS4 := m4.ok hS3 p4
      have hp4 : Pre S S4 := (((hpre0.sm hle m1).sm hle m2).sm hle m3).sm hle m4
      have rg := rangeV_nat 10 (by omega)
      have c10 : ((10 : Nat) : Int) = 10 := rfl
      have hn0 : Val.tup [] = eNs [] := rfl
      rw [c10] at rg
      simp only [iN, Int.natCast_zero] at *
      simp [bf_law_2, e2, e3, rg, hn0, hfor, f69, f70, f71]
      exact ⟨hS4, hp4⟩
    · intro v S' hf
      exact False.elim hf)
  refine FOk.elim key (fun r => (forGo (forB (run TBL F m) F (.v 2) bf_law_2) ((List.range M).map iN) [some (.flst (xs.map .int)), some (.lst (cells.map .int)), none, none, none, none, none, none] S) = r → _) ?_ ?_ rfl
  · rintro env S' ⟨x2, x3, x4, x5, x6, x7, rfl, hS', more, rfl⟩ hfor
    have rg := rangeV_nat M (by omega)
    simp only [gt_iff_lt] at hM
    simp [b_law, e1, hM, rg, hfor]
    exact leave_app hS rfl
  · intro v S' hf
    exact False.elim hf
end
end Lt
set_option maxHeartbeats 0
namespace Lt
open PySem PySem.Spec PyProof.Rows L2
theorem bd_0 : BndOk f_is_between (top 16) := fun _ _ _ _ _ _ us hl => match us, hl with | [_, _, _], _ => (rfl)
theorem bd_1 : BndOk f_is_who (top 17) := fun _ _ _ _ _ _ us hl => match us, hl with | [_, _], _ => (rfl)
theorem bd_2 : BndOk f_fits_came (top 18) := fun _ _ _ _ _ _ us hl => match us, hl with | [_, _, _], _ => (rfl)
theorem bd_3 : BndOk f_fits_round (top 19) := fun _ _ _ _ _ _ us hl => match us, hl with | [_, _, _], _ => (rfl)
theorem bd_4 : BndOk f_fits_since (top 20) := fun _ _ _ _ _ _ us hl => match us, hl with | [_, _, _], _ => (rfl)
theorem bd_5 : BndOk f_is_note_of (top 22) := fun _ _ _ _ _ _ us hl => match us, hl with | [_, _], _ => (rfl)
theorem bd_6 : BndOk f_most_in (top 23) := fun _ _ _ _ _ _ us hl => match us, hl with | [_, _], _ => (rfl)
theorem bd_7 : BndOk f_is_of (top 24) := fun _ _ _ _ _ _ us hl => match us, hl with | [_, _], _ => (rfl)
theorem bd_8 : BndOk f_more_by (top 25) := fun _ _ _ _ _ _ us hl => match us, hl with | [_, _, _], _ => (rfl)
theorem bd_9 : BndOk f_round_by (top 26) := fun _ _ _ _ _ _ us hl => match us, hl with | [_, _, _], _ => (rfl)
theorem bd_10 : BndOk f_last_by (top 27) := fun _ _ _ _ _ _ us hl => match us, hl with | [_, _, _], _ => (rfl)
theorem bd_11 : BndOk f_first_by (top 28) := fun _ _ _ _ _ _ us hl => match us, hl with | [_, _, _], _ => (rfl)
theorem bd_12 : BndOk f_since_by (top 29) := fun _ _ _ _ _ _ us hl => match us, hl with | [_, _, _], _ => (rfl)
theorem bd_13 : BndOk f_value_after (top 31) := fun _ _ _ _ _ _ us hl => match us, hl with | [_, _, _, _], _ => (rfl)
theorem bd_14 : BndOk f_are_notes (top 35) := fun _ _ _ _ _ _ us hl => match us, hl with | [_, _], _ => (rfl)
theorem bd_15 : BndOk f_are_walkers (top 36) := fun _ _ _ _ _ _ us hl => match us, hl with | [_, _], _ => (rfl)
theorem bd_16 : BndOk f_is_span (top 37) := fun _ _ _ _ _ _ us hl => match us, hl with | [_, _, _, _, _], _ => (rfl)
theorem bd_17 : BndOk f_fits_free (top 38) := fun _ _ _ _ _ _ us hl => match us, hl with | [_, _, _, _], _ => (rfl)
theorem bd_18 : BndOk f_fits_who (top 39) := fun _ _ _ _ _ _ us hl => match us, hl with | [_, _, _, _], _ => (rfl)
theorem bd_19 : BndOk f_fits_note (top 40) := fun _ _ _ _ _ _ us hl => match us, hl with | [_, _, _, _], _ => (rfl)
theorem bd_20 : BndOk f_fits_mine (top 41) := fun _ _ _ _ _ _ us hl => match us, hl with | [_, _, _, _], _ => (rfl)
theorem bd_21 : BndOk f_fits_one (top 42) := fun _ _ _ _ _ _ us hl => match us, hl with | [_, _, _, _], _ => (rfl)
theorem bd_22 : BndOk f_fits_two (top 43) := fun _ _ _ _ _ _ us hl => match us, hl with | [_, _, _, _], _ => (rfl)
theorem bd_23 : BndOk f_is_rule_of (top 45) := fun _ _ _ _ _ _ us hl => match us, hl with | [_, _, _, _], _ => (rfl)
theorem bd_24 : BndOk f_lets (top 46) := fun _ _ _ _ _ _ us hl => match us, hl with | [_, _, _], _ => (rfl)
theorem bd_25 : BndOk f_is_memory_of (top 47) := fun _ _ _ _ _ _ us hl => match us, hl with | [_, _, _], _ => (rfl)
theorem bd_26 : BndOk f_is_door_of (top 52) := fun _ _ _ _ _ _ us hl => match us, hl with | [_, _, _, _, _], _ => (rfl)
theorem bd_27 : BndOk f_is_room_of (top 53) := fun _ _ _ _ _ _ us hl => match us, hl with | [_, _, _, _], _ => (rfl)
theorem bd_28 : BndOk f_is_house (top 54) := fun _ _ _ _ _ _ us hl => match us, hl with | [_], _ => (rfl)
theorem bd_29 : BndOk f_need_house (top 55) := fun _ _ _ _ _ _ us hl => match us, hl with | [_], _ => (rfl)
theorem bd_30 : BndOk f_need_room (top 56) := fun _ _ _ _ _ _ us hl => match us, hl with | [_, _], _ => (rfl)
theorem bd_31 : BndOk f_need_walker (top 57) := fun _ _ _ _ _ _ us hl => match us, hl with | [_, _], _ => (rfl)
theorem bd_32 : BndOk f_need_memory (top 58) := fun _ _ _ _ _ _ us hl => match us, hl with | [_, _, _], _ => (rfl)
theorem bd_33 : BndOk f_is_touch_of (top 59) := fun _ _ _ _ _ _ us hl => match us, hl with | [_, _, _], _ => (rfl)
theorem bd_34 : BndOk f_memory_at_first (top 60) := fun _ _ _ _ _ _ us hl => match us, hl with | [_, _], _ => (rfl)
theorem bd_35 : BndOk f_first_memory (top 61) := fun _ _ _ _ _ _ us hl => match us, hl with | [_, _], _ => (rfl)
theorem bd_36 : BndOk f_first_values (top 62) := fun _ _ _ _ _ _ us hl => match us, hl with | [_], _ => (rfl)
theorem bd_37 : BndOk f_memory_in (top 63) := fun _ _ _ _ _ _ us hl => match us, hl with | [_, _, _], _ => (rfl)
theorem bd_38 : BndOk f_memory_after (top 64) := fun _ _ _ _ _ _ us hl => match us, hl with | [_, _, _, _], _ => (rfl)
theorem bd_39 : BndOk f_memory_behind (top 65) := fun _ _ _ _ _ _ us hl => match us, hl with | [_, _, _, _], _ => (rfl)
theorem bd_40 : BndOk f_door_in (top 66) := fun _ _ _ _ _ _ us hl => match us, hl with | [_, _, _, _], _ => (rfl)
theorem bd_41 : BndOk f_door_by (top 67) := fun _ _ _ _ _ _ us hl => match us, hl with | [_, _, _, _], _ => (rfl)
theorem bd_42 : BndOk f_first_of (top 70) := fun _ _ _ _ _ _ us hl => match us, hl with | [_], _ => (rfl)
theorem bd_43 : BndOk f_heres_of (top 71) := fun _ _ _ _ _ _ us hl => match us, hl with | [_, _], _ => (rfl)
theorem bd_44 : BndOk f_are_places (top 72) := fun _ _ _ _ _ _ us hl => match us, hl with | [_, _], _ => (rfl)
theorem bd_45 : BndOk f_are_values (top 73) := fun _ _ _ _ _ _ us hl => match us, hl with | [_, _, _], _ => (rfl)
theorem bd_46 : BndOk f_is_situation_of (top 74) := fun _ _ _ _ _ _ us hl => match us, hl with | [_, _], _ => (rfl)
theorem bd_47 : BndOk f_need_situation (top 75) := fun _ _ _ _ _ _ us hl => match us, hl with | [_, _], _ => (rfl)
theorem bd_48 : BndOk f_step_in (top 76) := fun _ _ _ _ _ _ us hl => match us, hl with | [_, _, _], _ => (rfl)
theorem bd_49 : BndOk f_situation_after (top 77) := fun _ _ _ _ _ _ us hl => match us, hl with | [_, _, _], _ => (rfl)
theorem bd_50 : BndOk f_steps_in (top 78) := fun _ _ _ _ _ _ us hl => match us, hl with | [_, _], _ => (rfl)
theorem bd_51 : BndOk f_step_by (top 79) := fun _ _ _ _ _ _ us hl => match us, hl with | [_, _, _], _ => (rfl)
theorem bd_52 : BndOk f_going (top 80) := fun _ _ _ _ _ _ us hl => match us, hl with | [_, _], _ => (rfl)
theorem bd_53 : BndOk f_behind (top 81) := fun _ _ _ _ _ _ us hl => match us, hl with | [_, _, _], _ => (rfl)
theorem bd_54 : BndOk f_Gone___init__ (kid (top 82) 0) := fun _ _ _ _ _ _ us hl => match us, hl with | [_, _, _], _ => (rfl)
theorem bd_55 : BndOk f_Gone_go_on (kid (top 82) 1) := fun _ _ _ _ _ _ us hl => match us, hl with | [_, _, _], _ => (rfl)
theorem bd_56 : BndOk f_is_walk (top 83) := fun _ _ _ _ _ _ us hl => match us, hl with | [_, _], _ => (rfl)
theorem bd_57 : BndOk f_gone_by (top 84) := fun _ _ _ _ _ _ us hl => match us, hl with | [_, _], _ => (rfl)
theorem bd_58 : BndOk f_steps_of (top 85) := fun _ _ _ _ _ _ us hl => match us, hl with | [_, _], _ => (rfl)
theorem bd_59 : BndOk f_situation_by (top 86) := fun _ _ _ _ _ _ us hl => match us, hl with | [_, _], _ => (rfl)
theorem bd_60 : BndOk f__law_pot (top 88) := fun _ _ _ _ _ _ us hl => match us, hl with | [_, _], _ => (rfl)
theorem bd_61 : BndOk f__law_take (top 89) := fun _ _ _ _ _ _ us hl => match us, hl with | [_, _], _ => (rfl)
theorem bd_62 : BndOk f__law_folded (top 90) := fun _ _ _ _ _ _ us hl => match us, hl with | [_, _], _ => (rfl)
theorem bd_63 : BndOk f__law_note (top 91) := fun _ _ _ _ _ _ us hl => match us, hl with | [_, _], _ => (rfl)
theorem bd_64 : BndOk f__law_most (top 92) := fun _ _ _ _ _ _ us hl => match us, hl with | [_, _], _ => (rfl)
theorem bd_65 : BndOk f__law_rule (top 93) := fun _ _ _ _ _ _ us hl => match us, hl with | [_, _, _, _], _ => (rfl)
theorem bd_66 : BndOk f__law_house (top 94) := fun _ _ _ _ _ _ us hl => match us, hl with | [_, _, _], _ => (rfl)
theorem bd_67 : BndOk f__law_touched (top 95) := fun _ _ _ _ _ _ us hl => match us, hl with | [_, _, _], _ => (rfl)
theorem bd_68 : BndOk f__law_stands (top 96) := fun _ _ _ _ _ _ us hl => match us, hl with | [_, _, _, _], _ => (rfl)
theorem bd_69 : BndOk f__law_walk_right (top 97) := fun _ _ _ _ _ _ us hl => match us, hl with | [_, _], _ => (rfl)
theorem bd_70 : BndOk f__law_beginnings_right (top 98) := fun _ _ _ _ _ _ us hl => match us, hl with | [_, _, _], _ => (rfl)
theorem bd_71 : BndOk f__law_unasked_right (top 99) := fun _ _ _ _ _ _ us hl => match us, hl with | [_, _, _], _ => (rfl)
theorem bd_72 : BndOk f_law (top 100) := fun _ _ _ _ _ _ us hl => match us, hl with | [_], _ => (rfl)
theorem bndAll : ∀ (j : Nat) (fi : FI), TBL[j]? = some fi → ∃ st, ST[j]? = some st ∧ BndOk fi st
  | 0, _, h => ⟨(top 16), rfl, (Option.some.inj (show some f_is_between = _ from h)) ▸ bd_0⟩
  | 1, _, h => ⟨(top 17), rfl, (Option.some.inj (show some f_is_who = _ from h)) ▸ bd_1⟩
  | 2, _, h => ⟨(top 18), rfl, (Option.some.inj (show some f_fits_came = _ from h)) ▸ bd_2⟩
  | 3, _, h => ⟨(top 19), rfl, (Option.some.inj (show some f_fits_round = _ from h)) ▸ bd_3⟩
  | 4, _, h => ⟨(top 20), rfl, (Option.some.inj (show some f_fits_since = _ from h)) ▸ bd_4⟩
  | 5, _, h => ⟨(top 22), rfl, (Option.some.inj (show some f_is_note_of = _ from h)) ▸ bd_5⟩
  | 6, _, h => ⟨(top 23), rfl, (Option.some.inj (show some f_most_in = _ from h)) ▸ bd_6⟩
  | 7, _, h => ⟨(top 24), rfl, (Option.some.inj (show some f_is_of = _ from h)) ▸ bd_7⟩
  | 8, _, h => ⟨(top 25), rfl, (Option.some.inj (show some f_more_by = _ from h)) ▸ bd_8⟩
  | 9, _, h => ⟨(top 26), rfl, (Option.some.inj (show some f_round_by = _ from h)) ▸ bd_9⟩
  | 10, _, h => ⟨(top 27), rfl, (Option.some.inj (show some f_last_by = _ from h)) ▸ bd_10⟩
  | 11, _, h => ⟨(top 28), rfl, (Option.some.inj (show some f_first_by = _ from h)) ▸ bd_11⟩
  | 12, _, h => ⟨(top 29), rfl, (Option.some.inj (show some f_since_by = _ from h)) ▸ bd_12⟩
  | 13, _, h => ⟨(top 31), rfl, (Option.some.inj (show some f_value_after = _ from h)) ▸ bd_13⟩
  | 14, _, h => ⟨(top 35), rfl, (Option.some.inj (show some f_are_notes = _ from h)) ▸ bd_14⟩
  | 15, _, h => ⟨(top 36), rfl, (Option.some.inj (show some f_are_walkers = _ from h)) ▸ bd_15⟩
  | 16, _, h => ⟨(top 37), rfl, (Option.some.inj (show some f_is_span = _ from h)) ▸ bd_16⟩
  | 17, _, h => ⟨(top 38), rfl, (Option.some.inj (show some f_fits_free = _ from h)) ▸ bd_17⟩
  | 18, _, h => ⟨(top 39), rfl, (Option.some.inj (show some f_fits_who = _ from h)) ▸ bd_18⟩
  | 19, _, h => ⟨(top 40), rfl, (Option.some.inj (show some f_fits_note = _ from h)) ▸ bd_19⟩
  | 20, _, h => ⟨(top 41), rfl, (Option.some.inj (show some f_fits_mine = _ from h)) ▸ bd_20⟩
  | 21, _, h => ⟨(top 42), rfl, (Option.some.inj (show some f_fits_one = _ from h)) ▸ bd_21⟩
  | 22, _, h => ⟨(top 43), rfl, (Option.some.inj (show some f_fits_two = _ from h)) ▸ bd_22⟩
  | 23, _, h => ⟨(top 45), rfl, (Option.some.inj (show some f_is_rule_of = _ from h)) ▸ bd_23⟩
  | 24, _, h => ⟨(top 46), rfl, (Option.some.inj (show some f_lets = _ from h)) ▸ bd_24⟩
  | 25, _, h => ⟨(top 47), rfl, (Option.some.inj (show some f_is_memory_of = _ from h)) ▸ bd_25⟩
  | 26, _, h => ⟨(top 52), rfl, (Option.some.inj (show some f_is_door_of = _ from h)) ▸ bd_26⟩
  | 27, _, h => ⟨(top 53), rfl, (Option.some.inj (show some f_is_room_of = _ from h)) ▸ bd_27⟩
  | 28, _, h => ⟨(top 54), rfl, (Option.some.inj (show some f_is_house = _ from h)) ▸ bd_28⟩
  | 29, _, h => ⟨(top 55), rfl, (Option.some.inj (show some f_need_house = _ from h)) ▸ bd_29⟩
  | 30, _, h => ⟨(top 56), rfl, (Option.some.inj (show some f_need_room = _ from h)) ▸ bd_30⟩
  | 31, _, h => ⟨(top 57), rfl, (Option.some.inj (show some f_need_walker = _ from h)) ▸ bd_31⟩
  | 32, _, h => ⟨(top 58), rfl, (Option.some.inj (show some f_need_memory = _ from h)) ▸ bd_32⟩
  | 33, _, h => ⟨(top 59), rfl, (Option.some.inj (show some f_is_touch_of = _ from h)) ▸ bd_33⟩
  | 34, _, h => ⟨(top 60), rfl, (Option.some.inj (show some f_memory_at_first = _ from h)) ▸ bd_34⟩
  | 35, _, h => ⟨(top 61), rfl, (Option.some.inj (show some f_first_memory = _ from h)) ▸ bd_35⟩
  | 36, _, h => ⟨(top 62), rfl, (Option.some.inj (show some f_first_values = _ from h)) ▸ bd_36⟩
  | 37, _, h => ⟨(top 63), rfl, (Option.some.inj (show some f_memory_in = _ from h)) ▸ bd_37⟩
  | 38, _, h => ⟨(top 64), rfl, (Option.some.inj (show some f_memory_after = _ from h)) ▸ bd_38⟩
  | 39, _, h => ⟨(top 65), rfl, (Option.some.inj (show some f_memory_behind = _ from h)) ▸ bd_39⟩
  | 40, _, h => ⟨(top 66), rfl, (Option.some.inj (show some f_door_in = _ from h)) ▸ bd_40⟩
  | 41, _, h => ⟨(top 67), rfl, (Option.some.inj (show some f_door_by = _ from h)) ▸ bd_41⟩
  | 42, _, h => ⟨(top 70), rfl, (Option.some.inj (show some f_first_of = _ from h)) ▸ bd_42⟩
  | 43, _, h => ⟨(top 71), rfl, (Option.some.inj (show some f_heres_of = _ from h)) ▸ bd_43⟩
  | 44, _, h => ⟨(top 72), rfl, (Option.some.inj (show some f_are_places = _ from h)) ▸ bd_44⟩
  | 45, _, h => ⟨(top 73), rfl, (Option.some.inj (show some f_are_values = _ from h)) ▸ bd_45⟩
  | 46, _, h => ⟨(top 74), rfl, (Option.some.inj (show some f_is_situation_of = _ from h)) ▸ bd_46⟩
  | 47, _, h => ⟨(top 75), rfl, (Option.some.inj (show some f_need_situation = _ from h)) ▸ bd_47⟩
  | 48, _, h => ⟨(top 76), rfl, (Option.some.inj (show some f_step_in = _ from h)) ▸ bd_48⟩
  | 49, _, h => ⟨(top 77), rfl, (Option.some.inj (show some f_situation_after = _ from h)) ▸ bd_49⟩
  | 50, _, h => ⟨(top 78), rfl, (Option.some.inj (show some f_steps_in = _ from h)) ▸ bd_50⟩
  | 51, _, h => ⟨(top 79), rfl, (Option.some.inj (show some f_step_by = _ from h)) ▸ bd_51⟩
  | 52, _, h => ⟨(top 80), rfl, (Option.some.inj (show some f_going = _ from h)) ▸ bd_52⟩
  | 53, _, h => ⟨(top 81), rfl, (Option.some.inj (show some f_behind = _ from h)) ▸ bd_53⟩
  | 54, _, h => ⟨(kid (top 82) 0), rfl, (Option.some.inj (show some f_Gone___init__ = _ from h)) ▸ bd_54⟩
  | 55, _, h => ⟨(kid (top 82) 1), rfl, (Option.some.inj (show some f_Gone_go_on = _ from h)) ▸ bd_55⟩
  | 56, _, h => ⟨(top 83), rfl, (Option.some.inj (show some f_is_walk = _ from h)) ▸ bd_56⟩
  | 57, _, h => ⟨(top 84), rfl, (Option.some.inj (show some f_gone_by = _ from h)) ▸ bd_57⟩
  | 58, _, h => ⟨(top 85), rfl, (Option.some.inj (show some f_steps_of = _ from h)) ▸ bd_58⟩
  | 59, _, h => ⟨(top 86), rfl, (Option.some.inj (show some f_situation_by = _ from h)) ▸ bd_59⟩
  | 60, _, h => ⟨(top 88), rfl, (Option.some.inj (show some f__law_pot = _ from h)) ▸ bd_60⟩
  | 61, _, h => ⟨(top 89), rfl, (Option.some.inj (show some f__law_take = _ from h)) ▸ bd_61⟩
  | 62, _, h => ⟨(top 90), rfl, (Option.some.inj (show some f__law_folded = _ from h)) ▸ bd_62⟩
  | 63, _, h => ⟨(top 91), rfl, (Option.some.inj (show some f__law_note = _ from h)) ▸ bd_63⟩
  | 64, _, h => ⟨(top 92), rfl, (Option.some.inj (show some f__law_most = _ from h)) ▸ bd_64⟩
  | 65, _, h => ⟨(top 93), rfl, (Option.some.inj (show some f__law_rule = _ from h)) ▸ bd_65⟩
  | 66, _, h => ⟨(top 94), rfl, (Option.some.inj (show some f__law_house = _ from h)) ▸ bd_66⟩
  | 67, _, h => ⟨(top 95), rfl, (Option.some.inj (show some f__law_touched = _ from h)) ▸ bd_67⟩
  | 68, _, h => ⟨(top 96), rfl, (Option.some.inj (show some f__law_stands = _ from h)) ▸ bd_68⟩
  | 69, _, h => ⟨(top 97), rfl, (Option.some.inj (show some f__law_walk_right = _ from h)) ▸ bd_69⟩
  | 70, _, h => ⟨(top 98), rfl, (Option.some.inj (show some f__law_beginnings_right = _ from h)) ▸ bd_70⟩
  | 71, _, h => ⟨(top 99), rfl, (Option.some.inj (show some f__law_unasked_right = _ from h)) ▸ bd_71⟩
  | 72, _, h => ⟨(top 100), rfl, (Option.some.inj (show some f_law = _ from h)) ▸ bd_72⟩
  | n + 73, _, h => by cases h
theorem mAll : mDs PXX TBL ST = true := by decide +kernel
theorem clAll : clB PXX CLS = true := by decide +kernel
theorem law_fn {w : World} {K : PySem.W.Frag} {mg : Str → Option Value} {h : Heap} {fa : Addr} (X : K.In h) (G : h.Ns mainGlobals mg) (hmg : mg "law" = some (.ref fa)) (c : He.SaysT (faOf PXX CLS) (fnOfT TBL ST) (tsOf PXX) w K) (ex : exB TBL TB K = true) :
    ∃ fd : FuncData, (∀ (s : Shared) (u : Value), BindsTo s fd ⟨[u], []⟩ [("script", u)]) ∧ ∀ base : Heap, K.In base → base.Ns mainGlobals mg → FnOk (PySem.Challenge.rw_wardwide_k11_whole_walks_by_rooms).prog w K mg base (L2.CX (PySem.Challenge.rw_wardwide_k11_whole_walks_by_rooms).prog w) (3 * (29 + 1)) fa fd ["script"] (spR ((kOf PXX (gOf PXX CLS K) 0 (29 + 1)).hide []) 72) := by
  have hj : TBL[72]? = some f_law := rfl
  have hst : ST[72]? = some (top 100) := rfl
  obtain ⟨fd, F⟩ := c.d.def_ 72 (d := dd f_law (top 100)) rfl
  have F : FunD K "law" "law" (defArgs (top 100)) (defBody (top 100)) (defScope (top 100)) [] [] (He.ga K "law") fd := F
  have hmd := mDs_at mAll 72 f_law (top 100) hj hst
  unfold mD at hmd
  rw [Bool.and_eq_true] at hmd
  refine ⟨fd, fun s u => F.bindsA (ps := ["script"]) bd_72 s [u] rfl, fun base hb hg => ?_⟩
  have t : Tab PXX (PySem.Challenge.rw_wardwide_k11_whole_walks_by_rooms).prog w K mg base (gOf PXX CLS K) := Tab.of X G c ex mAll bndAll clAll
  obtain ⟨f, fd', st, h1, h2, h3, h4, h5, h6, h7, h8⟩ := t.df 72 f_law hj
  have e := (h7 rfl).symm.trans hmg
  have e2 : f = fa := by injection e with e; injection e
  have e3 : (gOf PXX CLS K).fa 72 = some (He.ga K "law") := rfl
  rw [h1] at e3
  have e4 : f = He.ga K "law" := Option.some.inj e3
  subst e2
  rw [e4]
  exact Tab.one (F := 0) t 29 (j := 72) (fi := f_law) hj (fun_of F) (scB_ok hmd.2) hmd.1 []
end Lt
open PySem PySem.W PySem.Calls PyProof.Rows
theorem PySem.Challenge.cw_wardwide_k11_whole_walks_by_rooms_holds : PySem.Challenge.rw_wardwide_k11_whole_walks_by_rooms.Holds := by
  w_on; o_law
  refine HandSHeadRun.head_any (r := OpenLaw.row PySem.Challenge.rw_wardwide_k11_whole_walks_by_rooms) (q := view (OpenLaw.row PySem.Challenge.rw_wardwide_k11_whole_walks_by_rooms).prog [100]) (H := Lt.hk) (ob := Lt.ob) (M := 6000) (loose := Lt.loose) (d := HandSHeadRun.topDef (OpenLaw.row PySem.Challenge.rw_wardwide_k11_whole_walks_by_rooms).prog 100) (kwd := []) Lt.ob_eq
    (by kernel_rfl) (fun s => by kernel_rfl) Lt.runW (by kernel_rfl) (by kernel_rfl) (by kernel_rfl) (by rfl) (by first | assumption | decide +kernel) (by decide +kernel) ⟨rfl, rfl, rfl, rfl, rfl, by decide +kernel⟩ ?hw ?hc
  case hw => w_witness2
  case hc =>
    refine Lt.walk_ofW (l := PySem.Challenge.rw_wardwide_k11_whole_walks_by_rooms) (n := 63) (k := 3 * (29 + 1)) (x := "script") (CX := fun w => L2.CX (PySem.Challenge.rw_wardwide_k11_whole_walks_by_rooms).prog w) rfl (by decide) (by kernel_rfl) ⟨rfl, by decide, by decide⟩ ?F (fun _ _ _ _ _ h => Lt.noCX h)
    intro w mg fa h Y G hmg0
    obtain ⟨K, KX, c, ex⟩ := Y
    have hmg : mg ("law" : PySem.Str) = some (.ref fa) := by
      have e : (HandSHeadRun.topDef (OpenLaw.row PySem.Challenge.rw_wardwide_k11_whole_walks_by_rooms).prog 100).name = ("law" : PySem.Str) := by kernel_rfl
      rw [← e]
      exact hmg0
    obtain ⟨fd, hb, hF⟩ := Lt.law_fn (w := w) KX G hmg c ex
    exact ⟨K, fd, _, KX, hb, fun H a ns hl _ hS => Lt.law_sp (k := (Lt.kOf Lt.PXX (Lt.gOf Lt.PXX Lt.CLS K) 0 (29 + 1)).hide []) (j := 72) rfl (fun xs => Lt.r_law (F := 0) (n := 30) (by decide) (show Lt.SOk [] from rfl) xs) H a ns (Nat.le_trans hl (by decide)) hS, hF⟩
