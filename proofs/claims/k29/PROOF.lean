import PyProof.Rows.All
import Wide.All
import OpenK.AllK
import Wide.FinOn
import HandS.ForMost
import HandS.ForExc
import HandS.Walk
import HandS.Flow
import HandS.CallSlots
import HandS.TryMany
import HandS.SortInts
import HandS.TupAny
import HandS.TupMul
import HandS.Zip
import HandS.DictComp
import HandS.IsInst
import KE.DataMinMax
import HandS.More
import HandS.ExcField
import HandS.ExcSuper
import PyProof.ReprRoads
import KE.GoesEnum
import HandS.Ends
import HandS.EndBits
import HandS.Defaults
import KE.KExcSuper
import HandS.Exc
import HandS.HeadWalk
import HandS.HeadHook2
import HandS.Conv
import KE.KExcIs
import HandS.ExcIs
import HandS.Deep
import HandS.Iter
import HandS.Style
import KE.KStateDown
import HandS.Head0
import HandS.Head1
import HandS.Head2
import HandS.HeadEnd
import PySem.Challenge.RW_timewrought_k29_whole_clocks_of_towns
/-! part InA -/
set_option Elab.async false
set_option linter.all false
set_option maxRecDepth 100000
/-! The small language: plain data, a store of live lists and dicts, expressions, statements, and what they do. -/
namespace In
open PySem

/-! ### equality of data -/
mutual
def deqB : PyData → PyData → Bool
  | .none, .none => true
  | .bool a, .bool b => a == b
  | .int i, .int j => decide (i = j)
  | .str x, .str y => decide (x = y)
  | .list xs, .list ys => deqL xs ys
  | .tuple xs, .tuple ys => deqL xs ys
  | .dict ks, .dict ls => deqK ks ls
  | _, _ => false
def deqL : List PyData → List PyData → Bool
  | [], [] => true
  | x :: xs, y :: ys => deqB x y && deqL xs ys
  | _, _ => false
def deqK : List (PyData × PyData) → List (PyData × PyData) → Bool
  | [], [] => true
  | (k, v) :: r, (k', v') :: r' => deqB k k' && deqB v v' && deqK r r'
  | _, _ => false
end
mutual
theorem deqB_iff : ∀ x y : PyData, deqB x y = true ↔ x = y
  | .none, y => by cases y <;> simp [deqB]
  | .bool a, y => by cases y <;> simp [deqB]
  | .int a, y => by cases y <;> simp [deqB]
  | .str a, y => by cases y <;> simp [deqB]
  | .list xs, y => by
    cases y with
    | list ys => simp only [deqB, PyData.list.injEq]; exact deqL_iff xs ys
    | _ => simp [deqB]
  | .tuple xs, y => by
    cases y with
    | tuple ys => simp only [deqB, PyData.tuple.injEq]; exact deqL_iff xs ys
    | _ => simp [deqB]
  | .dict xs, y => by
    cases y with
    | dict ys => simp only [deqB, PyData.dict.injEq]; exact deqK_iff xs ys
    | _ => simp [deqB]
theorem deqL_iff : ∀ xs ys : List PyData, deqL xs ys = true ↔ xs = ys
  | [], [] => by simp [deqL]
  | [], _ :: _ => by simp [deqL]
  | _ :: _, [] => by simp [deqL]
  | x :: xs, y :: ys => by
    have h1 := deqB_iff x y
    have h2 := deqL_iff xs ys
    simp only [deqL, Bool.and_eq_true, List.cons.injEq, h1, h2]
theorem deqK_iff : ∀ xs ys : List (PyData × PyData), deqK xs ys = true ↔ xs = ys
  | [], [] => by simp [deqK]
  | [], _ :: _ => by simp [deqK]
  | _ :: _, [] => by simp [deqK]
  | (k, v) :: xs, (k', v') :: ys => by
    have h1 := deqB_iff k k'
    have h2 := deqB_iff v v'
    have h3 := deqK_iff xs ys
    simp only [deqK, Bool.and_eq_true, List.cons.injEq, Prod.mk.injEq, h1, h2, h3]
end
instance : DecidableEq PyData := fun x y => decidable_of_iff _ (deqB_iff x y)

/-- a value: plain data, or a live container -/
inductive Vl where
  | d (x : PyData)
  | loc (n : Nat)
inductive MO where
  | lst (xs : List PyData)
  | dct (kvs : List (PyData × PyData))
  deriving DecidableEq
def MO.data : MO → PyData
  | .lst xs => .list xs
  | .dct kvs => .dict kvs
structure Cell where
  live : Bool
  obj : MO
  deriving DecidableEq
abbrev Sto := List Cell
inductive R (α : Type) where
  | no
  | ok (a : α) (S : Sto)
  | ex (c : Str) (x : PyData) (S : Sto)
def R.bind {α β : Type} : R α → (α → Sto → R β) → R β
  | .no, _ => .no
  | .ok a S, k => k a S
  | .ex c x S, _ => .ex c x S
/-- where nothing may be raised -/
def R.calm {α : Type} : R α → R α
  | .ex _ _ _ => .no
  | r => r
def R.opt {α : Type} (o : Option α) (S : Sto) : R α := match o with
  | some a => .ok a S
  | none => .no
@[simp] theorem R.bind_ok {α β : Type} (a : α) (S : Sto) (k : α → Sto → R β) : (R.ok a S).bind k = k a S := rfl
@[simp] theorem R.bind_no {α β : Type} (k : α → Sto → R β) : (R.no : R α).bind k = .no := rfl
@[simp] theorem R.bind_ex {α β : Type} (c : Str) (x : PyData) (S : Sto) (k : α → Sto → R β) : (R.ex c x S : R α).bind k = .ex c x S := rfl
@[simp] theorem R.calm_ok {α : Type} (a : α) (S : Sto) : (R.ok a S).calm = .ok a S := rfl
@[simp] theorem R.opt_some {α : Type} (a : α) (S : Sto) : R.opt (some a) S = .ok a S := rfl
@[simp] theorem R.opt_none {α : Type} (S : Sto) : R.opt (none : Option α) S = .no := rfl

def view (S : Sto) : Vl → Option PyData
  | .d x => some x
  | .loc n => (S[n]?).map fun c => c.obj.data
@[simp] theorem view_d (S : Sto) (x : PyData) : view S (.d x) = some x := rfl
/-- the value as plain data: a container is closed -/
def shut (S : Sto) : Vl → R PyData
  | .d x => .ok x S
  | .loc n => match S[n]? with
    | some c => .ok c.obj.data (S.set n ⟨false, c.obj⟩)
    | none => .no
@[simp] theorem shut_d (S : Sto) (x : PyData) : shut S (.d x) = .ok x S := rfl
abbrev Env := List (Option Vl)
abbrev Fns := Nat → List Vl → Sto → R PyData

/-! ### what operators and built-ins do with data -/
inductive B2 where
  | add | sub | mul | fdiv | mod | pow | shl | shr | band
inductive C2 where
  | eq | ne | lt | le | gt | ge | isin | notin | is_ | isnot
inductive U1 where
  | neg | abs | len | int | tuple | list | sorted | dict | repr | sum | max | min | all | any
inductive U2 where
  | max | min | get | index | count | range
def ints? : List PyData → Option (List Int)
  | [] => some []
  | .int i :: r => (ints? r).map (i :: ·)
  | _ :: _ => none
def bools? : List PyData → Option (List Bool)
  | [] => some []
  | .bool i :: r => (bools? r).map (i :: ·)
  | _ :: _ => none
def small (i : Int) : Bool := decide (-(2 ^ 64) < i) && decide (i < 2 ^ 64)
def fits (n : Nat) : Bool := decide (n ≤ 16777216)
def binop : B2 → PyData → PyData → Option PyData
  | .add, .int i, .int j => some (.int (i + j))
  | .add, .list xs, .list ys => if fits (xs.length + ys.length) then some (.list (xs ++ ys)) else none
  | .add, .tuple xs, .tuple ys => if fits (xs.length + ys.length) then some (.tuple (xs ++ ys)) else none
  | .sub, .int i, .int j => some (.int (i - j))
  | .mul, .int i, .int j => if small i || small j then some (.int (i * j)) else none
  | .mul, .list xs, .int k => if decide (-(2 ^ 62) ≤ k) && decide (k < 2 ^ 62) && fits (xs.length * k.toNat) then some (.list (List.replicate k.toNat xs).flatten) else none
  | .mul, .tuple xs, .int k => if decide (k = 1) then some (.tuple xs) else if decide (2 ≤ k) && decide (k ≤ 1000) && decide (xs ≠ []) && decide (xs.length ≤ 1000) then some (.tuple (List.replicate k.toNat xs).flatten) else none
  | .fdiv, .int i, .int j => if decide (j ≠ 0) && decide (j.natAbs < 1073741824) then some (.int (i.fdiv j)) else none
  | .mod, .int i, .int j => if decide (j ≠ 0) then some (.int (i.fmod j)) else none
  | .pow, .int i, .int j => if decide (0 ≤ j) && decide (j ≤ 1000000) && decide (i.natAbs < 2 ^ 64) then some (.int (i ^ j.toNat)) else none
  | .shl, .int i, .int j => if decide (0 ≤ j) && decide (j ≤ 1000000) && decide (i.natAbs < 2 ^ 64) then some (.int (i * 2 ^ j.toNat)) else none
  | .shr, .int i, .int j => if decide (0 ≤ j) then some (.int (i / 2 ^ j.toNat)) else none
  | .band, .int i, .int j => some (.int (Builtin.bitAnd i j))
  | _, _, _ => none
def eqOk (x : PyData) : Bool := SeqAt.shaped x
def isNone : PyData → Bool
  | .none => true
  | _ => false
def cmpop : C2 → PyData → PyData → Option Bool
  | .eq, x, y => if eqOk x && eqOk y then some (PyData.eqv x y) else none
  | .ne, x, y => if eqOk x && eqOk y then some (!PyData.eqv x y) else none
  | .lt, .int i, .int j => some (decide (i < j))
  | .le, .int i, .int j => some (decide (i ≤ j))
  | .gt, .int i, .int j => some (decide (j < i))
  | .ge, .int i, .int j => some (decide (j ≤ i))
  | .lt, .str i, .str j => some (decide (i.cps.toList < j.cps.toList))
  | .le, .str i, .str j => some (!decide (j.cps.toList < i.cps.toList))
  | .isin, x, .list ys => if eqOk x && eqOk (.list ys) then some (ys.any fun y => PyData.eqv y x) else none
  | .notin, x, .list ys => if eqOk x && eqOk (.list ys) then some (!ys.any fun y => PyData.eqv y x) else none
  | .isin, x, .tuple ys => if eqOk x && eqOk (.tuple ys) then some (ys.any fun y => PyData.eqv y x) else none
  | .notin, x, .tuple ys => if eqOk x && eqOk (.tuple ys) then some (!ys.any fun y => PyData.eqv y x) else none
  | .is_, x, .none => some (isNone x)
  | .isnot, x, .none => some (!isNone x)
  | _, _, _ => none
def truthy : PyData → Option Bool
  | .none => some false
  | .bool b => some b
  | .int i => some (i != 0)
  | .str _ => none
  | .list xs => some (!xs.isEmpty)
  | .tuple xs => some (!xs.isEmpty)
  | .dict _ => none
def kStore (kvs : List (PyData × PyData)) (k v : PyData) : List (PyData × PyData) :=
  if kvs.any fun p => PyData.eqv p.1 k then kvs.map fun p => if PyData.eqv p.1 k then (p.1, v) else p else kvs ++ [(k, v)]
def scalarKey : PyData → Bool
  | .int _ => true
  | .str _ => true
  | _ => false
/-- dict(pairs), keys ints and texts -/
def dictOf? : List PyData → List (PyData × PyData) → Option (List (PyData × PyData))
  | [], acc => some acc
  | .tuple [k, v] :: r, acc => if scalarKey k then dictOf? r (kStore acc k v) else none
  | _ :: _, _ => none
def insertI (i : Int) : List Int → List Int
  | [] => [i]
  | j :: r => if i ≤ j then i :: j :: r else j :: insertI i r
def sortI : List Int → List Int
  | [] => []
  | i :: r => insertI i (sortI r)
def maxI : List Int → Int
  | [] => 0
  | i :: r => r.foldl (fun m j => if j > m then j else m) i
def minI : List Int → Int
  | [] => 0
  | i :: r => r.foldl (fun m j => if j < m then j else m) i
def u1 : U1 → PyData → Option PyData
  | .neg, .int i => some (.int (-i))
  | .abs, .int i => some (.int (if i < 0 then -i else i))
  | .len, .list xs => some (.int xs.length)
  | .len, .tuple xs => some (.int xs.length)
  | .len, .dict kvs => some (.int kvs.length)
  | .len, .str z => if fits z.length then some (.int z.length) else none
  | .int, .int i => some (.int i)
  | .int, .bool b => some (.int (if b then 1 else 0))
  | .tuple, .list xs => some (.tuple xs)
  | .tuple, .tuple xs => some (.tuple xs)
  | .list, .list xs => some (.list xs)
  | .list, .tuple xs => some (.list xs)
  | .sorted, .list xs => (ints? xs).map fun ns => .list ((sortI ns).map .int)
  | .sorted, .dict kvs => (ints? (kvs.map (·.1))).map fun ns => .list ((sortI ns).map .int)
  | .dict, .list ps => (dictOf? ps []).map .dict
  | .repr, x => if x.showable && !x.hasDict && fits x.shown.length && decide (x.depth ≤ 64) then some (.str x.shown) else none
  | .sum, .list xs => (ints? xs).map fun ns => .int ns.sum
  | .max, .list xs => (ints? xs).bind fun ns => if ns.isEmpty then none else some (.int (maxI ns))
  | .min, .list xs => (ints? xs).bind fun ns => if ns.isEmpty then none else some (.int (minI ns))
  | .max, .tuple xs => (ints? xs).bind fun ns => if ns.isEmpty then none else some (.int (maxI ns))
  | .min, .tuple xs => (ints? xs).bind fun ns => if ns.isEmpty then none else some (.int (minI ns))
  | .all, .list xs => (bools? xs).map fun bs => .bool (bs.all id)
  | .any, .list xs => (bools? xs).map fun bs => .bool (bs.any id)
  | _, _ => none
/-- the first place of an equal one -/
def findIx (y : PyData) : List PyData → Option Nat
  | [] => none
  | x :: r => if PyData.eqv x y then some 0 else (findIx y r).map (· + 1)
def u2 : U2 → PyData → PyData → Option PyData
  | .max, .int i, .int j => some (.int (if j > i then j else i))
  | .min, .int i, .int j => some (.int (if j < i then j else i))
  | .index, .list xs, y => if eqOk (.list xs) && eqOk y then (findIx y xs).map fun n => .int (n : Nat) else none
  | _, _, _ => none
def index : PyData → PyData → Option PyData
  | .list xs, .int i => L2.atI xs i
  | .tuple xs, .int i => L2.atI xs i
  | .str z, .int i => if fits z.length then (L2.atI z.cps.toList i).map fun c => .str ⟨#[c]⟩ else none
  | _, _ => none
def cut (xs : List PyData) (lo hi : Option Int) : List PyData := (xs.drop (HT.sIx xs.length 0 lo)).take (HT.sIx xs.length xs.length hi - HT.sIx xs.length 0 lo)
def slice (x : PyData) (lo hi : Option Int) : Option PyData := match x with
  | .list xs => some (.list (cut xs lo hi))
  | .tuple xs => some (.tuple (cut xs lo hi))
  | _ => none
/-- isinstance(x, T), T a built-in class -/
def isType : PyData → String → Option Bool
  | x, "int" => some (match x with | .int _ => true | .bool _ => true | _ => false)
  | x, "bool" => some (match x with | .bool _ => true | _ => false)
  | x, "str" => some (match x with | .str _ => true | _ => false)
  | x, "tuple" => some (match x with | .tuple _ => true | _ => false)
  | _, _ => none
def rangeOk (i : Int) : Bool := decide (-(2 ^ 62) ≤ i) && decide (i < 2 ^ 62)
def upFrom (i : Int) : Nat → List Int
  | 0 => []
  | n + 1 => i :: upFrom (i + 1) n
def range2 (i j : Int) : Option (List PyData) := if rangeOk i && rangeOk j then some ((upFrom i (j - i).toNat).map .int) else none

def stepFrom (i c : Int) : Nat → List Int
  | 0 => []
  | n + 1 => i :: stepFrom (i + c) c n
def range3 (i j c : Int) : Option (List PyData) := if decide (c ≠ 0) && decide (c.natAbs < 1073741824) && Builtin.Range.small i j c then some ((stepFrom i c (Builtin.Range.rangeSize i j c).toNat).map .int) else none

/-! ### targets -/
mutual
inductive T where
  | nm (i : Nat)
  | tp (ts : Ts)
inductive Ts where
  | nil
  | cons (t : T) (ts : Ts)
end
def Ts.len : Ts → Nat
  | .nil => 0
  | .cons _ r => r.len + 1
mutual
def put : T → PyData → Env → Option Env
  | .nm i, x, ρ => some (ρ.set i (some (.d x)))
  | .tp ts, .tuple xs, ρ => if xs.length = ts.len then puts ts xs ρ else none
  | .tp _, _, _ => none
def puts : Ts → List PyData → Env → Option Env
  | .nil, [], ρ => some ρ
  | .cons t ts, x :: xs, ρ => (put t x ρ).bind (puts ts xs)
  | _, _, _ => none
end
def wipe (ρ : Env) : List Nat → Env
  | [] => ρ
  | v :: vs => (wipe ρ vs).set v none

/-! ### expressions -/
mutual
inductive E where
  | var (i : Nat)
  | cst (x : PyData)
  | tup (es : Es)
  | lst (es : Es)
  | bin (op : B2) (a b : E)
  | cmp (op : C2) (a b : E)
  | ch (op op' : C2) (a b c : E)
  | u1 (op : U1) (a : E)
  | u2 (op : U2) (a b : E)
  | not (a : E)
  | and (a b : E)
  | or (a b : E)
  | ite (c a b : E)
  | ix (a i : E)
  | idx (a b : E)
  | sl (a : E) (lo hi : Es)
  | isi (a : E) (t : String)
  | call (f : Nat) (es : Es) (dfl : List PyData)
  | lc (ws : List Nat) (t : T) (it : It) (cs : Es) (e : E)
  | dc (ws : List Nat) (t : T) (it : It) (k v : E)
  | seq (it : It)
inductive Es where
  | nil
  | cons (e : E) (es : Es)
inductive It where
  | e (a : E)
  | rng1 (a : E)
  | rng2 (a b : E)
  | rng3 (a b c : E)
  | enum (a : E)
  | zip (a b : E)
end
/-- what is walked stands as it stood -/
def chk (gs : List Nat) (S0 S : Sto) : Bool := gs.all fun n => decide (S[n]? = S0[n]?)
@[simp] theorem chk_nil (S0 S : Sto) : chk [] S0 S = true := rfl
@[simp] theorem chk_same (gs : List Nat) (S : Sto) : chk gs S S = true := by simp [chk]
/-- the loop of a comprehension -/
def lcL (ck : Sto → Bool) (asg : PyData → Option Env) (cond : Env → Sto → R Bool) (elt : Env → Sto → R PyData) : List PyData → List PyData → Sto → R (List PyData)
  | [], acc, S => .ok acc S
  | x :: xs, acc, S => match asg x with
    | none => .no
    | some ρ => (cond ρ S).bind fun b S1 => if b then (elt ρ S1).bind fun y S2 => if decide (acc.length < 16777216) && ck S2 then lcL ck asg cond elt xs (acc ++ [y]) S2 else .no else if ck S1 then lcL ck asg cond elt xs acc S1 else .no
def dcL (ck : Sto → Bool) (asg : PyData → Option Env) (kv : Env → Sto → R (PyData × PyData)) : List PyData → List (PyData × PyData) → Sto → R (List (PyData × PyData))
  | [], acc, S => .ok acc S
  | x :: xs, acc, S => match asg x with
    | none => .no
    | some ρ => (kv ρ S).bind fun p S2 => if decide (acc.length < 16777216) && scalarKey p.1 && ck S2 then dcL ck asg kv xs (kStore acc p.1 p.2) S2 else .no
def enumL (n : Nat) : List PyData → List PyData
  | [] => []
  | x :: xs => .tuple [.int n, x] :: enumL (n + 1) xs
def zipL : List PyData → List PyData → List PyData
  | x :: xs, y :: ys => .tuple [x, y] :: zipL xs ys
  | _, _ => []
def seq? : PyData → Option (List PyData)
  | .list xs => some xs
  | .tuple xs => some xs
  | _ => none
/-- what a for goes through -/
def itr? : PyData → Option (List PyData)
  | .str z => some (z.cps.toList.map fun c => .str ⟨#[c]⟩)
  | x => seq? x
def zip? : PyData → PyData → Option (List PyData)
  | .list xs, .list ys => some (zipL xs ys)
  | .tuple xs, .tuple ys => some (zipL xs ys)
  | _, _ => none
def lst? : PyData → Option (List PyData)
  | .list xs => some xs
  | _ => none
def guard : Vl → List Nat
  | .d _ => []
  | .loc n => [n]
@[simp] theorem guard_d (x : PyData) : guard (.d x) = [] := rfl
def test (S : Sto) (v : Vl) : R Bool := R.opt ((view S v).bind truthy) S
mutual
def ev (F : Fns) : E → Env → Sto → R Vl
  | .var i, ρ, S => match ρ[i]? with
    | some (some v) => .ok v S
    | _ => .no
  | .cst x, _, S => .ok (.d x) S
  | .tup es, ρ, S => (evps F es ρ S).bind fun xs S1 => .ok (.d (.tuple xs)) S1
  | .lst es, ρ, S => (evps F es ρ S).bind fun xs S1 => .ok (.d (.list xs)) S1
  | .bin op a b, ρ, S => (ev F a ρ S).bind fun v S1 => (ev F b ρ S1).bind fun w S2 => R.opt ((view S2 v).bind fun x => (view S2 w).bind fun y => (binop op x y).map .d) S2
  | .cmp op a b, ρ, S => (ev F a ρ S).bind fun v S1 => (ev F b ρ S1).bind fun w S2 => R.opt ((view S2 v).bind fun x => (view S2 w).bind fun y => (cmpop op x y).map fun c => .d (.bool c)) S2
  | .ch op op' a b c, ρ, S => (ev F a ρ S).bind fun v S1 => (ev F b ρ S1).bind fun w S2 => match (view S2 v).bind fun x => (view S2 w).bind fun y => cmpop op x y with
    | none => .no
    | some false => .ok (.d (.bool false)) S2
    | some true => (ev F c ρ S2).bind fun u S3 => R.opt ((view S3 w).bind fun y => (view S3 u).bind fun z => (cmpop op' y z).map fun k => .d (.bool k)) S3
  | .u1 op a, ρ, S => (ev F a ρ S).bind fun v S1 => R.opt ((view S1 v).bind fun x => (u1 op x).map .d) S1
  | .u2 op a b, ρ, S => (ev F a ρ S).bind fun v S1 => (ev F b ρ S1).bind fun w S2 => R.opt ((view S2 v).bind fun x => (view S2 w).bind fun y => (u2 op x y).map .d) S2
  | .not a, ρ, S => (ev F a ρ S).bind fun v S1 => (test S1 v).bind fun b S2 => .ok (.d (.bool (!b))) S2
  | .and a b, ρ, S => (ev F a ρ S).bind fun v S1 => (test S1 v).bind fun c S2 => if c then ev F b ρ S2 else .ok v S2
  | .or a b, ρ, S => (ev F a ρ S).bind fun v S1 => (test S1 v).bind fun c S2 => if c then .ok v S2 else ev F b ρ S2
  | .ite c a b, ρ, S => (ev F c ρ S).bind fun v S1 => (test S1 v).bind fun t S2 => if t then ev F a ρ S2 else ev F b ρ S2
  | .ix a i, ρ, S => (ev F a ρ S).bind fun v S1 => (ev F i ρ S1).bind fun w S2 => R.opt ((view S2 v).bind fun x => (view S2 w).bind fun y => (index x y).map .d) S2
  | .idx a b, ρ, S => (ev F a ρ S).bind fun v S1 => (R.opt ((view S1 v).bind lst?) S1).bind fun _ S1 => (ev F b ρ S1).bind fun w S2 => R.opt ((view S2 v).bind fun x => (view S2 w).bind fun y => (u2 .index x y).map .d) S2
  | .sl a lo hi, ρ, S => (ev F a ρ S).bind fun v S1 => (evo F lo ρ S1).bind fun l S2 => (evo F hi ρ S2).bind fun h S3 => R.opt ((view S3 v).bind fun x => (slice x l h).map .d) S3
  | .isi a t, ρ, S => (ev F a ρ S).bind fun v S1 => R.opt ((view S1 v).bind fun x => (isType x t).map fun b => .d (.bool b)) S1
  | .call f es dfl, ρ, S => (evs F es ρ S).bind fun vs S1 => (F f (vs ++ dfl.map .d) S1).bind fun x S2 => .ok (.d x) S2
  | .lc ws t it cs e, ρ, S => (evI F it ρ S).bind fun p S1 => ((lcL (chk p.2 S1) (fun x => put t x (wipe ρ ws)) (fun ρ' S' => (evt F cs ρ' S').calm) (fun ρ' S' => ((ev F e ρ' S').bind fun v S2 => shut S2 v).calm) p.1 [] S1).calm).bind fun ys S2 => .ok (.d (.list ys)) S2
  | .dc ws t it k v, ρ, S => (evI F it ρ S).bind fun p S1 => ((dcL (chk p.2 S1) (fun x => put t x (wipe ρ ws)) (fun ρ' S' => (((ev F k ρ' S').bind fun v S2 => shut S2 v).bind fun kx S2 => ((ev F v ρ' S2).bind fun v S3 => shut S3 v).bind fun vx S3 => .ok (kx, vx) S3).calm) p.1 [] S1).calm).bind fun ys S2 => .ok (.d (.dict ys)) S2
  | .seq it, ρ, S => (evI F it ρ S).bind fun p S1 => if fits p.1.length then .ok (.d (.tuple p.1)) S1 else .no
/-- values, as they are -/
def evs (F : Fns) : Es → Env → Sto → R (List Vl)
  | .nil, _, S => .ok [] S
  | .cons e es, ρ, S => (ev F e ρ S).bind fun v S1 => (evs F es ρ S1).bind fun vs S2 => .ok (v :: vs) S2
/-- values as plain data -/
def evps (F : Fns) : Es → Env → Sto → R (List PyData)
  | .nil, _, S => .ok [] S
  | .cons e es, ρ, S => ((ev F e ρ S).bind fun v S1 => shut S1 v).bind fun x S1 => (evps F es ρ S1).bind fun xs S2 => .ok (x :: xs) S2
/-- no part, or an int -/
def evo (F : Fns) : Es → Env → Sto → R (Option Int)
  | .nil, _, S => .ok none S
  | .cons e _, ρ, S => (ev F e ρ S).bind fun v S1 => match v with
    | .d (.int i) => .ok (some i) S1
    | _ => .no
/-- all tests hold -/
def evt (F : Fns) : Es → Env → Sto → R Bool
  | .nil, _, S => .ok true S
  | .cons e _, ρ, S => (ev F e ρ S).bind fun v S1 => test S1 v
/-- what is walked, and the live containers among it -/
def evI (F : Fns) : It → Env → Sto → R (List PyData × List Nat)
  | .e a, ρ, S => (ev F a ρ S).bind fun v S1 => R.opt (((view S1 v).bind itr?).map fun xs => (xs, guard v)) S1
  | .rng1 a, ρ, S => (ev F a ρ S).bind fun v S1 => match v with
    | .d (.int i) => R.opt ((range2 0 i).map fun xs => (xs, [])) S1
    | _ => .no
  | .rng2 a b, ρ, S => (ev F a ρ S).bind fun v S1 => (ev F b ρ S1).bind fun w S2 => match v, w with
    | .d (.int i), .d (.int j) => R.opt ((range2 i j).map fun xs => (xs, [])) S2
    | _, _ => .no
  | .rng3 a b c, ρ, S => (ev F a ρ S).bind fun v S1 => (ev F b ρ S1).bind fun w S2 => (ev F c ρ S2).bind fun u S3 => match v, w, u with
    | .d (.int i), .d (.int j), .d (.int k) => R.opt ((range3 i j k).map fun xs => (xs, [])) S3
    | _, _, _ => .no
  | .enum a, ρ, S => (ev F a ρ S).bind fun v S1 => R.opt (((view S1 v).bind seq?).map fun xs => (enumL 0 xs, guard v)) S1
  | .zip a b, ρ, S => (ev F a ρ S).bind fun v S1 => (ev F b ρ S1).bind fun w S2 => R.opt ((view S2 v).bind fun x => (view S2 w).bind fun y => (zip? x y).map fun zs => (zs, guard v ++ guard w)) S2
end

/-! ### statements -/
inductive Fl where
  | nx (ρ : Env) | rt (x : PyData) | bk (ρ : Env) | ct (ρ : Env)
mutual
inductive C where
  | asg (t : T) (e : E)
  | set (i : Nat) (e : E)
  | new (i : Nat) (e : E)
  | par (i j : Nat) (n1 n2 : Bool) (a b : E)
  | par3 (i j l : Nat) (a b d : E)
  | six (o i e : E)
  | aug (i : Nat) (op : B2) (e : E)
  | augL (i : Nat) (e : E)
  | app (o e : E)
  | drop (e : E)
  | ite (c : E) (a b : Cs)
  | loop (t : T) (it : It) (b : Cs)
  | whl (c : E) (b : Cs)
  | ret (e : E)
  | retN
  | raise (c : Str) (e : E)
  | tryS (b : Cs) (hs : List (Str × Str))
  | pass
  | brk
  | cont
inductive Cs where
  | nil
  | cons (c : C) (cs : Cs)
end
def forL (ck : Sto → Bool) (asg : PyData → Env → Option Env) (b : Env → Sto → R Fl) : List PyData → Env → Sto → R Fl
  | [], ρ, S => .ok (.nx ρ) S
  | x :: xs, ρ, S => match asg x ρ with
    | none => .no
    | some ρ1 => (b ρ1 S).bind fun fl S1 => match fl with
      | .nx ρ2 => if ck S1 then forL ck asg b xs ρ2 S1 else .no
      | .ct ρ2 => if ck S1 then forL ck asg b xs ρ2 S1 else .no
      | .bk ρ2 => .ok (.nx ρ2) S1
      | .rt x => .ok (.rt x) S1
def whlL (c : Env → Sto → R Bool) (b : Env → Sto → R Fl) : Nat → Env → Sto → R Fl
  | 0, _, _ => .no
  | n + 1, ρ, S => (c ρ S).bind fun t S1 => if t then (b ρ S1).bind fun fl S2 => match fl with
      | .nx ρ2 => whlL c b n ρ2 S2
      | .ct ρ2 => whlL c b n ρ2 S2
      | .bk ρ2 => .ok (.nx ρ2) S2
      | .rt x => .ok (.rt x) S2
    else .ok (.nx ρ) S1
/-- a fresh container: it goes live -/
def live (S : Sto) : Vl → R Vl
  | .d (.list xs) => .ok (.loc S.length) (S ++ [⟨true, .lst xs⟩])
  | .d (.dict kvs) => .ok (.loc S.length) (S ++ [⟨true, .dct kvs⟩])
  | _ => .no
def liveIf (n : Bool) (S : Sto) (v : Vl) : R Vl := if n then live S v else .ok v S
def caught (hs : List (Str × Str)) (c : Str) (x : PyData) (S : Sto) : R Fl := match hs.lookup c with
  | some t => .ok (.rt (.tuple [.str t, x])) S
  | none => .ex c x S
/-- a live list at n -/
def lstAt (S : Sto) : Vl → Option (Nat × List PyData)
  | .loc n => match S[n]? with
    | some ⟨true, .lst xs⟩ => some (n, xs)
    | _ => none
  | _ => none
def dctAt (S : Sto) : Vl → Option (Nat × List (PyData × PyData))
  | .loc n => match S[n]? with
    | some ⟨true, .dct kvs⟩ => some (n, kvs)
    | _ => none
  | _ => none
/-- o[i] = x -/
def setAt (S : Sto) (o : Vl) (i x : PyData) : R Unit := match lstAt S o with
  | some (n, xs) => (match i with
    | .int k => (match L2.ixN xs.length k with
      | some j => .ok () (S.set n ⟨true, .lst (xs.set j x)⟩)
      | none => .no)
    | _ => .no)
  | none => .no
def augment (op : B2) (S : Sto) (v w : Vl) : R Vl := match v with
  | .loc _ => .no
  | .d x => (match x, view S w with
    | .int i, some (.int j) => R.opt ((binop op (.int i) (.int j)).map .d) S
    | _, _ => .no)
/-- v += w, v a live list -/
def augL (S : Sto) (v w : Vl) : R Unit := match lstAt S v, (view S w).bind seq? with
  | some (n, xs), some ys => if fits (xs.length + ys.length) then .ok () (S.set n ⟨true, .lst (xs ++ ys)⟩) else .no
  | _, _ => .no
mutual
def x1 (F : Fns) (W : Nat) : C → Env → Sto → R Fl
  | .asg t e, ρ, S => ((ev F e ρ S).bind fun v S1 => shut S1 v).bind fun x S1 => R.opt ((put t x ρ).map .nx) S1
  | .set i e, ρ, S => (ev F e ρ S).bind fun v S1 => .ok (.nx (ρ.set i (some v))) S1
  | .new i e, ρ, S => (ev F e ρ S).bind fun v S1 => (live S1 v).bind fun v S2 => .ok (.nx (ρ.set i (some v))) S2
  | .par i j n1 n2 a b, ρ, S => (ev F a ρ S).bind fun v S1 => (liveIf n1 S1 v).bind fun v S2 => (ev F b ρ S2).bind fun w S3 => (liveIf n2 S3 w).bind fun w S4 => .ok (.nx ((ρ.set i (some v)).set j (some w))) S4
  | .par3 i j l a b d, ρ, S => (ev F a ρ S).bind fun v S1 => (ev F b ρ S1).bind fun w S2 => (ev F d ρ S2).bind fun u S3 => .ok (.nx (((ρ.set i (some v)).set j (some w)).set l (some u))) S3
  | .six o i e, ρ, S => ((ev F e ρ S).bind fun v S1 => shut S1 v).bind fun x S1 => (ev F o ρ S1).bind fun ov S2 => ((ev F i ρ S2).bind fun v S3 => shut S3 v).bind fun k S3 => (setAt S3 ov k x).bind fun _ S4 => .ok (.nx ρ) S4
  | .aug i op e, ρ, S => match ρ[i]? with
    | some (some v) => (ev F e ρ S).bind fun w S1 => (augment op S1 v w).bind fun u S2 => .ok (.nx (ρ.set i (some u))) S2
    | _ => .no
  | .augL i e, ρ, S => match ρ[i]? with
    | some (some v) => (ev F e ρ S).bind fun w S1 => (augL S1 v w).bind fun _ S2 => .ok (.nx ρ) S2
    | _ => .no
  | .app o e, ρ, S => (ev F o ρ S).bind fun ov S1 => (R.opt (lstAt S1 ov) S1).bind fun _ S1 => ((ev F e ρ S1).bind fun v S2 => shut S2 v).bind fun x S2 => match lstAt S2 ov with
    | some (n, xs) => if xs.length < 16777216 then .ok (.nx ρ) (S2.set n ⟨true, .lst (xs ++ [x])⟩) else .no
    | none => .no
  | .drop e, ρ, S => (ev F e ρ S).bind fun _ S1 => .ok (.nx ρ) S1
  | .ite c a b, ρ, S => (ev F c ρ S).bind fun v S1 => (test S1 v).bind fun t S2 => if t then xs F W a ρ S2 else xs F W b ρ S2
  | .loop t it b, ρ, S => (evI F it ρ S).bind fun p S1 => forL (chk p.2 S1) (fun x ρ => put t x ρ) (fun ρ S => xs F W b ρ S) p.1 ρ S1
  | .whl c b, ρ, S => whlL (fun ρ S => (ev F c ρ S).bind fun v S1 => test S1 v) (fun ρ S => xs F W b ρ S) W ρ S
  | .ret e, ρ, S => ((ev F e ρ S).bind fun v S1 => shut S1 v).bind fun x S1 => .ok (.rt x) S1
  | .retN, _, S => .ok (.rt .none) S
  | .raise c e, ρ, S => ((ev F e ρ S).bind fun v S1 => shut S1 v).bind fun x S1 => .ex c x S1
  | .tryS b hs, ρ, S => match xs F W b ρ S with
    | .ex c x S1 => caught hs c x S1
    | r => r
  | .pass, ρ, S => .ok (.nx ρ) S
  | .brk, ρ, S => .ok (.bk ρ) S
  | .cont, ρ, S => .ok (.ct ρ) S
def xs (F : Fns) (W : Nat) : Cs → Env → Sto → R Fl
  | .nil, ρ, S => .ok (.nx ρ) S
  | .cons c cs, ρ, S => (x1 F W c ρ S).bind fun fl S1 => match fl with
    | .nx ρ1 => xs F W cs ρ1 S1
    | .rt x => .ok (.rt x) S1
    | .bk ρ1 => .ok (.bk ρ1) S1
    | .ct ρ1 => .ok (.ct ρ1) S1
end
/-! ### defs -/
structure Fn where
  ar : Nat
  sz : Nat
  body : Cs
def fin (n : Nat) : R Fl → R PyData
  | .no => .no
  | .ex c x S => .ex c x (S.take n)
  | .ok (.rt x) S => .ok x (S.take n)
  | .ok (.nx _) S => .ok .none (S.take n)
  | .ok (.bk _) _ => .no
  | .ok (.ct _) _ => .no
def callAt (fns : List Fn) (W : Nat) : Nat → Fns
  | 0, _, _, _ => .no
  | k + 1, f, vs, S => match fns[f]? with
    | none => .no
    | some fn => if vs.length = fn.ar then fin S.length (xs (callAt fns W k) W fn.body (vs.map some ++ List.replicate (fn.sz - fn.ar) none) S) else .no
end In
/-! part InB -/
set_option Elab.async false
set_option linter.all false
set_option maxRecDepth 100000
set_option maxHeartbeats 1000000
/-! How the small language's states lie in the hand layer's abstract heap; what an expression's run means there. -/
namespace In
open PySem PySem.Spec PyProof.Rows L2
abbrev Frag := PySem.W.Frag
/-! ### plain data in the heap: tuples, and lists and dicts that nobody changes any more -/
/-- a closed list -/
def FzL (H : Hp) (a : Addr) (xs : List V) : Prop := ∃ o, H a = some (.frz o (.lst xs))
theorem FzL.sql {K : Frag} {H : Hp} {a : Addr} {xs : List V} (h : FzL H a xs) : SqL K H a xs := .inl (.inr h)
def keyOf : PyData → Option Key
  | .int i => some (.inl i)
  | .str x => some (.inr x)
  | _ => none
mutual
inductive RP (K : Frag) (H : Hp) : PyData → V → Prop
  | non : RP K H .none .non
  | bl (b : Bool) : RP K H (.bool b) (.bl b)
  | int (i : Int) : RP K H (.int i) (.int i)
  | str (x : Str) : RP K H (.str x) (.str x)
  | lst {a : Addr} {vs : List V} {xs : List PyData} : FzL H a vs → RPs K H xs vs → RP K H (.list xs) (.ref a)
  | tup {a : Addr} {vs : List V} {xs : List PyData} : SqT K H a vs → RPs K H xs vs → RP K H (.tuple xs) (.ref a)
  | dct {a : Addr} {o : Obj} {es : List (Key × V)} {kvs : List (PyData × PyData)} : H a = some (.frz o (.dK es)) → RPd K H kvs es → RP K H (.dict kvs) (.ref a)
inductive RPs (K : Frag) (H : Hp) : List PyData → List V → Prop
  | nil : RPs K H [] []
  | cons {x : PyData} {v : V} {xs : List PyData} {vs : List V} : RP K H x v → RPs K H xs vs → RPs K H (x :: xs) (v :: vs)
inductive RPd (K : Frag) (H : Hp) : List (PyData × PyData) → List (Key × V) → Prop
  | nil : RPd K H [] []
  | cons {k x : PyData} {q : Key} {v : V} {kvs : List (PyData × PyData)} {es : List (Key × V)} : keyOf k = some q → RP K H x v → RPd K H kvs es → RPd K H ((k, x) :: kvs) ((q, v) :: es)
end
/-- what stays: tuples, and what is closed -/
structure Keeps (H H' : Hp) : Prop where
  t : ∀ b xs, H b = some (.tup xs) → H' b = some (.tup xs)
  f : ∀ b o u, H b = some (.frz o u) → H' b = some (.frz o u)
theorem Keeps.refl {H : Hp} : Keeps H H := ⟨fun _ _ h => h, fun _ _ _ h => h⟩
theorem Keeps.trans {H H' H'' : Hp} (a : Keeps H H') (b : Keeps H' H'') : Keeps H H'' := ⟨fun x xs h => b.t x xs (a.t x xs h), fun x o u h => b.f x o u (a.f x o u h)⟩
theorem FzL.keep {H H' : Hp} (k : Keeps H H') {a : Addr} {xs : List V} (h : FzL H a xs) : FzL H' a xs := let ⟨o, h⟩ := h; ⟨o, k.f a o _ h⟩
theorem sqT_keep {K : Frag} {H H' : Hp} (k : Keeps H H') {a : Addr} {xs : List V} (h : SqT K H a xs) : SqT K H' a xs := by
  rcases h with h | h
  · rcases h with h | ⟨o, h⟩
    · exact .inl (.inl (k.t _ _ h))
    · exact .inl (.inr ⟨o, k.f _ _ _ h⟩)
  · exact .inr h
mutual
theorem RP.keep {K : Frag} {H H' : Hp} (k : Keeps H H') : ∀ (x : PyData) (v : V), RP K H x v → RP K H' x v
  | _, _, .non => .non
  | _, _, .bl b => .bl b
  | _, _, .int i => .int i
  | _, _, .str x => .str x
  | _, _, .lst (xs := xs) h r => .lst (h.keep k) (RPs.keep k xs _ r)
  | _, _, .tup (xs := xs) h r => .tup (sqT_keep k h) (RPs.keep k xs _ r)
  | _, _, .dct (kvs := kvs) h r => .dct (k.f _ _ _ h) (RPd.keep k kvs _ r)
theorem RPs.keep {K : Frag} {H H' : Hp} (k : Keeps H H') : ∀ (xs : List PyData) (vs : List V), RPs K H xs vs → RPs K H' xs vs
  | _, _, .nil => .nil
  | _, _, .cons (x := x) (xs := xs) h r => .cons (RP.keep k x _ h) (RPs.keep k xs _ r)
theorem RPd.keep {K : Frag} {H H' : Hp} (k : Keeps H H') : ∀ (xs : List (PyData × PyData)) (vs : List (Key × V)), RPd K H xs vs → RPd K H' xs vs
  | _, _, .nil => .nil
  | _, _, .cons (x := x) (kvs := kvs) e h r => .cons e (RP.keep k x _ h) (RPd.keep k kvs _ r)
end
section
variable {K : Frag} {H : Hp}
theorem RPs.len : ∀ {xs : List PyData} {vs : List V}, RPs K H xs vs → xs.length = vs.length
  | _, _, .nil => rfl
  | _, _, .cons _ r => congrArg (· + 1) (RPs.len r)
theorem RPd.len : ∀ {xs : List (PyData × PyData)} {vs : List (Key × V)}, RPd K H xs vs → xs.length = vs.length
  | _, _, .nil => rfl
  | _, _, .cons _ _ r => congrArg (· + 1) (RPd.len r)
theorem RPs.app : ∀ {xs ys : List PyData} {vs ws : List V}, RPs K H xs vs → RPs K H ys ws → RPs K H (xs ++ ys) (vs ++ ws)
  | _, _, _, _, .nil, s => s
  | _, _, _, _, .cons r t, s => .cons r (RPs.app t s)
theorem RPs.one {x : PyData} {v : V} (h : RP K H x v) : RPs K H [x] [v] := .cons h .nil
theorem RPs.at : ∀ {xs : List PyData} {vs : List V} {i : Nat} {x : PyData}, RPs K H xs vs → xs[i]? = some x → ∃ v, vs[i]? = some v ∧ RP K H x v
  | _, _, _, _, .nil, e => by simp at e
  | _, _, 0, _, .cons r _, e => by simp at e; subst e; exact ⟨_, rfl, r⟩
  | _, _, i + 1, _, .cons _ t, e => by
    obtain ⟨u, h1, h2⟩ := RPs.at (i := i) t (by simpa using e)
    exact ⟨u, by simpa using h1, h2⟩
theorem RPs.at' : ∀ {xs : List PyData} {vs : List V} {i : Nat} {v : V}, RPs K H xs vs → vs[i]? = some v → ∃ x, xs[i]? = some x ∧ RP K H x v
  | _, _, _, _, .nil, e => by simp at e
  | _, _, 0, _, .cons r _, e => by simp at e; subst e; exact ⟨_, rfl, r⟩
  | _, _, i + 1, _, .cons _ t, e => by
    obtain ⟨u, h1, h2⟩ := RPs.at' (i := i) t (by simpa using e)
    exact ⟨u, by simpa using h1, h2⟩
theorem RPs.take : ∀ {xs : List PyData} {vs : List V} (n : Nat), RPs K H xs vs → RPs K H (xs.take n) (vs.take n)
  | _, _, 0, _ => .nil
  | _, _, _ + 1, .nil => .nil
  | _, _, n + 1, .cons r t => .cons r (RPs.take n t)
theorem RPs.drop : ∀ {xs : List PyData} {vs : List V} (n : Nat), RPs K H xs vs → RPs K H (xs.drop n) (vs.drop n)
  | _, _, 0, r => r
  | _, _, _ + 1, .nil => .nil
  | _, _, n + 1, .cons _ t => RPs.drop n t
theorem RPs.set : ∀ {xs : List PyData} {vs : List V} {x : PyData} {v : V} (i : Nat), RP K H x v → RPs K H xs vs → RPs K H (xs.set i x) (vs.set i v)
  | _, _, _, _, _, _, .nil => .nil
  | _, _, _, _, 0, h, .cons _ t => .cons h t
  | _, _, _, _, i + 1, h, .cons r t => .cons r (RPs.set i h t)
theorem RPs.ints : ∀ {xs : List PyData} {vs : List V} {ns : List Int}, RPs K H xs vs → ints? xs = some ns → vs = ns.map V.int ∧ xs = ns.map PyData.int
  | _, _, _, .nil, e => by simp [ints?] at e; subst e; exact ⟨rfl, rfl⟩
  | _, _, _, .cons (x := x) (xs := xs) r t, e => by
    cases r with
    | int i =>
      simp only [ints?, Option.map_eq_some_iff] at e
      obtain ⟨ms, h1, rfl⟩ := e
      obtain ⟨h2, h3⟩ := RPs.ints t h1
      rw [h2, h3]
      exact ⟨rfl, rfl⟩
    | _ => simp [ints?] at e
theorem RPs.bools : ∀ {xs : List PyData} {vs : List V} {ns : List Bool}, RPs K H xs vs → bools? xs = some ns → vs = ns.map V.bl
  | _, _, _, .nil, e => by simp [bools?] at e; subst e; rfl
  | _, _, _, .cons (x := x) (xs := xs) r t, e => by
    cases r with
    | bl i =>
      simp only [bools?, Option.map_eq_some_iff] at e
      obtain ⟨ms, h1, rfl⟩ := e
      rw [RPs.bools t h1]
      rfl
    | _ => simp [bools?] at e
theorem RPs.ofInts : ∀ ns : List Int, RPs K H (ns.map PyData.int) (ns.map V.int)
  | [] => .nil
  | i :: r => .cons (.int i) (RPs.ofInts r)
end
/-! ### the library's reading of data -/
mutual
theorem RP.dp {K : Frag} {H : Hp} : ∀ (x : PyData) (v : V), x.hasDict = false → RP K H x v → Dp K H v x
  | .none, _, _, h => by cases h; exact .non
  | .bool _, _, _, h => by cases h; exact .bl _
  | .int _, _, _, h => by cases h; exact .int _
  | .str _, _, _, h => by cases h; exact .str _
  | .list xs, _, e, h => by
    cases h with
    | lst h r => exact .lst h.sql (RPs.dp xs _ (by simpa [PyData.hasDict] using e) r)
  | .tuple xs, _, e, h => by
    cases h with
    | tup h r => exact .tup h (RPs.dp xs _ (by simpa [PyData.hasDict] using e) r)
  | .dict _, _, e, _ => by simp [PyData.hasDict] at e
theorem RPs.dp {K : Frag} {H : Hp} : ∀ (xs : List PyData) (vs : List V), PyData.hasDictAll xs = false → RPs K H xs vs → DpAll K H vs xs
  | [], _, _, h => by cases h; exact .nil
  | x :: xs, _, e, h => by
    cases h with
    | cons h r =>
      simp only [PyData.hasDictAll, Bool.or_eq_false_iff] at e
      exact .cons (RP.dp x _ e.1 h) (RPs.dp xs _ e.2 r)
end
/-! ### the store -/
abbrev Mp := Nat → Addr
def ObOk (K : Frag) (H : Hp) (u : HO) : MO → Prop
  | .lst xs => ∃ vs, u = .lst vs ∧ RPs K H xs vs
  | .dct kvs => ∃ es, u = .dK es ∧ RPd K H kvs es
def CellOk (K : Frag) (H : Hp) (a : Addr) (c : Cell) : Prop := ∃ u, ObOk K H u c.obj ∧ if c.live = true then H a = some u else ∃ o, H a = some (.frz o u)
structure Sok (K : Frag) (m : Mp) (S : Sto) (H : Hp) : Prop where
  at_ : ∀ (n : Nat) (c : Cell), S[n]? = some c → CellOk K H (m n) c
  inj : ∀ i j, i < S.length → j < S.length → m i = m j → i = j
def RV (K : Frag) (m : Mp) (S : Sto) (H : Hp) : Vl → V → Prop
  | .d x, v => RP K H x v
  | .loc n, v => v = .ref (m n) ∧ n < S.length
structure Renv (K : Frag) (m : Mp) (S : Sto) (H : Hp) (ρ : Env) (σ : L2.St) : Prop where
  len : ρ.length = σ.length
  at_ : ∀ (i : Nat) (v : Vl), ρ[i]? = some (some v) → ∃ x, σ[i]? = some (some x) ∧ RV K m S H v x
/-- from one state to a later one -/
structure Post (m : Mp) (S : Sto) (H : Hp) (m' : Mp) (S' : Sto) (H' : Hp) : Prop where
  k : Keeps H H'
  len : S.length ≤ S'.length
  map : ∀ n, n < S.length → m' n = m n
  new : ∀ n, S.length ≤ n → n < S'.length → H (m' n) = none
  obj : ∀ b u, H b = some u → (∀ n, n < S.length → m n ≠ b) → H' b = some u
section
variable {K : Frag} {m m' m'' : Mp} {S S' S'' : Sto} {H H' H'' : Hp}
theorem Post.refl : Post m S H m S H := ⟨.refl, Nat.le_refl _, fun _ _ => rfl, fun _ h1 h2 => absurd h2 (Nat.not_lt.mpr h1), fun _ _ h _ => h⟩
theorem Sok.there (k : Sok K m S H) {n : Nat} (h : n < S.length) : ∃ u, H (m n) = some u := by
  obtain ⟨u, _, h2⟩ := k.at_ n S[n] (List.getElem?_eq_getElem h)
  by_cases hl : S[n].live = true
  · rw [if_pos hl] at h2; exact ⟨_, h2⟩
  · rw [if_neg hl] at h2; obtain ⟨o, h2⟩ := h2; exact ⟨_, h2⟩
theorem Post.trans (a : Post m S H m' S' H') (sk : Sok K m' S' H') (b : Post m' S' H' m'' S'' H'') : Post m S H m'' S'' H'' where
  k := a.k.trans b.k
  len := Nat.le_trans a.len b.len
  map := fun n h => (b.map n (Nat.lt_of_lt_of_le h a.len)).trans (a.map n h)
  new := fun n h1 h2 => by
    by_cases hn : n < S'.length
    · rw [b.map n hn]; exact a.new n h1 hn
    · have q := b.new n (Nat.le_of_not_lt hn) h2
      cases e : H (m'' n) with
      | none => rfl
      | some u =>
        by_cases hc : ∃ i, i < S.length ∧ m i = m'' n
        · obtain ⟨i, hl, hi⟩ := hc
          obtain ⟨v, hv⟩ := sk.there (Nat.lt_of_lt_of_le hl a.len)
          rw [a.map i hl, hi, q] at hv; cases hv
        · have z := a.obj _ u e fun i hl hi => hc ⟨i, hl, hi⟩
          rw [q] at z; cases z
  obj := fun c u h hn => by
    refine b.obj c u (a.obj c u h hn) fun n hl e => ?_
    by_cases hs : n < S.length
    · rw [a.map n hs] at e; exact hn n hs e
    · have q := a.new n (Nat.le_of_not_lt hs) hl
      rw [e, h] at q; cases q
theorem RV.post (p : Post m S H m' S' H') {v : Vl} {x : V} (h : RV K m S H v x) : RV K m' S' H' v x := by
  cases v with
  | d y => exact RP.keep p.k y x h
  | loc n => exact ⟨by rw [p.map n h.2]; exact h.1, Nat.lt_of_lt_of_le h.2 p.len⟩
theorem Renv.post {ρ : Env} {σ : L2.St} (p : Post m S H m' S' H') (h : Renv K m S H ρ σ) : Renv K m' S' H' ρ σ :=
  ⟨h.len, fun i v e => let ⟨x, h1, h2⟩ := h.at_ i v e; ⟨x, h1, h2.post p⟩⟩
theorem Renv.set {ρ : Env} {σ : L2.St} {i : Nat} {v : Vl} {x : V} (h : Renv K m S H ρ σ) (r : RV K m S H v x) : Renv K m S H (ρ.set i (some v)) (σ.set i (some x)) := by
  refine ⟨by simpa using h.len, fun j w e => ?_⟩
  by_cases hj : i = j
  · subst hj
    have hl : i < ρ.length := by
      have := (List.getElem?_eq_some_iff.mp e).1
      simpa using this
    rw [List.getElem?_set_self hl] at e
    cases e
    exact ⟨x, List.getElem?_set_self (by rw [← h.len]; exact hl), r⟩
  · rw [List.getElem?_set_ne hj] at e
    obtain ⟨y, h1, h2⟩ := h.at_ j w e
    exact ⟨y, by rw [List.getElem?_set_ne hj]; exact h1, h2⟩
theorem Renv.clear {ρ : Env} {σ : L2.St} {i : Nat} (h : Renv K m S H ρ σ) : Renv K m S H (ρ.set i none) (σ.set i none) := by
  refine ⟨by simpa using h.len, fun j w e => ?_⟩
  by_cases hj : i = j
  · subst hj
    by_cases hl : i < ρ.length
    · rw [List.getElem?_set_self hl] at e; cases e
    · rw [List.getElem?_eq_none (by simpa using hl)] at e; cases e
  · rw [List.getElem?_set_ne hj] at e
    obtain ⟨y, h1, h2⟩ := h.at_ j w e
    exact ⟨y, by rw [List.getElem?_set_ne hj]; exact h1, h2⟩
theorem Renv.wipe {ρ : Env} {σ : L2.St} (h : Renv K m S H ρ σ) : ∀ ws, Renv K m S H (In.wipe ρ ws) (L2.wipe σ ws)
  | [] => h
  | w :: ws => by
    show Renv K m S H ((In.wipe ρ ws).set w Option.none) ((L2.wipe σ ws).set w Option.none)
    exact (h.wipe ws).clear
/-! ### the steps of the abstract heap -/
theorem keeps_new {p : Addr} {o : HO} (h : H p = none) : Keeps H (upd H p o) :=
  ⟨fun b xs e => by rw [upd_ne (ne_of_none e h)]; exact e, fun b ob u e => by rw [upd_ne (ne_of_none e h)]; exact e⟩
theorem post_new {p : Addr} {o : HO} (h : H p = none) : Post m S H m S (upd H p o) :=
  ⟨keeps_new h, Nat.le_refl _, fun _ _ => rfl, fun _ h1 h2 => absurd h2 (Nat.not_lt.mpr h1), fun b u e _ => by rw [upd_ne (ne_of_none e h)]; exact e⟩
mutual
theorem ObOk.keep' (k : Keeps H H') {u : HO} {o : MO} (h : ObOk K H u o) : ObOk K H' u o := by
  cases o with
  | lst xs => obtain ⟨vs, e, r⟩ := h; exact ⟨vs, e, RPs.keep k _ _ r⟩
  | dct kvs => obtain ⟨es, e, r⟩ := h; exact ⟨es, e, RPd.keep k _ _ r⟩
end
theorem CellOk.keep (k : Keeps H H') {a : Addr} {c : Cell} (h : CellOk K H a c) (hl : ∀ u, H a = some u → H' a = some u) : CellOk K H' a c := by
  obtain ⟨u, h1, h2⟩ := h
  refine ⟨u, h1.keep' k, ?_⟩
  by_cases e : c.live = true
  · rw [if_pos e] at h2 ⊢; exact hl _ h2
  · rw [if_neg e] at h2 ⊢; obtain ⟨o, h2⟩ := h2; exact ⟨o, hl _ h2⟩
theorem Sok.new {p : Addr} {o : HO} (k : Sok K m S H) (h : H p = none) : Sok K m S (upd H p o) :=
  ⟨fun n c e => (k.at_ n c e).keep (keeps_new h) fun u hu => by rw [upd_ne (ne_of_none hu h)]; exact hu, k.inj⟩
theorem RV.new {p : Addr} {o : HO} {v : Vl} {x : V} (h : H p = none) (r : RV K m S H v x) : RV K m S (upd H p o) v x := r.post (post_new h)
/-- a live cell's obj written -/
theorem Sok.write {n : Nat} {c : Cell} {u : HO} {ob : MO} (k : Sok K m S H) (hc : S[n]? = some c) (hl : c.live = true) (h : ObOk K H u ob) : Sok K m (S.set n ⟨true, ob⟩) (upd H (m n) u) ∧ Post m S H m (S.set n ⟨true, ob⟩) (upd H (m n) u) := by
  have hn : n < S.length := (List.getElem?_eq_some_iff.mp hc).1
  obtain ⟨u0, h1, h2⟩ := k.at_ n c hc
  rw [if_pos hl] at h2
  have mu : ∀ xs, u0 ≠ .tup xs := by
    intro xs e
    cases hh : c.obj with
    | lst ys => rw [hh] at h1; obtain ⟨vs, e', _⟩ := h1; rw [e'] at e; cases e
    | dct ys => rw [hh] at h1; obtain ⟨vs, e', _⟩ := h1; rw [e'] at e; cases e
  have mu2 : ∀ o xs, u0 ≠ .frz o xs := by
    intro o xs e
    cases hh : c.obj with
    | lst ys => rw [hh] at h1; obtain ⟨vs, e', _⟩ := h1; rw [e'] at e; cases e
    | dct ys => rw [hh] at h1; obtain ⟨vs, e', _⟩ := h1; rw [e'] at e; cases e
  have kp : Keeps H (upd H (m n) u) := ⟨fun b xs e => by
      by_cases hb : b = m n
      · rw [hb, h2] at e; cases e; exact absurd rfl (mu _)
      · rw [upd_ne hb]; exact e, fun b o xs e => by
      by_cases hb : b = m n
      · rw [hb, h2] at e; cases e; exact absurd rfl (mu2 _ _)
      · rw [upd_ne hb]; exact e⟩
  refine ⟨⟨fun i c' e => ?_, fun i j hi hj e => k.inj i j (by simpa using hi) (by simpa using hj) e⟩, kp, by simp, fun _ _ => rfl, fun i h1 h2 => absurd h2 (by simpa using h1), fun b v e hb => by rw [upd_ne (Ne.symm (hb n hn))]; exact e⟩
  by_cases hi : n = i
  · subst hi
    rw [List.getElem?_set_self hn] at e
    cases e
    exact ⟨u, h.keep' kp, by rw [if_pos rfl]; exact upd_same⟩
  · rw [List.getElem?_set_ne hi] at e
    have hil : i < S.length := (List.getElem?_eq_some_iff.mp e).1
    exact (k.at_ i c' e).keep kp fun v hv => by rw [upd_ne (fun z => hi (k.inj n i hn hil z.symm))]; exact hv
/-- a live cell closed -/
theorem Sok.close {n : Nat} {c : Cell} {u : HO} {o : Obj} (k : Sok K m S H) (hc : S[n]? = some c) (hl : c.live = true) (hu : H (m n) = some u) (h : ObOk K H u c.obj) :
    Sok K m (S.set n ⟨false, c.obj⟩) (upd H (m n) (.frz o u)) ∧ Post m S H m (S.set n ⟨false, c.obj⟩) (upd H (m n) (.frz o u)) := by
  have hn : n < S.length := (List.getElem?_eq_some_iff.mp hc).1
  have mu : ∀ xs, u ≠ .tup xs := by
    intro xs e
    cases hh : c.obj with
    | lst ys => rw [hh] at h; obtain ⟨vs, e', _⟩ := h; rw [e'] at e; cases e
    | dct ys => rw [hh] at h; obtain ⟨vs, e', _⟩ := h; rw [e'] at e; cases e
  have mu2 : ∀ o xs, u ≠ .frz o xs := by
    intro o xs e
    cases hh : c.obj with
    | lst ys => rw [hh] at h; obtain ⟨vs, e', _⟩ := h; rw [e'] at e; cases e
    | dct ys => rw [hh] at h; obtain ⟨vs, e', _⟩ := h; rw [e'] at e; cases e
  have kp : Keeps H (upd H (m n) (.frz o u)) := ⟨fun b xs e => by
      by_cases hb : b = m n
      · rw [hb, hu] at e; cases e; exact absurd rfl (mu _)
      · rw [upd_ne hb]; exact e, fun b o xs e => by
      by_cases hb : b = m n
      · rw [hb, hu] at e; cases e; exact absurd rfl (mu2 _ _)
      · rw [upd_ne hb]; exact e⟩
  refine ⟨⟨fun i c' e => ?_, fun i j hi hj e => k.inj i j (by simpa using hi) (by simpa using hj) e⟩, kp, by simp, fun _ _ => rfl, fun i h1 h2 => absurd h2 (by simpa using h1), fun b v e hb => by rw [upd_ne (Ne.symm (hb n hn))]; exact e⟩
  by_cases hi : n = i
  · subst hi
    rw [List.getElem?_set_self hn] at e
    cases e
    exact ⟨u, h.keep' kp, by rw [if_neg (by simp)]; exact ⟨o, upd_same⟩⟩
  · rw [List.getElem?_set_ne hi] at e
    have hil : i < S.length := (List.getElem?_eq_some_iff.mp e).1
    exact (k.at_ i c' e).keep kp fun v hv => by rw [upd_ne (fun z => hi (k.inj n i hn hil z.symm))]; exact hv
/-- a fresh object goes live -/
theorem Sok.born {p : Addr} {u : HO} {ob : MO} (k : Sok K m S H) (hp : H p = some u) (hn : ∀ n, n < S.length → m n ≠ p) (h : ObOk K H u ob) :
    Sok K (fun n => if n = S.length then p else m n) (S ++ [⟨true, ob⟩]) H := by
  refine ⟨fun i c e => ?_, fun i j hi hj e => ?_⟩
  · by_cases hi : i = S.length
    · subst hi
      rw [List.getElem?_append_right (Nat.le_refl _)] at e
      simp at e
      subst e
      rw [if_pos rfl]
      exact ⟨u, h, by rw [if_pos rfl]; exact hp⟩
    · have hl : i < S.length := by
        have := (List.getElem?_eq_some_iff.mp e).1
        simp at this
        omega
      rw [List.getElem?_append_left hl] at e
      rw [if_neg hi]
      exact k.at_ i c e
  · simp at hi hj
    by_cases h1 : i = S.length
    · by_cases h2 : j = S.length
      · omega
      · simp only [if_pos h1, if_neg h2] at e
        exact absurd e.symm (hn j (by omega))
    · by_cases h2 : j = S.length
      · simp only [if_pos h2, if_neg h1] at e
        exact absurd e (hn i (by omega))
      · simp only [if_neg h1, if_neg h2] at e
        exact k.inj i j (by omega) (by omega) e
/-- behind a call: the callee's own cells are gone -/
theorem Sok.cut {n : Nat} (k : Sok K m S H) : Sok K m (S.take n) H :=
  ⟨fun i c e => by
    have hl := (List.getElem?_eq_some_iff.mp e).1
    have hin : i < n := by rw [List.length_take] at hl; omega
    rw [List.getElem?_take_of_lt hin] at e
    exact k.at_ i c e, fun i j hi hj e => k.inj i j (by rw [List.length_take] at hi; omega) (by rw [List.length_take] at hj; omega) e⟩
theorem Post.cut (p : Post m S H m' S' H') : Post m S H m' (S'.take S.length) H' :=
  ⟨p.k, by rw [List.length_take]; have := p.len; omega, p.map, fun n h1 h2 => absurd h2 (by rw [List.length_take]; omega), p.obj⟩
end
end In
/-! part InTm -/
set_option Elab.async false
set_option linter.all false
set_option maxRecDepth 100000
set_option maxHeartbeats 4000000
/-! A tuple, once. -/
namespace In
open PySem PySem.Spec PyProof.Rows L2
open AutoSeq1 (wpAny_loadPart')
theorem tuple_mulW1 (l : Addr) (items : Array Value) (n : Nat) (dd : Option Addr) (sl : Array (Option Value)) (x : Int) (u : Tok) (c0 : (decide (x < -(2 ^ 63)) || decide (x ≥ 2 ^ 63)) = false) (c1 : (items.isEmpty || x == 1) = true) :
    Meets (Builtin.«tuple.__mul__» ⟨[.ref l, .int x u], []⟩) (fun _ R s => s.heap.get? l = some { cls := .type "tuple", dict := dd, data := .seq items n, slots := sl } ∧
      R (.ok (.ret (Value.ref l))) { s with heap := s.heap, toks := s.toks }) :=
  .of_wp fun prog w A R s h => by
    obtain ⟨hp, g, d, tk, os⟩ := s
    obtain ⟨hl, h⟩ := h
    have f1 := AutoSeq1.idx_int
    have f2 := AutoSeq1.sub_tuple_tuple
    wp_walk using wpAny_loadPart' hl
    repeat (first
      | (refine wpAny_ite_false (decide_eq_false (by rw [c0]; exact Bool.false_ne_true)) ?_; wp_walk using wpAny_loadPart' hl)
      | (refine wpAny_ite_true (decide_eq_true c1) ?_; wp_walk using wpAny_loadPart' hl))
    exact ⟨_, rfl, h⟩
def rRepT1 (K : PySem.W.Frag) : R2 := fun x y H Q => ∃ l xs, x = .ref l ∧ y = .int 1 ∧ SqT K H l xs ∧ Q (.ref l) H
theorem op_repT1 {X : Cx} : OpR X (binaryOp .Mult) (rRepT1 X.K) := by
  intro pins s σ H x y v u Q I rx ry h
  obtain ⟨l, xs, rfl, rfl, hT, q⟩ := h
  cases rx
  obtain ⟨t, rfl⟩ := ry
  obtain ⟨its, r, ⟨⟨cls, dd, data, sl⟩, ho, hc, n, hd⟩, hs⟩ := I.tuple hT
  simp only at hc hd
  subst hc hd
  refine wpAny_binaryOp_repeat_ref (T := "tuple") (U := "int") (by decide) ⟨_, ho, rfl⟩ (fun s' => typeIs_int s' 1 t) noFill_tuple_mul F.fills_int_mul F.slot_int_rmul repeat_tuple F.slot_int_index.lookup
    (call_meets F.slot_int_rmul (typeIs_int s 1 t) F.entry_int_rmul (F.args_int_rmul_2 _ _) (int_rmul_tuple 1 t l its.toArray n dd sl)
      ⟨ho, rfl, ⟨_, ho, rfl⟩, call_meets F.slot_tuple_mul ⟨_, ho, rfl⟩ F.entry_tuple_mul (F.args_tuple_mul_2 _ _) (tuple_mulW1 l its.toArray n dd sl 1 t (by decide) (by simp)) ⟨ho, ?_⟩⟩)
  exact ⟨.ref l, H, I, rfl, q⟩
end In
/-! part InC -/
set_option Elab.async false
set_option linter.all false
set_option maxRecDepth 100000
set_option maxHeartbeats 1000000
/-! What a run means; the rules of expressions. -/
namespace In
open PySem PySem.Spec PyProof.Rows L2
/-- an error of the program's own class c, made with x -/
def Exc (K : Frag) (mg : Str → Option Value) (ex : List Str) (H : Hp) (c : Str) (x : PyData) (cls : Value) (d : Option Addr) : Prop :=
  ∃ (C dd : Addr) (v : V), c ∈ ex ∧ cls = .ref C ∧ mg c = some (.ref C) ∧ d = some dd ∧ H dd = some (.xd [(("reason" : Str), v)]) ∧ RP K H x v
/-- what a reading leans on -/
structure Gx where
  K : Frag
  mg : Str → Option Value
  W : WX
  F : Fns
  ex : List Str
def Den (g : Gx) (n : Nat) {α : Type} (r : R α) (m : Mp) (S : Sto) (H : Hp) (Q : α → Mp → Sto → Hp → Prop) : Prop := match r with
  | .no => False
  | .ok a S' => ∀ m' H', Post m S H m' S' H' → Sok g.K m' S' H' → Q a m' S' H'
  | .ex c x S' => ∀ (m' : Mp) (H' : Hp) (cls : Value) (d : Option Addr) (σ' : L2.St), σ'.length = n → Post m S H m' S' H' → Sok g.K m' S' H' → Exc g.K g.mg g.ex H' c x cls d → g.W cls d σ' H'
section
variable {g : Gx} {n : Nat} {α β : Type} {r : R α} {k : α → Sto → R β} {m m1 : Mp} {S S1 : Sto} {H H1 : Hp}
theorem Den.from {Q : α → Mp → Sto → Hp → Prop} (p : Post m S H m1 S1 H1) (s1 : Sok g.K m1 S1 H1) (h : Den g n r m S H Q) : Den g n r m1 S1 H1 Q := by
  cases r with
  | no => exact h
  | ok a S' => exact fun m' H' p' s' => h m' H' (p.trans s1 p') s'
  | ex c x S' => exact fun m' H' cls d σ' hl p' s' e => h m' H' cls d σ' hl (p.trans s1 p') s' e
theorem Den.mono {Q Q' : α → Mp → Sto → Hp → Prop} (h : Den g n r m S H Q) (hq : ∀ a m' S' H', Post m S H m' S' H' → Sok g.K m' S' H' → Q a m' S' H' → Q' a m' S' H') : Den g n r m S H Q' := by
  cases r with
  | no => exact h
  | ok a S' => exact fun m' H' p' s' => hq _ _ _ _ p' s' (h m' H' p' s')
  | ex c x S' => exact h
theorem Den.bind {Q : β → Mp → Sto → Hp → Prop} (h : Den g n (r.bind k) m S H Q) : Den g n r m S H fun a m1 S1 H1 => Den g n (k a S1) m1 S1 H1 Q := by
  cases r with
  | no => exact h
  | ex c x S' => exact h
  | ok a S' => exact fun m' H' p' s' => Den.from p' s' (show Den g n (k a S') m S H Q from h)
theorem Den.opt {Q : α → Mp → Sto → Hp → Prop} {o : Option α} (h : Den g n (R.opt o S) m S H Q) (s : Sok g.K m S H) : ∃ a, o = some a ∧ Q a m S H := by
  cases o with
  | none => exact h.elim
  | some a => exact ⟨a, rfl, h m H .refl s⟩
/-- after a step that only adds to the heap -/
theorem Den.ok {Q : α → Mp → Sto → Hp → Prop} {a : α} (h : Den g n (.ok a S) m S H Q) (p : Post m S H m S H1) (s : Sok g.K m S H1) : Q a m S H1 := h m H1 p s
theorem Den.calm {Q : α → Mp → Sto → Hp → Prop} (h : Den g n r.calm m S H Q) (g' : Gx) (hg : g'.K = g.K) (n' : Nat) : Den g' n' r m S H Q := by
  cases r with
  | no => exact h
  | ok a S' => exact fun m' H' p' s' => h m' H' p' (by rw [← hg]; exact s')
  | ex c x S' => exact False.elim (show False from h)
end

/-! ### reading data, live or closed -/
def RT (K : Frag) (H : Hp) (d : PyData) (x : V) : Prop := match d with
  | .list xs => ∃ a vs, x = .ref a ∧ Rd H a (.lst vs) ∧ RPs K H xs vs
  | .dict kvs => ∃ a es, x = .ref a ∧ Rd H a (.dK es) ∧ RPd K H kvs es
  | d => RP K H d x
section
variable {K : Frag} {m : Mp} {S : Sto} {H : Hp} {x : V} {d : PyData}
theorem RP.rt (h : RP K H d x) : RT K H d x := by
  cases h with
  | lst h r => exact ⟨_, _, rfl, .inr h, r⟩
  | dct h r => exact ⟨_, _, rfl, .inr ⟨_, h⟩, r⟩
  | non => exact .non
  | bl b => exact .bl b
  | int b => exact .int b
  | str b => exact .str b
  | tup h r => exact RP.tup h r
theorem RV.rt {v : Vl} (h : RV K m S H v x) (s : Sok K m S H) (e : view S v = some d) : RT K H d x := by
  cases v with
  | d y => cases e; exact RP.rt h
  | loc n =>
    obtain ⟨rfl, hl⟩ := h
    have e' : (S[n]?).map (fun c => c.obj.data) = some d := e
    rw [List.getElem?_eq_getElem hl] at e'
    simp only [Option.map_some, Option.some.injEq] at e'
    subst e'
    obtain ⟨u, h1, h2⟩ := s.at_ n S[n] (List.getElem?_eq_getElem hl)
    have h3 : Rd H (m n) u := by
      by_cases q : S[n].live = true
      · rw [if_pos q] at h2; exact .inl h2
      · rw [if_neg q] at h2; exact .inr h2
    cases ho : S[n].obj with
    | lst xs =>
      rw [ho] at h1
      obtain ⟨vs, rfl, r⟩ := h1
      exact ⟨_, vs, rfl, h3, r⟩
    | dct kvs =>
      rw [ho] at h1
      obtain ⟨vs, rfl, r⟩ := h1
      exact ⟨_, vs, rfl, h3, r⟩
theorem RT.dp (h : RT K H d x) (hd : d.hasDict = false) : Dp K H x d := by
  cases d with
  | list xs =>
    obtain ⟨a, vs, rfl, h, r⟩ := h
    exact .lst (.inl h) (RPs.dp xs vs (by simpa [PyData.hasDict] using hd) r)
  | dict kvs => simp [PyData.hasDict] at hd
  | _ => exact RP.dp _ _ hd h
theorem RT.int {i : Int} (h : RT K H (.int i) x) : x = .int i := by
  have h' : RP K H (.int i) x := h
  cases h'; rfl
theorem RT.bl {i : Bool} (h : RT K H (.bool i) x) : x = .bl i := by
  have h' : RP K H (.bool i) x := h
  cases h'; rfl
theorem RT.str {i : Str} (h : RT K H (.str i) x) : x = .str i := by
  have h' : RP K H (.str i) x := h
  cases h'; rfl
theorem RT.non (h : RT K H .none x) : x = .non := by
  have h' : RP K H .none x := h
  cases h'; rfl
theorem RT.tup {xs : List PyData} (h : RT K H (.tuple xs) x) : ∃ a vs, x = .ref a ∧ SqT K H a vs ∧ RPs K H xs vs := by
  have h' : RP K H (.tuple xs) x := h
  clear h
  cases h' with
  | tup q r => exact ⟨_, _, rfl, q, r⟩
end
/-- the heap only grew -/
structure Ext (H H' : Hp) : Prop where
  o : ∀ b u, H b = some u → H' b = some u
theorem Ext.refl {H : Hp} : Ext H H := ⟨fun _ _ h => h⟩
theorem Ext.new {H : Hp} {p : Addr} {o : HO} (h : H p = none) : Ext H (upd H p o) := ⟨fun b u e => by rw [upd_ne (ne_of_none e h)]; exact e⟩
theorem Ext.trans {H H' H'' : Hp} (a : Ext H H') (b : Ext H' H'') : Ext H H'' := ⟨fun x u h => b.o x u (a.o x u h)⟩
section
variable {K : Frag} {m : Mp} {S : Sto} {H H' : Hp}
theorem Ext.keeps (e : Ext H H') : Keeps H H' := ⟨fun b xs h => e.o b _ h, fun b o u h => e.o b _ h⟩
theorem Ext.post (e : Ext H H') : Post m S H m S H' := ⟨e.keeps, Nat.le_refl _, fun _ _ => rfl, fun _ h1 h2 => absurd h2 (Nat.not_lt.mpr h1), fun b u h _ => e.o b u h⟩
theorem Ext.sok (e : Ext H H') (s : Sok K m S H) : Sok K m S H' := ⟨fun n c h => (s.at_ n c h).keep e.keeps fun u hu => e.o _ u hu, s.inj⟩
end
/-- a result: data that stands closed -/
def Rs (K : Frag) (H : Hp) (d : PyData) (Q : VK) : Prop := ∀ z H', Ext H H' → RP K H' d z → Q z H'
/-- a result: a new container -/
def RsU (K : Frag) (H : Hp) (d : PyData) (Q : VK) : Prop := ∀ p u ob, d = ob.data → H p = none → ObOk K H u ob → Q (.ref p) (upd H p u)
theorem Rs.int {K : Frag} {H : Hp} {i : Int} {Q : VK} (h : Rs K H (.int i) Q) : Q (.int i) H := h _ _ .refl (.int i)
theorem Rs.bl {K : Frag} {H : Hp} {i : Bool} {Q : VK} (h : Rs K H (.bool i) Q) : Q (.bl i) H := h _ _ .refl (.bl i)
theorem Rs.tup {K : Frag} {H : Hp} {xs : List PyData} {vs : List V} {Q : VK} (h : Rs K H (.tuple xs) Q) (r : RPs K H xs vs) : ∀ p, H p = none → Q (.ref p) (upd H p (.tup vs)) :=
  fun p hp => h _ _ (Ext.new hp) (.tup (SqT.of upd_same) (RPs.keep (keeps_new hp) _ _ r))
/-- a new container, closed at once -/
theorem rsU_of {K : Frag} {H : Hp} {d : PyData} {Q : VK} (h : Rs K H d Q) : RsU K H d fun z H1 => ∃ a u, z = .ref a ∧ H1 a = some u ∧ Mut (some u) ∧ ∀ o, Q z (upd H1 a (.frz o u)) := by
  intro p u ob e hp hu
  refine ⟨p, u, rfl, upd_same, ?_, fun o => ?_⟩
  · cases ob with
    | lst xs => obtain ⟨vs, rfl, _⟩ := hu; trivial
    | dct xs => obtain ⟨vs, rfl, _⟩ := hu; trivial
  · rw [upd_upd]
    refine h _ _ (Ext.new hp) ?_
    subst e
    cases ob with
    | lst xs => obtain ⟨vs, rfl, r⟩ := hu; exact .lst ⟨o, upd_same⟩ (RPs.keep (keeps_new hp) _ _ r)
    | dct xs => obtain ⟨vs, rfl, r⟩ := hu; exact .dct upd_same (RPd.keep (keeps_new hp) _ _ r)
theorem ep_lock {X : Cx} {pins : List (Addr × Obj)} {σ : L2.St} {Q : VK} {u : Value} {s' : Shared}
    (h : EP X pins σ (fun z H1 => ∃ a u, z = .ref a ∧ H1 a = some u ∧ Mut (some u) ∧ ∀ o, Q z (upd H1 a (.frz o u))) u s') : EP X pins σ Q u s' := by
  obtain ⟨v, H', I, r, a, u', rfl, e, mu, q⟩ := h
  obtain ⟨od, I2⟩ := I.lock e mu
  exact ⟨_, _, I2, r, q od⟩
/-! ### operators on data -/
def rD (K : Frag) (f : PyData → PyData → Option PyData) : R2 := fun x y H Q => ∃ dx dy dz, RT K H dx x ∧ RT K H dy y ∧ f dx dy = some dz ∧ Rs K H dz Q
def rU (K : Frag) (f : PyData → PyData → Option PyData) : R2 := fun x y H Q => ∃ dx dy dz, RT K H dx x ∧ RT K H dy y ∧ f dx dy = some dz ∧ RsU K H dz Q
/-- a condition on two data for which the result is a new container -/
theorem rU_shut {X : Cx} {f : Value → Value → Sem Value} {k : PyData → PyData → Option PyData} (h : OpR X f (rU X.K k)) : OpR X f (rD X.K k) := by
  intro pins s σ H x y v u Q I rx ry q
  obtain ⟨dx, dy, dz, h1, h2, h3, h4⟩ := q
  exact thn (h pins s σ H x y v u _ I rx ry ⟨dx, dy, dz, h1, h2, h3, rsU_of h4⟩) fun _ _ e => ep_lock e
/-- by the kinds of data -/
theorem opR_rD {X : Cx} {f : Value → Value → Sem Value} {k : PyData → PyData → Option PyData}
    (h : ∀ dx dy dz, k dx dy = some dz → OpR X f (fun x y H Q => RT X.K H dx x ∧ RT X.K H dy y ∧ Rs X.K H dz Q)) : OpR X f (rD X.K k) := by
  intro pins s σ H x y v u Q I rx ry q
  obtain ⟨dx, dy, dz, h1, h2, h3, h4⟩ := q
  exact h dx dy dz h3 pins s σ H x y v u Q I rx ry ⟨h1, h2, h4⟩
theorem opR_rU {X : Cx} {f : Value → Value → Sem Value} {k : PyData → PyData → Option PyData}
    (h : ∀ dx dy dz, k dx dy = some dz → OpR X f (fun x y H Q => RT X.K H dx x ∧ RT X.K H dy y ∧ RsU X.K H dz Q)) : OpR X f (rU X.K k) := by
  intro pins s σ H x y v u Q I rx ry q
  obtain ⟨dx, dy, dz, h1, h2, h3, h4⟩ := q
  exact h dx dy dz h3 pins s σ H x y v u Q I rx ry ⟨h1, h2, h4⟩
theorem OpR.imp {X : Cx} {f : Value → Value → Sem Value} {r r' : R2} (h : OpR X f r) (q : ∀ x y H Q, r' x y H Q → r x y H Q) : OpR X f r' :=
  fun pins s σ H x y v u Q I rx ry z => h pins s σ H x y v u Q I rx ry (q _ _ _ _ z)
/-- list + list, tracked or closed -/
theorem op_cat2 {X : Cx} : OpR X (binaryOp .Add) (fun x y H Q => ∃ l b xs zs, x = .ref l ∧ y = .ref b ∧ Rd H l (.lst xs) ∧ Rd H b (.lst zs) ∧ xs.length + zs.length ≤ sizeLine ∧ ∀ p, H p = none → Q (.ref p) (upd H p (.lst (xs ++ zs)))) := by
  intro pins s σ H x y v u Q I rx ry h
  obtain ⟨l, b, xs, zs, rfl, rfl, hH, hB, hz, q⟩ := h
  cases rx
  cases ry
  obtain ⟨z, its, n, r, e⟩ := hH.ok I.hok
  obtain ⟨z2, its2, n2, r2, e2⟩ := hB.ok I.hok
  have hl := r.length
  have hl2 := r2.length
  refine PySem.P.add_list e e2 ?_ (by rw [List.size_toArray, List.size_toArray]; omega)
  have ea : its.toArray ++ its2.toArray = (its ++ its2).toArray := by simp
  rw [ea]
  exact ⟨.ref _, _, I.lnew (t' := s.toks) (r.append r2) (by rw [List.length_append]; omega), rfl, q _ I.fresh⟩
theorem fits_le {n : Nat} (h : fits n = true) : n ≤ sizeLine := by rw [sizeLine_eq]; exact of_decide_eq_true h
theorem small_iff {i : Int} (h : small i = true) : -(2 ^ 64) < i ∧ i < 2 ^ 64 := by
  simpa only [small, Bool.and_eq_true, decide_eq_true_eq] using h
section
variable {X : Cx}
def opOf : B2 → Operator
  | .add => .Add | .sub => .Sub | .mul => .Mult | .fdiv => .FloorDiv | .mod => .Mod | .pow => .Pow | .shl => .LShift | .shr => .RShift | .band => .BitAnd
theorem opR_int {f : Value → Value → Sem Value} {C : Int → Int → Prop} {k : Int → Int → Int} {i j : Int} (h : OpR X f (rI C fun i j => .int (k i j))) (c : C i j) :
    OpR X f (fun x y H Q => RT X.K H (.int i) x ∧ RT X.K H (.int j) y ∧ Rs X.K H (.int (k i j)) Q) :=
  OpR.imp h fun x y H Q ⟨h1, h2, h3⟩ => ⟨i, j, h1.int, h2.int, c, h3.int⟩
theorem opR_int0 {f : Value → Value → Sem Value} {k : Int → Int → Int} {i j : Int} (h : OpR X f (rI0 fun i j => .int (k i j))) :
    OpR X f (fun x y H Q => RT X.K H (.int i) x ∧ RT X.K H (.int j) y ∧ Rs X.K H (.int (k i j)) Q) :=
  OpR.imp h fun x y H Q ⟨h1, h2, h3⟩ => ⟨i, j, h1.int, h2.int, h3.int⟩
/-- a list times an int, tracked or closed -/
theorem op_rep2 : OpR X (binaryOp .Mult) (fun x y H Q => ∃ l k xs, x = .ref l ∧ y = .int k ∧ Rd H l (.lst xs) ∧ -(2 ^ 63) ≤ k ∧ k < 2 ^ 63 ∧ xs.length * k.toNat ≤ sizeLine ∧
  ∀ p, H p = none → Q (.ref p) (upd H p (.lst (List.replicate k.toNat xs).flatten))) := by
  intro pins s σ H x y v u Q I rx ry h
  obtain ⟨l, k, xs, rfl, rfl, hH, h1, h2, hz, q⟩ := h
  cases rx
  obtain ⟨t, rfl⟩ := ry
  obtain ⟨z, its, n, r, e⟩ := hH.ok I.hok
  have hl := r.length
  have hlen : its.toArray.size * k.toNat ≤ sizeLine := by rw [List.size_toArray, ← hl]; exact hz
  have hcap : ¬ its.toArray.size * k.toNat > (2 ^ 63 - 1) / 8 := by
    have : (sizeLine : Nat) ≤ (2 ^ 63 - 1) / 8 := by decide
    omega
  have hfit : ¬ (!Builtin.List.listFitsIndex k) = true := by
    rw [fitsIndex_both h1 h2]
    exact Bool.false_ne_true
  have hlong : ¬ Builtin.List.listTooLong (its.toArray.size * k.toNat) = true := by
    rw [notLongL hlen]
    exact Bool.false_ne_true
  have hnew : List.foldl (fun x1 x2 => x1 ++ x2) #[] (List.replicate (if its.toArray.isEmpty = true then 0 else k.toNat) its.toArray) = (List.replicate k.toNat its).flatten.toArray := by
    have f0 : ∀ m : Nat, List.foldl (fun x1 x2 => x1 ++ x2) #[] (List.replicate m its.toArray) = (List.replicate m its).flatten.toArray := fun m => by
      have := foldl_rep its m []
      rw [List.nil_append] at this
      exact this
    rw [f0]
    cases its with
    | nil => simp
    | cons a r' => rw [if_neg (by simp)]
  refine wpAny_binaryOp_repeat_ref (T := "list") (U := "int") (by decide) ⟨_, e, rfl⟩ (fun s' => typeIs_int s' k t) noFill_list_mul F.fills_int_mul F.slot_int_rmul repeat_list F.slot_int_index.lookup
    (call_meets F.slot_int_rmul (typeIs_int s k t) F.entry_int_rmul (F.args_int_rmul_2 _ _) (int___rmul___int_list k t l its.toArray n)
      ⟨e, rfl, ⟨_, e, rfl⟩, call_meets F.slot_list_mul ⟨_, e, rfl⟩ F.entry_list_mul (F.args_list_mul_2 _ _) (AutoListH.list___mul___list_int_3 l its.toArray n k t hfit hcap hlong) ⟨e, ?_⟩⟩)
  rw [hnew]
  exact ⟨.ref _, _, I.lnew (t' := s.toks) (r.rep k.toNat) (by rw [PyProof.Rows.lm_len_rep_flat, Nat.mul_comm]; exact hz), rfl, q _ I.fresh⟩
theorem RPs.rep {K : Frag} {H : Hp} {xs : List PyData} {vs : List V} (r : RPs K H xs vs) : ∀ n : Nat, RPs K H (List.replicate n xs).flatten (List.replicate n vs).flatten
  | 0 => .nil
  | n + 1 => by
    rw [List.replicate_succ, List.replicate_succ, List.flatten_cons, List.flatten_cons]
    exact r.app (RPs.rep r n)
/-- lists: a new one -/
def lstop : B2 → PyData → PyData → Option PyData
  | .add, .list xs, .list ys => if fits (xs.length + ys.length) then some (.list (xs ++ ys)) else none
  | .mul, .list xs, .int k => if decide (-(2 ^ 62) ≤ k) && decide (k < 2 ^ 62) && fits (xs.length * k.toNat) then some (.list (List.replicate k.toNat xs).flatten) else none
  | _, _, _ => none
theorem op_lst (op : B2) : OpR X (binaryOp (opOf op)) (rU X.K (lstop op)) := by
  refine opR_rU fun dx dy dz e => ?_
  unfold lstop at e
  split at e
  · rename_i xs ys
    split at e
    · rename_i hf
      cases e
      refine OpR.imp op_cat2 fun x y H Q ⟨h1, h2, h3⟩ => ?_
      obtain ⟨a, vs, rfl, r1, p1⟩ := h1
      obtain ⟨b, ws, rfl, r2, p2⟩ := h2
      exact ⟨a, b, vs, ws, rfl, rfl, r1, r2, by rw [← p1.len, ← p2.len]; exact fits_le hf, fun p hp => h3 p _ (.lst (xs ++ ys)) rfl hp ⟨_, rfl, p1.app p2⟩⟩
    · cases e
  · rename_i xs k
    split at e
    · rename_i hf
      cases e
      simp only [Bool.and_eq_true, decide_eq_true_eq] at hf
      refine OpR.imp op_rep2 fun x y H Q ⟨h1, h2, h3⟩ => ?_
      obtain ⟨a, vs, rfl, r1, p1⟩ := h1
      exact ⟨a, k, vs, rfl, h2.int, r1, by omega, by omega, by rw [← p1.len]; exact fits_le hf.2, fun p hp => h3 p _ (.lst _) rfl hp ⟨_, rfl, p1.rep _⟩⟩
    · cases e
  · cases e
/-- the operators -/
theorem op_bin (op : B2) : OpR X (binaryOp (opOf op)) (rD X.K (binop op)) := by
  refine opR_rD fun dx dy dz e => ?_
  have viaL : ∀ {f : Value → Value → Sem Value}, OpR X f (rU X.K (lstop op)) → lstop op dx dy = some dz → OpR X f (fun x y H Q => RT X.K H dx x ∧ RT X.K H dy y ∧ Rs X.K H dz Q) := fun h e' =>
    OpR.imp (rU_shut h) fun x y H Q ⟨h1, h2, h3⟩ => ⟨dx, dy, dz, h1, h2, e', h3⟩
  unfold binop at e
  split at e
  · cases e; exact opR_int0 op_add
  · exact viaL (op_lst .add) e
  · rename_i xs ys
    split at e
    · rename_i hf
      cases e
      refine OpR.imp op_catA fun x y H Q ⟨h1, h2, h3⟩ => ?_
      obtain ⟨a, vs, rfl, r1, p1⟩ := h1.tup
      obtain ⟨b, ws, rfl, r2, p2⟩ := h2.tup
      refine ⟨a, b, vs, ws, rfl, rfl, r1, r2, by rw [← p1.len, ← p2.len]; exact fits_le hf, fun e => ?_, fun _ e => ?_, fun _ _ => Rs.tup h3 (p1.app p2)⟩
      · subst e
        cases p1
        exact h3 _ _ .refl (.tup r2 p2)
      · subst e
        cases p2
        exact h3 _ _ .refl (.tup r1 (by simpa using p1))
    · cases e
  · cases e; exact opR_int0 op_sub
  · split at e
    · rename_i hf
      cases e
      refine opR_int op_mul ?_
      simp only [Bool.or_eq_true] at hf
      exact hf.elim (fun z => .inl (small_iff z)) fun z => .inr (small_iff z)
    · cases e
  · exact viaL (op_lst .mul) e
  · rename_i xs k
    split at e
    · rename_i hk
      cases e
      have hk1 : k = 1 := of_decide_eq_true hk
      subst hk1
      refine OpR.imp op_repT1 fun x y H Q ⟨h1, h2, h3⟩ => ?_
      have hi := h2.int
      obtain ⟨a, vs, rfl, r1, p1⟩ := h1.tup
      exact ⟨a, vs, rfl, hi, r1, h3 _ _ .refl (.tup r1 p1)⟩
    split at e
    · rename_i hf
      cases e
      simp only [Bool.and_eq_true, decide_eq_true_eq] at hf
      refine OpR.imp op_repT fun x y H Q ⟨h1, h2, h3⟩ => ?_
      obtain ⟨a, vs, rfl, r1, p1⟩ := h1.tup
      refine ⟨a, k, vs, rfl, h2.int, r1, fun e => hf.1.2 ?_, hf.1.1.1, hf.1.1.2, by rw [← p1.len]; exact hf.2, Rs.tup h3 (p1.rep _)⟩
      subst e
      cases p1
      rfl
    · cases e
  · split at e
    · rename_i hf
      cases e
      simp only [Bool.and_eq_true, decide_eq_true_eq] at hf
      exact opR_int op_fdivN hf
    · cases e
  · split at e
    · rename_i hf
      cases e
      exact opR_int op_modN (of_decide_eq_true hf)
    · cases e
  · split at e
    · rename_i hf
      cases e
      simp only [Bool.and_eq_true, decide_eq_true_eq] at hf
      exact opR_int op_pow ⟨hf.1.1, hf.1.2, hf.2⟩
    · cases e
  · split at e
    · rename_i hf
      cases e
      simp only [Bool.and_eq_true, decide_eq_true_eq] at hf
      exact opR_int op_shl ⟨hf.1.1, hf.1.2, hf.2⟩
    · cases e
  · split at e
    · rename_i hf
      cases e
      exact opR_int op_shr (of_decide_eq_true hf)
    · cases e
  · cases e; exact opR_int0 op_and
  · cases e
/-! ### comparisons -/
def cmpOf : C2 → CmpOp
  | .eq => .Eq | .ne => .NotEq | .lt => .Lt | .le => .LtE | .gt => .Gt | .ge => .GtE | .isin => .In | .notin => .NotIn | .is_ => .Is | .isnot => .IsNot
def cmpd (op : C2) (x y : PyData) : Option PyData := (cmpop op x y).map .bool
theorem opR_cmp {f : Value → Value → Sem Value} {k : Int → Int → Bool} {i j : Int} (h : OpR X f (rI0 fun i j => .bl (k i j))) :
    OpR X f (fun x y H Q => RT X.K H (.int i) x ∧ RT X.K H (.int j) y ∧ Rs X.K H (.bool (k i j)) Q) :=
  OpR.imp h fun x y H Q ⟨h1, h2, h3⟩ => ⟨i, j, h1.int, h2.int, h3.bl⟩
theorem noDict_of {d : PyData} (h : eqOk d = true) : d.hasDict = false := PyData.hasDict_of_canLay d (SeqAt.canLay_of_shaped h)
theorem shaped_list {xs : List PyData} (h : eqOk (.tuple xs) = true) : eqOk (.list xs) = true := by
  have h' : (PyData.canLay0 (.tuple xs) && decide (PyData.depth (.tuple xs) ≤ 64)) = true := h
  show (PyData.canLay0 (.list xs) && decide (PyData.depth (.list xs) ≤ 64)) = true
  rw [Bool.and_eq_true, decide_eq_true_eq] at h' ⊢
  simpa only [PyData.canLay0, PyData.depth] using h'
/-- x in t, x not in t: t a list or tuple of data -/
theorem op_inD2 (hu : X.A.units + 65 < cLine) {ds : List PyData} {d c : PyData} (hc : c = .list ds ∨ c = .tuple ds) (sd : eqOk d = true) (sl : eqOk c = true) :
    OpR X (compareOp .In) (fun x y H Q => RT X.K H d x ∧ RT X.K H c y ∧ Rs X.K H (.bool (ds.any fun z => PyData.eqv z d)) Q) ∧
    OpR X (compareOp .NotIn) (fun x y H Q => RT X.K H d x ∧ RT X.K H c y ∧ Rs X.K H (.bool (!ds.any fun z => PyData.eqv z d)) Q) := by
  constructor
  · intro pins s σ H x y v u Q I rx ry ⟨h1, h2, q⟩
    obtain ⟨as, r1⟩ := Dp.reads I d x v (h1.dp (noDict_of sd)) rx
    obtain ⟨bs, r2⟩ := Dp.reads I c y u (h2.dp (noDict_of sl)) ry
    rcases hc with rfl | rfl
    · exact SeqAt.in_list_reads r2 r1 (SeqAt.canLay_of_shaped sl) (SeqAt.canLay_of_shaped sd) (room_in_shaped sd hu) ⟨.bl _, H, I, rfl, q.bl⟩
    · exact SeqAt.in_tuple_reads r2 r1 (SeqAt.canLay_of_shaped sl) (SeqAt.canLay_of_shaped sd) (room_in_shaped sd hu) ⟨.bl _, H, I, rfl, q.bl⟩
  · intro pins s σ H x y v u Q I rx ry ⟨h1, h2, q⟩
    obtain ⟨as, r1⟩ := Dp.reads I d x v (h1.dp (noDict_of sd)) rx
    obtain ⟨bs, r2⟩ := Dp.reads I c y u (h2.dp (noDict_of sl)) ry
    rcases hc with rfl | rfl
    · exact SeqAt.notIn_list_reads r2 r1 (SeqAt.canLay_of_shaped sl) (SeqAt.canLay_of_shaped sd) (room_in_shaped sd hu) ⟨.bl _, H, I, rfl, q.bl⟩
    · exact SeqAt.notIn_tuple_reads r2 r1 (SeqAt.canLay_of_shaped sl) (SeqAt.canLay_of_shaped sd) (room_in_shaped sd hu) ⟨.bl _, H, I, rfl, q.bl⟩
theorem isNone_of {K : Frag} {H : Hp} {d : PyData} {x : V} (h : RT K H d x) : decide (x = .non) = isNone d := by
  cases d with
  | none => rw [h.non]; rfl
  | bool b => rw [h.bl]; exact decide_eq_false (fun e => nomatch e)
  | int b => rw [h.int]; exact decide_eq_false (fun e => nomatch e)
  | str b => rw [h.str]; exact decide_eq_false (fun e => nomatch e)
  | list xs => obtain ⟨a, vs, rfl, _⟩ := h; exact decide_eq_false (fun e => nomatch e)
  | tuple xs => obtain ⟨a, vs, rfl, _⟩ := h.tup; exact decide_eq_false (fun e => nomatch e)
  | dict xs => obtain ⟨a, vs, rfl, _⟩ := h; exact decide_eq_false (fun e => nomatch e)
theorem op_cmp (hu : X.A.units + 65 < cLine) (op : C2) : OpR X (compareOp (cmpOf op)) (rD X.K (cmpd op)) := by
  refine opR_rD fun dx dy dz e => ?_
  obtain ⟨b, e1, e2⟩ := Option.map_eq_some_iff.mp (show (cmpop op dx dy).map PyData.bool = some dz from e)
  subst e2
  clear e
  replace e := e1
  unfold cmpop at e
  split at e
  · split at e
    · rename_i hf
      cases e
      rw [Bool.and_eq_true] at hf
      exact OpR.imp (op_eqD (by omega)) fun x y H Q ⟨h1, h2, h3⟩ => ⟨dx, dy, h1.dp (noDict_of hf.1), h2.dp (noDict_of hf.2), hf.1, hf.2, h3.bl⟩
    · cases e
  · split at e
    · rename_i hf
      cases e
      rw [Bool.and_eq_true] at hf
      exact OpR.imp (op_neD (by omega)) fun x y H Q ⟨h1, h2, h3⟩ => ⟨dx, dy, h1.dp (noDict_of hf.1), h2.dp (noDict_of hf.2), hf.1, hf.2, h3.bl⟩
    · cases e
  · cases e; exact opR_cmp op_lt
  · cases e; exact opR_cmp op_le
  · cases e; exact opR_cmp op_gt
  · cases e; exact opR_cmp op_ge
  · cases e; exact OpR.imp op_lt_str fun x y H Q ⟨h1, h2, h3⟩ => ⟨_, _, h1.str, h2.str, h3.bl⟩
  · cases e; exact OpR.imp op_le_str fun x y H Q ⟨h1, h2, h3⟩ => ⟨_, _, h1.str, h2.str, h3.bl⟩
  · split at e
    · rename_i hf
      cases e
      rw [Bool.and_eq_true] at hf
      exact (op_inD2 hu (.inl rfl) hf.1 hf.2).1
    · cases e
  · split at e
    · rename_i hf
      cases e
      rw [Bool.and_eq_true] at hf
      exact (op_inD2 hu (.inl rfl) hf.1 hf.2).2
    · cases e
  · split at e
    · rename_i hf
      cases e
      rw [Bool.and_eq_true] at hf
      exact (op_inD2 hu (.inr rfl) hf.1 hf.2).1
    · cases e
  · split at e
    · rename_i hf
      cases e
      rw [Bool.and_eq_true] at hf
      exact (op_inD2 hu (.inr rfl) hf.1 hf.2).2
    · cases e
  · cases e
    exact OpR.imp op_isN fun x y H Q ⟨h1, h2, h3⟩ => ⟨h2.non, by rw [isNone_of h1]; exact h3.bl⟩
  · cases e
    exact OpR.imp op_notN fun x y H Q ⟨h1, h2, h3⟩ => ⟨h2.non, by rw [isNone_of h1]; exact h3.bl⟩
  · cases e
end
end In
/-! part InMt -/
set_option Elab.async false
set_option linter.all false
set_option maxRecDepth 100000
set_option maxHeartbeats 1000000
/-! max and min of a tuple of ints. -/
namespace In
open PySem PySem.Spec PyProof.Rows L2
section
variable {prog : Program} {w : World} {A : Around} {E : Value → Shared → Prop} {s : Shared} {l : Addr} {xs : Array (Int × Tok)}
theorem iter_intTup {Q : Value → Shared → Prop} (hl : s.heap.IsTuple l (intItems xs))
    (h : ∀ s₂ : Shared, s₂ = { s with heap := s.heap.push { cls := .type "tuple_iterator", data := .fields #[.ref l, .int 0 0] } } →
      (s₂.heap.IsTupleIter s.heap.objs.size l 0 ∧ s₂.heap.IsTuple l (intItems xs)) → (∀ b ∈ [s.heap.objs.size, l], b < s₂.heap.objs.size) → l ≠ s.heap.objs.size → Q (.ref s.heap.objs.size) s₂) :
    wpAny (model prog w) A (pyIter (.ref l)) Q E s := by
  have hlt : l < s.heap.objs.size := by obtain ⟨_, e, _⟩ := hl; exact Heap.lt_size e
  refine wpAny_pyIter_tuple hl (h _ rfl ⟨⟨_, Heap.get?_push_size _ rfl, rfl, rfl⟩, hl.push _⟩ (fun b hb => ?_) (Nat.ne_of_lt hlt))
  show b < (s.heap.push _).objs.size
  rw [Heap.size_push]
  rcases List.mem_cons.mp hb with rfl | hb
  · exact Nat.lt_succ_self _
  · rcases List.mem_cons.mp hb with rfl | hb
    · exact Nat.lt_succ_of_lt hlt
    · cases hb
theorem old_keptT {h' : Heap} (hk : ∀ b o, b ∉ [s.heap.objs.size] → (s.heap.push { cls := .type "tuple_iterator", data := .fields #[.ref l, .int 0 0] }).get? b = some o → h'.get? b = some o) :
    ∀ b o, s.heap.get? b = some o → h'.get? b = some o := fun b o e => by
  refine hk b o (fun hm => ?_) (Heap.get?_push_of_some _ e)
  rcases List.mem_cons.mp hm with e1 | hm
  · exact absurd (e1 ▸ Heap.lt_size e) (Nat.lt_irrefl _)
  · cases hm
theorem max_intTup {Q : Value → Shared → Prop} (hh : A.handled = none) (hl : s.heap.IsTuple l (intItems xs)) (hne : 0 < xs.size)
    (h : ∀ v h' tk, (intItems xs)[argBest (fun i j => decide (numAt xs i > numAt xs j)) (xs.size - 1)]? = some v → (∀ b o, s.heap.get? b = some o → h'.get? b = some o) → Q v { s with heap := h', toks := tk }) :
    wpAny (model prog w) A (call (.builtin "max") [.ref l]) Q E s := by
  refine call_max_walk (iter_intTup hl fun s₂ e st hfp hlI => ?_)
  subst e
  refine ⟨_, _, _, _, _, _, _, rfl, Walks.tuple (A := A.in1) hh _ l hlI (intItems xs), st, hfp, by simpa [intItems] using hne, CmpOf.ints_gt (numAt xs) (fun _ _ => intItems_at), fun v h' tk hP hk => ?_⟩
  exact h v h' tk (by simpa [intItems] using hP) (old_keptT hk)
theorem min_intTup {Q : Value → Shared → Prop} (hh : A.handled = none) (hl : s.heap.IsTuple l (intItems xs)) (hne : 0 < xs.size)
    (h : ∀ v h' tk, (intItems xs)[argBest (fun i j => decide (numAt xs i < numAt xs j)) (xs.size - 1)]? = some v → (∀ b o, s.heap.get? b = some o → h'.get? b = some o) → Q v { s with heap := h', toks := tk }) :
    wpAny (model prog w) A (call (.builtin "min") [.ref l]) Q E s := by
  refine call_min_walk (iter_intTup hl fun s₂ e st hfp hlI => ?_)
  subst e
  refine ⟨_, _, _, _, _, _, _, rfl, Walks.tuple (A := A.in1) hh _ l hlI (intItems xs), st, hfp, by simpa [intItems] using hne, CmpOf.ints_lt (numAt xs) (fun _ _ => intItems_at), fun v h' tk hP hk => ?_⟩
  exact h v h' tk (by simpa [intItems] using hP) (old_keptT hk)
variable {its : List Value} {ns : List Int}
theorem max_rawT {Q : Value → Shared → Prop} (hh : A.handled = none) (hl : s.heap.IsTuple l its.toArray) (hi : IntsAre its ns) (hne : 0 < ns.length)
    (h : ∀ h' tk M t', (∀ b o, s.heap.get? b = some o → h'.get? b = some o) → M ∈ ns → (∀ a, a ∈ ns → a ≤ M) → Q (.int M t') { s with heap := h', toks := tk }) : wpAny (model prog w) A (call (.builtin "max") [.ref l]) Q E s := by
  obtain ⟨xs, e⟩ := hi.allInts.items
  have hn : numsOf (intItems xs).toList = ns := by rw [← e]; exact hi.numsOf
  rw [nums_intItems] at hn
  subst hn
  rw [e] at hl
  have hsz : 0 < xs.size := by simpa using hne
  refine max_intTup hh hl hsz fun v h' tk hv hk => ?_
  obtain ⟨t, rfl⟩ := intItems_at hv
  obtain ⟨h1, h2⟩ := argBest_gt (numAt xs) (xs.size - 1)
  refine h h' tk _ t hk ?_ fun a ha => ?_
  · rw [numAt_eq]; exact PySem.getD_mem (by rw [List.length_map, Array.length_toList]; omega)
  · obtain ⟨j, hj, rfl⟩ := mem_getD ha
    rw [List.length_map, Array.length_toList] at hj
    rw [← numAt_eq]; exact h2 j (by omega)
theorem min_rawT {Q : Value → Shared → Prop} (hh : A.handled = none) (hl : s.heap.IsTuple l its.toArray) (hi : IntsAre its ns) (hne : 0 < ns.length)
    (h : ∀ h' tk M t', (∀ b o, s.heap.get? b = some o → h'.get? b = some o) → M ∈ ns → (∀ a, a ∈ ns → M ≤ a) → Q (.int M t') { s with heap := h', toks := tk }) : wpAny (model prog w) A (call (.builtin "min") [.ref l]) Q E s := by
  obtain ⟨xs, e⟩ := hi.allInts.items
  have hn : numsOf (intItems xs).toList = ns := by rw [← e]; exact hi.numsOf
  rw [nums_intItems] at hn
  subst hn
  rw [e] at hl
  have hsz : 0 < xs.size := by simpa using hne
  refine min_intTup hh hl hsz fun v h' tk hv hk => ?_
  obtain ⟨t, rfl⟩ := intItems_at hv
  obtain ⟨h1, h2⟩ := argBest_lt (numAt xs) (xs.size - 1)
  refine h h' tk _ t hk ?_ fun a ha => ?_
  · rw [numAt_eq]; exact PySem.getD_mem (by rw [List.length_map, Array.length_toList]; omega)
  · obtain ⟨j, hj, rfl⟩ := mem_getD ha
    rw [List.length_map, Array.length_toList] at hj
    rw [← numAt_eq]; exact h2 j (by omega)
end
variable {X : Cx}
def rMaxT (K : PySem.W.Frag) : List V → Hp → VK → Prop := fun vs H Q => ∃ (a : Addr) (ns : List Int), vs = [V.ref a] ∧ SqT K H a (ns.map V.int) ∧ 0 < ns.length ∧ ∀ m, m ∈ ns → (∀ y, y ∈ ns → y ≤ m) → Q (.int m) H
def rMinT (K : PySem.W.Frag) : List V → Hp → VK → Prop := fun vs H Q => ∃ (a : Addr) (ns : List Int), vs = [V.ref a] ∧ SqT K H a (ns.map V.int) ∧ 0 < ns.length ∧ ∀ m, m ∈ ns → (∀ y, y ∈ ns → m ≤ y) → Q (.int m) H
theorem cr_maxT (hc : X.calm = true) : CallR X (.builtin "max") (rMaxT X.K) := by
  intro pins s σ H vs us Q I r h
  obtain ⟨a, ns, rfl, hs, hne, q⟩ := h
  obtain ⟨its, rv, hl, _⟩ := I.tuple hs
  rw [Vals.ref1 r]
  exact max_rawT (I.ok.hd hc) hl rv.ints hne fun h' tk m t' hk h1 h2 => ⟨.int _, H, I.kept hk, ⟨_, rfl⟩, q m h1 h2⟩
theorem cr_minT (hc : X.calm = true) : CallR X (.builtin "min") (rMinT X.K) := by
  intro pins s σ H vs us Q I r h
  obtain ⟨a, ns, rfl, hs, hne, q⟩ := h
  obtain ⟨its, rv, hl, _⟩ := I.tuple hs
  rw [Vals.ref1 r]
  exact min_rawT (I.ok.hd hc) hl rv.ints hne fun h' tk m t' hk h1 h2 => ⟨.int _, H, I.kept hk, ⟨_, rfl⟩, q m h1 h2⟩
end In
/-! part InD -/
set_option Elab.async false
set_option linter.all false
set_option maxRecDepth 100000
set_option maxHeartbeats 1000000
/-! Built-ins. -/
namespace In
open PySem PySem.Spec PyProof.Rows L2
/-! ### built-ins of one argument -/
def rD1 (K : Frag) (f : PyData → Option PyData) : List V → Hp → VK → Prop := fun vs H Q => ∃ x dx dz, vs = [x] ∧ RT K H dx x ∧ f dx = some dz ∧ Rs K H dz Q
def rU1 (K : Frag) (f : PyData → Option PyData) : List V → Hp → VK → Prop := fun vs H Q => ∃ x dx dz, vs = [x] ∧ RT K H dx x ∧ f dx = some dz ∧ RsU K H dz Q
/-! ### the least, the greatest, in order -/
theorem insertI_perm (i : Int) : ∀ l : List Int, (insertI i l).Perm (i :: l)
  | [] => .refl _
  | j :: r => by
    unfold insertI
    split
    · exact .refl _
    · exact ((insertI_perm i r).cons j).trans (List.Perm.swap i j r)
theorem sortI_perm : ∀ l : List Int, (sortI l).Perm l
  | [] => .refl _
  | i :: r => (insertI_perm i (sortI r)).trans ((sortI_perm r).cons i)
theorem insertI_sorted (i : Int) : ∀ l : List Int, l.Pairwise (· ≤ ·) → (insertI i l).Pairwise (· ≤ ·)
  | [], _ => by simp [insertI]
  | j :: r, h => by
    unfold insertI
    rw [List.pairwise_cons] at h
    split
    · rename_i hij
      rw [List.pairwise_cons, List.pairwise_cons]
      refine ⟨fun a ha => ?_, h⟩
      rcases List.mem_cons.mp ha with rfl | ha
      · exact hij
      · exact Int.le_trans hij (h.1 a ha)
    · rename_i hij
      rw [List.pairwise_cons]
      refine ⟨fun a ha => ?_, insertI_sorted i r h.2⟩
      rcases List.mem_cons.mp ((insertI_perm i r).mem_iff.mp ha) with rfl | ha
      · omega
      · exact h.1 a ha
theorem sortI_sorted : ∀ l : List Int, (sortI l).Pairwise (· ≤ ·)
  | [] => .nil
  | i :: r => insertI_sorted i _ (sortI_sorted r)
theorem sorted_uniq : ∀ {l l' : List Int}, l.Perm l' → l.Pairwise (· ≤ ·) → l'.Pairwise (· ≤ ·) → l = l'
  | [], l', p, _, _ => (List.nil_perm.mp p).symm
  | a :: l, [], p, _, _ => absurd (List.perm_nil.mp p) (by simp)
  | a :: l, b :: l', p, h, h' => by
    rw [List.pairwise_cons] at h h'
    have hb : b ∈ a :: l := p.mem_iff.mpr List.mem_cons_self
    have ha : a ∈ b :: l' := p.mem_iff.mp List.mem_cons_self
    have e : a = b := by
      rcases List.mem_cons.mp hb with q | q
      · exact q.symm
      · rcases List.mem_cons.mp ha with q' | q'
        · exact q'
        · exact Int.le_antisymm (h.1 b q) (h'.1 a q')
    subst e
    rw [sorted_uniq ((List.perm_cons a).mp p) h.2 h'.2]
theorem sortI_is {l l' : List Int} (p : l'.Perm l) (h : l'.Pairwise (· ≤ ·)) : l' = sortI l := sorted_uniq (p.trans (sortI_perm l).symm) h (sortI_sorted l)
theorem fold_max : ∀ (l : List Int) (i : Int), let m := l.foldl (fun m j => if j > m then j else m) i; (m = i ∨ m ∈ l) ∧ i ≤ m ∧ ∀ j ∈ l, j ≤ m
  | [], i => ⟨.inl rfl, Int.le_refl _, fun j h => absurd h (by simp)⟩
  | j :: l, i => by
    have q := fold_max l (if j > i then j else i)
    simp only [List.foldl_cons]
    obtain ⟨q1, q2, q3⟩ := q
    split at q1
    all_goals rename_i hj
    · rw [if_pos hj] at q2 q3 ⊢
      exact ⟨.inr (q1.elim (fun e => by rw [e]; exact List.mem_cons_self) fun e => List.mem_cons_of_mem _ e), by omega, fun k hk => (List.mem_cons.mp hk).elim (fun e => by rw [e]; exact q2) (q3 k)⟩
    · rw [if_neg hj] at q2 q3 ⊢
      exact ⟨q1.elim .inl fun e => .inr (List.mem_cons_of_mem _ e), q2, fun k hk => (List.mem_cons.mp hk).elim (fun e => by rw [e]; omega) (q3 k)⟩
theorem fold_min : ∀ (l : List Int) (i : Int), let m := l.foldl (fun m j => if j < m then j else m) i; (m = i ∨ m ∈ l) ∧ m ≤ i ∧ ∀ j ∈ l, m ≤ j
  | [], i => ⟨.inl rfl, Int.le_refl _, fun j h => absurd h (by simp)⟩
  | j :: l, i => by
    have q := fold_min l (if j < i then j else i)
    simp only [List.foldl_cons]
    obtain ⟨q1, q2, q3⟩ := q
    split at q1
    all_goals rename_i hj
    · rw [if_pos hj] at q2 q3 ⊢
      exact ⟨.inr (q1.elim (fun e => by rw [e]; exact List.mem_cons_self) fun e => List.mem_cons_of_mem _ e), by omega, fun k hk => (List.mem_cons.mp hk).elim (fun e => by rw [e]; exact q2) (q3 k)⟩
    · rw [if_neg hj] at q2 q3 ⊢
      exact ⟨q1.elim .inl fun e => .inr (List.mem_cons_of_mem _ e), q2, fun k hk => (List.mem_cons.mp hk).elim (fun e => by rw [e]; omega) (q3 k)⟩
theorem maxI_is : ∀ {l : List Int} {m : Int}, m ∈ l → (∀ j ∈ l, j ≤ m) → m = maxI l
  | [], m, h, _ => absurd h (by simp)
  | i :: l, m, h, hm => by
    have q := fold_max l i
    show m = l.foldl (fun m j => if j > m then j else m) i
    generalize l.foldl (fun m j => if j > m then j else m) i = x at q ⊢
    obtain ⟨q1, q2, q3⟩ := q
    have h1 : x ≤ m := q1.elim (fun e => by rw [e]; exact hm i List.mem_cons_self) fun e => hm x (List.mem_cons_of_mem _ e)
    have h2 : m ≤ x := (List.mem_cons.mp h).elim (fun e => by rw [e]; exact q2) (q3 m)
    omega
theorem minI_is : ∀ {l : List Int} {m : Int}, m ∈ l → (∀ j ∈ l, m ≤ j) → m = minI l
  | [], m, h, _ => absurd h (by simp)
  | i :: l, m, h, hm => by
    have q := fold_min l i
    show m = l.foldl (fun m j => if j < m then j else m) i
    generalize l.foldl (fun m j => if j < m then j else m) i = x at q ⊢
    obtain ⟨q1, q2, q3⟩ := q
    have h1 : m ≤ x := q1.elim (fun e => by rw [e]; exact hm i List.mem_cons_self) fun e => hm x (List.mem_cons_of_mem _ e)
    have h2 : x ≤ m := (List.mem_cons.mp h).elim (fun e => by rw [e]; exact q2) (q3 m)
    omega
/-! ### dicts of ints and texts -/
section
variable {K : Frag} {H : Hp}
theorem keyOf_eqv {k k' : PyData} {q q' : Key} (h : keyOf k = some q) (h' : keyOf k' = some q') : PyData.eqv k k' = decide (q = q') := by
  cases k with
  | int i =>
    cases h
    cases k' with
    | int j => cases h'; simp only [PyData.eqv]; by_cases e : i = j <;> simp [e]
    | str j => cases h'; simp [PyData.eqv]
    | _ => cases h'
  | str i =>
    cases h
    cases k' with
    | int j => cases h'; simp [PyData.eqv]
    | str j => cases h'; simp only [PyData.eqv]; by_cases e : i = j <;> simp [e]
    | _ => cases h'
  | _ => cases h
theorem scalarKey_of {k : PyData} (h : scalarKey k = true) : ∃ q, keyOf k = some q := by
  cases k with
  | int i => exact ⟨_, rfl⟩
  | str i => exact ⟨_, rfl⟩
  | _ => cases h
theorem RPd.any {k : PyData} {q : Key} (hk : keyOf k = some q) : ∀ {kvs : List (PyData × PyData)} {es : List (Key × V)}, RPd K H kvs es → (kvs.any fun p => PyData.eqv p.1 k) = (es.any fun p => decide (p.1 = q))
  | _, _, .nil => rfl
  | _, _, .cons hq _ r => by
    simp only [List.any_cons]
    rw [keyOf_eqv hq hk, RPd.any hk r]
theorem RPd.map {k x : PyData} {q : Key} {v : V} (hk : keyOf k = some q) (hx : RP K H x v) : ∀ {kvs : List (PyData × PyData)} {es : List (Key × V)}, RPd K H kvs es →
    RPd K H (kvs.map fun p => if PyData.eqv p.1 k = true then (p.1, x) else p) (es.map fun p => if p.1 = q then (p.1, v) else p)
  | _, _, .nil => .nil
  | _, _, .cons (k := k') (q := q') hq h r => by
    simp only [List.map_cons]
    by_cases e : q' = q
    · have e1 : PyData.eqv k' k = true := by rw [keyOf_eqv hq hk]; exact decide_eq_true e
      rw [if_pos e1, if_pos e]
      exact .cons hq hx (RPd.map hk hx r)
    · have e1 : ¬ PyData.eqv k' k = true := by rw [keyOf_eqv hq hk, decide_eq_true_eq]; exact e
      rw [if_neg e1, if_neg e]
      exact .cons hq h (RPd.map hk hx r)
theorem RPd.app : ∀ {xs ys : List (PyData × PyData)} {vs ws : List (Key × V)}, RPd K H xs vs → RPd K H ys ws → RPd K H (xs ++ ys) (vs ++ ws)
  | _, _, _, _, .nil, s => s
  | _, _, _, _, .cons e r t, s => .cons e r (RPd.app t s)
theorem RPd.store {k x : PyData} {q : Key} {v : V} (hk : keyOf k = some q) (hx : RP K H x v) {kvs : List (PyData × PyData)} {es : List (Key × V)} (r : RPd K H kvs es) : RPd K H (kStore kvs k x) (putK es q v) := by
  unfold kStore putK
  rw [r.any hk]
  split
  · exact r.map hk hx
  · exact r.app (.cons hk hx .nil)
theorem kStore_len (kvs : List (PyData × PyData)) (k v : PyData) : (kStore kvs k v).length ≤ kvs.length + 1 := by
  unfold kStore
  split
  · rw [List.length_map]; omega
  · rw [List.length_append]; exact Nat.le_refl _
theorem RPd.ints : ∀ {kvs : List (PyData × PyData)} {es : List (Key × V)} {ns : List Int}, RPd K H kvs es → ints? (kvs.map (·.1)) = some ns → es.map (·.1) = ns.map Sum.inl
  | _, _, _, .nil, e => by simp [ints?] at e; subst e; rfl
  | _, _, _, .cons (k := k) hq h r, e => by
    rw [List.map_cons] at e
    cases k with
    | int i =>
      cases hq
      simp only [ints?, Option.map_eq_some_iff] at e
      obtain ⟨ms, h1, rfl⟩ := e
      rw [List.map_cons, List.map_cons, RPd.ints r h1]
    | _ => simp [ints?] at e
end
section
variable {X : Cx}
theorem CallR.imp {f : Value} {r r' : List V → Hp → VK → Prop} (h : CallR X f r) (q : ∀ vs H Q, r' vs H Q → r vs H Q) : CallR X f r' :=
  fun pins s σ H vs us Q I rs z => h pins s σ H vs us Q I rs (q _ _ _ z)
theorem callR_rD1 {f : Value} {k : PyData → Option PyData} (h : ∀ dx dz, k dx = some dz → CallR X f (fun vs H Q => ∃ x, vs = [x] ∧ RT X.K H dx x ∧ Rs X.K H dz Q)) : CallR X f (rD1 X.K k) := by
  intro pins s σ H vs us Q I rs q
  obtain ⟨x, dx, dz, h0, h1, h2, h3⟩ := q
  exact h dx dz h2 pins s σ H vs us Q I rs ⟨x, h0, h1, h3⟩
theorem callR_rU1 {f : Value} {k : PyData → Option PyData} (h : ∀ dx dz, k dx = some dz → CallR X f (fun vs H Q => ∃ x, vs = [x] ∧ RT X.K H dx x ∧ RsU X.K H dz Q)) : CallR X f (rU1 X.K k) := by
  intro pins s σ H vs us Q I rs q
  obtain ⟨x, dx, dz, h0, h1, h2, h3⟩ := q
  exact h dx dz h2 pins s σ H vs us Q I rs ⟨x, h0, h1, h3⟩
theorem rU1_shut {f : Value} {k : PyData → Option PyData} (h : CallR X f (rU1 X.K k)) : CallR X f (rD1 X.K k) := by
  intro pins s σ H vs us Q I rs q
  obtain ⟨x, dx, dz, h0, h1, h2, h3⟩ := q
  exact thn (h pins s σ H vs us _ I rs ⟨x, dx, dz, h0, h1, h2, rsU_of h3⟩) fun _ _ e => ep_lock e
theorem rd_sql {K : Frag} {H : Hp} {a : Addr} {vs : List V} (h : Rd H a (.lst vs)) : SqL K H a vs := .inl h
theorem call_absD : CallR X (.builtin "abs") (rD1 X.K (u1 .abs)) := by
  refine callR_rD1 fun dx dz e => ?_
  cases dx with
  | int i => cases e; exact CallR.imp call_abs fun vs H Q ⟨x, h0, h1, h2⟩ => ⟨i, by rw [h0, h1.int], h2.int⟩
  | _ => cases e
theorem call_lenD1 : CallR X (.builtin "len") (rD1 X.K (u1 .len)) := by
  refine callR_rD1 fun dx dz e => ?_
  cases dx with
  | list xs =>
    cases e
    refine CallR.imp call_len_seq fun vs H Q ⟨x, h0, h1, h2⟩ => ?_
    obtain ⟨a, ws, rfl, h, r⟩ := h1
    exact ⟨a, ws, h0, .inl (rd_sql h), by rw [← r.len]; exact h2.int⟩
  | tuple xs =>
    cases e
    refine CallR.imp call_len_seq fun vs H Q ⟨x, h0, h1, h2⟩ => ?_
    obtain ⟨a, ws, rfl, h, r⟩ := h1.tup
    exact ⟨a, ws, h0, .inr h, by rw [← r.len]; exact h2.int⟩
  | dict xs =>
    cases e
    intro pins s σ H vs us Q I rs ⟨x, h0, h1, h2⟩
    obtain ⟨a, ws, rfl, h, r⟩ := h1
    subst h0
    obtain ⟨u, rfl, ru⟩ := vals1 rs
    cases ru
    exact d_len I h fun t s' I' => ⟨.int ws.length, H, I', ⟨t, rfl⟩, by rw [← r.len]; exact h2.int⟩
  | str z =>
    have e' : (if fits z.length = true then some (PyData.int (z.length : Nat)) else none) = some dz := e
    split at e'
    · rename_i hf
      cases e'
      refine CallR.imp call_len_str fun vs H Q ⟨x, h0, h1, h2⟩ => ?_
      exact ⟨z, by rw [h0, h1.str], by rw [sizeLine_eq]; exact of_decide_eq_true hf, h2.int⟩
    · cases e'
  | _ => cases e
theorem call_intD : CallR X (.type "int") (rD1 X.K (u1 .int)) := by
  refine callR_rD1 fun dx dz e => ?_
  cases dx with
  | int i => cases e; exact CallR.imp call_int1 fun vs H Q ⟨x, h0, h1, h2⟩ => .inl ⟨i, by rw [h0, h1.int], h2.int⟩
  | bool i => cases e; exact CallR.imp call_int1 fun vs H Q ⟨x, h0, h1, h2⟩ => .inr ⟨i, by rw [h0, h1.bl], h2.int⟩
  | _ => cases e
theorem call_tupleD : CallR X (.type "tuple") (rD1 X.K (u1 .tuple)) := by
  refine callR_rD1 fun dx dz e => ?_
  cases dx with
  | list xs =>
    cases e
    refine CallR.imp call_tuple_of fun vs H Q ⟨x, h0, h1, h2⟩ => ?_
    obtain ⟨a, ws, rfl, h, r⟩ := h1
    exact ⟨a, ws, h0, .inl ⟨rd_sql h, h2.tup r⟩⟩
  | tuple xs =>
    cases e
    refine CallR.imp call_tuple_of fun vs H Q ⟨x, h0, h1, h2⟩ => ?_
    obtain ⟨a, ws, rfl, h, r⟩ := h1.tup
    exact ⟨a, ws, h0, .inr ⟨h, h2 _ _ .refl (.tup h r)⟩⟩
  | _ => cases e
theorem call_listU : CallR X (.type "list") (rU1 X.K (u1 .list)) := by
  refine callR_rU1 fun dx dz e => ?_
  cases dx with
  | list xs =>
    cases e
    refine CallR.imp call_list_of fun vs H Q ⟨x, h0, h1, h2⟩ => ?_
    obtain ⟨a, ws, rfl, h, r⟩ := h1
    exact ⟨a, ws, h0, .inl (rd_sql h), fun l hl => h2 l _ (.lst xs) rfl hl ⟨ws, rfl, r⟩⟩
  | tuple xs =>
    cases e
    refine CallR.imp call_list_of fun vs H Q ⟨x, h0, h1, h2⟩ => ?_
    obtain ⟨a, ws, rfl, h, r⟩ := h1.tup
    exact ⟨a, ws, h0, .inr h, fun l hl => h2 l _ (.lst xs) rfl hl ⟨ws, rfl, r⟩⟩
  | _ => cases e
/-- sorted(d), d a dict of int keys, any number of them -/
theorem call_sortedDA (hcalm : X.calm = true) : CallR X (.builtin "sorted") (fun xs H Q => ∃ (a : Addr) (kvs : List (Key × V)) (ks : List Int), xs = [.ref a] ∧ Rd H a (.dK kvs) ∧ kvs.map (·.1) = ks.map Sum.inl ∧
    ∀ (ys : List Int) (p : Addr), ys.Perm ks → ys.Pairwise (· ≤ ·) → H p = none → Q (.ref p) (upd H p (.lst (ys.map V.int)))) := by
  intro pins s σ H xs us Q I r ⟨a, kvs, ks, ex, hd, hks, q⟩
  subst ex
  obtain ⟨u, eu, rx⟩ := vals1 r
  subst eu
  cases rx
  obtain ⟨z, lo, vs, rel, dd⟩ := dk_rd I.hok hd
  obtain ⟨ep, hat⟩ := dd.dictAt
  have hkeys : vs.map (·.1) = ks.map Sum.inl := rel.keys.symm.trans hks
  have hl : vs.length = ks.length := by simpa using congrArg List.length hkeys
  have h16 : vs.length ≤ sizeLine := by rw [← rel.length]; exact z
  refine Calls.call_function_entry PyProof.Rows.kind_sorted PyProof.Rows.plain_sorted PyProof.Rows.entry_sorted (PyProof.Rows.args_sorted1 _) ?_
  unfold Builtin.«sorted»
  refine wpAny_bind (m := checkCount "sorted" 1 1 _) (wpAny_pure ?_)
  refine wpAny_bind (PySem.W.kdu_collect (A := X.A.in1) (PySem.W.kdl_dict (knd := mixKind X.prog X.w) (kvs := vs) (ep := ep) lo) (I.ok.hd hcalm) hat h16 fun h' tk acc hk hacc => ?_)
  have hal : acc.toList.length = ks.length := by rw [Array.length_toList, hacc.1, hl]
  have hS : IntsAre acc.toList ks := ints_each hal fun j v e => by
    obtain ⟨k, x, e1, e2⟩ := hacc.2 j v (by rw [← Array.getElem?_toList]; exact e)
    have e3 : (vs.map (·.1))[j]? = some k := by rw [List.getElem?_map, e1]; rfl
    rw [hkeys, List.getElem?_map] at e3
    obtain ⟨y, e4, e5⟩ := Option.map_eq_some_iff.mp e3
    subst e5
    rcases keyIs_shape (show keyIs (Sum.inl y) v = true from e2) with ⟨i, t, ek, ev⟩ | ⟨z, t, ek, ev⟩
    · cases ek
      exact ⟨y, t, e4, ev⟩
    · cases ek
  have I1 : Inv X pins σ H { s with heap := h', toks := tk } := I.kept hk
  refine wpAny_bind (wpAny_newList ?_ (by rw [hal, ← hl]; exact h16))
  have hoL : (h'.push (seqObj "list" acc.toList.toArray 0)).get? h'.objs.size = some (seqObj "list" acc.toList.toArray 0) := Heap.get?_push_size _ rfl
  show wpAny _ _ _ _ _ { s with heap := h'.push (seqObj "list" acc.toList.toArray 0), toks := tk }
  refine wpAny_bind (wpAny_holding (wpAny_call_entry PyProof.Rows.slot_list_sort ⟨_, hoL, rfl⟩ PyProof.Rows.entry_list_sort
    (SrtO.list_sort_ord (s := { s with heap := h'.push (seqObj "list" acc.toList.toArray 0), toks := tk }) SrtO.swo_int hoL (by rw [hal, ← hl]; exact h16) (fun h2 => SrtO.ints_sortable hS h2) fun out h1 h2 => ⟨_, rfl, ?_⟩) (PyProof.Rows.args_list_sort _)))
  obtain ⟨k1, k2, k3⟩ := SrtO.ints_out hS h1 h2
  obtain ⟨e', he'⟩ := PyProof.Rows.sortedHeap_at (vs := acc.toList) (out := out.toArray) hoL
  have hlen : ((out.map SrtO.iv).map V.int).length ≤ sizeLine := by rw [List.length_map, k2.length_eq, ← hl]; exact h16
  refine wpAny_pure ⟨_, rfl, .ref h'.objs.size, upd H h'.objs.size (.lst ((out.map SrtO.iv).map V.int)), I1.laid (t' := tk) (fun b u e => ?_) (Nat.le_refl _)
    (show ObjOk X.prog X.w _ _ _ (.lst ((out.map SrtO.iv).map V.int)) from ⟨hlen, out, e', vals_of_ints k1, he'⟩), rfl, q _ _ k2 k3 (I1.hok.fresh (Nat.le_refl _))⟩
  have hb : b < h'.objs.size := Heap.lt_size e
  rw [PyProof.Rows.sortedHeap_old (Nat.ne_of_lt hb) (by rw [size_push']; exact Nat.lt_succ_of_lt hb)]
  exact Heap.get?_push_of_some _ e
theorem call_sortedU (hc : X.calm = true) : CallR X (.builtin "sorted") (rU1 X.K (u1 .sorted)) := by
  refine callR_rU1 fun dx dz e => ?_
  cases dx with
  | list xs =>
    obtain ⟨ns, e1, rfl⟩ := Option.map_eq_some_iff.mp (show (ints? xs).map (fun ns => PyData.list ((sortI ns).map .int)) = some dz from e)
    refine CallR.imp cr_sortedI fun vs H Q ⟨x, h0, h1, h2⟩ => ?_
    obtain ⟨a, ws, rfl, h, r⟩ := h1
    obtain ⟨rfl, _⟩ := r.ints e1
    refine ⟨a, ns, h0, rd_sql h, fun ys p hp hs hn => ?_⟩
    rw [sortI_is hp hs]
    exact h2 p _ (.lst _) rfl hn ⟨_, rfl, RPs.ofInts _⟩
  | dict xs =>
    obtain ⟨ns, e1, rfl⟩ := Option.map_eq_some_iff.mp (show (ints? (xs.map (·.1))).map (fun ns => PyData.list ((sortI ns).map .int)) = some dz from e)
    refine CallR.imp (call_sortedDA hc) fun vs H Q ⟨x, h0, h1, h2⟩ => ?_
    obtain ⟨a, ws, rfl, h, r⟩ := h1
    refine ⟨a, ws, ns, h0, h, r.ints e1, fun ys p hp hs hn => ?_⟩
    rw [sortI_is hp hs]
    exact h2 p _ (.lst _) rfl hn ⟨_, rfl, RPs.ofInts _⟩
  | _ => cases e
theorem dictOf_rel {K : Frag} {H : Hp} : ∀ {ps : List PyData} {ws : List V} {acc out : List (PyData × PyData)} {es : List (Key × V)}, RPs K H ps ws → dictOf? ps acc = some out → RPd K H acc es →
    ∃ (as : List Addr) (kvs : List (Key × V)), ws = as.map V.ref ∧ Paired (fun p kv => SqT K H p [kV kv.1, kv.2]) as kvs ∧ RPd K H out (mergeK es kvs)
  | _, _, acc, out, es, .nil, e, r => by
    cases e
    exact ⟨[], [], rfl, .nil, r⟩
  | _, _, acc, out, es, .cons (x := x) (v := v) (xs := xs) h t, e, r => by
    cases h with
    | @tup a us ys hq hr =>
      cases hr with
      | nil => cases e
      | @cons k kv ys' us' hk hr2 =>
        cases hr2 with
        | nil => cases e
        | @cons y yv ys'' us'' hy hr3 =>
          cases hr3 with
          | cons _ _ => cases e
          | nil =>
            have e' : (if scalarKey k = true then dictOf? xs (kStore acc k y) else none) = some out := e
            split at e'
            · rename_i hs
              obtain ⟨q, hq'⟩ := scalarKey_of hs
              obtain ⟨as, kvs, h1, h2, h3⟩ := dictOf_rel t e' (r.store hq' hy)
              refine ⟨a :: as, (q, yv) :: kvs, by rw [h1]; rfl, .cons ?_ h2, h3⟩
              have ek : kv = kV q := by
                cases hk with
                | int i => cases hq'; rfl
                | str i => cases hq'; rfl
                | _ => cases hq'
              rw [← ek]
              exact hq
            · cases e'
    | _ => cases e
theorem call_dictU (hc : X.calm = true) : CallR X (.type "dict") (rU1 X.K (u1 .dict)) := by
  refine callR_rU1 fun dx dz e => ?_
  cases dx with
  | list xs =>
    obtain ⟨out, e1, rfl⟩ := Option.map_eq_some_iff.mp (show (dictOf? xs []).map PyData.dict = some dz from e)
    refine CallR.imp (call_dictP hc) fun vs H Q ⟨x, h0, h1, h2⟩ => ?_
    obtain ⟨a, ws, rfl, h, r⟩ := h1
    obtain ⟨as, kvs, rfl, h4, h5⟩ := dictOf_rel r e1 .nil
    exact ⟨a, as, kvs, h0, rd_sql h, h4, fun p hp => h2 p _ (.dct out) rfl hp ⟨_, rfl, h5⟩⟩
  | _ => cases e
theorem call_sumD (hc : X.calm = true) : CallR X (.builtin "sum") (rD1 X.K (u1 .sum)) := by
  refine callR_rD1 fun dx dz e => ?_
  cases dx with
  | list xs =>
    obtain ⟨ns, e1, rfl⟩ := Option.map_eq_some_iff.mp (show (ints? xs).map (fun ns => PyData.int ns.sum) = some dz from e)
    refine CallR.imp (cr_sum hc) fun vs H Q ⟨x, h0, h1, h2⟩ => ?_
    obtain ⟨a, ws, rfl, h, r⟩ := h1
    obtain ⟨rfl, _⟩ := r.ints e1
    exact ⟨a, ns, h0, rd_sql h, h2.int⟩
  | _ => cases e
theorem call_maxD (hc : X.calm = true) : CallR X (.builtin "max") (rD1 X.K (u1 .max)) := by
  refine callR_rD1 fun dx dz e => ?_
  cases dx with
  | list xs =>
    obtain ⟨ns, e1, e2⟩ := Option.bind_eq_some_iff.mp (show (ints? xs).bind (fun ns => if ns.isEmpty then none else some (PyData.int (maxI ns))) = some dz from e)
    split at e2
    · cases e2
    · rename_i hne
      cases e2
      refine CallR.imp (cr_max hc) fun vs H Q ⟨x, h0, h1, h2⟩ => ?_
      obtain ⟨a, ws, rfl, h, r⟩ := h1
      obtain ⟨rfl, _⟩ := r.ints e1
      exact ⟨a, ns, h0, rd_sql h, by cases ns with | nil => simp at hne | cons _ _ => simp, fun m h3 h4 => by rw [maxI_is h3 h4]; exact h2.int⟩
  | tuple xs =>
    obtain ⟨ns, e1, e2⟩ := Option.bind_eq_some_iff.mp (show (ints? xs).bind (fun ns => if ns.isEmpty then none else some (PyData.int (maxI ns))) = some dz from e)
    split at e2
    · cases e2
    · rename_i hne
      cases e2
      refine CallR.imp (cr_maxT hc) fun vs H Q ⟨x, h0, h1, h2⟩ => ?_
      obtain ⟨a, ws, rfl, h, r⟩ := h1.tup
      obtain ⟨rfl, _⟩ := r.ints e1
      exact ⟨a, ns, h0, h, by cases ns with | nil => simp at hne | cons _ _ => simp, fun m h3 h4 => by rw [maxI_is h3 h4]; exact h2.int⟩
  | _ => cases e
theorem call_minD (hc : X.calm = true) : CallR X (.builtin "min") (rD1 X.K (u1 .min)) := by
  refine callR_rD1 fun dx dz e => ?_
  cases dx with
  | list xs =>
    obtain ⟨ns, e1, e2⟩ := Option.bind_eq_some_iff.mp (show (ints? xs).bind (fun ns => if ns.isEmpty then none else some (PyData.int (minI ns))) = some dz from e)
    split at e2
    · cases e2
    · rename_i hne
      cases e2
      refine CallR.imp (cr_min hc) fun vs H Q ⟨x, h0, h1, h2⟩ => ?_
      obtain ⟨a, ws, rfl, h, r⟩ := h1
      obtain ⟨rfl, _⟩ := r.ints e1
      exact ⟨a, ns, h0, rd_sql h, by cases ns with | nil => simp at hne | cons _ _ => simp, fun m h3 h4 => by rw [minI_is h3 h4]; exact h2.int⟩
  | tuple xs =>
    obtain ⟨ns, e1, e2⟩ := Option.bind_eq_some_iff.mp (show (ints? xs).bind (fun ns => if ns.isEmpty then none else some (PyData.int (minI ns))) = some dz from e)
    split at e2
    · cases e2
    · rename_i hne
      cases e2
      refine CallR.imp (cr_minT hc) fun vs H Q ⟨x, h0, h1, h2⟩ => ?_
      obtain ⟨a, ws, rfl, h, r⟩ := h1.tup
      obtain ⟨rfl, _⟩ := r.ints e1
      exact ⟨a, ns, h0, h, by cases ns with | nil => simp at hne | cons _ _ => simp, fun m h3 h4 => by rw [minI_is h3 h4]; exact h2.int⟩
  | _ => cases e
theorem call_allD (hc : X.calm = true) : CallR X (.builtin "all") (rD1 X.K (u1 .all)) := by
  refine callR_rD1 fun dx dz e => ?_
  cases dx with
  | list xs =>
    obtain ⟨ns, e1, rfl⟩ := Option.map_eq_some_iff.mp (show (bools? xs).map (fun ns => PyData.bool (ns.all id)) = some dz from e)
    refine CallR.imp (cr_all hc) fun vs H Q ⟨x, h0, h1, h2⟩ => ?_
    obtain ⟨a, ws, rfl, h, r⟩ := h1
    have er := r.bools e1
    subst er
    exact ⟨a, ns, h0, rd_sql h, h2.bl⟩
  | _ => cases e
theorem call_anyD (hc : X.calm = true) : CallR X (.builtin "any") (rD1 X.K (u1 .any)) := by
  refine callR_rD1 fun dx dz e => ?_
  cases dx with
  | list xs =>
    obtain ⟨ns, e1, rfl⟩ := Option.map_eq_some_iff.mp (show (bools? xs).map (fun ns => PyData.bool (ns.any id)) = some dz from e)
    refine CallR.imp (cr_any hc) fun vs H Q ⟨x, h0, h1, h2⟩ => ?_
    obtain ⟨a, ws, rfl, h, r⟩ := h1
    have er := r.bools e1
    subst er
    exact ⟨a, ns, h0, rd_sql h, h2.bl⟩
  | _ => cases e
end
end In
/-! part InE -/
set_option Elab.async false
set_option linter.all false
set_option maxRecDepth 100000
set_option maxHeartbeats 1000000
/-! What the texts mean: contexts, and the rules of expressions. -/
namespace In
open PySem PySem.Spec PyProof.Rows L2
/-! ### room, and what a def promises -/
structure RoomG (k : Nat) (A : Around) : Prop where
  rm : Room k A
  gd : A.guards = some []
theorem RoomG.mono {j k : Nat} {A : Around} (r : RoomG k A) (h : j ≤ k) : RoomG j A := ⟨r.rm.mono h, r.gd⟩
theorem RoomG.deeper {k : Nat} {A : Around} (r : RoomG (k + 1) A) (env : PySem.Env) : RoomG k (A.deeper env) := ⟨r.rm.deeper env, r.gd⟩
theorem RoomG.units {k : Nat} {A : Around} (r : RoomG k A) : A.units + 199 < cLine := by have := r.rm.un; omega
structure FnG (P : Program) (w : World) (K : Frag) (mg : Str → Option Value) (base : Heap) (k : Nat) (f : Addr) (fd : FuncData) (ps : List Str) (sp : Sp) : Prop where
  len : ∀ vs H Q E, sp vs H Q E → vs.length = ps.length
  run : ∀ (A : Around) (outer : List PySem.Env) (s : Shared) (H : Hp) (args : Args) (us : List Value) (vs : List V) (Q : VK) (E : XK), RoomG k A → Env0 P w K mg base A outer s H → BindsTo s fd args (ps.zip us) → Vals vs us → sp vs H Q E →
    codeAny (model P w) A (.call (.ref f) args) (CR (L2.CX P w) outer P w H s Q E) s
/-! ### the texts' names -/
structure Dfn where
  ix : Nat
  ar : Nat
  dfl : List PyData
structure Glo where
  free : List Str
  vals : List (Str × PyData)
  defs : List (Str × Dfn)
  excs : List Str
  ups : List Str := []
/-- a block's names: the slots, the scope, which cells may be stored to -/
structure Cc where
  N : List Str
  sc : Scope
  st : Str → Bool
inductive RVs (K : Frag) (m : Mp) (S : Sto) (H : Hp) : List Vl → List V → Prop
  | nil : RVs K m S H [] []
  | cons {v : Vl} {x : V} {vs : List Vl} {xs : List V} : RV K m S H v x → RVs K m S H vs xs → RVs K m S H (v :: vs) (x :: xs)
theorem RVs.len {K : Frag} {m : Mp} {S : Sto} {H : Hp} : ∀ {vs : List Vl} {xs : List V}, RVs K m S H vs xs → vs.length = xs.length
  | _, _, .nil => rfl
  | _, _, .cons _ r => congrArg (· + 1) (RVs.len r)
theorem RVs.post {K : Frag} {m m' : Mp} {S S' : Sto} {H H' : Hp} (p : Post m S H m' S' H') : ∀ {vs : List Vl} {xs : List V}, RVs K m S H vs xs → RVs K m' S' H' vs xs
  | _, _, .nil => .nil
  | _, _, .cons h r => .cons (h.post p) (RVs.post p r)
theorem RVs.app {K : Frag} {m : Mp} {S : Sto} {H : Hp} : ∀ {vs ws : List Vl} {xs ys : List V}, RVs K m S H vs xs → RVs K m S H ws ys → RVs K m S H (vs ++ ws) (xs ++ ys)
  | _, _, _, _, .nil, q => q
  | _, _, _, _, .cons h r, q => .cons h (RVs.app r q)
theorem RVs.data {K : Frag} {m : Mp} {S : Sto} {H : Hp} : ∀ {vs : List PyData} {xs : List V}, RPs K H vs xs → RVs K m S H (vs.map .d) xs
  | _, _, .nil => .nil
  | _, _, .cons h r => .cons h (RVs.data r)
/-- the promise of def i -/
def spOf (K : Frag) (mg : Str → Option Value) (ex : List Str) (F : Fns) (i ar : Nat) : Sp := fun vs H Q E =>
  vs.length = ar ∧ ∃ (ls : List Vl) (m : Mp) (S : Sto), RVs K m S H ls vs ∧ Sok K m S H ∧
    Den ⟨K, mg, fun cls d _ H' => E cls d H', F, ex⟩ 0 (F i ls S) m S H fun x m' S' H' => ∀ z, RP K H' x z → Q z H'
/-- the program's own classes of errors -/
def mkX (mg : Str → Option Value) (cn : Str) (te : TE) : L2.St → Hp → XK → Prop := fun σ H Q => te σ H fun v H1 => ∀ C dd H2, mg cn = some (.ref C) → (∀ b u, H1 b = some u → H2 b = some u) → H2 dd = some (.xd [(("reason" : Str), v)]) → Q (.ref C) (some dd) H2
structure ExW (P : Program) (w : World) (K : Frag) (mg : Str → Option Value) (base : Heap) (ex : List Str) : Prop where
  cls : ∀ c ∈ ex, ∃ C, mg c = some (.ref C) ∧ XfC K C ∧ PySem.W.findIn K (.ref C) "reason" = some none
  one : ∀ c ∈ ex, ∀ c' ∈ ex, ∀ C C', mg c = some (.ref C) → mg c' = some (.ref C') → PySem.W.exmOne K (.ref C) (.ref C') = some (decide (c = c'))
  make : ∀ c ∈ ex, ∀ (X : Cx), X.prog = P → X.w = w → X.K = K → X.mg = mg → X.base = base → X.calm = true → RoomG 0 X.A → Gl X c → (c == ("__debug__" : Str)) = false → ∀ (e : Expr) (te : TE) (p pos : Pos), PE X e te →
    (∀ es env, starEach (e :: es) env = (false, eval e env) :: starEach es env) → PMk X (.Call (.Name c p) [e] [] pos) (mkX mg c te)
/-- what isinstance asks of a caught error -/
structure IsC (K : Frag) (C : Addr) : Prop where
  hcl : (PySem.W.clsIn K C).isSome = true
  hga : PySem.W.findIn K (.ref C) "__getattribute__" = some (some (.builtin "BaseException.__getattribute__"))
  hgt : PySem.W.findIn K (.ref C) "__getattr__" = some none
  hsub : PySem.W.subIn K (.ref C) (.type "BaseException") = some true
  ha : PySem.W.findIn K (.ref C) "__class__" = some (some (.builtin "object.__class__"))
  hn : PySem.W.specialIn K (.builtin "object.__class__") "__get__" = some (some (.builtin "getset_descriptor.__get__"))
  htk : PySem.W.takesIn K (.builtin "object.__class__") = some true
  hm : PySem.W.mroIn K C (.type "object") = some true
/-- each error is an instance of each of the classes above -/
def UpW (K : Frag) (mg : Str → Option Value) (ex up : List Str) : Prop := ∀ t ∈ up, ∃ T, mg t = some (.ref T) ∧ PySem.W.keepIn K (.ref T) = true ∧ ∀ c ∈ ex, ∃ C, mg c = some (.ref C) ∧ IsC K C ∧ PySem.W.kitOne K (.ref C) (.ref T) = some true
/-- what the program's names stand for -/
structure Wd (G : Glo) (P : Program) (w : World) (K : Frag) (mg : Str → Option Value) (base : Heap) (k : Nat) (F : Fns) : Prop where
  free : ∀ x ∈ G.free, mg x = none
  vals : ∀ x d, G.vals.lookup x = some d → ∃ v u, mg x = some u ∧ RelV v u ∧ ∀ H, RP K H d v
  excs : ExW P w K mg base G.excs
  ups : UpW K mg G.excs G.ups
  defs : ∀ x D, G.defs.lookup x = some D → ∃ f fd ps, mg x = some (.ref f) ∧ PySem.W.keepIn K (.ref f) = true ∧
    (∀ n, n ≤ D.dfl.length → ∃ ds dvs, Binds K fd ps ds ∧ Vals dvs ds ∧ ∀ H, RPs K H (D.dfl.drop n) dvs) ∧ ∀ j, j + 1 = k → FnG P w K mg base j f fd ps (spOf K mg G.excs F D.ix D.ar)
/-- a context of a block -/
structure Ctx (G : Glo) (c : Cc) (X : Cx) (g : Gx) (k : Nat) : Prop where
  N : X.N = c.N
  nd : c.N.Nodup
  sc : X.env.scope = c.sc
  K : g.K = X.K
  mg : g.mg = X.mg
  ex : g.ex = G.excs
  calm : X.calm = true
  rm : RoomG k X.A
  wd : Wd G X.prog X.w X.K X.mg X.base (k + 1) g.F
  st : ∀ x, c.st x = true → X.fn x = true
  tk : ∀ σ, PassesAt (L2.CX X.prog X.w) X σ (WE g.W σ)
/-- a state of the small language, as it lies -/
structure At (g : Gx) (n : Nat) (σ : L2.St) (H : Hp) (ρ : Env) (m : Mp) (S : Sto) : Prop where
  len : σ.length = n
  env : Renv g.K m S H ρ σ
  sok : Sok g.K m S H
theorem At.to {g : Gx} {n : Nat} {σ : L2.St} {H H' : Hp} {ρ : Env} {m m' : Mp} {S S' : Sto} (h : At g n σ H ρ m S) (p : Post m S H m' S' H') (s : Sok g.K m' S' H') : At g n σ H' ρ m' S' := ⟨h.len, h.env.post p, s⟩
abbrev QV (g : Gx) (Q : VK) : Vl → Mp → Sto → Hp → Prop := fun v m' S' H' => ∀ x, RV g.K m' S' H' v x → Q x H'
abbrev QP (g : Gx) (Q : VK) : PyData → Mp → Sto → Hp → Prop := fun v m' S' H' => ∀ x, RP g.K H' v x → Q x H'
def dE (g : Gx) (n : Nat) (a : E) : TE := fun σ H Q => ∃ ρ m S, At g n σ H ρ m S ∧ Den g n (ev g.F a ρ S) m S H (QV g Q)
/-- closed -/
def dP (g : Gx) (n : Nat) (a : E) : TE := fun σ H Q => ∃ ρ m S, At g n σ H ρ m S ∧ Den g n ((ev g.F a ρ S).bind fun v S1 => shut S1 v) m S H (QP g Q)
def dT (g : Gx) (n : Nat) (a : E) : TT := fun σ H Q => ∃ ρ m S, At g n σ H ρ m S ∧ Den g n ((ev g.F a ρ S).bind fun v S1 => test S1 v) m S H fun b _ _ H' => Q b H'
def SE (G : Glo) (c : Cc) (e : Expr) (a : E) : Prop := ∀ k X g, Ctx G c X g k → PE X e (dE g c.N.length a)
def ST (G : Glo) (c : Cc) (e : Expr) (a : E) : Prop := ∀ k X g, Ctx G c X g k → PT X e (dT g c.N.length a)
theorem _root_.L2.PE.imp {X : Cx} {e : Expr} {t t' : TE} (h : PE X e t) (q : ∀ σ H Q, t' σ H Q → t σ H Q) : PE X e t' := ⟨fun pins s σ H Q I z => h.run pins s σ H Q I (q σ H Q z)⟩
theorem _root_.L2.PT.imp {X : Cx} {e : Expr} {t t' : TT} (h : PT X e t) (q : ∀ σ H Q, t' σ H Q → t σ H Q) : PT X e t' := ⟨fun pins s σ H Q I z => h.run pins s σ H Q I (q σ H Q z)⟩
theorem _root_.L2.PA.imp {X : Cx} {e : List Expr} {t t' : TA} (h : PA X e t) (q : ∀ σ H Q, t' σ H Q → t σ H Q) : PA X e t' := ⟨fun pos pins s σ H Q I z => h.run pos pins s σ H Q I (q σ H Q z)⟩
section
variable {g : Gx} {n : Nat} {σ : L2.St} {H : Hp} {ρ : Env} {m : Mp} {S : Sto}
theorem Den.data {K : Frag} {d : PyData} {Q : VK} {S : Sto} {m : Mp} {H : Hp} (hK : g.K = K) (s : Sok g.K m S H) (h : Den g n (.ok (.d d) S) m S H (QV g Q)) : Rs K H d Q := by
  subst hK
  exact fun z H' e r => h m H' e.post (e.sok s) z r
theorem dE_of {a : E} {Q : VK} (h : At g n σ H ρ m S) {Q' : Vl → Mp → Sto → Hp → Prop} (d : Den g n (ev g.F a ρ S) m S H Q') (hq : ∀ v m' S' H', Post m S H m' S' H' → Sok g.K m' S' H' → Q' v m' S' H' → ∀ x, RV g.K m' S' H' v x → Q x H') : dE g n a σ H Q :=
  ⟨ρ, m, S, h, d.mono hq⟩
/-- two values -/
theorem two {a b : E} {r : V → V → Hp → Prop} {k : Vl → Vl → Sto → R Vl} {Qv : Vl → Mp → Sto → Hp → Prop} (h : At g n σ H ρ m S)
    (d : Den g n ((ev g.F a ρ S).bind fun v S1 => (ev g.F b ρ S1).bind fun w S2 => k v w S2) m S H Qv)
    (hk : ∀ v w x y m2 S2 H2, At g n σ H2 ρ m2 S2 → RV g.K m2 S2 H2 v x → RV g.K m2 S2 H2 w y → Den g n (k v w S2) m2 S2 H2 Qv → r x y H2) :
    dE g n a σ H fun x H1 => dE g n b σ H1 fun y H2 => r x y H2 := by
  refine dE_of h d.bind fun v m1 S1 H1 p1 s1 d1 x rx => ?_
  refine dE_of (h.to p1 s1) d1.bind fun w m2 S2 H2 p2 s2 d2 y ry => ?_
  exact hk v w x y m2 S2 H2 ((h.to p1 s1).to p2 s2) (rx.post p2) ry d2
theorem one {a : E} {r : V → Hp → Prop} {k : Vl → Sto → R Vl} {Qv : Vl → Mp → Sto → Hp → Prop} (h : At g n σ H ρ m S)
    (d : Den g n ((ev g.F a ρ S).bind fun v S1 => k v S1) m S H Qv)
    (hk : ∀ v x m2 S2 H2, At g n σ H2 ρ m2 S2 → RV g.K m2 S2 H2 v x → Den g n (k v S2) m2 S2 H2 Qv → r x H2) :
    dE g n a σ H fun x H1 => r x H1 :=
  dE_of h d.bind fun v m1 S1 H1 p1 s1 d1 x rx => hk v x m1 S1 H1 (h.to p1 s1) rx d1
end
theorem opt2 {o p : Option PyData} {f : PyData → PyData → Option Vl} {v : Vl} (h : (o.bind fun x => p.bind fun y => f x y) = some v) : ∃ x y, o = some x ∧ p = some y ∧ f x y = some v := by
  obtain ⟨x, h1, h⟩ := Option.bind_eq_some_iff.mp h
  obtain ⟨y, h2, h⟩ := Option.bind_eq_some_iff.mp h
  exact ⟨x, y, h1, h2, h⟩
theorem opt1 {o : Option PyData} {f : PyData → Option Vl} {v : Vl} (h : (o.bind fun x => f x) = some v) : ∃ x, o = some x ∧ f x = some v := by
  obtain ⟨x, h1, h⟩ := Option.bind_eq_some_iff.mp h
  exact ⟨x, h1, h⟩
section
variable {G : Glo} {c : Cc} {X : Cx} {g : Gx} {k : Nat}
/-- a value by an operator's reading -/
theorem rd_of {n : Nat} {σ : L2.St} {H : Hp} {ρ : Env} {m : Mp} {S : Sto} {f : PyData → PyData → Option PyData} {v w : Vl} {x y : V} {Q : VK} (C : Ctx G c X g k) (h : At g n σ H ρ m S) (rx : RV g.K m S H v x) (ry : RV g.K m S H w y)
    (d : Den g n (R.opt ((view S v).bind fun x => (view S w).bind fun y => (f x y).map .d) S) m S H (QV g Q)) : rD X.K f x y H Q := by
  cases e : ((view S v).bind fun x => (view S w).bind fun y => (f x y).map Vl.d) with
  | none => rw [e] at d; exact d.elim
  | some u =>
    rw [e] at d
    obtain ⟨dx, dy, e1, e2, e3⟩ := opt2 e
    obtain ⟨dz, e4, rfl⟩ := Option.map_eq_some_iff.mp e3
    rw [C.K] at rx ry
    exact ⟨dx, dy, dz, rx.rt (by rw [← C.K]; exact h.sok) e1, ry.rt (by rw [← C.K]; exact h.sok) e2, e4, d.data C.K h.sok⟩
theorem s_bin {ea eb : Expr} {a b : E} {pos : Pos} (op : B2) (ha : SE G c ea a) (hb : SE G c eb b) : SE G c (.BinOp ea (opOf op) eb pos) (.bin op a b) := fun k X g C =>
  (pe_op (op_bin op) (ha k X g C) (hb k X g C)).imp fun σ H Q ⟨ρ, m, S, h, d⟩ => two h d fun v w x y m2 S2 H2 h2 rx ry d2 => rd_of C h2 rx ry d2
/-- a plain test -/
def plainT : Expr → Bool
  | .UnaryOp .Not _ _ => false
  | .BoolOp _ _ _ => false
  | .IfExp _ _ _ _ => false
  | .Compare _ _ _ _ => false
  | _ => true
theorem plainT_is {e : Expr} (h : plainT e = true) (env : PySem.Env) : ∀ whole, isTrue e env whole = (do let v ← whole; standAt e.pos; holding [v] (PySem.truthy v)) := by
  intro whole
  cases e with
  | UnaryOp op x p => cases op <;> first | rfl | cases h
  | BoolOp _ _ _ => cases h
  | IfExp _ _ _ _ => cases h
  | Compare _ _ _ _ => cases h
  | _ => rfl
theorem tru_of {K : Frag} {H : Hp} {d : PyData} {x : V} {b : Bool} (h : RT K H d x) (e : In.truthy d = some b) : TruV K x H b := by
  cases d with
  | none => cases e; rw [h.non]; rfl
  | bool i => cases e; rw [h.bl]; rfl
  | int i => cases e; rw [h.int]; rfl
  | str i => cases e
  | list xs =>
    cases e
    obtain ⟨a, vs, rfl, h, r⟩ := h
    refine .inl ⟨vs, rd_sql h, ?_⟩
    cases r <;> rfl
  | tuple xs =>
    cases e
    obtain ⟨a, vs, rfl, h, r⟩ := h.tup
    refine .inr (.inl ⟨vs, h, ?_⟩)
    cases r <;> rfl
  | dict _ => cases e
/-- a value's truth -/
theorem test_of {n : Nat} {σ : L2.St} {H : Hp} {ρ : Env} {m : Mp} {S : Sto} {v : Vl} {x : V} {Q : Bool → Mp → Sto → Hp → Prop} (C : Ctx G c X g k) (h : At g n σ H ρ m S) (rx : RV g.K m S H v x) (d : Den g n (test S v) m S H Q) : ∃ b, TruV X.K x H b ∧ Q b m S H := by
  obtain ⟨b, e, q⟩ := Den.opt (show Den g n (R.opt ((view S v).bind In.truthy) S) m S H Q from d) h.sok
  obtain ⟨y, e1, e2⟩ := Option.bind_eq_some_iff.mp e
  rw [C.K] at rx
  exact ⟨b, tru_of (rx.rt (by rw [← C.K]; exact h.sok) e1) e2, q⟩
theorem st_of {e : Expr} {a : E} (h : SE G c e a) (p : plainT e = true) : ST G c e a := fun k X g C =>
  (pt_truth (h k X g C) (plainT_is p X.env)).imp fun σ H Q ⟨ρ, m, S, h, d⟩ => dE_of h d.bind fun v m1 S1 H1 p1 s1 d1 x rx => test_of C (h.to p1 s1) rx d1
end
end In
/-! part InF -/
set_option Elab.async false
set_option linter.all false
set_option maxRecDepth 100000
set_option maxHeartbeats 1000000
/-! The rules of expressions, one after the other. -/
namespace In
open PySem PySem.Spec PyProof.Rows L2
section
variable {G : Glo} {c : Cc} {X : Cx} {g : Gx} {k : Nat}
/-! ### names, constants -/
def vis (sc : Scope) (x : Str) : Bool := match sc.names.lookup x with
  | some .local => true
  | some .cell => true
  | some .free => true
  | _ => false
theorem vis_is {sc : Scope} {x : Str} (h : vis sc x = true) : Vis sc x := by
  unfold vis at h
  split at h
  · exact .inl (by assumption)
  · exact .inr (.inl (by assumption))
  · exact .inr (.inr (by assumption))
  · cases h
def glb (sc : Scope) (x : Str) : Bool := match sc.names.lookup x with
  | some .globalImplicit => (x == ("__debug__" : Str)) == false
  | _ => false
theorem glb_is {sc : Scope} {x : Str} (h : glb sc x = true) : sc.names.lookup x = some .globalImplicit ∧ (x == ("__debug__" : Str)) = false := by
  unfold glb at h
  split at h
  · exact ⟨by assumption, by simpa using h⟩
  · cases h
theorem Ctx.gl (C : Ctx G c X g k) {x : Str} (h : glb c.sc x = true) : Gl X x := by
  show X.env.scope.names.lookup x = some .globalImplicit
  rw [C.sc]
  exact (glb_is h).1
theorem s_var {i : Nat} {x : Str} {pos : Pos} (h1 : c.N[i]? = some x) (h2 : vis c.sc x = true) (h3 : (x == ("__debug__" : Str)) = false) (h4 : (x == ("__classdict__" : Str)) = false) : SE G c (.Name x pos) (.var i) := fun k X g C =>
  (pe_var (by rw [C.N]; exact h1) (by rw [C.sc]; exact vis_is h2) h3 h4).imp fun σ H Q ⟨ρ, m, S, h, d⟩ => by
    cases e : ρ[i]? with
    | none => simp only [ev, e] at d; exact d.elim
    | some o =>
      cases o with
      | none => simp only [ev, e] at d; exact d.elim
      | some v =>
        simp only [ev, e] at d
        obtain ⟨x, e1, r⟩ := h.env.at_ i v e
        exact ⟨x, e1, d m H .refl h.sok x r⟩
theorem s_con {e : Expr} {d : PyData} {v : V} (h : ∀ X, PE X e (tC v)) (r : ∀ K H, RP K H d v) : SE G c e (.cst d) := fun k X g C =>
  (h X).imp fun σ H Q ⟨ρ, m, S, h, d⟩ => d m H .refl h.sok v (r _ _)
theorem s_int {i : Int} {j : Nat} {pos : Pos} : SE G c (.Constant (.int i) j pos) (.cst (.int i)) := s_con (fun _ => pe_int) fun _ _ => .int i
theorem s_str {i : Str} {j : Nat} {pos : Pos} : SE G c (.Constant (.str i) j pos) (.cst (.str i)) := s_con (fun _ => pe_str) fun _ _ => .str i
theorem s_bl {i : Bool} {j : Nat} {pos : Pos} : SE G c (.Constant (.bool i) j pos) (.cst (.bool i)) := s_con (fun _ => pe_bl) fun _ _ => .bl i
theorem s_non {j : Nat} {pos : Pos} : SE G c (.Constant .none j pos) (.cst .none) := s_con (fun _ => pe_non) fun _ _ => .non
theorem s_val {x : Str} {d : PyData} {pos : Pos} (h : G.vals.lookup x = some d) (hg : glb c.sc x = true) : SE G c (.Name x pos) (.cst d) := fun k X g C => by
  obtain ⟨v, u, h1, h2, h3⟩ := C.wd.vals x d h
  exact (pe_glob (C.gl hg) h1 h2 (glb_is hg).2).imp fun σ H Q ⟨ρ, m, S, h, d⟩ => d m H .refl h.sok v (by rw [C.K]; exact h3 H)
/-! ### closed values -/
theorem shut_ok {n : Nat} {pins : List (Addr × Obj)} {σ : L2.St} {s : Shared} {H : Hp} {ρ : Env} {m : Mp} {S : Sto} {v : Vl} {x : V} {Q : PyData → Mp → Sto → Hp → Prop} (C : Ctx G c X g k) (I : Inv X pins σ H s) (h : At g n σ H ρ m S) (rx : RV g.K m S H v x)
    (d : Den g n (shut S v) m S H Q) : ∃ H' y S', Inv X pins σ H' s ∧ Post m S H m S' H' ∧ Sok g.K m S' H' ∧ RP g.K H' y x ∧ Q y m S' H' := by
  cases v with
  | d y => exact ⟨H, y, S, I, .refl, h.sok, rx, d m H .refl h.sok⟩
  | loc i =>
    obtain ⟨rfl, hl⟩ := rx
    have hc : S[i]? = some S[i] := List.getElem?_eq_getElem hl
    have d' : Den g n (.ok S[i].obj.data (S.set i ⟨false, S[i].obj⟩)) m S H Q := by
      have e : shut S (.loc i) = .ok S[i].obj.data (S.set i ⟨false, S[i].obj⟩) := by simp only [shut, hc]
      rw [← e]; exact d
    obtain ⟨u, h1, h2⟩ := h.sok.at_ i _ hc
    by_cases q : S[i].live = true
    · rw [if_pos q] at h2
      have mu : Mut (some u) := by
        cases ho : S[i].obj with
        | lst xs => rw [ho] at h1; obtain ⟨vs, rfl, _⟩ := h1; trivial
        | dct xs => rw [ho] at h1; obtain ⟨vs, rfl, _⟩ := h1; trivial
      obtain ⟨od, I2⟩ := I.lock h2 mu
      obtain ⟨s2, p2⟩ := h.sok.close (o := od) hc q h2 h1
      refine ⟨_, _, _, I2, p2, s2, ?_, d' _ _ p2 s2⟩
      cases ho : S[i].obj with
      | lst xs => rw [ho] at h1; obtain ⟨vs, rfl, r⟩ := h1; exact .lst ⟨od, upd_same⟩ (RPs.keep p2.k _ _ r)
      | dct xs => rw [ho] at h1; obtain ⟨vs, rfl, r⟩ := h1; exact .dct upd_same (RPd.keep p2.k _ _ r)
    · rw [if_neg q] at h2
      obtain ⟨o, h2⟩ := h2
      have es : S.set i ⟨false, S[i].obj⟩ = S := by
        have e1 : (⟨false, S[i].obj⟩ : Cell) = S[i] := by
          generalize S[i] = z at q
          obtain ⟨l, ob⟩ := z
          cases l with
          | false => rfl
          | true => exact absurd rfl q
        rw [e1]
        exact List.set_getElem_self hl
      rw [es] at d'
      refine ⟨H, _, S, I, .refl, h.sok, ?_, d' _ _ .refl h.sok⟩
      cases ho : S[i].obj with
      | lst xs => rw [ho] at h1; obtain ⟨vs, rfl, r⟩ := h1; exact .lst ⟨o, h2⟩ r
      | dct xs => rw [ho] at h1; obtain ⟨vs, rfl, r⟩ := h1; exact .dct h2 r
theorem p_of {n : Nat} {e : Expr} {a : E} (C : Ctx G c X g k) (h : PE X e (dE g n a)) : PE X e (dP g n a) := ⟨fun pins s σ H Q I ⟨ρ, m, S, h0, d⟩ => by
  refine thn (h.run pins s σ H (fun x H1 => ∃ v m1 S1, At g n σ H1 ρ m1 S1 ∧ RV g.K m1 S1 H1 v x ∧ Den g n (shut S1 v) m1 S1 H1 (QP g Q)) I (dE_of h0 d.bind fun v m1 S1 H1 p1 s1 d1 x rx => ⟨v, m1, S1, h0.to p1 s1, rx, d1⟩)) fun u s1 ⟨x, H1, I1, r1, v, m1, S1, h1, rv, d1⟩ => ?_
  obtain ⟨H2, y, S2, I2, p2, s2, rp, q⟩ := shut_ok C I1 h1 rv d1
  exact ⟨x, H2, I2, r1, q x rp⟩⟩
/-! ### lists of expressions -/
def plainE : Expr → Bool
  | .Starred _ _ => false
  | _ => true
theorem plainE_is {e : Expr} (h : plainE e = true) (es : List Expr) (env : PySem.Env) : starEach (e :: es) env = (false, eval e env) :: starEach es env := by
  cases e with
  | Starred _ _ => cases h
  | _ => rfl
def nost : List Expr → Bool
  | [] => true
  | e :: es => plainE e && nost es
theorem nost_is (pos : Pos) (env : PySem.Env) : ∀ {es : List Expr}, nost es = true → (backTo pos (starEach es env)).any (·.1) = false
  | [], _ => rfl
  | e :: es, h => by
    simp only [nost, Bool.and_eq_true] at h
    rw [plainE_is h.1]
    show (false || (backTo pos (starEach es env)).any (·.1)) = false
    rw [nost_is pos env h.2]
    rfl
def dEs (g : Gx) (n l : Nat) (as : Es) : TA := fun σ H Q => ∃ ρ m S, At g n σ H ρ m S ∧ Den g n (evs g.F as ρ S) m S H fun ls m' S' H' => ∀ xs, xs.length = l → RVs g.K m' S' H' ls xs → Q xs H'
def dPs (g : Gx) (n l : Nat) (as : Es) : TA := fun σ H Q => ∃ ρ m S, At g n σ H ρ m S ∧ Den g n (evps g.F as ρ S) m S H fun ls m' S' H' => ∀ xs, xs.length = l → RPs g.K H' ls xs → Q xs H'
def SA (G : Glo) (c : Cc) (es : List Expr) (as : Es) : Prop := nost es = true ∧ ∀ k X g, Ctx G c X g k → PA X es (dEs g c.N.length es.length as) ∧ PA X es (dPs g c.N.length es.length as)
theorem sa_nil : SA G c [] .nil := ⟨rfl, fun k X g C => ⟨pa_nil.imp fun σ H Q ⟨ρ, m, S, h, d⟩ => d m H .refl h.sok [] rfl .nil, pa_nil.imp fun σ H Q ⟨ρ, m, S, h, d⟩ => d m H .refl h.sok [] rfl .nil⟩⟩
theorem sa_cons {e : Expr} {es : List Expr} {a : E} {as : Es} (he : SE G c e a) (p : plainE e = true) (hs : SA G c es as) : SA G c (e :: es) (.cons a as) := by
  refine ⟨by simp only [nost, p, hs.1]; rfl, fun k X g C => ⟨(pa_cons (he k X g C) (hs.2 k X g C).1 (plainE_is p _ _)).imp fun σ H Q ⟨ρ, m, S, h, d⟩ => ?_, (pa_cons (p_of C (he k X g C)) (hs.2 k X g C).2 (plainE_is p _ _)).imp fun σ H Q ⟨ρ, m, S, h, d⟩ => ?_⟩⟩
  · refine dE_of h (Den.bind (show Den g _ ((ev g.F a ρ S).bind fun v S1 => (evs g.F as ρ S1).bind fun vs S2 => .ok (v :: vs) S2) m S H _ from d)) fun v m1 S1 H1 p1 s1 d1 x rx => ?_
    refine ⟨ρ, m1, S1, h.to p1 s1, d1.bind.mono fun vs m2 S2 H2 p2 s2 d2 xs hl rs => ?_⟩
    exact d2 m2 H2 .refl s2 (x :: xs) (by simp [hl]) (.cons (rx.post p2) rs)
  · refine ⟨ρ, m, S, h, Den.mono (Den.bind (show Den g _ (((ev g.F a ρ S).bind fun v S1 => shut S1 v).bind fun x S1 => (evps g.F as ρ S1).bind fun xs S2 => .ok (x :: xs) S2) m S H _ from d)) fun y m1 S1 H1 p1 s1 d1 x rx => ?_⟩
    refine ⟨ρ, m1, S1, h.to p1 s1, d1.bind.mono fun vs m2 S2 H2 p2 s2 d2 xs hl rs => ?_⟩
    exact d2 m2 H2 .refl s2 (x :: xs) (by simp [hl]) (.cons (RP.keep p2.k _ _ rx) rs)
theorem len_line {n : Nat} (h : decide (n ≤ 1000) = true) : n ≤ sizeLine := by
  have := of_decide_eq_true h
  rw [sizeLine_eq]; omega
theorem s_tup {es : List Expr} {as : Es} {j : Nat} {pos : Pos} (h : SA G c es as) (hl : decide (es.length ≤ 1000) = true) : SE G c (.Tuple es j pos) (.tup as) := fun k X g C =>
  (pe_tup (h.2 k X g C).2).imp fun σ H Q ⟨ρ, m, S, h, d⟩ => by
    refine ⟨ρ, m, S, h, Den.mono (Den.bind (show Den g _ ((evps g.F as ρ S).bind fun xs S1 => .ok (Vl.d (.tuple xs)) S1) m S H _ from d)) fun ds m1 S1 H1 p1 s1 d1 xs el rs => ⟨by rw [el]; exact len_line hl, ?_⟩⟩
    exact Rs.tup (Den.data rfl s1 d1) rs
theorem s_lst {es : List Expr} {as : Es} {pos : Pos} (h : SA G c es as) (hl : decide (es.length ≤ 1000) = true) : SE G c (.List es pos) (.lst as) := fun k X g C => by
  have h1 := pe_lst (pos := pos) (h.2 k X g C).2
  refine ⟨fun pins s σ H Q I ⟨ρ, m, S, h, d⟩ => ?_⟩
  refine thn (h1.run pins s σ H (fun z H1 => ∃ a u, z = .ref a ∧ H1 a = some u ∧ Mut (some u) ∧ ∀ o, Q z (upd H1 a (.frz o u))) I ?_) fun _ _ e => ep_lock e
  refine ⟨ρ, m, S, h, Den.mono (Den.bind (show Den g _ ((evps g.F as ρ S).bind fun xs S1 => .ok (Vl.d (.list xs)) S1) m S H _ from d)) fun ds m1 S1 H1 p1 s1 d1 xs el rs => ⟨by rw [el]; exact len_line hl, fun p hp => ?_⟩⟩
  exact rsU_of (Den.data rfl s1 d1) p _ (.lst ds) rfl hp ⟨xs, rfl, rs⟩
/-! ### comparisons -/
def noSet : Expr → Bool
  | .Set _ _ _ => false
  | _ => true
theorem noSet_is {e : Expr} (h : noSet e = true) (op : CmpOp) : behindInMarks op e = false := by
  cases e with
  | Set _ _ _ => cases h
  | _ => rfl
theorem RoomG.u65 {A : Around} (r : RoomG k A) : A.units + 65 < cLine := by have := r.units; omega
theorem cmp_as (op : C2) {n : Nat} {σ : L2.St} {H : Hp} {ρ : Env} {m : Mp} {S : Sto} {v w : Vl} {x y : V} {Q : VK} (C : Ctx G c X g k) (h : At g n σ H ρ m S) (rx : RV g.K m S H v x) (ry : RV g.K m S H w y)
    (d : Den g n (R.opt ((view S v).bind fun x => (view S w).bind fun y => (cmpop op x y).map fun c => .d (.bool c)) S) m S H (QV g Q)) : rD X.K (cmpd op) x y H Q := by
  refine rd_of C h rx ry ?_
  have e : ∀ x y, (cmpd op x y).map Vl.d = (cmpop op x y).map fun c => .d (.bool c) := fun x y => by unfold cmpd; rw [Option.map_map]; rfl
  simp only [e]
  exact d
theorem s_cmp {ea eb : Expr} {a b : E} {pos : Pos} (op : C2) (ha : SE G c ea a) (hb : SE G c eb b) (p : noSet eb = true) : SE G c (.Compare ea [cmpOf op] [eb] pos) (.cmp op a b) := fun k X g C =>
  (pe_cmpR (op_cmp C.rm.u65 op) (ha k X g C) (hb k X g C) (noSet_is p _)).imp fun σ H Q ⟨ρ, m, S, h, d⟩ => two h d fun v w x y m2 S2 H2 h2 rx ry d2 => cmp_as op C h2 rx ry d2
theorem opt_test {o : Option Bool} {S : Sto} : ((R.opt (o.map fun c => Vl.d (.bool c)) S).bind fun v S1 => test S1 v) = R.opt o S := by
  cases o <;> rfl
theorem opt_test2 {o p : Option PyData} {f : PyData → PyData → Option Bool} {S : Sto} : ((R.opt (o.bind fun x => p.bind fun y => (f x y).map fun c => Vl.d (.bool c)) S).bind fun v S1 => test S1 v) = R.opt (o.bind fun x => p.bind fun y => f x y) S := by
  cases o with
  | none => rfl
  | some x =>
    cases p with
    | none => rfl
    | some y => exact opt_test
theorem R.bind_assoc {α β γ : Type} (r : R α) (k : α → Sto → R β) (l : β → Sto → R γ) : (r.bind k).bind l = r.bind fun a S => (k a S).bind l := by
  cases r <;> rfl
theorem cmp_test (op : C2) {n : Nat} {σ : L2.St} {H : Hp} {ρ : Env} {m : Mp} {S : Sto} {v w : Vl} {x y : V} {Q : Bool → Hp → Prop} (C : Ctx G c X g k) (h : At g n σ H ρ m S) (rx : RV g.K m S H v x) (ry : RV g.K m S H w y)
    (d : Den g n (R.opt ((view S v).bind fun x => (view S w).bind fun y => cmpop op x y) S) m S H fun b _ _ H' => Q b H') : rD X.K (cmpd op) x y H fun z H' => ∃ k, z = .bl k ∧ Q k H' := by
  cases e : ((view S v).bind fun x => (view S w).bind fun y => cmpop op x y) with
  | none => rw [e] at d; exact d.elim
  | some b =>
    rw [e] at d
    obtain ⟨dx, e1, e⟩ := Option.bind_eq_some_iff.mp e
    obtain ⟨dy, e2, e3⟩ := Option.bind_eq_some_iff.mp e
    rw [C.K] at rx ry
    refine ⟨dx, dy, .bool b, rx.rt (by rw [← C.K]; exact h.sok) e1, ry.rt (by rw [← C.K]; exact h.sok) e2, by unfold cmpd; rw [e3]; rfl, fun z H' ex r => ?_⟩
    cases r
    exact ⟨b, rfl, d m H' ex.post (ex.sok h.sok)⟩
theorem st_cmp {ea eb : Expr} {a b : E} {pos : Pos} (op : C2) (ha : SE G c ea a) (hb : SE G c eb b) (p : noSet eb = true) : ST G c (.Compare ea [cmpOf op] [eb] pos) (.cmp op a b) := fun k X g C =>
  (pt_cmpR (op_cmp C.rm.u65 op) (ha k X g C) (hb k X g C) (noSet_is p _)).imp fun σ H Q ⟨ρ, m, S, h, d⟩ => by
    simp only [ev, R.bind_assoc, opt_test2] at d
    refine dE_of h d.bind fun v m1 S1 H1 p1 s1 d1 x rx => ?_
    refine dE_of (h.to p1 s1) d1.bind fun w m2 S2 H2 p2 s2 d2 y ry => ?_
    exact cmp_test op C ((h.to p1 s1).to p2 s2) (rx.post p2) ry d2
/-- a op b op' c -/
theorem ch_of (op op' : C2) {ea eb ec : Expr} {a b c' : E} {n : Nat} {σ : L2.St} {H : Hp} {ρ : Env} {m : Mp} {S : Sto} {Q : VK} (C : Ctx G c X g k) (h : At g n σ H ρ m S) (d : Den g n (ev g.F (.ch op op' a b c') ρ S) m S H (QV g Q)) :
    tChain (rD X.K (cmpd op)) (rD X.K (cmpd op')) (dE g n a) (dE g n b) (dE g n c') σ H Q := by
  simp only [ev] at d
  refine dE_of h d.bind fun v m1 S1 H1 p1 s1 d1 x rx => ?_
  refine dE_of (h.to p1 s1) d1.bind fun w m2 S2 H2 p2 s2 d2 y ry => ?_
  have h2 := (h.to p1 s1).to p2 s2
  refine cmp_test op C h2 (rx.post p2) ry ?_
  cases e : ((view S2 v).bind fun x => (view S2 w).bind fun y => cmpop op x y) with
  | none => rw [e] at d2; exact d2.elim
  | some t =>
    rw [e] at d2
    intro m3 H3 p3 s3
    cases t with
    | false => exact d2 m3 H3 p3 s3 (.bl false) (.bl false)
    | true =>
      rw [if_pos rfl]
      have d3 := Den.from p3 s3 d2
      refine dE_of (h2.to p3 s3) (Den.bind d3) fun u m4 S4 H4 p4 s4 d4 z rz => ?_
      exact cmp_as op' C ((h2.to p3 s3).to p4 s4) ((ry.post p3).post p4) rz d4
def noSet2 (b c : Expr) : Bool := noSet b && noSet c
theorem last2 {b c : Expr} (h : noSet c = true) (o o' : CmpOp) : lastMarks [o, o'] [b, c] = false := noSet_is h o'
theorem s_ch {ea eb ec : Expr} {a b d : E} {pos : Pos} (op op' : C2) (ha : SE G c ea a) (hb : SE G c eb b) (hc : SE G c ec d) (p : noSet ec = true) : SE G c (.Compare ea [cmpOf op, cmpOf op'] [eb, ec] pos) (.ch op op' a b d) := fun k X g C =>
  (pe_chain (op_cmp C.rm.u65 op) (op_cmp C.rm.u65 op') (ha k X g C) (hb k X g C) (hc k X g C) (last2 p _ _)).imp fun σ H Q ⟨ρ, m, S, h, d⟩ => ch_of (ea := ea) (eb := eb) (ec := ec) op op' C h d
theorem st_ch {ea eb ec : Expr} {a b d : E} {pos : Pos} (op op' : C2) (ha : SE G c ea a) (hb : SE G c eb b) (hc : SE G c ec d) (p : noSet ec = true) : ST G c (.Compare ea [cmpOf op, cmpOf op'] [eb, ec] pos) (.ch op op' a b d) := fun k X g C =>
  (pt_chain (op_cmp C.rm.u65 op) (op_cmp C.rm.u65 op') (ha k X g C) (hb k X g C) (hc k X g C) (last2 p _ _)).imp fun σ H Q ⟨ρ, m, S, h, de⟩ => by
    refine ch_of (ea := ea) (eb := eb) (ec := ec) op op' C h ?_
    have key : ∀ r : R Vl, (∀ v S', r = .ok v S' → ∃ b, v = .d (.bool b)) → Den g c.N.length (r.bind fun v S1 => test S1 v) m S H (fun b _ _ H' => Q b H') → Den g c.N.length r m S H (QV g fun x H' => ∃ k, x = .bl k ∧ Q k H') := fun r hr dd => by
      cases r with
      | no => exact dd.elim
      | ex _ _ _ => exact dd
      | ok v S' =>
        obtain ⟨b, rfl⟩ := hr v S' rfl
        intro m' H' p' s' x rx
        cases rx
        exact ⟨b, rfl, dd m' H' p' s'⟩
    refine key _ (fun v S' e => ?_) de
    simp only [ev] at e
    cases e1 : ev g.F a ρ S with
    | no => rw [e1] at e; cases e
    | ex _ _ _ => rw [e1] at e; cases e
    | ok v1 S1 =>
      rw [e1, R.bind_ok] at e
      cases e2 : ev g.F b ρ S1 with
      | no => rw [e2] at e; cases e
      | ex _ _ _ => rw [e2] at e; cases e
      | ok v2 S2 =>
        rw [e2, R.bind_ok] at e
        split at e
        · cases e
        · cases e; exact ⟨false, rfl⟩
        · cases e3 : ev g.F d ρ S2 with
          | no => rw [e3] at e; cases e
          | ex _ _ _ => rw [e3] at e; cases e
          | ok v3 S3 =>
            rw [e3, R.bind_ok] at e
            cases e4 : ((view S3 v2).bind fun y => (view S3 v3).bind fun z => (cmpop op' y z).map fun k => Vl.d (.bool k)) with
            | none => rw [e4] at e; cases e
            | some u =>
              rw [e4] at e
              cases e
              obtain ⟨dx, dy, q1, q2, q3⟩ := opt2 e4
              obtain ⟨t, _, rfl⟩ := Option.map_eq_some_iff.mp q3
              exact ⟨t, rfl⟩
end
end In
/-! part InG -/
set_option Elab.async false
set_option linter.all false
set_option maxRecDepth 100000
set_option maxHeartbeats 1000000
/-! The rules of expressions: built-ins, logic, items, parts, isinstance. -/
namespace In
open PySem PySem.Spec PyProof.Rows L2
/-! ### the text of a value -/
theorem call_reprD {X : Cx} (hg : X.A.guards = some []) (hu : X.A.units + 65 < cLine) : CallR X (.builtin "repr") (rD1 X.K (u1 .repr)) := by
  refine callR_rD1 fun dx dz e => ?_
  have e : (if (dx.showable && !dx.hasDict && fits dx.shown.length && decide (dx.depth ≤ 64)) = true then some (PyData.str dx.shown) else none) = some dz := by
    have e0 : u1 .repr dx = (if (dx.showable && !dx.hasDict && fits dx.shown.length && decide (dx.depth ≤ 64)) = true then some (PyData.str dx.shown) else none) := by cases dx <;> rfl
    rw [← e0]; exact e
  revert e
  generalize dx = y
  intro e
  · split at e
    · rename_i hf
      cases e
      simp only [Bool.and_eq_true, Bool.not_eq_true', decide_eq_true_eq] at hf
      obtain ⟨⟨⟨h1, h2⟩, h3⟩, h4⟩ := hf
      have h3 := fits_le h3
      intro pins s σ H vs us Q I rs ⟨x, hx, ht, q⟩
      subst hx
      obtain ⟨u, rfl, ru⟩ := vals1 rs
      have q' : Q (.str y.shown) H := q _ _ .refl (.str _)
      cases y with
      | none =>
        rw [ht.non] at ru
        cases ru
        exact PySem.P.repr_of_none ⟨.str _, H, I.tok _, ⟨_, rfl⟩, q'⟩
      | bool b =>
        rw [ht.bl] at ru
        cases ru
        exact PySem.P.repr_of_bool ⟨.str _, H, I.tok _, ⟨_, rfl⟩, q'⟩
      | int i =>
        rw [ht.int] at ru
        obtain ⟨t, rfl⟩ := ru
        exact PySem.P.repr_of_int (by simpa [PyData.showable] using h1) ⟨.str _, H, I.tok _, ⟨_, rfl⟩, q'⟩
      | str z =>
        rw [ht.str] at ru
        obtain ⟨t, rfl⟩ := ru
        exact PySem.P.repr_of_str ⟨.str _, H, I.tok _, ⟨_, rfl⟩, q'⟩ h3
      | dict kvs => simp [PyData.hasDict] at h2
      | list xs =>
        obtain ⟨as, r1⟩ := Dp.reads I _ x u (ht.dp h2) ru
        obtain ⟨a, vs, rfl, _⟩ := ht
        cases ru
        exact repr_of_reads' r1 h1 (by rw [h2]; intro z; cases z) hg (by omega) (fun _ _ z => z) (fun h' u tk hk => ⟨.str _, H, I.kept hk, ⟨_, rfl⟩, q'⟩) h3
      | tuple xs =>
        obtain ⟨as, r1⟩ := Dp.reads I _ x u (ht.dp h2) ru
        obtain ⟨a, vs, rfl, _⟩ := ht.tup
        cases ru
        exact repr_of_reads' r1 h1 (by rw [h2]; intro z; cases z) hg (by omega) (fun _ _ z => z) (fun h' u tk hk => ⟨.str _, H, I.kept hk, ⟨_, rfl⟩, q'⟩) h3
    · cases e
section
variable {G : Glo} {c : Cc} {X : Cx} {g : Gx} {k : Nat}
/-! ### built-ins of one argument, of two -/
theorem rd1_of {n : Nat} {σ : L2.St} {H : Hp} {ρ : Env} {m : Mp} {S : Sto} {f : PyData → Option PyData} {v : Vl} {x : V} {Q : VK} (C : Ctx G c X g k) (h : At g n σ H ρ m S) (rx : RV g.K m S H v x)
    (d : Den g n (R.opt ((view S v).bind fun x => (f x).map .d) S) m S H (QV g Q)) : rD1 X.K f [x] H Q := by
  cases e : ((view S v).bind fun x => (f x).map Vl.d) with
  | none => rw [e] at d; exact d.elim
  | some u =>
    rw [e] at d
    obtain ⟨dx, e1, e3⟩ := opt1 e
    obtain ⟨dz, e4, rfl⟩ := Option.map_eq_some_iff.mp e3
    rw [C.K] at rx
    exact ⟨x, dx, dz, rfl, rx.rt (by rw [← C.K]; exact h.sok) e1, e4, d.data C.K h.sok⟩
theorem pa1 {e : Expr} {a : E} {n : Nat} (h : PE X e (dE g n a)) (p : plainE e = true) : PA X [e] (fun σ H Q => dE g n a σ H fun x H1 => Q [x] H1) :=
  pa_cons h pa_nil (plainE_is p _ _)
theorem pa2 {e e' : Expr} {a a' : E} {n : Nat} (h : PE X e (dE g n a)) (h' : PE X e' (dE g n a')) (p : plainE e = true) (p' : plainE e' = true) : PA X [e, e'] (fun σ H Q => dE g n a σ H fun x H1 => dE g n a' σ H1 fun y H2 => Q [x, y] H2) :=
  pa_cons h (pa1 h' p') (plainE_is p _ _)
/-- which built-in -/
inductive Bi : U1 → Str → Prop
  | abs : Bi .abs "abs" | len : Bi .len "len" | sum : Bi .sum "sum" | max : Bi .max "max" | min : Bi .min "min" | all : Bi .all "all" | any : Bi .any "any" | sorted : Bi .sorted "sorted" | repr : Bi .repr "repr"
  | int : Bi .int "int" | tuple : Bi .tuple "tuple" | list : Bi .list "list" | dict : Bi .dict "dict"
def biTab : List (Str × U1) := [("abs", .abs), ("len", .len), ("sum", .sum), ("max", .max), ("min", .min), ("all", .all), ("any", .any), ("sorted", .sorted), ("repr", .repr), ("int", .int), ("tuple", .tuple), ("list", .list), ("dict", .dict)]
def biOf (x : Str) : Option U1 := biTab.lookup x
theorem biOf_is {x : Str} {op : U1} (h : biOf x = some op) : Bi op x := by
  have hm : (x, op) ∈ biTab := PySem.mem_of_lookup h
  simp only [biTab, List.mem_cons, Prod.mk.injEq, List.not_mem_nil, or_false] at hm
  rcases hm with ⟨rfl, rfl⟩ | ⟨rfl, rfl⟩ | ⟨rfl, rfl⟩ | ⟨rfl, rfl⟩ | ⟨rfl, rfl⟩ | ⟨rfl, rfl⟩ | ⟨rfl, rfl⟩ | ⟨rfl, rfl⟩ | ⟨rfl, rfl⟩ | ⟨rfl, rfl⟩ | ⟨rfl, rfl⟩ | ⟨rfl, rfl⟩ | ⟨rfl, rfl⟩ <;> constructor
theorem s_u1 {op : U1} {x : Str} {e : Expr} {a : E} {p pos : Pos} (hb : Bi op x) (hf : x ∈ G.free) (hg : glb c.sc x = true) (ha : SE G c e a) (pl : plainE e = true) : SE G c (.Call (.Name x p) [e] [] pos) (.u1 op a) := fun k X g C => by
  have hm := C.wd.free x hf
  have hgl := C.gl hg
  have pa := pa1 (ha k X g C) pl
  have hst := plainE_is pl [] X.env
  have fin : ∀ σ H Q, dE g c.N.length (.u1 op a) σ H Q → tCB (rD1 X.K (u1 op)) (fun σ H Q => dE g c.N.length a σ H fun x H1 => Q [x] H1) σ H Q := fun σ H Q ⟨ρ, m, S, h, d⟩ =>
    one (r := fun x H1 => rD1 X.K (u1 op) [x] H1 Q) h d fun v x m2 S2 H2 h2 rx d2 => rd1_of C h2 rx d2
  cases hb with
  | abs => exact (pe_callB call_absD hgl hm rfl pa (he := hst)).imp fin
  | len => exact (pe_callB call_lenD1 hgl hm rfl pa (he := hst)).imp fin
  | sum => exact (pe_callB (call_sumD C.calm) hgl hm rfl pa (he := hst)).imp fin
  | max => exact (pe_callB (call_maxD C.calm) hgl hm rfl pa (he := hst)).imp fin
  | min => exact (pe_callB (call_minD C.calm) hgl hm rfl pa (he := hst)).imp fin
  | all => exact (pe_callB (call_allD C.calm) hgl hm rfl pa (he := hst)).imp fin
  | any => exact (pe_callB (call_anyD C.calm) hgl hm rfl pa (he := hst)).imp fin
  | sorted => exact (pe_callB (rU1_shut (call_sortedU C.calm)) hgl hm rfl pa (he := hst)).imp fin
  | repr => exact (pe_callB (call_reprD C.rm.gd C.rm.u65) hgl hm rfl pa (he := hst)).imp fin
  | int => exact (pe_callTy call_intD hgl hm rfl pa (he := hst)).imp fin
  | tuple => exact (pe_callTy call_tupleD hgl hm rfl pa (he := hst)).imp fin
  | list => exact (pe_callTy (rU1_shut call_listU) hgl hm rfl pa (he := hst)).imp fin
  | dict => exact (pe_callTy (rU1_shut (call_dictU C.calm)) hgl hm rfl pa (he := hst)).imp fin
theorem s_neg {e : Expr} {a : E} {pos : Pos} (ha : SE G c e a) : SE G c (.UnaryOp .USub e pos) (.u1 .neg a) := fun k X g C =>
  (pe_un un_neg (ha k X g C)).imp fun σ H Q ⟨ρ, m, S, h, d⟩ => one h d fun v x m2 S2 H2 h2 rx d2 => by
    obtain ⟨y, dx, dz, e0, h1, e1, h3⟩ := rd1_of C h2 rx d2
    cases e0
    cases dx with
    | int i => cases e1; exact ⟨i, h1.int, h3.int⟩
    | _ => cases e1
theorem s_max2 {e e' : Expr} {a b : E} {p pos : Pos} (hf : ("max" : Str) ∈ G.free) (hg : glb c.sc "max" = true) (ha : SE G c e a) (hb : SE G c e' b) (pl : plainE e = true) (pl' : plainE e' = true) : SE G c (.Call (.Name "max" p) [e, e'] [] pos) (.u2 .max a b) := fun k X g C =>
  (pe_callB (call_max2 C.calm) (C.gl hg) (C.wd.free _ hf) rfl (pa2 (ha k X g C) (hb k X g C) pl pl') (he := plainE_is pl _ _) (hpl := nost_is _ _ (by simp [nost, pl']))).imp fun σ H Q ⟨ρ, m, S, h, d⟩ =>
    two (r := fun x y H2 => ∃ i j, [x, y] = [.int i, .int j] ∧ Q (.int (if j > i then j else i)) H2) h d fun v w x y m2 S2 H2 h2 rx ry d2 => by
    obtain ⟨dx, dy, dz, h1, h2, e1, h3⟩ := rd_of C h2 rx ry d2
    unfold u2 at e1
    split at e1
    · cases e1; exact ⟨_, _, by rw [h1.int, h2.int], h3.int⟩
    · rename_i hh; cases hh
    · rename_i hh; cases hh
    · cases e1
theorem s_min2 {e e' : Expr} {a b : E} {p pos : Pos} (hf : ("min" : Str) ∈ G.free) (hg : glb c.sc "min" = true) (ha : SE G c e a) (hb : SE G c e' b) (pl : plainE e = true) (pl' : plainE e' = true) : SE G c (.Call (.Name "min" p) [e, e'] [] pos) (.u2 .min a b) := fun k X g C =>
  (pe_callB (call_min2 C.calm) (C.gl hg) (C.wd.free _ hf) rfl (pa2 (ha k X g C) (hb k X g C) pl pl') (he := plainE_is pl _ _) (hpl := nost_is _ _ (by simp [nost, pl']))).imp fun σ H Q ⟨ρ, m, S, h, d⟩ =>
    two (r := fun x y H2 => ∃ i j, [x, y] = [.int i, .int j] ∧ Q (.int (if j < i then j else i)) H2) h d fun v w x y m2 S2 H2 h2 rx ry d2 => by
    obtain ⟨dx, dy, dz, h1, h2, e1, h3⟩ := rd_of C h2 rx ry d2
    unfold u2 at e1
    split at e1
    · rename_i hh; cases hh
    · cases e1; exact ⟨_, _, by rw [h1.int, h2.int], h3.int⟩
    · rename_i hh; cases hh
    · cases e1
/-! ### not, and, or, if -/
theorem s_not {e : Expr} {a : E} {pos : Pos} (ha : SE G c e a) : SE G c (.UnaryOp .Not e pos) (.not a) := fun k X g C =>
  (pe_notT (ha k X g C)).imp fun σ H Q ⟨ρ, m, S, h, d⟩ => one h d fun v x m2 S2 H2 h2 rx d2 => by
    obtain ⟨b, t, q⟩ := test_of C h2 rx d2.bind
    exact ⟨b, t, q m2 H2 .refl h2.sok _ (.bl _)⟩
theorem st_not {e : Expr} {a : E} {pos : Pos} (ha : ST G c e a) : ST G c (.UnaryOp .Not e pos) (.not a) := fun k X g C =>
  (pt_not (ha k X g C)).imp fun σ H Q ⟨ρ, m, S, h, d⟩ => by
    have e : ((ev g.F (.not a) ρ S).bind fun v S1 => test S1 v) = ((ev g.F a ρ S).bind fun v S1 => test S1 v).bind fun b S2 => R.ok (!b) S2 := by
      simp only [ev, R.bind_assoc]
      rfl
    rw [e] at d
    exact ⟨ρ, m, S, h, d.bind.mono fun b m1 S1 H1 p1 s1 q => q m1 H1 .refl s1⟩
theorem s_and {e e' : Expr} {es : List Expr} {a b : E} {pos : Pos} (ha : SE G c e a) (hb : SE G c (.BoolOp .And (e' :: es) pos) b) : SE G c (.BoolOp .And (e :: e' :: es) pos) (.and a b) := fun k X g C =>
  (pe_andT (ha k X g C) (hb k X g C)).imp fun σ H Q ⟨ρ, m, S, h, d⟩ => one h d fun v x m2 S2 H2 h2 rx d2 => by
    obtain ⟨t, tr, q⟩ := test_of C h2 rx d2.bind
    refine ⟨t, tr, ?_⟩
    cases t with
    | true => exact ⟨ρ, m2, S2, h2, q⟩
    | false => exact q m2 H2 .refl h2.sok x rx
theorem s_or {e e' : Expr} {es : List Expr} {a b : E} {pos : Pos} (ha : SE G c e a) (hb : SE G c (.BoolOp .Or (e' :: es) pos) b) : SE G c (.BoolOp .Or (e :: e' :: es) pos) (.or a b) := fun k X g C =>
  (pe_orT (ha k X g C) (hb k X g C)).imp fun σ H Q ⟨ρ, m, S, h, d⟩ => one h d fun v x m2 S2 H2 h2 rx d2 => by
    obtain ⟨t, tr, q⟩ := test_of C h2 rx d2.bind
    refine ⟨t, tr, ?_⟩
    cases t with
    | true => exact q m2 H2 .refl h2.sok x rx
    | false => exact ⟨ρ, m2, S2, h2, q⟩
theorem s_one {e : Expr} {a : E} {op : BoolOp} {pos : Pos} (ha : SE G c e a) : SE G c (.BoolOp op [e] pos) a := fun k X g C => pe_one (ha k X g C)
def SW (G : Glo) (c : Cc) (e : Expr) (a : E) : Prop := ∀ k X g, Ctx G c X g k → PW X e (dT g c.N.length a)
theorem _root_.L2.PW.imp {X : Cx} {e : Expr} {t t' : TT} (h : PW X e t) (q : ∀ σ H Q, t' σ H Q → t σ H Q) : PW X e t' := ⟨fun wh pins s σ H Q I z => h.run wh pins s σ H Q I (q σ H Q z)⟩
theorem sw_t {e : Expr} {a : E} (h : SW G c e a) : ST G c e a := fun k X g C => (h k X g C).pt
theorem sw_and1 {e : Expr} {a : E} {pos : Pos} (ha : ST G c e a) : SW G c (.BoolOp .And [e] pos) a := fun k X g C => pw_and1 (ha k X g C)
theorem sw_or1 {e : Expr} {a : E} {pos : Pos} (ha : ST G c e a) : SW G c (.BoolOp .Or [e] pos) a := fun k X g C => pw_or1 (ha k X g C)
/-- a value tested twice is tested once -/
theorem test_again {r : Vl → Sto → R Vl} {F : Fns} {a b : E} {ρ : Env} {S : Sto} (n : Nat) {m : Mp} {H : Hp} {Q : Bool → Mp → Sto → Hp → Prop}
    (d : Den g n (((ev F a ρ S).bind fun v S1 => (test S1 v).bind fun c S2 => if c = true then ev F b ρ S2 else .ok v S2).bind fun v S1 => test S1 v) m S H Q) :
    Den g n (((ev F a ρ S).bind fun v S1 => test S1 v).bind fun c S2 => if c = true then (ev F b ρ S2).bind fun v S1 => test S1 v else .ok false S2) m S H Q := by
  cases e : ev F a ρ S with
  | no => rw [e] at d; exact d
  | ex _ _ _ => rw [e] at d; exact d
  | ok v S1 =>
    rw [e] at d
    simp only [R.bind_ok] at d ⊢
    cases t : test S1 v with
    | no => rw [t] at d; exact d
    | ex _ _ _ => rw [t] at d; exact d
    | ok b' S2 =>
      rw [t] at d
      simp only [R.bind_ok] at d ⊢
      have hs : S2 = S1 := by
        unfold test at t
        cases o : (view S1 v).bind In.truthy with
        | none => rw [o] at t; cases t
        | some z => rw [o] at t; cases t; rfl
      cases b' with
      | true => exact d
      | false =>
        simp only [if_neg Bool.false_ne_true, R.bind_ok] at d ⊢
        rw [hs, t, hs] at d
        rw [hs]
        exact d
theorem test_again' {F : Fns} {a b : E} {ρ : Env} {S : Sto} (n : Nat) {m : Mp} {H : Hp} {Q : Bool → Mp → Sto → Hp → Prop}
    (d : Den g n (((ev F a ρ S).bind fun v S1 => (test S1 v).bind fun c S2 => if c = true then .ok v S2 else ev F b ρ S2).bind fun v S1 => test S1 v) m S H Q) :
    Den g n (((ev F a ρ S).bind fun v S1 => test S1 v).bind fun c S2 => if c = true then .ok true S2 else (ev F b ρ S2).bind fun v S1 => test S1 v) m S H Q := by
  cases e : ev F a ρ S with
  | no => rw [e] at d; exact d
  | ex _ _ _ => rw [e] at d; exact d
  | ok v S1 =>
    rw [e] at d
    simp only [R.bind_ok] at d ⊢
    cases t : test S1 v with
    | no => rw [t] at d; exact d
    | ex _ _ _ => rw [t] at d; exact d
    | ok b' S2 =>
      rw [t] at d
      simp only [R.bind_ok] at d ⊢
      have hs : S2 = S1 := by
        unfold test at t
        cases o : (view S1 v).bind In.truthy with
        | none => rw [o] at t; cases t
        | some z => rw [o] at t; cases t; rfl
      cases b' with
      | false => exact d
      | true =>
        simp only [if_true, R.bind_ok] at d ⊢
        rw [hs, t, hs] at d
        rw [hs]
        exact d
theorem sw_and {e e' : Expr} {es : List Expr} {a b : E} {pos : Pos} (ha : ST G c e a) (hb : SW G c (.BoolOp .And (e' :: es) pos) b) : SW G c (.BoolOp .And (e :: e' :: es) pos) (.and a b) := fun k X g C =>
  (pw_and (ha k X g C) (hb k X g C)).imp fun σ H Q ⟨ρ, m, S, h, d⟩ => by
    refine ⟨ρ, m, S, h, (Den.bind (test_again (r := fun _ _ => .no) _ d)).mono fun t m1 S1 H1 p1 s1 q => ?_⟩
    cases t with
    | true => exact ⟨ρ, m1, S1, h.to p1 s1, q⟩
    | false => exact q m1 H1 .refl s1
theorem sw_or {e e' : Expr} {es : List Expr} {a b : E} {pos : Pos} (ha : ST G c e a) (hb : SW G c (.BoolOp .Or (e' :: es) pos) b) : SW G c (.BoolOp .Or (e :: e' :: es) pos) (.or a b) := fun k X g C =>
  (pw_or (ha k X g C) (hb k X g C)).imp fun σ H Q ⟨ρ, m, S, h, d⟩ => by
    refine ⟨ρ, m, S, h, (Den.bind (test_again' _ d)).mono fun t m1 S1 H1 p1 s1 q => ?_⟩
    cases t with
    | true => exact q m1 H1 .refl s1
    | false => exact ⟨ρ, m1, S1, h.to p1 s1, q⟩
theorem s_ite {e e1 e2 : Expr} {a b d : E} {pos : Pos} (ha : ST G c e a) (hb : SE G c e1 b) (hd : SE G c e2 d) : SE G c (.IfExp e e1 e2 pos) (.ite a b d) := fun k X g C =>
  (pe_ifExp (ha k X g C) (hb k X g C) (hd k X g C)).imp fun σ H Q ⟨ρ, m, S, h, de⟩ => by
    simp only [ev, ← R.bind_assoc] at de
    refine ⟨ρ, m, S, h, de.bind.mono fun t m1 S1 H1 p1 s1 q => ?_⟩
    cases t with
    | true => exact ⟨ρ, m1, S1, h.to p1 s1, q⟩
    | false => exact ⟨ρ, m1, S1, h.to p1 s1, q⟩
/-! ### items, parts -/
def plainX : Expr → Bool
  | .Slice _ _ _ _ => false
  | _ => true
theorem plainX_is {e : Expr} (h : plainX e = true) : PlainIx e := by
  intro o i
  cases e with
  | Slice _ _ _ _ => cases h
  | _ => rfl
theorem RPs.atI {K : Frag} {H : Hp} {xs : List PyData} {vs : List V} (r : RPs K H xs vs) {i : Int} {x : PyData} (e : L2.atI xs i = some x) : ∃ v, L2.atI vs i = some v ∧ RP K H x v := by
  unfold L2.atI at e ⊢
  rw [r.len] at e
  obtain ⟨j, e1, e2⟩ := Option.bind_eq_some_iff.mp e
  obtain ⟨v, e3, e4⟩ := r.at e2
  exact ⟨v, by rw [e1]; exact e3, e4⟩
theorem s_ix {e e' : Expr} {a b : E} {pos : Pos} (ha : SE G c e a) (hb : SE G c e' b) (p : plainX e' = true) : SE G c (.Subscript e e' pos) (.ix a b) := fun k X g C =>
  (pe_ix ix_seq (ha k X g C) (hb k X g C) (plainX_is p)).imp fun σ H Q ⟨ρ, m, S, h, d⟩ => two h d fun v w x y m2 S2 H2 h2 rx ry d2 => by
    obtain ⟨dx, dy, dz, h3, h4, e1, h5⟩ := rd_of C h2 rx ry d2
    unfold index at e1
    split at e1
    · obtain ⟨q, vs, rfl, hq, r⟩ := h3
      obtain ⟨z, e2, rz⟩ := r.atI e1
      exact .inl ⟨q, vs, _, z, rfl, h4.int, rd_sql hq, e2, h5 z H2 .refl rz⟩
    · obtain ⟨q, vs, rfl, hq, r⟩ := h3.tup
      obtain ⟨z, e2, rz⟩ := r.atI e1
      exact .inr (.inl ⟨q, vs, _, z, rfl, h4.int, hq, e2, h5 z H2 .refl rz⟩)
    · split at e1
      · rename_i hf
        obtain ⟨c, e2, rfl⟩ := Option.map_eq_some_iff.mp e1
        exact .inr (.inr ⟨_, _, c, h3.str, h4.int, by rw [sizeLine_eq]; exact of_decide_eq_true hf, e2, h5 (.str ⟨#[c]⟩) H2 .refl (.str _)⟩)
      · cases e1
    · cases e1
theorem RPs.cut {K : Frag} {H : Hp} {xs : List PyData} {vs : List V} (r : RPs K H xs vs) (lo hi : Option Int) : RPs K H (In.cut xs lo hi) (cutV vs lo hi) := by
  unfold In.cut cutV
  rw [r.len]
  exact (r.drop _).take _
def SO (G : Glo) (c : Cc) (e : Option Expr) (as : Es) : Prop := ∀ k X g, Ctx G c X g k → PO X e fun σ H Q => ∃ ρ m S, At g c.N.length σ H ρ m S ∧ Den g c.N.length (evo g.F as ρ S) m S H fun o _ _ H' => Q o H'
theorem so_none : SO G c none .nil := fun k X g C => ⟨fun pins s σ H Q I ⟨ρ, m, S, h, d⟩ => po_none.run pins s σ H Q I (d m H .refl h.sok)⟩
theorem so_some {e : Expr} {a : E} (ha : SE G c e a) : SO G c (some e) (.cons a .nil) := fun k X g C => ⟨fun pins s σ H Q I ⟨ρ, m, S, h, d⟩ => (po_some (ha k X g C)).run pins s σ H Q I (by
    refine dE_of h (Den.bind (show Den g _ ((ev g.F a ρ S).bind fun v S1 => match v with | .d (.int i) => R.ok (some i) S1 | _ => .no) m S H _ from d)) fun v m1 S1 H1 p1 s1 d1 x rx => ?_
    cases v with
    | loc n => exact d1.elim
    | d y =>
      cases y with
      | int i => cases rx; exact ⟨i, rfl, d1 m1 H1 .refl s1⟩
      | _ => exact d1.elim)⟩
theorem s_sl {e : Expr} {lo hi : Option Expr} {a : E} {l h' : Es} {p2 pos : Pos} (ha : SE G c e a) (hl : SO G c lo l) (hh : SO G c hi h') : SE G c (.Subscript e (.Slice lo hi none p2) pos) (.sl a l h') := fun k X g C => by
  have h1 := pe_slice (p2 := p2) (pos := pos) (SlR.or sl_list sl_tupA) (ha k X g C) (hl k X g C) (hh k X g C)
  refine ⟨fun pins s σ H Q I ⟨ρ, m, S, h, d⟩ => ?_⟩
  refine thn (h1.run pins s σ H (fun z H1 => Q z H1 ∨ ∃ a u, z = .ref a ∧ H1 a = some u ∧ Mut (some u) ∧ ∀ o, Q z (upd H1 a (.frz o u))) I ?_) fun u s' ⟨v, H', I', r, q⟩ => ?_
  · simp only [ev] at d
    refine dE_of h d.bind fun v m1 S1 H1 p1 s1 d1 x rx => ?_
    have h1 := h.to p1 s1
    refine ⟨ρ, m1, S1, h1, d1.bind.mono fun lo' m2 S2 H2 p2 s2 d2 => ?_⟩
    have h2 := h1.to p2 s2
    refine ⟨ρ, m2, S2, h2, d2.bind.mono fun hi' m3 S3 H3 p3 s3 d3 => ?_⟩
    have rx3 := (rx.post p2).post p3
    cases e : ((view S3 v).bind fun x => (slice x lo' hi').map Vl.d) with
    | none => rw [e] at d3; exact d3.elim
    | some u =>
      rw [e] at d3
      obtain ⟨dx, e1, e3⟩ := opt1 e
      obtain ⟨dz, e4, rfl⟩ := Option.map_eq_some_iff.mp e3
      have rs : Rs g.K H3 dz Q := d3.data rfl s3
      have rt := rx3.rt s3 e1
      rw [C.K] at rs rt
      unfold slice at e4
      split at e4
      · cases e4
        obtain ⟨q, vs, rfl, hq, r⟩ := rt
        refine .inl ⟨q, vs, rfl, rd_sql hq, fun p hp => .inr ?_⟩
        exact rsU_of rs p _ (.lst _) rfl hp ⟨_, rfl, r.cut _ _⟩
      · cases e4
        obtain ⟨q, vs, rfl, hq, r⟩ := rt.tup
        refine .inr ⟨q, vs, rfl, hq, fun ⟨z1, z2⟩ => .inl ?_, fun _ p hp => .inl (rs.tup (r.cut _ _) p hp)⟩
        refine rs _ _ .refl (.tup hq ?_)
        rename_i ys _
        have er : In.cut ys lo' hi' = ys := by
          unfold In.cut
          rw [r.len, z1, z2, List.drop_zero, Nat.sub_zero, ← r.len, List.take_length]
        rw [er]
        exact r
      · cases e4
  · rcases q with q | q
    · exact ⟨v, H', I', r, q⟩
    · exact ep_lock ⟨v, H', I', r, q⟩
end
end In
/-! part InEn -/
set_option Elab.async false
set_option linter.all false
set_option maxRecDepth 100000
set_option maxHeartbeats 2000000
/-! enumerate(tuple). -/
namespace In
open PySem PySem.Spec PyProof.Rows L2
theorem meets_enumT (t : Addr) (items : Array Value) :
    Meets (Builtin.«enumerate.__new__» ⟨[.type "enumerate", .ref t], []⟩) (fun _ R s => s.heap.IsTuple t items ∧
      R (.ok (.ret (.ref (s.heap.push { cls := .type "tuple_iterator", data := .fields #[.ref t, .int 0 0] }).objs.size))) { s with heap := (s.heap.push { cls := .type "tuple_iterator", data := .fields #[.ref t, .int 0 0] }).push { cls := .type "enumerate", data := .fields #[.none, .bool false, .ref s.heap.objs.size, rawInt 0, .none, .none] } }) :=
  .of_wp fun prog w A R s h => by
    obtain ⟨hp, g, d, tk, os⟩ := s; obtain ⟨h1, h⟩ := h
    have hsub := sub_enumerate
    have q1 : ∀ {A' : Around} {E : Value → Shared → Prop} {Q : Value → Shared → Prop}, Q (.ref hp.objs.size) ⟨hp.push { cls := .type "tuple_iterator", data := .fields #[.ref t, .int 0 0] }, g, d, tk, os⟩ → wpAny (model prog w) A' (pyIter (.ref t)) Q E ⟨hp, g, d, tk, os⟩ :=
      fun q => (begins_tuple t items).iter prog w _ _ ⟨hp, g, d, tk, os⟩ _ h1 q
    wp_walk using q1
    refine wpAny_stack_any fun st => wpAny_pure ?_
    split
    · rename_i c _ _ _ _ _
      cases (c == Value.type "enumerate")
      · wp_walk using q1
        exact ⟨_, rfl, h⟩
      · wp_walk using q1
        exact ⟨_, rfl, h⟩
    · wp_walk using q1
      exact ⟨_, rfl, h⟩
theorem call_enumT {prog : Program} {w : World} {A : Around} {E : Value → Shared → Prop} {s : Shared} {t : Addr} {items : Array Value} {Q : Value → Shared → Prop} (hl : s.heap.IsTuple t items)
    (h : ∀ h', IsEnum h' (s.heap.objs.size + 1) s.heap.objs.size 0 .none → h'.IsTupleIter s.heap.objs.size t 0 → h'.objs.size = s.heap.objs.size + 2 →
      (∀ b o, s.heap.get? b = some o → h'.get? b = some o) → Q (.ref (s.heap.objs.size + 1)) { s with heap := h' }) :
    wpAny (model prog w) A (call (.type "enumerate") [.ref t]) Q E s := by
  refine callType_new F.called_enumerate (by decide) (F.typeCall_enumerate_1 _) (F.newCall_enumerate_1 _) (fun obj => F.args_object_init_2 obj _) F.entry_enumerate_new (meets_enumT t items) ⟨hl, ?_⟩
  have hz : (s.heap.push { cls := .type "tuple_iterator", data := .fields #[.ref t, .int 0 0] }).objs.size = s.heap.objs.size + 1 := Heap.size_push ..
  show _ ∧ _
  rw [hz]
  have he := Heap.get?_push_size (s.heap.push { cls := .type "tuple_iterator", data := .fields #[.ref t, .int 0 0] }) (o := { cls := .type "enumerate", data := .fields #[.none, .bool false, .ref s.heap.objs.size, rawInt 0, .none, .none] }) rfl
  rw [hz] at he
  exact ⟨⟨_, he, rfl⟩, h _ he ⟨_, Heap.get?_push_of_some _ (Heap.get?_push_size _ rfl), rfl, rfl⟩ (by rw [Heap.size_push, hz]) fun b o x => Heap.get?_push_of_some _ (Heap.get?_push_of_some _ x)⟩
/-- the tuple at a, each item in a new pair -/
def IteT (K : Frag) (a : Addr) : L2.It :=
  ⟨fun i H => ∃ (xs : List V) (x : V), SqT K H a xs ∧ xs[i]? = some x, fun i H v H' => ∃ T x, v = .ref T ∧ H T = none ∧ H' = upd H T (.tup [.int (i : Nat), x]) ∧ ∀ xs, SqT K H a xs → xs[i]? = some x, fun i H => ∃ xs : List V, SqT K H a xs ∧ xs.length ≤ i⟩
theorem turn_enumT {P : Program} {w : World} {K : Frag} {elts : List Expr} {kk : Nat} {tpos : Pos} (a e it : Addr) :
    Turn P w K (.Tuple elts kk tpos) (IteT K a) [e, it] e (fun i h => (∃ old, IsEnum h e it ((i : Nat) : Int) old) ∧ h.IsTupleIter it a i ∧ e ≠ it) where
  mem := by simp
  obj := fun i h st b hb => by
    obtain ⟨⟨old, he⟩, ⟨o, ho, hc, hd⟩, _⟩ := st
    have e' : b = e ∨ b = it := by simpa using hb
    rcases e' with z | z
    · rw [z]; exact ⟨_, he, fun v q => nomatch q⟩
    · rw [z]; exact ⟨o, ho, fun v q => by rw [hd] at q; cases q⟩
  keep := fun i h h' st k => let ⟨⟨old, he⟩, hi, hne⟩ := st; ⟨⟨old, k e (by simp) _ he⟩, hi.at fun o q => k it (by simp) o q, hne⟩
  item := by
    intro X hP hw hK hc i pins s σ H E I hf st hg
    subst hP hw hK
    obtain ⟨⟨old, he⟩, hit, hne⟩ := st
    obtain ⟨xs, x, hq, hx⟩ := hg
    obtain ⟨its, rv, p, hz⟩ := I.tuple hq
    obtain ⟨u, hu, ru⟩ := rv.get hx
    have hel : e < s.heap.objs.size := Heap.lt_size he
    have hil : it < s.heap.objs.size := by obtain ⟨_, q, _⟩ := hit; exact Heap.lt_size q
    have hat : a ≠ it := by
      intro z
      obtain ⟨o, ho, hcl, _⟩ := p
      obtain ⟨o2, ho2, hc2, _⟩ := hit
      rw [z, ho2] at ho
      cases ho
      rw [hc2] at hcl
      exact absurd hcl (by decide)
    have hae : e ≠ a := by
      intro z
      obtain ⟨o, ho, hcl, _⟩ := p
      rw [← z, he] at ho
      cases ho
      exact absurd hcl (show ¬ (Value.type "enumerate" = Value.type "tuple") from by decide)
    have hlt : i < its.toArray.size := by
      have := (List.getElem?_eq_some_iff.mp hu).1
      simpa using this
    have hh : X.A.in1.handled = none := I.ok.hd hc
    refine wpAny_pyNext_enum_itemD (Draws.tuple hh it a hat its.toArray) he ⟨hit, p⟩ hlt hne (by simp [hne, hae]) fun y h' tk hP ho hit' hT hsz hk => ?_
    obtain rfl : y = u := by
      have h2 : its[i]? = some y := by simpa using hP
      rw [hu] at h2; exact (Option.some.inj h2).symm
    refine ⟨_, rfl, wpAny_letOwnedTupleGo_enum (s := { s with heap := h', toks := tk + 1 }) ho fun h'' he' sb => ?_⟩
    have hT2 : h''.get? s.heap.objs.size = some { cls := .type "tuple", data := .seq #[.int i tk, y] } := (sb.2 _ (Nat.ne_of_gt hel)).trans hT
    have new : ObjOk X.prog X.w (upd H s.heap.objs.size (.tup [.int (i : Nat), x])) h'' s.heap.objs.size (.tup [.int (i : Nat), x]) :=
      ⟨by show 2 ≤ sizeLine; decide, [.int i tk, y], .cons ⟨_, rfl⟩ (.cons ru .nil), ⟨_, hT2, rfl, _, rfl⟩⟩
    have I1 : Inv X pins σ (upd H s.heap.objs.size (.tup [.int (i : Nat), x])) { s with heap := h'', toks := tk + 1 } :=
      I.turnedNew (t' := tk + 1) (ch := [e, it]) (fun b ob hb q => (sb.2 b (fun z => hb (by simp [z]))).trans (hk b ob (fun z => hb (by simp [z])) (fun z => hb (by simp [z])) q)) hf (Nat.le_refl _) new
    refine ⟨.ref s.heap.objs.size, _, I1, rfl, ⟨_, x, rfl, I.hok.fresh (Nat.le_refl _), rfl, fun ys hy => by rw [I.tuple_inj hy hq]; exact hx⟩, ⟨⟨y, ?_⟩, hit'.1.at fun o q => (sb.2 it (Ne.symm hne)).trans q, hne⟩, fun b hb => ?_⟩
    · have e1 : ((i + 1 : Nat) : Int) = (i : Int) + 1 := by omega
      rw [e1]; exact he'
    · have hb' : b < s.heap.objs.size := by
        have e' : b = e ∨ b = it := by simpa using hb
        rcases e' with z | z
        · rw [z]; exact hel
        · rw [z]; exact hil
      rw [upd_ne (Nat.ne_of_lt hb')]
      exact (hf b hb).1
  done := by
    intro X hP hw hK hc i pins s σ H E I hf st hg
    subst hP hw hK
    obtain ⟨⟨old, he⟩, hit, hne⟩ := st
    obtain ⟨xs, hq, hx⟩ := hg
    obtain ⟨its, rv, p, hz⟩ := I.tuple hq
    obtain ⟨f0, f1, f2, f3, f4, f5⟩ := hf it (by simp)
    have hl := rv.length
    have hat : a ≠ it := by
      intro z
      obtain ⟨o, ho, hcl, _⟩ := p
      obtain ⟨o2, ho2, hc2, _⟩ := hit
      rw [z, ho2] at ho
      cases ho
      rw [hc2] at hcl
      exact absurd hcl (by decide)
    have hh : X.A.in1.handled = none := I.ok.hd hc
    have D := Draws.tuple (prog := X.prog) (w := X.w) hh it a hat its.toArray
    have hT : s.TypeIs (.ref e) "enumerate" := ⟨_, he, rfl⟩
    unfold pyNext
    refine wpAny_bind (wpAny_attempt (wpAny_callSpecial?_slot (name := Str.ofString "__next__") hT F.slot_enumerate_next
      (wpAny_call_entry F.slot_enumerate_next hT F.entry_enumerate_next ?_ (F.args_enumerate_next_1 _))))
    show wpAny _ _ (field (.ref e) 2 >>= _) _ _ _
    refine wpAny_bind (wpAny_field he rfl (x := .ref it) rfl ?_)
    refine wpAny_bind (PySem.wpAny_nextOf_tuple_end hh hit p (by simp; omega) fun h' x he' hx' => ?_)
    obtain ⟨o, ho, hc⟩ := hx'
    refine wpAny_bind (wpAny_isInstance (T := "StopIteration") (b := true) ⟨o, ho, hc⟩ isSubtype_stop ?_)
    exact wpAny_pure ⟨rfl, I.turned (t' := s.toks) (fun b o hb q => he' b o hb q) f0 f1 f3 f4 f5⟩
  self := fun A i s Q E st h => let ⟨⟨_, he⟩, _⟩ := st; wpAny_pyIter_enum he h
def iEnumT (K : Frag) (ta : TA) : TI := fun σ H R => ta σ H fun vs H1 => ∃ a xs, vs = [.ref a] ∧ ((SqL K H1 a xs ∧ R (Ite K a) H1) ∨ (SqT K H1 a xs ∧ R (IteT K a) H1))
theorem pi_enumT {X : Cx} {e : Expr} {ta : TA} {p pos tpos : Pos} {elts : List Expr} {kk : Nat} (hg : Gl X "enumerate") (hm : X.mg "enumerate" = none) (ha : PA X [e] ta) (hs : starEach [e] X.env = [(false, eval e X.env)]) :
    PI X (.Tuple elts kk tpos) (.Call (.Name "enumerate" p) [e] [] pos) (iEnumT X.K ta) := by
  refine ⟨fun pins s σ H R I h => ?_⟩
  refine Call_ (ld_blt I hg hm boot_enumerate (PyProof.Rows.callWith_type1 (thn (ha.run pos pins s σ H _ I h) fun us s1 ⟨vs, H1, I1, r1, q1⟩ => ?_) hs rfl))
  obtain ⟨a, xs, ex, hq⟩ := q1
  subst ex
  cases r1 with
  | cons r rr =>
    cases rr
    cases r
    have frs : ∀ b ∈ [s1.heap.objs.size + 1, s1.heap.objs.size], FpOk X pins H1 b := fun b hb => by
      have e' : b = s1.heap.objs.size + 1 ∨ b = s1.heap.objs.size := by simpa using hb
      have hle : s1.heap.objs.size ≤ b := by
        rcases e' with z | z
        · rw [z]; exact Nat.le_add_right _ _
        · rw [z]; exact Nat.le_refl _
      exact I1.fpOk hle (I1.hok.fresh hle)
    rcases hq with ⟨hq, q⟩ | ⟨hq, q⟩
    · obtain ⟨its, rv, p', hz⟩ := I1.list hq
      refine call_enumerate_list p'.isList fun h' he hit hsz hk => wpAny_pyIter_enum he ?_
      have I2 : Inv X pins σ H1 { s1 with heap := h' } := I1.kept (t' := s1.toks) hk
      exact ⟨s1.heap.objs.size + 1, [s1.heap.objs.size + 1, s1.heap.objs.size], _, _, H1, rfl, I2, turn_enum a (s1.heap.objs.size + 1) s1.heap.objs.size, ⟨⟨.none, he⟩, hit, Nat.succ_ne_self _⟩, frs, q⟩
    · obtain ⟨its, rv, p', hz⟩ := I1.tuple hq
      refine call_enumT (show s1.heap.IsTuple a its.toArray from p') fun h' he hit hsz hk => wpAny_pyIter_enum he ?_
      have I2 : Inv X pins σ H1 { s1 with heap := h' } := I1.kept (t' := s1.toks) hk
      exact ⟨s1.heap.objs.size + 1, [s1.heap.objs.size + 1, s1.heap.objs.size], _, _, H1, rfl, I2, turn_enumT a (s1.heap.objs.size + 1) s1.heap.objs.size, ⟨⟨.none, he⟩, hit, Nat.succ_ne_self _⟩, frs, q⟩
end In
/-! part InH -/
set_option Elab.async false
set_option linter.all false
set_option maxRecDepth 100000
set_option maxHeartbeats 1000000
/-! isinstance, targets, iterables. -/
namespace In
open PySem PySem.Spec PyProof.Rows L2
/-! ### isinstance(x, T) -/
def tyName : PyData → String
  | .none => "NoneType"
  | .bool _ => "bool"
  | .int _ => "int"
  | .str _ => "str"
  | .list _ => "list"
  | .tuple _ => "tuple"
  | .dict _ => "dict"
theorem kit_of_isType {d : PyData} {t : String} {b : Bool} (h : isType d t = some b) : kitB (tyName d) t = some b := by
  cases d <;> (unfold isType at h; split at h <;> first | (cases h; simp only [tyName]; decide +kernel) | cases h)
theorem tyX_of {K : Frag} {H : Hp} {d : PyData} {x : V} (h : RT K H d x) : TyX K H x (.type (tyName d)) := by
  cases d with
  | none => rw [h.non]; exact .base .non
  | bool b => rw [h.bl]; exact .base (.bl _)
  | int b => rw [h.int]; exact .base (.int _)
  | str b => rw [h.str]; exact .base (.str _)
  | list xs =>
    obtain ⟨a, vs, rfl, h | ⟨o, h⟩, r⟩ := h
    · exact .base (.lst h)
    · exact .base (.frz h)
  | tuple xs =>
    obtain ⟨a, vs, rfl, (h | ⟨o, h⟩) | ⟨o, its, n, h, hc, _⟩, r⟩ := h.tup
    · exact .base (.tup h)
    · exact .fTuple h
    · exact .kTuple h hc
  | dict xs =>
    obtain ⟨a, vs, rfl, h | ⟨o, h⟩, r⟩ := h
    · exact .base (.dK h)
    · exact .fDict h
section
variable {G : Glo} {c : Cc} {X : Cx} {g : Gx} {k : Nat}
theorem s_isi {t : String} {y : Str} {e : Expr} {a : E} {p p2 pos : Pos} (hv : bootBuiltins y = some (.type t)) (hf : ("isinstance" : Str) ∈ G.free) (hg : glb c.sc "isinstance" = true) (hf2 : y ∈ G.free) (hg2 : glb c.sc y = true) (hn : y ≠ "__name__")
    (ha : SE G c e a) (pl : plainE e = true) : SE G c (.Call (.Name "isinstance" p) [e, .Name y p2] [] pos) (.isi a t) := fun k X g C => by
  have pt : PE X (.Name y p2) (tC (.ty t)) := pe_bltn (C.gl hg2) (C.wd.free _ hf2) hv rfl hn (glb_is hg2).2
  have pa : PA X [e, .Name y p2] (tCons (dE g c.N.length a) (tCons (tC (.ty t)) tNil)) := pa_cons (ha k X g C) (pa_cons pt pa_nil) (plainE_is pl _ _)
  refine (pe_callB call_isi (C.gl hg) (C.wd.free _ hf) rfl pa (he := plainE_is pl _ _)).imp fun σ H Q ⟨ρ, m, S, h, d⟩ => ?_
  refine dE_of h (Den.bind (show Den g _ ((ev g.F a ρ S).bind fun v S1 => R.opt ((view S1 v).bind fun x => (isType x t).map fun b => Vl.d (.bool b)) S1) m S H _ from d)) fun v m1 S1 H1 p1 s1 d1 x rx => ?_
  cases ee : ((view S1 v).bind fun x => (isType x t).map fun b => Vl.d (.bool b)) with
  | none => rw [ee] at d1; exact d1.elim
  | some u =>
    rw [ee] at d1
    obtain ⟨dx, e1, e3⟩ := opt1 ee
    obtain ⟨b, e4, rfl⟩ := Option.map_eq_some_iff.mp e3
    rw [C.K] at rx
    have rt := rx.rt (by rw [← C.K]; exact s1) e1
    exact ⟨x, .ty t, .type (tyName dx), .type t, b, rfl, .ty t, tyX_of rt, kit_ty (kit_of_isType e4), d1 m1 H1 .refl s1 _ (.bl b)⟩
/-! ### targets -/
mutual
def slT : T → List Nat
  | .nm i => [i]
  | .tp ts => slTs ts
def slTs : Ts → List Nat
  | .nil => []
  | .cons t r => slT t ++ slTs r
end
theorem wipe_set {σ : L2.St} {i : Nat} {o : Option V} : ∀ {vs : List Nat}, i ∈ vs → L2.wipe (σ.set i o) vs = L2.wipe σ vs
  | v :: vs, h => by
    unfold L2.wipe
    by_cases e : i ∈ vs
    · rw [wipe_set e]
    · have ev : i = v := (List.mem_cons.mp h).resolve_right e
      subst ev
      have key : ∀ vs : List Nat, i ∉ vs → L2.wipe (σ.set i o) vs = (L2.wipe σ vs).set i o := fun vs => by
        induction vs with
        | nil => intro _; rfl
        | cons w ws ih =>
          intro hn
          unfold L2.wipe
          rw [ih fun q => hn (List.mem_cons_of_mem _ q)]
          have hne : i ≠ w := fun q => hn (by rw [q]; exact List.mem_cons_self)
          rw [List.set_comm _ _ hne]
      rw [key vs e, List.set_set]
def gG (K : Frag) (t : T) : TG := fun v σ H Q => ∃ d ρ ρ' m S, RP K H d v ∧ Renv K m S H ρ σ ∧ put t d ρ = some ρ' ∧
  ∀ σ', σ'.length = σ.length → Renv K m S H ρ' σ' → (∀ vs, (∀ i ∈ slT t, i ∈ vs) → L2.wipe σ' vs = L2.wipe σ vs) → Q σ' H
def gGs (K : Frag) (ts : Ts) : TGs := fun vs σ H Q => ∃ ds ρ ρ' m S, RPs K H ds vs ∧ Renv K m S H ρ σ ∧ puts ts ds ρ = some ρ' ∧
  ∀ σ', σ'.length = σ.length → Renv K m S H ρ' σ' → (∀ vs, (∀ i ∈ slTs ts, i ∈ vs) → L2.wipe σ' vs = L2.wipe σ vs) → Q σ' H
theorem _root_.L2.PG.imp {X : Cx} {e : Expr} {t t' : TG} (h : PG X e t) (q : ∀ v σ H Q, t' v σ H Q → t v σ H Q) : PG X e t' := ⟨fun pins s σ H x v Q I r z => h.run pins s σ H x v Q I r (q _ _ _ _ z)⟩
def SG (G : Glo) (c : Cc) (e : Expr) (t : T) : Prop := ∀ k X g, Ctx G c X g k → PG X e (gG X.K t)
def SGs (G : Glo) (c : Cc) (es : List Expr) (ts : Ts) : Prop := nost es = true ∧ es.length = ts.len ∧ ∀ k X g, Ctx G c X g k → PGs X es (gGs X.K ts)
/-- a name that may be stored to -/
def sto (c : Cc) (x : Str) : Bool := match c.sc.names.lookup x with
  | some .local => true
  | some .cell => c.st x
  | _ => false
theorem sto_loc {c : Cc} {x : Str} (h : sto c x = true) : Loc c.sc x := by
  unfold sto at h
  split at h
  · exact .inl (by assumption)
  · exact .inr (by assumption)
  · cases h
theorem Ctx.sto (C : Ctx G c X g k) {x : Str} (h : In.sto c x = true) : X.fn x = true ∨ X.env.scope.names.lookup x = some .local := by
  unfold In.sto at h
  rw [C.sc]
  split at h
  · exact .inr (by assumption)
  · exact .inl (C.st x h)
  · cases h
theorem sg_name {i : Nat} {x : Str} {pos : Pos} (hi : c.N[i]? = some x) (hx : sto c x = true) : SG G c (.Name x pos) (.nm i) := fun k X g C =>
  (pg_name (by rw [C.N]; exact C.nd) (by rw [C.N]; exact hi) (by rw [C.sc]; exact sto_loc hx) (C.sto hx)).imp fun v σ H Q ⟨d, ρ, ρ', m, S, r, re, e, q⟩ => by
    cases e
    exact q _ (by simp) (re.set (show RV _ m S H (.d d) v from r)) fun vs hv => wipe_set (hv i (by simp [slT]))
theorem assign_starless : ∀ {es : List Expr} (env : PySem.Env), nost es = true → (assignEach es env).length = es.length ∧ (assignEach es env).findIdx? (·.1) = none
  | [], _, _ => ⟨rfl, rfl⟩
  | e :: es, env, h => by
    simp only [nost, Bool.and_eq_true] at h
    obtain ⟨h1, h2⟩ := assign_starless env h.2
    have ec : assignEach (e :: es) env = (false, assign e env) :: assignEach es env := by
      cases e with
      | Starred _ _ => exact absurd h.1 (by simp [plainE])
      | _ => rfl
    rw [ec]
    exact ⟨by simp [h1], by simp [List.findIdx?_cons, h2]⟩
theorem puts_len : ∀ {ts : Ts} {ds : List PyData} {ρ ρ' : Env}, puts ts ds ρ = some ρ' → ds.length = ts.len
  | .nil, [], _, _, _ => rfl
  | .nil, _ :: _, _, _, h => by cases h
  | .cons _ _, [], _, _, h => by cases h
  | .cons t ts, d :: ds, ρ, ρ', h => by
    obtain ⟨ρ1, _, h2⟩ := Option.bind_eq_some_iff.mp (show (put t d ρ).bind (puts ts ds) = some ρ' from h)
    show ds.length + 1 = ts.len + 1
    rw [puts_len h2]
theorem sgs_nil : SGs G c [] .nil := ⟨rfl, rfl, fun k X g C => ⟨fun pins s σ H xs us Q I r z => pgs_nil.run pins s σ H xs us Q I r (by
  obtain ⟨ds, ρ, ρ', m, S, r, re, e, q⟩ := z
  cases r with
  | nil => cases e; exact ⟨rfl, q σ rfl re fun _ _ => rfl⟩
  | cons _ _ => cases e)⟩⟩
theorem sgs_cons {e : Expr} {es : List Expr} {t : T} {ts : Ts} (h1 : SG G c e t) (p : plainE e = true) (h2 : SGs G c es ts) : SGs G c (e :: es) (.cons t ts) := by
  refine ⟨by simp only [nost, p, h2.1]; rfl, by simp [Ts.len, h2.2.1], fun k X g C => ⟨fun pins s σ H xs us Q I r z => (pgs_cons (h1 k X g C) (h2.2.2 k X g C) ?_).run pins s σ H xs us Q I r ?_⟩⟩
  · cases e with
    | Starred _ _ => cases p
    | _ => rfl
  · obtain ⟨ds, ρ, ρ', m, S, r, re, e, q⟩ := z
    cases r with
    | nil => cases e
    | cons hd tl =>
      rename_i d v ds vs
      obtain ⟨ρ1, e1, e2⟩ := Option.bind_eq_some_iff.mp (show (put t d ρ).bind (puts ts ds) = some ρ' from e)
      refine ⟨v, vs, rfl, d, ρ, ρ1, m, S, hd, re, e1, fun σ1 l1 r1 w1 => ⟨ds, ρ1, ρ', m, S, tl, r1, e2, fun σ2 l2 r2 w2 => q σ2 (l2.trans l1) r2 fun ws hw => ?_⟩⟩
      rw [w2 ws fun i hi => hw i (List.mem_append_right _ hi), w1 ws fun i hi => hw i (List.mem_append_left _ hi)]
theorem sg_tup {es : List Expr} {ts : Ts} {j : Nat} {pos : Pos} (h : SGs G c es ts) : SG G c (.Tuple es j pos) (.tp ts) := fun k X g C =>
  (pg_tup C.calm (h.2.2 k X g C) (assign_starless X.env h.1).1 (assign_starless X.env h.1).2).imp fun v σ H Q ⟨d, ρ, ρ', m, S, r, re, e, q⟩ => by
    cases r with
    | @tup a vs ds hq rs =>
      have e' : (if ds.length = ts.len then puts ts ds ρ else none) = some ρ' := e
      split at e'
      · rename_i hl
        exact ⟨a, vs, rfl, hq, by rw [← rs.len, hl, h.2.1], ds, ρ, ρ', m, S, rs, re, e', q⟩
      · cases e'
    | _ => cases e
/-! ### iterables -/
def Wk (K : Frag) (p : List PyData × List Nat) (m : Mp) (S : Sto) (H : Hp) (J : L2.It) : Prop := ∃ (Gd : Hp → Prop) (Y : Nat → Hp → V → Hp → Prop), Walk J p.1.length Gd Y ∧
  (∀ m' S' H', Post m S H m' S' H' → Sok K m' S' H' → chk p.2 S S' = true → Gd H') ∧
  ∀ i x m' S' H' H'', i < p.1.length → Post m S H m' S' H' → Sok K m' S' H' → chk p.2 S S' = true → Y i H' x H'' → ∃ d, p.1[i]? = some d ∧ Ext H' H'' ∧ RP K H'' d x
def dI (g : Gx) (n : Nat) (it : It) : TI := fun σ H R => ∃ ρ m S, At g n σ H ρ m S ∧ Den g n (evI g.F it ρ S) m S H fun p m' S' H' => ∀ J, Wk g.K p m' S' H' J → R J H'
def SI (G : Glo) (c : Cc) (tg e : Expr) (it : It) : Prop := noSet e = true ∧ ∀ k X g, Ctx G c X g k → PI X tg e (dI g c.N.length it)
theorem noSet_it {e : Expr} (h : noSet e = true) (env : PySem.Env) (x : Value) : foldedSetIterable e env x = pure x := by
  cases e with
  | Set _ _ _ => cases h
  | _ => rfl
theorem _root_.L2.PI.imp {X : Cx} {tg e : Expr} {t t' : TI} (h : PI X tg e t) (q : ∀ σ H Q, t' σ H Q → t σ H Q) : PI X tg e t' := ⟨fun pins s σ H R I z => h.run pins s σ H R I (q σ H R z)⟩
/-- a sequence that is walked: a list, or a tuple -/
def SqAt (K : Frag) (l : Bool) (a : Addr) (xs : List PyData) (gs : List Nat) (m : Mp) (S : Sto) (H : Hp) : Prop :=
  ∀ m' S' H', Post m S H m' S' H' → Sok K m' S' H' → chk gs S S' = true → ∃ vs, (if l = true then SqL K H' a vs else SqT K H' a vs) ∧ RPs K H' xs vs
theorem sq_of {K : Frag} {m : Mp} {S : Sto} {H : Hp} {v : Vl} {x : V} {d : PyData} {xs : List PyData} (h : RV K m S H v x) (e : view S v = some d) (e2 : seq? d = some xs) : ∃ l a, x = .ref a ∧ SqAt K l a xs (guard v) m S H := by
  cases v with
  | d y =>
    cases e
    cases h with
    | lst h r => cases e2; exact ⟨true, _, rfl, fun m' S' H' p s _ => ⟨_, (by rw [if_pos rfl]; exact (h.keep p.k).sql), RPs.keep p.k _ _ r⟩⟩
    | tup h r => cases e2; exact ⟨false, _, rfl, fun m' S' H' p s _ => ⟨_, (by rw [if_neg Bool.false_ne_true]; exact sqT_keep p.k h), RPs.keep p.k _ _ r⟩⟩
    | _ => cases e2
  | loc n =>
    obtain ⟨rfl, hl⟩ := h
    have e' : (S[n]?).map (fun c => c.obj.data) = some d := e
    rw [List.getElem?_eq_getElem hl] at e'
    simp only [Option.map_some, Option.some.injEq] at e'
    subst e'
    cases ho : S[n].obj with
    | dct kvs => rw [ho] at e2; cases e2
    | lst ys =>
      rw [ho] at e2
      cases e2
      refine ⟨true, _, rfl, fun m' S' H' p s ck => ?_⟩
      have ck' : S'[n]? = S[n]? := by
        have := List.all_eq_true.mp ck n (by simp [guard])
        exact of_decide_eq_true this
      rw [List.getElem?_eq_getElem hl] at ck'
      obtain ⟨u, h1, h2⟩ := s.at_ n _ ck'
      rw [ho] at h1
      obtain ⟨vs, rfl, r⟩ := h1
      refine ⟨vs, ?_, r⟩
      rw [if_pos rfl, ← p.map n hl]
      by_cases q : S[n].live = true
      · rw [if_pos q] at h2; exact .inl (.inl h2)
      · rw [if_neg q] at h2; exact .inl (.inr h2)
theorem SqAt.now {K : Frag} {l : Bool} {a : Addr} {xs : List PyData} {gs : List Nat} {m : Mp} {S : Sto} {H : Hp} (h : SqAt K l a xs gs m S H) (s : Sok K m S H) : ∃ vs, (if l = true then SqL K H a vs else SqT K H a vs) ∧ RPs K H xs vs := h m S H .refl s (chk_same _ _)
theorem wk_list {K : Frag} {a : Addr} {xs : List PyData} {gs : List Nat} {m : Mp} {S : Sto} {H : Hp} (h : SqAt K true a xs gs m S H) : Wk K (xs, gs) m S H (Itl K a) := by
  refine ⟨fun H' => ∃ vs, SqL K H' a vs ∧ RPs K H' xs vs, fun i H' x H'' => H'' = H' ∧ ∃ d, xs[i]? = some d ∧ RP K H' d x, ⟨?_, ?_, ?_⟩, fun m' S' H' p s c => ?_, fun i x m' S' H' H'' hi p s c y => ?_⟩
  · rintro i H' hi ⟨vs, h1, h2⟩
    have hi' : i < vs.length := by rw [← h2.len]; exact hi
    exact ⟨vs, vs[i], h1, List.getElem?_eq_getElem hi'⟩
  · rintro H' ⟨vs, h1, h2⟩
    exact ⟨vs, h1, by rw [← h2.len]; exact Nat.le_refl _⟩
  · rintro i H' x H'' hi ⟨vs, h1, h2⟩ ⟨e, y⟩
    obtain ⟨d, e1, r⟩ := h2.at' (y vs h1)
    exact ⟨e, d, e1, r⟩
  · obtain ⟨vs, h1, h2⟩ := h m' S' H' p s c
    rw [if_pos rfl] at h1
    exact ⟨vs, h1, h2⟩
  · obtain ⟨rfl, d, e, r⟩ := y
    exact ⟨d, e, .refl, r⟩
theorem wk_tup {K : Frag} {a : Addr} {xs : List PyData} {gs : List Nat} {m : Mp} {S : Sto} {H : Hp} (h : SqAt K false a xs gs m S H) : Wk K (xs, gs) m S H (Itt K a) := by
  refine ⟨fun H' => ∃ vs, SqT K H' a vs ∧ RPs K H' xs vs, fun i H' x H'' => H'' = H' ∧ ∃ d, xs[i]? = some d ∧ RP K H' d x, ⟨?_, ?_, ?_⟩, fun m' S' H' p s c => ?_, fun i x m' S' H' H'' hi p s c y => ?_⟩
  · rintro i H' hi ⟨vs, h1, h2⟩
    have hi' : i < vs.length := by rw [← h2.len]; exact hi
    exact ⟨vs, vs[i], h1, List.getElem?_eq_getElem hi'⟩
  · rintro H' ⟨vs, h1, h2⟩
    exact ⟨vs, h1, by rw [← h2.len]; exact Nat.le_refl _⟩
  · rintro i H' x H'' hi ⟨vs, h1, h2⟩ ⟨e, y⟩
    obtain ⟨d, e1, r⟩ := h2.at' (y vs h1)
    exact ⟨e, d, e1, r⟩
  · obtain ⟨vs, h1, h2⟩ := h m' S' H' p s c
    rw [if_neg Bool.false_ne_true] at h1
    exact ⟨vs, h1, h2⟩
  · obtain ⟨rfl, d, e, r⟩ := y
    exact ⟨d, e, .refl, r⟩
theorem enumL_len : ∀ (n : Nat) (xs : List PyData), (enumL n xs).length = xs.length
  | _, [] => rfl
  | n, x :: xs => congrArg (· + 1) (enumL_len (n + 1) xs)
theorem enumL_at : ∀ (n : Nat) (xs : List PyData) (i : Nat) (d : PyData), xs[i]? = some d → (enumL n xs)[i]? = some (.tuple [.int ((n + i : Nat) : Int), d])
  | _, [], _, _, h => by simp at h
  | n, x :: xs, 0, d, h => by simp at h; subst h; rfl
  | n, x :: xs, i + 1, d, h => by
    have := enumL_at (n + 1) xs i d (by simpa using h)
    show (enumL (n + 1) xs)[i]? = _
    rw [this]
    congr 5
    omega
theorem rp_pair {K : Frag} {H : Hp} {T : Addr} {x y : V} {d e : PyData} (hT : H T = none) (h1 : RP K H d x) (h2 : RP K H e y) : Ext H (upd H T (.tup [x, y])) ∧ RP K (upd H T (.tup [x, y])) (.tuple [d, e]) (.ref T) :=
  ⟨.new hT, .tup (SqT.of upd_same) (.cons (RP.keep (keeps_new hT) _ _ h1) (.cons (RP.keep (keeps_new hT) _ _ h2) .nil))⟩
theorem wk_enum {K : Frag} {a : Addr} {xs : List PyData} {gs : List Nat} {m : Mp} {S : Sto} {H : Hp} (h : SqAt K true a xs gs m S H) : Wk K (enumL 0 xs, gs) m S H (Ite K a) := by
  refine ⟨fun H' => ∃ vs, SqL K H' a vs ∧ RPs K H' xs vs, fun i H' x H'' => ∃ T d y, x = .ref T ∧ H' T = none ∧ H'' = upd H' T (.tup [.int (i : Nat), y]) ∧ xs[i]? = some d ∧ RP K H' d y, ⟨?_, ?_, ?_⟩, fun m' S' H' p s c => ?_, fun i x m' S' H' H'' hi p s c y => ?_⟩
  · rintro i H' hi ⟨vs, h1, h2⟩
    rw [enumL_len] at hi
    have hi' : i < vs.length := by rw [← h2.len]; exact hi
    exact ⟨vs, vs[i], h1, List.getElem?_eq_getElem hi'⟩
  · rintro H' ⟨vs, h1, h2⟩
    exact ⟨vs, h1, by rw [enumL_len, ← h2.len]; exact Nat.le_refl _⟩
  · rintro i H' x H'' hi ⟨vs, h1, h2⟩ ⟨T, y, e1, e2, e3, e4⟩
    obtain ⟨d, e5, r⟩ := h2.at' (e4 vs h1)
    exact ⟨T, d, y, e1, e2, e3, e5, r⟩
  · obtain ⟨vs, h1, h2⟩ := h m' S' H' p s c
    rw [if_pos rfl] at h1
    exact ⟨vs, h1, h2⟩
  · obtain ⟨T, d, y, rfl, e2, rfl, e5, r⟩ := y
    obtain ⟨q1, q2⟩ := rp_pair e2 (RP.int (K := K) (H := H') (i : Nat)) r
    refine ⟨_, enumL_at 0 xs i d e5, q1, ?_⟩
    rw [Nat.zero_add]
    exact q2
theorem wk_enumT {K : Frag} {a : Addr} {xs : List PyData} {gs : List Nat} {m : Mp} {S : Sto} {H : Hp} (h : SqAt K false a xs gs m S H) : Wk K (enumL 0 xs, gs) m S H (IteT K a) := by
  refine ⟨fun H' => ∃ vs, SqT K H' a vs ∧ RPs K H' xs vs, fun i H' x H'' => ∃ T d y, x = .ref T ∧ H' T = none ∧ H'' = upd H' T (.tup [.int (i : Nat), y]) ∧ xs[i]? = some d ∧ RP K H' d y, ⟨?_, ?_, ?_⟩, fun m' S' H' p s c => ?_, fun i x m' S' H' H'' hi p s c y => ?_⟩
  · rintro i H' hi ⟨vs, h1, h2⟩
    rw [enumL_len] at hi
    have hi' : i < vs.length := by rw [← h2.len]; exact hi
    exact ⟨vs, vs[i], h1, List.getElem?_eq_getElem hi'⟩
  · rintro H' ⟨vs, h1, h2⟩
    exact ⟨vs, h1, by rw [enumL_len, ← h2.len]; exact Nat.le_refl _⟩
  · rintro i H' x H'' hi ⟨vs, h1, h2⟩ ⟨T, y, e1, e2, e3, e4⟩
    obtain ⟨d, e5, r⟩ := h2.at' (e4 vs h1)
    exact ⟨T, d, y, e1, e2, e3, e5, r⟩
  · obtain ⟨vs, h1, h2⟩ := h m' S' H' p s c
    rw [if_neg Bool.false_ne_true] at h1
    exact ⟨vs, h1, h2⟩
  · obtain ⟨T, d, y, rfl, e2, rfl, e5, r⟩ := y
    obtain ⟨q1, q2⟩ := rp_pair e2 (RP.int (K := K) (H := H') (i : Nat)) r
    refine ⟨_, enumL_at 0 xs i d e5, q1, ?_⟩
    rw [Nat.zero_add]
    exact q2
theorem zipL_at : ∀ (xs ys : List PyData) (i : Nat) (d e : PyData), xs[i]? = some d → ys[i]? = some e → (zipL xs ys)[i]? = some (.tuple [d, e])
  | [], _, _, _, _, h, _ => by simp at h
  | _ :: _, [], _, _, _, _, h => by simp at h
  | x :: xs, y :: ys, 0, d, e, h, h' => by simp at h h'; subst h h'; rfl
  | x :: xs, y :: ys, i + 1, d, e, h, h' => zipL_at xs ys i d e (by simpa using h) (by simpa using h')
theorem zipL_len : ∀ (xs ys : List PyData), (zipL xs ys).length = min xs.length ys.length
  | [], ys => by simp [zipL]
  | _ :: _, [] => by simp [zipL]
  | x :: xs, y :: ys => by
    show (zipL xs ys).length + 1 = min (xs.length + 1) (ys.length + 1)
    rw [zipL_len]
    omega
theorem chk_app {gs gs' : List Nat} {S S' : Sto} (h : chk (gs ++ gs') S S' = true) : chk gs S S' = true ∧ chk gs' S S' = true := by
  unfold chk at h
  rw [List.all_append, Bool.and_eq_true] at h
  exact h
theorem wk_zip {K : Frag} {a b : Addr} {xs ys : List PyData} {gs gs' : List Nat} {m : Mp} {S : Sto} {H : Hp} (h : SqAt K true a xs gs m S H) (h' : SqAt K true b ys gs' m S H) : Wk K (zipL xs ys, gs ++ gs') m S H (Itz K a b) := by
  refine ⟨fun H' => (∃ vs, SqL K H' a vs ∧ RPs K H' xs vs) ∧ ∃ vs, SqL K H' b vs ∧ RPs K H' ys vs, fun i H' x H'' => ∃ T d e y z, x = .ref T ∧ H' T = none ∧ H'' = upd H' T (.tup [y, z]) ∧ xs[i]? = some d ∧ RP K H' d y ∧ ys[i]? = some e ∧ RP K H' e z, ⟨?_, ?_, ?_⟩, fun m' S' H' p s c => ?_, fun i x m' S' H' H'' hi p s c y => ?_⟩
  · rintro i H' hi ⟨⟨vs, h1, h2⟩, ws, h3, h4⟩
    rw [zipL_len] at hi
    have hi' : i < vs.length := by rw [← h2.len]; omega
    have hi'' : i < ws.length := by rw [← h4.len]; omega
    exact ⟨vs, ws, vs[i], ws[i], h1, h3, List.getElem?_eq_getElem hi', List.getElem?_eq_getElem hi''⟩
  · rintro H' ⟨⟨vs, h1, h2⟩, ws, h3, h4⟩
    exact ⟨vs, ws, h1, h3, by rw [zipL_len, ← h2.len, ← h4.len]; omega⟩
  · rintro i H' x H'' hi ⟨⟨vs, h1, h2⟩, ws, h3, h4⟩ ⟨T, y, z, e1, e2, e3, e4, e5⟩
    obtain ⟨d, e6, r⟩ := h2.at' (e4 vs h1)
    obtain ⟨e, e7, r'⟩ := h4.at' (e5 ws h3)
    exact ⟨T, d, e, y, z, e1, e2, e3, e6, r, e7, r'⟩
  · obtain ⟨c1, c2⟩ := chk_app c
    obtain ⟨vs, h1, h2⟩ := h m' S' H' p s c1
    obtain ⟨ws, h3, h4⟩ := h' m' S' H' p s c2
    rw [if_pos rfl] at h1 h3
    exact ⟨⟨vs, h1, h2⟩, ws, h3, h4⟩
  · obtain ⟨T, d, e, y, z, rfl, e2, rfl, e5, r, e6, r'⟩ := y
    obtain ⟨q1, q2⟩ := rp_pair e2 r r'
    exact ⟨_, zipL_at xs ys i d e e5 e6, q1, q2⟩
theorem wk_zipT {K : Frag} {a b : Addr} {xs ys : List PyData} {gs gs' : List Nat} {m : Mp} {S : Sto} {H : Hp} (h : SqAt K false a xs gs m S H) (h' : SqAt K false b ys gs' m S H) : Wk K (zipL xs ys, gs ++ gs') m S H (RZ.ItzT K a b) := by
  refine ⟨fun H' => (∃ vs, SqT K H' a vs ∧ RPs K H' xs vs) ∧ ∃ vs, SqT K H' b vs ∧ RPs K H' ys vs, fun i H' x H'' => ∃ T d e y z, x = .ref T ∧ H' T = none ∧ H'' = upd H' T (.tup [y, z]) ∧ xs[i]? = some d ∧ RP K H' d y ∧ ys[i]? = some e ∧ RP K H' e z, ⟨?_, ?_, ?_⟩, fun m' S' H' p s c => ?_, fun i x m' S' H' H'' hi p s c y => ?_⟩
  · rintro i H' hi ⟨⟨vs, h1, h2⟩, ws, h3, h4⟩
    rw [zipL_len] at hi
    have hi' : i < vs.length := by rw [← h2.len]; omega
    have hi'' : i < ws.length := by rw [← h4.len]; omega
    exact ⟨vs, ws, vs[i], ws[i], h1, h3, List.getElem?_eq_getElem hi', List.getElem?_eq_getElem hi''⟩
  · rintro H' ⟨⟨vs, h1, h2⟩, ws, h3, h4⟩
    exact ⟨vs, ws, h1, h3, by rw [zipL_len, ← h2.len, ← h4.len]; omega⟩
  · rintro i H' x H'' hi ⟨⟨vs, h1, h2⟩, ws, h3, h4⟩ ⟨T, y, z, e1, e2, e3, e4, e5⟩
    obtain ⟨d, e6, r⟩ := h2.at' (e4 vs h1)
    obtain ⟨e, e7, r'⟩ := h4.at' (e5 ws h3)
    exact ⟨T, d, e, y, z, e1, e2, e3, e6, r, e7, r'⟩
  · obtain ⟨c1, c2⟩ := chk_app c
    obtain ⟨vs, h1, h2⟩ := h m' S' H' p s c1
    obtain ⟨ws, h3, h4⟩ := h' m' S' H' p s c2
    rw [if_neg Bool.false_ne_true] at h1 h3
    exact ⟨⟨vs, h1, h2⟩, ws, h3, h4⟩
  · obtain ⟨T, d, e, y, z, rfl, e2, rfl, e5, r, e6, r'⟩ := y
    obtain ⟨q1, q2⟩ := rp_pair e2 r r'
    exact ⟨_, zipL_at xs ys i d e e5 e6, q1, q2⟩
theorem upFrom_len : ∀ (n : Nat) (i : Int), (upFrom i n).length = n
  | 0, _ => rfl
  | n + 1, i => congrArg (· + 1) (upFrom_len n (i + 1))
theorem upFrom_at : ∀ (n : Nat) (i : Int) (j : Nat), j < n → (upFrom i n)[j]? = some (i + j)
  | 0, _, _, h => absurd h (Nat.not_lt_zero _)
  | n + 1, i, 0, _ => by simp [upFrom]
  | n + 1, i, j + 1, h => by
    show (upFrom (i + 1) n)[j]? = _
    rw [upFrom_at n (i + 1) j (by omega)]
    congr 1
    omega
theorem wk_rng {K : Frag} {lo : Int} {n : Nat} {m : Mp} {S : Sto} {H : Hp} : Wk K ((upFrom lo n).map .int, []) m S H (Itr lo n) := by
  refine ⟨fun _ => True, YFn fun i => .int (lo + i), ?_, fun _ _ _ _ _ _ => trivial, fun i x m' S' H' H'' hi p s c y => ?_⟩
  · show Walk _ ((upFrom lo n).map PyData.int).length _ _
    rw [List.length_map, upFrom_len]
    exact walk_range
  · obtain ⟨rfl, rfl⟩ := y
    have hi' : i < ((upFrom lo n).map PyData.int).length := hi
    rw [List.length_map, upFrom_len] at hi'
    exact ⟨.int (lo + i), by rw [List.getElem?_map, upFrom_at n lo i hi']; rfl, .refl, .int _⟩
theorem wk_str {K : Frag} {z : Str} {gs : List Nat} {m : Mp} {S : Sto} {H : Hp} : Wk K (z.cps.toList.map fun c => .str ⟨#[c]⟩, gs) m S H (Its z) := by
  refine ⟨fun _ => True, fun i H v H' => H' = H ∧ ∃ c, z.cps[i]? = some c ∧ v = .str ⟨#[c]⟩, ?_, fun _ _ _ _ _ _ => trivial, fun i x m' S' H' H'' hi p s c y => ?_⟩
  · show Walk _ (z.cps.toList.map fun c => PyData.str ⟨#[c]⟩).length _ _
    rw [List.length_map, Array.length_toList]
    exact walk_str
  · obtain ⟨rfl, c, hc, rfl⟩ := y
    refine ⟨.str ⟨#[c]⟩, ?_, .refl, .str _⟩
    show (z.cps.toList.map fun c => PyData.str ⟨#[c]⟩)[i]? = _
    rw [List.getElem?_map, Array.getElem?_toList, hc]
    rfl
theorem pi_any {tg l : Expr} {tl : TE} (hl : PE X l tl) : PI X tg l (fun σ H R => tl σ H fun x H1 => (∃ a, x = .ref a ∧ (((∃ xs, SqL X.K H1 a xs) ∧ R (Itl X.K a) H1) ∨ ((∃ xs, SqT X.K H1 a xs) ∧ R (Itt X.K a) H1))) ∨ ∃ z, x = .str z ∧ R (Its z) H1) := by
  refine ⟨fun pins s σ H R I h => ?_⟩
  refine thn (hl.run pins s σ H _ I h) fun v s1 ⟨x, H1, I1, r1, q1⟩ => ?_
  rcases q1 with ⟨a, e, q1⟩ | ⟨z, e, q⟩
  · subst e
    cases r1
    have frs : ∀ b ∈ [s1.heap.objs.size], FpOk X pins H1 b := fun b hb => by
      have e : b = s1.heap.objs.size := by simpa using hb
      subst e
      exact I1.fpOk (Nat.le_refl _) (I1.hok.fresh (Nat.le_refl _))
    rcases q1 with ⟨⟨xs, hq⟩, q⟩ | ⟨⟨xs, hq⟩, q⟩
    · obtain ⟨its, rv, p, hz⟩ := I1.list hq
      exact wpAny_pyIter_list p.isList ⟨_, _, _, _, H1, rfl, I1.kept (t' := s1.toks) fun b o e => Heap.get?_push_of_some _ e, turn_list a _, ⟨_, Heap.get?_push_size _ rfl, rfl, rfl⟩, frs, q⟩
    · obtain ⟨its, rv, p, hz⟩ := I1.tuple hq
      exact wpAny_pyIter_tuple (show s1.heap.IsTuple a its.toArray from p) ⟨_, _, _, _, H1, rfl, I1.kept (t' := s1.toks) fun b o e => Heap.get?_push_of_some _ e, turn_tuple a _, ⟨_, Heap.get?_push_size _ rfl, rfl, rfl⟩, frs, q⟩
  · subst e
    obtain ⟨t, rfl⟩ := r1
    cases ha : z.cps.all (· < 128)
    · exact wpAny_pyIter_wide ha (pi_one (tk := s1.toks) I1 _ (turn_str _ z t "str_iterator" (.inr rfl)) ⟨_, Heap.get?_push_size _ rfl, rfl, rfl⟩ q)
    · exact wpAny_pyIter_ascii ha (pi_one (tk := s1.toks) I1 _ (turn_str _ z t "str_ascii_iterator" (.inl rfl)) ⟨_, Heap.get?_push_size _ rfl, rfl, rfl⟩ q)
theorem itr_cases {d : PyData} {xs : List PyData} (h : itr? d = some xs) : (∃ z, d = .str z ∧ xs = z.cps.toList.map fun c => .str ⟨#[c]⟩) ∨ seq? d = some xs := by
  cases d with
  | str z => cases h; exact .inl ⟨z, rfl, rfl⟩
  | _ => exact .inr h
theorem si_e {tg e : Expr} {a : E} (ha : SE G c e a) (p : noSet e = true) : SI G c tg e (.e a) := by
  refine ⟨p, fun k X g C => (pi_any (ha k X g C)).imp fun σ H Rk ⟨ρ, m, S, h, d⟩ => ?_⟩
  refine dE_of h (Den.bind (show Den g _ ((ev g.F a ρ S).bind fun v S1 => R.opt (((view S1 v).bind itr?).map fun xs => (xs, guard v)) S1) m S H _ from d)) fun v m1 S1 H1 p1 s1 d1 x rx => ?_
  obtain ⟨q, e1, d2⟩ := d1.opt s1
  obtain ⟨xs, e2, rfl⟩ := Option.map_eq_some_iff.mp e1
  obtain ⟨y, e3, e4⟩ := Option.bind_eq_some_iff.mp e2
  rcases itr_cases e4 with ⟨z, rfl, rfl⟩ | e4
  · refine .inr ⟨z, (rx.rt s1 e3).str, ?_⟩
    rw [C.K] at d2
    exact d2 _ wk_str
  · obtain ⟨l, b, rfl, sq⟩ := sq_of rx e3 e4
    obtain ⟨vs, h1, h2⟩ := sq.now s1
    refine .inl ⟨b, rfl, ?_⟩
    rw [C.K] at d2 sq h1
    cases l with
    | true => exact .inl ⟨⟨vs, by simpa using h1⟩, d2 _ (wk_list sq)⟩
    | false => exact .inr ⟨⟨vs, by simpa using h1⟩, d2 _ (wk_tup sq)⟩
theorem si_enum {elts : List Expr} {kk : Nat} {tpos p pos : Pos} {e : Expr} {a : E} (hf : ("enumerate" : Str) ∈ G.free) (hg : glb c.sc "enumerate" = true) (ha : SE G c e a) (pl : plainE e = true) :
    SI G c (.Tuple elts kk tpos) (.Call (.Name "enumerate" p) [e] [] pos) (.enum a) := by
  refine ⟨rfl, fun k X g C => (pi_enumT (C.gl hg) (C.wd.free _ hf) (pa1 (ha k X g C) pl) (plainE_is pl _ _)).imp fun σ H Rk ⟨ρ, m, S, h, d⟩ => ?_⟩
  refine dE_of h (Den.bind (show Den g _ ((ev g.F a ρ S).bind fun v S1 => R.opt (((view S1 v).bind seq?).map fun xs => (enumL 0 xs, guard v)) S1) m S H _ from d)) fun v m1 S1 H1 p1 s1 d1 x rx => ?_
  obtain ⟨q, e1, d2⟩ := d1.opt s1
  obtain ⟨xs, e2, rfl⟩ := Option.map_eq_some_iff.mp e1
  obtain ⟨y, e3, e4⟩ := Option.bind_eq_some_iff.mp e2
  obtain ⟨l, b, rfl, sq⟩ := sq_of rx e3 e4
  obtain ⟨vs, h1, h2⟩ := sq.now s1
  refine ⟨b, vs, rfl, ?_⟩
  rw [C.K] at d2 sq h1
  cases l with
  | true => exact .inl ⟨by simpa using h1, d2 _ (wk_enum sq)⟩
  | false => exact .inr ⟨by simpa using h1, d2 _ (wk_enumT sq)⟩
theorem si_rng1 {tg : Expr} {p pos : Pos} {e : Expr} {a : E} (hf : ("range" : Str) ∈ G.free) (hg : glb c.sc "range" = true) (ha : SE G c e a) (pl : plainE e = true) : SI G c tg (.Call (.Name "range" p) [e] [] pos) (.rng1 a) := by
  refine ⟨rfl, fun k X g C => (pi_range1 (C.gl hg) (C.wd.free _ hf) (pa1 (ha k X g C) pl) (plainE_is pl _ _)).imp fun σ H Rk ⟨ρ, m, S, h, d⟩ => ?_⟩
  refine dE_of h (Den.bind (show Den g _ ((ev g.F a ρ S).bind fun v S1 => match v with
    | .d (.int i) => R.opt ((range2 0 i).map fun xs => (xs, [])) S1
    | _ => .no) m S H _ from d)) fun v m1 S1 H1 p1 s1 d1 x rx => ?_
  cases v with
  | loc n => exact d1.elim
  | d y =>
    cases y with
    | int i =>
      cases rx
      obtain ⟨q, e1, d2⟩ := Den.opt d1 s1
      obtain ⟨xs, e2, rfl⟩ := Option.map_eq_some_iff.mp e1
      unfold range2 at e2
      split at e2
      · rename_i hr
        cases e2
        simp only [rangeOk, Bool.and_eq_true, decide_eq_true_eq] at hr
        exact ⟨i, rfl, hr.2.1, hr.2.2, d2 _ (by have := wk_rng (K := g.K) (lo := 0) (n := i.toNat) (m := m1) (S := S1) (H := H1); rw [Int.sub_zero]; exact this)⟩
      · cases e2
    | _ => exact d1.elim
theorem si_rng2 {tg : Expr} {p pos : Pos} {e e' : Expr} {a b : E} (hf : ("range" : Str) ∈ G.free) (hg : glb c.sc "range" = true) (ha : SE G c e a) (hb : SE G c e' b) (pl : plainE e = true) (pl' : plainE e' = true) : SI G c tg (.Call (.Name "range" p) [e, e'] [] pos) (.rng2 a b) := by
  refine ⟨rfl, fun k X g C => (pi_range2 (C.gl hg) (C.wd.free _ hf) (pa2 (ha k X g C) (hb k X g C) pl pl') ((plainE_is pl _ _).trans (by rw [plainE_is pl']; rfl)) (plainE_is pl' _ _)).imp fun σ H Rk ⟨ρ, m, S, h, d⟩ => ?_⟩
  refine dE_of h (Den.bind (show Den g _ ((ev g.F a ρ S).bind fun v S1 => (ev g.F b ρ S1).bind fun w S2 => match v, w with
    | .d (.int i), .d (.int j) => R.opt ((range2 i j).map fun xs => (xs, [])) S2
    | _, _ => .no) m S H _ from d)) fun v m1 S1 H1 p1 s1 d1 x rx => ?_
  refine dE_of (h.to p1 s1) d1.bind fun w m2 S2 H2 p2 s2 d2 y ry => ?_
  split at d2
  · rename_i i j
    cases rx
    cases ry
    obtain ⟨q, e1, d3⟩ := Den.opt d2 s2
    obtain ⟨xs, e2, rfl⟩ := Option.map_eq_some_iff.mp e1
    unfold range2 at e2
    split at e2
    · rename_i hr
      cases e2
      simp only [rangeOk, Bool.and_eq_true, decide_eq_true_eq] at hr
      exact ⟨i, j, rfl, ⟨hr.1.1, hr.1.2, hr.2.1, hr.2.2⟩, d3 _ wk_rng⟩
    · cases e2
  · exact d2.elim
end
end In
/-! part InI -/
set_option Elab.async false
set_option linter.all false
set_option maxRecDepth 100000
set_option maxHeartbeats 1000000
/-! Own calls, comprehensions. -/
namespace In
open PySem PySem.Spec PyProof.Rows L2
section
variable {G : Glo} {c : Cc} {X : Cx} {g : Gx} {k : Nat}
/-! ### own calls -/
theorem run_fnG {j : Nat} {f : Addr} {fd : FuncData} {ps : List Str} {sp : Sp} {ds : List Value} {dvs : List V} {E : L2.St → XK} {pins : List (Addr × Obj)} {σ : L2.St} {H : Hp} {s : Shared} {Q : VK} {us : List Value} {vs : List V}
    (F : FnG X.prog X.w X.K X.mg X.base j f fd ps sp) (hr : RoomG j X.A) (hb : Binds X.K fd ps ds) (hd : Vals dvs ds) (hx : PassesAt (L2.CX X.prog X.w) X σ (E σ))
    (I : Inv X pins σ H s) (r : Vals vs us) (h : sp (vs ++ dvs) H Q (E σ)) : wpAny (model X.prog X.w) X.A (call (.ref f) us) (EP X pins σ Q) X.xe s := by
  have r2 : Vals (vs ++ dvs) (us ++ ds) := r.append hd
  refine wpAny_call (codeAny_mono (F.run X.A X.stack s H ⟨us, []⟩ (us ++ ds) (vs ++ dvs) Q (E σ) hr I.env0 (hb s us I.kIn (by rw [← r2.length]; exact F.len _ _ _ _ h)) r2 h) fun res s' hq => ?_)
  cases res with
  | error e => exact hx pins H s e s' I hq
  | ok fl =>
    cases fl with
    | ret u => exact I.after hq
    | _ => exact hq.elim
theorem s_call {x : Str} {D : Dfn} {p pos : Pos} {e : Expr} {es : List Expr} {as : Es} (hd : G.defs.lookup x = some D) (hg : glb c.sc x = true) (hl : decide ((e :: es).length ≤ D.ar ∧ D.ar ≤ (e :: es).length + D.dfl.length) = true) (ha : SA G c (e :: es) as) :
    SE G c (.Call (.Name x p) (e :: es) [] pos) (.call D.ix as (D.dfl.drop (D.dfl.length + (e :: es).length - D.ar))) := fun k X g C => by
  obtain ⟨h1, h2⟩ := of_decide_eq_true hl
  obtain ⟨f, fd, ps, hm, hk, hb, F⟩ := C.wd.defs x D hd
  obtain ⟨ds, dvs, hb, hv, hr⟩ := hb (D.dfl.length + (e :: es).length - D.ar) (by omega)
  have F' := F k rfl
  have hst : nost (e :: es) = true := ha.1
  simp only [nost, Bool.and_eq_true] at hst
  refine ⟨fun pins s σ H Q I ⟨ρ, m, S, h, d⟩ => ?_⟩
  refine wpAny_Call_Name_kw (ld_glob I (C.gl hg) hm ?_ (glb_is hg).2)
  have hpa : dEs g c.N.length (e :: es).length as σ H fun vs H1 => spOf X.K X.mg G.excs g.F D.ix D.ar (vs ++ dvs) H1 Q (WE g.W σ) := by
    refine ⟨ρ, m, S, h, Den.mono (Den.bind (show Den g _ ((evs g.F as ρ S).bind fun vs S1 => (g.F D.ix (vs ++ (D.dfl.drop (D.dfl.length + (e :: es).length - D.ar)).map .d) S1).bind fun x S2 => .ok (Vl.d x) S2) m S H _ from d)) fun ls m1 S1 H1 p1 s1 d1 xs hxl rs => ?_⟩
    have hr1 := hr H1
    refine ⟨?_, ls ++ (D.dfl.drop (D.dfl.length + (e :: es).length - D.ar)).map .d, m1, S1, ?_, ?_, ?_⟩
    · rw [List.length_append, hxl, ← hr1.len, List.length_drop]; omega
    · rw [← C.K] at hr1 ⊢; exact rs.app (RVs.data hr1)
    · rw [← C.K]; exact s1
    · have d2 := d1.bind
      rw [← C.K, ← C.mg, ← C.ex]
      generalize g.F D.ix (ls ++ (D.dfl.drop (D.dfl.length + (e :: es).length - D.ar)).map .d) S1 = r at d2
      cases r with
      | no => exact d2.elim
      | ok y S2 => exact fun m2 H2 p2 s2 z rz => d2 m2 H2 p2 s2 m2 H2 .refl s2 z rz
      | ex cn y S2 => exact fun m2 H2 cls dd σ' _ p2 s2 ex => d2 m2 H2 cls dd σ h.len p2 s2 ex
  exact PySem.W.callWith_K (h₀ := X.base) I.ok.mod.kin hk (thn ((ha.2 k X g C).1.run pos pins s σ H _ I hpa) fun us s1 ⟨vs, H1, I1, r, q⟩ => ⟨I1.kIn, run_fnG F' C.rm hb hv (C.tk σ) I1 r q⟩) (plainE_is hst.1 _ _) (nost_is _ _ hst.2)
/-! ### comprehensions -/
theorem wipe_set' {σ : L2.St} {i : Nat} {o o' : Option V} : ∀ vs : List Nat, (L2.wipe (σ.set i o) vs).set i o' = (L2.wipe σ vs).set i o'
  | [] => by unfold L2.wipe; rw [List.set_set]
  | v :: vs => by
    unfold L2.wipe
    by_cases e : i = v
    · subst e
      rw [List.set_set, List.set_set, wipe_set' vs]
    · rw [List.set_comm _ _ (Ne.symm e), wipe_set' vs, List.set_comm _ _ e]
theorem wipe_wipe {σ : L2.St} : ∀ vs : List Nat, L2.wipe (L2.wipe σ vs) vs = L2.wipe σ vs
  | [] => rfl
  | v :: vs => by
    show (L2.wipe ((L2.wipe σ vs).set v Option.none) vs).set v Option.none = (L2.wipe σ vs).set v Option.none
    rw [wipe_set' vs, wipe_wipe vs]
/-- the block of a comprehension -/
def Cc.blk (c : Cc) (scope : Scope) : Cc := ⟨c.N, relS scope c.sc, fun x => scope.names.lookup x == some .cell⟩
def Gx.calm (g : Gx) : Gx := ⟨g.K, g.mg, fun _ _ _ _ => False, g.F, g.ex⟩
theorem Ctx.blk (C : Ctx G c X g k) (scope : Scope) (s : Shared) (H : Hp) (Ca : Addr) (cl : List (Str × Addr)) (fp : List Addr) : Ctx G (c.blk scope) (X.blk s H scope (compEnvC scope cl Ca X.env) fp) g.calm k where
  N := C.N
  nd := C.nd
  sc := by
    show relS scope X.env.scope = relS scope c.sc
    rw [C.sc]
  K := C.K
  mg := C.mg
  ex := C.ex
  calm := C.calm
  rm := C.rm
  wd := C.wd
  st := fun x h => h
  tk := fun σ pins H' s' e s'' I q => by
    obtain ⟨_, _, _, _, _, _, _, _, _, _, _, _, z⟩ := q
    exact z.elim
theorem keeps_side {H : Hp} {D : Addr} {u : HO} (h : (∃ xs, H D = some (.lst xs)) ∨ ∃ xs, H D = some (.dK xs)) : Keeps H (upd H D u) := by
  refine ⟨fun b xs e => ?_, fun b o xs e => ?_⟩ <;>
  · by_cases hb : b = D
    · subst hb
      rcases h with ⟨ys, h⟩ | ⟨ys, h⟩ <;> (rw [h] at e; cases e)
    · rw [upd_ne hb]; exact e
theorem Sok.side {K : Frag} {m : Mp} {S : Sto} {H : Hp} {D : Addr} {u : HO} (s : Sok K m S H) (h : (∃ xs, H D = some (.lst xs)) ∨ ∃ xs, H D = some (.dK xs)) (ne : ∀ n, n < S.length → m n ≠ D) : Sok K m S (upd H D u) :=
  ⟨fun n cc e => (s.at_ n cc e).keep (keeps_side h) fun v hv => by rw [upd_ne (ne n (List.getElem?_eq_some_iff.mp e).1)]; exact hv, s.inj⟩
theorem Post.side {m m' : Mp} {S S' : Sto} {H H' : Hp} {D : Addr} {u : HO} (p : Post m S H m' S' H') (h : H D = none) : Post m S H m' S' (upd H' D u) :=
  ⟨⟨fun b xs e => by rw [upd_ne (ne_of_none e h)]; exact p.k.t b xs e, fun b o xs e => by rw [upd_ne (ne_of_none e h)]; exact p.k.f b o xs e⟩, p.len, p.map, p.new, fun b v e hb => by rw [upd_ne (ne_of_none e h)]; exact p.obj b v e hb⟩
theorem Post.apart {m m' : Mp} {S S' : Sto} {H H' : Hp} {D : Addr} {u : HO} (p : Post m S H m' S' H') (h : H D = some u) (ne : ∀ n, n < S.length → m n ≠ D) : H' D = some u ∧ ∀ n, n < S'.length → m' n ≠ D := by
  refine ⟨p.obj D u h ne, fun n hn e => ?_⟩
  by_cases hs : n < S.length
  · rw [p.map n hs] at e; exact ne n hs e
  · have := p.new n (Nat.le_of_not_lt hs) hn
    rw [e, h] at this; cases this
def STs (G : Glo) (c : Cc) (ifs : List Expr) (cs : Es) : Prop := ∀ k X g, Ctx G c X g k → PTs X ifs fun σ H Q => ∃ ρ m S, At g c.N.length σ H ρ m S ∧ Den g c.N.length (evt g.F cs ρ S) m S H fun b _ _ H' => Q b H'
theorem sts_nil : STs G c [] .nil := fun k X g C => ⟨fun pins s σ H Q I ⟨ρ, m, S, h, d⟩ => pts_nil.run pins s σ H Q I (d m H .refl h.sok)⟩
theorem sts_one {e : Expr} {a : E} (h : ST G c e a) : STs G c [e] (.cons a .nil) := fun k X g C => ⟨fun pins s σ H Q I ⟨ρ, m, S, h0, d⟩ => (pts_one (h k X g C)).run pins s σ H Q I ⟨ρ, m, S, h0, d⟩⟩
theorem lc_t {elt tg iter : Expr} {ifs : List Expr} {scope : Scope} {pos : Pos} {it : It} {t : T} {cs : Es} {a : E} {ws : List Nat} {wi : TI} (C : Ctx G c X g k) (hsl' : ∀ i ∈ slT t, i ∈ ws) (hwi : wi = dI g c.N.length it) : ∀ σ H (Q Qx : VK), (∀ z H1, (∃ a u, z = .ref a ∧ H1 a = some u ∧ Mut (some u) ∧ ∀ o, Q z (upd H1 a (.frz o u))) → Qx z H1) → dE g c.N.length (.lc ws t it cs a) σ H Q →
    tLc wi (gG X.K t) (fun σ H Q => ∃ ρ m S, At g.calm c.N.length σ H ρ m S ∧ Den g.calm c.N.length (evt g.F cs ρ S) m S H fun b _ _ H1 => Q b H1) (dP g.calm c.N.length a) ws σ H Qx := by
  intro σ H Q Qx hx ⟨ρ, m, S, h, d⟩
  subst hwi
  simp only [ev] at d
  refine ⟨ρ, m, S, h, d.bind.mono fun p m1 S1 H1 p1 s1 d1 J wk D hD => ?_⟩
  obtain ⟨xs, gs⟩ := p
  have a1 := h.to p1 s1
  clear d h p1
  have d2 := (d1.bind.calm g.calm rfl c.N.length)
  clear d1
  obtain ⟨Gd, Y, w, hGd, hY⟩ := wk
  rw [C.K] at s1 hGd hY
  dsimp only at w hGd hY d2 hD
  refine lc_it (g := gG X.K t) (te := dP g.calm c.N.length a) (tt := fun σ H Q => ∃ ρ m S, At g.calm c.N.length σ H ρ m S ∧ Den g.calm c.N.length (evt g.F cs ρ S) m S H fun b _ _ H1 => Q b H1) (vs := ws) (σ := σ) w (fun i H' => ∃ m' S' acc accv, Post m1 S1 H1 m' S' H' ∧ Sok X.K m' S' H' ∧ (∀ n, n < S'.length → m' n ≠ D) ∧ H' D = some (.lst accv) ∧ RPs X.K H' acc accv ∧ chk gs S1 S' = true ∧
    Den g.calm c.N.length (lcL (chk gs S1) (fun x => put t x (wipe ρ ws)) (fun ρ' S' => (evt g.F cs ρ' S').calm) (fun ρ' S' => ((ev g.F a ρ' S').bind fun v S2 => shut S2 v).calm) (xs.drop i) acc S') m1 S1 H1 fun ys m2 S2 H2 => Den g c.N.length (.ok (.d (.list ys)) S2) m2 S2 H2 (QV g Q)) ?_ ?_ ?_ ?_
  · have n1 : ∀ n, n < S1.length → m1 n ≠ D := fun n hn e => by
      obtain ⟨u, hu⟩ := s1.there hn
      rw [e, hD] at hu; cases hu
    exact ⟨m1, S1, [], [], post_new hD, s1.new hD, n1, upd_same, .nil, chk_same _ _, d2⟩
  · rintro i H' hi ⟨m', S', acc, accv, p', s', _, _, _, ck, _⟩
    exact hGd m' S' H' p' s' ck
  · rintro i x H' H'' hi ⟨m', S', acc, accv, p', s', ne, hHD, racc, ck, dd⟩ y
    obtain ⟨d, e1, ext, rd⟩ := hY i x m' S' H' H'' hi p' s' ck y
    have p2 : Post m' S' H' m' S' H'' := ext.post
    have s2 : Sok X.K m' S' H'' := ext.sok s'
    have hi' : i < xs.length := hi
    have ed : xs.drop i = d :: xs.drop (i + 1) := by
      rw [List.drop_eq_getElem_cons hi']
      congr 1
      rw [List.getElem?_eq_getElem hi'] at e1
      exact Option.some.inj e1
    rw [ed] at dd
    simp only [lcL] at dd
    cases ep : put t d (wipe ρ ws) with
    | none => rw [ep] at dd; exact dd.elim
    | some ρ' =>
      rw [ep] at dd
      simp only at dd
      have re : Renv X.K m' S' H'' (wipe ρ ws) (L2.wipe σ ws) := by
        have := a1.env
        rw [C.K] at this
        exact ((this.post p').post p2).wipe ws
      refine ⟨d, wipe ρ ws, ρ', m', S', rd, re, ep, fun σ2 l2 r2 w2 => ⟨(w2 ws hsl').trans (wipe_wipe ws), ?_⟩⟩
      have hl2 : σ2.length = c.N.length := by rw [l2, wipe_length]; exact a1.len
      have a2 : At g.calm c.N.length σ2 H'' ρ' m' S' := ⟨hl2, by show Renv g.K _ _ _ _ _; rw [C.K]; exact r2, by show Sok g.K _ _ _; rw [C.K]; exact s2⟩
      obtain ⟨hHD2, ne2⟩ := p2.apart hHD ne
      have q2 := p'.trans s' p2
      cases ec : evt g.F cs ρ' S' with
      | no => rw [ec] at dd; exact dd.elim
      | ex _ _ _ => rw [ec] at dd; exact dd.elim
      | ok b S3 =>
        rw [ec] at dd
        simp only [R.calm_ok, R.bind_ok] at dd
        refine ⟨ρ', m', S', a2, ?_⟩
        show Den _ _ (evt g.F cs ρ' S') _ _ _ _
        rw [ec]
        intro m3 H3 p3 s3
        have s3' : Sok X.K m3 S3 H3 := by rw [← C.K]; exact s3
        obtain ⟨hHD3, ne3⟩ := p3.apart hHD2 ne2
        have q3 := q2.trans s2 p3
        have racc3 := RPs.keep p3.k _ _ (RPs.keep p2.k _ _ racc)
        cases b with
        | false =>
          simp only [Bool.false_eq_true, if_false] at dd ⊢
          split at dd
          · rename_i ck3
            exact ⟨m3, S3, acc, accv, q3, s3', ne3, hHD3, racc3, ck3, dd⟩
          · exact dd.elim
        | true =>
          simp only [if_true] at dd ⊢
          have a3 : At g.calm c.N.length σ2 H3 ρ' m3 S3 := a2.to p3 s3
          cases ee : (ev g.F a ρ' S3).bind fun v S2 => shut S2 v with
          | no => rw [ee] at dd; exact dd.elim
          | ex _ _ _ => rw [ee] at dd; exact dd.elim
          | ok yd S4 =>
            rw [ee] at dd
            simp only [R.calm_ok, R.bind_ok] at dd
            refine ⟨ρ', m3, S3, a3, ?_⟩
            show Den _ _ ((ev g.F a ρ' S3).bind fun v S2 => shut S2 v) _ _ _ _
            rw [ee]
            intro m4 H4 p4 s4 z rz
            have s4' : Sok X.K m4 S4 H4 := by rw [← C.K]; exact s4
            have rz' : RP X.K H4 yd z := by rw [← C.K]; exact rz
            obtain ⟨hHD4, ne4⟩ := p4.apart hHD3 ne3
            have q4 := q3.trans s3' p4
            have racc4 := RPs.keep p4.k _ _ racc3
            split at dd
            · rename_i hck
              simp only [Bool.and_eq_true, decide_eq_true_eq] at hck
              have ks := keeps_side (u := .lst (accv ++ [z])) (.inl ⟨_, hHD4⟩)
              exact ⟨accv, hHD4, by rw [← racc4.len, sizeLine_eq]; exact hck.1, m4, S4, acc ++ [yd], accv ++ [z], q4.side hD, s4'.side (.inl ⟨_, hHD4⟩) ne4, ne4, upd_same, RPs.keep ks _ _ (racc4.app (.one rz')), hck.2, dd⟩
            · exact dd.elim
  · rintro H' ⟨m', S', acc, accv, p', s', ne, hHD, racc, ck, dd⟩
    have en : xs.drop xs.length = [] := List.drop_length
    rw [en] at dd
    refine hx _ _ ⟨D, .lst accv, rfl, hHD, trivial, fun o => ?_⟩
    have ks := keeps_side (u := .frz o (.lst accv)) (.inl ⟨_, hHD⟩)
    have s5 : Sok X.K m' S' (upd H' D (.frz o (.lst accv))) := s'.side (.inl ⟨_, hHD⟩) ne
    exact dd m' _ (p'.side hD) (by show Sok g.K _ _ _; rw [C.K]; exact s5) m' _ .refl (by rw [C.K]; exact s5) _ (by show RP g.K _ _ _; rw [C.K]; exact .lst ⟨o, upd_same⟩ (RPs.keep ks _ _ racc))
theorem s_lc {elt tg iter : Expr} {ifs : List Expr} {scope : Scope} {own : List (Str × Nat)} {pos : Pos} {it : It} {t : T} {cs : Es} {a : E} (hok : blkC c.N c.sc scope own = true) (hi : SI G c tg iter it) (hg : SG G (c.blk scope) tg t) (hsl : (slT t).all (fun i => (own.map (·.2)).contains i) = true)
    (ht : STs G (c.blk scope) ifs cs) (he : SE G (c.blk scope) elt a) : SE G c (.ListComp elt [⟨tg, iter, ifs, 0⟩] scope pos) (.lc (own.map (·.2)) t it cs a) := fun k X g C => by
  have ok : BlkOk X.N X.env.scope scope own := blkOk_by (by rw [C.N, C.sc]; exact hok)
  have h1 := pe_lc (pos := pos) (g := gG X.K t) (te := dP g.calm c.N.length a) (tt := fun σ H Q => ∃ ρ m S, At g.calm c.N.length σ H ρ m S ∧ Den g.calm c.N.length (evt g.F cs ρ S) m S H fun b _ _ H1 => Q b H1) C.calm (by rw [C.N]; exact C.nd) (hi.2 k X g C) ok (fun s H Ca cl fp => hg k _ _ (C.blk scope s H Ca cl fp)) (fun s H Ca cl fp => ht k _ _ (C.blk scope s H Ca cl fp)) (fun s H Ca cl fp => p_of (C.blk scope s H Ca cl fp) (he k _ _ (C.blk scope s H Ca cl fp))) (fun x => noSet_it hi.1 _ x)
  have hsl' : ∀ i ∈ slT t, i ∈ own.map (·.2) := fun i hi => by
    have := List.all_eq_true.mp hsl i hi
    simpa using this
  refine ⟨fun pins s σ H Q I hd => ?_⟩
  exact thn (h1.run pins s σ H (fun z H1 => ∃ a u, z = .ref a ∧ H1 a = some u ∧ Mut (some u) ∧ ∀ o, Q z (upd H1 a (.frz o u))) I (lc_t (elt := elt) (tg := tg) (iter := iter) (ifs := ifs) (scope := scope) (pos := pos) C hsl' rfl σ H Q _ (fun _ _ z => z) hd)) fun _ _ e => ep_lock e
end
end In
/-! part InJ -/
set_option Elab.async false
set_option linter.all false
set_option maxRecDepth 100000
set_option maxHeartbeats 1000000
/-! Comprehensions of dicts. -/
namespace In
open PySem PySem.Spec PyProof.Rows L2
section
variable {G : Glo} {c : Cc} {X : Cx} {g : Gx} {k : Nat}
theorem RP.key {K : Frag} {H : Hp} {d : PyData} {v : V} (r : RP K H d v) {q : Key} (h : keyOf d = some q) : v = kV q := by
  cases r with
  | int i => cases h; rfl
  | str i => cases h; rfl
  | _ => cases h
theorem putK_len (kvs : List (Key × V)) (k : Key) (v : V) : (putK kvs k v).length ≤ kvs.length + 1 := length_putK kvs k v
theorem s_dc {kx vx tg iter : Expr} {scope : Scope} {own : List (Str × Nat)} {pos : Pos} {it : It} {t : T} {a b : E} (hok : blkC c.N c.sc scope own = true) (hi : SI G c tg iter it) (hg : SG G (c.blk scope) tg t) (hsl : (slT t).all (fun i => (own.map (·.2)).contains i) = true)
    (hk : SE G (c.blk scope) kx a) (he : SE G (c.blk scope) vx b) : SE G c (.DictComp kx vx [⟨tg, iter, [], 0⟩] scope pos) (.dc (own.map (·.2)) t it a b) := fun k X g C => by
  have ok : BlkOk X.N X.env.scope scope own := blkOk_by (by rw [C.N, C.sc]; exact hok)
  have h1 := pe_dc (pos := pos) (g := gG X.K t) (tk := dP g.calm c.N.length a) (tv := dP g.calm c.N.length b) (tt := tYes) C.calm (by rw [C.N]; exact C.nd) (hi.2 k X g C) ok (fun s H Ca cl fp => hg k _ _ (C.blk scope s H Ca cl fp)) (fun s H Ca cl fp => pts_nil)
    (fun s H Ca cl fp => p_of (C.blk scope s H Ca cl fp) (hk k _ _ (C.blk scope s H Ca cl fp))) (fun s H Ca cl fp => p_of (C.blk scope s H Ca cl fp) (he k _ _ (C.blk scope s H Ca cl fp))) (fun x => noSet_it hi.1 _ x)
  have hsl' : ∀ i ∈ slT t, i ∈ own.map (·.2) := fun i hi => by
    have := List.all_eq_true.mp hsl i hi
    simpa using this
  generalize own.map (·.2) = ws at h1 hsl' ⊢
  refine ⟨fun pins s σ H Q I ⟨ρ, m, S, h, d⟩ => ?_⟩
  refine thn (h1.run pins s σ H (fun z H1 => ∃ a u, z = .ref a ∧ H1 a = some u ∧ Mut (some u) ∧ ∀ o, Q z (upd H1 a (.frz o u))) I ?_) fun _ _ e => ep_lock e
  simp only [ev] at d
  refine ⟨ρ, m, S, h, d.bind.mono fun p m1 S1 H1 p1 s1 d1 J wk D hD => ?_⟩
  obtain ⟨xs, gs⟩ := p
  have a1 := h.to p1 s1
  clear d h p1
  have d2 := (d1.bind.calm g.calm rfl c.N.length)
  clear d1
  obtain ⟨Gd, Y, w, hGd, hY⟩ := wk
  rw [C.K] at s1 hGd hY
  dsimp only at w hGd hY d2 hD
  have main : ∃ Pv : Nat → Hp → Prop, Pv 0 (upd H1 D (.dK [])) ∧ (∀ i H, i ≤ xs.length → Pv i H → Gd H) ∧
      (∀ i x H H', i < xs.length → Pv i H → Y i H x H' → gG X.K t x (L2.wipe σ ws) H' fun σ2 H2 => L2.wipe σ2 ws = L2.wipe σ ws ∧
        dP g.calm c.N.length a σ2 H2 fun y H4 => dP g.calm c.N.length b σ2 H4 fun z H5 => ∃ kvs k, y = kV k ∧ H5 D = some (.dK kvs) ∧ kvs.length < sizeLine ∧ Pv (i + 1) (upd H5 D (.dK (putK kvs k z)))) ∧
      ∀ H, Pv xs.length H → ∃ a u, V.ref D = .ref a ∧ H a = some u ∧ Mut (some u) ∧ ∀ o, Q (.ref D) (upd H a (.frz o u)) := by
    refine ⟨fun i H' => ∃ m' S' acc accv, Post m1 S1 H1 m' S' H' ∧ Sok X.K m' S' H' ∧ (∀ n, n < S'.length → m' n ≠ D) ∧ H' D = some (.dK accv) ∧ RPd X.K H' acc accv ∧ chk gs S1 S' = true ∧
      Den g.calm c.N.length (dcL (chk gs S1) (fun x => put t x (wipe ρ ws)) (fun ρ' S' => (((ev g.F a ρ' S').bind fun v S2 => shut S2 v).bind fun kx S2 => ((ev g.F b ρ' S2).bind fun v S3 => shut S3 v).bind fun vx S3 => .ok (kx, vx) S3).calm) (xs.drop i) acc S') m1 S1 H1 fun ys m2 S2 H2 => Den g c.N.length (.ok (.d (.dict ys)) S2) m2 S2 H2 (QV g Q), ?_, ?_, ?_, ?_⟩
    · have n1 : ∀ n, n < S1.length → m1 n ≠ D := fun n hn e => by
        obtain ⟨u, hu⟩ := s1.there hn
        rw [e, hD] at hu; cases hu
      exact ⟨m1, S1, [], [], post_new hD, s1.new hD, n1, upd_same, .nil, chk_same _ _, d2⟩
    · rintro i H' hi ⟨m', S', acc, accv, p', s', _, _, _, ck, _⟩
      exact hGd m' S' H' p' s' ck
    · rintro i x H' H'' hi ⟨m', S', acc, accv, p', s', ne, hHD, racc, ck, dd⟩ y
      obtain ⟨d, e1, ext, rd⟩ := hY i x m' S' H' H'' hi p' s' ck y
      have p2 : Post m' S' H' m' S' H'' := ext.post
      have s2 : Sok X.K m' S' H'' := ext.sok s'
      have hi' : i < xs.length := hi
      have ed : xs.drop i = d :: xs.drop (i + 1) := by
        rw [List.drop_eq_getElem_cons hi']
        congr 1
        rw [List.getElem?_eq_getElem hi'] at e1
        exact Option.some.inj e1
      rw [ed] at dd
      simp only [dcL] at dd
      cases ep : put t d (wipe ρ ws) with
      | none => rw [ep] at dd; exact dd.elim
      | some ρ' =>
        rw [ep] at dd
        simp only at dd
        have re : Renv X.K m' S' H'' (wipe ρ ws) (L2.wipe σ ws) := by
          have := a1.env
          rw [C.K] at this
          exact ((this.post p').post p2).wipe ws
        refine ⟨d, wipe ρ ws, ρ', m', S', rd, re, ep, fun σ2 l2 r2 w2 => ⟨(w2 ws hsl').trans (wipe_wipe ws), ?_⟩⟩
        have hl2 : σ2.length = c.N.length := by rw [l2, wipe_length]; exact a1.len
        have a2 : At g.calm c.N.length σ2 H'' ρ' m' S' := ⟨hl2, by show Renv g.K _ _ _ _ _; rw [C.K]; exact r2, by show Sok g.K _ _ _; rw [C.K]; exact s2⟩
        obtain ⟨hHD2, ne2⟩ := p2.apart hHD ne
        have q2 := p'.trans s' p2
        cases ec : (ev g.F a ρ' S').bind fun v S2 => shut S2 v with
        | no => rw [ec] at dd; exact dd.elim
        | ex _ _ _ => rw [ec] at dd; exact dd.elim
        | ok kd S3 =>
          rw [ec] at dd
          simp only [R.bind_ok] at dd
          refine ⟨ρ', m', S', a2, ?_⟩
          show Den _ _ ((ev g.F a ρ' S').bind fun v S2 => shut S2 v) _ _ _ _
          rw [ec]
          intro m3 H3 p3 s3 zk rk
          have s3' : Sok X.K m3 S3 H3 := by rw [← C.K]; exact s3
          have rk' : RP X.K H3 kd zk := by rw [← C.K]; exact rk
          obtain ⟨hHD3, ne3⟩ := p3.apart hHD2 ne2
          have q3 := q2.trans s2 p3
          have racc3 := RPd.keep p3.k _ _ (RPd.keep p2.k _ _ racc)
          have a3 : At g.calm c.N.length σ2 H3 ρ' m3 S3 := a2.to p3 s3
          cases ee : (ev g.F b ρ' S3).bind fun v S2 => shut S2 v with
          | no => rw [ee] at dd; exact dd.elim
          | ex _ _ _ => rw [ee] at dd; exact dd.elim
          | ok yd S4 =>
            rw [ee] at dd
            simp only [R.calm_ok, R.bind_ok] at dd
            refine ⟨ρ', m3, S3, a3, ?_⟩
            show Den _ _ ((ev g.F b ρ' S3).bind fun v S2 => shut S2 v) _ _ _ _
            rw [ee]
            intro m4 H4 p4 s4 z rz
            have s4' : Sok X.K m4 S4 H4 := by rw [← C.K]; exact s4
            have rz' : RP X.K H4 yd z := by rw [← C.K]; exact rz
            obtain ⟨hHD4, ne4⟩ := p4.apart hHD3 ne3
            have q4 := q3.trans s3' p4
            have racc4 := RPd.keep p4.k _ _ racc3
            split at dd
            · rename_i hck
              simp only [Bool.and_eq_true, decide_eq_true_eq] at hck
              obtain ⟨q, eq⟩ := scalarKey_of hck.1.2
              have ks := keeps_side (u := .dK (putK accv q z)) (.inr ⟨_, hHD4⟩)
              exact ⟨accv, q, rk'.key eq, hHD4, by rw [← racc4.len, sizeLine_eq]; exact hck.1.1, m4, S4, kStore acc kd yd, putK accv q z, q4.side hD, s4'.side (.inr ⟨_, hHD4⟩) ne4, ne4, upd_same, RPd.keep ks _ _ (racc4.store eq rz'), hck.2, dd⟩
            · exact dd.elim
    · rintro H' ⟨m', S', acc, accv, p', s', ne, hHD, racc, ck, dd⟩
      have en : xs.drop xs.length = [] := List.drop_length
      rw [en] at dd
      refine ⟨D, .dK accv, rfl, hHD, trivial, fun o => ?_⟩
      have ks := keeps_side (u := .frz o (.dK accv)) (.inr ⟨_, hHD⟩)
      have s5 : Sok X.K m' S' (upd H' D (.frz o (.dK accv))) := s'.side (.inr ⟨_, hHD⟩) ne
      exact dd m' _ (p'.side hD) (by show Sok g.K _ _ _; rw [C.K]; exact s5) m' _ .refl (by rw [C.K]; exact s5) _ (by show RP g.K _ _ _; rw [C.K]; exact .dct upd_same (RPd.keep ks _ _ racc))
  obtain ⟨Pv, h0, hG, hs, hd⟩ := main
  refine ⟨fun i m H => m = xs.length - i ∧ i ≤ xs.length ∧ Pv i H, ⟨xs.length, by simp, Nat.zero_le _, h0⟩, ?_⟩
  rintro i m H ⟨rfl, hi, p⟩
  have q := hG i H hi p
  by_cases hlt : i < xs.length
  · refine .inr ⟨w.goes i H hlt q, Pv (i + 1), fun H' p' => ⟨xs.length - (i + 1), by omega, rfl, hlt, p'⟩, fun x H' y => ?_⟩
    have z := hs i x H H' hlt p (w.yields i H x H' hlt q y)
    simpa only [tYes, if_true] using z
  · have e : i = xs.length := by omega
    subst e
    exact .inl ⟨w.stops H q, hd H p⟩
end
end In
/-! part InK -/
set_option Elab.async false
set_option linter.all false
set_option maxRecDepth 100000
set_option maxHeartbeats 1000000
/-! Statements. -/
namespace In
open PySem PySem.Spec PyProof.Rows L2
/-- a context of a def's own statements -/
structure CtxS (X : Cx) (g : Gx) : Prop where
  own : PassesOwn (model X.prog X.w) X.A X.env X.xe
  tk : Takes X g.W
  stk : X.stack = X.env :: X.outer
  fr : X.env.frame = some X.env.locals
def QF (g : Gx) (n : Nat) (D : Ends) : Fl → Mp → Sto → Hp → Prop
  | .nx ρ, m, S, H => ∀ σ : L2.St, σ.length = n → Renv g.K m S H ρ σ → D.nx σ H
  | .rt x, m, S, H => ∀ v, RP g.K H x v → D.rt v H
  | .bk ρ, m, S, H => ∀ σ : L2.St, σ.length = n → Renv g.K m S H ρ σ → D.bk σ H
  | .ct ρ, m, S, H => ∀ σ : L2.St, σ.length = n → Renv g.K m S H ρ σ → D.ct σ H
def dS (g : Gx) (n W : Nat) (a : C) : TS := fun D σ H => ∃ ρ m S, At g n σ H ρ m S ∧ Den g n (x1 g.F W a ρ S) m S H (QF g n D)
def dSs (g : Gx) (n W : Nat) (a : Cs) : TS := fun D σ H => ∃ ρ m S, At g n σ H ρ m S ∧ Den g n (xs g.F W a ρ S) m S H (QF g n D)
def SS (G : Glo) (c : Cc) (W : Nat) (st : Stmt) (a : C) : Prop := ∀ k X g, Ctx G c X g k → CtxS X g → PS X st (dS g c.N.length W a)
def SSs (G : Glo) (c : Cc) (W : Nat) (st : List Stmt) (a : Cs) : Prop := ∀ k X g, Ctx G c X g k → CtxS X g → PSs X st (dSs g c.N.length W a)
theorem _root_.L2.PS.imp {X : Cx} {e : Stmt} {t t' : TS} (h : PS X e t) (q : ∀ D σ H, t' D σ H → t D σ H) : PS X e t' := ⟨fun pins s σ H D I z => h.run pins s σ H D I (q D σ H z)⟩
theorem _root_.L2.PSs.imp {X : Cx} {e : List Stmt} {t t' : TS} (h : PSs X e t) (q : ∀ D σ H, t' D σ H → t D σ H) : PSs X e t' := ⟨fun pins s σ H D I z => h.run pins s σ H D I (q D σ H z)⟩
section
variable {G : Glo} {c : Cc} {X : Cx} {g : Gx} {k : Nat} {W : Nat}
theorem ss_nil : SSs G c W [] .nil := fun k X g C S => pss_nil.imp fun D σ H ⟨ρ, m, S, h, d⟩ => d m H .refl h.sok σ h.len h.env
theorem ss_cons {st : Stmt} {sts : List Stmt} {a : C} {as : Cs} (h1 : SS G c W st a) (h2 : SSs G c W sts as) : SSs G c W (st :: sts) (.cons a as) := fun k X g C CS =>
  (pss_cons (h1 k X g C CS) (h2 k X g C CS)).imp fun D σ H ⟨ρ, m, S, h, d⟩ => by
    simp only [xs] at d
    refine ⟨ρ, m, S, h, d.bind.mono fun fl m1 S1 H1 p1 s1 d1 => ?_⟩
    cases fl with
    | nx ρ1 => exact fun σ1 l1 r1 => ⟨ρ1, m1, S1, ⟨l1, r1, s1⟩, d1⟩
    | rt x => exact d1 m1 H1 .refl s1
    | bk ρ1 => exact d1 m1 H1 .refl s1
    | ct ρ1 => exact d1 m1 H1 .refl s1
/-! ### assignments -/
/-- which expression is a comprehension -/
def noComp : Expr → Bool
  | .ListComp _ _ _ _ => false
  | .SetComp _ _ _ _ => false
  | .DictComp _ _ _ _ _ => false
  | _ => true
theorem noComp_is {e : Expr} (h : noComp e = true) (t : Option Expr) (l : Nat) (env : PySem.Env) : swapsWith e t l env = pure false := by
  cases e with
  | ListComp _ _ _ _ => cases h
  | SetComp _ _ _ _ => cases h
  | DictComp _ _ _ _ _ => cases h
  | _ => rfl
def noTup : Expr → Bool
  | .Tuple _ _ _ => false
  | .List _ _ => false
  | _ => true
theorem noTup_l {t e : Expr} (h : noTup t = true) (env : PySem.Env) : swappedStores [t] e env = pure none := by
  cases t with
  | Tuple _ _ _ => cases h
  | List _ _ => cases h
  | _ => rfl
theorem noTup_r {t e : Expr} (h : noTup e = true) (env : PySem.Env) : swappedStores [t] e env = pure none := by
  cases e with
  | Tuple _ _ _ => cases h
  | List _ _ => cases h
  | _ => cases t <;> rfl
theorem asg_d {n : Nat} {e : Expr} {a : E} {t : T} {D : Ends} {σ : L2.St} {H : Hp} {ρ : Env} {m : Mp} {S : Sto} (C : Ctx G c X g k) (h : At g n σ H ρ m S) (d : Den g n (x1 g.F W (.asg t a) ρ S) m S H (QF g n D)) :
    dP g n a σ H fun x H1 => gG X.K t x σ H1 D.nx := by
  simp only [x1] at d
  refine ⟨ρ, m, S, h, d.bind.mono fun y m1 S1 H1 p1 s1 d1 x rx => ?_⟩
  obtain ⟨fl, e1, q⟩ := d1.opt s1
  obtain ⟨ρ', e2, rfl⟩ := Option.map_eq_some_iff.mp e1
  rw [← C.K]
  exact ⟨y, ρ, ρ', m1, S1, rx, h.env.post p1, e2, fun σ' l' r' _ => q σ' (l'.trans h.len) r'⟩
theorem s_asg {tg e : Expr} {t : T} {a : E} {pos : Pos} (hg : SG G c tg t) (he : SE G c e a) (p1 : noComp e = true) (p2 : (noTup tg || noTup e) = true) (p3 : plainE tg = true) : SS G c W (.Assign [tg] e pos) (.asg t a) := fun k X g C CS => by
  have hw : swappedStores [tg] e X.env = pure none := by
    rcases Bool.or_eq_true_iff.mp p2 with q | q
    · exact noTup_l q _
    · exact noTup_r q _
  have h1 : (assignEach [tg] X.env).map (·.2) = [assign tg X.env] := by
    cases tg with
    | Starred _ _ => cases p3
    | _ => rfl
  exact (ps_asg (p_of C (he k X g C)) (hg k X g C) (noComp_is p1 _ _ _) hw h1).imp fun D σ H ⟨ρ, m, S, h, d⟩ => asg_d (e := e) C h d
/-- name = [.. for ..] on one line -/
theorem lc_data {F : Fns} {ws : List Nat} {t : T} {it : It} {cs : Es} {a : E} {ρ : Env} {S : Sto} (v : Vl) (S' : Sto) (e : ev F (.lc ws t it cs a) ρ S = .ok v S') : ∃ y, v = .d y := by
  simp only [ev] at e
  cases e1 : evI F it ρ S with
  | no => rw [e1] at e; cases e
  | ex _ _ _ => rw [e1] at e; cases e
  | ok p S1 =>
    rw [e1] at e
    simp only [R.bind_ok] at e
    revert e
    generalize R.calm (lcL _ _ _ _ _ _ _) = r
    intro e
    cases r with
    | no => cases e
    | ex _ _ _ => cases e
    | ok ys S2 => cases e; exact ⟨_, rfl⟩
theorem s_setLc {y : Str} {i : Nat} {py : Pos} {elt tg iter : Expr} {ifs : List Expr} {scope : Scope} {own : List (Str × Nat)} {pos spos : Pos} {it : It} {t : T} {cs : Es} {a : E} (hy : c.N[i]? = some y) (hyl : c.sc.names.lookup y = some .local)
    (hl : (py.line == pos.line) = true) (hno : (scope.names.any fun (n, k) => n == y && (k == .local || k == .cell)) = false)
    (hok : blkC c.N c.sc scope own = true) (hi : SI G c tg iter it) (hg : SG G (c.blk scope) tg t) (hsl : (slT t).all (fun i => (own.map (·.2)).contains i) = true)
    (ht : STs G (c.blk scope) ifs cs) (he : SE G (c.blk scope) elt a) : SS G c W (.Assign [.Name y py] (.ListComp elt [⟨tg, iter, ifs, 0⟩] scope pos) spos) (.asg (.nm i) (.lc (own.map (·.2)) t it cs a)) := fun k X g C CS => by
  have ok : BlkOk X.N X.env.scope scope own := blkOk_by (by rw [C.N, C.sc]; exact hok)
  have hsl' : ∀ i ∈ slT t, i ∈ own.map (·.2) := fun i hi => by
    have := List.all_eq_true.mp hsl i hi
    simpa using this
  refine ⟨fun pins s σ H D I ⟨ρ, m, S, h, d⟩ => ?_⟩
  have h1 := ps_setLc (py := py) (pos := pos) (spos := spos) (y := y) (i := i) (g := gG X.K t) (te := dP g.calm c.N.length a) (tt := fun σ H Q => ∃ ρ m S, At g.calm c.N.length σ H ρ m S ∧ Den g.calm c.N.length (evt g.F cs ρ S) m S H fun b _ _ H1 => Q b H1) C.calm (by rw [C.N]; exact C.nd) (by rw [C.N]; exact hy) (by rw [C.sc]; exact hyl)
    (sw_true I.ok.kind (by rw [C.sc]; exact hyl) hl hno) (hi.2 k X g C) ok (fun s H Ca cl fp => hg k _ _ (C.blk scope s H Ca cl fp)) (fun s H Ca cl fp => ht k _ _ (C.blk scope s H Ca cl fp)) (fun s H Ca cl fp => p_of (C.blk scope s H Ca cl fp) (he k _ _ (C.blk scope s H Ca cl fp))) (fun x => noSet_it hi.1 _ x)
  have key := lc_t (elt := elt) (tg := tg) (iter := iter) (ifs := ifs) (scope := scope) (pos := pos) C hsl' rfl σ H (fun x H1 => D.nx (σ.set i (some x)) H1) (fun x H1 => ∃ a u, H1 a = some u ∧ Mut (some u) ∧ ∀ o, D.nx (σ.set i (some x)) (upd H1 a (.frz o u))) (fun z H1 ⟨a, u, _, q⟩ => ⟨a, u, q⟩) (by
    refine ⟨ρ, m, S, h, ?_⟩
    have d1 := Den.bind (Den.bind (by simp only [x1] at d; exact d))
    have dat : ∀ v S', ev g.F (.lc (own.map (·.2)) t it cs a) ρ S = .ok v S' → ∃ y, v = .d y := lc_data
    generalize ev g.F (.lc (own.map (·.2)) t it cs a) ρ S = r at d1 dat
    cases r with
    | no => exact d1
    | ex _ _ _ => exact d1
    | ok v S1 =>
      obtain ⟨y, rfl⟩ := dat v S1 rfl
      intro m1 H1 p1 s1 x rx
      obtain ⟨fl, e1, q⟩ := Den.opt (d1 m1 H1 p1 s1 m1 H1 .refl s1) s1
      obtain ⟨ρ', e2, rfl⟩ := Option.map_eq_some_iff.mp e1
      cases e2
      exact q _ (by simpa using h.len) ((h.env.post p1).set (show RV g.K m1 S1 H1 (.d y) x from rx)))
  refine thn (h1.run pins s σ H { D with nx := fun σ' H' => ∃ a u, H' a = some u ∧ Mut (some u) ∧ ∀ o, D.nx σ' (upd H' a (.frz o u)) } I key) fun f s' q => ?_
  cases f with
  | next =>
    obtain ⟨σ', H', I', a, u, e, mu, q⟩ := q
    obtain ⟨od, I2⟩ := I'.lock e mu
    exact ⟨_, _, I2, q od⟩
  | brk => exact q
  | cont => exact q
  | ret v => exact q
end
end In
/-! part InL -/
set_option Elab.async false
set_option linter.all false
set_option maxRecDepth 100000
set_option maxHeartbeats 1000000
/-! Statements, the rest. -/
namespace In
open PySem PySem.Spec PyProof.Rows L2
section
variable {G : Glo} {c : Cc} {X : Cx} {g : Gx} {k : Nat} {W : Nat}
/-! ### new containers -/
theorem born_post {K : Frag} {m : Mp} {S : Sto} {H : Hp} {p : Addr} {u : HO} {ob : MO} (s : Sok K m S H) (hp : H p = none) (hu : ObOk K H u ob) :
    ∃ m2, Post m S H m2 (S ++ [⟨true, ob⟩]) (upd H p u) ∧ Sok K m2 (S ++ [⟨true, ob⟩]) (upd H p u) ∧ m2 S.length = p := by
  have ne : ∀ n, n < S.length → m n ≠ p := fun n hn e => by
    obtain ⟨v, hv⟩ := s.there hn
    rw [e, hp] at hv; cases hv
  refine ⟨fun n => if n = S.length then p else m n, ⟨keeps_new hp, by simp, fun n hn => if_neg (Nat.ne_of_lt hn), fun n h1 h2 => ?_, fun b v e _ => by rw [upd_ne (ne_of_none e hp)]; exact e⟩, (s.new hp).born upd_same ne (hu.keep' (keeps_new hp)), if_pos rfl⟩
  have e : n = S.length := by simp at h2; omega
  simp only [e, if_true]
  exact hp
def dV (g : Gx) (n : Nat) (nw : Bool) (a : E) : TE := fun σ H Q => ∃ ρ m S, At g n σ H ρ m S ∧ Den g n ((ev g.F a ρ S).bind fun v S1 => liveIf nw S1 v) m S H (QV g Q)
def SV (G : Glo) (c : Cc) (nw : Bool) (e : Expr) (a : E) : Prop := ∀ k X g, Ctx G c X g k → PE X e (dV g c.N.length nw a)
theorem sv_of {e : Expr} {a : E} (h : SE G c e a) : SV G c false e a := fun k X g C => (h k X g C).imp fun σ H Q ⟨ρ, m, S, h, d⟩ => by
  refine ⟨ρ, m, S, h, ?_⟩
  have e : ((ev g.F a ρ S).bind fun v S1 => liveIf false S1 v) = ev g.F a ρ S := by cases ev g.F a ρ S <;> rfl
  rw [e] at d; exact d
/-- a new list, by what a rule tells of new lists -/
theorem live_new {n : Nat} {m : Mp} {S : Sto} {H : Hp} {p : Addr} {vs : List V} {ds : List PyData} {Q : VK} (s : Sok g.K m S H) (hp : H p = none) (r : RPs g.K H ds vs) (d : Den g n (live S (.d (.list ds))) m S H (QV g Q)) : Q (.ref p) (upd H p (.lst vs)) := by
  obtain ⟨m2, p2, s2, e2⟩ := born_post (ob := .lst ds) s hp ⟨vs, rfl, r⟩
  exact d m2 _ p2 s2 (.ref p) ⟨by rw [e2], by simp⟩
theorem sv_lst {es : List Expr} {as : Es} {pos : Pos} (h : SA G c es as) (hl : decide (es.length ≤ 1000) = true) : SV G c true (.List es pos) (.lst as) := fun k X g C =>
  (pe_lst (pos := pos) (h.2 k X g C).2).imp fun σ H Q ⟨ρ, m, S, h, d⟩ => by
    simp only [ev, R.bind_assoc, R.bind_ok] at d
    exact ⟨ρ, m, S, h, d.bind.mono fun ds m1 S1 H1 p1 s1 d1 xs el rs => ⟨by rw [el]; exact len_line hl, fun p hp => live_new s1 hp rs d1⟩⟩
/-- a new container by a built-in: list(x), sorted(x), dict(x) -/
theorem sv_u1 {op : U1} {e : Expr} {a : E} {x : Str} {p pos : Pos} {f : Value} (hc : ∀ X : Cx, X.calm = true → CallR X f (rU1 X.K (u1 op))) (hv : (∃ id, f = .builtin id) ∨ ∃ T, f = .type T) (hb : bootBuiltins x = some f) (hn : x ≠ "__name__") (hf : x ∈ G.free) (hg : glb c.sc x = true) (ha : SE G c e a) (pl : plainE e = true) :
    SV G c true (.Call (.Name x p) [e] [] pos) (.u1 op a) := fun k X g C => by
  have hm := C.wd.free x hf
  have hgl := C.gl hg
  have pa := pa1 (ha k X g C) pl
  have hst := plainE_is pl [] X.env
  have fin : ∀ σ H Q, dV g c.N.length true (.u1 op a) σ H Q → tCB (rU1 X.K (u1 op)) (fun σ H Q => dE g c.N.length a σ H fun x H1 => Q [x] H1) σ H Q := fun σ H Q ⟨ρ, m, S, h, d⟩ => by
    simp only [ev, R.bind_assoc] at d
    refine dE_of h d.bind fun v m1 S1 H1 p1 s1 d1 x rx => ?_
    obtain ⟨u, e1, d2⟩ := Den.opt d1.bind s1
    obtain ⟨dx, e2, e3⟩ := Option.bind_eq_some_iff.mp e1
    obtain ⟨dz, e4, rfl⟩ := Option.map_eq_some_iff.mp e3
    have rt := rx.rt s1 e2
    rw [C.K] at rt
    refine ⟨x, dx, dz, rfl, rt, e4, fun q u ob eo hq hu => ?_⟩
    rw [← C.K] at hu
    subst eo
    obtain ⟨m2, p2, s2, e5⟩ := born_post s1 hq hu
    cases ob with
    | lst ys => exact d2 m2 _ p2 s2 (.ref q) ⟨by rw [e5], by simp⟩
    | dct ys => exact d2 m2 _ p2 s2 (.ref q) ⟨by rw [e5], by simp⟩
  rcases hv with ⟨id, rfl⟩ | ⟨T, rfl⟩
  · exact (pe_callB (hc X C.calm) hgl hm hb pa hn (glb_is hg).2 hst).imp fin
  · exact (pe_callTy (hc X C.calm) hgl hm hb pa hn (glb_is hg).2 hst).imp fin
/-- name = a new container -/
theorem s_new {y : Str} {i : Nat} {py pos : Pos} {e : Expr} {a : E} (hi : c.N[i]? = some y) (hx : sto c y = true) (he : SV G c true e a) (p : noComp e = true) : SS G c W (.Assign [.Name y py] e pos) (.new i a) := fun k X g C CS =>
  (ps_set (by rw [C.N]; exact C.nd) (by rw [C.N]; exact hi) (by rw [C.sc]; exact sto_loc hx) (he k X g C) (noComp_is p _ _ _) (C.sto hx)).imp fun D σ H ⟨ρ, m, S, h, d⟩ => by
    simp only [x1, ← R.bind_assoc] at d
    refine ⟨ρ, m, S, h, d.bind.mono fun v m1 S1 H1 p1 s1 d1 x rx => ?_⟩
    exact d1 m1 H1 .refl s1 _ (by simpa using h.len) ((h.env.post p1).set rx)
/-- two names at once -/
theorem s_par {y z : Str} {i j : Nat} {e e' : Expr} {a b : E} {n1 n2 : Bool} {px py pt pos : Pos} {kt k2 : Nat} {pt2 : Pos} (hi : c.N[i]? = some y) (hj : c.N[j]? = some z) (hij : decide (i ≠ j) = true) (hx : c.sc.names.lookup y = some .local) (hy : c.sc.names.lookup z = some .local)
    (ha : SV G c n1 e a) (hb : SV G c n2 e' b) (pl : plainE e = true) (pl' : plainE e' = true)
    (hw : ∀ env : PySem.Env, env.scope = c.sc → swappedStores [.Tuple [.Name y px, .Name z py] kt pt] (.Tuple [e, e'] k2 pt2) env = pure (some [y, z])) :
    SS G c W (.Assign [.Tuple [.Name y px, .Name z py] kt pt] (.Tuple [e, e'] k2 pt2) pos) (.par i j n1 n2 a b) := fun k X g C CS =>
  (ps_par C.calm (by rw [C.N]; exact C.nd) (by rw [C.N]; exact hi) (by rw [C.N]; exact hj) (of_decide_eq_true hij) (by rw [C.sc]; exact hx) (by rw [C.sc]; exact hy) (pa_cons (ha k X g C) (pa_cons (hb k X g C) pa_nil (plainE_is pl' _ _)) (plainE_is pl _ _)) (hw _ C.sc)).imp fun D σ H ⟨ρ, m, S, h, d⟩ => by
    simp only [x1, ← R.bind_assoc] at d
    simp only [R.bind_assoc] at d
    rw [← R.bind_assoc] at d
    refine ⟨ρ, m, S, h, d.bind.mono fun v m1 S1 H1 p1 s1 d1 x rx => ?_⟩
    rw [← R.bind_assoc] at d1
    refine ⟨ρ, m1, S1, h.to p1 s1, d1.bind.mono fun w m2 S2 H2 p2 s2 d2 x' rx' => ⟨x, x', rfl, ?_⟩⟩
    exact d2 m2 H2 .refl s2 _ (by simpa using h.len) ((((h.env.post p1).post p2).set (rx.post p2)).set rx')
/-! ### items, append -/
theorem lstAt_is {K : Frag} {m : Mp} {S : Sto} {H : Hp} {v : Vl} {x : V} {n : Nat} {xs : List PyData} (h : lstAt S v = some (n, xs)) (r : RV K m S H v x) (s : Sok K m S H) :
    ∃ vs, x = .ref (m n) ∧ H (m n) = some (.lst vs) ∧ RPs K H xs vs ∧ S[n]? = some ⟨true, .lst xs⟩ := by
  cases v with
  | d y => cases h
  | loc i =>
    simp only [lstAt] at h
    split at h
    · rename_i ys e
      cases h
      obtain ⟨u, h1, h2⟩ := s.at_ _ _ e
      obtain ⟨vs, rfl, rr⟩ := h1
      rw [if_pos rfl] at h2
      exact ⟨vs, r.1, h2, rr, e⟩
    · cases h
theorem s_six {o i e : Expr} {a b d : E} {tpos pos : Pos} (ho : SE G c o a) (hi : SE G c i b) (he : SE G c e d) (p : noComp e = true) (px : plainX i = true) : SS G c W (.Assign [.Subscript o i tpos] e pos) (.six a b d) := fun k X g C CS =>
  (ps_asg (tg := .Subscript o i tpos) (pos := pos) (p_of C (he k X g C)) (pg_sub (ho k X g C) (p_of C (hi k X g C)) set_list (by cases i with | Slice _ _ _ _ => cases px | _ => intro _; rfl)) (noComp_is p (some (.Subscript o i tpos)) pos.line X.env) (noTup_l rfl _)).imp fun D σ H ⟨ρ, m, S, h, de⟩ => by
    simp only [x1] at de
    refine ⟨ρ, m, S, h, de.bind.mono fun y m1 S1 H1 p1 s1 d1 x rx => ?_⟩
    have a1 := h.to p1 s1
    refine dE_of a1 d1.bind fun ov m2 S2 H2 p2 s2 d2 ox rox => ?_
    have a2 := a1.to p2 s2
    refine ⟨ρ, m2, S2, a2, d2.bind.mono fun ky m3 S3 H3 p3 s3 d3 kx rkx => ?_⟩
    have a3 := a2.to p3 s3
    have d4 := d3.bind
    have rox3 := rox.post p3
    unfold setAt at d4
    split at d4
    · rename_i n xs el
      obtain ⟨vs, rfl, hH, rr, hS⟩ := lstAt_is el rox3 s3
      split at d4
      · rename_i kk
        split at d4
        · rename_i j hj
          cases rkx
          refine ⟨m3 n, vs, kk, j, rfl, rfl, hH, by rw [← rr.len]; exact hj, ?_⟩
          have rv := RP.keep p3.k _ _ (RP.keep p2.k _ _ rx)
          obtain ⟨s5, p5⟩ := s3.write (u := .lst (vs.set j x)) (ob := .lst (xs.set j y)) hS rfl ⟨_, rfl, rr.set j rv⟩
          exact d4 m3 _ p5 s5 m3 _ .refl s5 σ h.len (a3.env.post p5)
        · exact d4.elim
      · exact d4.elim
    · exact d4.elim
def noCall : Expr → Bool
  | .Call _ _ _ _ => false
  | _ => true
theorem noCall_is {o : Expr} (h : noCall o = true) (n : Str) (env : PySem.Env) (x : Sem Value) : attributeBase o n env x = x := by
  cases o with
  | Call _ _ _ _ => cases h
  | _ => rfl
theorem s_app {o e : Expr} {a d : E} {apos cpos pos : Pos} (ho : SE G c o a) (he : SE G c e d) (pl : plainE e = true) (pc : noCall o = true) (hl : (apos.endLine == cpos.line) = true) : SS G c W (.Expr (.Call (.Attribute o "append" apos) [e] [] cpos) pos) (.app a d) := fun k X g C CS =>
  (ps_expr (pe_bm F.plainAttrs_list F.slot_list_append F.type_list_append mt_append (ho k X g C) (pa_cons (p_of C (he k X g C)) pa_nil (plainE_is pl _ _)) (noCall_is pc _ _ _) (by rw [plainE_is pl]; rfl) hl (plainE_is pl _ _)) rfl).imp fun D σ H ⟨ρ, m, S, h, de⟩ => by
    simp only [x1] at de
    refine dE_of h de.bind fun ov m1 S1 H1 p1 s1 d1 ox rox => ?_
    have a1 := h.to p1 s1
    obtain ⟨q, el, d2⟩ := Den.opt d1.bind s1
    obtain ⟨n, xs⟩ := q
    obtain ⟨vs, e1, hH, rr, hS⟩ := lstAt_is el rox s1
    refine ⟨by rw [e1]; exact .inl ⟨rfl, vs, .of hH⟩, ⟨ρ, m1, S1, a1, d2.bind.mono fun y m2 S2 H2 p2 s2 d3 x rx => ?_⟩⟩
    have a2 := a1.to p2 s2
    have rox2 := rox.post p2
    split at d3
    · rename_i n' xs' el2
      obtain ⟨vs', e2, hH2, rr2, hS2⟩ := lstAt_is el2 rox2 s2
      split at d3
      · rename_i hlen
        obtain ⟨s5, p5⟩ := s2.write (u := .lst (vs' ++ [x])) (ob := .lst (xs' ++ [y])) hS2 rfl ⟨_, rfl, rr2.app (.one rx)⟩
        exact ⟨m2 n', vs', x, e2, rfl, hH2, by rw [← rr2.len, sizeLine_eq]; exact hlen, d3 m2 _ p5 s5 σ h.len (a2.env.post p5)⟩
      · exact d3.elim
    · exact d3.elim
theorem s_drop {e : Expr} {a : E} {pos : Pos} (he : SE G c e a) (p : noComp e = true) : SS G c W (.Expr e pos) (.drop a) := fun k X g C CS =>
  (ps_expr (he k X g C) (noComp_is p _ _ _)).imp fun D σ H ⟨ρ, m, S, h, d⟩ => by
    simp only [x1] at d
    exact dE_of h d.bind fun v m1 S1 H1 p1 s1 d1 x rx => d1 m1 H1 .refl s1 σ h.len (h.env.post p1)
/-- name += e, name -= e, of ints -/
theorem s_augI {y : Str} {i : Nat} {op : B2} {e : Expr} {a : E} {py pos : Pos} (f : Int → Int → Int) (hf : ∀ i j, binop op (.int i) (.int j) = some (.int (f i j))) (hp : ∀ X, PIp X (opOf op) (ipI f)) (hi : c.N[i]? = some y) (hx : sto c y = true) (he : SE G c e a) :
    SS G c W (.AugAssign (.Name y py) (opOf op) e pos) (.aug i op a) := fun k X g C CS => by
  refine (ps_aug (by rw [C.N]; exact C.nd) (by rw [C.N]; exact hi) (by rw [C.sc]; exact sto_loc hx) (he k X g C) (hp X) (C.sto hx)).imp fun D σ H ⟨ρ, m, S, h, d⟩ => ?_
  simp only [x1] at d
  split at d
  · rename_i v ev'
    obtain ⟨x, e1, rx⟩ := h.env.at_ i v ev'
    refine ⟨x, e1, dE_of h d.bind fun w m1 S1 H1 p1 s1 d1 z rz => ?_⟩
    cases v with
    | loc n => exact d1.elim
    | d u =>
      have d2 := Den.bind d1
      simp only [augment] at d2
      split at d2
      · rename_i p q e2
        cases rx
        have e3 := (rz.rt s1 e2).int
        subst e3
        rw [hf] at d2
        exact ⟨p, q, rfl, rfl, d2 m1 H1 .refl s1 m1 H1 .refl s1 _ (by simpa using h.len) ((h.env.post p1).set (show RV g.K m1 S1 H1 (.d (.int (f p q))) (.int (f p q)) from .int _))⟩
      · exact d2.elim
  · exact d.elim
theorem s_augAdd {y : Str} {i : Nat} {e : Expr} {a : E} {py pos : Pos} (hi : c.N[i]? = some y) (hx : sto c y = true) (he : SE G c e a) : SS G c W (.AugAssign (.Name y py) .Add e pos) (.aug i .add a) :=
  s_augI (op := .add) (fun i j => i + j) (fun _ _ => rfl) (fun _ => ip_add) hi hx he
theorem s_augSub {y : Str} {i : Nat} {e : Expr} {a : E} {py pos : Pos} (hi : c.N[i]? = some y) (hx : sto c y = true) (he : SE G c e a) : SS G c W (.AugAssign (.Name y py) .Sub e pos) (.aug i .sub a) :=
  s_augI (op := .sub) (fun i j => i - j) (fun _ _ => rfl) (fun _ => ip_sub) hi hx he
/-! ### if, for, while -/
theorem s_ifS {e : Expr} {p q : List Stmt} {a : E} {b d : Cs} {pos : Pos} (he : ST G c e a) (hp : SSs G c W p b) (hq : SSs G c W q d) : SS G c W (.If e p q pos) (.ite a b d) := fun k X g C CS =>
  (ps_if (he k X g C) (hp k X g C CS) (hq k X g C CS)).imp fun D σ H ⟨ρ, m, S, h, de⟩ => by
    simp only [x1, ← R.bind_assoc] at de
    refine ⟨ρ, m, S, h, de.bind.mono fun t m1 S1 H1 p1 s1 d1 => ?_⟩
    cases t with
    | true => exact ⟨ρ, m1, S1, h.to p1 s1, d1⟩
    | false => exact ⟨ρ, m1, S1, h.to p1 s1, d1⟩
theorem s_loop {tg iter : Expr} {body : List Stmt} {t : T} {it : It} {b : Cs} {pos : Pos} (hg : SG G c tg t) (hi : SI G c tg iter it) (hb : SSs G c W body b) : SS G c W (.For tg iter body [] pos) (.loop t it b) := fun k X g C CS =>
  (ps_for CS.own C.calm (hi.2 k X g C) (hg k X g C) (hb k X g C CS) (fun x => noSet_it hi.1 _ x)).imp fun D σ H ⟨ρ, m, S, h, d⟩ => by
    simp only [x1] at d
    refine ⟨ρ, m, S, h, d.bind.mono fun p m1 S1 H1 p1 s1 d1 J wk => ?_⟩
    obtain ⟨xs, gs⟩ := p
    obtain ⟨Gd, Y, w, hGd, hY⟩ := wk
    have a1 := h.to p1 s1
    clear d h p1
    dsimp only at w hGd hY d1
    refine for_it w (fun i σ' H' => ∃ ρ' m' S', At g c.N.length σ' H' ρ' m' S' ∧ Post m1 S1 H1 m' S' H' ∧ chk gs S1 S' = true ∧ Den g c.N.length (forL (chk gs S1) (fun x ρ => put t x ρ) (fun ρ S => In.xs g.F W b ρ S) (xs.drop i) ρ' S') m' S' H' (QF g c.N.length D)) ?_ ?_ ?_ ?_
    · exact ⟨ρ, m1, S1, a1, .refl, chk_same _ _, d1⟩
    · rintro i σ' H' hi ⟨ρ', m', S', a', p', ck, _⟩
      exact hGd m' S' H' p' a'.sok ck
    · rintro i x σ' H' H'' hi ⟨ρ', m', S', a', p', ck, dd⟩ y
      obtain ⟨d, e1, ext, rd⟩ := hY i x m' S' H' H'' hi p' a'.sok ck y
      have p2 : Post m' S' H' m' S' H'' := ext.post
      have s2 : Sok g.K m' S' H'' := ext.sok a'.sok
      have a2 := a'.to p2 s2
      have hi' : i < xs.length := hi
      have ed : xs.drop i = d :: xs.drop (i + 1) := by
        rw [List.drop_eq_getElem_cons hi']
        congr 1
        rw [List.getElem?_eq_getElem hi'] at e1
        exact Option.some.inj e1
      rw [ed] at dd
      simp only [forL] at dd
      cases ep : put t d ρ' with
      | none => rw [ep] at dd; exact dd.elim
      | some ρ1 =>
        rw [ep] at dd
        simp only at dd
        rw [← C.K]
        refine ⟨d, ρ', ρ1, m', S', rd, a2.env, ep, fun σ2 l2 r2 _ => ?_⟩
        have a3 : At g c.N.length σ2 H'' ρ1 m' S' := ⟨l2.trans a2.len, r2, s2⟩
        have q2 := p'.trans a'.sok p2
        refine ⟨ρ1, m', S', a3, (Den.from p2 s2 dd).bind.mono fun fl m3 S3 H3 p3 s3 d3 => ?_⟩
        have q3 := q2.trans s2 p3
        cases fl with
        | nx ρ2 =>
          simp only at d3
          split at d3
          · rename_i ck3
            exact fun σ3 l3 r3 => ⟨ρ2, m3, S3, ⟨l3, r3, s3⟩, q3, ck3, d3⟩
          · exact d3.elim
        | ct ρ2 =>
          simp only at d3
          split at d3
          · rename_i ck3
            exact fun σ3 l3 r3 => ⟨ρ2, m3, S3, ⟨l3, r3, s3⟩, q3, ck3, d3⟩
          · exact d3.elim
        | bk ρ2 => exact d3 m3 H3 .refl s3
        | rt x => exact d3 m3 H3 .refl s3
    · rintro σ' H' ⟨ρ', m', S', a', p', ck, dd⟩
      have en : xs.drop xs.length = [] := List.drop_length
      rw [en] at dd
      exact dd m' H' .refl a'.sok σ' a'.len a'.env
theorem s_whl {e : Expr} {body : List Stmt} {a : E} {b : Cs} {pos : Pos} (he : ST G c e a) (hb : SSs G c W body b) : SS G c W (.While e body [] pos) (.whl a b) := fun k X g C CS =>
  (ps_while CS.own (he k X g C) (hb k X g C CS)).imp fun D σ H ⟨ρ, m, S, h, d⟩ => by
    simp only [x1] at d
    refine ⟨fun n σ' H' => ∃ ρ' m' S', At g c.N.length σ' H' ρ' m' S' ∧ Den g c.N.length (whlL (fun ρ S => (ev g.F a ρ S).bind fun v S1 => test S1 v) (fun ρ S => xs g.F W b ρ S) n ρ' S') m' S' H' (QF g c.N.length D), ⟨W, ρ, m, S, h, d⟩, ?_⟩
    rintro n σ' H' ⟨ρ', m', S', a', dd⟩
    cases n with
    | zero => exact dd.elim
    | succ n =>
      simp only [whlL] at dd
      refine ⟨ρ', m', S', a', dd.bind.mono fun t m1 S1 H1 p1 s1 d1 => ?_⟩
      have a1 := a'.to p1 s1
      cases t with
      | false => exact d1 m1 H1 .refl s1 σ' a1.len a1.env
      | true =>
        simp only [if_true] at d1 ⊢
        refine ⟨_, fun σ2 H2 z => ⟨n, Nat.lt_succ_self n, z⟩, ρ', m1, S1, a1, d1.bind.mono fun fl m3 S3 H3 p3 s3 d3 => ?_⟩
        cases fl with
        | nx ρ2 => exact fun σ3 l3 r3 => ⟨ρ2, m3, S3, ⟨l3, r3, s3⟩, d3⟩
        | ct ρ2 => exact fun σ3 l3 r3 => ⟨ρ2, m3, S3, ⟨l3, r3, s3⟩, d3⟩
        | bk ρ2 => exact d3 m3 H3 .refl s3
        | rt x => exact d3 m3 H3 .refl s3
/-! ### return, raise, pass, break, continue -/
theorem s_ret {e : Expr} {a : E} {pos : Pos} (he : SE G c e a) : SS G c W (.Return (some e) pos) (.ret a) := fun k X g C CS =>
  (ps_ret (p_of C (he k X g C))).imp fun D σ H ⟨ρ, m, S, h, d⟩ => by
    simp only [x1] at d
    exact ⟨ρ, m, S, h, d.bind.mono fun y m1 S1 H1 p1 s1 d1 x rx => d1 m1 H1 .refl s1 x rx⟩
theorem s_retN {pos : Pos} : SS G c W (.Return none pos) .retN := fun k X g C CS => ps_retN.imp fun D σ H ⟨ρ, m, S, h, d⟩ => d m H .refl h.sok _ .non
theorem s_pass {pos : Pos} : SS G c W (.Pass pos) .pass := fun k X g C CS => ps_pass.imp fun D σ H ⟨ρ, m, S, h, d⟩ => d m H .refl h.sok σ h.len h.env
theorem s_brk {pos : Pos} : SS G c W (.Break pos) .brk := fun k X g C CS => ps_break.imp fun D σ H ⟨ρ, m, S, h, d⟩ => d m H .refl h.sok σ h.len h.env
theorem s_cont {pos : Pos} : SS G c W (.Continue pos) .cont := fun k X g C CS => ps_continue.imp fun D σ H ⟨ρ, m, S, h, d⟩ => d m H .refl h.sok σ h.len h.env
theorem s_raise {cn : Str} {e : Expr} {a : E} {p cpos pos : Pos} (hc : cn ∈ G.excs) (hg : glb c.sc cn = true) (he : SE G c e a) (pl : plainE e = true) : SS G c W (.Raise (some (.Call (.Name cn p) [e] [] cpos)) none pos) (.raise cn a) := fun k X g C CS =>
  (ps_raise C.calm CS.tk (C.wd.excs.make cn hc X rfl rfl rfl rfl rfl C.calm (C.rm.mono (Nat.zero_le _)) (C.gl hg) (glb_is hg).2 e _ p cpos (p_of C (he k X g C)) fun es env => plainE_is pl es env)).imp fun D σ H ⟨ρ, m, S, h, d⟩ => by
    simp only [x1] at d
    refine ⟨ρ, m, S, h, d.bind.mono fun y m1 S1 H1 p1 s1 d1 x rx Ca dd H2 hm ext hd => ?_⟩
    have ex : Ext H1 H2 := ⟨ext⟩
    exact d1 m1 H2 _ _ σ h.len ex.post (ex.sok s1) ⟨Ca, dd, x, by rw [C.ex]; exact hc, rfl, by rw [C.mg]; exact hm, rfl, hd, RP.keep ex.keeps _ _ rx⟩
/-! ### try: .. except x as n: return ('tag', n.reason) -/
theorem Ctx.tr (C : Ctx G c X g k) {W' : WX} (pn : List (Addr × Obj)) (xe : Value → Shared → Prop) (tk : Takes (X.tr pn xe) W') : Ctx G c (X.tr pn xe) ⟨g.K, g.mg, W', g.F, g.ex⟩ k :=
  ⟨C.N, C.nd, C.sc, C.K, C.mg, C.ex, C.calm, C.rm, C.wd, C.st, fun σ => passAt tk σ⟩
theorem s_try {x n tag : Str} {i j1 j2 : Nat} {np ep ap tp rp pos' pos p1 : Pos} {body : List Stmt} {b : Cs} (hc : x ∈ G.excs) (hg : glb c.sc x = true) (hi : c.N[i]? = some n) (hn : c.sc.names.lookup n = some .local) (h3 : (n == ("__debug__" : Str)) = false) (h4 : (n == ("__classdict__" : Str)) = false) (hb : SSs G c W body b) :
    SS G c W (.Try body [.ExceptHandler (some (.Name x np)) (some n) [.Return (some (.Tuple [.Constant (.str tag) j1 p1, .Attribute (.Name n ep) "reason" ap] j2 tp)) rp] pos'] [] [] pos) (.tryS b [(x, tag)]) := fun k X g C CS => by
  obtain ⟨Ca, hm, T, hno⟩ := C.wd.excs.cls x hc
  have hN : X.N[i]? = some n := by rw [C.N]; exact hi
  have hnl : X.env.scope.names.lookup n = some .local := by rw [C.sc]; exact hn
  have h1 := ps_try_as (pos := pos) (pos' := pos') (np := np) (body := body) (b₀ := .Return (some (.Tuple [.Constant (.str tag) j1 p1, .Attribute (.Name n ep) "reason" ap] j2 tp)) rp) (suite := []) (X := X) CS.stk CS.fr (by rw [C.N]; exact C.nd) hN (c := .ref Ca) hnl ⟨C.gl hg, (glb_is hg).2, .inl hm⟩ CS.tk
    (tb := fun W' => dSs ⟨g.K, g.mg, W', g.F, g.ex⟩ c.N.length W b) (fun W' pn xe tk po => hb k _ _ (C.tr pn xe tk) ⟨po, tk, CS.stk, CS.fr⟩)
    (ts := fun a cls d => tRet (tTup (tCons (tC (.str tag)) (tCons (tXf a cls d Ca "reason" (tVar i)) tNil))))
    (fun a oe cls d pn hz hf => pss_one (ps_ret (pe_tup (pa_cons pe_str (pa_cons (pe_xf T hno hz hf (pe_var (X := X.suite a ((a, oe) :: pn)) hN (.inl hnl) h3 h4)) pa_nil)))))
  refine h1.imp fun D σ H ⟨ρ, m, S, h, d⟩ => ⟨ρ, m, S, ⟨h.len, h.env, h.sok⟩, ?_⟩
  simp only [x1] at d
  cases e : xs g.F W b ρ S with
  | no => rw [e] at d; exact d.elim
  | ok fl S1 =>
    rw [e] at d
    intro m1 H1 p1 s1
    have d1 := d m1 H1 p1 s1
    cases fl <;> exact d1
  | ex cn y S1 =>
    rw [e] at d
    simp only at d
    intro m1 H1 cls dd σ' hl p1 s1 exc
    obtain ⟨C0, dx, v, hcn, rfl, hm0, rfl, hdx, rv⟩ := id exc
    rw [C.mg] at hm0
    rw [C.ex] at hcn
    refine ⟨decide (cn = x), C.wd.excs.one cn hcn x hc C0 Ca hm0 hm, fun hb a na => ?_, fun hb => ?_⟩
    · have ecx : cn = x := of_decide_eq_true hb
      subst ecx
      have eC : C0 = Ca := by rw [hm0] at hm; cases hm; rfl
      subst eC
      have d1 : Den g c.N.length (R.ok (.rt (.tuple [.str tag, y])) S1) m S H (QF g c.N.length D) := by
        have e2 : caught [(cn, tag)] cn y S1 = R.ok (.rt (.tuple [.str tag, y])) S1 := by
          unfold caught
          rw [show List.lookup cn [(cn, tag)] = some tag from by simp [List.lookup]]
        rw [← e2]; exact d
      have hil : i < σ'.length := by
        rw [hl]
        exact (List.getElem?_eq_some_iff.mp hi).1
      refine ⟨.ref a, List.getElem?_set_self hil, rfl, rfl, dx, _, v, rfl, hdx, by simp [List.lookup], ?_⟩
      show 2 ≤ sizeLine ∧ _
      refine ⟨by decide, fun p hp => ?_⟩
      have pn : Post m1 S1 H1 m1 S1 (upd H1 p (.tup [.str tag, v])) := post_new hp
      exact d1 m1 _ (p1.trans s1 pn) (s1.new hp) (.ref p) (.tup (SqT.of upd_same) (.cons (.str _) (.cons (RP.keep (keeps_new hp) _ _ rv) .nil)))
    · have ncx : ¬ cn = x := of_decide_eq_false hb
      have e2 : caught [(x, tag)] cn y S1 = R.ex cn y S1 := by
        unfold caught
        rw [show List.lookup cn [(x, tag)] = none from by simp only [List.lookup_cons, beq_eq_false_iff_ne.mpr ncx]; rfl]
      rw [e2] at d
      exact d m1 H1 _ _ σ' hl p1 s1 exc
end
end In
/-! part InM -/
set_option Elab.async false
set_option linter.all false
set_option maxRecDepth 100000
set_option maxHeartbeats 2000000
/-! Defs keep their promises; the law's end. -/
namespace In
open PySem PySem.Spec PyProof.Rows L2
section
variable {P : Program} {w : World} {K : Frag} {mg : Str → Option Value} {base : Heap}
theorem fnG_of {k : Nat} {f : Addr} {name qual : Str} {params : Arguments} {body : List Stmt} {scope : Scope} {dV kV doc pm cdv ct oc : Value} {an od : Option Addr}
    {osl : Array (Option Value)} {N ps : List Str} {sp : Sp} (lk : K.lookup f = some ⟨oc, od, .func (PySem.W.fnOf name qual params body scope dV kV doc pm an cdv ct), osl⟩) (hcd : PySem.W.codeIn K cdv qual = true) (S : FnScope N ps scope)
    (len : ∀ vs H Q E, sp vs H Q E → vs.length = ps.length)
    (hbody : ∀ (A : Around) (outer : List PySem.Env) (s : Shared) (H : Hp) (vs : List V) (Q : VK) (E : XK), RoomG k (A.deeper (envOfC qual scope s.heap.objs.size f cdv)) → sp vs H Q E →
      ∃ t, PSs (cxOf (L2.CX P w) P w K mg base N qual scope f cdv A outer s H E) body t ∧ t { nx := fun _ H' => Q .non H', rt := Q } (L2.start N vs) H) :
    FnG P w K mg base (k + 1) f (PySem.W.fnOf name qual params body scope dV kV doc pm an cdv ct) ps sp := by
  refine ⟨len, fun A outer s H args us vs Q E hr e0 hb r hsp => ?_⟩
  have KX : K.In s.heap := e0.mod.kin.keeps fun b o e => (e0.bs b o e).1
  have hkind : ∀ y ∈ ps.zip us, scope.names.lookup y.1 = some .local ∨ (scope.names.lookup y.1 = some .cell ∧ ((cellsFrom (s.heap.objs.size + 1) scope.names []).lookup y.1).isSome = true) := fun ⟨n, v⟩ hy =>
    (S.par n (List.of_mem_zip hy).1).imp id fun q => ⟨q, PySem.W.cellsFrom_some _ _ _ (.inl q)⟩
  refine codeAny_call_function hr.rm.depth (KX _ _ lk) rfl S.co S.gen rfl (PySem.W.codeRec_of KX hcd) (hb _ _ _ _ ?_)
  refine wpAny_newFunctionEnv_cells S.kind hkind fun env he s1 x => ?_
  subst he
  refine ⟨(e0.mod.nolimit.keeps fun b o e => (e0.bs b o e).1).keeps x.toInCall.keep, codeAny_func ?_⟩
  obtain ⟨t, ht, hq⟩ := hbody A outer s H vs Q E (hr.deeper _) hsp
  have I := inv_start (CX := L2.CX P w) (E := E) S hr.rm.hd e0 (len _ _ _ _ hsp) r x
  refine wpAny_mono (ht.run [] s1 (L2.start N vs) H _ I hq) (fun fl s' hs => ?_) fun e s' hs => hs
  cases fl with
  | ret u =>
    obtain ⟨v, σ', H', J, rv, q⟩ := hs
    exact ⟨v, H', J.os, J.bare, J.base, J.hok, rv, q⟩
  | next =>
    obtain ⟨σ', H', J, q⟩ := hs
    exact ⟨V.non, H', J.os, J.bare, J.base, J.hok, rfl, q⟩
  | brk =>
    obtain ⟨_, _, _, q⟩ := hs
    exact q.elim
  | cont =>
    obtain ⟨_, _, _, q⟩ := hs
    exact q.elim
/-- the text of a def, and its reading -/
structure DefOk (G : Glo) (W : Nat) (K : Frag) (mg : Str → Option Value) (fns : List Fn) (x : Str) (D : Dfn) (f : Addr) (fd : FuncData) (ps : List Str) : Prop where
  g : mg x = some (.ref f)
  kp : PySem.W.keepIn K (.ref f) = true
  bind : ∀ n, n ≤ D.dfl.length → ∃ ds dvs, Binds K fd ps ds ∧ Vals dvs ds ∧ ∀ H, RPs K H (D.dfl.drop n) dvs
  txt : ∃ (name qual : Str) (params : Arguments) (body : List Stmt) (scope : Scope) (dV kV doc pm cdv ct oc : Value) (an od : Option Addr) (osl : Array (Option Value)) (N : List Str) (fn : Fn),
    fd = PySem.W.fnOf name qual params body scope dV kV doc pm an cdv ct ∧ K.lookup f = some ⟨oc, od, .func fd, osl⟩ ∧ PySem.W.codeIn K cdv qual = true ∧ FnScope N ps scope ∧ fns[D.ix]? = some fn ∧ fn.ar = D.ar ∧ fn.sz = N.length ∧ ps.length = D.ar ∧
      SSs G ⟨N, scope, fun _ => true⟩ W body fn.body
/-- what stands without the defs -/
structure Wd0 (G : Glo) (P : Program) (w : World) (K : Frag) (mg : Str → Option Value) (base : Heap) : Prop where
  free : ∀ x ∈ G.free, mg x = none
  vals : ∀ x d, G.vals.lookup x = some d → ∃ v u, mg x = some u ∧ RelV v u ∧ ∀ H, RP K H d v
  excs : ExW P w K mg base G.excs
  ups : UpW K mg G.excs G.ups
theorem RVs.vals {m : Mp} {S : Sto} {H : Hp} : ∀ {ls : List Vl} {vs : List V}, RVs K m S H ls vs → ∀ (i : Nat) (v : Vl), (ls.map some)[i]? = some (some v) → ∃ x, (vs.map some)[i]? = some (some x) ∧ RV K m S H v x
  | _, _, .nil, _, _, e => by simp at e
  | _, _, .cons h r, 0, v, e => by simp at e; subst e; exact ⟨_, rfl, h⟩
  | _, _, .cons h r, i + 1, v, e => by
    obtain ⟨x, h1, h2⟩ := RVs.vals r i v (by simpa using e)
    exact ⟨x, by simpa using h1, h2⟩
theorem start_env {m : Mp} {S : Sto} {H : Hp} {N : List Str} {ls : List Vl} {vs : List V} (r : RVs K m S H ls vs) (hl : vs.length ≤ N.length) : Renv K m S H (ls.map some ++ List.replicate (N.length - ls.length) none) (L2.start N vs) := by
  have el := r.len
  refine ⟨by unfold L2.start; simp [el], fun i v e => ?_⟩
  by_cases hi : i < ls.length
  · rw [List.getElem?_append_left (by simpa using hi)] at e
    obtain ⟨x, h1, h2⟩ := r.vals i v e
    refine ⟨x, ?_, h2⟩
    unfold L2.start
    rw [List.getElem?_append_left (by rw [List.length_map, ← el]; exact hi)]
    exact h1
  · rw [List.getElem?_append_right (by simpa using Nat.le_of_not_lt hi)] at e
    rw [List.getElem?_replicate] at e
    split at e <;> cases e
theorem defs_ok {G : Glo} {W : Nat} {fns : List Fn} (Z : Wd0 G P w K mg base) (hd : ∀ x D, G.defs.lookup x = some D → ∃ f fd ps, DefOk G W K mg fns x D f fd ps) : ∀ k, Wd G P w K mg base (k + 1) (callAt fns W k) := by
  have key : ∀ k, ∀ x D f fd ps, G.defs.lookup x = some D → DefOk G W K mg fns x D f fd ps → FnG P w K mg base k f fd ps (spOf K mg G.excs (callAt fns W k) D.ix D.ar) := by
    intro k
    induction k with
    | zero =>
      intro x D f fd ps hx T
      obtain ⟨_, _, _, _, _, _, _, _, _, _, _, _, _, _, _, N, fn, _, _, _, _, _, _, _, hp, _⟩ := T.txt
      refine ⟨fun vs H Q E h => h.1.trans hp.symm, fun A outer s H args us vs Q E hr e0 hb r hsp => ?_⟩
      obtain ⟨_, ls, m, S, _, _, d⟩ := hsp
      exact False.elim d
    | succ k ih =>
      intro x D f fd ps hx T
      obtain ⟨name, qual, params, body, scope, dV, kV, doc, pm, cdv, ct, oc, an, od, osl, N, fn, rfl, lk, hcd, FS, hfn, har, hsz, hp, hbody⟩ := T.txt
      have wd : Wd G P w K mg base (k + 1) (callAt fns W k) := ⟨Z.free, Z.vals, Z.excs, Z.ups, fun y D' hy => by
        obtain ⟨f', fd', ps', T'⟩ := hd y D' hy
        exact ⟨f', fd', ps', T'.g, T'.kp, T'.bind, fun j hj => by cases hj; exact ih y D' f' fd' ps' hy T'⟩⟩
      refine fnG_of lk hcd FS (fun vs H Q E h => h.1.trans hp.symm) fun A outer s H vs Q E hr hsp => ?_
      obtain ⟨hlen, ls, m, S, rvs, sk, d⟩ := hsp
      have Ct : Ctx G ⟨N, scope, fun _ => true⟩ (cxOf (L2.CX P w) P w K mg base N qual scope f cdv A outer s H E) ⟨K, mg, fun cls d _ H' => E cls d H', callAt fns W k, G.excs⟩ k :=
        ⟨rfl, FS.nd, rfl, rfl, rfl, rfl, rfl, hr, wd, fun _ _ => rfl, fun σ => passAt (takes_of rfl rfl rfl rfl) σ⟩
      have CS : CtxS (cxOf (L2.CX P w) P w K mg base N qual scope f cdv A outer s H E) ⟨K, mg, fun cls d _ H' => E cls d H', callAt fns W k, G.excs⟩ :=
        ⟨passes_of rfl, takes_of rfl rfl rfl rfl, rfl, rfl⟩
      refine ⟨_, hbody k _ _ Ct CS, ?_⟩
      have hpN : ps.length ≤ N.length := by
        have := congrArg List.length FS.pre
        rw [List.length_take] at this
        omega
      have hvN : vs.length ≤ N.length := by rw [hlen, ← hp]; exact hpN
      have hls : ls.length = fn.ar := by rw [rvs.len, hlen, har]
      refine ⟨ls.map some ++ List.replicate (N.length - ls.length) none, m, S, ⟨?_, start_env rvs hvN, sk⟩, ?_⟩
      · show (L2.start N vs).length = N.length
        unfold L2.start
        rw [List.length_append, List.length_map, List.length_replicate]
        omega
      · have e1 : callAt fns W (k + 1) D.ix ls S = fin S.length (xs (callAt fns W k) W fn.body (ls.map some ++ List.replicate (fn.sz - fn.ar) none) S) := by
          simp only [callAt, hfn, hls, if_true]
        rw [e1, hsz, ← hls] at d
        generalize xs (callAt fns W k) W fn.body (ls.map some ++ List.replicate (N.length - ls.length) none) S = r at d
        show Den _ _ r _ _ _ _
        cases r with
        | no => exact d
        | ex cn y S1 => exact fun m1 H1 cls dd σ' _ p1 s1 ex => d m1 H1 cls dd [] rfl p1.cut s1.cut ex
        | ok fl S1 =>
          cases fl with
          | nx ρ => exact fun m1 H1 p1 s1 σ' _ _ => d m1 H1 p1.cut s1.cut .non .non
          | rt y => exact fun m1 H1 p1 s1 v rv => d m1 H1 p1.cut s1.cut v rv
          | bk ρ => exact False.elim d
          | ct ρ => exact False.elim d
  intro k
  refine ⟨Z.free, Z.vals, Z.excs, Z.ups, fun y D' hy => ?_⟩
  obtain ⟨f', fd', ps', T'⟩ := hd y D' hy
  exact ⟨f', fd', ps', T'.g, T'.kp, T'.bind, fun j hj => by cases hj; exact key k y D' f' fd' ps' hy T'⟩
end
end In
/-! part InO -/
set_option Elab.async false
set_option linter.all false
set_option maxRecDepth 100000
set_option maxHeartbeats 2000000
/-! The law's end. -/
namespace In
open PySem PySem.Spec PyProof.Rows L2
/-- the law, called from without: the script is known, nothing else is tracked -/
theorem law_in {P : Program} {w : World} {K : Frag} {mg mb : Str → Option Value} {G : Glo} {W k : Nat} {fns : List Fn} {fa a : Addr} {lawN : Str} {D : Dfn} {s₁ : Shared} {vs : List Value} {ns : List Int}
    (KX : K.In s₁.heap) (hns : s₁.heap.Ns mainGlobals mg) (hb : s₁.heap.Ns builtinsNs mb) (hbb : ∀ x : Str, x ≠ "__name__" → mb x = bootBuiltins x) (hlim : s₁.heap.NoLimit) (hg : s₁.gens = #[])
    (ha : s₁.heap.get? a = some { cls := .type "list", data := .seq vs.toArray }) (hi : IntsAre vs ns) (hl : ns.length ≤ sizeLine) (hr : RoomG k callerA) (hK : ∀ b o, K.lookup b = some o → o.cls ≠ .type "list")
    (hmg : mg lawN = some (.ref fa)) (hD : G.defs.lookup lawN = some D) (hDa : D.ar = 1) (hDd : D.dfl = [])
    (hz : ∀ base : Heap, K.In base → base.Ns mainGlobals mg → Wd0 G P w K mg base) (hd : ∀ x D, G.defs.lookup x = some D → ∃ f fd ps, DefOk G W K mg fns x D f fd ps)
    (hlaw : ∃ S, callAt fns W k D.ix [.d (.list (ns.map .int))] [] = .ok (.bool true) S) :
    codeAny (model P w) callerA (.call (.ref fa) ⟨[.ref a], []⟩) (fun r s' => r = .ok (.ret (.bool true)) ∧ OldK s₁.heap s'.heap ∧ s'.os = s₁.os ∧ AllBare s'.gens) s₁ := by
  have rv : Vals (ns.map V.int) vs := vals_ints hi
  obtain ⟨S, hlaw⟩ := hlaw
  have Hp0 : ∃ H : Hp, H = fun b => if b = a then some (.frz { cls := .type "list", data := .seq vs.toArray } (.lst (ns.map V.int))) else none := ⟨_, rfl⟩
  obtain ⟨H, hH⟩ := Hp0
  have Ha : H a = some (.frz { cls := .type "list", data := .seq vs.toArray } (.lst (ns.map V.int))) := by rw [hH]; exact if_pos rfl
  have Hn : ∀ b, b ≠ a → H b = none := fun b hb => by rw [hH]; exact if_neg hb
  have hok : HOk P w H s₁.heap := fun b u z => by
    by_cases hb : b = a
    · subst hb
      rw [Ha] at z
      cases z
      exact ⟨ha, by rw [List.length_map]; exact hl, vs, _, rv, ha⟩
    · rw [Hn b hb] at z; cases z
  have base_of : ∀ {b : Addr} {o : Obj}, s₁.heap.get? b = some o → H b = none → (hidT s₁.heap H).get? b = some o := fun e n => hidT_get e n
  have nsK : ∀ {b : Addr} {m : Str → Option Value}, s₁.heap.Ns b m → (hidT s₁.heap H).Ns b m := fun {b m} ⟨o, es, ep, e, d, r⟩ => ⟨o, es, ep, base_of e (Hn b fun q => by
    subst q
    rw [ha] at e
    cases e
    cases d), d, r⟩
  have hKb : K.In (hidT s₁.heap H) := fun b o e => base_of (KX b o e) (Hn b fun q => by
    subst q
    have e2 := KX _ _ e
    rw [ha] at e2
    cases e2
    exact hK _ _ e rfl)
  have hM : Mod K mg (hidT s₁.heap H) := ⟨hKb, nsK hns, ⟨mb, nsK hb, hbb⟩, let ⟨mc, h1, h2⟩ := hlim; ⟨mc, nsK h1, h2⟩⟩
  have e0 : Env0 P w K mg (hidT s₁.heap H) callerA [] s₁ H := ⟨rfl, hM, fun b o e => of_hidT e, Nat.le_of_eq (hidT_size _ _), trivial, fun b hb => absurd (show b ∈ ([] : List Addr) from hb) (by simp), hok, .of_eq hg⟩
  obtain ⟨f, fd', ps, T⟩ := hd lawN D hD
  have ef : f = fa := by
    have := T.g
    rw [hmg] at this
    cases this
    rfl
  subst ef
  have wd := defs_ok (P := P) (w := w) (base := hidT s₁.heap H) (hz _ hKb (nsK hns)) hd k
  obtain ⟨f', fd2, ps2, g2, _, b2, F⟩ := wd.defs lawN D hD
  rw [hmg] at g2
  cases g2
  have F := F k rfl
  obtain ⟨ds, dvs, hbd, hvd, hrd⟩ := b2 0 (Nat.zero_le _)
  have hdvs := hrd H
  rw [hDd] at hdvs
  cases hdvs
  cases hvd
  have hsp : spOf K mg G.excs (callAt fns W k) D.ix D.ar [.ref a] H (fun v _ => v = .bl true) fun _ _ _ => False := by
    refine ⟨hDa.symm, [.d (.list (ns.map .int))], fun _ => 0, [], .cons (.lst ⟨_, Ha⟩ (RPs.ofInts ns)) .nil, ⟨fun n c e => by simp at e, fun i j h => absurd h (by simp)⟩, ?_⟩
    rw [hlaw]
    intro m' H' p' s' z rz
    cases rz
    rfl
  have hlen : ps2.length = 1 := by
    have := F.len _ _ _ _ hsp
    simpa using this.symm
  have bnd := hbd s₁ [.ref a] KX (by simp [hlen])
  refine codeAny_mono (F.run callerA [] s₁ H ⟨[.ref a], []⟩ [.ref a] [.ref a] _ _ hr e0 (by simpa using bnd) (.cons rfl .nil) hsp) fun r s' h => ?_
  cases r with
  | error e =>
    obtain ⟨_, _, _, _, _, _, _, _, _, _, _, _, z⟩ := (show L2.CX P w [] H s₁ (fun _ _ _ => False) e s' from h)
    exact z.elim
  | ok fl =>
    cases fl with
    | next => exact False.elim h
    | brk => exact False.elim h
    | cont => exact False.elim h
    | ret u =>
      obtain ⟨v, H', os, bare, un, hok', r', q⟩ := h
      have q' : v = .bl true := q
      subst q'
      obtain rfl : u = Value.bool true := r'
      refine ⟨rfl, OldK.of_keep fun b o e => ?_, os, bare⟩
      by_cases hb : b = a
      · subst hb
        obtain ⟨e1, _⟩ := hok _ _ Ha
        obtain ⟨e2, _⟩ := hok' _ _ (un.frzs _ _ _ Ha)
        rw [e] at e1
        cases e1
        exact e2
      · exact un.keep b o e (Hn b hb) (by intro z; exact absurd (show b ∈ ([] : List Addr) from z) (by simp)) (by simp)
theorem walk_in {l : PySem.W.OpenLaw} {n k W : Nat} {q : Program} {loose : List Str} {XP : (Str → Option Value) → Heap → Prop} {YP : World → Heap → Prop} {d : DefRec} {G : Glo} {fns : List Fn} {D : Dfn}
    (hn : l.most = some n) (hn2 : n ≤ sizeLine) (hdf : d.params.defaults = []) (hr : RoomG k callerA) (hD : G.defs.lookup d.name = some D) (hDa : D.ar = 1) (hDd : D.dfl = [])
    (F : ∀ (w : World) (mg : Str → Option Value) (fa : Addr) (h : Heap), YP w h → h.Ns mainGlobals mg → mg d.name = some (.ref fa) →
      ∃ K : Frag, K.In h ∧ (∀ b o, K.lookup b = some o → o.cls ≠ .type "list") ∧ (∀ base : Heap, K.In base → base.Ns mainGlobals mg → Wd0 G l.prog w K mg base) ∧ ∀ x D, G.defs.lookup x = some D → ∃ f fd ps, DefOk G W K mg fns x D f fd ps)
    (hlaw : ∀ ns : List Int, ns.length ≤ n → (∀ z ∈ ns, Builtin.Int.intBits z ≤ 1048576) → ∃ S, callAt fns W k D.ix [.d (.list (ns.map .int))] [] = .ok (.bool true) S) :
    PySem.W.WalkO q loose XP YP l.row.toRowW d [] (fun f vs => PySem.call f vs) := by
  refine Att.attach_callB hn hdf fun w s₀ s₁ mg mb fa o pm cd doc a vs ns Gr Y ho hd hcd hmg hobj hints hlen hbits hg => ?_
  obtain ⟨K, KX, hK, hz, hdefs⟩ := F w mg fa _ Y Gr.T.g hmg
  exact law_in KX Gr.T.g Gr.T.b Gr.T.builtins Gr.T.nolimit hg hobj hints (Nat.le_trans hlen hn2) hr hK hmg hD hDa hDd hz hdefs (hlaw ns hlen hbits)
end In
/-! part InX -/
set_option Elab.async false
set_option linter.all false
set_option maxRecDepth 100000
set_option maxHeartbeats 2000000
/-! An own error: made by super().__init__(reason); self.reason = reason in a class above. -/
namespace PySem
namespace InX
open PySem.W PySem.Calls PyProof.Rows PySem.HandSPX
def iA (p1 p2 : Pos) : Arguments := { posonlyargs := [], args := [{ arg := "self", annotation := none, pos := p1 }, { arg := "reason", annotation := none, pos := p2 }], vararg := none, kwonlyargs := [], kw_defaults := [], kwarg := none, defaults := [] }
def iB (p0 p1 ap p2 cp ep q1 q2 q3 q4 : Pos) : List Stmt := [.Expr (.Call (.Attribute (.Call (.Name "super" p0) [] [] p1) "__init__" ap) [.Name "reason" p2] [] cp) ep, .Assign [.Attribute (.Name "self" q1) "reason" q2] (.Name "reason" q3) q4]
/-- what the written part says of the class at C; its __init__, at fI, stands in the class at D -/
structure RTxt (P : Program) (K : Frag) (mg : Str → Option Value) (cn : Str) (C D fI : Addr) : Prop where
  gC : mg cn = some (.ref C)
  gS : mg "super" = none
  cls : ∃ nm q N bs bm sn sub ab col dd k0 k1 k2 k3 k5, K.lookup C = some (excClassObj nm q C N bs bm true sn sub ab col dd k0 k1 k2 k3 k5 "ValueError.__new__") ∧ refsVE bm = true
  sa : findIn K (.ref C) "__setattr__" = some (some (.builtin "object.__setattr__"))
  noN : findIn K (.ref C) "reason" = some none
  iC : findIn K (.ref C) "__init__" = some (some (.ref fI))
  tC : typeIn K (.ref fI) = some (.type "function")
  kC : keepIn K (.ref C) = true
  exC : subIn K (.ref C) (.type "BaseException") = some true
  tyC : typeIn K (.ref C) = some (.type "type")
  veC : subIn K (.ref C) (.type "ValueError") = some true
  op : nsIn K cStatics "thirdparty.any" = some none
  sup : ks_superIn K C D "__init__" = some (some (.builtin "ValueError.__init__"))
  cD : ∃ cdD, clsIn K D = some cdD
  mD : mroIn K C (.ref D) = some true
  top : (P.main.scope.names.lookup ("super" : Str)).isSome = false
  fn : ∃ (oc : Value) (od : Option Addr) (qual : Str) (sc : Scope) (doc pm : Value) (an : Option Addr) (cda cc : Addr) (ct : Value) (osl : Array (Option Value)) (a1 a2 p0 p1 ap p2 cp ep q1 q2 q3 q4 : Pos),
    K.lookup fI = some ⟨oc, od, .func (ksFn "__init__" qual (iA a1 a2) (iB p0 p1 ap p2 cp ep q1 q2 q3 q4) sc .none .none doc pm an (.ref cda) ct cc), osl⟩ ∧ codeIn K (.ref cda) qual = true ∧
    sc = { kind := .function, names := [("self", .local), ("reason", .local), ("__class__", .free), ("super", .globalImplicit)], isGenerator := false, isCoroutine := false, more := sc.more } ∧ (ap.endLine == cp.line) = true ∧
    (∃ cl cld csl, K.lookup cc = some ⟨cl, cld, .cell (some (.ref D)), csl⟩) ∧ ∃ ccl cdd ccs vs file tf, K.lookup cda = some ⟨ccl, cdd, .fields vs, ccs⟩ ∧ vs[2]? = some (.str file tf) ∧ ((P.main.file : Str) == file) = true
theorem one_size (v : Value) : [v].length ≤ sizeLine := by
  rw [sizeLine_eq]
  exact (by decide : 1 ≤ 16777216)
section
variable {prog : Program} {w : World} {A : Around} {E : Value → Shared → Prop} {h : Heap} {g : Array GenState} {d : Drawn} {t : Nat} {os : OsState}
/-- ValueError.__init__ bound to the object, called -/
theorem ve_call {nm q : Str} {C N : Addr} {bs bm : List Value} {hdct : Bool} {sn : List Str} {sub : List Value} {ab : Bool} {col : Option Bool} {dd : Option Addr} {k0 k1 k2 k3 k5 : Option Value} {u x t0 : Addr} {rest : List Value} {Q : Value → Shared → Prop}
    (hC : h.get? C = some (excClassObj nm q C N bs bm hdct sn sub ab col dd k0 k1 k2 k3 k5 "ValueError.__new__")) (he : h.get? x = some (excO C t0)) (hu : h.get? u = some (kxs_mw "ValueError.__init__" x)) (hz : rest.length ≤ sizeLine)
    (hq : ∀ h' t1, (∀ b o, b ≠ x → h.get? b = some o → h'.get? b = some o) → h'.get? x = some (excO C t1) → Q .none ⟨h', g, d, t, os⟩) :
    wpAny (model prog w) A (call (.ref u) rest) Q E ⟨h, g, d, t, os⟩ := by
  refine wpAny_call (codeAny_of_tree ?_)
  show wpAny _ A.in1 (callAny (.ref u) ⟨rest, []⟩) _ _ _
  simp only [callAny]
  refine wpAny_bind (wpAny_load hu ?_)
  simp only [kxs_mw, show (Value.type "method-wrapper" == Value.type "method" || Value.type "method-wrapper" == Value.type "builtin_function_or_method" || Value.type "method-wrapper" == Value.type "method-wrapper") = true by decide, if_true]
  refine KFB.if_so (by decide) ?_
  refine wpAny_bind (check_bound_init F.excBase_ValueError.toExcCallFacts hC he rfl ?_)
  refine wpAny_bind (wpAny_pure (wpAny_pure ?_))
  refine ⟨plainId_quiet F.excBase_ValueError.init.plain _, codeAny_builtin F.excBase_ValueError.initEntry ?_⟩
  exact exc_init_tree (cls := .ref C) (t0 := t0) (dv := none) (c2 := .none) (c3 := .none) (b4 := .bool false) he hz fun h' k e' _ => hq h' h.objs.size k e'
end
/-- what __init__ leaves of a fresh exception at x -/
structure InitEnd (h h' : Heap) (x C dx t1 : Addr) (v : Value) : Prop where
  keep : ∀ b o, b ≠ x → h.get? b = some o → h'.get? b = some o
  obj : h'.get? x = some { cls := .ref C, dict := some dx, data := .fields #[.ref t1, .none, .none, .none, .bool false, .none] }
  dbig : h.objs.size ≤ dx
  dne : dx ≠ x
  ns : h'.Ns1 dx (fun y => if y = "reason" then some v else none)
structure Made (h h' : Heap) (e C d : Addr) (v : Value) : Prop where
  keep : ∀ b o, h.get? b = some o → h'.get? b = some o
  new : h.objs.size ≤ e
  obj : ∃ oe vs, h'.get? e = some oe ∧ oe.cls = .ref C ∧ oe.dict = some d ∧ oe.data = .fields vs ∧ vs[1]? = some .none
  dbig : h.objs.size ≤ d
  dne : d ≠ e
  ns : h'.Ns1 d (fun y => if y = "reason" then some v else none)
section
variable {prog : Program} {w : World} {A : Around} {E : Value → Shared → Prop} {R : Result → Shared → Prop} {s : Shared} {K : Frag} {mg mb : Str → Option Value} {C D fI : Addr} {cn : Str}
theorem init_ok (T : RTxt prog K mg cn C D fI) {x t0 : Addr} {v : Value} (X : K.In s.heap) (hlim : s.heap.NoLimit) (hG : s.heap.Ns mainGlobals mg) (hB : s.heap.Ns builtinsNs mb) (hbb : mb "super" = bootBuiltins "super") (hx : s.heap.get? x = some (excO C t0)) (hnx : K.lookup x = none) (hxg : x ≠ mainGlobals) (hxb : x ≠ builtinsNs) (hroom : A.depth < recursionLimit)
    (hq : ∀ h' tk dx t1, InitEnd s.heap h' x C dx t1 v → R (.ok (.ret .none)) { s with heap := h', toks := tk }) :
    codeAny (model prog w) A (.call (.ref fI) ⟨[.ref x, v], []⟩) R s := by
  obtain ⟨oc, od, qual, sc, doc, pm, an, cda, cc, ct, osl, a1, a2, p0, p1, ap, p2, cp, ep, q1, q2, q3, q4, ho, hcd, hsc, hline, ⟨cl, cld, csl, hcell⟩, ccl, cdd, ccs, vs, file, tf, hcode, hvs, hfile⟩ := T.fn
  obtain ⟨nm, q, N, bs, bm, sn, sub, ab, col, dd, k0, k1, k2, k3, k5, hC, hbm⟩ := T.cls
  obtain ⟨cdD, hD⟩ := T.cD
  have hcl : clsIn K C = some { name := nm, bases := bs, mro := .ref C :: bm, ns := N, qualname := q, hasDict := true, slotNames := sn, subclasses := sub, abstract := ab, collection := col, hasDel := false } := by unfold clsIn; rw [hC] <;> rfl
  generalize hmore : sc.more = more at hsc
  subst hsc
  have hbind : ∀ s : Shared, BindsTo s (ksFn "__init__" qual (iA a1 a2) (iB p0 p1 ap p2 cp ep q1 q2 q3 q4) { kind := .function, names := [("self", .local), ("reason", .local), ("__class__", .free), ("super", .globalImplicit)], isGenerator := false, isCoroutine := false, more := more } .none .none doc pm an (.ref cda) ct cc) ⟨[.ref x, v], []⟩ [("self", .ref x), ("reason", v)] :=
    fun s => BindsTo.of_eq (by first | rfl | with_unfolding_all rfl)
  refine ks_codeAny_call_defAt (binds := [("self", .ref x), ("reason", v)]) hroom (X _ _ ho) rfl hlim (codeRec_of X hcd) rfl (hbind _) ?_ ?_ (fun h₁ hns k => ?_) rfl rfl rfl
  · intro y hy
    have hy' : y ∈ ([("self", .local), ("reason", .local), ("__class__", .free), ("super", .globalImplicit)] : List (Str × NameKind)) := hy
    simp only [List.mem_cons, List.not_mem_nil, or_false] at hy'
    rcases hy' with rfl | rfl | rfl | rfl <;> (intro z; cases z)
  · intro y hy
    simp only [List.mem_cons, List.not_mem_nil, or_false] at hy
    rcases hy with rfl | rfl <;> rfl
  have hxL : s.heap.objs.size ≠ x := Nat.ne_of_gt (Heap.lt_size hx)
  have X₁ : K.In h₁ := X.keeps k
  have hx₁ := k _ _ hx
  have hG₁ : h₁.Ns mainGlobals mg := let ⟨o, es, ep', e, dd', r⟩ := hG; ⟨o, es, ep', k _ _ e, dd', r⟩
  have hB₁ : h₁.Ns builtinsNs mb := let ⟨o, es, ep', e, dd', r⟩ := hB; ⟨o, es, ep', k _ _ e, dd', r⟩
  have z : s.heap.objs.size < h₁.objs.size := hns.lt
  obtain ⟨oD, hD1, hD2⟩ : ∃ oD, h₁.get? D = some oD ∧ oD.data = .cls cdD := by
    unfold clsIn at hD
    split at hD
    · rename_i c d cd' sl ho
      cases hD
      exact ⟨_, X₁ _ _ ho, rfl⟩
    · cases hD
  have I₁ : InstAt h₁ x (excO C t0) C none := ⟨hx₁, rfl, rfl, trivial⟩
  -- super().__init__(reason)
  refine ks_wpAt_execs_cons (ks_wpAt_Expr_any ?_ rfl rfl)
  refine ks_wpAt_MethodCall (pl := L2.plainOf (.Call (.Name "super" p0) [] [] p1) (callEnv (ksFn "__init__" qual (iA a1 a2) (iB p0 p1 ap p2 cp ep q1 q2 q3 q4) { kind := .function, names := [("self", .local), ("reason", .local), ("__class__", .free), ("super", .globalImplicit)], isGenerator := false, isCoroutine := false, more := more } .none .none doc pm an (.ref cda) ct cc) s.heap.objs.size fI)) ?_ ?_
  · refine ks_wpAt_super_base (env := ksEnv qual _ s.heap.objs.size fI (.ref cda) cc) rfl rfl rfl rfl (X₁ _ _ ho) rfl rfl rfl (X₁ _ _ hcode) rfl hvs hfile T.top ?_
    refine ks_loadName_global rfl rfl (loadGlobal_builtin (env := ksEnv qual _ s.heap.objs.size fI (.ref cda) cc) hG₁ T.gS hB₁ (hbb.trans (by rfl)) ⟨rfl, ?_⟩)
    refine wpAny_loadName_free rfl rfl rfl ⟨_, X₁ _ _ hcell, rfl⟩ ?_
    refine wpAny_loadName_local (name := "self") rfl rfl hns (v := .ref x) (by first | rfl | with_unfolding_all rfl | kernel_rfl) ?_
    refine ks_wpAny_isType_cls hD1 hD2 ⟨rfl, ?_⟩
    refine ks_wpAny_call_super hD1 hD2 hx₁ rfl (fun c e => by cases e) (looks_mroIn X₁ T.mD) (fun h₂ e₂ k₂ => ?_)
    have X₂ : K.In h₂ := X₁.keeps k₂
    have hsup := T.sup
    unfold ks_superIn at hsup
    rw [hcl] at hsup
    refine kxs_getMethod kxs_ValueError e₂ (looks_opaque X₂ T.op) (l₀ := .ref C :: bm) ?_ rfl X₂ hsup ((show InstAt h₂ x (excO C t0) C none from ⟨k₂ _ _ hx₁, rfl, rfl, trivial⟩).type.andThen (looks_subIn X₂ T.veC)) (ks_ne X₁ I₁ hcl) rfl ?_
    · exact fun A Q E s k q => wpAny_bind ((looks_clsIn X₂ hcl) A _ E s k (wpAny_pure q))
    -- the wrapper called
    have k3 : ∀ b o, h₂.get? b = some o → (h₂.push (kxs_mw "ValueError.__init__" x)).get? b = some o := fun b o e => Heap.get?_push_of_some _ e
    have hu : (h₂.push (kxs_mw "ValueError.__init__" x)).get? h₂.objs.size = some (kxs_mw "ValueError.__init__" x) := Heap.get?_push_at rfl rfl
    refine kxs_callWith (i := "ValueError.__init__") (x := x) rfl ?_
    refine evalArgs_plain (Calls.spliced_cons ?_)
    have hns3 : (h₂.push (kxs_mw "ValueError.__init__" x)).Ns s.heap.objs.size (fun y => ([("self", Value.ref x), ("reason", v)] : List (Str × Value)).reverse.lookup y) := let ⟨o, es, ep', e, dd', r⟩ := hns; ⟨o, es, ep', k3 _ _ (k₂ _ _ e), dd', r⟩
    have hx3 := k3 _ _ (k₂ _ _ hx₁)
    refine wpAny_Name (wpAny_loadName_local (name := "reason") rfl rfl hns3 (v := v) (by first | rfl | with_unfolding_all rfl | kernel_rfl) ?_) (by decide)
    refine Calls.spliced_nil ⟨hu, ?_⟩
    refine ve_call (hC := k3 _ _ (k₂ _ _ (X₁ _ _ hC))) hx3 hu (one_size v) fun h₄ t1 k₄ hx₄ => ?_
    -- self.reason = reason
    have kk : ∀ b o, b ≠ x → h₁.get? b = some o → h₄.get? b = some o := fun b o hb e => k₄ b o hb (k3 _ _ (k₂ _ _ e))
    have X₄ : K.In h₄ := fun a o e => kk a o (fun q => by rw [q, hnx] at e; cases e) (X₁ a o e)
    have hns4 : h₄.Ns s.heap.objs.size (fun y => ([("self", Value.ref x), ("reason", v)] : List (Str × Value)).reverse.lookup y) := let ⟨o, es, ep', e, dd', r⟩ := hns; ⟨o, es, ep', kk _ _ hxL e, dd', r⟩
    refine wpAt_of_wpAny (wpAny_execs_cons (plainObj_wpAny_Assign_Attribute ?_))
    refine wpAny_Name (wpAny_loadName_local (name := "reason") rfl rfl hns4 (v := v) (by first | rfl | with_unfolding_all rfl | kernel_rfl) ?_) (by decide)
    refine wpAny_Name (wpAny_loadName_local (name := "self") rfl rfl hns4 (v := .ref x) (by first | rfl | with_unfolding_all rfl | kernel_rfl) ?_) (by decide)
    refine set_plain X₄ (ox := excO C t1) (od := none) ⟨hx₄, rfl, rfl, trivial⟩ T.sa ?_
    refine exc_osa X₄ hx₄ hcl (show refsVE (.ref C :: bm) = true from hbm) rfl T.noN (fun h₅ tk₅ dx k₅ dn dne hx₅ hn₅ => ?_)
    show wpAny _ _ (execs _ _) _ _ _
    have z4 : s.heap.objs.size < h₄.objs.size := hns4.lt
    exact wpAny_execs_nil (hq h₅ tk₅ dx t1 ⟨fun b o hb e => k₅ b o hb (kk b o hb (k b o e)), hx₅, Nat.le_of_lt (Nat.lt_of_lt_of_le z4 dn), dne, hn₅⟩)
  · show eval _ _ = _
    rw [arm_eval_Call]
    refine congrArg (fun kk => attributeBase _ _ _ _ >>= kk) (funext fun ov => congrArg (fun kk => standAt _ >>= kk) (funext fun _ => ?_))
    exact L2.mcall_line rfl hline
theorem made_ok (T : RTxt prog K mg cn C D fI) {v : Value} (X : K.In s.heap) (hlim : s.heap.NoLimit) (hG : s.heap.Ns mainGlobals mg) (hB : s.heap.Ns builtinsNs mb) (hbb : mb "super" = bootBuiltins "super") (hroom : A.depth + 1 < recursionLimit)
    (hq : ∀ h' tk e d, Made s.heap h' e C d v → R (.ok (.ret (.ref e))) { s with heap := h', toks := tk }) :
    codeAny (model prog w) A (.call (.ref C) ⟨[v], []⟩) R s := by
  obtain ⟨nm, q, N, bs, bm, sn, sub, ab, col, dd, k0, k1, k2, k3, k5, hC, hbm⟩ := T.cls
  obtain ⟨hp, g, dr, tk, os⟩ := s
  have k : ∀ b o, hp.get? b = some o → ((hp.push (kdv_tup [v])).push (excO C hp.objs.size)).get? b = some o := fun b o e => Heap.get?_push_of_some _ (Heap.get?_push_of_some _ e)
  have hget : ((hp.push (kdv_tup [v])).push (excO C hp.objs.size)).get? (hp.objs.size + 1) = some (excO C hp.objs.size) := by heap_get
  have big : ∀ b o, hp.get? b = some o → hp.objs.size + 1 ≠ b := fun b o e z => by
    have := Heap.lt_size e
    rw [← z] at this
    exact absurd this (Nat.not_lt.mpr (Nat.le_succ _))
  have hnx : K.lookup (hp.objs.size + 1) = none := by
    cases e : K.lookup (hp.objs.size + 1) with
    | none => rfl
    | some o => exact absurd rfl (big _ _ (X _ _ e))
  have nsk : ∀ {b : Addr} {m : Str → Option Value}, hp.Ns b m → ((hp.push (kdv_tup [v])).push (excO C hp.objs.size)).Ns b m := fun ⟨o, es, ep', e, dd', r⟩ => ⟨o, es, ep', k _ _ e, dd', r⟩
  have hg1 : hp.objs.size + 1 ≠ mainGlobals := let ⟨o, _, _, e, _⟩ := hG; big _ _ e
  have hb1 : hp.objs.size + 1 ≠ builtinsNs := let ⟨o, _, _, e, _⟩ := hB; big _ _ e
  refine call_own F.excBase_ValueError (fun X => refsVE_contains X bm hbm) (X _ _ hC) (looks_findIn X T.iC) (fun self => bind_fn X self T.tC) (one_size v) ?_
  refine init_ok (s := ⟨(hp.push (kdv_tup [v])).push (excO C hp.objs.size), g, dr, tk, os⟩) T (X.keeps k) (hlim.keeps k) (nsk hG) (nsk hB) hbb hget hnx hg1 hb1 ?_ fun h' tk' dx t1 ⟨k', hx, dn, dne, hns⟩ => ?_
  · show A.depth + 1 < recursionLimit
    exact hroom
  · have old : ∀ b o, hp.get? b = some o → h'.get? b = some o := fun b o e => k' b o (Nat.ne_of_lt (Nat.lt_succ_of_lt (Heap.lt_size e))) (k b o e)
    have z : hp.objs.size + 1 + 1 ≤ dx := by
      first
        | (simpa only [Heap.size_push] using dn)
        | exact dn
        | (have q := dn; rw [Heap.size_push, Heap.size_push] at q; exact q)
    exact ⟨rfl, hq h' tk' (hp.objs.size + 1) dx ⟨old, Nat.le_succ _, ⟨_, _, hx, rfl, rfl, rfl, rfl⟩, Nat.le_trans (Nat.le_trans (Nat.le_succ _) (Nat.le_succ _)) z, dne, hns⟩⟩
end
end InX
end PySem
namespace In
open PySem PySem.Spec PyProof.Rows L2
theorem relO_reason {v : V} {v' : Value} (r : RelV v v') (f : Str) : RelO (List.lookup f [(("reason" : Str), v)]) (if f = "reason" then some v' else none) := by
  by_cases hw : f = "reason"
  · subst hw
    rw [if_pos rfl]
    have q : List.lookup ("reason" : Str) [(("reason" : Str), v)] = some v := by simp [List.lookup]
    rw [q]
    exact r
  · rw [if_neg hw]
    have qw : (f == ("reason" : Str)) = false := by simpa using hw
    have q2 : List.lookup f [(("reason" : Str), v)] = none := by simp [List.lookup, qw]
    rw [q2]
    trivial
/-- cn(e) -/
theorem pmk_reason {X : Cx} {cn : Str} {C D fI : Addr} {e : Expr} {te : TE} {p pos : Pos} (T : PySem.InX.RTxt X.prog X.K X.mg cn C D fI) (hr : X.A.depth + 2 < recursionLimit) (he : PE X e te) (hg : Gl X cn) (hdb : (cn == ("__debug__" : Str)) = false)
    (hs : ∀ es env, starEach (e :: es) env = (false, eval e env) :: starEach es env) : PMk X (.Call (.Name cn p) [e] [] pos) (mkX X.mg cn te) := by
  intro pins s σ H Q I h
  refine wpAny_Call_Name_kw (ld_glob I hg T.gC ?_ hdb)
  refine PySem.W.callWith_K (h₀ := X.base) I.ok.mod.kin T.kC (thn ((pa_cons he pa_nil (hs _ _)).run pos pins s σ H (fun vs H1 => ∃ v, vs = [v] ∧ ∀ C dd H2, X.mg cn = some (.ref C) → (∀ b u, H1 b = some u → H2 b = some u) → H2 dd = some (.xd [(("reason" : Str), v)]) → Q (.ref C) (some dd) H2) I ?_) fun us s1 hh => ?_) (hs _ _) rfl
  · have h' : te σ H fun v H1 => ∀ C dd H2, X.mg cn = some (.ref C) → (∀ b u, H1 b = some u → H2 b = some u) → H2 dd = some (.xd [(("reason" : Str), v)]) → Q (.ref C) (some dd) H2 := h
    show te σ H fun x H1 => ∃ v, [x] = [v] ∧ _
    have key : (fun (v : V) (H1 : Hp) => ∀ (C dd : Addr) (H2 : Hp), X.mg cn = some (.ref C) → (∀ b u, H1 b = some u → H2 b = some u) → H2 dd = some (.xd [(("reason" : Str), v)]) → Q (.ref C) (some dd) H2) = fun (x : V) (H1 : Hp) => ∃ v, ([x] : List V) = [v] ∧ ∀ (C dd : Addr) (H2 : Hp), X.mg cn = some (.ref C) → (∀ b u, H1 b = some u → H2 b = some u) → H2 dd = some (.xd [(("reason" : Str), v)]) → Q (.ref C) (some dd) H2 := by
      funext x H1
      apply propext
      constructor
      · exact fun q => ⟨x, rfl, q⟩
      · rintro ⟨v, e, q⟩
        cases e
        exact q
    rw [← key]
    exact h'
  obtain ⟨vs, H1, I1, r1, v, ev, q1⟩ := hh
  subst ev
  refine ⟨I1.kIn, ?_⟩
  cases r1 with
  | cons rv rn =>
    rename_i v' us'
    cases rn
    show wpAny _ _ (call (.ref C) [v']) _ _ _
    have hlim := I1.nolimit
    have hG : s1.heap.Ns mainGlobals X.mg := let ⟨o, es, ep, e, dd, r⟩ := I1.mod.glob; ⟨o, es, ep, I1.bk _ _ e, dd, r⟩
    obtain ⟨mb, ⟨o, es, ep, e, dd, r⟩, hbb⟩ := I1.mod.blt
    have hB : s1.heap.Ns builtinsNs mb := ⟨o, es, ep, I1.bk _ _ e, dd, r⟩
    obtain ⟨hp, g, dr, tk, os⟩ := s1
    refine wpAny_call (PySem.InX.made_ok T I1.kIn hlim hG hB (hbb _ (by decide)) (by omega) fun h' tk' e d M => ?_)
    show MkP X pins σ Q (.ref e) ⟨h', g, dr, tk', os⟩
    obtain ⟨oe, fv, hoe, hc, hd, hdat, h1⟩ := M.obj
    have hns := M.ns
    obtain ⟨G', g1, g2⟩ := restrict h' fun b => decide (b ≠ e)
    have gk : ∀ b, b ≠ e → G'.get? b = h'.get? b := fun b hb => g1 b (decide_eq_true hb)
    have ge : G'.get? e = none := g2 e (by simp)
    have old : ∀ b o, hp.get? b = some o → G'.get? b = some o := fun b o q => (gk b (Nat.ne_of_lt (Nat.lt_of_lt_of_le (Heap.lt_size q) M.new))).trans (M.keep b o q)
    have ob : ObjOk X.prog X.w (upd H1 d (.xd [(("reason" : Str), v)])) G' d (.xd [(("reason" : Str), v)]) :=
      ⟨_, hns.at (fun o q => (gk d M.dne).trans q), fun f => relO_reason rv f⟩
    have J : Inv X pins σ (upd H1 d (.xd [(("reason" : Str), v)])) ⟨G', g, dr, tk', os⟩ := I1.laid (t' := tk') old M.dbig ob
    have dn : H1 d = none := I1.hok.fresh M.dbig
    refine ⟨e, oe, fv, ⟨G', g, dr, tk', os⟩, _, .ref C, some d, rfl, J, fun b o q => ?_, ge, hoe, ⟨hc, hd⟩, hdat, h1, ?_, rfl, I1.bare, raises_own T.exC T.tyC, q1 C d _ T.gC (fun b u hb => by rw [upd_ne (ne_of_none hb dn)]; exact hb) upd_same⟩
    · by_cases hb : b = e
      · have q' : G'.get? b = some o := q
        rw [hb, ge] at q'; cases q'
      · exact (gk b hb).symm.trans q
    · rw [upd_ne (Ne.symm M.dne)]
      exact I1.hok.fresh M.new
end In
/-! part InQ -/
set_option Elab.async false
set_option linter.all false
set_option maxRecDepth 100000
set_option maxHeartbeats 2000000
/-! What the written part holds, looked up by the kernel. -/
namespace In
open PySem PySem.Spec PyProof.Rows L2
/-! ### constants -/
mutual
def datB (K : Frag) : PyData → Value → Bool
  | .none, .none => true
  | .bool b, .bool c => b == c
  | .int i, .int j _ => decide (i = j)
  | .str x, .str y _ => decide (x = y)
  | .tuple xs, .ref a => (match K.lookup a with
    | some ⟨.type c, _, .seq its _, _⟩ => decide (c = "tuple") && (decide (its.size ≤ sizeLine) && datBs K xs its.toList)
    | _ => false)
  | _, _ => false
def datBs (K : Frag) : List PyData → List Value → Bool
  | [], [] => true
  | x :: xs, u :: us => datB K x u && datBs K xs us
  | _, _ => false
end
mutual
theorem datB_ok {K : Frag} : ∀ {d : PyData} {u : Value}, datB K d u = true → ∃ v, RelV v u ∧ ∀ H, RP K H d v
  | .none, u, h => by
    cases u with
    | none => exact ⟨.non, rfl, fun _ => .non⟩
    | _ => simp [datB] at h
  | .bool b, u, h => by
    cases u with
    | bool c =>
      have e : b = c := by simpa [datB] using h
      exact ⟨.bl b, by rw [e]; rfl, fun _ => .bl b⟩
    | _ => simp [datB] at h
  | .int i, u, h => by
    cases u with
    | int j t =>
      have e : i = j := by simpa [datB] using h
      exact ⟨.int i, ⟨t, by rw [e]⟩, fun _ => .int i⟩
    | _ => simp [datB] at h
  | .str x, u, h => by
    cases u with
    | str y t =>
      have e : x = y := by simpa [datB] using h
      exact ⟨.str x, ⟨t, by rw [e]⟩, fun _ => .str x⟩
    | _ => simp [datB] at h
  | .list _, u, h => by cases u <;> simp [datB] at h
  | .dict _, u, h => by cases u <;> simp [datB] at h
  | .tuple xs, u, h => by
    cases u with
    | ref a =>
      cases q : K.lookup a with
      | none => simp [datB, q] at h
      | some o =>
        obtain ⟨oc, od, dt, osl⟩ := o
        cases oc with
        | type c =>
          cases dt with
          | seq its n =>
            simp only [datB, q, Bool.and_eq_true, decide_eq_true_eq] at h
            obtain ⟨h1, h2, h3⟩ := h
            obtain ⟨vs, rv, rr⟩ := datBs_ok h3
            exact ⟨.ref a, rfl, fun H => .tup (.inr ⟨_, its, n, q, congrArg Value.type h1, rfl, h2, rv⟩) (rr H)⟩
          | _ => simp [datB, q] at h
        | _ => simp [datB, q] at h
    | _ => simp [datB] at h
theorem datBs_ok {K : Frag} : ∀ {ds : List PyData} {us : List Value}, datBs K ds us = true → ∃ vs, Vals vs us ∧ ∀ H, RPs K H ds vs
  | [], [], _ => ⟨[], .nil, fun _ => .nil⟩
  | [], _ :: _, h => by simp [datBs] at h
  | _ :: _, [], h => by simp [datBs] at h
  | d :: ds, u :: us, h => by
    simp only [datBs, Bool.and_eq_true] at h
    obtain ⟨v, r1, q1⟩ := datB_ok h.1
    obtain ⟨vs, r2, q2⟩ := datBs_ok h.2
    exact ⟨v :: vs, .cons r1 r2, fun H => .cons (q1 H) (q2 H)⟩
end
/-- the module's name x holds d -/
def valB (K : Frag) (x : Str) (d : PyData) : Bool := match PySem.W.nsIn K mainGlobals x with
  | some (some u) => datB K d u
  | _ => false
theorem valB_ok {K : Frag} {h : Heap} {mg : Str → Option Value} (X : K.In h) (G : h.Ns mainGlobals mg) {x : Str} {d : PyData} (c : valB K x d = true) : ∃ v u, mg x = some u ∧ RelV v u ∧ ∀ H, RP K H d v := by
  unfold valB at c
  cases e : PySem.W.nsIn K mainGlobals x with
  | none => rw [e] at c; cases c
  | some o =>
    cases o with
    | none => rw [e] at c; cases c
    | some u =>
      rw [e] at c
      obtain ⟨v, r, q⟩ := datB_ok c
      exact ⟨v, u, PySem.W.mg_of X G e, r, q⟩
/-! ### no list stands in the written part -/
def noL : Value → Bool
  | .type n => !decide (n = "list")
  | _ => true
def nolB (K : Frag) : Bool := K.all fun p => noL p.2.cls
theorem mem_lk {β : Type} : ∀ {l : List (Addr × β)} {b : Addr} {o : β}, l.lookup b = some o → (b, o) ∈ l
  | [], _, _, e => by cases e
  | (a, x) :: l, b, o, e => by
    rw [List.lookup_cons] at e
    cases q : (b == a) with
    | true =>
      rw [q] at e
      have e' : x = o := Option.some.inj e
      rw [← e', eq_of_beq q]
      exact List.mem_cons_self
    | false =>
      rw [q] at e
      exact List.mem_cons_of_mem _ (mem_lk e)
theorem nolB_ok {K : Frag} (h : nolB K = true) (b : Addr) (o : Obj) (e : K.lookup b = some o) : o.cls ≠ .type "list" := by
  intro z
  have := List.all_eq_true.mp h (b, o) (mem_lk e)
  rw [show ((b, o) : Addr × Obj).2.cls = Value.type "list" from z] at this
  simp [noL] at this
/-! ### the error classes -/
def xcB (K : Frag) (C : Addr) : Bool := match K.lookup C with
  | some ⟨.type t, _, .cls cd, sl⟩ => (match cd.mro, sl.toList with
    | .ref C' :: bm, [_, _, _, _, some (.builtin n), _] => decide (t = "type") && decide (C' = C) && decide (n = "ValueError.__new__") && !cd.hasDel && cd.hasDict && HandSPX.refsVE bm
    | _, _ => false)
  | _ => false
theorem xcB_ok {K : Frag} {C : Addr} (q : xcB K C = true) : ∃ nm q N bs bm sn sub ab col dd k0 k1 k2 k3 k5, K.lookup C = some (excClassObj nm q C N bs bm true sn sub ab col dd k0 k1 k2 k3 k5 "ValueError.__new__") ∧ HandSPX.refsVE bm = true := by
  unfold xcB at q
  split at q
  · rename_i t dd cd sl ho
    split at q
    · rename_i C' bm k0 k1 k2 k3 n k5 hm hs
      simp only [Bool.and_eq_true, decide_eq_true_eq, Bool.not_eq_true'] at q
      obtain ⟨⟨⟨⟨⟨rfl, rfl⟩, rfl⟩, hdel⟩, hdi⟩, ht⟩ := q
      obtain ⟨nm, bs, mro, ns, qn, hd, sn, sub, ab, col, del⟩ := cd
      dsimp only at hm hdel hdi
      subst hm hdel hdi
      have hsl : sl = #[k0, k1, k2, k3, some (.builtin "ValueError.__new__"), k5] := by
        rw [← Array.toArray_toList (xs := sl), hs]
      subst hsl
      exact ⟨nm, qn, ns, bs, bm, sn, sub, ab, col, dd, k0, k1, k2, k3, k5, ho, ht⟩
    · cases q
  · cases q
def isIA : Arguments → Bool
  | ⟨[], [⟨a, none, _⟩, ⟨b, none, _⟩], none, [], [], none, []⟩ => decide (a = "self") && decide (b = "reason")
  | _ => false
theorem isIA_ok {a : Arguments} (h : isIA a = true) : ∃ p1 p2, a = PySem.InX.iA p1 p2 := by
  unfold isIA at h
  split at h
  · simp only [Bool.and_eq_true, decide_eq_true_eq] at h
    obtain ⟨rfl, rfl⟩ := h
    exact ⟨_, _, rfl⟩
  · cases h
def isIB : List Stmt → Bool
  | [.Expr (.Call (.Attribute (.Call (.Name s _) [] [] _) i ap) [.Name r _] [] cp) _, .Assign [.Attribute (.Name s2 _) r2 _] (.Name r3 _) _] =>
    decide (s = "super") && decide (i = "__init__") && decide (r = "reason") && decide (s2 = "self") && decide (r2 = "reason") && decide (r3 = "reason") && (ap.endLine == cp.line)
  | _ => false
theorem isIB_ok {b : List Stmt} (h : isIB b = true) : ∃ p0 p1 ap p2 cp ep q1 q2 q3 q4, b = PySem.InX.iB p0 p1 ap p2 cp ep q1 q2 q3 q4 ∧ (ap.endLine == cp.line) = true := by
  unfold isIB at h
  split at h
  · simp only [Bool.and_eq_true, decide_eq_true_eq] at h
    obtain ⟨⟨⟨⟨⟨⟨rfl, rfl⟩, rfl⟩, rfl⟩, rfl⟩, rfl⟩, hl⟩ := h
    exact ⟨_, _, _, _, _, _, _, _, _, _, rfl, hl⟩
  · cases h
/-- the class in whose text the function at f stands -/
def dOf (K : Frag) (f : Addr) : Addr := match K.lookup f with
  | some ⟨_, _, .func fd, _⟩ => (match fd.closure with
    | [(_, cc)] => (match K.lookup cc with
      | some ⟨_, _, .cell (some (.ref D)), _⟩ => D
      | _ => 0)
    | _ => 0)
  | _ => 0
def cellB (K : Frag) (cc D : Addr) : Bool := match K.lookup cc with
  | some ⟨_, _, .cell (some (.ref D')), _⟩ => decide (D' = D)
  | _ => false
def fileB (P : Program) (K : Frag) (cda : Addr) : Bool := match K.lookup cda with
  | some ⟨_, _, .fields vs, _⟩ => (match (vs[2]? : Option Value) with
    | some (.str file _) => (P.main.file : Str) == file
    | _ => false)
  | _ => false
def initSc (sc : Scope) : Bool := decide (sc = { kind := .function, names := [("self", .local), ("reason", .local), ("__class__", .free), ("super", .globalImplicit)], isGenerator := false, isCoroutine := false, more := sc.more })
def initB (P : Program) (K : Frag) (f D : Addr) : Bool := match K.lookup f with
  | some ⟨_, _, .func fd, _⟩ => (match fd.closure, fd.code, fd.body, fd.defaults, fd.kwdefaults with
    | [(nm, cc)], .ref cda, .stmts b, .none, .none => decide (nm = "__class__") && decide (fd.name = "__init__") && decide (fd.globals = mainGlobals) && decide (fd.builtins = builtinsNs) && isIA fd.params && isIB b && initSc fd.scope && PySem.W.codeIn K (.ref cda) fd.qualname && cellB K cc D && fileB P K cda
    | _, _, _, _, _ => false)
  | _ => false
theorem initB_ok {P : Program} {K : Frag} {f D : Addr} (h : initB P K f D = true) : ∃ (oc : Value) (od : Option Addr) (qual : Str) (sc : Scope) (doc pm : Value) (an : Option Addr) (cda cc : Addr) (ct : Value) (osl : Array (Option Value)) (a1 a2 p0 p1 ap p2 cp ep q1 q2 q3 q4 : Pos),
    K.lookup f = some ⟨oc, od, .func (PySem.W.ksFn "__init__" qual (PySem.InX.iA a1 a2) (PySem.InX.iB p0 p1 ap p2 cp ep q1 q2 q3 q4) sc .none .none doc pm an (.ref cda) ct cc), osl⟩ ∧ PySem.W.codeIn K (.ref cda) qual = true ∧
    sc = { kind := .function, names := [("self", .local), ("reason", .local), ("__class__", .free), ("super", .globalImplicit)], isGenerator := false, isCoroutine := false, more := sc.more } ∧ (ap.endLine == cp.line) = true ∧
    (∃ cl cld csl, K.lookup cc = some ⟨cl, cld, .cell (some (.ref D)), csl⟩) ∧ ∃ ccl cdd ccs vs file tf, K.lookup cda = some ⟨ccl, cdd, .fields vs, ccs⟩ ∧ vs[2]? = some (.str file tf) ∧ ((P.main.file : Str) == file) = true := by
  unfold initB at h
  split at h
  · rename_i oc od fd osl ho
    split at h
    · rename_i nm cc cda b e1 e2 e3 e4 e5
      simp only [Bool.and_eq_true, decide_eq_true_eq] at h
      obtain ⟨⟨⟨⟨⟨⟨⟨⟨⟨h1, h2⟩, h3⟩, h4⟩, h5⟩, h6⟩, h7⟩, h8⟩, h9⟩, h10⟩ := h
      obtain ⟨n1, n2, n3, n4, n5, n6, n7, n8, n9, n10, n11, n12, n13, n14, n15⟩ := fd
      dsimp only at e1 e2 e3 e4 e5 h1 h2 h3 h4 h5 h6 h7 h8
      subst e1 e2 e3 e4 e5 h1 h2 h3 h4
      obtain ⟨a1, a2, rfl⟩ := isIA_ok h5
      obtain ⟨p0, p1, ap, p2, cp, ep, q1, q2, q3, q4, rfl, hl⟩ := isIB_ok h6
      refine ⟨oc, od, n2, n5, n10, n11, n12, cda, cc, n14, osl, a1, a2, p0, p1, ap, p2, cp, ep, q1, q2, q3, q4, ho, h8, of_decide_eq_true h7, hl, ?_, ?_⟩
      · unfold cellB at h9
        split at h9
        · rename_i cl cld D' csl ho2
          have e := of_decide_eq_true h9
          subst e
          exact ⟨cl, cld, csl, ho2⟩
        · cases h9
      · unfold fileB at h10
        split at h10
        · rename_i ccl cdd vs ccs ho2
          split at h10
          · rename_i file tf ho3
            exact ⟨ccl, cdd, ccs, vs, file, tf, ho2, ho3, h10⟩
          · cases h10
        · cases h10
    · cases h
  · cases h
def rtB (P : Program) (K : Frag) (cn : Str) : Bool :=
  let C := He.ga K cn
  let f := He.ma K C "__init__"
  let D := dOf K f
  He.eqO (PySem.W.nsIn K mainGlobals cn) (some (some (.ref C))) && He.eqO (PySem.W.nsIn K mainGlobals "super") (some none) && xcB K C && He.eqO (PySem.W.findIn K (.ref C) "__setattr__") (some (some (.builtin "object.__setattr__"))) &&
  He.eqO (PySem.W.findIn K (.ref C) "reason") (some none) && He.eqO (PySem.W.findIn K (.ref C) "__init__") (some (some (.ref f))) && decide (PySem.W.typeIn K (.ref f) = some (.type "function")) && PySem.W.keepIn K (.ref C) &&
  decide (PySem.W.subIn K (.ref C) (.type "BaseException") = some true) && decide (PySem.W.typeIn K (.ref C) = some (.type "type")) && decide (PySem.W.subIn K (.ref C) (.type "ValueError") = some true) && He.eqO (PySem.W.nsIn K cStatics "thirdparty.any") (some none) &&
  He.eqO (PySem.W.ks_superIn K C D "__init__") (some (some (.builtin "ValueError.__init__"))) && (PySem.W.clsIn K D).isSome && decide (PySem.W.mroIn K C (.ref D) = some true) && !(P.main.scope.names.lookup ("super" : Str)).isSome && initB P K f D && xfB K C
theorem rtB_ok {P : Program} {K : Frag} {h : Heap} {mg : Str → Option Value} {cn : Str} (X : K.In h) (G : h.Ns mainGlobals mg) (c : rtB P K cn = true) : PySem.InX.RTxt P K mg cn (He.ga K cn) (dOf K (He.ma K (He.ga K cn) "__init__")) (He.ma K (He.ga K cn) "__init__") ∧ XfC K (He.ga K cn) := by
  unfold rtB at c
  simp only [Bool.and_eq_true, decide_eq_true_eq, Bool.not_eq_true'] at c
  obtain ⟨⟨⟨⟨⟨⟨⟨⟨⟨⟨⟨⟨⟨⟨⟨⟨⟨c1, c2⟩, c3⟩, c4⟩, c5⟩, c6⟩, c7⟩, c8⟩, c9⟩, c10⟩, c11⟩, c12⟩, c13⟩, c14⟩, c15⟩, c16⟩, c17⟩, c18⟩ := c
  exact ⟨⟨PySem.W.mg_of X G (He.eqO_ok c1), PySem.W.mg_none_of X G (He.eqO_ok c2), xcB_ok c3, He.eqO_ok c4, He.eqO_ok c5, He.eqO_ok c6, c7, c8, c9, c10, c11, He.eqO_ok c12, He.eqO_ok c13, Option.isSome_iff_exists.mp c14, c15, c16, initB_ok c17⟩, xfB_ok c18⟩
/-- one error class is the other only if it is it -/
def oneB (K : Frag) (ex : List Str) : Bool := ex.all fun c => ex.all fun c' => decide (PySem.W.exmOne K (.ref (He.ga K c)) (.ref (He.ga K c')) = some (decide (c = c')))
theorem exw_of {P : Program} {w : World} {K : Frag} {mg : Str → Option Value} {base : Heap} {ex : List Str} (X : K.In base) (G : base.Ns mainGlobals mg) (h1 : ex.all (rtB P K) = true) (h2 : oneB K ex = true) : ExW P w K mg base ex where
  cls := fun c hc => by
    obtain ⟨T, xf⟩ := rtB_ok X G (List.all_eq_true.mp h1 c hc)
    exact ⟨_, T.gC, xf, T.noN⟩
  one := fun c hc c' hc' C C' e e' => by
    obtain ⟨T, _⟩ := rtB_ok X G (List.all_eq_true.mp h1 c hc)
    obtain ⟨T', _⟩ := rtB_ok X G (List.all_eq_true.mp h1 c' hc')
    have q := of_decide_eq_true (List.all_eq_true.mp (List.all_eq_true.mp h2 c hc) c' hc')
    have e1 := T.gC.symm.trans e
    have e2 := T'.gC.symm.trans e'
    cases e1
    cases e2
    exact q
  make := fun c hc Y hP hw hK hm hb hcalm hr hg hd e te p pos he hs => by
    subst hP hw hK hm hb
    obtain ⟨T, _⟩ := rtB_ok X G (List.all_eq_true.mp h1 c hc)
    exact pmk_reason T (by have := hr.rm.dp; omega) he hg hd hs
/-! ### classes above -/
def isCB (K : Frag) (C : Addr) : Bool := (PySem.W.clsIn K C).isSome && He.eqO (PySem.W.findIn K (.ref C) "__getattribute__") (some (some (.builtin "BaseException.__getattribute__"))) && He.eqO (PySem.W.findIn K (.ref C) "__getattr__") (some none) && decide (PySem.W.subIn K (.ref C) (.type "BaseException") = some true) &&
  He.eqO (PySem.W.findIn K (.ref C) "__class__") (some (some (.builtin "object.__class__"))) && He.eqO (PySem.W.specialIn K (.builtin "object.__class__") "__get__") (some (some (.builtin "getset_descriptor.__get__"))) && decide (PySem.W.takesIn K (.builtin "object.__class__") = some true) && decide (PySem.W.mroIn K C (.type "object") = some true)
theorem isCB_ok {K : Frag} {C : Addr} (c : isCB K C = true) : IsC K C := by
  unfold isCB at c
  simp only [Bool.and_eq_true, decide_eq_true_eq] at c
  obtain ⟨⟨⟨⟨⟨⟨⟨c1, c2⟩, c3⟩, c4⟩, c5⟩, c6⟩, c7⟩, c8⟩ := c
  exact ⟨c1, He.eqO_ok c2, He.eqO_ok c3, c4, He.eqO_ok c5, He.eqO_ok c6, c7, c8⟩
def upB (K : Frag) (ex up : List Str) : Bool := up.all fun t => He.eqO (PySem.W.nsIn K mainGlobals t) (some (some (.ref (He.ga K t)))) && PySem.W.keepIn K (.ref (He.ga K t)) && ex.all fun c => He.eqO (PySem.W.nsIn K mainGlobals c) (some (some (.ref (He.ga K c)))) && isCB K (He.ga K c) && decide (PySem.W.kitOne K (.ref (He.ga K c)) (.ref (He.ga K t)) = some true)
theorem upw_of {K : Frag} {h : Heap} {mg : Str → Option Value} {ex up : List Str} (X : K.In h) (G : h.Ns mainGlobals mg) (c : upB K ex up = true) : UpW K mg ex up := fun t ht => by
  have c1 := List.all_eq_true.mp c t ht
  simp only [Bool.and_eq_true] at c1
  obtain ⟨⟨c1, c2⟩, c3⟩ := c1
  refine ⟨_, PySem.W.mg_of X G (He.eqO_ok c1), c2, fun x hx => ?_⟩
  have c4 := List.all_eq_true.mp c3 x hx
  simp only [Bool.and_eq_true, decide_eq_true_eq] at c4
  exact ⟨_, PySem.W.mg_of X G (He.eqO_ok c4.1.1), isCB_ok c4.1.2, c4.2⟩
/-! ### the hook -/
def ckB (G : Glo) (P : Program) (K : Frag) : Bool := upB K G.excs G.ups && (nolB K && (G.free.all fun x => He.eqO (PySem.W.nsIn K mainGlobals x) (some none)) && (G.vals.all fun p => valB K p.1 p.2) && G.excs.all (rtB P K) && oneB K G.excs && G.defs.all fun p => He.eqO (PySem.W.nsIn K mainGlobals p.1) (some (some (.ref (He.ga K p.1)))))
abbrev AlX : Type := Bool × He.AlD
def obsX (G : Glo) (P : Program) (fn : List He.DefD) (K : Frag) : AlX := (ckB G P K, He.obsD [] fn K)
def valX (fn : List He.DefD) : AlX := (true, He.valD fn)
def obsXG (n : Nat) (G : Glo) (P : Program) (fn : List He.DefD) (g : Addr → Option Obj) : AlX := obsX G P fn (He.frG g (He.asD g n ++ [cStatics]))
def SaysX (G : Glo) (P : Program) (fn : List He.DefD) (K : Frag) : Prop := ckB G P K = true ∧ He.SaysD [] fn K
def hookX (n : Nat) (G : Glo) (P : Program) (fn : List He.DefD) : PySem.W.Hook where
  α := AlX
  obs := fun s => obsXG n G P fn s.heap.get?
  val := fun _ => valX fn
  says := fun _ h => ∃ K : Frag, K.In h ∧ SaysX G P fn K
  of := fun _ _ e => ⟨_, He.frG_in, congrArg (fun z : AlX => z.1) e, congrArg (fun z : AlX => z.2) e⟩
  keeps := fun _ _ _ ⟨K, hK, c⟩ k => ⟨K, PySem.W.Frag.In.keeps hK k, c⟩
theorem obsXG_eq {n : Nat} {G : Glo} {P : Program} {fn : List He.DefD} {g : Addr → Option Obj} {s : Shared} (h : ∀ a, g a = s.heap.get? a) : obsXG n G P fn g = (hookX n G P fn).obs s := by
  have e : g = s.heap.get? := funext h
  rw [e] <;> rfl
section
variable {G : Glo} {P : Program} {fn : List He.DefD} {K : Frag} {h : Heap} {mg : Str → Option Value}
theorem SaysX.parts (c : SaysX G P fn K) : nolB K = true ∧ (∀ x ∈ G.free, He.eqO (PySem.W.nsIn K mainGlobals x) (some none) = true) ∧ (∀ p ∈ G.vals, valB K p.1 p.2 = true) ∧ G.excs.all (rtB P K) = true ∧ oneB K G.excs = true ∧ ∀ p ∈ G.defs, He.eqO (PySem.W.nsIn K mainGlobals p.1) (some (some (.ref (He.ga K p.1)))) = true := by
  have c1 := c.1
  unfold ckB at c1
  simp only [Bool.and_eq_true] at c1
  obtain ⟨_, ⟨⟨⟨⟨c1, c2⟩, c3⟩, c4⟩, c5⟩, c6⟩ := c1
  exact ⟨c1, List.all_eq_true.mp c2, List.all_eq_true.mp c3, c4, c5, List.all_eq_true.mp c6⟩
theorem SaysX.up (c : SaysX G P fn K) : upB K G.excs G.ups = true := by
  have c1 := c.1
  unfold ckB at c1
  rw [Bool.and_eq_true] at c1
  exact c1.1
theorem SaysX.nol (c : SaysX G P fn K) : ∀ b o, K.lookup b = some o → o.cls ≠ .type "list" := nolB_ok c.parts.1
theorem SaysX.wd0 {w : World} {base : Heap} (c : SaysX G P fn K) (X : K.In base) (Gn : base.Ns mainGlobals mg) : Wd0 G P w K mg base where
  free := fun x hx => PySem.W.mg_none_of X Gn (He.eqO_ok (c.parts.2.1 x hx))
  vals := fun x d hx => valB_ok X Gn (c.parts.2.2.1 (x, d) (PySem.mem_of_lookup hx))
  excs := exw_of X Gn c.parts.2.2.2.1 c.parts.2.2.2.2.1
  ups := upw_of X Gn c.up
theorem SaysX.glo (c : SaysX G P fn K) (X : K.In h) (Gn : h.Ns mainGlobals mg) {x : Str} {D : Dfn} (hx : G.defs.lookup x = some D) : mg x = some (.ref (He.ga K x)) := PySem.W.mg_of X Gn (He.eqO_ok (c.parts.2.2.2.2.2 (x, D) (PySem.mem_of_lookup hx)))
end
end In
/-! part InP -/
set_option Elab.async false
set_option linter.all false
set_option maxRecDepth 100000
set_option maxHeartbeats 1000000
/-! More rules: zip, tuple(range(n)), two names at once. -/
namespace In
open PySem PySem.Spec PyProof.Rows L2
section
variable {G : Glo} {c : Cc} {X : Cx} {g : Gx} {k : Nat} {W : Nat}
theorem opt2' {α : Type} {o p : Option PyData} {f : PyData → PyData → Option α} {v : α} (h : (o.bind fun x => p.bind fun y => f x y) = some v) : ∃ x y, o = some x ∧ p = some y ∧ f x y = some v := by
  obtain ⟨x, h1, h⟩ := Option.bind_eq_some_iff.mp h
  obtain ⟨y, h2, h⟩ := Option.bind_eq_some_iff.mp h
  exact ⟨x, y, h1, h2, h⟩
/-- which kind of sequence stands at a -/
theorem sq_kind {K : Frag} {m : Mp} {S : Sto} {H : Hp} {v : Vl} {x : V} {d : PyData} {xs : List PyData} (h : RV K m S H v x) (e : view S v = some d) :
    (d = .list xs → ∃ a, x = .ref a ∧ SqAt K true a xs (guard v) m S H) ∧ (d = .tuple xs → ∃ a, x = .ref a ∧ SqAt K false a xs (guard v) m S H) := by
  cases v with
  | d y =>
    cases e
    constructor
    · rintro rfl
      cases h with
      | lst h r => exact ⟨_, rfl, fun m' S' H' p s _ => ⟨_, (by rw [if_pos rfl]; exact (h.keep p.k).sql), RPs.keep p.k _ _ r⟩⟩
    · rintro rfl
      cases h with
      | tup h r => exact ⟨_, rfl, fun m' S' H' p s _ => ⟨_, (by rw [if_neg Bool.false_ne_true]; exact sqT_keep p.k h), RPs.keep p.k _ _ r⟩⟩
  | loc n =>
    have h0 := h
    obtain ⟨rfl, hl⟩ := h
    have e' : (S[n]?).map (fun c => c.obj.data) = some d := e
    rw [List.getElem?_eq_getElem hl] at e'
    simp only [Option.map_some, Option.some.injEq] at e'
    constructor
    · intro ed
      obtain ⟨l, a, ea, sq⟩ := sq_of (xs := xs) h0 e (by rw [ed]; rfl)
      cases l with
      | true => exact ⟨a, ea, sq⟩
      | false =>
        subst e'
        cases ho : S[n].obj with
        | dct kvs => rw [ho] at ed; cases ed
        | lst ys =>
          rw [ho] at ed
          cases ed
          refine ⟨_, rfl, fun m' S' H' p s ck => ?_⟩
          have ck' : S'[n]? = S[n]? := by
            have := List.all_eq_true.mp ck n (by simp [guard])
            exact of_decide_eq_true this
          rw [List.getElem?_eq_getElem hl] at ck'
          obtain ⟨u, h1, h2⟩ := s.at_ n _ ck'
          rw [ho] at h1
          obtain ⟨vs, rfl, r⟩ := h1
          refine ⟨vs, ?_, r⟩
          rw [if_pos rfl, ← p.map n hl]
          by_cases q : S[n].live = true
          · rw [if_pos q] at h2; exact .inl (.inl h2)
          · rw [if_neg q] at h2; exact .inl (.inr h2)
    · intro ed
      rw [ed] at e'
      cases ho : S[n].obj <;> (rw [ho] at e'; cases e')
theorem si_zip {elts : List Expr} {kk : Nat} {tpos p pos : Pos} {e e' : Expr} {a b : E} (hf : ("zip" : Str) ∈ G.free) (hg : glb c.sc "zip" = true) (ha : SE G c e a) (hb : SE G c e' b) (pl : plainE e = true) (pl' : plainE e' = true) :
    SI G c (.Tuple elts kk tpos) (.Call (.Name "zip" p) [e, e'] [] pos) (.zip a b) := by
  refine ⟨rfl, fun k X g C => (RZ.pi_zipA (C.gl hg) (C.wd.free _ hf) (pa2 (ha k X g C) (hb k X g C) pl pl') (plainE_is pl _ _) (nost_is _ _ (by simp [nost, pl']))).imp fun σ H Rk ⟨ρ, m, S, h, d⟩ => ?_⟩
  refine dE_of h (Den.bind (show Den g _ ((ev g.F a ρ S).bind fun v S1 => (ev g.F b ρ S1).bind fun w S2 => R.opt ((view S2 v).bind fun x => (view S2 w).bind fun y => (zip? x y).map fun zs => (zs, guard v ++ guard w)) S2) m S H _ from d)) fun v m1 S1 H1 p1 s1 d1 x rx => ?_
  refine dE_of (h.to p1 s1) d1.bind fun w m2 S2 H2 p2 s2 d2 y ry => ?_
  obtain ⟨q, e1, d3⟩ := Den.opt d2 s2
  obtain ⟨dx, dy, e2, e3, e4⟩ := opt2' e1
  obtain ⟨zs, e5, rfl⟩ := Option.map_eq_some_iff.mp e4
  have rx2 := rx.post p2
  rw [C.K] at rx2 ry d3 s2
  unfold zip? at e5
  split at e5
  · cases e5
    obtain ⟨a1, rfl, sq1⟩ := (sq_kind rx2 e2).1 rfl
    obtain ⟨a2, rfl, sq2⟩ := (sq_kind ry e3).1 rfl
    obtain ⟨vs, h1, _⟩ := sq1.now s2
    obtain ⟨ws, h2, _⟩ := sq2.now s2
    exact ⟨a1, a2, vs, ws, rfl, .inl ⟨by simpa using h1, by simpa using h2, d3 _ (wk_zip sq1 sq2)⟩⟩
  · cases e5
    obtain ⟨a1, rfl, sq1⟩ := (sq_kind rx2 e2).2 rfl
    obtain ⟨a2, rfl, sq2⟩ := (sq_kind ry e3).2 rfl
    obtain ⟨vs, h1, _⟩ := sq1.now s2
    obtain ⟨ws, h2, _⟩ := sq2.now s2
    exact ⟨a1, a2, vs, ws, rfl, .inr ⟨by simpa using h1, by simpa using h2, d3 _ (wk_zipT sq1 sq2)⟩⟩
  · cases e5
/-! ### tuple(range(n)) -/
theorem upFrom_eq : ∀ (n : Nat) (i : Int), upFrom i n = (List.range n).map fun j => i + (j : Nat)
  | 0, _ => rfl
  | n + 1, i => by
    rw [List.range_succ_eq_map, List.map_cons, List.map_map]
    show i :: upFrom (i + 1) n = _
    rw [upFrom_eq n (i + 1)]
    congr 1
    · simp
    · refine List.map_congr_left fun j _ => ?_
      show i + 1 + (j : Int) = i + ((j + 1 : Nat) : Int)
      omega
theorem rg_rps {K : Frag} {H : Hp} {a b : Int} : RPs K H ((upFrom a (b - a).toNat).map .int) (rgV a b) := by
  have e : rgV a b = (upFrom a (b - a).toNat).map V.int := by
    unfold rgV
    rw [upFrom_eq, List.map_map]
    rfl
  rw [e]
  exact RPs.ofInts _
theorem s_tupRg1 {p p2 pos pos2 : Pos} {e : Expr} {a : E} (hf : ("range" : Str) ∈ G.free) (hg : glb c.sc "range" = true) (hf2 : ("tuple" : Str) ∈ G.free) (hg2 : glb c.sc "tuple" = true) (ha : SE G c e a) (pl : plainE e = true) :
    SE G c (.Call (.Name "tuple" p2) [.Call (.Name "range" p) [e] [] pos] [] pos2) (.seq (.rng1 a)) := fun k X g C =>
  (pe_tupRg C.calm (C.gl hg2) (C.wd.free _ hf2) (prg_1 (C.gl hg) (C.wd.free _ hf) (ha k X g C) (plainE_is pl _ _))).imp fun σ H Q ⟨ρ, m, S, h, d⟩ => by
    simp only [ev, evI, R.bind_assoc] at d
    refine dE_of h d.bind fun v m1 S1 H1 p1 s1 d1 x rx => ?_
    cases v with
    | loc n => exact d1.elim
    | d y =>
      cases y with
      | int i =>
        cases rx
        obtain ⟨q, e1, d2⟩ := Den.opt (Den.bind d1) s1
        obtain ⟨zs, e2, rfl⟩ := Option.map_eq_some_iff.mp e1
        unfold range2 at e2
        split at e2
        · rename_i hr
          cases e2
          simp only [rangeOk, Bool.and_eq_true, decide_eq_true_eq] at hr
          split at d2
          · rename_i hz
            have hz' := of_decide_eq_true hz
            rw [List.length_map, upFrom_len] at hz'
            exact ⟨i, rfl, ⟨hr.1.1, hr.1.2, hr.2.1, hr.2.2, hz'⟩, Rs.tup (Den.data rfl s1 d2) rg_rps⟩
          · exact d2.elim
        · cases e2
      | _ => exact d1.elim
/-! ### a, b = x, y -/
def isStar : Expr → Bool
  | .Starred _ _ => true
  | _ => false
def swapB (c : Cc) (y z : Str) (px py : Pos) (vs : List Expr) : Bool :=
  decide (c.sc.kind = .function) && decide (c.sc.names.lookup y = some .local) && decide (c.sc.names.lookup z = some .local) && (py.line == px.line) && !(z == y) && decide (vs.length = 2) && !(vs.any isStar) && !(vs.all (foldedForSure 8)) && !(vs.all (constantsAlone 8))
theorem swapB_is {y z : Str} {px py pt pt2 : Pos} {kt k2 : Nat} {vs : List Expr} (h : swapB c y z px py vs = true) (env : PySem.Env) (he : env.scope = c.sc) : swappedStores [.Tuple [.Name y px, .Name z py] kt pt] (.Tuple vs k2 pt2) env = pure (some [y, z]) := by
  unfold swapB at h
  simp only [Bool.and_eq_true, decide_eq_true_eq, Bool.not_eq_true'] at h
  obtain ⟨⟨⟨⟨⟨⟨⟨⟨h1, h2⟩, h3⟩, h4⟩, h5⟩, h6⟩, h7⟩, h8⟩, h9⟩ := h
  have b1 : env.blockKind = .function := by unfold Env.blockKind; rw [he, h1]; rfl
  have k1 : env.kindOf y = some .local := by unfold Env.kindOf; rw [he]; exact h2
  have k2' : env.kindOf z = some .local := by unfold Env.kindOf; rw [he]; exact h3
  have hs : (vs.any fun | .Starred .. => true | _ => false) = false := by
    exact (congrArg vs.any (funext fun e => by cases e <;> rfl)).trans h7
  unfold swappedStores
  dsimp only [List.length_cons, List.length_nil, pure_bind]
  rw [if_neg (by simp [b1, h6])]
  refine (if_neg (fun z => Bool.false_ne_true (hs.symm.trans z))).trans ?_
  simp only [List.filterMap_cons, List.filterMap_nil, k1, k2', List.head?_cons, Option.map_some, Option.getD_some, Expr.pos, h4, beq_self_eq_true, Bool.and_self, Bool.true_and, if_true, h8, h9, Bool.false_eq_true, if_false]
  have hd : [y, z].eraseDups = [y, z] := by
    simp [List.eraseDups_cons, h5]
  rw [hd]
  rfl
end
end In
/-! part InY -/
set_option Elab.async false
set_option linter.all false
set_option maxRecDepth 100000
set_option maxHeartbeats 2000000
/-! More rules: several clauses, index, ranges with a step, tuples to tuples. -/
namespace L2
open PySem PySem.Spec PyProof.Rows
/-- what the clauses 'except x as n' wish of an exception of the body, one after the other: slot i is n's -/
def wManyAs (K : PySem.W.Frag) (i : Nat) (Wout : WX) (D : Ends) : List (Value × (Addr → Value → Option Addr → TS)) → WX
  | [] => Wout
  | (c, ts) :: r => fun cls d σ H => ∃ b, PySem.W.exmOne K cls c = some b ∧ (b = true → ∀ a, H a = none → ts a cls d { nx := fun σ' H' => D.nx (σ'.set i none) H', rt := D.rt, bk := fun σ' H' => D.bk (σ'.set i none) H', ct := fun σ' H' => D.ct (σ'.set i none) H' } (σ.set i (some (.ref a))) H) ∧ (b = false → wManyAs K i Wout D r cls d σ H)
inductive HdsAs (X : Cx) (n : Str) : List ExceptHandler → List (Value × (Addr → Value → Option Addr → TS)) → Prop
  | nil : HdsAs X n [] []
  | cons {x : Str} {c : Value} {ts : Addr → Value → Option Addr → TS} {b₀ : Stmt} {suite : List Stmt} {np pos' : Pos} {hds : List ExceptHandler} {l : List (Value × (Addr → Value → Option Addr → TS))} (hc : Names X x c)
      (hsu : ∀ (a : Addr) (oe : Obj) (cls : Value) (d : Option Addr) (pn : List (Addr × Obj)), Zc cls d oe → (∃ vs, oe.data = .fields vs) → PSs (X.suite a ((a, oe) :: pn)) (b₀ :: suite) (ts a cls d)) (r : HdsAs X n hds l) :
      HdsAs X n (.ExceptHandler (some (.Name x np)) (some n) (b₀ :: suite) pos' :: hds) ((c, ts) :: l)
section
variable {X : Cx} {n : Str} {i : Nat} {body : List Stmt} {h₀ : ExceptHandler} {hds : List ExceptHandler} {l : List (Value × (Addr → Value → Option Addr → TS))} {pos : Pos} {tb : WX → TS} {Wout : WX}
theorem ps_try_many_as (hs : X.stack = X.env :: X.outer) (hf : X.env.frame = some X.env.locals) (hN : X.N.Nodup) (hi : X.N[i]? = some n) (hln : X.env.kindOf n = some .local) (tk : Takes X Wout)
    (hb : ∀ (W : WX) (pn : List (Addr × Obj)) (xe : Value → Shared → Prop), Takes (X.tr pn xe) W → PassesOwn (model X.prog X.w) X.A X.env xe → PSs (X.tr pn xe) body (tb W))
    (hh : HdsAs X n (h₀ :: hds) l) : PS X (.Try body (h₀ :: hds) [] [] pos) (fun D σ H => tb (wManyAs X.K i Wout D l) D σ H) := by
  refine ⟨fun pins s σ H D I h => ?_⟩
  have ok := I.ok
  have hfr : X.A.frames = some (X.env :: X.outer) := by rw [ok.frames, hs]
  have hloc : Loc X.env.scope n := .inl hln
  refine wpAny_Try_except ?_
  refine wpAny_mono ((hb (wManyAs X.K i Wout D l) (X.pn ++ pins) (fun e s₁ => wpAny (model X.prog X.w) X.A (noteFrame e X.env) (fun _ s₂ => wpAny (model X.prog X.w) X.A (setFlight e none) (fun _ s₃ =>
    wpAny (model X.prog X.w) X.A (handleBy e X.env (h₀ :: hds)) (SP X pins D) X.xe s₃) X.xe s₂) X.xe s₁) (fun u s' xx => ?_) PassesOwn.looking).run [] s σ H D (I.toTry _) h) (fun f s1 hsp => ?_) (fun e s1 he => he)
  · -- the catch
    obtain ⟨a, B, sI, pins', σ', H', cls, d, rfl, J', nb, up, sky, na, os, ag, w⟩ := xx
    have J : Inv X pins σ' H' sI := J'.ofTry ok
    have sky' : Sky B (X.env :: X.outer) a (Zc cls d) X.env.locals s'.heap := by rw [← hs]; exact sky
    show wpAny (model X.prog X.w) X.A (noteFrame (.ref a) X.env) _ _ _
    refine Sky.land Zc.steady hfr hf sky' fun h3 fl3 up3 => ?_
    have J3 : Inv X pins σ' H' { s' with heap := h3 } := J.landed nb fl3.1 (up.trans up3) os ag
    obtain ⟨oe3, vs3, he3, hz3, hd3⟩ := fl3.there
    have notFr : ∀ {h : Heap} {o : Obj} {vs : Array Value}, h.FunFrames B (X.env :: X.outer) → h.get? a = some o → o.data = .fields vs → a ∉ frs (X.env :: X.outer) := fun {h o vs} ff e dd hm => by
      obtain ⟨_, o', e', hnf⟩ := ff.mem hm
      rw [e] at e'; cases e'
      exact hnf _ dd
    have nfr := notFr fl3.2.2.1 he3 hd3
    have nL : a ≠ X.env.locals := fun z => nfr (List.mem_filterMap.mpr ⟨X.env, List.mem_cons_self, by rw [hf, z]⟩)
    have nF : a ∉ X.fs := fun hm => by
      obtain ⟨e, he, q⟩ := List.mem_filterMap.mp hm
      exact nfr (List.mem_filterMap.mpr ⟨e, List.mem_cons_of_mem _ he, q⟩)
    have S3 := J3.suite he3 hd3 na nL nF
    have go : ∀ {hds' : List ExceptHandler} {l' : List (Value × (Addr → Value → Option Addr → TS))}, HdsAs X n hds' l' → wManyAs X.K i Wout D l' cls d σ' H' →
        wpAny (model X.prog X.w) X.A (handleBy (.ref a) X.env hds') (SP X pins D) X.xe { s' with heap := h3 } := by
      intro hds' l' hk
      induction hk with
      | nil =>
        intro w
        refine wpAny_handleBy_nil ?_
        obtain ⟨k1, k2, k3, oe, vs, T, oT, ts', he, hz, hd, h1, hr⟩ := id fl3
        unfold PySem.passOn
        refine wpAny_bind (wpAny_field he hd h1 ?_)
        rw [if_neg (show ¬ ((Value.ref T == Value.none) = true) from by simp)]
        have fin : wpAny (model X.prog X.w) X.A (setFlight (.ref a) X.env.frame) (fun _ s4 => wpAny (model X.prog X.w) X.A (throw (.ref a) : Sem Flow) (SP X pins D) X.xe s4) X.xe { s' with heap := h3 } := by
          rw [hf]
          refine HandSPX.setFlight_upZ fl3 fun h4 hh4 up4 => wpAny_throw (tk _ _ ?_)
          exact ⟨a, B, sI, pins, σ', H', cls, d, rfl, J, nb, (up.trans up3).trans up4, .inr (.inr (by rw [hs]; exact hh4)), na, os, ag, w⟩
        first
          | exact wpAny_bind (wpAny_pure (wpAny_bind fin))
          | exact wpAny_bind fin
      | @cons x c ts b₀ suite np pos' hds2 l2 hc hsu r ih =>
        intro w
        obtain ⟨b, hb1, hyes, hno⟩ := w
        refine wpAny_handleBy_cons (codeAny_handlers_test ?_) (by intro q; cases q)
        have LT : PySem.W.Looks (model X.prog X.w) h3 (typeOf (.ref a)) cls := fun A Q E s k q => wpAny_typeOf_ref (k _ _ he3) (by rw [hz3.1]; exact q)
        have LM := PySem.W.exm_one (M := model X.prog X.w) (J3.kIn) LT hb1
        have test : ∀ {Q : Value → Shared → Prop} {E : Value → Shared → Prop}, Q c { s' with heap := h3 } → wpAny (model X.prog X.w) (X.A.mark (some (.ref a))) (eval (.Name x np) X.env) Q E { s' with heap := h3 } := fun {Q E} q => by
          obtain ⟨hg, hdbg, hm | ⟨hm, hv, hnn⟩⟩ := hc
          · exact ld_glob (X := X.suite a ((a, oe3) :: (X.pn ++ pins))) S3 hg hm q hdbg
          · exact ld_blt (X := X.suite a ((a, oe3) :: (X.pn ++ pins))) S3 hg hm hv q hnn hdbg
        refine test (LM.here ?_)
        cases b with
        | true =>
          refine codeAny_handlers_suite_as ?_
          refine HandSPX.lands_againZ fl3 fun h4 fl4 up4 => ?_
          have J4 : Inv X pins σ' H' { s' with heap := h4 } := J.landed nb fl4.1 ((up.trans up3).trans up4) os ag
          obtain ⟨oe4, vs4, he4, hz4, hd4⟩ := fl4.there
          have S4 := J4.suite he4 hd4 na nL nF
          refine store_ok (X := X.suite a ((a, oe4) :: (X.pn ++ pins))) (v := .ref a) S4 hN hi hloc rfl (fun s5 S5 => ?_) (.inr hln)
          refine wpAny_mono ((hsu a oe4 cls d (X.pn ++ pins) hz4 ⟨_, hd4⟩).run [] s5 _ H' _ S5 (hyes rfl a na)) (fun f s6 hsp => ?_) (fun _ _ z => False.elim z)
          have end_ : ∀ {σ6 : St} {H6 : Hp} {Q : Shared → Prop}, Inv (X.suite a ((a, oe4) :: (X.pn ++ pins))) [] σ6 H6 s6 → (∀ s7, Inv X pins (σ6.set i none) H6 s7 → Q s7) →
              wpAny (model X.prog X.w) X.A (do bindName X.env n .none; unbindBehindTheSuite X.env n pos') (fun _ s7 => Q s7) X.xe s6 := fun {σ6 H6 Q} S6 hq => gone_ok (S6.unsuite ok) hN hi hln hq
          cases f with
          | next =>
            obtain ⟨σ6, H6, S6, q6⟩ := hsp
            exact end_ S6 fun s7 J7 => ⟨_, _, J7, q6⟩
          | brk =>
            obtain ⟨σ6, H6, S6, q6⟩ := hsp
            exact end_ S6 fun s7 J7 => ⟨_, _, J7, q6⟩
          | cont =>
            obtain ⟨σ6, H6, S6, q6⟩ := hsp
            exact end_ S6 fun s7 J7 => ⟨_, _, J7, q6⟩
          | ret u =>
            obtain ⟨v6, σ6, H6, S6, r6, q6⟩ := hsp
            exact end_ S6 fun s7 J7 => ⟨_, _, _, J7, r6, q6⟩
        | false =>
          show wpAny _ X.A (handleBy (.ref a) X.env hds2) _ _ _
          exact ih (hno rfl)
    exact go hh w
  · cases f with
    | next =>
      obtain ⟨σ', H', J', q⟩ := hsp
      exact wpAny_execs_nil ⟨σ', H', J'.ofTry ok, q⟩
    | brk =>
      obtain ⟨σ', H', J', q⟩ := hsp
      exact ⟨σ', H', J'.ofTry ok, q⟩
    | cont =>
      obtain ⟨σ', H', J', q⟩ := hsp
      exact ⟨σ', H', J'.ofTry ok, q⟩
    | ret u =>
      obtain ⟨v, σ', H', J', r, q⟩ := hsp
      exact ⟨v, σ', H', J'.ofTry ok, r, q⟩
end
/-- isinstance(e, c), e the exception that the suite holds, with a dict -/
def rIsX (K : PySem.W.Frag) (D a : Addr) : List V → Hp → VK → Prop := fun xs H Q => ∃ (c : V) (cv : Value) (b : Bool), xs = [.ref a, c] ∧ (∀ u, RelV c u → u = cv) ∧ PySem.W.kitOne K (.ref D) cv = some b ∧ Q (.bl b) H
theorem call_isX {X : Cx} {a D : Addr} {oe : Obj} {cls : Value} {d : Option Addr} {pn : List (Addr × Obj)} (C : In.IsC X.K D) (hz : Zc cls d oe) (hf : ∃ vs, oe.data = .fields vs) : CallR (X.suite a ((a, oe) :: pn)) (.builtin "isinstance") (fun xs H Q => (cls = .ref D ∧ ∃ dd fs, d = some dd ∧ H dd = some (.xd fs)) ∧ rIsX X.K D a xs H Q) := by
  intro pins s σ H xs us Q I r h
  obtain ⟨⟨ecls, dd, fs, ed, hfs⟩, c, cv, b, rfl, hcv, e, q⟩ := h
  subst ecls ed
  cases r with
  | cons rx rr =>
    cases rr with
    | cons rt rr =>
      cases rr
      cases rx
      have ec := hcv _ rt
      subst ec
      obtain ⟨hget, _⟩ := I.pin (a, oe) (List.mem_append.mpr (.inl List.mem_cons_self))
      obtain ⟨vs, hv⟩ := hf
      have hx : ObjOk X.prog X.w H s.heap dd (.xd fs) := I.hok dd _ hfs
      obtain ⟨mA, hns, hr⟩ := hx
      obtain ⟨od, ho, hl⟩ := lookIn_ns hns
      have J : PySem.W.InstAt s.heap a oe D (some od) := ⟨hget, hz.1, by unfold PySem.W.notCls; rw [hv] <;> rfl, by rw [hz.2]; exact ho⟩
      exact PySem.W.kia_one (PySem.W.kitx_exc (gt := none) C.hcl C.hga C.hgt C.hsub C.ha C.hn C.htk C.hm) I.kIn J e (fun z => nomatch z) fun tk => ⟨.bl b, H, I.kept (t' := tk) fun _ _ z => z, rfl, q⟩
end L2
namespace In
open PySem PySem.Spec PyProof.Rows L2
section
variable {G : Glo} {c : Cc} {X : Cx} {g : Gx} {k : Nat} {W : Nat}
/-! ### several clauses -/
inductive HdsC (G : Glo) (c : Cc) (n : Str) : List ExceptHandler → List (Str × Str) → Prop
  | nil : HdsC G c n [] []
  | pl {x tag : Str} {j1 j2 : Nat} {np ep ap tp rp pos' p1 : Pos} {hds : List ExceptHandler} {l : List (Str × Str)} (hc : x ∈ G.excs) (hg : glb c.sc x = true) (r : HdsC G c n hds l) :
      HdsC G c n (.ExceptHandler (some (.Name x np)) (some n) [.Return (some (.Tuple [.Constant (.str tag) j1 p1, .Attribute (.Name n ep) "reason" ap] j2 tp)) rp] pos' :: hds) ((x, tag) :: l)
  | up {x tag t : Str} {j1 j2 : Nat} {np ep ap tp rp pos' p1 ip ep2 tp2 cp fp : Pos} {hds : List ExceptHandler} {l : List (Str × Str)} (hc : x ∈ G.excs) (hg : glb c.sc x = true) (ht : t ∈ G.ups) (hgt : glb c.sc t = true) (hfi : ("isinstance" : Str) ∈ G.free) (hgi : glb c.sc "isinstance" = true) (r : HdsC G c n hds l) {jj : Nat} {ps : Pos} {sx : Str} :
      HdsC G c n (.ExceptHandler (some (.Name x np)) (some n) [.Return (some (.IfExp (.Call (.Name "isinstance" ip) [.Name n ep2, .Name t tp2] [] cp) (.Tuple [.Constant (.str tag) j1 p1, .Attribute (.Name n ep) "reason" ap] j2 tp) (.Constant (.str sx) jj ps) fp)) rp] pos' :: hds) ((x, tag) :: l)
theorem caught_hd {x tag cn : Str} {l : List (Str × Str)} {y : PyData} {S1 : Sto} (h : cn = x) : caught ((x, tag) :: l) cn y S1 = R.ok (.rt (.tuple [.str tag, y])) S1 := by
  subst h
  unfold caught
  rw [show List.lookup cn ((cn, tag) :: l) = some tag from by simp [List.lookup]]
theorem caught_tl {x tag cn : Str} {l : List (Str × Str)} {y : PyData} {S1 : Sto} (h : ¬ cn = x) : caught ((x, tag) :: l) cn y S1 = caught l cn y S1 := by
  unfold caught
  rw [show List.lookup cn ((x, tag) :: l) = List.lookup cn l from by simp only [List.lookup_cons, beq_eq_false_iff_ne.mpr h]]
theorem hds_ok {n : Str} {i : Nat} (C : Ctx G c X g k) (hi : c.N[i]? = some n) (hn : c.sc.names.lookup n = some .local) (h3 : (n == ("__debug__" : Str)) = false) (h4 : (n == ("__classdict__" : Str)) = false) {hds : List ExceptHandler} {l : List (Str × Str)} (hh : HdsC G c n hds l) :
    ∃ lv, HdsAs X n hds lv ∧ ∀ (D : Ends) (m : Mp) (S : Sto) (H : Hp) (cn : Str) (y : PyData) (S1 : Sto) (m1 : Mp) (H1 : Hp) (cls : Value) (dd : Option Addr) (σ' : L2.St), σ'.length = c.N.length → Post m S H m1 S1 H1 → Sok g.K m1 S1 H1 → Exc g.K g.mg g.ex H1 cn y cls dd → Den g c.N.length (caught l cn y S1) m S H (QF g c.N.length D) → wManyAs X.K i g.W D lv cls dd σ' H1 := by
  have hN : X.N[i]? = some n := by rw [C.N]; exact hi
  have hnl : X.env.scope.names.lookup n = some .local := by rw [C.sc]; exact hn
  induction hh with
  | nil => exact ⟨[], .nil, fun D m S H cn y S1 m1 H1 cls dd σ' hl p1 s1 exc d => d m1 H1 cls dd σ' hl p1 s1 exc⟩
  | @pl x tag j1 j2 np ep ap tp rp pos' p1 hds l hc hg r ih =>
    obtain ⟨lv, h1, h2⟩ := ih
    obtain ⟨Ca, hm, T, hno⟩ := C.wd.excs.cls x hc
    refine ⟨(.ref Ca, fun a cls d => tRet (tTup (tCons (tC (.str tag)) (tCons (tXf a cls d Ca "reason" (tVar i)) tNil)))) :: lv, .cons ⟨C.gl hg, (glb_is hg).2, .inl hm⟩ (fun a oe cls d pn hz hf => pss_one (ps_ret (pe_tup (pa_cons pe_str (pa_cons (pe_xf T hno hz hf (pe_var (X := X.suite a ((a, oe) :: pn)) hN (.inl hnl) h3 h4)) pa_nil))))) h1, ?_⟩
    intro D m S H cn y S1 m1 H1 cls dd σ' hl p1 s1 exc d
    obtain ⟨C0, dx, v, hcn, rfl, hm0, rfl, hdx, rv⟩ := id exc
    rw [C.mg] at hm0
    rw [C.ex] at hcn
    refine ⟨decide (cn = x), C.wd.excs.one cn hcn x hc C0 Ca hm0 hm, fun hb a na => ?_, fun hb => ?_⟩
    · have ecx : cn = x := of_decide_eq_true hb
      rw [caught_hd ecx] at d
      subst ecx
      have eC : C0 = Ca := by rw [hm0] at hm; cases hm; rfl
      subst eC
      have hil : i < σ'.length := by
        rw [hl]
        exact (List.getElem?_eq_some_iff.mp hi).1
      refine ⟨.ref a, List.getElem?_set_self hil, rfl, rfl, dx, _, v, rfl, hdx, by simp [List.lookup], ?_⟩
      show 2 ≤ sizeLine ∧ _
      refine ⟨by decide, fun p hp => ?_⟩
      have pn : Post m1 S1 H1 m1 S1 (upd H1 p (.tup [.str tag, v])) := post_new hp
      exact d m1 _ (p1.trans s1 pn) (s1.new hp) (.ref p) (.tup (SqT.of upd_same) (.cons (.str _) (.cons (RP.keep (keeps_new hp) _ _ rv) .nil)))
    · rw [caught_tl (of_decide_eq_false hb)] at d
      exact h2 D m S H cn y S1 m1 H1 _ _ σ' hl p1 s1 exc d
  | @up x tag t j1 j2 np ep ap tp rp pos' p1 ip ep2 tp2 cp fp hds l hc hg ht hgt hfi hgi r jj ps sx ih =>
    obtain ⟨lv, h1, h2⟩ := ih
    obtain ⟨Ca, hm, T, hno⟩ := C.wd.excs.cls x hc
    obtain ⟨TA, hmt, kpt, hup⟩ := C.wd.ups t ht
    obtain ⟨Ca', hm', isC, kit⟩ := hup x hc
    have eCa : Ca' = Ca := by rw [hm] at hm'; cases hm'; rfl
    subst eCa
    have xv : ∀ a oe pn, PE (X.suite a ((a, oe) :: pn)) (.Name n ep2) (tVar i) := fun a oe pn => pe_var (X := X.suite a ((a, oe) :: pn)) hN (.inl hnl) h3 h4
    have xv' : ∀ a oe pn, PE (X.suite a ((a, oe) :: pn)) (.Name n ep) (tVar i) := fun a oe pn => pe_var (X := X.suite a ((a, oe) :: pn)) hN (.inl hnl) h3 h4
    refine ⟨(.ref Ca', fun a cls d => tRet (tIf (fun σ H Q => tCB (fun xs H Q => (cls = .ref Ca' ∧ ∃ dd fs, d = some dd ∧ H dd = some (.xd fs)) ∧ rIsX X.K Ca' a xs H Q) (tCons (tVar i) (tCons (tC (.ref TA)) tNil)) σ H fun x H' => ∃ k, TruV X.K x H' k ∧ Q k H') (tTup (tCons (tC (.str tag)) (tCons (tXf a cls d Ca' "reason" (tVar i)) tNil))) (tC (.str sx)))) :: lv, .cons ⟨C.gl hg, (glb_is hg).2, .inl hm⟩ (fun a oe cls d pn hz hf => pss_one (ps_ret (pe_ifExp
      (pt_truth (pe_callB (call_isX isC hz hf) (C.gl hgi) (C.wd.free _ hfi) rfl (pa_cons (xv a oe pn) (pa_cons (pe_glob (X := X.suite a ((a, oe) :: pn)) (C.gl hgt) hmt (v := .ref TA) rfl (glb_is hgt).2) pa_nil))) (plainT_is rfl X.env))
      (pe_tup (pa_cons pe_str (pa_cons (pe_xf T hno hz hf (xv' a oe pn)) pa_nil))) pe_str))) h1, ?_⟩
    intro D m S H cn y S1 m1 H1 cls dd σ' hl p1 s1 exc d
    obtain ⟨C0, dx, v, hcn, rfl, hm0, rfl, hdx, rv⟩ := id exc
    rw [C.mg] at hm0
    rw [C.ex] at hcn
    refine ⟨decide (cn = x), C.wd.excs.one cn hcn x hc C0 Ca' hm0 hm, fun hb a na => ?_, fun hb => ?_⟩
    · have ecx : cn = x := of_decide_eq_true hb
      rw [caught_hd ecx] at d
      subst ecx
      have eC : C0 = Ca' := by rw [hm0] at hm; cases hm; rfl
      subst eC
      have hil : i < σ'.length := by
        rw [hl]
        exact (List.getElem?_eq_some_iff.mp hi).1
      refine ⟨.ref a, List.getElem?_set_self hil, ⟨rfl, dx, _, rfl, hdx⟩, .ref TA, .ref TA, true, rfl, fun u hu => hu, kit, true, rfl, ?_⟩
      refine ⟨.ref a, List.getElem?_set_self hil, rfl, rfl, dx, _, v, rfl, hdx, by simp [List.lookup], ?_⟩
      show 2 ≤ sizeLine ∧ _
      refine ⟨by decide, fun p hp => ?_⟩
      have pn : Post m1 S1 H1 m1 S1 (upd H1 p (.tup [.str tag, v])) := post_new hp
      exact d m1 _ (p1.trans s1 pn) (s1.new hp) (.ref p) (.tup (SqT.of upd_same) (.cons (.str _) (.cons (RP.keep (keeps_new hp) _ _ rv) .nil)))
    · rw [caught_tl (of_decide_eq_false hb)] at d
      exact h2 D m S H cn y S1 m1 H1 _ _ σ' hl p1 s1 exc d
theorem s_tryM {n : Str} {i : Nat} {pos : Pos} {body : List Stmt} {b : Cs} {h₀ : ExceptHandler} {hds : List ExceptHandler} {l : List (Str × Str)} (hi : c.N[i]? = some n) (hn : c.sc.names.lookup n = some .local) (h3 : (n == ("__debug__" : Str)) = false) (h4 : (n == ("__classdict__" : Str)) = false) (hb : SSs G c W body b) (hh : HdsC G c n (h₀ :: hds) l) :
    SS G c W (.Try body (h₀ :: hds) [] [] pos) (.tryS b l) := fun k X g C CS => by
  obtain ⟨lv, q1, q2⟩ := hds_ok C hi hn h3 h4 hh
  have hN : X.N[i]? = some n := by rw [C.N]; exact hi
  have hnl : X.env.scope.names.lookup n = some .local := by rw [C.sc]; exact hn
  have h1 := ps_try_many_as (pos := pos) (X := X) CS.stk CS.fr (by rw [C.N]; exact C.nd) hN hnl CS.tk
    (tb := fun W' => dSs ⟨g.K, g.mg, W', g.F, g.ex⟩ c.N.length W b) (fun W' pn xe tk po => hb k _ _ (C.tr pn xe tk) ⟨po, tk, CS.stk, CS.fr⟩) q1
  refine h1.imp fun D σ H ⟨ρ, m, S, h, d⟩ => ⟨ρ, m, S, ⟨h.len, h.env, h.sok⟩, ?_⟩
  simp only [x1] at d
  cases e : xs g.F W b ρ S with
  | no => rw [e] at d; exact d.elim
  | ok fl S1 =>
    rw [e] at d
    intro m1 H1 p1 s1
    have d1 := d m1 H1 p1 s1
    cases fl <;> exact d1
  | ex cn y S1 =>
    rw [e] at d
    simp only at d
    intro m1 H1 cls dd σ' hl p1 s1 exc
    exact q2 D m S H cn y S1 m1 H1 cls dd σ' hl p1 s1 exc d
/-! ### ranges with a step -/
theorem stepFrom_len (c : Int) : ∀ (n : Nat) (i : Int), (stepFrom i c n).length = n
  | 0, _ => rfl
  | n + 1, i => congrArg (· + 1) (stepFrom_len c n (i + c))
theorem stepFrom_at (c : Int) : ∀ (n : Nat) (i : Int) (j : Nat), j < n → (stepFrom i c n)[j]? = some (i + j * c)
  | 0, _, _, h => by omega
  | n + 1, i, 0, _ => by simp [stepFrom]
  | n + 1, i, j + 1, h => by
    have := stepFrom_at c n (i + c) j (by omega)
    simp only [stepFrom, List.getElem?_cons_succ, this]
    congr 1
    rw [Int.natCast_add, Int.add_mul]
    omega
theorem wk_rngC {K : Frag} {lo c : Int} {n : Nat} {m : Mp} {S : Sto} {H : Hp} : Wk K ((stepFrom lo c n).map .int, []) m S H (Itc lo c n) := by
  refine ⟨fun _ => True, YFn fun i => .int (lo + (i : Nat) * c), ?_, fun _ _ _ _ _ _ => trivial, fun i x m' S' H' H'' hi p s ck y => ?_⟩
  · show Walk _ ((stepFrom lo c n).map PyData.int).length _ _
    rw [List.length_map, stepFrom_len]
    exact walk_rangeC
  · obtain ⟨rfl, rfl⟩ := y
    have hi' : i < ((stepFrom lo c n).map PyData.int).length := hi
    rw [List.length_map, stepFrom_len] at hi'
    exact ⟨.int (lo + i * c), by rw [List.getElem?_map, stepFrom_at c n lo i hi']; rfl, .refl, .int _⟩
theorem size_nonneg (a b c : Int) (hc : c ≠ 0) : 0 ≤ Builtin.Range.rangeSize a b c := by
  unfold Builtin.Range.rangeSize
  split
  · split
    · have := Int.ediv_nonneg (a := b - a - 1) (b := c) (by omega) (by omega); omega
    · omega
  · split
    · have := Int.ediv_nonneg (a := a - b - 1) (b := -c) (by omega) (by omega); omega
    · omega
theorem pa3 {e e' e'' : Expr} {a a' a'' : E} {n : Nat} (h : PE X e (dE g n a)) (h' : PE X e' (dE g n a')) (h'' : PE X e'' (dE g n a'')) (p : plainE e = true) (p' : plainE e' = true) (p'' : plainE e'' = true) : PA X [e, e', e''] (fun σ H Q => dE g n a σ H fun x H1 => dE g n a' σ H1 fun y H2 => dE g n a'' σ H2 fun z H3 => Q [x, y, z] H3) :=
  pa_cons h (pa2 h' h'' p' p'') (plainE_is p _ _)
theorem si_rng3 {tg : Expr} {p pos : Pos} {e e' e'' : Expr} {a b d : E} (hf : ("range" : Str) ∈ G.free) (hg : glb c.sc "range" = true) (ha : SE G c e a) (hb : SE G c e' b) (hd : SE G c e'' d) (pl : plainE e = true) (pl' : plainE e' = true) (pl'' : plainE e'' = true) : SI G c tg (.Call (.Name "range" p) [e, e', e''] [] pos) (.rng3 a b d) := by
  refine ⟨rfl, fun k X g C => (pi_range3 (C.gl hg) (C.wd.free _ hf) (pa3 (ha k X g C) (hb k X g C) (hd k X g C) pl pl' pl'') (plainE_is pl _ _) (nost_is pos X.env (es := [e', e'']) (by simp [nost, pl', pl'']))).imp fun σ H Rk ⟨ρ, m, S, h, d⟩ => ?_⟩
  simp only [evI] at d
  refine dE_of h d.bind fun v m1 S1 H1 p1 s1 d1 x rx => ?_
  refine dE_of (h.to p1 s1) d1.bind fun w m2 S2 H2 p2 s2 d2 y ry => ?_
  refine dE_of ((h.to p1 s1).to p2 s2) d2.bind fun u m3 S3 H3 p3 s3 d3 z rz => ?_
  split at d3
  · rename_i i j kk
    cases rx
    cases ry
    cases rz
    obtain ⟨q, e1, d4⟩ := Den.opt d3 s3
    obtain ⟨xs, e2, rfl⟩ := Option.map_eq_some_iff.mp e1
    unfold range3 at e2
    split at e2
    · rename_i hr
      cases e2
      simp only [Bool.and_eq_true, decide_eq_true_eq] at hr
      exact ⟨i, j, kk, (Builtin.Range.rangeSize i j kk).toNat, rfl, ⟨hr.1.1, hr.1.2, hr.2, by have := size_nonneg i j kk hr.1.1; omega⟩, d4 _ wk_rngC⟩
    · cases e2
  · exact d3.elim
/-! ### xs.index(y) -/
theorem findIx_is {y : PyData} : ∀ {xs : List PyData} {n : Nat}, findIx y xs = some n → ∃ z, xs[n]? = some z ∧ PyData.eqv z y = true ∧ ∀ (m : Nat) (z' : PyData), m < n → xs[m]? = some z' → PyData.eqv z' y = false
  | [], _, h => by cases h
  | x :: r, n, h => by
    unfold findIx at h
    split at h
    · rename_i e
      cases h
      exact ⟨x, rfl, e, fun m z' hm _ => by omega⟩
    · rename_i e
      obtain ⟨n', h1, rfl⟩ := Option.map_eq_some_iff.mp h
      obtain ⟨z, q1, q2, q3⟩ := findIx_is h1
      refine ⟨z, by simpa using q1, q2, fun m z' hm hz => ?_⟩
      cases m with
      | zero =>
        have : x = z' := by simpa using hz
        subst this
        simpa using e
      | succ m => exact q3 m z' (by omega) (by simpa using hz)
theorem s_index {o e : Expr} {a d : E} {apos cpos : Pos} (ho : SE G c o a) (he : SE G c e d) (pl : plainE e = true) (pc : noCall o = true) (hl : (apos.endLine == cpos.line) = true) : SE G c (.Call (.Attribute o "index" apos) [e] [] cpos) (.idx a d) := fun k X g C =>
  (pe_bm F.plainAttrs_list F.slot_list_index F.type_list_index (mt_indexD C.rm.u65) (ho k X g C) (pa_cons (he k X g C) pa_nil (plainE_is pl _ _)) (noCall_is pc _ _ _) (by rw [plainE_is pl]; rfl) hl (plainE_is pl _ _)).imp fun σ H Q ⟨ρ, m, S, h, de⟩ => by
    simp only [ev] at de
    refine dE_of h de.bind fun ov m1 S1 H1 p1 s1 d1 ox rox => ?_
    obtain ⟨xs0, e0, d1⟩ := Den.opt d1.bind s1
    obtain ⟨x0, e00, e01⟩ := Option.bind_eq_some_iff.mp e0
    have rt0 := rox.rt s1 e00
    refine ⟨?_, dE_of (h.to p1 s1) d1.bind fun w m2 S2 H2 p2 s2 d2 y ry => ?_⟩
    · cases x0 with
      | list ys =>
        obtain ⟨p, vs, rfl, hh, r⟩ := rt0
        exact .inl ⟨rfl, vs, rd_sql hh⟩
      | _ => cases e01
    · have rx2 := rox.post p2
      cases e : ((view S2 ov).bind fun x => (view S2 w).bind fun y => (u2 .index x y).map Vl.d) with
      | none => rw [e] at d2; exact d2.elim
      | some u =>
        rw [e] at d2
        obtain ⟨dx, dy, e1, e2, e3⟩ := opt2 e
        obtain ⟨dz, e4, rfl⟩ := Option.map_eq_some_iff.mp e3
        have rt1 := rx2.rt s2 e1
        have rt2 := ry.rt s2 e2
        unfold u2 at e4
        split at e4
        · rename_i hh; cases hh
        · rename_i hh; cases hh
        · rename_i xs _ _
          split at e4
          · rename_i hs
            simp only [Bool.and_eq_true] at hs
            obtain ⟨n, e5, e6⟩ := Option.map_eq_some_iff.mp e4
            cases e6
            obtain ⟨z, q1, q2, q3⟩ := findIx_is e5
            have dp1 := rt1.dp (noDict_of hs.1)
            have dp2 := rt2.dp (noDict_of hs.2)
            obtain ⟨p, vs, rfl, hh, r⟩ := rt1
            rw [C.K] at dp1 dp2
            exact ⟨p, y, _, _, n, z, rfl, rfl, dp1, dp2, hs.1, hs.2, q1, q2, q3, d2 m2 H2 .refl s2 _ (.int _)⟩
          · cases e4
        · cases e4
/-! ### tuples to tuples -/
def isNm (sc : Scope) : Expr → Bool
  | .Name id _ => decide (sc.names.lookup id = some .local)
  | _ => false
/-- the stores go from the left: not both plain names and a pair or a triple that is made anew -/
def noSw (sc : Scope) : Expr → Expr → Bool
  | .Tuple ts _ _, .Tuple vs _ _ => !(vs.any isStar) && (!(ts.length == 2 || ts.length == 3) || vs.length != ts.length || !(ts.all (isNm sc)) || vs.all (foldedForSure 8))
  | .Tuple _ _ _, _ => true
  | .List _ _, _ => false
  | _, _ => true
theorem names_few {sc : Scope} {env : PySem.Env} {line : Nat} (he : env.scope = sc) : ∀ {ts : List Expr}, ts.all (isNm sc) = false → (ts.filterMap fun t => match t with
    | .Name id pos => if env.kindOf id == some .local && pos.line == line then some id else none
    | _ => none).length ≠ ts.length
  | [], h => by simp at h
  | t :: ts, h => by
    have le := List.length_filterMap_le (fun t : Expr => match t with
      | .Name id pos => if env.kindOf id == some .local && pos.line == line then some id else none
      | _ => none) ts
    rw [List.filterMap_cons]
    split
    · rename_i q; simp only [List.length_cons]; omega
    · rename_i id q
      have tn : isNm sc t = true := by
        cases t with
        | Name id' pos =>
          simp only at q
          split at q
          · rename_i hh
            have := (Bool.and_eq_true_iff.mp hh).1
            unfold Env.kindOf at this
            rw [he] at this
            simpa [isNm] using this
          · cases q
        | _ => simp at q
      rw [List.all_cons, tn, Bool.true_and] at h
      have := names_few (env := env) (line := line) he h
      simp only [List.length_cons]
      omega
theorem noSw_is {sc : Scope} {t e : Expr} (h : noSw sc t e = true) (env : PySem.Env) (hes : env.scope = sc) : swappedStores [t] e env = pure none := by
  by_cases ht : noTup t = true
  · exact noTup_l ht env
  by_cases he : noTup e = true
  · exact noTup_r he env
  cases t with
  | Tuple ts k1 p1 =>
    cases e with
    | Tuple vs k2 p2 =>
      simp only [noSw, Bool.and_eq_true, Bool.or_eq_true, Bool.not_eq_true'] at h
      obtain ⟨hst, h⟩ := h
      have hs : (vs.any fun | .Starred .. => true | _ => false) = false := by
        exact (congrArg vs.any (funext fun e => by cases e <;> rfl)).trans hst
      unfold swappedStores
      dsimp only [pure_bind]
      by_cases c1 : (!(ts.length == 2 || ts.length == 3) || vs.length != ts.length || env.blockKind != .function) = true
      · rw [if_pos c1]
      · rw [if_neg c1]
        refine (if_neg (fun z => Bool.false_ne_true (hs.symm.trans z))).trans ?_
        simp only [Bool.not_eq_true, Bool.or_eq_false_iff] at c1
        have hx : ts.all (isNm sc) = false ∨ vs.all (foldedForSure 8) = true := by
          rcases h with ((h | h) | h) | h
          · exact absurd c1.1.1 (by rw [h]; decide)
          · exact absurd c1.1.2 (by rw [h]; decide)
          · exact .inl h
          · exact .inr h
        by_cases c2 : (ts.filterMap fun t => match t with
            | .Name id pos => if env.kindOf id == some .local && pos.line == (ts.head?.map (·.pos.line)).getD 0 then some id else none
            | _ => none).length = ts.length
        · have hv : vs.all (foldedForSure 8) = true := by
            rcases hx with q | q
            · exact absurd c2 (names_few hes q)
            · exact q
          split
          · rfl
          · first | rfl | rw [if_pos hv]
        · refine if_pos ?_
          simp only [Bool.or_eq_true, bne_iff_ne]
          exact .inl c2
    | List es p2 => rfl
    | _ => simp [noTup] at he
  | List ts p1 => simp [noSw] at h
  | _ => simp [noTup] at ht
theorem s_asgN {tg e : Expr} {t : T} {a : E} {pos : Pos} (hg : SG G c tg t) (he : SE G c e a) (p1 : noComp e = true) (p2 : noSw c.sc tg e = true) (p3 : plainE tg = true) : SS G c W (.Assign [tg] e pos) (.asg t a) := fun k X g C CS => by
  have hw : swappedStores [tg] e X.env = pure none := noSw_is p2 _ C.sc
  have h1 : (assignEach [tg] X.env).map (·.2) = [assign tg X.env] := by
    cases tg with
    | Starred _ _ => cases p3
    | _ => rfl
  exact (ps_asg (p_of C (he k X g C)) (hg k X g C) (noComp_is p1 _ _ _) hw h1).imp fun D σ H ⟨ρ, m, S, h, d⟩ => asg_d (e := e) C h d
/-- name = [.. for ..], the name a cell -/
theorem comp_cell {y : Str} {py : Pos} {e : Expr} (l : Nat) (env : PySem.Env) (h : env.scope.names.lookup y = some .cell) : swapsWith e (some (.Name y py)) l env = pure false := by
  have k1 : env.kindOf y = some .cell := h
  cases e with
  | ListComp a b s p => unfold swapsWith; simp only [k1, show ((some NameKind.cell : Option NameKind) == some .local) = false from rfl, Bool.and_false, Bool.false_and] <;> rfl
  | SetComp a b s p => unfold swapsWith; simp only [k1, show ((some NameKind.cell : Option NameKind) == some .local) = false from rfl, Bool.and_false, Bool.false_and] <;> rfl
  | DictComp a b d s p => unfold swapsWith; simp only [k1, show ((some NameKind.cell : Option NameKind) == some .local) = false from rfl, Bool.and_false, Bool.false_and] <;> rfl
  | _ => rfl
theorem s_asgC {y : Str} {py : Pos} {e : Expr} {t : T} {a : E} {pos : Pos} (hg : SG G c (.Name y py) t) (he : SE G c e a) (hy : c.sc.names.lookup y = some .cell) : SS G c W (.Assign [.Name y py] e pos) (.asg t a) := fun k X g C CS =>
  (ps_asg (p_of C (he k X g C)) (hg k X g C) (comp_cell pos.line _ (by rw [C.sc]; exact hy)) (noTup_l rfl _) rfl).imp fun D σ H ⟨ρ, m, S, h, d⟩ => asg_d (e := e) C h d
/-! ### a, b, c = x, y, z -/
def swapB3 (c : Cc) (y z w : Str) (px py pz : Pos) (vs : List Expr) : Bool :=
  decide (c.sc.kind = .function) && decide (c.sc.names.lookup y = some .local) && decide (c.sc.names.lookup z = some .local) && decide (c.sc.names.lookup w = some .local) && (py.line == px.line) && (pz.line == px.line) && decide ([y, z, w].eraseDups = [y, z, w]) && decide (vs.length = 3) && !(vs.any isStar) && !(vs.all (foldedForSure 8)) && !(vs.all (constantsAlone 8))
theorem swapB3_is {y z w : Str} {px py pz pt pt2 : Pos} {kt k2 : Nat} {vs : List Expr} (h : swapB3 c y z w px py pz vs = true) (env : PySem.Env) (he : env.scope = c.sc) : swappedStores [.Tuple [.Name y px, .Name z py, .Name w pz] kt pt] (.Tuple vs k2 pt2) env = pure (some [y, z, w]) := by
  unfold swapB3 at h
  simp only [Bool.and_eq_true, decide_eq_true_eq, Bool.not_eq_true'] at h
  obtain ⟨⟨⟨⟨⟨⟨⟨⟨⟨⟨h1, h2⟩, h3⟩, h3'⟩, h4⟩, h4'⟩, h5⟩, h6⟩, h7⟩, h8⟩, h9⟩ := h
  have b1 : env.blockKind = .function := by unfold Env.blockKind; rw [he, h1]; rfl
  have k1 : env.kindOf y = some .local := by unfold Env.kindOf; rw [he]; exact h2
  have k2' : env.kindOf z = some .local := by unfold Env.kindOf; rw [he]; exact h3
  have k3' : env.kindOf w = some .local := by unfold Env.kindOf; rw [he]; exact h3'
  have hs : (vs.any fun | .Starred .. => true | _ => false) = false := by
    exact (congrArg vs.any (funext fun e => by cases e <;> rfl)).trans h7
  unfold swappedStores
  dsimp only [List.length_cons, List.length_nil, pure_bind]
  rw [if_neg (by simp [b1, h6])]
  refine (if_neg (fun z => Bool.false_ne_true (hs.symm.trans z))).trans ?_
  simp only [List.filterMap_cons, List.filterMap_nil, k1, k2', k3', List.head?_cons, Option.map_some, Option.getD_some, Expr.pos, h4, h4', beq_self_eq_true, Bool.and_self, Bool.true_and, if_true, h8, h9, Bool.false_eq_true, if_false]
  rw [h5]
  rfl
theorem s_par3 {y z w : Str} {i j l : Nat} {e e' e'' : Expr} {a b d : E} {px py pz pt pos : Pos} {kt k2 : Nat} {pt2 : Pos} (hi : c.N[i]? = some y) (hj : c.N[j]? = some z) (hl : c.N[l]? = some w) (hij : decide (i ≠ j ∧ i ≠ l ∧ j ≠ l) = true) (hx : c.sc.names.lookup y = some .local) (hy : c.sc.names.lookup z = some .local) (hz : c.sc.names.lookup w = some .local)
    (ha : SE G c e a) (hb : SE G c e' b) (hd : SE G c e'' d) (pl : plainE e = true) (pl' : plainE e' = true) (pl'' : plainE e'' = true)
    (hw : ∀ env : PySem.Env, env.scope = c.sc → swappedStores [.Tuple [.Name y px, .Name z py, .Name w pz] kt pt] (.Tuple [e, e', e''] k2 pt2) env = pure (some [y, z, w])) :
    SS G c W (.Assign [.Tuple [.Name y px, .Name z py, .Name w pz] kt pt] (.Tuple [e, e', e''] k2 pt2) pos) (.par3 i j l a b d) := fun k X g C CS =>
  (ps_par3 C.calm (by rw [C.N]; exact C.nd) (by rw [C.N]; exact hi) (by rw [C.N]; exact hj) (by rw [C.N]; exact hl) (of_decide_eq_true hij).1 (of_decide_eq_true hij).2.1 (of_decide_eq_true hij).2.2 (by rw [C.sc]; exact hx) (by rw [C.sc]; exact hy) (by rw [C.sc]; exact hz) (pa3 (ha k X g C) (hb k X g C) (hd k X g C) pl pl' pl'') (hw _ C.sc)).imp fun D σ H ⟨ρ, m, S, h, de⟩ => by
    simp only [x1] at de
    refine dE_of h de.bind fun v m1 S1 H1 p1 s1 d1 x rx => ?_
    refine dE_of (h.to p1 s1) d1.bind fun v2 m2 S2 H2 p2 s2 d2 x2 rx2 => ?_
    refine dE_of ((h.to p1 s1).to p2 s2) d2.bind fun v3 m3 S3 H3 p3 s3 d3 x3 rx3 => ?_
    refine ⟨x, x2, x3, rfl, ?_⟩
    exact d3 m3 H3 .refl s3 _ (by simpa using h.len) ((((((h.env.post p1).post p2).post p3).set ((rx.post p2).post p3)).set (rx2.post p3)).set rx3)
end
end In
/-! part InN -/
set_option Elab.async false
set_option linter.all false
set_option maxRecDepth 100000
set_option maxHeartbeats 1000000
/-! From a text to the small language, with the reason why it is right. -/
namespace In
open PySem PySem.Spec PyProof.Rows L2
structure RE (G : Glo) (c : Cc) (e : Expr) where
  a : E
  ok : SE G c e a
structure RW (G : Glo) (c : Cc) (e : Expr) where
  a : E
  ok : ST G c e a
structure RA (G : Glo) (c : Cc) (es : List Expr) where
  a : Es
  ok : SA G c es a
structure RG (G : Glo) (c : Cc) (e : Expr) where
  a : T
  ok : SG G c e a
structure RGs (G : Glo) (c : Cc) (es : List Expr) where
  a : Ts
  ok : SGs G c es a
structure RI (G : Glo) (c : Cc) (tg e : Expr) where
  a : It
  ok : SI G c tg e a
structure RO (G : Glo) (c : Cc) (e : Option Expr) where
  a : Es
  ok : SO G c e a
structure RF (G : Glo) (c : Cc) (es : List Expr) where
  a : Es
  ok : STs G c es a
structure RV2 (G : Glo) (c : Cc) (e : Expr) where
  nw : Bool
  a : E
  ok : SV G c nw e a
structure RS (G : Glo) (c : Cc) (W : Nat) (e : Stmt) where
  a : C
  ok : SS G c W e a
structure RSs (G : Glo) (c : Cc) (W : Nat) (es : List Stmt) where
  a : Cs
  ok : SSs G c W es a
structure Cmp (G : Glo) (W : Nat) (mu : List Str) where
  e : ∀ c x, Option (RE G c x)
  t : ∀ c x, Option (RW G c x)
  as : ∀ c x, Option (RA G c x)
  g : ∀ c x, Option (RG G c x)
  gs : ∀ c x, Option (RGs G c x)
  i : ∀ c tg x, Option (RI G c tg x)
  o : ∀ c x, Option (RO G c x)
  f : ∀ c x, Option (RF G c x)
  s : ∀ c x, Option (RS G c W x)
  ss : ∀ c x, Option (RSs G c W x)
def chk? (p : Prop) [Decidable p] : Option (PLift p) := if h : p then some ⟨h⟩ else none
def ixOf (N : List Str) (x : Str) : Nat := N.findIdx (fun y => decide (y = x))
def b2Of : (op : Operator) → Option { o : B2 // opOf o = op }
  | .Add => some ⟨.add, rfl⟩
  | .Sub => some ⟨.sub, rfl⟩
  | .Mult => some ⟨.mul, rfl⟩
  | .FloorDiv => some ⟨.fdiv, rfl⟩
  | .Mod => some ⟨.mod, rfl⟩
  | .Pow => some ⟨.pow, rfl⟩
  | .LShift => some ⟨.shl, rfl⟩
  | .RShift => some ⟨.shr, rfl⟩
  | .BitAnd => some ⟨.band, rfl⟩
  | _ => none
def c2Of : (op : CmpOp) → { o : C2 // cmpOf o = op }
  | .Eq => ⟨.eq, rfl⟩
  | .NotEq => ⟨.ne, rfl⟩
  | .Lt => ⟨.lt, rfl⟩
  | .LtE => ⟨.le, rfl⟩
  | .Gt => ⟨.gt, rfl⟩
  | .GtE => ⟨.ge, rfl⟩
  | .Is => ⟨.is_, rfl⟩
  | .IsNot => ⟨.isnot, rfl⟩
  | .In => ⟨.isin, rfl⟩
  | .NotIn => ⟨.notin, rfl⟩
def ownOf (N : List Str) (sc : Scope) : List (Str × Nat) := sc.names.filterMap fun p => match p.2 with
  | .local => if p.1 ∈ N then some (p.1, ixOf N p.1) else none
  | .cell => if p.1 ∈ N then some (p.1, ixOf N p.1) else none
  | _ => none
section
variable {G : Glo} {W : Nat} {mu : List Str}
def nmE (c : Cc) (id : Str) (pos : Pos) : Option (RE G c (.Name id pos)) :=
  if h : glb c.sc id = true then (match hv : G.vals.lookup id with
    | some d => some ⟨.cst d, s_val hv h⟩
    | none => none)
  else if h : c.N[ixOf c.N id]? = some id ∧ vis c.sc id = true ∧ (id == ("__debug__" : Str)) = false ∧ (id == ("__classdict__" : Str)) = false then some ⟨.var (ixOf c.N id), s_var h.1 h.2.1 h.2.2.1 h.2.2.2⟩
  else none
/-- f(x) -/
def c1E (p : Cmp G W mu) (c : Cc) (f : Str) (pf : Pos) (x : Expr) (pos : Pos) : Option (RE G c (.Call (.Name f pf) [x] [] pos)) :=
  match hd : G.defs.lookup f with
  | some D => if h : glb c.sc f = true ∧ decide ([x].length ≤ D.ar ∧ D.ar ≤ [x].length + D.dfl.length) = true then (p.as c [x]).bind fun r => some ⟨_, s_call hd h.1 h.2 r.ok⟩ else none
  | none => match hb : biOf f with
    | some op => if h : f ∈ G.free ∧ glb c.sc f = true ∧ plainE x = true then (match x with
        | .Call (.Name "range" p2) [y] [] pos2 => if h2 : f = "tuple" ∧ ("range" : Str) ∈ G.free ∧ glb c.sc "range" = true ∧ plainE y = true then (p.e c y).bind fun r => some ⟨.seq (.rng1 r.a), by
            obtain ⟨rfl, h3, h4, h5⟩ := h2
            exact s_tupRg1 h3 h4 h.1 h.2.1 r.ok h5⟩ else none
        | x => (p.e c x).bind fun r => some ⟨.u1 op r.a, s_u1 (biOf_is hb) h.1 h.2.1 r.ok h.2.2⟩) else none
    | none => none
def typeOfName (y : Str) : Option { t : String // bootBuiltins y = some (.type t) ∧ y ≠ "__name__" } :=
  if h : y = "int" then some ⟨"int", by subst h; exact ⟨rfl, by decide⟩⟩
  else if h : y = "bool" then some ⟨"bool", by subst h; exact ⟨rfl, by decide⟩⟩
  else if h : y = "str" then some ⟨"str", by subst h; exact ⟨rfl, by decide⟩⟩
  else if h : y = "tuple" then some ⟨"tuple", by subst h; exact ⟨rfl, by decide⟩⟩
  else none
/-- f(x, y) -/
def c2E (p : Cmp G W mu) (c : Cc) (f : Str) (pf : Pos) (x y : Expr) (pos : Pos) : Option (RE G c (.Call (.Name f pf) [x, y] [] pos)) :=
  match hd : G.defs.lookup f with
  | some D => if h : glb c.sc f = true ∧ decide ([x, y].length ≤ D.ar ∧ D.ar ≤ [x, y].length + D.dfl.length) = true then (p.as c [x, y]).bind fun r => some ⟨_, s_call hd h.1 h.2 r.ok⟩ else none
  | none =>
    if h : f = "max" ∧ ("max" : Str) ∈ G.free ∧ glb c.sc "max" = true ∧ plainE x = true ∧ plainE y = true then (p.e c x).bind fun r => (p.e c y).bind fun q => some ⟨.u2 .max r.a q.a, by
      obtain ⟨rfl, h1, h2, h3, h4⟩ := h
      exact s_max2 h1 h2 r.ok q.ok h3 h4⟩
    else if h : f = "min" ∧ ("min" : Str) ∈ G.free ∧ glb c.sc "min" = true ∧ plainE x = true ∧ plainE y = true then (p.e c x).bind fun r => (p.e c y).bind fun q => some ⟨.u2 .min r.a q.a, by
      obtain ⟨rfl, h1, h2, h3, h4⟩ := h
      exact s_min2 h1 h2 r.ok q.ok h3 h4⟩
    else if hi : f = "isinstance" ∧ ("isinstance" : Str) ∈ G.free ∧ glb c.sc "isinstance" = true ∧ plainE x = true then (match y with
      | .Name y p2 => (typeOfName y).bind fun t => if h' : y ∈ G.free ∧ glb c.sc y = true then (p.e c x).bind fun r => some ⟨.isi r.a t.1, by
          obtain ⟨rfl, h1, h2, h3⟩ := hi
          exact s_isi t.2.1 h1 h2 h'.1 h'.2 t.2.2 r.ok h3⟩ else none
      | _ => none)
    else none
def cE (p : Cmp G W mu) (c : Cc) : (x : Expr) → Option (RE G c x)
  | .Name id pos => nmE c id pos
  | .Constant (.int i) j pos => some ⟨.cst (.int i), s_int⟩
  | .Constant (.str i) j pos => some ⟨.cst (.str i), s_str⟩
  | .Constant (.bool i) j pos => some ⟨.cst (.bool i), s_bl⟩
  | .Constant .none j pos => some ⟨.cst .none, s_non⟩
  | .Tuple es j pos => if h : decide (es.length ≤ 1000) = true then (p.as c es).bind fun r => some ⟨.tup r.a, s_tup r.ok h⟩ else none
  | .List es pos => if h : decide (es.length ≤ 1000) = true then (p.as c es).bind fun r => some ⟨.lst r.a, s_lst r.ok h⟩ else none
  | .BinOp x op y pos => (b2Of op).bind fun o => (p.e c x).bind fun r => (p.e c y).bind fun q => some ⟨.bin o.1 r.a q.a, by
      have := s_bin (pos := pos) o.1 r.ok q.ok
      rw [o.2] at this
      exact this⟩
  | .Compare x [op] [y] pos => if h : noSet y = true then (p.e c x).bind fun r => (p.e c y).bind fun q => some ⟨.cmp (c2Of op).1 r.a q.a, by
      have := s_cmp (pos := pos) (c2Of op).1 r.ok q.ok h
      rw [(c2Of op).2] at this
      exact this⟩ else none
  | .Compare x [op, op'] [y, z] pos => if h : noSet z = true then (p.e c x).bind fun r => (p.e c y).bind fun q => (p.e c z).bind fun u => some ⟨.ch (c2Of op).1 (c2Of op').1 r.a q.a u.a, by
      have := s_ch (pos := pos) (c2Of op).1 (c2Of op').1 r.ok q.ok u.ok h
      rw [(c2Of op).2, (c2Of op').2] at this
      exact this⟩ else none
  | .UnaryOp .USub x pos => (p.e c x).bind fun r => some ⟨.u1 .neg r.a, s_neg r.ok⟩
  | .UnaryOp .Not x pos => (p.e c x).bind fun r => some ⟨.not r.a, s_not r.ok⟩
  | .BoolOp op [x] pos => (p.e c x).bind fun r => some ⟨r.a, s_one r.ok⟩
  | .BoolOp .And (x :: y :: es) pos => (p.e c x).bind fun r => (p.e c (.BoolOp .And (y :: es) pos)).bind fun q => some ⟨.and r.a q.a, s_and r.ok q.ok⟩
  | .BoolOp .Or (x :: y :: es) pos => (p.e c x).bind fun r => (p.e c (.BoolOp .Or (y :: es) pos)).bind fun q => some ⟨.or r.a q.a, s_or r.ok q.ok⟩
  | .IfExp t x y pos => (p.t c t).bind fun r => (p.e c x).bind fun q => (p.e c y).bind fun u => some ⟨.ite r.a q.a u.a, s_ite r.ok q.ok u.ok⟩
  | .Subscript x (.Slice lo hi none p2) pos => (p.e c x).bind fun r => (p.o c lo).bind fun q => (p.o c hi).bind fun u => some ⟨.sl r.a q.a u.a, s_sl r.ok q.ok u.ok⟩
  | .Subscript x y pos => if h : plainX y = true then (p.e c x).bind fun r => (p.e c y).bind fun q => some ⟨.ix r.a q.a, s_ix r.ok q.ok h⟩ else none
  | .Call (.Name f pf) [x] [] pos => c1E p c f pf x pos
  | .Call (.Attribute o "index" apos) [x] [] cpos => if h : plainE x = true ∧ noCall o = true ∧ (apos.endLine == cpos.line) = true then (p.e c o).bind fun r => (p.e c x).bind fun q => some ⟨.idx r.a q.a, s_index r.ok q.ok h.1 h.2.1 h.2.2⟩ else none
  | .Call (.Name f pf) [x, y] [] pos => c2E p c f pf x y pos
  | .Call (.Name f pf) (x :: es) [] pos => (match hd : G.defs.lookup f with
    | some D => if h : glb c.sc f = true ∧ decide ((x :: es).length ≤ D.ar ∧ D.ar ≤ (x :: es).length + D.dfl.length) = true then (p.as c (x :: es)).bind fun r => some ⟨_, s_call hd h.1 h.2 r.ok⟩ else none
    | none => none)
  | .ListComp elt [⟨tg, iter, ifs, 0⟩] scope pos => if h : blkC c.N c.sc scope (ownOf c.N scope) = true then (p.i c tg iter).bind fun r => (p.g (c.blk scope) tg).bind fun q => (p.f (c.blk scope) ifs).bind fun u => (p.e (c.blk scope) elt).bind fun v =>
      if h2 : (slT q.a).all (fun i => ((ownOf c.N scope).map (·.2)).contains i) = true then some ⟨.lc ((ownOf c.N scope).map (·.2)) q.a r.a u.a v.a, s_lc h r.ok q.ok h2 u.ok v.ok⟩ else none else none
  | .DictComp kx vx [⟨tg, iter, [], 0⟩] scope pos => if h : blkC c.N c.sc scope (ownOf c.N scope) = true then (p.i c tg iter).bind fun r => (p.g (c.blk scope) tg).bind fun q => (p.e (c.blk scope) kx).bind fun u => (p.e (c.blk scope) vx).bind fun v =>
      if h2 : (slT q.a).all (fun i => ((ownOf c.N scope).map (·.2)).contains i) = true then some ⟨.dc ((ownOf c.N scope).map (·.2)) q.a r.a u.a v.a, s_dc h r.ok q.ok h2 u.ok v.ok⟩ else none else none
  | _ => none
def wAnd (p : Cmp G W mu) (c : Cc) (pos : Pos) : (es : List Expr) → Option { a : E // SW G c (.BoolOp .And es pos) a }
  | [] => none
  | [x] => (p.t c x).bind fun r => some ⟨r.a, sw_and1 r.ok⟩
  | x :: y :: es => (p.t c x).bind fun r => (wAnd p c pos (y :: es)).bind fun q => some ⟨.and r.a q.1, sw_and r.ok q.2⟩
def wOr (p : Cmp G W mu) (c : Cc) (pos : Pos) : (es : List Expr) → Option { a : E // SW G c (.BoolOp .Or es pos) a }
  | [] => none
  | [x] => (p.t c x).bind fun r => some ⟨r.a, sw_or1 r.ok⟩
  | x :: y :: es => (p.t c x).bind fun r => (wOr p c pos (y :: es)).bind fun q => some ⟨.or r.a q.1, sw_or r.ok q.2⟩
def wT (p : Cmp G W mu) (c : Cc) : (x : Expr) → Option { a : E // SW G c x a }
  | .BoolOp .And es pos => wAnd p c pos es
  | .BoolOp .Or es pos => wOr p c pos es
  | _ => none
/-- the clauses of a try -/
def cH (c : Cc) (n : Str) : (hs : List ExceptHandler) → Option { l : List (Str × Str) // HdsC G c n hs l }
  | [] => some ⟨[], .nil⟩
  | .ExceptHandler (some (.Name x np)) (some m) [.Return (some (.Tuple [.Constant (.str tag) j1 p1, .Attribute (.Name n' ep) "reason" ap] j2 tp)) rp] pos' :: r =>
    if h : m = n ∧ n' = n ∧ x ∈ G.excs ∧ glb c.sc x = true then (cH c n r).bind fun q => some ⟨(x, tag) :: q.1, by
      obtain ⟨rfl, rfl, h1, h2⟩ := h
      exact .pl h1 h2 q.2⟩ else none
  | .ExceptHandler (some (.Name x np)) (some m) [.Return (some (.IfExp (.Call (.Name "isinstance" ip) [.Name n2 ep2, .Name t tp2] [] cp) (.Tuple [.Constant (.str tag) j1 p1, .Attribute (.Name n' ep) "reason" ap] j2 tp) (.Constant (.str sx) jj ps) fp)) rp] pos' :: r =>
    if h : m = n ∧ n' = n ∧ n2 = n ∧ x ∈ G.excs ∧ glb c.sc x = true ∧ t ∈ G.ups ∧ glb c.sc t = true ∧ ("isinstance" : Str) ∈ G.free ∧ glb c.sc "isinstance" = true then (cH c n r).bind fun q => some ⟨(x, tag) :: q.1, by
      obtain ⟨rfl, rfl, rfl, h1, h2, h3, h4, h5, h6⟩ := h
      exact .up h1 h2 h3 h4 h5 h6 q.2⟩ else none
  | _ => none
def asN : ExceptHandler → Str
  | .ExceptHandler _ (some n) _ _ => n
  | _ => ""
def cT (p : Cmp G W mu) (c : Cc) : (x : Expr) → Option (RW G c x)
  | .Compare x [op] [y] pos => if h : noSet y = true then (p.e c x).bind fun r => (p.e c y).bind fun q => some ⟨.cmp (c2Of op).1 r.a q.a, by
      have := st_cmp (pos := pos) (c2Of op).1 r.ok q.ok h
      rw [(c2Of op).2] at this
      exact this⟩ else none
  | .Compare x [op, op'] [y, z] pos => if h : noSet z = true then (p.e c x).bind fun r => (p.e c y).bind fun q => (p.e c z).bind fun u => some ⟨.ch (c2Of op).1 (c2Of op').1 r.a q.a u.a, by
      have := st_ch (pos := pos) (c2Of op).1 (c2Of op').1 r.ok q.ok u.ok h
      rw [(c2Of op).2, (c2Of op').2] at this
      exact this⟩ else none
  | .UnaryOp .Not x pos => (p.t c x).bind fun r => some ⟨.not r.a, st_not r.ok⟩
  | .BoolOp op es pos => (wT p c (.BoolOp op es pos)).bind fun r => some ⟨r.1, sw_t r.2⟩
  | x => if h : plainT x = true then (p.e c x).bind fun r => some ⟨r.a, st_of r.ok h⟩ else none
def cAs (p : Cmp G W mu) (c : Cc) : (x : List Expr) → Option (RA G c x)
  | [] => some ⟨.nil, sa_nil⟩
  | x :: es => if h : plainE x = true then (p.e c x).bind fun r => (p.as c es).bind fun q => some ⟨.cons r.a q.a, sa_cons r.ok h q.ok⟩ else none
def cG (p : Cmp G W mu) (c : Cc) : (x : Expr) → Option (RG G c x)
  | .Name id pos => if h : c.N[ixOf c.N id]? = some id ∧ sto c id = true then some ⟨.nm (ixOf c.N id), sg_name h.1 h.2⟩ else none
  | .Tuple es j pos => (p.gs c es).bind fun r => some ⟨.tp r.a, sg_tup r.ok⟩
  | _ => none
def cGs (p : Cmp G W mu) (c : Cc) : (x : List Expr) → Option (RGs G c x)
  | [] => some ⟨.nil, sgs_nil⟩
  | x :: es => if h : plainE x = true then (p.g c x).bind fun r => (p.gs c es).bind fun q => some ⟨.cons r.a q.a, sgs_cons r.ok h q.ok⟩ else none
def cI (p : Cmp G W mu) (c : Cc) (tg : Expr) : (x : Expr) → Option (RI G c tg x)
  | .Call (.Name "range" pf) [x] [] pos => if h : ("range" : Str) ∈ G.free ∧ glb c.sc "range" = true ∧ plainE x = true then (p.e c x).bind fun r => some ⟨.rng1 r.a, si_rng1 h.1 h.2.1 r.ok h.2.2⟩ else none
  | .Call (.Name "range" pf) [x, y] [] pos => if h : ("range" : Str) ∈ G.free ∧ glb c.sc "range" = true ∧ plainE x = true ∧ plainE y = true then (p.e c x).bind fun r => (p.e c y).bind fun q => some ⟨.rng2 r.a q.a, si_rng2 h.1 h.2.1 r.ok q.ok h.2.2.1 h.2.2.2⟩ else none
  | .Call (.Name "range" pf) [x, y, z] [] pos => if h : ("range" : Str) ∈ G.free ∧ glb c.sc "range" = true ∧ plainE x = true ∧ plainE y = true ∧ plainE z = true then (p.e c x).bind fun r => (p.e c y).bind fun q => (p.e c z).bind fun u => some ⟨.rng3 r.a q.a u.a, si_rng3 h.1 h.2.1 r.ok q.ok u.ok h.2.2.1 h.2.2.2.1 h.2.2.2.2⟩ else none
  | .Call (.Name "enumerate" pf) [x] [] pos => (match tg with
    | .Tuple elts kk tpos => if h : ("enumerate" : Str) ∈ G.free ∧ glb c.sc "enumerate" = true ∧ plainE x = true then (p.e c x).bind fun r => some ⟨.enum r.a, si_enum h.1 h.2.1 r.ok h.2.2⟩ else none
    | _ => none)
  | .Call (.Name "zip" pf) [x, y] [] pos => (match tg with
    | .Tuple elts kk tpos => if h : ("zip" : Str) ∈ G.free ∧ glb c.sc "zip" = true ∧ plainE x = true ∧ plainE y = true then (p.e c x).bind fun r => (p.e c y).bind fun q => some ⟨.zip r.a q.a, si_zip h.1 h.2.1 r.ok q.ok h.2.2.1 h.2.2.2⟩ else none
    | _ => none)
  | x => if h : noSet x = true then (p.e c x).bind fun r => some ⟨.e r.a, si_e r.ok h⟩ else none
def cO (p : Cmp G W mu) (c : Cc) : (x : Option Expr) → Option (RO G c x)
  | none => some ⟨.nil, so_none⟩
  | some x => (p.e c x).bind fun r => some ⟨.cons r.a .nil, so_some r.ok⟩
def cF (p : Cmp G W mu) (c : Cc) : (x : List Expr) → Option (RF G c x)
  | [] => some ⟨.nil, sts_nil⟩
  | [x] => (p.t c x).bind fun r => some ⟨.cons r.a .nil, sts_one r.ok⟩
  | _ => none
/-- a new container -/
def cV (p : Cmp G W mu) (c : Cc) : (x : Expr) → Option { a : E // SV G c true x a }
  | .List es pos => if h : decide (es.length ≤ 1000) = true then (p.as c es).bind fun r => some ⟨.lst r.a, sv_lst r.ok h⟩ else none
  | .Call (.Name f pf) [x] [] pos => if h : f ∈ G.free ∧ glb c.sc f = true ∧ plainE x = true then
      (if h1 : f = "list" then (p.e c x).bind fun r => some ⟨.u1 .list r.a, by subst h1; exact sv_u1 (fun X _ => call_listU) (.inr ⟨_, rfl⟩) rfl (by decide) h.1 h.2.1 r.ok h.2.2⟩
      else if h1 : f = "sorted" then (p.e c x).bind fun r => some ⟨.u1 .sorted r.a, by subst h1; exact sv_u1 (fun X hc => call_sortedU hc) (.inl ⟨_, rfl⟩) rfl (by decide) h.1 h.2.1 r.ok h.2.2⟩
      else if h1 : f = "dict" then (p.e c x).bind fun r => some ⟨.u1 .dict r.a, by subst h1; exact sv_u1 (fun X hc => call_dictU hc) (.inr ⟨_, rfl⟩) rfl (by decide) h.1 h.2.1 r.ok h.2.2⟩
      else none) else none
  | _ => none
/-- a container made anew -/
def isNew : Expr → Bool
  | .List _ _ => true
  | .Call (.Name f _) [_] [] _ => decide (f = "list") || decide (f = "sorted") || decide (f = "dict")
  | _ => false
def vE (p : Cmp G W mu) (c : Cc) (y : Str) (x : Expr) : Option (RV2 G c x) :=
  if y ∈ mu ∧ isNew x = true then (cV p c x).bind fun r => some ⟨true, r.1, r.2⟩ else (p.e c x).bind fun r => some ⟨false, r.a, sv_of r.ok⟩
def cS (p : Cmp G W mu) (c : Cc) : (x : Stmt) → Option (RS G c W x)
  | .Assign [.Name y py] (.ListComp elt [⟨tg, iter, ifs, 0⟩] scope pos) spos =>
    if hc : c.sc.names.lookup y = some .cell then (p.g c (.Name y py)).bind fun r => (p.e c (.ListComp elt [⟨tg, iter, ifs, 0⟩] scope pos)).bind fun q => some ⟨.asg r.a q.a, s_asgC r.ok q.ok hc⟩
    else if h : c.N[ixOf c.N y]? = some y ∧ c.sc.names.lookup y = some .local ∧ (py.line == pos.line) = true ∧ (scope.names.any fun (n, k) => n == y && (k == .local || k == .cell)) = false ∧ blkC c.N c.sc scope (ownOf c.N scope) = true then
      (p.i c tg iter).bind fun r => (p.g (c.blk scope) tg).bind fun q => (p.f (c.blk scope) ifs).bind fun u => (p.e (c.blk scope) elt).bind fun v =>
      if h2 : (slT q.a).all (fun i => ((ownOf c.N scope).map (·.2)).contains i) = true then some ⟨.asg (.nm (ixOf c.N y)) (.lc ((ownOf c.N scope).map (·.2)) q.a r.a u.a v.a), s_setLc h.1 h.2.1 h.2.2.1 h.2.2.2.1 h.2.2.2.2 r.ok q.ok h2 u.ok v.ok⟩ else none else none
  | .Assign [.Tuple [.Name y px, .Name z py] kt pt] (.Tuple [x, x'] k2 pt2) pos =>
    if h0 : swapB c y z px py [x, x'] = false ∧ noComp (.Tuple [x, x'] k2 pt2) = true ∧ noSw c.sc (.Tuple [.Name y px, .Name z py] kt pt) (.Tuple [x, x'] k2 pt2) = true then (p.g c (.Tuple [.Name y px, .Name z py] kt pt)).bind fun r => (p.e c (.Tuple [x, x'] k2 pt2)).bind fun q => some ⟨.asg r.a q.a, s_asgN r.ok q.ok h0.2.1 h0.2.2 rfl⟩
    else if h : swapB c y z px py [x, x'] = true ∧ c.N[ixOf c.N y]? = some y ∧ c.N[ixOf c.N z]? = some z ∧ decide (ixOf c.N y ≠ ixOf c.N z) = true ∧ c.sc.names.lookup y = some .local ∧ c.sc.names.lookup z = some .local ∧ plainE x = true ∧ plainE x' = true then
      (vE p c y x).bind fun r => (vE p c z x').bind fun q => some ⟨.par (ixOf c.N y) (ixOf c.N z) r.nw q.nw r.a q.a, s_par h.2.1 h.2.2.1 h.2.2.2.1 h.2.2.2.2.1 h.2.2.2.2.2.1 r.ok q.ok h.2.2.2.2.2.2.1 h.2.2.2.2.2.2.2 fun env he => swapB_is h.1 env he⟩ else none
  | .Assign [.Subscript o i tpos] x pos => if h : noComp x = true ∧ plainX i = true then (p.e c o).bind fun r => (p.e c i).bind fun q => (p.e c x).bind fun u => some ⟨.six r.a q.a u.a, s_six r.ok q.ok u.ok h.1 h.2⟩ else none
  | .Assign [.Tuple [.Name y px, .Name z py, .Name w pz] kt pt] (.Tuple [x, x', x''] k2 pt2) pos =>
    if h0 : swapB3 c y z w px py pz [x, x', x''] = false ∧ noComp (.Tuple [x, x', x''] k2 pt2) = true ∧ noSw c.sc (.Tuple [.Name y px, .Name z py, .Name w pz] kt pt) (.Tuple [x, x', x''] k2 pt2) = true then (p.g c (.Tuple [.Name y px, .Name z py, .Name w pz] kt pt)).bind fun r => (p.e c (.Tuple [x, x', x''] k2 pt2)).bind fun q => some ⟨.asg r.a q.a, s_asgN r.ok q.ok h0.2.1 h0.2.2 rfl⟩
    else if h : swapB3 c y z w px py pz [x, x', x''] = true ∧ c.N[ixOf c.N y]? = some y ∧ c.N[ixOf c.N z]? = some z ∧ c.N[ixOf c.N w]? = some w ∧ decide (ixOf c.N y ≠ ixOf c.N z ∧ ixOf c.N y ≠ ixOf c.N w ∧ ixOf c.N z ≠ ixOf c.N w) = true ∧ c.sc.names.lookup y = some .local ∧ c.sc.names.lookup z = some .local ∧ c.sc.names.lookup w = some .local ∧ plainE x = true ∧ plainE x' = true ∧ plainE x'' = true then
      (p.e c x).bind fun r => (p.e c x').bind fun q => (p.e c x'').bind fun u => some ⟨.par3 (ixOf c.N y) (ixOf c.N z) (ixOf c.N w) r.a q.a u.a, s_par3 h.2.1 h.2.2.1 h.2.2.2.1 h.2.2.2.2.1 h.2.2.2.2.2.1 h.2.2.2.2.2.2.1 h.2.2.2.2.2.2.2.1 r.ok q.ok u.ok h.2.2.2.2.2.2.2.2.1 h.2.2.2.2.2.2.2.2.2.1 h.2.2.2.2.2.2.2.2.2.2 fun env he => swapB3_is h.1 env he⟩ else none
  | .Assign [.Name y py] x pos => if hc : c.sc.names.lookup y = some .cell ∧ noComp x = false then (p.g c (.Name y py)).bind fun r => (p.e c x).bind fun q => some ⟨.asg r.a q.a, s_asgC r.ok q.ok hc.1⟩
      else if y ∈ mu ∧ isNew x = true then (if h : c.N[ixOf c.N y]? = some y ∧ sto c y = true ∧ noComp x = true then (cV p c x).bind fun r => some ⟨.new (ixOf c.N y) r.1, s_new h.1 h.2.1 r.2 h.2.2⟩ else none)
      else if h : noComp x = true then (p.g c (.Name y py)).bind fun r => (p.e c x).bind fun q => some ⟨.asg r.a q.a, s_asg r.ok q.ok h rfl rfl⟩ else none
  | .Assign [tg] x pos => if h : noComp x = true ∧ noSw c.sc tg x = true ∧ plainE tg = true then (p.g c tg).bind fun r => (p.e c x).bind fun q => some ⟨.asg r.a q.a, s_asgN r.ok q.ok h.1 h.2.1 h.2.2⟩ else none
  | .AugAssign (.Name y py) .Add x pos => if h : c.N[ixOf c.N y]? = some y ∧ sto c y = true then (p.e c x).bind fun r => some ⟨.aug (ixOf c.N y) .add r.a, s_augAdd h.1 h.2 r.ok⟩ else none
  | .AugAssign (.Name y py) .Sub x pos => if h : c.N[ixOf c.N y]? = some y ∧ sto c y = true then (p.e c x).bind fun r => some ⟨.aug (ixOf c.N y) .sub r.a, s_augSub h.1 h.2 r.ok⟩ else none
  | .Expr (.Call (.Attribute o "append" apos) [x] [] cpos) pos => if h : plainE x = true ∧ noCall o = true ∧ (apos.endLine == cpos.line) = true then (p.e c o).bind fun r => (p.e c x).bind fun q => some ⟨.app r.a q.a, s_app r.ok q.ok h.1 h.2.1 h.2.2⟩ else none
  | .Expr x pos => if h : noComp x = true then (p.e c x).bind fun r => some ⟨.drop r.a, s_drop r.ok h⟩ else none
  | .If t x y pos => (p.t c t).bind fun r => (p.ss c x).bind fun q => (p.ss c y).bind fun u => some ⟨.ite r.a q.a u.a, s_ifS r.ok q.ok u.ok⟩
  | .For tg iter b [] pos => (p.g c tg).bind fun r => (p.i c tg iter).bind fun q => (p.ss c b).bind fun u => some ⟨.loop r.a q.a u.a, s_loop r.ok q.ok u.ok⟩
  | .While t b [] pos => (p.t c t).bind fun r => (p.ss c b).bind fun q => some ⟨.whl r.a q.a, s_whl r.ok q.ok⟩
  | .Return (some x) pos => (p.e c x).bind fun r => some ⟨.ret r.a, s_ret r.ok⟩
  | .Return none pos => some ⟨.retN, s_retN⟩
  | .Pass pos => some ⟨.pass, s_pass⟩
  | .Break pos => some ⟨.brk, s_brk⟩
  | .Continue pos => some ⟨.cont, s_cont⟩
  | .Raise (some (.Call (.Name cn p1) [x] [] cpos)) none pos => if h : cn ∈ G.excs ∧ glb c.sc cn = true ∧ plainE x = true then (p.e c x).bind fun r => some ⟨.raise cn r.a, s_raise h.1 h.2.1 r.ok h.2.2⟩ else none
  | .Try b (h₀ :: hs) [] [] pos =>
    if h : c.N[ixOf c.N (asN h₀)]? = some (asN h₀) ∧ c.sc.names.lookup (asN h₀) = some .local ∧ (asN h₀ == ("__debug__" : Str)) = false ∧ (asN h₀ == ("__classdict__" : Str)) = false then
      (cH c (asN h₀) (h₀ :: hs)).bind fun q => (p.ss c b).bind fun r => some ⟨.tryS r.a q.1, s_tryM h.1 h.2.1 h.2.2.1 h.2.2.2 r.ok q.2⟩ else none
  | _ => none
def cSs (p : Cmp G W mu) (c : Cc) : (x : List Stmt) → Option (RSs G c W x)
  | [] => some ⟨.nil, ss_nil⟩
  | x :: es => (p.s c x).bind fun r => (p.ss c es).bind fun q => some ⟨.cons r.a q.a, ss_cons r.ok q.ok⟩
def cmp0 : Cmp G W mu := ⟨fun _ _ => none, fun _ _ => none, fun _ _ => none, fun _ _ => none, fun _ _ => none, fun _ _ _ => none, fun _ _ => none, fun _ _ => none, fun _ _ => none, fun _ _ => none⟩
def cmpN : Nat → Cmp G W mu
  | 0 => cmp0
  | n + 1 => let p := cmpN n
    ⟨cE p, cT p, cAs p, cG p, cGs p, cI p, cO p, cF p, cS p, cSs p⟩
/-- a def's body -/
def body? (G : Glo) (W : Nat) (mu : List Str) (N : List Str) (sc : Scope) (b : List Stmt) : Option Cs := ((cmpN (G := G) (W := W) (mu := mu) 60).ss ⟨N, sc, fun _ => true⟩ b).map (·.a)
theorem body_ok {G : Glo} {W : Nat} {mu N : List Str} {sc : Scope} {b : List Stmt} {a : Cs} (h : body? G W mu N sc b = some a) : SSs G ⟨N, sc, fun _ => true⟩ W b a := by
  obtain ⟨r, _, e⟩ := Option.map_eq_some_iff.mp h
  rw [← e]
  exact r.ok
end
end In
/-! part Tx29 -/
set_option Elab.async false
set_option linter.all false
set_option maxRecDepth 100000
set_option maxHeartbeats 0
/-! The law's text, read. -/
namespace Tx
open PySem PySem.Spec PyProof.Rows L2 In
def top (i : Nat) : Stmt := PySem.Challenge.pw_timewrought_k29_whole_clocks_of_towns.main.body.getD i (.Pass ⟨0, 0, 0, 0⟩)
def G : Glo where
  free := ["len", "range", "abs", "int", "isinstance", "tuple", "list", "dict", "sorted", "min", "max", "sum", "all", "any", "zip", "enumerate", "repr", "bool", "str"]
  vals := ([("MAX_NAME", .int 12), ("MAX_MINUTE", .int 2000000), ("MAX_OFFSET", .int 1440), ("MAX_SPAN", .int 3000), ("MAX_TOWNS", .int 5), ("MAX_TURNS", .int 8)] : List (Str × PyData))
  defs := ([("is_integer", ⟨0, 1, []⟩), ("in_range", ⟨1, 3, []⟩), ("is_letter", ⟨2, 1, []⟩), ("is_name", ⟨3, 1, []⟩), ("is_town", ⟨4, 1, []⟩), ("demand_town", ⟨5, 2, [.str "town"]⟩), ("demand_minute", ⟨6, 2, [.str "minute"]⟩), ("offset_at", ⟨7, 2, []⟩), ("shown", ⟨8, 2, []⟩), ("minutes_of", ⟨9, 2, []⟩), ("minutes", ⟨10, 2, []⟩), ("there", ⟨11, 3, []⟩), ("jumps", ⟨12, 1, []⟩), ("count_shown", ⟨13, 2, []⟩), ("spans_of", ⟨14, 3, []⟩), ("demand_span", ⟨15, 2, []⟩), ("odd_times", ⟨16, 3, []⟩), ("dawn", ⟨17, 2, []⟩), ("demand_day", ⟨18, 1, []⟩), ("day_begins", ⟨19, 2, []⟩), ("day_length", ⟨20, 2, []⟩), ("are_towns", ⟨21, 1, []⟩), ("demand_hours", ⟨22, 2, []⟩), ("is_awake", ⟨23, 3, []⟩), ("asleep", ⟨24, 3, []⟩), ("common_hours", ⟨25, 4, []⟩), ("first_common", ⟨26, 4, []⟩), ("accept_first_common", ⟨27, 5, []⟩), ("most_awake", ⟨28, 4, []⟩), ("_law_draws", ⟨29, 1, []⟩)] : List (Str × Dfn)) ++ ([("_law_more", ⟨30, 2, []⟩), ("_law_take", ⟨31, 3, []⟩), ("_law_one", ⟨32, 3, []⟩), ("_law_offset", ⟨33, 2, []⟩), ("_law_minutes", ⟨34, 2, []⟩), ("_law_odd", ⟨35, 3, []⟩), ("_law_dawn", ⟨36, 2, []⟩), ("_law_jumps", ⟨37, 1, []⟩), ("_law_asleep", ⟨38, 3, []⟩), ("_law_rows_of", ⟨39, 1, []⟩), ("_law_due", ⟨40, 5, []⟩), ("_law_told", ⟨41, 6, []⟩), ("_law_town", ⟨42, 3, []⟩), ("_law_clock_right", ⟨43, 4, []⟩), ("law", ⟨44, 1, []⟩)] : List (Str × Dfn))
  excs := ["ArgumentError", "PaperError"]
  ups := ["TimeError"]

abbrev W : Nat := 1000000000
def N_0 : List Str := ["value"]
/-- is_integer -/
def b_0 : Cs := (.cons (.ret (.and (.isi (.var 0) "int") (.not (.isi (.var 0) "bool")))) .nil)
def N_1 : List Str := ["value", "least", "most"]
/-- in_range -/
def b_1 : Cs := (.cons (.ret (.and (.call 0 (.cons (.var 0) .nil) []) (.ch .le .le (.var 1) (.var 0) (.var 2)))) .nil)
def N_2 : List Str := ["sign"]
/-- is_letter -/
def b_2 : Cs := (.cons (.ret (.or (.ch .le .le (.cst (.str "a")) (.var 0) (.cst (.str "z"))) (.ch .le .le (.cst (.str "A")) (.var 0) (.cst (.str "Z"))))) .nil)
def N_3 : List Str := ["value", "sign"]
/-- is_name -/
def b_3 : Cs := (.cons (.ite (.or (.not (.isi (.var 0) "str")) (.or (.not (.ch .le .le (.cst (.int 1)) (.u1 .len (.var 0)) (.cst (.int 12)))) (.not (.call 2 (.cons (.ix (.var 0) (.cst (.int 0))) .nil) [])))) (.cons (.ret (.cst (.bool false))) .nil) .nil) (.cons (.ret (.u1 .all (.lc [1] (.nm 1) (.e (.var 0)) .nil (.or (.call 2 (.cons (.var 1) .nil) []) (.or (.ch .le .le (.cst (.str "0")) (.var 1) (.cst (.str "9"))) (.cmp .eq (.var 1) (.cst (.str "_")))))))) .nil))
def N_4 : List Str := ["value", "row", "one", "other"]
/-- is_town -/
def b_4 : Cs := (.cons (.ite (.or (.not (.isi (.var 0) "tuple")) (.or (.cmp .ne (.u1 .len (.var 0)) (.cst (.int 3))) (.not (.call 3 (.cons (.ix (.var 0) (.cst (.int 0))) .nil) [])))) (.cons (.ret (.cst (.bool false))) .nil) .nil) (.cons (.ite (.or (.not (.call 1 (.cons (.ix (.var 0) (.cst (.int 1))) (.cons (.u1 .neg (.cst (.int 1440))) (.cons (.cst (.int 1440)) .nil))) [])) (.or (.not (.isi (.ix (.var 0) (.cst (.int 2))) "tuple")) (.cmp .gt (.u1 .len (.ix (.var 0) (.cst (.int 2)))) (.cst (.int 8))))) (.cons (.ret (.cst (.bool false))) .nil) .nil) (.cons (.loop (.nm 1) (.e (.ix (.var 0) (.cst (.int 2)))) (.cons (.ite (.or (.not (.isi (.var 1) "tuple")) (.or (.cmp .ne (.u1 .len (.var 1)) (.cst (.int 2))) (.not (.call 1 (.cons (.ix (.var 1) (.cst (.int 0))) (.cons (.u1 .neg (.cst (.int 2000000))) (.cons (.cst (.int 2000000)) .nil))) [])))) (.cons (.ret (.cst (.bool false))) .nil) .nil) (.cons (.ite (.not (.call 1 (.cons (.ix (.var 1) (.cst (.int 1))) (.cons (.u1 .neg (.cst (.int 1440))) (.cons (.cst (.int 1440)) .nil))) [])) (.cons (.ret (.cst (.bool false))) .nil) .nil) .nil))) (.cons (.ret (.u1 .all (.lc [2, 3] (.tp (.cons (.nm 2) (.cons (.nm 3) .nil))) (.zip (.sl (.ix (.var 0) (.cst (.int 2))) .nil (.cons (.u1 .neg (.cst (.int 1))) .nil)) (.sl (.ix (.var 0) (.cst (.int 2))) (.cons (.cst (.int 1)) .nil) .nil)) .nil (.cmp .lt (.ix (.var 2) (.cst (.int 0))) (.ix (.var 3) (.cst (.int 0))))))) .nil))))
def N_5 : List Str := ["town", "reason"]
/-- demand_town -/
def b_5 : Cs := (.cons (.ite (.not (.call 4 (.cons (.var 0) .nil) [])) (.cons (.raise "ArgumentError" (.var 1)) .nil) .nil) .nil)
def N_6 : List Str := ["minute", "reason"]
/-- demand_minute -/
def b_6 : Cs := (.cons (.ite (.not (.call 1 (.cons (.var 0) (.cons (.u1 .neg (.cst (.int 2000000))) (.cons (.cst (.int 2000000)) .nil))) [])) (.cons (.raise "ArgumentError" (.var 1)) .nil) .nil) .nil)
def N_7 : List Str := ["town", "minute", "found", "when", "offset"]
/-- offset_at -/
def b_7 : Cs := (.cons (.asg (.nm 2) (.ix (.var 0) (.cst (.int 1)))) (.cons (.loop (.tp (.cons (.nm 3) (.cons (.nm 4) .nil))) (.e (.ix (.var 0) (.cst (.int 2)))) (.cons (.ite (.cmp .le (.var 3) (.var 1)) (.cons (.asg (.nm 2) (.var 4)) .nil) .nil) .nil)) (.cons (.ret (.var 2)) .nil)))
def N_8 : List Str := ["town", "minute"]
/-- shown -/
def b_8 : Cs := (.cons (.drop (.call 5 (.cons (.var 0) .nil) [(.str "town")])) (.cons (.drop (.call 6 (.cons (.var 1) .nil) [(.str "minute")])) (.cons (.ret (.bin .add (.var 1) (.call 7 (.cons (.var 0) (.cons (.var 1) .nil)) []))) .nil)))
def N_9 : List Str := ["town", "local", "rows", "found", "number", "minute", "begins", "ends", "when", "offset"]
/-- minutes_of -/
def b_9 : Cs := (.cons (.asg (.nm 2) (.bin .add (.lst (.cons (.tup (.cons (.cst .none) (.cons (.ix (.var 0) (.cst (.int 1))) .nil))) .nil)) (.u1 .list (.ix (.var 0) (.cst (.int 2)))))) (.cons (.new 3 (.lst .nil)) (.cons (.loop (.tp (.cons (.nm 4) (.cons (.tp (.cons (.nm 8) (.cons (.nm 9) .nil))) .nil))) (.enum (.var 2)) (.cons (.asg (.nm 5) (.bin .sub (.var 1) (.var 9))) (.cons (.asg (.nm 6) (.or (.cmp .is_ (.var 8) (.cst .none)) (.cmp .le (.var 8) (.var 5)))) (.cons (.asg (.nm 7) (.or (.cmp .eq (.var 4) (.bin .sub (.u1 .len (.var 2)) (.cst (.int 1)))) (.cmp .lt (.var 5) (.ix (.ix (.var 2) (.bin .add (.var 4) (.cst (.int 1)))) (.cst (.int 0)))))) (.cons (.ite (.and (.var 6) (.var 7)) (.cons (.app (.var 3) (.var 5)) .nil) .nil) .nil))))) (.cons (.ret (.var 3)) .nil))))
def N_10 : List Str := ["town", "local"]
/-- minutes -/
def b_10 : Cs := (.cons (.drop (.call 5 (.cons (.var 0) .nil) [(.str "town")])) (.cons (.drop (.call 6 (.cons (.var 1) (.cons (.cst (.str "local")) .nil)) [])) (.cons (.ret (.u1 .tuple (.call 9 (.cons (.var 0) (.cons (.var 1) .nil)) []))) .nil)))
def N_11 : List Str := ["town", "other", "local", "minute"]
/-- there -/
def b_11 : Cs := (.cons (.drop (.call 5 (.cons (.var 0) .nil) [(.str "town")])) (.cons (.drop (.call 5 (.cons (.var 1) (.cons (.cst (.str "other")) .nil)) [])) (.cons (.drop (.call 6 (.cons (.var 2) (.cons (.cst (.str "local")) .nil)) [])) (.cons (.ret (.u1 .tuple (.lc [3] (.nm 3) (.e (.call 9 (.cons (.var 0) (.cons (.var 2) .nil)) [])) .nil (.bin .add (.var 3) (.call 7 (.cons (.var 1) (.cons (.var 3) .nil)) []))))) .nil))))
def N_12 : List Str := ["town", "found", "before", "when", "offset"]
/-- jumps -/
def b_12 : Cs := (.cons (.drop (.call 5 (.cons (.var 0) .nil) [(.str "town")])) (.cons (.new 1 (.lst .nil)) (.cons (.asg (.nm 2) (.ix (.var 0) (.cst (.int 1)))) (.cons (.loop (.tp (.cons (.nm 3) (.cons (.nm 4) .nil))) (.e (.ix (.var 0) (.cst (.int 2)))) (.cons (.ite (.cmp .ne (.var 4) (.var 2)) (.cons (.app (.var 1) (.tup (.cons (.var 3) (.cons (.bin .add (.var 3) (.var 4)) (.cons (.bin .add (.var 3) (.var 2)) .nil))))) .nil) .nil) (.cons (.asg (.nm 2) (.var 4)) .nil))) (.cons (.ret (.u1 .tuple (.var 1))) .nil)))))
def N_13 : List Str := ["town", "local"]
/-- count_shown -/
def b_13 : Cs := (.cons (.drop (.call 5 (.cons (.var 0) .nil) [(.str "town")])) (.cons (.drop (.call 6 (.cons (.var 1) (.cons (.cst (.str "local")) .nil)) [])) (.cons (.ret (.u1 .len (.call 9 (.cons (.var 0) (.cons (.var 1) .nil)) []))) .nil)))
def N_14 : List Str := ["town", "least", "most", "counts", "found", "place", "count", "local"]
/-- spans_of -/
def b_14 : Cs := (.cons (.asg (.nm 3) (.lc [7] (.nm 7) (.rng2 (.var 1) (.var 2)) .nil (.u1 .len (.call 9 (.cons (.var 0) (.cons (.var 7) .nil)) [])))) (.cons (.new 4 (.lst .nil)) (.cons (.loop (.tp (.cons (.nm 5) (.cons (.nm 6) .nil))) (.enum (.var 3)) (.cons (.ite (.and (.var 4) (.cmp .eq (.ix (.ix (.var 4) (.u1 .neg (.cst (.int 1)))) (.cst (.int 2))) (.var 6))) (.cons (.six (.var 4) (.u1 .neg (.cst (.int 1))) (.tup (.cons (.ix (.ix (.var 4) (.u1 .neg (.cst (.int 1)))) (.cst (.int 0))) (.cons (.bin .add (.bin .add (.var 1) (.var 5)) (.cst (.int 1))) (.cons (.var 6) .nil))))) .nil) (.cons (.app (.var 4) (.tup (.cons (.bin .add (.var 1) (.var 5)) (.cons (.bin .add (.bin .add (.var 1) (.var 5)) (.cst (.int 1))) (.cons (.var 6) .nil))))) .nil)) .nil)) (.cons (.ret (.var 4)) .nil))))
def N_15 : List Str := ["begin", "length"]
/-- demand_span -/
def b_15 : Cs := (.cons (.drop (.call 6 (.cons (.var 0) (.cons (.cst (.str "begin")) .nil)) [])) (.cons (.ite (.not (.call 1 (.cons (.var 1) (.cons (.cst (.int 1)) (.cons (.cst (.int 3000)) .nil))) [])) (.cons (.raise "ArgumentError" (.cst (.str "length"))) .nil) .nil) .nil))
def N_16 : List Str := ["town", "begin", "length", "row"]
/-- odd_times -/
def b_16 : Cs := (.cons (.drop (.call 5 (.cons (.var 0) .nil) [(.str "town")])) (.cons (.drop (.call 15 (.cons (.var 1) (.cons (.var 2) .nil)) [])) (.cons (.ret (.u1 .tuple (.lc [3] (.nm 3) (.e (.call 14 (.cons (.var 0) (.cons (.var 1) (.cons (.bin .add (.var 1) (.var 2)) .nil))) [])) (.cons (.cmp .ne (.ix (.var 3) (.cst (.int 2))) (.cst (.int 1))) .nil) (.var 3)))) .nil)))
def N_17 : List Str := ["town", "day", "best", "rows", "number", "minute", "when", "offset"]
/-- dawn -/
def b_17 : Cs := (.cons (.asg (.nm 2) (.cst .none)) (.cons (.asg (.nm 3) (.bin .add (.lst (.cons (.tup (.cons (.cst .none) (.cons (.ix (.var 0) (.cst (.int 1))) .nil))) .nil)) (.u1 .list (.ix (.var 0) (.cst (.int 2)))))) (.cons (.loop (.tp (.cons (.nm 4) (.cons (.tp (.cons (.nm 6) (.cons (.nm 7) .nil))) .nil))) (.enum (.var 3)) (.cons (.asg (.nm 5) (.bin .sub (.bin .mul (.cst (.int 1440)) (.var 1)) (.var 7))) (.cons (.ite (.and (.cmp .isnot (.var 6) (.cst .none)) (.cmp .lt (.var 5) (.var 6))) (.cons (.asg (.nm 5) (.var 6)) .nil) .nil) (.cons (.ite (.or (.cmp .eq (.var 4) (.bin .sub (.u1 .len (.var 3)) (.cst (.int 1)))) (.cmp .lt (.var 5) (.ix (.ix (.var 3) (.bin .add (.var 4) (.cst (.int 1)))) (.cst (.int 0))))) (.cons (.asg (.nm 2) (.ite (.cmp .is_ (.var 2) (.cst .none)) (.var 5) (.u2 .min (.var 2) (.var 5)))) .nil) .nil) .nil)))) (.cons (.ret (.var 2)) .nil))))
def N_18 : List Str := ["day"]
/-- demand_day -/
def b_18 : Cs := (.cons (.ite (.not (.call 1 (.cons (.var 0) (.cons (.u1 .neg (.cst (.int 1000))) (.cons (.cst (.int 1000)) .nil))) [])) (.cons (.raise "ArgumentError" (.cst (.str "day"))) .nil) .nil) .nil)
def N_19 : List Str := ["town", "day"]
/-- day_begins -/
def b_19 : Cs := (.cons (.drop (.call 5 (.cons (.var 0) .nil) [(.str "town")])) (.cons (.drop (.call 18 (.cons (.var 1) .nil) [])) (.cons (.ret (.call 17 (.cons (.var 0) (.cons (.var 1) .nil)) [])) .nil)))
def N_20 : List Str := ["town", "day"]
/-- day_length -/
def b_20 : Cs := (.cons (.drop (.call 5 (.cons (.var 0) .nil) [(.str "town")])) (.cons (.drop (.call 18 (.cons (.var 1) .nil) [])) (.cons (.ret (.bin .sub (.call 17 (.cons (.var 0) (.cons (.bin .add (.var 1) (.cst (.int 1))) .nil)) []) (.call 17 (.cons (.var 0) (.cons (.var 1) .nil)) []))) .nil)))
def N_21 : List Str := ["value", "town"]
/-- are_towns -/
def b_21 : Cs := (.cons (.ite (.or (.not (.isi (.var 0) "tuple")) (.or (.not (.ch .le .le (.cst (.int 1)) (.u1 .len (.var 0)) (.cst (.int 5)))) (.not (.u1 .all (.lc [1] (.nm 1) (.e (.var 0)) .nil (.call 4 (.cons (.var 1) .nil) [])))))) (.cons (.ret (.cst (.bool false))) .nil) .nil) (.cons (.ret (.cmp .eq (.u1 .len (.dc [1] (.nm 1) (.e (.var 0)) (.ix (.var 1) (.cst (.int 0))) (.cst (.bool true)))) (.u1 .len (.var 0)))) .nil))
def N_22 : List Str := ["towns", "hours", "row", "part"]
/-- demand_hours -/
def b_22 : Cs := (.cons (.ite (.not (.call 21 (.cons (.var 0) .nil) [])) (.cons (.raise "ArgumentError" (.cst (.str "towns"))) .nil) .nil) (.cons (.ite (.or (.not (.isi (.var 1) "tuple")) (.cmp .ne (.u1 .len (.var 1)) (.u1 .len (.var 0)))) (.cons (.raise "ArgumentError" (.cst (.str "hours"))) .nil) .nil) (.cons (.loop (.nm 2) (.e (.var 1)) (.cons (.ite (.or (.not (.isi (.var 2) "tuple")) (.or (.cmp .ne (.u1 .len (.var 2)) (.cst (.int 2))) (.not (.u1 .all (.lc [3] (.nm 3) (.e (.var 2)) .nil (.call 1 (.cons (.var 3) (.cons (.cst (.int 0)) (.cons (.cst (.int 1440)) .nil))) [])))))) (.cons (.raise "ArgumentError" (.cst (.str "hours"))) .nil) .nil) (.cons (.ite (.cmp .ge (.ix (.var 2) (.cst (.int 0))) (.ix (.var 2) (.cst (.int 1)))) (.cons (.raise "ArgumentError" (.cst (.str "hours"))) .nil) .nil) .nil))) .nil)))
def N_23 : List Str := ["town", "row", "minute"]
/-- is_awake -/
def b_23 : Cs := (.cons (.ret (.ch .le .lt (.ix (.var 1) (.cst (.int 0))) (.bin .mod (.bin .add (.var 2) (.call 7 (.cons (.var 0) (.cons (.var 2) .nil)) [])) (.cst (.int 1440))) (.ix (.var 1) (.cst (.int 1))))) .nil)
def N_24 : List Str := ["towns", "hours", "minute", "number", "town"]
/-- asleep -/
def b_24 : Cs := (.cons (.ret (.lc [3, 4] (.tp (.cons (.nm 3) (.cons (.nm 4) .nil))) (.enum (.var 0)) (.cons (.not (.call 23 (.cons (.var 4) (.cons (.ix (.var 1) (.var 3)) (.cons (.var 2) .nil))) [])) .nil) (.var 3))) .nil)
def N_25 : List Str := ["towns", "hours", "begin", "length", "found", "minute"]
/-- common_hours -/
def b_25 : Cs := (.cons (.drop (.call 22 (.cons (.var 0) (.cons (.var 1) .nil)) [])) (.cons (.drop (.call 15 (.cons (.var 2) (.cons (.var 3) .nil)) [])) (.cons (.new 4 (.lst .nil)) (.cons (.loop (.nm 5) (.rng2 (.var 2) (.bin .add (.var 2) (.var 3))) (.cons (.ite (.not (.call 24 (.cons (.var 0) (.cons (.var 1) (.cons (.var 5) .nil))) [])) (.cons (.ite (.and (.var 4) (.cmp .eq (.bin .add (.ix (.ix (.var 4) (.u1 .neg (.cst (.int 1)))) (.cst (.int 0))) (.ix (.ix (.var 4) (.u1 .neg (.cst (.int 1)))) (.cst (.int 1)))) (.var 5))) (.cons (.six (.var 4) (.u1 .neg (.cst (.int 1))) (.tup (.cons (.ix (.ix (.var 4) (.u1 .neg (.cst (.int 1)))) (.cst (.int 0))) (.cons (.bin .add (.ix (.ix (.var 4) (.u1 .neg (.cst (.int 1)))) (.cst (.int 1))) (.cst (.int 1))) .nil)))) .nil) (.cons (.app (.var 4) (.tup (.cons (.var 5) (.cons (.cst (.int 1)) .nil)))) .nil)) .nil) .nil) .nil)) (.cons (.ret (.u1 .tuple (.var 4))) .nil)))))
def N_26 : List Str := ["towns", "hours", "begin", "length", "numbers", "minute", "own"]
/-- first_common -/
def b_26 : Cs := (.cons (.drop (.call 22 (.cons (.var 0) (.cons (.var 1) .nil)) [])) (.cons (.drop (.call 15 (.cons (.var 2) (.cons (.var 3) .nil)) [])) (.cons (.new 4 (.lst .nil)) (.cons (.loop (.nm 5) (.rng2 (.var 2) (.bin .add (.var 2) (.var 3))) (.cons (.asg (.nm 6) (.call 24 (.cons (.var 0) (.cons (.var 1) (.cons (.var 5) .nil))) [])) (.cons (.ite (.not (.var 6)) (.cons (.ret (.tup (.cons (.cst (.str "first")) (.cons (.var 5) .nil)))) .nil) .nil) (.cons (.app (.var 4) (.ix (.var 6) (.cst (.int 0)))) .nil)))) (.cons (.ret (.tup (.cons (.cst (.str "barred")) (.cons (.u1 .tuple (.var 4)) .nil)))) .nil)))))
def N_27 : List Str := ["towns", "hours", "begin", "length", "told", "place", "number", "minute"]
/-- accept_first_common -/
def b_27 : Cs := (.cons (.drop (.call 22 (.cons (.var 0) (.cons (.var 1) .nil)) [])) (.cons (.drop (.call 15 (.cons (.var 2) (.cons (.var 3) .nil)) [])) (.cons (.ite (.or (.not (.isi (.var 4) "tuple")) (.or (.cmp .ne (.u1 .len (.var 4)) (.cst (.int 2))) (.not (.isi (.ix (.var 4) (.cst (.int 0))) "str")))) (.cons (.raise "PaperError" (.cst (.str "form"))) .nil) .nil) (.cons (.ite (.cmp .eq (.ix (.var 4) (.cst (.int 0))) (.cst (.str "first"))) (.cons (.ite (.not (.call 1 (.cons (.ix (.var 4) (.cst (.int 1))) (.cons (.var 2) (.cons (.bin .sub (.bin .add (.var 2) (.var 3)) (.cst (.int 1))) .nil))) [])) (.cons (.raise "PaperError" (.cst (.str "form"))) .nil) .nil) (.cons (.ite (.call 24 (.cons (.var 0) (.cons (.var 1) (.cons (.ix (.var 4) (.cst (.int 1))) .nil))) []) (.cons (.raise "PaperError" (.cst (.str "hours"))) .nil) .nil) (.cons (.ite (.u1 .any (.lc [7] (.nm 7) (.rng2 (.var 2) (.ix (.var 4) (.cst (.int 1)))) .nil (.not (.call 24 (.cons (.var 0) (.cons (.var 1) (.cons (.var 7) .nil))) [])))) (.cons (.raise "PaperError" (.cst (.str "first"))) .nil) .nil) (.cons .retN .nil)))) .nil) (.cons (.ite (.or (.cmp .ne (.ix (.var 4) (.cst (.int 0))) (.cst (.str "barred"))) (.or (.not (.isi (.ix (.var 4) (.cst (.int 1))) "tuple")) (.cmp .ne (.u1 .len (.ix (.var 4) (.cst (.int 1)))) (.var 3)))) (.cons (.raise "PaperError" (.cst (.str "form"))) .nil) .nil) (.cons (.ite (.not (.u1 .all (.lc [6] (.nm 6) (.e (.ix (.var 4) (.cst (.int 1)))) .nil (.call 1 (.cons (.var 6) (.cons (.cst (.int 0)) (.cons (.bin .sub (.u1 .len (.var 0)) (.cst (.int 1))) .nil))) [])))) (.cons (.raise "PaperError" (.cst (.str "form"))) .nil) .nil) (.cons (.loop (.tp (.cons (.nm 5) (.cons (.nm 6) .nil))) (.enum (.ix (.var 4) (.cst (.int 1)))) (.cons (.ite (.call 23 (.cons (.ix (.var 0) (.var 6)) (.cons (.ix (.var 1) (.var 6)) (.cons (.bin .add (.var 2) (.var 5)) .nil))) []) (.cons (.raise "PaperError" (.cst (.str "barred"))) .nil) .nil) .nil)) .nil)))))))
def N_28 : List Str := ["towns", "hours", "begin", "length", "best", "minute", "count"]
/-- most_awake -/
def b_28 : Cs := (.cons (.drop (.call 22 (.cons (.var 0) (.cons (.var 1) .nil)) [])) (.cons (.drop (.call 15 (.cons (.var 2) (.cons (.var 3) .nil)) [])) (.cons (.asg (.nm 4) (.cst .none)) (.cons (.loop (.nm 5) (.rng2 (.var 2) (.bin .add (.var 2) (.var 3))) (.cons (.asg (.nm 6) (.bin .sub (.u1 .len (.var 0)) (.u1 .len (.call 24 (.cons (.var 0) (.cons (.var 1) (.cons (.var 5) .nil))) [])))) (.cons (.ite (.or (.cmp .is_ (.var 4) (.cst .none)) (.cmp .gt (.var 6) (.ix (.var 4) (.cst (.int 0))))) (.cons (.asg (.nm 4) (.tup (.cons (.var 6) (.cons (.var 5) .nil)))) .nil) .nil) .nil))) (.cons (.ret (.var 4)) .nil)))))
def N_29 : List Str := ["script", "draws", "cell", "rest", "k", "mixed"]
/-- _law_draws -/
def b_29 : Cs := (.cons (.new 1 (.lst .nil)) (.cons (.loop (.nm 2) (.e (.sl (.var 0) .nil (.cons (.cst (.int 63)) .nil))) (.cons (.asg (.nm 3) (.u1 .abs (.var 2))) (.cons (.ite (.cmp .ge (.var 3) (.bin .pow (.cst (.int 10)) (.cst (.int 18)))) (.cons (.loop (.nm 4) (.rng1 (.cst (.int 60))) (.cons (.ite (.cmp .gt (.var 3) (.cst (.int 0))) (.cons (.app (.var 1) (.bin .mod (.u1 .int (.var 3)) (.cst (.int 1009)))) (.cons (.asg (.nm 3) (.bin .fdiv (.var 3) (.cst (.int 1009)))) .nil)) .nil) .nil)) .nil) (.cons (.asg (.nm 5) (.bin .mod (.u1 .int (.bin .add (.bin .mul (.var 3) (.cst (.int 48271))) (.cst (.int 11)))) (.cst (.int 2147483647)))) (.cons (.loop (.nm 4) (.rng1 (.cst (.int 12))) (.cons (.asg (.nm 5) (.bin .mod (.u1 .int (.bin .add (.bin .add (.bin .mul (.var 5) (.cst (.int 16807))) (.bin .mul (.cst (.int 69621)) (.var 4))) (.cst (.int 5)))) (.cst (.int 2147483629)))) (.cons (.app (.var 1) (.bin .fdiv (.var 5) (.cst (.int 1009)))) .nil))) .nil))) .nil))) (.cons (.ret (.var 1)) .nil)))
def N_30 : List Str := ["draws", "place", "mixed", "k"]
/-- _law_more -/
def b_30 : Cs := (.cons (.asg (.nm 2) (.bin .mod (.u1 .int (.bin .add (.bin .add (.bin .mul (.var 1) (.cst (.int 48271))) (.u1 .len (.var 0))) (.cst (.int 11)))) (.cst (.int 2147483629)))) (.cons (.loop (.nm 3) (.rng1 (.cst (.int 3))) (.cons (.ite (.var 0) (.cons (.asg (.nm 2) (.bin .add (.var 2) (.ix (.var 0) (.bin .mod (.u1 .int (.bin .add (.bin .mul (.var 1) (.bin .add (.var 3) (.cst (.int 5)))) (.var 3))) (.u1 .len (.var 0)))))) .nil) .nil) (.cons (.asg (.nm 2) (.bin .mod (.u1 .int (.bin .add (.bin .add (.bin .mul (.var 2) (.cst (.int 16807))) (.bin .mul (.cst (.int 69621)) (.var 3))) (.cst (.int 5)))) (.cst (.int 2147483629)))) .nil))) (.cons (.ret (.bin .fdiv (.var 2) (.cst (.int 1009)))) .nil)))
def N_31 : List Str := ["draws", "at", "many", "place"]
/-- _law_take -/
def b_31 : Cs := (.cons (.asg (.nm 3) (.ix (.var 1) (.cst (.int 0)))) (.cons (.six (.var 1) (.cst (.int 0)) (.bin .add (.var 3) (.cst (.int 1)))) (.cons (.ret (.bin .mod (.u1 .int (.ite (.cmp .lt (.var 3) (.u1 .len (.var 0))) (.ix (.var 0) (.var 3)) (.call 30 (.cons (.var 0) (.cons (.var 3) .nil)) []))) (.var 2))) .nil)))
def N_32 : List Str := ["rows", "draws", "at"]
/-- _law_one -/
def b_32 : Cs := (.cons (.ret (.ix (.var 0) (.call 31 (.cons (.var 1) (.cons (.var 2) (.cons (.u1 .len (.var 0)) .nil))) []))) .nil)
def N_33 : List Str := ["town", "minute", "found", "when", "offset"]
/-- _law_offset -/
def b_33 : Cs := (.cons (.asg (.nm 2) (.ix (.var 0) (.cst (.int 1)))) (.cons (.loop (.tp (.cons (.nm 3) (.cons (.nm 4) .nil))) (.e (.ix (.var 0) (.cst (.int 2)))) (.cons (.ite (.cmp .le (.var 3) (.var 1)) (.cons (.asg (.nm 2) (.var 4)) .nil) .nil) .nil)) (.cons (.ret (.var 2)) .nil)))
def N_34 : List Str := ["town", "local", "tries", "minute", "offset", "row"]
/-- _law_minutes -/
def b_34 : Cs := (.cons (.asg (.nm 2) (.u1 .sorted (.u1 .dict (.lc [4] (.nm 4) (.e (.bin .add (.lst (.cons (.ix (.var 0) (.cst (.int 1))) .nil)) (.lc [5] (.nm 5) (.e (.ix (.var 0) (.cst (.int 2)))) .nil (.ix (.var 5) (.cst (.int 1)))))) .nil (.tup (.cons (.bin .sub (.var 1) (.var 4)) (.cons (.cst (.int 0)) .nil))))))) (.cons (.ret (.lc [3] (.nm 3) (.e (.var 2)) (.cons (.cmp .eq (.bin .add (.var 3) (.call 33 (.cons (.var 0) (.cons (.var 3) .nil)) [])) (.var 1)) .nil) (.var 3))) .nil))
def N_35 : List Str := ["town", "begin", "length", "found", "local", "count", "last"]
/-- _law_odd -/
def b_35 : Cs := (.cons (.new 3 (.lst .nil)) (.cons (.loop (.nm 4) (.rng2 (.var 1) (.bin .add (.var 1) (.var 2))) (.cons (.asg (.nm 5) (.u1 .len (.call 34 (.cons (.var 0) (.cons (.var 4) .nil)) []))) (.cons (.asg (.nm 6) (.ite (.cmp .ne (.var 3) (.lst .nil)) (.ix (.var 3) (.bin .sub (.u1 .len (.var 3)) (.cst (.int 1)))) (.cst .none))) (.cons (.ite (.and (.cmp .ne (.var 5) (.cst (.int 1))) (.and (.cmp .isnot (.var 6) (.cst .none)) (.and (.cmp .eq (.ix (.var 6) (.cst (.int 1))) (.var 4)) (.cmp .eq (.ix (.var 6) (.cst (.int 2))) (.var 5))))) (.cons (.six (.var 3) (.bin .sub (.u1 .len (.var 3)) (.cst (.int 1))) (.tup (.cons (.ix (.var 6) (.cst (.int 0))) (.cons (.bin .add (.var 4) (.cst (.int 1))) (.cons (.var 5) .nil))))) .nil) (.cons (.ite (.cmp .ne (.var 5) (.cst (.int 1))) (.cons (.app (.var 3) (.tup (.cons (.var 4) (.cons (.bin .add (.var 4) (.cst (.int 1))) (.cons (.var 5) .nil))))) .nil) .nil) .nil)) .nil)))) (.cons (.ret (.u1 .tuple (.var 3))) .nil)))
def N_36 : List Str := ["town", "day", "tries", "offset", "row", "minute"]
/-- _law_dawn -/
def b_36 : Cs := (.cons (.asg (.nm 2) (.bin .add (.lc [3] (.nm 3) (.e (.bin .add (.lst (.cons (.ix (.var 0) (.cst (.int 1))) .nil)) (.lc [4] (.nm 4) (.e (.ix (.var 0) (.cst (.int 2)))) .nil (.ix (.var 4) (.cst (.int 1)))))) .nil (.bin .sub (.bin .mul (.cst (.int 1440)) (.var 1)) (.var 3))) (.lc [4] (.nm 4) (.e (.ix (.var 0) (.cst (.int 2)))) .nil (.ix (.var 4) (.cst (.int 0)))))) (.cons (.ret (.u1 .min (.lc [5] (.nm 5) (.e (.var 2)) (.cons (.cmp .ge (.bin .add (.var 5) (.call 33 (.cons (.var 0) (.cons (.var 5) .nil)) [])) (.bin .mul (.cst (.int 1440)) (.var 1))) .nil) (.var 5)))) .nil))
def N_37 : List Str := ["town", "found", "when", "offset", "before"]
/-- _law_jumps -/
def b_37 : Cs := (.cons (.new 1 (.lst .nil)) (.cons (.loop (.tp (.cons (.nm 2) (.cons (.nm 3) .nil))) (.e (.ix (.var 0) (.cst (.int 2)))) (.cons (.asg (.nm 4) (.call 33 (.cons (.var 0) (.cons (.bin .sub (.var 2) (.cst (.int 1))) .nil)) [])) (.cons (.ite (.cmp .ne (.var 3) (.var 4)) (.cons (.app (.var 1) (.tup (.cons (.var 2) (.cons (.bin .add (.var 2) (.var 3)) (.cons (.bin .add (.var 2) (.var 4)) .nil))))) .nil) .nil) .nil))) (.cons (.ret (.u1 .tuple (.var 1))) .nil)))
def N_38 : List Str := ["towns", "hours", "minute", "found", "k"]
/-- _law_asleep -/
def b_38 : Cs := (.cons (.new 3 (.lst .nil)) (.cons (.loop (.nm 4) (.rng1 (.u1 .len (.var 0))) (.cons (.ite (.not (.ch .le .lt (.ix (.ix (.var 1) (.var 4)) (.cst (.int 0))) (.bin .mod (.u1 .int (.bin .add (.var 2) (.call 33 (.cons (.ix (.var 0) (.var 4)) (.cons (.var 2) .nil)) []))) (.cst (.int 1440))) (.ix (.ix (.var 1) (.var 4)) (.cst (.int 1))))) (.cons (.app (.var 3) (.var 4)) .nil) .nil) .nil)) (.cons (.ret (.var 3)) .nil)))
def N_39 : List Str := ["wake", "found", "minute"]
/-- _law_rows_of -/
def b_39 : Cs := (.cons (.new 1 (.lst .nil)) (.cons (.loop (.nm 2) (.e (.var 0)) (.cons (.ite (.and (.cmp .ne (.var 1) (.lst .nil)) (.cmp .eq (.bin .add (.ix (.ix (.var 1) (.bin .sub (.u1 .len (.var 1)) (.cst (.int 1)))) (.cst (.int 0))) (.ix (.ix (.var 1) (.bin .sub (.u1 .len (.var 1)) (.cst (.int 1)))) (.cst (.int 1)))) (.var 2))) (.cons (.six (.var 1) (.bin .sub (.u1 .len (.var 1)) (.cst (.int 1))) (.tup (.cons (.ix (.ix (.var 1) (.bin .sub (.u1 .len (.var 1)) (.cst (.int 1)))) (.cst (.int 0))) (.cons (.bin .add (.ix (.ix (.var 1) (.bin .sub (.u1 .len (.var 1)) (.cst (.int 1)))) (.cst (.int 1))) (.cst (.int 1))) .nil)))) .nil) (.cons (.app (.var 1) (.tup (.cons (.var 2) (.cons (.cst (.int 1)) .nil)))) .nil)) .nil)) (.cons (.ret (.u1 .tuple (.var 1))) .nil)))
def N_40 : List Str := ["towns", "hours", "begin", "length", "told", "k", "minute"]
/-- _law_due -/
def b_40 : Cs := (.cons (.ite (.or (.not (.isi (.var 4) "tuple")) (.or (.cmp .ne (.u1 .len (.var 4)) (.cst (.int 2))) (.or (.not (.isi (.ix (.var 4) (.cst (.int 0))) "str")) (.cmp .notin (.ix (.var 4) (.cst (.int 0))) (.tup (.cons (.cst (.str "first")) (.cons (.cst (.str "barred")) .nil))))))) (.cons (.ret (.cst (.str "form"))) .nil) .nil) (.cons (.ite (.cmp .eq (.ix (.var 4) (.cst (.int 0))) (.cst (.str "first"))) (.cons (.ite (.or (.not (.isi (.ix (.var 4) (.cst (.int 1))) "int")) (.or (.isi (.ix (.var 4) (.cst (.int 1))) "bool") (.not (.ch .le .lt (.var 2) (.ix (.var 4) (.cst (.int 1))) (.bin .add (.var 2) (.var 3)))))) (.cons (.ret (.cst (.str "form"))) .nil) .nil) (.cons (.ite (.cmp .ne (.call 38 (.cons (.var 0) (.cons (.var 1) (.cons (.ix (.var 4) (.cst (.int 1))) .nil))) []) (.lst .nil)) (.cons (.ret (.cst (.str "hours"))) .nil) .nil) (.cons (.ret (.ite (.cmp .ne (.lc [6] (.nm 6) (.rng2 (.var 2) (.ix (.var 4) (.cst (.int 1)))) (.cons (.cmp .eq (.call 38 (.cons (.var 0) (.cons (.var 1) (.cons (.var 6) .nil))) []) (.lst .nil)) .nil) (.var 6)) (.lst .nil)) (.cst (.str "first")) (.cst .none))) .nil))) .nil) (.cons (.ite (.or (.not (.isi (.ix (.var 4) (.cst (.int 1))) "tuple")) (.cmp .ne (.u1 .len (.ix (.var 4) (.cst (.int 1)))) (.var 3))) (.cons (.ret (.cst (.str "form"))) .nil) .nil) (.cons (.ite (.cmp .ne (.lc [5] (.nm 5) (.e (.ix (.var 4) (.cst (.int 1)))) (.cons (.or (.not (.isi (.var 5) "int")) (.or (.isi (.var 5) "bool") (.not (.ch .le .lt (.cst (.int 0)) (.var 5) (.u1 .len (.var 0)))))) .nil) (.var 5)) (.lst .nil)) (.cons (.ret (.cst (.str "form"))) .nil) .nil) (.cons (.ret (.ite (.cmp .ne (.lc [5] (.nm 5) (.rng1 (.var 3)) (.cons (.cmp .notin (.ix (.ix (.var 4) (.cst (.int 1))) (.var 5)) (.call 38 (.cons (.var 0) (.cons (.var 1) (.cons (.bin .add (.var 2) (.var 5)) .nil))) [])) .nil) (.var 5)) (.lst .nil)) (.cst (.str "barred")) (.cst .none))) .nil)))))
def N_41 : List Str := ["call", "one", "two", "three", "four", "five", "e"]
/-- _law_told -/
def b_41 : Cs := (.cons (.tryS (.cons (.ite (.cmp .lt (.var 0) (.cst (.int 4))) (.cons (.ret (.ite (.cmp .eq (.var 0) (.cst (.int 0))) (.call 8 (.cons (.var 1) (.cons (.var 2) .nil)) []) (.ite (.cmp .eq (.var 0) (.cst (.int 1))) (.call 10 (.cons (.var 1) (.cons (.var 2) .nil)) []) (.ite (.cmp .eq (.var 0) (.cst (.int 2))) (.call 13 (.cons (.var 1) (.cons (.var 2) .nil)) []) (.call 11 (.cons (.var 1) (.cons (.var 2) (.cons (.var 3) .nil))) []))))) .nil) .nil) (.cons (.ite (.cmp .lt (.var 0) (.cst (.int 8))) (.cons (.ret (.ite (.cmp .eq (.var 0) (.cst (.int 4))) (.call 12 (.cons (.var 1) .nil) []) (.ite (.cmp .eq (.var 0) (.cst (.int 5))) (.call 16 (.cons (.var 1) (.cons (.var 2) (.cons (.var 3) .nil))) []) (.ite (.cmp .eq (.var 0) (.cst (.int 6))) (.call 19 (.cons (.var 1) (.cons (.var 2) .nil)) []) (.call 20 (.cons (.var 1) (.cons (.var 2) .nil)) []))))) .nil) .nil) (.cons (.ite (.cmp .lt (.var 0) (.cst (.int 10))) (.cons (.ret (.ite (.cmp .eq (.var 0) (.cst (.int 8))) (.call 25 (.cons (.var 1) (.cons (.var 2) (.cons (.var 3) (.cons (.var 4) .nil)))) []) (.call 28 (.cons (.var 1) (.cons (.var 2) (.cons (.var 3) (.cons (.var 4) .nil)))) []))) .nil) .nil) (.cons (.ret (.ite (.cmp .eq (.var 0) (.cst (.int 10))) (.call 26 (.cons (.var 1) (.cons (.var 2) (.cons (.var 3) (.cons (.var 4) .nil)))) []) (.call 27 (.cons (.var 1) (.cons (.var 2) (.cons (.var 3) (.cons (.var 4) (.cons (.var 5) .nil))))) []))) .nil)))) [("ArgumentError", "argument"), ("PaperError", "paper")]) .nil)
def N_42 : List Str := ["name", "draws", "at", "far", "step", "count", "whens", "offsets", "k", "offset"]
/-- _law_town -/
def b_42 : Cs := (.cons (.asg (.nm 3) (.call 32 (.cons (.lst (.cons (.cst (.int 60)) (.cons (.cst (.int 60)) (.cons (.cst (.int 720)) (.cons (.cst (.int 1440)) .nil))))) (.cons (.var 1) (.cons (.var 2) .nil))) [])) (.cons (.asg (.nm 4) (.call 32 (.cons (.lst (.cons (.cst (.int 60)) (.cons (.cst (.int 60)) (.cons (.cst (.int 30)) (.cons (.cst (.int 1)) .nil))))) (.cons (.var 1) (.cons (.var 2) .nil))) [])) (.cons (.asg (.nm 5) (.call 31 (.cons (.var 1) (.cons (.var 2) (.cons (.call 32 (.cons (.lst (.cons (.cst (.int 1)) (.cons (.cst (.int 3)) (.cons (.bin .add (.cst (.int 8)) (.cst (.int 1))) .nil)))) (.cons (.var 1) (.cons (.var 2) .nil))) []) .nil))) [])) (.cons (.asg (.nm 6) (.u1 .sorted (.u1 .dict (.lc [8] (.nm 8) (.rng1 (.var 5)) .nil (.tup (.cons (.bin .sub (.call 31 (.cons (.var 1) (.cons (.var 2) (.cons (.call 32 (.cons (.lst (.cons (.cst (.int 500)) (.cons (.cst (.int 4001)) .nil))) (.cons (.var 1) (.cons (.var 2) .nil))) []) .nil))) []) (.cst (.int 200))) (.cons (.cst (.int 0)) .nil))))))) (.cons (.asg (.nm 7) (.lc [8] (.nm 8) (.rng1 (.bin .add (.u1 .len (.var 6)) (.cst (.int 1)))) .nil (.bin .mul (.var 4) (.bin .fdiv (.bin .sub (.call 31 (.cons (.var 1) (.cons (.var 2) (.cons (.bin .add (.bin .mul (.cst (.int 2)) (.var 3)) (.cst (.int 1))) .nil))) []) (.var 3)) (.var 4))))) (.cons (.asg (.nm 7) (.lc [9] (.nm 9) (.e (.var 7)) .nil (.u2 .max (.bin .sub (.cst (.int 0)) (.cst (.int 1440))) (.u2 .min (.cst (.int 1440)) (.var 9))))) (.cons (.ret (.tup (.cons (.var 0) (.cons (.ix (.var 7) (.cst (.int 0))) (.cons (.u1 .tuple (.lc [8] (.nm 8) (.rng1 (.u1 .len (.var 6))) .nil (.tup (.cons (.ix (.var 6) (.var 8)) (.cons (.ix (.var 7) (.bin .add (.var 8) (.cst (.int 1)))) .nil))))) .nil))))) .nil)))))))
def N_43 : List Str := ["town", "other", "draws", "at", "marks", "minute", "local", "own", "due", "told", "bad", "odd", "begin", "length", "day", "row", "call", "reason", "one", "k"]
/-- _law_clock_right -/
def b_43 : Cs := (.cons (.asg (.nm 4) (.bin .add (.lst (.cons (.cst (.int 0)) (.cons (.cst (.int 1440)) .nil))) (.lc [15] (.nm 15) (.e (.ix (.var 0) (.cst (.int 2)))) .nil (.ix (.var 15) (.cst (.int 0)))))) (.cons (.asg (.nm 5) (.bin .sub (.bin .add (.call 32 (.cons (.var 4) (.cons (.var 2) (.cons (.var 3) .nil))) []) (.call 31 (.cons (.var 2) (.cons (.var 3) (.cons (.cst (.int 5)) .nil))) [])) (.cst (.int 2)))) (.cons (.asg (.nm 6) (.call 32 (.cons (.lst (.cons (.bin .add (.var 5) (.call 33 (.cons (.var 0) (.cons (.var 5) .nil)) [])) (.cons (.bin .add (.var 5) (.call 33 (.cons (.var 0) (.cons (.bin .sub (.var 5) (.cst (.int 3))) .nil)) [])) (.cons (.bin .sub (.call 31 (.cons (.var 2) (.cons (.var 3) (.cons (.cst (.int 2001)) .nil))) []) (.cst (.int 500))) .nil)))) (.cons (.var 2) (.cons (.var 3) .nil))) [])) (.cons (.asg (.nm 7) (.call 34 (.cons (.var 0) (.cons (.var 6) .nil)) [])) (.cons (.asg (.nm 8) (.lst (.cons (.bin .add (.var 5) (.call 33 (.cons (.var 0) (.cons (.var 5) .nil)) [])) (.cons (.u1 .tuple (.var 7)) (.cons (.u1 .len (.var 7)) (.cons (.u1 .tuple (.lc [18] (.nm 18) (.e (.var 7)) .nil (.bin .add (.var 18) (.call 33 (.cons (.var 1) (.cons (.var 18) .nil)) [])))) .nil)))))) (.cons (.asg (.nm 9) (.lst (.cons (.call 41 (.cons (.cst (.int 0)) (.cons (.var 0) (.cons (.var 5) (.cons (.cst .none) (.cons (.cst .none) (.cons (.cst .none) .nil)))))) []) (.cons (.call 41 (.cons (.cst (.int 1)) (.cons (.var 0) (.cons (.var 6) (.cons (.cst .none) (.cons (.cst .none) (.cons (.cst .none) .nil)))))) []) (.cons (.call 41 (.cons (.cst (.int 2)) (.cons (.var 0) (.cons (.var 6) (.cons (.cst .none) (.cons (.cst .none) (.cons (.cst .none) .nil)))))) []) .nil))))) (.cons (.ite (.cmp .ne (.u1 .repr (.bin .add (.var 9) (.lst (.cons (.call 41 (.cons (.cst (.int 3)) (.cons (.var 0) (.cons (.var 1) (.cons (.var 6) (.cons (.cst .none) (.cons (.cst .none) .nil)))))) []) .nil)))) (.u1 .repr (.var 8))) (.cons (.ret (.cst (.bool false))) .nil) .nil) (.cons (.asg (.tp (.cons (.nm 12) (.cons (.nm 13) (.cons (.nm 14) .nil)))) (.tup (.cons (.bin .sub (.var 6) (.call 31 (.cons (.var 2) (.cons (.var 3) (.cons (.cst (.int 60)) .nil))) [])) (.cons (.bin .add (.cst (.int 1)) (.call 31 (.cons (.var 2) (.cons (.var 3) (.cons (.cst (.int 200)) .nil))) [])) (.cons (.call 32 (.cons (.lst (.cons (.cst (.int 0)) (.cons (.cst (.int 1)) (.cons (.cst (.int 2)) (.cons (.u1 .neg (.cst (.int 1))) (.cons (.call 31 (.cons (.var 2) (.cons (.var 3) (.cons (.cst (.int 5)) .nil))) []) .nil)))))) (.cons (.var 2) (.cons (.var 3) .nil))) []) .nil))))) (.cons (.asg (.nm 8) (.lst (.cons (.call 37 (.cons (.var 0) .nil) []) (.cons (.call 35 (.cons (.var 0) (.cons (.var 12) (.cons (.var 13) .nil))) []) (.cons (.call 36 (.cons (.var 0) (.cons (.var 14) .nil)) []) (.cons (.bin .sub (.call 36 (.cons (.var 0) (.cons (.bin .add (.var 14) (.cst (.int 1))) .nil)) []) (.call 36 (.cons (.var 0) (.cons (.var 14) .nil)) [])) .nil)))))) (.cons (.asg (.nm 9) (.lst (.cons (.call 41 (.cons (.cst (.int 4)) (.cons (.var 0) (.cons (.cst .none) (.cons (.cst .none) (.cons (.cst .none) (.cons (.cst .none) .nil)))))) []) (.cons (.call 41 (.cons (.cst (.int 5)) (.cons (.var 0) (.cons (.var 12) (.cons (.var 13) (.cons (.cst .none) (.cons (.cst .none) .nil)))))) []) .nil)))) (.cons (.ite (.cmp .ne (.u1 .repr (.bin .add (.var 9) (.lc [16] (.nm 16) (.e (.tup (.cons (.cst (.int 6)) (.cons (.cst (.int 7)) .nil)))) .nil (.call 41 (.cons (.var 16) (.cons (.var 0) (.cons (.var 14) (.cons (.cst .none) (.cons (.cst .none) (.cons (.cst .none) .nil)))))) [])))) (.u1 .repr (.var 8))) (.cons (.ret (.cst (.bool false))) .nil) .nil) (.cons (.asg (.nm 10) (.lst (.cons (.cst .none) (.cons (.cst (.int 5)) (.cons (.sl (.var 0) .nil (.cons (.cst (.int 2)) .nil)) (.cons (.tup (.cons (.cst (.str "1")) (.cons (.cst (.int 0)) (.cons (.tup .nil) .nil)))) (.cons (.tup (.cons (.cst (.str "a")) (.cons (.bin .add (.cst (.int 1440)) (.cst (.int 1))) (.cons (.tup .nil) .nil)))) (.cons (.tup (.cons (.cst (.str "a")) (.cons (.cst (.int 0)) (.cons (.tup (.cons (.tup (.cons (.cst (.int 5)) (.cons (.cst (.int 0)) .nil))) (.cons (.tup (.cons (.cst (.int 5)) (.cons (.cst (.int 1)) .nil))) .nil))) .nil)))) (.cons (.tup (.cons (.cst (.str "a")) (.cons (.cst (.int 0)) (.cons (.tup (.cons (.tup (.cons (.cst (.int 5)) (.cons (.cst (.int 0)) .nil))) (.cons (.tup (.cons (.cst (.int 4)) (.cons (.cst (.int 1)) .nil))) .nil))) .nil)))) (.cons (.tup (.cons (.cst (.str "a")) (.cons (.cst (.int 0)) (.cons (.tup (.cons (.tup (.cons (.cst (.int 5)) .nil)) .nil)) .nil)))) (.cons (.tup (.cons (.cst (.str "a")) (.cons (.cst (.bool true)) (.cons (.tup .nil) .nil)))) .nil))))))))))) (.cons (.asg (.nm 10) (.call 32 (.cons (.bin .add (.var 10) (.lst (.cons (.tup (.cons (.cst (.str "a")) (.cons (.cst (.int 0)) (.cons (.tup (.cons (.tup (.cons (.bin .add (.cst (.int 2000000)) (.cst (.int 1))) (.cons (.cst (.int 0)) .nil))) .nil)) .nil)))) (.cons (.tup (.cons (.cst (.str "a")) (.cons (.cst (.int 0)) (.cons (.u1 .tuple (.lc [19] (.nm 19) (.rng1 (.bin .add (.cst (.int 8)) (.cst (.int 1)))) .nil (.tup (.cons (.var 19) (.cons (.cst (.int 0)) .nil))))) .nil)))) .nil)))) (.cons (.var 2) (.cons (.var 3) .nil))) [])) (.cons (.asg (.nm 11) (.call 32 (.cons (.lst (.cons (.cst .none) (.cons (.cst (.bool true)) (.cons (.bin .add (.cst (.int 2000000)) (.cst (.int 1))) (.cons (.bin .sub (.bin .sub (.cst (.int 0)) (.cst (.int 2000000))) (.cst (.int 1))) (.cons (.cst (.str "0")) .nil)))))) (.cons (.var 2) (.cons (.var 3) .nil))) [])) (.cons (.ite (.cmp .ne (.lc [16] (.nm 16) (.rng1 (.cst (.int 8))) .nil (.call 41 (.cons (.var 16) (.cons (.var 10) (.cons (.var 11) (.cons (.var 11) (.cons (.cst .none) (.cons (.cst .none) .nil)))))) [])) (.bin .mul (.lst (.cons (.tup (.cons (.cst (.str "argument")) (.cons (.cst (.str "town")) .nil))) .nil)) (.cst (.int 8)))) (.cons (.ret (.cst (.bool false))) .nil) .nil) (.cons (.asg (.nm 9) (.lst (.cons (.call 41 (.cons (.cst (.int 0)) (.cons (.var 0) (.cons (.var 11) (.cons (.cst .none) (.cons (.cst .none) (.cons (.cst .none) .nil)))))) []) (.cons (.call 41 (.cons (.cst (.int 1)) (.cons (.var 0) (.cons (.var 11) (.cons (.cst .none) (.cons (.cst .none) (.cons (.cst .none) .nil)))))) []) (.cons (.call 41 (.cons (.cst (.int 2)) (.cons (.var 0) (.cons (.var 11) (.cons (.cst .none) (.cons (.cst .none) (.cons (.cst .none) .nil)))))) []) (.cons (.call 41 (.cons (.cst (.int 3)) (.cons (.var 0) (.cons (.var 10) (.cons (.var 11) (.cons (.cst .none) (.cons (.cst .none) .nil)))))) []) .nil)))))) (.cons (.asg (.nm 9) (.bin .add (.var 9) (.lst (.cons (.call 41 (.cons (.cst (.int 3)) (.cons (.var 0) (.cons (.var 1) (.cons (.var 11) (.cons (.cst .none) (.cons (.cst .none) .nil)))))) []) (.cons (.call 41 (.cons (.cst (.int 5)) (.cons (.var 0) (.cons (.var 11) (.cons (.cst (.int 5)) (.cons (.cst .none) (.cons (.cst .none) .nil)))))) []) (.cons (.call 41 (.cons (.cst (.int 5)) (.cons (.var 0) (.cons (.cst (.int 0)) (.cons (.call 32 (.cons (.lst (.cons (.cst (.int 0)) (.cons (.bin .add (.cst (.int 3000)) (.cst (.int 1))) (.cons (.cst .none) .nil)))) (.cons (.var 2) (.cons (.var 3) .nil))) []) (.cons (.cst .none) (.cons (.cst .none) .nil)))))) []) .nil)))))) (.cons (.asg (.nm 9) (.bin .add (.var 9) (.lc [16] (.nm 16) (.e (.tup (.cons (.cst (.int 6)) (.cons (.cst (.int 7)) .nil)))) .nil (.call 41 (.cons (.var 16) (.cons (.var 0) (.cons (.call 32 (.cons (.lst (.cons (.cst (.int 1001)) (.cons (.cst .none) (.cons (.cst (.bool true)) .nil)))) (.cons (.var 2) (.cons (.var 3) .nil))) []) (.cons (.cst .none) (.cons (.cst .none) (.cons (.cst .none) .nil)))))) [])))) (.cons (.ret (.cmp .eq (.var 9) (.lc [17] (.nm 17) (.e (.lst (.cons (.cst (.str "minute")) (.cons (.cst (.str "local")) (.cons (.cst (.str "local")) (.cons (.cst (.str "other")) (.cons (.cst (.str "local")) (.cons (.cst (.str "begin")) (.cons (.cst (.str "length")) (.cons (.cst (.str "day")) (.cons (.cst (.str "day")) .nil))))))))))) .nil (.tup (.cons (.cst (.str "argument")) (.cons (.var 17) .nil)))))) .nil)))))))))))))))))))
def N_44 : List Str := ["script", "draws", "at", "towns", "hours", "town", "none", "wake", "counts", "told", "due", "turn", "bad", "wrong", "low", "begin", "length", "k", "near", "bent", "reason", "minute", "row", "other", "name", "call"]
/-- law -/
def b_44 : Cs := (.cons (.asg (.nm 1) (.call 29 (.cons (.var 0) .nil) [])) (.cons (.new 2 (.lst (.cons (.cst (.int 0)) .nil))) (.cons (.asg (.nm 3) (.u1 .tuple (.lc [24] (.nm 24) (.e (.sl (.lst (.cons (.cst (.str "a")) (.cons (.cst (.str "B2")) (.cons (.cst (.str "c_c")) (.cons (.cst (.str "d")) (.cons (.cst (.str "e")) .nil)))))) .nil (.cons (.bin .add (.cst (.int 1)) (.call 31 (.cons (.var 1) (.cons (.var 2) (.cons (.u2 .min (.cst (.int 5)) (.cst (.int 5))) .nil))) [])) .nil))) .nil (.call 42 (.cons (.var 24) (.cons (.var 1) (.cons (.var 2) .nil))) [])))) (.cons (.ite (.not (.call 43 (.cons (.ix (.var 3) (.cst (.int 0))) (.cons (.ix (.var 3) (.bin .sub (.u1 .len (.var 3)) (.cst (.int 1)))) (.cons (.var 1) (.cons (.var 2) .nil)))) [])) (.cons (.ret (.cst (.bool false))) .nil) .nil) (.cons (.new 4 (.lst .nil)) (.cons (.loop (.nm 5) (.e (.var 3)) (.cons (.asg (.nm 14) (.call 32 (.cons (.lst (.cons (.cst (.int 0)) (.cons (.cst (.int 300)) (.cons (.cst (.int 540)) (.cons (.call 31 (.cons (.var 1) (.cons (.var 2) (.cons (.cst (.int 1440)) .nil))) []) .nil))))) (.cons (.var 1) (.cons (.var 2) .nil))) [])) (.cons (.app (.var 4) (.tup (.cons (.var 14) (.cons (.u2 .min (.cst (.int 1440)) (.bin .add (.bin .add (.var 14) (.cst (.int 1))) (.call 31 (.cons (.var 1) (.cons (.var 2) (.cons (.call 32 (.cons (.lst (.cons (.cst (.int 60)) (.cons (.cst (.int 500)) (.cons (.cst (.int 1440)) .nil)))) (.cons (.var 1) (.cons (.var 2) .nil))) []) .nil))) []))) .nil)))) .nil))) (.cons (.asg (.nm 4) (.u1 .tuple (.var 4))) (.cons (.asg (.tp (.cons (.nm 15) (.cons (.nm 16) .nil))) (.tup (.cons (.bin .sub (.call 31 (.cons (.var 1) (.cons (.var 2) (.cons (.cst (.int 3000)) .nil))) []) (.cst (.int 500))) (.cons (.bin .add (.cst (.int 1)) (.call 31 (.cons (.var 1) (.cons (.var 2) (.cons (.cst (.int 160)) .nil))) [])) .nil)))) (.cons (.asg (.nm 6) (.lc [21] (.nm 21) (.rng2 (.var 15) (.bin .add (.var 15) (.var 16))) .nil (.call 38 (.cons (.var 3) (.cons (.var 4) (.cons (.var 21) .nil))) []))) (.cons (.asg (.nm 7) (.lc [17] (.nm 17) (.rng1 (.var 16)) (.cons (.cmp .eq (.ix (.var 6) (.var 17)) (.lst .nil)) .nil) (.bin .add (.var 15) (.var 17)))) (.cons (.asg (.nm 8) (.lc [22] (.nm 22) (.e (.var 6)) .nil (.bin .sub (.u1 .len (.var 3)) (.u1 .len (.var 22))))) (.cons (.asg (.nm 9) (.ite (.cmp .ne (.var 7) (.lst .nil)) (.tup (.cons (.cst (.str "first")) (.cons (.ix (.var 7) (.cst (.int 0))) .nil))) (.tup (.cons (.cst (.str "barred")) (.cons (.u1 .tuple (.lc [22] (.nm 22) (.e (.var 6)) .nil (.ix (.var 22) (.cst (.int 0))))) .nil))))) (.cons (.asg (.nm 10) (.lst (.cons (.call 39 (.cons (.var 7) .nil) []) (.cons (.tup (.cons (.u1 .max (.var 8)) (.cons (.bin .add (.var 15) (.idx (.var 8) (.u1 .max (.var 8)))) .nil))) (.cons (.var 9) .nil))))) (.cons (.ite (.or (.cmp .ne (.u1 .repr (.lc [25] (.nm 25) (.e (.tup (.cons (.cst (.int 8)) (.cons (.cst (.int 9)) (.cons (.cst (.int 10)) .nil))))) .nil (.call 41 (.cons (.var 25) (.cons (.var 3) (.cons (.var 4) (.cons (.var 15) (.cons (.var 16) (.cons (.cst .none) .nil)))))) []))) (.u1 .repr (.var 10))) (.cmp .isnot (.call 41 (.cons (.cst (.int 11)) (.cons (.var 3) (.cons (.var 4) (.cons (.var 15) (.cons (.var 16) (.cons (.var 9) .nil)))))) []) (.cst .none))) (.cons (.ret (.cst (.bool false))) .nil) .nil) (.cons (.loop (.nm 11) (.rng1 (.cst (.int 8))) (.cons (.asg (.nm 17) (.call 31 (.cons (.var 1) (.cons (.var 2) (.cons (.var 16) .nil))) [])) (.cons (.asg (.nm 18) (.bin .add (.bin .mul (.lst (.cons (.tup (.cons (.cst (.str "first")) (.cons (.bin .add (.var 15) (.var 17)) .nil))) .nil)) (.cst (.int 3))) (.lst (.cons (.tup (.cons (.cst (.str "first")) (.cons (.bin .add (.var 15) (.var 16)) .nil))) (.cons (.tup (.cons (.cst (.str "first")) (.cons (.cst (.bool true)) .nil))) (.cons (.tup (.cons (.ix (.var 9) (.cst (.int 0))) .nil)) (.cons (.cst .none) (.cons (.tup (.cons (.cst (.bool true)) (.cons (.ix (.var 9) (.cst (.int 1))) .nil))) (.cons (.tup (.cons (.cst (.str "none")) (.cons (.cst (.int 0)) .nil))) (.cons (.tup (.cons (.cst (.str "barred")) (.cons (.tup .nil) .nil))) (.cons (.var 9) .nil))))))))))) (.cons (.ite (.cmp .eq (.ix (.var 9) (.cst (.int 0))) (.cst (.str "barred"))) (.cons (.asg (.nm 23) (.call 32 (.cons (.lst (.cons (.call 31 (.cons (.var 1) (.cons (.var 2) (.cons (.u1 .len (.var 3)) .nil))) []) (.cons (.u1 .len (.var 3)) (.cons (.cst .none) (.cons (.cst (.bool true)) (.cons (.call 32 (.cons (.ix (.var 6) (.var 17)) (.cons (.var 1) (.cons (.var 2) .nil))) []) .nil)))))) (.cons (.var 1) (.cons (.var 2) .nil))) [])) (.cons (.asg (.nm 18) (.bin .add (.var 18) (.bin .mul (.lst (.cons (.tup (.cons (.cst (.str "barred")) (.cons (.bin .add (.bin .add (.sl (.ix (.var 9) (.cst (.int 1))) .nil (.cons (.var 17) .nil)) (.tup (.cons (.var 23) .nil))) (.sl (.ix (.var 9) (.cst (.int 1))) (.cons (.bin .add (.var 17) (.cst (.int 1))) .nil) .nil)) .nil))) .nil)) (.cst (.int 8))))) .nil)) .nil) (.cons (.asg (.nm 19) (.call 32 (.cons (.var 18) (.cons (.var 1) (.cons (.var 2) .nil))) [])) (.cons (.asg (.nm 20) (.call 40 (.cons (.var 3) (.cons (.var 4) (.cons (.var 15) (.cons (.var 16) (.cons (.var 19) .nil))))) [])) (.cons (.ite (.cmp .ne (.call 41 (.cons (.cst (.int 11)) (.cons (.var 3) (.cons (.var 4) (.cons (.var 15) (.cons (.var 16) (.cons (.var 19) .nil)))))) []) (.ite (.cmp .is_ (.var 20) (.cst .none)) (.cst .none) (.tup (.cons (.cst (.str "paper")) (.cons (.var 20) .nil))))) (.cons (.ret (.cst (.bool false))) .nil) .nil) .nil))))))) (.cons (.asg (.nm 12) (.call 32 (.cons (.lst (.cons (.cst .none) (.cons (.cst (.int 5)) (.cons (.tup .nil) (.cons (.bin .add (.var 3) (.sl (.var 3) .nil (.cons (.cst (.int 1)) .nil))) (.cons (.tup (.cons (.cst .none) .nil)) .nil)))))) (.cons (.var 1) (.cons (.var 2) .nil))) [])) (.cons (.asg (.nm 13) (.call 32 (.cons (.lst (.cons (.cst .none) (.cons (.cst (.int 5)) (.cons (.tup .nil) (.cons (.bin .add (.var 4) (.sl (.var 4) .nil (.cons (.cst (.int 1)) .nil))) (.cons (.bin .mul (.tup (.cons (.tup (.cons (.cst (.int 5)) (.cons (.cst (.int 5)) .nil))) .nil)) (.u1 .len (.var 3))) (.cons (.bin .mul (.tup (.cons (.tup (.cons (.cst (.int 0)) (.cons (.cst (.int 1441)) .nil))) .nil)) (.u1 .len (.var 3))) (.cons (.bin .mul (.tup (.cons (.tup (.cons (.cst (.int 0)) .nil)) .nil)) (.u1 .len (.var 3))) .nil)))))))) (.cons (.var 1) (.cons (.var 2) .nil))) [])) (.cons (.ite (.cmp .ne (.lc [25] (.nm 25) (.e (.tup (.cons (.cst (.int 8)) (.cons (.cst (.int 9)) (.cons (.cst (.int 10)) (.cons (.cst (.int 11)) .nil)))))) .nil (.call 41 (.cons (.var 25) (.cons (.var 12) (.cons (.var 13) (.cons (.cst .none) (.cons (.cst .none) (.cons (.cst .none) .nil)))))) [])) (.bin .mul (.lst (.cons (.tup (.cons (.cst (.str "argument")) (.cons (.cst (.str "towns")) .nil))) .nil)) (.cst (.int 4)))) (.cons (.ret (.cst (.bool false))) .nil) .nil) (.cons (.ite (.cmp .ne (.lc [25] (.nm 25) (.e (.tup (.cons (.cst (.int 8)) (.cons (.cst (.int 9)) (.cons (.cst (.int 10)) (.cons (.cst (.int 11)) .nil)))))) .nil (.call 41 (.cons (.var 25) (.cons (.var 3) (.cons (.var 13) (.cons (.cst .none) (.cons (.cst .none) (.cons (.cst .none) .nil)))))) [])) (.bin .mul (.lst (.cons (.tup (.cons (.cst (.str "argument")) (.cons (.cst (.str "hours")) .nil))) .nil)) (.cst (.int 4)))) (.cons (.ret (.cst (.bool false))) .nil) .nil) (.cons (.ite (.cmp .ne (.lc [25] (.nm 25) (.e (.tup (.cons (.cst (.int 8)) (.cons (.cst (.int 9)) (.cons (.cst (.int 10)) (.cons (.cst (.int 11)) .nil)))))) .nil (.call 41 (.cons (.var 25) (.cons (.var 3) (.cons (.var 4) (.cons (.call 32 (.cons (.lst (.cons (.cst .none) (.cons (.cst (.bool true)) (.cons (.bin .add (.cst (.int 2000000)) (.cst (.int 1))) .nil)))) (.cons (.var 1) (.cons (.var 2) .nil))) []) (.cons (.cst .none) (.cons (.cst .none) .nil)))))) [])) (.bin .mul (.lst (.cons (.tup (.cons (.cst (.str "argument")) (.cons (.cst (.str "begin")) .nil))) .nil)) (.cst (.int 4)))) (.cons (.ret (.cst (.bool false))) .nil) .nil) (.cons (.ret (.cmp .eq (.lc [25] (.nm 25) (.e (.tup (.cons (.cst (.int 8)) (.cons (.cst (.int 9)) (.cons (.cst (.int 10)) (.cons (.cst (.int 11)) .nil)))))) .nil (.call 41 (.cons (.var 25) (.cons (.var 3) (.cons (.var 4) (.cons (.var 15) (.cons (.call 32 (.cons (.lst (.cons (.cst (.int 0)) (.cons (.bin .add (.cst (.int 3000)) (.cst (.int 1))) (.cons (.cst .none) .nil)))) (.cons (.var 1) (.cons (.var 2) .nil))) []) (.cons (.cst .none) .nil)))))) [])) (.bin .mul (.lst (.cons (.tup (.cons (.cst (.str "argument")) (.cons (.cst (.str "length")) .nil))) .nil)) (.cst (.int 4))))) .nil)))))))))))))))))))))
def fns : List Fn := ([⟨1, 1, b_0⟩, ⟨3, 3, b_1⟩, ⟨1, 1, b_2⟩, ⟨1, 2, b_3⟩, ⟨1, 4, b_4⟩, ⟨2, 2, b_5⟩, ⟨2, 2, b_6⟩, ⟨2, 5, b_7⟩, ⟨2, 2, b_8⟩, ⟨2, 10, b_9⟩, ⟨2, 2, b_10⟩, ⟨3, 4, b_11⟩, ⟨1, 5, b_12⟩, ⟨2, 2, b_13⟩, ⟨3, 8, b_14⟩, ⟨2, 2, b_15⟩, ⟨3, 4, b_16⟩, ⟨2, 8, b_17⟩, ⟨1, 1, b_18⟩, ⟨2, 2, b_19⟩, ⟨2, 2, b_20⟩, ⟨1, 2, b_21⟩, ⟨2, 4, b_22⟩, ⟨3, 3, b_23⟩, ⟨3, 5, b_24⟩, ⟨4, 6, b_25⟩, ⟨4, 7, b_26⟩, ⟨5, 8, b_27⟩, ⟨4, 7, b_28⟩, ⟨1, 6, b_29⟩] : List Fn) ++ ([⟨2, 4, b_30⟩, ⟨3, 4, b_31⟩, ⟨3, 3, b_32⟩, ⟨2, 5, b_33⟩, ⟨2, 6, b_34⟩, ⟨3, 7, b_35⟩, ⟨2, 6, b_36⟩, ⟨1, 5, b_37⟩, ⟨3, 5, b_38⟩, ⟨1, 3, b_39⟩, ⟨5, 7, b_40⟩, ⟨6, 7, b_41⟩, ⟨3, 10, b_42⟩, ⟨4, 20, b_43⟩, ⟨1, 26, b_44⟩] : List Fn)
theorem c_0 : body? G W [] N_0 (defScope (top 7)) (defBody (top 7)) = some b_0 := by kernel_rfl
theorem f_0 : FnScope N_0 ["value"] (defScope (top 7)) := ⟨rfl, rfl, rfl, by decide +kernel, rfl, by decide +kernel, by decide +kernel⟩
theorem c_1 : body? G W [] N_1 (defScope (top 8)) (defBody (top 8)) = some b_1 := by kernel_rfl
theorem f_1 : FnScope N_1 ["value", "least", "most"] (defScope (top 8)) := ⟨rfl, rfl, rfl, by decide +kernel, rfl, by decide +kernel, by decide +kernel⟩
theorem c_2 : body? G W [] N_2 (defScope (top 9)) (defBody (top 9)) = some b_2 := by kernel_rfl
theorem f_2 : FnScope N_2 ["sign"] (defScope (top 9)) := ⟨rfl, rfl, rfl, by decide +kernel, rfl, by decide +kernel, by decide +kernel⟩
theorem c_3 : body? G W [] N_3 (defScope (top 10)) (defBody (top 10)) = some b_3 := by kernel_rfl
theorem f_3 : FnScope N_3 ["value"] (defScope (top 10)) := ⟨rfl, rfl, rfl, by decide +kernel, rfl, by decide +kernel, by decide +kernel⟩
theorem c_4 : body? G W [] N_4 (defScope (top 17)) (defBody (top 17)) = some b_4 := by kernel_rfl
theorem f_4 : FnScope N_4 ["value"] (defScope (top 17)) := ⟨rfl, rfl, rfl, by decide +kernel, rfl, by decide +kernel, by decide +kernel⟩
theorem c_5 : body? G W [] N_5 (defScope (top 18)) (defBody (top 18)) = some b_5 := by kernel_rfl
theorem f_5 : FnScope N_5 ["town", "reason"] (defScope (top 18)) := ⟨rfl, rfl, rfl, by decide +kernel, rfl, by decide +kernel, by decide +kernel⟩
theorem c_6 : body? G W [] N_6 (defScope (top 19)) (defBody (top 19)) = some b_6 := by kernel_rfl
theorem f_6 : FnScope N_6 ["minute", "reason"] (defScope (top 19)) := ⟨rfl, rfl, rfl, by decide +kernel, rfl, by decide +kernel, by decide +kernel⟩
theorem c_7 : body? G W [] N_7 (defScope (top 20)) (defBody (top 20)) = some b_7 := by kernel_rfl
theorem f_7 : FnScope N_7 ["town", "minute"] (defScope (top 20)) := ⟨rfl, rfl, rfl, by decide +kernel, rfl, by decide +kernel, by decide +kernel⟩
theorem c_8 : body? G W [] N_8 (defScope (top 21)) (defBody (top 21)) = some b_8 := by kernel_rfl
theorem f_8 : FnScope N_8 ["town", "minute"] (defScope (top 21)) := ⟨rfl, rfl, rfl, by decide +kernel, rfl, by decide +kernel, by decide +kernel⟩
theorem c_9 : body? G W ["found"] N_9 (defScope (top 22)) (defBody (top 22)) = some b_9 := by kernel_rfl
theorem f_9 : FnScope N_9 ["town", "local"] (defScope (top 22)) := ⟨rfl, rfl, rfl, by decide +kernel, rfl, by decide +kernel, by decide +kernel⟩
theorem c_10 : body? G W [] N_10 (defScope (top 23)) (defBody (top 23)) = some b_10 := by kernel_rfl
theorem f_10 : FnScope N_10 ["town", "local"] (defScope (top 23)) := ⟨rfl, rfl, rfl, by decide +kernel, rfl, by decide +kernel, by decide +kernel⟩
theorem c_11 : body? G W [] N_11 (defScope (top 24)) (defBody (top 24)) = some b_11 := by kernel_rfl
theorem f_11 : FnScope N_11 ["town", "other", "local"] (defScope (top 24)) := ⟨rfl, rfl, rfl, by decide +kernel, rfl, by decide +kernel, by decide +kernel⟩
theorem c_12 : body? G W ["found"] N_12 (defScope (top 25)) (defBody (top 25)) = some b_12 := by kernel_rfl
theorem f_12 : FnScope N_12 ["town"] (defScope (top 25)) := ⟨rfl, rfl, rfl, by decide +kernel, rfl, by decide +kernel, by decide +kernel⟩
theorem c_13 : body? G W [] N_13 (defScope (top 26)) (defBody (top 26)) = some b_13 := by kernel_rfl
theorem f_13 : FnScope N_13 ["town", "local"] (defScope (top 26)) := ⟨rfl, rfl, rfl, by decide +kernel, rfl, by decide +kernel, by decide +kernel⟩
theorem c_14 : body? G W ["found"] N_14 (defScope (top 27)) (defBody (top 27)) = some b_14 := by kernel_rfl
theorem f_14 : FnScope N_14 ["town", "least", "most"] (defScope (top 27)) := ⟨rfl, rfl, rfl, by decide +kernel, rfl, by decide +kernel, by decide +kernel⟩
theorem c_15 : body? G W [] N_15 (defScope (top 28)) (defBody (top 28)) = some b_15 := by kernel_rfl
theorem f_15 : FnScope N_15 ["begin", "length"] (defScope (top 28)) := ⟨rfl, rfl, rfl, by decide +kernel, rfl, by decide +kernel, by decide +kernel⟩
theorem c_16 : body? G W [] N_16 (defScope (top 29)) (defBody (top 29)) = some b_16 := by kernel_rfl
theorem f_16 : FnScope N_16 ["town", "begin", "length"] (defScope (top 29)) := ⟨rfl, rfl, rfl, by decide +kernel, rfl, by decide +kernel, by decide +kernel⟩
theorem c_17 : body? G W [] N_17 (defScope (top 30)) (defBody (top 30)) = some b_17 := by kernel_rfl
theorem f_17 : FnScope N_17 ["town", "day"] (defScope (top 30)) := ⟨rfl, rfl, rfl, by decide +kernel, rfl, by decide +kernel, by decide +kernel⟩
theorem c_18 : body? G W [] N_18 (defScope (top 31)) (defBody (top 31)) = some b_18 := by kernel_rfl
theorem f_18 : FnScope N_18 ["day"] (defScope (top 31)) := ⟨rfl, rfl, rfl, by decide +kernel, rfl, by decide +kernel, by decide +kernel⟩
theorem c_19 : body? G W [] N_19 (defScope (top 32)) (defBody (top 32)) = some b_19 := by kernel_rfl
theorem f_19 : FnScope N_19 ["town", "day"] (defScope (top 32)) := ⟨rfl, rfl, rfl, by decide +kernel, rfl, by decide +kernel, by decide +kernel⟩
theorem c_20 : body? G W [] N_20 (defScope (top 33)) (defBody (top 33)) = some b_20 := by kernel_rfl
theorem f_20 : FnScope N_20 ["town", "day"] (defScope (top 33)) := ⟨rfl, rfl, rfl, by decide +kernel, rfl, by decide +kernel, by decide +kernel⟩
theorem c_21 : body? G W [] N_21 (defScope (top 34)) (defBody (top 34)) = some b_21 := by kernel_rfl
theorem f_21 : FnScope N_21 ["value"] (defScope (top 34)) := ⟨rfl, rfl, rfl, by decide +kernel, rfl, by decide +kernel, by decide +kernel⟩
theorem c_22 : body? G W [] N_22 (defScope (top 35)) (defBody (top 35)) = some b_22 := by kernel_rfl
theorem f_22 : FnScope N_22 ["towns", "hours"] (defScope (top 35)) := ⟨rfl, rfl, rfl, by decide +kernel, rfl, by decide +kernel, by decide +kernel⟩
theorem c_23 : body? G W [] N_23 (defScope (top 36)) (defBody (top 36)) = some b_23 := by kernel_rfl
theorem f_23 : FnScope N_23 ["town", "row", "minute"] (defScope (top 36)) := ⟨rfl, rfl, rfl, by decide +kernel, rfl, by decide +kernel, by decide +kernel⟩
theorem c_24 : body? G W [] N_24 (defScope (top 37)) (defBody (top 37)) = some b_24 := by kernel_rfl
theorem f_24 : FnScope N_24 ["towns", "hours", "minute"] (defScope (top 37)) := ⟨rfl, rfl, rfl, by decide +kernel, rfl, by decide +kernel, by decide +kernel⟩
theorem c_25 : body? G W ["found"] N_25 (defScope (top 38)) (defBody (top 38)) = some b_25 := by kernel_rfl
theorem f_25 : FnScope N_25 ["towns", "hours", "begin", "length"] (defScope (top 38)) := ⟨rfl, rfl, rfl, by decide +kernel, rfl, by decide +kernel, by decide +kernel⟩
theorem c_26 : body? G W ["numbers"] N_26 (defScope (top 39)) (defBody (top 39)) = some b_26 := by kernel_rfl
theorem f_26 : FnScope N_26 ["towns", "hours", "begin", "length"] (defScope (top 39)) := ⟨rfl, rfl, rfl, by decide +kernel, rfl, by decide +kernel, by decide +kernel⟩
theorem c_27 : body? G W [] N_27 (defScope (top 40)) (defBody (top 40)) = some b_27 := by kernel_rfl
theorem f_27 : FnScope N_27 ["towns", "hours", "begin", "length", "told"] (defScope (top 40)) := ⟨rfl, rfl, rfl, by decide +kernel, rfl, by decide +kernel, by decide +kernel⟩
theorem c_28 : body? G W [] N_28 (defScope (top 41)) (defBody (top 41)) = some b_28 := by kernel_rfl
theorem f_28 : FnScope N_28 ["towns", "hours", "begin", "length"] (defScope (top 41)) := ⟨rfl, rfl, rfl, by decide +kernel, rfl, by decide +kernel, by decide +kernel⟩
theorem c_29 : body? G W ["draws"] N_29 (defScope (top 43)) (defBody (top 43)) = some b_29 := by kernel_rfl
theorem f_29 : FnScope N_29 ["script"] (defScope (top 43)) := ⟨rfl, rfl, rfl, by decide +kernel, rfl, by decide +kernel, by decide +kernel⟩
theorem c_30 : body? G W [] N_30 (defScope (top 44)) (defBody (top 44)) = some b_30 := by kernel_rfl
theorem f_30 : FnScope N_30 ["draws", "place"] (defScope (top 44)) := ⟨rfl, rfl, rfl, by decide +kernel, rfl, by decide +kernel, by decide +kernel⟩
theorem c_31 : body? G W ["at"] N_31 (defScope (top 45)) (defBody (top 45)) = some b_31 := by kernel_rfl
theorem f_31 : FnScope N_31 ["draws", "at", "many"] (defScope (top 45)) := ⟨rfl, rfl, rfl, by decide +kernel, rfl, by decide +kernel, by decide +kernel⟩
theorem c_32 : body? G W [] N_32 (defScope (top 46)) (defBody (top 46)) = some b_32 := by kernel_rfl
theorem f_32 : FnScope N_32 ["rows", "draws", "at"] (defScope (top 46)) := ⟨rfl, rfl, rfl, by decide +kernel, rfl, by decide +kernel, by decide +kernel⟩
theorem c_33 : body? G W [] N_33 (defScope (top 47)) (defBody (top 47)) = some b_33 := by kernel_rfl
theorem f_33 : FnScope N_33 ["town", "minute"] (defScope (top 47)) := ⟨rfl, rfl, rfl, by decide +kernel, rfl, by decide +kernel, by decide +kernel⟩
theorem c_34 : body? G W [] N_34 (defScope (top 48)) (defBody (top 48)) = some b_34 := by kernel_rfl
theorem f_34 : FnScope N_34 ["town", "local"] (defScope (top 48)) := ⟨rfl, rfl, rfl, by decide +kernel, rfl, by decide +kernel, by decide +kernel⟩
theorem c_35 : body? G W ["found"] N_35 (defScope (top 49)) (defBody (top 49)) = some b_35 := by kernel_rfl
theorem f_35 : FnScope N_35 ["town", "begin", "length"] (defScope (top 49)) := ⟨rfl, rfl, rfl, by decide +kernel, rfl, by decide +kernel, by decide +kernel⟩
theorem c_36 : body? G W [] N_36 (defScope (top 50)) (defBody (top 50)) = some b_36 := by kernel_rfl
theorem f_36 : FnScope N_36 ["town", "day"] (defScope (top 50)) := ⟨rfl, rfl, rfl, by decide +kernel, rfl, by decide +kernel, by decide +kernel⟩
theorem c_37 : body? G W ["found"] N_37 (defScope (top 51)) (defBody (top 51)) = some b_37 := by kernel_rfl
theorem f_37 : FnScope N_37 ["town"] (defScope (top 51)) := ⟨rfl, rfl, rfl, by decide +kernel, rfl, by decide +kernel, by decide +kernel⟩
theorem c_38 : body? G W ["found"] N_38 (defScope (top 52)) (defBody (top 52)) = some b_38 := by kernel_rfl
theorem f_38 : FnScope N_38 ["towns", "hours", "minute"] (defScope (top 52)) := ⟨rfl, rfl, rfl, by decide +kernel, rfl, by decide +kernel, by decide +kernel⟩
theorem c_39 : body? G W ["found"] N_39 (defScope (top 53)) (defBody (top 53)) = some b_39 := by kernel_rfl
theorem f_39 : FnScope N_39 ["wake"] (defScope (top 53)) := ⟨rfl, rfl, rfl, by decide +kernel, rfl, by decide +kernel, by decide +kernel⟩
theorem c_40 : body? G W [] N_40 (defScope (top 54)) (defBody (top 54)) = some b_40 := by kernel_rfl
theorem f_40 : FnScope N_40 ["towns", "hours", "begin", "length", "told"] (defScope (top 54)) := ⟨rfl, rfl, rfl, by decide +kernel, rfl, by decide +kernel, by decide +kernel⟩
theorem c_41 : body? G W [] N_41 (defScope (top 55)) (defBody (top 55)) = some b_41 := by kernel_rfl
theorem f_41 : FnScope N_41 ["call", "one", "two", "three", "four", "five"] (defScope (top 55)) := ⟨rfl, rfl, rfl, by decide +kernel, rfl, by decide +kernel, by decide +kernel⟩
theorem c_42 : body? G W [] N_42 (defScope (top 56)) (defBody (top 56)) = some b_42 := by kernel_rfl
theorem f_42 : FnScope N_42 ["name", "draws", "at"] (defScope (top 56)) := ⟨rfl, rfl, rfl, by decide +kernel, rfl, by decide +kernel, by decide +kernel⟩
theorem c_43 : body? G W [] N_43 (defScope (top 57)) (defBody (top 57)) = some b_43 := by kernel_rfl
theorem f_43 : FnScope N_43 ["town", "other", "draws", "at"] (defScope (top 57)) := ⟨rfl, rfl, rfl, by decide +kernel, rfl, by decide +kernel, by decide +kernel⟩
theorem c_44 : body? G W ["at", "hours"] N_44 (defScope (top 58)) (defBody (top 58)) = some b_44 := by kernel_rfl
theorem f_44 : FnScope N_44 ["script"] (defScope (top 58)) := ⟨rfl, rfl, rfl, by decide +kernel, rfl, by decide +kernel, by decide +kernel⟩
theorem r_0 (k : Nat) (a0 : Vl) (S : Sto) : callAt fns W (k + 1) 0 [a0] S = fin S.length (xs (callAt fns W k) W b_0 [some a0] S) := rfl
theorem r_1 (k : Nat) (a0 a1 a2 : Vl) (S : Sto) : callAt fns W (k + 1) 1 [a0, a1, a2] S = fin S.length (xs (callAt fns W k) W b_1 [some a0, some a1, some a2] S) := rfl
theorem r_2 (k : Nat) (a0 : Vl) (S : Sto) : callAt fns W (k + 1) 2 [a0] S = fin S.length (xs (callAt fns W k) W b_2 [some a0] S) := rfl
theorem r_3 (k : Nat) (a0 : Vl) (S : Sto) : callAt fns W (k + 1) 3 [a0] S = fin S.length (xs (callAt fns W k) W b_3 [some a0, none] S) := rfl
theorem r_4 (k : Nat) (a0 : Vl) (S : Sto) : callAt fns W (k + 1) 4 [a0] S = fin S.length (xs (callAt fns W k) W b_4 [some a0, none, none, none] S) := rfl
theorem r_5 (k : Nat) (a0 a1 : Vl) (S : Sto) : callAt fns W (k + 1) 5 [a0, a1] S = fin S.length (xs (callAt fns W k) W b_5 [some a0, some a1] S) := rfl
theorem r_6 (k : Nat) (a0 a1 : Vl) (S : Sto) : callAt fns W (k + 1) 6 [a0, a1] S = fin S.length (xs (callAt fns W k) W b_6 [some a0, some a1] S) := rfl
theorem r_7 (k : Nat) (a0 a1 : Vl) (S : Sto) : callAt fns W (k + 1) 7 [a0, a1] S = fin S.length (xs (callAt fns W k) W b_7 [some a0, some a1, none, none, none] S) := rfl
theorem r_8 (k : Nat) (a0 a1 : Vl) (S : Sto) : callAt fns W (k + 1) 8 [a0, a1] S = fin S.length (xs (callAt fns W k) W b_8 [some a0, some a1] S) := rfl
theorem r_9 (k : Nat) (a0 a1 : Vl) (S : Sto) : callAt fns W (k + 1) 9 [a0, a1] S = fin S.length (xs (callAt fns W k) W b_9 [some a0, some a1, none, none, none, none, none, none, none, none] S) := rfl
theorem r_10 (k : Nat) (a0 a1 : Vl) (S : Sto) : callAt fns W (k + 1) 10 [a0, a1] S = fin S.length (xs (callAt fns W k) W b_10 [some a0, some a1] S) := rfl
theorem r_11 (k : Nat) (a0 a1 a2 : Vl) (S : Sto) : callAt fns W (k + 1) 11 [a0, a1, a2] S = fin S.length (xs (callAt fns W k) W b_11 [some a0, some a1, some a2, none] S) := rfl
theorem r_12 (k : Nat) (a0 : Vl) (S : Sto) : callAt fns W (k + 1) 12 [a0] S = fin S.length (xs (callAt fns W k) W b_12 [some a0, none, none, none, none] S) := rfl
theorem r_13 (k : Nat) (a0 a1 : Vl) (S : Sto) : callAt fns W (k + 1) 13 [a0, a1] S = fin S.length (xs (callAt fns W k) W b_13 [some a0, some a1] S) := rfl
theorem r_14 (k : Nat) (a0 a1 a2 : Vl) (S : Sto) : callAt fns W (k + 1) 14 [a0, a1, a2] S = fin S.length (xs (callAt fns W k) W b_14 [some a0, some a1, some a2, none, none, none, none, none] S) := rfl
theorem r_15 (k : Nat) (a0 a1 : Vl) (S : Sto) : callAt fns W (k + 1) 15 [a0, a1] S = fin S.length (xs (callAt fns W k) W b_15 [some a0, some a1] S) := rfl
theorem r_16 (k : Nat) (a0 a1 a2 : Vl) (S : Sto) : callAt fns W (k + 1) 16 [a0, a1, a2] S = fin S.length (xs (callAt fns W k) W b_16 [some a0, some a1, some a2, none] S) := rfl
theorem r_17 (k : Nat) (a0 a1 : Vl) (S : Sto) : callAt fns W (k + 1) 17 [a0, a1] S = fin S.length (xs (callAt fns W k) W b_17 [some a0, some a1, none, none, none, none, none, none] S) := rfl
theorem r_18 (k : Nat) (a0 : Vl) (S : Sto) : callAt fns W (k + 1) 18 [a0] S = fin S.length (xs (callAt fns W k) W b_18 [some a0] S) := rfl
theorem r_19 (k : Nat) (a0 a1 : Vl) (S : Sto) : callAt fns W (k + 1) 19 [a0, a1] S = fin S.length (xs (callAt fns W k) W b_19 [some a0, some a1] S) := rfl
theorem r_20 (k : Nat) (a0 a1 : Vl) (S : Sto) : callAt fns W (k + 1) 20 [a0, a1] S = fin S.length (xs (callAt fns W k) W b_20 [some a0, some a1] S) := rfl
theorem r_21 (k : Nat) (a0 : Vl) (S : Sto) : callAt fns W (k + 1) 21 [a0] S = fin S.length (xs (callAt fns W k) W b_21 [some a0, none] S) := rfl
theorem r_22 (k : Nat) (a0 a1 : Vl) (S : Sto) : callAt fns W (k + 1) 22 [a0, a1] S = fin S.length (xs (callAt fns W k) W b_22 [some a0, some a1, none, none] S) := rfl
theorem r_23 (k : Nat) (a0 a1 a2 : Vl) (S : Sto) : callAt fns W (k + 1) 23 [a0, a1, a2] S = fin S.length (xs (callAt fns W k) W b_23 [some a0, some a1, some a2] S) := rfl
theorem r_24 (k : Nat) (a0 a1 a2 : Vl) (S : Sto) : callAt fns W (k + 1) 24 [a0, a1, a2] S = fin S.length (xs (callAt fns W k) W b_24 [some a0, some a1, some a2, none, none] S) := rfl
theorem r_25 (k : Nat) (a0 a1 a2 a3 : Vl) (S : Sto) : callAt fns W (k + 1) 25 [a0, a1, a2, a3] S = fin S.length (xs (callAt fns W k) W b_25 [some a0, some a1, some a2, some a3, none, none] S) := rfl
theorem r_26 (k : Nat) (a0 a1 a2 a3 : Vl) (S : Sto) : callAt fns W (k + 1) 26 [a0, a1, a2, a3] S = fin S.length (xs (callAt fns W k) W b_26 [some a0, some a1, some a2, some a3, none, none, none] S) := rfl
theorem r_27 (k : Nat) (a0 a1 a2 a3 a4 : Vl) (S : Sto) : callAt fns W (k + 1) 27 [a0, a1, a2, a3, a4] S = fin S.length (xs (callAt fns W k) W b_27 [some a0, some a1, some a2, some a3, some a4, none, none, none] S) := rfl
theorem r_28 (k : Nat) (a0 a1 a2 a3 : Vl) (S : Sto) : callAt fns W (k + 1) 28 [a0, a1, a2, a3] S = fin S.length (xs (callAt fns W k) W b_28 [some a0, some a1, some a2, some a3, none, none, none] S) := rfl
theorem r_29 (k : Nat) (a0 : Vl) (S : Sto) : callAt fns W (k + 1) 29 [a0] S = fin S.length (xs (callAt fns W k) W b_29 [some a0, none, none, none, none, none] S) := rfl
theorem r_30 (k : Nat) (a0 a1 : Vl) (S : Sto) : callAt fns W (k + 1) 30 [a0, a1] S = fin S.length (xs (callAt fns W k) W b_30 [some a0, some a1, none, none] S) := rfl
theorem r_31 (k : Nat) (a0 a1 a2 : Vl) (S : Sto) : callAt fns W (k + 1) 31 [a0, a1, a2] S = fin S.length (xs (callAt fns W k) W b_31 [some a0, some a1, some a2, none] S) := rfl
theorem r_32 (k : Nat) (a0 a1 a2 : Vl) (S : Sto) : callAt fns W (k + 1) 32 [a0, a1, a2] S = fin S.length (xs (callAt fns W k) W b_32 [some a0, some a1, some a2] S) := rfl
theorem r_33 (k : Nat) (a0 a1 : Vl) (S : Sto) : callAt fns W (k + 1) 33 [a0, a1] S = fin S.length (xs (callAt fns W k) W b_33 [some a0, some a1, none, none, none] S) := rfl
theorem r_34 (k : Nat) (a0 a1 : Vl) (S : Sto) : callAt fns W (k + 1) 34 [a0, a1] S = fin S.length (xs (callAt fns W k) W b_34 [some a0, some a1, none, none, none, none] S) := rfl
theorem r_35 (k : Nat) (a0 a1 a2 : Vl) (S : Sto) : callAt fns W (k + 1) 35 [a0, a1, a2] S = fin S.length (xs (callAt fns W k) W b_35 [some a0, some a1, some a2, none, none, none, none] S) := rfl
theorem r_36 (k : Nat) (a0 a1 : Vl) (S : Sto) : callAt fns W (k + 1) 36 [a0, a1] S = fin S.length (xs (callAt fns W k) W b_36 [some a0, some a1, none, none, none, none] S) := rfl
theorem r_37 (k : Nat) (a0 : Vl) (S : Sto) : callAt fns W (k + 1) 37 [a0] S = fin S.length (xs (callAt fns W k) W b_37 [some a0, none, none, none, none] S) := rfl
theorem r_38 (k : Nat) (a0 a1 a2 : Vl) (S : Sto) : callAt fns W (k + 1) 38 [a0, a1, a2] S = fin S.length (xs (callAt fns W k) W b_38 [some a0, some a1, some a2, none, none] S) := rfl
theorem r_39 (k : Nat) (a0 : Vl) (S : Sto) : callAt fns W (k + 1) 39 [a0] S = fin S.length (xs (callAt fns W k) W b_39 [some a0, none, none] S) := rfl
theorem r_40 (k : Nat) (a0 a1 a2 a3 a4 : Vl) (S : Sto) : callAt fns W (k + 1) 40 [a0, a1, a2, a3, a4] S = fin S.length (xs (callAt fns W k) W b_40 [some a0, some a1, some a2, some a3, some a4, none, none] S) := rfl
theorem r_41 (k : Nat) (a0 a1 a2 a3 a4 a5 : Vl) (S : Sto) : callAt fns W (k + 1) 41 [a0, a1, a2, a3, a4, a5] S = fin S.length (xs (callAt fns W k) W b_41 [some a0, some a1, some a2, some a3, some a4, some a5, none] S) := rfl
theorem r_42 (k : Nat) (a0 a1 a2 : Vl) (S : Sto) : callAt fns W (k + 1) 42 [a0, a1, a2] S = fin S.length (xs (callAt fns W k) W b_42 [some a0, some a1, some a2, none, none, none, none, none, none, none] S) := rfl
theorem r_43 (k : Nat) (a0 a1 a2 a3 : Vl) (S : Sto) : callAt fns W (k + 1) 43 [a0, a1, a2, a3] S = fin S.length (xs (callAt fns W k) W b_43 [some a0, some a1, some a2, some a3, none, none, none, none, none, none, none, none, none, none, none, none, none, none, none, none] S) := rfl
theorem r_44 (k : Nat) (a0 : Vl) (S : Sto) : callAt fns W (k + 1) 44 [a0] S = fin S.length (xs (callAt fns W k) W b_44 [some a0, none, none, none, none, none, none, none, none, none, none, none, none, none, none, none, none, none, none, none, none, none, none, none, none, none] S) := rfl
end Tx
/-! part Hx29 -/
set_option Elab.async false
set_option linter.all false
set_option maxRecDepth 100000
set_option maxHeartbeats 0
/-! The head. -/
namespace Tx
open PySem PySem.Spec PyProof.Rows L2 In
def d_0 : He.DefD := ⟨("is_integer", none), "is_integer", "is_integer", defArgs (top 7), defBody (top 7), defScope (top 7), [], []⟩
def d_1 : He.DefD := ⟨("in_range", none), "in_range", "in_range", defArgs (top 8), defBody (top 8), defScope (top 8), [], []⟩
def d_2 : He.DefD := ⟨("is_letter", none), "is_letter", "is_letter", defArgs (top 9), defBody (top 9), defScope (top 9), [], []⟩
def d_3 : He.DefD := ⟨("is_name", none), "is_name", "is_name", defArgs (top 10), defBody (top 10), defScope (top 10), [], []⟩
def d_4 : He.DefD := ⟨("is_town", none), "is_town", "is_town", defArgs (top 17), defBody (top 17), defScope (top 17), [], []⟩
def d_5 : He.DefD := ⟨("demand_town", none), "demand_town", "demand_town", defArgs (top 18), defBody (top 18), defScope (top 18), [.str "town"], []⟩
def d_6 : He.DefD := ⟨("demand_minute", none), "demand_minute", "demand_minute", defArgs (top 19), defBody (top 19), defScope (top 19), [.str "minute"], []⟩
def d_7 : He.DefD := ⟨("offset_at", none), "offset_at", "offset_at", defArgs (top 20), defBody (top 20), defScope (top 20), [], []⟩
def d_8 : He.DefD := ⟨("shown", none), "shown", "shown", defArgs (top 21), defBody (top 21), defScope (top 21), [], []⟩
def d_9 : He.DefD := ⟨("minutes_of", none), "minutes_of", "minutes_of", defArgs (top 22), defBody (top 22), defScope (top 22), [], []⟩
def d_10 : He.DefD := ⟨("minutes", none), "minutes", "minutes", defArgs (top 23), defBody (top 23), defScope (top 23), [], []⟩
def d_11 : He.DefD := ⟨("there", none), "there", "there", defArgs (top 24), defBody (top 24), defScope (top 24), [], []⟩
def d_12 : He.DefD := ⟨("jumps", none), "jumps", "jumps", defArgs (top 25), defBody (top 25), defScope (top 25), [], []⟩
def d_13 : He.DefD := ⟨("count_shown", none), "count_shown", "count_shown", defArgs (top 26), defBody (top 26), defScope (top 26), [], []⟩
def d_14 : He.DefD := ⟨("spans_of", none), "spans_of", "spans_of", defArgs (top 27), defBody (top 27), defScope (top 27), [], []⟩
def d_15 : He.DefD := ⟨("demand_span", none), "demand_span", "demand_span", defArgs (top 28), defBody (top 28), defScope (top 28), [], []⟩
def d_16 : He.DefD := ⟨("odd_times", none), "odd_times", "odd_times", defArgs (top 29), defBody (top 29), defScope (top 29), [], []⟩
def d_17 : He.DefD := ⟨("dawn", none), "dawn", "dawn", defArgs (top 30), defBody (top 30), defScope (top 30), [], []⟩
def d_18 : He.DefD := ⟨("demand_day", none), "demand_day", "demand_day", defArgs (top 31), defBody (top 31), defScope (top 31), [], []⟩
def d_19 : He.DefD := ⟨("day_begins", none), "day_begins", "day_begins", defArgs (top 32), defBody (top 32), defScope (top 32), [], []⟩
def d_20 : He.DefD := ⟨("day_length", none), "day_length", "day_length", defArgs (top 33), defBody (top 33), defScope (top 33), [], []⟩
def d_21 : He.DefD := ⟨("are_towns", none), "are_towns", "are_towns", defArgs (top 34), defBody (top 34), defScope (top 34), [], []⟩
def d_22 : He.DefD := ⟨("demand_hours", none), "demand_hours", "demand_hours", defArgs (top 35), defBody (top 35), defScope (top 35), [], []⟩
def d_23 : He.DefD := ⟨("is_awake", none), "is_awake", "is_awake", defArgs (top 36), defBody (top 36), defScope (top 36), [], []⟩
def d_24 : He.DefD := ⟨("asleep", none), "asleep", "asleep", defArgs (top 37), defBody (top 37), defScope (top 37), [], []⟩
def d_25 : He.DefD := ⟨("common_hours", none), "common_hours", "common_hours", defArgs (top 38), defBody (top 38), defScope (top 38), [], []⟩
def d_26 : He.DefD := ⟨("first_common", none), "first_common", "first_common", defArgs (top 39), defBody (top 39), defScope (top 39), [], []⟩
def d_27 : He.DefD := ⟨("accept_first_common", none), "accept_first_common", "accept_first_common", defArgs (top 40), defBody (top 40), defScope (top 40), [], []⟩
def d_28 : He.DefD := ⟨("most_awake", none), "most_awake", "most_awake", defArgs (top 41), defBody (top 41), defScope (top 41), [], []⟩
def d_29 : He.DefD := ⟨("_law_draws", none), "_law_draws", "_law_draws", defArgs (top 43), defBody (top 43), defScope (top 43), [], []⟩
def d_30 : He.DefD := ⟨("_law_more", none), "_law_more", "_law_more", defArgs (top 44), defBody (top 44), defScope (top 44), [], []⟩
def d_31 : He.DefD := ⟨("_law_take", none), "_law_take", "_law_take", defArgs (top 45), defBody (top 45), defScope (top 45), [], []⟩
def d_32 : He.DefD := ⟨("_law_one", none), "_law_one", "_law_one", defArgs (top 46), defBody (top 46), defScope (top 46), [], []⟩
def d_33 : He.DefD := ⟨("_law_offset", none), "_law_offset", "_law_offset", defArgs (top 47), defBody (top 47), defScope (top 47), [], []⟩
def d_34 : He.DefD := ⟨("_law_minutes", none), "_law_minutes", "_law_minutes", defArgs (top 48), defBody (top 48), defScope (top 48), [], []⟩
def d_35 : He.DefD := ⟨("_law_odd", none), "_law_odd", "_law_odd", defArgs (top 49), defBody (top 49), defScope (top 49), [], []⟩
def d_36 : He.DefD := ⟨("_law_dawn", none), "_law_dawn", "_law_dawn", defArgs (top 50), defBody (top 50), defScope (top 50), [], []⟩
def d_37 : He.DefD := ⟨("_law_jumps", none), "_law_jumps", "_law_jumps", defArgs (top 51), defBody (top 51), defScope (top 51), [], []⟩
def d_38 : He.DefD := ⟨("_law_asleep", none), "_law_asleep", "_law_asleep", defArgs (top 52), defBody (top 52), defScope (top 52), [], []⟩
def d_39 : He.DefD := ⟨("_law_rows_of", none), "_law_rows_of", "_law_rows_of", defArgs (top 53), defBody (top 53), defScope (top 53), [], []⟩
def d_40 : He.DefD := ⟨("_law_due", none), "_law_due", "_law_due", defArgs (top 54), defBody (top 54), defScope (top 54), [], []⟩
def d_41 : He.DefD := ⟨("_law_told", none), "_law_told", "_law_told", defArgs (top 55), defBody (top 55), defScope (top 55), [], []⟩
def d_42 : He.DefD := ⟨("_law_town", none), "_law_town", "_law_town", defArgs (top 56), defBody (top 56), defScope (top 56), [], []⟩
def d_43 : He.DefD := ⟨("_law_clock_right", none), "_law_clock_right", "_law_clock_right", defArgs (top 57), defBody (top 57), defScope (top 57), [], []⟩
def d_44 : He.DefD := ⟨("law", none), "law", "law", defArgs (top 58), defBody (top 58), defScope (top 58), [], []⟩
def fn : List He.DefD := ([d_0, d_1, d_2, d_3, d_4, d_5, d_6, d_7, d_8, d_9, d_10, d_11, d_12, d_13, d_14, d_15, d_16, d_17, d_18, d_19, d_20, d_21, d_22, d_23, d_24, d_25, d_26, d_27, d_28, d_29] : List He.DefD) ++ ([d_30, d_31, d_32, d_33, d_34, d_35, d_36, d_37, d_38, d_39, d_40, d_41, d_42, d_43, d_44] : List He.DefD)
abbrev R : PySem.W.OpenRow := PySem.W.OpenLaw.row PySem.Challenge.rw_timewrought_k29_whole_clocks_of_towns
abbrev PP : Program := PySem.W.OpenLaw.prog PySem.Challenge.rw_timewrought_k29_whole_clocks_of_towns
abbrev hk : PySem.W.Hook := hookX 4 G PP fn
def ob (s : PySem.W.SharedT) : AlX := obsXG 4 G PP fn (HandSHeadRun.getT s)
theorem ob_eq (s : PySem.W.SharedT) : ob s = hk.obs s.abs := obsXG_eq (HandSHeadRun.getT_eq s)
def loose : List PySem.Str := (["MAX_NAME", "MAX_MINUTE", "MAX_OFFSET", "MAX_SPAN", "MAX_TOWNS", "MAX_TURNS", "is_integer", "in_range", "is_letter", "is_name", "TimeError", "ReasonError", "ArgumentError", "PaperError", "is_town", "demand_town", "demand_minute", "offset_at", "shown", "minutes_of", "minutes", "there", "jumps", "count_shown", "spans_of", "demand_span", "odd_times", "dawn", "demand_day", "day_begins"] : List PySem.Str) ++ (["day_length", "are_towns", "demand_hours", "is_awake", "asleep", "common_hours", "first_common", "accept_first_common", "most_awake", "_law_draws", "_law_more", "_law_take", "_law_one", "_law_offset", "_law_minutes", "_law_odd", "_law_dawn", "_law_jumps", "_law_asleep", "_law_rows_of", "_law_due", "_law_told", "_law_town", "_law_clock_right"] : List PySem.Str)
theorem run (w : World) : HandSHeadRun.RunEq R (PySem.W.view R.prog [58]) hk ob 6000 loose w := by
  intro os
  kernel_rfl
theorem o_0 {K : Frag} {h : Heap} {mg : Str → Option Value} (X : K.In h) (Gn : h.Ns mainGlobals mg) (c : SaysX G PP fn K) : ∃ f fd ps, DefOk G W K mg fns "is_integer" ⟨0, 1, []⟩ f fd ps := by
  obtain ⟨fd, F⟩ := c.2.def_ 0 (d := d_0) rfl
  have g : mg "is_integer" = some (.ref (He.fAd K ("is_integer", none))) := c.glo X Gn (x := "is_integer") (D := ⟨0, 1, []⟩) (by first | rfl | decide +kernel)
  refine ⟨_, fd, ["value"], g, F.kp, fun n hn => ?_, ?_⟩
  · have b : Binds K fd ["value"] [] := FunD.bindsN F fun _ _ _ _ _ _ us hl => match us, hl with | [_], _ => rfl
    exact ⟨[], [], b, .nil, fun H => by rw [List.drop_nil]; exact .nil⟩
  · obtain ⟨oc, od, dV, kV, doc, pm, an, cdv, ct, osl, e, lk, hcd, _, _⟩ := F.ex
    exact ⟨_, _, _, _, _, _, _, _, _, _, _, oc, _, od, osl, N_0, ⟨1, 1, b_0⟩, e, lk, hcd, f_0, rfl, rfl, rfl, rfl, body_ok c_0⟩
theorem o_1 {K : Frag} {h : Heap} {mg : Str → Option Value} (X : K.In h) (Gn : h.Ns mainGlobals mg) (c : SaysX G PP fn K) : ∃ f fd ps, DefOk G W K mg fns "in_range" ⟨1, 3, []⟩ f fd ps := by
  obtain ⟨fd, F⟩ := c.2.def_ 1 (d := d_1) rfl
  have g : mg "in_range" = some (.ref (He.fAd K ("in_range", none))) := c.glo X Gn (x := "in_range") (D := ⟨1, 3, []⟩) (by first | rfl | decide +kernel)
  refine ⟨_, fd, ["value", "least", "most"], g, F.kp, fun n hn => ?_, ?_⟩
  · have b : Binds K fd ["value", "least", "most"] [] := FunD.bindsN F fun _ _ _ _ _ _ us hl => match us, hl with | [_, _, _], _ => rfl
    exact ⟨[], [], b, .nil, fun H => by rw [List.drop_nil]; exact .nil⟩
  · obtain ⟨oc, od, dV, kV, doc, pm, an, cdv, ct, osl, e, lk, hcd, _, _⟩ := F.ex
    exact ⟨_, _, _, _, _, _, _, _, _, _, _, oc, _, od, osl, N_1, ⟨3, 3, b_1⟩, e, lk, hcd, f_1, rfl, rfl, rfl, rfl, body_ok c_1⟩
theorem o_2 {K : Frag} {h : Heap} {mg : Str → Option Value} (X : K.In h) (Gn : h.Ns mainGlobals mg) (c : SaysX G PP fn K) : ∃ f fd ps, DefOk G W K mg fns "is_letter" ⟨2, 1, []⟩ f fd ps := by
  obtain ⟨fd, F⟩ := c.2.def_ 2 (d := d_2) rfl
  have g : mg "is_letter" = some (.ref (He.fAd K ("is_letter", none))) := c.glo X Gn (x := "is_letter") (D := ⟨2, 1, []⟩) (by first | rfl | decide +kernel)
  refine ⟨_, fd, ["sign"], g, F.kp, fun n hn => ?_, ?_⟩
  · have b : Binds K fd ["sign"] [] := FunD.bindsN F fun _ _ _ _ _ _ us hl => match us, hl with | [_], _ => rfl
    exact ⟨[], [], b, .nil, fun H => by rw [List.drop_nil]; exact .nil⟩
  · obtain ⟨oc, od, dV, kV, doc, pm, an, cdv, ct, osl, e, lk, hcd, _, _⟩ := F.ex
    exact ⟨_, _, _, _, _, _, _, _, _, _, _, oc, _, od, osl, N_2, ⟨1, 1, b_2⟩, e, lk, hcd, f_2, rfl, rfl, rfl, rfl, body_ok c_2⟩
theorem o_3 {K : Frag} {h : Heap} {mg : Str → Option Value} (X : K.In h) (Gn : h.Ns mainGlobals mg) (c : SaysX G PP fn K) : ∃ f fd ps, DefOk G W K mg fns "is_name" ⟨3, 1, []⟩ f fd ps := by
  obtain ⟨fd, F⟩ := c.2.def_ 3 (d := d_3) rfl
  have g : mg "is_name" = some (.ref (He.fAd K ("is_name", none))) := c.glo X Gn (x := "is_name") (D := ⟨3, 1, []⟩) (by first | rfl | decide +kernel)
  refine ⟨_, fd, ["value"], g, F.kp, fun n hn => ?_, ?_⟩
  · have b : Binds K fd ["value"] [] := FunD.bindsN F fun _ _ _ _ _ _ us hl => match us, hl with | [_], _ => rfl
    exact ⟨[], [], b, .nil, fun H => by rw [List.drop_nil]; exact .nil⟩
  · obtain ⟨oc, od, dV, kV, doc, pm, an, cdv, ct, osl, e, lk, hcd, _, _⟩ := F.ex
    exact ⟨_, _, _, _, _, _, _, _, _, _, _, oc, _, od, osl, N_3, ⟨1, 2, b_3⟩, e, lk, hcd, f_3, rfl, rfl, rfl, rfl, body_ok c_3⟩
theorem o_4 {K : Frag} {h : Heap} {mg : Str → Option Value} (X : K.In h) (Gn : h.Ns mainGlobals mg) (c : SaysX G PP fn K) : ∃ f fd ps, DefOk G W K mg fns "is_town" ⟨4, 1, []⟩ f fd ps := by
  obtain ⟨fd, F⟩ := c.2.def_ 4 (d := d_4) rfl
  have g : mg "is_town" = some (.ref (He.fAd K ("is_town", none))) := c.glo X Gn (x := "is_town") (D := ⟨4, 1, []⟩) (by first | rfl | decide +kernel)
  refine ⟨_, fd, ["value"], g, F.kp, fun n hn => ?_, ?_⟩
  · have b : Binds K fd ["value"] [] := FunD.bindsN F fun _ _ _ _ _ _ us hl => match us, hl with | [_], _ => rfl
    exact ⟨[], [], b, .nil, fun H => by rw [List.drop_nil]; exact .nil⟩
  · obtain ⟨oc, od, dV, kV, doc, pm, an, cdv, ct, osl, e, lk, hcd, _, _⟩ := F.ex
    exact ⟨_, _, _, _, _, _, _, _, _, _, _, oc, _, od, osl, N_4, ⟨1, 4, b_4⟩, e, lk, hcd, f_4, rfl, rfl, rfl, rfl, body_ok c_4⟩
theorem o_5 {K : Frag} {h : Heap} {mg : Str → Option Value} (X : K.In h) (Gn : h.Ns mainGlobals mg) (c : SaysX G PP fn K) : ∃ f fd ps, DefOk G W K mg fns "demand_town" ⟨5, 2, [.str "town"]⟩ f fd ps := by
  obtain ⟨fd, F⟩ := c.2.def_ 5 (d := d_5) rfl
  have g : mg "demand_town" = some (.ref (He.fAd K ("demand_town", none))) := c.glo X Gn (x := "demand_town") (D := ⟨5, 2, [.str "town"]⟩) (by first | rfl | decide +kernel)
  refine ⟨_, fd, ["town", "reason"], g, F.kp, fun n hn => ?_, ?_⟩
  · have hn' : n ≤ 1 := hn
    have b0 : ∃ ds, Vals ((d_5.dvs K).drop 0) ds ∧ Binds K fd ["town", "reason"] ds := FunD.binds1 F 1 0 (by intro z; cases z) rfl fun T kV doc pm an cdv ct us its h1 h2 => match us, its, h1, h2 with | [_], [_], _, _ => ⟨_, rfl, rfl⟩
    have b1 : ∃ ds, Vals ((d_5.dvs K).drop 1) ds ∧ Binds K fd ["town", "reason"] ds := FunD.binds1 F 2 1 (by intro z; cases z) rfl fun T kV doc pm an cdv ct us its h1 h2 => match us, its, h1, h2 with | [_, _], [_], _, _ => ⟨_, rfl, rfl⟩
    have e0 : ∀ H : Hp, RPs K H (([.str "town"] : List PyData).drop 0) ((d_5.dvs K).drop 0) := fun H => .cons (.str _) (.nil)
    have e1 : ∀ H : Hp, RPs K H (([.str "town"] : List PyData).drop 1) ((d_5.dvs K).drop 1) := fun H => .nil
    match n, hn' with
    | 0, _ => obtain ⟨ds, v, b⟩ := b0; exact ⟨ds, _, b, v, e0⟩
    | 1, _ => obtain ⟨ds, v, b⟩ := b1; exact ⟨ds, _, b, v, e1⟩
  · obtain ⟨oc, od, dV, kV, doc, pm, an, cdv, ct, osl, e, lk, hcd, _, _⟩ := F.ex
    exact ⟨_, _, _, _, _, _, _, _, _, _, _, oc, _, od, osl, N_5, ⟨2, 2, b_5⟩, e, lk, hcd, f_5, rfl, rfl, rfl, rfl, body_ok c_5⟩
theorem o_6 {K : Frag} {h : Heap} {mg : Str → Option Value} (X : K.In h) (Gn : h.Ns mainGlobals mg) (c : SaysX G PP fn K) : ∃ f fd ps, DefOk G W K mg fns "demand_minute" ⟨6, 2, [.str "minute"]⟩ f fd ps := by
  obtain ⟨fd, F⟩ := c.2.def_ 6 (d := d_6) rfl
  have g : mg "demand_minute" = some (.ref (He.fAd K ("demand_minute", none))) := c.glo X Gn (x := "demand_minute") (D := ⟨6, 2, [.str "minute"]⟩) (by first | rfl | decide +kernel)
  refine ⟨_, fd, ["minute", "reason"], g, F.kp, fun n hn => ?_, ?_⟩
  · have hn' : n ≤ 1 := hn
    have b0 : ∃ ds, Vals ((d_6.dvs K).drop 0) ds ∧ Binds K fd ["minute", "reason"] ds := FunD.binds1 F 1 0 (by intro z; cases z) rfl fun T kV doc pm an cdv ct us its h1 h2 => match us, its, h1, h2 with | [_], [_], _, _ => ⟨_, rfl, rfl⟩
    have b1 : ∃ ds, Vals ((d_6.dvs K).drop 1) ds ∧ Binds K fd ["minute", "reason"] ds := FunD.binds1 F 2 1 (by intro z; cases z) rfl fun T kV doc pm an cdv ct us its h1 h2 => match us, its, h1, h2 with | [_, _], [_], _, _ => ⟨_, rfl, rfl⟩
    have e0 : ∀ H : Hp, RPs K H (([.str "minute"] : List PyData).drop 0) ((d_6.dvs K).drop 0) := fun H => .cons (.str _) (.nil)
    have e1 : ∀ H : Hp, RPs K H (([.str "minute"] : List PyData).drop 1) ((d_6.dvs K).drop 1) := fun H => .nil
    match n, hn' with
    | 0, _ => obtain ⟨ds, v, b⟩ := b0; exact ⟨ds, _, b, v, e0⟩
    | 1, _ => obtain ⟨ds, v, b⟩ := b1; exact ⟨ds, _, b, v, e1⟩
  · obtain ⟨oc, od, dV, kV, doc, pm, an, cdv, ct, osl, e, lk, hcd, _, _⟩ := F.ex
    exact ⟨_, _, _, _, _, _, _, _, _, _, _, oc, _, od, osl, N_6, ⟨2, 2, b_6⟩, e, lk, hcd, f_6, rfl, rfl, rfl, rfl, body_ok c_6⟩
theorem o_7 {K : Frag} {h : Heap} {mg : Str → Option Value} (X : K.In h) (Gn : h.Ns mainGlobals mg) (c : SaysX G PP fn K) : ∃ f fd ps, DefOk G W K mg fns "offset_at" ⟨7, 2, []⟩ f fd ps := by
  obtain ⟨fd, F⟩ := c.2.def_ 7 (d := d_7) rfl
  have g : mg "offset_at" = some (.ref (He.fAd K ("offset_at", none))) := c.glo X Gn (x := "offset_at") (D := ⟨7, 2, []⟩) (by first | rfl | decide +kernel)
  refine ⟨_, fd, ["town", "minute"], g, F.kp, fun n hn => ?_, ?_⟩
  · have b : Binds K fd ["town", "minute"] [] := FunD.bindsN F fun _ _ _ _ _ _ us hl => match us, hl with | [_, _], _ => rfl
    exact ⟨[], [], b, .nil, fun H => by rw [List.drop_nil]; exact .nil⟩
  · obtain ⟨oc, od, dV, kV, doc, pm, an, cdv, ct, osl, e, lk, hcd, _, _⟩ := F.ex
    exact ⟨_, _, _, _, _, _, _, _, _, _, _, oc, _, od, osl, N_7, ⟨2, 5, b_7⟩, e, lk, hcd, f_7, rfl, rfl, rfl, rfl, body_ok c_7⟩
theorem o_8 {K : Frag} {h : Heap} {mg : Str → Option Value} (X : K.In h) (Gn : h.Ns mainGlobals mg) (c : SaysX G PP fn K) : ∃ f fd ps, DefOk G W K mg fns "shown" ⟨8, 2, []⟩ f fd ps := by
  obtain ⟨fd, F⟩ := c.2.def_ 8 (d := d_8) rfl
  have g : mg "shown" = some (.ref (He.fAd K ("shown", none))) := c.glo X Gn (x := "shown") (D := ⟨8, 2, []⟩) (by first | rfl | decide +kernel)
  refine ⟨_, fd, ["town", "minute"], g, F.kp, fun n hn => ?_, ?_⟩
  · have b : Binds K fd ["town", "minute"] [] := FunD.bindsN F fun _ _ _ _ _ _ us hl => match us, hl with | [_, _], _ => rfl
    exact ⟨[], [], b, .nil, fun H => by rw [List.drop_nil]; exact .nil⟩
  · obtain ⟨oc, od, dV, kV, doc, pm, an, cdv, ct, osl, e, lk, hcd, _, _⟩ := F.ex
    exact ⟨_, _, _, _, _, _, _, _, _, _, _, oc, _, od, osl, N_8, ⟨2, 2, b_8⟩, e, lk, hcd, f_8, rfl, rfl, rfl, rfl, body_ok c_8⟩
theorem o_9 {K : Frag} {h : Heap} {mg : Str → Option Value} (X : K.In h) (Gn : h.Ns mainGlobals mg) (c : SaysX G PP fn K) : ∃ f fd ps, DefOk G W K mg fns "minutes_of" ⟨9, 2, []⟩ f fd ps := by
  obtain ⟨fd, F⟩ := c.2.def_ 9 (d := d_9) rfl
  have g : mg "minutes_of" = some (.ref (He.fAd K ("minutes_of", none))) := c.glo X Gn (x := "minutes_of") (D := ⟨9, 2, []⟩) (by first | rfl | decide +kernel)
  refine ⟨_, fd, ["town", "local"], g, F.kp, fun n hn => ?_, ?_⟩
  · have b : Binds K fd ["town", "local"] [] := FunD.bindsN F fun _ _ _ _ _ _ us hl => match us, hl with | [_, _], _ => rfl
    exact ⟨[], [], b, .nil, fun H => by rw [List.drop_nil]; exact .nil⟩
  · obtain ⟨oc, od, dV, kV, doc, pm, an, cdv, ct, osl, e, lk, hcd, _, _⟩ := F.ex
    exact ⟨_, _, _, _, _, _, _, _, _, _, _, oc, _, od, osl, N_9, ⟨2, 10, b_9⟩, e, lk, hcd, f_9, rfl, rfl, rfl, rfl, body_ok c_9⟩
theorem o_10 {K : Frag} {h : Heap} {mg : Str → Option Value} (X : K.In h) (Gn : h.Ns mainGlobals mg) (c : SaysX G PP fn K) : ∃ f fd ps, DefOk G W K mg fns "minutes" ⟨10, 2, []⟩ f fd ps := by
  obtain ⟨fd, F⟩ := c.2.def_ 10 (d := d_10) rfl
  have g : mg "minutes" = some (.ref (He.fAd K ("minutes", none))) := c.glo X Gn (x := "minutes") (D := ⟨10, 2, []⟩) (by first | rfl | decide +kernel)
  refine ⟨_, fd, ["town", "local"], g, F.kp, fun n hn => ?_, ?_⟩
  · have b : Binds K fd ["town", "local"] [] := FunD.bindsN F fun _ _ _ _ _ _ us hl => match us, hl with | [_, _], _ => rfl
    exact ⟨[], [], b, .nil, fun H => by rw [List.drop_nil]; exact .nil⟩
  · obtain ⟨oc, od, dV, kV, doc, pm, an, cdv, ct, osl, e, lk, hcd, _, _⟩ := F.ex
    exact ⟨_, _, _, _, _, _, _, _, _, _, _, oc, _, od, osl, N_10, ⟨2, 2, b_10⟩, e, lk, hcd, f_10, rfl, rfl, rfl, rfl, body_ok c_10⟩
theorem o_11 {K : Frag} {h : Heap} {mg : Str → Option Value} (X : K.In h) (Gn : h.Ns mainGlobals mg) (c : SaysX G PP fn K) : ∃ f fd ps, DefOk G W K mg fns "there" ⟨11, 3, []⟩ f fd ps := by
  obtain ⟨fd, F⟩ := c.2.def_ 11 (d := d_11) rfl
  have g : mg "there" = some (.ref (He.fAd K ("there", none))) := c.glo X Gn (x := "there") (D := ⟨11, 3, []⟩) (by first | rfl | decide +kernel)
  refine ⟨_, fd, ["town", "other", "local"], g, F.kp, fun n hn => ?_, ?_⟩
  · have b : Binds K fd ["town", "other", "local"] [] := FunD.bindsN F fun _ _ _ _ _ _ us hl => match us, hl with | [_, _, _], _ => rfl
    exact ⟨[], [], b, .nil, fun H => by rw [List.drop_nil]; exact .nil⟩
  · obtain ⟨oc, od, dV, kV, doc, pm, an, cdv, ct, osl, e, lk, hcd, _, _⟩ := F.ex
    exact ⟨_, _, _, _, _, _, _, _, _, _, _, oc, _, od, osl, N_11, ⟨3, 4, b_11⟩, e, lk, hcd, f_11, rfl, rfl, rfl, rfl, body_ok c_11⟩
theorem o_12 {K : Frag} {h : Heap} {mg : Str → Option Value} (X : K.In h) (Gn : h.Ns mainGlobals mg) (c : SaysX G PP fn K) : ∃ f fd ps, DefOk G W K mg fns "jumps" ⟨12, 1, []⟩ f fd ps := by
  obtain ⟨fd, F⟩ := c.2.def_ 12 (d := d_12) rfl
  have g : mg "jumps" = some (.ref (He.fAd K ("jumps", none))) := c.glo X Gn (x := "jumps") (D := ⟨12, 1, []⟩) (by first | rfl | decide +kernel)
  refine ⟨_, fd, ["town"], g, F.kp, fun n hn => ?_, ?_⟩
  · have b : Binds K fd ["town"] [] := FunD.bindsN F fun _ _ _ _ _ _ us hl => match us, hl with | [_], _ => rfl
    exact ⟨[], [], b, .nil, fun H => by rw [List.drop_nil]; exact .nil⟩
  · obtain ⟨oc, od, dV, kV, doc, pm, an, cdv, ct, osl, e, lk, hcd, _, _⟩ := F.ex
    exact ⟨_, _, _, _, _, _, _, _, _, _, _, oc, _, od, osl, N_12, ⟨1, 5, b_12⟩, e, lk, hcd, f_12, rfl, rfl, rfl, rfl, body_ok c_12⟩
theorem o_13 {K : Frag} {h : Heap} {mg : Str → Option Value} (X : K.In h) (Gn : h.Ns mainGlobals mg) (c : SaysX G PP fn K) : ∃ f fd ps, DefOk G W K mg fns "count_shown" ⟨13, 2, []⟩ f fd ps := by
  obtain ⟨fd, F⟩ := c.2.def_ 13 (d := d_13) rfl
  have g : mg "count_shown" = some (.ref (He.fAd K ("count_shown", none))) := c.glo X Gn (x := "count_shown") (D := ⟨13, 2, []⟩) (by first | rfl | decide +kernel)
  refine ⟨_, fd, ["town", "local"], g, F.kp, fun n hn => ?_, ?_⟩
  · have b : Binds K fd ["town", "local"] [] := FunD.bindsN F fun _ _ _ _ _ _ us hl => match us, hl with | [_, _], _ => rfl
    exact ⟨[], [], b, .nil, fun H => by rw [List.drop_nil]; exact .nil⟩
  · obtain ⟨oc, od, dV, kV, doc, pm, an, cdv, ct, osl, e, lk, hcd, _, _⟩ := F.ex
    exact ⟨_, _, _, _, _, _, _, _, _, _, _, oc, _, od, osl, N_13, ⟨2, 2, b_13⟩, e, lk, hcd, f_13, rfl, rfl, rfl, rfl, body_ok c_13⟩
theorem o_14 {K : Frag} {h : Heap} {mg : Str → Option Value} (X : K.In h) (Gn : h.Ns mainGlobals mg) (c : SaysX G PP fn K) : ∃ f fd ps, DefOk G W K mg fns "spans_of" ⟨14, 3, []⟩ f fd ps := by
  obtain ⟨fd, F⟩ := c.2.def_ 14 (d := d_14) rfl
  have g : mg "spans_of" = some (.ref (He.fAd K ("spans_of", none))) := c.glo X Gn (x := "spans_of") (D := ⟨14, 3, []⟩) (by first | rfl | decide +kernel)
  refine ⟨_, fd, ["town", "least", "most"], g, F.kp, fun n hn => ?_, ?_⟩
  · have b : Binds K fd ["town", "least", "most"] [] := FunD.bindsN F fun _ _ _ _ _ _ us hl => match us, hl with | [_, _, _], _ => rfl
    exact ⟨[], [], b, .nil, fun H => by rw [List.drop_nil]; exact .nil⟩
  · obtain ⟨oc, od, dV, kV, doc, pm, an, cdv, ct, osl, e, lk, hcd, _, _⟩ := F.ex
    exact ⟨_, _, _, _, _, _, _, _, _, _, _, oc, _, od, osl, N_14, ⟨3, 8, b_14⟩, e, lk, hcd, f_14, rfl, rfl, rfl, rfl, body_ok c_14⟩
theorem o_15 {K : Frag} {h : Heap} {mg : Str → Option Value} (X : K.In h) (Gn : h.Ns mainGlobals mg) (c : SaysX G PP fn K) : ∃ f fd ps, DefOk G W K mg fns "demand_span" ⟨15, 2, []⟩ f fd ps := by
  obtain ⟨fd, F⟩ := c.2.def_ 15 (d := d_15) rfl
  have g : mg "demand_span" = some (.ref (He.fAd K ("demand_span", none))) := c.glo X Gn (x := "demand_span") (D := ⟨15, 2, []⟩) (by first | rfl | decide +kernel)
  refine ⟨_, fd, ["begin", "length"], g, F.kp, fun n hn => ?_, ?_⟩
  · have b : Binds K fd ["begin", "length"] [] := FunD.bindsN F fun _ _ _ _ _ _ us hl => match us, hl with | [_, _], _ => rfl
    exact ⟨[], [], b, .nil, fun H => by rw [List.drop_nil]; exact .nil⟩
  · obtain ⟨oc, od, dV, kV, doc, pm, an, cdv, ct, osl, e, lk, hcd, _, _⟩ := F.ex
    exact ⟨_, _, _, _, _, _, _, _, _, _, _, oc, _, od, osl, N_15, ⟨2, 2, b_15⟩, e, lk, hcd, f_15, rfl, rfl, rfl, rfl, body_ok c_15⟩
theorem o_16 {K : Frag} {h : Heap} {mg : Str → Option Value} (X : K.In h) (Gn : h.Ns mainGlobals mg) (c : SaysX G PP fn K) : ∃ f fd ps, DefOk G W K mg fns "odd_times" ⟨16, 3, []⟩ f fd ps := by
  obtain ⟨fd, F⟩ := c.2.def_ 16 (d := d_16) rfl
  have g : mg "odd_times" = some (.ref (He.fAd K ("odd_times", none))) := c.glo X Gn (x := "odd_times") (D := ⟨16, 3, []⟩) (by first | rfl | decide +kernel)
  refine ⟨_, fd, ["town", "begin", "length"], g, F.kp, fun n hn => ?_, ?_⟩
  · have b : Binds K fd ["town", "begin", "length"] [] := FunD.bindsN F fun _ _ _ _ _ _ us hl => match us, hl with | [_, _, _], _ => rfl
    exact ⟨[], [], b, .nil, fun H => by rw [List.drop_nil]; exact .nil⟩
  · obtain ⟨oc, od, dV, kV, doc, pm, an, cdv, ct, osl, e, lk, hcd, _, _⟩ := F.ex
    exact ⟨_, _, _, _, _, _, _, _, _, _, _, oc, _, od, osl, N_16, ⟨3, 4, b_16⟩, e, lk, hcd, f_16, rfl, rfl, rfl, rfl, body_ok c_16⟩
theorem o_17 {K : Frag} {h : Heap} {mg : Str → Option Value} (X : K.In h) (Gn : h.Ns mainGlobals mg) (c : SaysX G PP fn K) : ∃ f fd ps, DefOk G W K mg fns "dawn" ⟨17, 2, []⟩ f fd ps := by
  obtain ⟨fd, F⟩ := c.2.def_ 17 (d := d_17) rfl
  have g : mg "dawn" = some (.ref (He.fAd K ("dawn", none))) := c.glo X Gn (x := "dawn") (D := ⟨17, 2, []⟩) (by first | rfl | decide +kernel)
  refine ⟨_, fd, ["town", "day"], g, F.kp, fun n hn => ?_, ?_⟩
  · have b : Binds K fd ["town", "day"] [] := FunD.bindsN F fun _ _ _ _ _ _ us hl => match us, hl with | [_, _], _ => rfl
    exact ⟨[], [], b, .nil, fun H => by rw [List.drop_nil]; exact .nil⟩
  · obtain ⟨oc, od, dV, kV, doc, pm, an, cdv, ct, osl, e, lk, hcd, _, _⟩ := F.ex
    exact ⟨_, _, _, _, _, _, _, _, _, _, _, oc, _, od, osl, N_17, ⟨2, 8, b_17⟩, e, lk, hcd, f_17, rfl, rfl, rfl, rfl, body_ok c_17⟩
theorem o_18 {K : Frag} {h : Heap} {mg : Str → Option Value} (X : K.In h) (Gn : h.Ns mainGlobals mg) (c : SaysX G PP fn K) : ∃ f fd ps, DefOk G W K mg fns "demand_day" ⟨18, 1, []⟩ f fd ps := by
  obtain ⟨fd, F⟩ := c.2.def_ 18 (d := d_18) rfl
  have g : mg "demand_day" = some (.ref (He.fAd K ("demand_day", none))) := c.glo X Gn (x := "demand_day") (D := ⟨18, 1, []⟩) (by first | rfl | decide +kernel)
  refine ⟨_, fd, ["day"], g, F.kp, fun n hn => ?_, ?_⟩
  · have b : Binds K fd ["day"] [] := FunD.bindsN F fun _ _ _ _ _ _ us hl => match us, hl with | [_], _ => rfl
    exact ⟨[], [], b, .nil, fun H => by rw [List.drop_nil]; exact .nil⟩
  · obtain ⟨oc, od, dV, kV, doc, pm, an, cdv, ct, osl, e, lk, hcd, _, _⟩ := F.ex
    exact ⟨_, _, _, _, _, _, _, _, _, _, _, oc, _, od, osl, N_18, ⟨1, 1, b_18⟩, e, lk, hcd, f_18, rfl, rfl, rfl, rfl, body_ok c_18⟩
theorem o_19 {K : Frag} {h : Heap} {mg : Str → Option Value} (X : K.In h) (Gn : h.Ns mainGlobals mg) (c : SaysX G PP fn K) : ∃ f fd ps, DefOk G W K mg fns "day_begins" ⟨19, 2, []⟩ f fd ps := by
  obtain ⟨fd, F⟩ := c.2.def_ 19 (d := d_19) rfl
  have g : mg "day_begins" = some (.ref (He.fAd K ("day_begins", none))) := c.glo X Gn (x := "day_begins") (D := ⟨19, 2, []⟩) (by first | rfl | decide +kernel)
  refine ⟨_, fd, ["town", "day"], g, F.kp, fun n hn => ?_, ?_⟩
  · have b : Binds K fd ["town", "day"] [] := FunD.bindsN F fun _ _ _ _ _ _ us hl => match us, hl with | [_, _], _ => rfl
    exact ⟨[], [], b, .nil, fun H => by rw [List.drop_nil]; exact .nil⟩
  · obtain ⟨oc, od, dV, kV, doc, pm, an, cdv, ct, osl, e, lk, hcd, _, _⟩ := F.ex
    exact ⟨_, _, _, _, _, _, _, _, _, _, _, oc, _, od, osl, N_19, ⟨2, 2, b_19⟩, e, lk, hcd, f_19, rfl, rfl, rfl, rfl, body_ok c_19⟩
theorem o_20 {K : Frag} {h : Heap} {mg : Str → Option Value} (X : K.In h) (Gn : h.Ns mainGlobals mg) (c : SaysX G PP fn K) : ∃ f fd ps, DefOk G W K mg fns "day_length" ⟨20, 2, []⟩ f fd ps := by
  obtain ⟨fd, F⟩ := c.2.def_ 20 (d := d_20) rfl
  have g : mg "day_length" = some (.ref (He.fAd K ("day_length", none))) := c.glo X Gn (x := "day_length") (D := ⟨20, 2, []⟩) (by first | rfl | decide +kernel)
  refine ⟨_, fd, ["town", "day"], g, F.kp, fun n hn => ?_, ?_⟩
  · have b : Binds K fd ["town", "day"] [] := FunD.bindsN F fun _ _ _ _ _ _ us hl => match us, hl with | [_, _], _ => rfl
    exact ⟨[], [], b, .nil, fun H => by rw [List.drop_nil]; exact .nil⟩
  · obtain ⟨oc, od, dV, kV, doc, pm, an, cdv, ct, osl, e, lk, hcd, _, _⟩ := F.ex
    exact ⟨_, _, _, _, _, _, _, _, _, _, _, oc, _, od, osl, N_20, ⟨2, 2, b_20⟩, e, lk, hcd, f_20, rfl, rfl, rfl, rfl, body_ok c_20⟩
theorem o_21 {K : Frag} {h : Heap} {mg : Str → Option Value} (X : K.In h) (Gn : h.Ns mainGlobals mg) (c : SaysX G PP fn K) : ∃ f fd ps, DefOk G W K mg fns "are_towns" ⟨21, 1, []⟩ f fd ps := by
  obtain ⟨fd, F⟩ := c.2.def_ 21 (d := d_21) rfl
  have g : mg "are_towns" = some (.ref (He.fAd K ("are_towns", none))) := c.glo X Gn (x := "are_towns") (D := ⟨21, 1, []⟩) (by first | rfl | decide +kernel)
  refine ⟨_, fd, ["value"], g, F.kp, fun n hn => ?_, ?_⟩
  · have b : Binds K fd ["value"] [] := FunD.bindsN F fun _ _ _ _ _ _ us hl => match us, hl with | [_], _ => rfl
    exact ⟨[], [], b, .nil, fun H => by rw [List.drop_nil]; exact .nil⟩
  · obtain ⟨oc, od, dV, kV, doc, pm, an, cdv, ct, osl, e, lk, hcd, _, _⟩ := F.ex
    exact ⟨_, _, _, _, _, _, _, _, _, _, _, oc, _, od, osl, N_21, ⟨1, 2, b_21⟩, e, lk, hcd, f_21, rfl, rfl, rfl, rfl, body_ok c_21⟩
theorem o_22 {K : Frag} {h : Heap} {mg : Str → Option Value} (X : K.In h) (Gn : h.Ns mainGlobals mg) (c : SaysX G PP fn K) : ∃ f fd ps, DefOk G W K mg fns "demand_hours" ⟨22, 2, []⟩ f fd ps := by
  obtain ⟨fd, F⟩ := c.2.def_ 22 (d := d_22) rfl
  have g : mg "demand_hours" = some (.ref (He.fAd K ("demand_hours", none))) := c.glo X Gn (x := "demand_hours") (D := ⟨22, 2, []⟩) (by first | rfl | decide +kernel)
  refine ⟨_, fd, ["towns", "hours"], g, F.kp, fun n hn => ?_, ?_⟩
  · have b : Binds K fd ["towns", "hours"] [] := FunD.bindsN F fun _ _ _ _ _ _ us hl => match us, hl with | [_, _], _ => rfl
    exact ⟨[], [], b, .nil, fun H => by rw [List.drop_nil]; exact .nil⟩
  · obtain ⟨oc, od, dV, kV, doc, pm, an, cdv, ct, osl, e, lk, hcd, _, _⟩ := F.ex
    exact ⟨_, _, _, _, _, _, _, _, _, _, _, oc, _, od, osl, N_22, ⟨2, 4, b_22⟩, e, lk, hcd, f_22, rfl, rfl, rfl, rfl, body_ok c_22⟩
theorem o_23 {K : Frag} {h : Heap} {mg : Str → Option Value} (X : K.In h) (Gn : h.Ns mainGlobals mg) (c : SaysX G PP fn K) : ∃ f fd ps, DefOk G W K mg fns "is_awake" ⟨23, 3, []⟩ f fd ps := by
  obtain ⟨fd, F⟩ := c.2.def_ 23 (d := d_23) rfl
  have g : mg "is_awake" = some (.ref (He.fAd K ("is_awake", none))) := c.glo X Gn (x := "is_awake") (D := ⟨23, 3, []⟩) (by first | rfl | decide +kernel)
  refine ⟨_, fd, ["town", "row", "minute"], g, F.kp, fun n hn => ?_, ?_⟩
  · have b : Binds K fd ["town", "row", "minute"] [] := FunD.bindsN F fun _ _ _ _ _ _ us hl => match us, hl with | [_, _, _], _ => rfl
    exact ⟨[], [], b, .nil, fun H => by rw [List.drop_nil]; exact .nil⟩
  · obtain ⟨oc, od, dV, kV, doc, pm, an, cdv, ct, osl, e, lk, hcd, _, _⟩ := F.ex
    exact ⟨_, _, _, _, _, _, _, _, _, _, _, oc, _, od, osl, N_23, ⟨3, 3, b_23⟩, e, lk, hcd, f_23, rfl, rfl, rfl, rfl, body_ok c_23⟩
theorem o_24 {K : Frag} {h : Heap} {mg : Str → Option Value} (X : K.In h) (Gn : h.Ns mainGlobals mg) (c : SaysX G PP fn K) : ∃ f fd ps, DefOk G W K mg fns "asleep" ⟨24, 3, []⟩ f fd ps := by
  obtain ⟨fd, F⟩ := c.2.def_ 24 (d := d_24) rfl
  have g : mg "asleep" = some (.ref (He.fAd K ("asleep", none))) := c.glo X Gn (x := "asleep") (D := ⟨24, 3, []⟩) (by first | rfl | decide +kernel)
  refine ⟨_, fd, ["towns", "hours", "minute"], g, F.kp, fun n hn => ?_, ?_⟩
  · have b : Binds K fd ["towns", "hours", "minute"] [] := FunD.bindsN F fun _ _ _ _ _ _ us hl => match us, hl with | [_, _, _], _ => rfl
    exact ⟨[], [], b, .nil, fun H => by rw [List.drop_nil]; exact .nil⟩
  · obtain ⟨oc, od, dV, kV, doc, pm, an, cdv, ct, osl, e, lk, hcd, _, _⟩ := F.ex
    exact ⟨_, _, _, _, _, _, _, _, _, _, _, oc, _, od, osl, N_24, ⟨3, 5, b_24⟩, e, lk, hcd, f_24, rfl, rfl, rfl, rfl, body_ok c_24⟩
theorem o_25 {K : Frag} {h : Heap} {mg : Str → Option Value} (X : K.In h) (Gn : h.Ns mainGlobals mg) (c : SaysX G PP fn K) : ∃ f fd ps, DefOk G W K mg fns "common_hours" ⟨25, 4, []⟩ f fd ps := by
  obtain ⟨fd, F⟩ := c.2.def_ 25 (d := d_25) rfl
  have g : mg "common_hours" = some (.ref (He.fAd K ("common_hours", none))) := c.glo X Gn (x := "common_hours") (D := ⟨25, 4, []⟩) (by first | rfl | decide +kernel)
  refine ⟨_, fd, ["towns", "hours", "begin", "length"], g, F.kp, fun n hn => ?_, ?_⟩
  · have b : Binds K fd ["towns", "hours", "begin", "length"] [] := FunD.bindsN F fun _ _ _ _ _ _ us hl => match us, hl with | [_, _, _, _], _ => rfl
    exact ⟨[], [], b, .nil, fun H => by rw [List.drop_nil]; exact .nil⟩
  · obtain ⟨oc, od, dV, kV, doc, pm, an, cdv, ct, osl, e, lk, hcd, _, _⟩ := F.ex
    exact ⟨_, _, _, _, _, _, _, _, _, _, _, oc, _, od, osl, N_25, ⟨4, 6, b_25⟩, e, lk, hcd, f_25, rfl, rfl, rfl, rfl, body_ok c_25⟩
theorem o_26 {K : Frag} {h : Heap} {mg : Str → Option Value} (X : K.In h) (Gn : h.Ns mainGlobals mg) (c : SaysX G PP fn K) : ∃ f fd ps, DefOk G W K mg fns "first_common" ⟨26, 4, []⟩ f fd ps := by
  obtain ⟨fd, F⟩ := c.2.def_ 26 (d := d_26) rfl
  have g : mg "first_common" = some (.ref (He.fAd K ("first_common", none))) := c.glo X Gn (x := "first_common") (D := ⟨26, 4, []⟩) (by first | rfl | decide +kernel)
  refine ⟨_, fd, ["towns", "hours", "begin", "length"], g, F.kp, fun n hn => ?_, ?_⟩
  · have b : Binds K fd ["towns", "hours", "begin", "length"] [] := FunD.bindsN F fun _ _ _ _ _ _ us hl => match us, hl with | [_, _, _, _], _ => rfl
    exact ⟨[], [], b, .nil, fun H => by rw [List.drop_nil]; exact .nil⟩
  · obtain ⟨oc, od, dV, kV, doc, pm, an, cdv, ct, osl, e, lk, hcd, _, _⟩ := F.ex
    exact ⟨_, _, _, _, _, _, _, _, _, _, _, oc, _, od, osl, N_26, ⟨4, 7, b_26⟩, e, lk, hcd, f_26, rfl, rfl, rfl, rfl, body_ok c_26⟩
theorem o_27 {K : Frag} {h : Heap} {mg : Str → Option Value} (X : K.In h) (Gn : h.Ns mainGlobals mg) (c : SaysX G PP fn K) : ∃ f fd ps, DefOk G W K mg fns "accept_first_common" ⟨27, 5, []⟩ f fd ps := by
  obtain ⟨fd, F⟩ := c.2.def_ 27 (d := d_27) rfl
  have g : mg "accept_first_common" = some (.ref (He.fAd K ("accept_first_common", none))) := c.glo X Gn (x := "accept_first_common") (D := ⟨27, 5, []⟩) (by first | rfl | decide +kernel)
  refine ⟨_, fd, ["towns", "hours", "begin", "length", "told"], g, F.kp, fun n hn => ?_, ?_⟩
  · have b : Binds K fd ["towns", "hours", "begin", "length", "told"] [] := FunD.bindsN F fun _ _ _ _ _ _ us hl => match us, hl with | [_, _, _, _, _], _ => rfl
    exact ⟨[], [], b, .nil, fun H => by rw [List.drop_nil]; exact .nil⟩
  · obtain ⟨oc, od, dV, kV, doc, pm, an, cdv, ct, osl, e, lk, hcd, _, _⟩ := F.ex
    exact ⟨_, _, _, _, _, _, _, _, _, _, _, oc, _, od, osl, N_27, ⟨5, 8, b_27⟩, e, lk, hcd, f_27, rfl, rfl, rfl, rfl, body_ok c_27⟩
theorem o_28 {K : Frag} {h : Heap} {mg : Str → Option Value} (X : K.In h) (Gn : h.Ns mainGlobals mg) (c : SaysX G PP fn K) : ∃ f fd ps, DefOk G W K mg fns "most_awake" ⟨28, 4, []⟩ f fd ps := by
  obtain ⟨fd, F⟩ := c.2.def_ 28 (d := d_28) rfl
  have g : mg "most_awake" = some (.ref (He.fAd K ("most_awake", none))) := c.glo X Gn (x := "most_awake") (D := ⟨28, 4, []⟩) (by first | rfl | decide +kernel)
  refine ⟨_, fd, ["towns", "hours", "begin", "length"], g, F.kp, fun n hn => ?_, ?_⟩
  · have b : Binds K fd ["towns", "hours", "begin", "length"] [] := FunD.bindsN F fun _ _ _ _ _ _ us hl => match us, hl with | [_, _, _, _], _ => rfl
    exact ⟨[], [], b, .nil, fun H => by rw [List.drop_nil]; exact .nil⟩
  · obtain ⟨oc, od, dV, kV, doc, pm, an, cdv, ct, osl, e, lk, hcd, _, _⟩ := F.ex
    exact ⟨_, _, _, _, _, _, _, _, _, _, _, oc, _, od, osl, N_28, ⟨4, 7, b_28⟩, e, lk, hcd, f_28, rfl, rfl, rfl, rfl, body_ok c_28⟩
theorem o_29 {K : Frag} {h : Heap} {mg : Str → Option Value} (X : K.In h) (Gn : h.Ns mainGlobals mg) (c : SaysX G PP fn K) : ∃ f fd ps, DefOk G W K mg fns "_law_draws" ⟨29, 1, []⟩ f fd ps := by
  obtain ⟨fd, F⟩ := c.2.def_ 29 (d := d_29) rfl
  have g : mg "_law_draws" = some (.ref (He.fAd K ("_law_draws", none))) := c.glo X Gn (x := "_law_draws") (D := ⟨29, 1, []⟩) (by first | rfl | decide +kernel)
  refine ⟨_, fd, ["script"], g, F.kp, fun n hn => ?_, ?_⟩
  · have b : Binds K fd ["script"] [] := FunD.bindsN F fun _ _ _ _ _ _ us hl => match us, hl with | [_], _ => rfl
    exact ⟨[], [], b, .nil, fun H => by rw [List.drop_nil]; exact .nil⟩
  · obtain ⟨oc, od, dV, kV, doc, pm, an, cdv, ct, osl, e, lk, hcd, _, _⟩ := F.ex
    exact ⟨_, _, _, _, _, _, _, _, _, _, _, oc, _, od, osl, N_29, ⟨1, 6, b_29⟩, e, lk, hcd, f_29, rfl, rfl, rfl, rfl, body_ok c_29⟩
theorem o_30 {K : Frag} {h : Heap} {mg : Str → Option Value} (X : K.In h) (Gn : h.Ns mainGlobals mg) (c : SaysX G PP fn K) : ∃ f fd ps, DefOk G W K mg fns "_law_more" ⟨30, 2, []⟩ f fd ps := by
  obtain ⟨fd, F⟩ := c.2.def_ 30 (d := d_30) rfl
  have g : mg "_law_more" = some (.ref (He.fAd K ("_law_more", none))) := c.glo X Gn (x := "_law_more") (D := ⟨30, 2, []⟩) (by first | rfl | decide +kernel)
  refine ⟨_, fd, ["draws", "place"], g, F.kp, fun n hn => ?_, ?_⟩
  · have b : Binds K fd ["draws", "place"] [] := FunD.bindsN F fun _ _ _ _ _ _ us hl => match us, hl with | [_, _], _ => rfl
    exact ⟨[], [], b, .nil, fun H => by rw [List.drop_nil]; exact .nil⟩
  · obtain ⟨oc, od, dV, kV, doc, pm, an, cdv, ct, osl, e, lk, hcd, _, _⟩ := F.ex
    exact ⟨_, _, _, _, _, _, _, _, _, _, _, oc, _, od, osl, N_30, ⟨2, 4, b_30⟩, e, lk, hcd, f_30, rfl, rfl, rfl, rfl, body_ok c_30⟩
theorem o_31 {K : Frag} {h : Heap} {mg : Str → Option Value} (X : K.In h) (Gn : h.Ns mainGlobals mg) (c : SaysX G PP fn K) : ∃ f fd ps, DefOk G W K mg fns "_law_take" ⟨31, 3, []⟩ f fd ps := by
  obtain ⟨fd, F⟩ := c.2.def_ 31 (d := d_31) rfl
  have g : mg "_law_take" = some (.ref (He.fAd K ("_law_take", none))) := c.glo X Gn (x := "_law_take") (D := ⟨31, 3, []⟩) (by first | rfl | decide +kernel)
  refine ⟨_, fd, ["draws", "at", "many"], g, F.kp, fun n hn => ?_, ?_⟩
  · have b : Binds K fd ["draws", "at", "many"] [] := FunD.bindsN F fun _ _ _ _ _ _ us hl => match us, hl with | [_, _, _], _ => rfl
    exact ⟨[], [], b, .nil, fun H => by rw [List.drop_nil]; exact .nil⟩
  · obtain ⟨oc, od, dV, kV, doc, pm, an, cdv, ct, osl, e, lk, hcd, _, _⟩ := F.ex
    exact ⟨_, _, _, _, _, _, _, _, _, _, _, oc, _, od, osl, N_31, ⟨3, 4, b_31⟩, e, lk, hcd, f_31, rfl, rfl, rfl, rfl, body_ok c_31⟩
theorem o_32 {K : Frag} {h : Heap} {mg : Str → Option Value} (X : K.In h) (Gn : h.Ns mainGlobals mg) (c : SaysX G PP fn K) : ∃ f fd ps, DefOk G W K mg fns "_law_one" ⟨32, 3, []⟩ f fd ps := by
  obtain ⟨fd, F⟩ := c.2.def_ 32 (d := d_32) rfl
  have g : mg "_law_one" = some (.ref (He.fAd K ("_law_one", none))) := c.glo X Gn (x := "_law_one") (D := ⟨32, 3, []⟩) (by first | rfl | decide +kernel)
  refine ⟨_, fd, ["rows", "draws", "at"], g, F.kp, fun n hn => ?_, ?_⟩
  · have b : Binds K fd ["rows", "draws", "at"] [] := FunD.bindsN F fun _ _ _ _ _ _ us hl => match us, hl with | [_, _, _], _ => rfl
    exact ⟨[], [], b, .nil, fun H => by rw [List.drop_nil]; exact .nil⟩
  · obtain ⟨oc, od, dV, kV, doc, pm, an, cdv, ct, osl, e, lk, hcd, _, _⟩ := F.ex
    exact ⟨_, _, _, _, _, _, _, _, _, _, _, oc, _, od, osl, N_32, ⟨3, 3, b_32⟩, e, lk, hcd, f_32, rfl, rfl, rfl, rfl, body_ok c_32⟩
theorem o_33 {K : Frag} {h : Heap} {mg : Str → Option Value} (X : K.In h) (Gn : h.Ns mainGlobals mg) (c : SaysX G PP fn K) : ∃ f fd ps, DefOk G W K mg fns "_law_offset" ⟨33, 2, []⟩ f fd ps := by
  obtain ⟨fd, F⟩ := c.2.def_ 33 (d := d_33) rfl
  have g : mg "_law_offset" = some (.ref (He.fAd K ("_law_offset", none))) := c.glo X Gn (x := "_law_offset") (D := ⟨33, 2, []⟩) (by first | rfl | decide +kernel)
  refine ⟨_, fd, ["town", "minute"], g, F.kp, fun n hn => ?_, ?_⟩
  · have b : Binds K fd ["town", "minute"] [] := FunD.bindsN F fun _ _ _ _ _ _ us hl => match us, hl with | [_, _], _ => rfl
    exact ⟨[], [], b, .nil, fun H => by rw [List.drop_nil]; exact .nil⟩
  · obtain ⟨oc, od, dV, kV, doc, pm, an, cdv, ct, osl, e, lk, hcd, _, _⟩ := F.ex
    exact ⟨_, _, _, _, _, _, _, _, _, _, _, oc, _, od, osl, N_33, ⟨2, 5, b_33⟩, e, lk, hcd, f_33, rfl, rfl, rfl, rfl, body_ok c_33⟩
theorem o_34 {K : Frag} {h : Heap} {mg : Str → Option Value} (X : K.In h) (Gn : h.Ns mainGlobals mg) (c : SaysX G PP fn K) : ∃ f fd ps, DefOk G W K mg fns "_law_minutes" ⟨34, 2, []⟩ f fd ps := by
  obtain ⟨fd, F⟩ := c.2.def_ 34 (d := d_34) rfl
  have g : mg "_law_minutes" = some (.ref (He.fAd K ("_law_minutes", none))) := c.glo X Gn (x := "_law_minutes") (D := ⟨34, 2, []⟩) (by first | rfl | decide +kernel)
  refine ⟨_, fd, ["town", "local"], g, F.kp, fun n hn => ?_, ?_⟩
  · have b : Binds K fd ["town", "local"] [] := FunD.bindsN F fun _ _ _ _ _ _ us hl => match us, hl with | [_, _], _ => rfl
    exact ⟨[], [], b, .nil, fun H => by rw [List.drop_nil]; exact .nil⟩
  · obtain ⟨oc, od, dV, kV, doc, pm, an, cdv, ct, osl, e, lk, hcd, _, _⟩ := F.ex
    exact ⟨_, _, _, _, _, _, _, _, _, _, _, oc, _, od, osl, N_34, ⟨2, 6, b_34⟩, e, lk, hcd, f_34, rfl, rfl, rfl, rfl, body_ok c_34⟩
theorem o_35 {K : Frag} {h : Heap} {mg : Str → Option Value} (X : K.In h) (Gn : h.Ns mainGlobals mg) (c : SaysX G PP fn K) : ∃ f fd ps, DefOk G W K mg fns "_law_odd" ⟨35, 3, []⟩ f fd ps := by
  obtain ⟨fd, F⟩ := c.2.def_ 35 (d := d_35) rfl
  have g : mg "_law_odd" = some (.ref (He.fAd K ("_law_odd", none))) := c.glo X Gn (x := "_law_odd") (D := ⟨35, 3, []⟩) (by first | rfl | decide +kernel)
  refine ⟨_, fd, ["town", "begin", "length"], g, F.kp, fun n hn => ?_, ?_⟩
  · have b : Binds K fd ["town", "begin", "length"] [] := FunD.bindsN F fun _ _ _ _ _ _ us hl => match us, hl with | [_, _, _], _ => rfl
    exact ⟨[], [], b, .nil, fun H => by rw [List.drop_nil]; exact .nil⟩
  · obtain ⟨oc, od, dV, kV, doc, pm, an, cdv, ct, osl, e, lk, hcd, _, _⟩ := F.ex
    exact ⟨_, _, _, _, _, _, _, _, _, _, _, oc, _, od, osl, N_35, ⟨3, 7, b_35⟩, e, lk, hcd, f_35, rfl, rfl, rfl, rfl, body_ok c_35⟩
theorem o_36 {K : Frag} {h : Heap} {mg : Str → Option Value} (X : K.In h) (Gn : h.Ns mainGlobals mg) (c : SaysX G PP fn K) : ∃ f fd ps, DefOk G W K mg fns "_law_dawn" ⟨36, 2, []⟩ f fd ps := by
  obtain ⟨fd, F⟩ := c.2.def_ 36 (d := d_36) rfl
  have g : mg "_law_dawn" = some (.ref (He.fAd K ("_law_dawn", none))) := c.glo X Gn (x := "_law_dawn") (D := ⟨36, 2, []⟩) (by first | rfl | decide +kernel)
  refine ⟨_, fd, ["town", "day"], g, F.kp, fun n hn => ?_, ?_⟩
  · have b : Binds K fd ["town", "day"] [] := FunD.bindsN F fun _ _ _ _ _ _ us hl => match us, hl with | [_, _], _ => rfl
    exact ⟨[], [], b, .nil, fun H => by rw [List.drop_nil]; exact .nil⟩
  · obtain ⟨oc, od, dV, kV, doc, pm, an, cdv, ct, osl, e, lk, hcd, _, _⟩ := F.ex
    exact ⟨_, _, _, _, _, _, _, _, _, _, _, oc, _, od, osl, N_36, ⟨2, 6, b_36⟩, e, lk, hcd, f_36, rfl, rfl, rfl, rfl, body_ok c_36⟩
theorem o_37 {K : Frag} {h : Heap} {mg : Str → Option Value} (X : K.In h) (Gn : h.Ns mainGlobals mg) (c : SaysX G PP fn K) : ∃ f fd ps, DefOk G W K mg fns "_law_jumps" ⟨37, 1, []⟩ f fd ps := by
  obtain ⟨fd, F⟩ := c.2.def_ 37 (d := d_37) rfl
  have g : mg "_law_jumps" = some (.ref (He.fAd K ("_law_jumps", none))) := c.glo X Gn (x := "_law_jumps") (D := ⟨37, 1, []⟩) (by first | rfl | decide +kernel)
  refine ⟨_, fd, ["town"], g, F.kp, fun n hn => ?_, ?_⟩
  · have b : Binds K fd ["town"] [] := FunD.bindsN F fun _ _ _ _ _ _ us hl => match us, hl with | [_], _ => rfl
    exact ⟨[], [], b, .nil, fun H => by rw [List.drop_nil]; exact .nil⟩
  · obtain ⟨oc, od, dV, kV, doc, pm, an, cdv, ct, osl, e, lk, hcd, _, _⟩ := F.ex
    exact ⟨_, _, _, _, _, _, _, _, _, _, _, oc, _, od, osl, N_37, ⟨1, 5, b_37⟩, e, lk, hcd, f_37, rfl, rfl, rfl, rfl, body_ok c_37⟩
theorem o_38 {K : Frag} {h : Heap} {mg : Str → Option Value} (X : K.In h) (Gn : h.Ns mainGlobals mg) (c : SaysX G PP fn K) : ∃ f fd ps, DefOk G W K mg fns "_law_asleep" ⟨38, 3, []⟩ f fd ps := by
  obtain ⟨fd, F⟩ := c.2.def_ 38 (d := d_38) rfl
  have g : mg "_law_asleep" = some (.ref (He.fAd K ("_law_asleep", none))) := c.glo X Gn (x := "_law_asleep") (D := ⟨38, 3, []⟩) (by first | rfl | decide +kernel)
  refine ⟨_, fd, ["towns", "hours", "minute"], g, F.kp, fun n hn => ?_, ?_⟩
  · have b : Binds K fd ["towns", "hours", "minute"] [] := FunD.bindsN F fun _ _ _ _ _ _ us hl => match us, hl with | [_, _, _], _ => rfl
    exact ⟨[], [], b, .nil, fun H => by rw [List.drop_nil]; exact .nil⟩
  · obtain ⟨oc, od, dV, kV, doc, pm, an, cdv, ct, osl, e, lk, hcd, _, _⟩ := F.ex
    exact ⟨_, _, _, _, _, _, _, _, _, _, _, oc, _, od, osl, N_38, ⟨3, 5, b_38⟩, e, lk, hcd, f_38, rfl, rfl, rfl, rfl, body_ok c_38⟩
theorem o_39 {K : Frag} {h : Heap} {mg : Str → Option Value} (X : K.In h) (Gn : h.Ns mainGlobals mg) (c : SaysX G PP fn K) : ∃ f fd ps, DefOk G W K mg fns "_law_rows_of" ⟨39, 1, []⟩ f fd ps := by
  obtain ⟨fd, F⟩ := c.2.def_ 39 (d := d_39) rfl
  have g : mg "_law_rows_of" = some (.ref (He.fAd K ("_law_rows_of", none))) := c.glo X Gn (x := "_law_rows_of") (D := ⟨39, 1, []⟩) (by first | rfl | decide +kernel)
  refine ⟨_, fd, ["wake"], g, F.kp, fun n hn => ?_, ?_⟩
  · have b : Binds K fd ["wake"] [] := FunD.bindsN F fun _ _ _ _ _ _ us hl => match us, hl with | [_], _ => rfl
    exact ⟨[], [], b, .nil, fun H => by rw [List.drop_nil]; exact .nil⟩
  · obtain ⟨oc, od, dV, kV, doc, pm, an, cdv, ct, osl, e, lk, hcd, _, _⟩ := F.ex
    exact ⟨_, _, _, _, _, _, _, _, _, _, _, oc, _, od, osl, N_39, ⟨1, 3, b_39⟩, e, lk, hcd, f_39, rfl, rfl, rfl, rfl, body_ok c_39⟩
theorem o_40 {K : Frag} {h : Heap} {mg : Str → Option Value} (X : K.In h) (Gn : h.Ns mainGlobals mg) (c : SaysX G PP fn K) : ∃ f fd ps, DefOk G W K mg fns "_law_due" ⟨40, 5, []⟩ f fd ps := by
  obtain ⟨fd, F⟩ := c.2.def_ 40 (d := d_40) rfl
  have g : mg "_law_due" = some (.ref (He.fAd K ("_law_due", none))) := c.glo X Gn (x := "_law_due") (D := ⟨40, 5, []⟩) (by first | rfl | decide +kernel)
  refine ⟨_, fd, ["towns", "hours", "begin", "length", "told"], g, F.kp, fun n hn => ?_, ?_⟩
  · have b : Binds K fd ["towns", "hours", "begin", "length", "told"] [] := FunD.bindsN F fun _ _ _ _ _ _ us hl => match us, hl with | [_, _, _, _, _], _ => rfl
    exact ⟨[], [], b, .nil, fun H => by rw [List.drop_nil]; exact .nil⟩
  · obtain ⟨oc, od, dV, kV, doc, pm, an, cdv, ct, osl, e, lk, hcd, _, _⟩ := F.ex
    exact ⟨_, _, _, _, _, _, _, _, _, _, _, oc, _, od, osl, N_40, ⟨5, 7, b_40⟩, e, lk, hcd, f_40, rfl, rfl, rfl, rfl, body_ok c_40⟩
theorem o_41 {K : Frag} {h : Heap} {mg : Str → Option Value} (X : K.In h) (Gn : h.Ns mainGlobals mg) (c : SaysX G PP fn K) : ∃ f fd ps, DefOk G W K mg fns "_law_told" ⟨41, 6, []⟩ f fd ps := by
  obtain ⟨fd, F⟩ := c.2.def_ 41 (d := d_41) rfl
  have g : mg "_law_told" = some (.ref (He.fAd K ("_law_told", none))) := c.glo X Gn (x := "_law_told") (D := ⟨41, 6, []⟩) (by first | rfl | decide +kernel)
  refine ⟨_, fd, ["call", "one", "two", "three", "four", "five"], g, F.kp, fun n hn => ?_, ?_⟩
  · have b : Binds K fd ["call", "one", "two", "three", "four", "five"] [] := FunD.bindsN F fun _ _ _ _ _ _ us hl => match us, hl with | [_, _, _, _, _, _], _ => rfl
    exact ⟨[], [], b, .nil, fun H => by rw [List.drop_nil]; exact .nil⟩
  · obtain ⟨oc, od, dV, kV, doc, pm, an, cdv, ct, osl, e, lk, hcd, _, _⟩ := F.ex
    exact ⟨_, _, _, _, _, _, _, _, _, _, _, oc, _, od, osl, N_41, ⟨6, 7, b_41⟩, e, lk, hcd, f_41, rfl, rfl, rfl, rfl, body_ok c_41⟩
theorem o_42 {K : Frag} {h : Heap} {mg : Str → Option Value} (X : K.In h) (Gn : h.Ns mainGlobals mg) (c : SaysX G PP fn K) : ∃ f fd ps, DefOk G W K mg fns "_law_town" ⟨42, 3, []⟩ f fd ps := by
  obtain ⟨fd, F⟩ := c.2.def_ 42 (d := d_42) rfl
  have g : mg "_law_town" = some (.ref (He.fAd K ("_law_town", none))) := c.glo X Gn (x := "_law_town") (D := ⟨42, 3, []⟩) (by first | rfl | decide +kernel)
  refine ⟨_, fd, ["name", "draws", "at"], g, F.kp, fun n hn => ?_, ?_⟩
  · have b : Binds K fd ["name", "draws", "at"] [] := FunD.bindsN F fun _ _ _ _ _ _ us hl => match us, hl with | [_, _, _], _ => rfl
    exact ⟨[], [], b, .nil, fun H => by rw [List.drop_nil]; exact .nil⟩
  · obtain ⟨oc, od, dV, kV, doc, pm, an, cdv, ct, osl, e, lk, hcd, _, _⟩ := F.ex
    exact ⟨_, _, _, _, _, _, _, _, _, _, _, oc, _, od, osl, N_42, ⟨3, 10, b_42⟩, e, lk, hcd, f_42, rfl, rfl, rfl, rfl, body_ok c_42⟩
theorem o_43 {K : Frag} {h : Heap} {mg : Str → Option Value} (X : K.In h) (Gn : h.Ns mainGlobals mg) (c : SaysX G PP fn K) : ∃ f fd ps, DefOk G W K mg fns "_law_clock_right" ⟨43, 4, []⟩ f fd ps := by
  obtain ⟨fd, F⟩ := c.2.def_ 43 (d := d_43) rfl
  have g : mg "_law_clock_right" = some (.ref (He.fAd K ("_law_clock_right", none))) := c.glo X Gn (x := "_law_clock_right") (D := ⟨43, 4, []⟩) (by first | rfl | decide +kernel)
  refine ⟨_, fd, ["town", "other", "draws", "at"], g, F.kp, fun n hn => ?_, ?_⟩
  · have b : Binds K fd ["town", "other", "draws", "at"] [] := FunD.bindsN F fun _ _ _ _ _ _ us hl => match us, hl with | [_, _, _, _], _ => rfl
    exact ⟨[], [], b, .nil, fun H => by rw [List.drop_nil]; exact .nil⟩
  · obtain ⟨oc, od, dV, kV, doc, pm, an, cdv, ct, osl, e, lk, hcd, _, _⟩ := F.ex
    exact ⟨_, _, _, _, _, _, _, _, _, _, _, oc, _, od, osl, N_43, ⟨4, 20, b_43⟩, e, lk, hcd, f_43, rfl, rfl, rfl, rfl, body_ok c_43⟩
theorem o_44 {K : Frag} {h : Heap} {mg : Str → Option Value} (X : K.In h) (Gn : h.Ns mainGlobals mg) (c : SaysX G PP fn K) : ∃ f fd ps, DefOk G W K mg fns "law" ⟨44, 1, []⟩ f fd ps := by
  obtain ⟨fd, F⟩ := c.2.def_ 44 (d := d_44) rfl
  have g : mg "law" = some (.ref (He.fAd K ("law", none))) := c.glo X Gn (x := "law") (D := ⟨44, 1, []⟩) (by first | rfl | decide +kernel)
  refine ⟨_, fd, ["script"], g, F.kp, fun n hn => ?_, ?_⟩
  · have b : Binds K fd ["script"] [] := FunD.bindsN F fun _ _ _ _ _ _ us hl => match us, hl with | [_], _ => rfl
    exact ⟨[], [], b, .nil, fun H => by rw [List.drop_nil]; exact .nil⟩
  · obtain ⟨oc, od, dV, kV, doc, pm, an, cdv, ct, osl, e, lk, hcd, _, _⟩ := F.ex
    exact ⟨_, _, _, _, _, _, _, _, _, _, _, oc, _, od, osl, N_44, ⟨1, 26, b_44⟩, e, lk, hcd, f_44, rfl, rfl, rfl, rfl, body_ok c_44⟩
theorem defs {K : Frag} {h : Heap} {mg : Str → Option Value} (X : K.In h) (Gn : h.Ns mainGlobals mg) (c : SaysX G PP fn K) : ∀ x D, G.defs.lookup x = some D → ∃ f fd ps, DefOk G W K mg fns x D f fd ps := by
  intro x D hx
  have hm := PySem.mem_of_lookup hx
  simp only [G, List.mem_cons, List.mem_append, List.not_mem_nil, or_false, Prod.mk.injEq] at hm
  have : ∀ p ∈ G.defs, ∃ f fd ps, DefOk G W K mg fns p.1 p.2 f fd ps := by
    intro p hp
    simp only [G, List.mem_append, List.mem_cons, List.not_mem_nil, or_false, or_assoc] at hp
    rcases hp with rfl | rfl | rfl | rfl | rfl | rfl | rfl | rfl | rfl | rfl | rfl | rfl | rfl | rfl | rfl | rfl | rfl | rfl | rfl | rfl | rfl | rfl | rfl | rfl | rfl | rfl | rfl | rfl | rfl | rfl | rfl | rfl | rfl | rfl | rfl | rfl | rfl | rfl | rfl | rfl | rfl | rfl | rfl | rfl | rfl
    · exact o_0 X Gn c
    · exact o_1 X Gn c
    · exact o_2 X Gn c
    · exact o_3 X Gn c
    · exact o_4 X Gn c
    · exact o_5 X Gn c
    · exact o_6 X Gn c
    · exact o_7 X Gn c
    · exact o_8 X Gn c
    · exact o_9 X Gn c
    · exact o_10 X Gn c
    · exact o_11 X Gn c
    · exact o_12 X Gn c
    · exact o_13 X Gn c
    · exact o_14 X Gn c
    · exact o_15 X Gn c
    · exact o_16 X Gn c
    · exact o_17 X Gn c
    · exact o_18 X Gn c
    · exact o_19 X Gn c
    · exact o_20 X Gn c
    · exact o_21 X Gn c
    · exact o_22 X Gn c
    · exact o_23 X Gn c
    · exact o_24 X Gn c
    · exact o_25 X Gn c
    · exact o_26 X Gn c
    · exact o_27 X Gn c
    · exact o_28 X Gn c
    · exact o_29 X Gn c
    · exact o_30 X Gn c
    · exact o_31 X Gn c
    · exact o_32 X Gn c
    · exact o_33 X Gn c
    · exact o_34 X Gn c
    · exact o_35 X Gn c
    · exact o_36 X Gn c
    · exact o_37 X Gn c
    · exact o_38 X Gn c
    · exact o_39 X Gn c
    · exact o_40 X Gn c
    · exact o_41 X Gn c
    · exact o_42 X Gn c
    · exact o_43 X Gn c
    · exact o_44 X Gn c
  exact this (x, D) (PySem.mem_of_lookup hx)
end Tx
/-! part InR -/
set_option linter.all false
set_option maxRecDepth 100000
set_option maxHeartbeats 1000000
/-! Reasoning about runs of the small language: plain Lean. -/
namespace In
open PySem
variable {F : Fns} {W : Nat} {ρ : Env} {S : Sto}
def getV : Option (Option Vl) → Sto → R Vl
  | some (some v), S => .ok v S
  | _, _ => .no
@[simp] theorem getV_some (v : Vl) : getV (some (some v)) S = .ok v S := rfl
@[simp] theorem fin_rt (n : Nat) (x : PyData) : fin n (.ok (.rt x) S) = .ok x (S.take n) := rfl
@[simp] theorem fin_nx (n : Nat) : fin n (.ok (.nx ρ) S) = .ok .none (S.take n) := rfl
@[simp] theorem fin_ex (n : Nat) (c : Str) (x : PyData) : fin n (.ex c x S) = .ex c x (S.take n) := rfl
@[simp] theorem test_bool (b : Bool) : test S (.d (.bool b)) = .ok b S := rfl
@[simp] theorem test_int (i : Int) : test S (.d (.int i)) = .ok (i != 0) S := rfl
@[simp] theorem test_none : test S (.d .none) = .ok false S := rfl
@[simp] theorem test_list (xs : List PyData) : test S (.d (.list xs)) = .ok (!xs.isEmpty) S := rfl
@[simp] theorem test_tuple (xs : List PyData) : test S (.d (.tuple xs)) = .ok (!xs.isEmpty) S := rfl
@[simp] theorem evs_nil : evs F .nil ρ S = .ok [] S := by simp only [evs]
@[simp] theorem evs_cons (e : E) (es : Es) : evs F (.cons e es) ρ S = (ev F e ρ S).bind fun v S1 => (evs F es ρ S1).bind fun vs S2 => .ok (v :: vs) S2 := by simp only [evs]
@[simp] theorem evps_nil : evps F .nil ρ S = .ok [] S := by simp only [evps]
@[simp] theorem evps_cons (e : E) (es : Es) : evps F (.cons e es) ρ S = (ev F e ρ S).bind fun v S1 => (shut S1 v).bind fun x S1 => (evps F es ρ S1).bind fun xs S2 => .ok (x :: xs) S2 := by
  simp only [evps]
  cases ev F e ρ S <;> rfl
@[simp] theorem ev_cst (x : PyData) : ev F (.cst x) ρ S = .ok (.d x) S := by simp only [ev]
@[simp] theorem ev_vr (i : Nat) : ev F (.var i) ρ S = getV ρ[i]? S := by
  simp only [ev]
  rcases ρ[i]? with _ | _ | v <;> rfl
theorem ev_var (i : Nat) (v : Vl) (h : ρ[i]? = some (some v)) : ev F (.var i) ρ S = .ok v S := by simp only [ev, h]
@[simp] theorem ev_tup (es : Es) : ev F (.tup es) ρ S = (evps F es ρ S).bind fun xs S1 => .ok (.d (.tuple xs)) S1 := by simp only [ev]
@[simp] theorem ev_lst (es : Es) : ev F (.lst es) ρ S = (evps F es ρ S).bind fun xs S1 => .ok (.d (.list xs)) S1 := by simp only [ev]
@[simp] theorem ev_bin (o : B2) (a b : E) : ev F (.bin o a b) ρ S = (ev F a ρ S).bind fun v S1 => (ev F b ρ S1).bind fun w S2 => R.opt ((view S2 v).bind fun x => (view S2 w).bind fun y => (binop o x y).map .d) S2 := by simp only [ev]
@[simp] theorem ev_cmp (o : C2) (a b : E) : ev F (.cmp o a b) ρ S = (ev F a ρ S).bind fun v S1 => (ev F b ρ S1).bind fun w S2 => R.opt ((view S2 v).bind fun x => (view S2 w).bind fun y => (cmpop o x y).map fun c => .d (.bool c)) S2 := by simp only [ev]
@[simp] theorem ev_u1 (o : U1) (a : E) : ev F (.u1 o a) ρ S = (ev F a ρ S).bind fun v S1 => R.opt ((view S1 v).bind fun x => (u1 o x).map .d) S1 := by simp only [ev]
@[simp] theorem ev_u2 (o : U2) (a b : E) : ev F (.u2 o a b) ρ S = (ev F a ρ S).bind fun v S1 => (ev F b ρ S1).bind fun w S2 => R.opt ((view S2 v).bind fun x => (view S2 w).bind fun y => (u2 o x y).map .d) S2 := by simp only [ev]
@[simp] theorem ev_not (a : E) : ev F (.not a) ρ S = (ev F a ρ S).bind fun v S1 => (test S1 v).bind fun b S2 => .ok (.d (.bool (!b))) S2 := by simp only [ev]
@[simp] theorem ev_and (a b : E) : ev F (.and a b) ρ S = (ev F a ρ S).bind fun v S1 => (test S1 v).bind fun c S2 => if c then ev F b ρ S2 else .ok v S2 := by simp only [ev]
@[simp] theorem ev_or (a b : E) : ev F (.or a b) ρ S = (ev F a ρ S).bind fun v S1 => (test S1 v).bind fun c S2 => if c then .ok v S2 else ev F b ρ S2 := by simp only [ev]
@[simp] theorem ev_ite (c a b : E) : ev F (.ite c a b) ρ S = (ev F c ρ S).bind fun v S1 => (test S1 v).bind fun t S2 => if t then ev F a ρ S2 else ev F b ρ S2 := by simp only [ev]
@[simp] theorem ev_ix (a i : E) : ev F (.ix a i) ρ S = (ev F a ρ S).bind fun v S1 => (ev F i ρ S1).bind fun w S2 => R.opt ((view S2 v).bind fun x => (view S2 w).bind fun y => (index x y).map .d) S2 := by simp only [ev]
@[simp] theorem ev_isi (a : E) (t : String) : ev F (.isi a t) ρ S = (ev F a ρ S).bind fun v S1 => R.opt ((view S1 v).bind fun x => (In.isType x t).map fun b => .d (.bool b)) S1 := by simp only [ev]
@[simp] theorem ev_call (f : Nat) (es : Es) (dfl : List PyData) : ev F (.call f es dfl) ρ S = (evs F es ρ S).bind fun vs S1 => (F f (vs ++ dfl.map .d) S1).bind fun x S2 => .ok (.d x) S2 := by simp only [ev]
/-- a op b op' c, behind the first comparison -/
def chT (F : Fns) (o' : C2) (w : Vl) (c : E) (ρ : Env) (S : Sto) : Option Bool → R Vl
  | none => .no
  | some false => .ok (.d (.bool false)) S
  | some true => (ev F c ρ S).bind fun u S3 => R.opt ((view S3 w).bind fun y => (view S3 u).bind fun z => (cmpop o' y z).map fun k => .d (.bool k)) S3
@[simp] theorem chT_f (o' : C2) (w : Vl) (c : E) : chT F o' w c ρ S (some false) = .ok (.d (.bool false)) S := rfl
@[simp] theorem chT_t (o' : C2) (w : Vl) (c : E) : chT F o' w c ρ S (some true) = (ev F c ρ S).bind fun u S3 => R.opt ((view S3 w).bind fun y => (view S3 u).bind fun z => (cmpop o' y z).map fun k => .d (.bool k)) S3 := rfl
@[simp] theorem ev_ch (o o' : C2) (a b c : E) : ev F (.ch o o' a b c) ρ S = (ev F a ρ S).bind fun v S1 => (ev F b ρ S1).bind fun w S2 => chT F o' w c ρ S2 ((view S2 v).bind fun x => (view S2 w).bind fun y => cmpop o x y) := by
  simp only [ev]
  refine congrArg (R.bind _) (funext fun v => funext fun S1 => congrArg (R.bind _) (funext fun w => funext fun S2 => ?_))
  cases ((view S2 v).bind fun x => (view S2 w).bind fun y => cmpop o x y) with
  | none => rfl
  | some b => cases b <;> rfl
@[simp] theorem xs_nil : xs F W .nil ρ S = .ok (.nx ρ) S := by simp only [xs]
/-- what follows a statement -/
def nxt (F : Fns) (W : Nat) (cs : Cs) : Fl → Sto → R Fl
  | .nx ρ, S => xs F W cs ρ S
  | .rt x, S => .ok (.rt x) S
  | .bk ρ, S => .ok (.bk ρ) S
  | .ct ρ, S => .ok (.ct ρ) S
@[simp] theorem nxt_nx (cs : Cs) : nxt F W cs (.nx ρ) S = xs F W cs ρ S := rfl
@[simp] theorem nxt_rt (cs : Cs) (x : PyData) : nxt F W cs (.rt x) S = .ok (.rt x) S := rfl
@[simp] theorem nxt_bk (cs : Cs) : nxt F W cs (.bk ρ) S = .ok (.bk ρ) S := rfl
@[simp] theorem nxt_ct (cs : Cs) : nxt F W cs (.ct ρ) S = .ok (.ct ρ) S := rfl
@[simp] theorem xs_cons (c : C) (cs : Cs) : xs F W (.cons c cs) ρ S = (x1 F W c ρ S).bind (nxt F W cs) := by
  simp only [xs]
  congr 1
  funext fl S1
  cases fl <;> rfl
@[simp] theorem x1_ret (e : E) : x1 F W (.ret e) ρ S = (ev F e ρ S).bind fun v S1 => (shut S1 v).bind fun x S1 => .ok (.rt x) S1 := by
  simp only [x1]
  cases ev F e ρ S <;> rfl
@[simp] theorem x1_asg (t : T) (e : E) : x1 F W (.asg t e) ρ S = (ev F e ρ S).bind fun v S1 => (shut S1 v).bind fun x S1 => R.opt ((put t x ρ).map .nx) S1 := by
  simp only [x1]
  cases ev F e ρ S <;> rfl
@[simp] theorem x1_raise (c : Str) (e : E) : x1 F W (.raise c e) ρ S = (ev F e ρ S).bind fun v S1 => (shut S1 v).bind fun x S1 => .ex c x S1 := by
  simp only [x1]
  cases ev F e ρ S <;> rfl
@[simp] theorem x1_drop (e : E) : x1 F W (.drop e) ρ S = (ev F e ρ S).bind fun _ S1 => .ok (.nx ρ) S1 := by simp only [x1]
@[simp] theorem x1_new (i : Nat) (e : E) : x1 F W (.new i e) ρ S = (ev F e ρ S).bind fun v S1 => (live S1 v).bind fun v S2 => .ok (.nx (ρ.set i (some v))) S2 := by simp only [x1]
@[simp] theorem x1_ite (c : E) (a b : Cs) : x1 F W (.ite c a b) ρ S = (ev F c ρ S).bind fun v S1 => (test S1 v).bind fun t S2 => if t then xs F W a ρ S2 else xs F W b ρ S2 := by simp only [x1]
@[simp] theorem x1_loop (t : T) (it : It) (b : Cs) : x1 F W (.loop t it b) ρ S = (evI F it ρ S).bind fun p S1 => forL (chk p.2 S1) (fun x ρ => put t x ρ) (fun ρ S => xs F W b ρ S) p.1 ρ S1 := by simp only [x1]
def appAt (ρ : Env) (x : PyData) (S : Sto) : Option (Nat × List PyData) → R Fl
  | some (n, xs) => if xs.length < 16777216 then .ok (.nx ρ) (S.set n ⟨true, .lst (xs ++ [x])⟩) else .no
  | none => .no
@[simp] theorem appAt_some (x : PyData) (n : Nat) (xs : List PyData) : appAt ρ x S (some (n, xs)) = if xs.length < 16777216 then .ok (.nx ρ) (S.set n ⟨true, .lst (xs ++ [x])⟩) else .no := rfl
@[simp] theorem x1_app (o e : E) : x1 F W (.app o e) ρ S = (ev F o ρ S).bind fun ov S1 => (R.opt (lstAt S1 ov) S1).bind fun _ S1 => (ev F e ρ S1).bind fun v S2 => (shut S2 v).bind fun x S2 => appAt ρ x S2 (lstAt S2 ov) := by
  simp only [x1]
  refine congrArg (R.bind _) (funext fun ov => funext fun S1 => congrArg (R.bind _) (funext fun _ => funext fun S1 => ?_))
  cases ev F e ρ S1 with
  | no => rfl
  | ex _ _ _ => rfl
  | ok v S2 =>
    simp only [R.bind_ok]
    refine congrArg (R.bind _) (funext fun x => funext fun S3 => ?_)
    cases lstAt S3 ov <;> rfl
@[simp] theorem x1_par (i j : Nat) (n1 n2 : Bool) (a b : E) : x1 F W (.par i j n1 n2 a b) ρ S = (ev F a ρ S).bind fun v S1 => (liveIf n1 S1 v).bind fun v S2 => (ev F b ρ S2).bind fun w S3 => (liveIf n2 S3 w).bind fun w S4 => .ok (.nx ((ρ.set i (some v)).set j (some w))) S4 := by simp only [x1]
@[simp] theorem x1_six (o i e : E) : x1 F W (.six o i e) ρ S = ((ev F e ρ S).bind fun v S1 => shut S1 v).bind fun x S1 => (ev F o ρ S1).bind fun ov S2 => ((ev F i ρ S2).bind fun v S3 => shut S3 v).bind fun k S3 => (setAt S3 ov k x).bind fun _ S4 => .ok (.nx ρ) S4 := by simp only [x1]
@[simp] theorem x1_retN : x1 F W .retN ρ S = .ok (.rt .none) S := by simp only [x1]
@[simp] theorem x1_pass : x1 F W .pass ρ S = .ok (.nx ρ) S := by simp only [x1]
def catchR (hs : List (Str × Str)) : R Fl → R Fl
  | .ex c x S => caught hs c x S
  | r => r
@[simp] theorem catchR_ex (hs : List (Str × Str)) (c : Str) (x : PyData) : catchR hs (.ex c x S) = caught hs c x S := rfl
@[simp] theorem catchR_ok (hs : List (Str × Str)) (fl : Fl) : catchR hs (.ok fl S) = .ok fl S := rfl
@[simp] theorem x1_try (b : Cs) (hs : List (Str × Str)) : x1 F W (.tryS b hs) ρ S = catchR hs (xs F W b ρ S) := by
  simp only [x1]
  cases xs F W b ρ S <;> rfl
@[simp] theorem liveIf_f (v : Vl) : liveIf false S v = .ok v S := rfl
@[simp] theorem live_list (xs : List PyData) : live S (.d (.list xs)) = .ok (.loc S.length) (S ++ [⟨true, .lst xs⟩]) := rfl
@[simp] theorem liveIf_t (v : Vl) : liveIf true S v = live S v := rfl
@[simp] theorem evo_nil : evo F .nil ρ S = .ok none S := by simp only [evo]
@[simp] theorem evt_nil : evt F .nil ρ S = .ok true S := by simp only [evt]
@[simp] theorem evt_cons (e : E) (es : Es) : evt F (.cons e es) ρ S = (ev F e ρ S).bind fun v S1 => test S1 v := by simp only [evt]
/-- how long a list may be -/
abbrev cap : Nat := 16777216
theorem lcL_map {α : Type} {ck : Sto → Bool} {asg : PyData → Option Env} {cond : Env → Sto → R Bool} {elt : Env → Sto → R PyData} (g : α → PyData) (p : α → Bool) (f : α → PyData) (hck : ck S = true) : ∀ (l : List α) (acc : List PyData), acc.length + l.length ≤ cap →
    (∀ a ∈ l, ∃ ρ, asg (g a) = some ρ ∧ cond ρ S = .ok (p a) S ∧ (p a = true → elt ρ S = .ok (f a) S)) → lcL ck asg cond elt (l.map g) acc S = .ok (acc ++ (l.filter p).map f) S
  | [], acc, _, _ => by simp [lcL]
  | a :: l, acc, hl, h => by
    obtain ⟨ρ, h1, h2, h3⟩ := h a List.mem_cons_self
    have ht : ∀ b ∈ l, ∃ ρ, asg (g b) = some ρ ∧ cond ρ S = .ok (p b) S ∧ (p b = true → elt ρ S = .ok (f b) S) := fun b hb => h b (List.mem_cons_of_mem _ hb)
    simp only [List.length_cons, cap] at hl
    simp only [List.map_cons, lcL, h1, h2, R.bind_ok]
    cases hp : p a with
    | true =>
      have hlt : acc.length < 16777216 := by omega
      simp only [if_true, h3 hp, R.bind_ok, hck, hlt, decide_true, Bool.and_self]
      rw [lcL_map g p f hck l (acc ++ [f a]) (by simp [cap]; omega) ht]
      simp [List.filter_cons, hp]
    | false =>
      simp only [Bool.false_eq_true, if_false, hck, if_true]
      rw [lcL_map g p f hck l acc (by simp only [cap]; omega) ht]
      simp [List.filter_cons, hp]
/-- a for that passes a state on -/
theorem forL_fold {α σ : Type} {ck : Sto → Bool} {asg : PyData → Env → Option Env} {b : Env → Sto → R Fl} (g : α → PyData) (env : σ → Env) (sto : σ → Sto) (step : σ → α → σ) (P : σ → Prop) : ∀ (l : List α) (s : σ), P s →
    (∀ s a, P s → a ∈ l → ∃ ρ, asg (g a) (env s) = some ρ ∧ b ρ (sto s) = .ok (.nx (env (step s a))) (sto (step s a)) ∧ ck (sto (step s a)) = true ∧ P (step s a)) →
    forL ck asg b (l.map g) (env s) (sto s) = .ok (.nx (env (l.foldl step s))) (sto (l.foldl step s)) ∧ P (l.foldl step s)
  | [], s, hs, _ => ⟨by simp [forL], hs⟩
  | a :: l, s, hs, h => by
    obtain ⟨ρ, h1, h2, h3, h4⟩ := h s a hs List.mem_cons_self
    have ih := forL_fold g env sto step P l (step s a) h4 fun s b hs hb => h s b hs (List.mem_cons_of_mem _ hb)
    simp only [List.map_cons, forL, h1, h2, R.bind_ok, h3, if_true, List.foldl_cons]
    exact ih
/-- it runs to an end, and there Q holds -/
def Ok {α : Type} (r : R α) (Q : α → Sto → Prop) : Prop := match r with
  | .ok a S => Q a S
  | _ => False
@[simp] theorem Ok_ok {α : Type} (a : α) (S : Sto) (Q : α → Sto → Prop) : Ok (.ok a S) Q = Q a S := rfl
@[simp] theorem Ok_bind {α β : Type} (r : R α) (k : α → Sto → R β) (Q : β → Sto → Prop) : Ok (r.bind k) Q = Ok r fun a S => Ok (k a S) Q := by cases r <;> rfl
theorem Ok.mono {α : Type} {r : R α} {Q Q' : α → Sto → Prop} (h : Ok r Q) (q : ∀ a S, Q a S → Q' a S) : Ok r Q' := by
  cases r with
  | ok a S => exact q a S h
  | no => exact h
  | ex _ _ _ => exact h
end In
/-! part InS -/
set_option linter.all false
set_option maxRecDepth 100000
set_option maxHeartbeats 1000000
/-! More of plain Lean: operators at ints; data that may be shown and compared. -/
namespace In
open PySem
@[simp] theorem cmp_le (i j : Int) : cmpop .le (.int i) (.int j) = some (decide (i ≤ j)) := rfl
@[simp] theorem cmp_lt (i j : Int) : cmpop .lt (.int i) (.int j) = some (decide (i < j)) := rfl
@[simp] theorem cmp_ge (i j : Int) : cmpop .ge (.int i) (.int j) = some (decide (j ≤ i)) := rfl
@[simp] theorem cmp_gt (i j : Int) : cmpop .gt (.int i) (.int j) = some (decide (j < i)) := rfl
theorem eqOk_int (i : Int) : eqOk (.int i) = true := rfl
@[simp] theorem cmp_eq (i j : Int) : cmpop .eq (.int i) (.int j) = some (decide (i = j)) := by
  show (if (eqOk (.int i) && eqOk (.int j)) = true then some (PyData.eqv (.int i) (.int j)) else none) = _
  rw [eqOk_int, eqOk_int]
  simp only [Bool.and_self, if_true, PyData.eqv]
  by_cases h : i = j <;> simp [h]
@[simp] theorem cmp_ne (i j : Int) : cmpop .ne (.int i) (.int j) = some (!decide (i = j)) := by
  show (if (eqOk (.int i) && eqOk (.int j)) = true then some (!PyData.eqv (.int i) (.int j)) else none) = _
  rw [eqOk_int, eqOk_int]
  simp only [Bool.and_self, if_true, PyData.eqv]
  by_cases h : i = j <;> simp [h]
@[simp] theorem cmp_is (x : PyData) : cmpop .is_ x .none = some (isNone x) := by cases x <;> rfl
@[simp] theorem cmp_isnot (x : PyData) : cmpop .isnot x .none = some (!isNone x) := by cases x <;> rfl
@[simp] theorem isNone_none : isNone .none = true := rfl
@[simp] theorem isNone_int (i : Int) : isNone (.int i) = false := rfl
@[simp] theorem bin_add (i j : Int) : binop .add (.int i) (.int j) = some (.int (i + j)) := rfl
@[simp] theorem bin_sub (i j : Int) : binop .sub (.int i) (.int j) = some (.int (i - j)) := rfl
@[simp] theorem u1_neg (i : Int) : u1 .neg (.int i) = some (.int (-i)) := rfl
@[simp] theorem u1_int (i : Int) : u1 .int (.int i) = some (.int i) := rfl
@[simp] theorem u1_intb (b : Bool) : u1 .int (.bool b) = some (.int (if b then 1 else 0)) := rfl
@[simp] theorem u1_abs (i : Int) : u1 .abs (.int i) = some (.int (if i < 0 then -i else i)) := rfl
@[simp] theorem u1_lent (xs : List PyData) : u1 .len (.tuple xs) = some (.int xs.length) := rfl
@[simp] theorem u1_lenl (xs : List PyData) : u1 .len (.list xs) = some (.int xs.length) := rfl
@[simp] theorem u1_tupl (xs : List PyData) : u1 .tuple (.list xs) = some (.tuple xs) := rfl
@[simp] theorem u1_listt (xs : List PyData) : u1 .list (.tuple xs) = some (.list xs) := rfl
@[simp] theorem u2_max (i j : Int) : u2 .max (.int i) (.int j) = some (.int (if j > i then j else i)) := rfl
@[simp] theorem u2_min (i j : Int) : u2 .min (.int i) (.int j) = some (.int (if j < i then j else i)) := rfl
@[simp] theorem view_loc (S : Sto) (n : Nat) : view S (.loc n) = (S[n]?).map fun c => c.obj.data := rfl
theorem mod_two (i : Int) : binop .mod (.int i) (.int 2) = some (.int (i % 2)) := by
  show (if decide ((2 : Int) ≠ 0) = true then some (PyData.int (i.fmod 2)) else none) = _
  rw [if_pos (by decide)]
  rw [Int.fmod_eq_emod_of_nonneg i (by decide)]
theorem mod_pos (i j : Int) (h : 0 < j) : binop .mod (.int i) (.int j) = some (.int (i % j)) := by
  show (if decide (j ≠ 0) = true then some (PyData.int (i.fmod j)) else none) = _
  rw [if_pos (by simp; omega), Int.fmod_eq_emod_of_nonneg i (Int.le_of_lt h)]
theorem bin_mul (i j : Int) (h : small i = true ∨ small j = true) : binop .mul (.int i) (.int j) = some (.int (i * j)) := by
  show (if (small i || small j) = true then some (PyData.int (i * j)) else none) = _
  rw [if_pos (by rcases h with h | h <;> simp [h])]
theorem bin_cat (xs ys : List PyData) (h : xs.length + ys.length ≤ cap) : binop .add (.list xs) (.list ys) = some (.list (xs ++ ys)) := by
  show (if fits (xs.length + ys.length) = true then some (PyData.list (xs ++ ys)) else none) = _
  rw [if_pos (show fits (xs.length + ys.length) = true from decide_eq_true h)]
theorem bin_catT (xs ys : List PyData) (h : xs.length + ys.length ≤ cap) : binop .add (.tuple xs) (.tuple ys) = some (.tuple (xs ++ ys)) := by
  show (if fits (xs.length + ys.length) = true then some (PyData.tuple (xs ++ ys)) else none) = _
  rw [if_pos (show fits (xs.length + ys.length) = true from decide_eq_true h)]
theorem ints_map (l : List Int) : ints? (l.map .int) = some l := by
  induction l with
  | nil => rfl
  | cons a l ih => simp [ints?, ih]
theorem bools_map (l : List Bool) : bools? (l.map .bool) = some l := by
  induction l with
  | nil => rfl
  | cons a l ih => simp [bools?, ih]
theorem u1_sum (l : List Int) : u1 .sum (.list (l.map .int)) = some (.int l.sum) := by
  show (ints? (l.map .int)).map _ = _
  rw [ints_map]; rfl
theorem u1_all (l : List Bool) : u1 .all (.list (l.map .bool)) = some (.bool (l.all id)) := by
  show (bools? (l.map .bool)).map _ = _
  rw [bools_map]; rfl
theorem u1_minl (a : Int) (l : List Int) : u1 .min (.list ((a :: l).map .int)) = some (.int (minI (a :: l))) := by
  show (ints? ((a :: l).map .int)).bind _ = _
  rw [ints_map]; rfl
theorem u1_sorted (l : List Int) : u1 .sorted (.list (l.map .int)) = some (.list ((sortI l).map .int)) := by
  show (ints? (l.map .int)).map _ = _
  rw [ints_map]; rfl
/-- xs[i], i from the left -/
theorem index_nat {xs : List PyData} {i : Nat} {x : PyData} (h : xs[i]? = some x) : index (.list xs) (.int i) = some x ∧ index (.tuple xs) (.int i) = some x := by
  have hl : i < xs.length := (List.getElem?_eq_some_iff.mp h).1
  have e : L2.atI xs (i : Int) = some x := by
    unfold L2.atI L2.ixN
    rw [if_pos (by omega), if_pos (by omega)]
    simpa using h
  exact ⟨e, e⟩
/-! ### data of a known size -/
theorem strOk_of (s : String) : PyData.strOk (Str.ofString s) = true := by
  rw [Str.ofString_eq_toList]
  unfold PyData.strOk
  simp only [List.all_toArray, List.all_map, List.all_eq_true]
  intro c _
  have := c.valid
  simp only [UInt32.isValidChar, Nat.isValidChar] at this
  simp only [Function.comp, decide_eq_true_eq, Char.toNat]
  omega
theorem strOk_app {x y : Str} (h1 : PyData.strOk x = true) (h2 : PyData.strOk y = true) : PyData.strOk (x ++ y) = true := by
  unfold PyData.strOk at *
  show (x.cps ++ y.cps).all _ = true
  rw [Array.all_append, h1, h2]
  rfl
structure Gd (d : PyData) (e m : Nat) : Prop where
  lay : d.canLay0 = true
  shw : d.showable = true
  nod : d.hasDict = false
  dep : d.depth ≤ e
  len : d.shown.length ≤ m
  txt : PyData.strOk d.shown = true
theorem Gd.up {d : PyData} {e e' m m' : Nat} (h : Gd d e m) (h1 : e ≤ e') (h2 : m ≤ m') : Gd d e' m' := ⟨h.lay, h.shw, h.nod, Nat.le_trans h.dep h1, Nat.le_trans h.len h2, h.txt⟩
theorem gd_none : Gd .none 0 40 := ⟨rfl, rfl, rfl, Nat.le_refl _, by decide, by decide +kernel⟩
theorem gd_bool (b : Bool) : Gd (.bool b) 0 40 := ⟨rfl, rfl, rfl, Nat.le_refl _, by cases b <;> decide, by cases b <;> decide +kernel⟩
theorem gd_int (i : Int) (h : i.natAbs < 10 ^ 30) : Gd (.int i) 0 40 := by
  have hl : i.natAbs.log2 < 1920 := by
    by_cases h0 : i.natAbs = 0
    · rw [h0]; decide
    · have h1 : i.natAbs < 2 ^ 1920 := Nat.lt_of_lt_of_le h (by decide +kernel)
      exact (Nat.log2_lt h0).mpr h1
  refine ⟨rfl, ?_, rfl, Nat.le_refl _, ?_, strOk_of _⟩
  · show decide (i.natAbs.log2 < 1920) = true
    exact decide_eq_true hl
  · have q := int_text_length_le10 (k := 30) (by decide) h
    show (Str.ofString (toString i)).length ≤ 40
    rw [ofString_length]
    omega
theorem gd_str (x : Str) (h1 : (PyData.str x).canLay0 = true) (h2 : (reprText x).length ≤ 40) (h3 : PyData.strOk (reprText x) = true) : Gd (.str x) 0 40 := ⟨h1, rfl, rfl, Nat.le_refl _, h2, h3⟩
theorem gd_all : ∀ {xs : List PyData} {e m : Nat}, (∀ x ∈ xs, Gd x e m) → PyData.canLayAll0 xs = true ∧ PyData.showableAll xs = true ∧ PyData.hasDictAll xs = false ∧ PyData.depthAll xs ≤ e ∧ (Str.join ", " (PyData.shownAll xs)).length ≤ xs.length * (m + 2) ∧ PyData.strOk (Str.join ", " (PyData.shownAll xs)) = true
  | [], _, _, _ => ⟨rfl, rfl, rfl, Nat.zero_le _, Nat.zero_le _, by decide +kernel⟩
  | x :: xs, e, m, h => by
    have hx := h x List.mem_cons_self
    obtain ⟨h1, h2, h3, h4, h5, h6⟩ := gd_all (xs := xs) (e := e) (m := m) fun y hy => h y (List.mem_cons_of_mem _ hy)
    refine ⟨by simp [PyData.canLayAll0, hx.lay, h1], by simp [PyData.showableAll, hx.shw, h2], by simp [PyData.hasDictAll, hx.nod, h3], by simp only [PyData.depthAll]; have := hx.dep; omega, ?_, ?_⟩
    rotate_left
    · cases xs with
      | nil => exact hx.txt
      | cons y ys => exact strOk_app (strOk_app hx.txt (by decide +kernel)) h6
    cases xs with
    | nil =>
      show (PyData.shown x).length ≤ _
      have := hx.len
      simp
      omega
    | cons y ys =>
      show (PyData.shown x ++ ", " ++ Str.join ", " (PyData.shownAll (y :: ys))).length ≤ _
      rw [strLen_append, strLen_append]
      have e2 : ((", " : String) : Str).length = 2 := rfl
      have := hx.len
      simp only [List.length_cons] at h5 ⊢
      rw [Nat.add_mul (ys.length + 1) 1]
      omega
theorem gd_tup {xs : List PyData} {e m : Nat} (h : ∀ x ∈ xs, Gd x e m) : Gd (.tuple xs) (e + 1) (xs.length * (m + 2) + 3) := by
  obtain ⟨h1, h2, h3, h4, h5, h6⟩ := gd_all h
  refine ⟨h1, h2, h3, by simp only [PyData.depth]; omega, ?_, strOk_app (strOk_app (by decide +kernel) h6) (by split <;> decide +kernel)⟩
  show (tupleText (PyData.shownAll xs)).length ≤ _
  unfold tupleText
  rw [strLen_append, strLen_append]
  have e1 : (("(" : String) : Str).length = 1 := rfl
  have e2 : (((if (PyData.shownAll xs).length == 1 then ",)" else ")") : String) : Str).length ≤ 2 := by split <;> decide
  omega
theorem gd_eq {d : PyData} {e m : Nat} (h : Gd d e m) (h1 : e ≤ 64) : cmpop .eq d d = some true := by
  have ok : eqOk d = true := by
    show (d.canLay0 && decide (d.depth ≤ 64)) = true
    rw [h.lay, Bool.true_and]
    exact decide_eq_true (Nat.le_trans h.dep h1)
  show (if (eqOk d && eqOk d) = true then some (PyData.eqv d d) else none) = _
  rw [ok, SeqAt.eqv_refl d h.lay]
  rfl
theorem gd_repr {d : PyData} {e m : Nat} (h : Gd d e m) (h1 : e ≤ 64) (h2 : m ≤ cap) : u1 .repr d = some (.str d.shown) := by
  have e0 : u1 .repr d = (if (d.showable && !d.hasDict && fits d.shown.length && decide (d.depth ≤ 64)) = true then some (PyData.str d.shown) else none) := by cases d <;> rfl
  rw [e0, if_pos]
  rw [h.shw, h.nod, show fits d.shown.length = true from decide_eq_true (Nat.le_trans h.len h2), decide_eq_true (Nat.le_trans h.dep h1)]
  rfl
@[simp] theorem evI_e {F : Fns} {ρ : Env} {S : Sto} (a : E) : evI F (.e a) ρ S = (ev F a ρ S).bind fun v S1 => R.opt (((view S1 v).bind itr?).map fun xs => (xs, guard v)) S1 := by simp only [evI]
@[simp] theorem itr_list (xs : List PyData) : itr? (.list xs) = some xs := rfl
@[simp] theorem itr_tuple (xs : List PyData) : itr? (.tuple xs) = some xs := rfl
@[simp] theorem itr_str (z : Str) : itr? (.str z) = some (z.cps.toList.map fun c => .str ⟨#[c]⟩) := rfl
@[simp] theorem evI_enum {F : Fns} {ρ : Env} {S : Sto} (a : E) : evI F (.enum a) ρ S = (ev F a ρ S).bind fun v S1 => R.opt (((view S1 v).bind seq?).map fun xs => (enumL 0 xs, guard v)) S1 := by simp only [evI]
@[simp] theorem evI_zip {F : Fns} {ρ : Env} {S : Sto} (a b : E) : evI F (.zip a b) ρ S = (ev F a ρ S).bind fun v S1 => (ev F b ρ S1).bind fun w S2 => R.opt ((view S2 v).bind fun x => (view S2 w).bind fun y => (zip? x y).map fun zs => (zs, guard v ++ guard w)) S2 := by simp only [evI]
/-- the int of a value -/
def intR (f : Int → R (List PyData × List Nat)) : Vl → R (List PyData × List Nat)
  | .d (.int i) => f i
  | _ => .no
@[simp] theorem intR_int (f : Int → R (List PyData × List Nat)) (i : Int) : intR f (.d (.int i)) = f i := rfl
@[simp] theorem evI_rng1 {F : Fns} {ρ : Env} {S : Sto} (a : E) : evI F (.rng1 a) ρ S = (ev F a ρ S).bind fun v S1 => intR (fun i => R.opt ((range2 0 i).map fun xs => (xs, [])) S1) v := by
  simp only [evI]
  refine congrArg (R.bind _) (funext fun v => funext fun S1 => ?_)
  cases v with
  | loc n => rfl
  | d y => cases y <;> rfl
@[simp] theorem seq_list (xs : List PyData) : seq? (.list xs) = some xs := rfl
@[simp] theorem seq_tuple (xs : List PyData) : seq? (.tuple xs) = some xs := rfl
@[simp] theorem zip_list (xs ys : List PyData) : zip? (.list xs) (.list ys) = some (zipL xs ys) := rfl
@[simp] theorem zip_tuple (xs ys : List PyData) : zip? (.tuple xs) (.tuple ys) = some (zipL xs ys) := rfl
@[simp] theorem data_lst (xs : List PyData) : MO.data (.lst xs) = .list xs := rfl
theorem ev_lc {F : Fns} {ws : List Nat} {t : T} {it : It} {cs : Es} {e : E} {ρ : Env} {S : Sto} {α : Type} {gs : List Nat} {l : List α} (g : α → PyData) (p : α → Bool) (f : α → PyData) (hit : evI F it ρ S = .ok (l.map g, gs) S) (hl : l.length ≤ cap)
    (h : ∀ a ∈ l, ∃ ρ', put t (g a) (wipe ρ ws) = some ρ' ∧ evt F cs ρ' S = .ok (p a) S ∧ (p a = true → ((ev F e ρ' S).bind fun v S2 => shut S2 v) = .ok (f a) S)) :
    ev F (.lc ws t it cs e) ρ S = .ok (.d (.list ((l.filter p).map f))) S := by
  simp only [ev, hit, R.bind_ok]
  rw [lcL_map g p f (chk_same _ _) l [] (by simpa [cap] using hl) fun a ha => by
    obtain ⟨ρ', h1, h2, h3⟩ := h a ha
    exact ⟨ρ', h1, by rw [h2]; rfl, fun hp => by rw [h3 hp]; rfl⟩]
  rfl
/-- the same without tests -/
theorem ev_lc0 {F : Fns} {ws : List Nat} {t : T} {it : It} {e : E} {ρ : Env} {S : Sto} {α : Type} {gs : List Nat} {l : List α} (g : α → PyData) (f : α → PyData) (hit : evI F it ρ S = .ok (l.map g, gs) S) (hl : l.length ≤ cap)
    (h : ∀ a ∈ l, ∃ ρ', put t (g a) (wipe ρ ws) = some ρ' ∧ ((ev F e ρ' S).bind fun v S2 => shut S2 v) = .ok (f a) S) :
    ev F (.lc ws t it .nil e) ρ S = .ok (.d (.list (l.map f))) S := by
  rw [ev_lc g (fun _ => true) f hit hl fun a ha => by
    obtain ⟨ρ', h1, h2⟩ := h a ha
    exact ⟨ρ', h1, by simp, fun _ => h2⟩]
  rw [List.filter_eq_self.mpr fun _ _ => rfl]
@[simp] theorem shut_loc {S : Sto} {n : Nat} {c : Cell} (h : S[n]? = some c) : shut S (.loc n) = .ok c.obj.data (S.set n ⟨false, c.obj⟩) := by simp only [shut, h]
@[simp] theorem put_nm (i : Nat) (x : PyData) (ρ : Env) : put (.nm i) x ρ = some (ρ.set i (some (.d x))) := by simp only [put]
@[simp] theorem put_tp (ts : Ts) (xs : List PyData) (ρ : Env) : put (.tp ts) (.tuple xs) ρ = if xs.length = ts.len then puts ts xs ρ else none := by simp only [put]
@[simp] theorem puts_nil (ρ : Env) : puts .nil [] ρ = some ρ := by simp only [puts]
@[simp] theorem puts_cons (t : T) (ts : Ts) (x : PyData) (xs : List PyData) (ρ : Env) : puts (.cons t ts) (x :: xs) ρ = (put t x ρ).bind (puts ts xs) := by simp only [puts]
@[simp] theorem tslen_nil : Ts.len .nil = 0 := rfl
@[simp] theorem tslen_cons (t : T) (ts : Ts) : Ts.len (.cons t ts) = ts.len + 1 := rfl
end In
/-! part InT -/
set_option linter.all false
set_option maxRecDepth 100000
set_option maxHeartbeats 2000000
/-! How a law draws from its script. -/
namespace In
open PySem
theorem forL_ok {α : Type} {ck : Sto → Bool} {asg : PyData → Env → Option Env} {b : Env → Sto → R Fl} (g : α → PyData) (I : List α → Env → Sto → Prop) : ∀ (l : List α) (ρ : Env) (S : Sto), I l ρ S →
    (∀ a l ρ S, I (a :: l) ρ S → ∃ ρ1, asg (g a) ρ = some ρ1 ∧ Ok (b ρ1 S) fun fl S1 => ∃ ρ2, fl = .nx ρ2 ∧ ck S1 = true ∧ I l ρ2 S1) → Ok (forL ck asg b (l.map g) ρ S) fun fl S' => ∃ ρ', fl = .nx ρ' ∧ I [] ρ' S'
  | [], ρ, S, h, _ => ⟨ρ, rfl, h⟩
  | a :: l, ρ, S, h, hs => by
    obtain ⟨ρ1, h1, h2⟩ := hs a l ρ S h
    simp only [List.map_cons, forL, h1, Ok_bind]
    refine h2.mono ?_
    rintro fl S1 ⟨ρ2, rfl, hck, hI⟩
    simp only [hck, if_true]
    exact forL_ok g I l ρ2 S1 hI hs
theorem Ok.get {α : Type} {r : R α} {Q : α → Sto → Prop} (h : Ok r Q) : ∃ a S, r = .ok a S ∧ Q a S := by
  cases r with
  | ok a S => exact ⟨a, S, rfl, h⟩
  | no => exact h.elim
  | ex _ _ _ => exact h.elim
@[simp] theorem Ok_opt {α : Type} (o : Option α) (S : Sto) (Q : α → Sto → Prop) : Ok (R.opt o S) Q = ∃ a, o = some a ∧ Q a S := by
  cases o with
  | none => simp [R.opt, Ok]
  | some a => simp [R.opt, Ok]
/-- the last cell -/
@[simp] theorem last_get (S : Sto) (c : Cell) : (S ++ [c])[S.length]? = some c := by simp
@[simp] theorem last_set (S : Sto) (c c' : Cell) : (S ++ [c]).set S.length c' = S ++ [c'] := by simp
@[simp] theorem last_take (S : Sto) (c : Cell) : (S ++ [c]).take S.length = S := by simp
@[simp] theorem lstAt_last (S : Sto) (xs : List PyData) : lstAt (S ++ [⟨true, .lst xs⟩]) (.loc S.length) = some (S.length, xs) := by simp [lstAt]
theorem rng_n (n : Nat) (h : n < 4611686018427387904) : range2 0 (n : Int) = some ((upFrom 0 n).map .int) := by
  unfold range2
  rw [if_pos (by simp [rangeOk]; omega)]
  simp
def bDraws : Cs := (.cons (.new 1 (.lst .nil)) (.cons (.loop (.nm 2) (.e (.sl (.var 0) .nil (.cons (.cst (.int 63)) .nil))) (.cons (.asg (.nm 3) (.u1 .abs (.var 2))) (.cons (.ite (.cmp .ge (.var 3) (.bin .pow (.cst (.int 10)) (.cst (.int 18)))) (.cons (.loop (.nm 4) (.rng1 (.cst (.int 60))) (.cons (.ite (.cmp .gt (.var 3) (.cst (.int 0))) (.cons (.app (.var 1) (.bin .mod (.u1 .int (.var 3)) (.cst (.int 1009)))) (.cons (.asg (.nm 3) (.bin .fdiv (.var 3) (.cst (.int 1009)))) .nil)) .nil) .nil)) .nil) (.cons (.asg (.nm 5) (.bin .mod (.u1 .int (.bin .add (.bin .mul (.var 3) (.cst (.int 48271))) (.cst (.int 11)))) (.cst (.int 2147483647)))) (.cons (.loop (.nm 4) (.rng1 (.cst (.int 12))) (.cons (.asg (.nm 5) (.bin .mod (.u1 .int (.bin .add (.bin .add (.bin .mul (.var 5) (.cst (.int 16807))) (.bin .mul (.cst (.int 69621)) (.var 4))) (.cst (.int 5)))) (.cst (.int 2147483629)))) (.cons (.app (.var 1) (.bin .fdiv (.var 5) (.cst (.int 1009)))) .nil))) .nil))) .nil))) (.cons (.ret (.var 1)) .nil)))
def bMore : Cs := (.cons (.asg (.nm 2) (.bin .mod (.u1 .int (.bin .add (.bin .add (.bin .mul (.var 1) (.cst (.int 48271))) (.u1 .len (.var 0))) (.cst (.int 11)))) (.cst (.int 2147483629)))) (.cons (.loop (.nm 3) (.rng1 (.cst (.int 3))) (.cons (.ite (.var 0) (.cons (.asg (.nm 2) (.bin .add (.var 2) (.ix (.var 0) (.bin .mod (.u1 .int (.bin .add (.bin .mul (.var 1) (.bin .add (.var 3) (.cst (.int 5)))) (.var 3))) (.u1 .len (.var 0)))))) .nil) .nil) (.cons (.asg (.nm 2) (.bin .mod (.u1 .int (.bin .add (.bin .add (.bin .mul (.var 2) (.cst (.int 16807))) (.bin .mul (.cst (.int 69621)) (.var 3))) (.cst (.int 5)))) (.cst (.int 2147483629)))) .nil))) (.cons (.ret (.bin .fdiv (.var 2) (.cst (.int 1009)))) .nil)))
def bTake (m : Nat) : Cs := (.cons (.asg (.nm 3) (.ix (.var 1) (.cst (.int 0)))) (.cons (.six (.var 1) (.cst (.int 0)) (.bin .add (.var 3) (.cst (.int 1)))) (.cons (.ret (.bin .mod (.u1 .int (.ite (.cmp .lt (.var 3) (.u1 .len (.var 0))) (.ix (.var 0) (.var 3)) (.call m (.cons (.var 0) (.cons (.var 3) .nil)) []))) (.var 2))) .nil)))
def bOne (m : Nat) : Cs := (.cons (.ret (.ix (.var 0) (.call m (.cons (.var 1) (.cons (.var 2) (.cons (.u1 .len (.var 0)) .nil))) []))) .nil)
theorem pow18 : binop .pow (.int 10) (.int 18) = some (.int 1000000000000000000) := rfl
theorem fdiv_p (i : Int) : binop .fdiv (.int i) (.int 1009) = some (.int (i / 1009)) := by
  show (if (decide ((1009 : Int) ≠ 0) && decide ((1009 : Int).natAbs < 1073741824)) = true then some (PyData.int (i.fdiv 1009)) else none) = _
  rw [if_pos (by decide), Int.fdiv_eq_ediv_of_nonneg i (by decide)]
theorem mul_r (i j : Int) (h : small j = true) : binop .mul (.int i) (.int j) = some (.int (i * j)) := bin_mul i j (.inr h)
theorem mul_l (i j : Int) (h : small i = true) : binop .mul (.int i) (.int j) = some (.int (i * j)) := bin_mul i j (.inl h)
variable {F : Fns} {W : Nat} {S : Sto}
abbrev nn (l : List Int) : Prop := ∀ d ∈ l, 0 ≤ d
theorem nn_app {l : List Int} {a : Int} (h : nn l) (h2 : 0 ≤ a) : nn (l ++ [a]) := fun d hd => by
  rcases List.mem_append.mp hd with q | q
  · exact h d q
  · have : d = a := by simpa using q
    omega
/-- a list of ints in the last cell -/
abbrev cl (S : Sto) (ds : List Int) : Sto := S ++ [⟨true, .lst (ds.map .int)⟩]
theorem app_cl {ρ : Env} {ds : List Int} {a : Int} (h : ds.length < 16777216) : appAt ρ (.int a) (cl S ds) (some (S.length, ds.map .int)) = .ok (.nx ρ) (cl S (ds ++ [a])) := by
  simp [appAt, h, cl]
def bIn1 : Cs := (.cons (.ite (.cmp .gt (.var 3) (.cst (.int 0))) (.cons (.app (.var 1) (.bin .mod (.u1 .int (.var 3)) (.cst (.int 1009)))) (.cons (.asg (.nm 3) (.bin .fdiv (.var 3) (.cst (.int 1009)))) .nil)) .nil) .nil)
def bIn2 : Cs := (.cons (.asg (.nm 5) (.bin .mod (.u1 .int (.bin .add (.bin .add (.bin .mul (.var 5) (.cst (.int 16807))) (.bin .mul (.cst (.int 69621)) (.var 4))) (.cst (.int 5)))) (.cst (.int 2147483629)))) (.cons (.app (.var 1) (.bin .fdiv (.var 5) (.cst (.int 1009)))) .nil))
theorem in1_ok {S0 : Sto} {x0 c m : Option Vl} (N : Nat) (hN : N ≤ 10000) (l : List Int) (r : Int) (k : Option Vl) (ds : List Int) (hd : nn ds) (hl : ds.length + l.length ≤ N) :
    Ok (forL (chk [] S0) (fun x ρ => put (.nm 4) x ρ) (fun ρ S => xs F W bIn1 ρ S) (l.map .int) [x0, some (.loc S.length), c, some (.d (.int r)), k, m] (cl S ds)) fun fl S' => ∃ (r' : Int) (k' : Option Vl) (ds' : List Int), fl = .nx [x0, some (.loc S.length), c, some (.d (.int r')), k', m] ∧ S' = cl S ds' ∧ nn ds' ∧ ds'.length ≤ N := by
  have h := forL_ok (ck := chk [] S0) (asg := fun x ρ => put (.nm 4) x ρ) (b := fun ρ S => xs F W bIn1 ρ S) PyData.int (fun l ρ S' => ∃ (r : Int) (k : Option Vl) (ds : List Int), ρ = [x0, some (.loc S.length), c, some (.d (.int r)), k, m] ∧ S' = cl S ds ∧ nn ds ∧ ds.length + l.length ≤ N) l _ _ ⟨r, k, ds, rfl, rfl, hd, hl⟩ ?_
  · refine h.mono ?_
    rintro fl S' ⟨ρ', rfl, r, k, ds, rfl, rfl, h1, h2⟩
    exact ⟨r, k, ds, rfl, rfl, h1, by simpa using h2⟩
  · rintro a l ρ S' ⟨r, k, ds, rfl, rfl, h1, h2⟩
    simp only [List.length_cons] at h2
    refine ⟨_, rfl, ?_⟩
    show Ok (xs F W bIn1 [x0, some (.loc S.length), c, some (.d (.int r)), some (.d (.int a)), m] (cl S ds)) _
    by_cases hr : 0 < r
    · have hlt : ds.length < 16777216 := by omega
      have e : xs F W bIn1 [x0, some (.loc S.length), c, some (.d (.int r)), some (.d (.int a)), m] (cl S ds) = .ok (.nx [x0, some (.loc S.length), c, some (.d (.int (r / 1009))), some (.d (.int a)), m]) (cl S (ds ++ [r % 1009])) := by
        simp [bIn1, hr, mod_pos, fdiv_p, hlt]
      rw [e]
      exact ⟨_, rfl, rfl, r / 1009, _, _, rfl, rfl, nn_app h1 (Int.emod_nonneg _ (by decide)), by simp; omega⟩
    · have e : xs F W bIn1 [x0, some (.loc S.length), c, some (.d (.int r)), some (.d (.int a)), m] (cl S ds) = .ok (.nx [x0, some (.loc S.length), c, some (.d (.int r)), some (.d (.int a)), m]) (cl S ds) := by
        simp [bIn1, hr]
      rw [e]
      exact ⟨_, rfl, rfl, r, _, _, rfl, rfl, h1, by omega⟩
theorem in2_ok {S0 : Sto} {x0 c r : Option Vl} (N : Nat) (hN : N ≤ 10000) (l : List Int) (m : Int) (hm : 0 ≤ m) (k : Option Vl) (ds : List Int) (hd : nn ds) (hl : ds.length + l.length ≤ N) (hk : ∀ a ∈ l, 0 ≤ a ∧ a ≤ 100) :
    Ok (forL (chk [] S0) (fun x ρ => put (.nm 4) x ρ) (fun ρ S => xs F W bIn2 ρ S) (l.map .int) [x0, some (.loc S.length), c, r, k, some (.d (.int m))] (cl S ds)) fun fl S' => ∃ (m' : Int) (k' : Option Vl) (ds' : List Int), fl = .nx [x0, some (.loc S.length), c, r, k', some (.d (.int m'))] ∧ S' = cl S ds' ∧ nn ds' ∧ ds'.length ≤ N := by
  have h := forL_ok (ck := chk [] S0) (asg := fun x ρ => put (.nm 4) x ρ) (b := fun ρ S => xs F W bIn2 ρ S) PyData.int (fun l ρ S' => ∃ (m : Int) (k : Option Vl) (ds : List Int), ρ = [x0, some (.loc S.length), c, r, k, some (.d (.int m))] ∧ S' = cl S ds ∧ nn ds ∧ ds.length + l.length ≤ N ∧ 0 ≤ m ∧ ∀ a ∈ l, 0 ≤ a ∧ a ≤ 100) l _ _ ⟨m, k, ds, rfl, rfl, hd, hl, hm, hk⟩ ?_
  · refine h.mono ?_
    rintro fl S' ⟨ρ', rfl, r, k, ds, rfl, rfl, h1, h2, _, _⟩
    exact ⟨r, k, ds, rfl, rfl, h1, by simpa using h2⟩
  · rintro a l ρ S' ⟨m, k, ds, rfl, rfl, h1, h2, h3, h4⟩
    simp only [List.length_cons] at h2
    refine ⟨_, rfl, ?_⟩
    show Ok (xs F W bIn2 [x0, some (.loc S.length), c, r, some (.d (.int a)), some (.d (.int m))] (cl S ds)) _
    have hlt : ds.length < 16777216 := by omega
    have ha := h4 a List.mem_cons_self
    have q1 : 0 ≤ (m * 16807 + 69621 * a + 5) % 2147483629 := Int.emod_nonneg _ (by decide)
    have e : xs F W bIn2 [x0, some (.loc S.length), c, r, some (.d (.int a)), some (.d (.int m))] (cl S ds) = .ok (.nx [x0, some (.loc S.length), c, r, some (.d (.int a)), some (.d (.int ((m * 16807 + 69621 * a + 5) % 2147483629)))]) (cl S (ds ++ [(m * 16807 + 69621 * a + 5) % 2147483629 / 1009])) := by
      have m1 : binop .mul (.int m) (.int 16807) = some (.int (m * 16807)) := mul_r m 16807 rfl
      have m2 : binop .mul (.int 69621) (.int a) = some (.int (69621 * a)) := mul_l 69621 a rfl
      simp [bIn2, m1, m2, mod_pos, fdiv_p, hlt]
    rw [e]
    exact ⟨_, rfl, rfl, _, _, _, rfl, rfl, nn_app h1 (Int.ediv_nonneg q1 (by decide)), by simp; omega, q1, fun b hb => h4 b (List.mem_cons_of_mem _ hb)⟩
theorem upFrom_mem : ∀ (n : Nat) (i a : Int), a ∈ upFrom i n → i ≤ a ∧ a < i + n
  | 0, _, _, h => by simp [upFrom] at h
  | n + 1, i, a, h => by
    rcases List.mem_cons.mp h with rfl | h
    · constructor <;> omega
    · have := upFrom_mem n (i + 1) a h
      constructor <;> omega
theorem upFrom_length : ∀ (n : Nat) (i : Int), (upFrom i n).length = n
  | 0, _ => rfl
  | n + 1, i => congrArg (· + 1) (upFrom_length n (i + 1))
theorem rng60 : range2 0 60 = some ((upFrom 0 60).map .int) := rng_n 60 (by decide)
theorem rng12 : range2 0 12 = some ((upFrom 0 12).map .int) := rng_n 12 (by decide)
theorem draws_ok (ns : List Int) (hl : ns.length ≤ 63) : ∃ ds : List Int, nn ds ∧ ds.length ≤ 3780 ∧ fin S.length (xs F W bDraws [some (.d (.list (ns.map .int))), none, none, none, none, none] S) = .ok (.list (ds.map .int)) S := by
  have loop : Ok (x1 F W (.loop (.nm 2) (.e (.sl (.var 0) .nil (.cons (.cst (.int 63)) .nil))) (.cons (.asg (.nm 3) (.u1 .abs (.var 2))) (.cons (.ite (.cmp .ge (.var 3) (.bin .pow (.cst (.int 10)) (.cst (.int 18)))) (.cons (.loop (.nm 4) (.rng1 (.cst (.int 60))) bIn1) .nil) (.cons (.asg (.nm 5) (.bin .mod (.u1 .int (.bin .add (.bin .mul (.var 3) (.cst (.int 48271))) (.cst (.int 11)))) (.cst (.int 2147483647)))) (.cons (.loop (.nm 4) (.rng1 (.cst (.int 12))) bIn2) .nil))) .nil))) [some (.d (.list (ns.map .int))), some (.loc S.length), none, none, none, none] (cl S [])) fun fl S' => ∃ (c r k m : Option Vl) (ds : List Int), fl = .nx [some (.d (.list (ns.map .int))), some (.loc S.length), c, r, k, m] ∧ S' = cl S ds ∧ nn ds ∧ ds.length ≤ 3780 := by
    have hs : slice (.list (ns.map .int)) none (some 63) = some (.list (ns.map .int)) := by
      have e : cut (ns.map PyData.int) none (some 63) = ns.map PyData.int := by
        unfold cut
        have h1 : HT.sIx (ns.map PyData.int).length 0 none = 0 := rfl
        have h2 : HT.sIx (ns.map PyData.int).length (ns.map PyData.int).length (some 63) = (ns.map PyData.int).length := by
          simp only [HT.sIx, List.length_map]
          have h3 : (63 : Int).toNat = 63 := rfl
          rw [h3]
          simp
          omega
        rw [h1, h2]
        simp only [List.drop_zero, Nat.sub_zero, List.take_length]
      show some (PyData.list (cut (ns.map PyData.int) none (some 63))) = _
      rw [e]
    have e1 : evI F (.e (.sl (.var 0) .nil (.cons (.cst (.int 63)) .nil))) [some (.d (.list (ns.map .int))), some (.loc S.length), none, none, none, none] (cl S []) = .ok (ns.map .int, []) (cl S []) := by
      simp [ev, evo, hs]
    rw [x1_loop, e1, R.bind_ok]
    refine (forL_ok (ck := chk [] (cl S [])) PyData.int (fun l ρ S' => ∃ (c r k m : Option Vl) (ds : List Int), ρ = [some (.d (.list (ns.map .int))), some (.loc S.length), c, r, k, m] ∧ S' = cl S ds ∧ nn ds ∧ ds.length + 60 * l.length ≤ 3780) ns _ _ ⟨none, none, none, none, [], rfl, rfl, fun d h => by simp at h, by simp; omega⟩ ?_).mono ?_
    · rintro a l ρ S' ⟨c, r, k, m, ds, rfl, rfl, h1, h2⟩
      simp only [List.length_cons] at h2
      refine ⟨_, rfl, ?_⟩
      show Ok (xs F W _ [some (.d (.list (ns.map .int))), some (.loc S.length), some (.d (.int a)), r, k, m] (cl S ds)) _
      generalize hab : (if a < 0 then -a else a) = b
      by_cases hb : 1000000000000000000 ≤ b
      · have e2 : xs F W (.cons (.asg (.nm 3) (.u1 .abs (.var 2))) (.cons (.ite (.cmp .ge (.var 3) (.bin .pow (.cst (.int 10)) (.cst (.int 18)))) (.cons (.loop (.nm 4) (.rng1 (.cst (.int 60))) bIn1) .nil) (.cons (.asg (.nm 5) (.bin .mod (.u1 .int (.bin .add (.bin .mul (.var 3) (.cst (.int 48271))) (.cst (.int 11)))) (.cst (.int 2147483647)))) (.cons (.loop (.nm 4) (.rng1 (.cst (.int 12))) bIn2) .nil))) .nil)) [some (.d (.list (ns.map .int))), some (.loc S.length), some (.d (.int a)), r, k, m] (cl S ds) =
            ((forL (chk [] (cl S ds)) (fun x ρ => put (.nm 4) x ρ) (fun ρ S => xs F W bIn1 ρ S) ((upFrom 0 60).map .int) [some (.d (.list (ns.map .int))), some (.loc S.length), some (.d (.int a)), some (.d (.int b)), k, m] (cl S ds)).bind (nxt F W .nil)).bind (nxt F W .nil) := by
          simp [hab, pow18, hb, rng60]
        rw [e2, Ok_bind, Ok_bind]
        refine (in1_ok (ds.length + 60) (by omega) _ b k ds h1 (by rw [upFrom_length]; exact Nat.le_refl _)).mono ?_
        rintro fl S' ⟨r', k', ds', rfl, rfl, h3, h4⟩
        exact ⟨_, rfl, rfl, _, _, _, _, _, rfl, rfl, h3, by omega⟩
      · have e2 : xs F W (.cons (.asg (.nm 3) (.u1 .abs (.var 2))) (.cons (.ite (.cmp .ge (.var 3) (.bin .pow (.cst (.int 10)) (.cst (.int 18)))) (.cons (.loop (.nm 4) (.rng1 (.cst (.int 60))) bIn1) .nil) (.cons (.asg (.nm 5) (.bin .mod (.u1 .int (.bin .add (.bin .mul (.var 3) (.cst (.int 48271))) (.cst (.int 11)))) (.cst (.int 2147483647)))) (.cons (.loop (.nm 4) (.rng1 (.cst (.int 12))) bIn2) .nil))) .nil)) [some (.d (.list (ns.map .int))), some (.loc S.length), some (.d (.int a)), r, k, m] (cl S ds) =
            ((forL (chk [] (cl S ds)) (fun x ρ => put (.nm 4) x ρ) (fun ρ S => xs F W bIn2 ρ S) ((upFrom 0 12).map .int) [some (.d (.list (ns.map .int))), some (.loc S.length), some (.d (.int a)), some (.d (.int b)), k, some (.d (.int ((b * 48271 + 11) % 2147483647)))] (cl S ds)).bind (nxt F W .nil)).bind (nxt F W .nil) := by
          have m1 : binop .mul (.int b) (.int 48271) = some (.int (b * 48271)) := mul_r b 48271 rfl
          simp [hab, pow18, hb, rng12, m1, mod_pos]
        rw [e2, Ok_bind, Ok_bind]
        refine (in2_ok (ds.length + 12) (by omega) _ _ (Int.emod_nonneg _ (by decide)) k ds h1 (by rw [upFrom_length]; exact Nat.le_refl _) fun x hx => by have := upFrom_mem _ _ _ hx; omega).mono ?_
        rintro fl S' ⟨m', k', ds', rfl, rfl, h3, h4⟩
        exact ⟨_, rfl, rfl, _, _, _, _, _, rfl, rfl, h3, by omega⟩
    · rintro fl S' ⟨ρ', rfl, c, r, k, m, ds, rfl, rfl, h1, h2⟩
      exact ⟨c, r, k, m, ds, rfl, rfl, h1, by simpa using h2⟩
  obtain ⟨fl, S', e, c, r, k, m, ds, rfl, rfl, h1, h2⟩ := loop.get
  refine ⟨ds, h1, h2, ?_⟩
  have e0 : xs F W bDraws [some (.d (.list (ns.map .int))), none, none, none, none, none] S = .ok (.rt (.list (ds.map .int))) (S ++ [⟨false, .lst (ds.map .int)⟩]) := by
    unfold bDraws
    rw [xs_cons, x1_new, ev_lst, evps_nil]
    simp only [R.bind_ok, live_list, nxt_nx, List.set_cons_succ, List.set_cons_zero]
    rw [xs_cons]
    have e' := e
    unfold bIn1 bIn2 at e'
    rw [show (S ++ [⟨true, .lst []⟩] : Sto) = cl S [] from rfl, e']
    simp [shut]
  rw [e0]
  simp
abbrev li (ds : List Int) : PyData := .list (ds.map .int)
theorem small_of {i : Int} (h : -1000 ≤ i) (h2 : i ≤ 1000) : small i = true := by
  simp only [small, Bool.and_eq_true, decide_eq_true_eq]
  omega
def bM3 : Cs := (.cons (.ite (.var 0) (.cons (.asg (.nm 2) (.bin .add (.var 2) (.ix (.var 0) (.bin .mod (.u1 .int (.bin .add (.bin .mul (.var 1) (.bin .add (.var 3) (.cst (.int 5)))) (.var 3))) (.u1 .len (.var 0)))))) .nil) .nil) (.cons (.asg (.nm 2) (.bin .mod (.u1 .int (.bin .add (.bin .add (.bin .mul (.var 2) (.cst (.int 16807))) (.bin .mul (.cst (.int 69621)) (.var 3))) (.cst (.int 5)))) (.cst (.int 2147483629)))) .nil))
theorem rng3 : range2 0 3 = some ((upFrom 0 3).map .int) := rng_n 3 (by decide)
theorem more_ok (ds : List Int) (hd : nn ds) (p : Int) (hp : 0 ≤ p) : ∃ v : Int, 0 ≤ v ∧ fin S.length (xs F W bMore [some (.d (li ds)), some (.d (.int p)), none, none] S) = .ok (.int v) S := by
  have loop : ∀ m : Int, 0 ≤ m → Ok (forL (chk [] S) (fun x ρ => put (.nm 3) x ρ) (fun ρ S => xs F W bM3 ρ S) ((upFrom 0 3).map .int) [some (.d (li ds)), some (.d (.int p)), some (.d (.int m)), none] S) fun fl S' => ∃ (m' : Int) (k : Option Vl), fl = .nx [some (.d (li ds)), some (.d (.int p)), some (.d (.int m')), k] ∧ S' = S ∧ 0 ≤ m' := by
    intro m hm
    refine (forL_ok (ck := chk [] S) PyData.int (fun l ρ S' => ∃ (m : Int) (k : Option Vl), ρ = [some (.d (li ds)), some (.d (.int p)), some (.d (.int m)), k] ∧ S' = S ∧ 0 ≤ m ∧ ∀ a ∈ l, 0 ≤ a ∧ a ≤ 100) _ _ _ ⟨m, none, rfl, rfl, hm, fun x hx => by have := upFrom_mem _ _ _ hx; omega⟩ ?_).mono ?_
    · rintro a l ρ S' ⟨m, k, rfl, rfl, h1, h2⟩
      have ha := h2 a List.mem_cons_self
      refine ⟨_, rfl, ?_⟩
      show Ok (xs F W bM3 [some (.d (li ds)), some (.d (.int p)), some (.d (.int m)), some (.d (.int a))] S') _
      have m2 : binop .mul (.int 69621) (.int a) = some (.int (69621 * a)) := mul_l 69621 a rfl
      have fin2 : ∀ x : Int, x1 F W (.asg (.nm 2) (.bin .mod (.u1 .int (.bin .add (.bin .add (.bin .mul (.var 2) (.cst (.int 16807))) (.bin .mul (.cst (.int 69621)) (.var 3))) (.cst (.int 5)))) (.cst (.int 2147483629)))) [some (.d (li ds)), some (.d (.int p)), some (.d (.int x)), some (.d (.int a))] S' = .ok (.nx [some (.d (li ds)), some (.d (.int p)), some (.d (.int ((x * 16807 + 69621 * a + 5) % 2147483629))), some (.d (.int a))]) S' := fun x => by
        have m1 : binop .mul (.int x) (.int 16807) = some (.int (x * 16807)) := mul_r x 16807 rfl
        simp [m1, m2, mod_pos]
      by_cases he : ds = []
      · have e : xs F W bM3 [some (.d (li ds)), some (.d (.int p)), some (.d (.int m)), some (.d (.int a))] S' = .ok (.nx [some (.d (li ds)), some (.d (.int p)), some (.d (.int ((m * 16807 + 69621 * a + 5) % 2147483629))), some (.d (.int a))]) S' := by
          subst he
          unfold bM3
          rw [xs_cons, x1_ite]
          simp only [ev_vr, List.getElem?_cons_zero, getV_some, R.bind_ok, List.map_nil, test_list, List.isEmpty_nil, Bool.not_true, Bool.false_eq_true, if_false, xs_nil, nxt_nx]
          rw [xs_cons]
          have := fin2 m
          simp only [li, List.map_nil] at this ⊢
          rw [this]
          simp
        rw [e]
        exact ⟨_, rfl, rfl, _, _, rfl, rfl, Int.emod_nonneg _ (by decide), fun b hb => h2 b (List.mem_cons_of_mem _ hb)⟩
      · have hl : 0 < ds.length := List.length_pos_iff.mpr he
        have hm3 : binop .mul (.int p) (.int (a + 5)) = some (.int (p * (a + 5))) := mul_r p (a + 5) (small_of (by omega) (by omega))
        have q1 : 0 ≤ (p * (a + 5) + a) % (ds.length : Int) := Int.emod_nonneg _ (by omega)
        have q2 : (p * (a + 5) + a) % (ds.length : Int) < ds.length := Int.emod_lt_of_pos _ (by omega)
        obtain ⟨j, hj⟩ := Int.eq_ofNat_of_zero_le q1
        have hj' : j < ds.length := by omega
        have hidx : index (li ds) (.int ((p * (a + 5) + a) % (ds.length : Int))) = some (.int ds[j]) := by
          rw [hj]
          exact (index_nat (by simp [hj'])).1
        have hdj : 0 ≤ ds[j] := hd _ (List.getElem_mem hj')
        have hmod : binop .mod (.int (p * (a + 5) + a)) (.int (ds.length : Int)) = some (.int ((p * (a + 5) + a) % (ds.length : Int))) := mod_pos _ _ (by omega)
        have hem : (ds.map PyData.int).isEmpty = false := by cases ds with | nil => exact absurd rfl he | cons _ _ => rfl
        have e : xs F W bM3 [some (.d (li ds)), some (.d (.int p)), some (.d (.int m)), some (.d (.int a))] S' = .ok (.nx [some (.d (li ds)), some (.d (.int p)), some (.d (.int (((m + ds[j]) * 16807 + 69621 * a + 5) % 2147483629))), some (.d (.int a))]) S' := by
          unfold bM3
          rw [xs_cons, x1_ite]
          simp only [ev_vr, List.getElem?_cons_zero, getV_some, R.bind_ok, test_list, hem, Bool.not_false, if_true]
          rw [xs_cons]
          have e1 : x1 F W (.asg (.nm 2) (.bin .add (.var 2) (.ix (.var 0) (.bin .mod (.u1 .int (.bin .add (.bin .mul (.var 1) (.bin .add (.var 3) (.cst (.int 5)))) (.var 3))) (.u1 .len (.var 0)))))) [some (.d (li ds)), some (.d (.int p)), some (.d (.int m)), some (.d (.int a))] S' = .ok (.nx [some (.d (li ds)), some (.d (.int p)), some (.d (.int (m + ds[j]))), some (.d (.int a))]) S' := by
            simp [hm3, hmod, hidx]
          rw [e1]
          simp only [R.bind_ok, nxt_nx, xs_nil]
          rw [xs_cons, fin2 (m + ds[j])]
          simp
        rw [e]
        exact ⟨_, rfl, rfl, _, _, rfl, rfl, Int.emod_nonneg _ (by decide), fun b hb => h2 b (List.mem_cons_of_mem _ hb)⟩
    · rintro fl S' ⟨ρ', rfl, m, k, rfl, rfl, h1, _⟩
      exact ⟨m, k, rfl, rfl, h1⟩
  have m1 : binop .mul (.int p) (.int 48271) = some (.int (p * 48271)) := mul_r p 48271 rfl
  obtain ⟨fl, S', e, m', k, rfl, rfl, h1⟩ := (loop ((p * 48271 + ds.length + 11) % 2147483629) (Int.emod_nonneg _ (by decide))).get
  refine ⟨m' / 1009, Int.ediv_nonneg h1 (by decide), ?_⟩
  have e2 : xs F W bMore [some (.d (li ds)), some (.d (.int p)), none, none] S' = (forL (chk [] S') (fun x ρ => put (.nm 3) x ρ) (fun ρ S => xs F W bM3 ρ S) ((upFrom 0 3).map .int) [some (.d (li ds)), some (.d (.int p)), some (.d (.int ((p * 48271 + ds.length + 11) % 2147483629))), none] S').bind (nxt F W (.cons (.ret (.bin .fdiv (.var 2) (.cst (.int 1009)))) .nil)) := by
    show xs F W (.cons (.asg (.nm 2) (.bin .mod (.u1 .int (.bin .add (.bin .add (.bin .mul (.var 1) (.cst (.int 48271))) (.u1 .len (.var 0))) (.cst (.int 11)))) (.cst (.int 2147483629)))) (.cons (.loop (.nm 3) (.rng1 (.cst (.int 3))) bM3) (.cons (.ret (.bin .fdiv (.var 2) (.cst (.int 1009)))) .nil))) _ _ = _
    simp [m1, mod_pos, rng3]
  rw [e2, e]
  simp [fdiv_p]
theorem take_ok (m : Nat) (ds : List Int) (hd : nn ds) (hF : ∀ (S : Sto) (p : Int), 0 ≤ p → ∃ v : Int, 0 ≤ v ∧ F m [.d (li ds), .d (.int p)] S = .ok (.int v) S) (n : Nat) (p many : Int) (hS : S[n]? = some ⟨true, .lst [.int p]⟩) (hp : 0 ≤ p) (hm : 0 < many) :
    ∃ v : Int, 0 ≤ v ∧ v < many ∧ fin S.length (xs F W (bTake m) [some (.d (li ds)), some (.loc n), some (.d (.int many)), none] S) = .ok (.int v) (S.set n ⟨true, .lst [.int (p + 1)]⟩) := by
  have hn : n < S.length := (List.getElem?_eq_some_iff.mp hS).1
  have i0 : index (.list [.int p]) (.int 0) = some (.int p) := (index_nat (i := 0) rfl).1
  have hl : lstAt S (.loc n) = some (n, [.int p]) := by simp [lstAt, hS]
  have hset : setAt S (.loc n) (.int 0) (.int (p + 1)) = .ok () (S.set n ⟨true, .lst [.int (p + 1)]⟩) := by
    simp [setAt, hl, L2.ixN]
  generalize hS' : S.set n ⟨true, .lst [.int (p + 1)]⟩ = S' at hset
  have hlen : S'.length = S.length := by rw [← hS']; simp
  have htk : S'.take S.length = S' := by rw [← hlen, List.take_length]
  have val : ∃ d : Int, 0 ≤ d ∧ ev F (.ite (.cmp .lt (.var 3) (.u1 .len (.var 0))) (.ix (.var 0) (.var 3)) (.call m (.cons (.var 0) (.cons (.var 3) .nil)) [])) [some (.d (li ds)), some (.loc n), some (.d (.int many)), some (.d (.int p))] S' = .ok (.d (.int d)) S' := by
    by_cases c : p < ds.length
    · obtain ⟨j, rfl⟩ := Int.eq_ofNat_of_zero_le hp
      have hj : j < ds.length := by omega
      have hidx : index (li ds) (.int (j : Int)) = some (.int ds[j]) := (index_nat (by simp [hj])).1
      refine ⟨ds[j], hd _ (List.getElem_mem hj), ?_⟩
      simp [c, hidx]
    · obtain ⟨v, hv, e⟩ := hF S' p hp
      exact ⟨v, hv, by simp [c, e]⟩
  obtain ⟨d, hd0, e⟩ := val
  refine ⟨d % many, Int.emod_nonneg _ (by omega), Int.emod_lt_of_pos _ hm, ?_⟩
  unfold bTake
  simp only [xs_cons, x1_asg, ev_ix, ev_vr, List.getElem?_cons_succ, List.getElem?_cons_zero, getV_some, R.bind_ok, ev_cst, view_loc, hS, Option.map_some, data_lst, view_d, Option.bind_some, i0, R.opt_some, shut_d, put_nm, List.set_cons_succ, List.set_cons_zero, nxt_nx, x1_six, ev_bin, bin_add, hset, x1_ret, ev_u1]
  rw [e]
  simp only [R.bind_ok, view_d, Option.bind_some, u1_int, Option.map_some, R.opt_some, List.getElem?_cons_succ, List.getElem?_cons_zero, getV_some, mod_pos _ _ hm, shut_d, nxt_rt, fin_rt, htk]
theorem one_ok (m : Nat) (dr : PyData) (rows : List PyData) (hr : rows ≠ []) (n : Nat) (S' : Sto) (hlen : S'.length = S.length) (hF : ∃ v : Int, 0 ≤ v ∧ v < rows.length ∧ F m [.d dr, .loc n, .d (.int rows.length)] S = .ok (.int v) S') :
    ∃ x ∈ rows, fin S.length (xs F W (bOne m) [some (.d (.list rows)), some (.d dr), some (.loc n)] S) = .ok x S' := by
  obtain ⟨v, h1, h2, e⟩ := hF
  obtain ⟨j, rfl⟩ := Int.eq_ofNat_of_zero_le h1
  have hj : j < rows.length := by omega
  have htk : S'.take S.length = S' := by rw [← hlen, List.take_length]
  refine ⟨rows[j], List.getElem_mem hj, ?_⟩
  have hidx : index (.list rows) (.int (j : Int)) = some rows[j] := (index_nat (by simp [hj])).1
  unfold bOne
  simp [e, hidx, htk]
end In
/-! part InU -/
set_option linter.all false
set_option maxRecDepth 100000
set_option maxHeartbeats 1000000
/-! More tools for runs. -/
namespace In
open PySem
variable {F : Fns} {W : Nat} {ρ : Env} {S : Sto}
theorem bind_left {α β : Type} {r r' : R α} {k : α → Sto → R β} (h : r = r') : r.bind k = r'.bind k := by rw [h]
theorem upFrom_range : ∀ (n : Nat) (i : Int), upFrom i n = (List.range n).map fun (k : Nat) => i + (k : Int)
  | 0, _ => rfl
  | n + 1, i => by
    rw [List.range_succ_eq_map, List.map_cons, List.map_map]
    show i :: upFrom (i + 1) n = _
    rw [upFrom_range n (i + 1)]
    congr 1
    · simp
    · refine List.map_congr_left fun k _ => ?_
      show i + 1 + (k : Int) = i + ((k + 1 : Nat) : Int)
      omega
theorem rng_nat (n : Nat) (h : n < 4611686018427387904) : range2 0 (n : Int) = some ((List.range n).map fun (k : Nat) => .int (k : Int)) := by
  rw [rng_n n h, upFrom_range, List.map_map]
  congr 1
  refine List.map_congr_left fun k _ => ?_
  show PyData.int (0 + (k : Int)) = _
  rw [Int.zero_add]
/-- a for by places -/
theorem forL_ix {ck : Sto → Bool} {asg : PyData → Env → Option Env} {b : Env → Sto → R Fl} (I : Nat → Env → Sto → Prop) (n : Nat) (h0 : I 0 ρ S)
    (hs : ∀ i ρ S, i < n → I i ρ S → ∃ ρ1, asg (.int (i : Int)) ρ = some ρ1 ∧ Ok (b ρ1 S) fun fl S1 => ∃ ρ2, fl = .nx ρ2 ∧ ck S1 = true ∧ I (i + 1) ρ2 S1) : Ok (forL ck asg b ((List.range n).map fun (k : Nat) => .int (k : Int)) ρ S) fun fl S' => ∃ ρ', fl = .nx ρ' ∧ I n ρ' S' := by
  have key : ∀ (m i : Nat) (ρ : Env) (S : Sto), i + m = n → I i ρ S → Ok (forL ck asg b ((List.range' i m).map fun (k : Nat) => .int (k : Int)) ρ S) fun fl S' => ∃ ρ', fl = .nx ρ' ∧ I n ρ' S' := by
    intro m
    induction m with
    | zero =>
      intro i ρ S e h
      have : i = n := by omega
      subst this
      exact ⟨ρ, rfl, h⟩
    | succ m ih =>
      intro i ρ S e h
      obtain ⟨ρ1, h1, h2⟩ := hs i ρ S (by omega) h
      rw [List.range'_succ, List.map_cons]
      simp only [forL, h1, Ok_bind]
      refine h2.mono ?_
      rintro fl S1 ⟨ρ2, rfl, hck, hI⟩
      simp only [hck, if_true]
      exact ih (i + 1) ρ2 S1 (by omega) hI
  rw [List.range_eq_range']
  exact key n 0 ρ S (by omega) h0
/-- a for that returns x at the first that p takes -/
theorem forL_any {α : Type} {ck : Sto → Bool} {asg : PyData → Env → Option Env} {b : Env → Sto → R Fl} (g : α → PyData) (p : α → Bool) (x : PyData) (I : Env → Prop) (hck : ck S = true)
    (hs : ∀ a ρ, I ρ → ∃ ρ1, asg (g a) ρ = some ρ1 ∧ (p a = true → b ρ1 S = .ok (.rt x) S) ∧ (p a = false → ∃ ρ2, b ρ1 S = .ok (.nx ρ2) S ∧ I ρ2)) : ∀ (l : List α) (ρ : Env), I ρ →
    (l.any p = true → forL ck asg b (l.map g) ρ S = .ok (.rt x) S) ∧ (l.any p = false → ∃ ρ', forL ck asg b (l.map g) ρ S = .ok (.nx ρ') S ∧ I ρ')
  | [], ρ, h => ⟨fun h => by simp at h, fun _ => ⟨ρ, rfl, h⟩⟩
  | a :: l, ρ, h => by
    obtain ⟨ρ1, h1, h2, h3⟩ := hs a ρ h
    simp only [List.map_cons, forL, h1, List.any_cons]
    cases hp : p a with
    | true => simp [h2 hp]
    | false =>
      obtain ⟨ρ2, h4, h5⟩ := h3 hp
      simp only [h4, R.bind_ok, hck, if_true, Bool.false_or]
      exact forL_any g p x I hck hs l ρ2 h5
theorem slice_initT (xs : List PyData) : slice (.tuple xs) none (some (-1)) = some (.tuple xs.dropLast) := by
  show some (PyData.tuple (cut xs none (some (-1)))) = _
  have : cut xs none (some (-1)) = xs.dropLast := by
    unfold cut
    have h1 : HT.sIx xs.length 0 none = 0 := rfl
    have h2 : HT.sIx xs.length xs.length (some (-1)) = xs.length - 1 := by
      simp [HT.sIx]; omega
    rw [h1, h2, List.dropLast_eq_take]
    simp
  rw [this]
theorem slice_initL (xs : List PyData) : slice (.list xs) none (some (-1)) = some (.list xs.dropLast) := by
  have := slice_initT xs
  simp only [slice, Option.some.injEq, PyData.tuple.injEq] at this
  simp only [slice, this]
theorem slice_tailT (xs : List PyData) : slice (.tuple xs) (some 1) none = some (.tuple xs.tail) := by
  show some (PyData.tuple (cut xs (some 1) none)) = _
  have : cut xs (some 1) none = xs.tail := by
    unfold cut
    cases xs with
    | nil => rfl
    | cons x r =>
      have h1 : HT.sIx (x :: r).length 0 (some 1) = 1 := by simp [HT.sIx]
      have h2 : HT.sIx (x :: r).length (x :: r).length none = r.length + 1 := rfl
      rw [h1, h2]
      simp
  rw [this]
theorem slice_tailL (xs : List PyData) : slice (.list xs) (some 1) none = some (.list xs.tail) := by
  have := slice_tailT xs
  simp only [slice, Option.some.injEq, PyData.tuple.injEq] at this
  simp only [slice, this]
@[simp] theorem ev_sl_init (a : E) : ev F (.sl a .nil (.cons (.u1 .neg (.cst (.int 1))) .nil)) ρ S = (ev F a ρ S).bind fun v S1 => R.opt ((view S1 v).bind fun x => (slice x none (some (-1))).map .d) S1 := by
  simp only [ev, evo, R.bind_ok, view_d, Option.bind_some, u1_neg, Option.map_some, R.opt_some]
@[simp] theorem ev_sl_tail (a : E) : ev F (.sl a (.cons (.cst (.int 1)) .nil) .nil) ρ S = (ev F a ρ S).bind fun v S1 => R.opt ((view S1 v).bind fun x => (slice x (some 1) none).map .d) S1 := by
  simp only [ev, evo, R.bind_ok]
/-- the store with one more list at its end -/
abbrev cd (S : Sto) (xs : List PyData) : Sto := S ++ [⟨true, .lst xs⟩]
/-- what runs to an end with x, and leaves the store -/
theorem fin_of {n : Nat} {r : R Fl} {x : PyData} {S' : Sto} (h : r = .ok (.rt x) S') : fin n r = .ok x (S'.take n) := by rw [h]; rfl
theorem xs_step {c : C} {cs : Cs} {ρ' : Env} {S' : Sto} {r : R Fl} (h : x1 F W c ρ S = .ok (.nx ρ') S') (h2 : xs F W cs ρ' S' = r) : xs F W (.cons c cs) ρ S = r := by
  rw [xs_cons, h]; exact h2
theorem fin_step {n : Nat} {c : C} {cs : Cs} {ρ' : Env} {S' : Sto} {r : R PyData} (h : x1 F W c ρ S = .ok (.nx ρ') S') (h2 : fin n (xs F W cs ρ' S') = r) : fin n (xs F W (.cons c cs) ρ S) = r := by
  rw [xs_cons, h]; exact h2
theorem Ok_eq {α : Type} {r : R α} {Q : α → Sto → Prop} {a : α} {S' : Sto} (h : r = .ok a S') (q : Q a S') : Ok r Q := by rw [h]; exact q
@[simp] theorem x1_set (i : Nat) (e : E) : x1 F W (.set i e) ρ S = (ev F e ρ S).bind fun v S1 => .ok (.nx (ρ.set i (some v))) S1 := by simp only [x1]
theorem index_neg1 {xs : List PyData} {x : PyData} (h : xs.getLast? = some x) : index (.list xs) (.int (-1)) = some x := by
  have hne : xs ≠ [] := by intro e; subst e; simp at h
  have hl : 0 < xs.length := List.length_pos_iff.mpr hne
  show L2.atI xs (-1) = _
  unfold L2.atI L2.ixN
  rw [List.getLast?_eq_getElem?] at h
  rw [if_neg (by omega), if_pos (by omega)]
  have e : ((-1 : Int) + xs.length).toNat = xs.length - 1 := by omega
  simp only [Option.bind_some]
  rw [← h]
  congr 1
/-! ### one statement after the other -/
theorem q_loop {n : Nat} {t : T} {it : It} {b cs : Cs} {l : List PyData} {gs : List Nat} {ρ' : Env} {S' S1 : Sto} {r : R PyData} (h : forL (chk gs S1) (fun x ρ => put t x ρ) (fun ρ S => xs F W b ρ S) l ρ S1 = .ok (.nx ρ') S') (hit : evI F it ρ S = .ok (l, gs) S1) (h2 : fin n (xs F W cs ρ' S') = r) : fin n (xs F W (.cons (.loop t it b) cs) ρ S) = r :=
  fin_step (by rw [x1_loop, hit]; exact h) h2
theorem q_loopR {n : Nat} {t : T} {it : It} {b cs : Cs} {l : List PyData} {gs : List Nat} {x : PyData} {S' S1 : Sto} (h : forL (chk gs S1) (fun x ρ => put t x ρ) (fun ρ S => xs F W b ρ S) l ρ S1 = .ok (.rt x) S') (hit : evI F it ρ S = .ok (l, gs) S1) : fin n (xs F W (.cons (.loop t it b) cs) ρ S) = .ok x (S'.take n) := by
  rw [xs_cons, x1_loop, hit, R.bind_ok]
  show fin n ((forL _ _ _ _ _ _).bind _) = _
  rw [h]
  rfl
theorem q_asg' {n : Nat} {t : T} {e : E} {cs : Cs} (x : PyData) {ρ' : Env} {S' : Sto} {r : R PyData} (h : ev F e ρ S = .ok (.d x) S') (hp : put t x ρ = some ρ') (h2 : fin n (xs F W cs ρ' S') = r) : fin n (xs F W (.cons (.asg t e) cs) ρ S) = r :=
  fin_step (by rw [x1_asg, h]; simp only [R.bind_ok, shut_d, hp, Option.map_some, R.opt_some]) h2
theorem q_asg {n : Nat} {t : T} {e : E} {cs : Cs} (x : PyData) {ρ' : Env} {r : R PyData} (h : ev F e ρ S = .ok (.d x) S) (hp : put t x ρ = some ρ') (h2 : fin n (xs F W cs ρ' S) = r) : fin n (xs F W (.cons (.asg t e) cs) ρ S) = r := q_asg' x h hp h2
theorem q_new {n : Nat} {i : Nat} {e : E} {cs : Cs} (ys : List PyData) {r : R PyData} (h : ev F e ρ S = .ok (.d (.list ys)) S) (h2 : fin n (xs F W cs (ρ.set i (some (.loc S.length))) (S ++ [⟨true, .lst ys⟩])) = r) : fin n (xs F W (.cons (.new i e) cs) ρ S) = r :=
  fin_step (by rw [x1_new, h]; simp only [R.bind_ok, live_list]) h2
theorem q_drop {n : Nat} {e : E} {cs : Cs} {x : PyData} {r : R PyData} (h : ev F e ρ S = .ok (.d x) S) (h2 : fin n (xs F W cs ρ S) = r) : fin n (xs F W (.cons (.drop e) cs) ρ S) = r :=
  fin_step (by rw [x1_drop, h]; simp only [R.bind_ok]) h2
theorem q_ret' {n : Nat} {e : E} {cs : Cs} (x : PyData) {S' : Sto} (h : ev F e ρ S = .ok (.d x) S') : fin n (xs F W (.cons (.ret e) cs) ρ S) = .ok x (S'.take n) := by
  rw [xs_cons, x1_ret, h]
  rfl
theorem q_ret {n : Nat} {e : E} {cs : Cs} (x : PyData) (h : ev F e ρ S = .ok (.d x) S) : fin n (xs F W (.cons (.ret e) cs) ρ S) = .ok x (S.take n) := q_ret' x h
theorem q_tst {c : E} {a b : Cs} {t : Bool} {S' : Sto} (h : ((ev F c ρ S).bind fun v S1 => test S1 v) = .ok t S') : x1 F W (.ite c a b) ρ S = if t then xs F W a ρ S' else xs F W b ρ S' := by
  rw [x1_ite]
  have e : ((ev F c ρ S).bind fun v S1 => (test S1 v).bind fun t S2 => if t then xs F W a ρ S2 else xs F W b ρ S2) = ((ev F c ρ S).bind fun v S1 => test S1 v).bind fun t S2 => if t then xs F W a ρ S2 else xs F W b ρ S2 := by
    cases ev F c ρ S <;> rfl
  rw [e, h]
  rfl
theorem q_no' {n : Nat} {c : E} {a cs : Cs} {S' : Sto} {r : R PyData} (h : ((ev F c ρ S).bind fun v S1 => test S1 v) = .ok false S') (h2 : fin n (xs F W cs ρ S') = r) : fin n (xs F W (.cons (.ite c a .nil) cs) ρ S) = r :=
  fin_step (by
    rw [q_tst h]
    simp) h2
theorem q_no {n : Nat} {c : E} {a cs : Cs} {r : R PyData} (h : ((ev F c ρ S).bind fun v S1 => test S1 v) = .ok false S) (h2 : fin n (xs F W cs ρ S) = r) : fin n (xs F W (.cons (.ite c a .nil) cs) ρ S) = r := q_no' h h2
theorem q_yes {n : Nat} {c : E} {a b cs : Cs} {r : R PyData} (h : ((ev F c ρ S).bind fun v S1 => test S1 v) = .ok true S) (h2 : fin n ((xs F W a ρ S).bind (nxt F W cs)) = r) : fin n (xs F W (.cons (.ite c a b) cs) ρ S) = r := by
  rw [xs_cons, q_tst h]
  exact h2
theorem evI_rlen {a : E} {n : Nat} {S1 : Sto} (h : ev F a ρ S = .ok (.d (.int (n : Int))) S1) (hn : n < 4611686018427387904) : evI F (.rng1 a) ρ S = .ok ((List.range n).map fun (k : Nat) => .int (k : Int), []) S1 := by
  rw [evI_rng1, h, R.bind_ok, intR_int, rng_nat n hn]
  rfl
theorem ev_u1_of {o : U1} {a : E} {x y : PyData} {S1 : Sto} (h : ev F a ρ S = .ok (.d x) S1) (h2 : u1 o x = some y) : ev F (.u1 o a) ρ S = .ok (.d y) S1 := by
  rw [ev_u1, h, R.bind_ok, view_d, Option.bind_some, h2]
  rfl
theorem ev_bin_of {o : B2} {a b : E} {x y z : PyData} {S1 S2 : Sto} (h : ev F a ρ S = .ok (.d x) S1) (h1 : ev F b ρ S1 = .ok (.d y) S2) (h2 : binop o x y = some z) : ev F (.bin o a b) ρ S = .ok (.d z) S2 := by
  rw [ev_bin, h, R.bind_ok, h1, R.bind_ok, view_d, view_d, Option.bind_some, Option.bind_some, h2]
  rfl
theorem ev_call1 {f : Nat} {a : E} {x : Vl} {r : PyData} {T : Sto} (h0 : ev F a ρ S = .ok x S) (h : F f [x] S = .ok r T) : ev F (.call f (.cons a .nil) []) ρ S = .ok (.d r) T := by
  rw [ev_call]
  have e : evs F (.cons a .nil) ρ S = .ok [x] S := by
    simp only [evs_cons, evs_nil, h0, R.bind_ok]
  rw [e, R.bind_ok]
  show ((F f [x] S).bind _) = _
  rw [h]
  rfl
theorem ev_call2 {f : Nat} {a b : E} {x y : Vl} {r : PyData} {T : Sto} (h0 : ev F a ρ S = .ok x S) (h1 : ev F b ρ S = .ok y S) (h : F f [x, y] S = .ok r T) : ev F (.call f (.cons a (.cons b .nil)) []) ρ S = .ok (.d r) T := by
  rw [ev_call]
  have e : evs F (.cons a (.cons b .nil)) ρ S = .ok [x, y] S := by
    simp only [evs_cons, evs_nil, h0, h1, R.bind_ok]
  rw [e, R.bind_ok]
  show ((F f [x, y] S).bind _) = _
  rw [h]
  rfl
theorem ev_call3 {f : Nat} {a b c : E} {x y z : Vl} {r : PyData} {T : Sto} (h0 : ev F a ρ S = .ok x S) (h1 : ev F b ρ S = .ok y S) (h2 : ev F c ρ S = .ok z S) (h : F f [x, y, z] S = .ok r T) : ev F (.call f (.cons a (.cons b (.cons c .nil))) []) ρ S = .ok (.d r) T := by
  rw [ev_call]
  have e : evs F (.cons a (.cons b (.cons c .nil))) ρ S = .ok [x, y, z] S := by
    simp only [evs_cons, evs_nil, h0, h1, h2, R.bind_ok]
  rw [e, R.bind_ok]
  show ((F f [x, y, z] S).bind _) = _
  rw [h]
  rfl
theorem ev_call4 {f : Nat} {a b c d : E} {x y z w : Vl} {r : PyData} {T : Sto} (h0 : ev F a ρ S = .ok x S) (h1 : ev F b ρ S = .ok y S) (h2 : ev F c ρ S = .ok z S) (h3 : ev F d ρ S = .ok w S) (h : F f [x, y, z, w] S = .ok r T) : ev F (.call f (.cons a (.cons b (.cons c (.cons d .nil)))) []) ρ S = .ok (.d r) T := by
  rw [ev_call]
  have e : evs F (.cons a (.cons b (.cons c (.cons d .nil)))) ρ S = .ok [x, y, z, w] S := by
    simp only [evs_cons, evs_nil, h0, h1, h2, h3, R.bind_ok]
  rw [e, R.bind_ok]
  show ((F f [x, y, z, w] S).bind _) = _
  rw [h]
  rfl
theorem take_app (S T : Sto) : (S ++ T).take S.length = S := by simp
end In
/-! part InV -/
set_option linter.all false
set_option maxRecDepth 100000
set_option maxHeartbeats 1000000
/-! Still more tools for runs: whole expressions by what their parts give. -/
namespace In
open PySem
variable {F : Fns} {W : Nat} {ρ : Env} {S S1 S2 S3 : Sto}
@[simp] theorem guard_loc (n : Nat) : guard (.loc n) = [n] := rfl
theorem evps_c {e : E} {es : Es} {x : PyData} {ys : List PyData} (h : ev F e ρ S = .ok (.d x) S1) (h2 : evps F es ρ S1 = .ok ys S2) : evps F (.cons e es) ρ S = .ok (x :: ys) S2 := by
  rw [evps_cons, h]; simp only [R.bind_ok, shut_d, h2]
theorem ev_tup_of {es : Es} {ys : List PyData} (h : evps F es ρ S = .ok ys S1) : ev F (.tup es) ρ S = .ok (.d (.tuple ys)) S1 := by
  rw [ev_tup, h]; rfl
theorem ev_lst_of {es : Es} {ys : List PyData} (h : evps F es ρ S = .ok ys S1) : ev F (.lst es) ρ S = .ok (.d (.list ys)) S1 := by
  rw [ev_lst, h]; rfl
theorem ev_cmp_of {o : C2} {a b : E} {x y : PyData} {z : Bool} (h : ev F a ρ S = .ok (.d x) S1) (h1 : ev F b ρ S1 = .ok (.d y) S2) (h2 : cmpop o x y = some z) : ev F (.cmp o a b) ρ S = .ok (.d (.bool z)) S2 := by
  rw [ev_cmp, h, R.bind_ok, h1, R.bind_ok, view_d, view_d, Option.bind_some, Option.bind_some, h2]
  rfl
theorem ev_ix_of {a b : E} {x y z : PyData} (h : ev F a ρ S = .ok (.d x) S1) (h1 : ev F b ρ S1 = .ok (.d y) S2) (h2 : index x y = some z) : ev F (.ix a b) ρ S = .ok (.d z) S2 := by
  rw [ev_ix, h, R.bind_ok, h1, R.bind_ok, view_d, view_d, Option.bind_some, Option.bind_some, h2]
  rfl
theorem ev_u2_of {o : U2} {a b : E} {x y z : PyData} (h : ev F a ρ S = .ok (.d x) S1) (h1 : ev F b ρ S1 = .ok (.d y) S2) (h2 : u2 o x y = some z) : ev F (.u2 o a b) ρ S = .ok (.d z) S2 := by
  rw [ev_u2, h, R.bind_ok, h1, R.bind_ok, view_d, view_d, Option.bind_some, Option.bind_some, h2]
  rfl
theorem evs_c {e : E} {es : Es} {v : Vl} {vs : List Vl} (h : ev F e ρ S = .ok v S1) (h2 : evs F es ρ S1 = .ok vs S2) : evs F (.cons e es) ρ S = .ok (v :: vs) S2 := by
  rw [evs_cons, h]; simp only [R.bind_ok, h2]
theorem ev_call_of {f : Nat} {es : Es} {dfl : List PyData} {vs : List Vl} {x : PyData} (h : evs F es ρ S = .ok vs S1) (h2 : F f (vs ++ dfl.map .d) S1 = .ok x S2) : ev F (.call f es dfl) ρ S = .ok (.d x) S2 := by
  rw [ev_call, h, R.bind_ok, h2]; rfl
/-- the truth of an expression -/
def tst (F : Fns) (e : E) (ρ : Env) (S : Sto) : R Bool := (ev F e ρ S).bind fun v S1 => test S1 v
theorem tst_b {e : E} {b : Bool} (h : ev F e ρ S = .ok (.d (.bool b)) S1) : tst F e ρ S = .ok b S1 := by
  unfold tst; rw [h]; rfl
theorem tst_not {e : E} {b : Bool} (h : tst F e ρ S = .ok b S1) : tst F (.not e) ρ S = .ok (!b) S1 := by
  unfold tst at *
  rw [ev_not]
  cases h0 : ev F e ρ S with
  | ok v S' => rw [h0] at h; simp only [R.bind_ok] at h ⊢; rw [h]; rfl
  | no => rw [h0] at h; cases h
  | ex _ _ _ => rw [h0] at h; cases h
theorem tst_and {a e : E} {x : Bool} (h : tst F a ρ S = .ok x S1) : tst F (.and a e) ρ S = if x then tst F e ρ S1 else .ok false S1 := by
  unfold tst at *
  rw [ev_and]
  cases h0 : ev F a ρ S with
  | ok v S' =>
    rw [h0] at h
    simp only [R.bind_ok] at h ⊢
    have hs : S' = S1 := by
      unfold test at h
      cases hv : (view S' v).bind truthy with
      | none => rw [hv] at h; cases h
      | some c => rw [hv] at h; simp only [R.opt_some, R.ok.injEq] at h; exact h.2
    subst hs
    rw [h, R.bind_ok]
    cases x with
    | true => rfl
    | false => simp only [Bool.false_eq_true, if_false, R.bind_ok]; exact h
  | no => rw [h0] at h; cases h
  | ex _ _ _ => rw [h0] at h; cases h
theorem tst_or {a e : E} {x : Bool} (h : tst F a ρ S = .ok x S1) : tst F (.or a e) ρ S = if x then .ok true S1 else tst F e ρ S1 := by
  unfold tst at *
  rw [ev_or]
  cases h0 : ev F a ρ S with
  | ok v S' =>
    rw [h0] at h
    simp only [R.bind_ok] at h ⊢
    have hs : S' = S1 := by
      unfold test at h
      cases hv : (view S' v).bind truthy with
      | none => rw [hv] at h; cases h
      | some c => rw [hv] at h; simp only [R.opt_some, R.ok.injEq] at h; exact h.2
    subst hs
    rw [h, R.bind_ok]
    cases x with
    | true => simp only [if_true, R.bind_ok]; exact h
    | false => rfl
  | no => rw [h0] at h; cases h
  | ex _ _ _ => rw [h0] at h; cases h
theorem q_par {n i j : Nat} {a b : E} {cs : Cs} {r : R PyData} (v w : PyData) (h1 : ev F a ρ S = .ok (.d v) S1) (h2 : ev F b ρ S1 = .ok (.d w) S2) (h3 : fin n (xs F W cs ((ρ.set i (some (.d v))).set j (some (.d w))) S2) = r) : fin n (xs F W (.cons (.par i j false false a b) cs) ρ S) = r :=
  fin_step (by rw [x1_par, h1]; simp only [R.bind_ok, liveIf_f, h2]) h3
/-- a test that does not hold, with nothing else -/
theorem x1_no {c : E} {a : Cs} (h : tst F c ρ S = .ok false S1) : x1 F W (.ite c a .nil) ρ S = .ok (.nx ρ) S1 := by
  rw [q_tst h]; simp
theorem x1_yes {c : E} {a b : Cs} (h : tst F c ρ S = .ok true S1) : x1 F W (.ite c a b) ρ S = xs F W a ρ S1 := by
  rw [q_tst h]; simp
end In
/-! part InZ -/
set_option linter.all false
set_option maxRecDepth 100000
set_option maxHeartbeats 1000000
/-! Tools that read the text off the goal: loops, raises, tests. -/
namespace In
open PySem
variable {F : Fns} {W : Nat} {ρ : Env} {S S1 S2 S3 : Sto}
theorem q_raise {n : Nat} {c : Str} {e : E} {cs : Cs} {x : PyData} (h : ev F e ρ S = .ok (.d x) S1) : fin n (xs F W (.cons (.raise c e) cs) ρ S) = .ex c x (S1.take n) := by
  rw [xs_cons, x1_raise, h]; rfl
theorem q_retN {n : Nat} {cs : Cs} : fin n (xs F W (.cons .retN cs) ρ S) = .ok .none (S.take n) := by
  rw [xs_cons, x1_retN]; rfl
theorem q_end {n : Nat} : fin n (xs F W .nil ρ S) = .ok .none (S.take n) := by rw [xs_nil]; rfl
/-- if: the branch that ends in a value or an error -/
theorem q_then {n : Nat} {c : E} {a b cs : Cs} {r : R PyData} (h : tst F c ρ S = .ok true S1) (h2 : fin n ((xs F W a ρ S1).bind (nxt F W cs)) = r) : fin n (xs F W (.cons (.ite c a b) cs) ρ S) = r := by
  rw [xs_cons, q_tst h]; exact h2
theorem q_else {n : Nat} {c : E} {a b cs : Cs} {r : R PyData} (h : tst F c ρ S = .ok false S1) (h2 : fin n ((xs F W b ρ S1).bind (nxt F W cs)) = r) : fin n (xs F W (.cons (.ite c a b) cs) ρ S) = r := by
  rw [xs_cons, q_tst h]; exact h2
theorem q_skip {n : Nat} {c : E} {a cs : Cs} {r : R PyData} (h : tst F c ρ S = .ok false S1) (h2 : fin n (xs F W cs ρ S1) = r) : fin n (xs F W (.cons (.ite c a .nil) cs) ρ S) = r := q_no' h h2
/-- if not so: raise -/
theorem q_thenRaise {n : Nat} {c e : E} {a' b cs : Cs} {cl : Str} {x : PyData} (h : tst F c ρ S = .ok true S1) (h2 : ev F e ρ S1 = .ok (.d x) S2) : fin n (xs F W (.cons (.ite c (.cons (.raise cl e) a') b) cs) ρ S) = .ex cl x (S2.take n) := by
  refine q_then h ?_
  rw [xs_cons, x1_raise, h2]; rfl
theorem q_thenRet {n : Nat} {c e : E} {a' b cs : Cs} {x : PyData} (h : tst F c ρ S = .ok true S1) (h2 : ev F e ρ S1 = .ok (.d x) S2) : fin n (xs F W (.cons (.ite c (.cons (.ret e) a') b) cs) ρ S) = .ok x (S2.take n) := by
  refine q_then h ?_
  rw [xs_cons, x1_ret, h2]; rfl
/-- a call whose value is dropped -/
theorem q_dropEx {n : Nat} {e : E} {cs : Cs} {c : Str} {x : PyData} (h : ev F e ρ S = .ex c x S1) : fin n (xs F W (.cons (.drop e) cs) ρ S) = .ex c x (S1.take n) := by
  rw [xs_cons, x1_drop, h]; rfl
theorem q_asgEx {n : Nat} {t : T} {e : E} {cs : Cs} {c : Str} {x : PyData} (h : ev F e ρ S = .ex c x S1) : fin n (xs F W (.cons (.asg t e) cs) ρ S) = .ex c x (S1.take n) := by
  rw [xs_cons, x1_asg, h]; rfl
theorem q_retEx {n : Nat} {e : E} {cs : Cs} {c : Str} {x : PyData} (h : ev F e ρ S = .ex c x S1) : fin n (xs F W (.cons (.ret e) cs) ρ S) = .ex c x (S1.take n) := by
  rw [xs_cons, x1_ret, h]; rfl
theorem ev_callEx {f : Nat} {es : Es} {dfl : List PyData} {vs : List Vl} {c : Str} {x : PyData} (h : evs F es ρ S = .ok vs S1) (h2 : F f (vs ++ dfl.map .d) S1 = .ex c x S2) : ev F (.call f es dfl) ρ S = .ex c x S2 := by
  rw [ev_call, h, R.bind_ok, h2]; rfl
/-- for, by an invariant -/
theorem q_for {α : Type} {n : Nat} {t : T} {it : It} {b cs : Cs} {gs : List Nat} {r : R PyData} (g : α → PyData) (l : List α) (I : List α → Env → Sto → Prop) (hit : evI F it ρ S = .ok (l.map g, gs) S1) (h0 : I l ρ S1)
    (step : ∀ a l ρ S, I (a :: l) ρ S → ∃ ρ1, put t (g a) ρ = some ρ1 ∧ Ok (xs F W b ρ1 S) fun fl S2 => ∃ ρ2, fl = .nx ρ2 ∧ chk gs S1 S2 = true ∧ I l ρ2 S2) (after : ∀ ρ' S', I [] ρ' S' → fin n (xs F W cs ρ' S') = r) :
    fin n (xs F W (.cons (.loop t it b) cs) ρ S) = r := by
  obtain ⟨fl, S', e, ρ', rfl, h⟩ := (forL_ok (ck := chk gs S1) (asg := fun x ρ => put t x ρ) (b := fun ρ S => xs F W b ρ S) g I l ρ S1 h0 step).get
  exact q_loop e hit (after ρ' S' h)
/-- for over places -/
theorem q_forIx {n m : Nat} {t : T} {it : It} {b cs : Cs} {gs : List Nat} {r : R PyData} (I : Nat → Env → Sto → Prop) (hit : evI F it ρ S = .ok ((List.range m).map fun (k : Nat) => .int (k : Int), gs) S1) (h0 : I 0 ρ S1)
    (step : ∀ i ρ S, i < m → I i ρ S → ∃ ρ1, put t (.int (i : Int)) ρ = some ρ1 ∧ Ok (xs F W b ρ1 S) fun fl S2 => ∃ ρ2, fl = .nx ρ2 ∧ chk gs S1 S2 = true ∧ I (i + 1) ρ2 S2) (after : ∀ ρ' S', I m ρ' S' → fin n (xs F W cs ρ' S') = r) :
    fin n (xs F W (.cons (.loop t it b) cs) ρ S) = r := by
  obtain ⟨fl, S', e, ρ', rfl, h⟩ := (forL_ix (ck := chk gs S1) (asg := fun x ρ => put t x ρ) (b := fun ρ S => xs F W b ρ S) I m h0 step).get
  exact q_loop e hit (after ρ' S' h)
/-- how a body ends: a value, or an error -/
inductive Out where
  | val (x : PyData)
  | err (c : Str) (x : PyData)
def Out.fl (S : Sto) : Out → R Fl
  | .val x => .ok (.rt x) S
  | .err c x => .ex c x S
def Out.r (S : Sto) : Out → R PyData
  | .val x => .ok x S
  | .err c x => .ex c x S
/-- for that ends at the first that p takes -/
theorem forL_find {α : Type} {ck : Sto → Bool} {asg : PyData → Env → Option Env} {b : Env → Sto → R Fl} (g : α → PyData) (p : α → Bool) (f : α → Out) (I : Env → Prop) (hck : ck S = true) : ∀ (l : List α) (ρ : Env), I ρ →
    (∀ a ∈ l, ∀ ρ, I ρ → ∃ ρ1, asg (g a) ρ = some ρ1 ∧ (p a = true → b ρ1 S = (f a).fl S) ∧ (p a = false → ∃ ρ2, b ρ1 S = .ok (.nx ρ2) S ∧ I ρ2)) →
    (∀ a, l.find? p = some a → forL ck asg b (l.map g) ρ S = (f a).fl S) ∧ (l.find? p = none → ∃ ρ', forL ck asg b (l.map g) ρ S = .ok (.nx ρ') S ∧ I ρ')
  | [], ρ, h, _ => ⟨fun a h => by simp at h, fun _ => ⟨ρ, rfl, h⟩⟩
  | a :: l, ρ, h, hs => by
    obtain ⟨ρ1, h1, h2, h3⟩ := hs a List.mem_cons_self ρ h
    simp only [List.map_cons, forL, h1, List.find?_cons]
    cases hp : p a with
    | true =>
      rw [h2 hp]
      refine ⟨fun a' ha => ?_, fun h => by simp at h⟩
      have : a = a' := by simpa using ha
      subst this
      cases f a <;> rfl
    | false =>
      obtain ⟨ρ2, h4, h5⟩ := h3 hp
      simp only [h4, R.bind_ok, hck, if_true]
      exact forL_find g p f I hck l ρ2 h5 fun a ha => hs a (List.mem_cons_of_mem _ ha)
theorem q_find {α : Type} {n : Nat} {t : T} {it : It} {b cs : Cs} {gs : List Nat} {r : R PyData} (g : α → PyData) (l : List α) (p : α → Bool) (f : α → Out) (I : Env → Prop) (hit : evI F it ρ S = .ok (l.map g, gs) S1) (h0 : I ρ)
    (step : ∀ a ∈ l, ∀ ρ, I ρ → ∃ ρ1, put t (g a) ρ = some ρ1 ∧ (p a = true → xs F W b ρ1 S1 = (f a).fl S1) ∧ (p a = false → ∃ ρ2, xs F W b ρ1 S1 = .ok (.nx ρ2) S1 ∧ I ρ2))
    (hsome : ∀ a, l.find? p = some a → (f a).r (S1.take n) = r) (hnone : l.find? p = none → ∀ ρ', I ρ' → fin n (xs F W cs ρ' S1) = r) :
    fin n (xs F W (.cons (.loop t it b) cs) ρ S) = r := by
  obtain ⟨k1, k2⟩ := forL_find (ck := chk gs S1) (asg := fun x ρ => put t x ρ) (b := fun ρ S => xs F W b ρ S) (S := S1) g p f I (chk_same _ _) l ρ h0 step
  cases hl : l.find? p with
  | none =>
    obtain ⟨ρ', e, h⟩ := k2 hl
    exact q_loop e hit (hnone hl ρ' h)
  | some a =>
    rw [xs_cons, x1_loop, hit, R.bind_ok]
    show fin n ((forL _ _ _ _ _ _).bind _) = r
    rw [k1 a hl, ← hsome a hl]
    cases f a <;> rfl
/-- while, by a measure -/
theorem whl_ok {c : E} {b : Cs} (I : Nat → Env → Sto → Prop) (J : Env → Sto → Prop) (step : ∀ n ρ S, I n ρ S → (tst F c ρ S = .ok false S ∧ J ρ S) ∨ (tst F c ρ S = .ok true S ∧ ∃ n' ρ2 S2, n = n' + 1 ∧ xs F W b ρ S = .ok (.nx ρ2) S2 ∧ I n' ρ2 S2)) : ∀ (n w : Nat) (ρ : Env) (S : Sto), n < w → I n ρ S →
    ∃ ρ' S', whlL (fun ρ S => (ev F c ρ S).bind fun v S1 => test S1 v) (fun ρ S => xs F W b ρ S) w ρ S = .ok (.nx ρ') S' ∧ J ρ' S'
  | n, 0, _, _, h, _ => by omega
  | n, w + 1, ρ, S, h, hI => by
    rcases step n ρ S hI with ⟨h1, h2⟩ | ⟨h1, n', ρ2, S2, rfl, h2, h3⟩
    · refine ⟨ρ, S, ?_, h2⟩
      unfold tst at h1
      simp only [whlL, h1, R.bind_ok, Bool.false_eq_true, if_false]
    · obtain ⟨ρ', S', h4, h5⟩ := whl_ok I J step n' w ρ2 S2 (by omega) h3
      refine ⟨ρ', S', ?_, h5⟩
      unfold tst at h1
      simp only [whlL, h1, R.bind_ok, if_true, h2, h4]
@[simp] theorem x1_whl (c : E) (b : Cs) : x1 F W (.whl c b) ρ S = whlL (fun ρ S => (ev F c ρ S).bind fun v S1 => test S1 v) (fun ρ S => xs F W b ρ S) W ρ S := by simp only [x1]
theorem q_whl {n m : Nat} {c : E} {b cs : Cs} {r : R PyData} (I : Nat → Env → Sto → Prop) (J : Env → Sto → Prop) (hm : m < W) (h0 : I m ρ S) (step : ∀ n ρ S, I n ρ S → (tst F c ρ S = .ok false S ∧ J ρ S) ∨ (tst F c ρ S = .ok true S ∧ ∃ n' ρ2 S2, n = n' + 1 ∧ xs F W b ρ S = .ok (.nx ρ2) S2 ∧ I n' ρ2 S2))
    (after : ∀ ρ' S', J ρ' S' → fin n (xs F W cs ρ' S') = r) : fin n (xs F W (.cons (.whl c b) cs) ρ S) = r := by
  obtain ⟨ρ', S', h1, h2⟩ := whl_ok I J step m W ρ S hm h0
  exact fin_step (by rw [x1_whl]; exact h1) (after ρ' S' h2)
/-- the same as a statement -/
theorem x1_whl_ok {m : Nat} {c : E} {b : Cs} (I : Nat → Env → Sto → Prop) (J : Env → Sto → Prop) (hm : m < W) (h0 : I m ρ S) (step : ∀ n ρ S, I n ρ S → (tst F c ρ S = .ok false S ∧ J ρ S) ∨ (tst F c ρ S = .ok true S ∧ ∃ n' ρ2 S2, n = n' + 1 ∧ xs F W b ρ S = .ok (.nx ρ2) S2 ∧ I n' ρ2 S2)) :
    ∃ ρ' S', x1 F W (.whl c b) ρ S = .ok (.nx ρ') S' ∧ J ρ' S' := by
  obtain ⟨ρ', S', h1, h2⟩ := whl_ok I J step m W ρ S hm h0
  exact ⟨ρ', S', by rw [x1_whl]; exact h1, h2⟩
@[simp] theorem x1_aug (i : Nat) (op : B2) (e : E) : x1 F W (.aug i op e) ρ S = (getV ρ[i]? S).bind fun v S0 => (ev F e ρ S0).bind fun w S1 => (augment op S1 v w).bind fun u S2 => .ok (.nx (ρ.set i (some u))) S2 := by
  simp only [x1]
  rcases ρ[i]? with _ | _ | v <;> rfl
@[simp] theorem augment_int (op : B2) (i j : Int) : augment op S (.d (.int i)) (.d (.int j)) = R.opt ((binop op (.int i) (.int j)).map .d) S := rfl
/-- the common divisor of two ints, by the usual loop -/
theorem q_euclid {n : Nat} {md : E} {cs : Cs} {r : R PyData} {tl : Env} (x y : Nat) (hy : y < 1000000000) (hW : W = 1000000000) (hmd : ∀ (x y : Nat), 0 < y → ev F md (some (.d (.int (x : Int))) :: some (.d (.int (y : Int))) :: tl) S = .ok (.d (.int (((x % y : Nat)) : Int))) S)
    (after : fin n (xs F W cs (some (.d (.int (Nat.gcd x y : Nat))) :: some (.d (.int 0)) :: tl) S) = r) :
    fin n (xs F W (.cons (.whl (.cmp .gt (.var 1) (.cst (.int 0))) (.cons (.par 0 1 false false (.var 1) md) .nil)) cs) (some (.d (.int (x : Int))) :: some (.d (.int (y : Int))) :: tl) S) = r := by
  refine q_whl (m := y) (fun m ρ S' => ∃ a b : Nat, ρ = some (.d (.int (a : Int))) :: some (.d (.int (b : Int))) :: tl ∧ S' = S ∧ b ≤ m ∧ Nat.gcd a b = Nat.gcd x y) (fun ρ S' => ρ = some (.d (.int (Nat.gcd x y : Nat))) :: some (.d (.int 0)) :: tl ∧ S' = S) (by omega) ⟨x, y, rfl, rfl, Nat.le_refl _, rfl⟩ ?_ ?_
  · rintro m ρ S' ⟨a, b, rfl, rfl, hb, hg⟩
    have ht : tst F (.cmp .gt (.var 1) (.cst (.int 0))) (some (.d (.int (a : Int))) :: some (.d (.int (b : Int))) :: tl) S' = .ok (decide ((0 : Int) < (b : Int))) S' := tst_b (ev_cmp_of (ev_var _ _ rfl) (ev_cst _) (cmp_gt _ _))
    rw [ht]
    by_cases c : b = 0
    · subst c
      refine .inl ⟨by simp, ?_, rfl⟩
      rw [← hg, Nat.gcd_zero_right]
      rfl
    · have hb0 : 0 < b := Nat.pos_of_ne_zero c
      refine .inr ⟨by rw [decide_eq_true (by omega)], m - 1, some (.d (.int (b : Int))) :: some (.d (.int ((a % b : Nat) : Int))) :: tl, S', by omega, ?_, b, a % b, rfl, rfl, by have := Nat.mod_lt a hb0; omega, ?_⟩
      · rw [xs_cons, x1_par, ev_var _ _ rfl]
        simp only [R.bind_ok, liveIf_f, hmd a b hb0, List.set_cons_zero, List.set_cons_succ, nxt_nx, xs_nil]
      · rw [← hg, Nat.gcd_comm b, ← Nat.gcd_rec, Nat.gcd_comm]
  · rintro ρ' S' ⟨rfl, rfl⟩
    exact after
/-- for that may return -/
theorem forL_or {α : Type} {ck : Sto → Bool} {asg : PyData → Env → Option Env} {b : Env → Sto → R Fl} (g : α → PyData) (I : List α → Env → Sto → Prop) (Rt : PyData → Sto → Prop) : ∀ (l : List α) (ρ : Env) (S : Sto), I l ρ S →
    (∀ a l ρ S, I (a :: l) ρ S → ∃ ρ1, asg (g a) ρ = some ρ1 ∧ Ok (b ρ1 S) fun fl S1 => (∃ ρ2, fl = .nx ρ2 ∧ ck S1 = true ∧ I l ρ2 S1) ∨ ∃ x, fl = .rt x ∧ Rt x S1) → Ok (forL ck asg b (l.map g) ρ S) fun fl S' => (∃ ρ', fl = .nx ρ' ∧ I [] ρ' S') ∨ ∃ x, fl = .rt x ∧ Rt x S'
  | [], ρ, S, h, _ => .inl ⟨ρ, rfl, h⟩
  | a :: l, ρ, S, h, hs => by
    obtain ⟨ρ1, h1, h2⟩ := hs a l ρ S h
    simp only [List.map_cons, forL, h1, Ok_bind]
    refine h2.mono ?_
    rintro fl S1 (⟨ρ2, rfl, hck, hI⟩ | ⟨x, rfl, hx⟩)
    · simp only [hck, if_true]
      exact forL_or g I Rt l ρ2 S1 hI hs
    · exact .inr ⟨x, rfl, hx⟩
theorem q_forOr {α : Type} {n : Nat} {t : T} {it : It} {b cs : Cs} {gs : List Nat} {r : R PyData} (g : α → PyData) (l : List α) (I : List α → Env → Sto → Prop) (Rt : PyData → Sto → Prop) (hit : evI F it ρ S = .ok (l.map g, gs) S1) (h0 : I l ρ S1)
    (step : ∀ a l ρ S, I (a :: l) ρ S → ∃ ρ1, put t (g a) ρ = some ρ1 ∧ Ok (xs F W b ρ1 S) fun fl S2 => (∃ ρ2, fl = .nx ρ2 ∧ chk gs S1 S2 = true ∧ I l ρ2 S2) ∨ ∃ x, fl = .rt x ∧ Rt x S2) (after : ∀ ρ' S', I [] ρ' S' → fin n (xs F W cs ρ' S') = r) (hrt : ∀ x S', Rt x S' → .ok x (S'.take n) = r) :
    fin n (xs F W (.cons (.loop t it b) cs) ρ S) = r := by
  obtain ⟨fl, S', e, h⟩ := (forL_or (ck := chk gs S1) (asg := fun x ρ => put t x ρ) (b := fun ρ S => xs F W b ρ S) g I Rt l ρ S1 h0 step).get
  rcases h with ⟨ρ', rfl, h⟩ | ⟨x, rfl, h⟩
  · exact q_loop e hit (after ρ' S' h)
  · exact (q_loopR e hit).trans (hrt x S' h)
/-- parts of a row -/
theorem slice_to (xs : List PyData) (k : Nat) (h : k ≤ xs.length) : slice (.tuple xs) none (some (k : Int)) = some (.tuple (xs.take k)) := by
  show some (PyData.tuple (cut xs none (some (k : Int)))) = _
  have : cut xs none (some (k : Int)) = xs.take k := by
    unfold cut
    have h1 : HT.sIx xs.length 0 none = 0 := rfl
    have hk : ¬ ((k : Int) < 0) := by omega
    have h2 : HT.sIx xs.length xs.length (some (k : Int)) = k := by
      simp [HT.sIx, hk]; omega
    rw [h1, h2]
    simp
  rw [this]
theorem slice_from (xs : List PyData) (k : Nat) (h : k ≤ xs.length) : slice (.tuple xs) (some (k : Int)) none = some (.tuple (xs.drop k)) := by
  show some (PyData.tuple (cut xs (some (k : Int)) none)) = _
  have : cut xs (some (k : Int)) none = xs.drop k := by
    unfold cut
    have h1 : HT.sIx xs.length xs.length none = xs.length := rfl
    have hk : ¬ ((k : Int) < 0) := by omega
    have h2 : HT.sIx xs.length 0 (some (k : Int)) = k := by
      simp [HT.sIx, hk]; omega
    rw [h1, h2]
    exact List.take_of_length_le (by simp)
  rw [this]
theorem ev_sl_to {a e : E} {x y : PyData} {i : Int} (h : ev F a ρ S = .ok (.d x) S1) (h2 : ev F e ρ S1 = .ok (.d (.int i)) S2) (hs : slice x none (some i) = some y) : ev F (.sl a .nil (.cons e .nil)) ρ S = .ok (.d y) S2 := by
  simp only [ev, evo, h, R.bind_ok, h2, view_d, Option.bind_some, hs, Option.map_some, R.opt_some]
theorem ev_sl_from {a e : E} {x y : PyData} {i : Int} (h : ev F a ρ S = .ok (.d x) S1) (h2 : ev F e ρ S1 = .ok (.d (.int i)) S2) (hs : slice x (some i) none = some y) : ev F (.sl a (.cons e .nil) .nil) ρ S = .ok (.d y) S2 := by
  simp only [ev, evo, h, R.bind_ok, h2, view_d, Option.bind_some, hs, Option.map_some, R.opt_some]
theorem u1_any (l : List Bool) : u1 .any (.list (l.map .bool)) = some (.bool (l.any id)) := by
  show (bools? (l.map .bool)).map _ = _
  rw [bools_map]; rfl
/-! ### lists that may be shown -/
theorem gd_lst {xs : List PyData} {e m : Nat} (h : ∀ x ∈ xs, Gd x e m) : Gd (.list xs) (e + 1) (xs.length * (m + 2) + 3) := by
  obtain ⟨h1, h2, h3, h4, h5, h6⟩ := gd_all h
  refine ⟨h1, h2, h3, by simp only [PyData.depth]; omega, ?_, ?_⟩
  · show (Str.length _) ≤ _
    have e0 : PyData.shown (.list xs) = "[" ++ Str.join ", " (PyData.shownAll xs) ++ "]" := listText_eq_join _
    rw [e0, strLen_append, strLen_append]
    have e1 : (("[" : String) : Str).length = 1 := rfl
    have e2 : (("]" : String) : Str).length = 1 := rfl
    omega
  · have e0 : PyData.shown (.list xs) = "[" ++ Str.join ", " (PyData.shownAll xs) ++ "]" := listText_eq_join _
    rw [e0]
    exact strOk_app (strOk_app (by decide +kernel) h6) (by decide +kernel)
/-- the same text -/
theorem ne_repr {d : PyData} {e m : Nat} (h : Gd d e m) : cmpop .ne (.str d.shown) (.str d.shown) = some false := by
  have hs : (PyData.str d.shown).canLay0 = true := h.txt
  show (if (eqOk (.str d.shown) && eqOk (.str d.shown)) = true then some (!PyData.eqv (.str d.shown) (.str d.shown)) else none) = _
  have e1 : eqOk (.str d.shown) = true := by
    show ((PyData.str d.shown).canLay0 && decide ((PyData.str d.shown).depth ≤ 64)) = true
    rw [hs]; rfl
  rw [e1, SeqAt.eqv_refl _ hs]; rfl
theorem tst_nerepr {d : PyData} {e m : Nat} {a b : E} (h : Gd d e m) (h1 : e ≤ 64) (h2 : m ≤ cap) (ha : ev F a ρ S = .ok (.d d) S1) (hb : ev F b ρ S1 = .ok (.d d) S2) : tst F (.cmp .ne (.u1 .repr a) (.u1 .repr b)) ρ S = .ok false S2 :=
  tst_b (ev_cmp_of (ev_u1_of ha (gd_repr h h1 h2)) (ev_u1_of hb (gd_repr h h1 h2)) (ne_repr h))
/-- the same loops, the body by an equation: no run is looked into while the goal is read -/
theorem q_forE {α : Type} {n : Nat} {t : T} {it : It} {b cs : Cs} {gs : List Nat} {r : R PyData} (g : α → PyData) (l : List α) (I : List α → Env → Sto → Prop) (hit : evI F it ρ S = .ok (l.map g, gs) S1) (h0 : I l ρ S1)
    (step : ∀ a l ρ S, I (a :: l) ρ S → ∃ ρ1 ρ2 S2, put t (g a) ρ = some ρ1 ∧ xs F W b ρ1 S = .ok (.nx ρ2) S2 ∧ chk gs S1 S2 = true ∧ I l ρ2 S2) (after : ∀ ρ' S', I [] ρ' S' → fin n (xs F W cs ρ' S') = r) :
    fin n (xs F W (.cons (.loop t it b) cs) ρ S) = r :=
  q_for g l I hit h0 (fun a l ρ S h => by
    obtain ⟨ρ1, ρ2, S2, h1, h2, h3, h4⟩ := step a l ρ S h
    exact ⟨ρ1, h1, by rw [h2]; exact ⟨ρ2, rfl, h3, h4⟩⟩) after
theorem q_forIxE {n m : Nat} {t : T} {it : It} {b cs : Cs} {gs : List Nat} {r : R PyData} (I : Nat → Env → Sto → Prop) (hit : evI F it ρ S = .ok ((List.range m).map fun (k : Nat) => .int (k : Int), gs) S1) (h0 : I 0 ρ S1)
    (step : ∀ i ρ S, i < m → I i ρ S → ∃ ρ1 ρ2 S2, put t (.int (i : Int)) ρ = some ρ1 ∧ xs F W b ρ1 S = .ok (.nx ρ2) S2 ∧ chk gs S1 S2 = true ∧ I (i + 1) ρ2 S2) (after : ∀ ρ' S', I m ρ' S' → fin n (xs F W cs ρ' S') = r) :
    fin n (xs F W (.cons (.loop t it b) cs) ρ S) = r :=
  q_forIx I hit h0 (fun i ρ S hi h => by
    obtain ⟨ρ1, ρ2, S2, h1, h2, h3, h4⟩ := step i ρ S hi h
    exact ⟨ρ1, h1, by rw [h2]; exact ⟨ρ2, rfl, h3, h4⟩⟩) after
/-- for that may return, the body by an equation -/
theorem q_forOrE {α : Type} {n : Nat} {t : T} {it : It} {b cs : Cs} {gs : List Nat} {r : R PyData} (g : α → PyData) (l : List α) (I : List α → Env → Sto → Prop) (Rt : PyData → Sto → Prop) (hit : evI F it ρ S = .ok (l.map g, gs) S1) (h0 : I l ρ S1)
    (step : ∀ a l ρ S, I (a :: l) ρ S → ∃ ρ1, put t (g a) ρ = some ρ1 ∧ ((∃ ρ2 S2, xs F W b ρ1 S = .ok (.nx ρ2) S2 ∧ chk gs S1 S2 = true ∧ I l ρ2 S2) ∨ ∃ x S2, xs F W b ρ1 S = .ok (.rt x) S2 ∧ Rt x S2)) (after : ∀ ρ' S', I [] ρ' S' → fin n (xs F W cs ρ' S') = r) (hrt : ∀ x S', Rt x S' → .ok x (S'.take n) = r) :
    fin n (xs F W (.cons (.loop t it b) cs) ρ S) = r :=
  q_forOr g l I Rt hit h0 (fun a l ρ S h => by
    obtain ⟨ρ1, h1, h2⟩ := step a l ρ S h
    refine ⟨ρ1, h1, ?_⟩
    rcases h2 with ⟨ρ2, S2, h2, h3, h4⟩ | ⟨x, S2, h2, h3⟩
    · rw [h2]; exact .inl ⟨ρ2, rfl, h3, h4⟩
    · rw [h2]; exact .inr ⟨x, rfl, h3⟩) after hrt
theorem x1_asg_of {t : T} {e : E} {x : PyData} {ρ' : Env} (h : ev F e ρ S = .ok (.d x) S1) (hp : put t x ρ = some ρ') : x1 F W (.asg t e) ρ S = .ok (.nx ρ') S1 := by
  rw [x1_asg, h]; simp only [R.bind_ok, shut_d, hp, Option.map_some, R.opt_some]
/-- a row of statements, one after the other -/
theorem xs_end : xs F W .nil ρ S = .ok (.nx ρ) S := xs_nil
theorem xs_asg {t : T} {e : E} {cs : Cs} {x : PyData} {ρ' : Env} {r : R Fl} (h : ev F e ρ S = .ok (.d x) S1) (hp : put t x ρ = some ρ') (h2 : xs F W cs ρ' S1 = r) : xs F W (.cons (.asg t e) cs) ρ S = r := xs_step (x1_asg_of h hp) h2
theorem xs_skip {c : E} {a cs : Cs} {r : R Fl} (h : tst F c ρ S = .ok false S1) (h2 : xs F W cs ρ S1 = r) : xs F W (.cons (.ite c a .nil) cs) ρ S = r := xs_step (x1_no h) h2
theorem xs_thenNx {c : E} {a b cs : Cs} {ρ' : Env} {r : R Fl} (h : tst F c ρ S = .ok true S1) (h1 : xs F W a ρ S1 = .ok (.nx ρ') S2) (h2 : xs F W cs ρ' S2 = r) : xs F W (.cons (.ite c a b) cs) ρ S = r := xs_step (by rw [x1_yes h, h1]) h2
theorem xs_thenRt {c : E} {a b cs : Cs} {x : PyData} (h : tst F c ρ S = .ok true S1) (h1 : xs F W a ρ S1 = .ok (.rt x) S2) : xs F W (.cons (.ite c a b) cs) ρ S = .ok (.rt x) S2 := by
  rw [xs_cons, x1_yes h, h1]; rfl
theorem xs_elseNx {c : E} {a b cs : Cs} {ρ' : Env} {r : R Fl} (h : tst F c ρ S = .ok false S1) (h1 : xs F W b ρ S1 = .ok (.nx ρ') S2) (h2 : xs F W cs ρ' S2 = r) : xs F W (.cons (.ite c a b) cs) ρ S = r := xs_step (by rw [q_tst h]; simpa using h1) h2
theorem xs_ret {e : E} {cs : Cs} {x : PyData} (h : ev F e ρ S = .ok (.d x) S1) : xs F W (.cons (.ret e) cs) ρ S = .ok (.rt x) S1 := by
  rw [xs_cons, x1_ret, h]; rfl
/-- append to the list in the last cell -/
theorem xs_app {i : Nat} {e : E} {cs : Cs} {x : PyData} {ys : List PyData} {Z : Sto} {r : R Fl} (h0 : ρ[i]? = some (some (.loc Z.length))) (h : ev F e ρ (Z ++ [⟨true, .lst ys⟩]) = .ok (.d x) (Z ++ [⟨true, .lst ys⟩])) (hl : ys.length < 16777216) (h2 : xs F W cs ρ (Z ++ [⟨true, .lst (ys ++ [x])⟩]) = r) :
    xs F W (.cons (.app (.var i) e) cs) ρ (Z ++ [⟨true, .lst ys⟩]) = r := by
  refine xs_step (ρ' := ρ) (S' := Z ++ [⟨true, .lst (ys ++ [x])⟩]) ?_ h2
  rw [x1_app, ev_var _ _ h0]
  simp only [R.bind_ok, lstAt_last, R.opt_some, h, shut_d, appAt_some, hl, if_true, last_set]
end In
/-! part InW -/
set_option linter.all false
set_option maxRecDepth 100000
set_option maxHeartbeats 1000000
/-! Runs whose end is not known beforehand. -/
namespace In
open PySem
variable {F : Fns} {W : Nat} {ρ : Env} {S S1 S2 S3 : Sto}
/-- ends with a value and a store that Q takes -/
def Ends (Q : PyData → Sto → Prop) (r : R PyData) : Prop := ∃ x S, r = .ok x S ∧ Q x S
theorem Ends.of {Q : PyData → Sto → Prop} {a b : R PyData} (h : a = b) (q : Ends Q b) : Ends Q a := h ▸ q
theorem Ends.ok {Q : PyData → Sto → Prop} {a : R PyData} {x : PyData} {S : Sto} (h : a = .ok x S) (q : Q x S) : Ends Q a := ⟨x, S, h, q⟩
theorem e_forIx {n m : Nat} {t : T} {it : It} {b cs : Cs} {gs : List Nat} {Q : PyData → Sto → Prop} (I : Nat → Env → Sto → Prop) (hit : evI F it ρ S = .ok ((List.range m).map fun (k : Nat) => .int (k : Int), gs) S1) (h0 : I 0 ρ S1)
    (step : ∀ i ρ S, i < m → I i ρ S → ∃ ρ1 ρ2 S2, put t (.int (i : Int)) ρ = some ρ1 ∧ xs F W b ρ1 S = .ok (.nx ρ2) S2 ∧ chk gs S1 S2 = true ∧ I (i + 1) ρ2 S2) (after : ∀ ρ' S', I m ρ' S' → Ends Q (fin n (xs F W cs ρ' S'))) :
    Ends Q (fin n (xs F W (.cons (.loop t it b) cs) ρ S)) := by
  obtain ⟨fl, S', e, ρ', rfl, h⟩ := (forL_ix (ck := chk gs S1) (asg := fun x ρ => put t x ρ) (b := fun ρ S => xs F W b ρ S) I m h0 fun i ρ S hi h => by
    obtain ⟨ρ1, ρ2, S2, h1, h2, h3, h4⟩ := step i ρ S hi h
    exact ⟨ρ1, h1, by rw [h2]; exact ⟨ρ2, rfl, h3, h4⟩⟩).get
  exact Ends.of (q_loop e hit rfl) (after ρ' S' h)
/-- append where the item's evaluation moves the store -/
theorem xs_appS {i n : Nat} {e : E} {cs : Cs} {x : PyData} {ys ys' : List PyData} {r : R Fl} (h0 : ρ[i]? = some (some (.loc n))) (hl0 : lstAt S (.loc n) = some (n, ys')) (h : ev F e ρ S = .ok (.d x) S1) (hl : lstAt S1 (.loc n) = some (n, ys)) (hlen : ys.length < 16777216) (h2 : xs F W cs ρ (S1.set n ⟨true, .lst (ys ++ [x])⟩) = r) :
    xs F W (.cons (.app (.var i) e) cs) ρ S = r := by
  refine xs_step (ρ' := ρ) (S' := S1.set n ⟨true, .lst (ys ++ [x])⟩) ?_ h2
  rw [x1_app, ev_var _ _ h0]
  simp only [R.bind_ok, hl0, R.opt_some, h, shut_d, hl, appAt_some, hlen, if_true]
/-- two at once -/
theorem xs_par {i j : Nat} {a b : E} {cs : Cs} {r : R Fl} {v w : PyData} (h1 : ev F a ρ S = .ok (.d v) S1) (h2 : ev F b ρ S1 = .ok (.d w) S2) (h3 : xs F W cs ((ρ.set i (some (.d v))).set j (some (.d w))) S2 = r) : xs F W (.cons (.par i j false false a b) cs) ρ S = r :=
  xs_step (by rw [x1_par, h1]; simp only [R.bind_ok, liveIf_f, h2]) h3
theorem xs_new {i : Nat} {e : E} {cs : Cs} {ys : List PyData} {r : R Fl} (h : ev F e ρ S = .ok (.d (.list ys)) S) (h2 : xs F W cs (ρ.set i (some (.loc S.length))) (S ++ [⟨true, .lst ys⟩]) = r) : xs F W (.cons (.new i e) cs) ρ S = r :=
  xs_step (by rw [x1_new, h]; simp only [R.bind_ok, live_list]) h2
/-! ### the list in the last cell -/
section
variable {Z : Sto} {i : Nat} {ys : List PyData}
theorem view_lastL : view (cd Z ys) (.loc Z.length) = some (.list ys) := by simp
theorem q_retLast {cs : Cs} (h : ρ[i]? = some (some (.loc Z.length))) : fin Z.length (xs F W (.cons (.ret (.var i)) cs) ρ (cd Z ys)) = .ok (.list ys) Z := by
  have hc : (cd Z ys)[Z.length]? = some ⟨true, .lst ys⟩ := by simp
  rw [xs_cons, x1_ret, ev_var _ _ h]
  simp only [R.bind_ok, shut_loc hc]
  simp
theorem u1_last {o : U1} {z : PyData} (h : ρ[i]? = some (some (.loc Z.length))) (h3 : u1 o (.list ys) = some z) : ev F (.u1 o (.var i)) ρ (cd Z ys) = .ok (.d z) (cd Z ys) := by
  rw [ev_u1, ev_var _ _ h]
  simp only [R.bind_ok, view_lastL, Option.bind_some, h3, Option.map_some, R.opt_some]
theorem ix_last {e : E} {k z : PyData} (h : ρ[i]? = some (some (.loc Z.length))) (he : ev F e ρ (cd Z ys) = .ok (.d k) (cd Z ys)) (h3 : index (.list ys) k = some z) : ev F (.ix (.var i) e) ρ (cd Z ys) = .ok (.d z) (cd Z ys) := by
  rw [ev_ix, ev_var _ _ h]
  simp only [R.bind_ok, he, view_lastL, view_d, Option.bind_some, h3, Option.map_some, R.opt_some]
theorem tst_last (h : ρ[i]? = some (some (.loc Z.length))) : tst F (.var i) ρ (cd Z ys) = .ok (!ys.isEmpty) (cd Z ys) := by
  unfold tst
  rw [ev_var _ _ h]
  simp only [R.bind_ok, test, view_lastL, Option.bind_some]
  rfl
theorem cmp_last {o : C2} {b : E} {y : PyData} {z : Bool} (h : ρ[i]? = some (some (.loc Z.length))) (hb : ev F b ρ (cd Z ys) = .ok (.d y) (cd Z ys)) (h3 : cmpop o (.list ys) y = some z) : ev F (.cmp o (.var i) b) ρ (cd Z ys) = .ok (.d (.bool z)) (cd Z ys) := by
  rw [ev_cmp, ev_var _ _ h]
  simp only [R.bind_ok, hb, view_lastL, view_d, Option.bind_some, h3, Option.map_some, R.opt_some]
/-- the item at k is set -/
theorem xs_sixL {e k : E} {cs : Cs} {x : PyData} {j : Int} {n : Nat} {r : R Fl} (h : ρ[i]? = some (some (.loc Z.length))) (he : ev F e ρ (cd Z ys) = .ok (.d x) (cd Z ys)) (hk : ev F k ρ (cd Z ys) = .ok (.d (.int j)) (cd Z ys)) (hn : L2.ixN ys.length j = some n) (h2 : xs F W cs ρ (cd Z (ys.set n x)) = r) :
    xs F W (.cons (.six (.var i) k e) cs) ρ (cd Z ys) = r := by
  refine xs_step (ρ' := ρ) (S' := cd Z (ys.set n x)) ?_ h2
  rw [x1_six, he]
  simp only [R.bind_ok, shut_d, ev_var _ _ h, hk]
  simp [setAt, hn]
theorem ixN_last (n : Nat) (h : 0 < n) : L2.ixN n (-1) = some (n - 1) := by
  unfold L2.ixN
  rw [if_neg (by omega), if_pos (by omega)]
  congr 1
  omega
theorem ixN_nat (j n : Nat) (h : j < n) : L2.ixN n (j : Int) = some j := by
  unfold L2.ixN
  rw [if_pos (by omega)]
  simp [h]
end
end In
/-! part P29 -/
set_option linter.all false
set_option maxRecDepth 100000
set_option maxHeartbeats 1000000
/-! Plain mathematics of clocks with shifts. -/
namespace P29
open PySem
abbrev Rw := Int × Int
def off (o : Int) (rs : List Rw) (m : Int) : Int := rs.foldl (fun f r => if r.1 ≤ m then r.2 else f) o
theorem off_cons (o : Int) (r : Rw) (rs : List Rw) (m : Int) : off o (r :: rs) m = off (if r.1 ≤ m then r.2 else o) rs m := rfl
/-- whens that ascend, all over lo -/
def Asc : Option Int → List Rw → Prop
  | _, [] => True
  | lo, r :: rs => (∀ l, lo = some l → l < r.1) ∧ Asc (some r.1) rs
theorem asc_lt : ∀ (rs : List Rw) (l : Int), Asc (some l) rs → ∀ r ∈ rs, l < r.1
  | [], _, _, _, h => by simp at h
  | r :: rs, l, h, x, hx => by
    have h1 := h.1 l rfl
    rcases List.mem_cons.mp hx with rfl | hx
    · exact h1
    · have := asc_lt rs r.1 h.2 x hx
      omega
theorem Asc.none {lo : Option Int} : ∀ {rs : List Rw}, Asc lo rs → Asc none rs
  | [], _ => trivial
  | _ :: _, h => ⟨fun l e => (by cases e), h.2⟩
theorem off_low : ∀ (rs : List Rw) (o m : Int), (∀ r ∈ rs, m < r.1) → off o rs m = o
  | [], _, _, _ => rfl
  | r :: rs, o, m, h => by
    have h1 := h r List.mem_cons_self
    rw [off_cons, if_neg (by omega)]
    exact off_low rs o m fun x hx => h x (List.mem_cons_of_mem _ hx)
def lok : Option Int → Int → Bool
  | none, _ => true
  | some l, m => decide (l ≤ m)
def nxt : List Rw → Int → Bool
  | [], _ => true
  | r :: _, m => decide (m < r.1)
/-- the minutes at which L is shown -/
def minL (L : Int) : Option Int → Int → List Rw → List Int
  | lo, o, [] => if lok lo (L - o) && nxt [] (L - o) then [L - o] else []
  | lo, o, r :: rs => (if lok lo (L - o) && nxt (r :: rs) (L - o) then [L - o] else []) ++ minL L (some r.1) r.2 rs
theorem minL_mem (L : Int) : ∀ (rs : List Rw) (lo : Option Int) (o m : Int), Asc lo rs → (m ∈ minL L lo o rs ↔ lok lo m = true ∧ m + off o rs m = L)
  | [], lo, o, m, _ => by
    unfold minL
    simp only [nxt, Bool.and_true]
    constructor
    · intro h
      split at h
      · rename_i c
        rw [List.mem_singleton.mp h]
        exact ⟨c, by show L - o + o = L; omega⟩
      · cases h
    · rintro ⟨h1, h2⟩
      have : m = L - o := by
        have : m + o = L := h2
        omega
      subst this
      rw [if_pos h1]
      exact List.mem_singleton_self _
  | r :: rs, lo, o, m, h => by
    have ih := minL_mem L rs (some r.1) r.2 m h.2
    have hlt := asc_lt rs r.1 h.2
    unfold minL
    rw [List.mem_append, ih, off_cons]
    by_cases c : r.1 ≤ m
    · rw [if_pos c]
      constructor
      · rintro (q | q)
        · split at q
          · rename_i c2
            have := List.mem_singleton.mp q
            simp only [nxt, Bool.and_eq_true, decide_eq_true_eq] at c2
            omega
          · cases q
        · refine ⟨?_, q.2⟩
          cases lo with
          | none => rfl
          | some l => have := h.1 l rfl; exact decide_eq_true (by omega)
      · rintro ⟨_, q2⟩
        exact .inr ⟨decide_eq_true c, q2⟩
    · rw [if_neg c, off_low rs o m fun x hx => by have := hlt x hx; omega]
      constructor
      · rintro (q | q)
        · split at q
          · rename_i c2
            have e := List.mem_singleton.mp q
            subst e
            exact ⟨(Bool.and_eq_true _ _ ▸ c2).1, by omega⟩
          · cases q
        · have := of_decide_eq_true q.1
          omega
      · rintro ⟨q1, q2⟩
        have : m = L - o := by omega
        subst this
        refine .inl ?_
        rw [if_pos (by rw [q1]; simp [nxt]; omega)]
        exact List.mem_singleton_self _
theorem minL_low (L : Int) (rs : List Rw) (lo : Int) (o m : Int) (h : Asc (some lo) rs) (hm : m ∈ minL L (some lo) o rs) : lo ≤ m := of_decide_eq_true ((minL_mem L rs (some lo) o m h).mp hm).1
theorem minL_asc (L : Int) : ∀ (rs : List Rw) (lo : Option Int) (o : Int), Asc lo rs → (minL L lo o rs).Pairwise (· < ·)
  | [], lo, o, _ => by
    unfold minL
    split <;> simp
  | r :: rs, lo, o, h => by
    have ih := minL_asc L rs (some r.1) r.2 h.2
    unfold minL
    refine List.pairwise_append.mpr ⟨by split <;> simp, ih, fun a ha b hb => ?_⟩
    have h1 := minL_low L rs r.1 r.2 b h.2 hb
    split at ha
    · rename_i c
      rw [List.mem_singleton.mp ha]
      simp only [nxt, Bool.and_eq_true, decide_eq_true_eq] at c
      omega
    · cases ha
/-- two rows that ascend and have the same members -/
theorem asc_ext : ∀ {a b : List Int}, a.Pairwise (· < ·) → b.Pairwise (· < ·) → (∀ x, x ∈ a ↔ x ∈ b) → a = b
  | [], [], _, _, _ => rfl
  | [], y :: _, _, _, h => by have := (h y).mpr List.mem_cons_self; cases this
  | x :: _, [], _, _, h => by have := (h x).mp List.mem_cons_self; cases this
  | x :: a, y :: b, ha, hb, h => by
    obtain ⟨a1, a2⟩ := List.pairwise_cons.mp ha
    obtain ⟨b1, b2⟩ := List.pairwise_cons.mp hb
    have hxy : x = y := by
      rcases List.mem_cons.mp ((h x).mp List.mem_cons_self) with e | e
      · exact e
      · rcases List.mem_cons.mp ((h y).mpr List.mem_cons_self) with e' | e'
        · exact e'.symm
        · have := a1 y e'; have := b1 x e; omega
    subst hxy
    congr 1
    refine asc_ext a2 b2 fun z => ⟨fun hz => ?_, fun hz => ?_⟩
    · rcases List.mem_cons.mp ((h z).mp (List.mem_cons_of_mem _ hz)) with e | e
      · have := a1 z hz; omega
      · exact e
    · rcases List.mem_cons.mp ((h z).mpr (List.mem_cons_of_mem _ hz)) with e | e
      · have := b1 z hz; omega
      · exact e
/-- all offsets -/
def offs (o : Int) (rs : List Rw) : List Int := o :: rs.map (·.2)
theorem off_mem : ∀ (rs : List Rw) (o m : Int), off o rs m ∈ offs o rs
  | [], o, _ => List.mem_singleton_self o
  | r :: rs, o, m => by
    rw [off_cons]
    have := off_mem rs (if r.1 ≤ m then r.2 else o) m
    unfold offs at this ⊢
    rcases List.mem_cons.mp this with e | e
    · rw [e]
      split
      · exact List.mem_cons_of_mem _ List.mem_cons_self
      · exact List.mem_cons_self
    · exact List.mem_cons_of_mem _ (List.mem_cons_of_mem _ e)
/-- what the law finds, from any row of tries that ascends and has all -/
theorem law_min {L o : Int} {rs : List Rw} (h : Asc none rs) {ts : List Int} (ha : ts.Pairwise (· < ·)) (hm : ∀ x, x ∈ ts ↔ ∃ f ∈ offs o rs, x = L - f) : ts.filter (fun m => decide (m + off o rs m = L)) = minL L none o rs := by
  refine asc_ext (ha.filter _) (minL_asc L rs none o h) fun x => ?_
  rw [List.mem_filter, hm, minL_mem L rs none o x h, decide_eq_true_eq]
  constructor
  · rintro ⟨_, q⟩
    exact ⟨rfl, q⟩
  · rintro ⟨_, q⟩
    exact ⟨⟨off o rs x, off_mem rs o x, by omega⟩, q⟩
/-! ### the begin of a day -/
def mn (b : Option Int) (m : Int) : Option Int := some (match b with | none => m | some x => if m < x then m else x)
def low (D o : Int) : Option Int → Int
  | none => D - o
  | some l => if D - o < l then l else D - o
def dawnL (D : Int) : Option Int → Option Int → Int → List Rw → Option Int
  | b, lo, o, [] => mn b (low D o lo)
  | b, lo, o, r :: rs => dawnL D (if nxt (r :: rs) (low D o lo) then mn b (low D o lo) else b) (some r.1) r.2 rs
/-- m is shown at the day or later -/
def Fit (D o : Int) (rs : List Rw) (lo : Option Int) (m : Int) : Prop := lok lo m = true ∧ D ≤ m + off o rs m
def Least (P : Int → Prop) (m : Int) : Prop := P m ∧ ∀ x, P x → m ≤ x
theorem Least.one {P : Int → Prop} {m m' : Int} (h : Least P m) (h' : Least P m') : m = m' := by
  have := h.2 m' h'.1; have := h'.2 m h.1; omega
def mnb : Option Int → Int → Int
  | none, x => x
  | some y, x => if x < y then x else y
theorem mn_eq (b : Option Int) (m : Int) : mn b m = some (mnb b m) := by
  cases b <;> rfl
theorem low_fit {D o : Int} {lo : Option Int} : lok lo (low D o lo) = true ∧ D ≤ low D o lo + o ∧ ∀ x, lok lo x = true → D ≤ x + o → low D o lo ≤ x := by
  cases lo with
  | none => exact ⟨rfl, by show D ≤ D - o + o; omega, fun x _ h => by show D - o ≤ x; omega⟩
  | some l =>
    unfold low
    by_cases c : D - o < l
    · simp only [if_pos c]
      exact ⟨decide_eq_true (Int.le_refl _), by omega, fun x h _ => of_decide_eq_true h⟩
    · simp only [if_neg c]
      exact ⟨decide_eq_true (by omega), by omega, fun x _ h => by omega⟩
theorem dawnL_cons (D : Int) (b lo : Option Int) (o : Int) (r : Rw) (rs : List Rw) : dawnL D b lo o (r :: rs) = dawnL D (if nxt (r :: rs) (low D o lo) then mn b (low D o lo) else b) (some r.1) r.2 rs := rfl
theorem dawnL_nil (D : Int) (b lo : Option Int) (o : Int) : dawnL D b lo o [] = mn b (low D o lo) := rfl
theorem dawnL_ok (D : Int) : ∀ (rs : List Rw) (b lo : Option Int) (o : Int), Asc lo rs → ∃ x, dawnL D b lo o rs = some (mnb b x) ∧ Least (Fit D o rs lo) x
  | [], b, lo, o, _ => by
    obtain ⟨h1, h2, h3⟩ := low_fit (D := D) (o := o) (lo := lo)
    exact ⟨low D o lo, by rw [dawnL_nil, mn_eq], ⟨h1, h2⟩, fun x hx => h3 x hx.1 hx.2⟩
  | r :: rs, b, lo, o, h => by
    obtain ⟨h1, h2, h3⟩ := low_fit (D := D) (o := o) (lo := lo)
    have hlt := asc_lt rs r.1 h.2
    have offl : ∀ x, x < r.1 → off o (r :: rs) x = o := fun x hx => by
      rw [off_cons, if_neg (by omega)]
      exact off_low rs o x fun y hy => by have := hlt y hy; omega
    have offh : ∀ x, r.1 ≤ x → off o (r :: rs) x = off r.2 rs x := fun x hx => by
      rw [off_cons, if_pos hx]
    obtain ⟨x', e, hx1, hx2⟩ := dawnL_ok D rs (if nxt (r :: rs) (low D o lo) then mn b (low D o lo) else b) (some r.1) r.2 h.2
    have hge : r.1 ≤ x' := of_decide_eq_true hx1.1
    rw [dawnL_cons, e]
    by_cases c : low D o lo < r.1
    · have hn : nxt (r :: rs) (low D o lo) = true := decide_eq_true c
      rw [hn]
      refine ⟨low D o lo, ?_, ⟨h1, by rw [offl _ c]; exact h2⟩, fun x hx => ?_⟩
      · simp only [if_true, mn_eq]
        congr 1
        cases b with
        | none =>
          show (if x' < low D o lo then x' else low D o lo) = low D o lo
          rw [if_neg (by omega)]
        | some y =>
          show (if x' < (if low D o lo < y then low D o lo else y) then x' else (if low D o lo < y then low D o lo else y)) = (if low D o lo < y then low D o lo else y)
          by_cases q : low D o lo < y
          · rw [if_pos q, if_neg (by omega)]
          · rw [if_neg q, if_neg (by omega)]
      · by_cases cx : x < r.1
        · have := hx.2
          rw [offl x cx] at this
          exact h3 x hx.1 this
        · omega
    · have hn : nxt (r :: rs) (low D o lo) = false := decide_eq_false c
      rw [hn]
      refine ⟨x', rfl, ⟨?_, by rw [offh _ hge]; exact hx1.2⟩, fun x hx => ?_⟩
      · cases lo with
        | none => rfl
        | some l => have := h.1 l rfl; exact decide_eq_true (by omega)
      · by_cases cx : x < r.1
        · have h5 := hx.2
          rw [offl x cx] at h5
          have := h3 x hx.1 h5
          omega
        · refine hx2 x ⟨decide_eq_true (by omega), ?_⟩
          have h5 := hx.2
          rwa [offh x (by omega)] at h5
theorem off_same : ∀ (rs : List Rw) (o x : Int), (∀ r ∈ rs, r.1 ≠ x) → off o rs x = off o rs (x - 1)
  | [], _, _, _ => rfl
  | r :: rs, o, x, h => by
    have h1 := h r List.mem_cons_self
    rw [off_cons, off_cons]
    have : (if r.1 ≤ x then r.2 else o) = (if r.1 ≤ x - 1 then r.2 else o) := by
      by_cases c : r.1 ≤ x
      · rw [if_pos c, if_pos (by omega)]
      · rw [if_neg c, if_neg (by omega)]
    rw [this]
    exact off_same rs _ x fun y hy => h y (List.mem_cons_of_mem _ hy)
/-- the least one is among the law's tries -/
theorem least_try {D o : Int} {rs : List Rw} {x : Int} (h : Least (Fit D o rs none) x) : (∃ f ∈ offs o rs, x = D - f) ∨ ∃ r ∈ rs, x = r.1 := by
  by_cases c : ∃ r ∈ rs, x = r.1
  · exact .inr c
  · have e := off_same rs o x fun r hr q => c ⟨r, hr, q.symm⟩
    refine .inl ⟨off o rs x, off_mem rs o x, ?_⟩
    have h1 := h.1.2
    have h2 : ¬ D ≤ x - 1 + off o rs (x - 1) := fun q => by
      have := h.2 (x - 1) ⟨rfl, q⟩
      omega
    rw [← e] at h2
    omega
/-! ### rows of like counts -/
abbrev Sp := Int × Int × Int
def stepP (found : List Sp) (x c : Int) : List Sp := match found.getLast? with
  | some l => if l.2.2 = c then found.dropLast ++ [(l.1, x + 1, c)] else found ++ [(x, x + 1, c)]
  | none => found ++ [(x, x + 1, c)]
def stepL (found : List Sp) (x c : Int) : List Sp := if c = 1 then found else match found.getLast? with
  | some l => if l.2.1 = x ∧ l.2.2 = c then found.dropLast ++ [(l.1, x + 1, c)] else found ++ [(x, x + 1, c)]
  | none => found ++ [(x, x + 1, c)]
def runP (g : Int → Int) (b : Int) : Nat → List Sp
  | 0 => []
  | n + 1 => stepP (runP g b n) (b + n) (g (b + n))
def runL (g : Int → Int) (b : Int) : Nat → List Sp
  | 0 => []
  | n + 1 => stepL (runL g b n) (b + n) (g (b + n))
def odd1 (s : Sp) : Bool := decide (s.2.2 ≠ 1)
theorem runP_form (g : Int → Int) (b : Int) : ∀ n : Nat, ∃ (Q : List Sp) (a c : Int), runP g b (n + 1) = Q ++ [(a, b + (n : Int) + 1, c)] ∧ a < b + n + 1 ∧ ∀ q ∈ Q, q.2.1 ≤ a
  | 0 => ⟨[], b + (0 : Nat), g (b + (0 : Nat)), by simp [runP, stepP], by omega, by simp⟩
  | n + 1 => by
    obtain ⟨Q, a, c, e, h1, h2⟩ := runP_form g b n
    have e' : runP g b (n + 1 + 1) = stepP (Q ++ [(a, b + (n : Int) + 1, c)]) (b + (n + 1 : Nat)) (g (b + (n + 1 : Nat))) := by
      rw [← e]; rfl
    rw [e']
    unfold stepP
    rw [List.getLast?_concat, List.dropLast_concat]
    simp only
    split
    · rename_i hc
      exact ⟨Q, a, g (b + (n + 1 : Nat)), rfl, by omega, h2⟩
    · refine ⟨Q ++ [(a, b + (n : Int) + 1, c)], b + (n + 1 : Nat), g (b + (n + 1 : Nat)), rfl, by omega, fun q hq => ?_⟩
      rcases List.mem_append.mp hq with hq | hq
      · have := h2 q hq; omega
      · rw [List.mem_singleton.mp hq]; show b + (n : Int) + 1 ≤ _; omega
theorem runL_eq (g : Int → Int) (b : Int) : ∀ n : Nat, runL g b n = (runP g b n).filter odd1
  | 0 => rfl
  | 1 => by
    show stepL [] _ _ = (stepP [] _ _).filter odd1
    generalize g (b + ((0 : Nat) : Int)) = d
    generalize b + ((0 : Nat) : Int) = x
    unfold stepL stepP
    by_cases c : d = 1
    · rw [if_pos c]; simp [odd1, c]
    · rw [if_neg c]; simp [odd1, c]
  | n + 2 => by
    have ih := runL_eq g b (n + 1)
    obtain ⟨Q, a, c, e, h1, h2⟩ := runP_form g b n
    show stepL (runL g b (n + 1)) _ _ = (stepP (runP g b (n + 1)) _ _).filter odd1
    rw [ih, e]
    generalize g (b + (n + 1 : Nat)) = d
    have hx : b + (n : Int) + 1 = b + (n + 1 : Nat) := by omega
    rw [hx]
    rw [hx] at h1
    clear e ih hx
    generalize b + ((n + 1 : Nat) : Int) = x at *
    unfold stepP
    rw [List.getLast?_concat, List.dropLast_concat]
    simp only
    rw [List.filter_append]
    have hQl : ∀ l, (Q.filter odd1).getLast? = some l → l.2.1 ≠ x := fun l hl => by
      have := h2 l (List.mem_filter.mp (List.mem_of_getLast? hl)).1
      omega
    by_cases c1 : c = 1
    · have e1 : [(a, x, c)].filter odd1 = [] := by simp [odd1, c1]
      rw [e1, List.append_nil]
      by_cases d1 : d = 1
      · unfold stepL
        rw [if_pos d1, if_pos (by rw [c1, d1]), List.filter_append]
        simp [odd1, d1]
      · unfold stepL
        rw [if_neg d1, if_neg (by rw [c1]; exact fun q => d1 q.symm), List.filter_append, List.filter_append, e1, List.append_nil]
        have e2 : [(x, x + 1, d)].filter odd1 = [(x, x + 1, d)] := by simp [odd1, d1]
        rw [e2]
        split
        · rename_i l hl
          rw [if_neg fun q => hQl l hl q.1]
        · rfl
    · have e1 : [(a, x, c)].filter odd1 = [(a, x, c)] := by simp [odd1, c1]
      rw [e1]
      unfold stepL
      rw [List.getLast?_concat, List.dropLast_concat]
      by_cases d1 : d = 1
      · rw [if_pos d1, if_neg (by rw [d1]; exact c1), List.filter_append, List.filter_append, e1]
        simp [odd1, d1]
      · rw [if_neg d1]
        simp only
        by_cases cd : c = d
        · rw [if_pos (by simp [cd]), if_pos cd, List.filter_append]
          simp [odd1, d1]
        · rw [if_neg (by simp [cd]), if_neg cd, List.filter_append, List.filter_append, e1]
          simp [odd1, d1]
end P29
/-! part M29a -/
set_option linter.all false
set_option maxRecDepth 100000
set_option maxHeartbeats 1000000
/-! Numbers, names, towns. -/
namespace M29
open PySem In Tx P29
def isInt : PyData → Bool
  | .int _ => true
  | _ => false
theorem f0 (k : Nat) (x : PyData) (S : Sto) : callAt fns W (k + 1) 0 [.d x] S = .ok (.bool (isInt x)) S := by
  rw [r_0]
  cases x <;> simp [b_0, In.isType, isInt, In.truthy]
def inR (lo hi : Int) : PyData → Bool
  | .int i => decide (lo ≤ i) && decide (i ≤ hi)
  | _ => false
theorem f1 (k : Nat) (x : PyData) (lo hi : Int) (S : Sto) : callAt fns W (k + 2) 1 [.d x, .d (.int lo), .d (.int hi)] S = .ok (.bool (inR lo hi x)) S := by
  rw [r_1]
  have h := f0 k x S
  cases x with
  | int i =>
    by_cases c : lo ≤ i <;> simp [b_1, h, isInt, inR, c]
  | _ => simp [b_1, h, isInt, inR]
theorem nt (x : PyData) : In.isType x "tuple" = some (match x with | .tuple _ => true | _ => false) := by cases x <;> rfl
theorem nstr (x : PyData) : In.isType x "str" = some (match x with | .str _ => true | _ => false) := by cases x <;> rfl
abbrev iL (ts : List Int) : List PyData := ts.map .int
abbrev nL (ns : List Nat) : List PyData := ns.map fun (n : Nat) => .int (n : Int)
@[simp] theorem ix0 (x : PyData) (xs : List PyData) : index (.tuple (x :: xs)) (.int 0) = some x := (index_nat (i := 0) (by rfl)).2
@[simp] theorem ix1 (x y : PyData) (xs : List PyData) : index (.tuple (x :: y :: xs)) (.int 1) = some y := (index_nat (i := 1) (by rfl)).2
@[simp] theorem ix2 (x y z : PyData) (xs : List PyData) : index (.tuple (x :: y :: z :: xs)) (.int 2) = some z := (index_nat (i := 2) (by rfl)).2
@[simp] theorem lx0 (x : PyData) (xs : List PyData) : index (.list (x :: xs)) (.int 0) = some x := (index_nat (i := 0) (by rfl)).1
/-! ### names -/
def leS (a b : Str) : Bool := !decide (b.cps.toList < a.cps.toList)
@[simp] theorem cmp_leS (a b : Str) : cmpop .le (.str a) (.str b) = some (leS a b) := rfl
def letterS (s : Str) : Bool := (leS "a" s && leS s "z") || (leS "A" s && leS s "Z")
theorem f2 (k : Nat) (s : Str) (S : Sto) : callAt fns W (k + 1) 2 [.d (.str s)] S = .ok (.bool (letterS s)) S := by
  rw [r_2]
  unfold letterS
  cases h1 : leS "a" s <;> cases h2 : leS s "z" <;> cases h3 : leS "A" s <;> cases h4 : leS s "Z" <;> simp [b_2, h1, h2, h3, h4]
def chars (s : Str) : List Str := s.cps.toList.map fun c => ⟨#[c]⟩
def signS (s : Str) : Bool := letterS s || ((leS "0" s && leS s "9") || PyData.eqv (.str s) (.str "_"))
def nameOk (s : Str) : Bool := match chars s with
  | [] => false
  | c :: r => (decide (s.length ≤ 12) && letterS c) && (c :: r).all signS
def shortS (s : Str) : Prop := s.length ≤ 100 ∧ ∀ c ∈ chars s, eqOk (.str c) = true
def short : PyData → Prop
  | .str s => shortS s
  | _ => True
def isNm : PyData → Bool
  | .str s => nameOk s
  | _ => false
theorem eqOk_u : eqOk (.str "_") = true := by decide +kernel
theorem sign_ev (k : Nat) (c : Str) (hc : eqOk (.str c) = true) (u : Option Vl) (S : Sto) : ev (callAt fns W (k + 1)) (.or (.call 2 (.cons (.var 1) .nil) []) (.or (.ch .le .le (.cst (.str "0")) (.var 1) (.cst (.str "9"))) (.cmp .eq (.var 1) (.cst (.str "_"))))) [u, some (.d (.str c))] S = .ok (.d (.bool (signS c))) S := by
  have e : cmpop .eq (.str c) (.str "_") = some (PyData.eqv (.str c) (.str "_")) := by
    show (if (eqOk _ && eqOk _) = true then _ else none) = _
    rw [hc, eqOk_u]; rfl
  unfold signS
  cases h1 : letterS c with
  | true => simp [f2, h1]
  | false =>
    cases h2 : leS "0" c with
    | false => simp [f2, h1, h2, e]
    | true => cases h3 : leS c "9" <;> simp [f2, h1, h2, h3, e]
theorem f3 (k : Nat) (x : PyData) (hx : short x) (S : Sto) : callAt fns W (k + 2) 3 [.d x] S = .ok (.bool (isNm x)) S := by
  rw [r_3, b_3]
  cases x with
  | str s =>
    obtain ⟨h1, h2⟩ := hx
    have hlen : s.length = s.cps.toList.length := by simp [Str.length]
    have hf : fits s.length = true := decide_eq_true (by omega)
    have el : u1 .len (.str s) = some (.int s.length) := by
      show (if fits s.length = true then _ else none) = _
      rw [if_pos hf]
    show _ = R.ok (PyData.bool (nameOk s)) S
    unfold nameOk
    unfold chars at h2 ⊢
    cases hcs : s.cps.toList with
    | nil =>
      have h0 : s.length = 0 := by rw [hlen, hcs]; rfl
      rw [h0] at el
      refine (q_thenRet (S1 := S) (S2 := S) ?_ (ev_cst _)).trans (by simp)
      unfold tst
      simp [nstr, el]
    | cons c r =>
      rw [hcs] at h2
      have hl : s.length = r.length + 1 := by rw [hlen, hcs]; rfl
      have ei : index (.str s) (.int 0) = some (.str ⟨#[c]⟩) := by
        show (if fits s.length = true then (L2.atI s.cps.toList 0).map _ else none) = _
        have : L2.atI (c :: r) 0 = some c := by simp [L2.atI, L2.ixN]
        rw [if_pos hf, hcs, this]
        rfl
      have t1 : tst (callAt fns W (k + 1)) (.or (.not (.isi (.var 0) "str")) (.or (.not (.ch .le .le (.cst (.int 1)) (.u1 .len (.var 0)) (.cst (.int 12)))) (.not (.call 2 (.cons (.ix (.var 0) (.cst (.int 0))) .nil) [])))) [some (.d (.str s)), none] S = .ok (!(decide (s.length ≤ 12) && letterS ⟨#[c]⟩)) S := by
        rw [tst_or (x := false) (S1 := S) (by unfold tst; simp [nstr])]
        have c1 : (1 : Int) ≤ (s.length : Int) := by omega
        by_cases c2 : s.length ≤ 12
        · have c2' : (s.length : Int) ≤ 12 := by omega
          rw [tst_or (x := false) (S1 := S) (by unfold tst; simp [el, c1, c2'])]
          have := tst_not (tst_b (ev_call1 (ev_ix_of (ev_var (F := callAt fns W (k + 1)) (ρ := [some (.d (.str s)), none]) (S := S) 0 _ rfl) (ev_cst (.int 0)) ei) (f2 k ⟨#[c]⟩ S)))
          simp only [Bool.false_eq_true, if_false]
          rw [this, decide_eq_true c2]
          rfl
        · have c2' : ¬ (s.length : Int) ≤ 12 := by omega
          rw [tst_or (x := true) (S1 := S) (by unfold tst; simp [el, c1, c2'])]
          rw [decide_eq_false c2]
          rfl
      simp only [List.map_cons]
      cases hd : decide (s.length ≤ 12) && letterS ⟨#[c]⟩ with
      | false =>
        rw [hd] at t1
        exact (q_thenRet t1 (ev_cst _)).trans (by simp)
      | true =>
        rw [hd] at t1
        refine q_skip t1 ?_
        have lc := ev_lc0 (F := callAt fns W (k + 1)) (S := S) (ws := [1]) (t := .nm 1) (it := .e (.var 0)) (e := .or (.call 2 (.cons (.var 1) .nil) []) (.or (.ch .le .le (.cst (.str "0")) (.var 1) (.cst (.str "9"))) (.cmp .eq (.var 1) (.cst (.str "_"))))) (ρ := [some (.d (.str s)), none]) (gs := []) (l := (c :: r).map fun c => (⟨#[c]⟩ : Str)) .str (fun c => .bool (signS c)) (by rw [evI_e, ev_var 0 _ rfl]; simp [hcs]) (by simp [cap]; omega) fun a ha => ⟨[some (.d (.str s)), some (.d (.str a))], rfl, by rw [sign_ev k a (h2 a ha)]; rfl⟩
        refine (q_ret (.bool (((c :: r).map fun c => (⟨#[c]⟩ : Str)).all signS)) (ev_u1_of lc ?_)).trans (by simp)
        have := u1_all (((c :: r).map fun c => (⟨#[c]⟩ : Str)).map signS)
        rw [List.map_map] at this
        rw [show (((c :: r).map fun c => (⟨#[c]⟩ : Str)).map fun c => PyData.bool (signS c)) = ((c :: r).map fun c => (⟨#[c]⟩ : Str)).map (PyData.bool ∘ signS) from rfl, this, List.all_map]
        rfl
  | _ => exact (q_thenRet (S1 := S) (S2 := S) (by unfold tst; simp [nstr]) (ev_cst _)).trans (by simp [isNm])
end M29
/-! part M29b -/
set_option linter.all false
set_option maxRecDepth 100000
set_option maxHeartbeats 1000000
/-! Towns. -/
namespace M29
open PySem In Tx P29
def isRw : PyData → Bool
  | .tuple [a, b] => inR (-2000000) 2000000 a && inR (-1440) 1440 b
  | _ => false
def whn : PyData → Int
  | .tuple (.int i :: _) => i
  | _ => 0
def prsD : List PyData → List (PyData × PyData)
  | x :: y :: r => (x, y) :: prsD (y :: r)
  | _ => []
def prD (p : PyData × PyData) : PyData := .tuple [p.1, p.2]
theorem zip_prsD : ∀ xs : List PyData, zipL xs.dropLast xs.tail = (prsD xs).map prD
  | [] => rfl
  | [_] => rfl
  | a :: b :: r => by
    have ih := zip_prsD (b :: r)
    simp only [List.dropLast_cons₂, List.tail_cons, zipL, prsD, List.map_cons] at ih ⊢
    exact congrArg _ ih
theorem prsD_mem : ∀ (xs : List PyData) (p : PyData × PyData), p ∈ prsD xs → p.1 ∈ xs ∧ p.2 ∈ xs
  | [], _, h => by cases h
  | [_], _, h => by cases h
  | a :: b :: r, p, h => by
    rcases List.mem_cons.mp h with rfl | h
    · exact ⟨List.mem_cons_self, List.mem_cons_of_mem _ List.mem_cons_self⟩
    · obtain ⟨h1, h2⟩ := prsD_mem (b :: r) p h
      exact ⟨List.mem_cons_of_mem _ h1, List.mem_cons_of_mem _ h2⟩
theorem prsD_len : ∀ xs : List PyData, (prsD xs).length ≤ xs.length
  | [] => Nat.le_refl _
  | [_] => Nat.zero_le _
  | _ :: b :: r => by
    have := prsD_len (b :: r)
    simp only [prsD, List.length_cons] at *
    omega
def ascB (rows : List PyData) : Bool := (prsD rows).all fun p => decide (whn p.1 < whn p.2)
def isTn : PyData → Bool
  | .tuple [n, a, .tuple rows] => isNm n && (inR (-1440) 1440 a && (decide (rows.length ≤ 8) && (rows.all isRw && ascB rows)))
  | _ => false
def shortT : PyData → Prop
  | .tuple (n :: _) => short n
  | _ => True
theorem isRw_form {x : PyData} (h : isRw x = true) : ∃ i j : Int, x = .tuple [.int i, .int j] ∧ -2000000 ≤ i ∧ i ≤ 2000000 ∧ -1440 ≤ j ∧ j ≤ 1440 := by
  unfold isRw at h
  split at h
  · rename_i a b
    cases a with
    | int i =>
      cases b with
      | int j =>
        simp only [inR, Bool.and_eq_true, decide_eq_true_eq] at h
        exact ⟨i, j, rfl, h.1.1, h.1.2, h.2.1, h.2.2⟩
      | _ => simp [inR] at h
    | _ => simp [inR] at h
  · cases h
theorem row4 (k : Nat) (x T : PyData) (v w : Option Vl) (S : Sto) : xs (callAt fns W (k + 2)) W (.cons (.ite (.or (.not (.isi (.var 1) "tuple")) (.or (.cmp .ne (.u1 .len (.var 1)) (.cst (.int 2))) (.not (.call 1 (.cons (.ix (.var 1) (.cst (.int 0))) (.cons (.u1 .neg (.cst (.int 2000000))) (.cons (.cst (.int 2000000)) .nil))) [])))) (.cons (.ret (.cst (.bool false))) .nil) .nil) (.cons (.ite (.not (.call 1 (.cons (.ix (.var 1) (.cst (.int 1))) (.cons (.u1 .neg (.cst (.int 1440))) (.cons (.cst (.int 1440)) .nil))) [])) (.cons (.ret (.cst (.bool false))) .nil) .nil) .nil)) [some (.d T), some (.d x), v, w] S = if isRw x then .ok (.nx [some (.d T), some (.d x), v, w]) S else .ok (.rt (.bool false)) S := by
  cases x with
  | tuple xs =>
    match xs with
    | [] => simp [nt, isRw]
    | [_] => simp [nt, isRw]
    | [a, c] =>
      by_cases h : inR (-2000000) 2000000 a = true
      · by_cases h2 : inR (-1440) 1440 c = true <;> simp [nt, isRw, f1, h, h2]
      · simp [nt, isRw, f1, h]
    | a :: b :: c :: r =>
      have : ¬ ((r.length : Int) + 1 + 1 + 1 = 2) := by omega
      simp [nt, isRw, this]
  | _ => simp [nt, isRw]
theorem f4 (k : Nat) (x : PyData) (hx : shortT x) (S : Sto) : callAt fns W (k + 3) 4 [.d x] S = .ok (.bool (isTn x)) S := by
  rw [r_4, b_4]
  have bad : ∀ y : PyData, isTn y = false → tst (callAt fns W (k + 2)) (.or (.not (.isi (.var 0) "tuple")) (.or (.cmp .ne (.u1 .len (.var 0)) (.cst (.int 3))) (.not (.call 3 (.cons (.ix (.var 0) (.cst (.int 0))) .nil) [])))) [some (.d y), none, none, none] S = .ok true S → fin S.length (xs (callAt fns W (k + 2)) W (.cons (.ite (.or (.not (.isi (.var 0) "tuple")) (.or (.cmp .ne (.u1 .len (.var 0)) (.cst (.int 3))) (.not (.call 3 (.cons (.ix (.var 0) (.cst (.int 0))) .nil) [])))) (.cons (.ret (.cst (.bool false))) .nil) .nil) .nil) [some (.d y), none, none, none] S) = .ok (.bool (isTn y)) S := by
    intro y hy ht
    rw [hy]
    exact (q_thenRet ht (ev_cst _)).trans (by simp)
  clear bad
  cases x with
  | tuple xs =>
    match xs with
    | [] => exact (q_thenRet (S1 := S) (S2 := S) (by unfold tst; simp [nt]) (ev_cst _)).trans (by simp [isTn])
    | [_] => exact (q_thenRet (S1 := S) (S2 := S) (by unfold tst; simp [nt]) (ev_cst _)).trans (by simp [isTn])
    | [_, _] => exact (q_thenRet (S1 := S) (S2 := S) (by unfold tst; simp [nt]) (ev_cst _)).trans (by simp [isTn])
    | a :: b :: c :: d :: r =>
      have : ¬ ((r.length : Int) + 1 + 1 + 1 + 1 = 3) := by omega
      exact (q_thenRet (S1 := S) (S2 := S) (by unfold tst; simp [nt, this]) (ev_cst _)).trans (by simp [isTn])
    | [n, a, rows] =>
      have t1 : tst (callAt fns W (k + 2)) (.or (.not (.isi (.var 0) "tuple")) (.or (.cmp .ne (.u1 .len (.var 0)) (.cst (.int 3))) (.not (.call 3 (.cons (.ix (.var 0) (.cst (.int 0))) .nil) [])))) [some (.d (.tuple [n, a, rows])), none, none, none] S = .ok (!isNm n) S := by
        rw [tst_or (x := false) (S1 := S) (by unfold tst; simp [nt]), tst_or (x := false) (S1 := S) (by unfold tst; simp)]
        exact tst_not (tst_b (ev_call1 (ev_ix_of (ev_var _ _ rfl) (ev_cst _) (ix0 _ _)) (f3 k n hx S)))
      cases hn : isNm n with
      | false =>
        rw [hn] at t1
        have e : isTn (.tuple [n, a, rows]) = false := by
          cases rows <;> simp [isTn, hn]
        rw [e]
        exact (q_thenRet t1 (ev_cst _)).trans (by simp)
      | true =>
        rw [hn] at t1
        refine q_skip t1 ?_
        have t2a : tst (callAt fns W (k + 2)) (.not (.call 1 (.cons (.ix (.var 0) (.cst (.int 1))) (.cons (.u1 .neg (.cst (.int 1440))) (.cons (.cst (.int 1440)) .nil))) [])) [some (.d (.tuple [n, a, rows])), none, none, none] S = .ok (!inR (-1440) 1440 a) S :=
          tst_not (tst_b (ev_call3 (ev_ix_of (ev_var _ _ rfl) (ev_cst _) (ix1 _ _ _)) (ev_u1_of (ev_cst _) (u1_neg 1440)) (ev_cst _) (f1 k a (-1440) 1440 S)))
        cases ha : inR (-1440) 1440 a with
        | false =>
          rw [ha] at t2a
          have e : isTn (.tuple [n, a, rows]) = false := by
            cases rows <;> simp [isTn, ha]
          rw [e]
          exact (q_thenRet ((tst_or t2a).trans rfl) (ev_cst _)).trans (by simp)
        | true =>
          rw [ha] at t2a
          cases rows with
          | tuple rs =>
            have t2 : tst (callAt fns W (k + 2)) (.or (.not (.call 1 (.cons (.ix (.var 0) (.cst (.int 1))) (.cons (.u1 .neg (.cst (.int 1440))) (.cons (.cst (.int 1440)) .nil))) [])) (.or (.not (.isi (.ix (.var 0) (.cst (.int 2))) "tuple")) (.cmp .gt (.u1 .len (.ix (.var 0) (.cst (.int 2)))) (.cst (.int 8))))) [some (.d (.tuple [n, a, .tuple rs])), none, none, none] S = .ok (!decide (rs.length ≤ 8)) S := by
              rw [tst_or t2a]
              simp only [Bool.not_true, Bool.false_eq_true, if_false]
              rw [tst_or (x := false) (S1 := S) (by unfold tst; simp [nt])]
              simp only [Bool.false_eq_true, if_false]
              rw [tst_b (ev_cmp_of (ev_u1_of (ev_ix_of (ev_var _ _ rfl) (ev_cst _) (ix2 _ _ _ _)) (u1_lent _)) (ev_cst _) (cmp_gt _ _))]
              congr 1
              rw [Bool.eq_iff_iff]
              simp
              omega
            have e0 : isTn (.tuple [n, a, .tuple rs]) = (decide (rs.length ≤ 8) && (rs.all isRw && ascB rs)) := by simp [isTn, hn, ha]
            rw [e0]
            by_cases hl : rs.length ≤ 8
            · rw [decide_eq_true hl] at t2 ⊢
              refine q_skip t2 ?_
              refine q_find (gs := []) (S1 := S) (fun x => x) rs (fun r => !isRw r) (fun _ => .val (.bool false)) (fun ρ => ∃ u, ρ = [some (.d (.tuple [n, a, .tuple rs])), u, none, none]) (by rw [evI_e, ev_ix_of (ev_var 0 _ rfl) (ev_cst _) (ix2 _ _ _ _)]; simp) ⟨none, rfl⟩ ?_ ?_ ?_
              · rintro r hr ρ ⟨u, rfl⟩
                refine ⟨[some (.d (.tuple [n, a, .tuple rs])), some (.d r), none, none], rfl, fun q => ?_, fun q => ⟨_, ?_, some (.d r), rfl⟩⟩
                · have : isRw r = false := by simpa using q
                  rw [row4, this]; rfl
                · have : isRw r = true := by simpa using q
                  rw [row4, this]; rfl
              · intro r hr
                have h1 : isRw r = false := by simpa using List.find?_some hr
                have h2 : rs.all isRw = false := by
                  rw [List.all_eq_false]
                  exact ⟨r, List.mem_of_find?_eq_some hr, by rw [h1]; decide⟩
                rw [h2]
                simp [Out.r]
              · rintro hn2 ρ ⟨u, rfl⟩
                have h2 : rs.all isRw = true := by
                  rw [List.all_eq_true]
                  intro r hr
                  have := List.find?_eq_none.mp hn2 r hr
                  simpa using this
                rw [h2]
                have lc := ev_lc0 (F := callAt fns W (k + 2)) (S := S) (ws := [2, 3]) (t := .tp (.cons (.nm 2) (.cons (.nm 3) .nil))) (it := .zip (.sl (.ix (.var 0) (.cst (.int 2))) .nil (.cons (.u1 .neg (.cst (.int 1))) .nil)) (.sl (.ix (.var 0) (.cst (.int 2))) (.cons (.cst (.int 1)) .nil) .nil)) (e := .cmp .lt (.ix (.var 2) (.cst (.int 0))) (.ix (.var 3) (.cst (.int 0)))) (ρ := [some (.d (.tuple [n, a, .tuple rs])), u, none, none]) (gs := []) (l := prsD rs) prD (fun p => .bool (decide (whn p.1 < whn p.2))) (by simp [slice_initT, slice_tailT, zip_prsD]) (by have := prsD_len rs; simp only [cap]; omega) fun p hp => ⟨[some (.d (.tuple [n, a, .tuple rs])), u, some (.d p.1), some (.d p.2)], by simp [wipe, prD], by
                  obtain ⟨h3, h4⟩ := prsD_mem rs p hp
                  obtain ⟨i, j, e1, _⟩ := isRw_form (List.all_eq_true.mp h2 _ h3)
                  obtain ⟨i', j', e2, _⟩ := isRw_form (List.all_eq_true.mp h2 _ h4)
                  rw [e1, e2]
                  rw [ev_cmp_of (ev_ix_of (ev_var 2 _ rfl) (ev_cst _) (ix0 _ _)) (ev_ix_of (ev_var 3 _ rfl) (ev_cst _) (ix0 _ _)) (cmp_lt _ _)]
                  rfl⟩
                refine (q_ret (.bool (ascB rs)) (ev_u1_of lc ?_)).trans (by simp)
                have := u1_all ((prsD rs).map fun p => decide (whn p.1 < whn p.2))
                rw [List.map_map] at this
                rw [show ((prsD rs).map fun p => PyData.bool (decide (whn p.1 < whn p.2))) = (prsD rs).map (PyData.bool ∘ fun p => decide (whn p.1 < whn p.2)) from rfl, this, List.all_map]
                rfl
            · rw [decide_eq_false hl] at t2 ⊢
              exact (q_thenRet t2 (ev_cst _)).trans (by simp)
          | _ =>
            refine (q_thenRet (S1 := S) (S2 := S) ((tst_or t2a).trans ?_) (ev_cst _)).trans (by simp [isTn])
            simp only [Bool.not_true, Bool.false_eq_true, if_false]
            rw [tst_or (x := true) (S1 := S) (by unfold tst; simp [nt])]
            rfl
  | _ => exact (q_thenRet (S1 := S) (S2 := S) (by unfold tst; simp [nt]) (ev_cst _)).trans (by simp [isTn])
end M29
/-! part M29c -/
set_option linter.all false
set_option maxRecDepth 100000
set_option maxHeartbeats 1000000
/-! Offsets, what is shown. -/
namespace M29
open PySem In Tx P29
structure Tn where
  nm : Str
  o : Int
  rs : List Rw
def rw_ (r : Rw) : PyData := .tuple [.int r.1, .int r.2]
def tw (t : Tn) : PyData := .tuple [.str t.nm, .int t.o, .tuple (t.rs.map rw_)]
structure OkT (t : Tn) : Prop where
  sh : shortS t.nm
  nm : nameOk t.nm = true
  o1 : -1440 ≤ t.o
  o2 : t.o ≤ 1440
  len : t.rs.length ≤ 8
  rws : ∀ r ∈ t.rs, (-2000000 ≤ r.1 ∧ r.1 ≤ 2000000) ∧ -1440 ≤ r.2 ∧ r.2 ≤ 1440
  asc : Asc none t.rs
abbrev tof (t : Tn) (m : Int) : Int := off t.o t.rs m
theorem ascB_ok : ∀ (rs : List Rw) (lo : Option Int), Asc lo rs → ascB (rs.map rw_) = true
  | [], _, _ => rfl
  | [_], _, _ => rfl
  | a :: b :: r, lo, h => by
    have ih := ascB_ok (b :: r) (some a.1) h.2
    have h1 : a.1 < b.1 := h.2.1 a.1 rfl
    unfold ascB at ih ⊢
    simp only [List.map_cons, prsD, List.all_cons] at ih ⊢
    rw [ih, Bool.and_true]
    exact decide_eq_true h1
theorem isTn_ok {t : Tn} (h : OkT t) : isTn (tw t) = true := by
  have h1 : inR (-1440) 1440 (.int t.o) = true := by simp [inR, h.o1, h.o2]
  have h2 : (t.rs.map rw_).all isRw = true := by
    rw [List.all_map, List.all_eq_true]
    intro r hr
    obtain ⟨⟨a, b⟩, c, d⟩ := h.rws r hr
    simp [isRw, rw_, inR, a, b, c, d]
  have h3 := ascB_ok t.rs none h.asc
  have h4 := h.len
  simp only [isTn, tw, isNm, h.nm, h1, h2, h3, List.length_map, h4, decide_true, Bool.and_self]
theorem short_tw {t : Tn} (h : OkT t) : shortT (tw t) := h.sh
theorem f4g (k : Nat) {t : Tn} (h : OkT t) (S : Sto) : callAt fns W (k + 3) 4 [.d (tw t)] S = .ok (.bool true) S := by rw [f4 k _ (short_tw h), isTn_ok h]
theorem f5g (k : Nat) {t : Tn} (h : OkT t) (r : Vl) (S : Sto) : callAt fns W (k + 4) 5 [.d (tw t), r] S = .ok .none S := by
  rw [r_5]
  simp [b_5, f4g k h]
theorem f5b (k : Nat) {x r : PyData} (hs : shortT x) (h : isTn x = false) (S : Sto) : callAt fns W (k + 4) 5 [.d x, .d r] S = .ex "ArgumentError" r S := by
  rw [r_5]
  simp [b_5, f4 k x hs, h]
theorem f6 (k : Nat) (x r : PyData) (S : Sto) : callAt fns W (k + 3) 6 [.d x, .d r] S = if inR (-2000000) 2000000 x then .ok .none S else .ex "ArgumentError" r S := by
  rw [r_6]
  by_cases h : inR (-2000000) 2000000 x = true
  · simp [b_6, f1, h]
  · simp [b_6, f1, h]
theorem inR_m {m : Int} (h : -2000000 ≤ m ∧ m ≤ 2000000) : inR (-2000000) 2000000 (.int m) = true := by simp [inR, h.1, h.2]
theorem f6g (k : Nat) {m : Int} (h : -2000000 ≤ m ∧ m ≤ 2000000) (r : PyData) (S : Sto) : callAt fns W (k + 3) 6 [.d (.int m), .d r] S = .ok .none S := by rw [f6, if_pos (inR_m h)]
theorem f6b (k : Nat) {x : PyData} (h : inR (-2000000) 2000000 x = false) (r : PyData) (S : Sto) : callAt fns W (k + 3) 6 [.d x, .d r] S = .ex "ArgumentError" r S := by rw [f6, if_neg (by rw [h]; decide)]
theorem off_loop (F : Fns) (t : Tn) (m : Int) (S : Sto) : fin S.length (xs F W (.cons (.asg (.nm 2) (.ix (.var 0) (.cst (.int 1)))) (.cons (.loop (.tp (.cons (.nm 3) (.cons (.nm 4) .nil))) (.e (.ix (.var 0) (.cst (.int 2)))) (.cons (.ite (.cmp .le (.var 3) (.var 1)) (.cons (.asg (.nm 2) (.var 4)) .nil) .nil) .nil)) (.cons (.ret (.var 2)) .nil))) [some (.d (tw t)), some (.d (.int m)), none, none, none] S) = .ok (.int (tof t m)) S := by
  refine q_asg (.int t.o) (ev_ix_of (ev_var _ _ rfl) (ev_cst _) (ix1 _ _ _)) rfl ?_
  simp only [List.set_cons_succ, List.set_cons_zero]
  refine q_forE (gs := []) (S1 := S) rw_ t.rs (fun l ρ S' => ∃ (f : Int) (u v : Option Vl), ρ = [some (.d (tw t)), some (.d (.int m)), some (.d (.int f)), u, v] ∧ S' = S ∧ off f l m = tof t m) (by rw [evI_e, ev_ix_of (ev_var 0 _ rfl) (ev_cst _) (ix2 _ _ _ _)]; simp) ⟨t.o, none, none, rfl, rfl, rfl⟩ ?_ ?_
  · rintro r l ρ S' ⟨f, u, v, rfl, rfl, h⟩
    have tb : tst F (.cmp .le (.var 3) (.var 1)) [some (.d (tw t)), some (.d (.int m)), some (.d (.int f)), some (.d (.int r.1)), some (.d (.int r.2))] S' = .ok (decide (r.1 ≤ m)) S' := tst_b (ev_cmp_of (ev_var _ _ rfl) (ev_var _ _ rfl) (cmp_le _ _))
    rw [off_cons] at h
    by_cases c : r.1 ≤ m
    · rw [decide_eq_true c] at tb
      rw [if_pos c] at h
      exact ⟨[some (.d (tw t)), some (.d (.int m)), some (.d (.int f)), some (.d (.int r.1)), some (.d (.int r.2))], _, S', by simp [rw_], xs_thenNx tb (xs_asg (ev_var _ _ rfl) rfl xs_end) xs_end, chk_same _ _, r.2, _, _, rfl, rfl, h⟩
    · rw [decide_eq_false c] at tb
      rw [if_neg c] at h
      exact ⟨[some (.d (tw t)), some (.d (.int m)), some (.d (.int f)), some (.d (.int r.1)), some (.d (.int r.2))], _, S', by simp [rw_], xs_skip tb xs_end, chk_same _ _, f, _, _, rfl, rfl, h⟩
  · rintro ρ' S' ⟨f, u, v, rfl, rfl, h⟩
    have : f = tof t m := h
    rw [← this]
    exact (q_ret _ (ev_var _ _ rfl)).trans (by simp)
theorem f7 (k : Nat) (t : Tn) (m : Int) (S : Sto) : callAt fns W (k + 1) 7 [.d (tw t), .d (.int m)] S = .ok (.int (tof t m)) S := by
  rw [r_7, b_7]
  exact off_loop _ t m S
theorem f33 (k : Nat) (t : Tn) (m : Int) (S : Sto) : callAt fns W (k + 1) 33 [.d (tw t), .d (.int m)] S = .ok (.int (tof t m)) S := by
  rw [r_33, b_33]
  exact off_loop _ t m S
theorem f8 (k : Nat) {t : Tn} (h : OkT t) {m : Int} (hm : -2000000 ≤ m ∧ m ≤ 2000000) (S : Sto) : callAt fns W (k + 5) 8 [.d (tw t), .d (.int m)] S = .ok (.int (m + tof t m)) S := by
  rw [r_8]
  simp [b_8, f5g k h, f6g (k + 1) hm, f7]
/-! ### the minutes of a time -/
abbrev minsL (t : Tn) (L : Int) : List Int := minL L none t.o t.rs
def loD : Option Int → PyData
  | none => .none
  | some w => .int w
def pr0 (p : Option Int × Int) : PyData := .tuple [loD p.1, .int p.2]
def rows (t : Tn) : List (Option Int × Int) := (none, t.o) :: t.rs.map fun r => (some r.1, r.2)
theorem rows_ev (F : Fns) (t : Tn) (ht : t.rs.length ≤ 8) (ρ : In.Env) (S : Sto) (h0 : ρ[0]? = some (some (.d (tw t)))) : ev F (.bin .add (.lst (.cons (.tup (.cons (.cst .none) (.cons (.ix (.var 0) (.cst (.int 1))) .nil))) .nil)) (.u1 .list (.ix (.var 0) (.cst (.int 2))))) ρ S = .ok (.d (.list ((rows t).map pr0))) S := by
  have e : PyData.list ((rows t).map pr0) = .list ([.tuple [.none, .int t.o]] ++ t.rs.map rw_) := by
    simp only [rows, List.map_cons, List.map_map]
    rfl
  rw [e]
  exact ev_bin_of (ev_lst_of (evps_c (ev_tup_of (evps_c (ev_cst _) (evps_c (ev_ix_of (ev_var _ _ h0) (ev_cst _) (ix1 _ _ _)) evps_nil))) evps_nil)) (ev_u1_of (ev_ix_of (ev_var _ _ h0) (ev_cst _) (ix2 _ _ _ _)) (u1_listt _)) (bin_cat _ _ (by simp only [List.length_map, List.length_cons, List.length_nil, cap]; omega))
def lo0 : Option Int × Int → Option Int := fun p => p.1
end M29
/-! part M29d -/
set_option linter.all false
set_option maxRecDepth 100000
set_option maxHeartbeats 1000000
/-! The minutes of a time. -/
namespace In
open PySem
theorem ev_or_b {F : Fns} {ρ : Env} {S S1 : Sto} {a e : E} {x : Bool} (h : ev F a ρ S = .ok (.d (.bool x)) S1) : ev F (.or a e) ρ S = if x then .ok (.d (.bool true)) S1 else ev F e ρ S1 := by
  rw [ev_or, h]
  cases x <;> rfl
theorem ev_and_b {F : Fns} {ρ : Env} {S S1 : Sto} {a e : E} {x : Bool} (h : ev F a ρ S = .ok (.d (.bool x)) S1) : ev F (.and a e) ρ S = if x then ev F e ρ S1 else .ok (.d (.bool false)) S1 := by
  rw [ev_and, h]
  cases x <;> rfl
end In
namespace M29
open PySem In Tx P29
theorem enum_rng (xs : List PyData) (g : Nat → PyData) (h : ∀ i, i < xs.length → xs[i]? = some (g i)) : enumL 0 xs = (List.range xs.length).map fun (k : Nat) => .tuple [.int (k : Int), g k] := by
  refine List.ext_getElem? fun i => ?_
  rw [List.getElem?_map]
  by_cases c : i < xs.length
  · rw [enumL_at 0 xs i _ (h i c), List.getElem?_range c, Nat.zero_add]
    rfl
  · rw [List.getElem?_eq_none (by rw [enumL_len]; omega), List.getElem?_eq_none (by simp; omega)]
    rfl
abbrev Rp := Option Int × Int
def gr (t : Tn) (i : Nat) : Rp := (rows t).getD i (none, 0)
theorem gr_at {t : Tn} {i : Nat} (h : i < (rows t).length) : ((rows t).map pr0)[i]? = some (pr0 (gr t i)) := by
  unfold gr
  rw [List.getElem?_map, List.getD_eq_getElem?_getD, List.getElem?_eq_getElem h]
  rfl
theorem gr_drop {t : Tn} {i : Nat} (h : i < (rows t).length) : (rows t).drop i = gr t i :: (rows t).drop (i + 1) := by
  unfold gr
  rw [List.drop_eq_getElem_cons h, List.getD_eq_getElem?_getD, List.getElem?_eq_getElem h]
  rfl
theorem rows_len (t : Tn) : (rows t).length = t.rs.length + 1 := by simp [rows]
/-- every row but the first has its minute -/
theorem gr_some {t : Tn} {i : Nat} (h : i + 1 < (rows t).length) : ∃ w, (gr t (i + 1)).1 = some w := by
  rw [rows_len] at h
  have : gr t (i + 1) = (some (t.rs[i]'(by omega)).1, (t.rs[i]'(by omega)).2) := by
    unfold gr rows
    rw [List.getD_eq_getElem?_getD, List.getElem?_cons_succ, List.getElem?_map, List.getElem?_eq_getElem (by omega)]
    rfl
  exact ⟨_, by rw [this]⟩
def nx : List Rp → Int → Bool
  | (some w, _) :: _, m => decide (m < w)
  | _, _ => true
def minS (L : Int) : List Rp → List Int
  | [] => []
  | p :: r => (if lok p.1 (L - p.2) && nx r (L - p.2) then [L - p.2] else []) ++ minS L r
theorem minS_eq (L : Int) : ∀ (rs : List Rw) (lo : Option Int) (o : Int), minS L ((lo, o) :: rs.map fun r => (some r.1, r.2)) = minL L lo o rs
  | [], lo, o => by
    simp only [List.map_nil, minS, minL, List.append_nil]
    rfl
  | r :: rs, lo, o => by
    have ih := minS_eq L rs (some r.1) r.2
    rw [List.map_cons, minS, ih]
    rfl
theorem minS_rows (t : Tn) (L : Int) : minS L (rows t) = minsL t L := minS_eq L t.rs none t.o
theorem ix_int {xs : List PyData} {x : PyData} {i : Nat} {j : Int} (hj : j = (i : Int)) (h : xs[i]? = some x) : index (.list xs) (.int j) = some x := by
  rw [hj]; exact (index_nat h).1
theorem lo_ev {F : Fns} {ρ : In.Env} {S : Sto} {lo : Option Int} {m : Int} {i j : Nat} (hi : ρ[i]? = some (some (.d (loD lo)))) (hj : ρ[j]? = some (some (.d (.int m)))) : ev F (.or (.cmp .is_ (.var i) (.cst .none)) (.cmp .le (.var i) (.var j))) ρ S = .ok (.d (.bool (lok lo m))) S := by
  rw [ev_or_b (ev_cmp_of (ev_var _ _ hi) (ev_cst _) (cmp_is _))]
  cases lo with
  | none => rfl
  | some w => exact ev_cmp_of (ev_var _ _ hi) (ev_var _ _ hj) (cmp_le _ _)
/-- whether a minute is ahead of the next row -/
theorem nx_ev {F : Fns} {ρ : In.Env} {S : Sto} {t : Tn} {m : Int} {i a b c : Nat} (hi : i < (rows t).length) (ha : ρ[a]? = some (some (.d (.int (i : Int))))) (hb : ρ[b]? = some (some (.d (.list ((rows t).map pr0))))) (hc : ρ[c]? = some (some (.d (.int m)))) :
    ev F (.or (.cmp .eq (.var a) (.bin .sub (.u1 .len (.var b)) (.cst (.int 1)))) (.cmp .lt (.var c) (.ix (.ix (.var b) (.bin .add (.var a) (.cst (.int 1)))) (.cst (.int 0))))) ρ S = .ok (.d (.bool (nx ((rows t).drop (i + 1)) m))) S := by
  rw [ev_or_b (ev_cmp_of (ev_var _ _ ha) (ev_bin_of (ev_u1_of (ev_var _ _ hb) (u1_lenl _)) (ev_cst _) (bin_sub _ _)) (cmp_eq _ _)), List.length_map]
  by_cases c1 : i + 1 = (rows t).length
  · rw [decide_eq_true (by omega), if_pos rfl, List.drop_eq_nil_of_le (by omega)]
    rfl
  · have hi1 : i + 1 < (rows t).length := by omega
    rw [decide_eq_false (by omega), if_neg (by decide), gr_drop hi1]
    obtain ⟨w, hw⟩ := gr_some hi1
    have e : pr0 (gr t (i + 1)) = .tuple [.int w, .int (gr t (i + 1)).2] := by unfold pr0; rw [hw]; rfl
    have e2 : nx (gr t (i + 1) :: (rows t).drop (i + 1 + 1)) m = decide (m < w) := by
      generalize gr t (i + 1) = p at *
      obtain ⟨p1, p2⟩ := p
      simp only at hw
      subst hw
      rfl
    rw [e2]
    exact ev_cmp_of (ev_var _ _ hc) (ev_ix_of (ev_ix_of (ev_var _ _ hb) (ev_bin_of (ev_var _ _ ha) (ev_cst _) (bin_add _ _)) (ix_int (by omega) (gr_at hi1))) (ev_cst _) (by rw [e]; exact ix0 _ _)) (cmp_lt _ _)
theorem f9 (k : Nat) {t : Tn} (h : OkT t) (L : Int) (S : Sto) : callAt fns W (k + 1) 9 [.d (tw t), .d (.int L)] S = .ok (.list (iL (minsL t L))) S := by
  rw [r_9, b_9]
  have hl := h.len
  have hrl := rows_len t
  refine q_asg _ (rows_ev _ t hl _ S rfl) rfl ?_
  simp only [List.set_cons_succ, List.set_cons_zero]
  refine q_new [] (by simp) ?_
  simp only [List.set_cons_succ, List.set_cons_zero]
  have hen : enumL 0 ((rows t).map pr0) = (List.range (rows t).length).map fun (j : Nat) => .tuple [.int (j : Int), pr0 (gr t j)] := by
    have := enum_rng ((rows t).map pr0) (fun k => pr0 (gr t k)) fun i hi => gr_at (by simpa using hi)
    rw [List.length_map] at this
    exact this
  refine q_forE (gs := []) (S1 := cd S []) (fun (j : Nat) => .tuple [.int (j : Int), pr0 (gr t j)]) (List.range (rows t).length) (fun l ρ S' => ∃ (i : Nat) (ys : List Int) (a b c d e f : Option Vl), l = List.range' i ((rows t).length - i) ∧ i ≤ (rows t).length ∧ ρ = [some (.d (tw t)), some (.d (.int L)), some (.d (.list ((rows t).map pr0))), some (.loc S.length), a, b, c, d, e, f] ∧ S' = cd S (iL ys) ∧ ys ++ minS L ((rows t).drop i) = minsL t L ∧ ys.length ≤ i) (by rw [evI_enum, ev_var 2 _ rfl]; simp [hen]) ⟨0, [], none, none, none, none, none, none, by rw [List.range_eq_range']; rfl, Nat.zero_le _, rfl, rfl, by rw [List.drop_zero, minS_rows]; rfl, Nat.le_refl _⟩ ?_ ?_
  · rintro j l ρ S' ⟨i, ys, a, b, c, d, e, f, hl2, hi, rfl, rfl, hy, hyl⟩
    have hin : i < (rows t).length := by
      refine Nat.lt_of_not_le fun q => ?_
      have : (rows t).length - i = 0 := by omega
      rw [this] at hl2
      cases hl2
    obtain ⟨m, hm⟩ : ∃ m, (rows t).length - i = m + 1 := ⟨(rows t).length - i - 1, by omega⟩
    rw [hm, List.range'_succ] at hl2
    injection hl2 with ha hl2
    subst ha
    have hl2' : l = List.range' (j + 1) ((rows t).length - (j + 1)) := by rw [hl2]; congr 1; omega
    rw [gr_drop hin, minS] at hy
    have elo := fun (ρ : In.Env) (S : Sto) h8 h5 => lo_ev (F := callAt fns W k) (ρ := ρ) (S := S) (lo := (gr t j).1) (m := L - (gr t j).2) (i := 8) (j := 5) h8 h5
    have hput : put (.tp (.cons (.nm 4) (.cons (.tp (.cons (.nm 8) (.cons (.nm 9) .nil))) .nil))) (.tuple [.int (j : Int), pr0 (gr t j)]) [some (.d (tw t)), some (.d (.int L)), some (.d (.list ((rows t).map pr0))), some (.loc S.length), a, b, c, d, e, f] = some [some (.d (tw t)), some (.d (.int L)), some (.d (.list ((rows t).map pr0))), some (.loc S.length), some (.d (.int (j : Int))), b, c, d, some (.d (loD (gr t j).1)), some (.d (.int (gr t j).2))] := by simp [pr0]
    have tl : ∀ (b c d : Option Vl), xs (callAt fns W k) W (.cons (.asg (.nm 5) (.bin .sub (.var 1) (.var 9))) (.cons (.asg (.nm 6) (.or (.cmp .is_ (.var 8) (.cst .none)) (.cmp .le (.var 8) (.var 5)))) (.cons (.asg (.nm 7) (.or (.cmp .eq (.var 4) (.bin .sub (.u1 .len (.var 2)) (.cst (.int 1)))) (.cmp .lt (.var 5) (.ix (.ix (.var 2) (.bin .add (.var 4) (.cst (.int 1)))) (.cst (.int 0)))))) (.cons (.ite (.and (.var 6) (.var 7)) (.cons (.app (.var 3) (.var 5)) .nil) .nil) .nil)))) [some (.d (tw t)), some (.d (.int L)), some (.d (.list ((rows t).map pr0))), some (.loc S.length), some (.d (.int (j : Int))), b, c, d, some (.d (loD (gr t j).1)), some (.d (.int (gr t j).2))] (cd S (iL ys))
        = .ok (.nx [some (.d (tw t)), some (.d (.int L)), some (.d (.list ((rows t).map pr0))), some (.loc S.length), some (.d (.int (j : Int))), some (.d (.int (L - (gr t j).2))), some (.d (.bool (lok (gr t j).1 (L - (gr t j).2)))), some (.d (.bool (nx ((rows t).drop (j + 1)) (L - (gr t j).2)))), some (.d (loD (gr t j).1)), some (.d (.int (gr t j).2))]) (cd S (iL (ys ++ if lok (gr t j).1 (L - (gr t j).2) && nx ((rows t).drop (j + 1)) (L - (gr t j).2) then [L - (gr t j).2] else []))) := by
      intro b c d
      refine xs_asg (ev_bin_of (ev_var _ _ rfl) (ev_var _ _ rfl) (bin_sub _ _)) rfl ?_
      simp only [List.set_cons_succ, List.set_cons_zero]
      refine xs_asg (elo _ _ rfl rfl) rfl ?_
      simp only [List.set_cons_succ, List.set_cons_zero]
      refine xs_asg (nx_ev (a := 4) (b := 2) (c := 5) hin rfl rfl rfl) rfl ?_
      simp only [List.set_cons_succ, List.set_cons_zero]
      generalize lok (gr t j).1 (L - (gr t j).2) = p1
      generalize nx ((rows t).drop (j + 1)) (L - (gr t j).2) = p2
      generalize PyData.list ((rows t).map pr0) = RL
      have tt : tst (callAt fns W k) (.and (.var 6) (.var 7)) [some (.d (tw t)), some (.d (.int L)), some (.d RL), some (.loc S.length), some (.d (.int (j : Int))), some (.d (.int (L - (gr t j).2))), some (.d (.bool p1)), some (.d (.bool p2)), some (.d (loD (gr t j).1)), some (.d (.int (gr t j).2))] (cd S (iL ys)) = .ok (p1 && p2) (cd S (iL ys)) := by
        rw [tst_and (tst_b (ev_var 6 _ rfl))]
        cases p1
        · rfl
        · exact tst_b (ev_var 7 _ rfl)
      cases hp : p1 && p2 with
      | true =>
        rw [hp] at tt
        refine xs_thenNx tt (xs_app (Z := S) rfl (ev_var 5 _ rfl) (by simp only [List.length_map]; omega) xs_end) ?_
        have e : iL (ys ++ [L - (gr t j).2]) = iL ys ++ [.int (L - (gr t j).2)] := by simp
        rw [if_pos rfl, e]
        exact xs_end
      | false =>
        rw [hp] at tt
        refine xs_skip tt ?_
        rw [if_neg (by decide), List.append_nil]
        exact xs_end
    refine ⟨_, _, _, hput, tl b c d, rfl, j + 1, _, _, _, _, _, _, _, hl2', by omega, rfl, rfl, by rw [List.append_assoc]; exact hy, ?_⟩
    rw [List.length_append]
    split <;> simp <;> omega
  · rintro ρ' S' ⟨i, ys, a, b, c, d, e, f, hl2, hi, rfl, rfl, hy, -⟩
    have hin : i = (rows t).length := by
      have := congrArg List.length hl2
      simp at this
      omega
    rw [hin, List.drop_length] at hy
    have : ys = minsL t L := by rw [← hy]; simp [minS]
    rw [this]
    exact (q_retLast rfl)
end M29
/-! part InSd -/
set_option linter.all false
set_option maxRecDepth 100000
set_option maxHeartbeats 1000000
/-! sorted(dict(..)) of ints. -/
namespace In
open PySem
abbrev pw (l : List Int) : Prop := l.Pairwise (· < ·)
def dd : List Int → List Int → List Int
  | acc, [] => acc
  | acc, t :: r => if t ∈ acc then dd acc r else dd (acc ++ [t]) r
theorem dd_mem : ∀ (l acc : List Int) (x : Int), x ∈ dd acc l ↔ x ∈ acc ∨ x ∈ l
  | [], acc, x => by simp [dd]
  | t :: r, acc, x => by
    unfold dd
    split
    · rename_i h
      rw [dd_mem r acc x]
      constructor
      · rintro (h1 | h1) <;> simp [h1]
      · rintro (h1 | h1)
        · exact .inl h1
        · rcases List.mem_cons.mp h1 with rfl | h1
          · exact .inl h
          · exact .inr h1
    · rw [dd_mem r _ x]
      simp [or_assoc]
theorem dd_nd : ∀ (l acc : List Int), acc.Nodup → (dd acc l).Nodup
  | [], acc, h => by simpa [dd] using h
  | t :: r, acc, h => by
    unfold dd
    split
    · exact dd_nd r acc h
    · rename_i hn
      refine dd_nd r _ ?_
      rw [List.nodup_append]
      exact ⟨h, by simp, fun a ha b hb => by simp at hb; subst hb; intro e; subst e; exact hn ha⟩
theorem dd_len : ∀ (l acc : List Int), (dd acc l).length ≤ acc.length + l.length
  | [], acc => by simp [dd]
  | t :: r, acc => by
    unfold dd
    split
    · have := dd_len r acc; simp; omega
    · have := dd_len r (acc ++ [t]); simp at this ⊢; omega
theorem ins_mem (i : Int) : ∀ (l : List Int) (x : Int), x ∈ insertI i l ↔ x = i ∨ x ∈ l
  | [], x => by simp [insertI]
  | j :: r, x => by
    unfold insertI
    split
    · simp
    · simp only [List.mem_cons, ins_mem i r x]
      constructor
      · rintro (h | h | h) <;> simp [h]
      · rintro (h | h | h) <;> simp [h]
theorem sort_mem : ∀ (l : List Int) (x : Int), x ∈ sortI l ↔ x ∈ l
  | [], x => by simp [sortI]
  | i :: r, x => by simp only [sortI, ins_mem, sort_mem r x, List.mem_cons]
theorem ins_pw (i : Int) : ∀ (l : List Int), pw l → i ∉ l → pw (insertI i l)
  | [], _, _ => by simp [insertI]
  | j :: r, hp, hn => by
    have hp1 := List.pairwise_cons.mp hp
    simp only [List.mem_cons, not_or] at hn
    unfold insertI
    split
    · refine List.pairwise_cons.mpr ⟨fun u hu => ?_, hp⟩
      rcases List.mem_cons.mp hu with rfl | hu
      · omega
      · have := hp1.1 u hu; omega
    · refine List.pairwise_cons.mpr ⟨fun u hu => ?_, ins_pw i r hp1.2 hn.2⟩
      rcases (ins_mem i r u).mp hu with rfl | hu
      · omega
      · exact hp1.1 u hu
theorem sort_pw : ∀ (l : List Int), l.Nodup → pw (sortI l)
  | [], _ => by simp [sortI]
  | i :: r, h => by
    have h1 := List.nodup_cons.mp h
    exact ins_pw i _ (sort_pw r h1.2) fun hm => h1.1 ((sort_mem r i).mp hm)
theorem ins_len (i : Int) : ∀ (l : List Int), (insertI i l).length = l.length + 1
  | [] => rfl
  | j :: r => by
    unfold insertI
    split
    · rfl
    · simp [ins_len i r]
theorem sort_len : ∀ (l : List Int), (sortI l).length = l.length
  | [] => rfl
  | i :: r => by simp [sortI, ins_len, sort_len r]
def srt (l : List Int) : List Int := sortI (dd [] l)
theorem srt_mem (l : List Int) (x : Int) : x ∈ srt l ↔ x ∈ l := by simp [srt, sort_mem, dd_mem]
theorem srt_pw (l : List Int) : pw (srt l) := sort_pw _ (dd_nd _ _ (by simp))
theorem srt_len (l : List Int) : (srt l).length ≤ l.length := by
  unfold srt
  rw [sort_len]
  have := dd_len l []
  simpa using this
theorem kStore_in {v : PyData} {acc : List Int} {t : Int} (h : t ∈ acc) : kStore (acc.map fun t => (PyData.int t, v)) (.int t) v = acc.map fun t => (PyData.int t, v) := by
  unfold kStore
  rw [if_pos]
  · rw [List.map_map]
    refine List.map_congr_left fun a _ => ?_
    show (if PyData.eqv (.int a) (.int t) = true then (PyData.int a, v) else (PyData.int a, v)) = _
    split <;> rfl
  · rw [List.any_map, List.any_eq_true]
    exact ⟨t, h, by simp [PyData.eqv]⟩
theorem kStore_out {v : PyData} {acc : List Int} {t : Int} (h : t ∉ acc) : kStore (acc.map fun t => (PyData.int t, v)) (.int t) v = (acc ++ [t]).map fun t => (PyData.int t, v) := by
  unfold kStore
  rw [if_neg]
  · simp
  · rw [List.any_map, List.any_eq_true]
    rintro ⟨a, ha, e⟩
    simp [PyData.eqv] at e
    exact h (e ▸ ha)
theorem dictOf_dd (v : PyData) : ∀ (l acc : List Int), dictOf? (l.map fun t => .tuple [.int t, v]) (acc.map fun t => (PyData.int t, v)) = some ((dd acc l).map fun t => (PyData.int t, v))
  | [], acc => rfl
  | t :: r, acc => by
    simp only [List.map_cons, dictOf?, scalarKey, if_true, dd]
    by_cases h : t ∈ acc
    · rw [if_pos h, kStore_in h]; exact dictOf_dd v r acc
    · rw [if_neg h, kStore_out h]; exact dictOf_dd v r _
theorem u1_dict (v : PyData) (l : List Int) : u1 .dict (.list (l.map fun t => .tuple [.int t, v])) = some (.dict ((dd [] l).map fun t => (PyData.int t, v))) := by
  show (dictOf? _ _).map PyData.dict = _
  rw [show ([] : List (PyData × PyData)) = ([] : List Int).map fun t => (PyData.int t, v) from rfl, dictOf_dd]
  rfl
theorem u1_sortd (v : PyData) (l : List Int) : u1 .sorted (.dict ((dd [] l).map fun t => (PyData.int t, v))) = some (.list ((srt l).map .int)) := by
  show (ints? (((dd [] l).map fun t => (PyData.int t, v)).map (·.1))).map _ = _
  rw [List.map_map, show ((fun x : PyData × PyData => x.1) ∘ fun t => (PyData.int t, v)) = PyData.int from rfl, ints_map]
  rfl
end In
/-! part M29e -/
set_option linter.all false
set_option maxRecDepth 100000
set_option maxHeartbeats 1000000
/-! minutes, there, count_shown; the law's minutes. -/
namespace M29
open PySem In Tx P29
theorem minL_len (L : Int) : ∀ (rs : List Rw) (lo : Option Int) (o : Int), (minL L lo o rs).length ≤ rs.length + 1
  | [], lo, o => by
    unfold minL
    split <;> simp
  | r :: rs, lo, o => by
    have := minL_len L rs (some r.1) r.2
    unfold minL
    rw [List.length_append, List.length_cons]
    split <;> simp <;> omega
theorem minsL_len {t : Tn} (h : OkT t) (L : Int) : (minsL t L).length ≤ 9 := by
  have h1 : (minsL t L).length ≤ t.rs.length + 1 := minL_len L t.rs none t.o
  have := h.len
  omega
theorem f10 (k : Nat) {t : Tn} (h : OkT t) {m : Int} (hm : -2000000 ≤ m ∧ m ≤ 2000000) (S : Sto) : callAt fns W (k + 5) 10 [.d (tw t), .d (.int m)] S = .ok (.tuple (iL (minsL t m))) S := by
  rw [r_10]
  simp [b_10, f5g k h, f6g (k + 1) hm, f9 (k + 3) h]
theorem f13 (k : Nat) {t : Tn} (h : OkT t) {m : Int} (hm : -2000000 ≤ m ∧ m ≤ 2000000) (S : Sto) : callAt fns W (k + 5) 13 [.d (tw t), .d (.int m)] S = .ok (.int ((minsL t m).length : Nat)) S := by
  rw [r_13]
  simp [b_13, f5g k h, f6g (k + 1) hm, f9 (k + 3) h]
theorem f11 (k : Nat) {t u : Tn} (h : OkT t) (hu : OkT u) {m : Int} (hm : -2000000 ≤ m ∧ m ≤ 2000000) (S : Sto) : callAt fns W (k + 5) 11 [.d (tw t), .d (tw u), .d (.int m)] S = .ok (.tuple ((minsL t m).map fun x => .int (x + tof u x))) S := by
  rw [r_11, b_11]
  have hl := minsL_len h m
  refine q_drop (x := .none) (ev_call_of (evs_c (ev_var _ _ rfl) evs_nil) (f5g k h _ S)) ?_
  refine q_drop (x := .none) (ev_call2 (ev_var _ _ rfl) (ev_cst _) (f5g k hu _ S)) ?_
  refine q_drop (x := .none) (ev_call2 (ev_var _ _ rfl) (ev_cst _) (f6g (k + 1) hm _ S)) ?_
  refine (q_ret _ (ev_u1_of (ev_lc0 (gs := []) .int (fun x => .int (x + tof u x)) (l := minsL t m) (by rw [evI_e, ev_call2 (ev_var 0 _ rfl) (ev_var 2 _ rfl) (f9 (k + 3) h m S)]; rfl) (by simp only [cap]; omega) fun x hx => ⟨[some (.d (tw t)), some (.d (tw u)), some (.d (.int m)), some (.d (.int x))], rfl, by
    rw [ev_bin_of (ev_var 3 _ rfl) (ev_call2 (ev_var 1 _ rfl) (ev_var 3 _ rfl) (f7 (k + 3) u x S)) (bin_add _ _)]; rfl⟩) (u1_tupl _))).trans (by simp)
/-- all offsets, as the law writes them -/
theorem offs_ev (F : Fns) (t : Tn) (ht : t.rs.length ≤ 8) (j : Nat) (ρ : In.Env) (S : Sto) (hw : (wipe ρ [j])[j]? = some none) (h0 : ρ[0]? = some (some (.d (tw t)))) (hj : ∀ x, ((wipe ρ [j]).set j (some (.d x)))[j]? = some (some (.d x))) (hp : ∀ x, put (.nm j) x (wipe ρ [j]) = some ((wipe ρ [j]).set j (some (.d x)))) :
    ev F (.bin .add (.lst (.cons (.ix (.var 0) (.cst (.int 1))) .nil)) (.lc [j] (.nm j) (.e (.ix (.var 0) (.cst (.int 2)))) .nil (.ix (.var j) (.cst (.int 1))))) ρ S = .ok (.d (.list (iL (offs t.o t.rs)))) S := by
  have e : PyData.list (iL (offs t.o t.rs)) = .list ([.int t.o] ++ t.rs.map fun r => .int r.2) := by
    simp [offs]
  rw [e]
  exact ev_bin_of (ev_lst_of (evps_c (ev_ix_of (ev_var _ _ h0) (ev_cst _) (ix1 _ _ _)) evps_nil)) (ev_lc0 (gs := []) rw_ (fun r => .int r.2) (by rw [evI_e, ev_ix_of (ev_var 0 _ h0) (ev_cst _) (ix2 _ _ _ _)]; rfl) (by simp only [cap]; omega) fun r hr => ⟨_, hp _, by
    rw [ev_ix_of (ev_var j _ (hj _)) (ev_cst _) (show index (rw_ r) (.int 1) = some (.int r.2) from ix1 _ _ _)]; rfl⟩) (bin_cat _ _ (by simp only [List.length_map, List.length_cons, List.length_nil, cap]; omega))
theorem f34 (k : Nat) {t : Tn} (h : OkT t) (L : Int) (S : Sto) : callAt fns W (k + 2) 34 [.d (tw t), .d (.int L)] S = .ok (.list (iL (minsL t L))) S := by
  rw [r_34, b_34]
  have hl := h.len
  have ho := offs_ev (callAt fns W (k + 1)) t hl 5 [some (.d (tw t)), some (.d (.int L)), none, none, none, none] S rfl rfl (fun _ => rfl) (fun _ => rfl)
  have hol : (offs t.o t.rs).length ≤ 9 := by simp [offs]; omega
  have l1 := ev_lc0 (F := callAt fns W (k + 1)) (S := S) (ws := [4]) (t := .nm 4) (it := .e (.bin .add (.lst (.cons (.ix (.var 0) (.cst (.int 1))) .nil)) (.lc [5] (.nm 5) (.e (.ix (.var 0) (.cst (.int 2)))) .nil (.ix (.var 5) (.cst (.int 1)))))) (e := .tup (.cons (.bin .sub (.var 1) (.var 4)) (.cons (.cst (.int 0)) .nil))) (ρ := [some (.d (tw t)), some (.d (.int L)), none, none, none, none]) (gs := []) (l := offs t.o t.rs) .int (fun f => .tuple [.int (L - f), .int 0]) (by rw [evI_e, ho]; rfl) (by simp only [cap]; omega) fun f hf => ⟨[some (.d (tw t)), some (.d (.int L)), none, none, some (.d (.int f)), none], rfl, by
    rw [ev_tup_of (evps_c (ev_bin_of (ev_var 1 _ rfl) (ev_var 4 _ rfl) (bin_sub _ _)) (evps_c (ev_cst _) evps_nil))]; rfl⟩
  have e1 : PyData.list ((offs t.o t.rs).map fun f => .tuple [.int (L - f), .int 0]) = .list (((offs t.o t.rs).map fun f => L - f).map fun x => .tuple [.int x, .int 0]) := by
    rw [List.map_map]; rfl
  rw [e1] at l1
  refine q_asg _ (ev_u1_of (ev_u1_of l1 (u1_dict (.int 0) _)) (u1_sortd (.int 0) _)) rfl ?_
  simp only [List.set_cons_succ, List.set_cons_zero]
  have hsl := srt_len ((offs t.o t.rs).map fun f => L - f)
  rw [List.length_map] at hsl
  have key := law_min (L := L) h.asc (srt_pw ((offs t.o t.rs).map fun f => L - f)) fun x => by
    rw [srt_mem, List.mem_map]
    exact ⟨fun ⟨f, hf, e⟩ => ⟨f, hf, e.symm⟩, fun ⟨f, hf, e⟩ => ⟨f, hf, e.symm⟩⟩
  generalize srt ((offs t.o t.rs).map fun f => L - f) = ts at *
  refine (q_ret (.list (iL (minsL t L))) ?_).trans (by simp)
  rw [show minsL t L = ts.filter (fun m => decide (m + off t.o t.rs m = L)) from key.symm]
  exact ev_lc (gs := []) .int (fun m => decide (m + off t.o t.rs m = L)) .int (by rw [evI_e, ev_var 2 _ rfl]; rfl) (by simp only [cap]; omega) fun m hm => ⟨[some (.d (tw t)), some (.d (.int L)), some (.d (.list (ts.map .int))), some (.d (.int m)), none, none], rfl, by
    rw [evt_cons, ev_cmp_of (ev_bin_of (ev_var 3 _ rfl) (ev_call2 (ev_var 0 _ rfl) (ev_var 3 _ rfl) (f33 k t m S)) (bin_add _ _)) (ev_var 1 _ rfl) (cmp_eq _ _)]; rfl, fun _ => by rw [ev_var _ _ rfl]; rfl⟩
end M29
/-! part M29f -/
set_option linter.all false
set_option maxRecDepth 100000
set_option maxHeartbeats 1000000
/-! Jumps; rows of like counts. -/
namespace M29
open PySem In Tx P29
theorem eqOk_flat {xs : List PyData} (h : ∀ x ∈ xs, x.canLay0 = true ∧ x.depth ≤ 8) : eqOk (.list xs) = true := by
  have h1 : PyData.canLayAll0 xs = true := by
    induction xs with
    | nil => rfl
    | cons a r ih => simp only [PyData.canLayAll0, (h a List.mem_cons_self).1, ih fun x hx => h x (List.mem_cons_of_mem _ hx), Bool.and_self]
  have h2 : PyData.depthAll xs ≤ 9 := by
    clear h1
    induction xs with
    | nil => decide
    | cons a r ih =>
      have h3 := ih fun x hx => h x (List.mem_cons_of_mem _ hx)
      have h4 := (h a List.mem_cons_self).2
      simp only [PyData.depthAll]
      omega
  show (PyData.canLay0 (.list xs) && decide (PyData.depth (.list xs) ≤ 64)) = true
  rw [show PyData.canLay0 (.list xs) = true from h1, Bool.true_and, decide_eq_true_eq]
  show PyData.depthAll xs + 1 ≤ 64
  omega
def flat (x : PyData) : Prop := x.canLay0 = true ∧ x.depth ≤ 8
theorem flat_int (i : Int) : flat (.int i) := ⟨rfl, by simp [PyData.depth]⟩
theorem flat_none : flat .none := ⟨rfl, by simp [PyData.depth]⟩
theorem flat_bool (b : Bool) : flat (.bool b) := ⟨rfl, by simp [PyData.depth]⟩
theorem eq_nil {xs : List PyData} (h : ∀ x ∈ xs, flat x) : cmpop .eq (.list xs) (.list []) = some (decide (xs = [])) := by
  show (if (eqOk _ && eqOk (.list [])) = true then some (PyData.eqv (.list _) (.list [])) else none) = _
  rw [eqOk_flat h, show eqOk (.list []) = true from rfl]
  cases xs <;> rfl
theorem ne_nil {xs : List PyData} (h : ∀ x ∈ xs, flat x) : cmpop .ne (.list xs) (.list []) = some (!decide (xs = [])) := by
  show (if (eqOk _ && eqOk (.list [])) = true then some (!PyData.eqv (.list _) (.list [])) else none) = _
  rw [eqOk_flat h, show eqOk (.list []) = true from rfl]
  cases xs <;> rfl
/-! ### jumps -/
def sp (s : Sp) : PyData := .tuple [.int s.1, .int s.2.1, .int s.2.2]
theorem flat_sp (s : Sp) : flat (sp s) := ⟨rfl, by simp [sp, PyData.depth, PyData.depthAll]⟩
def jumpsL : Int → List Rw → List Sp
  | _, [] => []
  | b, r :: rs => (if r.2 = b then [] else [(r.1, r.1 + r.2, r.1 + b)]) ++ jumpsL r.2 rs
theorem jumpsL_cons (b : Int) (r : Rw) (rs : List Rw) : jumpsL b (r :: rs) = (if r.2 = b then [] else [(r.1, r.1 + r.2, r.1 + b)]) ++ jumpsL r.2 rs := rfl
def lastO : Int → List Rw → Int
  | o, [] => o
  | _, r :: d => lastO r.2 d
theorem prev_off : ∀ (d : List Rw) (lo : Option Int) (o : Int) (r : Rw) (l : List Rw), Asc lo (d ++ r :: l) → off o (d ++ r :: l) (r.1 - 1) = lastO o d
  | [], lo, o, r, l, h => by
    have hlt := asc_lt l r.1 h.2
    show off o (r :: l) (r.1 - 1) = o
    rw [off_cons, if_neg (by omega)]
    exact off_low l o _ fun x hx => by have := hlt x hx; omega
  | x :: d, lo, o, r, l, h => by
    have h1 : x.1 < r.1 := asc_lt (d ++ r :: l) x.1 h.2 r (List.mem_append_right _ List.mem_cons_self)
    show off o (x :: (d ++ r :: l)) (r.1 - 1) = lastO x.2 d
    rw [off_cons, if_pos (by omega)]
    exact prev_off d (some x.1) x.2 r l h.2
theorem lastO_snoc : ∀ (d : List Rw) (o : Int) (r : Rw), lastO o (d ++ [r]) = r.2
  | [], _, _ => rfl
  | x :: d, _, r => lastO_snoc d x.2 r
theorem jumpsL_len : ∀ (rs : List Rw) (b : Int), (jumpsL b rs).length ≤ rs.length
  | [], _ => Nat.le_refl _
  | r :: rs, b => by
    have := jumpsL_len rs r.2
    unfold jumpsL
    rw [List.length_append, List.length_cons]
    split <;> simp <;> omega
theorem f12 (k : Nat) {t : Tn} (h : OkT t) (S : Sto) : callAt fns W (k + 5) 12 [.d (tw t)] S = .ok (.tuple ((jumpsL t.o t.rs).map sp)) S := by
  rw [r_12, b_12]
  have hl := h.len
  refine q_drop (x := .none) (ev_call_of (evs_c (ev_var _ _ rfl) evs_nil) (f5g k h _ S)) ?_
  refine q_new [] (by simp) ?_
  simp only [List.set_cons_succ, List.set_cons_zero]
  refine q_asg (.int t.o) (ev_ix_of (ev_var _ _ rfl) (ev_cst _) (ix1 _ _ _)) rfl ?_
  simp only [List.set_cons_succ, List.set_cons_zero]
  refine q_forE (gs := []) (S1 := cd S []) rw_ t.rs (fun l ρ S' => ∃ (ys : List Sp) (b : Int) (u v : Option Vl), ρ = [some (.d (tw t)), some (.loc S.length), some (.d (.int b)), u, v] ∧ S' = cd S (ys.map sp) ∧ ys ++ jumpsL b l = jumpsL t.o t.rs) (by rw [evI_e, ev_ix_of (ev_var 0 _ rfl) (ev_cst _) (ix2 _ _ _ _)]; simp) ⟨[], t.o, none, none, rfl, rfl, rfl⟩ ?_ ?_
  · rintro r l ρ S' ⟨ys, b, u, v, rfl, rfl, hy⟩
    have hyl : ys.length ≤ 8 := by
      have h1 := congrArg List.length hy
      have h2 := jumpsL_len t.rs t.o
      rw [List.length_append] at h1
      omega
    have tb : tst (callAt fns W (k + 4)) (.cmp .ne (.var 4) (.var 2)) [some (.d (tw t)), some (.loc S.length), some (.d (.int b)), some (.d (.int r.1)), some (.d (.int r.2))] (cd S (ys.map sp)) = .ok (!decide (r.2 = b)) (cd S (ys.map sp)) := tst_b (ev_cmp_of (ev_var _ _ rfl) (ev_var _ _ rfl) (cmp_ne _ _))
    rw [jumpsL_cons] at hy
    by_cases c : r.2 = b
    · rw [decide_eq_true c] at tb
      rw [if_pos c] at hy
      exact ⟨[some (.d (tw t)), some (.loc S.length), some (.d (.int b)), some (.d (.int r.1)), some (.d (.int r.2))], _, _, by simp [rw_], xs_skip tb (xs_asg (ev_var _ _ rfl) rfl xs_end), rfl, ys, r.2, _, _, rfl, rfl, hy⟩
    · rw [decide_eq_false c] at tb
      rw [if_neg c, ← List.append_assoc] at hy
      refine ⟨[some (.d (tw t)), some (.loc S.length), some (.d (.int b)), some (.d (.int r.1)), some (.d (.int r.2))], [some (.d (tw t)), some (.loc S.length), some (.d (.int r.2)), some (.d (.int r.1)), some (.d (.int r.2))], cd S ((ys ++ [(r.1, r.1 + r.2, r.1 + b)]).map sp), by simp [rw_], ?_, rfl, _, r.2, _, _, rfl, rfl, hy⟩
      rw [List.map_append]
      exact xs_thenNx tb (xs_app (Z := S) rfl (ev_tup_of (evps_c (ev_var 3 _ rfl) (evps_c (ev_bin_of (ev_var 3 _ rfl) (ev_var 4 _ rfl) (bin_add _ _)) (evps_c (ev_bin_of (ev_var 3 _ rfl) (ev_var 2 _ rfl) (bin_add _ _)) evps_nil)))) (by rw [List.length_map]; omega) xs_end) (xs_asg (ev_var 4 _ rfl) rfl xs_end)
  · rintro ρ' S' ⟨ys, b, u, v, rfl, rfl, hy⟩
    have : ys = jumpsL t.o t.rs := by rw [← hy]; simp [jumpsL]
    rw [this]
    exact (q_ret _ (u1_last rfl (u1_tupl _))).trans (by simp)
theorem f37 (k : Nat) {t : Tn} (h : OkT t) (S : Sto) : callAt fns W (k + 2) 37 [.d (tw t)] S = .ok (.tuple ((jumpsL t.o t.rs).map sp)) S := by
  rw [r_37, b_37]
  have hl := h.len
  refine q_new [] (by simp) ?_
  simp only [List.set_cons_succ, List.set_cons_zero]
  refine q_forE (gs := []) (S1 := cd S []) rw_ t.rs (fun l ρ S' => ∃ (ys : List Sp) (d : List Rw) (u v w : Option Vl), ρ = [some (.d (tw t)), some (.loc S.length), u, v, w] ∧ S' = cd S (ys.map sp) ∧ t.rs = d ++ l ∧ ys ++ jumpsL (lastO t.o d) l = jumpsL t.o t.rs) (by rw [evI_e, ev_ix_of (ev_var 0 _ rfl) (ev_cst _) (ix2 _ _ _ _)]; simp) ⟨[], [], none, none, none, rfl, rfl, rfl, rfl⟩ ?_ ?_
  · rintro r l ρ S' ⟨ys, d, u, v, w, rfl, rfl, hd, hy⟩
    have hyl : ys.length ≤ 8 := by
      have h1 := congrArg List.length hy
      have h2 := jumpsL_len t.rs t.o
      rw [List.length_append] at h1
      omega
    have hb : tof t (r.1 - 1) = lastO t.o d := by
      show off t.o t.rs (r.1 - 1) = _
      rw [hd]
      exact prev_off d none t.o r l (hd ▸ h.asc)
    have hd' : t.rs = (d ++ [r]) ++ l := by rw [List.append_assoc]; exact hd
    have e33 := f33 k t (r.1 - 1) (cd S (ys.map sp))
    rw [hb] at e33
    have hl2 := lastO_snoc d t.o r
    rw [jumpsL_cons] at hy
    generalize lastO t.o d = b at *
    have tb : tst (callAt fns W (k + 1)) (.cmp .ne (.var 3) (.var 4)) [some (.d (tw t)), some (.loc S.length), some (.d (.int r.1)), some (.d (.int r.2)), some (.d (.int b))] (cd S (ys.map sp)) = .ok (!decide (r.2 = b)) (cd S (ys.map sp)) := tst_b (ev_cmp_of (ev_var _ _ rfl) (ev_var _ _ rfl) (cmp_ne _ _))
    have g1 := ev_call2 (F := callAt fns W (k + 1)) (f := 33) (ρ := [some (.d (tw t)), some (.loc S.length), some (.d (.int r.1)), some (.d (.int r.2)), w]) (S := cd S (ys.map sp)) (ev_var 0 _ rfl) (ev_bin_of (ev_var 2 _ rfl) (ev_cst (.int 1)) (bin_sub _ _)) e33
    by_cases c : r.2 = b
    · rw [decide_eq_true c] at tb
      rw [if_pos c, ← hl2] at hy
      exact ⟨[some (.d (tw t)), some (.loc S.length), some (.d (.int r.1)), some (.d (.int r.2)), w], _, _, by simp [rw_], xs_asg g1 rfl (xs_skip tb xs_end), rfl, ys, d ++ [r], _, _, _, rfl, rfl, hd', hy⟩
    · rw [decide_eq_false c] at tb
      rw [if_neg c, ← List.append_assoc, ← hl2] at hy
      refine ⟨[some (.d (tw t)), some (.loc S.length), some (.d (.int r.1)), some (.d (.int r.2)), w], [some (.d (tw t)), some (.loc S.length), some (.d (.int r.1)), some (.d (.int r.2)), some (.d (.int b))], cd S ((ys ++ [(r.1, r.1 + r.2, r.1 + b)]).map sp), by simp [rw_], ?_, rfl, ys ++ [(r.1, r.1 + r.2, r.1 + b)], d ++ [r], _, _, _, rfl, rfl, hd', by rw [← hy, hl2]⟩
      rw [List.map_append]
      exact xs_asg g1 rfl (xs_thenNx tb (xs_app (Z := S) rfl (ev_tup_of (evps_c (ev_var 2 _ rfl) (evps_c (ev_bin_of (ev_var 2 _ rfl) (ev_var 3 _ rfl) (bin_add _ _)) (evps_c (ev_bin_of (ev_var 2 _ rfl) (ev_var 4 _ rfl) (bin_add _ _)) evps_nil)))) (by rw [List.length_map]; omega) xs_end) xs_end)
  · rintro ρ' S' ⟨ys, d, u, v, w, rfl, rfl, hd, hy⟩
    have : ys = jumpsL t.o t.rs := by rw [← hy]; simp [jumpsL]
    rw [this]
    exact (q_ret _ (u1_last rfl (u1_tupl _))).trans (by simp)
end M29
/-! part M29g -/
set_option linter.all false
set_option maxRecDepth 100000
set_option maxHeartbeats 1000000
/-! Rows of like counts. -/
namespace In
open PySem
variable {F : Fns} {W : Nat} {ρ : Env} {S S1 S2 : Sto}
theorem q_forG {n m : Nat} {t : T} {it : It} {b cs : Cs} {gs : List Nat} {r : R PyData} (G : Nat → PyData) (I : Nat → Env → Sto → Prop) (hit : evI F it ρ S = .ok ((List.range m).map G, gs) S1) (h0 : I 0 ρ S1)
    (step : ∀ i ρ S, i < m → I i ρ S → ∃ ρ1 ρ2 S2, put t (G i) ρ = some ρ1 ∧ xs F W b ρ1 S = .ok (.nx ρ2) S2 ∧ chk gs S1 S2 = true ∧ I (i + 1) ρ2 S2) (after : ∀ ρ' S', I m ρ' S' → fin n (xs F W cs ρ' S') = r) :
    fin n (xs F W (.cons (.loop t it b) cs) ρ S) = r := by
  refine q_forE G (List.range m) (fun l ρ S => ∃ i, l = List.range' i (m - i) ∧ i ≤ m ∧ I i ρ S) hit ⟨0, by rw [List.range_eq_range']; rfl, Nat.zero_le _, h0⟩ ?_ ?_
  · rintro a l ρ S ⟨i, hl, hi, h⟩
    have hin : i < m := by
      refine Nat.lt_of_not_le fun q => ?_
      have : m - i = 0 := by omega
      rw [this] at hl
      cases hl
    obtain ⟨q, hq⟩ : ∃ q, m - i = q + 1 := ⟨m - i - 1, by omega⟩
    rw [hq, List.range'_succ] at hl
    injection hl with ha hl
    subst ha
    obtain ⟨ρ1, ρ2, S2, h1, h2, h3, h4⟩ := step a ρ S hin h
    exact ⟨ρ1, ρ2, S2, h1, h2, h3, a + 1, by rw [hl]; congr 1; omega, by omega, h4⟩
  · rintro ρ' S' ⟨i, hl, hi, h⟩
    have : i = m := by
      have := congrArg List.length hl
      simp at this
      omega
    subst this
    exact after ρ' S' h
theorem range2_n (i : Int) (n : Nat) (h : -4611686018427387904 ≤ i) (h2 : i + n < 4611686018427387904) : range2 i (i + n) = some ((List.range n).map fun (k : Nat) => .int (i + (k : Int))) := by
  unfold range2
  rw [if_pos (by simp [rangeOk]; omega)]
  have : (i + (n : Int) - i).toNat = n := by omega
  rw [this, upFrom_range, List.map_map]
  rfl
theorem evI_r2 {a b : E} {i j : Int} {n : Nat} (h1 : ev F a ρ S = .ok (.d (.int i)) S) (h2 : ev F b ρ S = .ok (.d (.int j)) S) (hj : j = i + n) (h : -4611686018427387904 ≤ i) (h3 : i + n < 4611686018427387904) : evI F (.rng2 a b) ρ S = .ok ((List.range n).map fun (k : Nat) => .int (i + (k : Int)), []) S := by
  subst hj
  simp only [evI, h1, h2, R.bind_ok, range2_n i n h h3, Option.map_some, R.opt_some]
theorem ev_iteB {c a b : E} {t : Bool} (h : tst F c ρ S = .ok t S1) : ev F (.ite c a b) ρ S = if t then ev F a ρ S1 else ev F b ρ S1 := by
  unfold tst at h
  rw [ev_ite]
  have e : ((ev F c ρ S).bind fun v S1 => (test S1 v).bind fun t S2 => if t then ev F a ρ S2 else ev F b ρ S2) = ((ev F c ρ S).bind fun v S1 => test S1 v).bind fun t S2 => if t then ev F a ρ S2 else ev F b ρ S2 := by
    cases ev F c ρ S <;> rfl
  rw [e, h]
  rfl
theorem set_last {α : Type} {xs : List α} (h : xs ≠ []) (x : α) : xs.set (xs.length - 1) x = xs.dropLast ++ [x] := by
  have e := List.dropLast_concat_getLast h
  generalize xs.getLast h = z at e
  generalize xs.dropLast = d at e ⊢
  subst e
  simp
end In
namespace M29
open PySem In Tx P29
def cnt (t : Tn) (L : Int) : Int := ((minsL t L).length : Nat)
theorem stepP_len (f : List Sp) (x c : Int) : (stepP f x c).length ≤ f.length + 1 := by
  unfold stepP
  split
  · split
    · simp
      all_goals omega
    · simp
  · simp
theorem runP_len (g : Int → Int) (b : Int) : ∀ n : Nat, (runP g b n).length ≤ n
  | 0 => Nat.le_refl _
  | n + 1 => Nat.le_trans (stepP_len _ _ _) (Nat.succ_le_succ (runP_len g b n))
theorem last_sp {ys : List Sp} {l : Sp} (h : ys.getLast? = some l) : index (.list (ys.map sp)) (.int (-1)) = some (sp l) := index_neg1 (by rw [List.getLast?_map, h]; rfl)
theorem ne_of_last {ys : List Sp} {l : Sp} (h : ys.getLast? = some l) : ys ≠ [] := by
  rintro rfl
  cases h
theorem f14 (k : Nat) {t : Tn} (h : OkT t) {b e : Int} {n : Nat} (he : e = b + n) (hb : -3000000 ≤ b ∧ b ≤ 3000000) (hn : n ≤ 3000) (S : Sto) : callAt fns W (k + 2) 14 [.d (tw t), .d (.int b), .d (.int e)] S = .ok (.list ((runP (cnt t) b n).map sp)) S := by
  rw [r_14, b_14]
  have cs : ev (callAt fns W (k + 1)) (.lc [7] (.nm 7) (.rng2 (.var 1) (.var 2)) .nil (.u1 .len (.call 9 (.cons (.var 0) (.cons (.var 7) .nil)) []))) [some (.d (tw t)), some (.d (.int b)), some (.d (.int e)), none, none, none, none, none] S = .ok (.d (.list ((List.range n).map fun (j : Nat) => .int (cnt t (b + (j : Int)))))) S := by
    refine ev_lc0 (gs := []) (fun (j : Nat) => .int (b + (j : Int))) _ (evI_r2 (ev_var _ _ rfl) (ev_var _ _ rfl) he (by omega) (by omega)) (by simp only [cap, List.length_range]; omega) fun j hj => ⟨[some (.d (tw t)), some (.d (.int b)), some (.d (.int e)), none, none, none, none, some (.d (.int (b + (j : Int))))], rfl, ?_⟩
    rw [ev_u1_of (ev_call2 (ev_var 0 _ rfl) (ev_var 7 _ rfl) (f9 k h _ S)) (show u1 .len _ = some (.int (cnt t (b + (j : Int)))) by rw [u1_lenl, List.length_map]; rfl)]
    rfl
  refine q_asg _ cs rfl ?_
  simp only [List.set_cons_succ, List.set_cons_zero]
  refine q_new [] (by simp) ?_
  simp only [List.set_cons_succ, List.set_cons_zero]
  have hen : enumL 0 ((List.range n).map fun (j : Nat) => PyData.int (cnt t (b + (j : Int)))) = (List.range n).map fun (j : Nat) => .tuple [.int (j : Int), .int (cnt t (b + (j : Int)))] := by
    have := enum_rng ((List.range n).map fun (j : Nat) => PyData.int (cnt t (b + (j : Int)))) (fun j => .int (cnt t (b + (j : Int)))) fun i hi => by
      rw [List.length_map, List.length_range] at hi
      rw [List.getElem?_map, List.getElem?_range hi]; rfl
    rw [List.length_map, List.length_range] at this
    exact this
  generalize hCL : PyData.list ((List.range n).map fun (j : Nat) => PyData.int (cnt t (b + (j : Int)))) = CL
  refine q_forG (m := n) (gs := []) (S1 := cd S []) (fun (j : Nat) => .tuple [.int (j : Int), .int (cnt t (b + (j : Int)))]) (fun i ρ S' => ∃ (u v : Option Vl), ρ = [some (.d (tw t)), some (.d (.int b)), some (.d (.int e)), some (.d CL), some (.loc S.length), u, v, none] ∧ S' = cd S ((runP (cnt t) b i).map sp)) (by rw [evI_enum, ev_var 3 _ rfl, ← hCL]; simp [hen]) ⟨none, none, rfl, rfl⟩ ?_ ?_
  · rintro i ρ S' hi ⟨u, v, rfl, rfl⟩
    have hlen := runP_len (cnt t) b i
    have hrun : runP (cnt t) b (i + 1) = stepP (runP (cnt t) b i) (b + i) (cnt t (b + i)) := rfl
    generalize cnt t (b + (i : Int)) = c at *
    generalize runP (cnt t) b i = ys at *
    have nw : ev (callAt fns W (k + 1)) (.tup (.cons (.bin .add (.var 1) (.var 5)) (.cons (.bin .add (.bin .add (.var 1) (.var 5)) (.cst (.int 1))) (.cons (.var 6) .nil)))) [some (.d (tw t)), some (.d (.int b)), some (.d (.int e)), some (.d CL), some (.loc S.length), some (.d (.int (i : Int))), some (.d (.int c)), none] (cd S (ys.map sp)) = .ok (.d (sp (b + i, b + i + 1, c))) (cd S (ys.map sp)) :=
      ev_tup_of (evps_c (ev_bin_of (ev_var _ _ rfl) (ev_var _ _ rfl) (bin_add _ _)) (evps_c (ev_bin_of (ev_bin_of (ev_var _ _ rfl) (ev_var _ _ rfl) (bin_add _ _)) (ev_cst _) (bin_add _ _)) (evps_c (ev_var _ _ rfl) evps_nil)))
    refine ⟨[some (.d (tw t)), some (.d (.int b)), some (.d (.int e)), some (.d CL), some (.loc S.length), some (.d (.int (i : Int))), some (.d (.int c)), none], [some (.d (tw t)), some (.d (.int b)), some (.d (.int e)), some (.d CL), some (.loc S.length), some (.d (.int (i : Int))), some (.d (.int c)), none], cd S ((runP (cnt t) b (i + 1)).map sp), by simp, ?_, rfl, _, _, rfl, rfl⟩
    rw [hrun]
    unfold stepP
    cases hl : ys.getLast? with
    | none =>
      have : ys = [] := List.getLast?_eq_none_iff.mp hl
      subst this
      have tt := (tst_and (e := .cmp .eq (.ix (.ix (.var 4) (.u1 .neg (.cst (.int 1)))) (.cst (.int 2))) (.var 6)) (tst_last (F := callAt fns W (k + 1)) (ρ := [some (.d (tw t)), some (.d (.int b)), some (.d (.int e)), some (.d CL), some (.loc S.length), some (.d (.int (i : Int))), some (.d (.int c)), none]) (Z := S) (i := 4) (ys := []) rfl)).trans rfl
      exact xs_elseNx tt (xs_app (Z := S) (ys := []) rfl nw (by simp) xs_end) xs_end
    | some l =>
      have hne := ne_of_last hl
      have lx := ix_last (F := callAt fns W (k + 1)) (ρ := [some (.d (tw t)), some (.d (.int b)), some (.d (.int e)), some (.d CL), some (.loc S.length), some (.d (.int (i : Int))), some (.d (.int c)), none]) (Z := S) (i := 4) (ys := ys.map sp) (e := .u1 .neg (.cst (.int 1))) rfl (ev_u1_of (ev_cst _) (u1_neg 1)) (last_sp hl)
      have tt : tst (callAt fns W (k + 1)) (.and (.var 4) (.cmp .eq (.ix (.ix (.var 4) (.u1 .neg (.cst (.int 1)))) (.cst (.int 2))) (.var 6))) [some (.d (tw t)), some (.d (.int b)), some (.d (.int e)), some (.d CL), some (.loc S.length), some (.d (.int (i : Int))), some (.d (.int c)), none] (cd S (ys.map sp)) = .ok (decide (l.2.2 = c)) (cd S (ys.map sp)) := by
        rw [tst_and (tst_last rfl), if_pos (by cases ys <;> simp at hne ⊢)]
        exact tst_b (ev_cmp_of (ev_ix_of lx (ev_cst (.int 2)) (ix2 _ _ _ _)) (ev_var 6 _ rfl) (cmp_eq _ _))
      simp only
      by_cases cc : l.2.2 = c
      · rw [decide_eq_true cc] at tt
        rw [if_pos cc]
        refine xs_thenNx tt (xs_sixL (n := (ys.map sp).length - 1) rfl (ev_tup_of (evps_c (ev_ix_of lx (ev_cst (.int 0)) (ix0 _ _)) (evps_c (ev_bin_of (ev_bin_of (ev_var 1 _ rfl) (ev_var 5 _ rfl) (bin_add _ _)) (ev_cst (.int 1)) (bin_add _ _)) (evps_c (ev_var 6 _ rfl) evps_nil)))) (ev_u1_of (ev_cst (.int 1)) (u1_neg 1)) (ixN_last _ (by rw [List.length_map]; exact List.length_pos_iff.mpr hne)) xs_end) ?_
        rw [set_last (by simpa using hne), List.map_append, List.map_dropLast]
        all_goals exact xs_end
      · rw [decide_eq_false cc] at tt
        rw [if_neg cc, List.map_append]
        exact xs_elseNx tt (xs_app (Z := S) rfl nw (by rw [List.length_map]; omega) xs_end) xs_end
  · rintro ρ' S' ⟨u, v, rfl, rfl⟩
    exact q_retLast rfl
end M29
/-! part M29h -/
set_option linter.all false
set_option maxRecDepth 100000
set_option maxHeartbeats 1000000
/-! Odd times. -/
namespace M29
open PySem In Tx P29
theorem f15 (k : Nat) (x y : PyData) (S : Sto) : callAt fns W (k + 4) 15 [.d x, .d y] S = if inR (-2000000) 2000000 x then (if inR 1 3000 y then .ok .none S else .ex "ArgumentError" (.str "length") S) else .ex "ArgumentError" (.str "begin") S := by
  rw [r_15]
  by_cases h : inR (-2000000) 2000000 x = true
  · by_cases h2 : inR 1 3000 y = true <;> simp [b_15, f6, f1, h, h2]
  · simp [b_15, f6, h]
theorem f15g (k : Nat) {b : Int} {n : Nat} (hb : -2000000 ≤ b ∧ b ≤ 2000000) (hn : 1 ≤ n ∧ n ≤ 3000) (S : Sto) : callAt fns W (k + 4) 15 [.d (.int b), .d (.int (n : Int))] S = .ok .none S := by
  have h2 : inR 1 3000 (.int (n : Int)) = true := by simp [inR]; omega
  rw [f15, if_pos (inR_m hb), if_pos h2]
theorem f16 (k : Nat) {t : Tn} (h : OkT t) {b : Int} {n : Nat} (hb : -2000000 ≤ b ∧ b ≤ 2000000) (hn : 1 ≤ n ∧ n ≤ 3000) (S : Sto) : callAt fns W (k + 5) 16 [.d (tw t), .d (.int b), .d (.int (n : Int))] S = .ok (.tuple ((runL (cnt t) b n).map sp)) S := by
  rw [r_16, b_16, runL_eq]
  have hl := runP_len (cnt t) b n
  refine q_drop (x := .none) (ev_call_of (evs_c (ev_var _ _ rfl) evs_nil) (f5g k h _ S)) ?_
  refine q_drop (x := .none) (ev_call2 (ev_var _ _ rfl) (ev_var _ _ rfl) (f15g k hb hn S)) ?_
  have e14 := f14 (k + 2) h (b := b) (e := b + (n : Int)) rfl (by omega) hn.2 S
  refine (q_ret _ (ev_u1_of (ev_lc (gs := []) sp odd1 sp (l := runP (cnt t) b n) (by rw [evI_e, ev_call3 (ev_var 0 _ rfl) (ev_var 1 _ rfl) (ev_bin_of (ev_var 1 _ rfl) (ev_var 2 _ rfl) (bin_add _ _)) e14]; rfl) (by simp only [cap]; omega) fun s hs => ⟨[some (.d (tw t)), some (.d (.int b)), some (.d (.int (n : Int))), some (.d (sp s))], rfl, by
    rw [evt_cons, ev_cmp_of (ev_ix_of (ev_var 3 _ rfl) (ev_cst _) (ix2 _ _ _ _)) (ev_cst _) (cmp_ne _ _)]
    simp [odd1], fun _ => by rw [ev_var _ _ rfl]; rfl⟩) (u1_tupl _))).trans (by simp)
theorem stepL_len (f : List Sp) (x c : Int) : (stepL f x c).length ≤ f.length + 1 := by
  unfold stepL
  split
  · exact Nat.le_succ _
  · split
    · split
      · simp
        all_goals omega
      · simp
    · simp
theorem runL_len (g : Int → Int) (b : Int) : ∀ n : Nat, (runL g b n).length ≤ n
  | 0 => Nat.le_refl _
  | n + 1 => Nat.le_trans (stepL_len _ _ _) (Nat.succ_le_succ (runL_len g b n))
theorem f35 (k : Nat) {t : Tn} (h : OkT t) {b : Int} {n : Nat} (hb : -3000000 ≤ b ∧ b ≤ 3000000) (hn : n ≤ 3000) (S : Sto) : callAt fns W (k + 3) 35 [.d (tw t), .d (.int b), .d (.int (n : Int))] S = .ok (.tuple ((runL (cnt t) b n).map sp)) S := by
  rw [r_35, b_35]
  refine q_new [] (by simp) ?_
  simp only [List.set_cons_succ, List.set_cons_zero]
  refine q_forG (m := n) (gs := []) (S1 := cd S []) (fun (j : Nat) => .int (b + (j : Int))) (fun i ρ S' => ∃ (w u v : Option Vl), ρ = [some (.d (tw t)), some (.d (.int b)), some (.d (.int (n : Int))), some (.loc S.length), w, u, v] ∧ S' = cd S ((runL (cnt t) b i).map sp)) (evI_r2 (ev_var _ _ rfl) (ev_bin_of (ev_var _ _ rfl) (ev_var _ _ rfl) (bin_add _ _)) rfl (by omega) (by omega)) ⟨none, none, none, rfl, rfl⟩ ?_ ?_
  · rintro i ρ S' hi ⟨w, u, v, rfl, rfl⟩
    have hlen := runL_len (cnt t) b i
    have hrun : runL (cnt t) b (i + 1) = stepL (runL (cnt t) b i) (b + i) (cnt t (b + i)) := rfl
    have e34 := f34 k h (b + (i : Int)) (cd S ((runL (cnt t) b i).map sp))
    have hc : u1 .len (.list (iL (minsL t (b + (i : Int))))) = some (.int (cnt t (b + (i : Int)))) := by rw [u1_lenl, List.length_map]; rfl
    generalize cnt t (b + (i : Int)) = c at *
    generalize runL (cnt t) b i = ys at *
    have g5 := ev_u1_of (ev_call2 (F := (callAt fns W (k + 2))) (f := 34) (ρ := [some (.d (tw t)), some (.d (.int b)), some (.d (.int (n : Int))), some (.loc S.length), some (.d (.int (b + (i : Int)))), u, v]) (S := (cd S (ys.map sp))) (ev_var 0 _ rfl) (ev_var 4 _ rfl) e34) hc
    have nw : ∀ z, ev (callAt fns W (k + 2)) (.tup (.cons (.var 4) (.cons (.bin .add (.var 4) (.cst (.int 1))) (.cons (.var 5) .nil)))) [some (.d (tw t)), some (.d (.int b)), some (.d (.int (n : Int))), some (.loc S.length), some (.d (.int (b + (i : Int)))), some (.d (.int c)), z] (cd S (ys.map sp)) = .ok (.d (sp (b + i, b + i + 1, c))) (cd S (ys.map sp)) := fun z =>
      ev_tup_of (evps_c (ev_var _ _ rfl) (evps_c (ev_bin_of (ev_var _ _ rfl) (ev_cst _) (bin_add _ _)) (evps_c (ev_var _ _ rfl) evps_nil)))
    have t1 : ∀ z, tst (callAt fns W (k + 2)) (.cmp .ne (.var 5) (.cst (.int 1))) [some (.d (tw t)), some (.d (.int b)), some (.d (.int (n : Int))), some (.loc S.length), some (.d (.int (b + (i : Int)))), some (.d (.int c)), z] (cd S (ys.map sp)) = .ok (!decide (c = 1)) (cd S (ys.map sp)) := fun z => tst_b (ev_cmp_of (ev_var _ _ rfl) (ev_cst _) (cmp_ne _ _))
    have gl : ev (callAt fns W (k + 2)) (.ite (.cmp .ne (.var 3) (.lst .nil)) (.ix (.var 3) (.bin .sub (.u1 .len (.var 3)) (.cst (.int 1)))) (.cst .none)) [some (.d (tw t)), some (.d (.int b)), some (.d (.int (n : Int))), some (.loc S.length), some (.d (.int (b + (i : Int)))), some (.d (.int c)), v] (cd S (ys.map sp)) = .ok (.d (match ys.getLast? with | none => .none | some l => sp l)) (cd S (ys.map sp)) := by
      rw [ev_iteB (tst_b (cmp_last rfl (ev_lst_of evps_nil) (ne_nil fun z hz => by
        obtain ⟨y, _, rfl⟩ := List.mem_map.mp hz
        exact flat_sp y)))]
      cases hl : ys.getLast? with
      | none =>
        have : ys = [] := List.getLast?_eq_none_iff.mp hl
        subst this
        rfl
      | some l =>
        have hne := ne_of_last hl
        have hpos := List.length_pos_iff.mpr hne
        rw [if_pos (by simpa using hne)]
        refine ix_last rfl (ev_bin_of (u1_last rfl (u1_lenl _)) (ev_cst _) (bin_sub _ _)) ?_
        refine ix_int (i := ys.length - 1) (by rw [List.length_map]; omega) ?_
        rw [List.getElem?_map, ← List.getLast?_eq_getElem?, hl]
        rfl
    refine ⟨[some (.d (tw t)), some (.d (.int b)), some (.d (.int (n : Int))), some (.loc S.length), some (.d (.int (b + (i : Int)))), u, v], [some (.d (tw t)), some (.d (.int b)), some (.d (.int (n : Int))), some (.loc S.length), some (.d (.int (b + (i : Int)))), some (.d (.int c)), some (.d (match ys.getLast? with | none => .none | some l => sp l))], cd S ((runL (cnt t) b (i + 1)).map sp), rfl, ?_, rfl, _, _, _, rfl, rfl⟩
    refine xs_asg g5 rfl ?_
    simp only [List.set_cons_succ, List.set_cons_zero]
    refine xs_asg gl rfl ?_
    simp only [List.set_cons_succ, List.set_cons_zero]
    rw [hrun]
    unfold stepL
    by_cases c1 : c = 1
    · rw [if_pos c1]
      have t1' := t1 (some (.d (match ys.getLast? with | none => .none | some l => sp l)))
      rw [decide_eq_true c1] at t1'
      exact xs_elseNx ((tst_and t1').trans rfl) (xs_skip t1' xs_end) xs_end
    · rw [if_neg c1]
      cases hl : ys.getLast? with
      | none =>
        have t1' := t1 (some (.d .none))
        rw [decide_eq_false c1] at t1'
        have t2 : tst (callAt fns W (k + 2)) (.and (.cmp .ne (.var 5) (.cst (.int 1))) (.and (.cmp .isnot (.var 6) (.cst .none)) (.and (.cmp .eq (.ix (.var 6) (.cst (.int 1))) (.var 4)) (.cmp .eq (.ix (.var 6) (.cst (.int 2))) (.var 5))))) [some (.d (tw t)), some (.d (.int b)), some (.d (.int (n : Int))), some (.loc S.length), some (.d (.int (b + (i : Int)))), some (.d (.int c)), some (.d (.none))] (cd S (ys.map sp)) = .ok false (cd S (ys.map sp)) := by
          rw [tst_and t1', if_pos (by decide), tst_and (tst_b (ev_cmp_of (ev_var 6 _ rfl) (ev_cst _) (cmp_isnot _)))]
          rfl
        rw [List.map_append]
        exact xs_elseNx t2 (xs_thenNx t1' (xs_app (Z := S) rfl (nw _) (by rw [List.length_map]; omega) xs_end) xs_end) xs_end
      | some l =>
        have hne := ne_of_last hl
        have hpos := List.length_pos_iff.mpr hne
        have t1' := t1 (some (.d (sp l)))
        rw [decide_eq_false c1] at t1'
        have t2 : tst (callAt fns W (k + 2)) (.and (.cmp .ne (.var 5) (.cst (.int 1))) (.and (.cmp .isnot (.var 6) (.cst .none)) (.and (.cmp .eq (.ix (.var 6) (.cst (.int 1))) (.var 4)) (.cmp .eq (.ix (.var 6) (.cst (.int 2))) (.var 5))))) [some (.d (tw t)), some (.d (.int b)), some (.d (.int (n : Int))), some (.loc S.length), some (.d (.int (b + (i : Int)))), some (.d (.int c)), some (.d (sp l))] (cd S (ys.map sp)) = .ok (decide (l.2.1 = b + i ∧ l.2.2 = c)) (cd S (ys.map sp)) := by
          rw [tst_and t1', if_pos (by decide), tst_and (tst_b (ev_cmp_of (ev_var 6 _ rfl) (ev_cst _) (cmp_isnot _)))]
          rw [show (!In.isNone (sp l)) = true from rfl, if_pos rfl, tst_and (tst_b (ev_cmp_of (ev_ix_of (ev_var 6 _ rfl) (ev_cst (.int 1)) (ix1 _ _ _)) (ev_var 4 _ rfl) (cmp_eq _ _)))]
          by_cases q1 : l.2.1 = b + i
          · rw [decide_eq_true q1, if_pos rfl, tst_b (ev_cmp_of (ev_ix_of (ev_var 6 _ rfl) (ev_cst (.int 2)) (ix2 _ _ _ _)) (ev_var 5 _ rfl) (cmp_eq _ _))]
            congr 1
            exact decide_eq_decide.mpr ⟨fun q => ⟨q1, q⟩, fun q => q.2⟩
          · rw [decide_eq_false q1, if_neg (by decide), decide_eq_false fun q => q1 q.1]
        simp only
        by_cases cc : l.2.1 = b + i ∧ l.2.2 = c
        · rw [decide_eq_true cc] at t2
          rw [if_pos cc]
          refine xs_thenNx t2 (xs_sixL (j := ((ys.length - 1 : Nat) : Int)) (n := (ys.map sp).length - 1) rfl (ev_tup_of (evps_c (ev_ix_of (ev_var 6 _ rfl) (ev_cst (.int 0)) (ix0 _ _)) (evps_c (ev_bin_of (ev_var 4 _ rfl) (ev_cst (.int 1)) (bin_add _ _)) (evps_c (ev_var 5 _ rfl) evps_nil)))) (ev_bin_of (u1_last rfl (u1_lenl _)) (ev_cst (.int 1)) (show binop .sub _ _ = some (.int ((ys.length - 1 : Nat) : Int)) by rw [bin_sub, List.length_map]; congr 2; omega)) (by rw [List.length_map]; exact ixN_nat _ _ (by omega)) xs_end) ?_
          rw [set_last (by simpa using hne), List.map_append, List.map_dropLast]
          all_goals exact xs_end
        · rw [decide_eq_false cc] at t2
          rw [if_neg cc, List.map_append]
          exact xs_elseNx t2 (xs_thenNx t1' (xs_app (Z := S) rfl (nw _) (by rw [List.length_map]; omega) xs_end) xs_end) xs_end
  · rintro ρ' S' ⟨w, u, v, rfl, rfl⟩
    exact (q_ret _ (u1_last rfl (u1_tupl _))).trans (by simp)
end M29
/-! part M29i -/
set_option linter.all false
set_option maxRecDepth 100000
set_option maxHeartbeats 1000000
/-! The begin of a day. -/
namespace M29
open PySem In Tx P29
def dawnS (D : Int) : Option Int → List Rp → Option Int
  | b, [] => b
  | b, p :: r => dawnS D (if nx r (low D p.2 p.1) then mn b (low D p.2 p.1) else b) r
theorem dawnS_eq (D : Int) : ∀ (rs : List Rw) (b lo : Option Int) (o : Int), dawnS D b ((lo, o) :: rs.map fun r => (some r.1, r.2)) = dawnL D b lo o rs
  | [], b, lo, o => rfl
  | r :: rs, b, lo, o => by
    have ih := dawnS_eq D rs (if nxt (r :: rs) (low D o lo) then mn b (low D o lo) else b) (some r.1) r.2
    rw [dawnL_cons, ← ih]
    rfl
theorem dawnS_cons (D : Int) (b : Option Int) (p : Rp) (r : List Rp) : dawnS D b (p :: r) = dawnS D (if nx r (low D p.2 p.1) then mn b (low D p.2 p.1) else b) r := rfl
theorem f17 (k : Nat) {t : Tn} (h : OkT t) (day : Int) (S : Sto) : ∃ x, Least (Fit (1440 * day) t.o t.rs none) x ∧ callAt fns W (k + 1) 17 [.d (tw t), .d (.int day)] S = .ok (.int x) S := by
  obtain ⟨x, hx, hL⟩ := dawnL_ok (1440 * day) t.rs none none t.o h.asc
  refine ⟨x, hL, ?_⟩
  have hx' : dawnS (1440 * day) none (rows t) = some x := by
    rw [show rows t = (none, t.o) :: t.rs.map fun r => (some r.1, r.2) from rfl, dawnS_eq, hx]
    rfl
  rw [r_17, b_17]
  have hl := h.len
  refine q_asg (.none) (ev_cst _) rfl ?_
  simp only [List.set_cons_succ, List.set_cons_zero]
  refine q_asg _ (rows_ev _ t hl _ S rfl) rfl ?_
  simp only [List.set_cons_succ, List.set_cons_zero]
  have hen : enumL 0 ((rows t).map pr0) = (List.range (rows t).length).map fun (j : Nat) => .tuple [.int (j : Int), pr0 (gr t j)] := by
    have := enum_rng ((rows t).map pr0) (fun k => pr0 (gr t k)) fun i hi => gr_at (by simpa using hi)
    rw [List.length_map] at this
    exact this
  refine q_forG (m := (rows t).length) (gs := []) (S1 := S) (fun (j : Nat) => .tuple [.int (j : Int), pr0 (gr t j)]) (fun i ρ S' => ∃ (bst : Option Int) (u4 u5 u6 u7 : Option Vl), ρ = [some (.d (tw t)), some (.d (.int day)), some (.d (loD bst)), some (.d (.list ((rows t).map pr0))), u4, u5, u6, u7] ∧ S' = S ∧ dawnS (1440 * day) bst ((rows t).drop i) = some x) (by rw [evI_enum, ev_var 3 _ rfl]; simp [hen]) ⟨none, none, none, none, none, rfl, rfl, hx'⟩ ?_ ?_
  · rintro j ρ S' hj ⟨bst, u4, u5, u6, u7, rfl, rfl, hy⟩
    rw [gr_drop hj, dawnS_cons] at hy
    have hm : binop .mul (.int 1440) (.int day) = some (.int (1440 * day)) := mul_l 1440 day (by decide)
    have e1' : x1 (callAt fns W k) W (.ite (.and (.cmp .isnot (.var 6) (.cst .none)) (.cmp .lt (.var 5) (.var 6))) (.cons (.asg (.nm 5) (.var 6)) .nil) .nil) [some (.d (tw t)), some (.d (.int day)), some (.d (loD bst)), some (.d (.list ((rows t).map pr0))), some (.d (.int (j : Int))), some (.d (.int (1440 * day - (gr t j).2))), some (.d (loD (gr t j).1)), some (.d (.int (gr t j).2))] S' = .ok (.nx [some (.d (tw t)), some (.d (.int day)), some (.d (loD bst)), some (.d (.list ((rows t).map pr0))), some (.d (.int (j : Int))), some (.d (.int (low (1440 * day) (gr t j).2 (gr t j).1))), some (.d (loD (gr t j).1)), some (.d (.int (gr t j).2))]) S' := by
      generalize (PyData.list ((rows t).map pr0)) = RL
      generalize (gr t j) = p
      obtain ⟨lo, o⟩ := p
      simp only
      have ta : tst (callAt fns W k) (.cmp .isnot (.var 6) (.cst .none)) [some (.d (tw t)), some (.d (.int day)), some (.d (loD bst)), some (.d (RL)), some (.d (.int (j : Int))), some (.d (.int (1440 * day - o))), some (.d (loD lo)), some (.d (.int o))] S' = .ok (!In.isNone (loD lo)) S' := tst_b (ev_cmp_of (ev_var _ _ rfl) (ev_cst _) (cmp_isnot _))
      cases lo with
      | none => exact x1_no ((tst_and ta).trans rfl)
      | some l =>
        have tb : tst (callAt fns W k) (.and (.cmp .isnot (.var 6) (.cst .none)) (.cmp .lt (.var 5) (.var 6))) [some (.d (tw t)), some (.d (.int day)), some (.d (loD bst)), some (.d (RL)), some (.d (.int (j : Int))), some (.d (.int (1440 * day - o))), some (.d (loD (some l))), some (.d (.int o))] S' = .ok (decide (1440 * day - o < l)) S' := by
          rw [tst_and ta]
          exact tst_b (ev_cmp_of (ev_var _ _ rfl) (ev_var _ _ rfl) (cmp_lt _ _))
        unfold low
        by_cases c : 1440 * day - o < l
        · rw [decide_eq_true c] at tb
          simp only [if_pos c]
          exact (x1_yes tb).trans (xs_asg (ev_var _ _ rfl) rfl xs_end)
        · rw [decide_eq_false c] at tb
          simp only [if_neg c]
          exact x1_no tb
    have tn := tst_b (nx_ev (F := (callAt fns W k)) (ρ := [some (.d (tw t)), some (.d (.int day)), some (.d (loD bst)), some (.d (.list ((rows t).map pr0))), some (.d (.int (j : Int))), some (.d (.int (low (1440 * day) (gr t j).2 (gr t j).1))), some (.d (loD (gr t j).1)), some (.d (.int (gr t j).2))]) (S := S') (t := t) (m := low (1440 * day) (gr t j).2 (gr t j).1) (i := j) (a := 4) (b := 3) (c := 5) hj rfl rfl rfl)
    have eb : ev (callAt fns W k) (.ite (.cmp .is_ (.var 2) (.cst .none)) (.var 5) (.u2 .min (.var 2) (.var 5))) [some (.d (tw t)), some (.d (.int day)), some (.d (loD bst)), some (.d (.list ((rows t).map pr0))), some (.d (.int (j : Int))), some (.d (.int (low (1440 * day) (gr t j).2 (gr t j).1))), some (.d (loD (gr t j).1)), some (.d (.int (gr t j).2))] S' = .ok (.d (loD (mn bst (low (1440 * day) (gr t j).2 (gr t j).1)))) S' := by
      rw [ev_iteB (tst_b (ev_cmp_of (ev_var 2 _ rfl) (ev_cst _) (cmp_is _)))]
      cases bst with
      | none => rfl
      | some y =>
        rw [if_neg (by simp [loD, In.isNone])]
        exact ev_u2_of (ev_var 2 _ rfl) (ev_var 5 _ rfl) rfl
    cases hnx : nx ((rows t).drop (j + 1)) (low (1440 * day) (gr t j).2 (gr t j).1) with
    | true =>
      rw [hnx] at tn hy
      refine ⟨[some (.d (tw t)), some (.d (.int day)), some (.d (loD bst)), some (.d (.list ((rows t).map pr0))), some (.d (.int (j : Int))), u5, some (.d (loD (gr t j).1)), some (.d (.int (gr t j).2))], [some (.d (tw t)), some (.d (.int day)), some (.d (loD (mn bst (low (1440 * day) (gr t j).2 (gr t j).1)))), some (.d (.list ((rows t).map pr0))), some (.d (.int (j : Int))), some (.d (.int (low (1440 * day) (gr t j).2 (gr t j).1))), some (.d (loD (gr t j).1)), some (.d (.int (gr t j).2))], S', by simp [pr0], ?_, rfl, _, _, _, _, _, rfl, rfl, by simpa using hy⟩
      refine xs_asg (ev_bin_of (ev_bin_of (ev_cst _) (ev_var _ _ rfl) hm) (ev_var _ _ rfl) (bin_sub _ _)) rfl ?_
      simp only [List.set_cons_succ, List.set_cons_zero]
      refine xs_step e1' ?_
      exact xs_thenNx tn (xs_asg eb rfl xs_end) xs_end
    | false =>
      rw [hnx] at tn hy
      refine ⟨[some (.d (tw t)), some (.d (.int day)), some (.d (loD bst)), some (.d (.list ((rows t).map pr0))), some (.d (.int (j : Int))), u5, some (.d (loD (gr t j).1)), some (.d (.int (gr t j).2))], [some (.d (tw t)), some (.d (.int day)), some (.d (loD bst)), some (.d (.list ((rows t).map pr0))), some (.d (.int (j : Int))), some (.d (.int (low (1440 * day) (gr t j).2 (gr t j).1))), some (.d (loD (gr t j).1)), some (.d (.int (gr t j).2))], S', by simp [pr0], ?_, rfl, _, _, _, _, _, rfl, rfl, by simpa using hy⟩
      refine xs_asg (ev_bin_of (ev_bin_of (ev_cst _) (ev_var _ _ rfl) hm) (ev_var _ _ rfl) (bin_sub _ _)) rfl ?_
      simp only [List.set_cons_succ, List.set_cons_zero]
      refine xs_step e1' ?_
      exact xs_skip tn xs_end
  · rintro ρ' S' ⟨bst, u4, u5, u6, u7, rfl, rfl, hy⟩
    rw [List.drop_length] at hy
    have : bst = some x := hy
    subst this
    exact (q_ret _ (ev_var _ _ rfl)).trans (by simp [loD])
end M29
/-! part M29j -/
set_option linter.all false
set_option maxRecDepth 100000
set_option maxHeartbeats 1000000
/-! The begin of a day, the law's; days. -/
namespace M29
open PySem In Tx P29
theorem u1_min_is {l : List Int} {x : Int} (h1 : x ∈ l) (h2 : ∀ y ∈ l, x ≤ y) : u1 .min (.list (iL l)) = some (.int x) := by
  cases l with
  | nil => cases h1
  | cons a r => rw [u1_minl, ← minI_is h1 h2]
theorem f36 (k : Nat) {t : Tn} (h : OkT t) (day : Int) {x : Int} (hx : Least (Fit (1440 * day) t.o t.rs none) x) (S : Sto) : callAt fns W (k + 2) 36 [.d (tw t), .d (.int day)] S = .ok (.int x) S := by
  rw [r_36, b_36]
  have hl := h.len
  have hm : binop .mul (.int 1440) (.int day) = some (.int (1440 * day)) := mul_l 1440 day (by decide)
  have ho := offs_ev (callAt fns W (k + 1)) t hl 4 [some (.d (tw t)), some (.d (.int day)), none, none, none, none] S rfl rfl (fun _ => rfl) (fun _ => rfl)
  have hol : (offs t.o t.rs).length ≤ 9 := by simp [offs]; omega
  have l1 := ev_lc0 (F := callAt fns W (k + 1)) (S := S) (ws := [3]) (t := .nm 3) (it := .e (.bin .add (.lst (.cons (.ix (.var 0) (.cst (.int 1))) .nil)) (.lc [4] (.nm 4) (.e (.ix (.var 0) (.cst (.int 2)))) .nil (.ix (.var 4) (.cst (.int 1)))))) (e := .bin .sub (.bin .mul (.cst (.int 1440)) (.var 1)) (.var 3)) (ρ := [some (.d (tw t)), some (.d (.int day)), none, none, none, none]) (gs := []) (l := offs t.o t.rs) .int (fun f => .int (1440 * day - f)) (by rw [evI_e, ho]; rfl) (by simp only [cap]; omega) fun f hf => ⟨[some (.d (tw t)), some (.d (.int day)), none, some (.d (.int f)), none, none], rfl, by
    rw [ev_bin_of (ev_bin_of (ev_cst _) (ev_var 1 _ rfl) hm) (ev_var 3 _ rfl) (bin_sub _ _)]; rfl⟩
  have l2 := ev_lc0 (F := callAt fns W (k + 1)) (S := S) (ws := [4]) (t := .nm 4) (it := .e (.ix (.var 0) (.cst (.int 2)))) (e := .ix (.var 4) (.cst (.int 0))) (ρ := [some (.d (tw t)), some (.d (.int day)), none, none, none, none]) (gs := []) (l := t.rs) rw_ (fun r => .int r.1) (by rw [evI_e, ev_ix_of (ev_var 0 _ rfl) (ev_cst _) (ix2 _ _ _ _)]; rfl) (by simp only [cap]; omega) fun r hr => ⟨[some (.d (tw t)), some (.d (.int day)), none, none, some (.d (rw_ r)), none], rfl, by
    rw [ev_ix_of (ev_var 4 _ rfl) (ev_cst _) (show index (rw_ r) (.int 0) = some (.int r.1) from ix0 _ _)]; rfl⟩
  have e1 : ((offs t.o t.rs).map fun f => PyData.int (1440 * day - f)) ++ (t.rs.map fun r => PyData.int r.1) = iL (((offs t.o t.rs).map fun f => 1440 * day - f) ++ t.rs.map (·.1)) := by
    simp only [iL, List.map_append, List.map_map]
    rfl
  have l3 := ev_bin_of l1 l2 (bin_cat _ _ (by simp only [List.length_map, cap]; omega))
  rw [e1] at l3
  refine q_asg _ l3 rfl ?_
  simp only [List.set_cons_succ, List.set_cons_zero]
  have hmem : x ∈ ((offs t.o t.rs).map fun f => 1440 * day - f) ++ t.rs.map (·.1) := by
    rcases least_try hx with ⟨f, hf, e⟩ | ⟨r, hr, e⟩
    · exact List.mem_append_left _ (List.mem_map.mpr ⟨f, hf, e.symm⟩)
    · exact List.mem_append_right _ (List.mem_map.mpr ⟨r, hr, e.symm⟩)
  have hlen : (((offs t.o t.rs).map fun f => 1440 * day - f) ++ t.rs.map (·.1)).length ≤ 20 := by
    simp only [List.length_append, List.length_map]; omega
  generalize ((offs t.o t.rs).map fun f => 1440 * day - f) ++ t.rs.map (·.1) = T at *
  refine (q_ret (.int x) (ev_u1_of (ev_lc (gs := []) .int (fun m => decide (1440 * day ≤ m + off t.o t.rs m)) .int (l := T) (by rw [evI_e, ev_var 2 _ rfl]; rfl) (by simp only [cap]; omega) fun m hm' => ⟨[some (.d (tw t)), some (.d (.int day)), some (.d (.list (iL T))), none, none, some (.d (.int m))], rfl, by
    rw [evt_cons, ev_cmp_of (ev_bin_of (ev_var 5 _ rfl) (ev_call2 (ev_var 0 _ rfl) (ev_var 5 _ rfl) (f33 k t m S)) (bin_add _ _)) (ev_bin_of (ev_cst _) (ev_var 1 _ rfl) hm) (cmp_ge _ _)]; rfl, fun _ => by rw [ev_var _ _ rfl]; rfl⟩) (u1_min_is (List.mem_filter.mpr ⟨hmem, decide_eq_true hx.1.2⟩) fun y hy => hx.2 y ⟨rfl, of_decide_eq_true (List.mem_filter.mp hy).2⟩))).trans (by simp)
theorem f18 (k : Nat) (x : PyData) (S : Sto) : callAt fns W (k + 3) 18 [.d x] S = if inR (-1000) 1000 x then .ok .none S else .ex "ArgumentError" (.str "day") S := by
  rw [r_18]
  by_cases h : inR (-1000) 1000 x = true
  · simp [b_18, f1, h]
  · simp [b_18, f1, h]
theorem f18g (k : Nat) {d : Int} (h : -1000 ≤ d ∧ d ≤ 1000) (S : Sto) : callAt fns W (k + 3) 18 [.d (.int d)] S = .ok .none S := by
  have : inR (-1000) 1000 (.int d) = true := by simp [inR, h.1, h.2]
  rw [f18, if_pos this]
theorem f19 (k : Nat) {t : Tn} (h : OkT t) {d : Int} (hd : -1000 ≤ d ∧ d ≤ 1000) {x : Int} (hx : Least (Fit (1440 * d) t.o t.rs none) x) (S : Sto) : callAt fns W (k + 5) 19 [.d (tw t), .d (.int d)] S = .ok (.int x) S := by
  obtain ⟨x', hx', e⟩ := f17 (k + 3) h d S
  have := hx'.one hx
  subst this
  rw [r_19]
  simp [b_19, f5g k h, f18g (k + 1) hd, e]
theorem f20 (k : Nat) {t : Tn} (h : OkT t) {d : Int} (hd : -1000 ≤ d ∧ d ≤ 1000) {x y : Int} (hx : Least (Fit (1440 * d) t.o t.rs none) x) (hy : Least (Fit (1440 * (d + 1)) t.o t.rs none) y) (S : Sto) : callAt fns W (k + 5) 20 [.d (tw t), .d (.int d)] S = .ok (.int (y - x)) S := by
  obtain ⟨x', hx', e⟩ := f17 (k + 3) h d S
  have := hx'.one hx
  subst this
  obtain ⟨y', hy', e'⟩ := f17 (k + 3) h (d + 1) S
  have := hy'.one hy
  subst this
  rw [r_20]
  simp [b_20, f5g k h, f18g (k + 1) hd, e, e']
end M29
/-! part M29k -/
set_option linter.all false
set_option maxRecDepth 100000
set_option maxHeartbeats 1000000
/-! Who is awake. -/
namespace M29
open PySem In Tx P29
def awk (t : Tn) (h : Rw) (m : Int) : Bool := decide (h.1 ≤ (m + tof t m) % 1440) && decide ((m + tof t m) % 1440 < h.2)
theorem f23 (k : Nat) (t : Tn) (h : Rw) (m : Int) (S : Sto) : callAt fns W (k + 2) 23 [.d (tw t), .d (rw_ h), .d (.int m)] S = .ok (.bool (awk t h m)) S := by
  rw [r_23, b_23]
  have e7 := f7 k t m S
  have hmod : binop .mod (.int (m + tof t m)) (.int 1440) = some (.int ((m + tof t m) % 1440)) := mod_pos _ _ (by decide)
  have i0 : index (rw_ h) (.int 0) = some (.int h.1) := ix0 _ _
  have i1 : index (rw_ h) (.int 1) = some (.int h.2) := ix1 _ _ _
  refine (q_ret (.bool (awk t h m)) ?_).trans (by simp)
  unfold awk
  by_cases c : h.1 ≤ (m + tof t m) % 1440 <;> simp [e7, hmod, i0, i1, c]
abbrev twL (ts : List Tn) : List PyData := ts.map tw
abbrev twT (ts : List Tn) : PyData := .tuple (twL ts)
abbrev hrT (hs : List Rw) : PyData := .tuple (hs.map rw_)
def gT (ts : List Tn) (k : Nat) : Tn := ts.getD k ⟨"", 0, []⟩
def gH (hs : List Rw) (k : Nat) : Rw := hs.getD k (0, 0)
theorem gT_at {ts : List Tn} {k : Nat} (h : k < ts.length) : (twL ts)[k]? = some (tw (gT ts k)) := by
  unfold gT
  rw [List.getElem?_map, List.getD_eq_getElem?_getD, List.getElem?_eq_getElem h]
  rfl
theorem gT_mem {ts : List Tn} {k : Nat} (h : k < ts.length) : gT ts k ∈ ts := by
  unfold gT
  rw [List.getD_eq_getElem?_getD, List.getElem?_eq_getElem h]
  exact List.getElem_mem h
theorem gH_at {hs : List Rw} {k : Nat} (h : k < hs.length) : (hs.map rw_)[k]? = some (rw_ (gH hs k)) := by
  unfold gH
  rw [List.getElem?_map, List.getD_eq_getElem?_getD, List.getElem?_eq_getElem h]
  rfl
theorem ix_tw {ts : List Tn} {k : Nat} (h : k < ts.length) : index (twT ts) (.int (k : Int)) = some (tw (gT ts k)) := (index_nat (gT_at h)).2
theorem ix_hr {hs : List Rw} {k : Nat} (h : k < hs.length) : index (hrT hs) (.int (k : Int)) = some (rw_ (gH hs k)) := (index_nat (gH_at h)).2
/-- the numbers of those that sleep -/
def aslp (ts : List Tn) (hs : List Rw) (m : Int) : List Nat := (List.range ts.length).filter fun k => !awk (gT ts k) (gH hs k) m
theorem enum_tw (ts : List Tn) : enumL 0 (twL ts) = (List.range ts.length).map fun (k : Nat) => .tuple [.int (k : Int), tw (gT ts k)] := by
  have := enum_rng (twL ts) (fun k => tw (gT ts k)) fun i hi => gT_at (by simpa using hi)
  rw [List.length_map] at this
  exact this
theorem f24 (k : Nat) {ts : List Tn} {hs : List Rw} (hl : hs.length = ts.length) (h5 : ts.length ≤ 10) (m : Int) (S : Sto) : callAt fns W (k + 3) 24 [.d (twT ts), .d (hrT hs), .d (.int m)] S = .ok (.list (nL (aslp ts hs m))) S := by
  rw [r_24, b_24]
  refine (q_ret _ (ev_lc (gs := []) (fun (j : Nat) => .tuple [.int (j : Int), tw (gT ts j)]) (fun j => !awk (gT ts j) (gH hs j) m) (fun (j : Nat) => .int (j : Int)) (l := List.range ts.length) (by rw [evI_enum, ev_var 0 _ rfl]; simp [enum_tw]) (by simp only [cap, List.length_range]; omega) fun j hj => ⟨[some (.d (twT ts)), some (.d (hrT hs)), some (.d (.int m)), some (.d (.int (j : Int))), some (.d (tw (gT ts j)))], by simp [wipe], by
    rw [evt_cons]
    exact tst_not (tst_b (ev_call3 (ev_var 4 _ rfl) (ev_ix_of (ev_var 1 _ rfl) (ev_var 3 _ rfl) (ix_hr (by rw [hl]; exact List.mem_range.mp hj))) (ev_var 2 _ rfl) (f23 k _ _ m S))), fun _ => by rw [ev_var _ _ rfl]; rfl⟩)).trans (by simp [aslp])
theorem f38 (k : Nat) {ts : List Tn} {hs : List Rw} (hl : hs.length = ts.length) (h5 : ts.length ≤ 10) (m : Int) (S : Sto) : callAt fns W (k + 2) 38 [.d (twT ts), .d (hrT hs), .d (.int m)] S = .ok (.list (nL (aslp ts hs m))) S := by
  rw [r_38, b_38]
  refine q_new [] (by simp) ?_
  simp only [List.set_cons_succ, List.set_cons_zero]
  have el : ev (callAt fns W (k + 1)) (.u1 .len (.var 0)) [some (.d (twT ts)), some (.d (hrT hs)), some (.d (.int m)), some (.loc S.length), none] (cd S []) = .ok (.d (.int (ts.length : Nat))) (cd S []) := ev_u1_of (ev_var _ _ rfl) (by rw [u1_lent, List.length_map])
  refine q_forG (m := ts.length) (gs := []) (S1 := cd S []) (fun (j : Nat) => .int (j : Int)) (fun i ρ S' => ∃ u, ρ = [some (.d (twT ts)), some (.d (hrT hs)), some (.d (.int m)), some (.loc S.length), u] ∧ S' = cd S (nL ((List.range i).filter fun k => !awk (gT ts k) (gH hs k) m))) (evI_rlen el (by omega)) ⟨none, rfl, rfl⟩ ?_ ?_
  · rintro i ρ S' hi ⟨u, rfl, rfl⟩
    have hsnoc : (List.range (i + 1)).filter (fun k => !awk (gT ts k) (gH hs k) m) = ((List.range i).filter fun k => !awk (gT ts k) (gH hs k) m) ++ (if awk (gT ts i) (gH hs i) m then [] else [i]) := by
      rw [List.range_succ, List.filter_append]
      congr 1
      rw [List.filter_cons]
      cases awk (gT ts i) (gH hs i) m <;> rfl
    have hlen : ((List.range i).filter fun k => !awk (gT ts k) (gH hs k) m).length ≤ i := by
      have := List.length_filter_le (fun k => !awk (gT ts k) (gH hs k) m) (List.range i)
      rw [List.length_range] at this
      exact this
    rw [hsnoc]
    generalize ((List.range i).filter fun k => !awk (gT ts k) (gH hs k) m) = ys at *
    have e33 := f33 k (gT ts i) m (cd S (nL ys))
    have hmod : binop .mod (.int (m + tof (gT ts i) m)) (.int 1440) = some (.int ((m + tof (gT ts i) m) % 1440)) := mod_pos _ _ (by decide)
    have g0 := ev_ix_of (ev_ix_of (ev_var (F := callAt fns W (k + 1)) (ρ := [some (.d (twT ts)), some (.d (hrT hs)), some (.d (.int m)), some (.loc S.length), some (.d (.int (i : Int)))]) (S := cd S (nL ys)) 1 _ rfl) (ev_var 4 _ rfl) (ix_hr (by rw [hl]; exact hi))) (ev_cst (.int 0)) (show index (rw_ (gH hs i)) (.int 0) = some (.int (gH hs i).1) from ix0 _ _)
    have g1 := ev_ix_of (ev_ix_of (ev_var (F := callAt fns W (k + 1)) (ρ := [some (.d (twT ts)), some (.d (hrT hs)), some (.d (.int m)), some (.loc S.length), some (.d (.int (i : Int)))]) (S := cd S (nL ys)) 1 _ rfl) (ev_var 4 _ rfl) (ix_hr (by rw [hl]; exact hi))) (ev_cst (.int 1)) (show index (rw_ (gH hs i)) (.int 1) = some (.int (gH hs i).2) from ix1 _ _ _)
    have g2 := ev_bin_of (ev_u1_of (ev_bin_of (ev_var 2 _ rfl) (ev_call2 (ev_ix_of (ev_var (F := callAt fns W (k + 1)) (ρ := [some (.d (twT ts)), some (.d (hrT hs)), some (.d (.int m)), some (.loc S.length), some (.d (.int (i : Int)))]) (S := cd S (nL ys)) 0 _ rfl) (ev_var 4 _ rfl) (ix_tw hi)) (ev_var 2 _ rfl) e33) (bin_add _ _)) (u1_int _)) (ev_cst (.int 1440)) hmod
    have tt : tst (callAt fns W (k + 1)) (.not (.ch .le .lt (.ix (.ix (.var 1) (.var 4)) (.cst (.int 0))) (.bin .mod (.u1 .int (.bin .add (.var 2) (.call 33 (.cons (.ix (.var 0) (.var 4)) (.cons (.var 2) .nil)) []))) (.cst (.int 1440))) (.ix (.ix (.var 1) (.var 4)) (.cst (.int 1))))) [some (.d (twT ts)), some (.d (hrT hs)), some (.d (.int m)), some (.loc S.length), some (.d (.int (i : Int)))] (cd S (nL ys)) = .ok (!awk (gT ts i) (gH hs i) m) (cd S (nL ys)) := by
      refine tst_not (tst_b ?_)
      unfold awk
      rw [ev_ch, g0, R.bind_ok, g2, R.bind_ok]
      by_cases c : (gH hs i).1 ≤ (m + tof (gT ts i) m) % 1440
      · simp only [view_d, Option.bind_some, cmp_le, c, decide_true, chT_t, g1, R.bind_ok, cmp_lt, Option.map_some, R.opt_some, Bool.true_and]
      · simp only [view_d, Option.bind_some, cmp_le, c, decide_false, chT_f, Bool.false_and]
    cases ha : awk (gT ts i) (gH hs i) m with
    | true =>
      rw [ha] at tt
      refine ⟨[some (.d (twT ts)), some (.d (hrT hs)), some (.d (.int m)), some (.loc S.length), some (.d (.int (i : Int)))], _, cd S (nL ys), rfl, xs_skip tt xs_end, rfl, _, rfl, by simp⟩
    | false =>
      rw [ha] at tt
      refine ⟨[some (.d (twT ts)), some (.d (hrT hs)), some (.d (.int m)), some (.loc S.length), some (.d (.int (i : Int)))], _, cd S (nL ys ++ [.int (i : Int)]), rfl, xs_thenNx tt (xs_app (Z := S) rfl (ev_var 4 _ rfl) (by rw [List.length_map]; omega) xs_end) xs_end, rfl, _, rfl, by simp⟩
  · rintro ρ' S' ⟨u, rfl, rfl⟩
    exact q_retLast rfl
end M29
/-! part M29l -/
set_option linter.all false
set_option maxRecDepth 100000
set_option maxHeartbeats 1000000
/-! Towns together. -/
namespace M29
open PySem In Tx P29
theorem eqv_str (a b : Str) : PyData.eqv (.str a) (.str b) = decide (a = b) := by
  by_cases h : a = b <;> simp [PyData.eqv, h]
def ddS : List Str → List Str → List Str
  | acc, [] => acc
  | acc, t :: r => if t ∈ acc then ddS acc r else ddS (acc ++ [t]) r
theorem kS_in {v : PyData} {acc : List Str} {t : Str} (h : t ∈ acc) : kStore (acc.map fun t => (PyData.str t, v)) (.str t) v = acc.map fun t => (PyData.str t, v) := by
  unfold kStore
  rw [if_pos]
  · rw [List.map_map]
    refine List.map_congr_left fun a _ => ?_
    show (if PyData.eqv (.str a) (.str t) = true then (PyData.str a, v) else (PyData.str a, v)) = _
    split <;> rfl
  · rw [List.any_map, List.any_eq_true]
    exact ⟨t, h, by simp [eqv_str]⟩
theorem kS_out {v : PyData} {acc : List Str} {t : Str} (h : t ∉ acc) : kStore (acc.map fun t => (PyData.str t, v)) (.str t) v = (acc ++ [t]).map fun t => (PyData.str t, v) := by
  unfold kStore
  rw [if_neg]
  · simp
  · rw [List.any_map, List.any_eq_true]
    rintro ⟨a, ha, e⟩
    simp [eqv_str] at e
    exact h (e ▸ ha)
theorem dcL_S {α : Type} {ck : Sto → Bool} {asg : PyData → Option In.Env} {kv : In.Env → Sto → R (PyData × PyData)} {S : Sto} (g : α → PyData) (key : α → Str) (v : PyData) (hck : ck S = true) : ∀ (l : List α) (acc : List Str), acc.length + l.length ≤ 10000 → (∀ a ∈ l, ∃ ρ, asg (g a) = some ρ ∧ kv ρ S = .ok (.str (key a), v) S) →
    dcL ck asg kv (l.map g) (acc.map fun t => (PyData.str t, v)) S = .ok ((ddS acc (l.map key)).map fun t => (PyData.str t, v)) S
  | [], acc, _, _ => rfl
  | t :: r, acc, hl, h => by
    obtain ⟨ρ, h1, h2⟩ := h t List.mem_cons_self
    have hl' : acc.length + (r.length + 1) ≤ 10000 := by simpa using hl
    have hlt : acc.length < 16777216 := by omega
    simp only [List.map_cons, dcL, h1, h2, R.bind_ok, List.length_map, hlt, decide_true, scalarKey, hck, Bool.and_self, if_true, ddS]
    by_cases hm : key t ∈ acc
    · rw [if_pos hm, kS_in hm]
      exact dcL_S g key v hck r acc (by omega) fun a ha => h a (List.mem_cons_of_mem _ ha)
    · rw [if_neg hm, kS_out hm]
      exact dcL_S g key v hck r _ (by simp; omega) fun a ha => h a (List.mem_cons_of_mem _ ha)
theorem ddS_len : ∀ (l acc : List Str), (ddS acc l).length ≤ acc.length + l.length
  | [], acc => by simp [ddS]
  | t :: r, acc => by
    unfold ddS
    split
    · have := ddS_len r acc; simp; omega
    · have := ddS_len r (acc ++ [t]); simp at this ⊢; omega
theorem ddS_nd : ∀ (l acc : List Str), (acc ++ l).Nodup → (ddS acc l).length = acc.length + l.length
  | [], acc, _ => by simp [ddS]
  | t :: r, acc, h => by
    have hn : t ∉ acc := by
      intro hm
      exact (List.nodup_append.mp h).2.2 t hm t List.mem_cons_self rfl
    unfold ddS
    rw [if_neg hn, ddS_nd r (acc ++ [t]) (by rw [List.append_assoc]; exact h)]
    simp
    omega
theorem ddS_dup (n : Str) : ∀ (l acc : List Str), n ∈ acc ∨ n ∈ l → (ddS acc (l ++ [n])).length < acc.length + l.length + 1
  | [], acc, h => by
    have : n ∈ acc := h.elim id fun q => by cases q
    simp [ddS, this]
  | t :: r, acc, h => by
    rw [List.cons_append]
    unfold ddS
    split
    · rename_i hm
      have h' : n ∈ acc ∨ n ∈ r := by
        rcases h with h | h
        · exact .inl h
        · rcases List.mem_cons.mp h with rfl | h
          · exact .inl hm
          · exact .inr h
      have := ddS_dup n r acc h'
      simp only [List.length_cons]; omega
    · have h' : n ∈ acc ++ [t] ∨ n ∈ r := by
        rcases h with h | h
        · exact .inl (List.mem_append_left _ h)
        · rcases List.mem_cons.mp h with rfl | h
          · exact .inl (List.mem_append_right _ (List.mem_singleton_self _))
          · exact .inr h
      have := ddS_dup n r (acc ++ [t]) h'
      simp only [List.length_append, List.length_cons, List.length_nil] at this ⊢; omega
structure OkTs (ts : List Tn) : Prop where
  len1 : 1 ≤ ts.length
  len2 : ts.length ≤ 5
  all : ∀ t ∈ ts, OkT t
  nd : (ts.map (·.nm)).Nodup
/-- are_towns of rows of good towns -/
theorem f21 (k : Nat) {ts : List Tn} (h1 : 1 ≤ ts.length) (h2 : ts.length ≤ 6) (ha : ∀ t ∈ ts, OkT t) (S : Sto) : callAt fns W (k + 4) 21 [.d (twT ts)] S = .ok (.bool (decide (ts.length ≤ 5) && decide ((ddS [] (ts.map (·.nm))).length = ts.length))) S := by
  rw [r_21, b_21]
  have t1 : tst (callAt fns W (k + 3)) (.or (.not (.isi (.var 0) "tuple")) (.or (.not (.ch .le .le (.cst (.int 1)) (.u1 .len (.var 0)) (.cst (.int 5)))) (.not (.u1 .all (.lc [1] (.nm 1) (.e (.var 0)) .nil (.call 4 (.cons (.var 1) .nil) [])))))) [some (.d (twT ts)), none] S = .ok (!decide (ts.length ≤ 5)) S := by
    rw [tst_or (x := false) (S1 := S) (by unfold tst; simp [nt])]
    simp only [Bool.false_eq_true, if_false]
    have c1 : (1 : Int) ≤ (ts.length : Int) := by omega
    by_cases c : ts.length ≤ 5
    · have c2 : (ts.length : Int) ≤ 5 := by omega
      rw [tst_or (x := false) (S1 := S) (by unfold tst; simp [c1, c2])]
      simp only [Bool.false_eq_true, if_false]
      have lc := ev_lc0 (F := callAt fns W (k + 3)) (S := S) (ws := [1]) (t := .nm 1) (it := .e (.var 0)) (e := .call 4 (.cons (.var 1) .nil) []) (ρ := [some (.d (twT ts)), none]) (gs := []) (l := ts) tw (fun _ => .bool true) (by rw [evI_e, ev_var 0 _ rfl]; rfl) (by simp only [cap]; omega) fun t ht => ⟨[some (.d (twT ts)), some (.d (tw t))], rfl, by
        rw [ev_call1 (ev_var 1 _ rfl) (f4g k (ha t ht) S)]; rfl⟩
      have e1 : u1 .all (.list (ts.map fun _ => PyData.bool true)) = some (.bool true) := by
        have := u1_all (ts.map fun _ => true)
        rw [List.map_map] at this
        rw [show (ts.map fun _ => PyData.bool true) = ts.map (PyData.bool ∘ fun _ => true) from rfl, this]
        simp
      rw [tst_not (tst_b (ev_u1_of lc e1)), decide_eq_true c]
    · have c2 : ¬ (ts.length : Int) ≤ 5 := by omega
      rw [tst_or (x := true) (S1 := S) (by unfold tst; simp [c1, c2]), decide_eq_false c]
      rfl
  by_cases c : ts.length ≤ 5
  · rw [decide_eq_true c] at t1 ⊢
    refine q_skip t1 ?_
    have dc : ev (callAt fns W (k + 3)) (.dc [1] (.nm 1) (.e (.var 0)) (.ix (.var 1) (.cst (.int 0))) (.cst (.bool true))) [some (.d (twT ts)), none] S = .ok (.d (.dict ((ddS [] (ts.map (·.nm))).map fun t => (PyData.str t, .bool true)))) S := by
      have hit : evI (callAt fns W (k + 3)) (.e (.var 0)) [some (.d (twT ts)), none] S = .ok (ts.map tw, []) S := by
        rw [evI_e, ev_var 0 _ rfl]; rfl
      simp only [ev, hit, R.bind_ok]
      rw [show ([] : List (PyData × PyData)) = ([] : List Str).map fun t => (PyData.str t, PyData.bool true) from rfl]
      rw [dcL_S tw (·.nm) (.bool true) (chk_nil _ _) ts [] (by simp; omega) fun t ht => ⟨[some (.d (twT ts)), some (.d (tw t))], rfl, by
        have i0 : index (tw t) (.int 0) = some (.str t.nm) := ix0 _ _
        simp only [ev, List.getElem?_cons_succ, List.getElem?_cons_zero, R.bind_ok, view_d, Option.bind_some, i0, Option.map_some, R.opt_some, shut_d, R.calm_ok]⟩]
      rfl
    refine (q_ret _ (ev_cmp_of (ev_u1_of dc (show _ = some (.int ((ddS [] (ts.map (·.nm))).length : Nat)) by show some (PyData.int _) = _; rw [List.length_map])) (ev_u1_of (ev_var 0 _ rfl) (u1_lent _)) (cmp_eq _ _))).trans ?_
    rw [List.take_length]
    congr 2
    rw [List.length_map, Bool.eq_iff_iff]
    simp
    all_goals omega
  · rw [decide_eq_false c] at t1 ⊢
    exact (q_thenRet t1 (ev_cst _)).trans (by simp)
end M29
/-! part M29m -/
set_option linter.all false
set_option maxRecDepth 100000
set_option maxHeartbeats 1000000
/-! Hours. -/
namespace M29
open PySem In Tx P29
def isHr : PyData → Bool
  | .tuple [.int a, .int b] => (inR 0 1440 (.int a) && inR 0 1440 (.int b)) && decide (a < b)
  | _ => false
def okHr (n : Nat) : PyData → Bool
  | .tuple rows => decide (rows.length = n) && rows.all isHr
  | _ => false
def T22 : E := .or (.not (.isi (.var 2) "tuple")) (.or (.cmp .ne (.u1 .len (.var 2)) (.cst (.int 2))) (.not (.u1 .all (.lc [3] (.nm 3) (.e (.var 2)) .nil (.call 1 (.cons (.var 3) (.cons (.cst (.int 0)) (.cons (.cst (.int 1440)) .nil))) [])))))
theorem row22 (k : Nat) (x : PyData) (u v : Option Vl) (S : Sto) : xs (callAt fns W (k + 2)) W (.cons (.ite T22 (.cons (.raise "ArgumentError" (.cst (.str "hours"))) .nil) .nil) (.cons (.ite (.cmp .ge (.ix (.var 2) (.cst (.int 0))) (.ix (.var 2) (.cst (.int 1)))) (.cons (.raise "ArgumentError" (.cst (.str "hours"))) .nil) .nil) .nil)) [u, v, some (.d x), none] S = if isHr x then .ok (.nx [u, v, some (.d x), none]) S else .ex "ArgumentError" (.str "hours") S := by
  have bad : tst (callAt fns W (k + 2)) T22 [u, v, some (.d x), none] S = .ok true S → isHr x = false → xs (callAt fns W (k + 2)) W (.cons (.ite T22 (.cons (.raise "ArgumentError" (.cst (.str "hours"))) .nil) .nil) (.cons (.ite (.cmp .ge (.ix (.var 2) (.cst (.int 0))) (.ix (.var 2) (.cst (.int 1)))) (.cons (.raise "ArgumentError" (.cst (.str "hours"))) .nil) .nil) .nil)) [u, v, some (.d x), none] S = if isHr x then .ok (.nx [u, v, some (.d x), none]) S else .ex "ArgumentError" (.str "hours") S := by
    intro h1 h2
    rw [h2, xs_cons, x1_yes h1, xs_cons, x1_raise, ev_cst]
    rfl
  cases x with
  | tuple xs =>
    match xs with
    | [] => exact bad (by unfold tst T22; simp [nt]) rfl
    | [a] => exact bad (by unfold tst T22; simp [nt]) (by cases a <;> rfl)
    | a :: b :: c :: r =>
      have : ¬ ((r.length : Int) + 1 + 1 + 1 = 2) := by omega
      exact bad (by unfold tst T22; simp [nt, this]) (by unfold isHr; cases a <;> cases b <;> rfl)
    | [a, b] =>
      have lc := ev_lc0 (F := callAt fns W (k + 2)) (S := S) (ws := [3]) (t := .nm 3) (it := .e (.var 2)) (e := .call 1 (.cons (.var 3) (.cons (.cst (.int 0)) (.cons (.cst (.int 1440)) .nil))) []) (ρ := [u, v, some (.d (.tuple [a, b])), none]) (gs := []) (l := [a, b]) (fun x => x) (fun x => .bool (inR 0 1440 x)) (by rw [evI_e, ev_var 2 _ rfl]; rfl) (by simp [cap]) fun y hy => ⟨[u, v, some (.d (.tuple [a, b])), some (.d y)], rfl, by
        rw [ev_call3 (ev_var 3 _ rfl) (ev_cst _) (ev_cst _) (f1 k y 0 1440 S)]; rfl⟩
      have e1 := u1_all [inR 0 1440 a, inR 0 1440 b]
      have t0 : tst (callAt fns W (k + 2)) T22 [u, v, some (.d (.tuple [a, b])), none] S = .ok (!(inR 0 1440 a && inR 0 1440 b)) S := by
        unfold T22
        rw [tst_or (x := false) (S1 := S) (by unfold tst; simp [nt])]
        simp only [Bool.false_eq_true, if_false]
        rw [tst_or (x := false) (S1 := S) (by unfold tst; simp)]
        simp only [Bool.false_eq_true, if_false]
        have := tst_not (tst_b (ev_u1_of lc e1))
        simpa using this
      cases hab : inR 0 1440 a && inR 0 1440 b with
      | false =>
        rw [hab] at t0
        refine bad t0 ?_
        unfold isHr
        cases a <;> cases b <;> simp at hab ⊢
        intro h1 h2
        rw [hab h1] at h2
        cases h2
      | true =>
        rw [hab] at t0
        cases a with
        | int i =>
          cases b with
          | int j =>
            have tg : tst (callAt fns W (k + 2)) (.cmp .ge (.ix (.var 2) (.cst (.int 0))) (.ix (.var 2) (.cst (.int 1)))) [u, v, some (.d (.tuple [.int i, .int j])), none] S = .ok (decide (j ≤ i)) S := tst_b (ev_cmp_of (ev_ix_of (ev_var _ _ rfl) (ev_cst _) (ix0 _ _)) (ev_ix_of (ev_var _ _ rfl) (ev_cst _) (ix1 _ _ _)) (cmp_ge _ _))
            have e : isHr (.tuple [.int i, .int j]) = decide (i < j) := by
              show ((inR 0 1440 (.int i) && inR 0 1440 (.int j)) && decide (i < j)) = _
              rw [hab]; rfl
            rw [e]
            by_cases c : i < j
            · rw [decide_eq_false (by omega)] at tg
              rw [decide_eq_true c]
              exact xs_skip t0 (xs_skip tg xs_end)
            · rw [decide_eq_true (by omega)] at tg
              rw [decide_eq_false c]
              refine xs_skip t0 ?_
              rw [xs_cons, x1_yes tg, xs_cons, x1_raise, ev_cst]
              rfl
          | _ => simp [inR] at hab
        | _ => simp [inR] at hab
  | _ => exact bad (by unfold tst T22; simp [nt]) rfl
theorem f21g (k : Nat) {ts : List Tn} (h : OkTs ts) (S : Sto) : callAt fns W (k + 4) 21 [.d (twT ts)] S = .ok (.bool true) S := by
  have h2 := h.len2
  rw [f21 k h.len1 (by omega) h.all, ddS_nd _ [] (by simpa using h.nd)]
  simp [h2]
theorem f22 (k : Nat) {ts : List Tn} (h : OkTs ts) (y : PyData) (S : Sto) : callAt fns W (k + 5) 22 [.d (twT ts), .d y] S = if okHr ts.length y then .ok .none S else .ex "ArgumentError" (.str "hours") S := by
  rw [r_22, b_22]
  refine q_skip (tst_not (tst_b (ev_call1 (ev_var 0 _ rfl) (f21g k h S)))) ?_
  cases y with
  | tuple rows =>
    have t1 : tst (callAt fns W (k + 4)) (.or (.not (.isi (.var 1) "tuple")) (.cmp .ne (.u1 .len (.var 1)) (.u1 .len (.var 0)))) [some (.d (twT ts)), some (.d (.tuple rows)), none, none] S = .ok (!decide (rows.length = ts.length)) S := by
      rw [tst_or (x := false) (S1 := S) (by unfold tst; simp [nt])]
      simp only [Bool.false_eq_true, if_false]
      rw [tst_b (ev_cmp_of (ev_u1_of (ev_var 1 _ rfl) (u1_lent _)) (ev_u1_of (ev_var 0 _ rfl) (u1_lent _)) (cmp_ne _ _)), List.length_map]
      congr 2
      exact decide_eq_decide.mpr (by omega)
    by_cases c : rows.length = ts.length
    · rw [decide_eq_true c] at t1
      have e : okHr ts.length (.tuple rows) = rows.all isHr := by simp [okHr, c]
      rw [e]
      refine q_skip t1 ?_
      refine q_find (gs := []) (S1 := S) (fun x => x) rows (fun r => !isHr r) (fun _ => .err "ArgumentError" (.str "hours")) (fun ρ => ∃ u, ρ = [some (.d (twT ts)), some (.d (.tuple rows)), u, none]) (by rw [evI_e, ev_var 1 _ rfl]; simp) ⟨none, rfl⟩ ?_ ?_ ?_
      · rintro r hr ρ ⟨u, rfl⟩
        refine ⟨[some (.d (twT ts)), some (.d (.tuple rows)), some (.d r), none], rfl, fun q => ?_, fun q => ⟨_, ?_, some (.d r), rfl⟩⟩
        · have : isHr r = false := by simpa using q
          have e := row22 (k + 2) r (some (.d (twT ts))) (some (.d (.tuple rows))) S
          rw [this] at e
          exact e
        · have : isHr r = true := by simpa using q
          have e := row22 (k + 2) r (some (.d (twT ts))) (some (.d (.tuple rows))) S
          rw [this] at e
          exact e
      · intro r hr
        have h1 : isHr r = false := by simpa using List.find?_some hr
        have h2 : rows.all isHr = false := by
          rw [List.all_eq_false]
          exact ⟨r, List.mem_of_find?_eq_some hr, by rw [h1]; decide⟩
        rw [h2]
        simp [Out.r]
      · rintro hn ρ ⟨u, rfl⟩
        have h2 : rows.all isHr = true := by
          rw [List.all_eq_true]
          intro r hr
          have := List.find?_eq_none.mp hn r hr
          simpa using this
        rw [h2]
        exact q_end.trans (by simp)
    · rw [decide_eq_false c] at t1
      have e : okHr ts.length (.tuple rows) = false := by simp [okHr, c]
      rw [e]
      exact (q_thenRaise t1 (ev_cst _)).trans (by simp)
  | _ => exact (q_thenRaise (S1 := S) (S2 := S) ((tst_or (x := true) (S1 := S) (by unfold tst; simp [nt])).trans rfl) (ev_cst _)).trans (by simp [okHr])
structure OkHs (n : Nat) (hs : List Rw) : Prop where
  len : hs.length = n
  all : ∀ h ∈ hs, 0 ≤ h.1 ∧ h.1 < h.2 ∧ h.2 ≤ 1440
theorem okHr_ok {n : Nat} {hs : List Rw} (h : OkHs n hs) : okHr n (hrT hs) = true := by
  have h2 : (hs.map rw_).all isHr = true := by
    rw [List.all_map, List.all_eq_true]
    intro r hr
    obtain ⟨a, b, c⟩ := h.all r hr
    show ((inR 0 1440 (.int r.1) && inR 0 1440 (.int r.2)) && decide (r.1 < r.2)) = true
    simp [inR]
    omega
  simp only [okHr, hrT, List.length_map, h.len, decide_true, h2, Bool.and_self]
theorem f22g (k : Nat) {ts : List Tn} {hs : List Rw} (h : OkTs ts) (hh : OkHs ts.length hs) (S : Sto) : callAt fns W (k + 5) 22 [.d (twT ts), .d (hrT hs)] S = .ok .none S := by rw [f22 k h, if_pos (okHr_ok hh)]
end M29
/-! part P27 -/
set_option linter.all false
set_option maxRecDepth 100000
set_option maxHeartbeats 1000000
/-! Plain mathematics of cycles with windows. -/
namespace P27
open PySem
structure Cy where
  p : Nat
  b : Int
  l : Int
structure OkC (c : Cy) : Prop where
  p1 : 1 ≤ c.p
  p2 : c.p ≤ 60
  b1 : 0 ≤ c.b
  b2 : c.b < c.p
  l1 : 0 ≤ c.l
  l2 : c.l ≤ c.p
def opn (c : Cy) (t : Int) : Bool := decide ((t - c.b) % (c.p : Int) < c.l)
def allO (cs : List Cy) (t : Int) : Bool := cs.all fun c => opn c t
/-- the round -/
def rndF (n : Nat) (ps : List Nat) : Nat := ps.foldl (fun c p => Nat.lcm c p) n
def rnd (cs : List Cy) : Nat := rndF 1 (cs.map (·.p))
theorem rndF_pos : ∀ (ps : List Nat) (n : Nat), 0 < n → (∀ p ∈ ps, 0 < p) → 0 < rndF n ps
  | [], n, h, _ => h
  | p :: ps, n, h, hp => rndF_pos ps _ (Nat.lcm_pos h (hp p List.mem_cons_self)) fun q hq => hp q (List.mem_cons_of_mem _ hq)
theorem rndF_dvd : ∀ (ps : List Nat) (n : Nat), n ∣ rndF n ps
  | [], n => Nat.dvd_refl n
  | p :: ps, n => Nat.dvd_trans (Nat.dvd_lcm_left n p) (rndF_dvd ps _)
theorem rndF_mem : ∀ (ps : List Nat) (n : Nat), ∀ p ∈ ps, p ∣ rndF n ps
  | [], _, p, h => by simp at h
  | q :: ps, n, p, h => by
    rcases List.mem_cons.mp h with rfl | h
    · exact Nat.dvd_trans (Nat.dvd_lcm_right n p) (rndF_dvd ps _)
    · exact rndF_mem ps _ p h
theorem rndF_le : ∀ (ps : List Nat) (n : Nat), (∀ p ∈ ps, p ≤ 60) → rndF n ps ≤ n * 60 ^ ps.length
  | [], n, _ => by simp [rndF]
  | p :: ps, n, h => by
    have ih := rndF_le ps (Nat.lcm n p) fun q hq => h q (List.mem_cons_of_mem _ hq)
    have h1 : Nat.lcm n p ≤ n * p := by
      unfold Nat.lcm
      exact Nat.div_le_self _ _
    have h2 : n * p ≤ n * 60 := Nat.mul_le_mul_left n (h p List.mem_cons_self)
    show rndF (Nat.lcm n p) ps ≤ _
    refine Nat.le_trans ih ?_
    rw [List.length_cons, Nat.pow_succ, Nat.mul_comm (60 ^ ps.length) 60, ← Nat.mul_assoc]
    exact Nat.mul_le_mul_right _ (Nat.le_trans h1 h2)
theorem rnd_pos {cs : List Cy} (h : ∀ c ∈ cs, OkC c) : 0 < rnd cs := rndF_pos _ 1 (by decide) fun p hp => by
  obtain ⟨c, hc, rfl⟩ := List.mem_map.mp hp
  exact (h c hc).p1
theorem rnd_dvd {cs : List Cy} {c : Cy} (hc : c ∈ cs) : c.p ∣ rnd cs := rndF_mem _ 1 _ (List.mem_map.mpr ⟨c, hc, rfl⟩)
/-! ### it comes again -/
theorem opn_add {c : Cy} {n : Nat} (h : c.p ∣ n) (t k : Int) : opn c (t + n * k) = opn c t := by
  obtain ⟨m, rfl⟩ := h
  unfold opn
  have e : t + ((c.p * m : Nat) : Int) * k - c.b = (t - c.b) + (c.p : Int) * (m * k) := by
    rw [Int.natCast_mul, Int.mul_assoc]; omega
  rw [e, Int.add_mul_emod_self_left]
theorem opn_mod {c : Cy} {n : Nat} (h : c.p ∣ n) (t : Int) : opn c (t % n) = opn c t := by
  have e := Int.emod_add_mul_ediv t n
  have := opn_add h (t % n) (t / n)
  rw [e] at this
  exact this.symm
theorem allO_mod {cs : List Cy} {n : Nat} (h : ∀ c ∈ cs, c.p ∣ n) (t : Int) : allO cs (t % n) = allO cs t := by
  unfold allO
  induction cs with
  | nil => rfl
  | cons c cs ih => simp only [List.all_cons, opn_mod (h c List.mem_cons_self) t, ih fun d hd => h d (List.mem_cons_of_mem _ hd)]
theorem allO_add {cs : List Cy} {n : Nat} (h : ∀ c ∈ cs, c.p ∣ n) (t : Int) : allO cs (t + n) = allO cs t := by
  rw [← allO_mod h (t + n), ← allO_mod h t, Int.add_emod_right]
/-! ### counts over a whole round -/
def cntW (φ : Int → Bool) (w : Int) (n : Nat) : Nat := ((List.range n).filter fun (s : Nat) => φ (w + (s : Int))).length
theorem cntW_tail (φ : Int → Bool) (w : Int) (n : Nat) : cntW φ w (n + 1) = cntW φ w n + (if φ (w + n) then 1 else 0) := by
  unfold cntW
  rw [List.range_succ, List.filter_append, List.length_append, List.filter_cons]
  split <;> rfl
theorem cntW_head (φ : Int → Bool) (w : Int) (n : Nat) : cntW φ w (n + 1) = (if φ w then 1 else 0) + cntW φ (w + 1) n := by
  unfold cntW
  rw [List.range_succ_eq_map, List.filter_cons, List.filter_map]
  have e : (List.filter ((fun (s : Nat) => φ (w + (s : Int))) ∘ Nat.succ) (List.range n)) = List.filter (fun (s : Nat) => φ (w + 1 + (s : Int))) (List.range n) := by
    refine List.filter_congr fun k _ => ?_
    simp only [Function.comp]
    congr 1
    omega
  rw [e]
  have z : w + ((0 : Nat) : Int) = w := by omega
  simp only [z]
  split
  · simp [Nat.add_comm]
  · simp
theorem cntW_step {φ : Int → Bool} {n : Nat} (hp : ∀ t, φ (t + n) = φ t) (w : Int) : cntW φ (w + 1) n = cntW φ w n := by
  have h1 := cntW_tail φ w n
  have h2 := cntW_head φ w n
  rw [hp w] at h1
  omega
theorem cntW_shift {φ : Int → Bool} {n : Nat} (hp : ∀ t, φ (t + n) = φ t) (w : Int) : cntW φ w n = cntW φ 0 n := by
  have up : ∀ (k : Nat) (w : Int), cntW φ (w + k) n = cntW φ w n := by
    intro k
    induction k with
    | zero => intro w; simp
    | succ k ih =>
      intro w
      rw [show w + ((k + 1 : Nat) : Int) = (w + k) + 1 by omega, cntW_step hp, ih]
  rcases Int.le_total 0 w with h | h
  · have := up w.toNat 0
    rw [show (0 : Int) + (w.toNat : Int) = w by omega] at this
    exact this
  · have := up (-w).toNat w
    rw [show w + ((-w).toNat : Int) = 0 by omega] at this
    exact this.symm
/-! ### the first of a row -/
def fstT (φ : Nat → Bool) (m : Nat) : Nat := ((List.range m).find? φ).getD m
theorem find_range {φ : Nat → Bool} {m L : Nat} (h1 : L < m) (h2 : φ L = true) (h3 : ∀ j, j < L → φ j = false) : (List.range m).find? φ = some L := by
  rw [List.find?_eq_some_iff_append]
  refine ⟨h2, List.range L, (List.range (m - L - 1)).map (· + (L + 1)), ?_, fun j hj => ?_⟩
  · have e : m = L + 1 + (m - L - 1) := by omega
    conv => lhs; rw [e]
    rw [List.range_add, List.range_succ, List.append_assoc]
    simp [Nat.add_comm]
  · simp [h3 j (List.mem_range.mp hj)]
theorem fstT_is {φ : Nat → Bool} {m L : Nat} (h1 : L < m) (h2 : φ L = true) (h3 : ∀ j, j < L → φ j = false) : fstT φ m = L := by
  unfold fstT
  rw [find_range h1 h2 h3]
  rfl
theorem fstT_ok {φ : Nat → Bool} {m : Nat} (h : ∃ i, i < m ∧ φ i = true) : fstT φ m < m ∧ φ (fstT φ m) = true ∧ ∀ j, j < fstT φ m → φ j = false := by
  obtain ⟨i, hi, hp⟩ := h
  cases e : (List.range m).find? φ with
  | none =>
    have := List.find?_eq_none.mp e i (List.mem_range.mpr hi)
    exact absurd hp this
  | some L =>
    have hL := List.mem_range.mp (List.mem_of_find?_eq_some e)
    have hp2 := List.find?_some e
    unfold fstT
    rw [e]
    refine ⟨hL, hp2, fun j hj => ?_⟩
    obtain ⟨_, as, bs, h1, h2⟩ := List.find?_eq_some_iff_append.mp e
    have hlen : as.length = L := by
      have h3 : (List.range m)[as.length]? = some L := by rw [h1]; simp
      rw [List.getElem?_eq_some_iff] at h3
      obtain ⟨_, h4⟩ := h3
      simpa using h4
    have hj' : j < as.length := by rw [hlen]; exact hj
    have h5 : (List.range m)[j]? = some as[j] := by rw [h1, List.getElem?_append_left hj', List.getElem?_eq_getElem hj']
    rw [List.getElem?_eq_some_iff] at h5
    obtain ⟨_, h6⟩ := h5
    have h7 : as[j] = j := by rw [← h6]; simp
    have := h2 as[j] (List.getElem_mem hj')
    rw [h7] at this
    simpa using this
/-! ### marks round -/
def mgt (ms : List Bool) (i : Nat) : Bool := ms.getD i false
theorem mgt_at {ms : List Bool} {i : Nat} (h : i < ms.length) : ms[i]? = some (mgt ms i) := by
  unfold mgt
  rw [List.getD_eq_getElem?_getD, List.getElem?_eq_getElem h]
  rfl
theorem round_to {n w i : Nat} (hi : i < n) : ∃ L, L < n ∧ (w + L) % n = i := by
  have hn : 0 < n := by omega
  have hw := Nat.mod_lt w hn
  have e := Nat.div_add_mod w n
  by_cases c : w % n ≤ i
  · refine ⟨i - w % n, by omega, ?_⟩
    have : w + (i - w % n) = i + n * (w / n) := by omega
    rw [this, Nat.add_mul_mod_self_left, Nat.mod_eq_of_lt hi]
  · refine ⟨i + n - w % n, by omega, ?_⟩
    have : w + (i + n - w % n) = i + n * (w / n + 1) := by rw [Nat.mul_add, Nat.mul_one]; omega
    rw [this, Nat.add_mul_mod_self_left, Nat.mod_eq_of_lt hi]
def prevN (n w : Nat) : Nat := if w = 0 then n - 1 else w - 1
def runF (ms : List Bool) (w : Nat) : Nat := fstT (fun L => !mgt ms ((w + L) % ms.length)) ms.length
def winP (ms : List Bool) (w : Nat) : Bool := mgt ms w && !mgt ms (prevN ms.length w)
def wins (ms : List Bool) : List (Nat × Nat) := if false ∈ ms then ((List.range ms.length).filter (winP ms)).map fun w => (w, runF ms w) else [(0, ms.length)]
def runT (ms : List Bool) (w : Nat) : Nat := fstT (fun L => mgt ms ((w + L) % ms.length)) ms.length
def waits (ms : List Bool) : List Nat := (List.range ms.length).map (runT ms)
theorem run_exT {ms : List Bool} (h : true ∈ ms) (w : Nat) : ∃ L, L < ms.length ∧ mgt ms ((w + L) % ms.length) = true := by
  obtain ⟨i, hi, e⟩ := List.mem_iff_getElem.mp h
  obtain ⟨L, h1, h2⟩ := round_to (w := w) hi
  refine ⟨L, h1, ?_⟩
  rw [h2]
  have := mgt_at hi
  rw [List.getElem?_eq_getElem hi, e] at this
  exact (Option.some.inj this).symm
theorem runT_hit {ms : List Bool} {i : Nat} (hi : i < ms.length) (h : mgt ms i = true) : runT ms i = 0 :=
  fstT_is (by omega) (by rw [Nat.add_zero, Nat.mod_eq_of_lt hi]; exact h) fun j hj => by omega
theorem runT_miss {ms : List Bool} {i : Nat} (hi : i < ms.length) (ht : true ∈ ms) (h : mgt ms i = false) : runT ms i = runT ms ((i + 1) % ms.length) + 1 := by
  obtain ⟨h1, h2, h3⟩ := fstT_ok (φ := fun L => mgt ms (((i + 1) % ms.length + L) % ms.length)) (m := ms.length) (run_exT ht _)
  have e : ∀ L, ((i + 1) % ms.length + L) % ms.length = (i + (L + 1)) % ms.length := fun L => by
    rw [Nat.mod_add_mod]
    congr 1
    omega
  have q2 : mgt ms ((i + (runT ms ((i + 1) % ms.length) + 1)) % ms.length) = true := by
    have h2' : mgt ms (((i + 1) % ms.length + runT ms ((i + 1) % ms.length)) % ms.length) = true := h2
    rw [e] at h2'
    exact h2'
  have q3 : ∀ j, j < runT ms ((i + 1) % ms.length) + 1 → mgt ms ((i + j) % ms.length) = false := by
    intro j hj
    cases j with
    | zero => rw [Nat.add_zero, Nat.mod_eq_of_lt hi]; exact h
    | succ j =>
      have h3' : mgt ms (((i + 1) % ms.length + j) % ms.length) = false := h3 j (by show j < runT ms ((i + 1) % ms.length); omega)
      rw [e] at h3'
      exact h3'
  obtain ⟨L, a, b⟩ := run_exT ht i
  have hlt : runT ms ((i + 1) % ms.length) + 1 < ms.length := by
    refine Nat.lt_of_not_le fun c => ?_
    have := q3 L (by omega)
    rw [b] at this
    cases this
  exact fstT_is hlt q2 q3
theorem runT_zero {ms : List Bool} (ht : true ∈ ms) : runT ms 0 < ms.length ∧ mgt ms (runT ms 0) = true ∧ ∀ j, j < runT ms 0 → mgt ms j = false := by
  obtain ⟨h1, h2, h3⟩ := fstT_ok (φ := fun L => mgt ms ((0 + L) % ms.length)) (m := ms.length) (run_exT ht 0)
  refine ⟨h1, ?_, fun j hj => ?_⟩
  · have h2' : mgt ms ((0 + runT ms 0) % ms.length) = true := h2
    have hz : (0 + runT ms 0) % ms.length = runT ms 0 := by rw [Nat.zero_add]; exact Nat.mod_eq_of_lt h1
    rw [hz] at h2'
    exact h2'
  · have h3' : mgt ms ((0 + j) % ms.length) = false := h3 j hj
    have hj' : j < ms.length := Nat.lt_trans hj h1
    rwa [Nat.zero_add, Nat.mod_eq_of_lt hj'] at h3'
/-! ### the greatest, and its first place -/
structure Best (f : Nat → Nat) (n m i : Nat) : Prop where
  lt : i < n
  eq : f i = m
  le : ∀ j, j < n → f j ≤ m
  fst : ∀ j, j < i → f j < m
theorem Best.one {f : Nat → Nat} {n m i m' i' : Nat} (h : Best f n m i) (h' : Best f n m' i') : m = m' ∧ i = i' := by
  have a := h.le i' h'.lt
  have b := h'.le i h.lt
  have e1 := h.eq
  have e2 := h'.eq
  have hm : m = m' := by omega
  refine ⟨hm, ?_⟩
  rcases Nat.lt_trichotomy i i' with c | c | c
  · have := h'.fst i c; omega
  · exact c
  · have := h.fst i' c; omega
theorem Best.succ {f : Nat → Nat} {n m i : Nat} (h : Best f n m i) : Best f (n + 1) (if m < f n then f n else m) (if m < f n then n else i) := by
  by_cases c : m < f n
  · rw [if_pos c, if_pos c]
    exact ⟨by omega, rfl, fun j hj => by
      rcases Nat.lt_succ_iff_lt_or_eq.mp hj with q | q
      · have := h.le j q; omega
      · subst q; exact Nat.le_refl _, fun j hj => by have := h.le j hj; omega⟩
  · rw [if_neg c, if_neg c]
    exact ⟨by have := h.lt; omega, h.eq, fun j hj => by
      rcases Nat.lt_succ_iff_lt_or_eq.mp hj with q | q
      · exact h.le j q
      · subst q; omega, h.fst⟩
theorem Best.congr {f g : Nat → Nat} {n m i : Nat} (h : Best f n m i) (e : ∀ j, j < n → f j = g j) : Best g n m i :=
  ⟨h.lt, by rw [← e i h.lt]; exact h.eq, fun j hj => by rw [← e j hj]; exact h.le j hj, fun j hj => by rw [← e j (Nat.lt_trans hj h.lt)]; exact h.fst j hj⟩
/-- the best from a place on -/
structure BestF (f : Nat → Nat) (lo n m i : Nat) : Prop where
  ge : lo ≤ i
  lt : i < n
  eq : f i = m
  le : ∀ j, lo ≤ j → j < n → f j ≤ m
  fst : ∀ j, lo ≤ j → j < i → f j < m
theorem BestF.down {f : Nat → Nat} {lo n m i : Nat} (h : BestF f (lo + 1) n m i) : BestF f lo n (if m ≤ f lo then f lo else m) (if m ≤ f lo then lo else i) := by
  have h1 := h.ge
  have h2 := h.lt
  by_cases c : m ≤ f lo
  · rw [if_pos c, if_pos c]
    refine ⟨Nat.le_refl _, by omega, rfl, fun j a b => ?_, fun j a b => by omega⟩
    by_cases e : j = lo
    · subst e; exact Nat.le_refl _
    · have := h.le j (by omega) b; omega
  · rw [if_neg c, if_neg c]
    refine ⟨by omega, h2, h.eq, fun j a b => ?_, fun j a b => ?_⟩
    · by_cases e : j = lo
      · subst e; omega
      · exact h.le j (by omega) b
    · by_cases e : j = lo
      · subst e; omega
      · exact h.fst j (by omega) b
theorem BestF.full {f : Nat → Nat} {n m i : Nat} (h : BestF f 0 n m i) : Best f n m i := ⟨h.lt, h.eq, fun j hj => h.le j (by omega) hj, fun j hj => h.fst j (by omega) hj⟩
end P27
/-! part M29n -/
set_option linter.all false
set_option maxRecDepth 100000
set_option maxHeartbeats 1000000
/-! The most that are awake. -/
namespace M29
open PySem In Tx P29
def awN (ts : List Tn) (hs : List Rw) (b : Int) (j : Nat) : Nat := ts.length - (aslp ts hs (b + (j : Int))).length
theorem aslp_len (ts : List Tn) (hs : List Rw) (m : Int) : (aslp ts hs m).length ≤ ts.length := by
  have := List.length_filter_le (fun k => !awk (gT ts k) (gH hs k) m) (List.range ts.length)
  rw [List.length_range] at this
  exact this
theorem f28 (k : Nat) {ts : List Tn} {hs : List Rw} (h : OkTs ts) (hh : OkHs ts.length hs) {b : Int} {n : Nat} (hb : -2000000 ≤ b ∧ b ≤ 2000000) (hn : 1 ≤ n ∧ n ≤ 3000) {m i : Nat} (hB : P27.Best (awN ts hs b) n m i) (S : Sto) : callAt fns W (k + 6) 28 [.d (twT ts), .d (hrT hs), .d (.int b), .d (.int (n : Int))] S = .ok (.tuple [.int (m : Int), .int (b + (i : Int))]) S := by
  rw [r_28, b_28]
  have h5 := h.len2
  refine q_drop (x := .none) (ev_call2 (ev_var _ _ rfl) (ev_var _ _ rfl) (f22g k h hh S)) ?_
  refine q_drop (x := .none) (ev_call2 (ev_var _ _ rfl) (ev_var _ _ rfl) (f15g (k + 1) hb hn S)) ?_
  refine q_asg .none (ev_cst _) rfl ?_
  simp only [List.set_cons_succ, List.set_cons_zero]
  refine q_forG (m := n) (gs := []) (S1 := S) (fun (j : Nat) => .int (b + (j : Int))) (fun q ρ S' => ∃ (x : PyData) (u v : Option Vl), ρ = [some (.d (twT ts)), some (.d (hrT hs)), some (.d (.int b)), some (.d (.int (n : Int))), some (.d x), u, v] ∧ S' = S ∧ ((q = 0 ∧ x = .none) ∨ ∃ m i, P27.Best (awN ts hs b) q m i ∧ x = .tuple [.int (m : Int), .int (b + (i : Int))])) (evI_r2 (ev_var _ _ rfl) (ev_bin_of (ev_var _ _ rfl) (ev_var _ _ rfl) (bin_add _ _)) rfl (by omega) (by omega)) ⟨.none, none, none, rfl, rfl, .inl ⟨rfl, rfl⟩⟩ ?_ ?_
  · rintro q ρ S' hq ⟨x, u, v, rfl, rfl, hx⟩
    have ha := aslp_len ts hs (b + (q : Int))
    have g1 := ev_bin_of (ev_u1_of (ev_var (F := callAt fns W (k + 5)) (ρ := [some (.d (twT ts)), some (.d (hrT hs)), some (.d (.int b)), some (.d (.int (n : Int))), some (.d x), some (.d (.int (b + (q : Int)))), v]) (S := S') 0 _ rfl) (u1_lent _)) (ev_u1_of (ev_call3 (ev_var 0 _ rfl) (ev_var 1 _ rfl) (ev_var 5 _ rfl) (f24 (k + 2) hh.len (by omega) (b + (q : Int)) S')) (u1_lenl _)) (show binop .sub _ _ = some (.int (awN ts hs b q : Nat)) by rw [bin_sub, List.length_map, List.length_map]; congr 2; unfold awN; omega)
    have nw : ev (callAt fns W (k + 5)) (.tup (.cons (.var 6) (.cons (.var 5) .nil))) [some (.d (twT ts)), some (.d (hrT hs)), some (.d (.int b)), some (.d (.int (n : Int))), some (.d x), some (.d (.int (b + (q : Int)))), some (.d (.int (awN ts hs b q : Nat)))] S' = .ok (.d (.tuple [.int (awN ts hs b q : Nat), .int (b + (q : Int))])) S' := ev_tup_of (evps_c (ev_var _ _ rfl) (evps_c (ev_var _ _ rfl) evps_nil))
    have ta : tst (callAt fns W (k + 5)) (.cmp .is_ (.var 4) (.cst .none)) [some (.d (twT ts)), some (.d (hrT hs)), some (.d (.int b)), some (.d (.int (n : Int))), some (.d x), some (.d (.int (b + (q : Int)))), some (.d (.int (awN ts hs b q : Nat)))] S' = .ok (In.isNone x) S' := tst_b (ev_cmp_of (ev_var _ _ rfl) (ev_cst _) (cmp_is _))
    rcases hx with ⟨rfl, rfl⟩ | ⟨m, i, hB2, rfl⟩
    · refine ⟨[some (.d (twT ts)), some (.d (hrT hs)), some (.d (.int b)), some (.d (.int (n : Int))), some (.d .none), some (.d (.int (b + ((0 : Nat) : Int)))), v], [some (.d (twT ts)), some (.d (hrT hs)), some (.d (.int b)), some (.d (.int (n : Int))), some (.d (.tuple [.int (awN ts hs b 0 : Nat), .int (b + ((0 : Nat) : Int))])), some (.d (.int (b + ((0 : Nat) : Int)))), some (.d (.int (awN ts hs b 0 : Nat)))], S', rfl, ?_, rfl, _, _, _, rfl, rfl, .inr ⟨awN ts hs b 0, 0, ⟨by omega, rfl, fun j hj => by rw [show j = 0 by omega]; exact Nat.le_refl _, fun j hj => by omega⟩, rfl⟩⟩
      refine xs_asg g1 rfl ?_
      exact xs_thenNx ((tst_or ta).trans rfl) (xs_asg nw rfl xs_end) xs_end
    · have hs' := hB2.succ
      have tb : tst (callAt fns W (k + 5)) (.or (.cmp .is_ (.var 4) (.cst .none)) (.cmp .gt (.var 6) (.ix (.var 4) (.cst (.int 0))))) [some (.d (twT ts)), some (.d (hrT hs)), some (.d (.int b)), some (.d (.int (n : Int))), some (.d (.tuple [.int (m : Int), .int (b + (i : Int))])), some (.d (.int (b + (q : Int)))), some (.d (.int (awN ts hs b q : Nat)))] S' = .ok (decide (m < awN ts hs b q)) S' := by
        rw [tst_or ta]
        refine (tst_b (ev_cmp_of (ev_var 6 _ rfl) (ev_ix_of (ev_var 4 _ rfl) (ev_cst _) (ix0 _ _)) (cmp_gt _ _))).trans ?_
        congr 1
        exact decide_eq_decide.mpr (by omega)
      by_cases c : m < awN ts hs b q
      · rw [decide_eq_true c] at tb
        rw [if_pos c, if_pos c] at hs'
        exact ⟨[some (.d (twT ts)), some (.d (hrT hs)), some (.d (.int b)), some (.d (.int (n : Int))), some (.d (.tuple [.int (m : Int), .int (b + (i : Int))])), some (.d (.int (b + (q : Int)))), v], [some (.d (twT ts)), some (.d (hrT hs)), some (.d (.int b)), some (.d (.int (n : Int))), some (.d (.tuple [.int (awN ts hs b q : Nat), .int (b + (q : Int))])), some (.d (.int (b + (q : Int)))), some (.d (.int (awN ts hs b q : Nat)))], S', rfl, xs_asg g1 rfl (xs_thenNx tb (xs_asg nw rfl xs_end) xs_end), rfl, _, _, _, rfl, rfl, .inr ⟨_, _, hs', rfl⟩⟩
      · rw [decide_eq_false c] at tb
        rw [if_neg c, if_neg c] at hs'
        exact ⟨[some (.d (twT ts)), some (.d (hrT hs)), some (.d (.int b)), some (.d (.int (n : Int))), some (.d (.tuple [.int (m : Int), .int (b + (i : Int))])), some (.d (.int (b + (q : Int)))), v], [some (.d (twT ts)), some (.d (hrT hs)), some (.d (.int b)), some (.d (.int (n : Int))), some (.d (.tuple [.int (m : Int), .int (b + (i : Int))])), some (.d (.int (b + (q : Int)))), some (.d (.int (awN ts hs b q : Nat)))], S', rfl, xs_asg g1 rfl (xs_skip tb xs_end), rfl, _, _, _, rfl, rfl, .inr ⟨_, _, hs', rfl⟩⟩
  · rintro ρ' S' ⟨x, u, v, rfl, rfl, hx⟩
    rcases hx with ⟨h0, _⟩ | ⟨m', i', hB2, rfl⟩
    · omega
    · obtain ⟨rfl, rfl⟩ := hB2.one hB
      exact (q_ret _ (ev_var _ _ rfl)).trans (by simp)
end M29
/-! part M29o -/
set_option linter.all false
set_option maxRecDepth 100000
set_option maxHeartbeats 1000000
/-! The first common minute. -/
namespace M29
open PySem In Tx P29
def headsA (ts : List Tn) (hs : List Rw) (b : Int) (n : Nat) : List Nat := (List.range n).map fun (j : Nat) => (aslp ts hs (b + (j : Int))).getD 0 0
def frR (ts : List Tn) (hs : List Rw) (b : Int) (n : Nat) : PyData := match (List.range n).find? fun (j : Nat) => decide (aslp ts hs (b + (j : Int)) = []) with
  | some j => .tuple [.str "first", .int (b + (j : Int))]
  | none => .tuple [.str "barred", .tuple (nL (headsA ts hs b n))]
theorem f26 (k : Nat) {ts : List Tn} {hs : List Rw} (h : OkTs ts) (hh : OkHs ts.length hs) {b : Int} {n : Nat} (hb : -2000000 ≤ b ∧ b ≤ 2000000) (hn : 1 ≤ n ∧ n ≤ 3000) (S : Sto) : callAt fns W (k + 6) 26 [.d (twT ts), .d (hrT hs), .d (.int b), .d (.int (n : Int))] S = .ok (frR ts hs b n) S := by
  rw [r_26, b_26]
  have h5 := h.len2
  refine q_drop (x := .none) (ev_call2 (ev_var _ _ rfl) (ev_var _ _ rfl) (f22g k h hh S)) ?_
  refine q_drop (x := .none) (ev_call2 (ev_var _ _ rfl) (ev_var _ _ rfl) (f15g (k + 1) hb hn S)) ?_
  refine q_new [] (by simp) ?_
  simp only [List.set_cons_succ, List.set_cons_zero]
  refine q_forOrE (gs := []) (S1 := cd S []) (fun (j : Nat) => .int (b + (j : Int))) (List.range n) (fun l ρ S' => ∃ (i : Nat) (u v : Option Vl), l = List.range' i (n - i) ∧ i ≤ n ∧ (∀ j, j < i → aslp ts hs (b + (j : Int)) ≠ []) ∧ ρ = [some (.d (twT ts)), some (.d (hrT hs)), some (.d (.int b)), some (.d (.int (n : Int))), some (.loc S.length), u, v] ∧ S' = cd S (nL (headsA ts hs b i)))
    (fun x S' => ∃ i : Nat, i < n ∧ aslp ts hs (b + (i : Int)) = [] ∧ (∀ j, j < i → aslp ts hs (b + (j : Int)) ≠ []) ∧ x = .tuple [.str "first", .int (b + (i : Int))] ∧ S'.take S.length = S) (evI_r2 (ev_var _ _ rfl) (ev_bin_of (ev_var _ _ rfl) (ev_var _ _ rfl) (bin_add _ _)) rfl (by omega) (by omega)) ⟨0, none, none, by rw [List.range_eq_range']; rfl, Nat.zero_le _, fun j hj => by omega, rfl, rfl⟩ ?_ ?_ ?_
  · rintro a l ρ S' ⟨i, u, v, hl2, hi, hne, rfl, rfl⟩
    have hin : i < n := by
      refine Nat.lt_of_not_le fun c => ?_
      have : n - i = 0 := by omega
      rw [this] at hl2
      cases hl2
    obtain ⟨m, hm⟩ : ∃ m, n - i = m + 1 := ⟨n - i - 1, by omega⟩
    rw [hm, List.range'_succ] at hl2
    injection hl2 with ha hl2
    subst ha
    have hl2' : l = List.range' (a + 1) (n - (a + 1)) := by rw [hl2]; congr 1; omega
    have hlen : (headsA ts hs b a).length = a := by simp [headsA]
    have e24 := f24 (k + 2) hh.len (by omega) (b + (a : Int)) (cd S (nL (headsA ts hs b a)))
    refine ⟨[some (.d (twT ts)), some (.d (hrT hs)), some (.d (.int b)), some (.d (.int (n : Int))), some (.loc S.length), some (.d (.int (b + (a : Int)))), v], rfl, ?_⟩
    cases ho : aslp ts hs (b + (a : Int)) with
    | nil =>
      rw [ho] at e24
      have tc : tst (callAt fns W (k + 5)) (.not (.var 6)) [some (.d (twT ts)), some (.d (hrT hs)), some (.d (.int b)), some (.d (.int (n : Int))), some (.loc S.length), some (.d (.int (b + (a : Int)))), some (.d (.list (nL [])))] (cd S (nL (headsA ts hs b a))) = .ok true (cd S (nL (headsA ts hs b a))) := by
        unfold tst; simp
      refine .inr ⟨.tuple [.str "first", .int (b + (a : Int))], cd S (nL (headsA ts hs b a)), ?_, a, hin, ho, hne, rfl, by simp⟩
      refine xs_asg (ev_call3 (ev_var 0 _ rfl) (ev_var 1 _ rfl) (ev_var 5 _ rfl) e24) rfl ?_
      exact xs_thenRt tc (xs_ret (ev_tup_of (evps_c (ev_cst _) (evps_c (ev_var _ _ rfl) evps_nil))))
    | cons o r =>
      rw [ho] at e24
      have tc : tst (callAt fns W (k + 5)) (.not (.var 6)) [some (.d (twT ts)), some (.d (hrT hs)), some (.d (.int b)), some (.d (.int (n : Int))), some (.loc S.length), some (.d (.int (b + (a : Int)))), some (.d (.list (nL (o :: r))))] (cd S (nL (headsA ts hs b a))) = .ok false (cd S (nL (headsA ts hs b a))) := by
        unfold tst; simp
      have e1 : nL (headsA ts hs b (a + 1)) = nL (headsA ts hs b a) ++ [.int (o : Int)] := by
        unfold headsA
        rw [List.range_succ, List.map_append]
        simp [ho]
      refine .inl ⟨[some (.d (twT ts)), some (.d (hrT hs)), some (.d (.int b)), some (.d (.int (n : Int))), some (.loc S.length), some (.d (.int (b + (a : Int)))), some (.d (.list (nL (o :: r))))], cd S (nL (headsA ts hs b (a + 1))), ?_, rfl, a + 1, _, _, hl2', by omega, fun j hj => ?_, rfl, rfl⟩
      · refine xs_asg (ev_call3 (ev_var 0 _ rfl) (ev_var 1 _ rfl) (ev_var 5 _ rfl) e24) rfl ?_
        rw [e1]
        exact xs_skip tc (xs_app (Z := S) rfl (ev_ix_of (ev_var 6 _ rfl) (ev_cst _) (lx0 _ _)) (by rw [List.length_map, hlen]; omega) xs_end)
      · rcases Nat.lt_succ_iff_lt_or_eq.mp hj with q | q
        · exact hne j q
        · subst q; rw [ho]; simp
  · rintro ρ' S' ⟨i, u, v, hl2, hi, hne, rfl, rfl⟩
    have hin : i = n := by
      have := congrArg List.length hl2
      simp at this
      omega
    subst hin
    have e : frR ts hs b i = .tuple [.str "barred", .tuple (nL (headsA ts hs b i))] := by
      unfold frR
      rw [List.find?_eq_none.mpr fun t ht => by simpa using hne t (List.mem_range.mp ht)]
    rw [e]
    exact (q_ret _ (ev_tup_of (evps_c (ev_cst _) (evps_c (u1_last rfl (u1_tupl _)) evps_nil)))).trans (by simp)
  · rintro x S' ⟨i, hi, ho, hne, rfl, hS⟩
    have e : frR ts hs b n = .tuple [.str "first", .int (b + (i : Int))] := by
      unfold frR
      rw [P27.find_range hi (by simpa using ho) fun j hj => by simpa using hne j hj]
    rw [e, hS]
end M29
/-! part M29p -/
set_option linter.all false
set_option maxRecDepth 100000
set_option maxHeartbeats 1000000
/-! Draws. -/
namespace M29
open PySem In Tx P29
abbrev at_ (p : Int) (Z : Sto) : Sto := ⟨true, .lst [.int p]⟩ :: Z
theorem f29 (k : Nat) (ns : List Int) (hl : ns.length ≤ 63) (S : Sto) : ∃ ds : List Int, nn ds ∧ callAt fns W (k + 1) 29 [.d (.list (ns.map .int))] S = .ok (li ds) S := by
  obtain ⟨ds, h1, _, e⟩ := draws_ok (F := callAt fns W k) (W := W) (S := S) ns hl
  exact ⟨ds, h1, by rw [r_29]; exact e⟩
theorem f30 (k : Nat) {ds : List Int} (hd : nn ds) {p : Int} (hp : 0 ≤ p) (S : Sto) : ∃ v : Int, 0 ≤ v ∧ callAt fns W (k + 1) 30 [.d (li ds), .d (.int p)] S = .ok (.int v) S := by
  obtain ⟨v, h1, e⟩ := more_ok (F := callAt fns W k) (W := W) (S := S) ds hd p hp
  exact ⟨v, h1, by rw [r_30]; exact e⟩
theorem f31 (k : Nat) {ds : List Int} (hd : nn ds) {p many : Int} (hp : 0 ≤ p) (hm : 0 < many) (Z : Sto) : ∃ v : Int, 0 ≤ v ∧ v < many ∧ callAt fns W (k + 2) 31 [.d (li ds), .loc 0, .d (.int many)] (at_ p Z) = .ok (.int v) (at_ (p + 1) Z) := by
  obtain ⟨v, h1, h2, e⟩ := take_ok (F := callAt fns W (k + 1)) (W := W) (S := at_ p Z) 30 ds hd (fun S p hp => f30 k hd hp S) 0 p many rfl hp hm
  exact ⟨v, h1, h2, by rw [r_31]; exact e⟩
theorem f32 (k : Nat) {ds : List Int} (hd : nn ds) {p : Int} (hp : 0 ≤ p) {rows : List PyData} (hr : rows ≠ []) (Z : Sto) : ∃ x ∈ rows, callAt fns W (k + 3) 32 [.d (.list rows), .d (li ds), .loc 0] (at_ p Z) = .ok x (at_ (p + 1) Z) := by
  have hl : 0 < rows.length := List.length_pos_iff.mpr hr
  obtain ⟨x, h1, e⟩ := one_ok (F := callAt fns W (k + 2)) (W := W) (S := at_ p Z) 31 (li ds) rows hr 0 (at_ (p + 1) Z) rfl (f31 k hd hp (by omega) Z)
  exact ⟨x, h1, by rw [r_32]; exact e⟩
theorem ev_take (k : Nat) {ds : List Int} (hd : nn ds) {d a : Nat} {e : E} {ρ : In.Env} {p p1 many : Int} {Z : Sto} (h0 : ρ[d]? = some (some (.d (li ds)))) (h1 : ρ[a]? = some (some (.loc 0))) (he : ev (callAt fns W (k + 2)) e ρ (at_ p Z) = .ok (.d (.int many)) (at_ p1 Z)) (hm : 0 < many) (hp : 0 ≤ p1) :
    ∃ v : Int, 0 ≤ v ∧ v < many ∧ ev (callAt fns W (k + 2)) (.call 31 (.cons (.var d) (.cons (.var a) (.cons e .nil))) []) ρ (at_ p Z) = .ok (.d (.int v)) (at_ (p1 + 1) Z) := by
  obtain ⟨v, v0, v1, h⟩ := f31 k hd hp hm Z
  exact ⟨v, v0, v1, ev_call_of (evs_c (ev_var _ _ h0) (evs_c (ev_var _ _ h1) (evs_c he evs_nil))) h⟩
theorem ev_one (k : Nat) {ds : List Int} (hd : nn ds) {d a : Nat} {e : E} {ρ : In.Env} {p p1 : Int} {Z : Sto} {rows : List PyData} (h0 : ρ[d]? = some (some (.d (li ds)))) (h1 : ρ[a]? = some (some (.loc 0))) (he : ev (callAt fns W (k + 3)) e ρ (at_ p Z) = .ok (.d (.list rows)) (at_ p1 Z)) (hr : rows ≠ []) (hp : 0 ≤ p1) :
    ∃ x ∈ rows, ev (callAt fns W (k + 3)) (.call 32 (.cons e (.cons (.var d) (.cons (.var a) .nil))) []) ρ (at_ p Z) = .ok (.d x) (at_ (p1 + 1) Z) := by
  obtain ⟨x, hx, h⟩ := f32 k hd hp hr Z
  exact ⟨x, hx, ev_call_of (evs_c he (evs_c (ev_var _ _ h0) (evs_c (ev_var _ _ h1) evs_nil))) h⟩
end M29
/-! part M29q -/
set_option linter.all false
set_option maxRecDepth 100000
set_option maxHeartbeats 1000000
/-! What _law_told tells. -/
namespace M29
open PySem In Tx P29
theorem caught_a (x : PyData) (S : Sto) : caught [("ArgumentError", "argument"), ("PaperError", "paper")] "ArgumentError" x S = .ok (.rt (.tuple [.str "argument", x])) S := rfl
theorem caught_p (x : PyData) (S : Sto) : caught [("ArgumentError", "argument"), ("PaperError", "paper")] "PaperError" x S = .ok (.rt (.tuple [.str "paper", x])) S := rfl
abbrev arg (x : PyData) : PyData := .tuple [.str "argument", x]
abbrev ppr (x : PyData) : PyData := .tuple [.str "paper", x]

theorem t0 (k : Nat) {x y z u v : Vl} {r : PyData} {S S1 : Sto} (h : callAt fns W k 8 [x, y] S = .ok r S1) : callAt fns W (k + 1) 41 [.d (.int 0), x, y, z, u, v] S = .ok r (S1.take S.length) := by
  rw [r_41]
  simp [b_41, h]
theorem t0b (k : Nat) {x y z u v : Vl} {r : PyData} {S : Sto} (h : callAt fns W k 8 [x, y] S = .ex "ArgumentError" r S) : callAt fns W (k + 1) 41 [.d (.int 0), x, y, z, u, v] S = .ok (arg r) S := by
  rw [r_41]
  simp [b_41, h, caught_a]
theorem t1 (k : Nat) {x y z u v : Vl} {r : PyData} {S S1 : Sto} (h : callAt fns W k 10 [x, y] S = .ok r S1) : callAt fns W (k + 1) 41 [.d (.int 1), x, y, z, u, v] S = .ok r (S1.take S.length) := by
  rw [r_41]
  simp [b_41, h]
theorem t1b (k : Nat) {x y z u v : Vl} {r : PyData} {S : Sto} (h : callAt fns W k 10 [x, y] S = .ex "ArgumentError" r S) : callAt fns W (k + 1) 41 [.d (.int 1), x, y, z, u, v] S = .ok (arg r) S := by
  rw [r_41]
  simp [b_41, h, caught_a]
theorem t2 (k : Nat) {x y z u v : Vl} {r : PyData} {S S1 : Sto} (h : callAt fns W k 13 [x, y] S = .ok r S1) : callAt fns W (k + 1) 41 [.d (.int 2), x, y, z, u, v] S = .ok r (S1.take S.length) := by
  rw [r_41]
  simp [b_41, h]
theorem t2b (k : Nat) {x y z u v : Vl} {r : PyData} {S : Sto} (h : callAt fns W k 13 [x, y] S = .ex "ArgumentError" r S) : callAt fns W (k + 1) 41 [.d (.int 2), x, y, z, u, v] S = .ok (arg r) S := by
  rw [r_41]
  simp [b_41, h, caught_a]
theorem t3 (k : Nat) {x y z u v : Vl} {r : PyData} {S S1 : Sto} (h : callAt fns W k 11 [x, y, z] S = .ok r S1) : callAt fns W (k + 1) 41 [.d (.int 3), x, y, z, u, v] S = .ok r (S1.take S.length) := by
  rw [r_41]
  simp [b_41, h]
theorem t3b (k : Nat) {x y z u v : Vl} {r : PyData} {S : Sto} (h : callAt fns W k 11 [x, y, z] S = .ex "ArgumentError" r S) : callAt fns W (k + 1) 41 [.d (.int 3), x, y, z, u, v] S = .ok (arg r) S := by
  rw [r_41]
  simp [b_41, h, caught_a]
theorem t4 (k : Nat) {x y z u v : Vl} {r : PyData} {S S1 : Sto} (h : callAt fns W k 12 [x] S = .ok r S1) : callAt fns W (k + 1) 41 [.d (.int 4), x, y, z, u, v] S = .ok r (S1.take S.length) := by
  rw [r_41]
  simp [b_41, h]
theorem t4b (k : Nat) {x y z u v : Vl} {r : PyData} {S : Sto} (h : callAt fns W k 12 [x] S = .ex "ArgumentError" r S) : callAt fns W (k + 1) 41 [.d (.int 4), x, y, z, u, v] S = .ok (arg r) S := by
  rw [r_41]
  simp [b_41, h, caught_a]
theorem t5 (k : Nat) {x y z u v : Vl} {r : PyData} {S S1 : Sto} (h : callAt fns W k 16 [x, y, z] S = .ok r S1) : callAt fns W (k + 1) 41 [.d (.int 5), x, y, z, u, v] S = .ok r (S1.take S.length) := by
  rw [r_41]
  simp [b_41, h]
theorem t5b (k : Nat) {x y z u v : Vl} {r : PyData} {S : Sto} (h : callAt fns W k 16 [x, y, z] S = .ex "ArgumentError" r S) : callAt fns W (k + 1) 41 [.d (.int 5), x, y, z, u, v] S = .ok (arg r) S := by
  rw [r_41]
  simp [b_41, h, caught_a]
theorem t6 (k : Nat) {x y z u v : Vl} {r : PyData} {S S1 : Sto} (h : callAt fns W k 19 [x, y] S = .ok r S1) : callAt fns W (k + 1) 41 [.d (.int 6), x, y, z, u, v] S = .ok r (S1.take S.length) := by
  rw [r_41]
  simp [b_41, h]
theorem t6b (k : Nat) {x y z u v : Vl} {r : PyData} {S : Sto} (h : callAt fns W k 19 [x, y] S = .ex "ArgumentError" r S) : callAt fns W (k + 1) 41 [.d (.int 6), x, y, z, u, v] S = .ok (arg r) S := by
  rw [r_41]
  simp [b_41, h, caught_a]
theorem t7 (k : Nat) {x y z u v : Vl} {r : PyData} {S S1 : Sto} (h : callAt fns W k 20 [x, y] S = .ok r S1) : callAt fns W (k + 1) 41 [.d (.int 7), x, y, z, u, v] S = .ok r (S1.take S.length) := by
  rw [r_41]
  simp [b_41, h]
theorem t7b (k : Nat) {x y z u v : Vl} {r : PyData} {S : Sto} (h : callAt fns W k 20 [x, y] S = .ex "ArgumentError" r S) : callAt fns W (k + 1) 41 [.d (.int 7), x, y, z, u, v] S = .ok (arg r) S := by
  rw [r_41]
  simp [b_41, h, caught_a]
theorem t8 (k : Nat) {x y z u v : Vl} {r : PyData} {S S1 : Sto} (h : callAt fns W k 25 [x, y, z, u] S = .ok r S1) : callAt fns W (k + 1) 41 [.d (.int 8), x, y, z, u, v] S = .ok r (S1.take S.length) := by
  rw [r_41]
  simp [b_41, h]
theorem t8b (k : Nat) {x y z u v : Vl} {r : PyData} {S : Sto} (h : callAt fns W k 25 [x, y, z, u] S = .ex "ArgumentError" r S) : callAt fns W (k + 1) 41 [.d (.int 8), x, y, z, u, v] S = .ok (arg r) S := by
  rw [r_41]
  simp [b_41, h, caught_a]
theorem t9 (k : Nat) {x y z u v : Vl} {r : PyData} {S S1 : Sto} (h : callAt fns W k 28 [x, y, z, u] S = .ok r S1) : callAt fns W (k + 1) 41 [.d (.int 9), x, y, z, u, v] S = .ok r (S1.take S.length) := by
  rw [r_41]
  simp [b_41, h]
theorem t9b (k : Nat) {x y z u v : Vl} {r : PyData} {S : Sto} (h : callAt fns W k 28 [x, y, z, u] S = .ex "ArgumentError" r S) : callAt fns W (k + 1) 41 [.d (.int 9), x, y, z, u, v] S = .ok (arg r) S := by
  rw [r_41]
  simp [b_41, h, caught_a]
theorem t10 (k : Nat) {x y z u v : Vl} {r : PyData} {S S1 : Sto} (h : callAt fns W k 26 [x, y, z, u] S = .ok r S1) : callAt fns W (k + 1) 41 [.d (.int 10), x, y, z, u, v] S = .ok r (S1.take S.length) := by
  rw [r_41]
  simp [b_41, h]
theorem t10b (k : Nat) {x y z u v : Vl} {r : PyData} {S : Sto} (h : callAt fns W k 26 [x, y, z, u] S = .ex "ArgumentError" r S) : callAt fns W (k + 1) 41 [.d (.int 10), x, y, z, u, v] S = .ok (arg r) S := by
  rw [r_41]
  simp [b_41, h, caught_a]
theorem t11 (k : Nat) {x y z u v : Vl} {r : PyData} {S S1 : Sto} (h : callAt fns W k 27 [x, y, z, u, v] S = .ok r S1) : callAt fns W (k + 1) 41 [.d (.int 11), x, y, z, u, v] S = .ok r (S1.take S.length) := by
  rw [r_41]
  simp [b_41, h]
theorem t11b (k : Nat) {x y z u v : Vl} {r : PyData} {S : Sto} (h : callAt fns W k 27 [x, y, z, u, v] S = .ex "ArgumentError" r S) : callAt fns W (k + 1) 41 [.d (.int 11), x, y, z, u, v] S = .ok (arg r) S := by
  rw [r_41]
  simp [b_41, h, caught_a]
theorem t11p (k : Nat) {x y z u v : Vl} {r : PyData} {S : Sto} (h : callAt fns W k 27 [x, y, z, u, v] S = .ex "PaperError" r S) : callAt fns W (k + 1) 41 [.d (.int 11), x, y, z, u, v] S = .ok (ppr r) S := by
  rw [r_41]
  simp [b_41, h, caught_p]
theorem tk {r : R PyData} {x : PyData} {S : Sto} (h : r = .ok x (S.take S.length)) : r = .ok x S := by simpa using h
end M29
/-! part M29r -/
set_option linter.all false
set_option maxRecDepth 100000
set_option maxHeartbeats 1000000
/-! Rows of neighbouring minutes. -/
namespace M29
open PySem In Tx P29
def stepR (found : List Rw) (m : Int) : List Rw := match found.getLast? with
  | some l => if l.1 + l.2 = m then found.dropLast ++ [(l.1, l.2 + 1)] else found ++ [(m, 1)]
  | none => found ++ [(m, 1)]
def rowsOf (ms : List Int) : List Rw := ms.foldl stepR []
theorem rowsOf_snoc (d : List Int) (m : Int) : rowsOf (d ++ [m]) = stepR (rowsOf d) m := by
  unfold rowsOf
  rw [List.foldl_append]; rfl
theorem stepR_len (f : List Rw) (m : Int) : (stepR f m).length ≤ f.length + 1 := by
  unfold stepR
  split
  · split
    · simp
      all_goals omega
    · simp
  · simp
theorem rowsOf_len (ms : List Int) : (rowsOf ms).length ≤ ms.length := by
  have key : ∀ (l : List Int) (f : List Rw), (l.foldl stepR f).length ≤ f.length + l.length := by
    intro l
    induction l with
    | nil => intro f; simp
    | cons a l ih =>
      intro f
      have h1 := ih (stepR f a)
      have h2 := stepR_len f a
      simp only [List.foldl_cons, List.length_cons]
      omega
  have := key ms []
  simp only [List.length_nil, Nat.zero_add] at this
  exact this
theorem flat_rw (r : Rw) : flat (rw_ r) := ⟨rfl, by simp [rw_, PyData.depth, PyData.depthAll]⟩
theorem f39 (k : Nat) (ms : List Int) (hl : ms.length ≤ 3000) (S : Sto) : callAt fns W (k + 1) 39 [.d (.list (iL ms))] S = .ok (.tuple ((rowsOf ms).map rw_)) S := by
  rw [r_39, b_39]
  refine q_new [] (by simp) ?_
  simp only [List.set_cons_succ, List.set_cons_zero]
  refine q_forE (gs := []) (S1 := cd S []) .int ms (fun l ρ S' => ∃ (d : List Int) (u : Option Vl), ms = d ++ l ∧ ρ = [some (.d (.list (iL ms))), some (.loc S.length), u] ∧ S' = cd S ((rowsOf d).map rw_)) (by rw [evI_e, ev_var 0 _ rfl]; rfl) ⟨[], none, rfl, rfl, rfl⟩ ?_ ?_
  · rintro m l ρ S' ⟨d, u, hd, rfl, rfl⟩
    have hlen := rowsOf_len d
    have hdl : d.length ≤ 3000 := by
      have := congrArg List.length hd
      rw [List.length_append] at this
      omega
    refine ⟨[some (.d (.list (iL ms))), some (.loc S.length), some (.d (.int m))], [some (.d (.list (iL ms))), some (.loc S.length), some (.d (.int m))], cd S ((rowsOf (d ++ [m])).map rw_), rfl, ?_, rfl, d ++ [m], _, by rw [List.append_assoc]; exact hd, rfl, rfl⟩
    rw [rowsOf_snoc]
    generalize rowsOf d = ys at *
    have tne : tst (callAt fns W k) (.cmp .ne (.var 1) (.lst .nil)) [some (.d (.list (iL ms))), some (.loc S.length), some (.d (.int m))] (cd S (ys.map rw_)) = .ok (!decide (ys.map rw_ = [])) (cd S (ys.map rw_)) := tst_b (cmp_last rfl (ev_lst_of evps_nil) (ne_nil fun z hz => by
      obtain ⟨y, _, rfl⟩ := List.mem_map.mp hz
      exact flat_rw y))
    have nw : ev (callAt fns W k) (.tup (.cons (.var 2) (.cons (.cst (.int 1)) .nil))) [some (.d (.list (iL ms))), some (.loc S.length), some (.d (.int m))] (cd S (ys.map rw_)) = .ok (.d (rw_ (m, 1))) (cd S (ys.map rw_)) := ev_tup_of (evps_c (ev_var _ _ rfl) (evps_c (ev_cst _) evps_nil))
    unfold stepR
    cases hl2 : ys.getLast? with
    | none =>
      have : ys = [] := List.getLast?_eq_none_iff.mp hl2
      subst this
      exact xs_elseNx ((tst_and tne).trans rfl) (xs_app (Z := S) (ys := []) rfl nw (by simp) xs_end) xs_end
    | some q =>
      have hne : ys ≠ [] := by rintro rfl; cases hl2
      have hpos := List.length_pos_iff.mpr hne
      have elen : ev (callAt fns W k) (.bin .sub (.u1 .len (.var 1)) (.cst (.int 1))) [some (.d (.list (iL ms))), some (.loc S.length), some (.d (.int m))] (cd S (ys.map rw_)) = .ok (.d (.int ((ys.length - 1 : Nat) : Int))) (cd S (ys.map rw_)) := ev_bin_of (u1_last rfl (u1_lenl _)) (ev_cst _) (show binop .sub _ _ = some (.int ((ys.length - 1 : Nat) : Int)) by rw [bin_sub, List.length_map]; congr 2; omega)
      have lx : ev (callAt fns W k) (.ix (.var 1) (.bin .sub (.u1 .len (.var 1)) (.cst (.int 1)))) [some (.d (.list (iL ms))), some (.loc S.length), some (.d (.int m))] (cd S (ys.map rw_)) = .ok (.d (rw_ q)) (cd S (ys.map rw_)) := ix_last rfl elen (ix_int rfl (by rw [List.getElem?_map, ← List.getLast?_eq_getElem?, hl2]; rfl))
      have l0 := ev_ix_of lx (ev_cst (.int 0)) (show index (rw_ q) (.int 0) = some (.int q.1) from ix0 _ _)
      have l1 := ev_ix_of lx (ev_cst (.int 1)) (show index (rw_ q) (.int 1) = some (.int q.2) from ix1 _ _ _)
      have tt : tst (callAt fns W k) (.and (.cmp .ne (.var 1) (.lst .nil)) (.cmp .eq (.bin .add (.ix (.ix (.var 1) (.bin .sub (.u1 .len (.var 1)) (.cst (.int 1)))) (.cst (.int 0))) (.ix (.ix (.var 1) (.bin .sub (.u1 .len (.var 1)) (.cst (.int 1)))) (.cst (.int 1)))) (.var 2))) [some (.d (.list (iL ms))), some (.loc S.length), some (.d (.int m))] (cd S (ys.map rw_)) = .ok (decide (q.1 + q.2 = m)) (cd S (ys.map rw_)) := by
        rw [tst_and tne, if_pos (by simpa using hne)]
        exact tst_b (ev_cmp_of (ev_bin_of l0 l1 (bin_add _ _)) (ev_var 2 _ rfl) (cmp_eq _ _))
      simp only
      by_cases c : q.1 + q.2 = m
      · rw [decide_eq_true c] at tt
        rw [if_pos c]
        refine xs_thenNx tt (xs_sixL (n := (ys.map rw_).length - 1) rfl (ev_tup_of (evps_c l0 (evps_c (ev_bin_of l1 (ev_cst (.int 1)) (bin_add _ _)) evps_nil))) elen (by rw [List.length_map]; exact ixN_nat _ _ (by omega)) xs_end) ?_
        rw [set_last (by simpa using hne), List.map_append, List.map_dropLast]
        all_goals exact xs_end
      · rw [decide_eq_false c] at tt
        rw [if_neg c, List.map_append]
        exact xs_elseNx tt (xs_app (Z := S) rfl nw (by rw [List.length_map]; omega) xs_end) xs_end
  · rintro ρ' S' ⟨d, u, hd, rfl, rfl⟩
    have : ms = d := by simpa using hd
    subst this
    exact (q_ret _ (u1_last rfl (u1_tupl _))).trans (by simp)
end M29
/-! part M29s -/
set_option linter.all false
set_option maxRecDepth 100000
set_option maxHeartbeats 1000000
/-! Common hours. -/
namespace M29
open PySem In Tx P29
def wk (ts : List Tn) (hs : List Rw) (b : Int) (n : Nat) : List Int := ((List.range n).filter fun (j : Nat) => decide (aslp ts hs (b + (j : Int)) = [])).map fun (j : Nat) => b + (j : Int)
theorem wk_snoc (ts : List Tn) (hs : List Rw) (b : Int) (i : Nat) : wk ts hs b (i + 1) = wk ts hs b i ++ if aslp ts hs (b + (i : Int)) = [] then [b + (i : Int)] else [] := by
  unfold wk
  rw [List.range_succ, List.filter_append, List.map_append, List.filter_cons]
  by_cases c : aslp ts hs (b + (i : Int)) = []
  · rw [decide_eq_true c, if_pos rfl, if_pos c]; rfl
  · rw [decide_eq_false c, if_neg (by decide), if_neg c]; rfl
theorem wk_len (ts : List Tn) (hs : List Rw) (b : Int) (n : Nat) : (wk ts hs b n).length ≤ n := by
  unfold wk
  rw [List.length_map]
  have := List.length_filter_le (fun (j : Nat) => decide (aslp ts hs (b + (j : Int)) = [])) (List.range n)
  rw [List.length_range] at this
  exact this
theorem f25 (k : Nat) {ts : List Tn} {hs : List Rw} (h : OkTs ts) (hh : OkHs ts.length hs) {b : Int} {n : Nat} (hb : -2000000 ≤ b ∧ b ≤ 2000000) (hn : 1 ≤ n ∧ n ≤ 3000) (S : Sto) : callAt fns W (k + 6) 25 [.d (twT ts), .d (hrT hs), .d (.int b), .d (.int (n : Int))] S = .ok (.tuple ((rowsOf (wk ts hs b n)).map rw_)) S := by
  rw [r_25, b_25]
  have h5 := h.len2
  refine q_drop (x := .none) (ev_call2 (ev_var _ _ rfl) (ev_var _ _ rfl) (f22g k h hh S)) ?_
  refine q_drop (x := .none) (ev_call2 (ev_var _ _ rfl) (ev_var _ _ rfl) (f15g (k + 1) hb hn S)) ?_
  refine q_new [] (by simp) ?_
  simp only [List.set_cons_succ, List.set_cons_zero]
  refine q_forG (m := n) (gs := []) (S1 := cd S []) (fun (j : Nat) => .int (b + (j : Int))) (fun i ρ S' => ∃ (u : Option Vl), ρ = [some (.d (twT ts)), some (.d (hrT hs)), some (.d (.int b)), some (.d (.int (n : Int))), some (.loc S.length), u] ∧ S' = cd S ((rowsOf (wk ts hs b i)).map rw_)) (evI_r2 (ev_var _ _ rfl) (ev_bin_of (ev_var _ _ rfl) (ev_var _ _ rfl) (bin_add _ _)) rfl (by omega) (by omega)) ⟨none, rfl, rfl⟩ ?_ ?_
  · rintro i ρ S' hi ⟨u, rfl, rfl⟩
    have hlen := rowsOf_len (wk ts hs b i)
    have hdl := wk_len ts hs b i
    have e24 := f24 (k + 2) hh.len (by omega) (b + (i : Int)) (cd S ((rowsOf (wk ts hs b i)).map rw_))
    have hsn := wk_snoc ts hs b i
    refine ⟨[some (.d (twT ts)), some (.d (hrT hs)), some (.d (.int b)), some (.d (.int (n : Int))), some (.loc S.length), some (.d (.int (b + (i : Int))))], [some (.d (twT ts)), some (.d (hrT hs)), some (.d (.int b)), some (.d (.int (n : Int))), some (.loc S.length), some (.d (.int (b + (i : Int))))], cd S ((rowsOf (wk ts hs b (i + 1))).map rw_), rfl, ?_, rfl, _, rfl, rfl⟩
    have ta : tst (callAt fns W (k + 5)) (.not (.call 24 (.cons (.var 0) (.cons (.var 1) (.cons (.var 5) .nil))) [])) [some (.d (twT ts)), some (.d (hrT hs)), some (.d (.int b)), some (.d (.int (n : Int))), some (.loc S.length), some (.d (.int (b + (i : Int))))] (cd S ((rowsOf (wk ts hs b i)).map rw_)) = .ok (decide (aslp ts hs (b + (i : Int)) = [])) (cd S ((rowsOf (wk ts hs b i)).map rw_)) := by
      have e := ev_call3 (F := (callAt fns W (k + 5))) (f := 24) (ρ := [some (.d (twT ts)), some (.d (hrT hs)), some (.d (.int b)), some (.d (.int (n : Int))), some (.loc S.length), some (.d (.int (b + (i : Int))))]) (ev_var 0 _ rfl) (ev_var 1 _ rfl) (ev_var 5 _ rfl) e24
      have t0 : tst (callAt fns W (k + 5)) (.call 24 (.cons (.var 0) (.cons (.var 1) (.cons (.var 5) .nil))) []) [some (.d (twT ts)), some (.d (hrT hs)), some (.d (.int b)), some (.d (.int (n : Int))), some (.loc S.length), some (.d (.int (b + (i : Int))))] (cd S ((rowsOf (wk ts hs b i)).map rw_)) = .ok (!decide (aslp ts hs (b + (i : Int)) = [])) (cd S ((rowsOf (wk ts hs b i)).map rw_)) := by
        unfold tst
        rw [e]
        cases aslp ts hs (b + (i : Int)) <;> rfl
      have := tst_not t0
      simpa using this
    rw [hsn]
    by_cases ca : aslp ts hs (b + (i : Int)) = []
    · rw [decide_eq_true ca] at ta
      rw [if_pos ca, rowsOf_snoc]
      clear hsn e24
      generalize rowsOf (wk ts hs b i) = ys at *
      have nw : ev (callAt fns W (k + 5)) (.tup (.cons (.var 5) (.cons (.cst (.int 1)) .nil))) [some (.d (twT ts)), some (.d (hrT hs)), some (.d (.int b)), some (.d (.int (n : Int))), some (.loc S.length), some (.d (.int (b + (i : Int))))] (cd S (ys.map rw_)) = .ok (.d (rw_ (b + (i : Int), 1))) (cd S (ys.map rw_)) := ev_tup_of (evps_c (ev_var _ _ rfl) (evps_c (ev_cst _) evps_nil))
      refine xs_thenNx (S2 := cd S ((stepR ys (b + (i : Int))).map rw_)) ta ?_ xs_end
      unfold stepR
      cases hl2 : ys.getLast? with
      | none =>
        have : ys = [] := List.getLast?_eq_none_iff.mp hl2
        subst this
        exact xs_elseNx ((tst_and (tst_last rfl)).trans rfl) (xs_app (Z := S) (ys := []) rfl nw (by simp) xs_end) xs_end
      | some q =>
        have hne : ys ≠ [] := by rintro rfl; cases hl2
        have hpos := List.length_pos_iff.mpr hne
        have lx : ev (callAt fns W (k + 5)) (.ix (.var 4) (.u1 .neg (.cst (.int 1)))) [some (.d (twT ts)), some (.d (hrT hs)), some (.d (.int b)), some (.d (.int (n : Int))), some (.loc S.length), some (.d (.int (b + (i : Int))))] (cd S (ys.map rw_)) = .ok (.d (rw_ q)) (cd S (ys.map rw_)) := ix_last rfl (ev_u1_of (ev_cst _) (u1_neg 1)) (index_neg1 (by rw [List.getLast?_map, hl2]; rfl))
        have l0 := ev_ix_of lx (ev_cst (.int 0)) (show index (rw_ q) (.int 0) = some (.int q.1) from ix0 _ _)
        have l1 := ev_ix_of lx (ev_cst (.int 1)) (show index (rw_ q) (.int 1) = some (.int q.2) from ix1 _ _ _)
        have tt : tst (callAt fns W (k + 5)) (.and (.var 4) (.cmp .eq (.bin .add (.ix (.ix (.var 4) (.u1 .neg (.cst (.int 1)))) (.cst (.int 0))) (.ix (.ix (.var 4) (.u1 .neg (.cst (.int 1)))) (.cst (.int 1)))) (.var 5))) [some (.d (twT ts)), some (.d (hrT hs)), some (.d (.int b)), some (.d (.int (n : Int))), some (.loc S.length), some (.d (.int (b + (i : Int))))] (cd S (ys.map rw_)) = .ok (decide (q.1 + q.2 = b + (i : Int))) (cd S (ys.map rw_)) := by
          rw [tst_and (tst_last rfl), if_pos (by cases ys <;> simp at hne ⊢)]
          exact tst_b (ev_cmp_of (ev_bin_of l0 l1 (bin_add _ _)) (ev_var 5 _ rfl) (cmp_eq _ _))
        simp only
        by_cases c : q.1 + q.2 = b + (i : Int)
        · rw [decide_eq_true c] at tt
          rw [if_pos c]
          refine xs_thenNx tt (xs_sixL (n := (ys.map rw_).length - 1) rfl (ev_tup_of (evps_c l0 (evps_c (ev_bin_of l1 (ev_cst (.int 1)) (bin_add _ _)) evps_nil))) (ev_u1_of (ev_cst (.int 1)) (u1_neg 1)) (ixN_last _ (by rw [List.length_map]; exact hpos)) xs_end) ?_
          rw [set_last (by simpa using hne), List.map_append, List.map_dropLast]
          all_goals exact xs_end
        · rw [decide_eq_false c] at tt
          rw [if_neg c, List.map_append]
          exact xs_elseNx tt (xs_app (Z := S) rfl nw (by rw [List.length_map]; omega) xs_end) xs_end
    · rw [decide_eq_false ca] at ta
      rw [if_neg ca, List.append_nil]
      exact xs_skip ta xs_end
  · rintro ρ' S' ⟨u, rfl, rfl⟩
    exact (q_ret _ (u1_last rfl (u1_tupl _))).trans (by simp)
end M29
/-! part M29t -/
set_option linter.all false
set_option maxRecDepth 100000
set_option maxHeartbeats 1000000
/-! What is told of a common minute. -/
namespace M29
open PySem In Tx P29
inductive ToldF : PyData → Prop
  | none : ToldF .none
  | one (a : PyData) : ToldF (.tuple [a])
  | tru (a : PyData) : ToldF (.tuple [.bool true, a])
  | odd (i : Int) : ToldF (.tuple [.str "none", .int i])
  | firstI (i : Int) : ToldF (.tuple [.str "first", .int i])
  | firstB (c : Bool) : ToldF (.tuple [.str "first", .bool c])
  | barT (ys : List PyData) (hl : ys.length ≤ 10000) (hf : ∀ y ∈ ys, flat y) : ToldF (.tuple [.str "barred", .tuple ys])
def numI : PyData → Nat
  | .int i => i.toNat
  | _ => 0
def inS (b : Int) (n : Nat) (i : Int) : Bool := decide (b ≤ i) && decide (i < b + n)
def early (ts : List Tn) (hs : List Rw) (b : Int) (n : Nat) : Bool := (List.range n).any fun (j : Nat) => decide (aslp ts hs (b + (j : Int)) = [])
def vfI (ts : List Tn) (hs : List Rw) (b : Int) (n : Nat) (i : Int) : Option String := if inS b n i then (if aslp ts hs i = [] then (if early ts hs b (i - b).toNat then some "first" else none) else some "hours") else some "form"
def barOk (ts : List Tn) (hs : List Rw) (b : Int) (n : Nat) (ys : List PyData) : Bool := (List.range n).all fun (t : Nat) => !awk (gT ts (numI (ys.getD t .none))) (gH hs (numI (ys.getD t .none))) (b + (t : Int))
def vfT (ts : List Tn) (hs : List Rw) (b : Int) (n : Nat) (ys : List PyData) : Option String := if ys.length = n then (if ys.all (inR 0 ((ts.length : Int) - 1)) then (if barOk ts hs b n ys then none else some "barred") else some "form") else some "form"
def vf (ts : List Tn) (hs : List Rw) (b : Int) (n : Nat) : PyData → Option String
  | .tuple [.str w, .int i] => if w = "first" then vfI ts hs b n i else some "form"
  | .tuple [.str w, .tuple ys] => if w = "barred" then vfT ts hs b n ys else some "form"
  | _ => some "form"
def oR : Option String → Sto → R PyData
  | .none, S => .ok .none S
  | .some w, S => .ex "PaperError" (.str w) S
def oS : Option String → PyData
  | some w => .str w
  | none => .none
def badF : PyData → Bool
  | .tuple [.str _, _] => false
  | _ => true
theorem inR_nat {n : Nat} {y : PyData} (h : inR 0 ((n : Int) - 1) y = true) : ∃ j : Nat, y = .int (j : Int) ∧ j < n := by
  cases y with
  | int i =>
    simp only [inR, Bool.and_eq_true, decide_eq_true_eq] at h
    obtain ⟨j, rfl⟩ := Int.eq_ofNat_of_zero_le h.1
    exact ⟨j, rfl, by omega⟩
  | _ => simp [inR] at h
theorem enum_ys (ys : List PyData) : enumL 0 ys = (List.range ys.length).map fun (t : Nat) => .tuple [.int (t : Int), ys.getD t .none] :=
  enum_rng ys (fun t => ys.getD t .none) fun i hi => by rw [List.getD_eq_getElem?_getD, List.getElem?_eq_getElem hi]; rfl
theorem f27 (k : Nat) {ts : List Tn} {hs : List Rw} (h : OkTs ts) (hh : OkHs ts.length hs) {b : Int} {n : Nat} (hb : -2000000 ≤ b ∧ b ≤ 2000000) (hn : 1 ≤ n ∧ n ≤ 3000) {x : PyData} (ht : ToldF x) (S : Sto) : callAt fns W (k + 6) 27 [.d (twT ts), .d (hrT hs), .d (.int b), .d (.int (n : Int)), .d x] S = oR (vf ts hs b n x) S := by
  rw [r_27, b_27]
  have h5 := h.len2
  refine q_drop (x := .none) (ev_call2 (ev_var _ _ rfl) (ev_var _ _ rfl) (f22g k h hh S)) ?_
  refine q_drop (x := .none) (ev_call2 (ev_var _ _ rfl) (ev_var _ _ rfl) (f15g (k + 1) hb hn S)) ?_
  have t1 : tst (callAt fns W (k + 5)) (.or (.not (.isi (.var 4) "tuple")) (.or (.cmp .ne (.u1 .len (.var 4)) (.cst (.int 2))) (.not (.isi (.ix (.var 4) (.cst (.int 0))) "str")))) [some (.d (twT ts)), some (.d (hrT hs)), some (.d (.int b)), some (.d (.int (n : Int))), some (.d (x)), none, none, none] S = .ok (badF x) S := by
    unfold tst
    cases ht <;> simp [nt, nstr, badF]
  have e24 := fun (i : Int) => f24 (k + 2) hh.len (by omega) i S (ts := ts) (hs := hs)
  cases ht with
  | none => exact (q_thenRaise t1 (ev_cst _)).trans (by simp [vf, oR])
  | one a =>
    rw [show badF (.tuple [a]) = true by cases a <;> rfl] at t1
    exact (q_thenRaise t1 (ev_cst _)).trans (by simp [vf, oR])
  | tru a => exact (q_thenRaise t1 (ev_cst _)).trans (by cases a <;> simp [vf, oR])
  | odd i =>
    have n1 : ¬ (("none" : Str) = "first") := by decide +kernel
    refine q_skip t1 ?_
    refine q_skip (tst_b (ev_cmp_of (ev_ix_of (ev_var _ _ rfl) (ev_cst _) (ix0 _ _)) (ev_cst _) (show cmpop .eq (.str "none") (.str "first") = some false by decide +kernel))) ?_
    refine (q_thenRaise (S1 := S) (S2 := S) ?_ (ev_cst _)).trans (by simp [vf, oR, n1])
    rw [tst_or (tst_b (ev_cmp_of (ev_ix_of (ev_var _ _ rfl) (ev_cst _) (ix0 _ _)) (ev_cst _) (show cmpop .ne (.str "none") (.str "barred") = some true by decide +kernel)))]
    rfl
  | firstB c =>
    refine q_skip t1 (q_then (tst_b (ev_cmp_of (ev_ix_of (ev_var _ _ rfl) (ev_cst _) (ix0 _ _)) (ev_cst _) (show cmpop .eq (.str "first") (.str "first") = some true by decide +kernel))) ?_)
    have tr : tst (callAt fns W (k + 5)) (.not (.call 1 (.cons (.ix (.var 4) (.cst (.int 1))) (.cons (.var 2) (.cons (.bin .sub (.bin .add (.var 2) (.var 3)) (.cst (.int 1))) .nil))) [])) [some (.d (twT ts)), some (.d (hrT hs)), some (.d (.int b)), some (.d (.int (n : Int))), some (.d (.tuple [.str "first", .bool c])), none, none, none] S = .ok true S :=
      tst_not (b := false) (tst_b (ev_call3 (ev_ix_of (ev_var _ _ rfl) (ev_cst _) (ix1 _ _ _)) (ev_var _ _ rfl) (ev_bin_of (ev_bin_of (ev_var _ _ rfl) (ev_var _ _ rfl) (bin_add _ _)) (ev_cst _) (bin_sub _ _)) (f1 (k + 3) _ _ _ S)))
    rw [xs_cons, x1_yes tr, xs_cons, x1_raise, ev_cst]
    simp [vf, oR]
  | firstI i =>
    refine q_skip t1 (q_then (tst_b (ev_cmp_of (ev_ix_of (ev_var _ _ rfl) (ev_cst _) (ix0 _ _)) (ev_cst _) (show cmpop .eq (.str "first") (.str "first") = some true by decide +kernel))) ?_)
    have hv : vf ts hs b n (.tuple [.str "first", .int i]) = vfI ts hs b n i := by simp [vf]
    rw [hv]
    unfold vfI
    have ei : inR b (b + (n : Int) - 1) (.int i) = inS b n i := by
      simp only [inR, inS]
      congr 1
      exact decide_eq_decide.mpr (by omega)
    have tr : tst (callAt fns W (k + 5)) (.not (.call 1 (.cons (.ix (.var 4) (.cst (.int 1))) (.cons (.var 2) (.cons (.bin .sub (.bin .add (.var 2) (.var 3)) (.cst (.int 1))) .nil))) [])) [some (.d (twT ts)), some (.d (hrT hs)), some (.d (.int b)), some (.d (.int (n : Int))), some (.d (.tuple [.str "first", .int i])), none, none, none] S = .ok (!inS b n i) S := by
      rw [← ei]
      exact tst_not (tst_b (ev_call3 (ev_ix_of (ev_var _ _ rfl) (ev_cst _) (ix1 _ _ _)) (ev_var _ _ rfl) (ev_bin_of (ev_bin_of (ev_var _ _ rfl) (ev_var _ _ rfl) (bin_add _ _)) (ev_cst _) (bin_sub _ _)) (f1 (k + 3) _ _ _ S)))
    cases hin : inS b n i with
    | false =>
      rw [hin] at tr
      rw [xs_cons, x1_yes tr, xs_cons, x1_raise, ev_cst]
      simp [oR]
    | true =>
      rw [hin] at tr
      simp only [inS, Bool.and_eq_true, decide_eq_true_eq] at hin
      have g24 := ev_call3 (F := (callAt fns W (k + 5))) (f := 24) (ρ := [some (.d (twT ts)), some (.d (hrT hs)), some (.d (.int b)), some (.d (.int (n : Int))), some (.d (.tuple [.str "first", .int i])), none, none, none]) (ev_var 0 _ rfl) (ev_var 1 _ rfl) (ev_ix_of (ev_var 4 _ rfl) (ev_cst (.int 1)) (ix1 _ _ _)) (e24 i)
      have ta : tst (callAt fns W (k + 5)) (.call 24 (.cons (.var 0) (.cons (.var 1) (.cons (.ix (.var 4) (.cst (.int 1))) .nil))) []) [some (.d (twT ts)), some (.d (hrT hs)), some (.d (.int b)), some (.d (.int (n : Int))), some (.d (.tuple [.str "first", .int i])), none, none, none] S = .ok (!decide (aslp ts hs i = [])) S := by
        unfold tst
        rw [g24]
        cases aslp ts hs i <;> rfl
      rw [xs_skip tr rfl]
      by_cases ca : aslp ts hs i = []
      · rw [decide_eq_true ca] at ta
        rw [xs_skip ta rfl]
        have lc := ev_lc0 (F := (callAt fns W (k + 5))) (S := S) (ws := [7]) (t := .nm 7) (it := .rng2 (.var 2) (.ix (.var 4) (.cst (.int 1)))) (e := .not (.call 24 (.cons (.var 0) (.cons (.var 1) (.cons (.var 7) .nil))) [])) (ρ := [some (.d (twT ts)), some (.d (hrT hs)), some (.d (.int b)), some (.d (.int (n : Int))), some (.d (.tuple [.str "first", .int i])), none, none, none]) (gs := []) (l := List.range (i - b).toNat) (fun (j : Nat) => .int (b + (j : Int))) (fun (j : Nat) => .bool (decide (aslp ts hs (b + (j : Int)) = []))) (evI_r2 (ev_var 2 _ rfl) (ev_ix_of (ev_var 4 _ rfl) (ev_cst _) (ix1 _ _ _)) (by omega) (by omega) (by omega)) (by simp only [cap, List.length_range]; omega) fun j hj => ⟨[some (.d (twT ts)), some (.d (hrT hs)), some (.d (.int b)), some (.d (.int (n : Int))), some (.d (.tuple [.str "first", .int i])), none, none, some (.d (.int (b + (j : Int))))], rfl, by
          have g := ev_call3 (F := (callAt fns W (k + 5))) (f := 24) (ρ := [some (.d (twT ts)), some (.d (hrT hs)), some (.d (.int b)), some (.d (.int (n : Int))), some (.d (.tuple [.str "first", .int i])), none, none, some (.d (.int (b + (j : Int))))]) (ev_var 0 _ rfl) (ev_var 1 _ rfl) (ev_var 7 _ rfl) (e24 (b + (j : Int)))
          rw [ev_not, g]
          cases aslp ts hs (b + (j : Int)) <;> rfl⟩
        have ea : u1 .any (.list ((List.range (i - b).toNat).map fun (j : Nat) => PyData.bool (decide (aslp ts hs (b + (j : Int)) = [])))) = some (.bool (early ts hs b (i - b).toNat)) := by
          have := u1_any ((List.range (i - b).toNat).map fun (j : Nat) => decide (aslp ts hs (b + (j : Int)) = []))
          rw [List.map_map] at this
          rw [show ((List.range (i - b).toNat).map fun (j : Nat) => PyData.bool (decide (aslp ts hs (b + (j : Int)) = []))) = (List.range (i - b).toNat).map (PyData.bool ∘ fun (j : Nat) => decide (aslp ts hs (b + (j : Int)) = [])) from rfl, this, List.any_map]
          rfl
        have te := tst_b (ev_u1_of lc ea)
        cases hE : early ts hs b (i - b).toNat with
        | true =>
          rw [hE] at te
          rw [xs_cons, x1_yes te, xs_cons, x1_raise, ev_cst]
          simp [oR, ca]
        | false =>
          rw [hE] at te
          rw [xs_skip te (r := .ok (.rt .none) S) (by rw [xs_cons, x1_retN]; rfl)]
          simp [oR, ca]
      · rw [decide_eq_false ca] at ta
        rw [xs_cons, x1_yes ta, xs_cons, x1_raise, ev_cst]
        simp [oR, ca]
  | barT ys hl' hf =>
    refine q_skip t1 ?_
    refine q_skip (tst_b (ev_cmp_of (ev_ix_of (ev_var _ _ rfl) (ev_cst _) (ix0 _ _)) (ev_cst _) (show cmpop .eq (.str "barred") (.str "first") = some false by decide +kernel))) ?_
    have hv : vf ts hs b n (.tuple [.str "barred", .tuple ys]) = vfT ts hs b n ys := by simp [vf]
    rw [hv]
    unfold vfT
    have t3 : tst (callAt fns W (k + 5)) (.or (.cmp .ne (.ix (.var 4) (.cst (.int 0))) (.cst (.str "barred"))) (.or (.not (.isi (.ix (.var 4) (.cst (.int 1))) "tuple")) (.cmp .ne (.u1 .len (.ix (.var 4) (.cst (.int 1)))) (.var 3)))) [some (.d (twT ts)), some (.d (hrT hs)), some (.d (.int b)), some (.d (.int (n : Int))), some (.d (.tuple [.str "barred", .tuple ys])), none, none, none] S = .ok (!decide (ys.length = n)) S := by
      rw [tst_or (tst_b (ev_cmp_of (ev_ix_of (ev_var _ _ rfl) (ev_cst _) (ix0 _ _)) (ev_cst _) (show cmpop .ne (.str "barred") (.str "barred") = some false by decide +kernel)))]
      simp only [Bool.false_eq_true, if_false]
      rw [tst_or (x := false) (S1 := S) (by unfold tst; simp [nt])]
      simp only [Bool.false_eq_true, if_false]
      rw [tst_b (ev_cmp_of (ev_u1_of (ev_ix_of (ev_var 4 _ rfl) (ev_cst _) (ix1 _ _ _)) (u1_lent _)) (ev_var 3 _ rfl) (cmp_ne _ _))]
      congr 2
      exact decide_eq_decide.mpr (by omega)
    by_cases hlen : ys.length = n
    · rw [decide_eq_true hlen] at t3
      rw [if_pos hlen]
      refine q_skip t3 ?_
      have lc := ev_lc0 (F := (callAt fns W (k + 5))) (S := S) (ws := [6]) (t := .nm 6) (it := .e (.ix (.var 4) (.cst (.int 1)))) (e := .call 1 (.cons (.var 6) (.cons (.cst (.int 0)) (.cons (.bin .sub (.u1 .len (.var 0)) (.cst (.int 1))) .nil))) []) (ρ := [some (.d (twT ts)), some (.d (hrT hs)), some (.d (.int b)), some (.d (.int (n : Int))), some (.d (.tuple [.str "barred", .tuple ys])), none, none, none]) (gs := []) (l := ys) (fun x => x) (fun y => .bool (inR 0 ((ts.length : Int) - 1) y)) (by rw [evI_e, ev_ix_of (ev_var 4 _ rfl) (ev_cst _) (ix1 _ _ _)]; simp) (by simp only [cap]; omega) fun y hy => ⟨[some (.d (twT ts)), some (.d (hrT hs)), some (.d (.int b)), some (.d (.int (n : Int))), some (.d (.tuple [.str "barred", .tuple ys])), none, some (.d (y)), none], rfl, by
        rw [ev_call3 (ev_var 6 _ rfl) (ev_cst _) (ev_bin_of (ev_u1_of (ev_var 0 _ rfl) (show _ = some (.int (ts.length : Int)) by rw [u1_lent, List.length_map])) (ev_cst _) (bin_sub _ _)) (f1 (k + 3) _ _ _ S)]; rfl⟩
      have ea : u1 .all (.list (ys.map fun y => PyData.bool (inR 0 ((ts.length : Int) - 1) y))) = some (.bool (ys.all (inR 0 ((ts.length : Int) - 1)))) := by
        have := u1_all (ys.map (inR 0 ((ts.length : Int) - 1)))
        rw [List.map_map] at this
        rw [show (ys.map fun y => PyData.bool (inR 0 ((ts.length : Int) - 1) y)) = ys.map (PyData.bool ∘ inR 0 ((ts.length : Int) - 1)) from rfl, this, List.all_map]
        rfl
      have ta := tst_not (tst_b (ev_u1_of lc ea))
      cases hall : ys.all (inR 0 ((ts.length : Int) - 1)) with
      | false =>
        rw [hall] at ta
        exact (q_thenRaise ta (ev_cst _)).trans (by simp [oR])
      | true =>
        rw [hall] at ta
        refine q_skip ta ?_
        simp only [if_true]
        have hnum : ∀ t, t < n → ∃ j : Nat, ys.getD t .none = .int (j : Int) ∧ j < ts.length := fun t htn => by
          refine inR_nat (List.all_eq_true.mp hall _ ?_)
          rw [List.getD_eq_getElem?_getD, List.getElem?_eq_getElem (by omega)]
          exact List.getElem_mem _
        refine q_find (gs := []) (S1 := S) (fun (t : Nat) => .tuple [.int (t : Int), ys.getD t .none]) (List.range n) (fun t => awk (gT ts (numI (ys.getD t .none))) (gH hs (numI (ys.getD t .none))) (b + (t : Int))) (fun _ => .err "PaperError" (.str "barred")) (fun ρ => ∃ u v, ρ = [some (.d (twT ts)), some (.d (hrT hs)), some (.d (.int b)), some (.d (.int (n : Int))), some (.d (.tuple [.str "barred", .tuple ys])), u, v, none]) (by rw [evI_enum, ev_ix_of (ev_var 4 _ rfl) (ev_cst _) (ix1 _ _ _)]; simp [enum_ys, hlen]) ⟨none, none, rfl⟩ ?_ ?_ ?_
        · rintro t htm ρ ⟨u, v, rfl⟩
          have htn := List.mem_range.mp htm
          obtain ⟨j, ej, hj⟩ := hnum t htn
          rw [ej]
          have en : numI (.int (j : Int)) = j := by simp [numI]
          rw [en]
          have to := tst_b (ev_call3 (F := (callAt fns W (k + 5))) (f := 23) (ρ := [some (.d (twT ts)), some (.d (hrT hs)), some (.d (.int b)), some (.d (.int (n : Int))), some (.d (.tuple [.str "barred", .tuple ys])), some (.d (.int (t : Int))), some (.d (.int (j : Int))), none]) (S := S) (ev_ix_of (ev_var 0 _ rfl) (ev_var 6 _ rfl) (ix_tw hj)) (ev_ix_of (ev_var 1 _ rfl) (ev_var 6 _ rfl) (ix_hr (by rw [hh.len]; exact hj))) (ev_bin_of (ev_var 2 _ rfl) (ev_var 5 _ rfl) (bin_add _ _)) (f23 (k + 3) _ _ _ S))
          refine ⟨[some (.d (twT ts)), some (.d (hrT hs)), some (.d (.int b)), some (.d (.int (n : Int))), some (.d (.tuple [.str "barred", .tuple ys])), some (.d (.int (t : Int))), some (.d (.int (j : Int))), none], by simp, fun q => ?_, fun q => ⟨_, ?_, some (.d (.int (t : Int))), some (.d (.int (j : Int))), rfl⟩⟩
          · rw [q] at to
            rw [xs_cons, x1_yes to, xs_cons, x1_raise, ev_cst]
            rfl
          · rw [q] at to
            exact xs_skip to xs_end
        · intro t he
          have h1 := List.find?_some he
          have h2 := List.mem_of_find?_eq_some he
          have hb' : barOk ts hs b n ys = false := by
            unfold barOk
            rw [List.all_eq_false]
            exact ⟨t, h2, by simpa using h1⟩
          rw [hb']
          simp [Out.r, oR]
        · rintro he ρ ⟨u, v, rfl⟩
          have hb' : barOk ts hs b n ys = true := by
            unfold barOk
            rw [List.all_eq_true]
            intro t htm
            have := List.find?_eq_none.mp he t htm
            simpa using this
          rw [hb']
          exact q_end.trans (by simp [oR])
    · rw [decide_eq_false hlen] at t3
      rw [if_neg hlen]
      exact (q_thenRaise t3 (ev_cst _)).trans (by simp [oR])
end M29
/-! part M29u -/
set_option linter.all false
set_option maxRecDepth 100000
set_option maxHeartbeats 1000000
/-! What is told of a common minute, the law's. -/
namespace M29
open PySem In Tx P29
theorem eqOk_nL (l : List Nat) : eqOk (.list (nL l)) = true := eqOk_flat fun x hx => by
  obtain ⟨b, _, rfl⟩ := List.mem_map.mp hx
  exact ⟨rfl, by simp [PyData.depth]⟩
theorem eqv_int (i j : Int) : PyData.eqv (.int i) (.int j) = decide (i = j) := by
  by_cases h : i = j <;> simp [PyData.eqv, h]
theorem notin_n {l : List Nat} {j : Nat} : cmpop .notin (.int (j : Int)) (.list (nL l)) = some (!decide (j ∈ l)) := by
  show (if (eqOk (.int (j : Int)) && eqOk (.list (nL l))) = true then some (!(nL l).any fun y => PyData.eqv y (.int (j : Int))) else none) = _
  rw [eqOk_nL, show eqOk (.int (j : Int)) = true by show ((PyData.int (j : Int)).canLay0 && decide ((PyData.int (j : Int)).depth ≤ 64)) = true; simp [PyData.canLay0, PyData.depth]]
  simp only [Bool.and_self, if_true, Option.some.injEq]
  congr 1
  rw [List.any_map, Bool.eq_iff_iff, List.any_eq_true, decide_eq_true_eq]
  constructor
  · rintro ⟨y, hy, e⟩
    simp only [Function.comp, eqv_int, decide_eq_true_eq] at e
    have : y = j := by omega
    exact this ▸ hy
  · intro hj
    exact ⟨j, hj, by simp [eqv_int]⟩
theorem mem_aslp {ts : List Tn} {hs : List Rw} {m : Int} {j : Nat} (hj : j < ts.length) : decide (j ∈ aslp ts hs m) = !awk (gT ts j) (gH hs j) m := by
  unfold aslp
  rw [Bool.eq_iff_iff, decide_eq_true_eq, List.mem_filter, List.mem_range]
  exact ⟨fun q => q.2, fun q => ⟨hj, q⟩⟩
theorem fl_nL (l : List Nat) : ∀ x ∈ nL l, flat x := fun x hx => by
  obtain ⟨b, _, rfl⟩ := List.mem_map.mp hx
  exact flat_int _
theorem f40 (k : Nat) {ts : List Tn} {hs : List Rw} (h : OkTs ts) (hh : OkHs ts.length hs) {b : Int} {n : Nat} (hb : -2000000 ≤ b ∧ b ≤ 2000000) (hn : 1 ≤ n ∧ n ≤ 3000) {x : PyData} (ht : ToldF x) (S : Sto) : callAt fns W (k + 3) 40 [.d (twT ts), .d (hrT hs), .d (.int b), .d (.int (n : Int)), .d x] S = .ok (oS (vf ts hs b n x)) S := by
  rw [r_40, b_40]
  have h5 := h.len2
  have n1 : cmpop .notin (.str "none") (.tuple [.str "first", .str "barred"]) = some true := by decide +kernel
  have n2 : cmpop .notin (.str "first") (.tuple [.str "first", .str "barred"]) = some false := by decide +kernel
  have n3 : cmpop .notin (.str "barred") (.tuple [.str "first", .str "barred"]) = some false := by decide +kernel
  have e38 := fun (i : Int) => f38 k hh.len (by omega) i S (ts := ts) (hs := hs)
  have bad : (x = .none ∨ (∃ a, x = .tuple [a]) ∨ (∃ a, x = .tuple [.bool true, a]) ∨ ∃ i, x = .tuple [.str "none", .int i]) → tst (callAt fns W (k + 2)) (.or (.not (.isi (.var 4) "tuple")) (.or (.cmp .ne (.u1 .len (.var 4)) (.cst (.int 2))) (.or (.not (.isi (.ix (.var 4) (.cst (.int 0))) "str")) (.cmp .notin (.ix (.var 4) (.cst (.int 0))) (.tup (.cons (.cst (.str "first")) (.cons (.cst (.str "barred")) .nil))))))) [some (.d (twT ts)), some (.d (hrT hs)), some (.d (.int b)), some (.d (.int (n : Int))), some (.d (x)), none, none] S = .ok true S := by
    rintro (rfl | ⟨a, rfl⟩ | ⟨a, rfl⟩ | ⟨i, rfl⟩) <;> (unfold tst; simp [nt, nstr, n1])
  cases ht with
  | none => exact (q_thenRet (bad (.inl rfl)) (ev_cst _)).trans (by simp [vf, oS])
  | one a => exact (q_thenRet (bad (.inr (.inl ⟨_, rfl⟩))) (ev_cst _)).trans (by simp [vf, oS])
  | tru a => exact (q_thenRet (bad (.inr (.inr (.inl ⟨_, rfl⟩)))) (ev_cst _)).trans (by cases a <;> simp [vf, oS])
  | odd i =>
    have m1 : ¬ (("none" : Str) = "first") := by decide +kernel
    exact (q_thenRet (bad (.inr (.inr (.inr ⟨_, rfl⟩)))) (ev_cst _)).trans (by simp [vf, oS, m1])
  | firstB c =>
    have t1 : tst (callAt fns W (k + 2)) (.or (.not (.isi (.var 4) "tuple")) (.or (.cmp .ne (.u1 .len (.var 4)) (.cst (.int 2))) (.or (.not (.isi (.ix (.var 4) (.cst (.int 0))) "str")) (.cmp .notin (.ix (.var 4) (.cst (.int 0))) (.tup (.cons (.cst (.str "first")) (.cons (.cst (.str "barred")) .nil))))))) [some (.d (twT ts)), some (.d (hrT hs)), some (.d (.int b)), some (.d (.int (n : Int))), some (.d (.tuple [.str "first", .bool c])), none, none] S = .ok false S := by
      unfold tst; simp [nt, nstr, n2]
    refine q_skip t1 (q_then (tst_b (ev_cmp_of (ev_ix_of (ev_var _ _ rfl) (ev_cst _) (ix0 _ _)) (ev_cst _) (show cmpop .eq (.str "first") (.str "first") = some true by decide +kernel))) ?_)
    have t2 : tst (callAt fns W (k + 2)) (.or (.not (.isi (.ix (.var 4) (.cst (.int 1))) "int")) (.or (.isi (.ix (.var 4) (.cst (.int 1))) "bool") (.not (.ch .le .lt (.var 2) (.ix (.var 4) (.cst (.int 1))) (.bin .add (.var 2) (.var 3)))))) [some (.d (twT ts)), some (.d (hrT hs)), some (.d (.int b)), some (.d (.int (n : Int))), some (.d (.tuple [.str "first", .bool c])), none, none] S = .ok true S := by
      unfold tst; simp [In.isType]
    rw [xs_thenRt t2 (xs_ret (ev_cst _))]
    simp [vf, oS]
  | firstI i =>
    have t1 : tst (callAt fns W (k + 2)) (.or (.not (.isi (.var 4) "tuple")) (.or (.cmp .ne (.u1 .len (.var 4)) (.cst (.int 2))) (.or (.not (.isi (.ix (.var 4) (.cst (.int 0))) "str")) (.cmp .notin (.ix (.var 4) (.cst (.int 0))) (.tup (.cons (.cst (.str "first")) (.cons (.cst (.str "barred")) .nil))))))) [some (.d (twT ts)), some (.d (hrT hs)), some (.d (.int b)), some (.d (.int (n : Int))), some (.d (.tuple [.str "first", .int i])), none, none] S = .ok false S := by
      unfold tst; simp [nt, nstr, n2]
    refine q_skip t1 (q_then (tst_b (ev_cmp_of (ev_ix_of (ev_var _ _ rfl) (ev_cst _) (ix0 _ _)) (ev_cst _) (show cmpop .eq (.str "first") (.str "first") = some true by decide +kernel))) ?_)
    have hv : vf ts hs b n (.tuple [.str "first", .int i]) = vfI ts hs b n i := by simp [vf]
    rw [hv]
    unfold vfI
    have t2 : tst (callAt fns W (k + 2)) (.or (.not (.isi (.ix (.var 4) (.cst (.int 1))) "int")) (.or (.isi (.ix (.var 4) (.cst (.int 1))) "bool") (.not (.ch .le .lt (.var 2) (.ix (.var 4) (.cst (.int 1))) (.bin .add (.var 2) (.var 3)))))) [some (.d (twT ts)), some (.d (hrT hs)), some (.d (.int b)), some (.d (.int (n : Int))), some (.d (.tuple [.str "first", .int i])), none, none] S = .ok (!inS b n i) S := by
      unfold tst inS
      by_cases c : b ≤ i <;> simp [In.isType, c]
    cases hin : inS b n i with
    | false =>
      rw [hin] at t2
      rw [xs_thenRt t2 (xs_ret (ev_cst _))]
      simp [oS]
    | true =>
      rw [hin] at t2
      simp only [inS, Bool.and_eq_true, decide_eq_true_eq] at hin
      rw [xs_skip t2 rfl]
      have g := ev_call3 (F := (callAt fns W (k + 2))) (f := 38) (ρ := [some (.d (twT ts)), some (.d (hrT hs)), some (.d (.int b)), some (.d (.int (n : Int))), some (.d (.tuple [.str "first", .int i])), none, none]) (ev_var 0 _ rfl) (ev_var 1 _ rfl) (ev_ix_of (ev_var 4 _ rfl) (ev_cst (.int 1)) (ix1 _ _ _)) (e38 i)
      have ta := tst_b (ev_cmp_of (o := .ne) g (ev_lst_of evps_nil) (ne_nil (fl_nL _)))
      by_cases ca : aslp ts hs i = []
      · have : nL (aslp ts hs i) = [] := by rw [ca]; rfl
        rw [decide_eq_true this] at ta
        rw [xs_skip ta rfl]
        have lc := ev_lc (F := (callAt fns W (k + 2))) (S := S) (ws := [6]) (t := .nm 6) (it := .rng2 (.var 2) (.ix (.var 4) (.cst (.int 1)))) (cs := .cons (.cmp .eq (.call 38 (.cons (.var 0) (.cons (.var 1) (.cons (.var 6) .nil))) []) (.lst .nil)) .nil) (e := .var 6) (ρ := [some (.d (twT ts)), some (.d (hrT hs)), some (.d (.int b)), some (.d (.int (n : Int))), some (.d (.tuple [.str "first", .int i])), none, none]) (gs := []) (l := List.range (i - b).toNat) (fun (j : Nat) => .int (b + (j : Int))) (fun (j : Nat) => decide (aslp ts hs (b + (j : Int)) = [])) (fun (j : Nat) => .int (b + (j : Int))) (evI_r2 (ev_var 2 _ rfl) (ev_ix_of (ev_var 4 _ rfl) (ev_cst _) (ix1 _ _ _)) (by omega) (by omega) (by omega)) (by simp only [cap, List.length_range]; omega) fun j hj => ⟨[some (.d (twT ts)), some (.d (hrT hs)), some (.d (.int b)), some (.d (.int (n : Int))), some (.d (.tuple [.str "first", .int i])), none, some (.d (.int (b + (j : Int))))], rfl, by
          have g := ev_call3 (F := (callAt fns W (k + 2))) (f := 38) (ρ := [some (.d (twT ts)), some (.d (hrT hs)), some (.d (.int b)), some (.d (.int (n : Int))), some (.d (.tuple [.str "first", .int i])), none, some (.d (.int (b + (j : Int))))]) (ev_var 0 _ rfl) (ev_var 1 _ rfl) (ev_var 6 _ rfl) (e38 (b + (j : Int)))
          rw [evt_cons, ev_cmp_of g (ev_lst_of evps_nil) (eq_nil (fl_nL _))]
          cases aslp ts hs (b + (j : Int)) <;> rfl, fun _ => by rw [ev_var _ _ rfl]; rfl⟩
        have te := tst_b (ev_cmp_of (o := .ne) lc (ev_lst_of evps_nil) (ne_nil fun z hz => by
          obtain ⟨y, _, rfl⟩ := List.mem_map.mp hz
          exact flat_int _))
        have hE : (!decide ((((List.range (i - b).toNat).filter fun (j : Nat) => decide (aslp ts hs (b + (j : Int)) = [])).map fun (j : Nat) => PyData.int (b + (j : Int))) = [])) = early ts hs b (i - b).toNat := by
          unfold early
          rw [Bool.eq_iff_iff, List.any_eq_true]
          simp only [Bool.not_eq_true', decide_eq_false_iff_not, List.map_eq_nil_iff, List.filter_eq_nil_iff]
          constructor
          · intro q
            refine Classical.byContradiction fun c => q fun a ha hq => c ⟨a, ha, hq⟩
          · rintro ⟨a, ha, hq⟩ q
            exact q a ha hq
        rw [hE] at te
        rw [xs_ret (S1 := S) (x := oS (if early ts hs b (i - b).toNat = true then some "first" else none)) (by
          rw [ev_iteB te]
          cases early ts hs b (i - b).toNat <;> simp [oS])]
        simp [ca]
      · have : ¬ nL (aslp ts hs i) = [] := by simpa using ca
        rw [decide_eq_false this] at ta
        rw [xs_thenRt ta (xs_ret (ev_cst _))]
        simp [oS, ca]
  | barT ys hl' hf =>
    have t1 : tst (callAt fns W (k + 2)) (.or (.not (.isi (.var 4) "tuple")) (.or (.cmp .ne (.u1 .len (.var 4)) (.cst (.int 2))) (.or (.not (.isi (.ix (.var 4) (.cst (.int 0))) "str")) (.cmp .notin (.ix (.var 4) (.cst (.int 0))) (.tup (.cons (.cst (.str "first")) (.cons (.cst (.str "barred")) .nil))))))) [some (.d (twT ts)), some (.d (hrT hs)), some (.d (.int b)), some (.d (.int (n : Int))), some (.d (.tuple [.str "barred", .tuple ys])), none, none] S = .ok false S := by
      unfold tst; simp [nt, nstr, n3]
    refine q_skip t1 ?_
    refine q_skip (tst_b (ev_cmp_of (ev_ix_of (ev_var _ _ rfl) (ev_cst _) (ix0 _ _)) (ev_cst _) (show cmpop .eq (.str "barred") (.str "first") = some false by decide +kernel))) ?_
    have hv : vf ts hs b n (.tuple [.str "barred", .tuple ys]) = vfT ts hs b n ys := by simp [vf]
    rw [hv]
    unfold vfT
    have t3 : tst (callAt fns W (k + 2)) (.or (.not (.isi (.ix (.var 4) (.cst (.int 1))) "tuple")) (.cmp .ne (.u1 .len (.ix (.var 4) (.cst (.int 1)))) (.var 3))) [some (.d (twT ts)), some (.d (hrT hs)), some (.d (.int b)), some (.d (.int (n : Int))), some (.d (.tuple [.str "barred", .tuple ys])), none, none] S = .ok (!decide (ys.length = n)) S := by
      rw [tst_or (x := false) (S1 := S) (by unfold tst; simp [nt])]
      simp only [Bool.false_eq_true, if_false]
      rw [tst_b (ev_cmp_of (ev_u1_of (ev_ix_of (ev_var 4 _ rfl) (ev_cst _) (ix1 _ _ _)) (u1_lent _)) (ev_var 3 _ rfl) (cmp_ne _ _))]
      congr 2
      exact decide_eq_decide.mpr (by omega)
    by_cases hlen : ys.length = n
    · rw [decide_eq_true hlen] at t3
      rw [if_pos hlen]
      refine q_skip t3 ?_
      have lc := ev_lc (F := (callAt fns W (k + 2))) (S := S) (ws := [5]) (t := .nm 5) (it := .e (.ix (.var 4) (.cst (.int 1)))) (cs := .cons (.or (.not (.isi (.var 5) "int")) (.or (.isi (.var 5) "bool") (.not (.ch .le .lt (.cst (.int 0)) (.var 5) (.u1 .len (.var 0)))))) .nil) (e := .var 5) (ρ := [some (.d (twT ts)), some (.d (hrT hs)), some (.d (.int b)), some (.d (.int (n : Int))), some (.d (.tuple [.str "barred", .tuple ys])), none, none]) (gs := []) (l := ys) (fun y => y) (fun y => !inR 0 ((ts.length : Int) - 1) y) (fun y => y) (by rw [evI_e, ev_ix_of (ev_var 4 _ rfl) (ev_cst _) (ix1 _ _ _)]; simp) (by simp only [cap]; omega) fun y hy => ⟨[some (.d (twT ts)), some (.d (hrT hs)), some (.d (.int b)), some (.d (.int (n : Int))), some (.d (.tuple [.str "barred", .tuple ys])), some (.d (y)), none], rfl, by
        rw [evt_cons]
        cases y with
        | int i =>
          have e : inR 0 ((ts.length : Int) - 1) (.int i) = (decide (0 ≤ i) && decide (i < (ts.length : Int))) := by
            simp only [inR]
            congr 1
            exact decide_eq_decide.mpr (by omega)
          rw [e]
          by_cases c : 0 ≤ i <;> simp [In.isType, c]
        | _ => simp [In.isType, inR], fun _ => by rw [ev_var _ _ rfl]; rfl⟩
      have ta := tst_b (ev_cmp_of (o := .ne) lc (ev_lst_of evps_nil) (ne_nil fun z hz => by
        obtain ⟨y, hy, rfl⟩ := List.mem_map.mp hz
        exact hf y (List.mem_filter.mp hy).1))
      have hnil : decide (((ys.filter fun y => !inR 0 ((ts.length : Int) - 1) y).map fun y => y) = []) = ys.all (inR 0 ((ts.length : Int) - 1)) := by
        rw [Bool.eq_iff_iff, decide_eq_true_eq, List.map_id', List.filter_eq_nil_iff, List.all_eq_true]
        simp
      rw [hnil] at ta
      cases hall : ys.all (inR 0 ((ts.length : Int) - 1)) with
      | false =>
        rw [hall] at ta
        exact (q_thenRet ta (ev_cst _)).trans (by simp [oS])
      | true =>
        rw [hall] at ta
        refine q_skip ta ?_
        simp only [if_true]
        have hnum : ∀ t, t < n → ∃ j : Nat, index (.tuple ys) (.int (t : Int)) = some (.int (j : Int)) ∧ ys.getD t .none = .int (j : Int) ∧ j < ts.length := fun t htn => by
          have hlt : t < ys.length := by omega
          obtain ⟨j, e, hj⟩ := inR_nat (List.all_eq_true.mp hall ys[t] (List.getElem_mem _))
          refine ⟨j, (index_nat (by rw [List.getElem?_eq_getElem hlt, e])).2, ?_, hj⟩
          rw [List.getD_eq_getElem?_getD, List.getElem?_eq_getElem hlt, e]
          rfl
        have lc2 := ev_lc (F := (callAt fns W (k + 2))) (S := S) (ws := [5]) (t := .nm 5) (it := .rng1 (.var 3)) (cs := .cons (.cmp .notin (.ix (.ix (.var 4) (.cst (.int 1))) (.var 5)) (.call 38 (.cons (.var 0) (.cons (.var 1) (.cons (.bin .add (.var 2) (.var 5)) .nil))) [])) .nil) (e := .var 5) (ρ := [some (.d (twT ts)), some (.d (hrT hs)), some (.d (.int b)), some (.d (.int (n : Int))), some (.d (.tuple [.str "barred", .tuple ys])), none, none]) (gs := []) (l := List.range n) (fun (t : Nat) => .int (t : Int)) (fun t => awk (gT ts (numI (ys.getD t .none))) (gH hs (numI (ys.getD t .none))) (b + (t : Int))) (fun (t : Nat) => .int (t : Int)) (evI_rlen (ev_var 3 _ rfl) (by omega)) (by simp only [cap, List.length_range]; omega) fun t htm => ⟨[some (.d (twT ts)), some (.d (hrT hs)), some (.d (.int b)), some (.d (.int (n : Int))), some (.d (.tuple [.str "barred", .tuple ys])), some (.d (.int (t : Int))), none], rfl, by
          have htn := List.mem_range.mp htm
          obtain ⟨j, ej, ed, hj⟩ := hnum t htn
          have g := ev_call3 (F := (callAt fns W (k + 2))) (f := 38) (ρ := [some (.d (twT ts)), some (.d (hrT hs)), some (.d (.int b)), some (.d (.int (n : Int))), some (.d (.tuple [.str "barred", .tuple ys])), some (.d (.int (t : Int))), none]) (ev_var 0 _ rfl) (ev_var 1 _ rfl) (ev_bin_of (ev_var 2 _ rfl) (ev_var 5 _ rfl) (bin_add _ _)) (e38 (b + (t : Int)))
          rw [evt_cons, ev_cmp_of (ev_ix_of (ev_ix_of (ev_var 4 _ rfl) (ev_cst _) (ix1 _ _ _)) (ev_var 5 _ rfl) ej) g notin_n, mem_aslp hj, ed]
          simp [numI], fun _ => by rw [ev_var _ _ rfl]; rfl⟩
        have tb := tst_b (ev_cmp_of (o := .ne) lc2 (ev_lst_of evps_nil) (ne_nil (fl_nL _)))
        have hb' : decide (nL ((List.range n).filter fun t => awk (gT ts (numI (ys.getD t .none))) (gH hs (numI (ys.getD t .none))) (b + (t : Int))) = []) = barOk ts hs b n ys := by
          unfold barOk
          rw [Bool.eq_iff_iff, decide_eq_true_eq, List.map_eq_nil_iff, List.filter_eq_nil_iff, List.all_eq_true]
          simp
        rw [hb'] at tb
        refine (q_ret (oS (if barOk ts hs b n ys = true then none else some "barred")) ?_).trans (by simp)
        rw [ev_iteB tb]
        cases barOk ts hs b n ys <;> simp [oS]
    · rw [decide_eq_false hlen] at t3
      rw [if_neg hlen]
      exact (q_thenRet t3 (ev_cst _)).trans (by simp [oS])
end M29
/-! part M29v -/
set_option linter.all false
set_option maxRecDepth 100000
set_option maxHeartbeats 1000000
/-! Bad arguments. -/
namespace M29
open PySem In Tx P29

theorem f8x (k : Nat) {x : PyData} (hs : shortT x) (h : isTn x = false) (y : Vl) (S : Sto) : callAt fns W (k + 5) 8 [.d x, y] S = .ex "ArgumentError" (.str "town") S := by
  rw [r_8]
  simp [b_8, f5b k hs h]
theorem f10x (k : Nat) {x : PyData} (hs : shortT x) (h : isTn x = false) (y : Vl) (S : Sto) : callAt fns W (k + 5) 10 [.d x, y] S = .ex "ArgumentError" (.str "town") S := by
  rw [r_10]
  simp [b_10, f5b k hs h]
theorem f13x (k : Nat) {x : PyData} (hs : shortT x) (h : isTn x = false) (y : Vl) (S : Sto) : callAt fns W (k + 5) 13 [.d x, y] S = .ex "ArgumentError" (.str "town") S := by
  rw [r_13]
  simp [b_13, f5b k hs h]
theorem f11x (k : Nat) {x : PyData} (hs : shortT x) (h : isTn x = false) (y z : Vl) (S : Sto) : callAt fns W (k + 5) 11 [.d x, y, z] S = .ex "ArgumentError" (.str "town") S := by
  rw [r_11]
  simp [b_11, f5b k hs h]
theorem f12x (k : Nat) {x : PyData} (hs : shortT x) (h : isTn x = false) (S : Sto) : callAt fns W (k + 5) 12 [.d x] S = .ex "ArgumentError" (.str "town") S := by
  rw [r_12]
  simp [b_12, f5b k hs h]
theorem f16x (k : Nat) {x : PyData} (hs : shortT x) (h : isTn x = false) (y z : Vl) (S : Sto) : callAt fns W (k + 5) 16 [.d x, y, z] S = .ex "ArgumentError" (.str "town") S := by
  rw [r_16]
  simp [b_16, f5b k hs h]
theorem f19x (k : Nat) {x : PyData} (hs : shortT x) (h : isTn x = false) (y : Vl) (S : Sto) : callAt fns W (k + 5) 19 [.d x, y] S = .ex "ArgumentError" (.str "town") S := by
  rw [r_19]
  simp [b_19, f5b k hs h]
theorem f20x (k : Nat) {x : PyData} (hs : shortT x) (h : isTn x = false) (y : Vl) (S : Sto) : callAt fns W (k + 5) 20 [.d x, y] S = .ex "ArgumentError" (.str "town") S := by
  rw [r_20]
  simp [b_20, f5b k hs h]
theorem f8y (k : Nat) {t : Tn} (h : OkT t) {x : PyData} (hx : inR (-2000000) 2000000 x = false) (S : Sto) : callAt fns W (k + 5) 8 [.d (tw t), .d x] S = .ex "ArgumentError" (.str "minute") S := by
  rw [r_8]
  simp [b_8, f5g k h, f6b (k + 1) hx]
theorem f10y (k : Nat) {t : Tn} (h : OkT t) {x : PyData} (hx : inR (-2000000) 2000000 x = false) (S : Sto) : callAt fns W (k + 5) 10 [.d (tw t), .d x] S = .ex "ArgumentError" (.str "local") S := by
  rw [r_10]
  simp [b_10, f5g k h, f6b (k + 1) hx]
theorem f13y (k : Nat) {t : Tn} (h : OkT t) {x : PyData} (hx : inR (-2000000) 2000000 x = false) (S : Sto) : callAt fns W (k + 5) 13 [.d (tw t), .d x] S = .ex "ArgumentError" (.str "local") S := by
  rw [r_13]
  simp [b_13, f5g k h, f6b (k + 1) hx]
theorem f11y (k : Nat) {t : Tn} (h : OkT t) {x : PyData} (hs : shortT x) (hx : isTn x = false) (y : Vl) (S : Sto) : callAt fns W (k + 5) 11 [.d (tw t), .d x, y] S = .ex "ArgumentError" (.str "other") S := by
  rw [r_11]
  simp [b_11, f5g k h, f5b k hs hx]
theorem f11z (k : Nat) {t u : Tn} (h : OkT t) (hu : OkT u) {x : PyData} (hx : inR (-2000000) 2000000 x = false) (S : Sto) : callAt fns W (k + 5) 11 [.d (tw t), .d (tw u), .d x] S = .ex "ArgumentError" (.str "local") S := by
  rw [r_11]
  simp [b_11, f5g k h, f5g k hu, f6b (k + 1) hx]
theorem f16y (k : Nat) {t : Tn} (h : OkT t) {x y : PyData} (hx : inR (-2000000) 2000000 x = false) (S : Sto) : callAt fns W (k + 5) 16 [.d (tw t), .d x, .d y] S = .ex "ArgumentError" (.str "begin") S := by
  have e := f15 k x y S
  rw [if_neg (by rw [hx]; decide)] at e
  rw [r_16]
  simp [b_16, f5g k h, e]
theorem f16z (k : Nat) {t : Tn} (h : OkT t) {b : Int} (hb : -2000000 ≤ b ∧ b ≤ 2000000) {y : PyData} (hy : inR 1 3000 y = false) (S : Sto) : callAt fns W (k + 5) 16 [.d (tw t), .d (.int b), .d y] S = .ex "ArgumentError" (.str "length") S := by
  have e := f15 k (.int b) y S
  rw [if_pos (inR_m hb), if_neg (by rw [hy]; decide)] at e
  rw [r_16]
  simp [b_16, f5g k h, e]
theorem f19y (k : Nat) {t : Tn} (h : OkT t) {x : PyData} (hx : inR (-1000) 1000 x = false) (S : Sto) : callAt fns W (k + 5) 19 [.d (tw t), .d x] S = .ex "ArgumentError" (.str "day") S := by
  have e := f18 (k + 1) x S
  rw [if_neg (by rw [hx]; decide)] at e
  rw [r_19]
  simp [b_19, f5g k h, e]
theorem f20y (k : Nat) {t : Tn} (h : OkT t) {x : PyData} (hx : inR (-1000) 1000 x = false) (S : Sto) : callAt fns W (k + 5) 20 [.d (tw t), .d x] S = .ex "ArgumentError" (.str "day") S := by
  have e := f18 (k + 1) x S
  rw [if_neg (by rw [hx]; decide)] at e
  rw [r_20]
  simp [b_20, f5g k h, e]
theorem f22x (k : Nat) {x : PyData} (h : ∀ S, callAt fns W (k + 4) 21 [.d x] S = .ok (.bool false) S) (y : Vl) (S : Sto) : callAt fns W (k + 5) 22 [.d x, y] S = .ex "ArgumentError" (.str "towns") S := by
  rw [r_22]
  simp [b_22, h]
theorem f25x (k : Nat) {x : PyData} (h : ∀ S, callAt fns W (k + 4) 21 [.d x] S = .ok (.bool false) S) (y u v : Vl) (S : Sto) : callAt fns W (k + 6) 25 [.d x, y, u, v] S = .ex "ArgumentError" (.str "towns") S := by
  rw [r_25]
  simp [b_25, f22x k h]
theorem f25y (k : Nat) {ts : List Tn} (h : OkTs ts) {y : PyData} (hy : okHr ts.length y = false) (u v : Vl) (S : Sto) : callAt fns W (k + 6) 25 [.d (twT ts), .d y, u, v] S = .ex "ArgumentError" (.str "hours") S := by
  have e := f22 k h y S
  rw [if_neg (by rw [hy]; decide)] at e
  rw [r_25]
  simp [b_25, e]
theorem f25z (k : Nat) {ts : List Tn} {hs : List Rw} (h : OkTs ts) (hh : OkHs ts.length hs) {x : PyData} (hx : inR (-2000000) 2000000 x = false) (y : PyData) (S : Sto) : callAt fns W (k + 6) 25 [.d (twT ts), .d (hrT hs), .d x, .d y] S = .ex "ArgumentError" (.str "begin") S := by
  have e := f15 (k + 1) x y S
  rw [if_neg (by rw [hx]; decide)] at e
  rw [r_25]
  simp [b_25, f22g k h hh, e]
theorem f25w (k : Nat) {ts : List Tn} {hs : List Rw} (h : OkTs ts) (hh : OkHs ts.length hs) {b : Int} (hb : -2000000 ≤ b ∧ b ≤ 2000000) {y : PyData} (hy : inR 1 3000 y = false) (S : Sto) : callAt fns W (k + 6) 25 [.d (twT ts), .d (hrT hs), .d (.int b), .d y] S = .ex "ArgumentError" (.str "length") S := by
  have e := f15 (k + 1) (.int b) y S
  rw [if_pos (inR_m hb), if_neg (by rw [hy]; decide)] at e
  rw [r_25]
  simp [b_25, f22g k h hh, e]
theorem f28x (k : Nat) {x : PyData} (h : ∀ S, callAt fns W (k + 4) 21 [.d x] S = .ok (.bool false) S) (y u v : Vl) (S : Sto) : callAt fns W (k + 6) 28 [.d x, y, u, v] S = .ex "ArgumentError" (.str "towns") S := by
  rw [r_28]
  simp [b_28, f22x k h]
theorem f28y (k : Nat) {ts : List Tn} (h : OkTs ts) {y : PyData} (hy : okHr ts.length y = false) (u v : Vl) (S : Sto) : callAt fns W (k + 6) 28 [.d (twT ts), .d y, u, v] S = .ex "ArgumentError" (.str "hours") S := by
  have e := f22 k h y S
  rw [if_neg (by rw [hy]; decide)] at e
  rw [r_28]
  simp [b_28, e]
theorem f28z (k : Nat) {ts : List Tn} {hs : List Rw} (h : OkTs ts) (hh : OkHs ts.length hs) {x : PyData} (hx : inR (-2000000) 2000000 x = false) (y : PyData) (S : Sto) : callAt fns W (k + 6) 28 [.d (twT ts), .d (hrT hs), .d x, .d y] S = .ex "ArgumentError" (.str "begin") S := by
  have e := f15 (k + 1) x y S
  rw [if_neg (by rw [hx]; decide)] at e
  rw [r_28]
  simp [b_28, f22g k h hh, e]
theorem f28w (k : Nat) {ts : List Tn} {hs : List Rw} (h : OkTs ts) (hh : OkHs ts.length hs) {b : Int} (hb : -2000000 ≤ b ∧ b ≤ 2000000) {y : PyData} (hy : inR 1 3000 y = false) (S : Sto) : callAt fns W (k + 6) 28 [.d (twT ts), .d (hrT hs), .d (.int b), .d y] S = .ex "ArgumentError" (.str "length") S := by
  have e := f15 (k + 1) (.int b) y S
  rw [if_pos (inR_m hb), if_neg (by rw [hy]; decide)] at e
  rw [r_28]
  simp [b_28, f22g k h hh, e]
theorem f26x (k : Nat) {x : PyData} (h : ∀ S, callAt fns W (k + 4) 21 [.d x] S = .ok (.bool false) S) (y u v : Vl) (S : Sto) : callAt fns W (k + 6) 26 [.d x, y, u, v] S = .ex "ArgumentError" (.str "towns") S := by
  rw [r_26]
  simp [b_26, f22x k h]
theorem f26y (k : Nat) {ts : List Tn} (h : OkTs ts) {y : PyData} (hy : okHr ts.length y = false) (u v : Vl) (S : Sto) : callAt fns W (k + 6) 26 [.d (twT ts), .d y, u, v] S = .ex "ArgumentError" (.str "hours") S := by
  have e := f22 k h y S
  rw [if_neg (by rw [hy]; decide)] at e
  rw [r_26]
  simp [b_26, e]
theorem f26z (k : Nat) {ts : List Tn} {hs : List Rw} (h : OkTs ts) (hh : OkHs ts.length hs) {x : PyData} (hx : inR (-2000000) 2000000 x = false) (y : PyData) (S : Sto) : callAt fns W (k + 6) 26 [.d (twT ts), .d (hrT hs), .d x, .d y] S = .ex "ArgumentError" (.str "begin") S := by
  have e := f15 (k + 1) x y S
  rw [if_neg (by rw [hx]; decide)] at e
  rw [r_26]
  simp [b_26, f22g k h hh, e]
theorem f26w (k : Nat) {ts : List Tn} {hs : List Rw} (h : OkTs ts) (hh : OkHs ts.length hs) {b : Int} (hb : -2000000 ≤ b ∧ b ≤ 2000000) {y : PyData} (hy : inR 1 3000 y = false) (S : Sto) : callAt fns W (k + 6) 26 [.d (twT ts), .d (hrT hs), .d (.int b), .d y] S = .ex "ArgumentError" (.str "length") S := by
  have e := f15 (k + 1) (.int b) y S
  rw [if_pos (inR_m hb), if_neg (by rw [hy]; decide)] at e
  rw [r_26]
  simp [b_26, f22g k h hh, e]
theorem f27x (k : Nat) {x : PyData} (h : ∀ S, callAt fns W (k + 4) 21 [.d x] S = .ok (.bool false) S) (y u v w : Vl) (S : Sto) : callAt fns W (k + 6) 27 [.d x, y, u, v, w] S = .ex "ArgumentError" (.str "towns") S := by
  rw [r_27]
  simp [b_27, f22x k h]
theorem f27y (k : Nat) {ts : List Tn} (h : OkTs ts) {y : PyData} (hy : okHr ts.length y = false) (u v w : Vl) (S : Sto) : callAt fns W (k + 6) 27 [.d (twT ts), .d y, u, v, w] S = .ex "ArgumentError" (.str "hours") S := by
  have e := f22 k h y S
  rw [if_neg (by rw [hy]; decide)] at e
  rw [r_27]
  simp [b_27, e]
theorem f27z (k : Nat) {ts : List Tn} {hs : List Rw} (h : OkTs ts) (hh : OkHs ts.length hs) {x : PyData} (hx : inR (-2000000) 2000000 x = false) (y : PyData) (w : Vl) (S : Sto) : callAt fns W (k + 6) 27 [.d (twT ts), .d (hrT hs), .d x, .d y, w] S = .ex "ArgumentError" (.str "begin") S := by
  have e := f15 (k + 1) x y S
  rw [if_neg (by rw [hx]; decide)] at e
  rw [r_27]
  simp [b_27, f22g k h hh, e]
theorem f27w (k : Nat) {ts : List Tn} {hs : List Rw} (h : OkTs ts) (hh : OkHs ts.length hs) {b : Int} (hb : -2000000 ≤ b ∧ b ≤ 2000000) {y : PyData} (hy : inR 1 3000 y = false) (w : Vl) (S : Sto) : callAt fns W (k + 6) 27 [.d (twT ts), .d (hrT hs), .d (.int b), .d y, w] S = .ex "ArgumentError" (.str "length") S := by
  have e := f15 (k + 1) (.int b) y S
  rw [if_pos (inR_m hb), if_neg (by rw [hy]; decide)] at e
  rw [r_27]
  simp [b_27, f22g k h hh, e]
end M29
/-! part InLc -/
set_option linter.all false
set_option maxRecDepth 100000
set_option maxHeartbeats 1000000
/-! List comprehensions whose items move the store. -/
namespace In
open PySem
variable {F : Fns} {W : Nat} {ρ : Env} {S S1 : Sto}
theorem lcL_I {α : Type} {ck : Sto → Bool} {asg : PyData → Option Env} {elt : Env → Sto → R PyData} (g : α → PyData) (J : List α → List PyData → Sto → Prop) (hck : ∀ S, ck S = true)
    (step : ∀ a l acc S, J (a :: l) acc S → ∃ ρ' y S2, asg (g a) = some ρ' ∧ elt ρ' S = .ok y S2 ∧ J l (acc ++ [y]) S2) : ∀ (l : List α) (acc : List PyData) (S : Sto), acc.length + l.length ≤ cap → J l acc S →
    ∃ ys S', lcL ck asg (fun ρ S => .ok true S) elt (l.map g) acc S = .ok ys S' ∧ J [] ys S'
  | [], acc, S, _, h => ⟨acc, S, rfl, h⟩
  | a :: l, acc, S, hl, h => by
    obtain ⟨ρ', y, S2, h1, h2, h3⟩ := step a l acc S h
    simp only [List.length_cons, cap] at hl
    have hlt : acc.length < 16777216 := by omega
    obtain ⟨ys, S', e, hJ⟩ := lcL_I (ck := ck) (asg := asg) (elt := elt) g J hck step l (acc ++ [y]) S2 (by simp only [List.length_append, List.length_cons, List.length_nil, cap]; omega) h3
    refine ⟨ys, S', ?_, hJ⟩
    simp only [List.map_cons, lcL, h1, R.bind_ok, if_true, h2, hlt, decide_true, hck, Bool.and_self]
    exact e
theorem ev_lcI {α : Type} {ws : List Nat} {t : T} {it : It} {e : E} (g : α → PyData) (l : List α) (J : List α → List PyData → Sto → Prop) (hit : evI F it ρ S = .ok (l.map g, []) S1) (hl : l.length ≤ cap) (h0 : J l [] S1)
    (step : ∀ a l acc S, J (a :: l) acc S → ∃ ρ' y S2, put t (g a) (wipe ρ ws) = some ρ' ∧ ev F e ρ' S = .ok (.d y) S2 ∧ J l (acc ++ [y]) S2) :
    ∃ ys S', ev F (.lc ws t it .nil e) ρ S = .ok (.d (.list ys)) S' ∧ J [] ys S' := by
  obtain ⟨ys, S', h, hJ⟩ := lcL_I (ck := chk [] S1) (asg := fun x => put t x (wipe ρ ws)) (elt := fun ρ' S' => ((ev F e ρ' S').bind fun v S2 => shut S2 v).calm) g J (fun _ => rfl) (fun a l acc S h => by
    obtain ⟨ρ', y, S2, h1, h2, h3⟩ := step a l acc S h
    exact ⟨ρ', y, S2, h1, by rw [h2]; rfl, h3⟩) l [] S1 (by simpa using hl) h0
  refine ⟨ys, S', ?_, hJ⟩
  simp only [ev, hit, R.bind_ok]
  have hc : (fun (ρ' : Env) (S' : Sto) => (evt F .nil ρ' S').calm) = fun ρ' S' => .ok true S' := by
    funext ρ' S'
    rw [evt_nil]; rfl
  simp only [hc, h]
  rfl
end In
/-! part InWp -/
set_option linter.all false
set_option maxRecDepth 100000
set_option maxHeartbeats 1000000
/-! Runs by what they come to: one rule for each form. -/
namespace In
open PySem
variable {F : Fns} {W : Nat} {ρ : Env} {S S1 S2 : Sto}
/-- the run comes to a value that Q takes, or to an error that X takes -/
@[irreducible] def Run {α : Type} (r : R α) (Q : α → Sto → Prop) (X : Str → PyData → Sto → Prop) : Prop := match r with
  | .ok a S => Q a S
  | .ex c x S => X c x S
  | .no => False
abbrev nX : Str → PyData → Sto → Prop := fun _ _ _ => False
theorem Run.k {α : Type} {a : α} {S : Sto} {Q : α → Sto → Prop} {X : Str → PyData → Sto → Prop} : Run (.ok a S) Q X = Q a S := by unfold Run; rfl
theorem Run.x {α : Type} {c : Str} {x : PyData} {S : Sto} {Q : α → Sto → Prop} {X : Str → PyData → Sto → Prop} : Run (.ex c x S) Q X = X c x S := by unfold Run; rfl
theorem Run.n {α : Type} {Q : α → Sto → Prop} {X : Str → PyData → Sto → Prop} : Run .no Q X = False := by unfold Run; rfl
theorem Run.cs {α : Type} {r : R α} {Q : α → Sto → Prop} {X : Str → PyData → Sto → Prop} (h : Run r Q X) : (∃ a S, r = .ok a S ∧ Q a S) ∨ (∃ c x S, r = .ex c x S ∧ X c x S) := by
  cases r with
  | ok a S => rw [Run.k] at h; exact .inl ⟨a, S, rfl, h⟩
  | ex c x S => rw [Run.x] at h; exact .inr ⟨c, x, S, rfl, h⟩
  | no => rw [Run.n] at h; exact h.elim
theorem Run.of {α : Type} {r : R α} {a : α} {S : Sto} {Q : α → Sto → Prop} {X : Str → PyData → Sto → Prop} (h : r = .ok a S) (q : Q a S) : Run r Q X := by rw [h, Run.k]; exact q
theorem Run.ofX {α : Type} {r : R α} {c : Str} {x : PyData} {S : Sto} {Q : α → Sto → Prop} {X : Str → PyData → Sto → Prop} (h : r = .ex c x S) (q : X c x S) : Run r Q X := by rw [h, Run.x]; exact q
theorem Run.bind {α β : Type} {r : R α} {k : α → Sto → R β} {Q : β → Sto → Prop} {X : Str → PyData → Sto → Prop} (h : Run r (fun a S => Run (k a S) Q X) X) : Run (r.bind k) Q X := by
  rcases h.cs with ⟨a, S, rfl, q⟩ | ⟨c, x, S, rfl, q⟩
  · exact q
  · exact Run.ofX rfl q
theorem Run.mono {α : Type} {r : R α} {Q Q' : α → Sto → Prop} {X X' : Str → PyData → Sto → Prop} (h : Run r Q X) (q : ∀ a S, Q a S → Q' a S) (x : ∀ c a S, X c a S → X' c a S) : Run r Q' X' := by
  rcases h.cs with ⟨a, S, rfl, h'⟩ | ⟨c, a, S, rfl, h'⟩
  · exact Run.of rfl (q a S h')
  · exact Run.ofX rfl (x c a S h')
theorem Run.get {α : Type} {r : R α} {Q : α → Sto → Prop} (h : Run r Q nX) : ∃ a S, r = .ok a S ∧ Q a S := by
  rcases h.cs with h' | ⟨c, a, S, rfl, h'⟩
  · exact h'
  · exact h'.elim
theorem Run.eq {α : Type} {r : R α} {a : α} {S : Sto} (h : Run r (fun b S' => b = a ∧ S' = S) nX) : r = .ok a S := by
  obtain ⟨b, S', e, rfl, rfl⟩ := h.get
  exact e
theorem Run.eqX {α : Type} {r : R α} {c : Str} {x : PyData} {S : Sto} (h : Run r (fun _ _ => False) (fun c' x' S' => c' = c ∧ x' = x ∧ S' = S)) : r = .ex c x S := by
  rcases h.cs with ⟨a, S, rfl, h'⟩ | ⟨c, a, S, rfl, rfl, rfl, rfl⟩
  · exact h'.elim
  · rfl
theorem Run.ends {Q : PyData → Sto → Prop} {r : R PyData} (h : Run r Q nX) : Ends Q r := h.get
theorem Ends.run {Q Q' : PyData → Sto → Prop} {X : Str → PyData → Sto → Prop} {r : R PyData} (h : Ends Q r) (q : ∀ x S, Q x S → Q' x S) : Run r Q' X := by
  obtain ⟨x, S, e, hq⟩ := h
  exact Run.of e (q x S hq)
section
variable {Q : Vl → Sto → Prop} {X : Str → PyData → Sto → Prop}
/-! ### what is done with values -/
def VB (f : PyData → PyData → Option PyData) (v w : Vl) (S : Sto) (Q : Vl → Sto → Prop) : Prop := ∃ x y z, view S v = some x ∧ view S w = some y ∧ f x y = some z ∧ Q (.d z) S
def V1 (f : PyData → Option PyData) (v : Vl) (S : Sto) (Q : Vl → Sto → Prop) : Prop := ∃ x z, view S v = some x ∧ f x = some z ∧ Q (.d z) S
def TK (v : Vl) (S : Sto) (K : Bool → Sto → Prop) : Prop := ∃ x b, view S v = some x ∧ truthy x = some b ∧ K b S
def SK (v : Vl) (S : Sto) (K : PyData → Sto → Prop) : Prop := ∃ x S', shut S v = .ok x S' ∧ K x S'
theorem VB.d {f : PyData → PyData → Option PyData} {x y z : PyData} (h : f x y = some z) (q : Q (.d z) S) : VB f (.d x) (.d y) S Q := ⟨x, y, z, rfl, rfl, h, q⟩
theorem VB.l {f : PyData → PyData → Option PyData} {n : Nat} {c : Cell} {y z : PyData} (hc : S[n]? = some c) (h : f c.obj.data y = some z) (q : Q (.d z) S) : VB f (.loc n) (.d y) S Q := ⟨_, y, z, by simp [hc], rfl, h, q⟩
theorem VB.r {f : PyData → PyData → Option PyData} {n : Nat} {c : Cell} {y z : PyData} (hc : S[n]? = some c) (h : f y c.obj.data = some z) (q : Q (.d z) S) : VB f (.d y) (.loc n) S Q := ⟨y, _, z, rfl, by simp [hc], h, q⟩
theorem V1.d {f : PyData → Option PyData} {x z : PyData} (h : f x = some z) (q : Q (.d z) S) : V1 f (.d x) S Q := ⟨x, z, rfl, h, q⟩
theorem V1.l {f : PyData → Option PyData} {n : Nat} {c : Cell} {z : PyData} (hc : S[n]? = some c) (h : f c.obj.data = some z) (q : Q (.d z) S) : V1 f (.loc n) S Q := ⟨_, z, by simp [hc], h, q⟩
theorem TK.d {K : Bool → Sto → Prop} {x : PyData} {b : Bool} (h : truthy x = some b) (q : K b S) : TK (.d x) S K := ⟨x, b, rfl, h, q⟩
theorem TK.l {K : Bool → Sto → Prop} {n : Nat} {c : Cell} {b : Bool} (hc : S[n]? = some c) (h : truthy c.obj.data = some b) (q : K b S) : TK (.loc n) S K := ⟨_, b, by simp [hc], h, q⟩
theorem TK.b {K : Bool → Sto → Prop} {b : Bool} (q : K b S) : TK (.d (.bool b)) S K := TK.d rfl q
theorem SK.d {K : PyData → Sto → Prop} {x : PyData} (q : K x S) : SK (.d x) S K := ⟨x, S, rfl, q⟩
theorem SK.l {K : PyData → Sto → Prop} {n : Nat} {c : Cell} (hc : S[n]? = some c) (q : K c.obj.data (S.set n ⟨false, c.obj⟩)) : SK (.loc n) S K := ⟨_, _, shut_loc hc, q⟩
theorem SK.run {v : Vl} {K : PyData → Sto → Prop} {β : Type} {k : PyData → Sto → R β} {Q : β → Sto → Prop} (h : SK v S (fun x S' => Run (k x S') Q X)) : Run ((shut S v).bind k) Q X := by
  obtain ⟨x, S', e, q⟩ := h
  rw [e]; with_unfolding_all exact q
/-! ### expressions -/
theorem zw_var {i : Nat} {v : Vl} (h : ρ[i]? = some (some v)) (q : Q v S) : Run (ev F (.var i) ρ S) Q X := Run.of (ev_var i v h) q
theorem zw_cst {x : PyData} (q : Q (.d x) S) : Run (ev F (.cst x) ρ S) Q X := Run.of (ev_cst x) q
theorem zw_tup {es : Es} (h : Run (evps F es ρ S) (fun xs S1 => Q (.d (.tuple xs)) S1) X) : Run (ev F (.tup es) ρ S) Q X := by rw [ev_tup]; with_unfolding_all exact .bind h
theorem zw_lst {es : Es} (h : Run (evps F es ρ S) (fun xs S1 => Q (.d (.list xs)) S1) X) : Run (ev F (.lst es) ρ S) Q X := by rw [ev_lst]; with_unfolding_all exact .bind h
theorem opt_VB {f : PyData → PyData → Option PyData} {v w : Vl} (h : VB f v w S Q) : Run (R.opt ((view S v).bind fun x => (view S w).bind fun y => (f x y).map .d) S) Q X := by
  obtain ⟨x, y, z, h1, h2, h3, q⟩ := h
  rw [h1, Option.bind_some, h2, Option.bind_some, h3]; with_unfolding_all exact q
theorem opt_V1 {f : PyData → Option PyData} {v : Vl} (h : V1 f v S Q) : Run (R.opt ((view S v).bind fun x => (f x).map .d) S) Q X := by
  obtain ⟨x, z, h1, h3, q⟩ := h
  rw [h1, Option.bind_some, h3]; with_unfolding_all exact q
theorem zw_bin {o : B2} {a b : E} (h : Run (ev F a ρ S) (fun v S1 => Run (ev F b ρ S1) (fun w S2 => VB (binop o) v w S2 Q) X) X) : Run (ev F (.bin o a b) ρ S) Q X := by
  rw [ev_bin]
  with_unfolding_all exact .bind (h.mono (fun v S1 h => .bind (h.mono (fun w S2 h => opt_VB h) fun _ _ _ x => x)) fun _ _ _ x => x)
def cmpD (o : C2) (x y : PyData) : Option PyData := (cmpop o x y).map .bool
theorem zw_cmp {o : C2} {a b : E} (h : Run (ev F a ρ S) (fun v S1 => Run (ev F b ρ S1) (fun w S2 => VB (cmpD o) v w S2 Q) X) X) : Run (ev F (.cmp o a b) ρ S) Q X := by
  rw [ev_cmp]
  refine .bind (h.mono (fun v S1 h => .bind (h.mono (fun w S2 h => ?_) fun _ _ _ x => x)) fun _ _ _ x => x)
  have := opt_VB (X := X) h
  simp only [cmpD, Option.map_map] at this
  with_unfolding_all exact this
theorem zw_u1 {o : U1} {a : E} (h : Run (ev F a ρ S) (fun v S1 => V1 (u1 o) v S1 Q) X) : Run (ev F (.u1 o a) ρ S) Q X := by
  rw [ev_u1]; with_unfolding_all exact .bind (h.mono (fun v S1 h => opt_V1 h) fun _ _ _ x => x)
theorem zw_u2 {o : U2} {a b : E} (h : Run (ev F a ρ S) (fun v S1 => Run (ev F b ρ S1) (fun w S2 => VB (u2 o) v w S2 Q) X) X) : Run (ev F (.u2 o a b) ρ S) Q X := by
  rw [ev_u2]; with_unfolding_all exact .bind (h.mono (fun v S1 h => .bind (h.mono (fun w S2 h => opt_VB h) fun _ _ _ x => x)) fun _ _ _ x => x)
theorem zw_ix {a b : E} (h : Run (ev F a ρ S) (fun v S1 => Run (ev F b ρ S1) (fun w S2 => VB index v w S2 Q) X) X) : Run (ev F (.ix a b) ρ S) Q X := by
  rw [ev_ix]; with_unfolding_all exact .bind (h.mono (fun v S1 h => .bind (h.mono (fun w S2 h => opt_VB h) fun _ _ _ x => x)) fun _ _ _ x => x)
theorem zw_idx {a b : E} (h : Run (ev F a ρ S) (fun v S1 => (∃ xs, (view S1 v).bind lst? = some xs) ∧ Run (ev F b ρ S1) (fun w S2 => VB (u2 .index) v w S2 Q) X) X) : Run (ev F (.idx a b) ρ S) Q X := by
  simp only [ev]
  refine .bind (h.mono (fun v S1 h => ?_) fun _ _ _ x => x)
  obtain ⟨⟨xs, h0⟩, h⟩ := h
  rw [h0]
  refine Run.bind ?_
  with_unfolding_all exact Run.bind (h.mono (fun w S2 h => opt_VB h) fun _ _ _ x => x)
def isD (t : String) (x : PyData) : Option PyData := (In.isType x t).map .bool
theorem zw_isi {a : E} {t : String} (h : Run (ev F a ρ S) (fun v S1 => V1 (isD t) v S1 Q) X) : Run (ev F (.isi a t) ρ S) Q X := by
  rw [ev_isi]
  refine .bind (h.mono (fun v S1 h => ?_) fun _ _ _ x => x)
  have := opt_V1 (X := X) h
  simp only [isD, Option.map_map] at this
  with_unfolding_all exact this
theorem TK.test {v : Vl} {β : Type} {k : Bool → Sto → R β} {Q : β → Sto → Prop} (h : TK v S (fun b S' => Run (k b S') Q X)) : Run ((test S v).bind k) Q X := by
  obtain ⟨x, b, h1, h2, q⟩ := h
  unfold In.test
  rw [h1, Option.bind_some, h2]; with_unfolding_all exact q
theorem zw_not {a : E} (h : Run (ev F a ρ S) (fun v S1 => TK v S1 (fun b S2 => Q (.d (.bool (!b))) S2)) X) : Run (ev F (.not a) ρ S) Q X := by
  rw [ev_not]; with_unfolding_all exact .bind (h.mono (fun v S1 h => TK.test h) fun _ _ _ x => x)
theorem zw_and {a b : E} (h : Run (ev F a ρ S) (fun v S1 => TK v S1 (fun c S2 => (c = true → Run (ev F b ρ S2) Q X) ∧ (c = false → Q v S2))) X) : Run (ev F (.and a b) ρ S) Q X := by
  rw [ev_and]
  refine .bind (h.mono (fun v S1 h => TK.test ?_) fun _ _ _ x => x)
  obtain ⟨x, c, h1, h2, h3, h4⟩ := h
  refine ⟨x, c, h1, h2, ?_⟩
  cases c with
  | true => with_unfolding_all exact h3 rfl
  | false => with_unfolding_all exact h4 rfl
theorem zw_or {a b : E} (h : Run (ev F a ρ S) (fun v S1 => TK v S1 (fun c S2 => (c = true → Q v S2) ∧ (c = false → Run (ev F b ρ S2) Q X))) X) : Run (ev F (.or a b) ρ S) Q X := by
  rw [ev_or]
  refine .bind (h.mono (fun v S1 h => TK.test ?_) fun _ _ _ x => x)
  obtain ⟨x, c, h1, h2, h3, h4⟩ := h
  refine ⟨x, c, h1, h2, ?_⟩
  cases c with
  | true => with_unfolding_all exact h3 rfl
  | false => with_unfolding_all exact h4 rfl
theorem zw_ite {c a b : E} (h : Run (ev F c ρ S) (fun v S1 => TK v S1 (fun t S2 => (t = true → Run (ev F a ρ S2) Q X) ∧ (t = false → Run (ev F b ρ S2) Q X))) X) : Run (ev F (.ite c a b) ρ S) Q X := by
  rw [ev_ite]
  refine .bind (h.mono (fun v S1 h => TK.test ?_) fun _ _ _ x => x)
  obtain ⟨x, t, h1, h2, h3, h4⟩ := h
  refine ⟨x, t, h1, h2, ?_⟩
  cases t with
  | true => with_unfolding_all exact h3 rfl
  | false => with_unfolding_all exact h4 rfl
theorem zw_ch {o o' : C2} {a b c : E} (h : Run (ev F a ρ S) (fun v S1 => Run (ev F b ρ S1) (fun w S2 => VB (cmpD o) v w S2 (fun u S3 => (u = .d (.bool true) → Run (ev F c ρ S3) (fun u S4 => VB (cmpD o') w u S4 Q) X) ∧ (u = .d (.bool false) → Q (.d (.bool false)) S3))) X) X) : Run (ev F (.ch o o' a b c) ρ S) Q X := by
  rw [ev_ch]
  refine .bind (h.mono (fun v S1 h => .bind (h.mono (fun w S2 h => ?_) fun _ _ _ x => x)) fun _ _ _ x => x)
  obtain ⟨x, y, z, h1, h2, h3, h4, h5⟩ := h
  rw [h1, Option.bind_some, h2, Option.bind_some]
  unfold cmpD at h3
  cases hc : cmpop o x y with
  | none => rw [hc] at h3; cases h3
  | some t =>
    rw [hc] at h3
    cases h3
    cases t with
    | false => with_unfolding_all exact h5 rfl
    | true =>
      rw [chT_t]
      refine .bind ((h4 rfl).mono (fun u S3 h => ?_) fun _ _ _ x => x)
      have := opt_VB (X := X) h
      simp only [cmpD, Option.map_map] at this
      with_unfolding_all exact this
theorem zw_call {f : Nat} {es : Es} {dfl : List PyData} (h : Run (evs F es ρ S) (fun vs S1 => Run (F f (vs ++ dfl.map .d) S1) (fun x S2 => Q (.d x) S2) X) X) : Run (ev F (.call f es dfl) ρ S) Q X := by
  rw [ev_call]; with_unfolding_all exact .bind (h.mono (fun v S1 h => .bind (h.mono (fun w S2 h => h) fun _ _ _ x => x)) fun _ _ _ x => x)
/-- a part of a row -/
def sliceD (lo hi : Option Int) (x : PyData) : Option PyData := slice x lo hi
theorem zw_sl {a : E} {lo hi : Es} (h : Run (ev F a ρ S) (fun v S1 => Run (evo F lo ρ S1) (fun l S2 => Run (evo F hi ρ S2) (fun h S3 => V1 (sliceD l h) v S3 Q) X) X) X) : Run (ev F (.sl a lo hi) ρ S) Q X := by
  simp only [ev]
  with_unfolding_all exact .bind (h.mono (fun v S1 h => .bind (h.mono (fun l S2 h => .bind (h.mono (fun r S3 h => opt_V1 h) fun _ _ _ x => x)) fun _ _ _ x => x)) fun _ _ _ x => x)
theorem zw_o0 {Q : Option Int → Sto → Prop} (q : Q none S) : Run (evo F .nil ρ S) Q X := by rw [evo_nil]; with_unfolding_all exact q
theorem zw_o1 {Q : Option Int → Sto → Prop} {e : E} {es : Es} (h : Run (ev F e ρ S) (fun v S1 => ∃ i, v = .d (.int i) ∧ Q (some i) S1) X) : Run (evo F (.cons e es) ρ S) Q X := by
  simp only [evo]
  refine .bind (h.mono (fun v S1 h => ?_) fun _ _ _ x => x)
  obtain ⟨i, rfl, q⟩ := h
  with_unfolding_all exact q
theorem zw_seq {it : It} (h : Run (evI F it ρ S) (fun p S1 => p.1.length ≤ cap ∧ Q (.d (.tuple p.1)) S1) X) : Run (ev F (.seq it) ρ S) Q X := by
  simp only [ev]
  refine .bind (h.mono (fun p S1 h => ?_) fun _ _ _ x => x)
  rw [if_pos (show fits p.1.length = true from decide_eq_true h.1)]
  with_unfolding_all exact h.2
/-! ### rows of values -/
theorem zw_e0 {Q : List Vl → Sto → Prop} (q : Q [] S) : Run (evs F .nil ρ S) Q X := by rw [evs_nil]; with_unfolding_all exact q
theorem zw_e1 {Q : List Vl → Sto → Prop} {e : E} {es : Es} (h : Run (ev F e ρ S) (fun v S1 => Run (evs F es ρ S1) (fun vs S2 => Q (v :: vs) S2) X) X) : Run (evs F (.cons e es) ρ S) Q X := by
  rw [evs_cons]; with_unfolding_all exact .bind (h.mono (fun v S1 h => .bind (h.mono (fun w S2 h => h) fun _ _ _ x => x)) fun _ _ _ x => x)
theorem zw_p0 {Q : List PyData → Sto → Prop} (q : Q [] S) : Run (evps F .nil ρ S) Q X := by rw [evps_nil]; with_unfolding_all exact q
theorem zw_p1 {Q : List PyData → Sto → Prop} {e : E} {es : Es} (h : Run (ev F e ρ S) (fun v S1 => SK v S1 (fun x S1' => Run (evps F es ρ S1') (fun xs S2 => Q (x :: xs) S2) X)) X) : Run (evps F (.cons e es) ρ S) Q X := by
  rw [evps_cons]
  refine .bind (h.mono (fun v S1 h => SK.run (K := fun _ _ => True) ?_) fun _ _ _ x => x)
  obtain ⟨x, S', e, q⟩ := h
  with_unfolding_all exact ⟨x, S', e, .bind (q.mono (fun w S2 h => h) fun _ _ _ x => x)⟩
/-! ### what is walked -/
section
variable {Q : List PyData × List Nat → Sto → Prop}
theorem zi_e {a : E} (h : Run (ev F a ρ S) (fun v S1 => ∃ xs, (view S1 v).bind itr? = some xs ∧ Q (xs, guard v) S1) X) : Run (evI F (.e a) ρ S) Q X := by
  rw [evI_e]
  refine .bind (h.mono (fun v S1 h => ?_) fun _ _ _ x => x)
  obtain ⟨xs, e, q⟩ := h
  rw [e]; with_unfolding_all exact q
theorem zi_r1 {a : E} (h : Run (ev F a ρ S) (fun v S1 => ∃ n : Nat, v = .d (.int (n : Int)) ∧ n < 4611686018427387904 ∧ Q ((List.range n).map fun (k : Nat) => .int (k : Int), []) S1) X) : Run (evI F (.rng1 a) ρ S) Q X := by
  rw [evI_rng1]
  refine .bind (h.mono (fun v S1 h => ?_) fun _ _ _ x => x)
  match v, h with
  | _, ⟨n, Eq.refl _, hn, q⟩ =>
  have e : R.opt ((range2 0 (n : Int)).map fun xs => (xs, ([] : List Nat))) S1 = .ok ((List.range n).map fun (k : Nat) => .int (k : Int), []) S1 := by rw [rng_nat n hn]; rfl
  rw [intR_int, e]; with_unfolding_all exact q
theorem zi_enum {a : E} (h : Run (ev F a ρ S) (fun v S1 => ∃ xs, (view S1 v).bind seq? = some xs ∧ Q (enumL 0 xs, guard v) S1) X) : Run (evI F (.enum a) ρ S) Q X := by
  rw [evI_enum]
  refine .bind (h.mono (fun v S1 h => ?_) fun _ _ _ x => x)
  obtain ⟨xs, e, q⟩ := h
  rw [e]; with_unfolding_all exact q
theorem range2_w (i : Int) (n : Nat) (h : -4611686018427387904 ≤ i) (h2 : i + n < 4611686018427387904) : range2 i (i + n) = some ((List.range n).map fun (k : Nat) => .int (i + (k : Int))) := by
  unfold range2
  rw [if_pos (by simp [rangeOk]; omega)]
  have : (i + (n : Int) - i).toNat = n := by omega
  rw [this, upFrom_range, List.map_map]
  rfl
theorem zi_r2 {a b : E} (h : Run (ev F a ρ S) (fun v S1 => Run (ev F b ρ S1) (fun w S2 => ∃ (i : Int) (n : Nat), v = .d (.int i) ∧ w = .d (.int (i + n)) ∧ -4611686018427387904 ≤ i ∧ i + n < 4611686018427387904 ∧ Q ((List.range n).map fun (k : Nat) => .int (i + (k : Int)), []) S2) X) X) : Run (evI F (.rng2 a b) ρ S) Q X := by
  simp only [evI]
  refine .bind (h.mono (fun v S1 h => .bind (h.mono (fun w S2 h => ?_) fun _ _ _ x => x)) fun _ _ _ x => x)
  obtain ⟨i, n, rfl, rfl, h1, h2, q⟩ := h
  show Run (R.opt (Option.map (fun xs => (xs, [])) (range2 i (i + n))) _) Q X
  rw [range2_w i n h1 h2]; with_unfolding_all exact q
theorem zi_zip {a b : E} (h : Run (ev F a ρ S) (fun v S1 => Run (ev F b ρ S1) (fun w S2 => ∃ x y zs, view S2 v = some x ∧ view S2 w = some y ∧ zip? x y = some zs ∧ Q (zs, guard v ++ guard w) S2) X) X) : Run (evI F (.zip a b) ρ S) Q X := by
  rw [evI_zip]
  refine .bind (h.mono (fun v S1 h => .bind (h.mono (fun w S2 h => ?_) fun _ _ _ x => x)) fun _ _ _ x => x)
  obtain ⟨x, y, zs, h1, h2, h3, q⟩ := h
  rw [h1, Option.bind_some, h2, Option.bind_some, h3]; with_unfolding_all exact q
end
theorem zw_t0 {Q : Bool → Sto → Prop} (q : Q true S) : Run (evt F .nil ρ S) Q X := by rw [evt_nil]; with_unfolding_all exact q
theorem zw_t1 {Q : Bool → Sto → Prop} {e : E} {es : Es} (h : Run (ev F e ρ S) (fun v S1 => TK v S1 Q) X) : Run (evt F (.cons e es) ρ S) Q X := by
  rw [evt_cons]
  refine .bind (h.mono (fun v S1 h => ?_) fun _ _ _ x => x)
  obtain ⟨x, b, h1, h2, q⟩ := h
  unfold test
  rw [h1, Option.bind_some, h2]; with_unfolding_all exact q
/-! ### comprehensions -/
/-- items and tests that leave the store -/
theorem zw_lcF {α : Type} {ws : List Nat} {t : T} {it : It} {cs : Es} {e : E} (l : List α) (g : α → PyData) (p : α → Bool) (f : α → PyData) (hit : Run (evI F it ρ S) (fun q S1 => q.1 = l.map g ∧ S1 = S) nX) (hl : l.length ≤ cap)
    (h : ∀ a ∈ l, ∃ ρ', put t (g a) (wipe ρ ws) = some ρ' ∧ Run (evt F cs ρ' S) (fun b S1 => b = p a ∧ S1 = S) nX ∧ (p a = true → Run (ev F e ρ' S) (fun v S1 => v = .d (f a) ∧ S1 = S) nX)) (q : Q (.d (.list ((l.filter p).map f))) S) : Run (ev F (.lc ws t it cs e) ρ S) Q X := by
  cases hr : evI F it ρ S with
  | no => rw [hr] at hit; with_unfolding_all exact hit.elim
  | ex _ _ _ => rw [hr] at hit; with_unfolding_all exact hit.elim
  | ok u S1 =>
    rw [hr, Run.k] at hit
    obtain ⟨h1, rfl⟩ := hit
    obtain ⟨u1, gs⟩ := u
    cases h1
    with_unfolding_all exact Run.of (ev_lc (gs := gs) g p f hr hl fun a ha => by
      obtain ⟨ρ', h1, h2, h3⟩ := h a ha
      with_unfolding_all exact ⟨ρ', h1, h2.eq, fun hp => by rw [(h3 hp).eq]; rfl⟩) q
theorem zw_lc {α : Type} {ws : List Nat} {t : T} {it : It} {e : E} (l : List α) (g : α → PyData) (f : α → PyData) (hit : Run (evI F it ρ S) (fun q S1 => q.1 = l.map g ∧ S1 = S) nX) (hl : l.length ≤ cap)
    (h : ∀ a ∈ l, ∃ ρ', put t (g a) (wipe ρ ws) = some ρ' ∧ Run (ev F e ρ' S) (fun v S1 => v = .d (f a) ∧ S1 = S) nX) (q : Q (.d (.list (l.map f))) S) : Run (ev F (.lc ws t it .nil e) ρ S) Q X :=
  zw_lcF l g (fun _ => true) f hit hl (fun a ha => by
    obtain ⟨ρ', h1, h2⟩ := h a ha
    with_unfolding_all exact ⟨ρ', h1, zw_t0 ⟨rfl, rfl⟩, fun _ => h2⟩) (by rw [List.filter_eq_self.mpr fun _ _ => rfl]; with_unfolding_all exact q)
/-- items that move the store -/
theorem zw_lcI {α : Type} {ws : List Nat} {t : T} {it : It} {e : E} (l : List α) (g : α → PyData) (J : List α → List PyData → Sto → Prop) (hit : Run (evI F it ρ S) (fun q S1 => q = (l.map g, []) ∧ J l [] S1) nX) (hl : l.length ≤ cap)
    (step : ∀ a l acc S, J (a :: l) acc S → ∃ ρ', put t (g a) (wipe ρ ws) = some ρ' ∧ Run (ev F e ρ' S) (fun v S2 => ∃ y, v = .d y ∧ J l (acc ++ [y]) S2) nX) (q : ∀ ys S', J [] ys S' → Q (.d (.list ys)) S') : Run (ev F (.lc ws t it .nil e) ρ S) Q X := by
  cases hr : evI F it ρ S with
  | no => rw [hr] at hit; with_unfolding_all exact hit.elim
  | ex _ _ _ => rw [hr] at hit; with_unfolding_all exact hit.elim
  | ok u S1 =>
    rw [hr, Run.k] at hit
    obtain ⟨rfl, h0⟩ := hit
    obtain ⟨ys, S', e, hJ⟩ := ev_lcI (F := F) (ws := ws) (t := t) (it := it) (e := e) g l J hr hl h0 fun a l acc S h => by
      obtain ⟨ρ', h1, h2⟩ := step a l acc S h
      cases hv : ev F e ρ' S with
      | no => rw [hv] at h2; with_unfolding_all exact h2.elim
      | ex _ _ _ => rw [hv] at h2; with_unfolding_all exact h2.elim
      | ok v S2 =>
        rw [hv, Run.k] at h2
        obtain ⟨y, rfl, h3⟩ := h2
        with_unfolding_all exact ⟨ρ', y, S2, h1, hv, h3⟩
    with_unfolding_all exact Run.of e (q ys S' hJ)
end
/-! ### statements -/
section
variable {Q : Fl → Sto → Prop} {X : Str → PyData → Sto → Prop}
theorem zs_nil (q : Q (.nx ρ) S) : Run (xs F W .nil ρ S) Q X := by rw [xs_nil]; with_unfolding_all exact q
theorem Run.x1 {c : C} {cs : Cs} (h : Run (x1 F W c ρ S) (fun fl S1 => Run (nxt F W cs fl S1) Q X) X) : Run (xs F W (.cons c cs) ρ S) Q X := by rw [xs_cons]; with_unfolding_all exact .bind h
theorem SK.bind {v : Vl} {β : Type} {k : PyData → Sto → R β} {Q : β → Sto → Prop} (h : SK v S (fun x S' => Run (k x S') Q X)) : Run ((shut S v).bind k) Q X := SK.run (K := fun _ _ => True) h
theorem zs_asg {i : Nat} {e : E} {cs : Cs} (h : Run (ev F e ρ S) (fun v S1 => SK v S1 (fun x S2 => Run (xs F W cs (ρ.set i (some (.d x))) S2) Q X)) X) : Run (xs F W (.cons (.asg (.nm i) e) cs) ρ S) Q X := by
  refine Run.x1 ?_
  rw [x1_asg]
  refine .bind (h.mono (fun v S1 h => SK.bind ?_) fun _ _ _ x => x)
  obtain ⟨x, S', e, q⟩ := h
  with_unfolding_all exact ⟨x, S', e, q⟩
theorem zs_asgT {ts : Ts} {e : E} {cs : Cs} (h : Run (ev F e ρ S) (fun v S1 => SK v S1 (fun x S2 => ∃ ρ', put (.tp ts) x ρ = some ρ' ∧ Run (xs F W cs ρ' S2) Q X)) X) : Run (xs F W (.cons (.asg (.tp ts) e) cs) ρ S) Q X := by
  refine Run.x1 ?_
  rw [x1_asg]
  refine .bind (h.mono (fun v S1 h => SK.bind ?_) fun _ _ _ x => x)
  obtain ⟨x, S', e, ρ', hp, q⟩ := h
  refine ⟨x, S', e, ?_⟩
  show Run (R.opt (Option.map Fl.nx (put (T.tp ts) x ρ)) S') _ X
  rw [hp]; with_unfolding_all exact q
theorem zs_new {i : Nat} {e : E} {cs : Cs} (h : Run (ev F e ρ S) (fun v S1 => ∃ ys, v = .d (.list ys) ∧ Run (xs F W cs (ρ.set i (some (.loc S1.length))) (S1 ++ [⟨true, .lst ys⟩])) Q X) X) : Run (xs F W (.cons (.new i e) cs) ρ S) Q X := by
  refine Run.x1 ?_
  rw [x1_new]
  refine .bind (h.mono (fun v S1 h => ?_) fun _ _ _ x => x)
  obtain ⟨ys, rfl, h⟩ := h
  rw [live_list]; with_unfolding_all exact h
theorem zs_drop {e : E} {cs : Cs} (h : Run (ev F e ρ S) (fun _ S1 => Run (xs F W cs ρ S1) Q X) X) : Run (xs F W (.cons (.drop e) cs) ρ S) Q X := by
  refine Run.x1 ?_
  rw [x1_drop]
  with_unfolding_all exact .bind (h.mono (fun v S1 h => h) fun _ _ _ x => x)
theorem zs_ret {e : E} {cs : Cs} (h : Run (ev F e ρ S) (fun v S1 => SK v S1 (fun x S2 => Q (.rt x) S2)) X) : Run (xs F W (.cons (.ret e) cs) ρ S) Q X := by
  refine Run.x1 ?_
  rw [x1_ret]
  refine .bind (h.mono (fun v S1 h => SK.bind ?_) fun _ _ _ x => x)
  obtain ⟨x, S', e, q⟩ := h
  with_unfolding_all exact ⟨x, S', e, q⟩
theorem zs_retN {cs : Cs} (q : Q (.rt .none) S) : Run (xs F W (.cons .retN cs) ρ S) Q X := by
  refine Run.x1 ?_
  rw [x1_retN]; with_unfolding_all exact q
theorem zs_raise {c : Str} {e : E} {cs : Cs} (h : Run (ev F e ρ S) (fun v S1 => SK v S1 (fun x S2 => X c x S2)) X) : Run (xs F W (.cons (.raise c e) cs) ρ S) Q X := by
  refine Run.x1 ?_
  rw [x1_raise]
  refine .bind (h.mono (fun v S1 h => SK.bind ?_) fun _ _ _ x => x)
  obtain ⟨x, S', e, q⟩ := h
  with_unfolding_all exact ⟨x, S', e, q⟩
/-- what comes behind a branch -/
theorem zs_ite {c : E} {a b cs : Cs} (h : Run (ev F c ρ S) (fun v S1 => TK v S1 (fun t S2 => (t = true → Run (xs F W a ρ S2) (fun fl S3 => Run (nxt F W cs fl S3) Q X) X) ∧ (t = false → Run (xs F W b ρ S2) (fun fl S3 => Run (nxt F W cs fl S3) Q X) X))) X) : Run (xs F W (.cons (.ite c a b) cs) ρ S) Q X := by
  refine Run.x1 ?_
  rw [x1_ite]
  refine .bind (h.mono (fun v S1 h => TK.test ?_) fun _ _ _ x => x)
  obtain ⟨x, t, h1, h2, h3, h4⟩ := h
  refine ⟨x, t, h1, h2, ?_⟩
  cases t with
  | true => with_unfolding_all exact h3 rfl
  | false => with_unfolding_all exact h4 rfl
theorem zn_nx {cs : Cs} (h : Run (xs F W cs ρ S) Q X) : Run (nxt F W cs (.nx ρ) S) Q X := h
theorem zn_rt {cs : Cs} {x : PyData} (q : Q (.rt x) S) : Run (nxt F W cs (.rt x) S) Q X := Run.of rfl q
/-- the test told beforehand -/
theorem zs_if (B : Bool) {c : E} {a b cs : Cs} (hc : Run (ev F c ρ S) (fun v S1 => TK v S1 (fun t S2 => t = B ∧ S2 = S)) nX) (h1 : B = true → Run (xs F W a ρ S) (fun fl S3 => Run (nxt F W cs fl S3) Q X) X) (h2 : B = false → Run (xs F W b ρ S) (fun fl S3 => Run (nxt F W cs fl S3) Q X) X) : Run (xs F W (.cons (.ite c a b) cs) ρ S) Q X := by
  refine zs_ite (hc.mono (fun v S1 h => ?_) fun _ _ _ x => x.elim)
  obtain ⟨x, t, e1, e2, rfl, rfl⟩ := h
  with_unfolding_all exact ⟨x, t, e1, e2, h1, h2⟩
theorem zs_par {i j : Nat} {a b : E} {cs : Cs} (h : Run (ev F a ρ S) (fun v S1 => Run (ev F b ρ S1) (fun w S2 => Run (xs F W cs ((ρ.set i (some v)).set j (some w)) S2) Q X) X) X) : Run (xs F W (.cons (.par i j false false a b) cs) ρ S) Q X := by
  refine Run.x1 ?_
  rw [x1_par]
  with_unfolding_all exact .bind (h.mono (fun v S1 h => .bind (.bind (h.mono (fun w S2 h => .bind h) fun _ _ _ x => x))) fun _ _ _ x => x)
theorem zs_set {i : Nat} {e : E} {cs : Cs} (h : Run (ev F e ρ S) (fun v S1 => Run (xs F W cs (ρ.set i (some v)) S1) Q X) X) : Run (xs F W (.cons (.set i e) cs) ρ S) Q X := by
  refine Run.x1 ?_
  rw [x1_set]
  with_unfolding_all exact .bind (h.mono (fun v S1 h => h) fun _ _ _ x => x)
theorem zs_aug {i : Nat} {o : B2} {e : E} {cs : Cs} {n : Int} (hi : ρ[i]? = some (some (.d (.int n)))) (h : Run (ev F e ρ S) (fun v S1 => ∃ m z, v = .d (.int m) ∧ binop o (.int n) (.int m) = some z ∧ Run (xs F W cs (ρ.set i (some (.d z))) S1) Q X) X) : Run (xs F W (.cons (.aug i o e) cs) ρ S) Q X := by
  refine Run.x1 ?_
  rw [x1_aug, hi, getV_some, R.bind_ok]
  refine .bind (h.mono (fun v S1 h => ?_) fun _ _ _ x => x)
  obtain ⟨m, z, rfl, e, q⟩ := h
  rw [augment_int, e]; with_unfolding_all exact q
/-- append -/
theorem zs_app {i n : Nat} {e : E} {cs : Cs} {ys0 : List PyData} (hi : ρ[i]? = some (some (.loc n))) (h0 : lstAt S (.loc n) = some (n, ys0)) (h : Run (ev F e ρ S) (fun v S1 => SK v S1 (fun x S2 => ∃ ys, lstAt S2 (.loc n) = some (n, ys) ∧ ys.length < 16777216 ∧ Run (xs F W cs ρ (S2.set n ⟨true, .lst (ys ++ [x])⟩)) Q X)) X) : Run (xs F W (.cons (.app (.var i) e) cs) ρ S) Q X := by
  refine Run.x1 ?_
  rw [x1_app, ev_var _ _ hi]
  simp only [R.bind_ok, h0, R.opt_some]
  refine .bind (h.mono (fun v S1 h => SK.bind ?_) fun _ _ _ x => x)
  obtain ⟨x, S', e, ys, h1, h2, q⟩ := h
  refine ⟨x, S', e, ?_⟩
  show Run (appAt ρ x S' (lstAt S' (Vl.loc n))) _ X
  rw [h1, appAt_some, if_pos h2]; with_unfolding_all exact q
/-- what a loop's body comes to -/
def LK (I : Env → Sto → Prop) (Rt : PyData → Sto → Prop) (Bk : Env → Sto → Prop) : Fl → Sto → Prop
  | .nx ρ, S => I ρ S
  | .ct ρ, S => I ρ S
  | .rt x, S => Rt x S
  | .bk ρ, S => Bk ρ S
theorem zs_forG {α : Type} {t : T} {it : It} {b cs : Cs} (gs : List Nat) (S0 : Sto) (l : List α) (g : α → PyData) (I : List α → Env → Sto → Prop) (hit : Run (evI F it ρ S) (fun p S1 => p = (l.map g, gs) ∧ S1 = S0) X) (h0 : I l ρ S0)
    (step : ∀ a l ρ S, I (a :: l) ρ S → ∃ ρ1, put t (g a) ρ = some ρ1 ∧ Run (xs F W b ρ1 S) (LK (fun ρ2 S2 => chk gs S0 S2 = true ∧ I l ρ2 S2) (fun x S2 => Q (.rt x) S2) (fun ρ2 S2 => Run (xs F W cs ρ2 S2) Q X)) X)
    (after : ∀ ρ' S', I [] ρ' S' → Run (xs F W cs ρ' S') Q X) : Run (xs F W (.cons (.loop t it b) cs) ρ S) Q X := by
  refine Run.x1 ?_
  rw [x1_loop]
  refine .bind (hit.mono (fun p S1 h => ?_) fun _ _ _ x => x)
  obtain ⟨rfl, rfl⟩ := h
  have key : ∀ (l : List α) (ρ : Env) (S : Sto), I l ρ S → Run (forL (chk gs S1) (fun x ρ => put t x ρ) (fun ρ S => xs F W b ρ S) (l.map g) ρ S) (fun fl S1 => Run (nxt F W cs fl S1) Q X) X := by
    intro l
    induction l with
    | nil => intro ρ S h; with_unfolding_all exact after ρ S h
    | cons a l ih =>
      intro ρ S h
      obtain ⟨ρ1, h1, h2⟩ := step a l ρ S h
      simp only [List.map_cons, forL, h1]
      refine .bind (h2.mono (fun fl S2 h => ?_) fun _ _ _ x => x)
      cases fl with
      | nx ρ2 => simp only [h.1, if_true]; with_unfolding_all exact ih ρ2 S2 h.2
      | ct ρ2 => simp only [h.1, if_true]; with_unfolding_all exact ih ρ2 S2 h.2
      | bk ρ2 => with_unfolding_all exact h
      | rt x => with_unfolding_all exact h
  with_unfolding_all exact key l ρ S1 h0
/-- for over what is not a live container -/
theorem zs_for {α : Type} {t : T} {it : It} {b cs : Cs} (l : List α) (g : α → PyData) (I : List α → Env → Sto → Prop) (hit : Run (evI F it ρ S) (fun p S1 => p = (l.map g, []) ∧ S1 = S) X) (h0 : I l ρ S)
    (step : ∀ a l ρ S, I (a :: l) ρ S → ∃ ρ1, put t (g a) ρ = some ρ1 ∧ Run (xs F W b ρ1 S) (LK (fun ρ2 S2 => I l ρ2 S2) (fun x S2 => Q (.rt x) S2) (fun ρ2 S2 => Run (xs F W cs ρ2 S2) Q X)) X)
    (after : ∀ ρ' S', I [] ρ' S' → Run (xs F W cs ρ' S') Q X) : Run (xs F W (.cons (.loop t it b) cs) ρ S) Q X :=
  zs_forG [] S l g I hit h0 (fun a l ρ S h => by
    obtain ⟨ρ1, h1, h2⟩ := step a l ρ S h
    refine ⟨ρ1, h1, h2.mono (fun fl S2 h => ?_) fun _ _ _ x => x⟩
    cases fl with
    | nx ρ2 => with_unfolding_all exact ⟨rfl, h⟩
    | ct ρ2 => with_unfolding_all exact ⟨rfl, h⟩
    | bk ρ2 => with_unfolding_all exact h
    | rt x => with_unfolding_all exact h) after
/-- for by places -/
theorem zs_forN {t : T} {it : It} {b cs : Cs} (m : Nat) (g : Nat → PyData) (I : Nat → Env → Sto → Prop) (hit : Run (evI F it ρ S) (fun p S1 => p = ((List.range m).map g, []) ∧ S1 = S) X) (h0 : I 0 ρ S)
    (step : ∀ i ρ S, i < m → I i ρ S → ∃ ρ1, put t (g i) ρ = some ρ1 ∧ Run (xs F W b ρ1 S) (LK (fun ρ2 S2 => I (i + 1) ρ2 S2) (fun x S2 => Q (.rt x) S2) (fun ρ2 S2 => Run (xs F W cs ρ2 S2) Q X)) X)
    (after : ∀ ρ' S', I m ρ' S' → Run (xs F W cs ρ' S') Q X) : Run (xs F W (.cons (.loop t it b) cs) ρ S) Q X := by
  refine zs_for (List.range m) g (fun l ρ S => ∃ i, i + l.length = m ∧ l = List.range' i l.length ∧ I i ρ S) hit ⟨0, by simp, by simp [List.range_eq_range'], h0⟩ ?_ ?_
  · rintro a l ρ S ⟨i, h1, h2, h3⟩
    simp only [List.length_cons] at h1 h2
    rw [List.range'_succ] at h2
    obtain ⟨rfl, h2⟩ := List.cons.inj h2
    obtain ⟨ρ1, h4, h5⟩ := step a ρ S (by omega) h3
    refine ⟨ρ1, h4, h5.mono (fun fl S2 h => ?_) fun _ _ _ x => x⟩
    cases fl with
    | nx ρ2 => with_unfolding_all exact ⟨a + 1, by omega, h2, h⟩
    | ct ρ2 => with_unfolding_all exact ⟨a + 1, by omega, h2, h⟩
    | bk ρ2 => with_unfolding_all exact h
    | rt x => with_unfolding_all exact h
  · rintro ρ' S' ⟨i, h1, h2, h3⟩
    have : i = m := by simpa using h1
    subst this
    with_unfolding_all exact after ρ' S' h3
/-- while, by a measure -/
theorem zs_whl {c : E} {b cs : Cs} (I : Nat → Env → Sto → Prop) {n : Nat} (hn : n < W) (h0 : I n ρ S)
    (step : ∀ n ρ S, I n ρ S → Run (ev F c ρ S) (fun v S1 => TK v S1 (fun t S2 => (t = true → Run (xs F W b ρ S2) (LK (fun ρ2 S3 => ∃ m, m < n ∧ I m ρ2 S3) (fun x S3 => Q (.rt x) S3) (fun ρ2 S3 => Run (xs F W cs ρ2 S3) Q X)) X) ∧ (t = false → S2 = S ∧ Run (xs F W cs ρ S) Q X))) X) : Run (xs F W (.cons (.whl c b) cs) ρ S) Q X := by
  refine Run.x1 ?_
  rw [x1_whl]
  have key : ∀ (w n : Nat) (ρ : Env) (S : Sto), n < w → I n ρ S → Run (whlL (fun ρ S => (ev F c ρ S).bind fun v S1 => test S1 v) (fun ρ S => xs F W b ρ S) w ρ S) (fun fl S1 => Run (nxt F W cs fl S1) Q X) X := by
    intro w
    induction w with
    | zero => intro n ρ S h; omega
    | succ w ih =>
      intro n ρ S hlt h
      have h1 := step n ρ S h
      simp only [whlL]
      refine .bind (.bind (h1.mono (fun v S1 h => ?_) fun _ _ _ x => x))
      obtain ⟨x, t, e1, e2, h3, h4⟩ := h
      unfold test
      rw [e1, Option.bind_some, e2]
      cases t with
      | false =>
        obtain ⟨rfl, h5⟩ := h4 rfl
        with_unfolding_all exact h5
      | true =>
        rw [R.opt_some, Run.k]
        simp only [if_true]
        refine .bind ((h3 rfl).mono (fun fl S2 h => ?_) fun _ _ _ x => x)
        cases fl with
        | nx ρ2 => obtain ⟨m, hm, hI⟩ := h; with_unfolding_all exact ih m ρ2 S2 (by omega) hI
        | ct ρ2 => obtain ⟨m, hm, hI⟩ := h; with_unfolding_all exact ih m ρ2 S2 (by omega) hI
        | bk ρ2 => with_unfolding_all exact h
        | rt x => with_unfolding_all exact h
  with_unfolding_all exact key W n ρ S hn h0
end
/-- the def's end -/
theorem Run.fin {n : Nat} {r : R Fl} {Q : PyData → Sto → Prop} {X : Str → PyData → Sto → Prop} (h : Run r (fun fl S => LK (fun _ S => Q .none (S.take n)) (fun x S => Q x (S.take n)) (fun _ _ => False) fl S ∧ ∀ ρ, fl ≠ .ct ρ) (fun c x S => X c x (S.take n))) : Run (In.fin n r) Q X := by
  cases r with
  | no => with_unfolding_all exact h
  | ex c x S => with_unfolding_all exact h
  | ok fl S =>
    cases fl with
    | nx ρ => with_unfolding_all exact h.1
    | ct ρ => with_unfolding_all exact (h.2 ρ rfl).elim
    | bk ρ => with_unfolding_all exact h.1.elim
    | rt x => with_unfolding_all exact h.1
def FK (n : Nat) (Q : PyData → Sto → Prop) : Fl → Sto → Prop
  | .nx _, S => Q .none (S.take n)
  | .rt x, S => Q x (S.take n)
  | _, _ => False
theorem Run.fn {n : Nat} {r : R Fl} {Q : PyData → Sto → Prop} {X : Str → PyData → Sto → Prop} (h : Run r (FK n Q) (fun c x S => X c x (S.take n))) : Run (In.fin n r) Q X := by
  cases r with
  | no => with_unfolding_all exact h
  | ex c x S => with_unfolding_all exact h
  | ok fl S => cases fl <;> with_unfolding_all exact h
theorem FK.rt {n : Nat} {Q : PyData → Sto → Prop} {x : PyData} (q : Q x (S.take n)) : FK n Q (.rt x) S := q
theorem FK.nx {n : Nat} {Q : PyData → Sto → Prop} (q : Q .none (S.take n)) : FK n Q (.nx ρ) S := q
theorem LK.nx {I : Env → Sto → Prop} {Rt : PyData → Sto → Prop} {Bk : Env → Sto → Prop} (q : I ρ S) : LK I Rt Bk (.nx ρ) S := q
theorem LK.ct {I : Env → Sto → Prop} {Rt : PyData → Sto → Prop} {Bk : Env → Sto → Prop} (q : I ρ S) : LK I Rt Bk (.ct ρ) S := q
theorem LK.rt {I : Env → Sto → Prop} {Rt : PyData → Sto → Prop} {Bk : Env → Sto → Prop} {x : PyData} (q : Rt x S) : LK I Rt Bk (.rt x) S := q
theorem LK.bk {I : Env → Sto → Prop} {Rt : PyData → Sto → Prop} {Bk : Env → Sto → Prop} (q : Bk ρ S) : LK I Rt Bk (.bk ρ) S := q
end In
namespace In
open PySem
theorem D_lt (i j : Int) : cmpD .lt (.int i) (.int j) = some (.bool (decide (i < j))) := by unfold cmpD; rw [cmp_lt]; rfl
theorem D_le (i j : Int) : cmpD .le (.int i) (.int j) = some (.bool (decide (i ≤ j))) := by unfold cmpD; rw [cmp_le]; rfl
theorem D_gt (i j : Int) : cmpD .gt (.int i) (.int j) = some (.bool (decide (j < i))) := by unfold cmpD; rw [cmp_gt]; rfl
theorem D_ge (i j : Int) : cmpD .ge (.int i) (.int j) = some (.bool (decide (j ≤ i))) := by unfold cmpD; rw [cmp_ge]; rfl
theorem D_eq (i j : Int) : cmpD .eq (.int i) (.int j) = some (.bool (decide (i = j))) := by unfold cmpD; rw [cmp_eq]; rfl
theorem D_ne (i j : Int) : cmpD .ne (.int i) (.int j) = some (.bool (!decide (i = j))) := by unfold cmpD; rw [cmp_ne]; rfl
theorem D_is (x : PyData) : cmpD .is_ x .none = some (.bool (isNone x)) := by unfold cmpD; rw [cmp_is]; rfl
theorem D_isnot (x : PyData) : cmpD .isnot x .none = some (.bool (!isNone x)) := by unfold cmpD; rw [cmp_isnot]; rfl
theorem D_of {o : C2} {x y : PyData} {b : Bool} (h : cmpop o x y = some b) : cmpD o x y = some (.bool b) := by unfold cmpD; rw [h]; rfl
end In
namespace In
open PySem
/-! ### rows of good data -/
theorem gd_z {e m : Nat} : ∀ y ∈ ([] : List PyData), Gd y e m := fun _ h => by cases h
theorem gd_c {x : PyData} {ys : List PyData} {e m : Nat} (h : Gd x e m) (h2 : ∀ y ∈ ys, Gd y e m) : ∀ y ∈ x :: ys, Gd y e m := fun y hy => by
  rcases List.mem_cons.mp hy with rfl | hy
  · exact h
  · exact h2 y hy
theorem gd_mp {α : Type} {l : List α} {f : α → PyData} {e m : Nat} (h : ∀ a ∈ l, Gd (f a) e m) : ∀ y ∈ l.map f, Gd y e m := fun y hy => by
  obtain ⟨a, ha, rfl⟩ := List.mem_map.mp hy
  exact h a ha
theorem gd_in {i : Int} (h : -1000000000000 ≤ i ∧ i ≤ 1000000000000) {e m : Nat} (hm : 40 ≤ m) : Gd (.int i) e m := (gd_int i (by omega)).up (Nat.zero_le _) hm
theorem gd_l {xs : List PyData} {e m e' m' : Nat} (h : ∀ x ∈ xs, Gd x e m) (h1 : e + 1 ≤ e') (h2 : xs.length * (m + 2) + 3 ≤ m') : Gd (.list xs) e' m' := (gd_lst h).up h1 h2
theorem gd_t {xs : List PyData} {e m e' m' : Nat} (h : ∀ x ∈ xs, Gd x e m) (h1 : e + 1 ≤ e') (h2 : xs.length * (m + 2) + 3 ≤ m') : Gd (.tuple xs) e' m' := (gd_tup h).up h1 h2
theorem D_neG {d : PyData} {e m : Nat} (h : Gd d e m) (h1 : e ≤ 64) : cmpD .ne d d = some (.bool false) := by
  have ok : eqOk d = true := by
    show (d.canLay0 && decide (d.depth ≤ 64)) = true
    rw [h.lay, Bool.true_and]
    exact decide_eq_true (Nat.le_trans h.dep h1)
  refine D_of ?_
  show (if (eqOk d && eqOk d) = true then some (!PyData.eqv d d) else none) = _
  rw [ok, SeqAt.eqv_refl d h.lay]
  rfl
theorem D_eqG {d : PyData} {e m : Nat} (h : Gd d e m) (h1 : e ≤ 64) : cmpD .eq d d = some (.bool true) := D_of (gd_eq h h1)
theorem D_neS {d : PyData} {e m : Nat} (h : Gd d e m) : cmpD .ne (.str d.shown) (.str d.shown) = some (.bool false) := D_of (ne_repr h)
/-- the same text twice -/
theorem VB.same {Q : Vl → Sto → Prop} {S : Sto} {d : PyData} {e m : Nat} (h : Gd d e m) (q : Q (.d (.bool false)) S) : VB (cmpD .ne) (.d (.str d.shown)) (.d (.str d.shown)) S Q := VB.d (D_neS h) q
theorem V1.rep {Q : Vl → Sto → Prop} {S : Sto} {d : PyData} {e m : Nat} (h : Gd d e m) (h1 : e ≤ 64) (h2 : m ≤ cap) (q : Q (.d (.str d.shown)) S) : V1 (u1 .repr) (.d d) S Q := V1.d (gd_repr h h1 h2) q
theorem eqOk_G {d : PyData} {e m : Nat} (h : Gd d e m) (h1 : e ≤ 64) : eqOk d = true := by
  show (d.canLay0 && decide (d.depth ≤ 64)) = true
  rw [h.lay, Bool.true_and]
  exact decide_eq_true (Nat.le_trans h.dep h1)
end In
namespace In
open PySem
theorem VB.cat {Q : Vl → Sto → Prop} {S : Sto} {xs ys : List PyData} (h : xs.length + ys.length ≤ cap) (q : Q (.d (.list (xs ++ ys))) S) : VB (binop .add) (.d (.list xs)) (.d (.list ys)) S Q := VB.d (bin_cat xs ys h) q
theorem VB.catT {Q : Vl → Sto → Prop} {S : Sto} {xs ys : List PyData} (h : xs.length + ys.length ≤ cap) (q : Q (.d (.tuple (xs ++ ys))) S) : VB (binop .add) (.d (.tuple xs)) (.d (.tuple ys)) S Q := VB.d (bin_catT xs ys h) q
end In
namespace In
open PySem
theorem zw_call0 {F : Fns} {ρ : Env} {S : Sto} {Q : Vl → Sto → Prop} {X : Str → PyData → Sto → Prop} {f : Nat} {es : Es} (h : Run (evs F es ρ S) (fun vs S1 => Run (F f vs S1) (fun x S2 => Q (.d x) S2) X) X) : Run (ev F (.call f es []) ρ S) Q X :=
  zw_call (h.mono (fun vs S1 h => by rw [List.map_nil, List.append_nil]; exact h) fun _ _ _ x => x)
end In
namespace In
open PySem
theorem if_t {A B : Prop} (a : A) : (true = true → A) ∧ (true = false → B) := ⟨fun _ => a, fun h => by cases h⟩
theorem if_f {A B : Prop} (b : B) : (false = true → A) ∧ (false = false → B) := ⟨fun h => (by cases h), fun _ => b⟩
theorem if_nt {A B : Prop} (b : B) : ((!true) = true → A) ∧ ((!true) = false → B) := if_f b
theorem if_nf {A B : Prop} (a : A) : ((!false) = true → A) ∧ ((!false) = false → B) := if_t a
theorem ch_k {A B : Prop} {b : Bool} (h : (b = true → A) ∧ (b = false → B)) : ((Vl.d (.bool b) = .d (.bool true)) → A) ∧ ((Vl.d (.bool b) = .d (.bool false)) → B) := ⟨fun e => h.1 (by cases e; rfl), fun e => h.2 (by cases e; rfl)⟩
theorem pt2 {F : Fns} {W : Nat} {cs : Cs} {ρ : Env} {S : Sto} {Q : Fl → Sto → Prop} {X : Str → PyData → Sto → Prop} {i j : Nat} {x y : PyData} (q : Run (xs F W cs ((ρ.set i (some (.d x))).set j (some (.d y))) S) Q X) : ∃ ρ', put (.tp (.cons (.nm i) (.cons (.nm j) .nil))) (.tuple [x, y]) ρ = some ρ' ∧ Run (xs F W cs ρ' S) Q X := ⟨_, rfl, q⟩
theorem pt3 {F : Fns} {W : Nat} {cs : Cs} {ρ : Env} {S : Sto} {Q : Fl → Sto → Prop} {X : Str → PyData → Sto → Prop} {i j k : Nat} {x y z : PyData} (q : Run (xs F W cs (((ρ.set i (some (.d x))).set j (some (.d y))).set k (some (.d z))) S) Q X) : ∃ ρ', put (.tp (.cons (.nm i) (.cons (.nm j) (.cons (.nm k) .nil)))) (.tuple [x, y, z]) ρ = some ρ' ∧ Run (xs F W cs ρ' S) Q X := ⟨_, rfl, q⟩
end In
namespace In
open PySem
theorem ex_i {i : Int} {P : Int → Prop} (q : P i) : ∃ j, Vl.d (.int i) = .d (.int j) ∧ P j := ⟨i, rfl, q⟩
theorem V1.sl {Q : Vl → Sto → Prop} {S : Sto} {lo hi : Option Int} {x y : PyData} (h : slice x lo hi = some y) (q : Q (.d y) S) : V1 (sliceD lo hi) (.d x) S Q := V1.d h q
end In
namespace In
open PySem
/-- items that move the store, over what is not known beforehand -/
theorem zw_lcE {F : Fns} {ρ : Env} {S : Sto} {Q : Vl → Sto → Prop} {X : Str → PyData → Sto → Prop} {α : Type} {ws : List Nat} {t : T} {it : It} {e : E} (g : α → PyData) (J : List α → List PyData → Sto → Prop) (hit : Run (evI F it ρ S) (fun q S1 => ∃ l, q = (l.map g, []) ∧ l.length ≤ cap ∧ J l [] S1) nX)
    (step : ∀ a l acc S, J (a :: l) acc S → ∃ ρ', put t (g a) (wipe ρ ws) = some ρ' ∧ Run (ev F e ρ' S) (fun v S2 => ∃ y, v = .d y ∧ J l (acc ++ [y]) S2) nX) (q : ∀ ys S', J [] ys S' → Q (.d (.list ys)) S') : Run (ev F (.lc ws t it .nil e) ρ S) Q X := by
  obtain ⟨u, S1, hr, l, rfl, hl, h0⟩ := hit.get
  obtain ⟨ys, S', e, hJ⟩ := ev_lcI (F := F) (ws := ws) (t := t) (it := it) (e := e) g l J hr hl h0 fun a l acc S h => by
    obtain ⟨ρ', h1, h2⟩ := step a l acc S h
    obtain ⟨v, S2, hv, y, rfl, h3⟩ := h2.get
    exact ⟨ρ', y, S2, h1, hv, h3⟩
  exact Run.of e (q ys S' hJ)
end In
namespace In
open PySem
theorem ex_l {xs : List PyData} {P : List PyData → Prop} (q : P xs) : ∃ j, Vl.d (.list xs) = .d (.list j) ∧ P j := ⟨xs, rfl, q⟩
end In
namespace In
open PySem
theorem Run.seq {α : Type} {r : R α} {a : α} {S0 : Sto} {Q : α → Sto → Prop} {X : Str → PyData → Sto → Prop} (h : Run r (fun v S' => v = a ∧ S' = S0) nX) (q : Q a S0) : Run r Q X := Run.of h.eq q
end In
namespace In
open PySem
/-- an expression that leaves the store, told beforehand -/
theorem zw_is {F : Fns} {ρ : Env} {S : Sto} {e : E} {Q : Vl → Sto → Prop} {X : Str → PyData → Sto → Prop} (a : Vl) (h : Run (ev F e ρ S) (fun v S' => v = a ∧ S' = S) nX) (q : Q a S) : Run (ev F e ρ S) Q X := Run.seq h q
end In
namespace In
open PySem
/-- a statement by what it leaves -/
theorem zs_mid {F : Fns} {W : Nat} {ρ : Env} {S : Sto} {Q : Fl → Sto → Prop} {X : Str → PyData → Sto → Prop} {c : C} {cs : Cs} (J : Env → Sto → Prop) (h : Run (xs F W (.cons c .nil) ρ S) (fun fl S1 => ∃ ρ1, fl = .nx ρ1 ∧ J ρ1 S1) X) (after : ∀ ρ1 S1, J ρ1 S1 → Run (xs F W cs ρ1 S1) Q X) : Run (xs F W (.cons c cs) ρ S) Q X := by
  refine Run.x1 ?_
  rw [xs_cons] at h
  cases hx : x1 F W c ρ S with
  | no => rw [hx] at h; rw [R.bind_no, Run.n] at h; exact h.elim
  | ex a x S1 => rw [hx] at h; rw [R.bind_ex, Run.x] at h; exact Run.ofX rfl h
  | ok fl S1 =>
    rw [hx] at h
    rw [R.bind_ok] at h
    refine Run.of rfl ?_
    cases fl with
    | nx ρ1 =>
      rw [nxt_nx, xs_nil, Run.k] at h
      obtain ⟨ρ2, e, q⟩ := h
      cases e
      exact after ρ1 S1 q
    | rt x => rw [nxt_rt, Run.k] at h; obtain ⟨_, e, _⟩ := h; cases e
    | bk ρ1 => rw [nxt_bk, Run.k] at h; obtain ⟨_, e, _⟩ := h; cases e
    | ct ρ1 => rw [nxt_ct, Run.k] at h; obtain ⟨_, e, _⟩ := h; cases e
theorem ex_nx {ρ : Env} {S : Sto} {J : Env → Sto → Prop} (q : J ρ S) : ∃ ρ1, Fl.nx ρ = .nx ρ1 ∧ J ρ1 S := ⟨ρ, rfl, q⟩
end In
/-! part M29w -/
set_option linter.all false
set_option maxRecDepth 100000
set_option maxHeartbeats 2000000
namespace M29
open PySem In Tx P29
local macro_rules | `(tactic| fail "n") => `(tactic| simp only [wipe, List.set_cons_succ, List.set_cons_zero, List.map_nil, List.append_nil, List.cons_append, List.nil_append, Option.map_some, Option.map_none, and_true, true_and, List.length_map, List.length_nil])
local macro_rules | `(tactic| fail "s") => `(tactic| first
  | with_reducible refine zw_cst ?_
  | ((with_reducible refine zw_var (v := ?_) ?_ ?_); (rotate_left; exact rfl))
  | with_reducible refine zw_tup ?_
  | with_reducible refine zw_lst ?_
  | with_reducible refine zw_p1 ?_
  | with_reducible refine zw_p0 ?_
  | with_reducible refine zw_e1 ?_
  | with_reducible refine zw_e0 ?_
  | with_reducible refine zw_bin ?_
  | with_reducible refine zw_cmp ?_
  | with_reducible refine zw_ix ?_
  | with_reducible refine zw_u1 ?_
  | with_reducible refine zw_u2 ?_
  | with_reducible refine zw_call0 ?_
  | with_reducible refine zw_call ?_
  | with_reducible refine zw_isi ?_
  | with_reducible refine zw_not ?_
  | with_reducible refine zw_idx ?_
  | with_reducible refine zw_seq ?_
  | with_reducible refine zw_t1 ?_
  | with_reducible refine zw_t0 ?_
  | with_reducible refine SK.d ?_
  | with_reducible refine TK.b ?_
  | ((with_reducible refine TK.d (b := ?_) ?_ ?_); (rotate_left; first | exact rfl | with_reducible assumption))
  | ((with_reducible refine VB.d (z := ?_) ?_ ?_); (rotate_left; first | with_reducible exact bin_add _ _ | with_reducible exact bin_sub _ _ | with_reducible exact ix0 _ _ | with_reducible exact ix1 _ _ _ | with_reducible exact ix2 _ _ _ _ | with_reducible exact lx0 _ _ | with_reducible exact D_lt _ _ | with_reducible exact D_le _ _ | with_reducible exact D_gt _ _ | with_reducible exact D_ge _ _ | with_reducible exact D_eq _ _ | with_reducible exact D_ne _ _ | with_reducible exact D_is _ | with_reducible exact D_isnot _ | with_reducible assumption))
  | ((with_reducible refine V1.d (z := ?_) ?_ ?_); (rotate_left; first | with_reducible exact u1_lenl _ | with_reducible exact u1_lent _ | with_reducible exact u1_tupl _ | with_reducible exact u1_neg _ | with_reducible exact u1_int _ | with_reducible exact u1_listt _ | with_reducible assumption))
  | (with_reducible refine zs_asg ?_)
  | (with_reducible refine zs_asgT ?_)
  | with_reducible refine zs_ret ?_
  | with_reducible refine zs_retN ?_
  | with_reducible refine zs_raise ?_
  | with_reducible refine zs_drop ?_
  | with_reducible refine zs_nil ?_
  | with_reducible refine zs_par ?_
  | with_reducible refine zn_nx ?_
  | with_reducible refine zn_rt ?_
  | with_reducible refine zw_sl ?_
  | with_reducible refine zw_o0 ?_
  | with_reducible refine zw_o1 ?_
  | with_reducible refine zi_e ?_
  | with_reducible refine zi_r1 ?_
  | with_reducible refine zi_r2 ?_
  | with_reducible refine zi_enum ?_
  | with_reducible refine zi_zip ?_
  | with_reducible refine FK.rt ?_
  | with_reducible refine FK.nx ?_
  | with_reducible refine LK.nx ?_
  | with_reducible refine LK.rt ?_
  | with_reducible refine if_t ?_
  | with_reducible refine if_f ?_
  | with_reducible refine if_nt ?_
  | with_reducible refine if_nf ?_
  | with_reducible refine ch_k ?_
  | with_reducible refine pt2 ?_
  | with_reducible refine ex_i ?_
  | with_reducible refine ex_nx ?_
  | with_reducible refine zs_new ?_
  | with_reducible refine ex_l ?_
  | with_reducible refine pt3 ?_
  | fail "c"
  | (with_reducible refine Run.bind ?_))
local macro_rules | `(tactic| fail "b") => `(tactic| first
  | with_reducible refine zs_ite ?_
  | with_reducible refine zw_ite ?_
  | with_reducible refine zw_and ?_
  | with_reducible refine zw_or ?_
  | with_reducible refine zw_ch ?_)
local macro_rules | `(tactic| fail "v") => `(tactic| (repeat fail "s") <;> (try fail "n"))
local macro_rules | `(tactic| fail "w") => `(tactic| (repeat (first | fail "s" | fail "b")) <;> (try fail "n"))
/-! The law's own towns. -/
theorem c_one {k : Nat} {ds : List Int} (hd : nn ds) {p : Int} (hp : 0 ≤ p) {Z : Sto} {rows : List PyData} (hr : rows ≠ []) {Q : PyData → Sto → Prop} {X : Str → PyData → Sto → Prop} (q : ∀ x ∈ rows, Q x (at_ (p + 1) Z)) : In.Run (callAt fns W (k + 3) 32 [.d (.list rows), .d (li ds), .loc 0] (at_ p Z)) Q X := by
  obtain ⟨x, hx, h⟩ := f32 k hd hp hr Z
  exact Run.of h (q x hx)
theorem c_oneI (lo hi : Int) {k : Nat} {ds : List Int} (hd : nn ds) {p : Int} (hp : 0 ≤ p) {Z : Sto} {rows : List PyData} (hr : rows ≠ []) (hall : rows.all (inR lo hi) = true) {Q : PyData → Sto → Prop} {X : Str → PyData → Sto → Prop} (q : ∀ n : Int, lo ≤ n → n ≤ hi → Q (.int n) (at_ (p + 1) Z)) : In.Run (callAt fns W (k + 3) 32 [.d (.list rows), .d (li ds), .loc 0] (at_ p Z)) Q X :=
  c_one hd hp hr fun x hx => by
    have h := List.all_eq_true.mp hall x hx
    cases x with
    | int n =>
      simp only [inR, Bool.and_eq_true, decide_eq_true_eq] at h
      exact q n h.1 h.2
    | _ => cases h
theorem c_take {k : Nat} {ds : List Int} (hd : nn ds) {p many : Int} (hp : 0 ≤ p) (hm : 0 < many) {Z : Sto} {Q : PyData → Sto → Prop} {X : Str → PyData → Sto → Prop} (q : ∀ v : Int, 0 ≤ v → v < many → Q (.int v) (at_ (p + 1) Z)) : In.Run (callAt fns W (k + 2) 31 [.d (li ds), .loc 0, .d (.int many)] (at_ p Z)) Q X := by
  obtain ⟨v, v0, v1, h⟩ := f31 k hd hp hm Z
  exact Run.of h (q v v0 v1)
def OkN (t : Tn) : Prop := ∀ r ∈ t.rs, -200 ≤ r.1 ∧ r.1 ≤ 4000
def clip (o : Int) : Int := let m := if o < 1440 then o else 1440; if m > -1440 then m else -1440
theorem clip_bd (o : Int) : -1440 ≤ clip o ∧ clip o ≤ 1440 := by
  unfold clip
  simp only
  split <;> split <;> omega
theorem asc_zip : ∀ (ws os : List Int) (lo : Option Int), ws.Pairwise (· < ·) → (∀ l, lo = some l → ∀ w ∈ ws, l < w) → Asc lo (ws.zip os)
  | [], _, _, _, _ => trivial
  | _ :: _, [], _, _, _ => trivial
  | w :: ws, o :: os, lo, h, hl => by
    obtain ⟨h1, h2⟩ := List.pairwise_cons.mp h
    exact ⟨fun l e => hl l e w List.mem_cons_self, asc_zip ws os (some w) h2 fun l e x hx => by cases e; exact h1 x hx⟩
theorem f42 (k : Nat) {ds : List Int} (hd : nn ds) {s : Str} (hs : shortS s) (hnm : nameOk s = true) {p : Int} (hp : 0 ≤ p) (Z : Sto) : Ends (fun x S' => ∃ t p', OkT t ∧ OkN t ∧ t.nm = s ∧ 0 ≤ p' ∧ x = tw t ∧ S' = at_ p' Z) (callAt fns W (k + 4) 42 [.d (.str s), .d (li ds), .loc 0] (at_ p Z)) := by
  rw [r_42, b_42]
  refine Run.ends (Run.fn ?_)
  fail "w"
  refine c_oneI 60 1440 hd hp (by simp) rfl fun far far1 far2 => ?_
  fail "w"
  refine c_oneI 1 60 hd (by omega) (by simp) rfl fun step st1 st2 => ?_
  fail "w"
  refine c_oneI 1 9 hd (by omega) (by simp) rfl fun cm cm1 cm2 => ?_
  fail "w"
  refine c_take hd (by omega) (by omega) fun cn cn0 cn1 => ?_
  obtain ⟨cn, rfl⟩ := Int.eq_ofNat_of_zero_le cn0
  fail "w"
  with_reducible refine zw_lcI (List.range cn) (fun (j : Nat) => .int (j : Int)) (fun l acc S => ∃ (ws : List Int) (q : Int), 0 ≤ q ∧ (∀ w ∈ ws, -200 ≤ w ∧ w ≤ 4000) ∧ ws.length + l.length = cn ∧ acc = ws.map (fun w => .tuple [.int w, .int 0]) ∧ S = at_ q Z) ?_ (by simp only [cap, List.length_range]; omega) ?_ ?_
  · fail "w"
    exact ⟨cn, rfl, by omega, rfl, [], p + 1 + 1 + 1 + 1, by omega, by simp, by simp, rfl, rfl⟩
  · rintro j l acc S ⟨ws, q, hq, hw, hl, rfl, rfl⟩
    refine ⟨_, rfl, ?_⟩
    fail "w"
    refine c_oneI 500 4001 hd hq (by simp) rfl fun m m1 m2 => ?_
    fail "w"
    refine c_take hd (by omega) (by omega) fun v v0 v1 => ?_
    fail "w"
    refine ⟨_, rfl, ws ++ [v - 200], q + 1 + 1, by omega, ?_, ?_, by rw [List.map_append]; rfl, rfl⟩
    · intro w hw'
      rcases List.mem_append.mp hw' with hw' | hw'
      · exact hw w hw'
      · rw [List.mem_singleton.mp hw']; omega
    · simp only [List.length_append, List.length_cons, List.length_nil] at hl ⊢
      omega
  rintro _ _ ⟨ws, q6, hq6, hws, hwl, rfl, rfl⟩
  refine V1.d (u1_dict (.int 0) _) (V1.d (u1_sortd (.int 0) _) ?_)
  have hsl := srt_len ws
  have hsm : ∀ w ∈ srt ws, -200 ≤ w ∧ w ≤ 4000 := fun w hw => hws w ((srt_mem ws w).mp hw)
  have hsp : (srt ws).Pairwise (· < ·) := srt_pw ws
  simp only [List.length_nil, Nat.add_zero] at hwl
  have hsl8 : (srt ws).length ≤ 8 := by omega
  clear hws
  generalize srt ws = ss at *
  fail "w"
  -- the offsets
  with_reducible refine zw_lcI (List.range (ss.length + 1)) (fun (j : Nat) => .int (j : Int)) (fun l acc S => ∃ (os : List Int) (q : Int), 0 ≤ q ∧ os.length + l.length = ss.length + 1 ∧ acc = iL os ∧ S = at_ q Z) ?_ (by simp only [cap, List.length_range]; omega) ?_ ?_
  · fail "w"
    exact ⟨ss.length + 1, rfl, by omega, rfl, [], q6, hq6, by simp, rfl, rfl⟩
  · rintro j l acc S ⟨os, q, hq, hl, rfl, rfl⟩
    refine ⟨_, rfl, ?_⟩
    fail "w"
    refine VB.d (mul_l 2 far (by decide)) ?_
    fail "w"
    refine c_take hd (by omega) (by omega) fun v v0 v1 => ?_
    fail "w"
    have hf : binop .fdiv (.int (v - far)) (.int step) = some (.int ((v - far).fdiv step)) := by
      show (if (decide (step ≠ 0) && decide (step.natAbs < 1073741824)) = true then some (PyData.int ((v - far).fdiv step)) else none) = _
      rw [if_pos (by simp; omega)]
    have hsm : small step = true := by simp [small]; omega
    refine VB.d hf (VB.d (mul_l step _ hsm) ⟨_, rfl, os ++ [step * (v - far).fdiv step], q + 1, by omega, ?_, by simp only [iL, List.map_append, List.map_cons, List.map_nil], rfl⟩)
    simp only [List.length_append, List.length_cons, List.length_nil] at hl ⊢
    omega
  rintro _ _ ⟨os, q7, hq7, hol, rfl, rfl⟩
  simp only [List.length_nil, Nat.add_zero] at hol
  fail "w"
  with_reducible refine zw_lc os .int (fun o => .int (clip o)) ?_ (by simp only [cap]; omega) (fun o ho => ⟨_, put_nm _ _ _, ?_⟩) ?_
  · fail "w"
    exact ⟨_, rfl, rfl⟩
  · fail "w"
    exact VB.d rfl (VB.d rfl ⟨rfl, rfl⟩)
  have ecl : PyData.list (os.map fun o => .int (clip o)) = .list (iL (os.map clip)) := by
    simp only [iL, List.map_map]; rfl
  rw [ecl]
  have hcb : ∀ o ∈ os.map clip, -1440 ≤ o ∧ o ≤ 1440 := fun o ho => by
    obtain ⟨o', _, rfl⟩ := List.mem_map.mp ho
    exact clip_bd o'
  have hcl : (os.map clip).length = ss.length + 1 := by rw [List.length_map]; exact hol
  generalize os.map clip = cl at *
  cases cl with
  | nil => simp at hcl
  | cons o0 cr =>
    have hcr : cr.length = ss.length := by simpa using hcl
    let t : Tn := ⟨s, o0, ss.zip cr⟩
    have hzl : (ss.zip cr).length = ss.length := by rw [List.length_zip, hcr, Nat.min_self]
    have ht : OkT t := ⟨hs, hnm, (hcb o0 List.mem_cons_self).1, (hcb o0 List.mem_cons_self).2, by show (ss.zip cr).length ≤ 8; omega, fun r hr => by
      obtain ⟨h1, h2⟩ := List.of_mem_zip hr
      have := hsm _ h1
      have := hcb _ (List.mem_cons_of_mem _ h2)
      omega, asc_zip ss cr none hsp fun l e => by cases e⟩
    fail "w"
    refine VB.d (show _ = some (.int o0) from lx0 _ _) ?_
    fail "w"
    with_reducible refine zw_lc (List.range ss.length) (fun (j : Nat) => .int (j : Int)) (fun j => rw_ (ss.getD j 0, cr.getD j 0)) ?_ (by simp only [cap, List.length_range]; omega) (fun j hj => ⟨_, put_nm _ _ _, ?_⟩) ?_
    · fail "w"
      exact ⟨ss.length, rfl, by omega, rfl⟩
    · have hjl := List.mem_range.mp hj
      have i1 : index (.list (ss.map .int)) (.int (j : Int)) = some (.int (ss.getD j 0)) := (index_nat (by rw [List.getElem?_map, List.getElem?_eq_getElem hjl, List.getD_eq_getElem?_getD, List.getElem?_eq_getElem hjl]; rfl)).1
      have i2 : index (.list (iL (o0 :: cr))) (.int ((j : Int) + 1)) = some (.int (cr.getD j 0)) := ix_int (i := j + 1) (by omega) (by rw [List.getElem?_map, List.getElem?_cons_succ, List.getElem?_eq_getElem (by omega), List.getD_eq_getElem?_getD, List.getElem?_eq_getElem (by omega)]; rfl)
      fail "w"
      rfl
    have er : ((List.range ss.length).map fun j => rw_ (ss.getD j 0, cr.getD j 0)) = (ss.zip cr).map rw_ := by
      refine List.ext_getElem (by simp [hcr]) fun i h1 h2 => ?_
      have hi : i < ss.length := by simpa using h1
      rw [List.getElem_map, List.getElem_map, List.getElem_range, List.getElem_zip]
      congr 2
      · rw [List.getD_eq_getElem?_getD, List.getElem?_eq_getElem hi]; rfl
      · rw [List.getD_eq_getElem?_getD, List.getElem?_eq_getElem (by omega)]; rfl
    rw [er]
    fail "w"
    exact ⟨t, q7, ht, fun r hr => hsm _ (List.of_mem_zip hr).1, rfl, hq7, rfl, by simp⟩
end M29
/-! part M29x -/
set_option linter.all false
set_option maxRecDepth 100000
set_option maxHeartbeats 2000000
namespace M29
open PySem In Tx P29
local macro_rules | `(tactic| fail "n") => `(tactic| simp only [wipe, List.set_cons_succ, List.set_cons_zero, List.map_nil, List.append_nil, List.cons_append, List.nil_append, Option.map_some, Option.map_none, and_true, true_and, List.length_map, List.length_nil])
local macro_rules | `(tactic| fail "s") => `(tactic| first
  | with_reducible refine zw_cst ?_
  | ((with_reducible refine zw_var (v := ?_) ?_ ?_); (rotate_left; exact rfl))
  | with_reducible refine zw_tup ?_
  | with_reducible refine zw_lst ?_
  | with_reducible refine zw_p1 ?_
  | with_reducible refine zw_p0 ?_
  | with_reducible refine zw_e1 ?_
  | with_reducible refine zw_e0 ?_
  | with_reducible refine zw_bin ?_
  | with_reducible refine zw_cmp ?_
  | with_reducible refine zw_ix ?_
  | with_reducible refine zw_u1 ?_
  | with_reducible refine zw_u2 ?_
  | with_reducible refine zw_call0 ?_
  | with_reducible refine zw_call ?_
  | with_reducible refine zw_isi ?_
  | with_reducible refine zw_not ?_
  | with_reducible refine zw_idx ?_
  | with_reducible refine zw_seq ?_
  | with_reducible refine zw_t1 ?_
  | with_reducible refine zw_t0 ?_
  | with_reducible refine SK.d ?_
  | with_reducible refine TK.b ?_
  | ((with_reducible refine TK.d (b := ?_) ?_ ?_); (rotate_left; first | exact rfl | with_reducible assumption))
  | ((with_reducible refine VB.d (z := ?_) ?_ ?_); (rotate_left; first | with_reducible exact bin_add _ _ | with_reducible exact bin_sub _ _ | with_reducible exact ix0 _ _ | with_reducible exact ix1 _ _ _ | with_reducible exact ix2 _ _ _ _ | with_reducible exact lx0 _ _ | with_reducible exact D_lt _ _ | with_reducible exact D_le _ _ | with_reducible exact D_gt _ _ | with_reducible exact D_ge _ _ | with_reducible exact D_eq _ _ | with_reducible exact D_ne _ _ | with_reducible exact D_is _ | with_reducible exact D_isnot _ | with_reducible assumption))
  | ((with_reducible refine V1.d (z := ?_) ?_ ?_); (rotate_left; first | with_reducible exact u1_lenl _ | with_reducible exact u1_lent _ | with_reducible exact u1_tupl _ | with_reducible exact u1_neg _ | with_reducible exact u1_int _ | with_reducible exact u1_listt _ | with_reducible assumption))
  | (with_reducible refine zs_asg ?_)
  | (with_reducible refine zs_asgT ?_)
  | with_reducible refine zs_ret ?_
  | with_reducible refine zs_retN ?_
  | with_reducible refine zs_raise ?_
  | with_reducible refine zs_drop ?_
  | with_reducible refine zs_nil ?_
  | with_reducible refine zs_par ?_
  | with_reducible refine zn_nx ?_
  | with_reducible refine zn_rt ?_
  | with_reducible refine zw_sl ?_
  | with_reducible refine zw_o0 ?_
  | with_reducible refine zw_o1 ?_
  | with_reducible refine zi_e ?_
  | with_reducible refine zi_r1 ?_
  | with_reducible refine zi_r2 ?_
  | with_reducible refine zi_enum ?_
  | with_reducible refine zi_zip ?_
  | with_reducible refine FK.rt ?_
  | with_reducible refine FK.nx ?_
  | with_reducible refine LK.nx ?_
  | with_reducible refine LK.rt ?_
  | with_reducible refine if_t ?_
  | with_reducible refine if_f ?_
  | with_reducible refine if_nt ?_
  | with_reducible refine if_nf ?_
  | with_reducible refine ch_k ?_
  | with_reducible refine pt2 ?_
  | with_reducible refine ex_i ?_
  | with_reducible refine ex_nx ?_
  | with_reducible refine zs_new ?_
  | with_reducible refine ex_l ?_
  | with_reducible refine pt3 ?_
  | fail "c"
  | (with_reducible refine Run.bind ?_))
local macro_rules | `(tactic| fail "b") => `(tactic| first
  | with_reducible refine zs_ite ?_
  | with_reducible refine zw_ite ?_
  | with_reducible refine zw_and ?_
  | with_reducible refine zw_or ?_
  | with_reducible refine zw_ch ?_)
local macro_rules | `(tactic| fail "v") => `(tactic| (repeat fail "s") <;> (try fail "n"))
local macro_rules | `(tactic| fail "w") => `(tactic| (repeat (first | fail "s" | fail "b")) <;> (try fail "n"))
/-! What is told of one clock. -/
theorem c_tk {r : R PyData} {x : PyData} {S : Sto} {Q : PyData → Sto → Prop} {X : Str → PyData → Sto → Prop} (h : r = .ok x (S.take S.length)) (q : Q x S) : In.Run r Q X := Run.of (tk h) q
theorem tw2 (t : Tn) : index (tw t) (.int 2) = some (.tuple (t.rs.map rw_)) := ix2 _ _ _ _
theorem rw0 (r : Rw) : index (rw_ r) (.int 0) = some (.int r.1) := ix0 _ _
theorem rw1 (r : Rw) : index (rw_ r) (.int 1) = some (.int r.2) := ix1 _ _ _
theorem off_bd {t : Tn} (h : OkT t) (m : Int) : -1440 ≤ tof t m ∧ tof t m ≤ 1440 := by
  have key : ∀ (rs : List Rw) (o : Int), -1440 ≤ o → o ≤ 1440 → (∀ r ∈ rs, -1440 ≤ r.2 ∧ r.2 ≤ 1440) → -1440 ≤ off o rs m ∧ off o rs m ≤ 1440 := by
    intro rs
    induction rs with
    | nil => intro o h1 h2 _; exact ⟨h1, h2⟩
    | cons r rs ih =>
      intro o h1 h2 h3
      rw [off_cons]
      have := h3 r List.mem_cons_self
      split
      · exact ih _ this.1 this.2 fun x hx => h3 x (List.mem_cons_of_mem _ hx)
      · exact ih _ h1 h2 fun x hx => h3 x (List.mem_cons_of_mem _ hx)
  exact key _ _ h.o1 h.o2 fun r hr => (h.rws r hr).2
theorem c_33 {k : Nat} {t : Tn} {m : Int} {S : Sto} {Q : PyData → Sto → Prop} {X : Str → PyData → Sto → Prop} (q : Q (.int (tof t m)) S) : In.Run (callAt fns W (k + 1) 33 [.d (tw t), .d (.int m)] S) Q X := Run.of (f33 k t m S) q
theorem c_34 {k : Nat} {t : Tn} (h : OkT t) {m : Int} {S : Sto} {Q : PyData → Sto → Prop} {X : Str → PyData → Sto → Prop} (q : Q (.list (iL (minsL t m))) S) : In.Run (callAt fns W (k + 2) 34 [.d (tw t), .d (.int m)] S) Q X := Run.of (f34 k h m S) q
local macro_rules | `(tactic| fail "c") => `(tactic| first
  | with_reducible refine c_33 ?_
  | (with_reducible refine c_34 ?_ ?_; with_reducible assumption)
  | with_reducible refine VB.d (tw2 _) ?_
  | with_reducible refine VB.d (rw0 _) ?_)
theorem runL_bd (g : Int → Int) (b : Int) : ∀ (n : Nat) (s : Sp), s ∈ runL g b n → (b ≤ s.1 ∧ s.1 ≤ b + n) ∧ (b ≤ s.2.1 ∧ s.2.1 ≤ b + n) ∧ ∃ x, s.2.2 = g x
  | 0, s, h => by cases h
  | n + 1, s, h => by
    have ih := runL_bd g b n
    have e : runL g b (n + 1) = stepL (runL g b n) (b + n) (g (b + n)) := rfl
    rw [e] at h
    have up : ∀ s ∈ runL g b n, (b ≤ s.1 ∧ s.1 ≤ b + (n + 1 : Nat)) ∧ (b ≤ s.2.1 ∧ s.2.1 ≤ b + (n + 1 : Nat)) ∧ ∃ x, s.2.2 = g x := fun s h => by
      obtain ⟨h1, h2, h3⟩ := ih s h
      exact ⟨by omega, by omega, h3⟩
    have nw : (b ≤ b + (n : Int) ∧ b + (n : Int) ≤ b + (n + 1 : Nat)) ∧ (b ≤ b + (n : Int) + 1 ∧ b + (n : Int) + 1 ≤ b + (n + 1 : Nat)) ∧ ∃ x, g (b + n) = g x := ⟨by omega, by omega, _, rfl⟩
    unfold stepL at h
    split at h
    · exact up s h
    · split at h
      · rename_i l hl
        split at h
        · rcases List.mem_append.mp h with h | h
          · exact up s (List.dropLast_subset _ h)
          · obtain ⟨h1, h2, h3⟩ := up l (List.mem_of_getLast? hl)
            rw [List.mem_singleton.mp h]
            exact ⟨h1, nw.2.1, _, rfl⟩
        · rcases List.mem_append.mp h with h | h
          · exact up s h
          · rw [List.mem_singleton.mp h]; exact nw
      · rcases List.mem_append.mp h with h | h
        · exact up s h
        · rw [List.mem_singleton.mp h]; exact nw
theorem jumpsL_bd : ∀ (rs : List Rw) (b : Int), (∀ r ∈ rs, (-2000000 ≤ r.1 ∧ r.1 ≤ 2000000) ∧ -1440 ≤ r.2 ∧ r.2 ≤ 1440) → -1440 ≤ b ∧ b ≤ 1440 → ∀ s ∈ jumpsL b rs, (-3000000 ≤ s.1 ∧ s.1 ≤ 3000000) ∧ (-3000000 ≤ s.2.1 ∧ s.2.1 ≤ 3000000) ∧ (-3000000 ≤ s.2.2 ∧ s.2.2 ≤ 3000000)
  | [], b, _, _, s, h => by cases h
  | r :: rs, b, h, hb, s, hs => by
    have h0 := h r List.mem_cons_self
    rw [jumpsL_cons] at hs
    rcases List.mem_append.mp hs with hs | hs
    · split at hs
      · cases hs
      · rw [List.mem_singleton.mp hs]
        simp only
        omega
    · exact jumpsL_bd rs r.2 (fun x hx => h x (List.mem_cons_of_mem _ hx)) h0.2 s hs
theorem dawn_bd {t : Tn} (h : OkT t) {D x : Int} (hx : Least (Fit D t.o t.rs none) x) : (D - 1440 ≤ x ∧ x ≤ D + 1440) ∨ (-2000000 ≤ x ∧ x ≤ 2000000) := by
  rcases least_try hx with ⟨f, hf, rfl⟩ | ⟨r, hr, rfl⟩
  · left
    rcases List.mem_cons.mp hf with rfl | hf
    · have := h.o1; have := h.o2; omega
    · obtain ⟨r, hr, rfl⟩ := List.mem_map.mp hf
      have := (h.rws r hr).2
      omega
  · exact .inr (h.rws r hr).1
theorem gd_sp {s : Sp} (h1 : -3000000 ≤ s.1 ∧ s.1 ≤ 3000000) (h2 : -3000000 ≤ s.2.1 ∧ s.2.1 ≤ 3000000) (h3 : -3000000 ≤ s.2.2 ∧ s.2.2 ≤ 3000000) : Gd (sp s) 1 140 :=
  gd_t (e := 0) (m := 40) (gd_c (gd_in (by omega) (by omega)) (gd_c (gd_in (by omega) (by omega)) (gd_c (gd_in (by omega) (by omega)) gd_z))) (by omega) (by simp)
theorem mins_bd {t : Tn} (h : OkT t) {L m : Int} (hm : m ∈ minsL t L) : L - 1440 ≤ m ∧ m ≤ L + 1440 := by
  have h1 := ((minL_mem L t.rs none t.o m h.asc).mp hm).2
  have h2 := off_bd h m
  unfold tof at h2
  omega
theorem gd_iL {l : List Int} {n : Nat} (hl : l.length ≤ n) (h : ∀ x ∈ l, -1000000000000 ≤ x ∧ x ≤ 1000000000000) {m : Nat} (hm : n * 42 + 3 ≤ m) : Gd (.tuple (iL l)) 1 m := by
  refine gd_t (e := 0) (m := 40) (gd_mp fun a ha => gd_in (h a ha) (Nat.le_refl _)) (by omega) ?_
  rw [List.length_map]
  have := Nat.mul_le_mul_right 42 hl
  omega
def badTs (nm : Str) (o : Int) (y : PyData) : List PyData := [.none, .int 5, .tuple [.str nm, .int o], .tuple [.str "1", .int 0, .tuple []], .tuple [.str "a", .int (1440 + 1), .tuple []], .tuple [.str "a", .int 0, .tuple [.tuple [.int 5, .int 0], .tuple [.int 5, .int 1]]], .tuple [.str "a", .int 0, .tuple [.tuple [.int 5, .int 0], .tuple [.int 4, .int 1]]], .tuple [.str "a", .int 0, .tuple [.tuple [.int 5]]], .tuple [.str "a", .bool true, .tuple []], .tuple [.str "a", .int 0, .tuple [.tuple [.int (2000000 + 1), .int 0]]], .tuple [.str "a", .int 0, y]]
theorem short_s {s : Str} (h1 : s.length ≤ 100) (h2 : (chars s).all (fun c => eqOk (.str c)) = true) : shortS s := ⟨h1, fun c hc => List.all_eq_true.mp h2 c hc⟩
theorem bad_ts {nm : Str} (hs : shortS nm) (o : Int) (x : PyData) (hx : x ∈ badTs nm o (.tuple ((List.range 9).map fun (j : Nat) => .tuple [.int (j : Int), .int 0]))) : shortT x ∧ isTn x = false := by
  have s1 : shortS "1" := short_s (by decide +kernel) (by decide +kernel)
  have sa : shortS "a" := short_s (by decide +kernel) (by decide +kernel)
  have n1 : nameOk "1" = false := by decide +kernel
  simp only [badTs, List.mem_cons, List.not_mem_nil, or_false] at hx
  rcases hx with rfl | rfl | rfl | rfl | rfl | rfl | rfl | rfl | rfl | rfl | rfl
  · exact ⟨trivial, rfl⟩
  · exact ⟨trivial, rfl⟩
  · exact ⟨hs, rfl⟩
  · exact ⟨s1, by simp [isTn, isNm, n1]⟩
  · exact ⟨sa, by simp [isTn, inR]⟩
  · exact ⟨sa, by simp [isTn, ascB, prsD, whn]⟩
  · exact ⟨sa, by simp [isTn, ascB, prsD, whn]⟩
  · exact ⟨sa, by simp [isTn, isRw]⟩
  · exact ⟨sa, by simp [isTn, inR]⟩
  · exact ⟨sa, by simp [isTn, isRw, inR]⟩
  · exact ⟨sa, by simp [isTn]⟩
theorem c_oneP (P : PyData → Prop) {k : Nat} {ds : List Int} (hd : nn ds) {p : Int} (hp : 0 ≤ p) {Z : Sto} {rows : List PyData} (hr : rows ≠ []) (hall : ∀ x ∈ rows, P x) {Q : PyData → Sto → Prop} {X : Str → PyData → Sto → Prop} (q : ∀ x, P x → Q x (at_ (p + 1) Z)) : In.Run (callAt fns W (k + 3) 32 [.d (.list rows), .d (li ds), .loc 0] (at_ p Z)) Q X :=
  c_one hd hp hr fun x hx => q x (hall x hx)
theorem mul_l1 (x : PyData) : binop .mul (.list [x]) (.int 8) = some (.list [x, x, x, x, x, x, x, x]) := by
  show (if decide (-(2 ^ 62) ≤ (8 : Int)) && decide ((8 : Int) < 2 ^ 62) && fits ([x].length * (8 : Int).toNat) then some (PyData.list (List.replicate (8 : Int).toNat [x]).flatten) else none) = _
  rw [show fits ([x].length * (8 : Int).toNat) = true from rfl, if_pos (by decide)]
  rfl
theorem gd_arg {r : Str} (h1 : (PyData.str r).canLay0 = true) (h2 : (reprText r).length ≤ 40) (h3 : PyData.strOk (reprText r) = true) : Gd (arg (.str r)) 1 100 :=
  gd_t (e := 0) (m := 40) (gd_c (gd_str _ (by decide +kernel) (by decide +kernel) (by decide +kernel)) (gd_c (gd_str _ h1 h2 h3) gd_z)) (by omega) (by simp)
theorem f43 (k : Nat) {ds : List Int} (hd : nn ds) {t u : Tn} (ht : OkT t) (hu : OkT u) (hn : OkN t) {p : Int} (hp : 0 ≤ p) (Z : Sto) : Ends (fun x S' => ∃ p', 0 ≤ p' ∧ x = .bool true ∧ S' = at_ p' Z) (callAt fns W (k + 8) 43 [.d (tw t), .d (tw u), .d (li ds), .loc 0] (at_ p Z)) := by
  rw [r_43, b_43]
  refine Run.ends (Run.fn ?_)
  have hl8 := ht.len
  fail "w"
  with_reducible refine zw_lc t.rs rw_ (fun r => .int r.1) ?_ (by simp only [cap]; omega) (fun o ho => ⟨_, put_nm _ _ _, ?_⟩) ?_
  · fail "w"
    exact ⟨_, rfl, rfl⟩
  · fail "w"
  with_reducible refine VB.cat (by simp only [List.length_map, List.length_cons, List.length_nil, cap]; omega) ?_
  fail "w"
  with_reducible refine c_oneI (-200) 4000 hd hp (by simp) ?_ fun m0 m01 m02 => ?_
  · rw [List.all_eq_true]
    intro x hx
    rcases List.mem_cons.mp hx with rfl | hx
    · rfl
    rcases List.mem_cons.mp hx with rfl | hx
    · rfl
    obtain ⟨r, hr, rfl⟩ := List.mem_map.mp hx
    have := hn r hr
    simp [inR, this.1, this.2]
  fail "w"
  with_reducible refine c_take hd (by omega) (by omega) fun m1 m10 m11 => ?_
  fail "w"
  have hm : -202 ≤ m0 + m1 - 2 ∧ m0 + m1 - 2 ≤ 4002 := by omega
  generalize m0 + m1 - 2 = mi at *
  with_reducible refine c_take hd (by omega) (by omega) fun m2 m20 m21 => ?_
  fail "w"
  have o1 := off_bd ht mi
  have o2 := off_bd ht (mi - 3)
  with_reducible refine c_oneI (-2000) 6000 hd (by omega) (by simp) ?_ fun lo lo1 lo2 => ?_
  · simp only [List.all_cons, List.all_nil, inR, Bool.and_true, Bool.and_eq_true, decide_eq_true_eq]
    omega
  fail "w"
  have hml := minsL_len ht lo
  with_reducible refine zw_lc (minsL t lo) .int (fun m => .int (m + tof u m)) ?_ ?_ (fun o ho => ⟨_, put_nm _ _ _, ?_⟩) ?_
  · fail "w"
    exact ⟨_, rfl, rfl⟩
  · simp only [cap]; omega
  · fail "w"
  fail "w"
  refine c_tk (t0 (k + 6) (f8 (k + 1) ht (by omega) _)) ?_
  fail "w"
  refine c_tk (t1 (k + 6) (f10 (k + 1) ht (by omega) _)) ?_
  fail "w"
  refine c_tk (t2 (k + 6) (f13 (k + 1) ht (by omega) _)) ?_
  fail "w"
  refine c_tk (t3 (k + 6) (f11 (k + 1) ht hu (by omega) _)) ?_
  fail "w"
  with_reducible refine VB.cat ?_ ?_
  · simp [cap]
  fail "w"
  have g1 : Gd (.list [.int (mi + tof t mi), .tuple (iL (minsL t lo)), .int ((minsL t lo).length : Nat), .tuple ((minsL t lo).map fun x => .int (x + tof u x))]) 2 5000 := by
    refine gd_l (e := 1) (m := 500) (gd_c ((gd_in (by omega) (by omega))) (gd_c (gd_iL hml (fun x hx => ?_) (by omega)) (gd_c (gd_in (by omega) (by omega)) (gd_c (gd_t (e := 0) (m := 40) (gd_mp fun x hx => gd_in ?_ (by omega)) (by omega) ?_) gd_z)))) (by omega) (by simp)
    · have := mins_bd ht hx; omega
    · have := mins_bd ht hx
      have := off_bd hu x
      omega
    · rw [List.length_map]; omega
  refine V1.rep g1 (by decide) (by decide) ?_
  fail "w"
  refine V1.rep g1 (by decide) (by decide) ?_
  with_reducible refine VB.same g1 ?_
  fail "w"
  clear g1
  with_reducible refine c_take hd (by omega) (by omega) fun b0 b00 b01 => ?_
  fail "w"
  with_reducible refine c_take hd (by omega) (by omega) fun n0 n00 n01 => ?_
  obtain ⟨n0, rfl⟩ := Int.eq_ofNat_of_zero_le n00
  fail "w"
  with_reducible refine c_take hd (by omega) (by omega) fun d0 d00 d01 => ?_
  fail "w"
  have hb1 : -2100 ≤ lo - b0 ∧ lo - b0 ≤ 6000 := by omega
  generalize lo - b0 = bg at *
  have en : (1 : Int) + (n0 : Int) = ((n0 + 1 : Nat) : Int) := by omega
  rw [en]
  have hn1 : n0 + 1 ≤ 200 := by omega
  have hn2 : 1 ≤ n0 + 1 := by omega
  generalize n0 + 1 = nn' at *
  with_reducible refine c_oneI (-1) 4 hd (by omega) (by simp) ?_ fun day dy1 dy2 => ?_
  · simp only [List.all_cons, List.all_nil, inR, Bool.and_true, Bool.and_eq_true, decide_eq_true_eq]
    omega
  fail "w"
  obtain ⟨x0, hx0, _⟩ := f17 0 ht day Z
  obtain ⟨x1, hx1, _⟩ := f17 0 ht (day + 1) Z
  refine Run.of (f37 (k + 5) ht _) ?_
  fail "w"
  refine Run.of (f35 (k + 4) ht (by omega) (by omega) _) ?_
  fail "w"
  refine Run.of (f36 (k + 5) ht day hx0 _) ?_
  fail "w"
  refine Run.of (f36 (k + 5) ht (day + 1) hx1 _) ?_
  fail "w"
  refine Run.of (f36 (k + 5) ht day hx0 _) ?_
  fail "w"
  refine c_tk (t4 (k + 6) (f12 (k + 1) ht _)) ?_
  fail "w"
  refine c_tk (t5 (k + 6) (f16 (k + 1) ht (by omega) (by omega) _)) ?_
  fail "w"
  have h20 := f19 (k + 1) ht (d := day) (by omega) hx0
  have h21 := f20 (k + 1) ht (d := day) (by omega) hx0 hx1
  with_reducible refine zw_lc ([6, 7] : List Int) .int (fun c => if c = 6 then .int x0 else .int (x1 - x0)) ?_ ?_ (fun c hc => ⟨_, put_nm _ _ _, ?_⟩) ?_
  · fail "w"
    exact ⟨_, rfl, rfl⟩
  · simp only [cap, List.length_cons, List.length_nil]; omega
  · fail "w"
    rcases List.mem_cons.mp hc with rfl | hc
    · refine c_tk (t6 (k + 6) (h20 _)) ?_
      exact ⟨rfl, rfl⟩
    · obtain rfl := List.mem_singleton.mp hc
      refine c_tk (t7 (k + 6) (h21 _)) ?_
      exact ⟨rfl, rfl⟩
  have e67 : ([6, 7] : List Int).map (fun c => if c = 6 then PyData.int x0 else .int (x1 - x0)) = [.int x0, .int (x1 - x0)] := rfl
  rw [e67]
  clear e67 h20 h21
  with_reducible refine VB.cat ?_ ?_
  · simp [cap]
  fail "w"
  have g2 : Gd (.list [.tuple ((jumpsL t.o t.rs).map sp), .tuple ((runL (cnt t) bg nn').map sp), .int x0, .int (x1 - x0)]) 3 300000 := by
    have hx0b := dawn_bd ht hx0
    have hx1b := dawn_bd ht hx1
    have hj := jumpsL_len t.rs t.o
    have hr := runL_len (cnt t) bg nn'
    refine gd_l (e := 2) (m := 60000) (gd_c (gd_t (e := 1) (m := 140) (gd_mp fun s hs => ?_) (by omega) ?_) (gd_c (gd_t (e := 1) (m := 140) (gd_mp fun s hs => ?_) (by omega) ?_) (gd_c (gd_in (by omega) (by omega)) (gd_c (gd_in (by omega) (by omega)) gd_z)))) (by omega) (by simp)
    · obtain ⟨h1, h2, h3⟩ := jumpsL_bd t.rs t.o ht.rws ⟨ht.o1, ht.o2⟩ s hs
      exact gd_sp h1 h2 h3
    · rw [List.length_map]; omega
    · obtain ⟨h1, h2, x, h3⟩ := runL_bd _ _ _ s hs
      have : 0 ≤ cnt t x ∧ cnt t x ≤ 9 := by
        have := minsL_len ht x
        unfold cnt
        omega
      exact gd_sp (by omega) (by omega) (by omega)
    · rw [List.length_map]; omega
  refine V1.rep g2 (by decide) (by decide) ?_
  fail "w"
  refine V1.rep g2 (by decide) (by decide) ?_
  with_reducible refine VB.same g2 ?_
  fail "w"
  clear g2
  refine V1.sl (y := .tuple [.str t.nm, .int t.o]) (slice_to _ 2 (by simp)) ?_
  fail "w"
  with_reducible refine zw_lc (List.range 9) (fun (j : Nat) => .int (j : Int)) (fun (j : Nat) => .tuple [.int (j : Int), .int 0]) ?_ ?_ (fun j hj => ⟨_, put_nm _ _ _, ?_⟩) ?_
  · fail "w"
    exact ⟨9, rfl, by decide, rfl⟩
  · simp [cap]
  · fail "w"
  fail "w"
  with_reducible refine VB.cat ?_ ?_
  · simp [cap]
  fail "w"
  with_reducible refine c_oneP (fun x => shortT x ∧ isTn x = false) hd (by omega) (by simp) ?_ fun bad hbad => ?_
  · exact fun x hx => bad_ts ht.sh t.o x hx
  obtain ⟨hbs, hbt⟩ := hbad
  fail "w"
  with_reducible refine c_oneP (fun x => inR (-2000000) 2000000 x = false ∧ ∃ e, Gd x 0 e) hd (by omega) (by simp) ?_ fun od hod => ?_
  · intro x hx
    simp only [List.mem_cons, List.not_mem_nil, or_false] at hx
    rcases hx with rfl | rfl | rfl | rfl | rfl
    · exact ⟨rfl, _, gd_none⟩
    · exact ⟨rfl, _, gd_bool _⟩
    · exact ⟨rfl, _, gd_int _ (by decide)⟩
    · exact ⟨rfl, _, gd_int _ (by decide)⟩
    · exact ⟨rfl, _, gd_str _ (by decide +kernel) (by decide +kernel) (by decide +kernel)⟩
  fail "w"
  obtain ⟨hod, eo, god⟩ := hod
  with_reducible refine zw_lc ([0, 1, 2, 3, 4, 5, 6, 7] : List Int) .int (fun _ => arg (.str "town")) ?_ ?_ (fun c hc => ⟨_, put_nm _ _ _, ?_⟩) ?_
  · fail "w"
    exact ⟨8, rfl, by decide, rfl⟩
  · simp only [cap, List.length_cons, List.length_nil]; omega
  · fail "w"
    simp only [List.mem_cons, List.not_mem_nil, or_false] at hc
    rcases hc with rfl | rfl | rfl | rfl | rfl | rfl | rfl | rfl
    · exact Run.of (t0b (k + 6) (f8x (k + 1) hbs hbt _ _)) ⟨rfl, rfl⟩
    · exact Run.of (t1b (k + 6) (f10x (k + 1) hbs hbt _ _)) ⟨rfl, rfl⟩
    · exact Run.of (t2b (k + 6) (f13x (k + 1) hbs hbt _ _)) ⟨rfl, rfl⟩
    · exact Run.of (t3b (k + 6) (f11x (k + 1) hbs hbt _ _ _)) ⟨rfl, rfl⟩
    · exact Run.of (t4b (k + 6) (f12x (k + 1) hbs hbt _)) ⟨rfl, rfl⟩
    · exact Run.of (t5b (k + 6) (f16x (k + 1) hbs hbt _ _ _)) ⟨rfl, rfl⟩
    · exact Run.of (t6b (k + 6) (f19x (k + 1) hbs hbt _ _)) ⟨rfl, rfl⟩
    · exact Run.of (t7b (k + 6) (f20x (k + 1) hbs hbt _ _)) ⟨rfl, rfl⟩
  have e8 : ([0, 1, 2, 3, 4, 5, 6, 7] : List Int).map (fun _ => arg (.str "town")) = [arg (.str "town"), arg (.str "town"), arg (.str "town"), arg (.str "town"), arg (.str "town"), arg (.str "town"), arg (.str "town"), arg (.str "town")] := rfl
  rw [e8]
  clear e8
  fail "w"
  refine VB.d (mul_l1 _) ?_
  have ga : Gd (arg (.str "town")) 1 100 := gd_arg (by decide +kernel) (by decide +kernel) (by decide +kernel)
  have g3 : Gd (.list [arg (.str "town"), arg (.str "town"), arg (.str "town"), arg (.str "town"), arg (.str "town"), arg (.str "town"), arg (.str "town"), arg (.str "town")]) 2 5000 :=
    gd_l (e := 1) (m := 100) (gd_c ga (gd_c ga (gd_c ga (gd_c ga (gd_c ga (gd_c ga (gd_c ga (gd_c ga gd_z)))))))) (by omega) (by simp)
  refine VB.d (D_neG g3 (by decide)) ?_
  clear g3 ga
  fail "w"
  refine Run.of (t0b (k + 6) (f8y (k + 1) ht hod _)) ?_
  fail "w"
  refine Run.of (t1b (k + 6) (f10y (k + 1) ht hod _)) ?_
  fail "w"
  refine Run.of (t2b (k + 6) (f13y (k + 1) ht hod _)) ?_
  fail "w"
  refine Run.of (t3b (k + 6) (f11y (k + 1) ht hbs hbt _ _)) ?_
  fail "w"
  refine Run.of (t3b (k + 6) (f11z (k + 1) ht hu hod _)) ?_
  fail "w"
  refine Run.of (t5b (k + 6) (f16y (k + 1) ht hod _)) ?_
  fail "w"
  with_reducible refine c_oneP (fun x => inR 1 3000 x = false) hd (by omega) (by simp) ?_ fun ln hln => ?_
  · intro x hx
    simp only [List.mem_cons, List.not_mem_nil, or_false] at hx
    rcases hx with rfl | rfl | rfl <;> rfl
  fail "w"
  refine Run.of (t5b (k + 6) (f16z (k + 1) ht (by omega) hln _)) ?_
  fail "w"
  with_reducible refine VB.cat ?_ ?_
  · simp [cap]
  fail "w"
  with_reducible refine zw_lcI ([6, 7] : List Int) .int (fun l acc S => ∃ q, 0 ≤ q ∧ S = at_ q Z ∧ (∀ c ∈ l, c = 6 ∨ c = 7) ∧ acc ++ l.map (fun _ => arg (.str "day")) = [arg (.str "day"), arg (.str "day")]) ?_ ?_ ?_ ?_
  · fail "w"
    exact ⟨_, rfl, rfl, _, by omega, rfl, by simp, rfl⟩
  · simp only [cap, List.length_cons, List.length_nil]; omega
  · rintro c l acc S ⟨q, hq, rfl, hc, ha⟩
    refine ⟨_, put_nm _ _ _, ?_⟩
    fail "w"
    with_reducible refine c_oneP (fun x => inR (-1000) 1000 x = false) hd (by omega) (by simp) ?_ fun dd hdd => ?_
    · intro x hx
      simp only [List.mem_cons, List.not_mem_nil, or_false] at hx
      rcases hx with rfl | rfl | rfl <;> rfl
    fail "w"
    have fin_ : ∃ q', 0 ≤ q' ∧ at_ (q + 1) Z = at_ q' Z ∧ (∀ c ∈ l, c = 6 ∨ c = 7) ∧ (acc ++ [arg (.str "day")]) ++ l.map (fun _ => arg (.str "day")) = [arg (.str "day"), arg (.str "day")] :=
      ⟨q + 1, by omega, rfl, fun c hc' => hc c (List.mem_cons_of_mem _ hc'), by rw [List.append_assoc]; exact ha⟩
    rcases hc c List.mem_cons_self with rfl | rfl
    · exact Run.of (t6b (k + 6) (f19y (k + 1) ht hdd _)) ⟨_, rfl, fin_⟩
    · exact Run.of (t7b (k + 6) (f20y (k + 1) ht hdd _)) ⟨_, rfl, fin_⟩
  rintro ys S' ⟨q, hq, rfl, _, ha⟩
  rw [List.map_nil, List.append_nil] at ha
  subst ha
  with_reducible refine VB.cat ?_ ?_
  · simp [cap]
  fail "w"
  with_reducible refine zw_lc (["minute", "local", "local", "other", "local", "begin", "length", "day", "day"] : List Str) .str (fun s => arg (.str s)) ?_ ?_ (fun s hs => ⟨_, put_nm _ _ _, ?_⟩) ?_
  · fail "w"
    exact ⟨_, rfl, rfl⟩
  · simp only [cap, List.length_cons, List.length_nil]; omega
  · fail "w"
  have g4 : Gd (.list ((["minute", "local", "local", "other", "local", "begin", "length", "day", "day"] : List Str).map fun s => arg (.str s))) 2 5000 := by
    refine gd_l (e := 1) (m := 100) (gd_mp fun s hs => ?_) (by omega) (by simp)
    simp only [List.mem_cons, List.not_mem_nil, or_false] at hs
    rcases hs with rfl | rfl | rfl | rfl | rfl | rfl | rfl | rfl | rfl <;> exact gd_arg (by decide +kernel) (by decide +kernel) (by decide +kernel)
  refine VB.d (D_eqG g4 (by decide)) ?_
  fail "w"
  exact ⟨q, hq, by simp⟩
end M29
/-! part M29y -/
set_option linter.all false
set_option maxRecDepth 100000
set_option maxHeartbeats 2000000
namespace M29
open PySem In Tx P29
local macro_rules | `(tactic| fail "n") => `(tactic| simp only [wipe, List.set_cons_succ, List.set_cons_zero, List.map_nil, List.append_nil, List.cons_append, List.nil_append, Option.map_some, Option.map_none, and_true, true_and, List.length_map, List.length_nil])
local macro_rules | `(tactic| fail "s") => `(tactic| first
  | with_reducible refine zw_cst ?_
  | ((with_reducible refine zw_var (v := ?_) ?_ ?_); (rotate_left; exact rfl))
  | with_reducible refine zw_tup ?_
  | with_reducible refine zw_lst ?_
  | with_reducible refine zw_p1 ?_
  | with_reducible refine zw_p0 ?_
  | with_reducible refine zw_e1 ?_
  | with_reducible refine zw_e0 ?_
  | with_reducible refine zw_bin ?_
  | with_reducible refine zw_cmp ?_
  | with_reducible refine zw_ix ?_
  | with_reducible refine zw_u1 ?_
  | with_reducible refine zw_u2 ?_
  | with_reducible refine zw_call0 ?_
  | with_reducible refine zw_call ?_
  | with_reducible refine zw_isi ?_
  | with_reducible refine zw_not ?_
  | with_reducible refine zw_idx ?_
  | with_reducible refine zw_seq ?_
  | with_reducible refine zw_t1 ?_
  | with_reducible refine zw_t0 ?_
  | with_reducible refine SK.d ?_
  | with_reducible refine TK.b ?_
  | ((with_reducible refine TK.d (b := ?_) ?_ ?_); (rotate_left; first | exact rfl | with_reducible assumption))
  | ((with_reducible refine VB.d (z := ?_) ?_ ?_); (rotate_left; first | with_reducible exact bin_add _ _ | with_reducible exact bin_sub _ _ | with_reducible exact ix0 _ _ | with_reducible exact ix1 _ _ _ | with_reducible exact ix2 _ _ _ _ | with_reducible exact lx0 _ _ | with_reducible exact D_lt _ _ | with_reducible exact D_le _ _ | with_reducible exact D_gt _ _ | with_reducible exact D_ge _ _ | with_reducible exact D_eq _ _ | with_reducible exact D_ne _ _ | with_reducible exact D_is _ | with_reducible exact D_isnot _ | with_reducible assumption))
  | ((with_reducible refine V1.d (z := ?_) ?_ ?_); (rotate_left; first | with_reducible exact u1_lenl _ | with_reducible exact u1_lent _ | with_reducible exact u1_tupl _ | with_reducible exact u1_neg _ | with_reducible exact u1_int _ | with_reducible exact u1_listt _ | with_reducible assumption))
  | (with_reducible refine zs_asg ?_)
  | (with_reducible refine zs_asgT ?_)
  | with_reducible refine zs_ret ?_
  | with_reducible refine zs_retN ?_
  | with_reducible refine zs_raise ?_
  | with_reducible refine zs_drop ?_
  | with_reducible refine zs_nil ?_
  | with_reducible refine zs_par ?_
  | with_reducible refine zn_nx ?_
  | with_reducible refine zn_rt ?_
  | with_reducible refine zw_sl ?_
  | with_reducible refine zw_o0 ?_
  | with_reducible refine zw_o1 ?_
  | with_reducible refine zi_e ?_
  | with_reducible refine zi_r1 ?_
  | with_reducible refine zi_r2 ?_
  | with_reducible refine zi_enum ?_
  | with_reducible refine zi_zip ?_
  | with_reducible refine FK.rt ?_
  | with_reducible refine FK.nx ?_
  | with_reducible refine LK.nx ?_
  | with_reducible refine LK.rt ?_
  | with_reducible refine if_t ?_
  | with_reducible refine if_f ?_
  | with_reducible refine if_nt ?_
  | with_reducible refine if_nf ?_
  | with_reducible refine ch_k ?_
  | with_reducible refine pt2 ?_
  | with_reducible refine ex_i ?_
  | with_reducible refine ex_nx ?_
  | with_reducible refine zs_new ?_
  | with_reducible refine ex_l ?_
  | with_reducible refine pt3 ?_
  | fail "c"
  | (with_reducible refine Run.bind ?_))
local macro_rules | `(tactic| fail "b") => `(tactic| first
  | with_reducible refine zs_ite ?_
  | with_reducible refine zw_ite ?_
  | with_reducible refine zw_and ?_
  | with_reducible refine zw_or ?_
  | with_reducible refine zw_ch ?_)
local macro_rules | `(tactic| fail "v") => `(tactic| (repeat fail "s") <;> (try fail "n"))
local macro_rules | `(tactic| fail "w") => `(tactic| (repeat (first | fail "s" | fail "b")) <;> (try fail "n"))
/-! Bad towns; the greatest count; the verdict on the right answer. -/
open P27 (Best)
theorem ints_nL (ws : List Nat) : ints? (nL ws) = some (ws.map fun (n : Nat) => (n : Int)) := by
  rw [show nL ws = (ws.map fun (n : Nat) => (n : Int)).map .int by simp [nL]]
  exact ints_map _
theorem foldmax : ∀ (l : List Nat) (a : Nat), ∃ m : Nat, (l.map fun (n : Nat) => (n : Int)).foldl (fun m j => if j > m then j else m) (a : Int) = (m : Int) ∧ a ≤ m ∧ (∀ x ∈ l, x ≤ m) ∧ (m = a ∨ m ∈ l)
  | [], a => ⟨a, rfl, Nat.le_refl _, fun x h => by simp at h, .inl rfl⟩
  | b :: l, a => by
    by_cases c : a < b
    · obtain ⟨m, h1, h2, h3, h4⟩ := foldmax l b
      refine ⟨m, ?_, by omega, fun x hx => ?_, ?_⟩
      · rw [List.map_cons, List.foldl_cons, if_pos (by omega)]; exact h1
      · rcases List.mem_cons.mp hx with rfl | hx
        · exact h2
        · exact h3 x hx
      · rcases h4 with h4 | h4
        · exact .inr (by rw [h4]; exact List.mem_cons_self)
        · exact .inr (List.mem_cons_of_mem _ h4)
    · obtain ⟨m, h1, h2, h3, h4⟩ := foldmax l a
      refine ⟨m, ?_, h2, fun x hx => ?_, ?_⟩
      · rw [List.map_cons, List.foldl_cons, if_neg (by omega)]; exact h1
      · rcases List.mem_cons.mp hx with rfl | hx
        · omega
        · exact h3 x hx
      · rcases h4 with h4 | h4
        · exact .inl h4
        · exact .inr (List.mem_cons_of_mem _ h4)
theorem find_nL (m : Nat) : ∀ (l : List Nat), m ∈ l → ∃ i, findIx (.int (m : Int)) (nL l) = some i ∧ i < l.length ∧ l.getD i 0 = m ∧ ∀ j, j < i → l.getD j 0 ≠ m
  | [], h => by simp at h
  | a :: l, h => by
    by_cases c : a = m
    · subst c
      refine ⟨0, ?_, by simp, rfl, fun j hj => by omega⟩
      simp [findIx, eqv_int]
    · have hm : m ∈ l := by
        rcases List.mem_cons.mp h with rfl | h
        · exact absurd rfl c
        · exact h
      obtain ⟨i, h1, h2, h3, h4⟩ := find_nL m l hm
      refine ⟨i + 1, ?_, by simp; omega, by simpa using h3, fun j hj => ?_⟩
      · have : ¬ ((a : Int) = (m : Int)) := by omega
        simp only [nL, List.map_cons, findIx, eqv_int, this, decide_false, Bool.false_eq_true, if_false]
        rw [h1]
        rfl
      · cases j with
        | zero => simpa using c
        | succ j => simpa using h4 j (by omega)
/-- max(l), l.index(max(l)) -/
theorem best_nL {l : List Nat} (h : l ≠ []) : ∃ m i, Best (fun j => l.getD j 0) l.length m i ∧ u1 .max (.list (nL l)) = some (.int (m : Int)) ∧ u2 .index (.list (nL l)) (.int (m : Int)) = some (.int (i : Int)) := by
  cases l with
  | nil => exact absurd rfl h
  | cons a r =>
    obtain ⟨m, h1, h2, h3, h4⟩ := foldmax r a
    have hm : m ∈ a :: r := by
      rcases h4 with h4 | h4
      · rw [h4]; exact List.mem_cons_self
      · exact List.mem_cons_of_mem _ h4
    have hle : ∀ x ∈ a :: r, x ≤ m := fun x hx => by
      rcases List.mem_cons.mp hx with rfl | hx
      · exact h2
      · exact h3 x hx
    obtain ⟨i, q1, q2, q3, q4⟩ := find_nL m (a :: r) hm
    have get_mem : ∀ j, j < (a :: r).length → (a :: r).getD j 0 ∈ a :: r := fun j hj => by
      rw [List.getD_eq_getElem?_getD, List.getElem?_eq_getElem hj]
      exact List.getElem_mem hj
    refine ⟨m, i, ⟨q2, q3, fun j hj => hle _ (get_mem j hj), fun j hj => ?_⟩, ?_, ?_⟩
    · have a1 := hle _ (get_mem j (by omega))
      have a2 := q4 j hj
      show (a :: r).getD j 0 < m
      omega
    · show (ints? (nL (a :: r))).bind _ = _
      rw [ints_nL]
      show (if ((a :: r).map fun (n : Nat) => (n : Int)).isEmpty then none else some (PyData.int (maxI ((a :: r).map fun (n : Nat) => (n : Int))))) = _
      rw [List.map_cons]
      simp only [List.isEmpty_cons, Bool.false_eq_true, if_false, maxI, h1]
    · show (if (eqOk (.list (nL (a :: r))) && eqOk (.int (m : Int))) = true then (findIx (.int (m : Int)) (nL (a :: r))).map (fun (n : Nat) => PyData.int (n : Int)) else none) = _
      rw [eqOk_nL, eqOk_int, q1]
      rfl
theorem f21n (k : Nat) (S : Sto) : callAt fns W (k + 4) 21 [.d .none] S = .ok (.bool false) S := by
  rw [r_21]
  simp [b_21, nt]
theorem f21i (k : Nat) (i : Int) (S : Sto) : callAt fns W (k + 4) 21 [.d (.int i)] S = .ok (.bool false) S := by
  rw [r_21]
  simp [b_21, nt]
theorem f21e (k : Nat) (S : Sto) : callAt fns W (k + 4) 21 [.d (.tuple [])] S = .ok (.bool false) S := by
  rw [r_21]
  simp [b_21, nt]
theorem f21o (k : Nat) (S : Sto) : callAt fns W (k + 4) 21 [.d (.tuple [.none])] S = .ok (.bool false) S := by
  have e4 := f4 k .none trivial
  rw [r_21, b_21]
  refine (Run.fn (X := nX) ?_).eq
  refine zs_if true ?_ (fun _ => ?_) fun h => by cases h
  · fail "w"
    refine V1.d (z := .bool true) rfl ?_
    fail "w"
    refine ⟨fun _ => ?_, fun h => absurd h (by simp)⟩
    fail "w"
    refine ⟨fun h => absurd h (by simp), fun _ => ?_⟩
    fail "w"
    with_reducible refine zw_lc ([.none] : List PyData) (fun x => x) (fun _ => .bool false) ?_ ?_ (fun c hc => ⟨_, put_nm _ _ _, ?_⟩) ?_
    · fail "w"
      exact ⟨_, rfl, rfl⟩
    · simp [cap]
    · fail "w"
      obtain rfl := List.mem_singleton.mp hc
      refine Run.of (e4 _) ?_
      exact ⟨rfl, rfl⟩
    refine V1.d (z := .bool false) rfl ?_
    fail "w"
    rfl
  · fail "w"
    simp
theorem f21d (k : Nat) {t : Tn} {ts : List Tn} (h : OkTs (t :: ts)) (S : Sto) : callAt fns W (k + 4) 21 [.d (twT (t :: ts ++ [t]))] S = .ok (.bool false) S := by
  have h1 := h.len2
  simp only [List.length_cons] at h1
  rw [f21 k (ts := t :: ts ++ [t]) (by simp) (by simp; omega) (fun x hx => by
    rcases List.mem_append.mp hx with hx | hx
    · exact h.all x hx
    · rw [List.mem_singleton.mp hx]; exact h.all t List.mem_cons_self)]
  have h2 := ddS_dup t.nm (t.nm :: ts.map (·.nm)) [] (.inr List.mem_cons_self)
  have e : ((t :: ts ++ [t]).map (·.nm)) = t.nm :: ts.map (·.nm) ++ [t.nm] := by simp
  rw [e]
  have : ¬ (ddS [] (t.nm :: ts.map (·.nm) ++ [t.nm])).length = (t :: ts ++ [t]).length := by
    simp only [List.length_cons, List.length_append, List.length_map, List.length_nil] at h2 ⊢
    omega
  rw [decide_eq_false this, Bool.and_false]
end M29
/-! part M29z -/
set_option linter.all false
set_option maxRecDepth 100000
set_option maxHeartbeats 2000000
namespace M29
open PySem In Tx P29
local macro_rules | `(tactic| fail "n") => `(tactic| simp only [wipe, List.set_cons_succ, List.set_cons_zero, List.map_nil, List.append_nil, List.cons_append, List.nil_append, Option.map_some, Option.map_none, and_true, true_and, List.length_map, List.length_nil])
local macro_rules | `(tactic| fail "s") => `(tactic| first
  | with_reducible refine zw_cst ?_
  | ((with_reducible refine zw_var (v := ?_) ?_ ?_); (rotate_left; exact rfl))
  | with_reducible refine zw_tup ?_
  | with_reducible refine zw_lst ?_
  | with_reducible refine zw_p1 ?_
  | with_reducible refine zw_p0 ?_
  | with_reducible refine zw_e1 ?_
  | with_reducible refine zw_e0 ?_
  | with_reducible refine zw_bin ?_
  | with_reducible refine zw_cmp ?_
  | with_reducible refine zw_ix ?_
  | with_reducible refine zw_u1 ?_
  | with_reducible refine zw_u2 ?_
  | with_reducible refine zw_call0 ?_
  | with_reducible refine zw_call ?_
  | with_reducible refine zw_isi ?_
  | with_reducible refine zw_not ?_
  | with_reducible refine zw_idx ?_
  | with_reducible refine zw_seq ?_
  | with_reducible refine zw_t1 ?_
  | with_reducible refine zw_t0 ?_
  | with_reducible refine SK.d ?_
  | with_reducible refine TK.b ?_
  | ((with_reducible refine TK.d (b := ?_) ?_ ?_); (rotate_left; first | exact rfl | with_reducible assumption))
  | ((with_reducible refine VB.d (z := ?_) ?_ ?_); (rotate_left; first | with_reducible exact bin_add _ _ | with_reducible exact bin_sub _ _ | with_reducible exact ix0 _ _ | with_reducible exact ix1 _ _ _ | with_reducible exact ix2 _ _ _ _ | with_reducible exact lx0 _ _ | with_reducible exact D_lt _ _ | with_reducible exact D_le _ _ | with_reducible exact D_gt _ _ | with_reducible exact D_ge _ _ | with_reducible exact D_eq _ _ | with_reducible exact D_ne _ _ | with_reducible exact D_is _ | with_reducible exact D_isnot _ | with_reducible assumption))
  | ((with_reducible refine V1.d (z := ?_) ?_ ?_); (rotate_left; first | with_reducible exact u1_lenl _ | with_reducible exact u1_lent _ | with_reducible exact u1_tupl _ | with_reducible exact u1_neg _ | with_reducible exact u1_int _ | with_reducible exact u1_listt _ | with_reducible assumption))
  | (with_reducible refine zs_asg ?_)
  | (with_reducible refine zs_asgT ?_)
  | with_reducible refine zs_ret ?_
  | with_reducible refine zs_retN ?_
  | with_reducible refine zs_raise ?_
  | with_reducible refine zs_drop ?_
  | with_reducible refine zs_nil ?_
  | with_reducible refine zs_par ?_
  | with_reducible refine zn_nx ?_
  | with_reducible refine zn_rt ?_
  | with_reducible refine zw_sl ?_
  | with_reducible refine zw_o0 ?_
  | with_reducible refine zw_o1 ?_
  | with_reducible refine zi_e ?_
  | with_reducible refine zi_r1 ?_
  | with_reducible refine zi_r2 ?_
  | with_reducible refine zi_enum ?_
  | with_reducible refine zi_zip ?_
  | with_reducible refine FK.rt ?_
  | with_reducible refine FK.nx ?_
  | with_reducible refine LK.nx ?_
  | with_reducible refine LK.rt ?_
  | with_reducible refine if_t ?_
  | with_reducible refine if_f ?_
  | with_reducible refine if_nt ?_
  | with_reducible refine if_nf ?_
  | with_reducible refine ch_k ?_
  | with_reducible refine pt2 ?_
  | with_reducible refine ex_i ?_
  | with_reducible refine ex_nx ?_
  | with_reducible refine zs_new ?_
  | with_reducible refine ex_l ?_
  | with_reducible refine pt3 ?_
  | fail "c"
  | (with_reducible refine Run.bind ?_))
local macro_rules | `(tactic| fail "b") => `(tactic| first
  | with_reducible refine zs_ite ?_
  | with_reducible refine zw_ite ?_
  | with_reducible refine zw_and ?_
  | with_reducible refine zw_or ?_
  | with_reducible refine zw_ch ?_)
local macro_rules | `(tactic| fail "v") => `(tactic| (repeat fail "s") <;> (try fail "n"))
local macro_rules | `(tactic| fail "w") => `(tactic| (repeat (first | fail "s" | fail "b")) <;> (try fail "n"))
/-! The law. -/
theorem Ends.rn {Q Q' : PyData → Sto → Prop} {X : Str → PyData → Sto → Prop} {r : R PyData} (h : Ends Q r) (q : ∀ x S, Q x S → Q' x S) : In.Run r Q' X := In.Ends.run h q
def nms : List Str := ["a", "B2", "c_c", "d", "e"]
theorem nms_ok : ∀ s ∈ nms, shortS s ∧ nameOk s = true := by
  intro s hs
  simp only [nms, List.mem_cons, List.not_mem_nil, or_false] at hs
  rcases hs with rfl | rfl | rfl | rfl | rfl <;> exact ⟨short_s (by decide +kernel) (by decide +kernel), by decide +kernel⟩
theorem nms_nd : nms.Nodup := by decide +kernel
theorem ix_rng {n j : Nat} (f : Nat → PyData) (h : j < n) : index (.list ((List.range n).map f)) (.int (j : Int)) = some (f j) := (index_nat (by rw [List.getElem?_map, List.getElem?_range h]; rfl)).1
theorem ix_rngT {n j : Nat} (f : Nat → PyData) (h : j < n) : index (.tuple ((List.range n).map f)) (.int (j : Int)) = some (f j) := (index_nat (by rw [List.getElem?_map, List.getElem?_range h]; rfl)).2
theorem wk_nil {ts : List Tn} {hs : List Rw} {b : Int} {n : Nat} : wk ts hs b n = [] ↔ ∀ j, j < n → aslp ts hs (b + (j : Int)) ≠ [] := by
  unfold wk
  rw [List.map_eq_nil_iff, List.filter_eq_nil_iff]
  simp
theorem frR_first {ts : List Tn} {hs : List Rw} {b : Int} {n : Nat} {w : Int} {r : List Int} (h : wk ts hs b n = w :: r) : frR ts hs b n = .tuple [.str "first", .int w] := by
  unfold frR
  have e : (wk ts hs b n).head? = ((List.range n).find? fun (j : Nat) => decide (aslp ts hs (b + (j : Int)) = [])).map fun (j : Nat) => b + (j : Int) := by
    unfold wk
    rw [List.head?_map, List.head?_filter]
  rw [h] at e
  cases hf : (List.range n).find? fun (j : Nat) => decide (aslp ts hs (b + (j : Int)) = []) with
  | none => rw [hf] at e; cases e
  | some j => rw [hf] at e; cases e; rfl
theorem frR_bar {ts : List Tn} {hs : List Rw} {b : Int} {n : Nat} (h : wk ts hs b n = []) : frR ts hs b n = .tuple [.str "barred", .tuple (nL (headsA ts hs b n))] := by
  unfold frR
  have e : (List.range n).find? (fun (j : Nat) => decide (aslp ts hs (b + (j : Int)) = [])) = none := by
    rw [List.find?_eq_none]
    intro j hj
    have := wk_nil.mp h j (List.mem_range.mp hj)
    simpa using this
  rw [e]
theorem mul_t {xs : List PyData} {n : Nat} (h0 : xs ≠ []) (hl : xs.length ≤ 1000) (h1 : 1 ≤ n) (h2 : n ≤ 1000) : binop .mul (.tuple xs) (.int (n : Int)) = some (.tuple (List.replicate n xs).flatten) := by
  show (if decide ((n : Int) = 1) then some (PyData.tuple xs) else if decide (2 ≤ (n : Int)) && decide ((n : Int) ≤ 1000) && decide (xs ≠ []) && decide (xs.length ≤ 1000) then some (PyData.tuple (List.replicate (n : Int).toNat xs).flatten) else none) = _
  by_cases c : n = 1
  · subst c
    simp
  · rw [if_neg (by simp; omega), if_pos (by simp [h0, hl]; omega)]
    rfl
theorem rep_one {x : PyData} (n : Nat) : (List.replicate n [x]).flatten = List.replicate n x := by
  induction n with
  | zero => rfl
  | succ n ih => rw [List.replicate_succ, List.flatten_cons, ih]; rfl
theorem headsA_len (ts : List Tn) (hs : List Rw) (b : Int) (n : Nat) : (headsA ts hs b n).length = n := by simp [headsA]
theorem heads_mem {ts : List Tn} {hs : List Rw} {b : Int} {n : Nat} (h : wk ts hs b n = []) {j : Nat} (hj : j < n) : (headsA ts hs b n).getD j 0 ∈ aslp ts hs (b + (j : Int)) := by
  have e : (headsA ts hs b n).getD j 0 = (aslp ts hs (b + (j : Int))).getD 0 0 := by
    unfold headsA
    rw [List.getD_eq_getElem?_getD, List.getElem?_map, List.getElem?_range hj]; rfl
  rw [e]
  have := wk_nil.mp h j hj
  cases ha : aslp ts hs (b + (j : Int)) with
  | nil => exact absurd ha this
  | cons o r => exact List.mem_cons_self
theorem aslp_lt {ts : List Tn} {hs : List Rw} {m : Int} {j : Nat} (h : j ∈ aslp ts hs m) : j < ts.length ∧ awk (gT ts j) (gH hs j) m = false := by
  unfold aslp at h
  obtain ⟨h1, h2⟩ := List.mem_filter.mp h
  exact ⟨List.mem_range.mp h1, by simpa using h2⟩
theorem vf_frR {ts : List Tn} {hs : List Rw} {b : Int} {n : Nat} : vf ts hs b n (frR ts hs b n) = none := by
  cases hw : wk ts hs b n with
  | nil =>
    rw [frR_bar hw]
    show (if ("barred" : Str) = "barred" then vfT ts hs b n (nL (headsA ts hs b n)) else some "form") = none
    rw [if_pos rfl]
    unfold vfT
    have hl := headsA_len ts hs b n
    have get : ∀ j, j < n → (nL (headsA ts hs b n)).getD j .none = .int ((headsA ts hs b n).getD j 0 : Nat) := fun j hj => by
      have hj' : j < (headsA ts hs b n).length := by omega
      simp only [nL, List.getD_eq_getElem?_getD, List.getElem?_map, List.getElem?_eq_getElem hj']
      rfl
    rw [if_pos (by rw [List.length_map]; exact hl), if_pos, if_pos]
    · unfold barOk
      rw [List.all_eq_true]
      intro j hj
      have hjn := List.mem_range.mp hj
      obtain ⟨_, h2⟩ := aslp_lt (heads_mem hw hjn)
      rw [get j hjn]
      simp only [numI, Int.toNat_natCast, h2, Bool.not_false]
    · rw [List.all_eq_true]
      intro x hx
      obtain ⟨i, hi, rfl⟩ := List.mem_map.mp hx
      obtain ⟨j, hj, rfl⟩ := List.mem_iff_getElem.mp hi
      have hjn : j < n := by omega
      have h1 := (aslp_lt (heads_mem hw hjn)).1
      rw [List.getD_eq_getElem?_getD, List.getElem?_eq_getElem hj] at h1
      simp only [Option.getD_some] at h1
      simp only [inR, Bool.and_eq_true, decide_eq_true_eq]
      omega
  | cons w r =>
    have e : (wk ts hs b n).head? = ((List.range n).find? fun (j : Nat) => decide (aslp ts hs (b + (j : Int)) = [])).map fun (j : Nat) => b + (j : Int) := by
      unfold wk
      rw [List.head?_map, List.head?_filter]
    rw [hw] at e
    cases hf : (List.range n).find? fun (j : Nat) => decide (aslp ts hs (b + (j : Int)) = []) with
    | none => rw [hf] at e; cases e
    | some j =>
      rw [hf] at e
      cases e
      rw [frR_first hw]
      have hj := List.mem_range.mp (List.mem_of_find?_eq_some hf)
      have ha : aslp ts hs (b + (j : Int)) = [] := by
        have h0 := List.find?_some hf
        exact of_decide_eq_true h0
      show (if ("first" : Str) = "first" then vfI ts hs b n (b + (j : Int)) else some "form") = none
      rw [if_pos rfl]
      unfold vfI
      have hi : inS b n (b + (j : Int)) = true := by simp only [inS, Bool.and_eq_true, decide_eq_true_eq]; omega
      rw [if_pos hi, if_pos ha]
      have he : early ts hs b (b + (j : Int) - b).toNat = false := by
        unfold early
        rw [List.any_eq_false]
        intro i hi
        have : (b + (j : Int) - b).toNat = j := by omega
        rw [this] at hi
        have hij := List.mem_range.mp hi
        have := List.find?_range_eq_some.mp hf
        simpa using this.2.2 i hij
      rw [he]
      rfl
theorem frR_form (ts : List Tn) (hs : List Rw) (b : Int) (n : Nat) : (∃ i : Int, b ≤ i ∧ i < b + n ∧ frR ts hs b n = .tuple [.str "first", .int i]) ∨ (wk ts hs b n = [] ∧ frR ts hs b n = .tuple [.str "barred", .tuple (nL (headsA ts hs b n))]) := by
  cases hw : wk ts hs b n with
  | nil => exact .inr ⟨rfl, frR_bar hw⟩
  | cons w r =>
    have : w ∈ wk ts hs b n := by rw [hw]; exact List.mem_cons_self
    unfold wk at this
    obtain ⟨j, hj, rfl⟩ := List.mem_map.mp this
    have := List.mem_range.mp (List.mem_filter.mp hj).1
    exact .inl ⟨_, by omega, by omega, frR_first hw⟩
theorem toldF_frR (ts : List Tn) (hs : List Rw) (b : Int) {n : Nat} (hn : n ≤ 160) : ToldF (frR ts hs b n) := by
  rcases frR_form ts hs b n with ⟨i, _, _, e⟩ | ⟨_, e⟩ <;> rw [e]
  · exact .firstI i
  · refine .barT _ (by rw [List.length_map, headsA_len]; omega) fun y hy => ?_
    obtain ⟨i, _, rfl⟩ := List.mem_map.mp hy
    exact flat_int _
theorem gd_w (w : Str) (h : w ∈ (["first", "barred", "none", "hours", "form", "paper", "argument", "towns", "begin", "length"] : List Str)) : Gd (.str w) 0 40 := by
  simp only [List.mem_cons, List.not_mem_nil, or_false] at h
  rcases h with rfl | rfl | rfl | rfl | rfl | rfl | rfl | rfl | rfl | rfl <;> exact gd_str _ (by decide +kernel) (by decide +kernel) (by decide +kernel)
theorem gd_frR {ts : List Tn} (h5 : ts.length ≤ 5) (hs : List Rw) {b : Int} (hb : -500 ≤ b ∧ b ≤ 2500) {n : Nat} (hn : n ≤ 160) : Gd (frR ts hs b n) 2 20000 := by
  rcases frR_form ts hs b n with ⟨i, h1, h2, e⟩ | ⟨hw, e⟩ <;> rw [e]
  · exact gd_t (e := 0) (m := 40) (gd_c (gd_w _ (by decide +kernel)) (gd_c (gd_in (by omega) (by omega)) gd_z)) (by omega) (by simp)
  · refine gd_t (e := 1) (m := 8000) (gd_c ((gd_w _ (by decide +kernel)).up (by omega) (by omega)) (gd_c (gd_t (e := 0) (m := 40) (gd_mp fun j hj => ?_) (by omega) ?_) gd_z)) (by omega) (by simp)
    · obtain ⟨i, hi, rfl⟩ := List.mem_iff_getElem.mp hj
      have hl := headsA_len ts hs b n
      have := (aslp_lt (heads_mem hw (j := i) (by omega))).1
      rw [List.getD_eq_getElem?_getD, List.getElem?_eq_getElem hi] at this
      simp only [Option.getD_some] at this
      exact gd_in (by omega) (by omega)
    · rw [List.length_map, headsA_len]; omega
theorem wk_bd {ts : List Tn} {hs : List Rw} {b : Int} {n : Nat} {x : Int} (h : x ∈ wk ts hs b n) : b ≤ x ∧ x < b + n := by
  unfold wk at h
  obtain ⟨j, hj, rfl⟩ := List.mem_map.mp h
  have := List.mem_range.mp (List.mem_filter.mp hj).1
  omega
theorem rowsOf_bd (lo hi : Int) : ∀ (ms : List Int), (∀ x ∈ ms, lo ≤ x ∧ x < hi) → ∀ r ∈ rowsOf ms, lo ≤ r.1 ∧ r.1 < hi ∧ 1 ≤ r.2 ∧ r.2 ≤ ms.length := by
  have key : ∀ (l d : List Int), (∀ x ∈ l, lo ≤ x ∧ x < hi) → (∀ r ∈ rowsOf d, lo ≤ r.1 ∧ r.1 < hi ∧ 1 ≤ r.2 ∧ r.2 ≤ d.length) → ∀ r ∈ rowsOf (d ++ l), lo ≤ r.1 ∧ r.1 < hi ∧ 1 ≤ r.2 ∧ r.2 ≤ (d ++ l).length := by
    intro l
    induction l with
    | nil => intro d _ h r hr; rw [List.append_nil] at hr ⊢; exact h r hr
    | cons a l ih =>
      intro d hx h r hr
      have e : d ++ a :: l = (d ++ [a]) ++ l := by simp
      rw [e] at hr ⊢
      refine ih (d ++ [a]) (fun x hx' => hx x (List.mem_cons_of_mem _ hx')) (fun r hr => ?_) r hr
      rw [rowsOf_snoc] at hr
      have ha := hx a List.mem_cons_self
      have hl : (d ++ [a]).length = d.length + 1 := by simp
      have up : ∀ r ∈ rowsOf d, lo ≤ r.1 ∧ r.1 < hi ∧ 1 ≤ r.2 ∧ r.2 ≤ ((d ++ [a]).length : Nat) := fun r hr => by
        have := h r hr
        omega
      unfold stepR at hr
      split at hr
      · rename_i q hq
        have hq' := h q (List.mem_of_getLast? hq)
        split at hr
        · rcases List.mem_append.mp hr with hr | hr
          · exact up r (List.dropLast_subset _ hr)
          · rw [List.mem_singleton.mp hr]
            simp only
            omega
        · rcases List.mem_append.mp hr with hr | hr
          · exact up r hr
          · rw [List.mem_singleton.mp hr]
            simp only
            omega
      · rcases List.mem_append.mp hr with hr | hr
        · exact up r hr
        · rw [List.mem_singleton.mp hr]
          simp only
          omega
  intro ms hm
  have := key ms [] hm (by simp [rowsOf])
  simpa using this
theorem vf_mem {ts : List Tn} {hs : List Rw} {b : Int} {n : Nat} {x : PyData} {w : String} (h : vf ts hs b n x = some w) : Gd (.str (w : Str)) 0 40 := by
  have key : w = "first" ∨ w = "hours" ∨ w = "form" ∨ w = "barred" := by
    unfold vf vfI vfT at h
    repeat' split at h
    all_goals first
      | (cases h; simp)
      | cases h
  rcases key with rfl | rfl | rfl | rfl <;> exact gd_w _ (by decide +kernel)
theorem mul_l3 (x : PyData) : binop .mul (.list [x]) (.int 3) = some (.list [x, x, x]) := by
  show (if decide (-(2 ^ 62) ≤ (3 : Int)) && decide ((3 : Int) < 2 ^ 62) && fits ([x].length * (3 : Int).toNat) then some (PyData.list (List.replicate (3 : Int).toNat [x]).flatten) else none) = _
  rw [show fits ([x].length * (3 : Int).toNat) = true from rfl, if_pos (by decide)]
  rfl
/-- the verdicts agree -/
theorem agree (k : Nat) {ts : List Tn} {hs : List Rw} (h : OkTs ts) (hh : OkHs ts.length hs) {b : Int} {n : Nat} (hb : -2000000 ≤ b ∧ b ≤ 2000000) (hn : 1 ≤ n ∧ n ≤ 3000) {x : PyData} (ht : ToldF x) (S : Sto) : ∃ z e m, Gd z e m ∧ e ≤ 64 ∧ callAt fns W (k + 7) 41 [.d (.int 11), .d (twT ts), .d (hrT hs), .d (.int b), .d (.int (n : Int)), .d x] S = .ok z S ∧ ((isNone (oS (vf ts hs b n x)) = true ∧ z = .none) ∨ (isNone (oS (vf ts hs b n x)) = false ∧ z = .tuple [.str "paper", oS (vf ts hs b n x)])) := by
  have h27 := f27 k h hh hb hn ht S
  cases hv : vf ts hs b n x with
  | none =>
    rw [hv] at h27
    exact ⟨.none, _, _, gd_none, by omega, tk (t11 (k + 6) h27), .inl ⟨rfl, rfl⟩⟩
  | some w =>
    rw [hv] at h27
    exact ⟨.tuple [.str "paper", .str w], 1, 100, gd_t (e := 0) (m := 40) (gd_c (gd_w _ (by decide +kernel)) (gd_c (vf_mem hv) gd_z)) (by omega) (by simp), by omega, t11p (k + 6) h27, .inr ⟨rfl, rfl⟩⟩
def nearL (b k n : Int) (w : Str) (x f : PyData) : List PyData := [.tuple [.str "first", .int (b + k)], .tuple [.str "first", .int (b + k)], .tuple [.str "first", .int (b + k)], .tuple [.str "first", .int (b + n)], .tuple [.str "first", .bool true], .tuple [.str w], .none, .tuple [.bool true, x], .tuple [.str "none", .int 0], .tuple [.str "barred", .tuple []], f]
theorem mul_l4 (x : PyData) : binop .mul (.list [x]) (.int 4) = some (.list [x, x, x, x]) := by
  show (if decide (-(2 ^ 62) ≤ (4 : Int)) && decide ((4 : Int) < 2 ^ 62) && fits ([x].length * (4 : Int).toNat) then some (PyData.list (List.replicate (4 : Int).toNat [x]).flatten) else none) = _
  rw [show fits ([x].length * (4 : Int).toNat) = true from rfl, if_pos (by decide)]
  rfl
theorem okHr_rep {n m : Nat} {x : PyData} (hm : 1 ≤ m) (hx : isHr x = false) : okHr n (.tuple (List.replicate m x)) = false := by
  show (decide ((List.replicate m x).length = n) && (List.replicate m x).all isHr) = false
  have : (List.replicate m x).all isHr = false := by
    rw [List.all_eq_false]
    exact ⟨x, List.mem_replicate.mpr ⟨by omega, rfl⟩, by rw [hx]; simp⟩
  rw [this, Bool.and_false]
theorem gd_arg4 (w : Str) (h : w ∈ (["first", "barred", "none", "hours", "form", "paper", "argument", "towns", "begin", "length"] : List Str)) : Gd (.list [arg (.str w), arg (.str w), arg (.str w), arg (.str w)]) 2 1000 := by
  have ga : Gd (arg (.str w)) 1 100 := gd_t (e := 0) (m := 40) (gd_c (gd_w _ (by decide +kernel)) (gd_c (gd_w _ h) gd_z)) (by omega) (by simp)
  exact gd_l (e := 1) (m := 100) (gd_c ga (gd_c ga (gd_c ga (gd_c ga gd_z)))) (by omega) (by simp)
theorem law_ok (ns : List Int) (hns : ns.length ≤ 63) : ∃ S, callAt fns W 30 44 [.d (.list (ns.map .int))] [] = .ok (.bool true) S := by
  suffices h : In.Run (callAt fns W 30 44 [.d (.list (ns.map .int))] []) (fun x _ => x = .bool true) nX by
    obtain ⟨x, S, e, rfl⟩ := h.get
    exact ⟨S, e⟩
  rw [r_44 29, b_44]
  refine Run.fn ?_
  fail "w"
  obtain ⟨ds, hd, e29⟩ := f29 28 ns hns []
  refine Run.of e29 ?_
  fail "w"
  with_reducible refine zw_lcE (α := Str) .str (fun l acc S => ∃ (ts : List Tn) (q : Int) (n : Nat), 0 ≤ q ∧ S = at_ q [] ∧ acc = ts.map tw ∧ (∀ t ∈ ts, OkT t ∧ OkN t) ∧ 1 ≤ n ∧ n ≤ 5 ∧ ts.map (·.nm) ++ l = nms.take n) ?_ ?_ ?_
  · fail "w"
    refine VB.d (z := .int 5) rfl ?_
    fail "w"
    refine c_take hd (by omega) (by omega) fun v v0 v1 => ?_
    obtain ⟨v, rfl⟩ := Int.eq_ofNat_of_zero_le v0
    fail "w"
    have e1 : (1 : Int) + (v : Int) = ((v + 1 : Nat) : Int) := by omega
    rw [e1]
    refine V1.sl (y := .list ((nms.take (v + 1)).map .str)) ?_ ?_
    · have := slice_to (nms.map .str) (v + 1) (by simp [nms]; omega)
      simp only [slice, Option.some.injEq, PyData.tuple.injEq] at this
      rw [List.map_take, ← this]
      rfl
    refine ⟨_, rfl, nms.take (v + 1), rfl, ?_, [], _, v + 1, ?_, rfl, rfl, by simp, by omega, by omega, rfl⟩
    · have := List.length_take_le (v + 1) nms
      simp only [cap]; omega
    · omega
  · rintro s l acc S ⟨ts, q, n, hq, rfl, rfl, hts, hn1, hn5, hl⟩
    refine ⟨_, put_nm _ _ _, ?_⟩
    fail "w"
    obtain ⟨hs1, hs2⟩ := nms_ok s (List.mem_of_mem_take (by rw [← hl]; simp))
    refine Ends.rn (f42 25 hd hs1 hs2 hq []) ?_
    rintro x S ⟨t, p', ht, htn, hnm, hp', rfl, rfl⟩
    refine ⟨_, rfl, ts ++ [t], p', n, hp', rfl, by simp, fun u hu => ?_, hn1, hn5, ?_⟩
    · rcases List.mem_append.mp hu with hu | hu
      · exact hts u hu
      · rw [List.mem_singleton.mp hu]; exact ⟨ht, htn⟩
    · rw [← hl, List.map_append]
      simp [hnm]
  rintro _ _ ⟨ts, q, n, hq, rfl, rfl, hts, hn1, hn5, hl⟩
  rw [List.append_nil] at hl
  have htl : ts.length = n := by
    have := congrArg List.length hl
    rw [List.length_map, List.length_take] at this
    simp only [nms, List.length_cons, List.length_nil] at this
    omega
  have hok : OkTs ts := ⟨by omega, by omega, fun t ht => (hts t ht).1, by rw [hl]; exact nms_nd.sublist (List.take_sublist _ _)⟩
  clear hl
  subst htl
  fail "w"
  refine VB.d (ix_tw (k := 0) (by omega)) ?_
  fail "w"
  have e1 : (ts.length : Int) - 1 = ((ts.length - 1 : Nat) : Int) := by omega
  rw [e1]
  refine VB.d (ix_tw (k := ts.length - 1) (by omega)) ?_
  fail "w"
  refine Ends.rn (f43 21 hd (hok.all _ (gT_mem (by omega))) (hok.all _ (gT_mem (by omega))) (hts _ (gT_mem (by omega))).2 hq []) ?_
  rintro _ _ ⟨q, hq, rfl, rfl⟩
  fail "w"
  have h5 := hok.len2
  with_reducible refine zs_for ts tw (fun l ρ S => ∃ (hs : List Rw) (q : Int) (u v : Option Vl), 0 ≤ q ∧ S = at_ q [⟨true, .lst (hs.map rw_)⟩] ∧ hs.length + l.length = ts.length ∧ (∀ h ∈ hs, 0 ≤ h.1 ∧ h.1 < h.2 ∧ h.2 ≤ 1440) ∧ ρ = [some (.d (.list (ns.map .int))), some (.d (li ds)), some (.loc 0), some (.d (twT ts)), some (.loc 1), u, none, none, none, none, none, none, none, none, v, none, none, none, none, none, none, none, none, none, none, none]) ?_ ?_ ?_ ?_
  · fail "w"
    exact ⟨_, rfl, rfl⟩
  · exact ⟨[], q, none, none, hq, rfl, by simp, by simp, rfl⟩
  · rintro t l ρ S ⟨hs, q, u, v, hq, rfl, hhl, hhs, rfl⟩
    simp only [List.length_cons] at hhl
    refine ⟨_, put_nm _ _ _, ?_⟩
    fail "w"
    refine c_take hd (by omega) (by omega) fun v v0 v1 => ?_
    fail "w"
    with_reducible refine c_oneI 0 1439 hd (by omega) (by simp) ?_ fun low l0 l1 => ?_
    · simp only [List.all_cons, List.all_nil, inR, Bool.and_true, Bool.and_eq_true, decide_eq_true_eq]
      omega
    fail "w"
    refine zs_app (n := 1) (ys0 := hs.map rw_) rfl rfl ?_
    fail "w"
    with_reducible refine c_oneI 60 1440 hd (by omega) (by simp) rfl fun m m0 m1 => ?_
    fail "w"
    refine c_take hd (by omega) (by omega) fun w w0 w1 => ?_
    fail "w"
    refine VB.d rfl ?_
    fail "w"
    refine ⟨hs.map rw_, rfl, by rw [List.length_map]; omega, ?_⟩
    fail "w"
    refine ⟨hs ++ [(low, if low + 1 + w < 1440 then low + 1 + w else 1440)], q + 1 + 1 + 1 + 1, _, _, by omega, by rw [List.map_append]; rfl, ?_, ?_, rfl⟩
    · simp only [List.length_append, List.length_cons, List.length_nil]; omega
    · intro h hh
      rcases List.mem_append.mp hh with hh | hh
      · exact hhs h hh
      · rw [List.mem_singleton.mp hh]
        simp only
        split <;> omega
  rintro _ _ ⟨hs, q, u, v, hq, rfl, hhl, hhs, rfl⟩
  have hh : OkHs ts.length hs := ⟨by simpa using hhl, hhs⟩
  clear hhl hhs
  fail "w"
  refine V1.l (c := ⟨true, .lst (hs.map rw_)⟩) rfl (u1_tupl _) ?_
  fail "w"
  refine c_take hd (by omega) (by omega) fun b b0 b1 => ?_
  fail "w"
  refine c_take hd (by omega) (by omega) fun n n0 n1 => ?_
  obtain ⟨n, rfl⟩ := Int.eq_ofNat_of_zero_le n0
  fail "w"
  have en : (1 : Int) + (n : Int) = ((n + 1 : Nat) : Int) := by omega
  rw [en]
  have hn : 1 ≤ n + 1 ∧ n + 1 ≤ 160 := by omega
  have hb : -500 ≤ b - 500 ∧ b - 500 ≤ 2500 := by omega
  clear en n1
  generalize n + 1 = n at *
  generalize b - 500 = b at *
  generalize ([⟨true, .lst (hs.map rw_)⟩] : Sto) = Z at *
  fail "w"
  with_reducible refine zw_lc (List.range n) (fun (j : Nat) => .int (b + (j : Int))) (fun j => .list (nL (aslp ts hs (b + (j : Int))))) ?_ ?_ (fun j hj => ⟨_, put_nm _ _ _, ?_⟩) ?_
  · fail "w"
    exact ⟨b, n, rfl, rfl, by omega, by omega, rfl⟩
  · simp only [cap, List.length_range]; omega
  · fail "w"
    exact Run.of (f38 27 hh.len (by omega) _ _) ⟨rfl, rfl⟩
  fail "w"
  with_reducible refine zw_lcF (List.range n) (fun (j : Nat) => .int (j : Int)) (fun (j : Nat) => decide (aslp ts hs (b + (j : Int)) = [])) (fun (j : Nat) => .int (b + (j : Int))) ?_ ?_ (fun j hj => ⟨_, put_nm _ _ _, ?_, fun _ => ?_⟩) ?_
  · fail "w"
    exact ⟨n, rfl, by omega, rfl⟩
  · simp only [cap, List.length_range]; omega
  · fail "w"
    refine VB.d (ix_rng _ (List.mem_range.mp hj)) ?_
    fail "w"
    refine VB.d (D_of (eq_nil (fl_nL _))) ?_
    fail "w"
    simp
  · fail "w"
  have ewk : (((List.range n).filter fun (j : Nat) => decide (aslp ts hs (b + (j : Int)) = [])).map fun (j : Nat) => PyData.int (b + (j : Int))) = iL (wk ts hs b n) := by
    simp only [wk, iL, List.map_map]; rfl
  rw [ewk]
  clear ewk
  fail "w"
  with_reducible refine zw_lc (List.range n) (fun (j : Nat) => .list (nL (aslp ts hs (b + (j : Int))))) (fun j => .int (awN ts hs b j : Nat)) ?_ ?_ (fun j hj => ⟨_, put_nm _ _ _, ?_⟩) ?_
  · fail "w"
    exact ⟨_, rfl, rfl⟩
  · simp only [cap, List.length_range]; omega
  · fail "w"
    have := aslp_len ts hs (b + (j : Int))
    have e : (ts.length : Int) - ((aslp ts hs (b + (j : Int))).length : Int) = ((awN ts hs b j : Nat) : Int) := by unfold awN; omega
    rw [e]
    all_goals exact ⟨rfl, rfl⟩
  fail "v"
  have e9 : PyData.list ((List.range n).map fun j => PyData.int (awN ts hs b j : Nat)) = .list (nL ((List.range n).map (awN ts hs b))) := by
    simp only [nL, List.map_map]; rfl
  rw [e9]
  clear e9
  with_reducible refine zw_is (.d (frR ts hs b n)) ?_ ?_
  · with_reducible refine zw_ite ?_
    fail "w"
    refine VB.d (D_of (ne_nil fun x hx => ?_)) ?_
    · obtain ⟨i, _, rfl⟩ := List.mem_map.mp hx
      exact flat_int i
    fail "w"
    cases hw : wk ts hs b n with
    | nil =>
      refine ⟨fun h => by simp at h, fun _ => ?_⟩
      fail "w"
      rw [frR_bar hw]
      with_reducible refine zw_lc (List.range n) (fun (j : Nat) => .list (nL (aslp ts hs (b + (j : Int))))) (fun j => .int ((aslp ts hs (b + (j : Int))).getD 0 0 : Nat)) ?_ ?_ (fun j hj => ⟨_, put_nm _ _ _, ?_⟩) ?_
      · fail "w"
        exact ⟨_, rfl, rfl⟩
      · simp only [cap, List.length_range]; omega
      · fail "w"
        have := wk_nil.mp hw j (List.mem_range.mp hj)
        cases ha : aslp ts hs (b + (j : Int)) with
        | nil => exact absurd ha this
        | cons o r => exact VB.d (lx0 _ _) ⟨rfl, rfl⟩
      fail "w"
      simp only [headsA, nL, List.map_map]
      rfl
    | cons w r =>
      refine ⟨fun _ => ?_, fun h => by simp at h⟩
      fail "w"
      refine VB.d (lx0 _ _) ?_
      fail "w"
      rw [frR_first hw]
  fail "w"
  have hwl := wk_len ts hs b n
  refine Run.of (f39 28 _ (by omega) _) ?_
  fail "v"
  obtain ⟨m, i, hB0, hmx, hix⟩ := best_nL (l := (List.range n).map (awN ts hs b)) (by intro e; have := congrArg List.length e; simp at this; omega)
  have hB : P27.Best (awN ts hs b) n m i := by
    rw [List.length_map, List.length_range] at hB0
    refine hB0.congr fun x hx => ?_
    rw [List.getD_eq_getElem?_getD, List.getElem?_map, List.getElem?_range hx]
    rfl
  refine V1.d hmx ?_
  fail "v"
  refine ⟨⟨_, rfl⟩, ?_⟩
  fail "v"
  have hbb : -2000000 ≤ b ∧ b ≤ 2000000 := by omega
  have hnn : 1 ≤ n ∧ n ≤ 3000 := by omega
  have g5 : Gd (.list [.tuple ((rowsOf (wk ts hs b n)).map rw_), .tuple [.int (m : Int), .int (b + (i : Int))], frR ts hs b n]) 3 200000 := by
    have hm5 : m ≤ 5 := by
      have := hB.eq
      unfold awN at this
      omega
    have hi := hB.lt
    have hrl := rowsOf_len (wk ts hs b n)
    refine gd_l (e := 2) (m := 40000) (gd_c (gd_t (e := 1) (m := 100) (gd_mp fun r hr => ?_) (by omega) ?_) (gd_c (gd_t (e := 0) (m := 40) (gd_c (gd_in (by omega) (by omega)) (gd_c (gd_in (by omega) (by omega)) gd_z)) (by omega) (by simp)) (gd_c ((gd_frR h5 hs hb hn.2).up (by omega) (by omega)) gd_z))) (by omega) (by simp)
    · have := rowsOf_bd b (b + n) (wk ts hs b n) (fun x hx => wk_bd hx) r hr
      exact gd_t (e := 0) (m := 40) (gd_c (gd_in (by omega) (by omega)) (gd_c (gd_in (by omega) (by omega)) gd_z)) (by omega) (by simp)
    · rw [List.length_map]; omega
  have h27 := fun S => f27 22 hok hh hbb hnn (toldF_frR ts hs b hn.2) S
  rw [vf_frR] at h27
  with_reducible refine zs_if false ?_ (fun h => by cases h) (fun _ => ?_)
  · fail "w"
    with_reducible refine zw_lc ([8, 9, 10] : List Int) .int (fun c => if c = 8 then .tuple ((rowsOf (wk ts hs b n)).map rw_) else if c = 9 then .tuple [.int (m : Int), .int (b + (i : Int))] else frR ts hs b n) ?_ ?_ (fun c hc => ⟨_, put_nm _ _ _, ?_⟩) ?_
    · fail "w"
      exact ⟨_, rfl, rfl⟩
    · simp only [cap, List.length_cons, List.length_nil]; omega
    · fail "w"
      simp only [List.mem_cons, List.not_mem_nil, or_false] at hc
      rcases hc with rfl | rfl | rfl
      · exact c_tk (t8 28 (f25 22 hok hh hbb hnn _)) ⟨rfl, rfl⟩
      · exact c_tk (t9 28 (f28 22 hok hh hbb hnn hB _)) ⟨rfl, rfl⟩
      · exact c_tk (t10 28 (f26 22 hok hh hbb hnn _)) ⟨rfl, rfl⟩
    have e3 : ([8, 9, 10] : List Int).map (fun c => if c = 8 then PyData.tuple ((rowsOf (wk ts hs b n)).map rw_) else if c = 9 then .tuple [.int (m : Int), .int (b + (i : Int))] else frR ts hs b n) = [.tuple ((rowsOf (wk ts hs b n)).map rw_), .tuple [.int (m : Int), .int (b + (i : Int))], frR ts hs b n] := rfl
    rw [e3]
    with_reducible refine V1.rep g5 ?_ ?_ ?_
    · decide
    · decide
    fail "w"
    with_reducible refine V1.rep g5 ?_ ?_ ?_
    · decide
    · decide
    with_reducible refine VB.same g5 ?_
    fail "w"
    refine c_tk (t11 28 (h27 _)) ?_
    fail "w"
    rfl
  fail "v"
  clear g5 hB hB0 hmx hix
  with_reducible refine zs_forN 8 (fun (j : Nat) => .int (j : Int)) (fun _ ρ S => ∃ (q : Int) (u11 u17 u18 u19 u20 u23 : Option Vl), 0 ≤ q ∧ S = at_ q Z ∧ ρ = [some (.d (.list (ns.map .int))), some (.d (li ds)), some (.loc 0), some (.d (twT ts)), some (.d (hrT hs)), u, some (.d (.list ((List.range n).map fun (j : Nat) => .list (nL (aslp ts hs (b + (j : Int))))))), some (.d (.list (iL (wk ts hs b n)))), some (.d (.list (nL ((List.range n).map (awN ts hs b))))), some (.d (frR ts hs b n)), some (.d (.list [.tuple ((rowsOf (wk ts hs b n)).map rw_), .tuple [.int (m : Int), .int (b + (i : Int))], frR ts hs b n])), u11, none, none, v, some (.d (.int b)), some (.d (.int (n : Int))), u17, u18, u19, u20, none, none, u23, none, none]) ?_ ?_ ?_ ?_
  · fail "w"
    exact ⟨8, rfl, by decide, rfl⟩
  · exact ⟨q + 1 + 1, none, none, none, none, none, none, by omega, rfl, rfl⟩
  · rintro j ρ S _ ⟨q, u11, u17, u18, u19, u20, u23, hq, rfl, rfl⟩
    refine ⟨_, put_nm _ _ _, ?_⟩
    fail "v"
    with_reducible refine c_take hd hq (by omega) fun kk k0 k1 => ?_
    obtain ⟨kk, rfl⟩ := Int.eq_ofNat_of_zero_le k0
    have hkk : kk < n := by omega
    obtain ⟨w0, x0, hfr, ix_0, ix_1⟩ : ∃ w0 x0, frR ts hs b n = .tuple [.str w0, x0] ∧ index (frR ts hs b n) (.int 0) = some (.str w0) ∧ index (frR ts hs b n) (.int 1) = some x0 := by
      rcases frR_form ts hs b n with ⟨i, _, _, e⟩ | ⟨_, e⟩ <;> rw [e] <;> exact ⟨_, _, rfl, ix0 _ _, ix1 _ _ _⟩
    fail "v"
    refine VB.d (mul_l3 _) ?_
    fail "v"
    with_reducible refine VB.cat ?_ ?_
    · simp [cap]
    fail "v"
    with_reducible refine zs_mid (fun ρ S => ∃ (near : List PyData) (q : Int) (u23 : Option Vl), 0 ≤ q ∧ S = at_ q Z ∧ near ≠ [] ∧ (∀ x ∈ near, ToldF x) ∧ ρ = [some (.d (.list (ns.map .int))), some (.d (li ds)), some (.loc 0), some (.d (twT ts)), some (.d (hrT hs)), u, some (.d (.list ((List.range n).map fun (j : Nat) => .list (nL (aslp ts hs (b + (j : Int))))))), some (.d (.list (iL (wk ts hs b n)))), some (.d (.list (nL ((List.range n).map (awN ts hs b))))), some (.d (frR ts hs b n)), some (.d (.list [.tuple ((rowsOf (wk ts hs b n)).map rw_), .tuple [.int (m : Int), .int (b + (i : Int))], frR ts hs b n])), some (.d (.int (j : Int))), none, none, v, some (.d (.int b)), some (.d (.int (n : Int))), some (.d (.int (kk : Int))), some (.d (.list near)), u19, u20, none, none, u23, none, none]) ?_ ?_
    · have hT := toldF_frR ts hs b hn.2
      have hnear : ∀ x ∈ nearL b kk n w0 x0 (frR ts hs b n), ToldF x := by
        intro x hx
        simp only [nearL, List.mem_cons, List.not_mem_nil, or_false] at hx
        rcases hx with rfl | rfl | rfl | rfl | rfl | rfl | rfl | rfl | rfl | rfl | rfl
        · exact .firstI _
        · exact .firstI _
        · exact .firstI _
        · exact .firstI _
        · exact .firstB _
        · exact .one _
        · exact .none
        · exact .tru _
        · exact .odd _
        · exact .barT [] (by simp) (fun y hy => by cases hy)
        · exact hT
      rcases frR_form ts hs b n with ⟨fi, _, _, e⟩ | ⟨hw, e⟩
      · have e0 : w0 = "first" := by rw [e] at hfr; cases hfr; rfl
        subst e0
        fail "w"
        refine VB.d (D_of (show cmpop .eq (.str "first") (.str "barred") = some false by decide +kernel)) ?_
        fail "w"
        exact ⟨_, rfl, nearL b kk n "first" x0 (frR ts hs b n), q + 1, u23, by omega, rfl, by simp [nearL], hnear, rfl⟩
      · have e0 : w0 = "barred" ∧ x0 = .tuple (nL (headsA ts hs b n)) := by rw [e] at hfr; cases hfr; exact ⟨rfl, rfl⟩
        obtain ⟨rfl, rfl⟩ := e0
        fail "w"
        refine VB.d (D_of (show cmpop .eq (.str "barred") (.str "barred") = some true by decide +kernel)) ?_
        fail "w"
        with_reducible refine c_take hd (by omega) (by omega) fun k2 k20 k21 => ?_
        fail "w"
        refine VB.d (ix_rng _ hkk) ?_
        fail "w"
        with_reducible refine c_one hd (by omega) ?_ fun x2 hx2 => ?_
        · have := wk_nil.mp hw kk hkk
          simpa using this
        fail "w"
        with_reducible refine c_oneP flat hd (by omega) (by simp) ?_ fun od hod => ?_
        · intro x hx
          simp only [List.mem_cons, List.not_mem_nil, or_false] at hx
          rcases hx with rfl | rfl | rfl | rfl | rfl
          · exact flat_int _
          · exact flat_int _
          · exact flat_none
          · exact flat_bool _
          · exact fl_nL _ _ hx2
        fail "w"
        have hlen := headsA_len ts hs b n
        refine V1.sl (slice_to _ kk (by rw [List.length_map]; omega)) ?_
        fail "w"
        with_reducible refine VB.catT ?_ ?_
        · simp only [List.length_take, List.length_map, List.length_cons, List.length_nil, cap]; omega
        fail "w"
        have e1 : (kk : Int) + 1 = ((kk + 1 : Nat) : Int) := by omega
        rw [e1]
        refine V1.sl (slice_from _ (kk + 1) (by rw [List.length_map]; omega)) ?_
        with_reducible refine VB.catT ?_ ?_
        · simp only [List.length_take, List.length_drop, List.length_append, List.length_map, List.length_cons, List.length_nil, cap]; omega
        fail "w"
        refine VB.d (mul_l1 _) ?_
        with_reducible refine VB.cat ?_ ?_
        · simp [cap]
        fail "w"
        obtain ⟨T, hT2⟩ : ∃ T : PyData, T = .tuple [.str "barred", .tuple (List.take kk (nL (headsA ts hs b n)) ++ [od] ++ List.drop (kk + 1) (nL (headsA ts hs b n)))] := ⟨_, rfl⟩
        refine ⟨_, rfl, nearL b kk n "barred" (.tuple (nL (headsA ts hs b n))) (frR ts hs b n) ++ [T, T, T, T, T, T, T, T], _, _, ?_, rfl, ?_, ?_, by rw [hT2]; rfl⟩
        · omega
        · simp
        · have ht2 : ToldF T := by
            rw [hT2]
            refine .barT _ ?_ fun y hy => ?_
            · simp only [List.length_take, List.length_drop, List.length_append, List.length_map, List.length_cons, List.length_nil]; omega
            · rcases List.mem_append.mp hy with hy | hy
              · rcases List.mem_append.mp hy with hy | hy
                · exact fl_nL _ _ (List.mem_of_mem_take hy)
                · rw [List.mem_singleton.mp hy]; exact hod
              · exact fl_nL _ _ (List.mem_of_mem_drop hy)
          intro x hx
          rcases List.mem_append.mp hx with hx | hx
          · exact hnear x hx
          · simp only [List.mem_cons, List.not_mem_nil, or_false, or_self] at hx
            rw [hx]; exact ht2
    rintro _ _ ⟨near, q, u23, hq, rfl, hne, hnear, rfl⟩
    fail "v"
    with_reducible refine c_oneP ToldF hd hq hne hnear fun x hx => ?_
    fail "v"
    refine Run.of (f40 26 hok hh hbb hnn hx _) ?_
    fail "v"
    obtain ⟨z, ez, mz, hgz, hez, ecall, hz⟩ := agree 22 hok hh hbb hnn hx (at_ (q + 1) Z)
    with_reducible refine zs_if false ?_ (fun h => by cases h) (fun _ => ?_)
    · fail "w"
      refine Run.of ecall ?_
      fail "w"
      rcases hz with ⟨h1, rfl⟩ | ⟨h1, rfl⟩ <;> rw [h1]
      · fail "w"
        refine VB.d (D_neG hgz hez) ?_
        fail "w"
      · fail "w"
        refine VB.d (D_neG hgz hez) ?_
        fail "w"
    fail "w"
    exact ⟨_, _, _, _, _, _, _, by omega, rfl, rfl⟩
  rintro _ _ ⟨q, u11, u17, u18, u19, u20, u23, hq, rfl, rfl⟩
  fail "v"
  refine V1.sl (slice_to _ 1 (by rw [List.length_map]; omega)) ?_
  with_reducible refine VB.catT ?_ ?_
  · simp only [List.length_take, List.length_map, cap]; omega
  fail "w"
  with_reducible refine c_oneP (fun x => ∀ S, callAt fns W 26 21 [.d x] S = .ok (.bool false) S) hd hq (by simp) ?_ fun bad hbad => ?_
  · intro x hx
    simp only [List.mem_cons, List.not_mem_nil, or_false] at hx
    rcases hx with rfl | rfl | rfl | rfl | rfl
    · exact f21n 22
    · exact f21i 22 5
    · exact f21e 22
    · cases ts with
      | nil => simp at hn1
      | cons t tr =>
        intro S
        have := f21d 22 hok S
        simp only [twT, twL, List.map_append, List.map_cons, List.map_nil, List.cons_append] at this
        simpa using this
    · exact f21o 22
  fail "w"
  have hhl := hh.len
  refine V1.sl (slice_to _ 1 (by rw [List.length_map]; omega)) ?_
  with_reducible refine VB.catT ?_ ?_
  · simp only [List.length_take, List.length_map, cap]; omega
  fail "w"
  refine VB.d (mul_t (by simp) (by simp) hn1 (by omega)) ?_
  fail "w"
  refine VB.d (mul_t (by simp) (by simp) hn1 (by omega)) ?_
  fail "w"
  refine VB.d (mul_t (by simp) (by simp) hn1 (by omega)) ?_
  fail "w"
  rw [rep_one, rep_one, rep_one]
  with_reducible refine c_oneP (fun x => okHr ts.length x = false) hd (by omega) (by simp) ?_ fun wr hwr => ?_
  · intro x hx
    simp only [List.mem_cons, List.not_mem_nil, or_false] at hx
    rcases hx with rfl | rfl | rfl | rfl | rfl | rfl | rfl
    · rfl
    · rfl
    · simp [okHr]; omega
    · simp [okHr]; omega
    · exact okHr_rep hn1 (by simp [isHr])
    · exact okHr_rep hn1 (by simp [isHr, inR])
    · exact okHr_rep hn1 rfl
  fail "v"
  with_reducible refine zs_ite ?_
  fail "v"
  with_reducible refine zw_lc ([8, 9, 10, 11] : List Int) .int (fun _ => arg (.str "towns")) ?_ ?_ (fun c hc => ⟨_, put_nm _ _ _, ?_⟩) ?_
  · fail "w"
    exact ⟨_, rfl, rfl⟩
  · simp only [cap, List.length_cons, List.length_nil]; omega
  · fail "w"
    simp only [List.mem_cons, List.not_mem_nil, or_false] at hc
    rcases hc with rfl | rfl | rfl | rfl
    · exact Run.of (t8b 28 (f25x 22 hbad _ _ _ _)) ⟨rfl, rfl⟩
    · exact Run.of (t9b 28 (f28x 22 hbad _ _ _ _)) ⟨rfl, rfl⟩
    · exact Run.of (t10b 28 (f26x 22 hbad _ _ _ _)) ⟨rfl, rfl⟩
    · exact Run.of (t11b 28 (f27x 22 hbad _ _ _ _ _)) ⟨rfl, rfl⟩
  have e4 : ([8, 9, 10, 11] : List Int).map (fun _ => arg (.str "towns")) = [arg (.str "towns"), arg (.str "towns"), arg (.str "towns"), arg (.str "towns")] := rfl
  rw [e4]
  clear e4
  fail "w"
  refine VB.d (mul_l4 _) ?_
  refine VB.d (D_neG (gd_arg4 "towns" (by decide +kernel)) (by decide)) ?_
  fail "w"
  with_reducible refine zw_lc ([8, 9, 10, 11] : List Int) .int (fun _ => arg (.str "hours")) ?_ ?_ (fun c hc => ⟨_, put_nm _ _ _, ?_⟩) ?_
  · fail "w"
    exact ⟨_, rfl, rfl⟩
  · simp only [cap, List.length_cons, List.length_nil]; omega
  · fail "w"
    simp only [List.mem_cons, List.not_mem_nil, or_false] at hc
    rcases hc with rfl | rfl | rfl | rfl
    · exact Run.of (t8b 28 (f25y 22 hok hwr _ _ _)) ⟨rfl, rfl⟩
    · exact Run.of (t9b 28 (f28y 22 hok hwr _ _ _)) ⟨rfl, rfl⟩
    · exact Run.of (t10b 28 (f26y 22 hok hwr _ _ _)) ⟨rfl, rfl⟩
    · exact Run.of (t11b 28 (f27y 22 hok hwr _ _ _ _)) ⟨rfl, rfl⟩
  have e4 : ([8, 9, 10, 11] : List Int).map (fun _ => arg (.str "hours")) = [arg (.str "hours"), arg (.str "hours"), arg (.str "hours"), arg (.str "hours")] := rfl
  rw [e4]
  clear e4
  fail "w"
  refine VB.d (mul_l4 _) ?_
  refine VB.d (D_neG (gd_arg4 "hours" (by decide +kernel)) (by decide)) ?_
  fail "w"
  with_reducible refine zw_lcI ([8, 9, 10, 11] : List Int) .int (fun l acc S => ∃ q, 0 ≤ q ∧ S = at_ q Z ∧ (∀ c ∈ l, c ∈ ([8, 9, 10, 11] : List Int)) ∧ acc ++ l.map (fun _ => arg (.str "begin")) = [arg (.str "begin"), arg (.str "begin"), arg (.str "begin"), arg (.str "begin")]) ?_ ?_ ?_ ?_
  · fail "w"
    refine ⟨_, rfl, rfl, _, ?_, rfl, fun c hc => hc, rfl⟩
    omega
  · simp only [cap, List.length_cons, List.length_nil]; omega
  · rintro c l acc S ⟨q, hq, rfl, hc, ha⟩
    refine ⟨_, put_nm _ _ _, ?_⟩
    fail "w"
    with_reducible refine c_oneP (fun x => inR (-2000000) 2000000 x = false) hd (by omega) (by simp) ?_ fun dd hdd => ?_
    · intro x hx
      simp only [List.mem_cons, List.not_mem_nil, or_false] at hx
      rcases hx with rfl | rfl | rfl <;> rfl
    fail "w"
    have fin_ : ∃ q', 0 ≤ q' ∧ at_ (q + 1) Z = at_ q' Z ∧ (∀ c ∈ l, c ∈ ([8, 9, 10, 11] : List Int)) ∧ (acc ++ [arg (.str "begin")]) ++ l.map (fun _ => arg (.str "begin")) = [arg (.str "begin"), arg (.str "begin"), arg (.str "begin"), arg (.str "begin")] :=
      ⟨q + 1, by omega, rfl, fun c hc' => hc c (List.mem_cons_of_mem _ hc'), by rw [List.append_assoc]; exact ha⟩
    have hc0 := hc c List.mem_cons_self
    simp only [List.mem_cons, List.not_mem_nil, or_false] at hc0
    rcases hc0 with rfl | rfl | rfl | rfl
    · exact Run.of (t8b 28 (f25z 22 hok hh hdd _ _)) ⟨_, rfl, fin_⟩
    · exact Run.of (t9b 28 (f28z 22 hok hh hdd _ _)) ⟨_, rfl, fin_⟩
    · exact Run.of (t10b 28 (f26z 22 hok hh hdd _ _)) ⟨_, rfl, fin_⟩
    · exact Run.of (t11b 28 (f27z 22 hok hh hdd _ _ _)) ⟨_, rfl, fin_⟩
  rintro ys S' ⟨q, hq, rfl, _, ha⟩
  rw [List.map_nil, List.append_nil] at ha
  subst ha
  fail "w"
  refine VB.d (mul_l4 _) ?_
  refine VB.d (D_neG (gd_arg4 "begin" (by decide +kernel)) (by decide)) ?_
  fail "w"
  with_reducible refine zw_lcI ([8, 9, 10, 11] : List Int) .int (fun l acc S => ∃ q, 0 ≤ q ∧ S = at_ q Z ∧ (∀ c ∈ l, c ∈ ([8, 9, 10, 11] : List Int)) ∧ acc ++ l.map (fun _ => arg (.str "length")) = [arg (.str "length"), arg (.str "length"), arg (.str "length"), arg (.str "length")]) ?_ ?_ ?_ ?_
  · fail "w"
    refine ⟨_, rfl, rfl, _, ?_, rfl, fun c hc => hc, rfl⟩
    omega
  · simp only [cap, List.length_cons, List.length_nil]; omega
  · rintro c l acc S ⟨q, hq, rfl, hc, ha⟩
    refine ⟨_, put_nm _ _ _, ?_⟩
    fail "w"
    with_reducible refine c_oneP (fun x => inR 1 3000 x = false) hd (by omega) (by simp) ?_ fun dd hdd => ?_
    · intro x hx
      simp only [List.mem_cons, List.not_mem_nil, or_false] at hx
      rcases hx with rfl | rfl | rfl <;> rfl
    fail "w"
    have fin_ : ∃ q', 0 ≤ q' ∧ at_ (q + 1) Z = at_ q' Z ∧ (∀ c ∈ l, c ∈ ([8, 9, 10, 11] : List Int)) ∧ (acc ++ [arg (.str "length")]) ++ l.map (fun _ => arg (.str "length")) = [arg (.str "length"), arg (.str "length"), arg (.str "length"), arg (.str "length")] :=
      ⟨q + 1, by omega, rfl, fun c hc' => hc c (List.mem_cons_of_mem _ hc'), by rw [List.append_assoc]; exact ha⟩
    have hc0 := hc c List.mem_cons_self
    simp only [List.mem_cons, List.not_mem_nil, or_false] at hc0
    rcases hc0 with rfl | rfl | rfl | rfl
    · exact Run.of (t8b 28 (f25w 22 hok hh hbb hdd _)) ⟨_, rfl, fin_⟩
    · exact Run.of (t9b 28 (f28w 22 hok hh hbb hdd _)) ⟨_, rfl, fin_⟩
    · exact Run.of (t10b 28 (f26w 22 hok hh hbb hdd _)) ⟨_, rfl, fin_⟩
    · exact Run.of (t11b 28 (f27w 22 hok hh hbb hdd _ _)) ⟨_, rfl, fin_⟩
  rintro ys S' ⟨q, hq, rfl, _, ha⟩
  rw [List.map_nil, List.append_nil] at ha
  subst ha
  fail "w"
  refine VB.d (mul_l4 _) ?_
  refine VB.d (D_eqG (gd_arg4 "length" (by decide +kernel)) (by decide)) ?_
  fail "w"
  done
end M29
/-! part Z29 -/
set_option Elab.async false
set_option linter.all false
set_option maxRecDepth 100000
set_option maxHeartbeats 0
open PySem PySem.W PySem.Calls PyProof.Rows
theorem law_ok (ns : List Int) (hl : ns.length ≤ 63) (_ : ∀ z ∈ ns, Builtin.Int.intBits z ≤ 1048576) : ∃ S, In.callAt Tx.fns Tx.W 30 44 [.d (.list (ns.map .int))] [] = .ok (.bool true) S := M29.law_ok ns hl
theorem PySem.Challenge.cw_timewrought_k29_whole_clocks_of_towns_holds : PySem.Challenge.rw_timewrought_k29_whole_clocks_of_towns.Holds := by
  w_on; o_law
  refine HandSHeadRun.head_any (r := Tx.R) (q := view Tx.R.prog [58]) (H := Tx.hk) (ob := Tx.ob) (M := 6000) (loose := Tx.loose) (d := HandSHeadRun.topDef Tx.R.prog 58) (kwd := []) Tx.ob_eq
    (by kernel_rfl) (fun s => by kernel_rfl) Tx.run (by kernel_rfl) (by kernel_rfl) (by kernel_rfl) (by rfl) (by first | assumption | decide +kernel) (by decide +kernel) ⟨rfl, rfl, rfl, rfl, rfl, by decide +kernel⟩ ?hw ?hc
  case hw => w_witness2
  case hc =>
    refine In.walk_in (l := PySem.Challenge.rw_timewrought_k29_whole_clocks_of_towns) (n := 63) (k := 30) (W := Tx.W) (G := Tx.G) (fns := Tx.fns) (D := ⟨44, 1, []⟩) rfl (by decide) (by kernel_rfl) ⟨⟨rfl, by decide, by decide⟩, rfl⟩ (by kernel_rfl) rfl rfl ?F law_ok
    intro w mg fa h Y G hmg0
    obtain ⟨K, KX, c⟩ := Y
    exact ⟨K, KX, c.nol, fun base X Gn => c.wd0 X Gn, Tx.defs KX G c⟩
